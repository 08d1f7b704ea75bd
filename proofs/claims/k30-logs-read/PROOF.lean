import PyProof.Rows.All
import Wide.All
import OpenK.AllK
import Wide.FinOn
import KE.KStateDown
import HandS.ForMost
import HandS.ForExc
import HandS.Wide
import HandS.Deep
import HandS.IsInst
import HandS.TupAny
import HandS.Defaults
import HandS.CallSlots
import HandS.HeadHook2
import HandS.Steps
import HandS.TupLe
import HandS.SortInts
import HandS.TupLen
import HandS.ExcOwn
import HandS.Iter
import HandS.HeadEnd
import HandS.Style
import HandS.TupSets
import HandS.RevTup
import HandS.Rev
import KE.SortKeyHeap
import HandS.SetFor
import KE.DataMinMax
import HandS.StrMore
import HandS.Strs
import HandS.EndBits
import HandS.ReplaceLit
import HandS.ReplaceList
import HandS.Head0
import HandS.Head1
import HandS.Head2
import HandS.HeadHook1
import PySem.Challenge.RW_pairwarden_k30_logs_read
set_option Elab.async false
set_option linter.all false
set_option maxRecDepth 100000
set_option maxHeartbeats 0
namespace ZL
open PySem PySem.Spec PyProof.Rows L2

/-! ### values as data -/
inductive D where
  | non | bl (b : Bool) | int (i : Int) | str (s : Str)
  | lst (ds : List D) | tup (ds : List D) | scr (ns : List Int)
  | obj (c : String) (fs : List String) (ds : List D) | slf (c : String) (fs : List String) (ds : List D)
  | ty (n : String) | cls (c : String)
  | dK (ks : List Key) (ds : List D) | dT (ks : List (List Key)) (ds : List D)

/-- what of a value is owned by its holder: nothing; a list, its items of a kind; a dict; an instance in the making -/
inductive Kd where
  | sh | ls (k : Kd) | dk | dt | ob (a : Addr) | t2 (k l : Kd)
  deriving DecidableEq

mutual
/-- v, read in the heap A, is the datum d -/
def Shr (K : PySem.W.Frag) (mg : Str → Option Value) (A : Hp) : V → D → Prop
  | v, .non => v = .non
  | v, .bl b => v = .bl b
  | v, .int i => v = .int i
  | v, .str s => v = .str s
  | v, .lst ds => ∃ a vs, v = .ref a ∧ A a = some (.lst vs) ∧ ShrL K mg A vs ds
  | v, .tup ds => ∃ a vs, v = .ref a ∧ A a = some (.tup vs) ∧ ShrL K mg A vs ds
  | v, .scr ns => ∃ a, v = .ref a ∧ SqL K A a (ns.map V.int)
  | v, .ty n => v = .ty n
  | v, .cls c => ∃ C, v = .ref C ∧ mg (Str.ofString c) = some (.ref C)
  | v, .obj c fs ds => ∃ a C dx fv, v = .ref a ∧ mg (Str.ofString c) = some (.ref C) ∧ A a = some (.ins C dx fv) ∧ A dx = some (.own a) ∧ fv.map (·.1) = fs.map Str.ofString ∧ ShrL K mg A (fv.map (·.2)) ds
  | v, .slf c fs ds => ∃ a C dx fv, v = .ref a ∧ mg (Str.ofString c) = some (.ref C) ∧ A a = some (.ins C dx fv) ∧ fv.map (·.1) = fs.map Str.ofString ∧ ShrL K mg A (fv.map (·.2)) ds
  | v, .dK ks ds => ∃ a kv, v = .ref a ∧ A a = some (.dK kv) ∧ kv.map (·.1) = ks ∧ ShrL K mg A (kv.map (·.2)) ds
  | v, .dT ks ds => ∃ a kv, v = .ref a ∧ A a = some (.dT kv) ∧ kv.map (·.1) = ks ∧ ShrL K mg A (kv.map (·.2)) ds
def ShrL (K : PySem.W.Frag) (mg : Str → Option Value) (A : Hp) : List V → List D → Prop
  | [], [] => True
  | v :: vs, d :: ds => Shr K mg A v d ∧ ShrL K mg A vs ds
  | _, _ => False
end
def OwnL (P : V → D → List Addr → Prop) : List V → List D → List Addr → Prop
  | [], [], fp => fp = []
  | v :: vs, d :: ds, fp => ∃ f1 f2, P v d f1 ∧ OwnL P vs ds f2 ∧ fp = f1 ++ f2
  | _, _, _ => False
/-- v is d, its holder owning it by the kind; fp: the addresses owned -/
def Own (K : PySem.W.Frag) (mg : Str → Option Value) (A H : Hp) : Kd → V → D → List Addr → Prop
  | .sh, v, d, fp => Shr K mg A v d ∧ fp = []
  | .ls k, v, d, fp => ∃ a vs ds f, v = .ref a ∧ d = .lst ds ∧ H a = some (.lst vs) ∧ OwnL (Own K mg A H k) vs ds f ∧ fp = a :: f
  | .t2 k l, v, d, fp => ∃ a v1 v2 d1 d2 f1 f2, v = .ref a ∧ d = .tup [d1, d2] ∧ A a = some (.tup [v1, v2]) ∧ Own K mg A H k v1 d1 f1 ∧ Own K mg A H l v2 d2 f2 ∧ fp = f1 ++ f2
  | .dk, v, d, fp => ∃ a kv ks ds, v = .ref a ∧ d = .dK ks ds ∧ H a = some (.dK kv) ∧ kv.map (·.1) = ks ∧ ShrL K mg A (kv.map (·.2)) ds ∧ fp = [a]
  | .dt, v, d, fp => ∃ a kv ks ds, v = .ref a ∧ d = .dT ks ds ∧ H a = some (.dT kv) ∧ kv.map (·.1) = ks ∧ ShrL K mg A (kv.map (·.2)) ds ∧ fp = [a]
  | .ob a, v, d, fp => ∃ C dx fv c fs ds, v = .ref a ∧ d = .obj c fs ds ∧ mg (Str.ofString c) = some (.ref C) ∧ H a = some (.ins C dx fv) ∧ H dx = some (.own a) ∧ fv.map (·.1) = fs.map Str.ofString ∧ ShrL K mg A (fv.map (·.2)) ds ∧ fp = [a, dx]

section
variable {K : PySem.W.Frag} {mg : Str → Option Value} {A A' H H' : Hp}
abbrev Sub (A A' : Hp) : Prop := ∀ a o, A a = some o → A' a = some o
theorem sqL_mono (h : Sub A A') {a : Addr} {xs : List V} (s : SqL K A a xs) : SqL K A' a xs := by
  rcases s with (s | ⟨o, s⟩) | s
  · exact .inl (.inl (h _ _ s))
  · exact .inl (.inr ⟨o, h _ _ s⟩)
  · exact .inr s
mutual
theorem Shr.mono (h : Sub A A') : ∀ {v : V} {d : D}, Shr K mg A v d → Shr K mg A' v d
  | v, .non, s => by simpa [Shr] using s
  | v, .bl b, s => by simpa [Shr] using s
  | v, .int i, s => by simpa [Shr] using s
  | v, .str z, s => by simpa [Shr] using s
  | v, .ty z, s => by simpa [Shr] using s
  | v, .cls z, s => by simpa [Shr] using s
  | v, .lst ds, s => by
    simp only [Shr] at s ⊢
    obtain ⟨a, vs, e, h1, h2⟩ := s
    exact ⟨a, vs, e, h _ _ h1, ShrL.mono h h2⟩
  | v, .tup ds, s => by
    simp only [Shr] at s ⊢
    obtain ⟨a, vs, e, h1, h2⟩ := s
    exact ⟨a, vs, e, h _ _ h1, ShrL.mono h h2⟩
  | v, .scr ns, s => by
    simp only [Shr] at s ⊢
    obtain ⟨a, e, h1⟩ := s
    exact ⟨a, e, sqL_mono h h1⟩
  | v, .obj c fs ds, s => by
    simp only [Shr] at s ⊢
    obtain ⟨a, C, dx, fv, e, hc, h1, h0, h2, h3⟩ := s
    exact ⟨a, C, dx, fv, e, hc, h _ _ h1, h _ _ h0, h2, ShrL.mono h h3⟩
  | v, .slf c fs ds, s => by
    simp only [Shr] at s ⊢
    obtain ⟨a, C, dx, fv, e, hc, h1, h2, h3⟩ := s
    exact ⟨a, C, dx, fv, e, hc, h _ _ h1, h2, ShrL.mono h h3⟩
  | v, .dK ks ds, s => by
    simp only [Shr] at s ⊢
    obtain ⟨a, kv, e, h1, h2, h3⟩ := s
    exact ⟨a, kv, e, h _ _ h1, h2, ShrL.mono h h3⟩
  | v, .dT ks ds, s => by
    simp only [Shr] at s ⊢
    obtain ⟨a, kv, e, h1, h2, h3⟩ := s
    exact ⟨a, kv, e, h _ _ h1, h2, ShrL.mono h h3⟩
theorem ShrL.mono (h : Sub A A') : ∀ {vs : List V} {ds : List D}, ShrL K mg A vs ds → ShrL K mg A' vs ds
  | [], [], _ => by simp [ShrL]
  | [], _ :: _, s => by simp [ShrL] at s
  | _ :: _, [], s => by simp [ShrL] at s
  | v :: vs, d :: ds, s => by
    simp only [ShrL] at s ⊢
    exact ⟨Shr.mono h s.1, ShrL.mono h s.2⟩
end
theorem ShrL.length : ∀ {vs : List V} {ds : List D}, ShrL K mg A vs ds → vs.length = ds.length
  | [], [], _ => rfl
  | [], _ :: _, s => by simp [ShrL] at s
  | _ :: _, [], s => by simp [ShrL] at s
  | v :: vs, d :: ds, s => by
    simp only [ShrL] at s
    simp [ShrL.length s.2]
theorem ShrL.get : ∀ {vs : List V} {ds : List D} {i : Nat} {d : D}, ShrL K mg A vs ds → ds[i]? = some d → ∃ v, vs[i]? = some v ∧ Shr K mg A v d
  | [], [], _, _, _, e => by simp at e
  | [], _ :: _, _, _, s, _ => by simp [ShrL] at s
  | _ :: _, [], _, _, s, _ => by simp [ShrL] at s
  | v :: vs, d :: ds, 0, x, s, e => by
    simp only [ShrL] at s
    simp at e; subst e
    exact ⟨v, rfl, s.1⟩
  | v :: vs, d :: ds, i + 1, x, s, e => by
    simp only [ShrL] at s
    simpa using ShrL.get s.2 (by simpa using e)
theorem ShrL.getV : ∀ {vs : List V} {ds : List D} {i : Nat} {v : V}, ShrL K mg A vs ds → vs[i]? = some v → ∃ d, ds[i]? = some d ∧ Shr K mg A v d
  | [], [], _, _, _, e => by simp at e
  | [], _ :: _, _, _, s, _ => by simp [ShrL] at s
  | _ :: _, [], _, _, s, _ => by simp [ShrL] at s
  | v :: vs, d :: ds, 0, x, s, e => by
    simp only [ShrL] at s
    simp at e; subst e
    exact ⟨d, rfl, s.1⟩
  | v :: vs, d :: ds, i + 1, x, s, e => by
    simp only [ShrL] at s
    simpa using ShrL.getV s.2 (by simpa using e)
theorem ShrL.append : ∀ {vs ws : List V} {ds es : List D}, ShrL K mg A vs ds → ShrL K mg A ws es → ShrL K mg A (vs ++ ws) (ds ++ es)
  | [], _, [], _, _, t => t
  | [], _, _ :: _, _, s, _ => by simp [ShrL] at s
  | _ :: _, _, [], _, s, _ => by simp [ShrL] at s
  | v :: vs, _, d :: ds, _, s, t => by
    simp only [ShrL, List.cons_append] at s ⊢
    exact ⟨s.1, ShrL.append s.2 t⟩
theorem ShrL.set : ∀ {vs : List V} {ds : List D} (i : Nat) {v : V} {d : D}, ShrL K mg A vs ds → Shr K mg A v d → ShrL K mg A (vs.set i v) (ds.set i d)
  | [], [], _, _, _, s, _ => by simpa using s
  | [], _ :: _, _, _, _, s, _ => by simp [ShrL] at s
  | _ :: _, [], _, _, _, s, _ => by simp [ShrL] at s
  | v :: vs, d :: ds, 0, x, y, s, t => by
    simp only [ShrL, List.set_cons_zero] at s ⊢
    exact ⟨t, s.2⟩
  | v :: vs, d :: ds, i + 1, x, y, s, t => by
    simp only [ShrL, List.set_cons_succ] at s ⊢
    exact ⟨s.1, ShrL.set i s.2 t⟩
theorem ShrL.take : ∀ {vs : List V} {ds : List D} (n : Nat), ShrL K mg A vs ds → ShrL K mg A (vs.take n) (ds.take n)
  | [], [], n, s => by simpa using s
  | [], _ :: _, _, s => by simp [ShrL] at s
  | _ :: _, [], _, s => by simp [ShrL] at s
  | v :: vs, d :: ds, 0, s => by simp [ShrL]
  | v :: vs, d :: ds, n + 1, s => by
    simp only [ShrL, List.take_succ_cons] at s ⊢
    exact ⟨s.1, ShrL.take n s.2⟩
theorem ShrL.drop : ∀ {vs : List V} {ds : List D} (n : Nat), ShrL K mg A vs ds → ShrL K mg A (vs.drop n) (ds.drop n)
  | [], [], n, s => by simpa using s
  | [], _ :: _, _, s => by simp [ShrL] at s
  | _ :: _, [], _, s => by simp [ShrL] at s
  | v :: vs, d :: ds, 0, s => by simpa using s
  | v :: vs, d :: ds, n + 1, s => by
    simp only [ShrL, List.drop_succ_cons] at s ⊢
    exact ShrL.drop n s.2
theorem ShrL.ints : ∀ {vs : List V} {ns : List Int}, ShrL K mg A vs (ns.map D.int) → vs = ns.map V.int
  | [], [], _ => rfl
  | [], _ :: _, s => by simp [ShrL] at s
  | _ :: _, [], s => by simp [ShrL] at s
  | v :: vs, n :: ns, s => by
    simp only [ShrL, List.map_cons, Shr] at s
    rw [s.1, List.map_cons, ShrL.ints s.2]

theorem OwnL.mono {P P' : V → D → List Addr → Prop} : ∀ {vs : List V} {ds : List D} {fp : List Addr}, OwnL P vs ds fp → (∀ v d f, (∀ a ∈ f, a ∈ fp) → P v d f → P' v d f) → OwnL P' vs ds fp
  | [], [], _, o, _ => o
  | [], _ :: _, _, o, _ => by simp [OwnL] at o
  | _ :: _, [], _, o, _ => by simp [OwnL] at o
  | v :: vs, d :: ds, fp, o, h => by
    simp only [OwnL] at o ⊢
    obtain ⟨f1, f2, p, q, e⟩ := o
    subst e
    exact ⟨f1, f2, h _ _ _ (fun a m => List.mem_append_left _ m) p, OwnL.mono q fun v d f m => h v d f fun a z => List.mem_append_right _ (m a z), rfl⟩
theorem Own.mono (h : Sub A A') : ∀ {k : Kd} {v : V} {d : D} {fp : List Addr}, Own K mg A H k v d fp → (∀ a ∈ fp, H' a = H a) → Own K mg A' H' k v d fp
  | .t2 k l, v, d, fp, o, e => by
    simp only [Own] at o ⊢
    obtain ⟨a, v1, v2, d1, d2, f1, f2, e1, e2, e3, e4, e5, e6⟩ := o
    subst e6
    exact ⟨a, v1, v2, d1, d2, f1, f2, e1, e2, h _ _ e3, Own.mono h e4 fun b z => e b (List.mem_append_left _ z), Own.mono h e5 fun b z => e b (List.mem_append_right _ z), rfl⟩
  | .sh, v, d, fp, o, _ => by
    simp only [Own] at o ⊢
    exact ⟨o.1.mono h, o.2⟩
  | .ls k, v, d, fp, o, e => by
    simp only [Own] at o ⊢
    obtain ⟨a, vs, ds, f, e1, e2, e3, e4, e5⟩ := o
    subst e5
    refine ⟨a, vs, ds, f, e1, e2, by rw [e a (List.mem_cons_self ..)]; exact e3, OwnL.mono e4 fun v d g m p => Own.mono h p fun b z => e b (List.mem_cons_of_mem _ (m b z)), rfl⟩
  | .dk, v, d, fp, o, e => by
    simp only [Own] at o ⊢
    obtain ⟨a, kv, ks, ds, e1, e2, e3, e4, e5, e6⟩ := o
    subst e6
    exact ⟨a, kv, ks, ds, e1, e2, by rw [e a (List.mem_cons_self ..)]; exact e3, e4, e5.mono h, rfl⟩
  | .dt, v, d, fp, o, e => by
    simp only [Own] at o ⊢
    obtain ⟨a, kv, ks, ds, e1, e2, e3, e4, e5, e6⟩ := o
    subst e6
    exact ⟨a, kv, ks, ds, e1, e2, by rw [e a (List.mem_cons_self ..)]; exact e3, e4, e5.mono h, rfl⟩
  | .ob a, v, d, fp, o, e => by
    simp only [Own] at o ⊢
    obtain ⟨C, dx, fv, c, fs, ds, e1, e2, e3, e4, e0, e5, e6, e7⟩ := o
    subst e7
    exact ⟨C, dx, fv, c, fs, ds, e1, e2, e3, by rw [e a (List.mem_cons_self ..)]; exact e4, by rw [e dx (by simp)]; exact e0, e5, e6.mono h, rfl⟩
theorem OwnL.shr {P : V → D → List Addr → Prop} : ∀ {vs : List V} {ds : List D} {fp : List Addr}, OwnL P vs ds fp → (∀ v d f, (∀ a ∈ f, a ∈ fp) → P v d f → Shr K mg A' v d) → ShrL K mg A' vs ds
  | [], [], _, _, _ => by simp [ShrL]
  | [], _ :: _, _, o, _ => by simp [OwnL] at o
  | _ :: _, [], _, o, _ => by simp [OwnL] at o
  | v :: vs, d :: ds, fp, o, h => by
    simp only [OwnL] at o
    obtain ⟨f1, f2, p, q, e⟩ := o
    subst e
    simp only [ShrL]
    exact ⟨h _ _ _ (fun a m => List.mem_append_left _ m) p, OwnL.shr q fun v d f m => h v d f fun a z => List.mem_append_right _ (m a z)⟩
/-- what is owned is let go: it stands in the shared heap A' -/
theorem Own.shr (h : Sub A A') : ∀ {k : Kd} {v : V} {d : D} {fp : List Addr}, Own K mg A H k v d fp → (∀ a ∈ fp, A' a = H a) → Shr K mg A' v d
  | .t2 k l, v, d, fp, o, e => by
    simp only [Own] at o
    obtain ⟨a, v1, v2, d1, d2, f1, f2, e1, e2, e3, e4, e5, e6⟩ := o
    subst e2 e6
    simp only [Shr, ShrL]
    exact ⟨a, [v1, v2], e1, h _ _ e3, Own.shr h e4 fun b z => e b (List.mem_append_left _ z), Own.shr h e5 fun b z => e b (List.mem_append_right _ z), trivial⟩
  | .sh, v, d, fp, o, _ => by
    simp only [Own] at o
    exact o.1.mono h
  | .ls k, v, d, fp, o, e => by
    simp only [Own] at o
    obtain ⟨a, vs, ds, f, e1, e2, e3, e4, e5⟩ := o
    subst e5 e2
    simp only [Shr]
    refine ⟨a, vs, e1, by rw [e a (List.mem_cons_self ..)]; exact e3, OwnL.shr e4 fun v d g m p => Own.shr h p fun b z => e b (List.mem_cons_of_mem _ (m b z))⟩
  | .dk, v, d, fp, o, e => by
    simp only [Own] at o
    obtain ⟨a, kv, ks, ds, e1, e2, e3, e4, e5, e6⟩ := o
    subst e6 e2
    simp only [Shr]
    exact ⟨a, kv, e1, by rw [e a (List.mem_cons_self ..)]; exact e3, e4, e5.mono h⟩
  | .dt, v, d, fp, o, e => by
    simp only [Own] at o
    obtain ⟨a, kv, ks, ds, e1, e2, e3, e4, e5, e6⟩ := o
    subst e6 e2
    simp only [Shr]
    exact ⟨a, kv, e1, by rw [e a (List.mem_cons_self ..)]; exact e3, e4, e5.mono h⟩
  | .ob a, v, d, fp, o, e => by
    simp only [Own] at o
    obtain ⟨C, dx, fv, c, fs, ds, e1, e2, e3, e4, e0, e5, e6, e7⟩ := o
    subst e7 e2
    simp only [Shr]
    exact ⟨a, C, dx, fv, e1, e3, by rw [e a (List.mem_cons_self ..)]; exact e4, by rw [e dx (by simp)]; exact e0, e5, e6.mono h⟩

/-! ### the shared heap and the whole heap grow -/
structure Gr (A H A' H' : Hp) : Prop where
  aa : Sub A A'
  ah : Sub A' H'
  hh : Sub H H'
  nw : ∀ a, A a = none → A' a ≠ none → H a = none
theorem Gr.refl (h : Sub A H) : Gr A H A H := ⟨fun _ _ h => h, h, fun _ _ h => h, fun _ e n => absurd e n⟩
theorem Gr.trans {A2 H2 : Hp} (g : Gr A H A' H') (k : Gr A' H' A2 H2) : Gr A H A2 H2 := by
  refine ⟨fun a o h => k.aa a o (g.aa a o h), k.ah, fun a o h => k.hh a o (g.hh a o h), fun a e n => ?_⟩
  by_cases q : A' a = none
  · have := k.nw a q n
    exact Same.free (H := H) (H' := H') g.hh this
  · exact g.nw a e q
/-- freshly owned -/
def Fresh (H A' : Hp) (fp : List Addr) : Prop := fp.Nodup ∧ ∀ a ∈ fp, H a = none ∧ A' a = none
theorem Fresh.nil : Fresh H A' [] := ⟨List.nodup_nil, fun a h => by cases h⟩
/-- a new object laid, owned by nobody: it is shared -/
theorem Gr.lay (h : Sub A H) {p : Addr} {o : HO} (hp : H p = none) : Gr A H (upd A p o) (upd H p o) := by
  have ap : A p = none := Same.free (H := A) (H' := H) h hp
  refine ⟨fun a u e => ?_, fun a u e => ?_, fun a u e => ?_, fun a e n => ?_⟩
  · rw [upd_ne (ne_of_none e ap)]; exact e
  · by_cases q : a = p
    · subst q; rw [upd_same] at e ⊢; exact e
    · rw [upd_ne q] at e ⊢; exact h _ _ e
  · rw [upd_ne (ne_of_none e hp)]; exact e
  · by_cases q : a = p
    · subst q; exact hp
    · rw [upd_ne q] at n; exact absurd e n
/-- a new object laid that stays out of the shared heap -/
theorem Gr.own (h : Sub A H) {p : Addr} {o : HO} (hp : H p = none) : Gr A H A (upd H p o) := by
  have ap : A p = none := Same.free (H := A) (H' := H) h hp
  refine ⟨fun a u e => e, fun a u e => ?_, fun a u e => ?_, fun a e n => absurd e n⟩
  · rw [upd_ne (ne_of_none e ap)]; exact h _ _ e
  · rw [upd_ne (ne_of_none e hp)]; exact e
/-- what is freshly owned is let go -/
theorem Gr.freeze {fp : List Addr} (g : Gr A H A' H') (f : Fresh H A' fp) : ∃ A2, Gr A H A2 H' ∧ Sub A' A2 ∧ ∀ a ∈ fp, A2 a = H' a := by
  classical
  refine ⟨fun a => if a ∈ fp then H' a else A' a, ⟨fun a o e => ?_, fun a o e => ?_, g.hh, fun a e n => ?_⟩, fun a o e => ?_, fun a m => by simp [m]⟩
  · show (if a ∈ fp then H' a else A' a) = some o
    by_cases m : a ∈ fp
    · have := g.aa a o e
      rw [(f.2 a m).2] at this; cases this
    · rw [if_neg m]; exact g.aa a o e
  · have e : (if a ∈ fp then H' a else A' a) = some o := e
    by_cases m : a ∈ fp
    · rw [if_pos m] at e; exact e
    · rw [if_neg m] at e; exact g.ah a o e
  · have n : (if a ∈ fp then H' a else A' a) ≠ none := n
    by_cases m : a ∈ fp
    · exact (f.2 a m).1
    · rw [if_neg m] at n; exact g.nw a e n
  · show (if a ∈ fp then H' a else A' a) = some o
    by_cases m : a ∈ fp
    · rw [(f.2 a m).2] at e; cases e
    · rw [if_neg m]; exact e
end
end ZL


namespace ZL
open PySem PySem.Spec PyProof.Rows L2

/-- what is fixed through a law -/
structure Glob where
  P : Program
  w : World
  K : PySem.W.Frag
  mg : Str → Option Value
  base : Heap
abbrev Glob.FnOk (G : Glob) (k : Nat) (f : Addr) (fd : FuncData) (ps : List Str) (sp : Sp) : Prop := L2.FnOk G.P G.w G.K G.mg G.base (L2.CX G.P G.w) k f fd ps sp

/-- where a piece of code stands: one of a family of contexts of one scope -/
structure Zc (G : Glob) (N : List Str) (sc : Scope) (fn : Str → Bool) (W : WX) (k : Nat) where
  ι : Type
  X : ι → Cx
  hN : ∀ i, (X i).N = N
  nd : N.Nodup
  hsc : ∀ i, (X i).env.scope = sc
  hfn : ∀ i, (X i).fn = fn
  hP : ∀ i, (X i).prog = G.P
  hw : ∀ i, (X i).w = G.w
  hK : ∀ i, (X i).K = G.K
  hmg : ∀ i, (X i).mg = G.mg
  hb : ∀ i, (X i).base = G.base
  calm : ∀ i, (X i).calm = true
  room : ∀ i, Room k (X i).A
  tk : ∀ i, Takes (X i) W

abbrev SEnv := List (Option D)
structure Exn where
  c : String
  fs : List String
  ds : List D
abbrev ZM := SEnv → (Kd → D → Prop) → (Exn → Prop) → Prop
abbrev ZMT := SEnv → (Bool → Prop) → (Exn → Prop) → Prop
abbrev ZMA := SEnv → (List D → Prop) → (Exn → Prop) → Prop

def View (G : Glob) (A : Hp) (σ : L2.St) (env : SEnv) : Prop := σ.length = env.length ∧ ∀ (i : Nat) (d : D), env[i]? = some (some d) → ∃ v : V, σ[i]? = some (some v) ∧ Shr G.K G.mg A v d
theorem View.mono {G : Glob} {A A' : Hp} {σ : L2.St} {env : SEnv} (v : View G A σ env) (h : Sub A A') : View G A' σ env := ⟨v.1, fun i d e => by
  obtain ⟨u, e1, e2⟩ := v.2 i d e
  exact ⟨u, e1, e2.mono h⟩⟩
def ExAt (G : Glob) (A : Hp) (x : Exn) (cls : Value) (d : Option Addr) : Prop :=
  ∃ C, G.mg (Str.ofString x.c) = some (.ref C) ∧ cls = .ref C ∧ (match d with
    | none => x.fs = [] ∧ x.ds = []
    | some dx => ∃ fv, A dx = some (.xd fv) ∧ fv.map (·.1) = x.fs.map Str.ofString ∧ ShrL G.K G.mg A (fv.map (·.2)) x.ds)

/-- what is raised: how it meets the wish -/
abbrev Esc (G : Glob) (W : WX) (A H : Hp) (σ : L2.St) (Ez : Exn → Prop) : Prop := ∀ x cls dx H' A', Gr A H A' H' → ExAt G A' x cls dx → Ez x → W cls dx σ H'
theorem Esc.gr {G : Glob} {W : WX} {A H A' H' : Hp} {σ : L2.St} {Ez : Exn → Prop} (e : Esc G W A H σ Ez) (g : Gr A H A' H') : Esc G W A' H' σ Ez := fun x cls dx H2 A2 g2 q => e x cls dx H2 A2 (g.trans g2) q

def Snd (G : Glob) (W : WX) (t : TE) (m : ZM) : Prop := ∀ A H σ env (Q : VK) Qz Ez, Sub A H → View G A σ env → m env Qz Ez →
  (∀ v H' A' k d fp, Gr A H A' H' → Own G.K G.mg A' H' k v d fp → Fresh H A' fp → Qz k d → Q v H') → Esc G W A H σ Ez → t σ H Q
def SndT (G : Glob) (W : WX) (t : TT) (m : ZMT) : Prop := ∀ A H σ env (Q : Bool → Hp → Prop) Qz Ez, Sub A H → View G A σ env → m env Qz Ez →
  (∀ b H' A', Gr A H A' H' → Qz b → Q b H') → Esc G W A H σ Ez → t σ H Q
def SndA (G : Glob) (W : WX) (t : TA) (m : ZMA) : Prop := ∀ A H σ env (Q : List V → Hp → Prop) Qz Ez, Sub A H → View G A σ env → m env Qz Ez →
  (∀ vs H' A' ds, Gr A H A' H' → ShrL G.K G.mg A' vs ds → Qz ds → Q vs H') → Esc G W A H σ Ez → t σ H Q

section
variable {G : Glob} {N : List Str} {sc : Scope} {fn : Str → Bool} {W : WX} {k : Nat}
structure ZE (Z : Zc G N sc fn W k) (e : Expr) (m : ZM) : Prop where
  ex : ∃ t, (∀ i, PE (Z.X i) e t) ∧ Snd G W t m
structure ZT (Z : Zc G N sc fn W k) (e : Expr) (m : ZMT) : Prop where
  ex : ∃ t, (∀ i, PT (Z.X i) e t) ∧ SndT G W t m
structure ZW (Z : Zc G N sc fn W k) (e : Expr) (m : ZMT) : Prop where
  ex : ∃ t, (∀ i, PW (Z.X i) e t) ∧ SndT G W t m
structure ZA (Z : Zc G N sc fn W k) (es : List Expr) (m : ZMA) : Prop where
  ex : ∃ t, (∀ i, PA (Z.X i) es t) ∧ SndA G W t m

variable {Z : Zc G N sc fn W k}
/-- the value let go: only what it is -/
theorem Snd.go {t : TE} {m : ZM} (s : Snd G W t m) {A H : Hp} {σ : L2.St} {env : SEnv} {Q : VK} {Qz : Kd → D → Prop} {Ez : Exn → Prop} (h : Sub A H) (v : View G A σ env) (hm : m env Qz Ez)
    (hq : ∀ v H' A' k d, Gr A H A' H' → Shr G.K G.mg A' v d → Qz k d → Q v H') (he : Esc G W A H σ Ez) : t σ H Q :=
  s A H σ env Q Qz Ez h v hm (fun v H' A' k d fp g o f q => by
    obtain ⟨A2, g2, s2, e2⟩ := g.freeze f
    exact hq v H' A2 k d g2 (o.shr s2 e2) q) he
/-- a value that is shared -/
theorem own_sh {K : PySem.W.Frag} {mg : Str → Option Value} {A H : Hp} {v : V} {d : D} (s : Shr K mg A v d) : Own K mg A H .sh v d [] := by
  simp only [Own]; exact ⟨s, trivial⟩

/-! ### names, constants -/
def mVar (i : Nat) : ZM := fun env Q _ => match env[i]? with
  | some (some d) => Q .sh d
  | _ => False
theorem snd_var (i : Nat) : Snd G W (tVar i) (mVar i) := fun A H σ env Q Qz Ez h v hm hq _ => by
  unfold mVar at hm
  split at hm
  · rename_i d e
    obtain ⟨u, e1, e2⟩ := v.2 i d e
    exact ⟨u, e1, hq u H A .sh d [] (Gr.refl h) (own_sh e2) Fresh.nil hm⟩
  · exact hm.elim
theorem ze_var (i : Nat) {x : Str} {pos : Pos} (hx : N[i]? = some x := by rfl) (hv : Vis sc x := by first | exact Or.inl rfl | exact Or.inr (Or.inl rfl) | exact Or.inr (Or.inr rfl))
    (hd : (x == ("__debug__" : Str)) = false := by decide) (hcd : (x == ("__classdict__" : Str)) = false := by decide) : ZE Z (.Name x pos) (mVar i) :=
  ⟨tVar i, fun j => pe_var (by rw [Z.hN]; exact hx) (by rw [Z.hsc]; exact hv) hd hcd, snd_var i⟩
def mC (d : D) : ZM := fun _ Q _ => Q .sh d
def vC : D → V
  | .bl b => .bl b
  | .int i => .int i
  | .str s => .str s
  | _ => .non
def isC : D → Bool
  | .non => true
  | .bl _ => true
  | .int _ => true
  | .str _ => true
  | _ => false
theorem shr_C {K : PySem.W.Frag} {mg : Str → Option Value} {A : Hp} {d : D} (h : isC d = true) : Shr K mg A (vC d) d := by
  cases d <;> first | (simp [Shr, vC]; done) | cases h
theorem snd_C {d : D} (hc : isC d = true) : Snd G W (tC (vC d)) (mC d) := fun A H σ env Q Qz Ez h v hm hq _ => hq _ H A .sh d [] (Gr.refl h) (own_sh (shr_C hc)) Fresh.nil hm
theorem ze_int {i j pos} : ZE Z (.Constant (.int i) j pos) (mC (.int i)) := ⟨_, fun _ => pe_int, snd_C rfl⟩
theorem ze_bl {b j pos} : ZE Z (.Constant (.bool b) j pos) (mC (.bl b)) := ⟨_, fun _ => pe_bl, snd_C rfl⟩
theorem ze_non {j pos} : ZE Z (.Constant .none j pos) (mC .non) := ⟨_, fun _ => pe_non, snd_C rfl⟩
theorem ze_str {x j pos} : ZE Z (.Constant (.str x) j pos) (mC (.str x)) := ⟨_, fun _ => pe_str, snd_C rfl⟩
/-- a constant of the module -/
theorem ze_glob {x : Str} {d : D} {u : Value} {pos : Pos} (hm : G.mg x = some u) (hg : sc.names.lookup x = some .globalImplicit := by rfl) (hc : isC d = true := by rfl) (r : RelV (vC d) u := by exact ⟨_, rfl⟩) (hd : (x == ("__debug__" : Str)) = false := by decide) : ZE Z (.Name x pos) (mC d) :=
  ⟨_, fun i => pe_glob (show (Z.X i).env.scope.names.lookup x = _ by rw [Z.hsc]; exact hg) (by rw [Z.hmg]; exact hm) r hd, snd_C hc⟩

/-! ### operators by values -/
abbrev DOp := D → D → (Kd → D → Prop) → Prop
abbrev DOp1 := D → (Kd → D → Prop) → Prop
def SndOp (G : Glob) (r : R2) (o : DOp) : Prop := ∀ A H x y dx dy (Q : VK) Qz, Sub A H → Shr G.K G.mg A x dx → Shr G.K G.mg A y dy → o dx dy Qz →
  (∀ v H' A' k d fp, Gr A H A' H' → Own G.K G.mg A' H' k v d fp → Fresh H A' fp → Qz k d → Q v H') → r x y H Q
/-- the operator f does o on data -/
def ZOp (Z : Zc G N sc fn W k) (f : Value → Value → Sem Value) (o : DOp) : Prop := ∃ r, (∀ i, OpR (Z.X i) f r) ∧ SndOp G r o
def mOp (o : DOp) (a b : ZM) : ZM := fun env Q E => a env (fun _ x => b env (fun _ y => o x y Q) E) E
theorem snd_op {r : R2} {o : DOp} {ta tb : TE} {ma mb : ZM} (ho : SndOp G r o) (ha : Snd G W ta ma) (hb : Snd G W tb mb) : Snd G W (tOp r ta tb) (mOp o ma mb) := fun A H σ env Q Qz Ez h v hm hq he =>
  ha.go h v hm (fun x H1 A1 _ dx g1 s1 q1 => hb.go g1.ah (v.mono g1.aa) q1 (fun y H2 A2 _ dy g2 s2 q2 =>
    ho A2 H2 x y dx dy Q Qz g2.ah (s1.mono g2.aa) s2 q2 fun v H3 A3 k d fp g3 o3 f3 q3 =>
      hq v H3 A3 k d fp ((g1.trans g2).trans g3) o3 ⟨f3.1, fun a m => ⟨Same.free (H := H) (H' := H2) (g1.trans g2).hh (f3.2 a m).1, (f3.2 a m).2⟩⟩ q3) (he.gr g1)) he
theorem ze_op {a b : Expr} {ma mb : ZM} {pos : Pos} {op : Operator} {o : DOp} (ho : ZOp Z (binaryOp op) o) (ha : ZE Z a ma) (hb : ZE Z b mb) : ZE Z (.BinOp a op b pos) (mOp o ma mb) := by
  obtain ⟨r, h1, h2⟩ := ho
  obtain ⟨ta, a1, a2⟩ := ha.ex
  obtain ⟨tb, b1, b2⟩ := hb.ex
  exact ⟨_, fun i => pe_op (h1 i) (a1 i) (b1 i), snd_op h2 a2 b2⟩
theorem ze_cmp {a b : Expr} {ma mb : ZM} {pos : Pos} {op : CmpOp} {o : DOp} (ho : ZOp Z (compareOp op) o) (ha : ZE Z a ma) (hb : ZE Z b mb) (hm : behindInMarks op b = false := by first | exact nomark _ | rfl) : ZE Z (.Compare a [op] [b] pos) (mOp o ma mb) := by
  obtain ⟨r, h1, h2⟩ := ho
  obtain ⟨ta, a1, a2⟩ := ha.ex
  obtain ⟨tb, b1, b2⟩ := hb.ex
  exact ⟨_, fun i => pe_cmpR (h1 i) (a1 i) (b1 i) hm, snd_op h2 a2 b2⟩
def mB (m : ZM) : ZMT := fun env Q E => m env (fun _ d => match d with
  | .bl b => Q b
  | _ => False) E
theorem sndT_B {t : TE} {m : ZM} (s : Snd G W t m) : SndT G W (tB t) (mB m) := fun A H σ env Q Qz Ez h v hm hq he =>
  s.go h v hm (fun x H' A' _ d g sd q => by
    cases d with
    | bl b =>
      simp only [Shr] at sd
      exact ⟨b, sd, hq b H' A' g q⟩
    | _ => exact q.elim) he
theorem zt_cmp {a b : Expr} {ma mb : ZM} {pos : Pos} {op : CmpOp} {o : DOp} (ho : ZOp Z (compareOp op) o) (ha : ZE Z a ma) (hb : ZE Z b mb) (hm : behindInMarks op b = false := by first | exact nomark _ | rfl) : ZT Z (.Compare a [op] [b] pos) (mB (mOp o ma mb)) := by
  obtain ⟨r, h1, h2⟩ := ho
  obtain ⟨ta, a1, a2⟩ := ha.ex
  obtain ⟨tb, b1, b2⟩ := hb.ex
  exact ⟨_, fun i => pt_cmpR (h1 i) (a1 i) (b1 i) hm, sndT_B (snd_op h2 a2 b2)⟩
/-- an expression that gives a bool, as a test -/
theorem zt_val {e : Expr} {m : ZM} (h : ZE Z e m) (he : ∀ env whole, isTrue e env whole = (do let v ← whole; standAt e.pos; holding [v] (truthy v)) := by intro _ _; rfl) : ZT Z e (mB m) := by
  obtain ⟨t, a1, a2⟩ := h.ex
  exact ⟨_, fun i => pt_val (a1 i) (he _), sndT_B a2⟩
/-! ### and, or, not -/
def mAnd (a b : ZMT) : ZMT := fun env Q E => a env (fun c => if c = true then b env Q E else Q false) E
def mOr (a b : ZMT) : ZMT := fun env Q E => a env (fun c => if c = true then Q true else b env Q E) E
def mNot (a : ZMT) : ZMT := fun env Q E => a env (fun c => Q (!c)) E
theorem zw_and1 {a : Expr} {m : ZMT} {pos} (h : ZT Z a m) : ZW Z (.BoolOp .And [a] pos) m := by
  obtain ⟨t, a1, a2⟩ := h.ex
  exact ⟨_, fun i => pw_and1 (a1 i), a2⟩
theorem zw_or1 {a : Expr} {m : ZMT} {pos} (h : ZT Z a m) : ZW Z (.BoolOp .Or [a] pos) m := by
  obtain ⟨t, a1, a2⟩ := h.ex
  exact ⟨_, fun i => pw_or1 (a1 i), a2⟩
theorem zw_and {a b : Expr} {rest : List Expr} {ma mb : ZMT} {pos} (ha : ZT Z a ma) (hb : ZW Z (.BoolOp .And (b :: rest) pos) mb) : ZW Z (.BoolOp .And (a :: b :: rest) pos) (mAnd ma mb) := by
  obtain ⟨ta, a1, a2⟩ := ha.ex
  obtain ⟨tb, b1, b2⟩ := hb.ex
  refine ⟨_, fun i => pw_and (a1 i) (b1 i), fun A H σ env Q Qz Ez h v hm hq he => ?_⟩
  refine a2 A H σ env _ _ Ez h v hm (fun c H1 A1 g1 q1 => ?_) he
  cases c with
  | true =>
    simp only [if_true] at q1 ⊢
    exact b2 A1 H1 σ env _ _ Ez g1.ah (v.mono g1.aa) q1 (fun b H2 A2 g2 q2 => hq b H2 A2 (g1.trans g2) q2) (he.gr g1)
  | false =>
    simp only [Bool.false_eq_true, if_false] at q1 ⊢
    exact hq false H1 A1 g1 q1
theorem zw_or {a b : Expr} {rest : List Expr} {ma mb : ZMT} {pos} (ha : ZT Z a ma) (hb : ZW Z (.BoolOp .Or (b :: rest) pos) mb) : ZW Z (.BoolOp .Or (a :: b :: rest) pos) (mOr ma mb) := by
  obtain ⟨ta, a1, a2⟩ := ha.ex
  obtain ⟨tb, b1, b2⟩ := hb.ex
  refine ⟨_, fun i => pw_or (a1 i) (b1 i), fun A H σ env Q Qz Ez h v hm hq he => ?_⟩
  refine a2 A H σ env _ _ Ez h v hm (fun c H1 A1 g1 q1 => ?_) he
  cases c with
  | false =>
    simp only [Bool.false_eq_true, if_false] at q1 ⊢
    exact b2 A1 H1 σ env _ _ Ez g1.ah (v.mono g1.aa) q1 (fun b H2 A2 g2 q2 => hq b H2 A2 (g1.trans g2) q2) (he.gr g1)
  | true =>
    simp only [if_true] at q1 ⊢
    exact hq true H1 A1 g1 q1
theorem zt_w {e : Expr} {m : ZMT} (h : ZW Z e m) : ZT Z e m := by
  obtain ⟨t, a1, a2⟩ := h.ex
  exact ⟨t, fun i => (a1 i).pt, a2⟩
theorem zt_not {a : Expr} {m : ZMT} {pos} (h : ZT Z a m) : ZT Z (.UnaryOp .Not a pos) (mNot m) := by
  obtain ⟨t, a1, a2⟩ := h.ex
  exact ⟨_, fun i => pt_not (a1 i), fun A H σ env Q Qz Ez hh v hm hq he => a2 A H σ env _ _ Ez hh v hm (fun c H1 A1 g q => hq _ H1 A1 g q) he⟩
/-- .. as values -/
def mAndV (a b : ZM) : ZM := fun env Q E => a env (fun _ d => match d with
  | .bl c => if c = true then b env Q E else Q .sh (.bl false)
  | _ => False) E
def mOrV (a b : ZM) : ZM := fun env Q E => a env (fun _ d => match d with
  | .bl c => if c = true then Q .sh (.bl true) else b env Q E
  | _ => False) E
def mNotV (a : ZM) : ZM := fun env Q E => a env (fun _ d => match d with
  | .bl c => Q .sh (.bl (!c))
  | _ => False) E
theorem Fresh.back {H H' A' : Hp} {fp : List Addr} (h : Sub H H') (f : Fresh H' A' fp) : Fresh H A' fp := ⟨f.1, fun a m => ⟨Same.free (H := H) (H' := H') h (f.2 a m).1, (f.2 a m).2⟩⟩
theorem ze_one {a : Expr} {op} {m : ZM} {pos} (h : ZE Z a m) : ZE Z (.BoolOp op [a] pos) m := by
  obtain ⟨t, a1, a2⟩ := h.ex
  exact ⟨t, fun i => pe_one (a1 i), a2⟩
theorem ze_and {a b : Expr} {rest : List Expr} {ma mb : ZM} {pos} (ha : ZE Z a ma) (hb : ZE Z (.BoolOp .And (b :: rest) pos) mb) : ZE Z (.BoolOp .And (a :: b :: rest) pos) (mAndV ma mb) := by
  obtain ⟨ta, a1, a2⟩ := ha.ex
  obtain ⟨tb, b1, b2⟩ := hb.ex
  refine ⟨_, fun i => pe_and (a1 i) (b1 i), fun A H σ env Q Qz Ez h v hm hq he => ?_⟩
  refine a2.go h v hm (fun x H1 A1 _ d g1 s1 q1 => ?_) he
  cases d with
  | bl c =>
    simp only [Shr] at s1
    refine ⟨c, s1, ?_⟩
    cases c with
    | true =>
      simp only [if_true] at q1 ⊢
      exact b2 A1 H1 σ env _ _ Ez g1.ah (v.mono g1.aa) q1 (fun b H2 A2 k d fp g2 o2 f2 q2 => hq b H2 A2 k d fp (g1.trans g2) o2 (f2.back g1.hh) q2) (he.gr g1)
    | false =>
      simp only [Bool.false_eq_true, if_false] at q1 ⊢
      exact hq _ H1 A1 .sh _ [] g1 (own_sh (by simp [Shr])) Fresh.nil q1
  | _ => exact q1.elim
theorem ze_or {a b : Expr} {rest : List Expr} {ma mb : ZM} {pos} (ha : ZE Z a ma) (hb : ZE Z (.BoolOp .Or (b :: rest) pos) mb) : ZE Z (.BoolOp .Or (a :: b :: rest) pos) (mOrV ma mb) := by
  obtain ⟨ta, a1, a2⟩ := ha.ex
  obtain ⟨tb, b1, b2⟩ := hb.ex
  refine ⟨_, fun i => pe_or (a1 i) (b1 i), fun A H σ env Q Qz Ez h v hm hq he => ?_⟩
  refine a2.go h v hm (fun x H1 A1 _ d g1 s1 q1 => ?_) he
  cases d with
  | bl c =>
    simp only [Shr] at s1
    refine ⟨c, s1, ?_⟩
    cases c with
    | false =>
      simp only [Bool.false_eq_true, if_false] at q1 ⊢
      exact b2 A1 H1 σ env _ _ Ez g1.ah (v.mono g1.aa) q1 (fun b H2 A2 k d fp g2 o2 f2 q2 => hq b H2 A2 k d fp (g1.trans g2) o2 (f2.back g1.hh) q2) (he.gr g1)
    | true =>
      simp only [if_true] at q1 ⊢
      exact hq _ H1 A1 .sh _ [] g1 (own_sh (by simp [Shr])) Fresh.nil q1
  | _ => exact q1.elim
theorem ze_not {a : Expr} {m : ZM} {pos} (h : ZE Z a m) : ZE Z (.UnaryOp .Not a pos) (mNotV m) := by
  obtain ⟨t, a1, a2⟩ := h.ex
  refine ⟨_, fun i => pe_not (a1 i), fun A H σ env Q Qz Ez hh v hm hq he => ?_⟩
  refine a2.go hh v hm (fun x H1 A1 _ d g1 s1 q1 => ?_) he
  cases d with
  | bl c =>
    simp only [Shr] at s1
    exact ⟨c, s1, hq _ H1 A1 .sh _ [] g1 (own_sh (by simp [Shr])) Fresh.nil q1⟩
  | _ => exact q1.elim
def mIf (c : ZMT) (a b : ZM) : ZM := fun env Q E => c env (fun x => if x = true then a env Q E else b env Q E) E
theorem ze_ifExp {c a b : Expr} {mc : ZMT} {ma mb : ZM} {pos} (hc : ZT Z c mc) (ha : ZE Z a ma) (hb : ZE Z b mb) : ZE Z (.IfExp c a b pos) (mIf mc ma mb) := by
  obtain ⟨tc, c1, c2⟩ := hc.ex
  obtain ⟨ta, a1, a2⟩ := ha.ex
  obtain ⟨tb, b1, b2⟩ := hb.ex
  refine ⟨_, fun i => pe_ifExp (c1 i) (a1 i) (b1 i), fun A H σ env Q Qz Ez h v hm hq he => ?_⟩
  refine c2 A H σ env _ _ Ez h v hm (fun x H1 A1 g1 q1 => ?_) he
  cases x with
  | true =>
    simp only [if_true] at q1 ⊢
    exact a2 A1 H1 σ env _ _ Ez g1.ah (v.mono g1.aa) q1 (fun b H2 A2 k d fp g2 o2 f2 q2 => hq b H2 A2 k d fp (g1.trans g2) o2 (f2.back g1.hh) q2) (he.gr g1)
  | false =>
    simp only [Bool.false_eq_true, if_false] at q1 ⊢
    exact b2 A1 H1 σ env _ _ Ez g1.ah (v.mono g1.aa) q1 (fun b H2 A2 k d fp g2 o2 f2 q2 => hq b H2 A2 k d fp (g1.trans g2) o2 (f2.back g1.hh) q2) (he.gr g1)
/-! ### argument lists -/
def mNil : ZMA := fun _ Q _ => Q []
def mCons (a : ZM) (r : ZMA) : ZMA := fun env Q E => a env (fun _ x => r env (fun xs => Q (x :: xs)) E) E
theorem za_nil : ZA Z [] mNil := ⟨_, fun _ => pa_nil, fun A H σ env Q Qz Ez h v hm hq he => hq [] H A [] (Gr.refl h) (by simp [ShrL]) hm⟩
theorem za_cons {e : Expr} {es : List Expr} {me : ZM} {m : ZMA} (ha : ZE Z e me) (hr : ZA Z es m) (hs : ∀ env, starEach (e :: es) env = (false, eval e env) :: starEach es env := by intro _; rfl) : ZA Z (e :: es) (mCons me m) := by
  obtain ⟨ta, a1, a2⟩ := ha.ex
  obtain ⟨tb, b1, b2⟩ := hr.ex
  refine ⟨_, fun i => pa_cons (a1 i) (b1 i) (hs _), fun A H σ env Q Qz Ez h v hm hq he => ?_⟩
  refine a2.go h v hm (fun x H1 A1 _ d g1 s1 q1 => ?_) he
  refine b2 A1 H1 σ env _ _ Ez g1.ah (v.mono g1.aa) q1 (fun vs H2 A2 ds g2 s2 q2 => ?_) (he.gr g1)
  exact hq _ H2 A2 (d :: ds) (g1.trans g2) (by simp only [ShrL]; exact ⟨s1.mono g2.aa, s2⟩) q2
/-! ### displays -/
def mTup (m : ZMA) : ZM := fun env Q E => m env (fun ds => ds.length ≤ sizeLine ∧ Q .sh (.tup ds)) E
def mLst (m : ZMA) : ZM := fun env Q E => m env (fun ds => ds.length ≤ sizeLine ∧ Q (.ls .sh) (.lst ds)) E
theorem ownL_sh {K : PySem.W.Frag} {mg : Str → Option Value} {A H : Hp} : ∀ {vs : List V} {ds : List D}, ShrL K mg A vs ds → OwnL (Own K mg A H .sh) vs ds []
  | [], [], _ => rfl
  | [], _ :: _, s => by simp [ShrL] at s
  | _ :: _, [], s => by simp [ShrL] at s
  | v :: vs, d :: ds, s => by
    simp only [ShrL] at s
    exact ⟨[], [], own_sh s.1, ownL_sh s.2, rfl⟩
theorem ownL_of_sh {K : PySem.W.Frag} {mg : Str → Option Value} {A H : Hp} : ∀ {vs : List V} {ds : List D} {fp : List Addr}, OwnL (Own K mg A H .sh) vs ds fp → ShrL K mg A vs ds ∧ fp = []
  | [], [], _, o => ⟨by simp [ShrL], o⟩
  | [], _ :: _, _, o => by simp [OwnL] at o
  | _ :: _, [], _, o => by simp [OwnL] at o
  | v :: vs, d :: ds, fp, o => by
    simp only [OwnL] at o
    obtain ⟨f1, f2, p, q, e⟩ := o
    simp only [Own] at p
    obtain ⟨q1, q2⟩ := ownL_of_sh q
    refine ⟨by simp only [ShrL]; exact ⟨p.1, q1⟩, by rw [e, p.2, q2]; rfl⟩
/-- a new list of shared items, owned -/
theorem own_new {K : PySem.W.Frag} {mg : Str → Option Value} {A H : Hp} {p : Addr} {vs : List V} {ds : List D} (hp : H p = none) (h : Sub A H) (s : ShrL K mg A vs ds) :
    Gr A H A (upd H p (.lst vs)) ∧ Own K mg A (upd H p (.lst vs)) (.ls .sh) (.ref p) (.lst ds) [p] ∧ Fresh H A [p] := by
  refine ⟨Gr.own h hp, ?_, ⟨by simp, fun a m => ?_⟩⟩
  · simp only [Own]
    exact ⟨p, vs, ds, [], rfl, rfl, upd_same, ownL_sh (H := upd H p (.lst vs)) s, rfl⟩
  · have : a = p := by simpa using m
    subst this
    exact ⟨hp, Same.free (H := A) (H' := H) h hp⟩
theorem ze_tup {es : List Expr} {m : ZMA} {x1 pos} (h : ZA Z es m) : ZE Z (.Tuple es x1 pos) (mTup m) := by
  obtain ⟨t, a1, a2⟩ := h.ex
  refine ⟨_, fun i => pe_tup (a1 i), fun A H σ env Q Qz Ez h v hm hq he => ?_⟩
  refine a2 A H σ env _ _ Ez h v hm (fun vs H1 A1 ds g1 s1 q1 => ⟨by rw [s1.length]; exact q1.1, fun p hp => ?_⟩) he
  have g2 := Gr.lay (o := .tup vs) g1.ah hp
  refine hq _ _ _ .sh (.tup ds) [] (g1.trans g2) (own_sh ?_) Fresh.nil q1.2
  simp only [Shr]
  exact ⟨p, vs, rfl, upd_same, s1.mono g2.aa⟩
theorem ze_lst {es : List Expr} {m : ZMA} {pos} (h : ZA Z es m) : ZE Z (.List es pos) (mLst m) := by
  obtain ⟨t, a1, a2⟩ := h.ex
  refine ⟨_, fun i => pe_lst (a1 i), fun A H σ env Q Qz Ez h v hm hq he => ?_⟩
  refine a2 A H σ env _ _ Ez h v hm (fun vs H1 A1 ds g1 s1 q1 => ⟨by rw [s1.length]; exact q1.1, fun p hp => ?_⟩) he
  obtain ⟨g2, o2, f2⟩ := own_new (K := G.K) (mg := G.mg) hp g1.ah s1
  exact hq _ _ _ (.ls .sh) (.lst ds) [p] (g1.trans g2) o2 (f2.back g1.hh) q1.2
end
end ZL


namespace ZL
open PySem PySem.Spec PyProof.Rows L2

/-! ### data without anything that may be changed -/
mutual
def clnS : D → Bool
  | .non => true
  | .bl _ => true
  | .int _ => true
  | .str _ => true
  | .lst _ => false
  | .tup ds => clnL ds
  | .scr _ => false
  | .ty _ => true
  | .cls _ => true
  | .obj _ _ ds => clnL ds
  | .slf _ _ _ => false
  | .dK _ _ => false
  | .dT _ _ => false
def clnL : List D → Bool
  | [] => true
  | d :: ds => clnS d && clnL ds
end
def cln : Kd → D → Bool
  | .sh, d => clnS d
  | .ls k, .lst ds => ds.all (cln k)
  | .t2 k l, .tup [d1, d2] => cln k d1 && cln l d2
  | .dk, .dK _ ds => clnL ds
  | .dt, .dT _ ds => clnL ds
  | .ob _, .obj _ _ ds => clnL ds
  | _, _ => false
def hasOb : Kd → Bool
  | .ob _ => true
  | .ls k => hasOb k
  | .t2 k l => hasOb k || hasOb l
  | _ => false
/-- an object that may be changed -/
def mutO : HO → Bool
  | .lst _ => true
  | .dK _ => true
  | .dT _ => true
  | _ => false
/-- what is clean in A stands in A', too -/
def ClT (A A' : Hp) : Prop := ∀ a o, A a = some o → mutO o = false → (∀ C dx fv, o = .ins C dx fv → A dx = some (.own a)) → A' a = some o
section
variable {K : PySem.W.Frag} {mg : Str → Option Value} {A A' H H' : Hp}
mutual
theorem Shr.cl (h : ClT A A') : ∀ {v : V} {d : D}, clnS d = true → Shr K mg A v d → Shr K mg A' v d
  | v, .non, _, s => by simpa [Shr] using s
  | v, .bl b, _, s => by simpa [Shr] using s
  | v, .int i, _, s => by simpa [Shr] using s
  | v, .str z, _, s => by simpa [Shr] using s
  | v, .ty z, _, s => by simpa [Shr] using s
  | v, .cls z, _, s => by simpa [Shr] using s
  | v, .lst ds, c, s => by simp [clnS] at c
  | v, .tup ds, c, s => by
    simp only [Shr] at s ⊢
    obtain ⟨a, vs, e, h1, h2⟩ := s
    exact ⟨a, vs, e, h _ _ h1 rfl (fun _ _ _ z => nomatch z), ShrL.cl h (by simpa [clnS] using c) h2⟩
  | v, .slf _ _ _, c, s => by simp [clnS] at c
  | v, .scr ns, c, s => by simp [clnS] at c
  | v, .obj cc fs ds, c, s => by
    simp only [Shr] at s ⊢
    obtain ⟨a, C, dx, fv, e, hc, h1, h0, h2, h3⟩ := s
    exact ⟨a, C, dx, fv, e, hc, h _ _ h1 rfl (fun _ _ _ z => by cases z; exact h0), h _ _ h0 rfl (fun _ _ _ z => nomatch z), h2, ShrL.cl h (by simpa [clnS] using c) h3⟩
  | v, .dK ks ds, c, s => by simp [clnS] at c
  | v, .dT ks ds, c, s => by simp [clnS] at c
theorem ShrL.cl (h : ClT A A') : ∀ {vs : List V} {ds : List D}, clnL ds = true → ShrL K mg A vs ds → ShrL K mg A' vs ds
  | [], [], _, _ => by simp [ShrL]
  | [], _ :: _, _, s => by simp [ShrL] at s
  | _ :: _, [], _, s => by simp [ShrL] at s
  | v :: vs, d :: ds, c, s => by
    simp only [ShrL] at s ⊢
    simp only [clnL, Bool.and_eq_true] at c
    exact ⟨Shr.cl h c.1 s.1, ShrL.cl h c.2 s.2⟩
end
theorem OwnL.cl {P P' : V → D → List Addr → Prop} {c : D → Bool} (h : ∀ v d f, c d = true → P v d f → P' v d f) : ∀ {vs : List V} {ds : List D} {fp : List Addr}, ds.all c = true → OwnL P vs ds fp → OwnL P' vs ds fp
  | [], [], _, _, o => o
  | [], _ :: _, _, _, o => by simp [OwnL] at o
  | _ :: _, [], _, _, o => by simp [OwnL] at o
  | v :: vs, d :: ds, fp, q, o => by
    simp only [OwnL] at o ⊢
    simp only [List.all_cons, Bool.and_eq_true] at q
    obtain ⟨f1, f2, p, r, e⟩ := o
    exact ⟨f1, f2, h _ _ _ q.1 p, OwnL.cl h q.2 r, e⟩
theorem Own.cl (h : ClT A A') : ∀ {k : Kd} {v : V} {d : D} {fp : List Addr}, cln k d = true → Own K mg A H k v d fp → Own K mg A' H k v d fp
  | .t2 k l, v, d, fp, c, o => by
    simp only [Own] at o ⊢
    obtain ⟨a, v1, v2, d1, d2, f1, f2, e1, e2, e3, e4, e5, e6⟩ := o
    subst e2
    simp only [cln, Bool.and_eq_true] at c
    exact ⟨a, v1, v2, d1, d2, f1, f2, e1, rfl, h _ _ e3 rfl (fun _ _ _ z => nomatch z), Own.cl h c.1 e4, Own.cl h c.2 e5, e6⟩
  | .sh, v, d, fp, c, o => by
    simp only [Own] at o ⊢
    exact ⟨o.1.cl h (by simpa [cln] using c), o.2⟩
  | .ls k, v, d, fp, c, o => by
    simp only [Own] at o ⊢
    obtain ⟨a, vs, ds, f, e1, e2, e3, e4, e5⟩ := o
    subst e2
    exact ⟨a, vs, ds, f, e1, rfl, e3, OwnL.cl (c := cln k) (fun v d f c p => Own.cl h c p) (by simpa [cln] using c) e4, e5⟩
  | .dk, v, d, fp, c, o => by
    simp only [Own] at o ⊢
    obtain ⟨a, kv, ks, ds, e1, e2, e3, e4, e5, e6⟩ := o
    subst e2
    exact ⟨a, kv, ks, ds, e1, rfl, e3, e4, e5.cl h (by simpa [cln] using c), e6⟩
  | .dt, v, d, fp, c, o => by
    simp only [Own] at o ⊢
    obtain ⟨a, kv, ks, ds, e1, e2, e3, e4, e5, e6⟩ := o
    subst e2
    exact ⟨a, kv, ks, ds, e1, rfl, e3, e4, e5.cl h (by simpa [cln] using c), e6⟩
  | .ob a, v, d, fp, c, o => by
    simp only [Own] at o ⊢
    obtain ⟨C, dx, fv, cc, fs, ds, e1, e2, e3, e4, e0, e5, e6, e7⟩ := o
    subst e2
    exact ⟨C, dx, fv, cc, fs, ds, e1, rfl, e3, e4, e0, e5, e6.cl h (by simpa [cln] using c), e7⟩
/-- what is owned stands in the heap, and may be changed (an instance in the making apart) -/
theorem OwnL.all {P : V → D → List Addr → Prop} {R : Addr → Prop} (h : ∀ v d f, P v d f → ∀ a ∈ f, R a) : ∀ {vs : List V} {ds : List D} {fp : List Addr}, OwnL P vs ds fp → ∀ a ∈ fp, R a
  | [], [], _, o, a, m => by simp only [OwnL] at o; subst o; cases m
  | [], _ :: _, _, o, _, _ => by simp [OwnL] at o
  | _ :: _, [], _, o, _, _ => by simp [OwnL] at o
  | v :: vs, d :: ds, fp, o, a, m => by
    simp only [OwnL] at o
    obtain ⟨f1, f2, p, r, e⟩ := o
    subst e
    rcases List.mem_append.mp m with m | m
    · exact h _ _ _ p a m
    · exact OwnL.all h r a m
theorem Own.muts : ∀ {k : Kd} {v : V} {d : D} {fp : List Addr}, hasOb k = false → Own K mg A H k v d fp → ∀ a ∈ fp, ∃ o, H a = some o ∧ mutO o = true
  | .t2 k l, v, d, fp, c, o, a, m => by
    simp only [Own] at o
    obtain ⟨b, v1, v2, d1, d2, f1, f2, e1, e2, e3, e4, e5, e6⟩ := o
    subst e6
    simp only [hasOb, Bool.or_eq_false_iff] at c
    rcases List.mem_append.mp m with m | m
    · exact Own.muts c.1 e4 a m
    · exact Own.muts c.2 e5 a m
  | .sh, v, d, fp, _, o, a, m => by
    simp only [Own] at o
    rw [o.2] at m; cases m
  | .ls k, v, d, fp, c, o, a, m => by
    simp only [Own] at o
    obtain ⟨b, vs, ds, f, e1, e2, e3, e4, e5⟩ := o
    subst e5
    rcases List.mem_cons.mp m with m | m
    · subst m; exact ⟨_, e3, rfl⟩
    · exact OwnL.all (P := Own K mg A H k) (R := fun a => ∃ o, H a = some o ∧ mutO o = true) (fun v d f p a m => Own.muts (by simpa [hasOb] using c) p a m) e4 a m
  | .dk, v, d, fp, _, o, a, m => by
    simp only [Own] at o
    obtain ⟨b, kv, ks, ds, e1, e2, e3, e4, e5, e6⟩ := o
    subst e6
    have : a = b := by simpa using m
    subst this
    exact ⟨_, e3, rfl⟩
  | .dt, v, d, fp, _, o, a, m => by
    simp only [Own] at o
    obtain ⟨b, kv, ks, ds, e1, e2, e3, e4, e5, e6⟩ := o
    subst e6
    have : a = b := by simpa using m
    subst this
    exact ⟨_, e3, rfl⟩
  | .ob _, _, _, _, h, _, _, _ => by simp [hasOb] at h
/-- what is owned stands in the heap -/
theorem Own.here : ∀ {k : Kd} {v : V} {d : D} {fp : List Addr}, Own K mg A H k v d fp → ∀ a ∈ fp, H a ≠ none
  | .t2 k l, v, d, fp, o, a, m => by
    simp only [Own] at o
    obtain ⟨b, v1, v2, d1, d2, f1, f2, e1, e2, e3, e4, e5, e6⟩ := o
    subst e6
    rcases List.mem_append.mp m with m | m
    · exact Own.here e4 a m
    · exact Own.here e5 a m
  | .sh, v, d, fp, o, a, m => by
    simp only [Own] at o
    rw [o.2] at m; cases m
  | .ls k, v, d, fp, o, a, m => by
    simp only [Own] at o
    obtain ⟨b, vs, ds, f, e1, e2, e3, e4, e5⟩ := o
    subst e5
    rcases List.mem_cons.mp m with m | m
    · subst m; rw [e3]; intro z; cases z
    · exact OwnL.all (P := Own K mg A H k) (R := fun a => H a ≠ none) (fun v d f p a m => Own.here p a m) e4 a m
  | .dk, v, d, fp, o, a, m => by
    simp only [Own] at o
    obtain ⟨b, kv, ks, ds, e1, e2, e3, e4, e5, e6⟩ := o
    subst e6
    have : a = b := by simpa using m
    subst this
    rw [e3]; intro z; cases z
  | .dt, v, d, fp, o, a, m => by
    simp only [Own] at o
    obtain ⟨b, kv, ks, ds, e1, e2, e3, e4, e5, e6⟩ := o
    subst e6
    have : a = b := by simpa using m
    subst this
    rw [e3]; intro z; cases z
  | .ob b, v, d, fp, o, a, m => by
    simp only [Own] at o
    obtain ⟨C, dx, fv, c, fs, ds, e1, e2, e3, e4, e0, e5, e6, e7⟩ := o
    subst e7
    rcases List.mem_cons.mp m with m | m
    · subst m; rw [e4]; intro z; cases z
    · have : a = dx := by simpa using m
      subst this
      rw [e0]; intro z; cases z
end

/-! ### the state of a def's body -/
abbrev DEnv := List (Option (Kd × D))
structure ZI (G : Glob) (A0 H0 A H : Hp) (σ : L2.St) (env : DEnv) (fp : Nat → List Addr) : Prop where
  gr : Gr A0 H0 A H
  len : σ.length = env.length
  at_ : ∀ (i : Nat) (k : Kd) (d : D), env[i]? = some (some (k, d)) → ∃ v : V, σ[i]? = some (some v) ∧ Own G.K G.mg A H k v d (fp i)
  nd : ∀ i, (fp i).Nodup
  dis : ∀ i j, i ≠ j → ∀ a ∈ fp i, a ∉ fp j
  own : ∀ i, ∀ a ∈ fp i, A a = none ∧ H0 a = none ∧ H a ≠ none
/-- freshly owned, apart from what the slots own -/
def FreshV (H0 A' H' : Hp) (fp : Nat → List Addr) (f : List Addr) : Prop := f.Nodup ∧ ∀ a ∈ f, H0 a = none ∧ A' a = none ∧ H' a ≠ none ∧ ∀ i, a ∉ fp i
def lendS : Option (Kd × D) → Option D
  | some (.ob _, .obj c fs ds) => some (.slf c fs ds)
  | some (k, d) => if hasOb k = true then none else some d
  | none => none
def ownS : Option (Kd × D) → Option D
  | some (.sh, d) => some d
  | _ => none
/-- everything is lent for reading -/
def vw (env : DEnv) : SEnv := env.map lendS
/-- only what is shared may be read -/
def vs (env : DEnv) : SEnv := env.map ownS
def clnX (x : Exn) : Bool := clnL x.ds

section
variable {G : Glob} {A0 H0 A A' H H' : Hp} {σ : L2.St} {env : DEnv} {fp : Nat → List Addr}
theorem ZI.sub (I : ZI G A0 H0 A H σ env fp) : Sub A H := I.gr.ah
/-- the heap grows -/
theorem ZI.grow (I : ZI G A0 H0 A H σ env fp) (g : Gr A H A' H') : ZI G A0 H0 A' H' σ env fp := by
  have keep : ∀ i, ∀ a ∈ fp i, H' a = H a := fun i a m => by
    have := (I.own i a m).2.2
    cases q : H a with
    | none => exact absurd q this
    | some o => exact g.hh a o q
  have no : ∀ i, ∀ a ∈ fp i, A' a = none := fun i a m => by
    cases q : A' a with
    | none => rfl
    | some o =>
      have := g.nw a (I.own i a m).1 (by rw [q]; intro z; cases z)
      exact absurd this (I.own i a m).2.2
  exact ⟨I.gr.trans g, I.len, fun i k d e => by
    obtain ⟨v, e1, e2⟩ := I.at_ i k d e
    exact ⟨v, e1, e2.mono g.aa (keep i)⟩, I.nd, I.dis, fun i a m => ⟨no i a m, (I.own i a m).2.1, by rw [keep i a m]; exact (I.own i a m).2.2⟩⟩
theorem ZI.view (I : ZI G A0 H0 A H σ env fp) : View G A σ (vs env) := ⟨by unfold vs; rw [List.length_map]; exact I.len, fun i d e => by
  unfold vs at e
  rw [List.getElem?_map] at e
  cases q : env[i]? with
  | none => rw [q] at e; cases e
  | some s =>
    rw [q] at e
    cases s with
    | none => cases e
    | some p =>
      obtain ⟨k, d'⟩ := p
      cases k with
      | sh =>
        have e : some (some d') = some (some d) := e
        cases e
        obtain ⟨v, e1, e2⟩ := I.at_ i _ _ q
        simp only [Own] at e2
        exact ⟨v, e1, e2.1⟩
      | _ => cases e⟩
theorem freshV (I : ZI G A0 H0 A H σ env fp) (g : Gr A H A' H') {f : List Addr} (h : Fresh H A' f) (hh : ∀ a ∈ f, H' a ≠ none) : FreshV H0 A' H' fp f :=
  ⟨h.1, fun a m => ⟨Same.free (H := H0) (H' := H) I.gr.hh (h.2 a m).1, (h.2 a m).2, hh a m, fun i z => (I.own i a z).2.2 (h.2 a m).1⟩⟩

/-- everything readable is lent: A1 is the shared heap meanwhile; whatever clean is made can be kept when the loan ends -/
theorem ZI.lend (I : ZI G A0 H0 A H σ env fp) : ∃ A1, Sub A A1 ∧ Sub A1 H ∧ View G A1 σ (vw env) ∧
    ∀ A2 H2, Gr A1 H A2 H2 → ∃ A3, Gr A H A3 H2 ∧ ClT A2 A3 ∧ (∀ a, A2 a = none → A3 a = none) := by
  classical
  -- what is lent: all that a slot owns; of an instance in the making the instance alone, not its own dict
  let lentL : Addr → Prop := fun a => ∃ i k d, env[i]? = some (some (k, d)) ∧ hasOb k = false ∧ a ∈ fp i
  let lentO : Addr → Prop := fun a => ∃ i d dx, env[i]? = some (some (.ob a, d)) ∧ fp i = [a, dx] ∧ (∃ C fv, H a = some (.ins C dx fv)) ∧ H dx = some (.own a) ∧ A dx = none
  let lent : Addr → Prop := fun a => lentL a ∨ lentO a
  have hm : ∀ a, lentL a → ∃ o, H a = some o ∧ mutO o = true := fun a ⟨i, k, d, e, hk, m⟩ => by
    obtain ⟨v, e1, e2⟩ := I.at_ i k d e
    exact e2.muts hk a m
  have hA : ∀ a, lent a → A a = none := fun a h => by
    rcases h with ⟨i, k, d, e, hk, m⟩ | ⟨i, d, dx, e, m, _⟩
    · exact (I.own i a m).1
    · exact (I.own i a (by rw [m]; exact List.mem_cons_self ..)).1
  have up : ∀ a o, A a = some o → (if lent a then H a else A a) = some o := fun a o z => by
    by_cases m : lent a
    · rw [hA a m] at z; cases z
    · rw [if_neg m]; exact z
  refine ⟨fun a => if lent a then H a else A a, up, fun a o e => ?_, ⟨by unfold vw; rw [List.length_map]; exact I.len, fun i d e => ?_⟩, fun A2 H2 g => ?_⟩
  · have e : (if lent a then H a else A a) = some o := e
    by_cases m : lent a
    · rw [if_pos m] at e; exact e
    · rw [if_neg m] at e; exact I.gr.ah a o e
  · unfold vw at e
    rw [List.getElem?_map] at e
    cases q : env[i]? with
    | none => rw [q] at e; cases e
    | some s =>
      rw [q] at e
      have e : lendS s = some d := Option.some.inj e
      unfold lendS at e
      split at e
      · rename_i a c fs ds _
        cases e
        obtain ⟨v, e1, e2⟩ := I.at_ i _ _ q
        rw [Own] at e2
        obtain ⟨C, dx, fv, c', fs', ds', f1, f2, f3, f4, f0, f5, f6, f7⟩ := e2
        cases f2
        refine ⟨v, e1, ?_⟩
        rw [Shr]
        refine ⟨a, C, dx, fv, f1, f3, ?_, f5, f6.mono up⟩
        show (if lent a then H a else A a) = _
        rw [if_pos (Or.inr ⟨i, _, dx, q, f7, ⟨C, fv, f4⟩, f0, (I.own i dx (by rw [f7]; simp)).1⟩)]
        exact f4
      · rename_i k d' _ _
        by_cases hk : hasOb k = true
        · rw [if_pos hk] at e; cases e
        · rw [if_neg hk] at e
          cases e
          have hk : hasOb k = false := by simpa using hk
          obtain ⟨v, e1, e2⟩ := I.at_ i _ _ q
          refine ⟨v, e1, e2.shr up fun a z => ?_⟩
          show (if lent a then H a else A a) = H a
          rw [if_pos (Or.inl ⟨i, k, _, q, hk, z⟩)]
      · cases e
  · refine ⟨fun a => if lent a then none else A2 a, ⟨fun a o e => ?_, fun a o e => ?_, g.hh, fun a e n => ?_⟩, fun a o e mo ho => ?_, fun a e => ?_⟩
    · show (if lent a then none else A2 a) = some o
      by_cases m : lent a
      · rw [hA a m] at e; cases e
      · rw [if_neg m]
        exact g.aa a o (up a o e)
    · have e : (if lent a then none else A2 a) = some o := e
      by_cases m : lent a
      · rw [if_pos m] at e; cases e
      · rw [if_neg m] at e; exact g.ah a o e
    · have n : (if lent a then none else A2 a) ≠ none := n
      by_cases m : lent a
      · rw [if_pos m] at n; exact absurd rfl n
      · rw [if_neg m] at n
        refine g.nw a ?_ n
        show (if lent a then H a else A a) = none
        rw [if_neg m]; exact e
    · show (if lent a then none else A2 a) = some o
      by_cases m : lent a
      · exfalso
        rcases m with m | ⟨i, d, dx, e', m, ⟨C, fv, hi⟩, hdx, hAx⟩
        · obtain ⟨u, h1, h2⟩ := hm a m
          have h3 := g.hh a u h1
          have h4 := g.ah a o e
          rw [h3] at h4; cases h4
          rw [h2] at mo; cases mo
        · have h3 := g.hh a _ hi
          have h4 := g.ah a o e
          rw [h3] at h4
          cases h4
          have h5 := ho C dx fv rfl
          -- the own dict was never lent
          have nl : ¬ lent dx := fun z => by
            rcases z with z | ⟨_, _, _, _, _, ⟨C', fv', z⟩, _⟩
            · obtain ⟨u, h6, h7⟩ := hm dx z
              rw [hdx] at h6; cases h6; cases h7
            · rw [hdx] at z; cases z
          have : H dx = none := g.nw dx (by show (if lent dx then H dx else A dx) = none; rw [if_neg nl]; exact hAx) (by rw [h5]; exact Option.some_ne_none _)
          rw [hdx] at this; cases this
      · rw [if_neg m]; exact e
    · show (if lent a then none else A2 a) = none
      by_cases m : lent a
      · rw [if_pos m]
      · rw [if_neg m]; exact e
end
end ZL


namespace ZL
open PySem PySem.Spec PyProof.Rows L2

abbrev ZMV := DEnv → (DEnv → Kd → D → Prop) → (Exn → Prop) → Prop
abbrev ZMVT := DEnv → (Bool → Prop) → (Exn → Prop) → Prop
abbrev EscV (G : Glob) (W : WX) (A0 H0 A : Hp) (σ : L2.St) (env : DEnv) (fp : Nat → List Addr) (Ez : Exn → Prop) : Prop :=
  ∀ x cls dx H' A', ZI G A0 H0 A' H' σ env fp → Sub A A' → ExAt G A' x cls dx → Ez x → W cls dx σ H'
def SndV (G : Glob) (W : WX) (t : TE) (m : ZMV) : Prop := ∀ A0 H0 A H σ env fp (Q : VK) Qz Ez, ZI G A0 H0 A H σ env fp → m env Qz Ez →
  (∀ v H' A' env' fp' k d f, ZI G A0 H0 A' H' σ env' fp' → Sub A A' → Own G.K G.mg A' H' k v d f → FreshV H0 A' H' fp' f → Qz env' k d → Q v H') → EscV G W A0 H0 A σ env fp Ez → t σ H Q
def SndVT (G : Glob) (W : WX) (t : TT) (m : ZMVT) : Prop := ∀ A0 H0 A H σ env fp (Q : Bool → Hp → Prop) Qz Ez, ZI G A0 H0 A H σ env fp → m env Qz Ez →
  (∀ b H' A', ZI G A0 H0 A' H' σ env fp → Sub A A' → Qz b → Q b H') → EscV G W A0 H0 A σ env fp Ez → t σ H Q
theorem ExAt.cl {G : Glob} {A A' : Hp} {x : Exn} {cls : Value} {dx : Option Addr} (h : ClT A A') (c : clnX x = true) (e : ExAt G A x cls dx) : ExAt G A' x cls dx := by
  obtain ⟨C, h1, h2, h3⟩ := e
  refine ⟨C, h1, h2, ?_⟩
  cases dx with
  | none => exact h3
  | some a =>
    obtain ⟨fv, q1, q2, q3⟩ := h3
    exact ⟨fv, h _ _ q1 rfl (fun _ _ _ z => nomatch z), q2, q3.cl h c⟩

/-- what is wanted behind a statement -/
structure ZEnds where
  nx : DEnv → Prop
  rt : Kd → D → Prop
  bk : DEnv → Prop
  ct : DEnv → Prop
  ex : DEnv → Exn → Prop
abbrev ZMS := DEnv → ZEnds → Prop
structure Meets (G : Glob) (W : WX) (A0 H0 A : Hp) (D : Ends) (Z : ZEnds) : Prop where
  nx : ∀ A' H' σ' env' fp', ZI G A0 H0 A' H' σ' env' fp' → Sub A A' → Z.nx env' → D.nx σ' H'
  rt : ∀ A' H' v k d f, Gr A0 H0 A' H' → Own G.K G.mg A' H' k v d f → Fresh H0 A' f → Z.rt k d → D.rt v H'
  bk : ∀ A' H' σ' env' fp', ZI G A0 H0 A' H' σ' env' fp' → Sub A A' → Z.bk env' → D.bk σ' H'
  ct : ∀ A' H' σ' env' fp', ZI G A0 H0 A' H' σ' env' fp' → Sub A A' → Z.ct env' → D.ct σ' H'
  ex : ∀ A' H' σ' env' fp' x cls dx, ZI G A0 H0 A' H' σ' env' fp' → Sub A A' → ExAt G A' x cls dx → Z.ex env' x → W cls dx σ' H'
theorem Meets.gr {G : Glob} {W : WX} {A0 H0 A A1 : Hp} {D : Ends} {Z : ZEnds} (m : Meets G W A0 H0 A D Z) (h : Sub A A1) : Meets G W A0 H0 A1 D Z :=
  ⟨fun A' H' σ' env' fp' I s => m.nx A' H' σ' env' fp' I fun a o e => s a o (h a o e), m.rt, fun A' H' σ' env' fp' I s => m.bk A' H' σ' env' fp' I fun a o e => s a o (h a o e),
    fun A' H' σ' env' fp' I s => m.ct A' H' σ' env' fp' I fun a o e => s a o (h a o e), fun A' H' σ' env' fp' x cls dx I s => m.ex A' H' σ' env' fp' x cls dx I fun a o e => s a o (h a o e)⟩
def SndS (G : Glob) (W : WX) (t : TS) (w : ZMS) : Prop := ∀ A0 H0 A H σ env fp (D : Ends) (Z : ZEnds), ZI G A0 H0 A H σ env fp → w env Z → Meets G W A0 H0 A D Z → t D σ H
theorem sub_refl {A : Hp} : Sub A A := fun _ _ h => h
theorem sub_trans {A B C : Hp} (h : Sub A B) (k : Sub B C) : Sub A C := fun a o e => k a o (h a o e)

section
variable {G : Glob} {N : List Str} {sc : Scope} {fn : Str → Bool} {W : WX} {k : Nat}
structure ZV (Z : Zc G N sc fn W k) (e : Expr) (m : ZMV) : Prop where
  ex : ∃ t, (∀ i, PE (Z.X i) e t) ∧ SndV G W t m
structure ZVT (Z : Zc G N sc fn W k) (e : Expr) (m : ZMVT) : Prop where
  ex : ∃ t, (∀ i, PT (Z.X i) e t) ∧ SndVT G W t m
structure ZS (Z : Zc G N sc fn W k) (st : Stmt) (w : ZMS) : Prop where
  ex : ∃ t, (∀ i, PS (Z.X i) st t) ∧ SndS G W t w
structure ZSs (Z : Zc G N sc fn W k) (st : List Stmt) (w : ZMS) : Prop where
  ex : ∃ t, (∀ i, PSs (Z.X i) st t) ∧ SndS G W t w
variable {Z : Zc G N sc fn W k}

/-! ### expressions in a statement -/
/-- all that is owned is lent meanwhile: what comes out must be clean -/
def mL (m : ZM) : ZMV := fun env Q E => m (vw env) (fun k d => cln k d = true ∧ Q env k d) (fun x => clnX x = true ∧ E x)
/-- only what is shared is read -/
def mS (m : ZM) : ZMV := fun env Q E => m (vs env) (fun k d => Q env k d) E
theorem own_here {A H : Hp} {k : Kd} {v : V} {d : D} {f : List Addr} {mg : Str → Option Value} {K : PySem.W.Frag} (o : Own K mg A H k v d f) : ∀ a ∈ f, H a ≠ none := fun a m => o.here a m
theorem snd_L {t : TE} {m : ZM} (s : Snd G W t m) : SndV G W t (mL m) := fun A0 H0 A H σ env fp Q Qz Ez I hm hq he => by
  obtain ⟨A1, s1, s2, v1, back⟩ := I.lend
  refine s A1 H σ (vw env) Q _ _ s2 v1 hm (fun v H' A' k d f g o fr q => ?_) fun x cls dx H' A' g xa q => ?_
  · obtain ⟨A3, g3, c3, n3⟩ := back A' H' g
    exact hq v H' A3 env fp k d f (I.grow g3) g3.aa (o.cl c3 q.1) (freshV I g3 ⟨fr.1, fun a m => ⟨(fr.2 a m).1, n3 a (fr.2 a m).2⟩⟩ (own_here o)) q.2
  · obtain ⟨A3, g3, c3, n3⟩ := back A' H' g
    exact he x cls dx H' A3 (I.grow g3) g3.aa (xa.cl c3 q.1) q.2
theorem snd_S {t : TE} {m : ZM} (s : Snd G W t m) : SndV G W t (mS m) := fun A0 H0 A H σ env fp Q Qz Ez I hm hq he => by
  refine s A H σ (vs env) Q _ _ I.sub I.view hm (fun v H' A' k d f g o fr q => ?_) fun x cls dx H' A' g xa q => ?_
  · exact hq v H' A' env fp k d f (I.grow g) g.aa o (freshV I g fr (own_here o)) q
  · exact he x cls dx H' A' (I.grow g) g.aa xa q
theorem zv_L {e : Expr} {m : ZM} (h : ZE Z e m) : ZV Z e (mL m) := by
  obtain ⟨t, a1, a2⟩ := h.ex
  exact ⟨t, a1, snd_L a2⟩
theorem zv_S {e : Expr} {m : ZM} (h : ZE Z e m) : ZV Z e (mS m) := by
  obtain ⟨t, a1, a2⟩ := h.ex
  exact ⟨t, a1, snd_S a2⟩
/-- the name's own value, taken out of its slot -/
def mMv (i : Nat) : ZMV := fun env Q _ => match env[i]? with
  | some (some (k, d)) => Q (env.set i none) k d
  | _ => False
theorem zv_mv (i : Nat) {x : Str} {pos : Pos} (hx : N[i]? = some x := by rfl) (hv : Vis sc x := by first | exact Or.inl rfl | exact Or.inr (Or.inl rfl) | exact Or.inr (Or.inr rfl))
    (hd : (x == ("__debug__" : Str)) = false := by decide) (hcd : (x == ("__classdict__" : Str)) = false := by decide) : ZV Z (.Name x pos) (mMv i) := by
  refine ⟨tVar i, fun j => pe_var (by rw [Z.hN]; exact hx) (by rw [Z.hsc]; exact hv) hd hcd, fun A0 H0 A H σ env fp Q Qz Ez I hm hq he => ?_⟩
  unfold mMv at hm
  split at hm
  · rename_i kk d e
    obtain ⟨u, e1, e2⟩ := I.at_ i kk d e
    refine ⟨u, e1, hq u H A (env.set i none) (fun j => if j = i then [] else fp j) kk d (fp i) ⟨I.gr, by rw [List.length_set]; exact I.len, fun j k' d' q => ?_, fun j => ?_, fun j l n a m => ?_, fun j a m => ?_⟩ sub_refl e2 ⟨I.nd i, fun a m => ⟨(I.own i a m).2.1, (I.own i a m).1, (I.own i a m).2.2, fun j z => ?_⟩⟩ hm⟩
    · by_cases hj : j = i
      · subst hj
        rw [List.getElem?_set_self (by rw [List.getElem?_eq_some_iff] at e; exact e.1)] at q
        cases q
      · rw [List.getElem?_set_ne (Ne.symm hj)] at q
        obtain ⟨v, q1, q2⟩ := I.at_ j k' d' q
        exact ⟨v, q1, by show Own G.K G.mg A H k' v d' (if j = i then [] else fp j); rw [if_neg hj]; exact q2⟩
    · show (if j = i then [] else fp j).Nodup
      by_cases hj : j = i
      · rw [if_pos hj]; exact List.nodup_nil
      · rw [if_neg hj]; exact I.nd j
    · have m : a ∈ (if j = i then [] else fp j) := m
      show a ∉ (if l = i then [] else fp l)
      by_cases hj : j = i
      · rw [if_pos hj] at m; cases m
      · rw [if_neg hj] at m
        by_cases hl : l = i
        · rw [if_pos hl]; intro z; cases z
        · rw [if_neg hl]; exact I.dis j l n a m
    · have m : a ∈ (if j = i then [] else fp j) := m
      by_cases hj : j = i
      · rw [if_pos hj] at m; cases m
      · rw [if_neg hj] at m; exact I.own j a m
    · have z : a ∈ (if j = i then [] else fp j) := z
      by_cases hj : j = i
      · rw [if_pos hj] at z; cases z
      · rw [if_neg hj] at z; exact I.dis i j (Ne.symm hj) a m z
  · exact hm.elim
def mLT (m : ZMT) : ZMVT := fun env Q E => m (vw env) Q (fun x => clnX x = true ∧ E x)
theorem zvt {e : Expr} {m : ZMT} (h : ZT Z e m) : ZVT Z e (mLT m) := by
  obtain ⟨t, a1, a2⟩ := h.ex
  refine ⟨t, a1, fun A0 H0 A H σ env fp Q Qz Ez I hm hq he => ?_⟩
  obtain ⟨A1, s1, s2, v1, back⟩ := I.lend
  refine a2 A1 H σ (vw env) Q _ _ s2 v1 hm (fun b H' A' g q => ?_) fun x cls dx H' A' g xa q => ?_
  · obtain ⟨A3, g3, c3, n3⟩ := back A' H' g
    exact hq b H' A3 (I.grow g3) g3.aa q
  · obtain ⟨A3, g3, c3, n3⟩ := back A' H' g
    exact he x cls dx H' A3 (I.grow g3) g3.aa (xa.cl c3 q.1) q.2

/-! ### slots stored -/
theorem ZI.put {A0 H0 A H : Hp} {σ : L2.St} {env : DEnv} {fp : Nat → List Addr} (I : ZI G A0 H0 A H σ env fp) {i : Nat} {kk : Kd} {v : V} {d : D} {f : List Addr} (o : Own G.K G.mg A H kk v d f) (fr : FreshV H0 A H fp f) (hi : i < env.length) :
    ZI G A0 H0 A H (σ.set i (some v)) (env.set i (some (kk, d))) (fun j => if j = i then f else fp j) := by
  refine ⟨I.gr, by rw [List.length_set, List.length_set]; exact I.len, fun j k' d' q => ?_, fun j => ?_, fun j l n a m => ?_, fun j a m => ?_⟩
  · by_cases hj : j = i
    · subst hj
      rw [List.getElem?_set_self hi] at q
      cases q
      refine ⟨v, List.getElem?_set_self (by rw [I.len]; exact hi), ?_⟩
      show Own G.K G.mg A H kk v d (if j = j then f else fp j)
      rw [if_pos rfl]; exact o
    · rw [List.getElem?_set_ne (Ne.symm hj)] at q
      obtain ⟨u, q1, q2⟩ := I.at_ j k' d' q
      refine ⟨u, by rw [List.getElem?_set_ne (Ne.symm hj)]; exact q1, ?_⟩
      show Own G.K G.mg A H k' u d' (if j = i then f else fp j)
      rw [if_neg hj]; exact q2
  · show (if j = i then f else fp j).Nodup
    by_cases hj : j = i
    · rw [if_pos hj]; exact fr.1
    · rw [if_neg hj]; exact I.nd j
  · have m : a ∈ (if j = i then f else fp j) := m
    show a ∉ (if l = i then f else fp l)
    by_cases hj : j = i
    · rw [if_pos hj] at m
      have hl : l ≠ i := fun z => n (hj.trans z.symm)
      rw [if_neg hl]; exact (fr.2 a m).2.2.2 l
    · rw [if_neg hj] at m
      by_cases hl : l = i
      · rw [if_pos hl]; intro z; exact (fr.2 a z).2.2.2 j m
      · rw [if_neg hl]; exact I.dis j l n a m
  · have m : a ∈ (if j = i then f else fp j) := m
    by_cases hj : j = i
    · rw [if_pos hj] at m
      exact ⟨(fr.2 a m).2.1, (fr.2 a m).1, (fr.2 a m).2.2.1⟩
    · rw [if_neg hj] at m; exact I.own j a m
theorem lt_of_slot {env : DEnv} {i : Nat} {x : Option (Kd × D)} (h : env[i]? = some x) : i < env.length := by
  rw [List.getElem?_eq_some_iff] at h; exact h.1
/-! ### statements -/
def wNext : ZMS := fun env Z => Z.nx env
def wSeq (a b : ZMS) : ZMS := fun env Z => a env { Z with nx := fun env' => b env' Z }
theorem zss_nil : ZSs Z [] wNext := ⟨_, fun _ => pss_nil, fun A0 H0 A H σ env fp D Zz I w m => m.nx A H σ env fp I sub_refl w⟩
theorem zss_cons {st : Stmt} {rest : List Stmt} {a b : ZMS} (h1 : ZS Z st a) (h2 : ZSs Z rest b) : ZSs Z (st :: rest) (wSeq a b) := by
  obtain ⟨t, a1, a2⟩ := h1.ex
  obtain ⟨u, b1, b2⟩ := h2.ex
  refine ⟨_, fun i => pss_cons (a1 i) (b1 i), fun A0 H0 A H σ env fp D Zz I w m => ?_⟩
  exact a2 A0 H0 A H σ env fp _ _ I w ⟨fun A' H' σ' env' fp' I' s q => b2 A0 H0 A' H' σ' env' fp' D Zz I' q (m.gr s), m.rt, m.bk, m.ct, m.ex⟩
theorem zss_one {st : Stmt} {a : ZMS} (h1 : ZS Z st a) : ZSs Z [st] a := by
  obtain ⟨t, a1, a2⟩ := h1.ex
  exact ⟨_, fun i => pss_one (a1 i), a2⟩
theorem zs_pass {pos} : ZS Z (.Pass pos) wNext := ⟨_, fun _ => ps_pass, fun A0 H0 A H σ env fp D Zz I w m => m.nx A H σ env fp I sub_refl w⟩
def wBreak : ZMS := fun env Z => Z.bk env
def wCont : ZMS := fun env Z => Z.ct env
theorem zs_break {pos} : ZS Z (.Break pos) wBreak := ⟨_, fun _ => ps_break, fun A0 H0 A H σ env fp D Zz I w m => m.bk A H σ env fp I sub_refl w⟩
theorem zs_continue {pos} : ZS Z (.Continue pos) wCont := ⟨_, fun _ => ps_continue, fun A0 H0 A H σ env fp D Zz I w m => m.ct A H σ env fp I sub_refl w⟩
def wDrop (e : ZMV) : ZMS := fun env Z => e env (fun env' _ _ => Z.nx env') (Z.ex env)
theorem zs_expr {e : Expr} {m : ZMV} {pos} (h : ZV Z e m) (hs : ∀ env, swapsWith e none pos.line env = pure false := by intro _; rfl) : ZS Z (.Expr e pos) (wDrop m) := by
  obtain ⟨t, a1, a2⟩ := h.ex
  refine ⟨_, fun i => ps_expr (a1 i) (hs _), fun A0 H0 A H σ env fp D Zz I w mm => ?_⟩
  exact a2 A0 H0 A H σ env fp _ _ _ I w (fun v H' A' env' fp' k d f I' s o fr q => mm.nx A' H' σ env' fp' I' s q) fun x cls dx H' A' I' s xa q => mm.ex A' H' σ env fp x cls dx I' s xa q
theorem zs_doc {x j pos pos'} : ZS Z (.Expr (.Constant (.str x) j pos) pos') wNext := ⟨_, fun _ => ps_doc, fun A0 H0 A H σ env fp D Zz I w m => m.nx A H σ env fp I sub_refl w⟩
def wRet (e : ZMV) : ZMS := fun env Z => e env (fun _ k d => Z.rt k d) (Z.ex env)
theorem zs_ret {e : Expr} {m : ZMV} {pos} (h : ZV Z e m) : ZS Z (.Return (some e) pos) (wRet m) := by
  obtain ⟨t, a1, a2⟩ := h.ex
  refine ⟨_, fun i => ps_ret (a1 i), fun A0 H0 A H σ env fp D Zz I w mm => ?_⟩
  exact a2 A0 H0 A H σ env fp _ _ _ I w (fun v H' A' env' fp' k d f I' s o fr q => mm.rt A' H' v k d f I'.gr o ⟨fr.1, fun a m => ⟨(fr.2 a m).1, (fr.2 a m).2.1⟩⟩ q) fun x cls dx H' A' I' s xa q => mm.ex A' H' σ env fp x cls dx I' s xa q
def wRetN : ZMS := fun _ Z => Z.rt .sh .non
theorem zs_retN {pos} : ZS Z (.Return none pos) wRetN := ⟨_, fun _ => ps_retN, fun A0 H0 A H σ env fp D Zz I w mm => mm.rt A H .non .sh .non [] I.gr (own_sh (by simp [Shr])) Fresh.nil w⟩
def wIf (c : ZMVT) (a b : ZMS) : ZMS := fun env Z => c env (fun x => if x = true then a env Z else b env Z) (Z.ex env)
theorem zs_if {c : Expr} {a b : List Stmt} {mc : ZMVT} {wa wb : ZMS} {pos} (hc : ZVT Z c mc) (ha : ZSs Z a wa) (hb : ZSs Z b wb) : ZS Z (.If c a b pos) (wIf mc wa wb) := by
  obtain ⟨tc, c1, c2⟩ := hc.ex
  obtain ⟨ta, a1, a2⟩ := ha.ex
  obtain ⟨tb, b1, b2⟩ := hb.ex
  refine ⟨_, fun i => ps_if (c1 i) (a1 i) (b1 i), fun A0 H0 A H σ env fp D Zz I w mm => ?_⟩
  refine c2 A0 H0 A H σ env fp _ _ _ I w (fun x H' A' I' s q => ?_) fun x cls dx H' A' I' s xa q => mm.ex A' H' σ env fp x cls dx I' s xa q
  cases x with
  | true =>
    simp only [if_true] at q ⊢
    exact a2 A0 H0 A' H' σ env fp D Zz I' q (mm.gr s)
  | false =>
    simp only [Bool.false_eq_true, if_false] at q ⊢
    exact b2 A0 H0 A' H' σ env fp D Zz I' q (mm.gr s)
def wSet (i : Nat) (e : ZMV) : ZMS := fun env Z => e env (fun env' k d => i < env'.length ∧ Z.nx (env'.set i (some (k, d)))) (Z.ex env)
theorem zs_set {i : Nat} {x : Str} {e : Expr} {m : ZMV} {pos pos' : Pos} (h : ZV Z e m) (hi : N[i]? = some x := by rfl) (hx : Loc sc x := by first | exact Or.inl rfl | exact Or.inr rfl) (hf : fn x = true ∨ sc.names.lookup x = some .local := by first | exact .inl rfl | exact .inr rfl)
    (hs : ∀ env, swapsWith e (some (.Name x pos')) pos.line env = pure false := by intro _; rfl) : ZS Z (.Assign [.Name x pos'] e pos) (wSet i m) := by
  obtain ⟨t, a1, a2⟩ := h.ex
  refine ⟨_, fun j => ps_set (by rw [Z.hN]; exact Z.nd) (by rw [Z.hN]; exact hi) (by rw [Z.hsc]; exact hx) (a1 j) (hs _) (by rw [Z.hfn, Z.hsc]; exact hf), fun A0 H0 A H σ env fp D Zz I w mm => ?_⟩
  exact a2 A0 H0 A H σ env fp _ _ _ I w (fun v H' A' env' fp' k d f I' s o fr q => mm.nx A' H' _ _ _ (I'.put o fr q.1) s q.2) fun x cls dx H' A' I' s xa q => mm.ex A' H' σ env fp x cls dx I' s xa q
end
end ZL


namespace ZL
open PySem PySem.Spec PyProof.Rows L2

/-! ### data compared -/
mutual
def D.py : D → PyData
  | .non => .none
  | .bl b => .bool b
  | .int i => .int i
  | .str s => .str s
  | .lst ds => .list (pyL ds)
  | .tup ds => .tuple (pyL ds)
  | _ => .none
def pyL : List D → List PyData
  | [] => []
  | d :: ds => d.py :: pyL ds
end
mutual
def pyOk : D → Bool
  | .non => true
  | .bl _ => true
  | .int _ => true
  | .str _ => true
  | .lst ds => pyOkL ds
  | .tup ds => pyOkL ds
  | _ => false
def pyOkL : List D → Bool
  | [] => true
  | d :: ds => pyOk d && pyOkL ds
end
theorem pyL_eq : ∀ ds : List D, pyL ds = ds.map D.py
  | [] => rfl
  | d :: ds => by rw [pyL, pyL_eq ds, List.map_cons]
/-- may be compared by == -/
def eqOk (d : D) : Bool := pyOk d && SeqAt.shaped d.py
def eqD (d e : D) : Bool := PyData.eqv d.py e.py
section
variable {G : Glob} {A H : Hp}
mutual
theorem shr_dp : ∀ {d : D} {v : V}, pyOk d = true → Shr G.K G.mg A v d → Dp G.K A v d.py
  | .non, v, _, s => by simp only [Shr] at s; subst s; exact .non
  | .bl b, v, _, s => by simp only [Shr] at s; subst s; exact .bl b
  | .int i, v, _, s => by simp only [Shr] at s; subst s; exact .int i
  | .str z, v, _, s => by simp only [Shr] at s; subst s; exact .str z
  | .lst ds, v, c, s => by
    simp only [Shr] at s
    obtain ⟨a, vs, rfl, h1, h2⟩ := s
    exact .lst (.of h1) (shrL_dp (by simpa [pyOk] using c) h2)
  | .tup ds, v, c, s => by
    simp only [Shr] at s
    obtain ⟨a, vs, rfl, h1, h2⟩ := s
    exact .tup (.of h1) (shrL_dp (by simpa [pyOk] using c) h2)
  | .scr _, _, c, _ => by simp [pyOk] at c
  | .ty _, _, c, _ => by simp [pyOk] at c
  | .cls _, _, c, _ => by simp [pyOk] at c
  | .obj _ _ _, _, c, _ => by simp [pyOk] at c
  | .slf _ _ _, _, c, _ => by simp [pyOk] at c
  | .dK _ _, _, c, _ => by simp [pyOk] at c
  | .dT _ _, _, c, _ => by simp [pyOk] at c
theorem shrL_dp : ∀ {ds : List D} {vs : List V}, pyOkL ds = true → ShrL G.K G.mg A vs ds → DpAll G.K A vs (pyL ds)
  | [], [], _, _ => .nil
  | [], _ :: _, _, s => by simp [ShrL] at s
  | _ :: _, [], _, s => by simp [ShrL] at s
  | d :: ds, v :: vs, c, s => by
    simp only [ShrL] at s
    simp only [pyOkL, Bool.and_eq_true] at c
    exact .cons (shr_dp c.1 s.1) (shrL_dp c.2 s.2)
end
mutual
theorem Dp.up {K : PySem.W.Frag} {A H : Hp} (h : Sub A H) : ∀ (d : PyData) (v : V), Dp K A v d → Dp K H v d
  | .none, _, q => by cases q; exact .non
  | .bool b, _, q => by cases q; exact .bl b
  | .int b, _, q => by cases q; exact .int b
  | .str b, _, q => by cases q; exact .str b
  | .list ds, _, q => by
    cases q with
    | lst h1 h2 => exact .lst (sqL_mono h h1) (DpAll.up h _ _ h2)
  | .tuple ds, _, q => by
    cases q with
    | tup h1 h2 =>
      refine .tup ?_ (DpAll.up h _ _ h2)
      rcases h1 with (s | ⟨o, s⟩) | s
      · exact .inl (.inl (h _ _ s))
      · exact .inl (.inr ⟨o, h _ _ s⟩)
      · exact .inr s
  | .dict _, _, q => by cases q
theorem DpAll.up {K : PySem.W.Frag} {A H : Hp} (h : Sub A H) : ∀ (ds : List PyData) (vs : List V), DpAll K A vs ds → DpAll K H vs ds
  | [], _, q => by cases q; exact .nil
  | d :: ds, _, q => by
    cases q with
    | cons h1 h2 => exact .cons (Dp.up h _ _ h1) (DpAll.up h _ _ h2)
end
end

section
variable {G : Glob} {N : List Str} {sc : Scope} {fn : Str → Bool} {W : WX} {k : Nat} {Z : Zc G N sc fn W k}
/-- an answer that makes nothing -/
theorem put0 {A H : Hp} {Q : VK} {Qz : Kd → D → Prop} (h : Sub A H) (hq : ∀ v H' A' k d fp, Gr A H A' H' → Own G.K G.mg A' H' k v d fp → Fresh H A' fp → Qz k d → Q v H') {v : V} {d : D} (s : Shr G.K G.mg A v d) (q : Qz .sh d) : Q v H :=
  hq v H A .sh d [] (Gr.refl h) (own_sh s) Fresh.nil q
theorem ZOp.or {f : Value → Value → Sem Value} {o o' : DOp} (h : ZOp Z f o) (h' : ZOp Z f o') : ZOp Z f (fun x y Q => o x y Q ∨ o' x y Q) := by
  obtain ⟨r, a1, a2⟩ := h
  obtain ⟨r', b1, b2⟩ := h'
  refine ⟨_, fun i => (a1 i).or (b1 i), fun A H x y dx dy Q Qz hs sx sy ho hq => ?_⟩
  rcases ho with ho | ho
  · exact .inl (a2 A H x y dx dy Q Qz hs sx sy ho hq)
  · exact .inr (b2 A H x y dx dy Q Qz hs sx sy ho hq)
theorem ZOp.imp {f : Value → Value → Sem Value} {o o' : DOp} (h : ZOp Z f o) (hi : ∀ x y Q, o' x y Q → o x y Q) : ZOp Z f o' := by
  obtain ⟨r, a1, a2⟩ := h
  exact ⟨r, a1, fun A H x y dx dy Q Qz hs sx sy ho hq => a2 A H x y dx dy Q Qz hs sx sy (hi _ _ _ ho) hq⟩
/-- two ints -/
def oI (C : Int → Int → Prop) (g : Int → Int → D) : DOp := fun x y Q => match x, y with
  | .int i, .int j => C i j ∧ Q .sh (g i j)
  | _, _ => False
theorem zo_int {f : Value → Value → Sem Value} {C : Int → Int → Prop} {g : Int → Int → V} {gd : Int → Int → D} (h : ∀ i, OpR (Z.X i) f (rI C g)) (hg : ∀ i j, vC (gd i j) = g i j ∧ isC (gd i j) = true) : ZOp Z f (oI C gd) := by
  refine ⟨_, h, fun A H x y dx dy Q Qz hs sx sy ho hq => ?_⟩
  unfold oI at ho
  split at ho
  · rename_i i j
    simp only [Shr] at sx sy
    refine ⟨i, j, sx, sy, ho.1, ?_⟩
    have := shr_C (K := G.K) (mg := G.mg) (A := A) (hg i j).2
    rw [(hg i j).1] at this
    exact put0 hs hq this ho.2
  · exact ho.elim
theorem opI_of0 {X : Cx} {f : Value → Value → Sem Value} {g : Int → Int → V} (h : OpR X f (rI0 g)) : OpR X f (rI (fun _ _ => True) g) := fun pins s σ H x y v u Q I rx ry q => by
  obtain ⟨i, j, e1, e2, _, q⟩ := q
  exact h pins s σ H x y v u Q I rx ry ⟨i, j, e1, e2, q⟩
/-- the factors, dividends that the machine bears -/
def fit (i : Int) : Prop := i.natAbs < 2 ^ 4096
def cMul (i j : Int) : Prop := fit i ∧ fit j
def cDiv (_ j : Int) : Prop := 0 < j ∧ fit j
def cMod (_ j : Int) : Prop := 0 < j
theorem fit_of {i : Int} (h1 : -(10 ^ 200) ≤ i) (h2 : i ≤ 10 ^ 200) : fit i := by
  have : i.natAbs ≤ 10 ^ 200 := by omega
  have h : (10 : Nat) ^ 200 < 2 ^ 4096 := by decide +kernel
  exact Nat.lt_of_le_of_lt this h
theorem cmul_ok {i j : Int} (h : cMul i j) : CMulW i j := wide_mul h.1 h.2 (by decide) (by decide) (by decide)
theorem cdiv_ok {i j : Int} (h : cDiv i j) : CDivW i j := wide_div h.1 h.2 (by decide) (by decide)
abbrev oSub : DOp := oI (fun _ _ => True) fun i j => .int (i - j)
abbrev oMulI : DOp := oI cMul fun i j => .int (i * j)
abbrev oDiv : DOp := oI cDiv fun i j => .int (i / j)
abbrev oMod : DOp := oI cMod fun i j => .int (i % j)
abbrev oPow : DOp := oI CPow fun i j => .int (i ^ j.toNat)
abbrev oAddI : DOp := oI (fun _ _ => True) fun i j => .int (i + j)
theorem zo_sub : ZOp Z (binaryOp .Sub) oSub := zo_int (fun i => opI_of0 op_sub) fun _ _ => ⟨rfl, rfl⟩
theorem zo_addI : ZOp Z (binaryOp .Add) oAddI := zo_int (fun i => opI_of0 op_add) fun _ _ => ⟨rfl, rfl⟩
theorem rI_imp {X : Cx} {f : Value → Value → Sem Value} {C C' : Int → Int → Prop} {g : Int → Int → V} (h : OpR X f (rI C g)) (hi : ∀ i j, C' i j → C i j) : OpR X f (rI C' g) := fun pins s σ H x y v u Q I rx ry q => by
  obtain ⟨i, j, e1, e2, c, q⟩ := q
  exact h pins s σ H x y v u Q I rx ry ⟨i, j, e1, e2, hi i j c, q⟩
theorem zo_mulI : ZOp Z (binaryOp .Mult) oMulI := zo_int (fun i => rI_imp op_mulW fun _ _ => cmul_ok) fun _ _ => ⟨rfl, rfl⟩
theorem zo_div : ZOp Z (binaryOp .FloorDiv) oDiv := zo_int (fun i => rI_imp op_fdivW fun _ _ => cdiv_ok) fun _ _ => ⟨rfl, rfl⟩
theorem zo_mod : ZOp Z (binaryOp .Mod) oMod := zo_int (fun i => rI_imp op_mod fun _ _ h => h) fun _ _ => ⟨rfl, rfl⟩
theorem zo_pow : ZOp Z (binaryOp .Pow) oPow := zo_int (fun i => op_pow) fun _ _ => ⟨rfl, rfl⟩
/-- + of lists, of tuples, of texts -/
def oAdd : DOp := fun x y Q => match x, y with
  | .int i, .int j => Q .sh (.int (i + j))
  | .str a, .str b => a.length + b.length ≤ sizeLine ∧ Q .sh (.str (a ++ b))
  | .lst a, .lst b => a.length + b.length ≤ sizeLine ∧ Q (.ls .sh) (.lst (a ++ b))
  | .tup a, .tup b => a.length + b.length ≤ sizeLine ∧ Q .sh (.tup (a ++ b))
  | _, _ => False
theorem kop {f : Value → Value → Sem Value} (r : PySem.W.Frag → R2) (h : ∀ i, OpR (Z.X i) f (r (Z.X i).K)) (i : Z.ι) : OpR (Z.X i) f (r G.K) := by
  have := h i
  rw [Z.hK i] at this
  exact this
theorem sqT_of {K : PySem.W.Frag} {A H : Hp} (h : Sub A H) {a : Addr} {xs : List V} (e : A a = some (.tup xs)) : SqT K H a xs := .of (h _ _ e)
theorem sqL_of {K : PySem.W.Frag} {A H : Hp} (h : Sub A H) {a : Addr} {xs : List V} (e : A a = some (.lst xs)) : SqL K H a xs := .of (h _ _ e)
theorem shrL_nil {K : PySem.W.Frag} {mg : Str → Option Value} {A : Hp} {ds : List D} (h : ShrL K mg A [] ds) : ds = [] := by
  cases ds with
  | nil => rfl
  | cons d ds => simp [ShrL] at h
/-- a new tuple -/
theorem putT {A H : Hp} {Q : VK} {Qz : Kd → D → Prop} (h : Sub A H) (hq : ∀ v H' A' k d fp, Gr A H A' H' → Own G.K G.mg A' H' k v d fp → Fresh H A' fp → Qz k d → Q v H') {vs : List V} {ds : List D} (s : ShrL G.K G.mg A vs ds) (q : Qz .sh (.tup ds))
    {p : Addr} (hp : H p = none) : Q (.ref p) (upd H p (.tup vs)) := by
  have g2 := Gr.lay (o := .tup vs) h hp
  refine hq _ _ _ .sh (.tup ds) [] g2 (own_sh ?_) Fresh.nil q
  simp only [Shr]
  exact ⟨p, vs, rfl, upd_same, s.mono g2.aa⟩
theorem putL {A H : Hp} {Q : VK} {Qz : Kd → D → Prop} (h : Sub A H) (hq : ∀ v H' A' k d fp, Gr A H A' H' → Own G.K G.mg A' H' k v d fp → Fresh H A' fp → Qz k d → Q v H') {vs : List V} {ds : List D} (s : ShrL G.K G.mg A vs ds) (q : Qz (.ls .sh) (.lst ds))
    {p : Addr} (hp : H p = none) : Q (.ref p) (upd H p (.lst vs)) := by
  obtain ⟨g2, o2, f2⟩ := own_new (K := G.K) (mg := G.mg) hp h s
  exact hq _ _ _ (.ls .sh) _ [p] g2 o2 f2 q
theorem zo_add : ZOp Z (binaryOp .Add) oAdd := by
  refine ⟨_, fun i => (op_add).or ((op_add_str).or ((op_cat).or (kop rCatA (fun i => op_catA) i))), fun A H x y dx dy Q Qz hs sx sy ho hq => ?_⟩
  unfold oAdd at ho
  split at ho
  · rename_i i j
    simp only [Shr] at sx sy
    exact .inl ⟨i, j, sx, sy, put0 hs hq (by simp [Shr]) ho⟩
  · rename_i a b
    simp only [Shr] at sx sy
    exact .inr (.inl ⟨a, b, sx, sy, ho.1, put0 hs hq (by simp [Shr]) ho.2⟩)
  · rename_i a b
    simp only [Shr] at sx sy
    obtain ⟨p, xs, e1, h1, s1⟩ := sx
    obtain ⟨q, ys, e2, h2, s2⟩ := sy
    exact .inr (.inr (.inl ⟨p, q, xs, ys, e1, e2, hs _ _ h1, hs _ _ h2, by rw [s1.length, s2.length]; exact ho.1, fun r hr => putL hs hq (s1.append s2) ho.2 hr⟩))
  · rename_i a b
    simp only [Shr] at sx sy
    obtain ⟨p, xs, e1, h1, s1⟩ := sx
    obtain ⟨q, ys, e2, h2, s2⟩ := sy
    subst e1 e2
    refine .inr (.inr (.inr ⟨p, q, xs, ys, rfl, rfl, sqT_of hs h1, sqT_of hs h2, by rw [s1.length, s2.length]; exact ho.1, fun e => ?_, fun n e => ?_, fun n1 n2 r hr => ?_⟩))
    · subst e
      obtain rfl := shrL_nil s1
      exact put0 hs hq (by simp only [Shr]; exact ⟨q, ys, rfl, h2, s2⟩) ho.2
    · subst e
      obtain rfl := shrL_nil s2
      exact put0 hs hq (d := .tup a) (by simp only [Shr]; exact ⟨p, xs, rfl, h1, s1⟩) (by simpa using ho.2)
    · exact putT hs hq (s1.append s2) ho.2 hr
  · exact ho.elim
/-- * : ints, a list repeated -/
def oMul : DOp := fun x y Q => match x, y with
  | .int i, .int j => cMul i j ∧ Q .sh (.int (i * j))
  | .lst a, .int j => (-(2 ^ 63) ≤ j ∧ j < 2 ^ 63 ∧ a.length * j.toNat ≤ sizeLine) ∧ Q (.ls .sh) (.lst (List.replicate j.toNat a).flatten)
  | _, _ => False
theorem shrL_rep {K : PySem.W.Frag} {mg : Str → Option Value} {A : Hp} {vs : List V} {ds : List D} (h : ShrL K mg A vs ds) : ∀ n : Nat, ShrL K mg A (List.replicate n vs).flatten (List.replicate n ds).flatten
  | 0 => by simp [ShrL]
  | n + 1 => by
    rw [List.replicate_succ, List.replicate_succ, List.flatten_cons, List.flatten_cons]
    exact h.append (shrL_rep h n)
theorem zo_mul : ZOp Z (binaryOp .Mult) oMul := by
  refine ⟨_, fun i => (rI_imp op_mulW fun _ _ => cmul_ok).or op_rep, fun A H x y dx dy Q Qz hs sx sy ho hq => ?_⟩
  unfold oMul at ho
  split at ho
  · rename_i i j
    simp only [Shr] at sx sy
    exact .inl ⟨i, j, sx, sy, ho.1, put0 hs hq (by simp [Shr]) ho.2⟩
  · rename_i a j
    simp only [Shr] at sx sy
    obtain ⟨p, xs, e1, h1, s1⟩ := sx
    exact .inr ⟨p, j, xs, e1, sy, hs _ _ h1, ho.1.1, ho.1.2.1, by rw [s1.length]; exact ho.1.2.2, fun r hr => putL hs hq (shrL_rep s1 _) ho.2 hr⟩
  · exact ho.elim

/-! ### comparisons -/
abbrev oB (g : Int → Int → Bool) : DOp := oI (fun _ _ => True) fun i j => .bl (g i j)
theorem zo_lt : ZOp Z (compareOp .Lt) (oB fun i j => decide (i < j)) := zo_int (fun i => opI_of0 op_lt) fun _ _ => ⟨rfl, rfl⟩
theorem zo_le : ZOp Z (compareOp .LtE) (oB fun i j => decide (i ≤ j)) := zo_int (fun i => opI_of0 op_le) fun _ _ => ⟨rfl, rfl⟩
theorem zo_gt : ZOp Z (compareOp .Gt) (oB fun i j => decide (j < i)) := zo_int (fun i => opI_of0 op_gt) fun _ _ => ⟨rfl, rfl⟩
theorem zo_ge : ZOp Z (compareOp .GtE) (oB fun i j => decide (j ≤ i)) := zo_int (fun i => opI_of0 op_ge) fun _ _ => ⟨rfl, rfl⟩
/-- ==, != of data -/
def oEq (neg : Bool) : DOp := fun x y Q => (eqOk x && eqOk y) = true ∧ Q .sh (.bl (if neg then !eqD x y else eqD x y))
theorem eqOk_dp {A H : Hp} {v : V} {d : D} (h : Sub A H) (c : eqOk d = true) (s : Shr G.K G.mg A v d) : Dp G.K H v d.py ∧ SeqAt.shaped d.py = true := by
  unfold eqOk at c
  rw [Bool.and_eq_true] at c
  exact ⟨Dp.up h _ _ (shr_dp c.1 s), c.2⟩
theorem zo_eq : ZOp Z (compareOp .Eq) (oEq false) := by
  refine ⟨_, fun i => kop rEqD (fun i => op_eqD (Z.room i).units) i, fun A H x y dx dy Q Qz hs sx sy ho hq => ?_⟩
  obtain ⟨c, ho⟩ := ho
  rw [Bool.and_eq_true] at c
  obtain ⟨d1, z1⟩ := eqOk_dp hs c.1 sx
  obtain ⟨d2, z2⟩ := eqOk_dp hs c.2 sy
  exact ⟨_, _, d1, d2, z1, z2, put0 hs hq (d := .bl _) (by simp only [Shr]; rfl) ho⟩
theorem zo_ne : ZOp Z (compareOp .NotEq) (oEq true) := by
  refine ⟨_, fun i => kop rNeD (fun i => op_neD (Z.room i).units) i, fun A H x y dx dy Q Qz hs sx sy ho hq => ?_⟩
  obtain ⟨c, ho⟩ := ho
  rw [Bool.and_eq_true] at c
  obtain ⟨d1, z1⟩ := eqOk_dp hs c.1 sx
  obtain ⟨d2, z2⟩ := eqOk_dp hs c.2 sy
  exact ⟨_, _, d1, d2, z1, z2, put0 hs hq (d := .bl _) (by simp only [Shr]; rfl) ho⟩
/-- is None, is not None -/
def isNon : D → Bool
  | .non => true
  | _ => false
theorem shr_non {A : Hp} {v : V} {d : D} (s : Shr G.K G.mg A v d) : decide (v = .non) = isNon d := by
  cases d <;> simp only [Shr] at s
  case non => subst s; rfl
  case bl => subst s; rfl
  case int => subst s; rfl
  case str => subst s; rfl
  case ty => subst s; rfl
  all_goals
    obtain ⟨a, h⟩ := s
    first
    | (obtain ⟨rfl, _⟩ := h; rfl)
    | (obtain ⟨_, rfl, _⟩ := h; rfl)
    | (obtain ⟨_, _, _, rfl, _⟩ := h; rfl)
def oIs (neg : Bool) : DOp := fun x y Q => match y with
  | .non => Q .sh (.bl (if neg then !isNon x else isNon x))
  | _ => False
theorem zo_is : ZOp Z (compareOp .Is) (oIs false) := by
  refine ⟨_, fun i => op_isN1, fun A H x y dx dy Q Qz hs sx sy ho hq => ?_⟩
  unfold oIs at ho
  split at ho
  · simp only [Shr] at sy
    exact ⟨sy, put0 hs hq (d := .bl (isNon dx)) (by simp only [Shr]; rw [shr_non sx]) ho⟩
  · exact ho.elim
theorem zo_isnot : ZOp Z (compareOp .IsNot) (oIs true) := by
  refine ⟨_, fun i => op_notN1, fun A H x y dx dy Q Qz hs sx sy ho hq => ?_⟩
  unfold oIs at ho
  split at ho
  · simp only [Shr] at sy
    exact ⟨sy, put0 hs hq (d := .bl (!isNon dx)) (by simp only [Shr]; rw [shr_non sx]) ho⟩
  · exact ho.elim
/-- in, not in: a list of data, a tuple of flat things, a text -/
def flatD : D → Bool
  | .non => true
  | .bl _ => true
  | .int _ => true
  | .str _ => true
  | _ => false
def inD (x : D) (ds : List D) : Bool := ds.any fun z => eqD z x
def vCs (ds : List D) : List V := ds.map vC
def oIn (neg : Bool) : DOp := fun x y Q => match y with
  | .lst ds => (eqOk x && eqOk (.lst ds)) = true ∧ Q .sh (.bl (if neg then !inD x ds else inD x ds))
  | .tup ds => (flatD x && ds.all flatD) = true ∧ Q .sh (.bl (if neg then !inD x ds else inD x ds))
  | .str s => (match x with
    | .str a => Q .sh (.bl (if neg then (Builtin.Str.occurrences s a 0 s.length 1).isEmpty else !(Builtin.Str.occurrences s a 0 s.length 1).isEmpty))
    | _ => False)
  | _ => False
theorem shr_flat {A : Hp} {v : V} {d : D} (h : flatD d = true) (s : Shr G.K G.mg A v d) : v = vC d ∧ flatV v = true := by
  cases d with
  | non => simp only [Shr] at s; subst s; exact ⟨rfl, rfl⟩
  | bl => simp only [Shr] at s; subst s; exact ⟨rfl, rfl⟩
  | int => simp only [Shr] at s; subst s; exact ⟨rfl, rfl⟩
  | str => simp only [Shr] at s; subst s; exact ⟨rfl, rfl⟩
  | _ => cases h
theorem shrL_flat {A : Hp} : ∀ {vs : List V} {ds : List D}, ds.all flatD = true → ShrL G.K G.mg A vs ds → vs = ds.map vC ∧ vs.all flatV = true
  | [], [], _, _ => ⟨rfl, rfl⟩
  | [], _ :: _, _, s => by simp [ShrL] at s
  | _ :: _, [], _, s => by simp [ShrL] at s
  | v :: vs, d :: ds, c, s => by
    simp only [ShrL] at s
    simp only [List.all_cons, Bool.and_eq_true] at c
    obtain ⟨e1, e2⟩ := shr_flat c.1 s.1
    obtain ⟨q1, q2⟩ := shrL_flat c.2 s.2
    exact ⟨by rw [List.map_cons, ← e1, ← q1], by rw [List.all_cons, e2, q2]; rfl⟩
theorem eqV_D {x y : D} (hx : flatD x = true) (hy : flatD y = true) : eqV (vC x) (vC y) = eqD x y := by
  cases x <;> cases hx <;> cases y <;> cases hy <;> simp [vC, eqV, eqD, D.py, PyData.eqv]
theorem inV_D {x : D} {ds : List D} (hx : flatD x = true) (hd : ds.all flatD = true) : inV (vC x) (ds.map vC) = inD x ds := by
  unfold inV inD
  rw [List.any_map]
  induction ds with
  | nil => rfl
  | cons d ds ih =>
    simp only [List.all_cons, Bool.and_eq_true] at hd
    simp only [List.any_cons, Function.comp_apply]
    rw [ih hd.2, eqV_D hd.1 hx]
theorem any_pyL {x : D} : ∀ ds : List D, (pyL ds).any (fun z => z.eqv x.py) = inD x ds
  | [] => rfl
  | d :: ds => by
    have := any_pyL (x := x) ds
    unfold inD at this ⊢
    rw [pyL, List.any_cons, List.any_cons, this]; rfl
theorem Room.un65 {k : Nat} {A : Around} (r : Room k A) : A.units + 65 < cLine := by have := r.un; omega
theorem zo_in : ZOp Z (compareOp .In) (oIn false) := by
  refine ⟨_, fun i => (kop rInD (fun i => op_inD (Room.un65 (Z.room i))) i).or ((kop (fun K => rIn K false) (fun i => op_in_seq) i).or op_in_str), fun A H x y dx dy Q Qz hs sx sy ho hq => ?_⟩
  unfold oIn at ho
  split at ho
  · rename_i ds
    obtain ⟨c, ho⟩ := ho
    rw [Bool.and_eq_true] at c
    obtain ⟨d1, z1⟩ := eqOk_dp hs c.1 sx
    obtain ⟨d2, z2⟩ := eqOk_dp hs c.2 sy
    refine .inl ⟨_, pyL ds, d1, d2, z1, z2, put0 hs hq (d := .bl (inD dx ds)) (by simp only [Shr]; rw [any_pyL]) ho⟩
  · rename_i ds
    obtain ⟨c, ho⟩ := ho
    rw [Bool.and_eq_true] at c
    simp only [Shr] at sy
    obtain ⟨p, xs, e1, h1, s1⟩ := sy
    obtain ⟨e2, e3⟩ := shr_flat c.1 sx
    obtain ⟨e4, e5⟩ := shrL_flat c.2 s1
    refine .inr (.inl ⟨p, xs, e1, .inr (sqT_of hs h1), e3, e5, put0 hs hq (d := .bl (inD dx ds)) ?_ ho⟩)
    simp only [Shr]
    rw [e2, e4, inV_D c.1 c.2]; rfl
  · rename_i s
    split at ho
    · rename_i a
      simp only [Shr] at sx sy
      exact .inr (.inr ⟨a, s, sx, sy, put0 hs hq (d := .bl _) (by simp only [Shr]; rfl) ho⟩)
    · exact ho.elim
  · exact ho.elim
theorem zo_notin : ZOp Z (compareOp .NotIn) (oIn true) := by
  refine ⟨_, fun i => (kop rNotInD (fun i => op_notInD (Room.un65 (Z.room i))) i).or ((kop (fun K => rIn K true) (fun i => op_notIn_seq) i).or op_notin_str), fun A H x y dx dy Q Qz hs sx sy ho hq => ?_⟩
  unfold oIn at ho
  split at ho
  · rename_i ds
    obtain ⟨c, ho⟩ := ho
    rw [Bool.and_eq_true] at c
    obtain ⟨d1, z1⟩ := eqOk_dp hs c.1 sx
    obtain ⟨d2, z2⟩ := eqOk_dp hs c.2 sy
    refine .inl ⟨_, pyL ds, d1, d2, z1, z2, put0 hs hq (d := .bl (!inD dx ds)) (by simp only [Shr]; rw [any_pyL]) ho⟩
  · rename_i ds
    obtain ⟨c, ho⟩ := ho
    rw [Bool.and_eq_true] at c
    simp only [Shr] at sy
    obtain ⟨p, xs, e1, h1, s1⟩ := sy
    obtain ⟨e2, e3⟩ := shr_flat c.1 sx
    obtain ⟨e4, e5⟩ := shrL_flat c.2 s1
    refine .inr (.inl ⟨p, xs, e1, .inr (sqT_of hs h1), e3, e5, put0 hs hq (d := .bl (!inD dx ds)) ?_ ho⟩)
    simp only [Shr]
    rw [e2, e4, inV_D c.1 c.2]; rfl
  · rename_i s
    split at ho
    · rename_i a
      simp only [Shr] at sx sy
      exact .inr (.inr ⟨a, s, sx, sy, put0 hs hq (d := .bl _) (by simp only [Shr]; rw [Bool.not_not]; rfl) ho⟩)
    · exact ho.elim
  · exact ho.elim
/-! ### subscripts -/
def oIx : DOp := fun x y Q => match y with
  | .int i => (match x with
    | .lst ds => (match atI ds i with
      | some d => Q .sh d
      | none => False)
    | .tup ds => (match atI ds i with
      | some d => Q .sh d
      | none => False)
    | .scr ns => (match atI ns i with
      | some n => Q .sh (.int n)
      | none => False)
    | .str s => (match atI s.cps.toList i with
      | some c => s.length ≤ sizeLine ∧ Q .sh (.str ⟨#[c]⟩)
      | none => False)
    | _ => False)
  | _ => False
theorem atI_get {A : Hp} {vs : List V} {ds : List D} {i : Int} {d : D} (s : ShrL G.K G.mg A vs ds) (h : atI ds i = some d) : ∃ v, atI vs i = some v ∧ Shr G.K G.mg A v d := by
  unfold atI at h ⊢
  rw [s.length]
  cases q : ixN ds.length i with
  | none => rw [q] at h; cases h
  | some j =>
    rw [q] at h
    obtain ⟨v, h1, h2⟩ := s.get h
    exact ⟨v, h1, h2⟩
theorem kix (r : PySem.W.Frag → R2) (h : ∀ i, IxR (Z.X i) (r (Z.X i).K)) (i : Z.ι) : IxR (Z.X i) (r G.K) := by
  have := h i
  rw [Z.hK i] at this
  exact this
theorem atI_map {α β : Type} (f : α → β) (xs : List α) (i : Int) : atI (xs.map f) i = (atI xs i).map f := by
  unfold atI
  rw [List.length_map]
  cases ixN xs.length i with
  | none => rfl
  | some j => simp
theorem ze_ix {a b : Expr} {ma mb : ZM} {pos : Pos} (ha : ZE Z a ma) (hb : ZE Z b mb) (hp : PlainIx b := by exact fun _ _ => rfl) : ZE Z (.Subscript a b pos) (mOp oIx ma mb) := by
  obtain ⟨ta, a1, a2⟩ := ha.ex
  obtain ⟨tb, b1, b2⟩ := hb.ex
  refine ⟨_, fun i => pe_ix (kix rIx (fun i => ix_seq) i) (a1 i) (b1 i) hp, snd_op (fun A H x y dx dy Q Qz hs sx sy ho hq => ?_) a2 b2⟩
  unfold oIx at ho
  split at ho
  · rename_i i
    simp only [Shr] at sy
    split at ho
    · split at ho
      · rename_i d e
        simp only [Shr] at sx
        obtain ⟨p, xs, e1, h1, s1⟩ := sx
        obtain ⟨v, q1, q2⟩ := atI_get s1 e
        exact .inl ⟨p, xs, i, v, e1, sy, sqL_of hs h1, q1, put0 hs hq q2 ho⟩
      · exact ho.elim
    · split at ho
      · rename_i d e
        simp only [Shr] at sx
        obtain ⟨p, xs, e1, h1, s1⟩ := sx
        obtain ⟨v, q1, q2⟩ := atI_get s1 e
        exact .inr (.inl ⟨p, xs, i, v, e1, sy, sqT_of hs h1, q1, put0 hs hq q2 ho⟩)
      · exact ho.elim
    · split at ho
      · rename_i n e
        simp only [Shr] at sx
        obtain ⟨p, e1, h1⟩ := sx
        exact .inl ⟨p, _, i, .int n, e1, sy, sqL_mono hs h1, by rw [atI_map, e]; rfl, put0 hs hq (d := .int n) (by simp [Shr]) ho⟩
      · exact ho.elim
    · split at ho
      · rename_i c e
        simp only [Shr] at sx
        exact .inr (.inr ⟨_, i, c, sx, sy, ho.1, e, put0 hs hq (d := .str _) (by simp only [Shr]) ho.2⟩)
      · exact ho.elim
    · exact ho.elim
  · exact ho.elim
end
end ZL


namespace ZL
open PySem PySem.Spec PyProof.Rows L2

/-! ### calls by values -/
abbrev DFn := List D → (Kd → D → Prop) → Prop
def SndF (G : Glob) (r : List V → Hp → VK → Prop) (o : DFn) : Prop := ∀ A H vs ds (Q : VK) Qz, Sub A H → ShrL G.K G.mg A vs ds → o ds Qz →
  (∀ v H' A' k d fp, Gr A H A' H' → Own G.K G.mg A' H' k v d fp → Fresh H A' fp → Qz k d → Q v H') → r vs H Q
section
variable {G : Glob} {N : List Str} {sc : Scope} {fn : Str → Bool} {W : WX} {k : Nat} {Z : Zc G N sc fn W k}
/-- the built-in f does o on data -/
def ZF (Z : Zc G N sc fn W k) (f : Value) (o : DFn) : Prop := ∃ r, (∀ i, CallR (Z.X i) f r) ∧ SndF G r o
theorem kcall {f : Value} (r : PySem.W.Frag → List V → Hp → VK → Prop) (h : ∀ i, CallR (Z.X i) f (r (Z.X i).K)) (i : Z.ι) : CallR (Z.X i) f (r G.K) := by
  have := h i
  rw [Z.hK i] at this
  exact this
def mCB (o : DFn) (m : ZMA) : ZM := fun env Q E => m env (fun ds => o ds Q) E
theorem snd_CB {r : List V → Hp → VK → Prop} {o : DFn} {t : TA} {m : ZMA} (ho : SndF G r o) (ha : SndA G W t m) : Snd G W (tCB r t) (mCB o m) := fun A H σ env Q Qz Ez h v hm hq he =>
  ha A H σ env _ _ Ez h v hm (fun vs H1 A1 ds g1 s1 q1 => ho A1 H1 vs ds Q Qz g1.ah s1 q1 fun v H2 A2 k d fp g2 o2 f2 q2 => hq v H2 A2 k d fp (g1.trans g2) o2 (f2.back g1.hh) q2) he
abbrev Free (G : Glob) (x : Str) : Prop := G.mg x = none
theorem ze_callB {x : Str} {p pos : Pos} {e : Expr} {es : List Expr} {m : ZMA} {id : String} {o : DFn} (hc : ZF Z (.builtin id) o) (hm : Free G x) (ha : ZA Z (e :: es) m) (hv : bootBuiltins x = some (.builtin id) := by decide +kernel) (hg : sc.names.lookup x = some .globalImplicit := by rfl)
    (hn : x ≠ "__name__" := by decide) (hdb : (x == ("__debug__" : Str)) = false := by decide) (he : ∀ env, starEach (e :: es) env = (false, eval e env) :: starEach es env := by intro _; rfl) (hpl : ∀ env, (backTo pos (starEach es env)).any (·.1) = false := by intro _; rfl) :
    ZE Z (.Call (.Name x p) (e :: es) [] pos) (mCB o m) := by
  obtain ⟨r, c1, c2⟩ := hc
  obtain ⟨t, a1, a2⟩ := ha.ex
  exact ⟨_, fun i => pe_callB (c1 i) (show (Z.X i).env.scope.names.lookup x = _ by rw [Z.hsc]; exact hg) (by rw [Z.hmg]; exact hm) hv (a1 i) hn hdb (he _) (hpl _), snd_CB c2 a2⟩
theorem ze_callTy {x : Str} {p pos : Pos} {e : Expr} {es : List Expr} {m : ZMA} {id : String} {o : DFn} (hc : ZF Z (.type id) o) (hm : Free G x) (ha : ZA Z (e :: es) m) (hv : bootBuiltins x = some (.type id) := by decide +kernel) (hg : sc.names.lookup x = some .globalImplicit := by rfl)
    (hn : x ≠ "__name__" := by decide) (hdb : (x == ("__debug__" : Str)) = false := by decide) (he : ∀ env, starEach (e :: es) env = (false, eval e env) :: starEach es env := by intro _; rfl) (hpl : ∀ env, (backTo pos (starEach es env)).any (·.1) = false := by intro _; rfl) :
    ZE Z (.Call (.Name x p) (e :: es) [] pos) (mCB o m) := by
  obtain ⟨r, c1, c2⟩ := hc
  obtain ⟨t, a1, a2⟩ := ha.ex
  exact ⟨_, fun i => pe_callTy (c1 i) (show (Z.X i).env.scope.names.lookup x = _ by rw [Z.hsc]; exact hg) (by rw [Z.hmg]; exact hm) hv (a1 i) hn hdb (he _) (hpl _), snd_CB c2 a2⟩
/-- a built-in type's name as a value -/
theorem ze_ty {x : Str} {n : String} {pos : Pos} (hm : Free G x) (hv : bootBuiltins x = some (.type n) := by decide +kernel) (hg : sc.names.lookup x = some .globalImplicit := by rfl) (hn : x ≠ "__name__" := by decide) (hd : (x == ("__debug__" : Str)) = false := by decide) :
    ZE Z (.Name x pos) (mC (.ty n)) :=
  ⟨_, fun i => pe_bltn (v := .ty n) (show (Z.X i).env.scope.names.lookup x = _ by rw [Z.hsc]; exact hg) (by rw [Z.hmg]; exact hm) hv rfl hn hd, fun A H σ env Q Qz Ez h v hm hq _ => hq _ H A .sh _ [] (Gr.refl h) (own_sh (by simp [Shr])) Fresh.nil hm⟩
/-- an own class's name as a value -/
theorem ze_cls {x : String} {C : Addr} {pos : Pos} (hm : G.mg (Str.ofString x) = some (.ref C)) (hg : sc.names.lookup (Str.ofString x) = some .globalImplicit := by rfl) (hd : ((Str.ofString x) == ("__debug__" : Str)) = false := by decide) :
    ZE Z (.Name (Str.ofString x) pos) (mC (.cls x)) :=
  ⟨_, fun i => pe_glob (v := .ref C) (show (Z.X i).env.scope.names.lookup (Str.ofString x) = _ by rw [Z.hsc]; exact hg) (by rw [Z.hmg]; exact hm) rfl hd, fun A H σ env Q Qz Ez h v hm' hq _ => hq _ H A .sh _ [] (Gr.refl h) (own_sh (by simp only [Shr]; exact ⟨C, rfl, hm⟩)) Fresh.nil hm'⟩

theorem shrL1 {K : PySem.W.Frag} {mg : Str → Option Value} {A : Hp} {vs : List V} {d : D} (h : ShrL K mg A vs [d]) : ∃ v, vs = [v] ∧ Shr K mg A v d := by
  match vs, h with
  | [], h => simp [ShrL] at h
  | [v], h => exact ⟨v, rfl, by simpa [ShrL] using h⟩
  | _ :: _ :: _, h => simp [ShrL] at h
theorem shrL2 {K : PySem.W.Frag} {mg : Str → Option Value} {A : Hp} {vs : List V} {d e : D} (h : ShrL K mg A vs [d, e]) : ∃ v u, vs = [v, u] ∧ Shr K mg A v d ∧ Shr K mg A u e := by
  match vs, h with
  | [], h => simp [ShrL] at h
  | [_], h => simp [ShrL] at h
  | [v, u], h => exact ⟨v, u, rfl, by simpa [ShrL] using h⟩
  | _ :: _ :: _ :: _, h => simp [ShrL] at h
/-! ### len -/
def fLen : DFn := fun xs Q => match xs with
  | [.lst ds] => Q .sh (.int ds.length)
  | [.tup ds] => Q .sh (.int ds.length)
  | [.scr ns] => Q .sh (.int ns.length)
  | [.str s] => s.length ≤ sizeLine ∧ Q .sh (.int s.length)
  | [.dK ks _] => Q .sh (.int ks.length)
  | [.dT ks _] => Q .sh (.int ks.length)
  | _ => False
theorem zf_len : ZF Z (.builtin "len") fLen := by
  refine ⟨_, fun i => (kcall (fun K xs H Q => ∃ p ys, xs = [V.ref p] ∧ (SqL K H p ys ∨ SqT K H p ys) ∧ Q (V.int (ys.length : Nat)) H) (fun i => call_len_seq) i).or (call_len_str.or (call_lenD.or call_len_dT)), fun A H vs ds Q Qz hs sv ho hq => ?_⟩
  unfold fLen at ho
  split at ho
  · obtain ⟨v, rfl, s⟩ := shrL1 sv
    simp only [Shr] at s
    obtain ⟨a, xs, rfl, h1, h2⟩ := s
    exact .inl ⟨a, xs, rfl, .inl (sqL_of hs h1), put0 hs hq (d := .int _) (by simp only [Shr]; rw [h2.length]) ho⟩
  · obtain ⟨v, rfl, s⟩ := shrL1 sv
    simp only [Shr] at s
    obtain ⟨a, xs, rfl, h1, h2⟩ := s
    exact .inl ⟨a, xs, rfl, .inr (sqT_of hs h1), put0 hs hq (d := .int _) (by simp only [Shr]; rw [h2.length]) ho⟩
  · obtain ⟨v, rfl, s⟩ := shrL1 sv
    simp only [Shr] at s
    obtain ⟨a, rfl, h1⟩ := s
    exact .inl ⟨a, _, rfl, .inl (sqL_mono hs h1), put0 hs hq (d := .int _) (by simp only [Shr]; rw [List.length_map]) ho⟩
  · obtain ⟨v, rfl, s⟩ := shrL1 sv
    simp only [Shr] at s
    subst s
    exact .inr (.inl ⟨_, rfl, ho.1, put0 hs hq (d := .int _) (by simp only [Shr]) ho.2⟩)
  · obtain ⟨v, rfl, s⟩ := shrL1 sv
    simp only [Shr] at s
    obtain ⟨a, kv, rfl, h1, h2, h3⟩ := s
    exact .inr (.inr (.inl ⟨a, kv, rfl, hs _ _ h1, put0 hs hq (d := .int _) (by simp only [Shr]; rw [← h2, List.length_map]) ho⟩))
  · obtain ⟨v, rfl, s⟩ := shrL1 sv
    simp only [Shr] at s
    obtain ⟨a, kv, rfl, h1, h2, h3⟩ := s
    exact .inr (.inr (.inr ⟨a, kv, rfl, hs _ _ h1, put0 hs hq (d := .int _) (by simp only [Shr]; rw [← h2, List.length_map]) ho⟩))
  · exact ho.elim
/-! ### int, abs, min, max, sum -/
def fInt : DFn := fun xs Q => match xs with
  | [.int i] => Q .sh (.int i)
  | [.bl b] => Q .sh (.int (if b then 1 else 0))
  | [.str s] => s.length ≤ 640 ∧ ∃ n, PySem.intText? s = some n ∧ Q .sh (.int n)
  | _ => False
theorem zf_int : ZF Z (.type "int") fInt := by
  refine ⟨_, fun i => call_int1.or call_int_str, fun A H vs ds Q Qz hs sv ho hq => ?_⟩
  unfold fInt at ho
  split at ho
  · obtain ⟨v, rfl, s⟩ := shrL1 sv
    simp only [Shr] at s
    subst s
    exact .inl (.inl ⟨_, rfl, put0 hs hq (d := .int _) (by simp only [Shr]) ho⟩)
  · obtain ⟨v, rfl, s⟩ := shrL1 sv
    simp only [Shr] at s
    subst s
    exact .inl (.inr ⟨_, rfl, put0 hs hq (d := .int _) (by simp only [Shr]) ho⟩)
  · obtain ⟨v, rfl, s⟩ := shrL1 sv
    simp only [Shr] at s
    subst s
    obtain ⟨h1, n, h2, h3⟩ := ho
    exact .inr ⟨_, n, rfl, h2, h1, put0 hs hq (d := .int _) (by simp only [Shr]) h3⟩
  · exact ho.elim
def fAbs : DFn := fun xs Q => match xs with
  | [.int i] => Q .sh (.int i.natAbs)
  | _ => False
theorem zf_abs : ZF Z (.builtin "abs") fAbs := by
  refine ⟨_, fun i => call_abs, fun A H vs ds Q Qz hs sv ho hq => ?_⟩
  unfold fAbs at ho
  split at ho
  · rename_i i
    obtain ⟨v, rfl, s⟩ := shrL1 sv
    simp only [Shr] at s
    subst s
    refine ⟨_, rfl, put0 hs hq (d := .int i.natAbs) ?_ ho⟩
    simp only [Shr]
    congr 1
    split <;> omega
  · exact ho.elim
def fMin : DFn := fun xs Q => match xs with
  | [.int i, .int j] => Q .sh (.int (min i j))
  | [.lst ds] => ∃ ns : List Int, ds = ns.map D.int ∧ 0 < ns.length ∧ ∀ m, m ∈ ns → (∀ y ∈ ns, m ≤ y) → Q .sh (.int m)
  | _ => False
def fMax : DFn := fun xs Q => match xs with
  | [.int i, .int j] => Q .sh (.int (max i j))
  | [.lst ds] => ∃ ns : List Int, ds = ns.map D.int ∧ 0 < ns.length ∧ ∀ m, m ∈ ns → (∀ y ∈ ns, y ≤ m) → Q .sh (.int m)
  | _ => False
theorem shr_ints {A H : Hp} (hs : Sub A H) {v : V} {ns : List Int} (s : Shr G.K G.mg A v (.lst (ns.map D.int))) : ∃ a, v = .ref a ∧ SqL G.K H a (ns.map V.int) := by
  simp only [Shr] at s
  obtain ⟨a, xs, rfl, h1, h2⟩ := s
  have := h2.ints
  subst this
  exact ⟨a, rfl, sqL_of hs h1⟩
theorem zf_min : ZF Z (.builtin "min") fMin := by
  refine ⟨_, fun i => (call_min2 (Z.calm i)).or (kcall rMin (fun i => cr_min (Z.calm i)) i), fun A H vs ds Q Qz hs sv ho hq => ?_⟩
  unfold fMin at ho
  split at ho
  · rename_i i j
    obtain ⟨v, u, rfl, s1, s2⟩ := shrL2 sv
    simp only [Shr] at s1 s2
    subst s1 s2
    refine .inl ⟨_, _, rfl, put0 hs hq (d := .int _) ?_ ho⟩
    simp only [Shr]
    congr 1
    rw [Int.min_def]; split <;> split <;> omega
  · obtain ⟨ns, rfl, h0, h⟩ := ho
    obtain ⟨v, rfl, s⟩ := shrL1 sv
    obtain ⟨a, rfl, h1⟩ := shr_ints hs s
    exact .inr ⟨a, ns, rfl, h1, h0, fun m hm hy => put0 hs hq (d := .int m) (by simp only [Shr]) (h m hm hy)⟩
  · exact ho.elim
theorem zf_max : ZF Z (.builtin "max") fMax := by
  refine ⟨_, fun i => (call_max2 (Z.calm i)).or (kcall rMax (fun i => cr_max (Z.calm i)) i), fun A H vs ds Q Qz hs sv ho hq => ?_⟩
  unfold fMax at ho
  split at ho
  · rename_i i j
    obtain ⟨v, u, rfl, s1, s2⟩ := shrL2 sv
    simp only [Shr] at s1 s2
    subst s1 s2
    refine .inl ⟨_, _, rfl, put0 hs hq (d := .int _) ?_ ho⟩
    simp only [Shr]
    congr 1
    rw [Int.max_def]; split <;> split <;> omega
  · obtain ⟨ns, rfl, h0, h⟩ := ho
    obtain ⟨v, rfl, s⟩ := shrL1 sv
    obtain ⟨a, rfl, h1⟩ := shr_ints hs s
    exact .inr ⟨a, ns, rfl, h1, h0, fun m hm hy => put0 hs hq (d := .int m) (by simp only [Shr]) (h m hm hy)⟩
  · exact ho.elim
def fSum : DFn := fun xs Q => match xs with
  | [.lst ds] => ∃ ns : List Int, ds = ns.map D.int ∧ Q .sh (.int ns.sum)
  | _ => False
theorem zf_sum : ZF Z (.builtin "sum") fSum := by
  refine ⟨_, fun i => kcall rSum (fun i => cr_sum (Z.calm i)) i, fun A H vs ds Q Qz hs sv ho hq => ?_⟩
  unfold fSum at ho
  split at ho
  · obtain ⟨ns, rfl, h⟩ := ho
    obtain ⟨v, rfl, s⟩ := shrL1 sv
    obtain ⟨a, rfl, h1⟩ := shr_ints hs s
    exact ⟨a, ns, rfl, h1, put0 hs hq (d := .int _) (by simp only [Shr]) h⟩
  · exact ho.elim
def fSorted : DFn := fun xs Q => match xs with
  | [.lst ds] => ∃ ns : List Int, ds = ns.map D.int ∧ ∀ ns' : List Int, ns'.Perm ns → ns'.Pairwise (· ≤ ·) → Q (.ls .sh) (.lst (ns'.map D.int))
  | _ => False
theorem shrL_ints {A : Hp} : ∀ ns : List Int, ShrL G.K G.mg A (ns.map V.int) (ns.map D.int)
  | [] => by simp [ShrL]
  | n :: ns => by simp only [List.map_cons, ShrL]; exact ⟨by simp [Shr], shrL_ints ns⟩
theorem zf_sorted : ZF Z (.builtin "sorted") fSorted := by
  refine ⟨_, fun i => kcall rSortedI (fun i => cr_sortedI) i, fun A H vs ds Q Qz hs sv ho hq => ?_⟩
  unfold fSorted at ho
  split at ho
  · obtain ⟨ns, rfl, h⟩ := ho
    obtain ⟨v, rfl, s⟩ := shrL1 sv
    obtain ⟨a, rfl, h1⟩ := shr_ints hs s
    exact ⟨a, ns, rfl, h1, fun ns' p hp hw hn => putL hs hq (shrL_ints ns') (h ns' hp hw) hn⟩
  · exact ho.elim
/-! ### list, tuple, str -/
def fList : DFn := fun xs Q => match xs with
  | [.lst ds] => Q (.ls .sh) (.lst ds)
  | [.tup ds] => Q (.ls .sh) (.lst ds)
  | _ => False
theorem zf_list : ZF Z (.type "list") fList := by
  refine ⟨_, fun i => kcall (fun K xs H Q => ∃ p ys, xs = [V.ref p] ∧ (SqL K H p ys ∨ SqT K H p ys) ∧ ∀ l, H l = none → Q (.ref l) (upd H l (.lst ys))) (fun i => call_list_of) i, fun A H vs ds Q Qz hs sv ho hq => ?_⟩
  unfold fList at ho
  split at ho
  · obtain ⟨v, rfl, s⟩ := shrL1 sv
    simp only [Shr] at s
    obtain ⟨a, xs, rfl, h1, h2⟩ := s
    exact ⟨a, xs, rfl, .inl (sqL_of hs h1), fun l hl => putL hs hq h2 ho hl⟩
  · obtain ⟨v, rfl, s⟩ := shrL1 sv
    simp only [Shr] at s
    obtain ⟨a, xs, rfl, h1, h2⟩ := s
    exact ⟨a, xs, rfl, .inr (sqT_of hs h1), fun l hl => putL hs hq h2 ho hl⟩
  · exact ho.elim
def fTuple : DFn := fun xs Q => match xs with
  | [.lst ds] => Q .sh (.tup ds)
  | [.tup ds] => Q .sh (.tup ds)
  | _ => False
theorem zf_tuple : ZF Z (.type "tuple") fTuple := by
  refine ⟨_, fun i => kcall (fun K xs H Q => ∃ p ys, xs = [V.ref p] ∧ ((SqL K H p ys ∧ ∀ l, H l = none → Q (.ref l) (upd H l (.tup ys))) ∨ (SqT K H p ys ∧ Q (.ref p) H))) (fun i => call_tuple_of) i, fun A H vs ds Q Qz hs sv ho hq => ?_⟩
  unfold fTuple at ho
  split at ho
  · obtain ⟨v, rfl, s⟩ := shrL1 sv
    simp only [Shr] at s
    obtain ⟨a, xs, rfl, h1, h2⟩ := s
    exact ⟨a, xs, rfl, .inl ⟨sqL_of hs h1, fun l hl => putT hs hq h2 ho hl⟩⟩
  · obtain ⟨v, rfl, s⟩ := shrL1 sv
    simp only [Shr] at s
    obtain ⟨a, xs, rfl, h1, h2⟩ := s
    exact ⟨a, xs, rfl, .inr ⟨sqT_of hs h1, put0 hs hq (d := .tup _) (by simp only [Shr]; exact ⟨a, xs, rfl, h1, h2⟩) ho⟩⟩
  · exact ho.elim
def fStr : DFn := fun xs Q => match xs with
  | [.int i] => i.natAbs.log2 < 1920 ∧ Q .sh (.str (Str.ofString (toString i)))
  | _ => False
theorem zf_str : ZF Z (.type "str") fStr := by
  refine ⟨_, fun i => call_str_int, fun A H vs ds Q Qz hs sv ho hq => ?_⟩
  unfold fStr at ho
  split at ho
  · obtain ⟨v, rfl, s⟩ := shrL1 sv
    simp only [Shr] at s
    subst s
    exact ⟨_, rfl, ho.1, put0 hs hq (d := .str _) (by simp only [Shr]) ho.2⟩
  · exact ho.elim
/-! ### isinstance with built-in types -/
inductive Ty where
  | non | bool | int | str | list | tuple | dict
  deriving DecidableEq
def Ty.nm : Ty → String
  | .non => "NoneType" | .bool => "bool" | .int => "int" | .str => "str" | .list => "list" | .tuple => "tuple" | .dict => "dict"
def Ty.isi (a b : Ty) : Bool := decide (a = b) || (decide (a = .bool) && decide (b = .int))
theorem ty_kit : ∀ a b : Ty, b ≠ .non → kitB a.nm b.nm = some (a.isi b) := by
  intro a b h
  cases a <;> cases b <;> first | exact absurd rfl h | decide +kernel
def tyOf : D → Option Ty
  | .non => some .non
  | .bl _ => some .bool
  | .int _ => some .int
  | .str _ => some .str
  | .lst _ => some .list
  | .tup _ => some .tuple
  | .dK _ _ => some .dict
  | .dT _ _ => some .dict
  | _ => none
def tyNm (n : String) : Option Ty := if n = "bool" then some .bool else if n = "int" then some .int else if n = "str" then some .str else if n = "list" then some .list else if n = "tuple" then some .tuple else if n = "dict" then some .dict else none
theorem tyNm_ok {n : String} {t : Ty} (h : tyNm n = some t) : n = t.nm ∧ t ≠ .non := by
  unfold tyNm at h
  repeat (split at h; · (rename_i e; cases h; exact ⟨e, by intro z; cases z⟩))
  cases h
theorem tyOf_ok {A H : Hp} (hs : Sub A H) {v : V} {d : D} {t : Ty} (s : Shr G.K G.mg A v d) (h : tyOf d = some t) : TyX G.K H v (.type t.nm) := by
  cases d <;> cases h <;> simp only [Shr] at s
  · subst s; exact .base .non
  · subst s; exact .base (.bl _)
  · subst s; exact .base (.int _)
  · subst s; exact .base (.str _)
  · obtain ⟨a, xs, rfl, h1, h2⟩ := s; exact .base (.lst (hs _ _ h1))
  · obtain ⟨a, xs, rfl, h1, h2⟩ := s; exact .base (.tup (hs _ _ h1))
  · obtain ⟨a, xs, rfl, h1, h2⟩ := s; exact .base (.dK (hs _ _ h1))
  · obtain ⟨a, xs, rfl, h1, h2⟩ := s; exact .base (.dT (hs _ _ h1))
def fIsi : DFn := fun xs Q => match xs with
  | [x, .ty n] => (match tyOf x, tyNm n with
    | some t, some u => Q .sh (.bl (t.isi u))
    | _, _ => False)
  | _ => False
theorem zf_isi : ZF Z (.builtin "isinstance") fIsi := by
  refine ⟨_, fun i => kcall rIsi (fun i => call_isi) i, fun A H vs ds Q Qz hs sv ho hq => ?_⟩
  unfold fIsi at ho
  split at ho
  · split at ho
    · rename_i x n _ _ t u e1 e2
      obtain ⟨v, w, rfl, s1, s2⟩ := shrL2 sv
      simp only [Shr] at s2
      subst s2
      obtain ⟨e3, e4⟩ := tyNm_ok e2
      subst e3
      exact ⟨v, _, _, _, _, rfl, .ty _, tyOf_ok hs s1 e1, kit_ty (ty_kit _ _ e4), put0 hs hq (d := .bl _) (by simp only [Shr]) ho⟩
    · exact ho.elim
  · exact ho.elim

/-! ### slices -/
abbrev DPart := SEnv → (Option Int → Prop) → (Exn → Prop) → Prop
def SndO (G : Glob) (W : WX) (t : TO) (m : DPart) : Prop := ∀ A H σ env (Q : Option Int → Hp → Prop) Qz Ez, Sub A H → View G A σ env → m env Qz Ez →
  (∀ o H' A', Gr A H A' H' → Qz o → Q o H') → Esc G W A H σ Ez → t σ H Q
structure ZO (Z : Zc G N sc fn W k) (e : Option Expr) (m : DPart) : Prop where
  ex : ∃ t, (∀ i, PO (Z.X i) e t) ∧ SndO G W t m
def mNo : DPart := fun _ Q _ => Q none
def mPart (m : ZM) : DPart := fun env Q E => m env (fun _ d => match d with
  | .int i => Q (some i)
  | _ => False) E
theorem zo_none : ZO Z none mNo := ⟨_, fun _ => po_none, fun A H σ env Q Qz Ez h v hm hq he => hq none H A (Gr.refl h) hm⟩
theorem zo_some {e : Expr} {m : ZM} (h : ZE Z e m) : ZO Z (some e) (mPart m) := by
  obtain ⟨t, a1, a2⟩ := h.ex
  refine ⟨_, fun i => po_some (a1 i), fun A H σ env Q Qz Ez h v hm hq he => ?_⟩
  refine a2.go h v hm (fun x H' A' _ d g sd q => ?_) he
  cases d with
  | int i =>
    simp only [Shr] at sd
    exact ⟨i, sd, hq _ H' A' g q⟩
  | _ => exact q.elim
def cutD (xs : List D) (lo hi : Option Int) : List D := (xs.drop (HT.sIx xs.length 0 lo)).take (HT.sIx xs.length xs.length hi - HT.sIx xs.length 0 lo)
def oSl (x : D) (lo hi : Option Int) (Q : Kd → D → Prop) : Prop := match x with
  | .lst ds => Q (.ls .sh) (.lst (cutD ds lo hi))
  | .tup ds => Q .sh (.tup (cutD ds lo hi))
  | .str s => s.length ≤ sizeLine ∧ Q .sh (.str (cutS s lo hi))
  | _ => False
def mSl (m : ZM) (lo hi : DPart) : ZM := fun env Q E => m env (fun _ x => lo env (fun a => hi env (fun b => oSl x a b Q) E) E) E
theorem ksl (r : PySem.W.Frag → V → Option Int → Option Int → Hp → VK → Prop) (h : ∀ i, SlR (Z.X i) (r (Z.X i).K)) (i : Z.ι) : SlR (Z.X i) (r G.K) := by
  have := h i
  rw [Z.hK i] at this
  exact this
theorem ze_slice {e : Expr} {lo hi : Option Expr} {m : ZM} {ml mh : DPart} {pos p2 : Pos} (he : ZE Z e m) (hl : ZO Z lo ml) (hh : ZO Z hi mh) : ZE Z (.Subscript e (.Slice lo hi none p2) pos) (mSl m ml mh) := by
  obtain ⟨t, a1, a2⟩ := he.ex
  obtain ⟨tl, b1, b2⟩ := hl.ex
  obtain ⟨th, c1, c2⟩ := hh.ex
  refine ⟨_, fun i => pe_slice (((ksl rSlL (fun i => sl_list) i).or ((ksl rSlA (fun i => sl_tupA) i).or sl_str))) (a1 i) (b1 i) (c1 i), fun A H σ env Q Qz Ez h v hm hq he => ?_⟩
  refine a2.go h v hm (fun x H1 A1 _ d g1 s1 q1 => ?_) he
  refine b2 A1 H1 σ env _ _ Ez g1.ah (v.mono g1.aa) q1 (fun a H2 A2 g2 q2 => ?_) (he.gr g1)
  refine c2 A2 H2 σ env _ _ Ez g2.ah (v.mono (g1.trans g2).aa) q2 (fun b H3 A3 g3 q3 => ?_) (he.gr (g1.trans g2))
  have g := (g1.trans g2).trans g3
  have s3 := (s1.mono g2.aa).mono g3.aa
  have hq' : ∀ v H' A' k d fp, Gr A3 H3 A' H' → Own G.K G.mg A' H' k v d fp → Fresh H3 A' fp → Qz k d → Q v H' := fun v H' A' k d fp g4 o4 f4 q4 => hq v H' A' k d fp (g.trans g4) o4 (f4.back g.hh) q4
  unfold oSl at q3
  split at q3
  · simp only [Shr] at s3
    obtain ⟨p, xs, e1, h1, h2⟩ := s3
    refine .inl ⟨p, xs, e1, sqL_of g3.ah h1, fun l hl => putL g3.ah hq' ?_ q3 hl⟩
    unfold cutV cutD
    rw [h2.length]
    exact (h2.drop _).take _
  · simp only [Shr] at s3
    obtain ⟨p, xs, e1, h1, h2⟩ := s3
    have hc : ∀ ds : List D, ShrL G.K G.mg A3 xs ds → ShrL G.K G.mg A3 (cutV xs a b) (cutD ds a b) := fun ds h2 => by
      unfold cutV cutD
      rw [h2.length]
      exact (h2.drop _).take _
    rename_i ds
    refine .inr (.inl ⟨p, xs, e1, sqT_of g3.ah h1, fun e => ?_, fun e l hl => putT g3.ah hq' (hc ds h2) q3 hl⟩)
    have : cutD ds a b = ds := by
      unfold cutD
      rw [← h2.length, e.1, e.2, List.drop_zero, h2.length, Nat.sub_zero, List.take_length]
    rw [this] at q3
    exact put0 g3.ah hq' (d := .tup ds) (by simp only [Shr]; exact ⟨p, xs, rfl, h1, h2⟩) q3
  · simp only [Shr] at s3
    exact .inr (.inr ⟨_, s3, q3.1, put0 g3.ah hq' (d := .str _) (by simp only [Shr]) q3.2⟩)
  · exact q3.elim
end
end ZL


namespace ZL
open PySem PySem.Spec PyProof.Rows L2

/-! ### what a def promises, in data -/
abbrev ZSpec := List D → (Kd → D → Prop) → (Exn → Prop) → Prop
def spZ (G : Glob) (n : Nat) (sp : ZSpec) : Sp := fun vs H Q E => ∃ A ds Qz Ez, vs.length = n ∧ Sub A H ∧ ShrL G.K G.mg A vs ds ∧ sp ds Qz Ez ∧
  (∀ v H' A' k d fp, Gr A H A' H' → Own G.K G.mg A' H' k v d fp → Fresh H A' fp → Qz k d → Q v H') ∧ (∀ x cls dx H' A', Gr A H A' H' → ExAt G A' x cls dx → Ez x → E cls dx H')
/-- the spec speaks of n arguments -/
def ZSpec.Ar (sp : ZSpec) (n : Nat) : Prop := ∀ ds Q E, sp ds Q E → ds.length = n
/-- the name x stands for a def that keeps sp (dd: its defaults, that fill up) -/
def FnZ (G : Glob) (k : Nat) (x : Str) (n : Nat) (dd : List D) (sp : ZSpec) : Prop :=
  ∃ f fd ps ds, G.FnOk k f fd ps (spZ G n sp) ∧ G.mg x = some (.ref f) ∧ PySem.W.keepIn G.K (.ref f) = true ∧ Binds G.K fd ps ds ∧ Vals (dd.map vC) ds ∧ dd.all isC = true ∧ sp.Ar n
theorem FnZ.mono {G : Glob} {j k : Nat} {x : Str} {n : Nat} {dd : List D} {sp : ZSpec} (F : FnZ G j x n dd sp) (h : j ≤ k) : FnZ G k x n dd sp := by
  obtain ⟨f, fd, ps, ds, h1, h2⟩ := F
  exact ⟨f, fd, ps, ds, h1.mono h, h2⟩
section
variable {G : Glob} {N : List Str} {sc : Scope} {fn : Str → Bool} {W : WX} {k : Nat} {Z : Zc G N sc fn W k}
def mCall (sp : ZSpec) (dd : List D) (m : ZMA) : ZM := fun env Q E => m env (fun ds => sp (ds ++ dd) Q E) E
theorem shrL_C {K : PySem.W.Frag} {mg : Str → Option Value} {A : Hp} : ∀ {dd : List D}, dd.all isC = true → ShrL K mg A (dd.map vC) dd
  | [], _ => by simp [ShrL]
  | d :: dd, h => by
    simp only [List.all_cons, Bool.and_eq_true] at h
    simp only [List.map_cons, ShrL]
    exact ⟨shr_C h.1, shrL_C h.2⟩
theorem FnZ.ok {j : Nat} {f : Addr} {fd : FuncData} {ps : List Str} {sp : Sp} (F : G.FnOk j f fd ps sp) (i : Z.ι) : L2.FnOk (Z.X i).prog (Z.X i).w (Z.X i).K (Z.X i).mg (Z.X i).base (L2.CX (Z.X i).prog (Z.X i).w) j f fd ps sp := by
  rw [Z.hP, Z.hw, Z.hK, Z.hmg, Z.hb]; exact F
theorem ze_call {j : Nat} {x : Str} {n : Nat} {dd : List D} {sp : ZSpec} {p pos : Pos} {e : Expr} {es : List Expr} {m : ZMA} (F : FnZ G j x n dd sp) (hj : j ≤ k) (ha : ZA Z (e :: es) m) (hg : sc.names.lookup x = some .globalImplicit := by rfl)
    (hdb : (x == ("__debug__" : Str)) = false := by decide) (he : ∀ env, starEach (e :: es) env = (false, eval e env) :: starEach es env := by intro _; rfl) (hpl : ∀ env, (backTo pos (starEach es env)).any (·.1) = false := by intro _; rfl) :
    ZE Z (.Call (.Name x p) (e :: es) [] pos) (mCall sp dd m) := by
  obtain ⟨f, fd, ps, ds, h1, h2, h3, h4, h5, h6, h7⟩ := F
  obtain ⟨t, a1, a2⟩ := ha.ex
  refine ⟨_, fun i => pe_callSD (FnZ.ok h1 i) ((Z.room i).mono hj) (show (Z.X i).env.scope.names.lookup x = _ by rw [Z.hsc]; exact hg) (by rw [Z.hmg]; exact h2) (by rw [Z.hK]; exact h3) (by rw [Z.hK]; exact h4) h5 (passAt (Z.tk i)) (a1 i) hdb (he _) (hpl _), fun A H σ env Q Qz Ez h v hm hq hx => ?_⟩
  refine a2 A H σ env _ _ Ez h v hm (fun vs H1 A1 xs g1 s1 q1 => ?_) hx
  have s2 := s1.append (shrL_C (K := G.K) (mg := G.mg) (A := A1) h6)
  exact ⟨A1, xs ++ dd, Qz, Ez, by rw [s2.length]; exact h7 _ _ _ q1, g1.ah, s2, q1, fun v H2 A2 k d fp g2 o2 f2 q2 => hq v H2 A2 k d fp (g1.trans g2) o2 (f2.back g1.hh) q2, fun y cls dx H2 A2 g2 xa q2 => hx y cls dx H2 A2 (g1.trans g2) xa q2⟩
/-- f() -/
theorem ze_call0 {j : Nat} {x : Str} {n : Nat} {dd : List D} {sp : ZSpec} {p pos : Pos} (F : FnZ G j x n dd sp) (hj : j ≤ k) (hg : sc.names.lookup x = some .globalImplicit := by rfl)
    (hdb : (x == ("__debug__" : Str)) = false := by decide) : ZE Z (.Call (.Name x p) [] [] pos) (mCall sp dd mNil) := by
  obtain ⟨f, fd, ps, ds, h1, h2, h3, h4, h5, h6, h7⟩ := F
  refine ⟨tCallSD (spZ G n sp) (dd.map vC) (WE W) tNil, fun i => ⟨fun pins s σ H Q I h => ?_⟩, fun A H σ env Q Qz Ez h v hm hq hx => ?_⟩
  · refine wpAny_Call_Name_kw (ld_glob I (show (Z.X i).env.scope.names.lookup x = _ by rw [Z.hsc]; exact hg) (by rw [Z.hmg]; exact h2) ?_ hdb)
    exact PySem.W.callWith_K0 I.kIn (by rw [Z.hK]; exact h3) (run_fnSD (us := []) (FnZ.ok h1 i) ((Z.room i).mono hj) (by rw [Z.hK]; exact h4) h5 (passAt (Z.tk i) σ) I .nil h)
  · have s2 := shrL_C (K := G.K) (mg := G.mg) (A := A) h6
    exact ⟨A, dd, Qz, Ez, by rw [List.nil_append, s2.length]; exact h7 _ _ _ hm, h, s2, hm, hq, hx⟩
/-! ### fields -/
theorem ofString_inj {a b : String} (h : Str.ofString a = Str.ofString b) : a = b := by
  rw [Str.ofString_eq_toList, Str.ofString_eq_toList] at h
  have h1 : a.toList.map Char.toNat = b.toList.map Char.toNat := by
    have := congrArg (fun s => s.cps.toList) h
    simpa using this
  have h2 : ∀ l m : List Char, l.map Char.toNat = m.map Char.toNat → l = m := by
    intro l
    induction l with
    | nil => intro m h; cases m with
      | nil => rfl
      | cons _ _ => simp at h
    | cons c l ih => intro m h; cases m with
      | nil => simp at h
      | cons d m =>
        simp only [List.map_cons, List.cons.injEq] at h
        rw [ih m h.2, Char.toNat_inj.mp h.1]
  exact String.toList_inj.mp (h2 _ _ h1)
def fldD (f : String) : List String → List D → Option D
  | g :: gs, d :: ds => if f = g then some d else fldD f gs ds
  | _, _ => none
/-- of instances of the classes named -/
def mFld (cs : List String) (f : String) (m : ZM) : ZM := fun env Q E => m env (fun _ d => match d with
  | .obj c fs ds => c ∈ cs ∧ (match fldD f fs ds with
    | some x => Q .sh x
    | none => False)
  | .slf c fs ds => c ∈ cs ∧ (match fldD f fs ds with
    | some x => Q .sh x
    | none => False)
  | _ => False) E
def ClsF (G : Glob) (c f : String) : Prop := ∀ C, G.mg (Str.ofString c) = some (.ref C) → Cls G.K C ∧ NoAttr G.K C (Str.ofString f)
theorem lookup_shr {K : PySem.W.Frag} {mg : Str → Option Value} {A : Hp} {f : String} {x : D} : ∀ {fv : List (Str × V)} {fs : List String} {ds : List D}, fv.map (·.1) = fs.map Str.ofString → ShrL K mg A (fv.map (·.2)) ds → fldD f fs ds = some x → ∃ v, fv.lookup (Str.ofString f) = some v ∧ Shr K mg A v x
  | [], [], ds, _, _, h => by simp [fldD] at h
  | [], _ :: _, _, e, _, _ => by simp at e
  | _ :: _, [], _, e, _, _ => by simp at e
  | (g, v) :: fv, g' :: fs, [], e, s, _ => by simp [ShrL] at s
  | (g, v) :: fv, g' :: fs, d :: ds, e, s, h => by
    simp only [List.map_cons, ShrL] at s
    simp only [List.map_cons, List.cons.injEq] at e
    simp only [fldD] at h
    simp only [List.lookup_cons]
    by_cases hf : f = g'
    · subst hf
      rw [if_pos rfl] at h
      cases h
      have : (Str.ofString f == g) = true := by rw [e.1]; exact beq_self_eq_true _
      rw [this]
      exact ⟨v, rfl, s.1⟩
    · rw [if_neg hf] at h
      have : (Str.ofString f == g) = false := by
        rw [e.1]
        exact beq_eq_false_iff_ne.mpr fun z => hf (ofString_inj z)
      rw [this]
      exact lookup_shr e.2 s.2 h
theorem ze_fld {cs : List String} {e : Expr} {f : String} {m : ZM} {pos : Pos} (hc : ∀ c ∈ cs, ClsF G c f) (he : ZE Z e m) (hb : ∀ env, attributeBase e (Str.ofString f) env (eval e env) = eval e env := by intro _; rfl) : ZE Z (.Attribute e (Str.ofString f) pos) (mFld cs f m) := by
  obtain ⟨t, a1, a2⟩ := he.ex
  refine ⟨tFld G.K t (Str.ofString f), fun i => ?_, fun A H σ env Q Qz Ez h v hm hq hx => ?_⟩
  · have := pe_fld (pos := pos) (f := Str.ofString f) (a1 i) (hb _)
    rw [Z.hK i] at this
    exact this
  · refine a2.go h v hm (fun x H1 A1 _ d g1 s1 q1 => ?_) hx
    have fin : ∀ {a C dx : Addr} {c : String} {fv : List (Str × V)} {fs : List String} {ds : List D}, G.mg (Str.ofString c) = some (.ref C) → A1 a = some (.ins C dx fv) → fv.map (·.1) = fs.map Str.ofString → ShrL G.K G.mg A1 (fv.map (·.2)) ds → (c ∈ cs ∧ (match fldD f fs ds with
        | some x => Qz .sh x
        | none => False)) → ∃ a' C dx fs v, (V.ref a) = V.ref a' ∧ H1 a' = some (.ins C dx fs) ∧ Cls G.K C ∧ NoAttr G.K C (Str.ofString f) ∧ fs.lookup (Str.ofString f) = some v ∧ Q v H1 := fun {a C dx c fv fs ds} hC h1 h2 h3 q => by
      obtain ⟨q0, q1⟩ := q
      split at q1
      · rename_i y e
        obtain ⟨u, e1, e2⟩ := lookup_shr h2 h3 e
        obtain ⟨k1, k2⟩ := hc c q0 C hC
        exact ⟨a, C, dx, fv, u, rfl, g1.ah _ _ h1, k1, k2, e1, hq u H1 A1 .sh y [] g1 (own_sh e2) Fresh.nil q1⟩
      · exact q1.elim
    split at q1
    · simp only [Shr] at s1
      obtain ⟨a, C, dx, fv, rfl, hC, h1, h0, h2, h3⟩ := s1
      exact fin hC h1 h2 h3 q1
    · simp only [Shr] at s1
      obtain ⟨a, C, dx, fv, rfl, hC, h1, h2, h3⟩ := s1
      exact fin hC h1 h2 h3 q1
    · exact q1.elim
end

/-! ### a def by its body -/
structure Zst {G : Glob} {N : List Str} {sc : Scope} {fn : Str → Bool} {W : WX} {k : Nat} (Z : Zc G N sc fn W k) : Prop where
  po : ∀ i, PassesOwn (model (Z.X i).prog (Z.X i).w) (Z.X i).A (Z.X i).env (Z.X i).xe
  stack : ∀ i, (Z.X i).stack = (Z.X i).env :: (Z.X i).outer
  frame : ∀ i, (Z.X i).env.frame = some (Z.X i).env.locals
def env0 (N : List Str) (ds : List D) : DEnv := ds.map (fun d => some (.sh, d)) ++ List.replicate (N.length - ds.length) none
abbrev ends0 (Q : Kd → D → Prop) (E : Exn → Prop) : ZEnds := { nx := fun _ => Q .sh .non, rt := Q, bk := fun _ => False, ct := fun _ => False, ex := fun _ => E }
theorem zi_start {G : Glob} {A H : Hp} {N : List Str} {vs : List V} {ds : List D} (h : Sub A H) (s : ShrL G.K G.mg A vs ds) : ZI G A H A H (L2.start N vs) (env0 N ds) (fun _ => []) := by
  refine ⟨Gr.refl h, ?_, fun i k d e => ?_, fun _ => List.nodup_nil, fun _ _ _ a m => (by cases m), fun _ a m => (by cases m)⟩
  · unfold L2.start env0
    simp [s.length]
  · unfold env0 at e
    by_cases hi : i < ds.length
    · rw [List.getElem?_append_left (by simpa using hi), List.getElem?_map] at e
      cases q : ds[i]? with
      | none => rw [q] at e; cases e
      | some x =>
        rw [q] at e
        have e : some (some (Kd.sh, x)) = some (some (k, d)) := e
        cases e
        obtain ⟨v, e1, e2⟩ := s.get q
        refine ⟨v, ?_, own_sh e2⟩
        unfold L2.start
        rw [List.getElem?_append_left (by simp [s.length]; exact hi), List.getElem?_map, e1]
        rfl
    · rw [List.getElem?_append_right (by simpa using hi), List.getElem?_replicate] at e
      split at e <;> cases e
theorem def_ok {G : Glob} {x : Str} {params : Arguments} {body : List Stmt} {scope : Scope} {dvs : List V} {kws : List (Str × V)} {f : Addr} {fd : FuncData} {N ps : List Str} {k n : Nat} {sp : ZSpec} {w : ZMS} {dd : List D} {ds : List Value} {qual : Str}
    (F : FunD G.K x qual params body scope dvs kws f fd) (S : FnScope N ps scope) (hm : G.mg x = some (.ref f)) (hb : Binds G.K fd ps ds) (hd : Vals (dd.map vC) ds) (hc : dd.all isC = true) (hn : ps.length = n) (ar : sp.Ar n)
    (hw : ∀ (W : WX) (Z : Zc G N scope (fun _ => true) W k), Zst Z → ZSs Z body w) (hsp : ∀ ds Q E, sp ds Q E → w (env0 N ds) (ends0 Q E)) : FnZ G (k + 1) x n dd sp := by
  refine ⟨f, fd, ps, ds, FunD.ok F S (fun vs H Q E h => ?_) fun cdv A outer s H vs Q E hr h => ?_, hm, F.kp, hb, hd, hc, ar⟩
  · obtain ⟨_, _, _, _, h, _⟩ := h
    rw [hn]; exact h
  · obtain ⟨A0, xs, Qz, Ez, hl, hs, sv, hsp', hq, hx⟩ := h
    let X := cxOf (L2.CX G.P G.w) G.P G.w G.K G.mg G.base N qual scope f cdv A outer s H E
    have tk : Takes X (fun cls d _ H => E cls d H) := takes_of rfl rfl rfl rfl
    let Z : Zc G N scope (fun _ => true) (fun cls d _ H => E cls d H) k := ⟨Unit, fun _ => X, fun _ => rfl, S.nd, fun _ => rfl, fun _ => rfl, fun _ => rfl, fun _ => rfl, fun _ => rfl, fun _ => rfl, fun _ => rfl, fun _ => rfl, fun _ => hr, fun _ => tk⟩
    have st : Zst Z := ⟨fun _ => passes_of rfl, fun _ => rfl, fun _ => rfl⟩
    obtain ⟨t, a1, a2⟩ := (hw _ Z st).ex
    refine ⟨t, a1 (), a2 A0 H A0 H _ _ _ _ _ (zi_start hs sv) (hsp xs Qz Ez hsp') ⟨fun A' H' σ' env' fp' I s q => ?_, fun A' H' v k d f g o fr q => hq v H' A' k d f g o fr q, fun A' H' σ' env' fp' I s q => q.elim, fun A' H' σ' env' fp' I s q => q.elim, fun A' H' σ' env' fp' y cls dx I s xa q => hx y cls dx H' A' I.gr xa q⟩⟩
    exact hq .non H' A' .sh .non [] I.gr (own_sh (by simp [Shr])) Fresh.nil q
end ZL


namespace ZL
open PySem PySem.Spec PyProof.Rows L2

/-! ### what is walked -/
def Walks (G : Glob) (J : It) (ds : List D) (A : Hp) : Prop := ∀ A' H, Sub A A' → Sub A' H →
  (∀ i d, ds[i]? = some d → J.go i H ∧ ∀ x H', J.yld i H x H' → ∃ A2, Gr A' H A2 H' ∧ Shr G.K G.mg A2 x d) ∧ J.stop ds.length H
theorem Walks.up {G : Glob} {J : It} {ds : List D} {A A1 : Hp} (w : Walks G J ds A) (h : Sub A A1) : Walks G J ds A1 := fun A' H s k => w A' H (sub_trans h s) k
def rangeD (lo : Int) (n : Nat) : List D := (List.range n).map fun (i : Nat) => D.int (lo + (i : Int))
theorem walks_range {G : Glob} {A : Hp} (lo : Int) (n : Nat) : Walks G (Itr lo n) (rangeD lo n) A := fun A' H s k => by
  have hl : (rangeD lo n).length = n := by simp [rangeD]
  refine ⟨fun i d e => ?_, by rw [hl]; exact Nat.le_refl n⟩
  have hi : i < n := by
    rw [List.getElem?_eq_some_iff] at e
    rw [← hl]; exact e.1
  refine ⟨hi, fun x H' y => ?_⟩
  obtain ⟨e1, e2⟩ := y
  subst e1 e2
  refine ⟨A', Gr.refl k, ?_⟩
  unfold rangeD at e
  rw [List.getElem?_map, List.getElem?_range hi] at e
  cases e
  simp [Shr]
theorem walks_list {G : Glob} {A : Hp} {a : Addr} {vs : List V} {ds : List D} (h : A a = some (.lst vs)) (s : ShrL G.K G.mg A vs ds) : Walks G (Itl G.K a) ds A := fun A' H s' k => by
  refine ⟨fun i d e => ?_, ⟨vs, sqL_of k (s' _ _ h), by rw [s.length]; exact Nat.le_refl _⟩⟩
  obtain ⟨v, e1, e2⟩ := s.get e
  refine ⟨⟨vs, v, sqL_of k (s' _ _ h), e1⟩, fun x H' y => ?_⟩
  obtain ⟨y1, y2⟩ := y
  subst y1
  have := y2 vs (sqL_of k (s' _ _ h))
  rw [e1] at this; cases this
  exact ⟨A', Gr.refl k, e2.mono s'⟩
theorem walks_tup {G : Glob} {A : Hp} {a : Addr} {vs : List V} {ds : List D} (h : A a = some (.tup vs)) (s : ShrL G.K G.mg A vs ds) : Walks G (Itt G.K a) ds A := fun A' H s' k => by
  refine ⟨fun i d e => ?_, ⟨vs, sqT_of k (s' _ _ h), by rw [s.length]; exact Nat.le_refl _⟩⟩
  obtain ⟨v, e1, e2⟩ := s.get e
  refine ⟨⟨vs, v, sqT_of k (s' _ _ h), e1⟩, fun x H' y => ?_⟩
  obtain ⟨y1, y2⟩ := y
  subst y1
  have := y2 vs (sqT_of k (s' _ _ h))
  rw [e1] at this; cases this
  exact ⟨A', Gr.refl k, e2.mono s'⟩
def signsD (s : Str) : List D := s.cps.toList.map fun c => D.str ⟨#[c]⟩
theorem walks_str {G : Glob} {A : Hp} (z : Str) : Walks G (Its z) (signsD z) A := fun A' H s' k => by
  have hl : (signsD z).length = z.cps.size := by simp [signsD]
  refine ⟨fun i d e => ?_, by rw [hl]; exact Nat.le_refl _⟩
  unfold signsD at e
  rw [List.getElem?_map] at e
  cases q : z.cps.toList[i]? with
  | none => rw [q] at e; cases e
  | some c =>
    rw [q] at e
    cases e
    have hc : z.cps[i]? = some c := by rw [← Array.getElem?_toList]; exact q
    refine ⟨(Array.getElem?_eq_some_iff.mp hc).1, fun x H' y => ?_⟩
    obtain ⟨y1, c', y2, y3⟩ := y
    subst y1 y3
    rw [hc] at y2; cases y2
    exact ⟨A', Gr.refl k, by simp [Shr]⟩
theorem walks_scr {G : Glob} {A : Hp} {a : Addr} {ns : List Int} (h : SqL G.K A a (ns.map V.int)) : Walks G (Itl G.K a) (ns.map D.int) A := fun A' H s' k => by
  have h' := sqL_mono k (sqL_mono s' h)
  refine ⟨fun i d e => ?_, ⟨_, h', by simp⟩⟩
  rw [List.getElem?_map] at e
  cases q : ns[i]? with
  | none => rw [q] at e; cases e
  | some n =>
    rw [q] at e; cases e
    have e1 : (ns.map V.int)[i]? = some (V.int n) := by rw [List.getElem?_map, q]; rfl
    refine ⟨⟨_, _, h', e1⟩, fun x H' y => ?_⟩
    obtain ⟨y1, y2⟩ := y
    subst y1
    have := y2 _ h'
    rw [e1] at this; cases this
    exact ⟨A', Gr.refl k, by simp [Shr]⟩
/-- enumerate -/
def enumD (n : Nat) : List D → List D
  | [] => []
  | d :: ds => .tup [.int (n : Int), d] :: enumD (n + 1) ds
theorem enumD_get : ∀ {ds : List D} {n i : Nat} {d : D}, (enumD n ds)[i]? = some d → ∃ x, ds[i]? = some x ∧ d = .tup [.int ((n + i : Nat) : Int), x]
  | [], _, _, _, h => by simp [enumD] at h
  | e :: ds, n, 0, d, h => by
    simp only [enumD, List.getElem?_cons_zero, Option.some.injEq] at h
    exact ⟨e, rfl, by rw [← h]; simp⟩
  | e :: ds, n, i + 1, d, h => by
    simp only [enumD, List.getElem?_cons_succ] at h
    obtain ⟨x, h1, h2⟩ := enumD_get h
    exact ⟨x, by simpa using h1, by rw [h2]; congr 4; omega⟩
theorem enumD_len : ∀ (ds : List D) (n : Nat), (enumD n ds).length = ds.length
  | [], _ => rfl
  | d :: ds, n => by simp [enumD, enumD_len ds]
theorem walks_enum {G : Glob} {A : Hp} {a : Addr} {vs : List V} {ds : List D} (h : A a = some (.lst vs)) (s : ShrL G.K G.mg A vs ds) : Walks G (Ite G.K a) (enumD 0 ds) A := fun A' H s' k => by
  refine ⟨fun i d e => ?_, ⟨vs, sqL_of k (s' _ _ h), by rw [enumD_len, s.length]; exact Nat.le_refl _⟩⟩
  obtain ⟨x, e0, e3⟩ := enumD_get e
  obtain ⟨v, e1, e2⟩ := s.get e0
  refine ⟨⟨vs, v, sqL_of k (s' _ _ h), e1⟩, fun y H' q => ?_⟩
  obtain ⟨T, u, q1, q2, q3, q4⟩ := q
  subst q1 q3
  have := q4 vs (sqL_of k (s' _ _ h))
  rw [e1] at this; cases this
  refine ⟨_, Gr.lay (o := .tup [.int i, v]) k q2, ?_⟩
  subst e3
  simp only [Shr, ShrL]
  exact ⟨T, _, rfl, upd_same, by simp [Shr], (e2.mono s').mono (Gr.lay (o := .tup [.int i, v]) k q2).aa, trivial⟩
/-- the items of a datum -/
def itemsD : D → Option (List D)
  | .lst ds => some ds
  | .tup ds => some ds
  | .str s => some (signsD s)
  | .scr ns => some (ns.map D.int)
  | _ => none

abbrev ZMI := SEnv → (List D → Prop) → (Exn → Prop) → Prop
abbrev ZMIV := DEnv → (DEnv → List D → Prop) → (Exn → Prop) → Prop
def SndI (G : Glob) (W : WX) (wi : TI) (m : ZMI) : Prop := ∀ A H σ env (R : It → Hp → Prop) Qz Ez, Sub A H → View G A σ env → m env Qz Ez →
  (∀ J H' A' ds, Gr A H A' H' → Walks G J ds A' → Qz ds → R J H') → Esc G W A H σ Ez → wi σ H R
def SndIV (G : Glob) (W : WX) (wi : TI) (m : ZMIV) : Prop := ∀ A0 H0 A H σ env fp (R : It → Hp → Prop) Qz Ez, ZI G A0 H0 A H σ env fp → m env Qz Ez →
  (∀ J H' A' env' fp' ds, ZI G A0 H0 A' H' σ env' fp' → Sub A A' → Walks G J ds A' → Qz env' ds → R J H') → EscV G W A0 H0 A σ env fp Ez → wi σ H R
theorem pi_or {X : Cx} {tg it : Expr} {a b : TI} (h : PI X tg it a) (k : PI X tg it b) : PI X tg it (fun σ H R => a σ H R ∨ b σ H R) := by
  refine ⟨fun pins s σ H R I q => ?_⟩
  rcases q with q | q
  · exact h.run pins s σ H R I q
  · exact k.run pins s σ H R I q
section
variable {G : Glob} {N : List Str} {sc : Scope} {fn : Str → Bool} {W : WX} {k : Nat}
structure ZIE (Z : Zc G N sc fn W k) (tg it : Expr) (m : ZMI) : Prop where
  ex : ∃ wi, (∀ i, PI (Z.X i) tg it wi) ∧ SndI G W wi m
structure ZIV (Z : Zc G N sc fn W k) (tg it : Expr) (m : ZMIV) : Prop where
  ex : ∃ wi, (∀ i, PI (Z.X i) tg it wi) ∧ SndIV G W wi m
variable {Z : Zc G N sc fn W k}
def oRng1 (ds : List D) (Q : List D → Prop) : Prop := match ds with
  | [.int n] => (-(2 ^ 62) ≤ n ∧ n < 2 ^ 62) ∧ Q (rangeD 0 n.toNat)
  | _ => False
def oRng2 (ds : List D) (Q : List D → Prop) : Prop := match ds with
  | [.int a, .int b] => (-(2 ^ 62) ≤ a ∧ a < 2 ^ 62 ∧ -(2 ^ 62) ≤ b ∧ b < 2 ^ 62) ∧ Q (rangeD a (b - a).toNat)
  | _ => False
def mRng (o : List D → (List D → Prop) → Prop) (m : ZMA) : ZMI := fun env Q E => m env (fun ds => o ds Q) E
def mRngV (o : List D → (List D → Prop) → Prop) (m : ZMA) : ZMIV := fun env Q E => m (vw env) (fun ds => o ds (Q env)) (fun x => clnX x = true ∧ E x)
theorem zie_range1 {tg a : Expr} {m : ZMA} {p pos : Pos} (hm : Free G "range") (ha : ZA Z [a] m) (hg : sc.names.lookup ("range" : Str) = some .globalImplicit := by rfl) (hs : ∀ env, starEach [a] env = [(false, eval a env)] := by intro _; rfl) : ZIE Z tg (.Call (.Name "range" p) [a] [] pos) (mRng oRng1 m) := by
  obtain ⟨t, a1, a2⟩ := ha.ex
  refine ⟨_, fun i => pi_range1 (show (Z.X i).env.scope.names.lookup _ = _ by rw [Z.hsc]; exact hg) (by rw [Z.hmg]; exact hm) (a1 i) (hs _), fun A H σ env R Qz Ez h v hm' hq he => ?_⟩
  refine a2 A H σ env _ _ Ez h v hm' (fun vs H1 A1 ds g1 s1 q1 => ?_) he
  unfold oRng1 at q1
  split at q1
  · rename_i n
    obtain ⟨u, rfl, s⟩ := shrL1 s1
    simp only [Shr] at s
    subst s
    exact ⟨n, rfl, q1.1.1, q1.1.2, hq _ H1 A1 _ g1 (walks_range 0 n.toNat) q1.2⟩
  · exact q1.elim
theorem zie_range2 {tg a b : Expr} {m : ZMA} {p pos : Pos} (hm : Free G "range") (ha : ZA Z [a, b] m) (hg : sc.names.lookup ("range" : Str) = some .globalImplicit := by rfl) (hs : ∀ env, starEach [a, b] env = [(false, eval a env), (false, eval b env)] := by intro _; rfl) (hs2 : ∀ env, starEach [b] env = [(false, eval b env)] := by intro _; rfl) :
    ZIE Z tg (.Call (.Name "range" p) [a, b] [] pos) (mRng oRng2 m) := by
  obtain ⟨t, a1, a2⟩ := ha.ex
  refine ⟨_, fun i => pi_range2 (show (Z.X i).env.scope.names.lookup _ = _ by rw [Z.hsc]; exact hg) (by rw [Z.hmg]; exact hm) (a1 i) (hs _) (hs2 _), fun A H σ env R Qz Ez h v hm' hq he => ?_⟩
  refine a2 A H σ env _ _ Ez h v hm' (fun vs H1 A1 ds g1 s1 q1 => ?_) he
  unfold oRng2 at q1
  split at q1
  · rename_i a b
    obtain ⟨u, w, rfl, s, s'⟩ := shrL2 s1
    simp only [Shr] at s s'
    subst s s'
    exact ⟨a, b, rfl, q1.1, hq _ H1 A1 _ g1 (walks_range a _) q1.2⟩
  · exact q1.elim
theorem sndIV_range1 {t : TA} {m : ZMA} (a2 : SndA G W t m) : SndIV G W (iRng1 t) (mRngV oRng1 m) := fun A0 H0 A H σ env fp R Qz Ez I hm hq he => by
  obtain ⟨A1, s1, s2, v1, back⟩ := I.lend
  refine a2 A1 H σ (vw env) _ _ _ s2 v1 hm (fun vs H' A' ds g1 sv q1 => ?_) fun x cls dx H' A' g xa q => ?_
  · obtain ⟨A3, g3, c3, n3⟩ := back A' H' g1
    unfold oRng1 at q1
    split at q1
    · rename_i n
      obtain ⟨u, rfl, s⟩ := shrL1 sv
      simp only [Shr] at s
      subst s
      exact ⟨n, rfl, q1.1.1, q1.1.2, hq _ H' A3 env fp _ (I.grow g3) g3.aa (walks_range 0 n.toNat) q1.2⟩
    · exact q1.elim
  · obtain ⟨A3, g3, c3, n3⟩ := back A' H' g
    exact he x cls dx H' A3 (I.grow g3) g3.aa (xa.cl c3 q.1) q.2
theorem sndIV_range2 {t : TA} {m : ZMA} (a2 : SndA G W t m) : SndIV G W (iRng2 t) (mRngV oRng2 m) := fun A0 H0 A H σ env fp R Qz Ez I hm hq he => by
  obtain ⟨A1, s1, s2, v1, back⟩ := I.lend
  refine a2 A1 H σ (vw env) _ _ _ s2 v1 hm (fun vs H' A' ds g1 sv q1 => ?_) fun x cls dx H' A' g xa q => ?_
  · obtain ⟨A3, g3, c3, n3⟩ := back A' H' g1
    unfold oRng2 at q1
    split at q1
    · rename_i a b
      obtain ⟨u, w, rfl, s, s'⟩ := shrL2 sv
      simp only [Shr] at s s'
      subst s s'
      exact ⟨a, b, rfl, q1.1, hq _ H' A3 env fp _ (I.grow g3) g3.aa (walks_range a _) q1.2⟩
    · exact q1.elim
  · obtain ⟨A3, g3, c3, n3⟩ := back A' H' g
    exact he x cls dx H' A3 (I.grow g3) g3.aa (xa.cl c3 q.1) q.2
theorem ziv_range1 {tg a : Expr} {m : ZMA} {p pos : Pos} (hm : Free G "range") (ha : ZA Z [a] m) (hg : sc.names.lookup ("range" : Str) = some .globalImplicit := by rfl) (hs : ∀ env, starEach [a] env = [(false, eval a env)] := by intro _; rfl) : ZIV Z tg (.Call (.Name "range" p) [a] [] pos) (mRngV oRng1 m) := by
  obtain ⟨t, a1, a2⟩ := ha.ex
  exact ⟨_, fun i => pi_range1 (show (Z.X i).env.scope.names.lookup _ = _ by rw [Z.hsc]; exact hg) (by rw [Z.hmg]; exact hm) (a1 i) (hs _), sndIV_range1 a2⟩
theorem ziv_range2 {tg a b : Expr} {m : ZMA} {p pos : Pos} (hm : Free G "range") (ha : ZA Z [a, b] m) (hg : sc.names.lookup ("range" : Str) = some .globalImplicit := by rfl) (hs : ∀ env, starEach [a, b] env = [(false, eval a env), (false, eval b env)] := by intro _; rfl) (hs2 : ∀ env, starEach [b] env = [(false, eval b env)] := by intro _; rfl) :
    ZIV Z tg (.Call (.Name "range" p) [a, b] [] pos) (mRngV oRng2 m) := by
  obtain ⟨t, a1, a2⟩ := ha.ex
  exact ⟨_, fun i => pi_range2 (show (Z.X i).env.scope.names.lookup _ = _ by rw [Z.hsc]; exact hg) (by rw [Z.hmg]; exact hm) (a1 i) (hs _) (hs2 _), sndIV_range2 a2⟩

theorem kpi {tg it : Expr} (wi : PySem.W.Frag → TI) (h : ∀ i, PI (Z.X i) tg it (wi (Z.X i).K)) (i : Z.ι) : PI (Z.X i) tg it (wi G.K) := by
  have := h i
  rw [Z.hK i] at this
  exact this
def tItems (K : PySem.W.Frag) (t : TE) : TI := fun σ H R => iList K t σ H R ∨ (iTup K t σ H R ∨ iStr t σ H R)
theorem pi_items {tg it : Expr} {t : TE} (h : ∀ i, PE (Z.X i) it t) (i : Z.ι) : PI (Z.X i) tg it (tItems G.K t) :=
  pi_or (kpi (fun K => iList K t) (fun i => pi_list (h i)) i) (pi_or (kpi (fun K => iTup K t) (fun i => pi_tup (h i)) i) (pi_str (h i)))
/-- the walk over a shared datum; iList, iTup and iStr each run the expression: the choice is made by what it will be. So the expression's kind is asked ahead -/
def mItems (ok : D → Option (List D)) (m : ZM) : ZMI := fun env Q E => m env (fun _ d => match ok d with
  | some ds => Q ds
  | none => False) E
def okL : D → Option (List D)
  | .lst ds => some ds
  | .scr ns => some (ns.map D.int)
  | _ => none
def okT : D → Option (List D)
  | .tup ds => some ds
  | _ => none
def okS : D → Option (List D)
  | .str s => some (signsD s)
  | _ => none
theorem snd_itemsL {t : TE} {m : ZM} (s : Snd G W t m) : SndI G W (iList G.K t) (mItems okL m) := fun A H σ env R Qz Ez h v hm hq he =>
  s.go h v hm (fun x H1 A1 _ d g1 s1 q1 => by
    cases d with
    | lst ds =>
      simp only [Shr] at s1
      obtain ⟨a, vs, rfl, h1, h2⟩ := s1
      exact ⟨a, rfl, ⟨vs, sqL_of g1.ah h1⟩, hq _ H1 A1 _ g1 (walks_list h1 h2) q1⟩
    | scr ns =>
      simp only [Shr] at s1
      obtain ⟨a, rfl, h1⟩ := s1
      exact ⟨a, rfl, ⟨_, sqL_mono g1.ah h1⟩, hq _ H1 A1 _ g1 (walks_scr h1) q1⟩
    | _ => exact q1.elim) he
theorem snd_itemsT {t : TE} {m : ZM} (s : Snd G W t m) : SndI G W (iTup G.K t) (mItems okT m) := fun A H σ env R Qz Ez h v hm hq he =>
  s.go h v hm (fun x H1 A1 _ d g1 s1 q1 => by
    cases d with
    | tup ds =>
      simp only [Shr] at s1
      obtain ⟨a, vs, rfl, h1, h2⟩ := s1
      exact ⟨a, rfl, ⟨vs, sqT_of g1.ah h1⟩, hq _ H1 A1 _ g1 (walks_tup h1 h2) q1⟩
    | _ => exact q1.elim) he
theorem snd_itemsS {t : TE} {m : ZM} (s : Snd G W t m) : SndI G W (iStr t) (mItems okS m) := fun A H σ env R Qz Ez h v hm hq he =>
  s.go h v hm (fun x H1 A1 _ d g1 s1 q1 => by
    cases d with
    | str z =>
      simp only [Shr] at s1
      exact ⟨z, s1, hq _ H1 A1 _ g1 (walks_str z) q1⟩
    | _ => exact q1.elim) he
theorem zie_list {tg it : Expr} {m : ZM} (h : ZE Z it m) : ZIE Z tg it (mItems okL m) := by
  obtain ⟨t, a1, a2⟩ := h.ex
  exact ⟨_, fun i => kpi (fun K => iList K t) (fun i => pi_list (a1 i)) i, snd_itemsL a2⟩
theorem zie_tup {tg it : Expr} {m : ZM} (h : ZE Z it m) : ZIE Z tg it (mItems okT m) := by
  obtain ⟨t, a1, a2⟩ := h.ex
  exact ⟨_, fun i => kpi (fun K => iTup K t) (fun i => pi_tup (a1 i)) i, snd_itemsT a2⟩
theorem zie_str {tg it : Expr} {m : ZM} (h : ZE Z it m) : ZIE Z tg it (mItems okS m) := by
  obtain ⟨t, a1, a2⟩ := h.ex
  exact ⟨_, fun i => pi_str (a1 i), snd_itemsS a2⟩
/-- either a list or a tuple -/
theorem zie_or {tg it : Expr} {m m' : ZMI} (h : ZIE Z tg it m) (h' : ZIE Z tg it m') : ZIE Z tg it (fun env Q E => m env Q E ∨ m' env Q E) := by
  obtain ⟨t, a1, a2⟩ := h.ex
  obtain ⟨t', b1, b2⟩ := h'.ex
  refine ⟨_, fun i => pi_or (a1 i) (b1 i), fun A H σ env R Qz Ez h v hm hq he => ?_⟩
  rcases hm with hm | hm
  · exact .inl (a2 A H σ env R Qz Ez h v hm hq he)
  · exact .inr (b2 A H σ env R Qz Ez h v hm hq he)
def mEnum (m : ZMA) : ZMI := fun env Q E => m env (fun ds => match ds with
  | [.lst xs] => Q (enumD 0 xs)
  | _ => False) E
theorem zie_enum {elts : List Expr} {kk : Nat} {tpos : Pos} {a : Expr} {m : ZMA} {p pos : Pos} (hm : Free G "enumerate") (ha : ZA Z [a] m) (hg : sc.names.lookup ("enumerate" : Str) = some .globalImplicit := by rfl) (hs : ∀ env, starEach [a] env = [(false, eval a env)] := by intro _; rfl) :
    ZIE Z (.Tuple elts kk tpos) (.Call (.Name "enumerate" p) [a] [] pos) (mEnum m) := by
  obtain ⟨t, a1, a2⟩ := ha.ex
  refine ⟨iEnum G.K t, fun i => kpi (fun K => iEnum K t) (fun i => pi_enum (show (Z.X i).env.scope.names.lookup _ = _ by rw [Z.hsc]; exact hg) (by rw [Z.hmg]; exact hm) (a1 i) (hs _)) i, fun A H σ env R Qz Ez h v hm' hq he => ?_⟩
  refine a2 A H σ env _ _ Ez h v hm' (fun vs H1 A1 ds g1 s1 q1 => ?_) he
  split at q1
  · obtain ⟨u, rfl, s⟩ := shrL1 s1
    simp only [Shr] at s
    obtain ⟨a, xs, rfl, h1, h2⟩ := s
    exact ⟨a, xs, rfl, sqL_of g1.ah h1, hq _ H1 A1 _ g1 (walks_enum h1 h2) q1⟩
  · exact q1.elim
/-- in a statement: what is walked is shared, or made here -/
def mIV (m : ZMI) : ZMIV := fun env Q E => m (vs env) (fun ds => Q env ds) E
theorem ziv_S {tg it : Expr} {m : ZMI} (h : ZIE Z tg it m) : ZIV Z tg it (mIV m) := by
  obtain ⟨t, a1, a2⟩ := h.ex
  refine ⟨t, a1, fun A0 H0 A H σ env fp R Qz Ez I hm hq he => ?_⟩
  refine a2 A H σ (vs env) R _ _ I.sub I.view hm (fun J H' A' ds g w q => ?_) fun x cls dx H' A' g xa q => ?_
  · exact hq J H' A' env fp ds (I.grow g) g.aa w q
  · exact he x cls dx H' A' (I.grow g) g.aa xa q

/-! ### targets -/
abbrev ZMG := D → DEnv → (DEnv → Prop) → Prop
def SndG (G : Glob) (g : TG) (m : ZMG) : Prop := ∀ A0 H0 A H σ env fp x d (Q : L2.St → Hp → Prop) Qz, ZI G A0 H0 A H σ env fp → Shr G.K G.mg A x d → m d env Qz →
  (∀ σ' env' fp', ZI G A0 H0 A H σ' env' fp' → Qz env' → Q σ' H) → g x σ H Q
structure ZG (Z : Zc G N sc fn W k) (tg : Expr) (m : ZMG) : Prop where
  ex : ∃ g, (∀ i, PG (Z.X i) tg g) ∧ SndG G g m
abbrev ZMGs := List D → DEnv → (DEnv → Prop) → Prop
def SndGs (G : Glob) (g : TGs) (m : ZMGs) : Prop := ∀ A0 H0 A H σ env fp xs ds (Q : L2.St → Hp → Prop) Qz, ZI G A0 H0 A H σ env fp → ShrL G.K G.mg A xs ds → m ds env Qz →
  (∀ σ' env' fp', ZI G A0 H0 A H σ' env' fp' → Qz env' → Q σ' H) → g xs σ H Q
structure ZGs (Z : Zc G N sc fn W k) (tg : List Expr) (m : ZMGs) : Prop where
  ex : ∃ g, (∀ i, PGs (Z.X i) tg g) ∧ SndGs G g m
def gN (i : Nat) : ZMG := fun d env Q => i < env.length ∧ Q (env.set i (some (.sh, d)))
theorem zg_name (i : Nat) {x : Str} {pos : Pos} (hi : N[i]? = some x := by rfl) (hx : Loc sc x := by first | exact Or.inl rfl | exact Or.inr rfl) (hf : fn x = true ∨ sc.names.lookup x = some .local := by first | exact .inl rfl | exact .inr rfl) : ZG Z (.Name x pos) (gN i) := by
  refine ⟨_, fun j => pg_name (by rw [Z.hN]; exact Z.nd) (by rw [Z.hN]; exact hi) (by rw [Z.hsc]; exact hx) (by rw [Z.hfn, Z.hsc]; exact hf), fun A0 H0 A H σ env fp x d Q Qz I s hm hq => ?_⟩
  exact hq _ _ _ (I.put (own_sh s) ⟨List.nodup_nil, fun a m => by cases m⟩ hm.1) hm.2
def gNil' : ZMGs := fun ds env Q => ds = [] ∧ Q env
def gCons' (a : ZMG) (b : ZMGs) : ZMGs := fun ds env Q => match ds with
  | d :: r => a d env (fun env' => b r env' Q)
  | [] => False
theorem zgs_nil : ZGs Z [] gNil' := ⟨_, fun _ => pgs_nil, fun A0 H0 A H σ env fp xs ds Q Qz I s hm hq => by
  obtain ⟨e, hm⟩ := hm
  subst e
  cases xs with
  | nil => exact ⟨rfl, hq _ _ _ I hm⟩
  | cons _ _ => simp [ShrL] at s⟩
theorem zgs_cons {e : Expr} {es : List Expr} {a : ZMG} {b : ZMGs} (h1 : ZG Z e a) (h2 : ZGs Z es b) (hs : ∀ env, (assignEach (e :: es) env).map (·.2) = assign e env :: (assignEach es env).map (·.2) := by intro _; rfl) : ZGs Z (e :: es) (gCons' a b) := by
  obtain ⟨g, a1, a2⟩ := h1.ex
  obtain ⟨g', b1, b2⟩ := h2.ex
  refine ⟨_, fun i => pgs_cons (a1 i) (b1 i) (hs _), fun A0 H0 A H σ env fp xs ds Q Qz I s hm hq => ?_⟩
  cases ds with
  | nil => exact hm.elim
  | cons d r =>
    cases xs with
    | nil => simp [ShrL] at s
    | cons x xr =>
      simp only [ShrL] at s
      exact ⟨x, xr, rfl, a2 A0 H0 A H σ env fp x d _ _ I s.1 hm fun σ' env' fp' I' q => b2 A0 H0 A H σ' env' fp' xr r _ _ I' s.2 q hq⟩
def gT (n : Nat) (m : ZMGs) : ZMG := fun d env Q => match d with
  | .tup ds => ds.length = n ∧ m ds env Q
  | _ => False
theorem zg_tup {es : List Expr} {kk : Nat} {m : ZMGs} {n : Nat} {pos : Pos} (h : ZGs Z es m) (hn : ∀ env, (assignEach es env).length = n := by intro _; rfl) (hst : ∀ env, (assignEach es env).findIdx? (·.1) = none := by intro _; rfl) : ZG Z (.Tuple es kk pos) (gT n m) := by
  obtain ⟨g, a1, a2⟩ := h.ex
  refine ⟨gTup G.K n g, fun i => ?_, fun A0 H0 A H σ env fp x d Q Qz I s hm hq => ?_⟩
  · have := pg_tup (pos := pos) (k := kk) (Z.calm i) (a1 i) (hn _) (hst _)
    rw [Z.hK i] at this
    exact this
  · unfold gT at hm
    split at hm
    · simp only [Shr] at s
      obtain ⟨a, xs, rfl, h1, h2⟩ := s
      exact ⟨a, xs, rfl, sqT_of I.sub h1, by rw [h2.length]; exact hm.1, a2 A0 H0 A H σ env fp xs _ Q Qz I h2 hm.2 hq⟩
    · exact hm.elim
/-- a target = a value that is shared from then on -/
theorem freezeV {A0 H0 A H : Hp} {σ : L2.St} {env : DEnv} {fp : Nat → List Addr} {f : List Addr} (I : ZI G A0 H0 A H σ env fp) (fr : FreshV H0 A H fp f) : ∃ A2, ZI G A0 H0 A2 H σ env fp ∧ Sub A A2 ∧ ∀ a ∈ f, A2 a = H a := by
  classical
  have hA : ∀ a ∈ f, A a = none := fun a m => (fr.2 a m).2.1
  refine ⟨fun a => if a ∈ f then H a else A a, ⟨⟨fun a o e => ?_, fun a o e => ?_, I.gr.hh, fun a e n => ?_⟩, I.len, fun i k d e => ?_, I.nd, I.dis, fun i a m => ⟨?_, (I.own i a m).2⟩⟩, fun a o e => ?_, fun a m => by simp [m]⟩
  · show (if a ∈ f then H a else A a) = some o
    have := I.gr.aa a o e
    by_cases m : a ∈ f
    · rw [hA a m] at this; cases this
    · rw [if_neg m]; exact this
  · have e : (if a ∈ f then H a else A a) = some o := e
    by_cases m : a ∈ f
    · rw [if_pos m] at e; exact e
    · rw [if_neg m] at e; exact I.gr.ah a o e
  · have n : (if a ∈ f then H a else A a) ≠ none := n
    by_cases m : a ∈ f
    · exact (fr.2 a m).1
    · rw [if_neg m] at n; exact I.gr.nw a e n
  · obtain ⟨v, e1, e2⟩ := I.at_ i k d e
    refine ⟨v, e1, e2.mono (fun a o q => ?_) fun _ _ => rfl⟩
    show (if a ∈ f then H a else A a) = some o
    by_cases m : a ∈ f
    · rw [hA a m] at q; cases q
    · rw [if_neg m]; exact q
  · show (if a ∈ f then H a else A a) = none
    by_cases z : a ∈ f
    · exact absurd m ((fr.2 a z).2.2.2 i)
    · rw [if_neg z]; exact (I.own i a m).1
  · show (if a ∈ f then H a else A a) = some o
    by_cases m : a ∈ f
    · rw [hA a m] at e; cases e
    · rw [if_neg m]; exact e
def wAsg (e : ZMV) (g : ZMG) : ZMS := fun env Z => e env (fun env' _ d => g d env' Z.nx) (Z.ex env)
theorem zs_asg {tg e : Expr} {m : ZMV} {g : ZMG} {pos : Pos} (he : ZV Z e m) (hg : ZG Z tg g) (hs : ∀ env, swapsWithSole [tg] e pos.line env = pure false := by intro _; rfl) (hw : ∀ env, swappedStores [tg] e env = pure none := by intro _; rfl)
    (h1 : ∀ env, (assignEach [tg] env).map (·.2) = [assign tg env] := by intro _; rfl) : ZS Z (.Assign [tg] e pos) (wAsg m g) := by
  obtain ⟨t, a1, a2⟩ := he.ex
  obtain ⟨tg, b1, b2⟩ := hg.ex
  refine ⟨_, fun i => ps_asg (a1 i) (b1 i) (hs _) (hw _) (h1 _), fun A0 H0 A H σ env fp D Zz I w mm => ?_⟩
  refine a2 A0 H0 A H σ env fp _ _ _ I w (fun v H' A' env' fp' k d f I' s o fr q => ?_) fun x cls dx H' A' I' s xa q => mm.ex A' H' σ env fp x cls dx I' s xa q
  obtain ⟨A2, I2, s2, e2⟩ := freezeV I' fr
  exact b2 A0 H0 A2 H' σ env' fp' v d _ _ I2 (o.shr s2 e2) q fun σ' env2 fp2 I3 q3 => mm.nx A2 H' σ' env2 fp2 I3 (sub_trans s s2) q3

/-! ### for, while -/
def wForL (g : ZMG) (b : ZMS) : List D → DEnv → ZEnds → Prop
  | [], env, Z => Z.nx env
  | d :: ds, env, Z => g d env (fun env' => b env' { nx := fun e => wForL g b ds e Z, rt := Z.rt, bk := Z.nx, ct := fun e => wForL g b ds e Z, ex := Z.ex })
def wFor (it : ZMIV) (g : ZMG) (b : ZMS) : ZMS := fun env Z => it env (fun env' ds => wForL g b ds env' Z) (Z.ex env)
theorem zs_for {tg iter : Expr} {body : List Stmt} {mi : ZMIV} {g : ZMG} {b : ZMS} {pos : Pos} (T : Zst Z) (hi : ZIV Z tg iter mi) (hg : ZG Z tg g) (hb : ZSs Z body b) (hs : ∀ env x, foldedSetIterable iter env x = pure x := by intro _ _; rfl) : ZS Z (.For tg iter body [] pos) (wFor mi g b) := by
  obtain ⟨wi, i1, i2⟩ := hi.ex
  obtain ⟨tg, g1, g2⟩ := hg.ex
  obtain ⟨tb, b1, b2⟩ := hb.ex
  refine ⟨_, fun i => ps_for (T.po i) (Z.calm i) (i1 i) (g1 i) (b1 i) (hs _), fun A0 H0 A H σ env fp D Zz I w mm => ?_⟩
  refine i2 A0 H0 A H σ env fp _ _ _ I w (fun J H1 A1 env1 fp1 ds I1 s1 W q => ?_) fun x cls dx H' A' I' s xa q => mm.ex A' H' σ env fp x cls dx I' s xa q
  refine ⟨fun i m σ' H' => m + i = ds.length ∧ ∃ A' env' fp', ZI G A0 H0 A' H' σ' env' fp' ∧ Sub A1 A' ∧ wForL g b (ds.drop i) env' Zz, ⟨ds.length, rfl, A1, env1, fp1, I1, sub_refl, by simpa using q⟩, ?_⟩
  rintro i m σ2 H2 ⟨hm, A2, env2, fp2, I2, s2, q2⟩
  obtain ⟨w1, w2⟩ := W A2 H2 s2 I2.sub
  by_cases hi : i < ds.length
  · obtain ⟨d, hd⟩ : ∃ d, ds[i]? = some d := ⟨ds[i], by simp [hi]⟩
    have hdrop : ds.drop i = d :: ds.drop (i + 1) := by
      rw [List.drop_eq_getElem_cons hi]
      congr 1
      rw [List.getElem?_eq_getElem hi] at hd
      exact Option.some.inj hd
    rw [hdrop] at q2
    obtain ⟨go, y⟩ := w1 i d hd
    refine .inr ⟨go, fun σ' H' => ∃ A' env' fp', ZI G A0 H0 A' H' σ' env' fp' ∧ Sub A1 A' ∧ wForL g b (ds.drop (i + 1)) env' Zz, fun σ' H' ⟨A', env', fp', I', s', q'⟩ => ⟨m - 1, by omega, by omega, A', env', fp', I', s', q'⟩, fun x H3 hy => ?_⟩
    obtain ⟨A3, g3, sx⟩ := y x H3 hy
    refine g2 A0 H0 A3 H3 σ2 env2 fp2 x d _ _ (I2.grow g3) sx q2 fun σ' env' fp' I' q' => ?_
    have s3 := sub_trans s2 g3.aa
    refine b2 A0 H0 A3 H3 σ' env' fp' _ _ I' q' ⟨fun A' H' σ4 env4 fp4 I4 s4 q4 => ⟨A', env4, fp4, I4, sub_trans s3 s4, q4⟩, mm.rt, fun A' H' σ4 env4 fp4 I4 s4 q4 => mm.nx A' H' σ4 env4 fp4 I4 (sub_trans s1 (sub_trans s3 s4)) q4,
      fun A' H' σ4 env4 fp4 I4 s4 q4 => ⟨A', env4, fp4, I4, sub_trans s3 s4, q4⟩, fun A' H' σ4 env4 fp4 x cls dx I4 s4 xa q4 => mm.ex A' H' σ4 env4 fp4 x cls dx I4 (sub_trans s1 (sub_trans s3 s4)) xa q4⟩
  · have hi : i = ds.length := by omega
    subst hi
    rw [List.drop_length] at q2
    exact .inl ⟨w2, mm.nx A2 H2 σ2 env2 fp2 I2 (sub_trans s1 s2) q2⟩
def wWhl (c : ZMVT) (b : ZMS) : Nat → DEnv → ZEnds → Prop
  | 0, _, _ => False
  | n + 1, env, Z => c env (fun x => if x = true then b env { nx := fun e => wWhl c b n e Z, rt := Z.rt, bk := Z.nx, ct := fun e => wWhl c b n e Z, ex := Z.ex } else Z.nx env) (Z.ex env)
def wWhile (c : ZMVT) (b : ZMS) : ZMS := fun env Z => ∃ n, wWhl c b n env Z
theorem zs_while {c : Expr} {body : List Stmt} {mc : ZMVT} {b : ZMS} {pos : Pos} (T : Zst Z) (hc : ZVT Z c mc) (hb : ZSs Z body b) : ZS Z (.While c body [] pos) (wWhile mc b) := by
  obtain ⟨tc, c1, c2⟩ := hc.ex
  obtain ⟨tb, b1, b2⟩ := hb.ex
  refine ⟨_, fun i => ps_while (T.po i) (c1 i) (b1 i), fun A0 H0 A H σ env fp D Zz I w mm => ?_⟩
  obtain ⟨n, w⟩ := w
  refine ⟨fun m σ' H' => ∃ A' env' fp', ZI G A0 H0 A' H' σ' env' fp' ∧ Sub A A' ∧ wWhl mc b m env' Zz, ⟨n, A, env, fp, I, sub_refl, w⟩, ?_⟩
  rintro m σ1 H1 ⟨A1, env1, fp1, I1, s1, w1⟩
  cases m with
  | zero => exact w1.elim
  | succ m =>
    refine c2 A0 H0 A1 H1 σ1 env1 fp1 _ _ _ I1 w1 (fun x H2 A2 I2 s2 q2 => ?_) fun x cls dx H' A' I' s xa q => mm.ex A' H' σ1 env1 fp1 x cls dx I' (sub_trans s1 s) xa q
    have s12 := sub_trans s1 s2
    cases x with
    | true =>
      simp only [if_true] at q2 ⊢
      refine ⟨fun σ' H' => ∃ A' env' fp', ZI G A0 H0 A' H' σ' env' fp' ∧ Sub A A' ∧ wWhl mc b m env' Zz, fun σ' H' h => ⟨m, Nat.lt_succ_self m, h⟩, ?_⟩
      exact b2 A0 H0 A2 H2 σ1 env1 fp1 _ _ I2 q2 ⟨fun A' H' σ4 env4 fp4 I4 s4 q4 => ⟨A', env4, fp4, I4, sub_trans s12 s4, q4⟩, mm.rt, fun A' H' σ4 env4 fp4 I4 s4 q4 => mm.nx A' H' σ4 env4 fp4 I4 (sub_trans s12 s4) q4,
        fun A' H' σ4 env4 fp4 I4 s4 q4 => ⟨A', env4, fp4, I4, sub_trans s12 s4, q4⟩, fun A' H' σ4 env4 fp4 x cls dx I4 s4 xa q4 => mm.ex A' H' σ4 env4 fp4 x cls dx I4 (sub_trans s12 s4) xa q4⟩
    | false =>
      simp only [Bool.false_eq_true, if_false] at q2 ⊢
      exact mm.nx A2 H2 σ1 env1 fp1 I2 s12 q2
end
end ZL


namespace ZL
open PySem PySem.Spec PyProof.Rows L2

section
variable {G : Glob} {N : List Str} {sc : Scope} {fn : Str → Bool} {W : WX} {k : Nat} {Z : Zc G N sc fn W k}
/-- slot i's value is changed in place: the object at a, which slot i owns -/
theorem ZI.mut {A0 H0 A H : Hp} {σ : L2.St} {env : DEnv} {fp : Nat → List Addr} (I : ZI G A0 H0 A H σ env fp) {i : Nat} {kk : Kd} {v : V} {d : D} {a : Addr} {o : HO} {f : List Addr} (hi : i < env.length) (ha : a ∈ fp i) (hv : σ[i]? = some (some v))
    (hO : Own G.K G.mg A (upd H a o) kk v d f) (hf : f.Nodup) (hff : ∀ b ∈ f, A b = none ∧ H0 b = none ∧ (upd H a o) b ≠ none ∧ ∀ j, j ≠ i → b ∉ fp j) :
    ZI G A0 H0 A (upd H a o) σ (env.set i (some (kk, d))) (fun j => if j = i then f else fp j) := by
  obtain ⟨hA, h0, hH⟩ := I.own i a ha
  have ne : ∀ j, j ≠ i → ∀ b ∈ fp j, b ≠ a := fun j hj b hb z => by subst z; exact I.dis j i hj b hb ha
  refine ⟨⟨I.gr.aa, fun b u e => ?_, fun b u e => ?_, I.gr.nw⟩, by rw [List.length_set]; exact I.len, fun j k' d' q => ?_, fun j => ?_, fun j l n b m => ?_, fun j b m => ?_⟩
  · rw [upd_ne (ne_of_none e hA)]; exact I.gr.ah b u e
  · rw [upd_ne (ne_of_none e h0)]; exact I.gr.hh b u e
  · by_cases hj : j = i
    · subst hj
      rw [List.getElem?_set_self hi] at q
      cases q
      exact ⟨v, hv, by simpa using hO⟩
    · rw [List.getElem?_set_ne (Ne.symm hj)] at q
      obtain ⟨u, q1, q2⟩ := I.at_ j k' d' q
      refine ⟨u, q1, ?_⟩
      show Own G.K G.mg A _ k' u d' (if j = i then f else fp j)
      rw [if_neg hj]
      exact q2.mono sub_refl fun b hb => upd_ne (ne j hj b hb)
  · show (if j = i then f else fp j).Nodup
    by_cases hj : j = i
    · rw [if_pos hj]; exact hf
    · rw [if_neg hj]; exact I.nd j
  · have m : b ∈ (if j = i then f else fp j) := m
    show b ∉ (if l = i then f else fp l)
    by_cases hj : j = i
    · rw [if_pos hj] at m
      have hl : l ≠ i := fun z => n (hj.trans z.symm)
      rw [if_neg hl]; exact (hff b m).2.2.2 l hl
    · rw [if_neg hj] at m
      by_cases hl : l = i
      · rw [if_pos hl]; intro z; exact (hff b z).2.2.2 j hj m
      · rw [if_neg hl]; exact I.dis j l n b m
  · have m : b ∈ (if j = i then f else fp j) := m
    by_cases hj : j = i
    · rw [if_pos hj] at m
      exact ⟨(hff b m).1, (hff b m).2.1, (hff b m).2.2.1⟩
    · rw [if_neg hj] at m
      exact ⟨(I.own j b m).1, (I.own j b m).2.1, by rw [upd_ne (ne j hj b m)]; exact (I.own j b m).2.2⟩
theorem ownL_len {P : V → D → List Addr → Prop} : ∀ {vs : List V} {ds : List D} {fp : List Addr}, OwnL P vs ds fp → vs.length = ds.length
  | [], [], _, _ => rfl
  | [], _ :: _, _, o => by simp [OwnL] at o
  | _ :: _, [], _, o => by simp [OwnL] at o
  | v :: vs, d :: ds, fp, o => by
    simp only [OwnL] at o
    obtain ⟨f1, f2, p, q, e⟩ := o
    simp [ownL_len q]
theorem OwnL.snoc {P : V → D → List Addr → Prop} {v : V} {d : D} {g : List Addr} (h : P v d g) : ∀ {vs : List V} {ds : List D} {fp : List Addr}, OwnL P vs ds fp → OwnL P (vs ++ [v]) (ds ++ [d]) (fp ++ g)
  | [], [], fp, o => by
    simp only [OwnL] at o
    subst o
    exact ⟨g, [], h, rfl, by simp⟩
  | [], _ :: _, _, o => by simp [OwnL] at o
  | _ :: _, [], _, o => by simp [OwnL] at o
  | w :: vs, e :: ds, fp, o => by
    simp only [OwnL] at o
    obtain ⟨f1, f2, p, q, r⟩ := o
    subst r
    exact ⟨f1, f2 ++ g, p, OwnL.snoc h q, by simp⟩
theorem own_ls_inv {K : PySem.W.Frag} {mg : Str → Option Value} {A H : Hp} {kk : Kd} {v : V} {ds : List D} {fp : List Addr} (o : Own K mg A H (.ls kk) v (.lst ds) fp) : ∃ a vs f, v = .ref a ∧ H a = some (.lst vs) ∧ OwnL (Own K mg A H kk) vs ds f ∧ fp = a :: f := by
  simp only [Own] at o
  obtain ⟨a, vs, ds', f, e1, e2, e3, e4, e5⟩ := o
  cases e2
  exact ⟨a, vs, f, e1, e3, e4, e5⟩
theorem own_ls_mk {K : PySem.W.Frag} {mg : Str → Option Value} {A H : Hp} {a : Addr} {vs : List V} {ds : List D} (h : H a = some (.lst vs)) (s : ShrL K mg A vs ds) : Own K mg A H (.ls .sh) (.ref a) (.lst ds) [a] := by
  rw [Own]
  exact ⟨a, vs, ds, [], rfl, rfl, h, ownL_sh s, rfl⟩
/-- the list that slot i owns: what stands, and what may be put in its place -/
theorem ZI.mutL {A0 H0 A H : Hp} {σ : L2.St} {env : DEnv} {fp : Nat → List Addr} (I : ZI G A0 H0 A H σ env fp) {i : Nat} {a : Addr} {ds : List D} (c : env[i]? = some (some (.ls .sh, .lst ds))) (q1 : σ[i]? = some (some (.ref a))) :
    ∃ vs, H a = some (.lst vs) ∧ ShrL G.K G.mg A vs ds ∧ ∀ vs' ds', ShrL G.K G.mg A vs' ds' → ∃ fp', ZI G A0 H0 A (upd H a (.lst vs')) σ (env.set i (some (.ls .sh, .lst ds'))) fp' := by
  obtain ⟨v', r1, r2⟩ := I.at_ i _ _ c
  rw [q1] at r1
  cases r1
  obtain ⟨a', vs, f', r3, r4, r5, r6⟩ := own_ls_inv r2
  cases r3
  obtain ⟨t1, t2⟩ := ownL_of_sh r5
  subst t2
  have ha : a ∈ fp i := by rw [r6]; exact List.mem_cons_self ..
  refine ⟨vs, r4, t1, fun vs' ds' s => ⟨_, I.mut (i := i) (v := .ref a) (a := a) (o := .lst vs') (f := [a]) (lt_of_slot c) ha q1 (own_ls_mk upd_same s) (by simp) fun b hb => ?_⟩⟩
  have e : b = a := by simpa using hb
  subst e
  have := I.own i b ha
  exact ⟨this.1, this.2.1, by rw [upd_same]; exact Option.some_ne_none _, fun j hj z => I.dis i j (Ne.symm hj) b ha z⟩
/-- xs.append(e), xs a list of shared items that slot i owns -/
def wAppend (i : Nat) (e : ZMV) : ZMS := fun env Z => match env[i]? with
  | some (some (.ls .sh, .lst ds)) => e env (fun env' _ d => env'[i]? = some (some (.ls .sh, .lst ds)) ∧ ds.length < sizeLine ∧ Z.nx (env'.set i (some (.ls .sh, .lst (ds ++ [d]))))) (Z.ex env)
  | _ => False
theorem zs_append (i : Nat) {x : Str} {e : Expr} {m : ZMV} {p apos pos pos' : Pos} (he : ZV Z e m) (hx : N[i]? = some x := by rfl) (hv : Vis sc x := by first | exact Or.inl rfl | exact Or.inr (Or.inl rfl) | exact Or.inr (Or.inr rfl))
    (hd : (x == ("__debug__" : Str)) = false := by decide) (hcd : (x == ("__classdict__" : Str)) = false := by decide)
    (h1 : ∀ env, attributeBase (.Name x p) "append" env (eval (.Name x p) env) = eval (.Name x p) env := by intro _; rfl)
    (h2 : ∀ env, (((backTo pos (starEach (e :: []) env)).all (!·.1) && (backToKw pos (keywordEach [] env)).all (·.1.isSome)) && decide (((e :: []).length + ([] : List Keyword).length + if ([] : List Keyword).isEmpty then 0 else 1) < 30)) = true := by intro _; rfl)
    (h3 : (apos.endLine == pos.line) = true := by rfl) (h4 : ∀ env, starEach (e :: []) env = (false, eval e env) :: starEach [] env := by intro _; rfl) (h5 : ∀ env, (backTo pos (starEach [] env)).any (·.1) = false := by intro _; rfl)
    (hs : ∀ env, swapsWith (.Call (.Attribute (.Name x p) "append" apos) [e] [] pos) none pos'.line env = pure false := by intro _; rfl) :
    ZS Z (.Expr (.Call (.Attribute (.Name x p) "append" apos) [e] [] pos) pos') (wAppend i m) := by
  obtain ⟨t, a1, a2⟩ := he.ex
  refine ⟨tDrop (tBM G.K "list" rAppend (tVar i) (tCons t tNil)), fun j => ps_expr ?_ (hs _), fun A0 H0 A H σ env fp D Zz I w mm => ?_⟩
  · have := pe_bm (X := Z.X j) PySem.F.plainAttrs_list PySem.F.slot_list_append PySem.F.type_list_append mt_append (pe_var (X := Z.X j) (pos := p) (by rw [Z.hN]; exact hx) (by rw [Z.hsc]; exact hv) hd hcd) (pa_cons (a1 j) pa_nil (h4 _)) (h1 _) (h2 _) h3 (h4 _) (h5 _)
    rw [Z.hK j] at this
    exact this
  · unfold wAppend at w
    split at w
    · rename_i ds e
      obtain ⟨v, q1, q2⟩ := I.at_ i _ _ e
      obtain ⟨a, vs, f, rfl, q3, q4, q5⟩ := own_ls_inv q2
      refine ⟨.ref a, q1, .inl ⟨rfl, vs, sqL_of sub_refl q3⟩, ?_⟩
      refine a2 A0 H0 A H σ env fp _ _ _ I w (fun u H' A' env' fp' k d g I' s o fr q => ?_) fun x cls dx H' A' I' s xa q => mm.ex A' H' σ env fp x cls dx I' s xa q
      obtain ⟨c1, c2, c3⟩ := q
      obtain ⟨A2, I2, s2, e2⟩ := freezeV I' fr
      obtain ⟨vs', r4, t1, put⟩ := I2.mutL c1 q1
      refine ⟨a, vs', u, rfl, rfl, r4, by rw [t1.length]; exact c2, ?_⟩
      have su := o.shr s2 e2
      obtain ⟨fp3, I3⟩ := put (vs' ++ [u]) (ds ++ [d]) (t1.append (by simp only [ShrL]; exact ⟨su, trivial⟩))
      exact mm.nx A2 _ σ _ _ I3 (sub_trans s s2) c3
    · exact w.elim
/-- xs[i] = e -/
def wSetIx (i : Nat) (e ix : ZMV) : ZMS := fun env Z => e env (fun env1 _ d => match env1[i]? with
  | some (some (.ls .sh, .lst ds)) => ix env1 (fun env2 _ j => env2[i]? = some (some (.ls .sh, .lst ds)) ∧ (match j with
    | .int n => (match ixN ds.length n with
      | some m => Z.nx (env2.set i (some (.ls .sh, .lst (ds.set m d))))
      | none => False)
    | _ => False)) (Z.ex env1)
  | _ => False) (Z.ex env)
theorem zs_setix (i : Nat) {x : Str} {e ie : Expr} {m mi : ZMV} {p tpos pos : Pos} (he : ZV Z e m) (hi : ZV Z ie mi) (hx : N[i]? = some x := by rfl) (hv : Vis sc x := by first | exact Or.inl rfl | exact Or.inr (Or.inl rfl) | exact Or.inr (Or.inr rfl))
    (hd : (x == ("__debug__" : Str)) = false := by decide) (hcd : (x == ("__classdict__" : Str)) = false := by decide)
    (hs : ∀ env, swapsWithSole [.Subscript (.Name x p) ie tpos] e pos.line env = pure false := by intro _; rfl) (hw : ∀ env, swappedStores [.Subscript (.Name x p) ie tpos] e env = pure none := by intro _; rfl)
    (h1 : ∀ env, (assignEach [.Subscript (.Name x p) ie tpos] env).map (·.2) = [assign (.Subscript (.Name x p) ie tpos) env] := by intro _; rfl)
    (ha : ∀ env v, assign (.Subscript (.Name x p) ie tpos) env v = (do
      let ov ← holding [v] (eval (.Name x p) env)
      let iv ← holding [v, ov] (eval ie env)
      standAt tpos
      holding [v, ov, iv] (setItem ov iv v)
      release [v, ov, iv] []) := by intro _ _; rfl) :
    ZS Z (.Assign [.Subscript (.Name x p) ie tpos] e pos) (wSetIx i m mi) := by
  obtain ⟨t, a1, a2⟩ := he.ex
  obtain ⟨ti, b1, b2⟩ := hi.ex
  refine ⟨tAsg t (gSub (tVar i) ti rSetL), fun j => ps_asg (a1 j) (pg_sub (pe_var (X := Z.X j) (by rw [Z.hN]; exact hx) (by rw [Z.hsc]; exact hv) hd hcd) (b1 j) set_list (ha _)) (hs _) (hw _) (h1 _), fun A0 H0 A H σ env fp D Zz I w mm => ?_⟩
  refine a2 A0 H0 A H σ env fp _ _ _ I w (fun u H1 A1 env1 fp1 k d g I1 s1 o fr q => ?_) fun x cls dx H' A' I' s xa q => mm.ex A' H' σ env fp x cls dx I' s xa q
  obtain ⟨A2, I2, s2, e2⟩ := freezeV I1 fr
  have su := o.shr s2 e2
  split at q
  · rename_i ds e
    obtain ⟨v, q1, q2⟩ := I2.at_ i _ _ e
    obtain ⟨a, vs, f, rfl, q3, q4, q5⟩ := own_ls_inv q2
    refine ⟨.ref a, q1, ?_⟩
    refine b2 A0 H0 A2 H1 σ env1 fp1 _ _ _ I2 q (fun y H3 A3 env3 fp3 k3 dj g3 I3 s3 o3 fr3 q6 => ?_) fun x cls dx H' A' I' s xa q => mm.ex A' H' σ env1 fp1 x cls dx I' (sub_trans s1 (sub_trans s2 s)) xa q
    obtain ⟨c1, c2⟩ := q6
    split at c2
    · rename_i n
      split at c2
      · rename_i mm' em
        obtain ⟨vs', r4, t1, put⟩ := I3.mutL c1 q1
        have hy : y = .int n := by
          cases k3 <;> simp only [Own] at o3
          · have := o3.1; simpa [Shr] using this
          · obtain ⟨_, _, _, _, _, z, _⟩ := o3; cases z
          · obtain ⟨_, _, _, _, _, z, _⟩ := o3; cases z
          · obtain ⟨_, _, _, _, _, z, _⟩ := o3; cases z
          · obtain ⟨_, _, _, _, _, _, _, z, _⟩ := o3; cases z
          · obtain ⟨_, _, _, _, _, _, _, _, z, _⟩ := o3; cases z
        refine ⟨a, vs', n, mm', rfl, hy, r4, by rw [t1.length]; exact em, ?_⟩
        obtain ⟨fp4, I4⟩ := put (vs'.set mm' u) (ds.set mm' d) (t1.set mm' (su.mono s3))
        exact mm.nx A3 _ σ _ _ I4 (sub_trans s1 (sub_trans s2 s3)) c2
      · exact c2.elim
    · exact c2.elim
  · exact q.elim
/-- x op= e, x a slot of ints or the like -/
def wAug (i : Nat) (o : DOp) (e : ZMV) : ZMS := fun env Z => match env[i]? with
  | some (some (.sh, x)) => e env (fun env' _ y => env'[i]? = some (some (.sh, x)) ∧ o x y (fun _ z => Z.nx (env'.set i (some (.sh, z))))) (Z.ex env)
  | _ => False
theorem zs_aug (i : Nat) {x : Str} {op : Operator} {o : DOp} {e : Expr} {m : ZMV} {pos pos' : Pos} (ho : ZOp Z (inplaceOp op) o) (he : ZV Z e m) (hx : N[i]? = some x := by rfl) (hl : Loc sc x := by first | exact Or.inl rfl | exact Or.inr rfl) (hf : fn x = true ∨ sc.names.lookup x = some .local := by first | exact .inl rfl | exact .inr rfl) :
    ZS Z (.AugAssign (.Name x pos') op e pos) (wAug i o m) := by
  obtain ⟨t, a1, a2⟩ := he.ex
  obtain ⟨r, r1, r2⟩ := ho
  refine ⟨_, fun j => ps_aug (by rw [Z.hN]; exact Z.nd) (by rw [Z.hN]; exact hx) (by rw [Z.hsc]; exact hl) (a1 j) (fun pins s σ H x y v u Q I rx ry q => r1 j pins s σ H x y v u Q I rx ry q) (by rw [Z.hfn, Z.hsc]; exact hf), fun A0 H0 A H σ env fp D Zz I w mm => ?_⟩
  unfold wAug at w
  split at w
  · rename_i d e
    obtain ⟨v, q1, q2⟩ := I.at_ i _ _ e
    refine ⟨v, q1, ?_⟩
    refine a2 A0 H0 A H σ env fp _ _ _ I w (fun u H1 A1 env1 fp1 k d1 g I1 s1 o1 fr q => ?_) fun x cls dx H' A' I' s xa q => mm.ex A' H' σ env fp x cls dx I' s xa q
    obtain ⟨A2, I2, s2, e2⟩ := freezeV I1 fr
    obtain ⟨c1, c2⟩ := q
    obtain ⟨v', w1, w2⟩ := I2.at_ i _ _ c1
    rw [q1] at w1
    cases w1
    simp only [Own] at w2
    refine r2 A2 H1 v u _ _ _ _ I2.sub w2.1 (o1.shr s2 e2) c2 fun z H3 A3 k3 d3 f3 g3 o3 fr3 q3 => ?_
    have I3 := I2.grow g3
    obtain ⟨A4, I4, s4, e4⟩ := freezeV I3 (freshV I2 g3 fr3 (own_here o3))
    have I5 := I4.put (i := i) (own_sh (o3.shr s4 e4)) ⟨List.nodup_nil, fun a m => by cases m⟩ (lt_of_slot c1)
    exact mm.nx A4 H3 _ _ _ I5 (sub_trans s1 (sub_trans s2 (sub_trans g3.aa s4))) q3
  · exact w.elim
theorem zo_iadd : ZOp Z (inplaceOp .Add) oAddI := zo_int (fun i => opI_of0 iop_add) fun _ _ => ⟨rfl, rfl⟩
theorem zo_isub : ZOp Z (inplaceOp .Sub) oSub := zo_int (fun i => opI_of0 iop_sub) fun _ _ => ⟨rfl, rfl⟩
/-- what a slot owns is let go: from now on shared -/
def frz (i : Nat) (env : DEnv) : DEnv := match env[i]? with
  | some (some (_, d)) => env.set i (some (.sh, d))
  | _ => env
theorem ZI.frz {A0 H0 A H : Hp} {σ : L2.St} {env : DEnv} {fp : Nat → List Addr} (I : ZI G A0 H0 A H σ env fp) (i : Nat) : ∃ A2 fp2, ZI G A0 H0 A2 H σ (frz i env) fp2 ∧ Sub A A2 := by
  unfold ZL.frz
  split
  · rename_i kk d e
    obtain ⟨v, q1, q2⟩ := I.at_ i _ _ e
    -- the slot's own objects, taken out
    have I1 : ZI G A0 H0 A H σ (env.set i none) (fun j => if j = i then [] else fp j) := by
      refine ⟨I.gr, by rw [List.length_set]; exact I.len, fun j k' d' q => ?_, fun j => ?_, fun j l n a m => ?_, fun j a m => ?_⟩
      · by_cases hj : j = i
        · subst hj
          rw [List.getElem?_set_self (lt_of_slot e)] at q
          cases q
        · rw [List.getElem?_set_ne (Ne.symm hj)] at q
          obtain ⟨v, q1, q2⟩ := I.at_ j k' d' q
          exact ⟨v, q1, by show Own G.K G.mg A H k' v d' (if j = i then [] else fp j); rw [if_neg hj]; exact q2⟩
      · show (if j = i then [] else fp j).Nodup
        by_cases hj : j = i
        · rw [if_pos hj]; exact List.nodup_nil
        · rw [if_neg hj]; exact I.nd j
      · have m : a ∈ (if j = i then [] else fp j) := m
        show a ∉ (if l = i then [] else fp l)
        by_cases hj : j = i
        · rw [if_pos hj] at m; cases m
        · rw [if_neg hj] at m
          by_cases hl : l = i
          · rw [if_pos hl]; intro z; cases z
          · rw [if_neg hl]; exact I.dis j l n a m
      · have m : a ∈ (if j = i then [] else fp j) := m
        by_cases hj : j = i
        · rw [if_pos hj] at m; cases m
        · rw [if_neg hj] at m; exact I.own j a m
    obtain ⟨A2, I2, s2, e2⟩ := freezeV (f := fp i) I1 ⟨I.nd i, fun a m => ⟨(I.own i a m).2.1, (I.own i a m).1, (I.own i a m).2.2, fun j z => by
      have z : a ∈ (if j = i then [] else fp j) := z
      by_cases hj : j = i
      · rw [if_pos hj] at z; cases z
      · rw [if_neg hj] at z; exact I.dis i j (Ne.symm hj) a m z⟩⟩
    have I3 := I2.put (i := i) (own_sh (q2.shr s2 e2)) ⟨List.nodup_nil, fun a m => by cases m⟩ (by rw [List.length_set]; exact lt_of_slot e)
    have hσ : σ.set i (some v) = σ := by
      apply List.ext_getElem?
      intro j
      by_cases hj : j = i
      · subst hj
        rw [List.getElem?_set_self (by rw [I.len]; exact lt_of_slot e), q1]
      · rw [List.getElem?_set_ne (Ne.symm hj)]
    rw [hσ, List.set_set] at I3
    exact ⟨A2, _, I3, s2⟩
  · exact ⟨A, fp, I, sub_refl⟩
def wFrz (i : Nat) (w : ZMS) : ZMS := fun env Z => w (ZL.frz i env) Z
theorem zs_frz (i : Nat) {st : Stmt} {w : ZMS} (h : ZS Z st w) : ZS Z st (wFrz i w) := by
  obtain ⟨t, a1, a2⟩ := h.ex
  refine ⟨t, a1, fun A0 H0 A H σ env fp D Zz I q mm => ?_⟩
  obtain ⟨A2, fp2, I2, s2⟩ := I.frz i
  exact a2 A0 H0 A2 H σ _ fp2 D Zz I2 q (mm.gr s2)
end
end ZL


namespace ZL
open PySem PySem.Spec PyProof.Rows L2

/-! ### comprehensions -/
theorem mem_wipe {σ : L2.St} {j : Nat} : ∀ {vs : List Nat}, j ∈ vs → (wipe σ vs)[j]? = if j < σ.length then some none else none
  | [], h => by cases h
  | v :: vs, h => by
    unfold wipe
    by_cases hv : v = j
    · subst hv
      by_cases hl : v < σ.length
      · rw [List.getElem?_set_self (by rw [wipe_length]; exact hl), if_pos hl]
      · rw [List.getElem?_eq_none (by rw [List.length_set, wipe_length]; omega), if_neg hl]
    · rw [List.getElem?_set_ne hv]
      rcases List.mem_cons.mp h with e | h
      · exact absurd e.symm hv
      · exact mem_wipe h
theorem wipe_set {σ : L2.St} {i : Nat} {x : Option V} {vs : List Nat} (h : i ∈ vs) : wipe (σ.set i x) vs = wipe σ vs := by
  apply List.ext_getElem?
  intro j
  by_cases hj : j ∈ vs
  · rw [mem_wipe hj, mem_wipe hj, List.length_set]
  · rw [wipe_out hj, wipe_out hj, List.getElem?_set_ne (fun e : i = j => hj (e ▸ h))]
def wipeE (env : SEnv) : List Nat → SEnv
  | [] => env
  | v :: vs => (wipeE env vs).set v none
theorem View.wipe {G : Glob} {A : Hp} {σ : L2.St} {env : SEnv} (v : View G A σ env) : ∀ vs : List Nat, View G A (L2.wipe σ vs) (wipeE env vs)
  | [] => v
  | w :: vs => by
    have ih := View.wipe v vs
    unfold L2.wipe wipeE
    refine ⟨by rw [List.length_set, List.length_set]; exact ih.1, fun i d e => ?_⟩
    by_cases hi : w = i
    · subst hi
      by_cases hl : w < (wipeE env vs).length
      · rw [List.getElem?_set_self hl] at e; cases e
      · rw [List.getElem?_eq_none (by rw [List.length_set]; omega)] at e; cases e
    · rw [List.getElem?_set_ne hi] at e ⊢
      exact ih.2 i d e
section
variable {G : Glob} {N : List Str} {sc : Scope} {fn : Str → Bool} {W : WX} {k : Nat}
abbrev W0 : WX := fun _ _ _ _ => False
abbrev blkFn (scope : Scope) : Str → Bool := fun x => scope.names.lookup x == some .cell
/-- the block of a comprehension -/
def Zc.blk (Z : Zc G N sc fn W k) (scope : Scope) : Zc G N (relS scope sc) (blkFn scope) W0 k where
  ι := Z.ι × Shared × Hp × Addr × List (Str × Addr) × List Addr
  X := fun j => (Z.X j.1).blk j.2.1 j.2.2.1 scope (compEnvC scope j.2.2.2.2.1 j.2.2.2.1 (Z.X j.1).env) j.2.2.2.2.2
  hN := fun j => Z.hN j.1
  nd := Z.nd
  hsc := fun j => by
    have := Z.hsc j.1
    show relS scope (Z.X j.1).env.scope = relS scope sc
    rw [this]
  hfn := fun j => rfl
  hP := fun j => Z.hP j.1
  hw := fun j => Z.hw j.1
  hK := fun j => Z.hK j.1
  hmg := fun j => Z.hmg j.1
  hb := fun j => Z.hb j.1
  calm := fun j => Z.calm j.1
  room := fun j => Z.room j.1
  tk := fun j => L2.takes0

/-- targets within a block: they store in the block's own slots -/
abbrev ZMC := D → SEnv → (SEnv → Prop) → Prop
def SndC (G : Glob) (vs : List Nat) (g : TG) (m : ZMC) : Prop := ∀ A H σ env x d (Q : L2.St → Hp → Prop) Qz, Sub A H → View G A σ env → Shr G.K G.mg A x d → m d env Qz →
  (∀ σ' env', View G A σ' env' → wipe σ' vs = wipe σ vs → Qz env' → Q σ' H) → g x σ H Q
structure ZC (Z : Zc G N sc fn W k) (vs : List Nat) (tg : Expr) (m : ZMC) : Prop where
  ex : ∃ g, (∀ i, PG (Z.X i) tg g) ∧ SndC G vs g m
abbrev ZMCs := List D → SEnv → (SEnv → Prop) → Prop
def SndCs (G : Glob) (vs : List Nat) (g : TGs) (m : ZMCs) : Prop := ∀ A H σ env xs ds (Q : L2.St → Hp → Prop) Qz, Sub A H → View G A σ env → ShrL G.K G.mg A xs ds → m ds env Qz →
  (∀ σ' env', View G A σ' env' → wipe σ' vs = wipe σ vs → Qz env' → Q σ' H) → g xs σ H Q
structure ZCs (Z : Zc G N sc fn W k) (vs : List Nat) (tg : List Expr) (m : ZMCs) : Prop where
  ex : ∃ g, (∀ i, PGs (Z.X i) tg g) ∧ SndCs G vs g m
variable {Z : Zc G N sc fn W k} {vs : List Nat}
def cN (i : Nat) : ZMC := fun d env Q => i < env.length ∧ Q (env.set i (some d))
theorem zc_name (i : Nat) {x : Str} {pos : Pos} (hv : i ∈ vs := by decide) (hi : N[i]? = some x := by rfl) (hx : Loc sc x := by first | exact Or.inl rfl | exact Or.inr rfl) (hf : fn x = true ∨ sc.names.lookup x = some .local := by first | exact .inl rfl | exact .inr rfl) : ZC Z vs (.Name x pos) (cN i) := by
  refine ⟨_, fun j => pg_name (by rw [Z.hN]; exact Z.nd) (by rw [Z.hN]; exact hi) (by rw [Z.hsc]; exact hx) (by rw [Z.hfn, Z.hsc]; exact hf), fun A H σ env x d Q Qz h v s hm hq => ?_⟩
  refine hq _ _ ⟨by rw [List.length_set, List.length_set]; exact v.1, fun j d' e => ?_⟩ (wipe_set hv) hm.2
  by_cases hj : i = j
  · subst hj
    rw [List.getElem?_set_self hm.1] at e
    cases e
    exact ⟨x, List.getElem?_set_self (by rw [v.1]; exact hm.1), s⟩
  · rw [List.getElem?_set_ne hj] at e ⊢
    exact v.2 j d' e
def cNil : ZMCs := fun ds env Q => ds = [] ∧ Q env
def cCons (a : ZMC) (b : ZMCs) : ZMCs := fun ds env Q => match ds with
  | d :: r => a d env (fun env' => b r env' Q)
  | [] => False
theorem zcs_nil : ZCs Z vs [] cNil := ⟨_, fun _ => pgs_nil, fun A H σ env xs ds Q Qz h v s hm hq => by
  obtain ⟨e, hm⟩ := hm
  subst e
  cases xs with
  | nil => exact ⟨rfl, hq _ _ v rfl hm⟩
  | cons _ _ => simp [ShrL] at s⟩
theorem zcs_cons {e : Expr} {es : List Expr} {a : ZMC} {b : ZMCs} (h1 : ZC Z vs e a) (h2 : ZCs Z vs es b) (hs : ∀ env, (assignEach (e :: es) env).map (·.2) = assign e env :: (assignEach es env).map (·.2) := by intro _; rfl) : ZCs Z vs (e :: es) (cCons a b) := by
  obtain ⟨g, a1, a2⟩ := h1.ex
  obtain ⟨g', b1, b2⟩ := h2.ex
  refine ⟨_, fun i => pgs_cons (a1 i) (b1 i) (hs _), fun A H σ env xs ds Q Qz h v s hm hq => ?_⟩
  cases ds with
  | nil => exact hm.elim
  | cons d r =>
    cases xs with
    | nil => simp [ShrL] at s
    | cons x xr =>
      simp only [ShrL] at s
      exact ⟨x, xr, rfl, a2 A H σ env x d _ _ h v s.1 hm fun σ' env' v' w' q => b2 A H σ' env' xr r _ _ h v' s.2 q fun σ2 env2 v2 w2 q2 => hq σ2 env2 v2 (w2.trans w') q2⟩
def cT (n : Nat) (m : ZMCs) : ZMC := fun d env Q => match d with
  | .tup ds => ds.length = n ∧ m ds env Q
  | _ => False
theorem zc_tup {es : List Expr} {kk : Nat} {m : ZMCs} {n : Nat} {pos : Pos} (h : ZCs Z vs es m) (hn : ∀ env, (assignEach es env).length = n := by intro _; rfl) (hst : ∀ env, (assignEach es env).findIdx? (·.1) = none := by intro _; rfl) : ZC Z vs (.Tuple es kk pos) (cT n m) := by
  obtain ⟨g, a1, a2⟩ := h.ex
  refine ⟨gTup G.K n g, fun i => ?_, fun A H σ env x d Q Qz hs v s hm hq => ?_⟩
  · have := pg_tup (pos := pos) (k := kk) (Z.calm i) (a1 i) (hn _) (hst _)
    rw [Z.hK i] at this
    exact this
  · unfold cT at hm
    split at hm
    · simp only [Shr] at s
      obtain ⟨a, xs, rfl, h1, h2⟩ := s
      exact ⟨a, xs, rfl, sqT_of hs h1, by rw [h2.length]; exact hm.1, a2 A H σ env xs _ Q Qz hs v h2 hm.2 hq⟩
    · exact hm.elim
/-- the tests of a block -/
structure ZTs (Z : Zc G N sc fn W k) (es : List Expr) (m : ZMT) : Prop where
  ex : ∃ t, (∀ i, PTs (Z.X i) es t) ∧ SndT G W t m
def mYes : ZMT := fun _ Q _ => Q true
theorem zts_nil : ZTs Z [] mYes := ⟨_, fun _ => pts_nil, fun A H σ env Q Qz Ez h v hm hq he => hq true H A (Gr.refl h) hm⟩
theorem zts_one {c : Expr} {m : ZMT} (h : ZT Z c m) : ZTs Z [c] m := by
  obtain ⟨t, a1, a2⟩ := h.ex
  exact ⟨t, fun i => pts_one (a1 i), a2⟩
/-- the turns -/
def mCompL (g : ZMC) (c : ZMT) (e : ZM) (env : SEnv) : List D → List D → (List D → Prop) → Prop
  | [], acc, Q => Q acc
  | d :: ds, acc, Q => g d env (fun env' => c env' (fun b => if b = true then e env' (fun _ x => acc.length < sizeLine ∧ mCompL g c e env ds (acc ++ [x]) Q) (fun _ => False) else mCompL g c e env ds acc Q) (fun _ => False))
def mComp (it : ZMI) (vs : List Nat) (g : ZMC) (c : ZMT) (e : ZM) : ZM := fun env Q E => it env (fun ds => mCompL g c e (wipeE env vs) ds [] (fun acc => Q (.ls .sh) (.lst acc))) E
theorem esc0 {A H : Hp} {σ : L2.St} : Esc G W0 A H σ (fun _ => False) := fun _ _ _ _ _ _ _ q => q
theorem snd_comp {wi : TI} {g : TG} {tt : TT} {te : TE} {mi : ZMI} {mg : ZMC} {mt : ZMT} {me : ZM} (hi : SndI G W wi mi) (hg : SndC G vs g mg) (ht : SndT G W0 tt mt) (he : Snd G W0 te me) : Snd G W (tLc wi g tt te vs) (mComp mi vs mg mt me) := fun A H σ env Q Qz Ez h v hm hq hx => by
  refine hi A H σ env _ _ _ h v hm (fun J H1 A1 ds g1 W1 q1 => ?_) hx
  intro D hD
  have aD : A1 D = none := Same.free (H := A1) (H' := H1) g1.ah hD
  have v1 := (v.mono g1.aa).wipe vs
  -- the state in the middle: D holds what is made so far, nobody shares it
  let St : Nat → Hp → Prop := fun i H' => ∃ A' acc va, Sub A1 A' ∧ Sub A' H' ∧ Sub H1 H' ∧ (∀ a, A1 a = none → A' a ≠ none → H1 a = none) ∧ A' D = none ∧ H' D = some (.lst va) ∧ ShrL G.K G.mg A' va acc ∧ mCompL mg mt me (wipeE env vs) (ds.drop i) acc (fun acc => Qz (.ls .sh) (.lst acc))
  refine ⟨fun i m H' => m + i = ds.length ∧ St i H', ⟨ds.length, rfl, A1, [], [], sub_refl, fun a o e => ?_, fun a o e => ?_, fun a e n => absurd e n, aD, upd_same, by simp [ShrL], by simpa using q1⟩, ?_⟩
  · rw [upd_ne (ne_of_none e aD)]; exact g1.ah a o e
  · rw [upd_ne (ne_of_none e hD)]; exact e
  rintro i m H2 ⟨hm2, A2, acc, va, s12, s2, s3, nw2, aD2, hD2, sa, q2⟩
  obtain ⟨w1, w2⟩ := W1 A2 H2 s12 s2
  by_cases hi2 : i < ds.length
  · obtain ⟨d, hd⟩ : ∃ d, ds[i]? = some d := ⟨ds[i], by simp [hi2]⟩
    have hdrop : ds.drop i = d :: ds.drop (i + 1) := by
      rw [List.drop_eq_getElem_cons hi2]
      congr 1
      rw [List.getElem?_eq_getElem hi2] at hd
      exact Option.some.inj hd
    rw [hdrop] at q2
    obtain ⟨go, y⟩ := w1 i d hd
    refine .inr ⟨go, St (i + 1), fun H' s => ⟨m - 1, by omega, by omega, s⟩, fun x H3 hy => ?_⟩
    obtain ⟨A3, g3, sx⟩ := y x H3 hy
    -- the step keeps all that
    have step : ∀ {A' H' : Hp}, Gr A2 H2 A' H' → Sub A1 A' ∧ Sub H1 H' ∧ (∀ a, A1 a = none → A' a ≠ none → H1 a = none) ∧ A' D = none ∧ H' D = some (.lst va) ∧ ShrL G.K G.mg A' va acc := fun {A' H'} g => by
      refine ⟨sub_trans s12 g.aa, sub_trans s3 g.hh, fun a e n => ?_, ?_, g.hh _ _ hD2, sa.mono g.aa⟩
      · by_cases z : A2 a = none
        · exact Same.free (H := H1) (H' := H2) s3 (g.nw a z n)
        · exact nw2 a e z
      · cases z : A' D with
        | none => rfl
        | some o =>
          have := g.nw D aD2 (by rw [z]; exact Option.some_ne_none _)
          rw [hD2] at this; cases this
    refine hg A3 H3 (wipe σ vs) (wipeE env vs) x d _ _ g3.ah (v1.mono (sub_trans s12 g3.aa)) sx q2 fun σ' env' v' hw' q' => ⟨by rw [hw']; exact wipe_wipe, ?_⟩
    refine ht A3 H3 σ' env' _ _ _ g3.ah v' q' (fun b H4 A4 g4 q4 => ?_) esc0
    have g24 := g3.trans g4
    cases b with
    | false =>
      simp only [Bool.false_eq_true, if_false] at q4 ⊢
      obtain ⟨t1, t2, t3, t4, t5, t6⟩ := step g24
      exact ⟨A4, acc, va, t1, g4.ah, t2, t3, t4, t5, t6, q4⟩
    | true =>
      simp only [if_true] at q4 ⊢
      refine he.go g4.ah (v'.mono g4.aa) q4 (fun z H5 A5 _ dz g5 sz q5 => ?_) esc0
      have g25 := g24.trans g5
      obtain ⟨t1, t2, t3, t4, t5, t6⟩ := step g25
      refine ⟨va, t5, by rw [t6.length]; exact q5.1, A5, acc ++ [dz], va ++ [z], t1, fun a o e => ?_, fun a o e => ?_, t3, t4, upd_same, t6.append (by simp only [ShrL]; exact ⟨sz, trivial⟩), q5.2⟩
      · rw [upd_ne (ne_of_none e t4)]; exact g5.ah a o e
      · rw [upd_ne (ne_of_none e hD)]; exact t2 a o e
  · have hi2 : i = ds.length := by omega
    subst hi2
    rw [List.drop_length] at q2
    refine .inl ⟨w2, ?_⟩
    have gg : Gr A1 H1 A2 H2 := ⟨s12, s2, s3, nw2⟩
    exact hq (.ref D) H2 A2 (.ls .sh) (.lst acc) [D] (g1.trans gg) (own_ls_mk hD2 sa) ⟨by simp, fun a m => by
      have : a = D := by simpa using m
      subst this
      exact ⟨Same.free (H := H) (H' := H1) g1.hh hD, aD2⟩⟩ q2
where
  wipe_wipe {σ : L2.St} {vs : List Nat} : wipe (wipe σ vs) vs = wipe σ vs := by
    apply List.ext_getElem?
    intro j
    by_cases hj : j ∈ vs
    · rw [mem_wipe hj, mem_wipe hj, wipe_length]
    · rw [wipe_out hj]
theorem ze_comp {elt tg iter : Expr} {ifs : List Expr} {scope : Scope} (own : List (Str × Nat)) {pos : Pos} {mi : ZMI} {mg : ZMC} {mt : ZMT} {me : ZM} (hi : ZIE Z tg iter mi) (hb : blkC N sc scope own = true) (hg : ZC (Z.blk scope) (own.map (·.2)) tg mg)
    (ht : ZTs (Z.blk scope) ifs mt) (he : ZE (Z.blk scope) elt me) (hs : ∀ env x, foldedSetIterable iter env x = pure x := by intro _ _; rfl) : ZE Z (.ListComp elt [⟨tg, iter, ifs, 0⟩] scope pos) (mComp mi (own.map (·.2)) mg mt me) := by
  obtain ⟨wi, i1, i2⟩ := hi.ex
  obtain ⟨g, g1, g2⟩ := hg.ex
  obtain ⟨tt, t1, t2⟩ := ht.ex
  obtain ⟨te, e1, e2⟩ := he.ex
  exact ⟨_, fun i => pe_lc (Z.calm i) (by rw [Z.hN]; exact Z.nd) (i1 i) (by rw [Z.hN, Z.hsc]; exact blkOk_by hb) (fun s H C cl fp => g1 (i, s, H, C, cl, fp)) (fun s H C cl fp => t1 (i, s, H, C, cl, fp)) (fun s H C cl fp => e1 (i, s, H, C, cl, fp)) (hs _), snd_comp i2 g2 t2 e2⟩
/-- y = [..] with y a plain local name of the def, on one line -/
theorem zs_setComp {i : Nat} {y : Str} {py : Pos} {elt tg iter : Expr} {ifs : List Expr} {scope : Scope} (own : List (Str × Nat)) {pos spos : Pos} {mi : ZMI} {mg : ZMC} {mt : ZMT} {me : ZM} {wr : ZM → ZMV} (hwr : ∀ {t m}, Snd G W t m → SndV G W t (wr m)) (hi : ZIE Z tg iter mi) (hb : blkC N sc scope own = true) (hg : ZC (Z.blk scope) (own.map (·.2)) tg mg)
    (ht : ZTs (Z.blk scope) ifs mt) (he : ZE (Z.blk scope) elt me) (hy : N[i]? = some y := by rfl) (hyl : sc.names.lookup y = some .local := by rfl) (hk : sc.kind = .function := by rfl) (hl : (py.line == pos.line) = true := by rfl)
    (hno : (scope.names.any fun (n, k) => n == y && (k == .local || k == .cell)) = false := by decide +kernel) (hs : ∀ env x, foldedSetIterable iter env x = pure x := by intro _ _; rfl) :
    ZS Z (.Assign [.Name y py] (.ListComp elt [⟨tg, iter, ifs, 0⟩] scope pos) spos) (wSet i (wr (mComp mi (own.map (·.2)) mg mt me))) := by
  obtain ⟨wi, i1, i2⟩ := hi.ex
  obtain ⟨g, g1, g2⟩ := hg.ex
  obtain ⟨tt, t1, t2⟩ := ht.ex
  obtain ⟨te, e1, e2⟩ := he.ex
  refine ⟨_, fun j => ps_setLc (Z.calm j) (by rw [Z.hN]; exact Z.nd) (by rw [Z.hN]; exact hy) (by rw [Z.hsc]; exact hyl) (sw_true (by rw [Z.hsc]; exact hk) (by rw [Z.hsc]; exact hyl) hl hno) (i1 j) (by rw [Z.hN, Z.hsc]; exact blkOk_by hb) (fun s H C cl fp => g1 (j, s, H, C, cl, fp)) (fun s H C cl fp => t1 (j, s, H, C, cl, fp)) (fun s H C cl fp => e1 (j, s, H, C, cl, fp)) (hs _), fun A0 H0 A H σ env fp D Zz I w mm => ?_⟩
  have a2 := hwr (snd_comp (vs := own.map (·.2)) i2 g2 t2 e2)
  exact a2 A0 H0 A H σ env fp _ _ _ I w (fun v H' A' env' fp' k d f I' s o fr q => mm.nx A' H' _ _ _ (I'.put o fr q.1) s q.2) fun x cls dx H' A' I' s xa q => mm.ex A' H' σ env fp x cls dx I' s xa q
end
end ZL


namespace ZL
open PySem PySem.Spec PyProof.Rows L2
theorem def_run {G : Glob} {x : Str} {params : Arguments} {body : List Stmt} {scope : Scope} {dvs : List V} {kws : List (Str × V)} {f : Addr} {fd : FuncData} {N ps : List Str} {k n : Nat} {sp : ZSpec} {w : ZMS} {qual : Str}
    (F : FunD G.K x qual params body scope dvs kws f fd) (S : FnScope N ps scope) (hn : ps.length = n)
    (hw : ∀ (W : WX) (Z : Zc G N scope (fun _ => true) W k), Zst Z → ZSs Z body w) (hsp : ∀ ds Q E, sp ds Q E → w (env0 N ds) (ends0 Q E)) : G.FnOk (k + 1) f fd ps (spZ G n sp) := by
  refine FunD.ok F S (fun vs H Q E h => ?_) fun cdv A outer s H vs Q E hr h => ?_
  · obtain ⟨_, _, _, _, h, _⟩ := h
    rw [hn]; exact h
  · obtain ⟨A0, xs, Qz, Ez, hl, hs, sv, hsp', hq, hx⟩ := h
    let X := cxOf (L2.CX G.P G.w) G.P G.w G.K G.mg G.base N qual scope f cdv A outer s H E
    have tk : Takes X (fun cls d _ H => E cls d H) := takes_of rfl rfl rfl rfl
    let Z : Zc G N scope (fun _ => true) (fun cls d _ H => E cls d H) k := ⟨Unit, fun _ => X, fun _ => rfl, S.nd, fun _ => rfl, fun _ => rfl, fun _ => rfl, fun _ => rfl, fun _ => rfl, fun _ => rfl, fun _ => rfl, fun _ => rfl, fun _ => hr, fun _ => tk⟩
    have st : Zst Z := ⟨fun _ => passes_of rfl, fun _ => rfl, fun _ => rfl⟩
    obtain ⟨t, a1, a2⟩ := (hw _ Z st).ex
    refine ⟨t, a1 (), a2 A0 H A0 H _ _ _ _ _ (zi_start hs sv) (hsp xs Qz Ez hsp') ⟨fun A' H' σ' env' fp' I s q => ?_, fun A' H' v k d f g o fr q => hq v H' A' k d f g o fr q, fun A' H' σ' env' fp' I s q => q.elim, fun A' H' σ' env' fp' I s q => q.elim, fun A' H' σ' env' fp' y cls dx I s xa q => hx y cls dx H' A' I.gr xa q⟩⟩
    exact hq .non H' A' .sh .non [] I.gr (own_sh (by simp [Shr])) Fresh.nil q
/-- a law: of every script it says True -/
def spLaw : ZSpec := fun ds Q _ => ∃ ns : List Int, ds = [.scr ns] ∧ ns.length ≤ 63 ∧ Q .sh (.bl true)
theorem ar_law : ZSpec.Ar spLaw 1 := fun ds Q E h => by
  obtain ⟨ns, rfl, _⟩ := h
  rfl
theorem law_sp {G : Glob} {H : Hp} {a : Addr} {ns : List Int} (hl : ns.length ≤ 63) (hS : SqL G.K H a (ns.map V.int)) : spZ G 1 spLaw [.ref a] H (fun v _ => v = .bl true) fun _ _ _ => False :=
  ⟨H, [.scr ns], fun k d => k = .sh ∧ d = .bl true, fun _ => False, rfl, sub_refl, by simp only [ShrL, Shr]; exact ⟨⟨a, rfl, hS⟩, trivial⟩, ⟨ns, rfl, hl, rfl, rfl⟩, fun v H' A' k d fp g o fr q => by
    obtain ⟨rfl, rfl⟩ := q
    simp only [Own, Shr] at o
    exact o.1, fun _ _ _ _ _ _ _ q => q⟩
/-- a law whose exits' promise hangs on the world -/
theorem walk_zl {l : PySem.W.OpenLaw} {top k : Nat} {q : Program} {loose : List Str} {XP : (Str → Option Value) → Heap → Prop} {YP : World → Heap → Prop} {d : DefRec} {cx : World → CXT} {x : Str}
    (most : l.most = some top) (small : top ≤ sizeLine) (plain : d.params.defaults = []) (room : Room k callerA)
    (F : ∀ (w : World) (mg : Str → Option Value) (at_ : Addr) (h : Heap), YP w h → h.Ns mainGlobals mg → mg d.name = some (.ref at_) →
      ∃ (K : PySem.W.Frag) (fd : FuncData) (sp : Sp), K.In h ∧ (∀ (s : Shared) (u : Value), BindsTo s fd ⟨[u], []⟩ [(x, u)]) ∧
        (∀ (H : Hp) (a : Addr) (ns : List Int), ns.length ≤ top → SqL K H a (ns.map V.int) → sp [.ref a] H (fun v _ => v = .bl true) fun _ _ _ => False) ∧
        ∀ base : Heap, K.In base → base.Ns mainGlobals mg → L2.FnOk l.prog w K mg base (cx w) k at_ fd [x] sp)
    (no : ∀ (w : World) (H : Hp) (s : Shared) (e : Value) (s' : Shared), cx w [] H s (fun _ _ _ => False) e s' → False) :
    PySem.W.WalkO q loose XP YP l.row.toRowW d [] (fun f vs => PySem.call f vs) :=
  Att.attach_call most plain fun w _ s1 mg _ at_ _ _ _ _ _ _ ns G Y _ _ _ at_mg obj hints len g => by
    obtain ⟨K, fd, sp, inK, binds, says, keeps⟩ := F w mg at_ _ Y G.T.g at_mg
    exact law_call inK G.T.g G.T.b G.T.builtins G.T.nolimit g obj hints (Nat.le_trans len small) room keeps binds (fun H _ hS => says H _ ns len hS) fun H e s' => no w H s1 e s'
theorem cx_none {P : Program} {w : World} {H : Hp} {s s' : Shared} {e : Value} (h : L2.CX P w [] H s (fun _ _ _ => False) e s') : False := by
  obtain ⟨_, _, _, _, _, _, _, _, _, _, _, _, z⟩ := h
  exact z
end ZL


namespace ZL
open PySem PySem.Spec PyProof.Rows L2
section
variable {G : Glob} {N : List Str} {sc : Scope} {fn : Str → Bool} {W : WX} {k : Nat} {Z : Zc G N sc fn W k}
/-- - of an int -/
def mNeg (m : ZM) : ZM := fun env Q E => m env (fun _ d => match d with
  | .int i => Q .sh (.int (-i))
  | _ => False) E
theorem ze_neg {a : Expr} {m : ZM} {pos} (h : ZE Z a m) : ZE Z (.UnaryOp .USub a pos) (mNeg m) := by
  obtain ⟨t, a1, a2⟩ := h.ex
  refine ⟨_, fun i => pe_un un_neg (a1 i), fun A H σ env Q Qz Ez hh v hm hq he => ?_⟩
  refine a2.go hh v hm (fun x H1 A1 _ d g1 s1 q1 => ?_) he
  cases d with
  | int i =>
    simp only [Shr] at s1
    exact ⟨i, s1, hq _ H1 A1 .sh _ [] g1 (own_sh (by simp [Shr])) Fresh.nil q1⟩
  | _ => exact q1.elim
theorem sw_false {elt : Expr} {gs : List Comprehension} {scope : Scope} {pos py : Pos} {y : Str} {l : Nat} {env : Env} (h : env.scope.names.lookup y = some .cell) : swapsWith (.ListComp elt gs scope pos) (some (.Name y py)) l env = pure false := by
  have e : (env.kindOf y == some NameKind.local) = false := by
    unfold Env.kindOf
    rw [h]; rfl
  simp [swapsWith, e]
end
end ZL


namespace ZL
open PySem PySem.Spec PyProof.Rows L2

section
variable {G : Glob} {N : List Str} {sc : Scope} {fn : Str → Bool} {W : WX} {k : Nat} {Z : Zc G N sc fn W k}
/-! ### code that is never reached -/
def wNever : ZMS := fun _ _ => False
theorem zs_never {st : Stmt} : ZS Z st wNever := ⟨tNever, fun _ => ps_never, fun A0 H0 A H σ env fp D Zz I w mm => w.elim⟩
theorem zss_never {st : List Stmt} : ZSs Z st wNever := ⟨tNever, fun _ => pss_never, fun A0 H0 A H σ env fp D Zz I w mm => w.elim⟩
def mNever : ZM := fun _ _ _ => False
/-! ### chains -/
def mChain2 (o o' : DOp) (a b c : ZM) : ZM := fun env Q E => a env (fun _ x => b env (fun _ y => o x y (fun _ z => match z with
  | .bl t => if t = true then c env (fun _ w => o' y w Q) E else Q .sh (.bl false)
  | _ => False)) E) E
theorem snd_chain2 {r r' : R2} {o o' : DOp} {ta tb tc : TE} {ma mb mc : ZM} (ho : SndOp G r o) (ho' : SndOp G r' o') (ha : Snd G W ta ma) (hb : Snd G W tb mb) (hc : Snd G W tc mc) : Snd G W (tChain r r' ta tb tc) (mChain2 o o' ma mb mc) := fun A H σ env Q Qz Ez h v hm hq he => by
  refine ha.go h v hm (fun x H1 A1 _ dx g1 s1 q1 => ?_) he
  refine hb.go g1.ah (v.mono g1.aa) q1 (fun y H2 A2 _ dy g2 s2 q2 => ?_) (he.gr g1)
  refine ho A2 H2 x y dx dy _ _ g2.ah (s1.mono g2.aa) s2 q2 fun z H3 A3 k3 dz f3 g3 o3 fr3 q3 => ?_
  have g123 := (g1.trans g2).trans g3
  cases dz with
  | bl t =>
    have hz : z = .bl t := by
      cases k3 <;> simp only [Own] at o3
      · simpa [Shr] using o3.1
      · obtain ⟨_, _, _, _, _, z, _⟩ := o3; cases z
      · obtain ⟨_, _, _, _, _, z, _⟩ := o3; cases z
      · obtain ⟨_, _, _, _, _, z, _⟩ := o3; cases z
      · obtain ⟨_, _, _, _, _, _, _, z, _⟩ := o3; cases z
      · obtain ⟨_, _, _, _, _, _, _, _, z, _⟩ := o3; cases z
    refine ⟨t, hz, ?_⟩
    cases t with
    | true =>
      simp only [if_true] at q3 ⊢
      refine hc.go g3.ah (v.mono g123.aa) q3 (fun w H4 A4 _ dw g4 s4 q4 => ?_) (he.gr g123)
      exact ho' A4 H4 y w dy dw _ _ g4.ah (s2.mono (sub_trans g3.aa g4.aa)) s4 q4 fun v H5 A5 k5 d5 f5 g5 o5 fr5 q5 => hq v H5 A5 k5 d5 f5 ((g123.trans g4).trans g5) o5 (fr5.back (sub_trans g123.hh g4.hh)) q5
    | false =>
      simp only [Bool.false_eq_true, if_false] at q3 ⊢
      exact hq _ H3 A3 .sh _ [] g123 (own_sh (by simp [Shr])) Fresh.nil q3
  | _ => exact q3.elim
theorem ze_chain2 {op op' : CmpOp} {o o' : DOp} {a b c : Expr} {ma mb mc : ZM} {pos : Pos} (ho : ZOp Z (compareOp op) o) (ho' : ZOp Z (compareOp op') o') (ha : ZE Z a ma) (hb : ZE Z b mb) (hc : ZE Z c mc) (hm : lastMarks [op, op'] [b, c] = false := by with_unfolding_all rfl) :
    ZE Z (.Compare a [op, op'] [b, c] pos) (mChain2 o o' ma mb mc) := by
  obtain ⟨r, r1, r2⟩ := ho
  obtain ⟨r', p1, p2⟩ := ho'
  obtain ⟨ta, a1, a2⟩ := ha.ex
  obtain ⟨tb, b1, b2⟩ := hb.ex
  obtain ⟨tc, c1, c2⟩ := hc.ex
  exact ⟨_, fun i => pe_chain (r1 i) (p1 i) (a1 i) (b1 i) (c1 i) hm, snd_chain2 r2 p2 a2 b2 c2⟩
theorem sndT_T {t : TE} {m : ZM} (s : Snd G W t m) : SndT G W (tTest t) (mB m) := sndT_B s
theorem zt_chain2 {op op' : CmpOp} {o o' : DOp} {a b c : Expr} {ma mb mc : ZM} {pos : Pos} (ho : ZOp Z (compareOp op) o) (ho' : ZOp Z (compareOp op') o') (ha : ZE Z a ma) (hb : ZE Z b mb) (hc : ZE Z c mc) (hm : lastMarks [op, op'] [b, c] = false := by with_unfolding_all rfl) :
    ZT Z (.Compare a [op, op'] [b, c] pos) (mB (mChain2 o o' ma mb mc)) := by
  obtain ⟨r, r1, r2⟩ := ho
  obtain ⟨r', p1, p2⟩ := ho'
  obtain ⟨ta, a1, a2⟩ := ha.ex
  obtain ⟨tb, b1, b2⟩ := hb.ex
  obtain ⟨tc, c1, c2⟩ := hc.ex
  exact ⟨_, fun i => pt_chain (r1 i) (p1 i) (a1 i) (b1 i) (c1 i) hm, sndT_T (snd_chain2 r2 p2 a2 b2 c2)⟩
/-- three links, as a test: a op b op' c op'' d -/
def tChain3 (r r' r'' : R2) (ta tb tc td : TE) : TT := fun σ H Q => ta σ H fun x H1 => tb σ H1 fun y H2 => r x y H2 fun z H3 => ∃ k, z = .bl k ∧
  (if k = true then tc σ H3 fun w H4 => r' y w H4 fun z' H5 => ∃ k', z' = .bl k' ∧ (if k' = true then td σ H5 fun u H6 => r'' w u H6 fun z'' H7 => ∃ k'', z'' = .bl k'' ∧ Q k'' H7 else Q false H5) else Q false H3)
theorem pt_chain3 {X : Cx} {a b c d : Expr} {ta tb tc td : TE} {pos : Pos} {op op' op'' : CmpOp} {r r' r'' : R2} (ho : OpR X (compareOp op) r) (ho' : OpR X (compareOp op') r') (ho'' : OpR X (compareOp op'') r'') (ha : PE X a ta) (hb : PE X b tb) (hc : PE X c tc) (hd : PE X d td)
    (hm : lastMarks [op, op', op''] [b, c, d] = false := by with_unfolding_all rfl) : PT X (.Compare a [op, op', op''] [b, c, d] pos) (tChain3 r r' r'' ta tb tc td) := by
  refine ⟨fun pins s σ H Q I h => ?_⟩
  refine isTrue_chain (thn (ha.run pins s σ H _ I h) fun v s1 ⟨x, H1, I1, r1, q1⟩ => test_link (thn (hb.run pins s1 σ H1 _ I1 q1) fun u s2 ⟨y, H2, I2, r2, q2⟩ =>
    thn (ho pins s2 σ H2 x y v u _ I2 r1 r2 q2) fun d' s3 ⟨z, H3, I3, r3, k, e, q3⟩ => ?_)) hm
  subst e
  cases r3
  refine wpAny_truthy_bool ?_
  cases k with
  | false => exact ite_ff ⟨H3, I3, q3⟩
  | true =>
    refine ite_tt (test_link (thn (hc.run pins s3 σ H3 _ I3 q3) fun w' s4 ⟨z', H4, I4, r4, q4⟩ => thn (ho' pins s4 σ H4 y z' u w' _ I4 r2 r4 q4) fun d' s5 ⟨z2, H5, I5, r5, k2, e2, q5⟩ => ?_))
    subst e2
    cases r5
    refine wpAny_truthy_bool ?_
    cases k2 with
    | false => exact ite_ff ⟨H5, I5, q5⟩
    | true =>
      refine ite_tt (test_last (thn (hd.run pins s5 σ H5 _ I5 q5) fun w2 s6 ⟨z3, H6, I6, r6, q6⟩ => thn (ho'' pins s6 σ H6 z' z3 w' w2 _ I6 r4 r6 q6) fun d' s7 ⟨z4, H7, I7, r7, k3, e3, q7⟩ => ?_))
      subst e3
      cases r7
      exact wpAny_truthy_bool ⟨H7, I7, q7⟩
def mChain3 (o o' o'' : DOp) (a b c d : ZM) : ZMT := fun env Q E => a env (fun _ x => b env (fun _ y => o x y (fun _ z => match z with
  | .bl t => if t = true then c env (fun _ w => o' y w (fun _ z' => match z' with
      | .bl t' => if t' = true then d env (fun _ u => o'' w u (fun _ z'' => match z'' with
          | .bl t'' => Q t''
          | _ => False)) E else Q false
      | _ => False)) E else Q false
  | _ => False)) E) E
theorem own_bl {K : PySem.W.Frag} {mg : Str → Option Value} {A H : Hp} {k : Kd} {z : V} {t : Bool} {f : List Addr} (o3 : Own K mg A H k z (.bl t) f) : z = .bl t := by
  cases k <;> simp only [Own] at o3
  · simpa [Shr] using o3.1
  · obtain ⟨_, _, _, _, _, z, _⟩ := o3; cases z
  · obtain ⟨_, _, _, _, _, z, _⟩ := o3; cases z
  · obtain ⟨_, _, _, _, _, z, _⟩ := o3; cases z
  · obtain ⟨_, _, _, _, _, _, _, z, _⟩ := o3; cases z
  · obtain ⟨_, _, _, _, _, _, _, _, z, _⟩ := o3; cases z
theorem zt_chain3 {op op' op'' : CmpOp} {o o' o'' : DOp} {a b c d : Expr} {ma mb mc md : ZM} {pos : Pos} (ho : ZOp Z (compareOp op) o) (ho' : ZOp Z (compareOp op') o') (ho'' : ZOp Z (compareOp op'') o'') (ha : ZE Z a ma) (hb : ZE Z b mb) (hc : ZE Z c mc) (hd : ZE Z d md) (hm : lastMarks [op, op', op''] [b, c, d] = false := by with_unfolding_all rfl) :
    ZT Z (.Compare a [op, op', op''] [b, c, d] pos) (mChain3 o o' o'' ma mb mc md) := by
  obtain ⟨r, r1, r2⟩ := ho
  obtain ⟨r', p1, p2⟩ := ho'
  obtain ⟨r'', n1, n2⟩ := ho''
  obtain ⟨ta, a1, a2⟩ := ha.ex
  obtain ⟨tb, b1, b2⟩ := hb.ex
  obtain ⟨tc, c1, c2⟩ := hc.ex
  obtain ⟨td, d1, d2⟩ := hd.ex
  refine ⟨_, fun i => pt_chain3 (r1 i) (p1 i) (n1 i) (a1 i) (b1 i) (c1 i) (d1 i) hm, fun A H σ env Q Qz Ez h v hm hq he => ?_⟩
  refine a2.go h v hm (fun x H1 A1 _ dx g1 s1 q1 => ?_) he
  refine b2.go g1.ah (v.mono g1.aa) q1 (fun y H2 A2 _ dy g2 s2 q2 => ?_) (he.gr g1)
  refine r2 A2 H2 x y dx dy _ _ g2.ah (s1.mono g2.aa) s2 q2 fun z H3 A3 k3 dz f3 g3 o3 fr3 q3 => ?_
  have g123 := (g1.trans g2).trans g3
  cases dz with
  | bl t =>
    refine ⟨t, own_bl o3, ?_⟩
    cases t with
    | false =>
      simp only [Bool.false_eq_true, if_false] at q3 ⊢
      exact hq _ H3 A3 g123 q3
    | true =>
      simp only [if_true] at q3 ⊢
      refine c2.go g3.ah (v.mono g123.aa) q3 (fun w H4 A4 _ dw g4 s4 q4 => ?_) (he.gr g123)
      refine p2 A4 H4 y w dy dw _ _ g4.ah (s2.mono (sub_trans g3.aa g4.aa)) s4 q4 fun z' H5 A5 k5 dz' f5 g5 o5 fr5 q5 => ?_
      have g15 := (g123.trans g4).trans g5
      cases dz' with
      | bl t' =>
        refine ⟨t', own_bl o5, ?_⟩
        cases t' with
        | false =>
          simp only [Bool.false_eq_true, if_false] at q5 ⊢
          exact hq _ H5 A5 g15 q5
        | true =>
          simp only [if_true] at q5 ⊢
          refine d2.go g5.ah (v.mono g15.aa) q5 (fun u H6 A6 _ du g6 s6 q6 => ?_) (he.gr g15)
          refine n2 A6 H6 w u dw du _ _ g6.ah (s4.mono (sub_trans g5.aa g6.aa)) s6 q6 fun z3 H7 A7 k7 dz3 f7 g7 o7 fr7 q7 => ?_
          cases dz3 with
          | bl t3 => exact ⟨t3, own_bl o7, hq _ H7 A7 ((g15.trans g6).trans g7) q7⟩
          | _ => exact q7.elim
      | _ => exact q5.elim
  | _ => exact q3.elim
/-! ### xs[::-1], xs[::2], xs[1::2] -/
def mRev (m : ZM) : ZM := fun env Q E => m env (fun _ d => match d with
  | .lst ds => Q (.ls .sh) (.lst ds.reverse)
  | _ => False) E
theorem shrL_rev {K : PySem.W.Frag} {mg : Str → Option Value} {A : Hp} : ∀ {vs : List V} {ds : List D}, ShrL K mg A vs ds → ShrL K mg A vs.reverse ds.reverse
  | [], [], _ => by simp [ShrL]
  | [], _ :: _, s => by simp [ShrL] at s
  | _ :: _, [], s => by simp [ShrL] at s
  | v :: vs, d :: ds, s => by
    simp only [ShrL] at s
    rw [List.reverse_cons, List.reverse_cons]
    exact (shrL_rev s.2).append (by simp only [ShrL]; exact ⟨s.1, trivial⟩)
theorem ze_revL {e : Expr} {m : ZM} {kk : Nat} {p1 p2 p3 pos : Pos} (h : ZE Z e m) : ZE Z (.Subscript e (.Slice none none (some (.UnaryOp .USub (.Constant (.int 1) kk p1) p2)) p3) pos) (mRev m) := by
  obtain ⟨t, a1, a2⟩ := h.ex
  refine ⟨tRevL G.K t, fun i => ?_, fun A H σ env Q Qz Ez hh v hm hq he => ?_⟩
  · have := pe_revL (k := kk) (p1 := p1) (p2 := p2) (p3 := p3) (pos := pos) (a1 i)
    rw [Z.hK i] at this
    exact this
  · refine a2.go hh v hm (fun x H1 A1 _ d g1 s1 q1 => ?_) he
    cases d with
    | lst ds =>
      simp only [Shr] at s1
      obtain ⟨a, xs, rfl, h1, h2⟩ := s1
      refine ⟨a, xs, rfl, sqL_of g1.ah h1, fun p hp => ?_⟩
      exact putL g1.ah (fun v H' A' k d fp g o f q => hq v H' A' k d fp (g1.trans g) o (f.back g1.hh) q) (shrL_rev h2) q1 hp
    | _ => exact q1.elim
end
end ZL


namespace ZL
open PySem PySem.Spec PyProof.Rows L2

section
variable {G : Glob} {N : List Str} {sc : Scope} {fn : Str → Bool} {W : WX} {k : Nat} {Z : Zc G N sc fn W k}
/-! ### two for clauses -/
/-- the inner turns: as mCompL, but the turns' end goes on with what is made so far -/
def mInner (g : ZMC) (c : ZMT) (e : ZM) (env : SEnv) : List D → List D → (List D → Prop) → Prop
  | [], acc, Q => Q acc
  | d :: ds, acc, Q => g d env (fun env' => c env' (fun b => if b = true then e env' (fun _ x => acc.length < sizeLine ∧ mInner g c e env ds (acc ++ [x]) Q) (fun _ => False) else mInner g c e env ds acc Q) (fun _ => False))
def mComp2L (g : ZMC) (it1 : ZMI) (vs1 : List Nat) (g1 : ZMC) (c : ZMT) (e : ZM) (env : SEnv) : List D → List D → (List D → Prop) → Prop
  | [], acc, Q => Q acc
  | d :: ds, acc, Q => g d env (fun env' => it1 env' (fun ds1 => mInner g1 c e (wipeE env' vs1) ds1 acc (fun acc' => mComp2L g it1 vs1 g1 c e env ds acc' Q)) (fun _ => False))
def mComp2 (it : ZMI) (vs : List Nat) (g : ZMC) (it1 : ZMI) (vs1 : List Nat) (g1 : ZMC) (c : ZMT) (e : ZM) : ZM := fun env Q E => it env (fun ds => mComp2L g it1 vs1 g1 c e (wipeE env vs) ds [] (fun acc => Q (.ls .sh) (.lst acc))) E
theorem wipe_wipe {σ : L2.St} {vs : List Nat} : wipe (wipe σ vs) vs = wipe σ vs := by
  apply List.ext_getElem?
  intro j
  by_cases hj : j ∈ vs
  · rw [mem_wipe hj, mem_wipe hj, wipe_length]
  · rw [wipe_out hj]
theorem snd_comp2 {vs vs1 : List Nat} {wi wi1 : TI} {g g1 : TG} {tt : TT} {te : TE} {mi mi1 : ZMI} {mg mg1 : ZMC} {mt : ZMT} {me : ZM} (hi : SndI G W wi mi) (hg : SndC G vs g mg) (hi1 : SndI G W0 wi1 mi1) (hg1 : SndC G vs1 g1 mg1) (ht : SndT G W0 tt mt) (he : Snd G W0 te me) :
    Snd G W (tLc2 wi g tYes wi1 g1 tt te vs vs1) (mComp2 mi vs mg mi1 vs1 mg1 mt me) := fun A H σ env Q Qz Ez h v hm hq hx => by
  refine hi A H σ env _ _ _ h v hm (fun J H1 A1 ds gr1 W1 q1 => ?_) hx
  intro D hD
  have aD : A1 D = none := Same.free (H := A1) (H' := H1) gr1.ah hD
  have v1 := (v.mono gr1.aa).wipe vs
  -- the state in the middle, R what is still to be done
  let St : (List ZL.D → Prop) → Hp → Prop := fun R H' => ∃ A' acc va, Sub A1 A' ∧ Sub A' H' ∧ Sub H1 H' ∧ (∀ a, A1 a = none → A' a ≠ none → H1 a = none) ∧ A' D = none ∧ H' D = some (.lst va) ∧ ShrL G.K G.mg A' va acc ∧ R acc
  let Rest : Nat → List ZL.D → Prop := fun i acc => mComp2L mg mi1 vs1 mg1 mt me (wipeE env vs) (ds.drop i) acc (fun acc => Qz (.ls .sh) (.lst acc))
  have step : ∀ {A2 H2 A' H' : Hp} {acc : List ZL.D} {va : List V}, Sub A1 A2 → Sub H1 H2 → (∀ a, A1 a = none → A2 a ≠ none → H1 a = none) → A2 D = none → H2 D = some (.lst va) → ShrL G.K G.mg A2 va acc → Gr A2 H2 A' H' →
      Sub A1 A' ∧ Sub H1 H' ∧ (∀ a, A1 a = none → A' a ≠ none → H1 a = none) ∧ A' D = none ∧ H' D = some (.lst va) ∧ ShrL G.K G.mg A' va acc := fun {A2 H2 A' H' acc va} s12 s3 nw2 aD2 hD2 sa g => by
    refine ⟨sub_trans s12 g.aa, sub_trans s3 g.hh, fun a e n => ?_, ?_, g.hh _ _ hD2, sa.mono g.aa⟩
    · by_cases z : A2 a = none
      · exact Same.free (H := H1) (H' := H2) s3 (g.nw a z n)
      · exact nw2 a e z
    · cases z : A' D with
      | none => rfl
      | some o =>
        have := g.nw D aD2 (by rw [z]; exact Option.some_ne_none _)
        rw [hD2] at this; cases this
  refine ⟨fun i m H' => m + i = ds.length ∧ St (Rest i) H', ⟨ds.length, rfl, A1, [], [], sub_refl, fun a o e => ?_, fun a o e => ?_, fun a e n => absurd e n, aD, upd_same, by simp [ShrL], by simpa [Rest] using q1⟩, ?_⟩
  · rw [upd_ne (ne_of_none e aD)]; exact gr1.ah a o e
  · rw [upd_ne (ne_of_none e hD)]; exact e
  rintro i m H2 ⟨hm2, A2, acc, va, s12, s2, s3, nw2, aD2, hD2, sa, q2⟩
  obtain ⟨w1, w2⟩ := W1 A2 H2 s12 s2
  by_cases hi2 : i < ds.length
  · obtain ⟨d, hd⟩ : ∃ d, ds[i]? = some d := ⟨ds[i], by simp [hi2]⟩
    have hdrop : ds.drop i = d :: ds.drop (i + 1) := by
      rw [List.drop_eq_getElem_cons hi2]
      congr 1
      rw [List.getElem?_eq_getElem hi2] at hd
      exact Option.some.inj hd
    simp only [Rest] at q2
    rw [hdrop] at q2
    obtain ⟨go, y⟩ := w1 i d hd
    refine .inr ⟨go, St (Rest (i + 1)), fun H' s => ⟨m - 1, by omega, by omega, s⟩, fun x H3 hy => ?_⟩
    obtain ⟨A3, g3, sx⟩ := y x H3 hy
    obtain ⟨r1, r2, r3, r4, r5, r6⟩ := step s12 s3 nw2 aD2 hD2 sa g3
    refine hg A3 H3 (wipe σ vs) (wipeE env vs) x d _ _ g3.ah (v1.mono (sub_trans s12 g3.aa)) sx q2 fun σ' env' v' hw' q' => ⟨by rw [hw']; exact wipe_wipe, ?_⟩
    unfold tYes
    refine iteT ?_
    refine hi1 A3 H3 σ' env' _ _ _ g3.ah v' q' (fun J1 H4 A4 ds1 g4 W4 q4 => ?_) esc0
    obtain ⟨t1, t2, t3, t4, t5, t6⟩ := step r1 r2 r3 r4 r5 r6 g4
    have v4 := (v'.mono g4.aa).wipe vs1
    -- the inner loop
    let In : Nat → List ZL.D → Prop := fun j acc => mInner mg1 mt me (wipeE env' vs1) (ds1.drop j) acc (fun acc' => Rest (i + 1) acc')
    let St1 : Nat → Hp → Prop := fun j H' => ∃ A' acc va, Sub A4 A' ∧ Sub A1 A' ∧ Sub A' H' ∧ Sub H1 H' ∧ (∀ a, A1 a = none → A' a ≠ none → H1 a = none) ∧ A' D = none ∧ H' D = some (.lst va) ∧ ShrL G.K G.mg A' va acc ∧ In j acc
    refine ⟨fun j m H' => m + j = ds1.length ∧ St1 j H', ⟨ds1.length, rfl, A4, acc, va, sub_refl, t1, g4.ah, t2, t3, t4, t5, t6, by simpa [In, Rest] using q4⟩, ?_⟩
    rintro j m5 H5 ⟨hm5, A5, acc5, va5, s45, s15, s5, sH5, nw5, aD5, hD5, sa5, q5⟩
    obtain ⟨x1, x2⟩ := W4 A5 H5 s45 s5
    by_cases hj : j < ds1.length
    · obtain ⟨d1, hd1⟩ : ∃ d, ds1[j]? = some d := ⟨ds1[j], by simp [hj]⟩
      have hdrop1 : ds1.drop j = d1 :: ds1.drop (j + 1) := by
        rw [List.drop_eq_getElem_cons hj]
        congr 1
        rw [List.getElem?_eq_getElem hj] at hd1
        exact Option.some.inj hd1
      simp only [In] at q5
      rw [hdrop1] at q5
      obtain ⟨go1, y1⟩ := x1 j d1 hd1
      refine .inr ⟨go1, St1 (j + 1), fun H' s => ⟨m5 - 1, by omega, by omega, s⟩, fun x5 H6 hy1 => ?_⟩
      obtain ⟨A6, g6, sx6⟩ := y1 x5 H6 hy1
      refine hg1 A6 H6 (wipe σ' vs1) (wipeE env' vs1) x5 d1 _ _ g6.ah (v4.mono (sub_trans s45 g6.aa)) sx6 q5 fun σ6 env6 v6 hw6 q6 => ⟨by rw [hw6]; exact wipe_wipe, ?_⟩
      refine ht A6 H6 σ6 env6 _ _ _ g6.ah v6 q6 (fun b H7 A7 g7 q7 => ?_) esc0
      have g67 := g6.trans g7
      cases b with
      | false =>
        simp only [Bool.false_eq_true, if_false] at q7 ⊢
        obtain ⟨u1, u2, u3, u4, u5, u6⟩ := step s15 sH5 nw5 aD5 hD5 sa5 g67
        exact ⟨A7, acc5, va5, sub_trans s45 g67.aa, u1, g7.ah, u2, u3, u4, u5, u6, q7⟩
      | true =>
        simp only [if_true] at q7 ⊢
        refine he.go g7.ah (v6.mono g7.aa) q7 (fun z H8 A8 _ dz g8 sz q8 => ?_) esc0
        have g58 := g67.trans g8
        obtain ⟨u1, u2, u3, u4, u5, u6⟩ := step s15 sH5 nw5 aD5 hD5 sa5 g58
        refine ⟨va5, u5, by rw [u6.length]; exact q8.1, A8, acc5 ++ [dz], va5 ++ [z], sub_trans s45 g58.aa, u1, fun a o e => ?_, fun a o e => ?_, u3, u4, upd_same, u6.append (by simp only [ShrL]; exact ⟨sz, trivial⟩), q8.2⟩
        · rw [upd_ne (ne_of_none e u4)]; exact g8.ah a o e
        · rw [upd_ne (ne_of_none e hD)]; exact u2 a o e
    · have hj : j = ds1.length := by omega
      subst hj
      simp only [In] at q5
      rw [List.drop_length] at q5
      exact .inl ⟨x2, A5, acc5, va5, s15, s5, sH5, nw5, aD5, hD5, sa5, q5⟩
  · have hi2 : i = ds.length := by omega
    subst hi2
    simp only [Rest] at q2
    rw [List.drop_length] at q2
    refine .inl ⟨w2, ?_⟩
    have gg : Gr A1 H1 A2 H2 := ⟨s12, s2, s3, nw2⟩
    exact hq (.ref D) H2 A2 (.ls .sh) (.lst acc) [D] (gr1.trans gg) (own_ls_mk hD2 sa) ⟨by simp, fun a m => by
      have : a = D := by simpa using m
      subst this
      exact ⟨Same.free (H := H) (H' := H1) gr1.hh hD, aD2⟩⟩ q2
theorem ze_comp2 {elt tg iter tg1 iter1 : Expr} {ifs1 : List Expr} {scope : Scope} (own : List (Str × Nat)) (vs1 : List Nat) {pos : Pos} {mi mi1 : ZMI} {mg mg1 : ZMC} {mt : ZMT} {me : ZM} (hi : ZIE Z tg iter mi) (hb : blkC N sc scope own = true) (hv : ∀ i ∈ vs1, i ∈ own.map (·.2)) (hg : ZC (Z.blk scope) (own.map (·.2)) tg mg)
    (hi1 : ZIE (Z.blk scope) tg1 iter1 mi1) (hg1 : ZC (Z.blk scope) vs1 tg1 mg1) (ht : ZTs (Z.blk scope) ifs1 mt) (he : ZE (Z.blk scope) elt me) (hs : ∀ env x, foldedSetIterable iter env x = pure x := by intro _ _; rfl) (hs1 : ∀ env x, foldedSetIterable iter1 env x = pure x := by intro _ _; rfl) :
    ZE Z (.ListComp elt [⟨tg, iter, [], 0⟩, ⟨tg1, iter1, ifs1, 0⟩] scope pos) (mComp2 mi (own.map (·.2)) mg mi1 vs1 mg1 mt me) := by
  obtain ⟨wi, i1, i2⟩ := hi.ex
  obtain ⟨g, g1, g2⟩ := hg.ex
  obtain ⟨wi1, j1, j2⟩ := hi1.ex
  obtain ⟨g', h1, h2⟩ := hg1.ex
  obtain ⟨tt, t1, t2⟩ := ht.ex
  obtain ⟨te, e1, e2⟩ := he.ex
  exact ⟨_, fun i => pe_lc2 (Z.calm i) (by rw [Z.hN]; exact Z.nd) (i1 i) (by rw [Z.hN, Z.hsc]; exact blkOk_by hb) hv (fun s H C cl fp => g1 (i, s, H, C, cl, fp)) (fun s H C cl fp => pts_nil) (fun s H C cl fp => j1 (i, s, H, C, cl, fp)) (fun s H C cl fp => h1 (i, s, H, C, cl, fp)) (fun s H C cl fp => t1 (i, s, H, C, cl, fp)) (fun s H C cl fp => e1 (i, s, H, C, cl, fp)) (hs _) hs1, snd_comp2 i2 g2 j2 h2 t2 e2⟩
end
end ZL


namespace ZL
open PySem PySem.Spec PyProof.Rows L2
section
variable {G : Glob} {N : List Str} {sc : Scope} {fn : Str → Bool} {W : WX} {k : Nat} {Z : Zc G N sc fn W k}
/-! ### y = [.. for .. in .. for .. in ..] -/
theorem zs_setComp2 {i : Nat} {y : Str} {py : Pos} {elt tg iter tg1 iter1 : Expr} {ifs1 : List Expr} {scope : Scope} (own : List (Str × Nat)) (vs1 : List Nat) {pos spos : Pos} {mi mi1 : ZMI} {mg mg1 : ZMC} {mt : ZMT} {me : ZM} {wr : ZM → ZMV} (hwr : ∀ {t m}, Snd G W t m → SndV G W t (wr m)) (hi : ZIE Z tg iter mi) (hb : blkC N sc scope own = true) (hv : ∀ i ∈ vs1, i ∈ own.map (·.2)) (hg : ZC (Z.blk scope) (own.map (·.2)) tg mg)
    (hi1 : ZIE (Z.blk scope) tg1 iter1 mi1) (hg1 : ZC (Z.blk scope) vs1 tg1 mg1) (ht : ZTs (Z.blk scope) ifs1 mt) (he : ZE (Z.blk scope) elt me) (hy : N[i]? = some y := by rfl) (hyl : sc.names.lookup y = some .local := by rfl) (hk : sc.kind = .function := by rfl) (hl : (py.line == pos.line) = true := by rfl)
    (hno : (scope.names.any fun (n, k) => n == y && (k == .local || k == .cell)) = false := by decide +kernel) (hs : ∀ env x, foldedSetIterable iter env x = pure x := by intro _ _; rfl) (hs1 : ∀ env x, foldedSetIterable iter1 env x = pure x := by intro _ _; rfl) :
    ZS Z (.Assign [.Name y py] (.ListComp elt [⟨tg, iter, [], 0⟩, ⟨tg1, iter1, ifs1, 0⟩] scope pos) spos) (wSet i (wr (mComp2 mi (own.map (·.2)) mg mi1 vs1 mg1 mt me))) := by
  obtain ⟨wi, i1, i2⟩ := hi.ex
  obtain ⟨g, g1, g2⟩ := hg.ex
  obtain ⟨wi1, j1, j2⟩ := hi1.ex
  obtain ⟨g', h1, h2⟩ := hg1.ex
  obtain ⟨tt, t1, t2⟩ := ht.ex
  obtain ⟨te, e1, e2⟩ := he.ex
  refine ⟨_, fun j => ps_setLc2 (Z.calm j) (by rw [Z.hN]; exact Z.nd) (by rw [Z.hN]; exact hy) (by rw [Z.hsc]; exact hyl) (sw_true (by rw [Z.hsc]; exact hk) (by rw [Z.hsc]; exact hyl) hl hno) (i1 j) (by rw [Z.hN, Z.hsc]; exact blkOk_by hb) hv (fun s H C cl fp => g1 (j, s, H, C, cl, fp)) (fun s H C cl fp => pts_nil) (fun s H C cl fp => j1 (j, s, H, C, cl, fp)) (fun s H C cl fp => h1 (j, s, H, C, cl, fp)) (fun s H C cl fp => t1 (j, s, H, C, cl, fp)) (fun s H C cl fp => e1 (j, s, H, C, cl, fp)) (hs _) hs1, fun A0 H0 A H σ env fp D Zz I w mm => ?_⟩
  have a2 := hwr (snd_comp2 i2 g2 j2 h2 t2 e2)
  exact a2 A0 H0 A H σ env fp _ _ _ I w (fun v H' A' env' fp' k d f I' s o fr q => mm.nx A' H' _ _ _ (I'.put o fr q.1) s q.2) fun x cls dx H' A' I' s xa q => mm.ex A' H' σ env fp x cls dx I' s xa q
/-! ### xs[a:b:c] of a list -/
def ixs (lo hi st : Option Int) (n : Nat) : List Nat := sliceRange (sliceBounds lo hi st n).1 (sliceBounds lo hi st n).2.1 (sliceBounds lo hi st n).2.2
def pick {α : Type} (xs : List α) (lo hi st : Option Int) : List α := (ixs lo hi st xs.length).filterMap (xs[·]?)
theorem pick_vals {xs : List V} {its : List Value} (r : Vals xs its) (lo hi st : Option Int) : Vals (pick xs lo hi st) (pick its lo hi st) := by
  unfold pick
  rw [r.length]
  induction ixs lo hi st its.length with
  | nil => exact .nil
  | cons i l ih =>
    rw [List.filterMap_cons, List.filterMap_cons]
    cases e : xs[i]? with
    | none => rw [r.none_of e]; exact ih
    | some x =>
      obtain ⟨u, hu, ru⟩ := r.get e
      rw [hu]
      exact .cons ru ih
theorem pick_array (its : List Value) (lo hi st : Option Int) : slicePick its.toArray lo hi st = (pick its lo hi st).toArray := by
  unfold slicePick pick ixs
  rw [List.size_toArray]
  simp only [List.getElem?_toArray]
theorem pick_length {α : Type} (xs : List α) (lo hi st : Option Int) : (pick xs lo hi st).length ≤ xs.length := by
  have h := slicePick_size_le (xs.map fun _ => Value.none).toArray lo hi st
  rw [pick_array, List.size_toArray, List.size_toArray, List.length_map] at h
  have e : pick (xs.map fun _ => Value.none) lo hi st = (pick xs lo hi st).map fun _ => Value.none := by
    unfold pick
    rw [List.length_map]
    induction ixs lo hi st xs.length with
    | nil => rfl
    | cons i l ih =>
      rw [List.filterMap_cons, List.filterMap_cons, List.getElem?_map]
      cases e : xs[i]? with
      | none => exact ih
      | some x => simp only [Option.map_some, List.map_cons]; rw [ih]
  rw [e, List.length_map] at h
  exact h
theorem pick_shr {K : PySem.W.Frag} {mg : Str → Option Value} {A : Hp} {vs : List V} {ds : List D} (s : ShrL K mg A vs ds) (lo hi st : Option Int) : ShrL K mg A (pick vs lo hi st) (pick ds lo hi st) := by
  unfold pick
  rw [s.length]
  induction ixs lo hi st ds.length with
  | nil => simp [ShrL]
  | cons i l ih =>
    rw [List.filterMap_cons, List.filterMap_cons]
    cases e : vs[i]? with
    | none =>
      have : ds[i]? = none := by
        rw [List.getElem?_eq_none_iff] at e ⊢
        rw [← s.length]; exact e
      rw [this]; exact ih
    | some x =>
      have hi : i < ds.length := by
        rw [← s.length]
        exact (List.getElem?_eq_some_iff.1 e).1
      obtain ⟨d, hd⟩ : ∃ d, ds[i]? = some d := ⟨ds[i], by simp [hi]⟩
      rw [hd]
      simp only [ShrL]
      obtain ⟨v, hv, sv⟩ := s.get hd
      rw [e] at hv
      cases hv
      exact ⟨sv, ih⟩
def tPk (K : PySem.W.Frag) (te : TE) (tl th ts : TO) : TE := fun σ H Q => te σ H fun x H1 => tl σ H1 fun l H2 => th σ H2 fun u H3 => ts σ H3 fun st H4 => st ≠ some 0 ∧ ∃ a xs, x = .ref a ∧ SqL K H4 a xs ∧ ∀ p, H4 p = none → Q (.ref p) (upd H4 p (.lst (pick xs l u st)))
theorem pe_pk {X : Cx} {e s : Expr} {lo hi : Option Expr} {te : TE} {tl th ts : TO} {p3 pos : Pos} (he : PE X e te) (hl : PO X lo tl) (hh : PO X hi th) (hs : PO X (some s) ts) : PE X (.Subscript e (.Slice lo hi (some s) p3) pos) (tPk X.K te tl th ts) := by
  refine ⟨fun pins s0 σ H Q I h => ?_⟩
  refine Subscript_ (thn (he.run pins s0 σ H _ I h) fun v s1 ⟨x, H1, I1, r1, q1⟩ => ?_)
  refine wpAny_Slice (thn (hl.run pins s1 σ H1 _ I1 q1) fun vl s2 ⟨l, H2, I2, pl, q2⟩ => thn (hh.run pins s2 σ H2 _ I2 q2) fun vu s3 ⟨u, H3, I3, pu, q3⟩ => ?_)
  refine thn (hs.run pins s3 σ H3 _ I3 q3) fun vs s4 ⟨o, H4, I4, ps, q4⟩ => ?_
  obtain ⟨h0, a, xs, rfl, hx, q⟩ := q4
  cases r1
  have I5 : Inv X pins σ H4 { s4 with heap := s4.heap.push { cls := .type "slice", data := .fields #[vl, vu, vs] } } := I4.kept (t' := s4.toks) fun b ob q => Heap.get?_push_of_some _ q
  obtain ⟨its, r, ht, hz⟩ := I5.list hx
  have hlen := r.length
  show wpAny (model X.prog X.w) X.A (subscriptTail e (.Slice lo hi (some s) p3) (.ref a) (.ref s4.heap.objs.size)) (EP X pins σ Q) X.xe { s4 with heap := s4.heap.push { cls := .type "slice", data := .fields #[vl, vu, vs] } }
  refine tail_any (ops := [.ref a, .ref s4.heap.objs.size]) ht.isList.typeIs (PySem.slot_list_getitem.lookup) ?_ (by with_unfolding_all rfl)
  refine wpAny_getItem_list_slice ht.isList (Heap.IsSliceOf.new _ vl vu vs) pl pu ps h0 ?_ (by rw [List.size_toArray]; omega)
  rw [pick_array]
  refine ⟨.ref _, _, I5.laid (t' := s4.toks) (o := .lst (pick xs l u o)) (fun b ob q => Heap.get?_push_of_some _ q) (Nat.le_refl _) ?_, rfl, q _ (I5.hok.fresh (Nat.le_refl _))⟩
  exact ⟨Nat.le_trans (pick_length xs l u o) hz, _, 0, pick_vals r l u o, Heap.get?_push_size _ rfl⟩
/-- xs[a:b:c] -/
def mPk (m : ZM) (lo hi st : DPart) : ZM := fun env Q E => m env (fun _ x => lo env (fun a => hi env (fun b => st env (fun c => c ≠ some 0 ∧ match x with
  | .lst ds => Q (.ls .sh) (.lst (pick ds a b c))
  | _ => False) E) E) E) E
theorem ze_pk {e s : Expr} {lo hi : Option Expr} {m : ZM} {ml mh ms : DPart} {pos p2 : Pos} (he : ZE Z e m) (hl : ZO Z lo ml) (hh : ZO Z hi mh) (hst : ZO Z (some s) ms) : ZE Z (.Subscript e (.Slice lo hi (some s) p2) pos) (mPk m ml mh ms) := by
  obtain ⟨t, a1, a2⟩ := he.ex
  obtain ⟨tl, b1, b2⟩ := hl.ex
  obtain ⟨th, c1, c2⟩ := hh.ex
  obtain ⟨ts, d1, d2⟩ := hst.ex
  refine ⟨tPk G.K t tl th ts, fun i => ?_, fun A H σ env Q Qz Ez h v hm hq he => ?_⟩
  · have := pe_pk (p3 := p2) (pos := pos) (a1 i) (b1 i) (c1 i) (d1 i)
    rw [Z.hK i] at this
    exact this
  refine a2.go h v hm (fun x H1 A1 _ d g1 s1 q1 => ?_) he
  refine b2 A1 H1 σ env _ _ Ez g1.ah (v.mono g1.aa) q1 (fun a H2 A2 g2 q2 => ?_) (he.gr g1)
  refine c2 A2 H2 σ env _ _ Ez g2.ah (v.mono (g1.trans g2).aa) q2 (fun b H3 A3 g3 q3 => ?_) (he.gr (g1.trans g2))
  refine d2 A3 H3 σ env _ _ Ez g3.ah (v.mono ((g1.trans g2).trans g3).aa) q3 (fun c H4 A4 g4 q4 => ?_) (he.gr ((g1.trans g2).trans g3))
  have g := ((g1.trans g2).trans g3).trans g4
  have s3 := ((s1.mono g2.aa).mono g3.aa).mono g4.aa
  refine ⟨q4.1, ?_⟩
  have q5 := q4.2
  cases d with
  | lst ds =>
    simp only [Shr] at s3
    obtain ⟨p, xs, e1, h1, h2⟩ := s3
    exact ⟨p, xs, e1, sqL_of g4.ah h1, fun l hl => putL g4.ah (fun v H' A' k d fp g5 o4 f4 q4 => hq v H' A' k d fp (g.trans g5) o4 (f4.back g.hh) q4) (pick_shr h2 a b c) q5 hl⟩
  | _ => exact q5.elim
end
end ZL


namespace ZL
open PySem PySem.Spec PyProof.Rows L2
/-! ### plain laws of loops and comprehensions -/
theorem for_items {α : Type} {g : ZMG} {b : ZMS} {Z : ZEnds} {env : DEnv} (xs : List α) (h : α → D) (I : Nat → DEnv → Prop) (h0 : I 0 env)
    (hs : ∀ i x, xs[i]? = some x → ∀ env K, I i env → (∀ e, I (i + 1) e → K e) → g (h x) env fun env' => b env' ⟨K, Z.rt, Z.nx, K, Z.ex⟩)
    (hn : ∀ env, I xs.length env → Z.nx env) : wForL g b (xs.map h) env Z := by
  have aux : ∀ (k j : Nat) (env : DEnv), j + k = xs.length → I j env → wForL g b ((xs.drop j).map h) env Z := by
    intro k
    induction k with
    | zero =>
      intro j env e i
      have : j = xs.length := by omega
      subst this
      rw [List.drop_length]
      exact hn env i
    | succ k ih =>
      intro j env e i
      have hj : j < xs.length := by omega
      rw [List.drop_eq_getElem_cons hj, List.map_cons]
      simp only [wForL]
      exact hs j _ (List.getElem?_eq_getElem hj) env _ i fun e' i' => ih (j + 1) e' (by omega) i'
  have := aux xs.length 0 env (by omega) h0
  simpa using this
theorem for_range {g : ZMG} {b : ZMS} {Z : ZEnds} {env : DEnv} {lo : Int} {n : Nat} (I : Nat → DEnv → Prop) (h0 : I 0 env)
    (hs : ∀ i, i < n → ∀ env K, I i env → (∀ e, I (i + 1) e → K e) → g (.int (lo + (i : Int))) env fun env' => b env' ⟨K, Z.rt, Z.nx, K, Z.ex⟩)
    (hn : ∀ env, I n env → Z.nx env) : wForL g b (rangeD lo n) env Z := by
  unfold rangeD
  refine for_items (List.range n) (fun (i : Nat) => D.int (lo + (i : Int))) I h0 (fun i x hx => ?_) fun env h => hn env (by rw [List.length_range] at h; exact h)
  have hi : i < n := by
    have := (List.getElem?_eq_some_iff.1 hx).1
    rwa [List.length_range] at this
  rw [List.getElem?_range hi] at hx
  cases hx
  exact hs i hi
/-- the turns of a comprehension -/
theorem compL_of {α : Type} {g : ZMC} {c : ZMT} {e : ZM} {env : SEnv} (h : α → D) (f : α → Option D) : ∀ (xs : List α) (acc : List D) (Q : List D → Prop),
    (∀ x, x ∈ xs → ∀ (K : D → Prop) (S : Prop), (match f x with | some y => K y | none => S) → g (h x) env (fun env' => c env' (fun b => if b = true then e env' (fun _ y => K y) (fun _ => False) else S) (fun _ => False))) →
    acc.length + xs.length ≤ sizeLine → Q (acc ++ xs.filterMap f) → mCompL g c e env (xs.map h) acc Q
  | [], acc, Q, _, _, q => by simpa [mCompL] using q
  | x :: xs, acc, Q, hs, hl, q => by
    rw [List.map_cons]
    simp only [mCompL]
    simp only [List.length_cons] at hl
    refine hs x List.mem_cons_self (fun y => acc.length < sizeLine ∧ mCompL g c e env (xs.map h) (acc ++ [y]) Q) (mCompL g c e env (xs.map h) acc Q) ?_
    cases hf : f x with
    | none =>
      refine compL_of h f xs acc Q (fun y m => hs y (List.mem_cons_of_mem _ m)) (by omega) ?_
      rw [List.filterMap_cons, hf] at q
      exact q
    | some y =>
      refine ⟨by omega, compL_of h f xs (acc ++ [y]) Q (fun y m => hs y (List.mem_cons_of_mem _ m)) (by simp only [List.length_append, List.length_cons, List.length_nil]; omega) ?_⟩
      rw [List.filterMap_cons, hf] at q
      simpa using q
theorem comp_map {α : Type} {g : ZMC} {e : ZM} {env : SEnv} {Q : List D → Prop} (xs : List α) (h : α → D) (f : α → D)
    (hs : ∀ x, x ∈ xs → ∀ K : D → Prop, K (f x) → g (h x) env (fun env' => e env' (fun _ y => K y) (fun _ => False))) (hl : xs.length ≤ sizeLine) (q : Q (xs.map f)) : mCompL g mYes e env (xs.map h) [] Q := by
  refine compL_of h (fun x => some (f x)) xs [] Q (fun x m K S k => ?_) (by simpa using hl) (by simpa using q)
  have := hs x m K k
  simpa [mYes] using this
theorem inner_eq {g : ZMC} {c : ZMT} {e : ZM} {env : SEnv} : ∀ (ds acc : List D) (Q : List D → Prop), mInner g c e env ds acc Q = mCompL g c e env ds acc Q
  | [], acc, Q => rfl
  | d :: ds, acc, Q => by
    simp only [mInner, mCompL]
    congr 1
    funext env'
    congr 1
    funext b
    split
    · congr 1
      funext _ x
      rw [inner_eq]
    · rw [inner_eq]
theorem comp2L_of {α : Type} {g : ZMC} {it1 : ZMI} {vs1 : List Nat} {g1 : ZMC} {c : ZMT} {e : ZM} {env : SEnv} (h : α → D) (f : α → List D) (B : Nat) : ∀ (xs : List α) (acc : List D) (Q : List D → Prop),
    (∀ x, x ∈ xs → ∀ (acc : List D) (K : List D → Prop), acc.length + (f x).length ≤ B → K (acc ++ f x) → g (h x) env (fun env' => it1 env' (fun ds1 => mInner g1 c e (wipeE env' vs1) ds1 acc K) (fun _ => False))) →
    acc.length + (xs.flatMap f).length ≤ B → Q (acc ++ xs.flatMap f) → mComp2L g it1 vs1 g1 c e env (xs.map h) acc Q
  | [], acc, Q, _, _, q => by simpa [mComp2L] using q
  | x :: xs, acc, Q, hs, hl, q => by
    rw [List.map_cons]
    simp only [mComp2L]
    simp only [List.flatMap_cons, List.length_append] at hl q
    refine hs x List.mem_cons_self acc _ (by omega) ?_
    refine comp2L_of h f B xs _ Q (fun y m => hs y (List.mem_cons_of_mem _ m)) (by simp only [List.length_append]; omega) ?_
    rw [List.append_assoc]
    exact q
theorem rangeD_zero {n : Nat} : rangeD 0 n = (List.range n).map fun (i : Nat) => D.int (i : Int) := by
  unfold rangeD
  simp
theorem atI_of {α : Type} {xs : List α} {i : Nat} {x : α} (h : xs[i]? = some x) : atI xs (i : Int) = some x := by
  have hi := (List.getElem?_eq_some_iff.1 h).1
  unfold atI ixN
  rw [if_pos (by omega), if_pos (by omega)]
  simpa using h
theorem atI_nat {α : Type} {xs : List α} {i : Int} {x : α} (h0 : 0 ≤ i) (h : xs[i.toNat]? = some x) : atI xs i = some x := by
  have := atI_of h
  rwa [Int.toNat_of_nonneg h0] at this
theorem atI_0 {α : Type} {a : α} {l : List α} : atI (a :: l) 0 = some a := atI_of (i := 0) rfl
theorem atI_1 {α : Type} {a b : α} {l : List α} : atI (a :: b :: l) 1 = some b := atI_of (i := 1) rfl
theorem atI_2 {α : Type} {a b c : α} {l : List α} : atI (a :: b :: c :: l) 2 = some c := atI_of (i := 2) rfl
theorem atI_3 {α : Type} {a b c d : α} {l : List α} : atI (a :: b :: c :: d :: l) 3 = some d := atI_of (i := 3) rfl
theorem atI_4 {α : Type} {a b c d e : α} {l : List α} : atI (a :: b :: c :: d :: e :: l) 4 = some e := atI_of (i := 4) rfl
theorem atI_5 {α : Type} {a b c d e f : α} {l : List α} : atI (a :: b :: c :: d :: e :: f :: l) 5 = some f := atI_of (i := 5) rfl
theorem atI_6 {α : Type} {a b c d e f g : α} {l : List α} : atI (a :: b :: c :: d :: e :: f :: g :: l) 6 = some g := atI_of (i := 6) rfl
theorem ty_int : tyNm "int" = some .int := by rfl
theorem ty_bool : tyNm "bool" = some .bool := by rfl
theorem ty_str : tyNm "str" = some .str := by rfl
theorem ty_list : tyNm "list" = some .list := by rfl
theorem ty_tuple : tyNm "tuple" = some .tuple := by rfl
theorem ty_dict : tyNm "dict" = some .dict := by rfl
theorem eqOk_int {i : Int} : eqOk (.int i) = true := by rfl
theorem eqOk_non : eqOk .non = true := by rfl
theorem eqOk_bl {b : Bool} : eqOk (.bl b) = true := by rfl
theorem eqD_int {i j : Int} : eqD (.int i) (.int j) = (i == j) := by rfl
theorem eqD_bl {i j : Bool} : eqD (.bl i) (.bl j) = (i == j) := by rfl
theorem eqD_str {i j : Str} : eqD (.str i) (.str j) = (i == j) := by rfl
theorem eqD_non : eqD .non .non = true := by rfl
theorem nc_0 : ((0 : Nat) : Int) = 0 := rfl
theorem nc_1 : ((1 : Nat) : Int) = 1 := rfl
theorem nc_2 : ((2 : Nat) : Int) = 2 := rfl
theorem nc_3 : ((3 : Nat) : Int) = 3 := rfl
theorem nc_4 : ((4 : Nat) : Int) = 4 := rfl
theorem nc_5 : ((5 : Nat) : Int) = 5 := rfl
theorem nc_6 : ((6 : Nat) : Int) = 6 := rfl
theorem cpow_of {i j : Int} (h1 : 0 ≤ j) (h2 : j ≤ 1000000) (h3 : i.natAbs < 2 ^ 64) : CPow i j := ⟨h1, h2, h3⟩
/-! ### the law's own first rows -/
def DrawOk : List Int → List Int → Prop
  | [], [] => True
  | s :: ss, r :: rs => (0 ≤ r ∧ r < s) ∧ DrawOk ss rs
  | _, _ => False
theorem DrawOk.length : ∀ {ss rs : List Int}, DrawOk ss rs → rs.length = ss.length
  | [], [], _ => rfl
  | _ :: _, _ :: _, h => by simp only [List.length_cons, DrawOk.length h.2]
  | [], _ :: _, h => h.elim
  | _ :: _, [], h => h.elim
theorem DrawOk.snoc : ∀ {ss rs : List Int} {s r : Int}, DrawOk ss rs → 0 ≤ r → r < s → DrawOk (ss ++ [s]) (rs ++ [r])
  | [], [], _, _, _, h1, h2 => ⟨⟨h1, h2⟩, trivial⟩
  | _ :: _, _ :: _, _, _, h, h1, h2 => ⟨h.1, DrawOk.snoc h.2 h1 h2⟩
  | [], _ :: _, _, _, h, _, _ => h.elim
  | _ :: _, [], _, _, h, _, _ => h.elim
def sp__law_cell : ZSpec := fun ds Q _ => ∃ (ns : List Int) (k : Int), ds = [.scr ns, .int k] ∧ 0 ≤ k ∧ ∀ c, Q .sh (.int c)
theorem ar__law_cell : ZSpec.Ar sp__law_cell 2 := fun ds Q E h => by
  obtain ⟨ns, k, rfl, _⟩ := h
  rfl
def sp__law_draws : ZSpec := fun ds Q _ => ∃ (c : Int) (ss : List Int), ds = [.int c, .lst (ss.map D.int)] ∧ ss.length < 10 ^ 6 ∧ (∀ s ∈ ss, 0 < s ∧ s ≤ 10 ^ 100) ∧ ∀ rs : List Int, DrawOk ss rs → Q (.ls .sh) (.lst (rs.map D.int))
theorem ar__law_draws : ZSpec.Ar sp__law_draws 2 := fun ds Q E h => by
  obtain ⟨ns, k, rfl, _⟩ := h
  rfl
def sp__law_is_integer : ZSpec := fun ds Q _ => ∃ d, ds = [d] ∧ (match d with
  | .int _ => Q .sh (.bl true)
  | .non => Q .sh (.bl false)
  | .bl _ => Q .sh (.bl false)
  | .str _ => Q .sh (.bl false)
  | .tup _ => Q .sh (.bl false)
  | .lst _ => Q .sh (.bl false)
  | _ => False)
theorem ar__law_is_integer : ZSpec.Ar sp__law_is_integer 1 := fun ds Q E h => by
  obtain ⟨d, rfl, _⟩ := h
  rfl
end ZL


namespace ZL
open PySem PySem.Spec PyProof.Rows L2
/-! ### instances: their making, their fields -/
def setN (f : String) : List String → List String
  | [] => [f]
  | g :: r => if g = f then g :: r else g :: setN f r
def setF (f : String) (d : D) : List String → List D → List D
  | g :: r, x :: ds => if g = f then d :: ds else x :: setF f d r ds
  | _, _ => [d]
theorem putF_shr {K : PySem.W.Frag} {mg : Str → Option Value} {A : Hp} {f : String} {v : V} {d : D} (s : Shr K mg A v d) : ∀ {fv : List (Str × V)} {fs : List String} {ds : List D}, fv.map (·.1) = fs.map Str.ofString → ShrL K mg A (fv.map (·.2)) ds →
    (putF (Str.ofString f) v fv).map (·.1) = (setN f fs).map Str.ofString ∧ ShrL K mg A ((putF (Str.ofString f) v fv).map (·.2)) (setF f d fs ds)
  | [], [], [], _, _ => by
    simp only [putF, setN, setF, List.map_cons, List.map_nil, ShrL]
    exact ⟨trivial, s, trivial⟩
  | [], [], _ :: _, _, t => by simp [ShrL] at t
  | [], _ :: _, _, e, _ => by simp at e
  | _ :: _, [], _, e, _ => by simp at e
  | (g, u) :: fv, g' :: fs, [], e, t => by simp [ShrL] at t
  | (g, u) :: fv, g' :: fs, x :: ds, e, t => by
    simp only [List.map_cons, List.cons.injEq] at e
    simp only [List.map_cons, ShrL] at t
    obtain ⟨e1, e2⟩ := e
    obtain ⟨r1, r2⟩ := putF_shr s e2 t.2
    simp only [putF, setN, setF]
    by_cases hf : g' = f
    · have : g = Str.ofString f := by rw [e1, hf]
      rw [if_pos hf, if_pos hf, if_pos this]
      simp only [List.map_cons, ShrL]
      exact ⟨by rw [e1, e2], s, t.2⟩
    · have : ¬ g = Str.ofString f := fun z => hf (ofString_inj (e1.symm.trans z))
      rw [if_neg hf, if_neg hf, if_neg this]
      simp only [List.map_cons, ShrL]
      exact ⟨by rw [e1, r1], t.1, r2⟩
section
variable {G : Glob} {N : List Str} {sc : Scope} {fn : Str → Bool} {W : WX} {k : Nat} {Z : Zc G N sc fn W k}
/-- self.f = e, self in the making -/
def wFld (i : Nat) (cs : List String) (f : String) (e : ZMV) : ZMS := fun env Z => match env[i]? with
  | some (some (.ob a, .obj c fs ds)) => e env (fun env' _ d => env'[i]? = some (some (.ob a, .obj c fs ds)) ∧ c ∈ cs ∧ fs.length < 1000 ∧ Z.nx (env'.set i (some (.ob a, .obj c (setN f fs) (setF f d fs ds))))) (Z.ex env)
  | _ => False
theorem zs_fld (i : Nat) {cs : List String} {f : String} {x : Str} {e : Expr} {m : ZMV} {p pos pos' : Pos} (hc : ∀ c ∈ cs, ClsF G c f) (he : ZV Z e m) (hx : N[i]? = some x := by rfl) (hv : Vis sc x := by first | exact Or.inl rfl | exact Or.inr (Or.inl rfl) | exact Or.inr (Or.inr rfl))
    (hd : (x == ("__debug__" : Str)) = false := by decide) (hcd : (x == ("__classdict__" : Str)) = false := by decide) (hs : ∀ env, swapsWith e (some (.Attribute (.Name x p) (Str.ofString f) pos')) pos.line env = pure false := by intro _; rfl) :
    ZS Z (.Assign [.Attribute (.Name x p) (Str.ofString f) pos'] e pos) (wFld i cs f m) := by
  obtain ⟨t, a1, a2⟩ := he.ex
  refine ⟨sFld G.K (tVar i) t (Str.ofString f), fun j => ?_, fun A0 H0 A H σ env fp D Zz I w mm => ?_⟩
  · have := ps_fld (X := Z.X j) (f := Str.ofString f) (pos' := pos') (pos := pos) (pe_var (X := Z.X j) (pos := p) (by rw [Z.hN]; exact hx) (by rw [Z.hsc]; exact hv) hd hcd) (a1 j) (hs _)
    rw [Z.hK j] at this
    exact this
  · unfold wFld at w
    split at w
    · rename_i a c fs ds e
      refine a2 A0 H0 A H σ env fp _ _ _ I w (fun u H' A' env' fp' k d g I' s o fr q => ?_) fun x cls dx H' A' I' s xa q => mm.ex A' H' σ env fp x cls dx I' s xa q
      obtain ⟨c1, c2, c3, c4⟩ := q
      obtain ⟨A2, I2, s2, e2⟩ := freezeV I' fr
      obtain ⟨v, q1, q2⟩ := I2.at_ i _ _ c1
      rw [Own] at q2
      obtain ⟨C, dx, fv, c', fs', ds', f1, f2, f3, f4, f0, f5, f6, f7⟩ := q2
      cases f2
      subst f1
      have su := o.shr s2 e2
      obtain ⟨h1, h2⟩ := hc c c2 C f3
      refine ⟨.ref a, q1, a, C, dx, fv, rfl, f4, h1, h2, ?_, ?_⟩
      · have := congrArg List.length f5
        simp only [List.length_map] at this
        omega
      obtain ⟨p1, p2⟩ := putF_shr (f := f) su f5 f6
      have ha : a ∈ fp' i := by rw [f7]; exact List.mem_cons_self ..
      have hdx : dx ∈ fp' i := by rw [f7]; simp
      have ne : a ≠ dx := by
        have := I2.nd i
        rw [f7] at this
        simpa using this
      have I3 := I2.mut (i := i) (kk := .ob a) (d := .obj c (setN f fs) (setF f d fs ds)) (v := .ref a) (a := a) (o := .ins C dx (putF (Str.ofString f) u fv)) (f := [a, dx]) (lt_of_slot c1) ha q1 (by
        rw [Own]
        exact ⟨C, dx, _, c, _, _, rfl, rfl, f3, upd_same, by rw [upd_ne ne.symm]; exact f0, p1, p2, rfl⟩) (by simpa using ne) fun b hb => by
          have hb' : b ∈ fp' i := by rw [f7]; exact hb
          have := I2.own i b hb'
          refine ⟨this.1, this.2.1, ?_, fun j hj z => I2.dis i j (Ne.symm hj) b hb' z⟩
          by_cases e : b = a
          · subst e; rw [upd_same]; exact Option.some_ne_none _
          · rw [upd_ne e]; exact this.2.2
      exact mm.nx A2 _ σ _ _ I3 (sub_trans s s2) c4
    · exact w.elim
theorem cls_of {G : Glob} {c f : String} {C : Addr} (h : G.mg (Str.ofString c) = some (.ref C)) (h1 : Cls G.K C) (h2 : NoAttr G.K C (Str.ofString f)) : ClsF G c f := fun C' h' => by
  cases h.symm.trans h'
  exact ⟨h1, h2⟩
/-! what an __init__ promises -/
abbrev ISpec := List D → (List String → List D → Prop) → (Exn → Prop) → Prop
def spI (G : Glob) (c : String) (n : Nat) (sp : ISpec) : Sp := fun vs H Q E => ∃ x dx C rest A H0 ds Qz Ez, vs = .ref x :: rest ∧ rest.length = n ∧ G.mg (Str.ofString c) = some (.ref C) ∧ dx ≠ x ∧ H0 x = none ∧ H0 dx = none ∧ H = upd (upd H0 dx (.own x)) x (.ins C dx []) ∧
  Sub A H0 ∧ ShrL G.K G.mg A rest ds ∧ sp ds Qz Ez ∧
  (∀ H' A' fs fd fv dx, Gr A H0 A' H' → dx ≠ x → H0 dx = none → H' x = some (.ins C dx fv) → H' dx = some (.own x) → A' x = none → A' dx = none → fv.map (·.1) = fs.map Str.ofString → ShrL G.K G.mg A' (fv.map (·.2)) fd → Qz fs fd → Q .non H') ∧
  (∀ y cls d H' A', Gr A H0 A' H' → ExAt G A' y cls d → Ez y → E cls d H')
def ISpec.Ar (sp : ISpec) (n : Nat) : Prop := ∀ ds Q E, sp ds Q E → ds.length = n
/-- the class c is made as sp says -/
def ClZ (G : Glob) (k : Nat) (c : String) (n : Nat) (dd : List D) (sp : ISpec) : Prop :=
  ∃ C f fd ps ds, Mk G.K C f ∧ G.FnOk k f fd ps (spI G c n sp) ∧ G.mg (Str.ofString c) = some (.ref C) ∧ Binds G.K fd ps ds ∧ Vals (dd.map vC) ds ∧ dd.all isC = true ∧ sp.Ar n
def mMake (c : String) (sp : ISpec) (dd : List D) (m : ZMA) : ZM := fun env Q E => m env (fun ds => sp (ds ++ dd) (fun fs fd => Q .sh (.obj c fs fd)) E) E
def tMakeZ (C : Addr) (sp : Sp) (dvs : List V) (E : L2.St → XK) (t : TA) : TE := fun σ H Q => t σ H fun vs H1 => ∀ x dx, H1 x = none → H1 dx = none → dx ≠ x →
  sp (.ref x :: (vs ++ dvs)) (upd (upd H1 dx (.own x)) x (.ins C dx [])) (fun v H2 => v = .non ∧ Q (.ref x) H2) (E σ)
theorem run_makeZ {X : Cx} {CX : CXT} {k : Nat} {f C : Addr} {fd : FuncData} {ps : List Str} {sp : Sp} {dvs : List V} {ds : List Value} {E : XK} {pins : List (Addr × Obj)} {σ : L2.St} {H : Hp} {s : Shared} {Q : VK} {us : List Value} {vs : List V} (M : Mk X.K C f)
    (F : L2.FnOk X.prog X.w X.K X.mg X.base CX k f fd ps sp) (room : Room (k + 1) X.A) (hb : Binds X.K fd ps ds) (hd : Vals dvs ds) (pass : PassesAt CX X σ E) (I : Inv X pins σ H s) (r : Vals vs us)
    (h : ∀ x dx, H x = none → H dx = none → dx ≠ x → sp (.ref x :: (vs ++ dvs)) (upd (upd H dx (.own x)) x (.ins C dx [])) (fun v H2 => v = .non ∧ Q (.ref x) H2) E) :
    wpAny (model X.prog X.w) X.A (call (.ref C) us) (EP X pins σ Q) X.xe s := by
  let top := s.heap.objs.size
  have J := Inv.made (C := C) I
  have q := h (top + 1) top (I.hok.fresh (Nat.le_succ _)) (I.hok.fresh (Nat.le_refl _)) (Nat.ne_of_lt (Nat.lt_succ_self _))
  have rr : Vals (V.ref (top + 1) :: (vs ++ dvs)) (Value.ref (top + 1) :: (us ++ ds)) := .cons rfl (r.append hd)
  have len : (Value.ref (top + 1) :: us ++ ds).length = ps.length := (rr.length.symm.trans (F.len _ _ _ _ q))
  refine wpAny_call (make_map (f := f) I.kIn M.makes M.init (beq_iff_eq.mp M.fn) (codeAny_mono (F.run _ X.stack _ _ ⟨Value.ref (top + 1) :: us, []⟩ (Value.ref (top + 1) :: (us ++ ds)) _ _ E (room.make C us []) (J.env0.make C us []) (hb _ (Value.ref (top + 1) :: us) J.kIn len) rr q) fun res t z => ?_))
  match res, z with
  | .error e, z => exact pass pins _ _ e t J z
  | .ok (.ret u), z =>
    obtain ⟨v, H', I3, rv, ev, q3⟩ := J.after z
    subst ev
    exact ⟨rv, V.ref (top + 1), H', I3, rfl, q3⟩
  | .ok .next, z => exact z.elim
  | .ok .brk, z => exact z.elim
  | .ok .cont, z => exact z.elim
theorem ze_make {j : Nat} {c : String} {n : Nat} {dd : List D} {sp : ISpec} {p pos : Pos} {e : Expr} {es : List Expr} {m : ZMA} (F : ClZ G j c n dd sp) (hj : j + 1 ≤ k) (ha : ZA Z (e :: es) m) (hg : sc.names.lookup (Str.ofString c) = some .globalImplicit := by rfl)
    (hdb : (Str.ofString c == ("__debug__" : Str)) = false := by decide) (he : ∀ env, starEach (e :: es) env = (false, eval e env) :: starEach es env := by intro _; rfl) (hpl : ∀ env, (backTo pos (starEach es env)).any (·.1) = false := by intro _; rfl) :
    ZE Z (.Call (.Name (Str.ofString c) p) (e :: es) [] pos) (mMake c sp dd m) := by
  obtain ⟨C, f, fd, ps, ds, hM, h1, h2, h4, h5, h6, h7⟩ := F
  obtain ⟨t, a1, a2⟩ := ha.ex
  refine ⟨tMakeZ C (spI G c n sp) (dd.map vC) (WE W) t, fun i => ⟨fun pins s σ H Q I h => ?_⟩, fun A H σ env Q Qz Ez h v hm hq hx => ?_⟩
  · refine wpAny_Call_Name_kw (ld_glob I (show (Z.X i).env.scope.names.lookup (Str.ofString c) = _ by rw [Z.hsc]; exact hg) (by rw [Z.hmg]; exact h2) ?_ hdb)
    refine PySem.W.callWith_K (h₀ := (Z.X i).base) I.ok.mod.kin (by rw [Z.hK]; exact hM.kp) (thn ((a1 i).run pos pins s σ H _ I h) fun us s1 ⟨vs, H1, I1, r, q⟩ => ⟨I1.kIn, ?_⟩) (he _) (hpl _)
    exact run_makeZ (by rw [Z.hK]; exact hM) (FnZ.ok h1 i) ((Z.room i).mono hj) (by rw [Z.hK]; exact h4) h5 (passAt (Z.tk i) σ) I1 r q
  · refine a2 A H σ env _ _ Ez h v hm (fun vs H1 A1 xs g1 s1 q1 => ?_) hx
    intro x dx hx0 hdx0 hne
    have s2 := s1.append (shrL_C (K := G.K) (mg := G.mg) (A := A1) h6)
    refine ⟨x, dx, C, _, A1, H1, xs ++ dd, _, Ez, rfl, by rw [s2.length]; exact h7 _ _ _ q1, h2, hne, hx0, hdx0, rfl, g1.ah, s2, q1, fun H' A' fs fd fv dx g hne hdx0 ox od ax ad e1 e2 q => ⟨rfl, ?_⟩, fun y cls d H' A' g xa q => hx y cls d H' A' (g1.trans g) xa q⟩
    -- the instance is shared from here on
    have hA1x : A1 x = none := Same.free (H := A1) (H' := H1) g1.ah hx0
    have hA1d : A1 dx = none := Same.free (H := A1) (H' := H1) g1.ah hdx0
    let A2 : Hp := fun a => if a = x then some (.ins C dx fv) else if a = dx then some (.own x) else A' a
    have up : Sub A' A2 := fun a o e => by
      show (if a = x then _ else if a = dx then _ else A' a) = some o
      rw [if_neg (fun z => by rw [z, ax] at e; cases e), if_neg (fun z => by rw [z, ad] at e; cases e)]
      exact e
    refine hq (.ref x) H' A2 .sh (.obj c fs fd) [] (g1.trans ⟨sub_trans g.aa up, fun a o e => ?_, g.hh, fun a e n => ?_⟩) (own_sh ?_) Fresh.nil q
    · have e : (if a = x then some (.ins C dx fv) else if a = dx then some (.own x) else A' a) = some o := e
      by_cases z : a = x
      · rw [if_pos z] at e; rw [z]; exact ox.trans e
      · rw [if_neg z] at e
        by_cases z2 : a = dx
        · rw [if_pos z2] at e; rw [z2]; exact od.trans e
        · rw [if_neg z2] at e; exact g.ah a o e
    · have n : (if a = x then some (.ins C dx fv) else if a = dx then some (.own x) else A' a) ≠ none := n
      by_cases z : a = x
      · rw [z]; exact hx0
      · rw [if_neg z] at n
        by_cases z2 : a = dx
        · rw [z2]; exact hdx0
        · rw [if_neg z2] at n; exact g.nw a e n
    · simp only [Shr]
      exact ⟨x, C, dx, fv, rfl, h2, if_pos rfl, by show (if dx = x then _ else if dx = dx then _ else _) = _; rw [if_neg hne, if_pos rfl], e1, e2.mono up⟩
end
/-! ### an __init__ by its body -/
def envI (c : String) (a : Addr) (N : List Str) (ds : List D) : DEnv := some (.ob a, .obj c [] []) :: (ds.map (fun d => some (.sh, d)) ++ List.replicate (N.length - (ds.length + 1)) none)
def endsI (c : String) (a : Addr) (Q : List String → List D → Prop) (E : Exn → Prop) : ZEnds := { nx := fun env => ∃ fs fd, env[0]? = some (some (.ob a, .obj c fs fd)) ∧ Q fs fd, rt := fun _ _ => False, bk := fun _ => False, ct := fun _ => False, ex := fun _ => E }
theorem zi_startI {G : Glob} {c : String} {C x dx : Addr} {A H0 : Hp} {N : List Str} {rest : List V} {ds : List D} (hm : G.mg (Str.ofString c) = some (.ref C)) (h : Sub A H0) (hne : dx ≠ x) (hx : H0 x = none) (hdx : H0 dx = none) (s : ShrL G.K G.mg A rest ds) :
    ZI G A H0 A (upd (upd H0 dx (.own x)) x (.ins C dx [])) (L2.start N (.ref x :: rest)) (envI c x N ds) (fun i => if i = 0 then [x, dx] else []) := by
  have hAx : A x = none := Same.free (H := A) (H' := H0) h hx
  have hAd : A dx = none := Same.free (H := A) (H' := H0) h hdx
  have keep : ∀ b o, H0 b = some o → (upd (upd H0 dx (.own x)) x (.ins C dx [])) b = some o := fun b o e => by
    rw [upd_ne (ne_of_none e hx), upd_ne (ne_of_none e hdx)]; exact e
  refine ⟨⟨sub_refl, fun a o e => keep a o (h a o e), keep, fun a e n => absurd e n⟩, ?_, fun i k d e => ?_, fun i => ?_, fun i j n a m => ?_, fun i a m => ?_⟩
  · unfold L2.start envI
    simp [s.length]
  · cases i with
    | zero =>
      have e : some (some (Kd.ob x, D.obj c [] [])) = some (some (k, d)) := e
      cases e
      refine ⟨.ref x, rfl, ?_⟩
      rw [Own]
      exact ⟨C, dx, [], c, [], [], rfl, rfl, hm, upd_same, by rw [upd_ne hne]; exact upd_same, rfl, by simp [ShrL], rfl⟩
    | succ i =>
      have e : (ds.map (fun d => some (Kd.sh, d)) ++ List.replicate (N.length - (ds.length + 1)) none)[i]? = some (some (k, d)) := e
      by_cases hi : i < ds.length
      · rw [List.getElem?_append_left (by simpa using hi), List.getElem?_map] at e
        cases q : ds[i]? with
        | none => rw [q] at e; cases e
        | some y =>
          rw [q] at e
          have e : some (some (Kd.sh, y)) = some (some (k, d)) := e
          cases e
          obtain ⟨v, e1, e2⟩ := s.get q
          refine ⟨v, ?_, own_sh e2⟩
          unfold L2.start
          rw [List.getElem?_append_left (by simp [s.length]; omega), List.getElem?_map]
          simp [e1]
      · rw [List.getElem?_append_right (by simpa using hi), List.getElem?_replicate] at e
        split at e <;> cases e
  · by_cases hi : i = 0
    · simp [hi, hne.symm]
    · simp [hi]
  · by_cases hi : i = 0
    · have : j ≠ 0 := fun z => n (hi.trans z.symm)
      simp [this]
    · simp [hi] at m
  · by_cases hi : i = 0
    · simp only [hi, if_true, List.mem_cons, List.not_mem_nil, or_false] at m
      rcases m with rfl | rfl
      · exact ⟨hAx, hx, by rw [upd_same]; exact Option.some_ne_none _⟩
      · exact ⟨hAd, hdx, by rw [upd_ne hne, upd_same]; exact Option.some_ne_none _⟩
    · simp [hi] at m
theorem init_ok {G : Glob} {x : Str} {params : Arguments} {body : List Stmt} {scope : Scope} {dvs : List V} {kws : List (Str × V)} {f C : Addr} {fd : FuncData} {N ps : List Str} {k n : Nat} {c : String} {sp : ISpec} {w : ZMS} {dd : List D} {ds : List Value} {qual : Str}
    (F : FunD G.K x qual params body scope dvs kws f fd) (S : FnScope N ps scope) (hM : Mk G.K C f) (hm : G.mg (Str.ofString c) = some (.ref C)) (hb : Binds G.K fd ps ds) (hd : Vals (dd.map vC) ds) (hc : dd.all isC = true) (hn : ps.length = n + 1) (ar : sp.Ar n)
    (hw : ∀ (W : WX) (Z : Zc G N scope (fun _ => true) W k), Zst Z → ZSs Z body w) (hsp : ∀ a ds Q E, sp ds Q E → w (envI c a N ds) (endsI c a Q E)) : ClZ G (k + 1) c n dd sp := by
  refine ⟨C, f, fd, ps, ds, hM, FunD.ok F S (fun vs H Q E h => ?_) fun cdv A outer s H vs Q E hr h => ?_, hm, hb, hd, hc, ar⟩
  · obtain ⟨_, _, _, _, _, _, _, _, _, rfl, h, _⟩ := h
    rw [hn, List.length_cons, h]
  · obtain ⟨o, dx, C', rest, A0, H0, xs, Qz, Ez, rfl, hl, hm', hne, hx0, hd0, rfl, hs, sv, hsp', hq, hx⟩ := h
    cases hm.symm.trans hm'
    let X := cxOf (L2.CX G.P G.w) G.P G.w G.K G.mg G.base N qual scope f cdv A outer s (upd (upd H0 dx (.own o)) o (.ins C dx [])) E
    have tk : Takes X (fun cls d _ H => E cls d H) := takes_of rfl rfl rfl rfl
    let Z : Zc G N scope (fun _ => true) (fun cls d _ H => E cls d H) k := ⟨Unit, fun _ => X, fun _ => rfl, S.nd, fun _ => rfl, fun _ => rfl, fun _ => rfl, fun _ => rfl, fun _ => rfl, fun _ => rfl, fun _ => rfl, fun _ => rfl, fun _ => hr, fun _ => tk⟩
    have st : Zst Z := ⟨fun _ => passes_of rfl, fun _ => rfl, fun _ => rfl⟩
    obtain ⟨t, a1, a2⟩ := (hw _ Z st).ex
    refine ⟨t, a1 (), a2 A0 H0 A0 _ _ _ _ _ _ (zi_startI hm hs hne hx0 hd0 sv) (hsp o xs Qz Ez hsp') ⟨fun A' H' σ' env' fp' I s q => ?_, fun A' H' v k d f g o fr q => q.elim, fun A' H' σ' env' fp' I s q => q.elim, fun A' H' σ' env' fp' I s q => q.elim, fun A' H' σ' env' fp' y cls dx I s xa q => hx y cls dx H' A' I.gr xa q⟩⟩
    obtain ⟨fs, fd', e, q⟩ := q
    obtain ⟨v, q1, q2⟩ := I.at_ 0 _ _ e
    rw [Own] at q2
    obtain ⟨C2, dx2, fv, c2, fs2, fd2, f1, f2, f3, f4, f0, f5, f6, f7⟩ := q2
    cases f2
    cases hm.symm.trans f3
    have o1 := I.own 0 o (by rw [f7]; simp)
    have o2 := I.own 0 dx2 (by rw [f7]; simp)
    have nd := I.nd 0
    rw [f7] at nd
    exact hq H' A' fs fd' fv dx2 I.gr (by simp at nd; exact fun z => nd z.symm) o2.2.1 f4 f0 o1.1 o2.1 f5 f6 q
end ZL


namespace ZL
open PySem PySem.Spec PyProof.Rows L2
/-! ### list(reversed(xs)) -/
section
variable {prog : Program} {w : World} {A : Around} {s : Shared} {R : Result → Shared → Prop}
theorem list_init_revZ {it l S : Addr} {items : Array Value} (hh : A.handled = none) (hit : s.heap.IsRevIter it l ((items.size : Int) - 1)) (hl : s.heap.IsList l items) (hne : l ≠ it) (hn : items.size ≤ sizeLine) (hSi : S ≠ it) (hSl : S ≠ l)
    (hS : s.heap.get? S = some { cls := .type "list", data := .seq #[] })
    (hR : ∀ s' acc c, Moved [S, it] (fun a b => b = a) s s' → s'.heap.get? S = some { cls := .type "list", dict := none, data := .seq acc c, slots := #[] } → ItemsOf (fun i v => items[items.size - 1 - i]? = some v) acc items.size → R (.ok (.ret .none)) s') :
    wpAny (model prog w) A.in1 (Builtin.«list.__init__» ⟨[.ref S, .ref it], []⟩)
      (fun fin s' => match fin with | .done f => R (.ok f) s' | .again c' => c'.quiet = true ∧ codeAny (model prog w) A c' R s') (fun e s' => R (.error e) s') s := by
  have W := (Walks.listRev (prog := prog) (w := w) (A := A.in1) hh it l hne items).toS
  have out : S ∉ [it, l] := by simp only [List.mem_cons, List.not_mem_nil, or_false, not_or]; exact ⟨hSi, hSl⟩
  show wpAny _ A.in1 (do let old ← Builtin.List.listItems (.ref S); Builtin.List.listUpdate (.ref S) (fun _ => #[]); letGo old.toList.reverse; Builtin.List.listExtendWith (.ref S) (.ref it) .none) _ _ s
  refine wpAny_bind ?_
  unfold Builtin.List.listItems
  refine wpAny_bind (wpAny_seqItems hS rfl (wpAny_pure ?_))
  refine wpAny_bind (m := updateSeq S fun _ => #[]) (wpAny_updateSeq hS rfl ?_)
  have hS2 := Heap.get?_update_self (Obj.mapSeq (fun _ => (#[] : Array Value))) hS rfl
  have oth : ∀ b o, b ≠ S → s.heap.get? b = some o → (s.heap.update S (Obj.mapSeq (fun _ => (#[] : Array Value)))).get? b = some o := fun b o hb e => (Heap.get?_update_other _ _ (Ne.symm hb)).trans e
  refine wpAny_bind (m := letGo _) (wpAny_letGo ?_)
  have hit2 := hit.at (h' := s.heap.update S (Obj.mapSeq (fun _ => (#[] : Array Value)))) fun o e => oth it o (Ne.symm hSi) e
  have hl2 : (s.heap.update S (Obj.mapSeq (fun _ => (#[] : Array Value)))).IsList l items := hl.at fun o e => oth l o (Ne.symm hSl) e
  have hT : ({ s with heap := s.heap.update S (Obj.mapSeq (fun _ => (#[] : Array Value))) } : Shared).TypeIs (.ref it) "list_reverseiterator" := Heap.IsRevIter.typeIs (s := { s with heap := s.heap.update S (Obj.mapSeq (fun _ => (#[] : Array Value))) }) hit2
  have h1 : Builtin.List.listSameRef (.ref S) (.ref it) = false := by simp [Builtin.List.listSameRef, hSi]
  unfold Builtin.List.listExtendWith
  refine wpAny_bind (wpAny_typeOf hT ?_)
  rw [if_neg (by rw [h1]; decide)]
  refine wpAny_bind (wpAny_pyIter_revIter (s := { s with heap := s.heap.update S (Obj.mapSeq (fun _ => (#[] : Array Value))) }) hit2 ?_)
  refine wpAny_bind (wpAny_holding ?_)
  unfold Builtin.List.listLengthHint
  refine wpAny_bind (wpAny_specialOf hT RT.nolen_lri ?_)
  refine wpAny_bind (m := specialOf (Value.ref it) (Str.ofString "__length_hint__")) (wpAny_specialOf hT RT.hint_lri ?_)
  generalize nm : ("list_reverseiterator.__length_hint__" : String) = id0
  wp_delta
  rw [show splitId id0 = some ("list_reverseiterator", "__length_hint__") from by subst nm; decide +kernel]
  subst nm
  refine wpAny_bind (wpAny_isInstance (b := true) hT (by rw [isSubtype_type]; kernel_rfl) ?_)
  refine wpAny_pure ?_
  rw [if_neg (by decide)]
  have e0 : ((items.size : Nat) : Int) - 1 - ((0 : Nat) : Int) = (items.size : Int) - 1 := by omega
  refine wpAny_pure ⟨plainId_quiet F.plain_extend_loop _, codeAny_extend_loopS W hn S out .none items.size 0 _ _ _ rfl (Nat.zero_le _) ⟨Nat.zero_le _, by rw [e0]; exact hit2, hl2⟩ hS2 (ItemsOf.nil _) fun s' acc c hm hS' hacc => ?_⟩
  refine hR s' acc c ⟨fun b o hb e => hm.heap b o hb (oth b o (fun z => hb (by simp [z])) e), hm.gens, hm.drawn, hm.os, hm.toks⟩ hS' hacc
end
section
variable {prog : Program} {w : World} {A : Around} {E : Value → Shared → Prop} {s : Shared}
theorem call_list_revZ {it l : Addr} {items : Array Value} {Q : Value → Shared → Prop} (hh : A.handled = none) (hit : s.heap.IsRevIter it l ((items.size : Int) - 1)) (hl : s.heap.IsList l items) (hne : l ≠ it) (hn : items.size ≤ sizeLine)
    (hQ : ∀ (h' : Heap) (tk : Nat) (acc : Array Value) (c : Nat), (∀ b o, b ≠ it → s.heap.get? b = some o → h'.get? b = some o) → h'.get? s.heap.objs.size = some { cls := .type "list", dict := none, data := .seq acc c, slots := #[] } →
      ItemsOf (fun i v => items[items.size - 1 - i]? = some v) acc items.size → Q (.ref s.heap.objs.size) { s with heap := h', toks := tk }) :
    wpAny (model prog w) A (call (.type "list") [.ref it]) Q E s := by
  obtain ⟨o1, ho1, _⟩ := id hit
  obtain ⟨o2, ho2, _⟩ := id hl
  refine callType_codes (Q₁ := fun obj t => obj = .ref s.heap.objs.size ∧ t = { s with heap := s.heap.push { cls := .type "list", data := .seq #[] } }) F.called_list (F.typeCall_list_1 _) F.entry_list_init (code_list_new _ ⟨rfl, rfl⟩) ?_
  rintro obj t ⟨rfl, rfl⟩
  have hS : (s.heap.push { cls := .type "list", data := .seq #[] }).get? s.heap.objs.size = some { cls := .type "list", data := .seq #[] } := Heap.get?_push_size _ rfl
  refine ⟨⟨_, hS, rfl⟩, F.args_list_init_2 _ _, list_init_revZ (A := A.in1) hh (hit.at fun o e => Heap.get?_push_of_some _ e) (hl.push _) hne hn (Nat.ne_of_gt (Heap.lt_size ho1)) (Nat.ne_of_gt (Heap.lt_size ho2)) hS fun s' acc c hm hS' hacc => ⟨rfl, ?_⟩⟩
  rw [Moved.eq_with hm]
  refine hQ s'.heap s'.toks acc c (fun b o hb e => hm.heap b o (fun z => ?_) (Heap.get?_push_of_some _ e)) hS' hacc
  rcases List.mem_cons.mp z with z | z
  · exact absurd (Heap.lt_size e) (by rw [z]; exact Nat.lt_irrefl _)
  · exact hb (List.mem_singleton.mp z)
end
def tListRev (K : PySem.W.Frag) (te : TE) : TE := fun σ H Q => te σ H fun v H1 => ∃ (a : Addr) (xs : List V), v = .ref a ∧ SqL K H1 a xs ∧ ∀ q, H1 q = none → Q (.ref q) (upd H1 q (.lst xs.reverse))
theorem pe_listRev {X : Cx} {e : Expr} {te : TE} {p p2 pos pos2 : Pos} (hc : X.calm = true) (hg : Gl X "list") (hm : X.mg "list" = none) (hg2 : Gl X "reversed") (hm2 : X.mg "reversed" = none) (he : PE X e te)
    (st : starEach [e] X.env = (false, eval e X.env) :: starEach [] X.env) (st2 : starEach [.Call (.Name "reversed" p2) [e] [] pos2] X.env = (false, eval (.Call (.Name "reversed" p2) [e] [] pos2) X.env) :: starEach [] X.env) :
    PE X (.Call (.Name "list" p) [.Call (.Name "reversed" p2) [e] [] pos2] [] pos) (tListRev X.K te) := by
  refine ⟨fun pins s σ H Q I h => ?_⟩
  refine Call_ (ld_blt I hg hm boot_list (PyProof.Rows.callWith_type1 (PyProof.Rows.args_cons (Call_ (ld_blt I hg2 hm2 PyProof.Rows.boot_reversed (PyProof.Rows.callWith_type1 (PyProof.Rows.args_cons (thn (he.run pins s σ H _ I h) fun u s1 ⟨v, H1, I1, r1, q1⟩ => PyProof.Rows.args_nil ?_) st) st rfl))) st2) st2 rfl))
  obtain ⟨a, xs, ev, hq, q⟩ := q1
  subst ev
  obtain rfl : u = Value.ref a := r1
  obtain ⟨its, rv, pl, hz⟩ := I1.list hq
  refine call_reversed_list pl.isList (PyProof.Rows.args_nil ?_)
  let top := s1.heap.objs.size
  have I2 : Inv X pins σ H1 { s1 with heap := s1.heap.push (revObj a ((its.toArray.size : Int) - 1)) } := I1.kept (t' := s1.toks) fun b o e => Heap.get?_push_of_some _ e
  obtain ⟨f0, f1, f2, f3, f4, f5⟩ := I1.fpOk (H' := H1) (b := top) (Nat.le_refl _) (I1.hok.fresh (Nat.le_refl _))
  have hl := pl.isList
  obtain ⟨ol, hol, _⟩ := id hl
  have hne : a ≠ top := Nat.ne_of_lt (Heap.lt_size hol)
  have hn : its.toArray.size ≤ sizeLine := by rw [List.size_toArray, ← rv.length]; exact hz
  refine call_list_revZ (s := { s1 with heap := s1.heap.push (revObj a ((its.toArray.size : Int) - 1)) }) (I1.ok.hd hc) ⟨_, Heap.get?_push_size _ rfl, rfl, rfl⟩ (hl.push _) hne hn fun h' tk acc c hk hS hi => ?_
  have big : s1.heap.objs.size ≤ (s1.heap.push (revObj a ((its.toArray.size : Int) - 1))).objs.size := by rw [Heap.size_push]; exact Nat.le_succ _
  refine ⟨.ref _, upd H1 _ (.lst xs.reverse), I1.laid (t' := tk) (fun b u e => hk b u (Nat.ne_of_lt (Heap.lt_size e)) (Heap.get?_push_of_some _ e)) big (show ObjOk X.prog X.w _ _ _ (.lst xs.reverse) from ⟨by rw [List.length_reverse]; exact hz, acc.toList, c, RT.vals_rev rv hi, ?_⟩), rfl, q _ (I1.hok.fresh big)⟩
  rw [Array.toArray_toList]
  exact hS
section
variable {G : Glob} {N : List Str} {sc : Scope} {fn : Str → Bool} {W : WX} {k : Nat} {Z : Zc G N sc fn W k}
theorem ze_listRev {e : Expr} {m : ZM} {p p2 pos pos2 : Pos} (h1 : Free G "list") (h2 : Free G "reversed") (h : ZE Z e m) (g1 : sc.names.lookup ("list" : Str) = some .globalImplicit := by rfl) (g2 : sc.names.lookup ("reversed" : Str) = some .globalImplicit := by rfl)
    (st : ∀ env, starEach [e] env = (false, eval e env) :: starEach [] env := by intro _; rfl) (st2 : ∀ env, starEach [.Call (.Name "reversed" p2) [e] [] pos2] env = (false, eval (.Call (.Name "reversed" p2) [e] [] pos2) env) :: starEach [] env := by intro _; rfl) :
    ZE Z (.Call (.Name "list" p) [.Call (.Name "reversed" p2) [e] [] pos2] [] pos) (mRev m) := by
  obtain ⟨t, a1, a2⟩ := h.ex
  refine ⟨tListRev G.K t, fun i => ?_, fun A H σ env Q Qz Ez hh v hm hq he => ?_⟩
  · have := pe_listRev (p := p) (p2 := p2) (pos := pos) (pos2 := pos2) (Z.calm i) (show (Z.X i).env.scope.names.lookup _ = _ by rw [Z.hsc]; exact g1) (by rw [Z.hmg]; exact h1) (show (Z.X i).env.scope.names.lookup _ = _ by rw [Z.hsc]; exact g2) (by rw [Z.hmg]; exact h2) (a1 i) (st _) (st2 _)
    rw [Z.hK i] at this
    exact this
  · refine a2.go hh v hm (fun x H1 A1 _ d g1 s1 q1 => ?_) he
    cases d with
    | lst ds =>
      simp only [Shr] at s1
      obtain ⟨a, xs, rfl, h1, h2⟩ := s1
      refine ⟨a, xs, rfl, sqL_of g1.ah h1, fun p hp => ?_⟩
      exact putL g1.ah (fun v H' A' k d fp g o f q => hq v H' A' k d fp (g1.trans g) o (f.back g1.hh) q) (shrL_rev h2) q1 hp
    | _ => exact q1.elim
/-! ### len(set(xs)), xs ints -/
def mLenSet (m : ZM) : ZM := fun env Q E => m env (fun _ d => match d with
  | .lst ds => ∃ ns : List Int, ds = ns.map D.int ∧ ns.length < 64 ∧ ns.Nodup ∧ Q .sh (.int ns.length)
  | _ => False) E
theorem ze_lenSet {e : Expr} {m : ZM} {p p2 pos pos2 : Pos} (h1 : Free G "len") (h2 : Free G "set") (h : ZE Z e m) (g1 : sc.names.lookup ("len" : Str) = some .globalImplicit := by rfl) (g2 : sc.names.lookup ("set" : Str) = some .globalImplicit := by rfl)
    (st : ∀ env, starEach [e] env = (false, eval e env) :: starEach [] env := by intro _; rfl) :
    ZE Z (.Call (.Name "len" p) [.Call (.Name "set" p2) [e] [] pos2] [] pos) (mLenSet m) := by
  obtain ⟨t, a1, a2⟩ := h.ex
  refine ⟨tLenSetI G.K t, fun i => ?_, fun A H σ env Q Qz Ez hh v hm hq he => ?_⟩
  · have := pe_lenSetI (p := p) (p2 := p2) (pos := pos) (q := pos2) (Z.calm i) (show (Z.X i).env.scope.names.lookup _ = _ by rw [Z.hsc]; exact g1) (by rw [Z.hmg]; exact h1) (show (Z.X i).env.scope.names.lookup _ = _ by rw [Z.hsc]; exact g2) (by rw [Z.hmg]; exact h2) (a1 i) (st _)
    rw [Z.hK i] at this
    exact this
  · refine a2.go hh v hm (fun x H1 A1 _ d g1 s1 q1 => ?_) he
    cases d with
    | lst ds =>
      obtain ⟨ns, rfl, hl, hn, q1⟩ := q1
      obtain ⟨a, rfl, hs⟩ := shr_ints g1.ah s1
      exact ⟨a, ns, rfl, hs, hl, hn, hq _ H1 A1 .sh _ [] g1 (own_sh (by simp [Shr])) Fresh.nil q1⟩
    | _ => exact q1.elim
end
end ZL


namespace ZL
open PySem PySem.Spec PyProof.Rows L2
section
variable {G : Glob} {N : List Str} {sc : Scope} {fn : Str → Bool} {W : WX} {k : Nat} {Z : Zc G N sc fn W k}
/-- y = [..], y a name that a block reads -/
theorem zs_setC {i : Nat} {x : Str} {elt : Expr} {gs : List Comprehension} {scope : Scope} {m : ZMV} {pos pos' cpos : Pos} (h : ZV Z (.ListComp elt gs scope cpos) m) (hi : N[i]? = some x := by rfl) (hx : sc.names.lookup x = some .cell := by rfl) (hf : fn x = true ∨ sc.names.lookup x = some .local := by first | exact .inl rfl | exact .inr rfl) :
    ZS Z (.Assign [.Name x pos'] (.ListComp elt gs scope cpos) pos) (wSet i m) := by
  obtain ⟨t, a1, a2⟩ := h.ex
  refine ⟨_, fun j => ps_set (by rw [Z.hN]; exact Z.nd) (by rw [Z.hN]; exact hi) (by rw [Z.hsc]; exact Or.inr hx) (a1 j) (sw_false (by rw [Z.hsc]; exact hx)) (by rw [Z.hfn, Z.hsc]; exact hf), fun A0 H0 A H σ env fp D Zz I w mm => ?_⟩
  exact a2 A0 H0 A H σ env fp _ _ _ I w (fun v H' A' env' fp' k d f I' s o fr q => mm.nx A' H' _ _ _ (I'.put o fr q.1) s q.2) fun x cls dx H' A' I' s xa q => mm.ex A' H' σ env fp x cls dx I' s xa q
end
end ZL


namespace ZL
open PySem PySem.Spec PyProof.Rows L2
/-! ### which data may be compared -/
def Dpt (n : Nat) (d : D) : Prop := pyOk d = true ∧ d.py.canLay0 = true ∧ d.py.depth ≤ n
theorem Dpt.int (n : Nat) (i : Int) : Dpt n (.int i) := ⟨rfl, rfl, Nat.zero_le _⟩
theorem Dpt.non (n : Nat) : Dpt n .non := ⟨rfl, rfl, Nat.zero_le _⟩
theorem Dpt.bl (n : Nat) (b : Bool) : Dpt n (.bl b) := ⟨rfl, rfl, Nat.zero_le _⟩
theorem dptL {n : Nat} : ∀ {ds : List D}, (∀ d ∈ ds, Dpt n d) → pyOkL ds = true ∧ PyData.canLayAll0 (pyL ds) = true ∧ PyData.depthAll (pyL ds) ≤ n
  | [], _ => ⟨rfl, rfl, Nat.zero_le _⟩
  | d :: ds, h => by
    obtain ⟨h1, h2, h3⟩ := h d List.mem_cons_self
    obtain ⟨r1, r2, r3⟩ := dptL fun x m => h x (List.mem_cons_of_mem _ m)
    refine ⟨?_, ?_, ?_⟩
    · simp only [pyOkL, h1, r1, Bool.and_self]
    · simp only [pyL, PyData.canLayAll0, h2, r2, Bool.and_self]
    · simp only [pyL, PyData.depthAll]; omega
theorem Dpt.tup {n : Nat} {ds : List D} (h : ∀ d ∈ ds, Dpt n d) : Dpt (n + 1) (.tup ds) := by
  obtain ⟨h1, h2, h3⟩ := dptL h
  refine ⟨by simp only [pyOk]; exact h1, by simp only [D.py, PyData.canLay0]; exact h2, by simp only [D.py, PyData.depth]; omega⟩
theorem Dpt.lst {n : Nat} {ds : List D} (h : ∀ d ∈ ds, Dpt n d) : Dpt (n + 1) (.lst ds) := by
  obtain ⟨h1, h2, h3⟩ := dptL h
  refine ⟨by simp only [pyOk]; exact h1, by simp only [D.py, PyData.canLay0]; exact h2, by simp only [D.py, PyData.depth]; omega⟩
theorem Dpt.ok {n : Nat} {d : D} (h : Dpt n d) (hn : n ≤ 64 := by decide) : eqOk d = true := by
  obtain ⟨h1, h2, h3⟩ := h
  unfold eqOk SeqAt.shaped
  rw [h1, h2, decide_eq_true (Nat.le_trans h3 hn)]
  rfl
theorem Dpt.ints {α : Type} (n : Nat) (f : α → Int) (xs : List α) : ∀ d ∈ xs.map (fun x => D.int (f x)), Dpt n d := fun d m => by
  obtain ⟨x, _, rfl⟩ := List.mem_map.1 m
  exact Dpt.int n _
theorem Dpt.all {α : Type} {n : Nat} {f : α → D} (h : ∀ x, Dpt n (f x)) (xs : List α) : ∀ d ∈ xs.map f, Dpt n d := fun d m => by
  obtain ⟨x, _, rfl⟩ := List.mem_map.1 m
  exact h x
/-! ### equality -/
mutual
theorem eqD_self : ∀ d : D, eqD d d = true
  | .non => rfl
  | .bl b => by simp [eqD, D.py, PyData.eqv]
  | .int i => by simp [eqD, D.py, PyData.eqv]
  | .str s => by simp [eqD, D.py, PyData.eqv]
  | .lst ds => by
    simp only [eqD, D.py, PyData.eqv]
    exact eqL_self ds
  | .tup ds => by
    simp only [eqD, D.py, PyData.eqv]
    exact eqL_self ds
  | .scr _ => rfl
  | .obj _ _ _ => rfl
  | .slf _ _ _ => rfl
  | .ty _ => rfl
  | .cls _ => rfl
  | .dK _ _ => rfl
  | .dT _ _ => rfl
theorem eqL_self : ∀ ds : List D, PyData.eqvAll (pyL ds) (pyL ds) = true
  | [] => rfl
  | d :: ds => by
    simp only [pyL, PyData.eqvAll]
    have := eqD_self d
    unfold eqD at this
    rw [this, eqL_self ds]
    rfl
end
theorem eqL_ints : ∀ xs ys : List Int, PyData.eqvAll (pyL (xs.map D.int)) (pyL (ys.map D.int)) = decide (xs = ys)
  | [], [] => rfl
  | [], _ :: _ => by simp [pyL, PyData.eqvAll]
  | _ :: _, [] => by simp [pyL, PyData.eqvAll]
  | x :: xs, y :: ys => by
    simp only [List.map_cons, pyL, D.py, PyData.eqvAll, PyData.eqv, eqL_ints xs ys]
    by_cases h : x = y
    · subst h; simp
    · simp [h]
theorem eqD_tups (xs ys : List Int) : eqD (.tup (xs.map D.int)) (.tup (ys.map D.int)) = decide (xs = ys) := by
  simp only [eqD, D.py, PyData.eqv]
  exact eqL_ints xs ys
theorem eqD_lsts (xs ys : List Int) : eqD (.lst (xs.map D.int)) (.lst (ys.map D.int)) = decide (xs = ys) := by
  simp only [eqD, D.py, PyData.eqv]
  exact eqL_ints xs ys
theorem eqD_tup_non (xs : List D) : eqD (.tup xs) .non = false := by simp only [eqD, D.py, PyData.eqv]
theorem eqD_non_tup (xs : List D) : eqD .non (.tup xs) = false := by simp only [eqD, D.py, PyData.eqv]
theorem eqD_int_non (i : Int) : eqD (.int i) .non = false := rfl
theorem eqD_non_int (i : Int) : eqD .non (.int i) = false := rfl
theorem inD_ints (i : Int) (ns : List Int) : inD (.int i) (ns.map D.int) = decide (i ∈ ns) := by
  unfold inD
  induction ns with
  | nil => rfl
  | cons n ns ih =>
    rw [List.map_cons, List.any_cons, ih, eqD_int]
    by_cases h : n = i
    · subst h; simp
    · have : ¬ i = n := fun z => h z.symm
      simp [h, this]
theorem all_ints (ns : List Int) : ((ns.map D.int).all fun x => clnS x) = true := by
  rw [List.all_eq_true]
  intro x hx
  obtain ⟨p, _, rfl⟩ := List.mem_map.1 hx
  rfl
theorem clnL_of {ds : List D} (h : (ds.all fun x => clnS x) = true) : clnL ds = true := by
  induction ds with
  | nil => rfl
  | cons d ds ih =>
    simp only [List.all_cons, Bool.and_eq_true] at h
    simp only [clnL, h.1, ih h.2, Bool.and_self]
theorem clnL_ints (ns : List Int) : clnL (ns.map D.int) = true := clnL_of (all_ints ns)
theorem all_map {α : Type} {f : α → D} (h : ∀ x, clnS (f x) = true) (xs : List α) : ((xs.map f).all fun x => clnS x) = true := by
  rw [List.all_eq_true]
  intro x hx
  obtain ⟨p, _, rfl⟩ := List.mem_map.1 hx
  exact h p
theorem DrawOk.get : ∀ {ss rs : List Int} {i : Nat} {s : Int}, DrawOk ss rs → ss[i]? = some s → ∃ r, rs[i]? = some r ∧ 0 ≤ r ∧ r < s
  | [], [], _, _, _, e => by simp at e
  | [], _ :: _, _, _, h, _ => h.elim
  | _ :: _, [], _, _, h, _ => h.elim
  | s :: ss, r :: rs, 0, x, h, e => by
    simp at e
    subst e
    exact ⟨r, rfl, h.1⟩
  | s :: ss, r :: rs, i + 1, x, h, e => by
    simpa using DrawOk.get h.2 (by simpa using e)
theorem ifZ {c : Prop} [Decidable c] {A B : Prop} (h1 : c → A) (h2 : ¬ c → B) : if c then A else B := by
  by_cases h : c
  · rw [if_pos h]; exact h1 h
  · rw [if_neg h]; exact h2 h
theorem sorted_uniq {a b : List Int} (p : a.Perm b) (ha : a.Pairwise (· ≤ ·)) (hb : b.Pairwise (· ≤ ·)) : a = b := List.Perm.eq_of_pairwise (fun x y _ _ h1 h2 => Int.le_antisymm h1 h2) ha hb p
end ZL


namespace ZL
open PySem PySem.Spec PyProof.Rows L2
/-! ### l.count(x), items of any depth -/
def rCntD (K : PySem.W.Frag) : V → List V → Hp → VK → Prop := fun x xs H Q => ∃ (a : Addr) (y : V) (d : PyData) (ds : List PyData), x = V.ref a ∧ xs = [y] ∧ Dp K H (V.ref a) (.list ds) ∧ Dp K H y d ∧
  SeqAt.shaped (.list ds) = true ∧ SeqAt.shaped d = true ∧ Q (.int (ds.countP fun z => PyData.eqv z d : Nat)) H
theorem mt_cntD {X : Cx} (hu : X.A.units + 65 < cLine) : MtR X "list.count" (rCntD X.K) := by
  intro pins s σ H x xs v us Q I rx rxs h
  obtain ⟨a, y, d, ds, rfl, rfl, hl, hy, sl, sd, q⟩ := h
  cases rx
  obtain ⟨uy, rfl, ry⟩ := rxs.one
  obtain ⟨bs, r1⟩ := Dp.reads I d y uy hy ry
  have lay : PyData.canLayAll0 ds = true := SeqAt.canLay_of_shaped sl
  have deep : X.A.units + 1 + min (PyData.depthAll ds) d.depth < cLine := room_in_shaped sd hu
  cases hl with
  | lst hs ha =>
    obtain ⟨its, rv, ⟨⟨cls, dd, data, sls⟩, n, ho, hc, hdn, hdt⟩, hlen⟩ := I.list hs
    simp only at hc hdt
    subst hc hdt
    obtain ⟨as, h4⟩ := Dp.readsAll I ds _ its ha rv
    have back : its.map (SeqAt.readOf s.heap) = ds := SeqAt.readsAll_map ds its as lay h4
    refine call_meets PySem.F.slot_list_count ⟨_, ho, rfl⟩ PySem.F.entry_list_count (PySem.F.args_list_count_2 _ _)
      (SeqAt.list_countAt a its.toArray n dd sls uy (fun u => PyData.eqv (SeqAt.readOf s.heap u) d)) ⟨ho, SeqAt.items_eqAt (vs := its.toArray) (show ReadsAll s.heap its.toArray.toList ds as from h4) r1 lay (SeqAt.canLay_of_shaped sd) deep, ?_⟩
    have e : its.toArray.toList.countP (fun u => PyData.eqv (SeqAt.readOf s.heap u) d) = ds.countP fun z => PyData.eqv z d := by
      rw [← back, List.countP_map]
      rfl
    refine ⟨.int (ds.countP fun z => PyData.eqv z d : Nat), H, I.tok _, ⟨s.toks, ?_⟩, q⟩
    rw [e]
section
variable {G : Glob} {N : List Str} {sc : Scope} {fn : Str → Bool} {W : WX} {k : Nat} {Z : Zc G N sc fn W k}
/-! ### methods of lists that read -/
abbrev DMt := D → List D → (Kd → D → Prop) → Prop
def SndMt (G : Glob) (r : V → List V → Hp → VK → Prop) (o : DMt) : Prop := ∀ A H x xs d ds (Q : VK) Qz, Sub A H → Shr G.K G.mg A x d → ShrL G.K G.mg A xs ds → o d ds Qz →
  (∀ v H' A' k d fp, Gr A H A' H' → Own G.K G.mg A' H' k v d fp → Fresh H A' fp → Qz k d → Q v H') → r x xs H Q
structure ZMt (Z : Zc G N sc fn W k) (id : String) (o : DMt) : Prop where
  ex : ∃ r, (∀ i, MtR (Z.X i) id r) ∧ SndMt G r o
def mMeth (o : DMt) (a : ZM) (m : ZMA) : ZM := fun env Q E => a env (fun _ x => (match x with
  | .lst _ => True
  | _ => False) ∧ m env (fun ds => o x ds Q) E) E
theorem ze_meth {id : String} {ob e : Expr} {es : List Expr} {name : Str} {apos cpos : Pos} {o : DMt} {mo : ZM} {m : ZMA} (pa : PlainAttrs "list") (slot : Slot "list" name id) (hty : typeOf (.builtin id) = pure (.type "method_descriptor")) (hm : ZMt Z id o) (ho : ZE Z ob mo) (ha : ZA Z (e :: es) m)
    (h1 : ∀ env, attributeBase ob name env (eval ob env) = eval ob env := by intro _; rfl)
    (h2 : ∀ env, ((backTo cpos (starEach (e :: es) env)).all (fun x => !x.1) && (backToKw cpos (keywordEach [] env)).all (fun x => x.1.isSome) && decide ((e :: es).length + ([] : List Keyword).length + (if ([] : List Keyword).isEmpty then 0 else 1) < 30)) = true := by intro _; rfl)
    (h3 : (apos.endLine == cpos.line) = true := by rfl) (h4 : ∀ env, starEach (e :: es) env = (false, eval e env) :: starEach es env := by intro _; rfl) (h5 : ∀ env, (backTo cpos (starEach es env)).any (·.1) = false := by intro _; rfl) :
    ZE Z (.Call (.Attribute ob name apos) (e :: es) [] cpos) (mMeth o mo m) := by
  obtain ⟨r, r1, r2⟩ := hm.ex
  obtain ⟨t, a1, a2⟩ := ho.ex
  obtain ⟨u, b1, b2⟩ := ha.ex
  refine ⟨tBM G.K "list" r t u, fun i => ?_, fun A H σ env Q Qz Ez hh v hm' hq he => ?_⟩
  · have := pe_bm (X := Z.X i) pa slot hty (r1 i) (a1 i) (b1 i) (h1 _) (h2 _) h3 (h4 _) (h5 _)
    rw [Z.hK i] at this
    exact this
  · refine a2.go hh v hm' (fun x H1 A1 _ d g1 s1 q1 => ?_) he
    obtain ⟨q0, q1⟩ := q1
    cases d with
    | lst zs =>
      have s1' := s1
      simp only [Shr] at s1
      obtain ⟨p, xs, rfl, e1, e2⟩ := s1
      refine ⟨.inl ⟨rfl, xs, sqL_of g1.ah e1⟩, ?_⟩
      refine b2 A1 H1 σ env _ _ Ez g1.ah (v.mono g1.aa) q1 (fun ys H2 A2 ds g2 s2 q2 => ?_) (he.gr g1)
      exact r2 A2 H2 _ ys _ ds Q Qz g2.ah (s1'.mono g2.aa) s2 q2 fun v H' A' k d fp g o f q => hq v H' A' k d fp ((g1.trans g2).trans g) o (f.back (g1.trans g2).hh) q
    | _ => exact q0.elim
def oCount : DMt := fun x xs Q => match x, xs with
  | .lst ds, [y] => (eqOk (.lst ds) && eqOk y) = true ∧ Q .sh (.int (ds.countP fun z => eqD z y : Nat))
  | _, _ => False
theorem countP_pyL {x : D} : ∀ ds : List D, (pyL ds).countP (fun z => z.eqv x.py) = ds.countP fun z => eqD z x
  | [] => rfl
  | d :: ds => by
    rw [pyL, List.countP_cons, List.countP_cons, countP_pyL ds]
    rfl
theorem zm_count : ZMt Z "list.count" oCount := by
  refine ⟨rCntD G.K, fun i => ?_, fun A H x xs d ds Q Qz hs sx sxs ho hq => ?_⟩
  · have := mt_cntD (X := Z.X i) (Room.un65 (Z.room i))
    rw [Z.hK i] at this
    exact this
  · unfold oCount at ho
    split at ho
    · rename_i zs y
      obtain ⟨c, ho⟩ := ho
      rw [Bool.and_eq_true] at c
      obtain ⟨d1, z1⟩ := eqOk_dp hs c.1 sx
      obtain ⟨v, rfl, sv⟩ := shrL1 sxs
      obtain ⟨d2, z2⟩ := eqOk_dp hs c.2 sv
      simp only [Shr] at sx
      obtain ⟨p, vs, rfl, e1, e2⟩ := sx
      exact ⟨p, v, _, pyL zs, rfl, rfl, d1, d2, z1, z2, put0 hs hq (d := .int _) (by simp only [Shr]; rw [countP_pyL]) ho⟩
    · exact ho.elim
theorem ze_count {ob e : Expr} {apos cpos : Pos} {mo : ZM} {m : ZM} (ho : ZE Z ob mo) (ha : ZE Z e m)
    (h1 : ∀ env, attributeBase ob "count" env (eval ob env) = eval ob env := by intro _; rfl)
    (h2 : ∀ env, ((backTo cpos (starEach (e :: []) env)).all (fun x => !x.1) && (backToKw cpos (keywordEach [] env)).all (fun x => x.1.isSome) && decide ((e :: []).length + ([] : List Keyword).length + (if ([] : List Keyword).isEmpty then 0 else 1) < 30)) = true := by intro _; rfl)
    (h3 : (apos.endLine == cpos.line) = true := by rfl) (h4 : ∀ env, starEach (e :: []) env = (false, eval e env) :: starEach [] env := by intro _; rfl) (h5 : ∀ env, (backTo cpos (starEach [] env)).any (·.1) = false := by intro _; rfl) :
    ZE Z (.Call (.Attribute ob "count" apos) [e] [] cpos) (mMeth oCount mo (mCons m mNil)) :=
  ze_meth PySem.F.plainAttrs_list PySem.F.slot_list_count PySem.F.type_list_count zm_count ho (za_cons ha za_nil h4) h1 h2 h3 h4 h5
end
end ZL


namespace ZL
open PySem PySem.Spec PyProof.Rows L2
/-! ### len(set(xs)), doublets or not -/
abbrev distinct (ns : List Int) : List Int := PyProof.Rows.firstMet (fun i => ns.getD i 0) ns.length
theorem met_len (val : Nat → Int) : ∀ i, (PyProof.Rows.firstMet val i).length ≤ i ∧ ((PyProof.Rows.firstMet val i).length < i ↔ ¬ ((List.range i).map val).Nodup)
  | 0 => by
    rw [PyProof.Rows.firstMet_zero]
    simp
  | i + 1 => by
    obtain ⟨h1, h2⟩ := met_len val i
    rw [PyProof.Rows.firstMet_succ, List.range_succ, List.map_append, List.map_cons, List.map_nil]
    unfold PyProof.Rows.step_dedup
    have ha := PyProof.Rows.firstMet_any val i (val i)
    have nd : ((List.range i).map val ++ [val i]).Nodup ↔ ((List.range i).map val).Nodup ∧ val i ∉ (List.range i).map val := by
      rw [List.nodup_append]
      constructor
      · rintro ⟨a, b, c⟩
        exact ⟨a, fun m => c _ m _ (List.mem_singleton.mpr rfl) rfl⟩
      · rintro ⟨a, b⟩
        exact ⟨a, by simp, fun x hx y hy => by rw [List.mem_singleton] at hy; subst hy; exact fun e => b (e ▸ hx)⟩
    have hany : ((List.range i).map val).any (· == val i) = true ↔ val i ∈ (List.range i).map val := by simp
    rw [nd]
    by_cases hb : ((List.range i).map val).any (· == val i) = true
    · rw [ha, if_pos hb]
      exact ⟨by omega, ⟨fun _ z => z.2 (hany.mp hb), fun _ => by omega⟩⟩
    · rw [ha, if_neg hb, List.length_append, List.length_cons, List.length_nil]
      refine ⟨by omega, ⟨fun z w => h2.mp (by omega) w.1, fun z => ?_⟩⟩
      have : ¬ ((List.range i).map val).Nodup := fun w => z ⟨w, fun m => hb (hany.mpr m)⟩
      have := h2.mpr this
      omega
theorem distinct_len (ns : List Int) : (distinct ns).length ≤ ns.length ∧ ((distinct ns).length < ns.length ↔ ¬ ns.Nodup) := by
  have h := met_len (fun i => ns.getD i 0) ns.length
  have e : (List.range ns.length).map (fun i => ns.getD i 0) = ns := by
    apply List.ext_getElem?
    intro i
    rw [List.getElem?_map]
    by_cases hi : i < ns.length
    · simp [hi]
    · simp [hi]
  rw [e] at h
  exact h
def tLenSetG (K : PySem.W.Frag) (ta : TE) : TE := fun σ H Q => ta σ H fun x H1 => ∃ (l : Addr) (ns : List Int), x = V.ref l ∧ SqL K H1 l (ns.map V.int) ∧ ns.length < 64 ∧ Q (.int ((distinct ns).length : Nat)) H1
theorem pe_lenSetG {X : Cx} {a : Expr} {ta : TE} {p p2 q pos : Pos} (hc : X.calm = true) (hg : Gl X "len") (hm : X.mg "len" = none) (hg2 : Gl X "set") (hm2 : X.mg "set" = none) (ha : PE X a ta)
    (na : starEach [a] X.env = (false, eval a X.env) :: starEach [] X.env) : PE X (.Call (.Name "len" p) [.Call (.Name "set" p2) [a] [] q] [] pos) (tLenSetG X.K ta) := by
  refine ⟨fun pins s σ H Q I h => ?_⟩
  refine Call_ (ld_blt I hg hm PySem.boot_len (PyProof.Rows.callWith_builtin1 (PyProof.Rows.args_cons (Call_ (ld_blt I hg2 hm2 PyProof.Rows.boot_set (PyProof.Rows.callWith_type1 (PyProof.Rows.args_cons (thn (ha.run pins s σ H _ I h) fun v s1 ⟨x, H1, I1, r1, q1⟩ => PyProof.Rows.args_nil ?_) na) na rfl))) rfl) rfl rfl))
  obtain ⟨l, ns, rfl, hq, h1, q1⟩ := q1
  cases r1
  obtain ⟨its, r, pl, hz⟩ := I1.list hq
  have hl : its.toArray.size = ns.length := by rw [List.size_toArray, ← r.length, List.length_map]
  refine call_set_list (I1.ok.hd hc) pl.isList (ns := ns) (by simpa using r.ints) (by unfold scanBound; omega) fun h' tk hS hk => PyProof.Rows.args_nil ?_
  rw [hl] at hS
  obtain ⟨o, es, ep, t, ho, hex, hd, _, _, _, hf, hn⟩ := hS
  have I2 : Inv X pins σ H1 { s1 with heap := h', toks := tk } := I1.kept fun b o e => hk b o (Heap.lt_size e) e
  have hle : (PyProof.Rows.firstMet (fun i => ns.getD i 0) ns.length).length ≤ ns.length := (distinct_len ns).1
  refine call_len_set ho hex hd hf (by rw [hn] <;> omega) ⟨.int ((distinct ns).length : Nat), H1, I2.tok _, ⟨_, by rw [hn]⟩, q1⟩
section
variable {G : Glob} {N : List Str} {sc : Scope} {fn : Str → Bool} {W : WX} {k : Nat} {Z : Zc G N sc fn W k}
def mLenSetG (m : ZM) : ZM := fun env Q E => m env (fun _ d => match d with
  | .lst ds => ∃ ns : List Int, ds = ns.map D.int ∧ ns.length < 64 ∧ Q .sh (.int ((distinct ns).length : Nat))
  | _ => False) E
theorem ze_lenSetG {e : Expr} {m : ZM} {p p2 pos pos2 : Pos} (h1 : Free G "len") (h2 : Free G "set") (h : ZE Z e m) (g1 : sc.names.lookup ("len" : Str) = some .globalImplicit := by rfl) (g2 : sc.names.lookup ("set" : Str) = some .globalImplicit := by rfl)
    (st : ∀ env, starEach [e] env = (false, eval e env) :: starEach [] env := by intro _; rfl) :
    ZE Z (.Call (.Name "len" p) [.Call (.Name "set" p2) [e] [] pos2] [] pos) (mLenSetG m) := by
  obtain ⟨t, a1, a2⟩ := h.ex
  refine ⟨tLenSetG G.K t, fun i => ?_, fun A H σ env Q Qz Ez hh v hm hq he => ?_⟩
  · have := pe_lenSetG (p := p) (p2 := p2) (pos := pos) (q := pos2) (Z.calm i) (show (Z.X i).env.scope.names.lookup _ = _ by rw [Z.hsc]; exact g1) (by rw [Z.hmg]; exact h1) (show (Z.X i).env.scope.names.lookup _ = _ by rw [Z.hsc]; exact g2) (by rw [Z.hmg]; exact h2) (a1 i) (st _)
    rw [Z.hK i] at this
    exact this
  · refine a2.go hh v hm (fun x H1 A1 _ d g1 s1 q1 => ?_) he
    cases d with
    | lst ds =>
      obtain ⟨ns, rfl, hl, q1⟩ := q1
      obtain ⟨a, rfl, hs⟩ := shr_ints g1.ah s1
      exact ⟨a, ns, rfl, hs, hl, hq _ H1 A1 .sh _ [] g1 (own_sh (by simp [Shr])) Fresh.nil q1⟩
    | _ => exact q1.elim
/-! ### what counts as true -/
def truD : D → Option Bool
  | .non => some false
  | .bl b => some b
  | .int i => some (decide (i ≠ 0))
  | .lst ds => some (!ds.isEmpty)
  | .tup ds => some (!ds.isEmpty)
  | _ => none
def mTru (m : ZM) : ZMT := fun env Q E => m env (fun _ d => match truD d with
  | some b => Q b
  | none => False) E
theorem truD_ok {A H : Hp} (hs : Sub A H) {v : V} {d : D} {b : Bool} (s : Shr G.K G.mg A v d) (h : truD d = some b) : TruV G.K v H b := by
  cases d <;> cases h <;> simp only [Shr] at s
  · subst s; rfl
  · subst s; rfl
  · subst s
    rename_i i
    show decide (i ≠ 0) = (i != 0)
    by_cases h : i = 0 <;> simp [h]
  · obtain ⟨a, vs, rfl, e1, e2⟩ := s
    refine .inl ⟨vs, sqL_of hs e1, ?_⟩
    have := e2.length
    rename_i ds
    cases vs <;> cases ds <;> simp_all
  · obtain ⟨a, vs, rfl, e1, e2⟩ := s
    refine .inr (.inl ⟨vs, sqT_of hs e1, ?_⟩)
    have := e2.length
    rename_i ds
    cases vs <;> cases ds <;> simp_all
theorem zt_truth {e : Expr} {m : ZM} (h : ZE Z e m) (he : ∀ env whole, isTrue e env whole = (do let v ← whole; standAt e.pos; holding [v] (truthy v)) := by intro _ _; rfl) : ZT Z e (mTru m) := by
  obtain ⟨t, a1, a2⟩ := h.ex
  refine ⟨fun σ H Q => t σ H fun x H' => ∃ k, TruV G.K x H' k ∧ Q k H', fun i => ?_, fun A H σ env Q Qz Ez hh v hm hq hx => ?_⟩
  · have := pt_truth (X := Z.X i) (a1 i) (he _)
    rw [Z.hK i] at this
    exact this
  · refine a2.go hh v hm (fun x H1 A1 _ d g1 s1 q1 => ?_) hx
    cases e : truD d with
    | none => rw [e] at q1; exact q1.elim
    | some b =>
      rw [e] at q1
      exact ⟨b, truD_ok g1.ah s1 e, hq b H1 A1 g1 q1⟩
end
end ZL


namespace ZL
open PySem PySem.Spec PyProof.Rows L2
section
variable {prog : Program} {w : World} {A : Around} {E : Value → Shared → Prop} {s : Shared}
/-- the items of a tuple, gathered in a new list -/
theorem collect_tup {p : Addr} {ys : List Value} {R : List Value → Shared → Prop} (ht : s.heap.IsTuple p ys.toArray) (hz : ys.length ≤ sizeLine)
    (q : R ys { s with heap := (s.heap.push (seqObj "list" #[] 0)).update s.heap.objs.size (Obj.mapSeq (· ++ ys.toArray)) }) : wpAny (model prog w) A (collect (.ref p)) R E s := by
  obtain ⟨ob, g, c1, m, c2⟩ := ht
  have new : (s.heap.push (seqObj "list" #[] 0)).get? s.heap.objs.size = some (seqObj "list" #[] 0) := Heap.get?_push_size _ rfl
  unfold collect
  refine wpAny_bind (wpAny_runValue (codeAny_builtin F.entry_proto_collect ?_)); rw [Around.under_plainId F.plain_proto_collect _]
  refine wpAny_bind (m := newList []) (wpAny_newObj_type (wpAny_pure ⟨plainId_quiet F.plain_list_iadd _, codeAny_builtin F.entry_list_iadd ?_⟩)); rw [Around.under_plainId F.plain_list_iadd _]
  refine wpAny_mono (wpAny_extend_seq (s := { s with heap := s.heap.push (seqObj "list" #[] 0) }) (R := fun r s' => r = .ok (.ret (.ref s.heap.objs.size)) ∧ s' = { s with heap := (s.heap.push (seqObj "list" #[] 0)).update s.heap.objs.size (Obj.mapSeq (· ++ ys.toArray)) })
    (A := A) s.heap.objs.size p _ 0 (.inr rfl) new (Heap.get?_push_of_some _ g) c1 c2 ⟨rfl, rfl⟩ (by simpa using hz)) (fun fin s' h => ?_) (fun e s' h => absurd h.1 (by simp))
  have up := get?_update_seq new (· ++ ys.toArray)
  have eq : ((#[] : Array Value) ++ ys.toArray).toList = ys := by simp
  cases fin with
  | done f =>
    obtain ⟨e, rfl⟩ := h; cases e
    refine wpAny_bind (m := load s.heap.objs.size) (wpAny_load up (wpAny_pure ?_)); rw [eq]; exact q
  | again c' =>
    refine ⟨h.1, codeAny_mono h.2 fun r s'' h' => ?_⟩
    obtain ⟨rfl, rfl⟩ := h'
    refine wpAny_bind (m := load s.heap.objs.size) (wpAny_load up (wpAny_pure ?_)); rw [eq]; exact q
/-- sorted(t, ..), t a tuple, is list.sort(..) on a new list -/
theorem sorted_of_sortT {p : Addr} {ys : List Value} {ks : List (Str × Value)} {R : Value → Shared → Prop} (ht : s.heap.IsTuple p ys.toArray) (hz : ys.length ≤ sizeLine) (a1 : argsOk "sorted" ⟨[.ref p], ks⟩) (a2 : ∀ x, argsOk "list.sort" ⟨[.ref x], ks⟩)
    (go : ∀ E' : Value → Shared → Prop, wpAny (model prog w) A.in1.in1 (Builtin.«list.sort» ⟨[.ref (s.heap.objs.size + 1)], ks⟩) (fun f s' => f = .done (.ret .none) ∧ R (.ref (s.heap.objs.size + 1)) s') E' { s with heap := W.copyHeap s.heap ys }) : wpAny (model prog w) A (call (.builtin "sorted") [.ref p] ks) R E s := by
  have size2 : ((s.heap.push (seqObj "list" #[] 0)).update s.heap.objs.size (Obj.mapSeq (· ++ ys.toArray))).objs.size = s.heap.objs.size + 1 := by rw [Heap.size_update, size_push']
  refine call_function_entry_kw kind_sorted plain_sorted entry_sorted a1 ?_; unfold Builtin.«sorted»
  refine wpAny_bind (m := checkCount "sorted" 1 1 _) (wpAny_pure (wpAny_bind (collect_tup ht hz (wpAny_bind (wpAny_newList ?_ hz)))))
  show wpAny _ _ _ _ _ { s with heap := W.copyHeap s.heap ys }; rw [size2]
  refine wpAny_bind (wpAny_holding (wpAny_call_entry_kw slot_list_sort ⟨_, W.copyHeap_at s.heap ys, rfl⟩ entry_list_sort (wpAny_mono (go _) (fun f s' r => ?_) fun _ _ e => e) (a2 _)))
  obtain ⟨rfl, r⟩ := r; exact ⟨_, rfl, wpAny_pure ⟨_, rfl, r⟩⟩
theorem sorted_dataT {β : Type} {l : Addr} {vs : List Value} {bs : List β} {R : Value → β → Prop} {enc : β → PyData} {Q : Value → Shared → Prop} (hl : s.heap.IsTuple l vs.toArray) (e : W.EachIs R vs bs) (er : W.EachIs (fun v b => ∃ as, Reads s.heap v (enc b) as) vs bs) (hal : W.AllAlike (bs.map enc)) (hk : W.Sortable (bs.map enc)) (hL : bs.length ≤ sizeLine)
    (hu : ∀ b, b ∈ bs → A.units + 2 + (enc b).depth < cLine) (h : ∀ out, out.length = bs.length → W.EachIs R out (bs.mergeSort (W.dataLe false enc)) → Q (.ref (s.heap.objs.size + 1)) { s with heap := sortedAll s.heap vs (List.toArray out) }) :
    wpAny (model prog w) A (call (.builtin "sorted") [.ref l]) Q E s := by
  have er' : W.EachIs (fun v b => ∃ as, Reads (W.sortingHeap (W.copyHeap s.heap vs) (s.heap.objs.size + 1) vs) v (enc b) as) vs bs := er.mono fun _ _ ⟨as, r⟩ => ⟨as, PyProof.Rows.Reads.keeps (fun _ _ => W.sorting_copy_old) r⟩
  have S := W.SortsAt.data (s := { s with heap := W.sortingHeap (W.copyHeap s.heap vs) (s.heap.objs.size + 1) vs }) (prog := prog) (w := w) (A := A.in1.in1) (W.each_map (R := fun v d => ∃ as, Reads (W.sortingHeap (W.copyHeap s.heap vs) (s.heap.objs.size + 1) vs) v d as) enc er') hal hk (W.bound_map (A := A.in1.in1) hu)
  have hL' : vs.length ≤ sizeLine := by rw [e.length]; exact hL
  exact sorted_of_sortT hl hL' (args_sorted1 _) (fun _ => args_list_sort _) fun _ => W.list_sort_vals (s := { s with heap := W.copyHeap s.heap vs }) (W.copyHeap_at s.heap vs) S hL' ⟨rfl, h _ (by rw [W.sortVals_length false rfl]; exact e.length) (W.sortVals_data false e er' hal)⟩
end
/-- by the data's order -/
def leP (p q : V × PyData) : Bool := !W.dataLt q.2 p.2
theorem paired_each {X : Cx} : ∀ {ps : List (V × PyData)} {us : List Value}, Vals (ps.map Prod.fst) us → W.EachIs (fun v (p : V × PyData) => RelV p.1 v) us ps
  | [], us, r => by cases r; exact .nil
  | p :: ps, us, r => by
    cases r with
    | cons r t => exact .cons r (paired_each (X := X) t)
theorem each_paired : ∀ {ps : List (V × PyData)} {us : List Value}, W.EachIs (fun v (p : V × PyData) => RelV p.1 v) us ps → Vals (ps.map Prod.fst) us
  | _, _, .nil => .nil
  | _, _, .cons h t => .cons h (each_paired t)
/-- sorted(xs), xs a list or a tuple of alike data -/
def rSortD (K : PySem.W.Frag) : List V → Hp → VK → Prop := fun vs H Q => ∃ (a : Addr) (ps : List (V × PyData)), vs = [V.ref a] ∧ (SqL K H a (ps.map Prod.fst) ∨ SqT K H a (ps.map Prod.fst)) ∧
  (∀ p ∈ ps, Dp K H p.1 p.2 ∧ SeqAt.shaped p.2 = true) ∧ W.AllAlike (ps.map Prod.snd) ∧ W.Sortable (ps.map Prod.snd) ∧
  ∀ p : Addr, H p = none → Q (.ref p) (upd H p (.lst ((ps.mergeSort leP).map Prod.fst)))
theorem cr_sortD {X : Cx} (hu : X.A.units + 70 < cLine) : CallR X (.builtin "sorted") (rSortD X.K) := by
  intro pins s σ H vs us Q I r h
  obtain ⟨a, ps, rfl, hs, hd, hal, hk, q⟩ := h
  have room : ∀ b : V × PyData, b ∈ ps → X.A.units + 2 + b.2.depth < cLine := fun b hb => by
    have := SeqAt.depth_of_shaped (hd b hb).2
    omega
  have reads : ∀ (its : List Value), Vals (ps.map Prod.fst) its → W.EachIs (fun v (b : V × PyData) => ∃ as, Reads s.heap v b.2 as) its ps := fun its rv => by
    have e := paired_each (X := X) rv
    refine W.EachIs.of_zip e.length fun p hp => ?_
    have h1 := e.zip p hp
    have h2 := (hd p.2 (List.of_mem_zip hp).2).1
    exact Dp.reads I _ _ _ h2 h1
  have fin : ∀ (its out : List Value), its.length = ps.length → its.length ≤ sizeLine → W.EachIs (fun v (p : V × PyData) => RelV p.1 v) out (ps.mergeSort (W.dataLe false Prod.snd)) → EP X pins σ Q (.ref (s.heap.objs.size + 1)) { s with heap := sortedAll s.heap its out.toArray } := fun its out hl hz e => by
    obtain ⟨ep, he'⟩ := PyProof.Rows.sortedAll_at s.heap its out.toArray
    have e2 : ps.mergeSort (W.dataLe false Prod.snd) = ps.mergeSort leP := rfl
    rw [e2] at e
    have hlen : ((ps.mergeSort leP).map Prod.fst).length ≤ sizeLine := by
      rw [List.length_map, List.length_mergeSort]
      omega
    exact ⟨.ref _, upd H (s.heap.objs.size + 1) (.lst ((ps.mergeSort leP).map Prod.fst)), I.laid (t' := s.toks) (fun _ _ => PyProof.Rows.sortedAll_old) (Nat.le_succ _) ⟨hlen, out, ep, each_paired e, he'⟩, rfl, q _ (I.hok.fresh (Nat.le_succ _))⟩
  rw [Vals.ref1 r]
  rcases hs with hs | hs
  · obtain ⟨its, rv, hl, hz⟩ := I.list hs
    have e := paired_each (X := X) rv
    have hz' : its.length ≤ sizeLine := by rw [← rv.length]; exact hz
    exact W.sorted_data hl.isList e (reads its rv) hal hk (by rw [← e.length]; exact hz') room fun out _ h2 => fin its out e.length hz' h2
  · obtain ⟨its, rv, hl, hz⟩ := I.tuple hs
    have e := paired_each (X := X) rv
    have hz' : its.length ≤ sizeLine := by rw [← rv.length]; exact hz
    exact sorted_dataT hl e (reads its rv) hal hk (by rw [← e.length]; exact hz') room fun out _ h2 => fin its out e.length hz' h2

/-! ### len(set(xs)), xs a list or a tuple of ints -/
def CntOf (ns : List Int) (c : Nat) : Prop := c ≤ ns.length ∧ (c < ns.length ↔ ¬ ns.Nodup)
theorem nodup_le : ∀ {ks ns : List Int}, ks.Nodup → (∀ k ∈ ks, k ∈ ns) → ks.length ≤ ns.length
  | [], _, _, _ => Nat.zero_le _
  | k :: ks, ns, nd, h => by
    obtain ⟨a, b, rfl⟩ := List.append_of_mem (h k List.mem_cons_self)
    rw [List.nodup_cons] at nd
    have := nodup_le (ns := a ++ b) nd.2 fun x hx => by
      have := h x (List.mem_cons_of_mem _ hx)
      rw [List.mem_append, List.mem_cons] at this
      rw [List.mem_append]
      rcases this with z | z | z
      · exact .inl z
      · exact absurd (z ▸ hx) nd.1
      · exact .inr z
    simp only [List.length_append, List.length_cons] at this ⊢
    omega
theorem nodup_eq : ∀ {ks ns : List Int}, ks.Nodup → (∀ k ∈ ks, k ∈ ns) → ks.length = ns.length → ns.Nodup
  | [], ns, _, _, e => by
    have : ns = [] := List.eq_nil_of_length_eq_zero e.symm
    rw [this]
    exact List.nodup_nil
  | k :: ks, ns, nd, h, e => by
    obtain ⟨a, b, rfl⟩ := List.append_of_mem (h k List.mem_cons_self)
    have nd0 := nd
    rw [List.nodup_cons] at nd
    have sub : ∀ x ∈ ks, x ∈ a ++ b := fun x hx => by
      have := h x (List.mem_cons_of_mem _ hx)
      rw [List.mem_append, List.mem_cons] at this
      rw [List.mem_append]
      rcases this with z | z | z
      · exact .inl z
      · exact absurd (z ▸ hx) nd.1
      · exact .inr z
    simp only [List.length_append, List.length_cons] at e
    have q := nodup_eq (ns := a ++ b) nd.2 sub (by simp only [List.length_append]; omega)
    have hk : k ∉ a ++ b := fun z => by
      have := nodup_le (ns := a ++ b) nd0 fun x hx => by
        rcases List.mem_cons.1 hx with rfl | hx
        · exact z
        · exact sub x hx
      simp only [List.length_append, List.length_cons] at this
      omega
    have p : (a ++ k :: b).Perm (k :: (a ++ b)) := List.perm_middle
    exact p.nodup_iff.mpr (List.nodup_cons.mpr ⟨hk, q⟩)
theorem cnt_of {ns ks : List Int} (nd : ks.Nodup) (hm : ∀ k, k ∈ ns ↔ k ∈ ks) : CntOf ns ks.length := by
  have hle : ks.length ≤ ns.length := nodup_le nd fun k h => (hm k).mpr h
  refine ⟨hle, fun h z => ?_, fun h => ?_⟩
  · have := nodup_le z fun k h => (hm k).mp h
    omega
  · by_cases e : ks.length = ns.length
    · exact absurd (nodup_eq nd (fun k h => (hm k).mpr h) e) h
    · omega
theorem met_len' (val : Nat → Int) : ∀ i, (PyProof.Rows.firstMet val i).length ≤ i ∧ ((PyProof.Rows.firstMet val i).length < i ↔ ¬ ((List.range i).map val).Nodup)
  | 0 => by
    rw [PyProof.Rows.firstMet_zero]
    simp
  | i + 1 => by
    obtain ⟨h1, h2⟩ := met_len' val i
    rw [PyProof.Rows.firstMet_succ, List.range_succ, List.map_append, List.map_cons, List.map_nil]
    unfold PyProof.Rows.step_dedup
    have ha := PyProof.Rows.firstMet_any val i (val i)
    have nd : ((List.range i).map val ++ [val i]).Nodup ↔ ((List.range i).map val).Nodup ∧ val i ∉ (List.range i).map val := by
      rw [List.nodup_append]
      constructor
      · rintro ⟨a, b, c⟩
        exact ⟨a, fun m => c _ m _ (List.mem_singleton.mpr rfl) rfl⟩
      · rintro ⟨a, b⟩
        exact ⟨a, by simp, fun x hx y hy => by rw [List.mem_singleton] at hy; subst hy; exact fun e => b (e ▸ hx)⟩
    have hany : ((List.range i).map val).any (· == val i) = true ↔ val i ∈ (List.range i).map val := by simp
    rw [nd]
    by_cases hb : ((List.range i).map val).any (· == val i) = true
    · rw [ha, if_pos hb]
      exact ⟨by omega, ⟨fun _ z => z.2 (hany.mp hb), fun _ => by omega⟩⟩
    · rw [ha, if_neg hb, List.length_append, List.length_cons, List.length_nil]
      refine ⟨by omega, ⟨fun z w => h2.mp (by omega) w.1, fun z => ?_⟩⟩
      have : ¬ ((List.range i).map val).Nodup := fun w => z ⟨w, fun m => hb (hany.mpr m)⟩
      have := h2.mpr this
      omega
theorem cnt_met (ns : List Int) : CntOf ns (PyProof.Rows.firstMet (fun i => ns.getD i 0) ns.length).length := by
  have h := met_len' (fun i => ns.getD i 0) ns.length
  have e : (List.range ns.length).map (fun i => ns.getD i 0) = ns := by
    apply List.ext_getElem?
    intro i
    rw [List.getElem?_map]
    by_cases hi : i < ns.length
    · simp [hi]
    · simp [hi]
  rw [e] at h
  exact h
def tLenSetH (K : PySem.W.Frag) (ta : TE) : TE := fun σ H Q => ta σ H fun x H1 => ∃ (l : Addr) (ns : List Int), x = V.ref l ∧ (SqL K H1 l (ns.map V.int) ∨ SqT K H1 l (ns.map V.int)) ∧ ns.length < 64 ∧ ∀ c, CntOf ns c → Q (.int (c : Nat)) H1
theorem pe_lenSetH {X : Cx} {a : Expr} {ta : TE} {p p2 q pos : Pos} (hc : X.calm = true) (hg : Gl X "len") (hm : X.mg "len" = none) (hg2 : Gl X "set") (hm2 : X.mg "set" = none) (ha : PE X a ta)
    (na : starEach [a] X.env = (false, eval a X.env) :: starEach [] X.env) : PE X (.Call (.Name "len" p) [.Call (.Name "set" p2) [a] [] q] [] pos) (tLenSetH X.K ta) := by
  refine ⟨fun pins s σ H Q I h => ?_⟩
  refine Call_ (ld_blt I hg hm PySem.boot_len (PyProof.Rows.callWith_builtin1 (PyProof.Rows.args_cons (Call_ (ld_blt I hg2 hm2 PyProof.Rows.boot_set (PyProof.Rows.callWith_type1 (PyProof.Rows.args_cons (thn (ha.run pins s σ H _ I h) fun v s1 ⟨x, H1, I1, r1, q1⟩ => PyProof.Rows.args_nil ?_) na) na rfl))) rfl) rfl rfl))
  obtain ⟨l, ns, rfl, hq, h1, q1⟩ := q1
  cases r1
  rcases hq with hq | hq
  · obtain ⟨its, r, pl, hz⟩ := I1.list hq
    have hl : its.toArray.size = ns.length := by rw [List.size_toArray, ← r.length, List.length_map]
    refine call_set_list (I1.ok.hd hc) pl.isList (ns := ns) (by simpa using r.ints) (by unfold scanBound; omega) fun h' tk hS hk => PyProof.Rows.args_nil ?_
    rw [hl] at hS
    obtain ⟨o, es, ep, t, ho, hex, hd, _, _, _, hf, hn⟩ := hS
    have I2 : Inv X pins σ H1 { s1 with heap := h', toks := tk } := I1.kept fun b o e => hk b o (Heap.lt_size e) e
    have hle : (PyProof.Rows.firstMet (fun i => ns.getD i 0) ns.length).length ≤ ns.length := PyProof.Rows.firstMet_length_le _ _
    have cnt := cnt_met ns
    refine call_len_set ho hex hd hf (by rw [hn] <;> omega) ⟨.int ((PyProof.Rows.firstMet (fun i => ns.getD i 0) ns.length).length : Nat), H1, I2.tok _, ⟨_, by rw [hn]⟩, q1 _ cnt⟩
  · obtain ⟨its, r, pl, hz⟩ := I1.tuple hq
    refine call_set_tupI ns (I1.ok.hd hc) pl (by simpa using r.ints) (by unfold scanBound; omega) fun h' tk c hS hle hk => PyProof.Rows.args_nil ?_
    obtain ⟨o, es, ep, t, ho, hex, hd, hg, hnd, hmem, hsb, hf, hn, _⟩ := hS
    have I2 : Inv X pins σ H1 { s1 with heap := h', toks := tk } := I1.kept hk
    have cnt : CntOf ns c := by
      have := cnt_of (ns := ns) hnd fun k => by rw [← hmem k, decide_eq_true_eq]
      rwa [List.length_map, Array.length_toList, hn] at this
    refine call_len_set ho hex hd hf (by rw [hn] <;> omega) ⟨.int (c : Nat), H1, I2.tok _, ⟨_, by rw [hn]⟩, q1 _ cnt⟩

/-! ### min(t), max(t), t a tuple of ints -/
def rMinT (K : PySem.W.Frag) : List V → Hp → VK → Prop := fun vs H Q => ∃ (a : Addr) (ns : List Int), vs = [V.ref a] ∧ SqT K H a (ns.map V.int) ∧ 0 < ns.length ∧ ∀ m, m ∈ ns → (∀ y, y ∈ ns → m ≤ y) → Q (.int m) H
theorem foldl_min (ns : List Int) : ∀ n : Int, ns.foldl min n ≤ n ∧ (∀ y ∈ ns, ns.foldl min n ≤ y) ∧ (ns.foldl min n = n ∨ ns.foldl min n ∈ ns) := by
  induction ns with
  | nil => intro n; exact ⟨Int.le_refl _, fun y h => (by cases h), .inl rfl⟩
  | cons a ns ih =>
    intro n
    obtain ⟨h1, h2, h3⟩ := ih (min n a)
    rw [List.foldl_cons]
    refine ⟨by omega, fun y hy => ?_, ?_⟩
    · rcases List.mem_cons.1 hy with rfl | hy
      · omega
      · exact h2 y hy
    · rcases h3 with h3 | h3
      · rw [h3]
        by_cases h : n ≤ a
        · exact .inl (by omega)
        · exact .inr (List.mem_cons.2 (.inl (by omega)))
      · exact .inr (List.mem_cons_of_mem _ h3)
theorem ints_reads {h : Heap} : ∀ {us : List Value} {ns : List Int}, IntsAre us ns → ∃ as, ReadsAll h us (ns.map PyData.int) as
  | _, _, .nil => ⟨_, .nil⟩
  | _, _, .cons n t hr => by
    obtain ⟨as, r⟩ := ints_reads (h := h) hr
    exact ⟨_, .cons (.int n t) r⟩
theorem cr_minT {X : Cx} (hc : X.calm = true) (hu : X.A.units + 70 < cLine) : CallR X (.builtin "min") (rMinT X.K) := by
  intro pins s σ H vs us Q I r h
  obtain ⟨a, ns, rfl, hs, hne, q⟩ := h
  obtain ⟨its, rv, hl, _⟩ := I.tuple hs
  rw [Vals.ref1 r]
  obtain ⟨n, ns, rfl⟩ : ∃ n m, ns = n :: m := by
    cases ns with
    | nil => exact absurd hne (by decide)
    | cons n m => exact ⟨n, m, rfl⟩
  obtain ⟨as, hr⟩ := ints_reads (h := s.heap) rv.ints
  have hd : PyData.depthAll ((n :: ns).map PyData.int) = 0 := W.depth_ints _
  have al : W.AlikeAll (.int n :: ns.map PyData.int) := by
    refine ⟨fun x hx y hy => ?_, fun x hx => ?_⟩
    · have ex : ∃ i, x = .int i := by
        rcases List.mem_cons.1 hx with rfl | hx
        · exact ⟨_, rfl⟩
        · obtain ⟨i, _, rfl⟩ := List.mem_map.1 hx; exact ⟨_, rfl⟩
      have ey : ∃ i, y = .int i := by
        rcases List.mem_cons.1 hy with rfl | hy
        · exact ⟨_, rfl⟩
        · obtain ⟨i, _, rfl⟩ := List.mem_map.1 hy; exact ⟨_, rfl⟩
      obtain ⟨i, rfl⟩ := ex
      obtain ⟨j, rfl⟩ := ey
      rfl
    · rcases List.mem_cons.1 hx with rfl | hx
      · intro z; cases z
      · obtain ⟨i, _, rfl⟩ := List.mem_map.1 hx; intro z; cases z
  refine W.min_tuple_data (x := .int n) (xs := ns.map PyData.int) (I.ok.hd hc) hl hr al (by rw [show PyData.depthAll (.int n :: ns.map PyData.int) = 0 from hd]; omega) fun i v h' tk bs _ rd hk => ?_
  rw [W.minD_ints] at rd
  obtain ⟨t, rfl⟩ : ∃ t, v = .int (ns.foldl min n) t := by cases rd; exact ⟨_, rfl⟩
  obtain ⟨h1, h2, h3⟩ := foldl_min ns n
  refine ⟨.int _, H, I.kept hk, ⟨_, rfl⟩, q _ ?_ fun y hy => ?_⟩
  · rcases h3 with h3 | h3
    · exact List.mem_cons.2 (.inl h3)
    · exact List.mem_cons_of_mem _ h3
  · rcases List.mem_cons.1 hy with rfl | hy
    · exact h1
    · exact h2 y hy
end ZL


namespace ZL
open PySem PySem.Spec PyProof.Rows L2
open PySem.W (keyToks)
/-! ### xs[i] op= e -/
theorem pget_list {X : Cx} : PGet X (rIxL X.K) := by
  intro pins s σ H o j ov jv Q I ro rj h
  obtain ⟨p, ys, n, z, rfl, rfl, hq, he, q⟩ := h
  cases ro; obtain ⟨t, rfl⟩ := rj
  obtain ⟨its, r, pl, hz⟩ := I.list hq; obtain ⟨m, h1, h2, h3, h4, h5⟩ := L2.atI_get he
  obtain ⟨w, ew, rw'⟩ := r.get h2
  have len := r.length
  have bound := line63
  have done : EP X pins σ Q w s := ⟨z, H, I, rw', q⟩
  by_cases h0 : 0 ≤ n
  · have hj : n.toNat = m := by rw [seqIndex_of h0 h5] at h1; exact Option.some.inj h1
    exact wpAny_getItem_list pl.isList h0 (by omega) (by rw [hj]; simpa using ew) done
  · have hj : (n + (its.toArray.size : Int)).toNat = m := by rw [seqIndex_neg (by omega) h4] at h1; rw [List.size_toArray, ← len]; exact Option.some.inj h1
    exact wpAny_getItem_list_neg pl.isList (by omega) (by rw [List.size_toArray] <;> omega) (by omega) (by rw [hj]; simpa using ew) done
section
variable {G : Glob} {N : List Str} {sc : Scope} {fn : Str → Bool} {W : WX} {k : Nat} {Z : Zc G N sc fn W k}
/-- xs[i] op= e, xs an owned list of shared items -/
def wAugIx (i : Nat) (o : DOp) (ix e : ZMV) : ZMS := fun env Z => match env[i]? with
  | some (some (.ls .sh, .lst ds)) => ix env (fun env1 _ j => env1[i]? = some (some (.ls .sh, .lst ds)) ∧ (match j with
    | .int n => (match ixN ds.length n with
      | some m => (match ds[m]? with
        | some x => e env1 (fun env2 _ y => env2[i]? = some (some (.ls .sh, .lst ds)) ∧ o x y (fun _ z => Z.nx (env2.set i (some (.ls .sh, .lst (ds.set m z)))))) (Z.ex env1)
        | none => False)
      | none => False)
    | _ => False)) (Z.ex env)
  | _ => False
theorem zs_augix (i : Nat) {x : Str} {op : Operator} {o : DOp} {e ie : Expr} {m mi : ZMV} {p tpos pos : Pos} (ho : ZOp Z (inplaceOp op) o) (hi : ZV Z ie mi) (he : ZV Z e m) (hx : N[i]? = some x := by rfl) (hv : Vis sc x := by first | exact Or.inl rfl | exact Or.inr (Or.inl rfl) | exact Or.inr (Or.inr rfl))
    (hd : (x == ("__debug__" : Str)) = false := by decide) (hcd : (x == ("__classdict__" : Str)) = false := by decide)
    (ha : ∀ ov iv new, augStore ie ov iv new = (do holding [new, ov, iv] (setItem ov iv new); release [new, ov, iv] []; pure .next) := by intros; rfl) :
    ZS Z (.AugAssign (.Subscript (.Name x p) ie tpos) op e pos) (wAugIx i o mi m) := by
  obtain ⟨t, a1, a2⟩ := he.ex
  obtain ⟨ti, b1, b2⟩ := hi.ex
  obtain ⟨r, r1, r2⟩ := ho
  refine ⟨tAugS (tVar i) ti t (rIxL G.K) r rSetL, fun j => ?_, fun A0 H0 A H σ env fp D Zz I w mm => ?_⟩
  · have := ps_augS (X := Z.X j) (pos := pos) (tpos := tpos) (op := op) (pe_var (X := Z.X j) (pos := p) (by rw [Z.hN]; exact hx) (by rw [Z.hsc]; exact hv) hd hcd) (b1 j) pget_list (a1 j) (fun pins s σ H x y v u Q I rx ry q => r1 j pins s σ H x y v u Q I rx ry q) set_list ha
    rw [Z.hK j] at this
    exact this
  · have isI : ∀ {A H : Hp} {k3 : Kd} {y : V} {n : Int} {f3 : List Addr}, Own G.K G.mg A H k3 y (.int n) f3 → y = .int n := fun {A H k3 y n f3} o3 => by
      cases k3 <;> simp only [Own] at o3
      · have := o3.1; simpa [Shr] using this
      · obtain ⟨_, _, _, _, _, z, _⟩ := o3; cases z
      · obtain ⟨_, _, _, _, _, z, _⟩ := o3; cases z
      · obtain ⟨_, _, _, _, _, z, _⟩ := o3; cases z
      · obtain ⟨_, _, _, _, _, _, _, z, _⟩ := o3; cases z
      · obtain ⟨_, _, _, _, _, _, _, _, z, _⟩ := o3; cases z
    unfold wAugIx at w
    split at w
    · rename_i ds c0
      obtain ⟨v, q1, q2⟩ := I.at_ i _ _ c0
      obtain ⟨a, vs, f, rfl, q3, q4, q5⟩ := own_ls_inv q2
      refine ⟨.ref a, q1, ?_⟩
      refine b2 A0 H0 A H σ env fp _ _ _ I w (fun y H1 A1 env1 fp1 k1 dj g1 I1 s1 o1 fr1 w1 => ?_) fun x cls dx H' A' I' s xa q => mm.ex A' H' σ env fp x cls dx I' s xa q
      obtain ⟨c1, w1⟩ := w1
      split at w1
      · rename_i n
        split at w1
        · rename_i mm' em
          split at w1
          · rename_i d ed
            have hy : y = .int n := isI o1
            obtain ⟨A2, I2, s2, e2⟩ := freezeV I1 fr1
            obtain ⟨vs1, r1', t1, put1⟩ := I2.mutL c1 q1
            have hat : atI ds n = some d := by unfold atI; rw [em]; exact ed
            obtain ⟨u, hu, su⟩ := ZL.atI_get t1 hat
            refine ⟨a, vs1, n, u, rfl, hy, sqL_of sub_refl r1', hu, ?_⟩
            refine a2 A0 H0 A2 H1 σ env1 fp1 _ _ _ I2 w1 (fun y2 H3 A3 env3 fp3 k3 d3 g3 I3 s3 o3 fr3 w3 => ?_) fun x cls dx H' A' I' s xa q => mm.ex A' H' σ env1 fp1 x cls dx I' (sub_trans s1 (sub_trans s2 s)) xa q
            obtain ⟨c3, w3⟩ := w3
            obtain ⟨A4, I4, s4, e4⟩ := freezeV I3 fr3
            refine r2 A4 H3 u y2 _ _ _ _ I4.sub (su.mono (sub_trans s3 s4)) (o3.shr s4 e4) w3 fun z H5 A5 k5 d5 f5 g5 o5 fr5 w5 => ?_
            have I5 := I4.grow g5
            obtain ⟨A6, I6, s6, e6⟩ := freezeV I5 (freshV I4 g5 fr5 (own_here o5))
            obtain ⟨vs6, r6, t6, put6⟩ := I6.mutL c3 q1
            refine ⟨a, vs6, n, mm', rfl, hy, r6, by rw [t6.length]; exact em, ?_⟩
            obtain ⟨fp7, I7⟩ := put6 (vs6.set mm' z) (ds.set mm' d5) (t6.set mm' (o5.shr s6 e6))
            exact mm.nx A6 _ σ _ _ I7 (sub_trans s1 (sub_trans s2 (sub_trans s3 (sub_trans s4 (sub_trans g5.aa s6))))) w5
          · exact w1.elim
        · exact w1.elim
      · exact w1.elim
    · exact w.elim
/-! ### len(set(xs)) of a list or a tuple -/
def mLenSetH (m : ZM) : ZM := fun env Q E => m env (fun _ d => match d with
  | .lst ds => ∃ ns : List Int, ds = ns.map D.int ∧ ns.length < 64 ∧ ∀ c, CntOf ns c → Q .sh (.int (c : Nat))
  | .tup ds => ∃ ns : List Int, ds = ns.map D.int ∧ ns.length < 64 ∧ ∀ c, CntOf ns c → Q .sh (.int (c : Nat))
  | _ => False) E
theorem shr_intsT {A H : Hp} (hs : Sub A H) {v : V} {ns : List Int} (s : Shr G.K G.mg A v (.tup (ns.map D.int))) : ∃ a, v = .ref a ∧ SqT G.K H a (ns.map V.int) := by
  simp only [Shr] at s
  obtain ⟨a, xs, rfl, h1, h2⟩ := s
  have e := h2.ints
  subst e
  exact ⟨a, rfl, sqT_of hs h1⟩
theorem ze_lenSetH {e : Expr} {m : ZM} {p p2 pos pos2 : Pos} (h1 : Free G "len") (h2 : Free G "set") (h : ZE Z e m) (g1 : sc.names.lookup ("len" : Str) = some .globalImplicit := by rfl) (g2 : sc.names.lookup ("set" : Str) = some .globalImplicit := by rfl)
    (st : ∀ env, starEach [e] env = (false, eval e env) :: starEach [] env := by intro _; rfl) :
    ZE Z (.Call (.Name "len" p) [.Call (.Name "set" p2) [e] [] pos2] [] pos) (mLenSetH m) := by
  obtain ⟨t, a1, a2⟩ := h.ex
  refine ⟨tLenSetH G.K t, fun i => ?_, fun A H σ env Q Qz Ez hh v hm hq he => ?_⟩
  · have := pe_lenSetH (p := p) (p2 := p2) (pos := pos) (q := pos2) (Z.calm i) (show (Z.X i).env.scope.names.lookup _ = _ by rw [Z.hsc]; exact g1) (by rw [Z.hmg]; exact h1) (show (Z.X i).env.scope.names.lookup _ = _ by rw [Z.hsc]; exact g2) (by rw [Z.hmg]; exact h2) (a1 i) (st _)
    rw [Z.hK i] at this
    exact this
  · refine a2.go hh v hm (fun x H1 A1 _ d g1 s1 q1 => ?_) he
    have fin : ∀ c : Nat, Qz .sh (.int (c : Nat)) → Q (.int (c : Nat)) H1 := fun c q => hq _ H1 A1 .sh _ [] g1 (own_sh (by simp [Shr])) Fresh.nil q
    cases d with
    | lst ds =>
      obtain ⟨ns, rfl, hl, q1⟩ := q1
      obtain ⟨a, rfl, hs⟩ := shr_ints g1.ah s1
      exact ⟨a, ns, rfl, .inl hs, hl, fun c hc => fin c (q1 c hc)⟩
    | tup ds =>
      obtain ⟨ns, rfl, hl, q1⟩ := q1
      obtain ⟨a, rfl, hs⟩ := shr_intsT g1.ah s1
      exact ⟨a, ns, rfl, .inr hs, hl, fun c hc => fin c (q1 c hc)⟩
    | _ => exact q1.elim
/-! ### min of a tuple as well -/
def fMinW : DFn := fun xs Q => match xs with
  | [.int i, .int j] => Q .sh (.int (min i j))
  | [.lst ds] => ∃ ns : List Int, ds = ns.map D.int ∧ 0 < ns.length ∧ ∀ m, m ∈ ns → (∀ y ∈ ns, m ≤ y) → Q .sh (.int m)
  | [.tup ds] => ∃ ns : List Int, ds = ns.map D.int ∧ 0 < ns.length ∧ ∀ m, m ∈ ns → (∀ y ∈ ns, m ≤ y) → Q .sh (.int m)
  | _ => False
theorem zf_minW : ZF Z (.builtin "min") fMinW := by
  refine ⟨_, fun i => (call_min2 (Z.calm i)).or ((kcall rMin (fun i => cr_min (Z.calm i)) i).or (kcall rMinT (fun i => cr_minT (Z.calm i) (by have := (Z.room i).un; omega)) i)), fun A H vs ds Q Qz hs sv ho hq => ?_⟩
  unfold fMinW at ho
  split at ho
  · rename_i i j
    obtain ⟨v, u, rfl, s1, s2⟩ := shrL2 sv
    simp only [Shr] at s1 s2
    subst s1 s2
    refine .inl ⟨_, _, rfl, put0 hs hq (d := .int _) ?_ ho⟩
    simp only [Shr]
    congr 1
    rw [Int.min_def]; split <;> split <;> omega
  · obtain ⟨ns, rfl, h0, h⟩ := ho
    obtain ⟨v, rfl, s⟩ := shrL1 sv
    obtain ⟨a, rfl, h1⟩ := shr_ints hs s
    exact .inr (.inl ⟨a, ns, rfl, h1, h0, fun m hm hy => put0 hs hq (d := .int m) (by simp only [Shr]) (h m hm hy)⟩)
  · obtain ⟨ns, rfl, h0, h⟩ := ho
    obtain ⟨v, rfl, s⟩ := shrL1 sv
    obtain ⟨a, rfl, h1⟩ := shr_intsT hs s
    exact .inr (.inr ⟨a, ns, rfl, h1, h0, fun m hm hy => put0 hs hq (d := .int m) (by simp only [Shr]) (h m hm hy)⟩)
  · exact ho.elim
/-! ### sorted of alike data -/
def leD (a b : D) : Bool := !PySem.W.dataLt b.py a.py
def sortD (ds : List D) : List D := ds.mergeSort leD
structure SortOk (ds : List D) : Prop where
  ok : ∀ d ∈ ds, eqOk d = true
  al : ∀ d ∈ ds, ∀ e ∈ ds, PySem.W.alike d.py e.py = true
  so : (∀ d ∈ ds, ∃ x r, d.py = .tuple (x :: r)) ∨ ∀ d ∈ ds, d.py ≠ .none ∧ ∀ xs, d.py ≠ .tuple xs
theorem shrL_zip {A : Hp} : ∀ {vs : List V} {ds : List D}, ShrL G.K G.mg A vs ds → vs.length = ds.length ∧ ∀ z ∈ vs.zip ds, Shr G.K G.mg A z.1 z.2
  | [], [], _ => ⟨rfl, fun z h => by simp at h⟩
  | [], _ :: _, s => by simp [ShrL] at s
  | _ :: _, [], s => by simp [ShrL] at s
  | v :: vs, d :: ds, s => by
    simp only [ShrL] at s
    obtain ⟨h1, h2⟩ := shrL_zip s.2
    refine ⟨by simp [h1], fun z h => ?_⟩
    rw [List.zip_cons_cons] at h
    rcases List.mem_cons.1 h with rfl | h
    · exact s.1
    · exact h2 z h
theorem shrL_of {A : Hp} : ∀ {zs : List (V × D)}, (∀ z ∈ zs, Shr G.K G.mg A z.1 z.2) → ShrL G.K G.mg A (zs.map Prod.fst) (zs.map Prod.snd)
  | [], _ => by simp [ShrL]
  | z :: zs, h => by
    simp only [List.map_cons, ShrL]
    exact ⟨h z List.mem_cons_self, shrL_of fun y m => h y (List.mem_cons_of_mem _ m)⟩
def fSortedW : DFn := fun xs Q => match xs with
  | [.lst ds] => SortOk ds ∧ Q (.ls .sh) (.lst (sortD ds))
  | [.tup ds] => SortOk ds ∧ Q (.ls .sh) (.lst (sortD ds))
  | _ => False
theorem zf_sortedW : ZF Z (.builtin "sorted") fSortedW := by
  refine ⟨_, fun i => kcall rSortD (fun i => cr_sortD (by have := (Z.room i).un; omega)) i, fun A H vs ds Q Qz hs sv ho hq => ?_⟩
  have main : ∀ (a : Addr) (xs : List V) (ds : List D), (SqL G.K H a xs ∨ SqT G.K H a xs) → ShrL G.K G.mg A xs ds → SortOk ds → Qz (.ls .sh) (.lst (sortD ds)) → rSortD G.K [.ref a] H Q := fun a xs ds hx sx so q => by
    obtain ⟨hl, hz⟩ := shrL_zip sx
    let f : V × D → V × PyData := fun z => (z.1, z.2.py)
    have m1 : ((xs.zip ds).map f).map Prod.fst = xs := by
      rw [List.map_map]
      show (xs.zip ds).map Prod.fst = xs
      exact List.map_fst_zip (by omega)
    have m2 : ((xs.zip ds).map f).map Prod.snd = ds.map D.py := by
      rw [List.map_map]
      have : (Prod.snd ∘ f) = (D.py ∘ Prod.snd) := rfl
      rw [this, ← List.map_map, List.map_snd_zip (by omega)]
    refine ⟨a, (xs.zip ds).map f, rfl, by rw [m1]; exact hx, fun p hp => ?_, ?_, ?_, fun p hp => ?_⟩
    · obtain ⟨z, hzm, rfl⟩ := List.mem_map.1 hp
      exact eqOk_dp hs (so.ok z.2 (List.of_mem_zip hzm).2) (hz z hzm)
    · rw [m2]
      intro d hd e he
      obtain ⟨d', hd', rfl⟩ := List.mem_map.1 hd
      obtain ⟨e', he', rfl⟩ := List.mem_map.1 he
      exact so.al d' hd' e' he'
    · rw [m2]
      rcases so.so with h | h
      · left
        intro d hd
        obtain ⟨d', hd', rfl⟩ := List.mem_map.1 hd
        exact h d' hd'
      · right
        intro d hd
        obtain ⟨d', hd', rfl⟩ := List.mem_map.1 hd
        exact h d' hd'
    · have e1 : ((xs.zip ds).map f).mergeSort leP = ((xs.zip ds).mergeSort fun a b => leD a.2 b.2).map f := (PySem.W.sort_maps f fun a _ b _ => rfl).symm
      have e2 : ((xs.zip ds).mergeSort fun a b => leD a.2 b.2).map Prod.snd = sortD ds := by
        rw [PySem.W.sort_maps (s := leD) Prod.snd fun a _ b _ => rfl, List.map_snd_zip (by omega)]
        rfl
      rw [e1, List.map_map]
      have s2 : ShrL G.K G.mg A (((xs.zip ds).mergeSort fun a b => leD a.2 b.2).map Prod.fst) (((xs.zip ds).mergeSort fun a b => leD a.2 b.2).map Prod.snd) := shrL_of fun z hzm => hz z ((List.mergeSort_perm _ _).mem_iff.mp hzm)
      rw [e2] at s2
      exact putL hs hq s2 q hp
  unfold fSortedW at ho
  split at ho
  · obtain ⟨v, rfl, s⟩ := shrL1 sv
    simp only [Shr] at s
    obtain ⟨a, xs, rfl, h1, h2⟩ := s
    exact main a xs _ (.inl (sqL_of hs h1)) h2 ho.1 ho.2
  · obtain ⟨v, rfl, s⟩ := shrL1 sv
    simp only [Shr] at s
    obtain ⟨a, xs, rfl, h1, h2⟩ := s
    exact main a xs _ (.inr (sqT_of hs h1)) h2 ho.1 ho.2
  · exact ho.elim
end
theorem py_ints (ns : List Int) : (ns.map D.int).map D.py = ns.map PyData.int := by rw [List.map_map]; rfl
theorem sortOk_ints (ns : List Int) : SortOk (ns.map D.int) := by
  refine ⟨fun d hd => ?_, fun d hd e he => ?_, .inr fun d hd => ?_⟩
  · obtain ⟨i, _, rfl⟩ := List.mem_map.1 hd
    exact eqOk_int
  · obtain ⟨i, _, rfl⟩ := List.mem_map.1 hd
    obtain ⟨j, _, rfl⟩ := List.mem_map.1 he
    rfl
  · obtain ⟨i, _, rfl⟩ := List.mem_map.1 hd
    exact ⟨fun z => PyData.noConfusion z, fun xs z => PyData.noConfusion z⟩
theorem leD_int (i j : Int) : leD (.int i) (.int j) = decide (i ≤ j) := by
  show (!PySem.W.dataLt (.int j) (.int i)) = _
  rw [PySem.W.dataLt_int]
  by_cases h : j < i
  · have h2 : ¬ i ≤ j := by omega
    simp [h, h2]
  · have h2 : i ≤ j := by omega
    simp [h, h2]
theorem sortD_ints (ns : List Int) : ∃ ns' : List Int, sortD (ns.map D.int) = ns'.map D.int ∧ ns'.Perm ns ∧ ns'.Pairwise (· ≤ ·) := by
  refine ⟨ns.mergeSort fun i j => decide (i ≤ j), (PySem.W.sort_maps (s := leD) D.int fun a _ b _ => (leD_int a b).symm).symm, List.mergeSort_perm _ _, ?_⟩
  have h := List.pairwise_mergeSort (le := fun (i j : Int) => decide (i ≤ j)) (fun a b c h1 h2 => by
    have h1 := of_decide_eq_true h1
    have h2 := of_decide_eq_true h2
    exact decide_eq_true (by omega)) (fun a b => by
    by_cases h : a ≤ b
    · simp [h]
    · have : b ≤ a := by omega
      simp [this]) ns
  exact h.imp fun h => of_decide_eq_true h
/-- a list sorted by a strict order that ranks all -/
theorem sortD_is {ds out : List D} (hp : out.Perm ds) (hs : out.Pairwise (fun a b => leD a b = true ∧ leD b a = false)) (ht : ∀ a b c, leD a b = true → leD b c = true → leD a c = true) (hto : ∀ a b, (leD a b || leD b a) = true) : sortD ds = out := by
  have p : (sortD ds).Perm out := (List.mergeSort_perm _ _).trans hp.symm
  have s := List.pairwise_mergeSort (le := leD) ht hto ds
  have s2 : (sortD ds).Pairwise fun a b => leD a b = true := s
  have anti : ∀ l : List D, ∀ a ∈ l, ∀ b ∈ l, l.Pairwise (fun a b => leD a b = true ∧ leD b a = false) → leD a b = true → leD b a = true → a = b := by
    intro l
    induction l with
    | nil => intro a h; cases h
    | cons x l ih =>
      intro a ha b hb hw h1 h2
      rw [List.pairwise_cons] at hw
      rcases List.mem_cons.1 ha with ea | ha'
      · rcases List.mem_cons.1 hb with eb | hb'
        · rw [ea, eb]
        · have := (hw.1 b hb').2; rw [← ea, h2] at this; cases this
      · rcases List.mem_cons.1 hb with eb | hb'
        · have := (hw.1 a ha').2; rw [← eb, h1] at this; cases this
        · exact ih a ha' b hb' hw.2 h1 h2
  exact List.Perm.eq_of_pairwise (fun a b ha hb h1 h2 => anti out a (p.mem_iff.mp ha) b hb hs h1 h2) s2 (hs.imp fun h => h.1) p
theorem leD_trans (a b c : D) (h1 : leD a b = true) (h2 : leD b c = true) : leD a c = true :=
  (PySem.W.sortLe_total (listOrd itemOrd) false fun d : D => keyToks d.py).trans a b c h1 h2
theorem leD_total (a b : D) : (leD a b || leD b a) = true := by
  rcases (PySem.W.sortLe_total (listOrd itemOrd) false fun d : D => keyToks d.py).total a b with h | h
  · have : leD a b = true := h
    rw [this]; rfl
  · have : leD b a = true := h
    rw [this, Bool.or_true]
end ZL


namespace ZL
open PySem PySem.Spec PyProof.Rows L2
/-! ### further facts about the head's end -/
abbrev Fx := PySem.W.Frag → Bool
def obsX (fa : List He.Fa) (fn : List He.DefD) (fx : List Fx) (K : PySem.W.Frag) : He.AlD × Bool := (He.obsD fa fn K, fx.all fun f => f K)
def valX (fn : List He.DefD) : He.AlD × Bool := (He.valD fn, true)
def SaysX (fa : List He.Fa) (fn : List He.DefD) (fx : List Fx) (K : PySem.W.Frag) : Prop := obsX fa fn fx K = valX fn
def obsXG (n : Nat) (fa : List He.Fa) (fn : List He.DefD) (fx : List Fx) (g : Addr → Option Obj) : He.AlD × Bool := obsX fa fn fx (He.frG g (He.asD g n))
def hookX (n : Nat) (fa : List He.Fa) (fn : List He.DefD) (fx : List Fx) : PySem.W.Hook where
  α := He.AlD × Bool
  obs := fun s => obsXG n fa fn fx s.heap.get?
  val := fun _ => valX fn
  says := fun _ h => ∃ K : PySem.W.Frag, K.In h ∧ SaysX fa fn fx K
  of := fun _ _ e => ⟨_, He.frG_in, e⟩
  keeps := fun _ _ _ ⟨K, i, c⟩ k => ⟨K, PySem.W.Frag.In.keeps i k, c⟩
theorem obsXG_eq {n : Nat} {fa : List He.Fa} {fn : List He.DefD} {fx : List Fx} {g : Addr → Option Obj} {s : Shared} (h : ∀ a, g a = s.heap.get? a) : obsXG n fa fn fx g = (hookX n fa fn fx).obs s := by
  rw [show g = s.heap.get? from funext h]
  rfl
theorem SaysX.d {fa : List He.Fa} {fn : List He.DefD} {fx : List Fx} {K : PySem.W.Frag} (c : SaysX fa fn fx K) : He.SaysD fa fn K := congrArg (fun z : He.AlD × Bool => z.1) c
theorem SaysX.x {fa : List He.Fa} {fn : List He.DefD} {fx : List Fx} {K : PySem.W.Frag} (c : SaysX fa fn fx K) (i : Nat) {f : Fx} (h : fx[i]? = some f := by rfl) : f K = true :=
  List.all_eq_true.mp (show (fx.all fun f => f K) = true from congrArg (fun z : He.AlD × Bool => z.2) c) f (List.mem_of_getElem? h)
/-! ### isinstance(x, C), C an own class -/
structure IsaK (K : PySem.W.Frag) (C : Addr) : Prop where
  cl : Cls K C
  ha : PySem.W.findIn K (.ref C) "__class__" = some (some (.builtin "object.__class__"))
  hn : PySem.W.specialIn K (.builtin "object.__class__") "__get__" = some (some (.builtin "getset_descriptor.__get__"))
  htk : PySem.W.takesIn K (.builtin "object.__class__") = some true
  hm : PySem.W.mroIn K C (.type "object") = some true
def IsaF (G : Glob) (c : String) : Prop := ∀ C, G.mg (Str.ofString c) = some (.ref C) → IsaK G.K C
/-- what the head's end tells of the class x -/
def fxIsa (x : Str) : Fx := fun K => He.eqO (PySem.W.findIn K (.ref (He.ga K x)) "__class__") (some (some (.builtin "object.__class__"))) && (He.eqO (PySem.W.specialIn K (.builtin "object.__class__") "__get__") (some (some (.builtin "getset_descriptor.__get__"))) &&
  (decide (PySem.W.takesIn K (.builtin "object.__class__") = some true) && decide (PySem.W.mroIn K (He.ga K x) (.type "object") = some true)))
theorem fxIsa_ok {K : PySem.W.Frag} {x : Str} (h : fxIsa x K = true) (cl : Cls K (He.ga K x)) : IsaK K (He.ga K x) := by
  unfold fxIsa at h
  simp only [Bool.and_eq_true, decide_eq_true_eq] at h
  exact ⟨cl, He.eqO_ok h.1, He.eqO_ok h.2.1, h.2.2.1, h.2.2.2⟩
section
variable {G : Glob} {N : List Str} {sc : Scope} {fn : Str → Bool} {W : WX} {k : Nat} {Z : Zc G N sc fn W k}
def fIsiC (c : String) : DFn := fun xs Q => match xs with
  | [.obj c' _ _, .cls n] => c' = c ∧ n = c ∧ Q .sh (.bl true)
  | _ => False
theorem zf_isiC {c : String} (F : IsaF G c) : ZF Z (.builtin "isinstance") (fIsiC c) := by
  refine ⟨_, fun i => kcall rIsi (fun i => call_isi) i, fun A H vs ds Q Qz hs sv ho hq => ?_⟩
  unfold fIsiC at ho
  split at ho
  · obtain ⟨rfl, rfl, ho⟩ := ho
    obtain ⟨v, w, rfl, s1, s2⟩ := shrL2 sv
    simp only [Shr] at s1 s2
    obtain ⟨a, C, dx, fv, rfl, h1, h2, h3, h4, h5⟩ := s1
    obtain ⟨C', rfl, h6⟩ := s2
    have e : C' = C := by
      have := h1.symm.trans h6
      cases this
      rfl
    subst e
    have f := F C' h1
    exact ⟨_, _, .ref C', .ref C', true, rfl, .own C', .base (.ins (hs _ _ h2) f.cl f.ha f.hn f.htk f.hm), by unfold PySem.W.kitOne; rw [if_pos (by simp)], put0 hs hq (d := .bl true) (by simp only [Shr]) ho⟩
  · exact ho.elim
end
end ZL


namespace ZL
open PySem PySem.Spec PyProof.Rows L2
section
variable {G : Glob} {N : List Str} {sc : Scope} {fn : Str → Bool} {W : WX} {k : Nat} {Z : Zc G N sc fn W k}
/-! ### a pair of owned values: made of two names, and taken apart -/
theorem ZI.take {A0 H0 A H : Hp} {σ : L2.St} {env : DEnv} {fp : Nat → List Addr} (I : ZI G A0 H0 A H σ env fp) (i : Nat) :
    ZI G A0 H0 A H σ (env.set i none) (fun j => if j = i then [] else fp j) ∧ FreshV H0 A H (fun j => if j = i then [] else fp j) (fp i) := by
  refine ⟨⟨I.gr, by rw [List.length_set]; exact I.len, fun j k' d' q => ?_, fun j => ?_, fun j l n a m => ?_, fun j a m => ?_⟩, ⟨I.nd i, fun a m => ⟨(I.own i a m).2.1, (I.own i a m).1, (I.own i a m).2.2, fun j z => ?_⟩⟩⟩
  · by_cases hj : j = i
    · subst hj
      rw [List.getElem?_set] at q
      simp at q
    · rw [List.getElem?_set_ne (Ne.symm hj)] at q
      obtain ⟨v, q1, q2⟩ := I.at_ j k' d' q
      exact ⟨v, q1, by show Own G.K G.mg A H k' v d' (if j = i then [] else fp j); rw [if_neg hj]; exact q2⟩
  · show (if j = i then [] else fp j).Nodup
    by_cases hj : j = i
    · rw [if_pos hj]; exact List.nodup_nil
    · rw [if_neg hj]; exact I.nd j
  · have m : a ∈ (if j = i then [] else fp j) := m
    show a ∉ (if l = i then [] else fp l)
    by_cases hj : j = i
    · rw [if_pos hj] at m; cases m
    · rw [if_neg hj] at m
      by_cases hl : l = i
      · rw [if_pos hl]; intro z; cases z
      · rw [if_neg hl]; exact I.dis j l n a m
  · have m : a ∈ (if j = i then [] else fp j) := m
    by_cases hj : j = i
    · rw [if_pos hj] at m; cases m
    · rw [if_neg hj] at m; exact I.own j a m
  · have z : a ∈ (if j = i then [] else fp j) := z
    by_cases hj : j = i
    · rw [if_pos hj] at z; cases z
    · rw [if_neg hj] at z; exact I.dis i j (Ne.symm hj) a m z
def mMv2 (i j : Nat) : ZMV := fun env Q _ => i ≠ j ∧ match env[i]?, env[j]? with
  | some (some (k, d)), some (some (k', d')) => Q ((env.set i none).set j none) (.t2 k k') (.tup [d, d'])
  | _, _ => False
theorem zv_mv2 (i j : Nat) {x y : Str} {kk : Nat} {p q pos : Pos} (hx : N[i]? = some x := by rfl) (hv : Vis sc x := by first | exact Or.inl rfl | exact Or.inr (Or.inl rfl) | exact Or.inr (Or.inr rfl))
    (hd : (x == ("__debug__" : Str)) = false := by decide) (hcd : (x == ("__classdict__" : Str)) = false := by decide)
    (hy : N[j]? = some y := by rfl) (hvy : Vis sc y := by first | exact Or.inl rfl | exact Or.inr (Or.inl rfl) | exact Or.inr (Or.inr rfl))
    (hdy : (y == ("__debug__" : Str)) = false := by decide) (hcdy : (y == ("__classdict__" : Str)) = false := by decide) : ZV Z (.Tuple [.Name x p, .Name y q] kk pos) (mMv2 i j) := by
  have px : ∀ l, PE (Z.X l) (.Name x p) (tVar i) := fun l => pe_var (by rw [Z.hN]; exact hx) (by rw [Z.hsc]; exact hv) hd hcd
  have py : ∀ l, PE (Z.X l) (.Name y q) (tVar j) := fun l => pe_var (by rw [Z.hN]; exact hy) (by rw [Z.hsc]; exact hvy) hdy hcdy
  refine ⟨tTup (tCons (tVar i) (tCons (tVar j) tNil)), fun l => pe_tup (pa_cons (px l) (pa_cons (py l) pa_nil)), fun A0 H0 A H σ env fp Q Qz Ez I hm hq he => ?_⟩
  obtain ⟨hij, hm⟩ := hm
  split at hm
  · rename_i k1 d1 k2 d2 e1 e2
    obtain ⟨u, u1, u2⟩ := I.at_ i _ _ e1
    obtain ⟨w, w1, w2⟩ := I.at_ j _ _ e2
    refine ⟨u, u1, w, w1, (show 2 ≤ sizeLine from by decide), fun p hp => ?_⟩
    obtain ⟨I1, f1⟩ := I.take i
    obtain ⟨I2, f2⟩ := I1.take j
    have g := Gr.lay (o := .tup [u, w]) I.gr.ah hp
    have keep : ∀ l, ∀ a ∈ fp l, upd H p (.tup [u, w]) a = H a := fun l a m => by
      rw [upd_ne]
      intro z
      subst z
      exact (I.own l a m).2.2 hp
    have np : ∀ l, ∀ a ∈ fp l, a ≠ p := fun l a m z => by
      subst z
      exact (I.own l a m).2.2 hp
    have ej : (if j = i then [] else fp j) = fp j := if_neg (Ne.symm hij)
    refine hq (.ref p) _ _ ((env.set i none).set j none) _ (.t2 k1 k2) (.tup [d1, d2]) (fp i ++ fp j) (I2.grow g) g.aa ?_ ⟨?_, fun a m => ?_⟩ hm
    · simp only [Own]
      exact ⟨p, u, w, d1, d2, fp i, fp j, rfl, rfl, upd_same, u2.mono g.aa (keep i), w2.mono g.aa (keep j), rfl⟩
    · exact List.nodup_append.mpr ⟨I.nd i, I.nd j, fun a m b m' e => I.dis i j hij a m (e ▸ m')⟩
    · have hh : ∃ l, (l = i ∨ l = j) ∧ a ∈ fp l := by
        rcases List.mem_append.mp m with m | m
        · exact ⟨i, .inl rfl, m⟩
        · exact ⟨j, .inr rfl, m⟩
      clear m
      obtain ⟨l, hl, m⟩ := hh
      refine ⟨(I.own l a m).2.1, ?_, ?_, fun t z => ?_⟩
      · rw [upd_ne (np l a m)]; exact (I.own l a m).1
      · rw [keep l a m]; exact (I.own l a m).2.2
      · have zz : a ∈ (if t = j then [] else if t = i then [] else fp t) := z
        by_cases t1 : t = j
        · rw [if_pos t1] at zz; cases zz
        · rw [if_neg t1] at zz
          by_cases t2 : t = i
          · rw [if_pos t2] at zz; cases zz
          · rw [if_neg t2] at zz
            have hlt : l ≠ t := by
              rcases hl with hl | hl
              · rw [hl]; exact Ne.symm t2
              · rw [hl]; exact Ne.symm t1
            exact I.dis l t hlt a m zz
  · exact hm.elim
def wUnp (i j : Nat) (e : ZMV) : ZMS := fun env Z => e env (fun env' k d => match k, d with
  | .t2 k l, .tup [d1, d2] => (i ≠ j ∧ i < env'.length ∧ j < env'.length) ∧ Z.nx ((env'.set i (some (k, d1))).set j (some (l, d2)))
  | _, _ => False) (Z.ex env)
theorem zs_unp (i j : Nat) {x y : Str} {kk : Nat} {e : Expr} {m : ZMV} {p q p2 pos : Pos} (he : ZV Z e m) (hi : N[i]? = some x := by rfl) (hx : Loc sc x := by first | exact Or.inl rfl | exact Or.inr rfl) (hf : fn x = true ∨ sc.names.lookup x = some .local := by first | exact .inl rfl | exact .inr rfl)
    (hj : N[j]? = some y := by rfl) (hy : Loc sc y := by first | exact Or.inl rfl | exact Or.inr rfl) (hfy : fn y = true ∨ sc.names.lookup y = some .local := by first | exact .inl rfl | exact .inr rfl)
    (hs : ∀ env, swapsWithSole [.Tuple [.Name x p, .Name y q] kk p2] e pos.line env = pure false := by intro _; rfl) (hw : ∀ env, swappedStores [.Tuple [.Name x p, .Name y q] kk p2] e env = pure none := by intro _; rfl)
    (h1 : ∀ env, (assignEach [.Tuple [.Name x p, .Name y q] kk p2] env).map (·.2) = [assign (.Tuple [.Name x p, .Name y q] kk p2) env] := by intro _; rfl)
    (hn : ∀ env, (assignEach [.Name x p, .Name y q] env).length = 2 := by intro _; rfl) (hst : ∀ env, (assignEach [.Name x p, .Name y q] env).findIdx? (·.1) = none := by intro _; rfl)
    (h2 : ∀ env, (assignEach [.Name x p, .Name y q] env).map (·.2) = assign (.Name x p) env :: (assignEach [.Name y q] env).map (·.2) := by intro _; rfl) (h3 : ∀ env, (assignEach [.Name y q] env).map (·.2) = assign (.Name y q) env :: (assignEach [] env).map (·.2) := by intro _; rfl) :
    ZS Z (.Assign [.Tuple [.Name x p, .Name y q] kk p2] e pos) (wUnp i j m) := by
  obtain ⟨t, a1, a2⟩ := he.ex
  have px : ∀ l, PG (Z.X l) (.Name x p) (gName i) := fun l => pg_name (by rw [Z.hN]; exact Z.nd) (by rw [Z.hN]; exact hi) (by rw [Z.hsc]; exact hx) (by rw [Z.hfn, Z.hsc]; exact hf)
  have py : ∀ l, PG (Z.X l) (.Name y q) (gName j) := fun l => pg_name (by rw [Z.hN]; exact Z.nd) (by rw [Z.hN]; exact hj) (by rw [Z.hsc]; exact hy) (by rw [Z.hfn, Z.hsc]; exact hfy)
  have pt : ∀ l, PG (Z.X l) (.Tuple [.Name x p, .Name y q] kk p2) (gTup G.K 2 (gCons (gName i) (gCons (gName j) gNil))) := fun l => by
    have := pg_tup (pos := p2) (k := kk) (Z.calm l) (pgs_cons (px l) (pgs_cons (py l) pgs_nil (h3 _)) (h2 _)) (hn _) (hst _)
    rw [Z.hK l] at this
    exact this
  refine ⟨_, fun l => ps_asg (a1 l) (pt l) (hs _) (hw _) (h1 _), fun A0 H0 A H σ env fp D Zz I w mm => ?_⟩
  refine a2 A0 H0 A H σ env fp _ _ _ I w (fun v H' A' env' fp' k d f I' s o fr q => ?_) fun x cls dx H' A' I' s xa q => mm.ex A' H' σ env fp x cls dx I' s xa q
  split at q
  · rename_i kd ld d1 d2
    obtain ⟨⟨hij, l1, l2⟩, q⟩ := q
    rw [Own] at o
    obtain ⟨a, u, w, d1', d2', f1, f2, e1, e2, e3, o1, o2, rfl⟩ := o
    cases e2
    subst e1
    have n1 := List.nodup_append.mp fr.1
    have I1 := I'.put (i := i) o1 ⟨n1.1, fun b m => fr.2 b (List.mem_append_left _ m)⟩ l1
    have I2 := I1.put (i := j) o2 ⟨n1.2.1, fun b m => ?_⟩ (by rw [List.length_set]; exact l2)
    · exact ⟨a, [u, w], rfl, sqT_of I'.sub e3, rfl, u, [w], rfl, w, [], rfl, rfl, mm.nx A' H' _ _ _ I2 s q⟩
    · obtain ⟨c1, c2, c3, c4⟩ := fr.2 b (List.mem_append_right _ m)
      refine ⟨c1, c2, c3, fun t z => ?_⟩
      have z : b ∈ (if t = i then f1 else fp' t) := z
      by_cases ht : t = i
      · rw [if_pos ht] at z; exact n1.2.2 b z b m rfl
      · rw [if_neg ht] at z; exact c4 t z
  · exact q.elim
/-! ### methods of texts -/
def mMethS (o : DMt) (a : ZM) (m : ZMA) : ZM := fun env Q E => a env (fun _ x => (match x with
  | .str _ => True
  | _ => False) ∧ m env (fun ds => o x ds Q) E) E
theorem ze_methS {id : String} {ob e : Expr} {es : List Expr} {name : Str} {apos cpos : Pos} {o : DMt} {mo : ZM} {m : ZMA} (slot : Slot "str" name id) (hty : typeOf (.builtin id) = pure (.type "method_descriptor")) (hm : ZMt Z id o) (ho : ZE Z ob mo) (ha : ZA Z (e :: es) m)
    (h1 : ∀ env, attributeBase ob name env (eval ob env) = eval ob env := by intro _; rfl)
    (h2 : ∀ env, ((backTo cpos (starEach (e :: es) env)).all (fun x => !x.1) && (backToKw cpos (keywordEach [] env)).all (fun x => x.1.isSome) && decide ((e :: es).length + ([] : List Keyword).length + (if ([] : List Keyword).isEmpty then 0 else 1) < 30)) = true := by intro _; rfl)
    (h3 : (apos.endLine == cpos.line) = true := by rfl) (h4 : ∀ env, starEach (e :: es) env = (false, eval e env) :: starEach es env := by intro _; rfl) (h5 : ∀ env, (backTo cpos (starEach es env)).any (·.1) = false := by intro _; rfl) :
    ZE Z (.Call (.Attribute ob name apos) (e :: es) [] cpos) (mMethS o mo m) := by
  obtain ⟨r, r1, r2⟩ := hm.ex
  obtain ⟨t, a1, a2⟩ := ho.ex
  obtain ⟨u, b1, b2⟩ := ha.ex
  refine ⟨tBM G.K "str" r t u, fun i => ?_, fun A H σ env Q Qz Ez hh v hm' hq he => ?_⟩
  · have := pe_bm (X := Z.X i) PySem.F.plainAttrs_str slot hty (r1 i) (a1 i) (b1 i) (h1 _) (h2 _) h3 (h4 _) (h5 _)
    rw [Z.hK i] at this
    exact this
  · refine a2.go hh v hm' (fun x H1 A1 _ d g1 s1 q1 => ?_) he
    obtain ⟨q0, q1⟩ := q1
    cases d with
    | str z =>
      have s1' := s1
      simp only [Shr] at s1
      subst s1
      refine ⟨rfl, ?_⟩
      refine b2 A1 H1 σ env _ _ Ez g1.ah (v.mono g1.aa) q1 (fun ys H2 A2 ds g2 s2 q2 => ?_) (he.gr g1)
      exact r2 A2 H2 _ ys _ ds Q Qz g2.ah (s1'.mono g2.aa) s2 q2 fun v H' A' k d fp g o f q => hq v H' A' k d fp ((g1.trans g2).trans g) o (f.back (g1.trans g2).hh) q
    | _ => exact q0.elim
theorem shrL_strs {K : PySem.W.Frag} {mg : Str → Option Value} {A : Hp} : ∀ ys : List Str, ShrL K mg A (ys.map V.str) (ys.map D.str)
  | [] => by simp [ShrL]
  | y :: ys => by simp only [List.map_cons, ShrL, Shr]; exact ⟨trivial, shrL_strs ys⟩
theorem strs_shrL {K : PySem.W.Frag} {mg : Str → Option Value} {A : Hp} : ∀ {ys : List Str} {vs : List V}, ShrL K mg A vs (ys.map D.str) → vs = ys.map V.str
  | [], [], _ => rfl
  | [], _ :: _, s => by simp [ShrL] at s
  | _ :: _, [], s => by simp [ShrL] at s
  | y :: ys, v :: vs, s => by
    simp only [List.map_cons, ShrL, Shr] at s
    rw [s.1, strs_shrL s.2]
    rfl
def oSplit : DMt := fun x xs Q => match x, xs with
  | .str a, [.str b] => ((b.length == 0) = false ∧ a.length + 2 ≤ sizeLine) ∧ Q (.ls .sh) (.lst ((Txt.split a b).map D.str))
  | _, _ => False
theorem zm_split : ZMt Z "str.split" oSplit := by
  refine ⟨_, fun i => mt_split, fun A H x xs d ds Q Qz hs sx sxs ho hq => ?_⟩
  unfold oSplit at ho
  split at ho
  · rename_i a b
    obtain ⟨c, ho⟩ := ho
    simp only [Shr] at sx
    obtain ⟨v, rfl, sv⟩ := shrL1 sxs
    simp only [Shr] at sv
    subst sx sv
    exact ⟨a, b, rfl, rfl, c.1, c.2, fun l hl => putL hs hq (shrL_strs _) ho hl⟩
  · exact ho.elim
def oJoin : DMt := fun x xs Q => match x, xs with
  | .str a, [.lst ds] => ∃ ys : List Str, ds = ys.map D.str ∧ (ys.map (·.length)).sum + ys.length * a.length ≤ 16777216 ∧ Q .sh (.str (Txt.join a ys))
  | _, _ => False
theorem zm_join : ZMt Z "str.join" oJoin := by
  refine ⟨fun x xs H Q => ∃ a p, ∃ ys : List Str, x = .str a ∧ xs = [.ref p] ∧ (SqL G.K H p (ys.map V.str) ∨ SqT G.K H p (ys.map V.str)) ∧
    (ys.map (·.length)).sum + ys.length * a.length ≤ 16777216 ∧ Q (.str (Txt.join a ys)) H, fun i => ?_, fun A H x xs d ds Q Qz hs sx sxs ho hq => ?_⟩
  · have := mt_join (X := Z.X i)
    rw [Z.hK i] at this
    exact this
  unfold oJoin at ho
  split at ho
  · rename_i a zs
    obtain ⟨ys, rfl, c, ho⟩ := ho
    simp only [Shr] at sx
    obtain ⟨v, rfl, sv⟩ := shrL1 sxs
    simp only [Shr] at sv
    obtain ⟨p, vs, rfl, h1, h2⟩ := sv
    subst sx
    refine ⟨a, p, ys, rfl, rfl, .inl (sqL_of hs ?_), c, put0 hs hq (d := .str _) (by simp only [Shr]) ho⟩
    rw [← strs_shrL h2]; exact h1
  · exact ho.elim
def oZfill : DMt := fun x xs Q => match x, xs with
  | .str a, [.int i] => PadOk i = true ∧ Q .sh (.str (Txt.zfill a i))
  | _, _ => False
theorem zm_zfill : ZMt Z "str.zfill" oZfill := by
  refine ⟨_, fun i => mt_zfill, fun A H x xs d ds Q Qz hs sx sxs ho hq => ?_⟩
  unfold oZfill at ho
  split at ho
  · rename_i a b
    obtain ⟨c, ho⟩ := ho
    simp only [Shr] at sx
    obtain ⟨v, rfl, sv⟩ := shrL1 sxs
    simp only [Shr] at sv
    subst sx sv
    exact ⟨a, b, rfl, rfl, c, put0 hs hq (d := .str _) (by simp only [Shr]) ho⟩
  · exact ho.elim
theorem ze_split {ob e : Expr} {apos cpos : Pos} {mo : ZM} {m : ZM} (ho : ZE Z ob mo) (ha : ZE Z e m)
    (h1 : ∀ env, attributeBase ob "split" env (eval ob env) = eval ob env := by intro _; rfl)
    (h2 : ∀ env, ((backTo cpos (starEach (e :: []) env)).all (fun x => !x.1) && (backToKw cpos (keywordEach [] env)).all (fun x => x.1.isSome) && decide ((e :: []).length + ([] : List Keyword).length + (if ([] : List Keyword).isEmpty then 0 else 1) < 30)) = true := by intro _; rfl)
    (h3 : (apos.endLine == cpos.line) = true := by rfl) (h4 : ∀ env, starEach (e :: []) env = (false, eval e env) :: starEach [] env := by intro _; rfl) (h5 : ∀ env, (backTo cpos (starEach [] env)).any (·.1) = false := by intro _; rfl) :
    ZE Z (.Call (.Attribute ob "split" apos) [e] [] cpos) (mMethS oSplit mo (mCons m mNil)) :=
  ze_methS PySem.F.slot_str_split PySem.F.type_str_split zm_split ho (za_cons ha za_nil h4) h1 h2 h3 h4 h5
theorem ze_join {ob e : Expr} {apos cpos : Pos} {mo : ZM} {m : ZM} (ho : ZE Z ob mo) (ha : ZE Z e m)
    (h1 : ∀ env, attributeBase ob "join" env (eval ob env) = eval ob env := by intro _; rfl)
    (h2 : ∀ env, ((backTo cpos (starEach (e :: []) env)).all (fun x => !x.1) && (backToKw cpos (keywordEach [] env)).all (fun x => x.1.isSome) && decide ((e :: []).length + ([] : List Keyword).length + (if ([] : List Keyword).isEmpty then 0 else 1) < 30)) = true := by intro _; rfl)
    (h3 : (apos.endLine == cpos.line) = true := by rfl) (h4 : ∀ env, starEach (e :: []) env = (false, eval e env) :: starEach [] env := by intro _; rfl) (h5 : ∀ env, (backTo cpos (starEach [] env)).any (·.1) = false := by intro _; rfl) :
    ZE Z (.Call (.Attribute ob "join" apos) [e] [] cpos) (mMethS oJoin mo (mCons m mNil)) :=
  ze_methS PySem.F.slot_str_join PySem.F.type_str_join zm_join ho (za_cons ha za_nil h4) h1 h2 h3 h4 h5
theorem ze_zfill {ob e : Expr} {apos cpos : Pos} {mo : ZM} {m : ZM} (ho : ZE Z ob mo) (ha : ZE Z e m)
    (h1 : ∀ env, attributeBase ob "zfill" env (eval ob env) = eval ob env := by intro _; rfl)
    (h2 : ∀ env, ((backTo cpos (starEach (e :: []) env)).all (fun x => !x.1) && (backToKw cpos (keywordEach [] env)).all (fun x => x.1.isSome) && decide ((e :: []).length + ([] : List Keyword).length + (if ([] : List Keyword).isEmpty then 0 else 1) < 30)) = true := by intro _; rfl)
    (h3 : (apos.endLine == cpos.line) = true := by rfl) (h4 : ∀ env, starEach (e :: []) env = (false, eval e env) :: starEach [] env := by intro _; rfl) (h5 : ∀ env, (backTo cpos (starEach [] env)).any (·.1) = false := by intro _; rfl) :
    ZE Z (.Call (.Attribute ob "zfill" apos) [e] [] cpos) (mMethS oZfill mo (mCons m mNil)) :=
  ze_methS PySem.F.slot_str_zfill PySem.F.type_str_zfill zm_zfill ho (za_cons ha za_nil h4) h1 h2 h3 h4 h5
/-! ### texts compared, whatever their signs -/
def oStrEq (neg : Bool) : DOp := fun x y Q => match x, y with
  | .str a, .str b => Q .sh (.bl (if neg then !(a == b) else (a == b)))
  | _, _ => False
def oEqT (neg : Bool) : DOp := fun x y Q => match x, y with
  | .str a, .str b => Q .sh (.bl (if neg then !(a == b) else (a == b)))
  | x, y => oEq neg x y Q
theorem zo_strEq : ZOp Z (compareOp .Eq) (oStrEq false) := by
  refine ⟨_, fun i => op_eq, fun A H x y dx dy Q Qz hs sx sy ho hq => ?_⟩
  unfold oStrEq at ho
  split at ho
  · simp only [Shr] at sx sy
    subst sx sy
    exact ⟨rfl, put0 hs hq (d := .bl _) (by simp only [Shr]; rw [dec_str]; rfl) ho⟩
  · exact ho.elim
theorem zo_strNe : ZOp Z (compareOp .NotEq) (oStrEq true) := by
  refine ⟨_, fun i => op_ne, fun A H x y dx dy Q Qz hs sx sy ho hq => ?_⟩
  unfold oStrEq at ho
  split at ho
  · simp only [Shr] at sx sy
    subst sx sy
    exact ⟨rfl, put0 hs hq (d := .bl _) (by simp only [Shr]; rw [dec_str]; rfl) ho⟩
  · exact ho.elim
theorem zo_eqT : ZOp Z (compareOp .Eq) (oEqT false) := ZOp.imp (ZOp.or zo_eq zo_strEq) fun x y Q h => by
  unfold oEqT at h
  split at h
  · exact .inr h
  · exact .inl h
theorem zo_neT : ZOp Z (compareOp .NotEq) (oEqT true) := ZOp.imp (ZOp.or zo_ne zo_strNe) fun x y Q h => by
  unfold oEqT at h
  split at h
  · exact .inr h
  · exact .inl h
/-! ### products of great numbers -/
abbrev oMulW : DOp := oI IntMulOk fun i j => .int (i * j)
theorem zo_mulW : ZOp Z (binaryOp .Mult) oMulW := zo_int (fun i => opI fun _ _ _ _ _ _ _ hc q => mul_int q hc) fun _ _ => ⟨rfl, rfl⟩
theorem mul_wide {i j : Int} (hi : Builtin.Int.intBits i ≤ 1048576) (hj : j.natAbs < 2 ^ 200) : IntMulOk i j := by
  have b : Builtin.Int.intBits j ≤ 200 := by
    unfold Builtin.Int.intBits
    split
    · omega
    · rename_i h
      have h0 : j.natAbs ≠ 0 := fun z => by
        have : j = 0 := by omega
        subst this
        exact h rfl
      have := (Nat.log2_lt h0).mpr hj
      omega
  have hb : (bitsLine : Int) = 134217728 := by decide
  unfold IntMulOk Builtin.Int.intTooBig
  simp only [Bool.and_eq_true, decide_eq_true_eq, not_and]
  intro _ z
  have z' : (bitsLine : Int) < ((Builtin.Int.intBits i : Nat) : Int) + ((Builtin.Int.intBits j : Nat) : Int) := z
  omega
theorem bits_abs {i : Int} (h : Builtin.Int.intBits i ≤ 1048576) : Builtin.Int.intBits (i.natAbs : Int) ≤ 1048576 := by
  unfold Builtin.Int.intBits at h ⊢
  by_cases hz : i = 0
  · subst hz; decide
  · have h1 : (i == 0) = false := by simpa using hz
    have h2 : ((i.natAbs : Int) == 0) = false := by
      have : (i.natAbs : Int) ≠ 0 := by omega
      simpa using this
    rw [h1] at h
    rw [h2]
    simpa using h
end
/-! ### the law's end, with the bits of the script's numbers -/
def spLawB : ZSpec := fun ds Q _ => ∃ ns : List Int, ds = [.scr ns] ∧ ns.length ≤ 63 ∧ (∀ z ∈ ns, Builtin.Int.intBits z ≤ 1048576) ∧ Q .sh (.bl true)
theorem ar_lawB : ZSpec.Ar spLawB 1 := fun ds Q E h => by
  obtain ⟨ns, rfl, _⟩ := h
  rfl
theorem law_spB {G : Glob} {H : Hp} {a : Addr} {ns : List Int} (hl : ns.length ≤ 63) (hb : ∀ z ∈ ns, Builtin.Int.intBits z ≤ 1048576) (hS : SqL G.K H a (ns.map V.int)) : spZ G 1 spLawB [.ref a] H (fun v _ => v = .bl true) fun _ _ _ => False :=
  ⟨H, [.scr ns], fun k d => k = .sh ∧ d = .bl true, fun _ => False, rfl, sub_refl, by simp only [ShrL, Shr]; exact ⟨⟨a, rfl, hS⟩, trivial⟩, ⟨ns, rfl, hl, hb, rfl, rfl⟩, fun v H' A' k d fp g o fr q => by
    obtain ⟨rfl, rfl⟩ := q
    simp only [Own, Shr] at o
    exact o.1, fun _ _ _ _ _ _ _ q => q⟩
theorem walk_zlB {l : PySem.W.OpenLaw} {top k : Nat} {q : Program} {loose : List Str} {XP : (Str → Option Value) → Heap → Prop} {YP : World → Heap → Prop} {d : DefRec} {cx : World → CXT} {x : Str}
    (most : l.most = some top) (small : top ≤ sizeLine) (plain : d.params.defaults = []) (room : Room k callerA)
    (F : ∀ (w : World) (mg : Str → Option Value) (at_ : Addr) (h : Heap), YP w h → h.Ns mainGlobals mg → mg d.name = some (.ref at_) →
      ∃ (K : PySem.W.Frag) (fd : FuncData) (sp : Sp), K.In h ∧ (∀ (s : Shared) (u : Value), BindsTo s fd ⟨[u], []⟩ [(x, u)]) ∧
        (∀ (H : Hp) (a : Addr) (ns : List Int), ns.length ≤ top → (∀ z ∈ ns, Builtin.Int.intBits z ≤ 1048576) → SqL K H a (ns.map V.int) → sp [.ref a] H (fun v _ => v = .bl true) fun _ _ _ => False) ∧
        ∀ base : Heap, K.In base → base.Ns mainGlobals mg → L2.FnOk l.prog w K mg base (cx w) k at_ fd [x] sp)
    (no : ∀ (w : World) (H : Hp) (s : Shared) (e : Value) (s' : Shared), cx w [] H s (fun _ _ _ => False) e s' → False) :
    PySem.W.WalkO q loose XP YP l.row.toRowW d [] (fun f vs => PySem.call f vs) :=
  Att.attach_callB most plain fun w _ s1 mg _ at_ _ _ _ _ _ _ ns G Y _ _ _ at_mg obj hints len bits g => by
    obtain ⟨K, fd, sp, inK, binds, says, keeps⟩ := F w mg at_ _ Y G.T.g at_mg
    exact law_call inK G.T.g G.T.b G.T.builtins G.T.nolimit g obj hints (Nat.le_trans len small) room keeps binds (fun H _ hS => says H _ ns len bits hS) fun H e s' => no w H s1 e s'
end ZL


namespace L2
open PySem PySem.Spec PyProof.Rows PySem.Builtin PySem.Builtin.Str
/-! ### x.ljust(width, sign) -/
theorem gives_ljustF (x : Str) (i : Int) (c : Nat) (t u v : Tok) (hr : (decide (i < -(2 ^ 63 : Int)) || decide (i ≥ 2 ^ 63)) = false) (hl : tooLong i.toNat = false) :
    Gives («str.ljust» ⟨[.str x t, .int i u, .str ⟨#[c]⟩ v], []⟩) (if i ≤ x.length then .val (.str x t) else .str (padded x 0 (i.toNat - x.length) c)) := by
  show Gives (do
             let width ← asSsize s!"str.ljust" (.int i u)
             if width ≤ x.length then (do rule s!"str.ljust.long-enough"; ret (.str x t)) else
             if tooLong width.toNat = true then unsupported s!"str.ljust:memory" else retStr (padded x 0 (width.toNat - x.length) c)) _
  rw [asSsize_int _ _ _ hr]
  show Gives (if i ≤ x.length then (do rule s!"str.ljust.long-enough"; ret (.str x t)) else if tooLong i.toNat = true then unsupported s!"str.ljust:memory" else retStr (padded x 0 (i.toNat - x.length) c)) _
  rw [hl]
  by_cases h : i ≤ (x.length : Int)
  · rw [if_pos h, if_pos h]; exact .rule (.of_eq rfl)
  · rw [if_neg h, if_neg h]; exact .of_eq rfl
/-- x, filled up behind with c -/
def ljustF (x : Str) (i : Int) (c : Nat) : Str := if i ≤ x.length then x else padded x 0 (i.toNat - x.length) c
theorem tl_ljustF (x : Str) (i : Int) (c : Nat) : (ljustF x i c).cps.toList = x.cps.toList ++ List.replicate (i.toNat - x.length) c := by
  unfold ljustF
  split
  · rename_i h
    have : i.toNat - x.length = 0 := by omega
    rw [this]
    simp
  · simp [padded]
section
variable {X : Cx}
theorem mt_ljustF : MtR X "str.ljust" (fun x xs H Q => ∃ (a : Str) (i : Int) (c : Nat), x = .str a ∧ xs = [.int i, .str ⟨#[c]⟩] ∧ PadOk i = true ∧ Q (.str (ljustF a i c)) H) := by
  intro pins s σ H x xs v us Q I rx rs h
  obtain ⟨a, i, c, rfl, rfl, hc, h⟩ := h
  obtain ⟨t, rfl⟩ := rx
  cases rs with
  | cons r1 rs =>
    cases rs with
    | cons r2 rs =>
      cases rs
      obtain ⟨u, rfl⟩ := r1
      obtain ⟨z, rfl⟩ := r2
      exact call_gives PySem.F.slot_str_ljust (typeIs_str _ _ _) PySem.F.entry_str_ljust (PySem.F.args_str_ljust_3 _ _ _) (gives_ljustF a i c t u z (PadOk.parts hc).1 (PadOk.parts hc).2)
        (post_val_or_made (fits_padR c (PadOk.parts hc).2) fun t' k => ⟨.str (ljustF a i c), H, I.tok k, ⟨t', rfl⟩, h⟩)
/-! ### x * n of texts -/
def repS (x : Str) (n : Int) : Str := ⟨(List.replicate n.toNat x.cps.toList).flatten.toArray⟩
theorem rep_foldl : ∀ (l : List (Array Nat)) (acc : Array Nat), (l.foldl (· ++ ·) acc).toList = acc.toList ++ (l.map Array.toList).flatten
  | [], acc => by simp
  | x :: l, acc => by
    rw [List.foldl_cons, rep_foldl l]
    simp
theorem repS_eq (x : Str) (n : Int) : (⟨(List.replicate n.toNat x.cps).foldl (· ++ ·) #[]⟩ : Str) = repS x n := by
  refine Str.ext' (Array.toList_inj.mp ?_)
  show ((List.replicate n.toNat x.cps).foldl (· ++ ·) #[]).toList = _
  rw [rep_foldl, List.map_replicate]
  rfl
theorem op_mulS : OpR X (binaryOp .Mult) (fun x y H Q => ∃ (a : Str) (n : Int), x = .str a ∧ y = .int n ∧ (0 ≤ n ∧ n ≤ 1000 ∧ a.length ≤ 1000) ∧ Q (.str (repS a n)) H) := by
  intro pins s σ H x y v u Q I rx ry h
  obtain ⟨a, n, rfl, rfl, ⟨h0, h1, h2⟩, q⟩ := h
  obtain ⟨t, rfl⟩ := rx
  obtain ⟨t', rfl⟩ := ry
  have len : (repS a n).length ≤ 1000 * 1000 := by
    have e : (repS a n).length = n.toNat * a.length := by
      simp [repS, Str.length]
    rw [e]
    exact Nat.mul_le_mul (by omega) h2
  have hz : 1000 * 1000 ≤ sizeLine := by decide
  refine PySem.P.mul_str (by simp; omega) (fun z1 z2 => ?_) (fun z1 z2 => ?_) ?_
  · have : (2 ^ 63 - 1 : Int) / n ≥ (2 ^ 63 - 1) / 1000 := by
      rw [ge_iff_le, Int.le_ediv_iff_mul_le (by omega)]
      omega
    have : ((2 : Int) ^ 63 - 1) / 1000 ≥ 1000 := by decide
    omega
  · have : a.length * n.toNat ≤ 1000 * 1000 := Nat.mul_le_mul h2 (by omega)
    unfold tooLong
    simp
    omega
  · by_cases z : n < 1
    · have : n = 0 := by omega
      subst this
      rw [if_pos (by decide)]
      exact ⟨by decide, ⟨.str (repS a 0), H, I.tok _, ⟨_, rfl⟩, q⟩⟩
    · rw [if_neg z]
      by_cases z2 : (n == 1 || a.length == 0) = true
      · rw [if_pos z2]
        have e : repS a n = a := by
          rw [Bool.or_eq_true] at z2
          rcases z2 with z2 | z2
          · have : n = 1 := by simpa using z2
            subst this
            simp [repS]
          · have e0 : a.cps = #[] := by
              have : a.length = 0 := by simpa using z2
              exact Array.eq_empty_of_size_eq_zero this
            refine Str.ext' ?_
            simp [repS, e0]
        exact ⟨.str (repS a n), H, I.tok _, ⟨_, by rw [e]⟩, q⟩
      · rw [if_neg z2, repS_eq]
        exact ⟨by omega, ⟨.str (repS a n), H, I.tok _, ⟨_, rfl⟩, q⟩⟩
end
end L2


namespace ZL
open PySem PySem.Spec PyProof.Rows L2
section
variable {G : Glob} {N : List Str} {sc : Scope} {fn : Str → Bool} {W : WX} {k : Nat} {Z : Zc G N sc fn W k}
def oLjust : DMt := fun x xs Q => match x, xs with
  | .str a, [.int i, .str f] => ∃ c, f = ⟨#[c]⟩ ∧ PadOk i = true ∧ Q .sh (.str (ljustF a i c))
  | _, _ => False
theorem zm_ljust : ZMt Z "str.ljust" oLjust := by
  refine ⟨_, fun i => mt_ljustF, fun A H x xs d ds Q Qz hs sx sxs ho hq => ?_⟩
  unfold oLjust at ho
  split at ho
  · rename_i a i f
    obtain ⟨c, rfl, hp, ho⟩ := ho
    simp only [Shr] at sx
    obtain ⟨v, w, rfl, sv, sw⟩ := shrL2 sxs
    simp only [Shr] at sv sw
    subst sx sv sw
    exact ⟨a, i, c, rfl, rfl, hp, put0 hs hq (d := .str _) (by simp only [Shr]) ho⟩
  · exact ho.elim
theorem ze_ljust {ob e e2 : Expr} {apos cpos : Pos} {mo : ZM} {m m2 : ZM} (ho : ZE Z ob mo) (ha : ZE Z e m) (hb : ZE Z e2 m2)
    (h1 : ∀ env, attributeBase ob "ljust" env (eval ob env) = eval ob env := by intro _; rfl)
    (h2 : ∀ env, ((backTo cpos (starEach (e :: [e2]) env)).all (fun x => !x.1) && (backToKw cpos (keywordEach [] env)).all (fun x => x.1.isSome) && decide ((e :: [e2]).length + ([] : List Keyword).length + (if ([] : List Keyword).isEmpty then 0 else 1) < 30)) = true := by intro _; rfl)
    (h3 : (apos.endLine == cpos.line) = true := by rfl) (h4 : ∀ env, starEach (e :: [e2]) env = (false, eval e env) :: starEach [e2] env := by intro _; rfl) (h6 : ∀ env, starEach (e2 :: []) env = (false, eval e2 env) :: starEach [] env := by intro _; rfl) (h5 : ∀ env, (backTo cpos (starEach [e2] env)).any (·.1) = false := by intro _; rfl) :
    ZE Z (.Call (.Attribute ob "ljust" apos) [e, e2] [] cpos) (mMethS oLjust mo (mCons m (mCons m2 mNil))) :=
  ze_methS PySem.F.slot_str_ljust PySem.F.type_str_ljust zm_ljust ho (za_cons ha (za_cons hb za_nil h6) h4) h1 h2 h3 h4 h5
def oMulS : DOp := fun x y Q => match x, y with
  | .str a, .int n => (0 ≤ n ∧ n ≤ 1000 ∧ a.length ≤ 1000) ∧ Q .sh (.str (repS a n))
  | _, _ => False
theorem zo_mulS : ZOp Z (binaryOp .Mult) oMulS := by
  refine ⟨_, fun i => op_mulS, fun A H x y dx dy Q Qz hs sx sy ho hq => ?_⟩
  unfold oMulS at ho
  split at ho
  · simp only [Shr] at sx sy
    subst sx sy
    exact ⟨_, _, rfl, rfl, ho.1, put0 hs hq (d := .str _) (by simp only [Shr]) ho.2⟩
  · exact ho.elim
end
end ZL


namespace ZL
open PySem PySem.Spec PyProof.Rows L2
/-! ### 'w'.join(e).replace('y', 'z') -/
def tJR (K : PySem.W.Frag) (w y z : Str) (te : TE) : TE := fun σ H Q => te σ H fun u H1 => ∃ p, ∃ ys : List Str, u = .ref p ∧ (SqL K H1 p (ys.map V.str) ∨ SqT K H1 p (ys.map V.str)) ∧
  (ys.map (·.length)).sum + ys.length * w.length ≤ 16777216 ∧ (Txt.join w ys).length + ((Txt.join w ys).length + 1) * z.length ≤ 16777216 ∧ Q (.str (Txt.replace (Txt.join w ys) y z)) H1
theorem pe_joinRepl {X : Cx} {e : Expr} {te : TE} {w y z : Str} {jw j k : Nat} {cw c0 c1 ap1 pos1 apos pos : Pos} (he : PE X e te) (hyz : (y == z) = false)
    (hst : starEach [.Constant (.str y) j c0, .Constant (.str z) k c1] X.env = [(false, eval (.Constant (.str y) j c0) X.env), (false, eval (.Constant (.str z) k c1) X.env)])
    (hbase : attributeBase (.Call (.Attribute (.Constant (.str w) jw cw) "join" ap1) [e] [] pos1) "replace" X.env (eval (.Call (.Attribute (.Constant (.str w) jw cw) "join" ap1) [e] [] pos1) X.env) = eval (.Call (.Attribute (.Constant (.str w) jw cw) "join" ap1) [e] [] pos1) X.env) (hline : (apos.endLine == pos.line) = true)
    (hs1 : starEach [e] X.env = [(false, eval e X.env)]) (hb1 : attributeBase (.Constant (.str w) jw cw) "join" X.env (eval (.Constant (.str w) jw cw) X.env) = eval (.Constant (.str w) jw cw) X.env) (hl1 : (ap1.endLine == pos1.line) = true) :
    PE X (.Call (.Attribute (.Call (.Attribute (.Constant (.str w) jw cw) "join" ap1) [e] [] pos1) "replace" apos) [.Constant (.str y) j c0, .Constant (.str z) k c1] [] pos) (tJR X.K w y z te) := by
  refine ⟨fun pins s σ H Q I h => ?_⟩
  refine PySem.Call_method2 hbase hst hline (PySem.Call_method1 hb1 hs1 hl1 (Calls.Constant_str ?_))
  refine ⟨"str", _, PySem.F.plainAttrs_str, PySem.F.slot_str_join, PySem.F.type_str_join, typeIs_str _ _ _, (fun _ e => nomatch e), Calls.callWith_builtin rfl (Calls.evalArgs_plain (Calls.spliced_cons ?_))⟩
  refine wpAny_mono (PySem.wpAny_toks (he.run pins _ σ H _ (I.tok _) h)) (fun u s2 q => ?_) fun _ _ z => z.2
  obtain ⟨hk, u', H2, I2, r2, p, ys, rfl, hp, hb, hc, q2⟩ := q
  refine Calls.spliced_nil ?_
  refine wpAny_mono (PySem.wpAny_toks (mt_join pins s2 σ H2 (.str w) [.ref p] _ [u] (fun v H3 => v = .str (Txt.join w ys) ∧ H3 = H2) I2 ⟨_, rfl⟩ (.cons r2 .nil) ⟨w, p, ys, rfl, rfl, hp, hb, rfl, rfl⟩)) (fun v s3 q => ?_) fun _ _ z => z.2
  obtain ⟨hk2, v', H3, I3, r3, rfl, rfl⟩ := q
  obtain ⟨tx, rfl⟩ := r3
  have hk' : s.toks + 1 ≤ s2.toks := hk
  refine ⟨"str", _, PySem.F.plainAttrs_str, PySem.F.slot_str_replace, PySem.F.type_str_replace, typeIs_str _ _ _, (fun _ e => nomatch e), Calls.callWith_builtin rfl (Calls.evalArgs_plain (Calls.spliced_cons ?_))⟩
  refine Calls.Constant_str (Calls.spliced_cons (Calls.Constant_str (Calls.spliced_nil ?_)))
  exact PySem.SC.replace (by show s3.toks ≠ 0; omega) (by show s3.toks + 1 ≠ 0; omega) (by show s3.toks ≠ s3.toks + 1; omega) hyz hc fun t' k => ⟨.str (Txt.replace (Txt.join w ys) y z), H3, I3.tok k, ⟨t', rfl⟩, q2⟩
section
variable {G : Glob} {N : List Str} {sc : Scope} {fn : Str → Bool} {W : WX} {k : Nat} {Z : Zc G N sc fn W k}
def mJR (w y z : Str) (m : ZM) : ZM := fun env Q E => m env (fun _ d => ∃ ys : List Str, d = .lst (ys.map D.str) ∧ (ys.map (·.length)).sum + ys.length * w.length ≤ 16777216 ∧ (Txt.join w ys).length + ((Txt.join w ys).length + 1) * z.length ≤ 16777216 ∧ Q .sh (.str (Txt.replace (Txt.join w ys) y z))) E
theorem ze_joinRepl {e : Expr} {m : ZM} {w y z : Str} {jw j k' : Nat} {cw c0 c1 ap1 pos1 apos pos : Pos} (he : ZE Z e m) (hyz : (y == z) = false := by decide)
    (hst : ∀ env, starEach [.Constant (.str y) j c0, .Constant (.str z) k' c1] env = [(false, eval (.Constant (.str y) j c0) env), (false, eval (.Constant (.str z) k' c1) env)] := by intro _; rfl)
    (hbase : ∀ env, attributeBase (.Call (.Attribute (.Constant (.str w) jw cw) "join" ap1) [e] [] pos1) "replace" env (eval (.Call (.Attribute (.Constant (.str w) jw cw) "join" ap1) [e] [] pos1) env) = eval (.Call (.Attribute (.Constant (.str w) jw cw) "join" ap1) [e] [] pos1) env := by intro _; rfl) (hline : (apos.endLine == pos.line) = true := by rfl)
    (hs1 : ∀ env, starEach [e] env = [(false, eval e env)] := by intro _; rfl) (hb1 : ∀ env, attributeBase (.Constant (.str w) jw cw) "join" env (eval (.Constant (.str w) jw cw) env) = eval (.Constant (.str w) jw cw) env := by intro _; rfl) (hl1 : (ap1.endLine == pos1.line) = true := by rfl) :
    ZE Z (.Call (.Attribute (.Call (.Attribute (.Constant (.str w) jw cw) "join" ap1) [e] [] pos1) "replace" apos) [.Constant (.str y) j c0, .Constant (.str z) k' c1] [] pos) (mJR w y z m) := by
  obtain ⟨t, a1, a2⟩ := he.ex
  refine ⟨tJR G.K w y z t, fun i => ?_, fun A H σ env Q Qz Ez hh v hm hq hx => ?_⟩
  · have := pe_joinRepl (X := Z.X i) (a1 i) hyz (hst _) (hbase _) hline (hs1 _) (hb1 _) hl1
    rw [Z.hK i] at this
    exact this
  · refine a2.go hh v hm (fun x H1 A1 _ d g1 s1 q1 => ?_) hx
    obtain ⟨ys, rfl, h1, h2, q⟩ := q1
    simp only [Shr] at s1
    obtain ⟨p, vs, rfl, e1, e2⟩ := s1
    refine ⟨p, ys, rfl, .inl (sqL_of g1.ah (by rw [← strs_shrL e2]; exact e1)), h1, h2, put0 g1.ah (fun v H' A' k d fp g o f q => hq v H' A' k d fp (g1.trans g) o (f.back g1.hh) q) (d := .str _) (by simp only [Shr]) q⟩
/-! ### the first of an owned pair -/
def mFst (m : ZM) : ZM := fun env Q E => m env (fun k d => match k, d with
  | .t2 k _, .tup [d, _] => Q k d
  | _, _ => False) E
theorem ze_fst {e : Expr} {m : ZM} {kk : Nat} {p pos : Pos} (he : ZE Z e m) (hp : PlainIx (.Constant (.int 0) kk p) := by exact fun _ _ => rfl) : ZE Z (.Subscript e (.Constant (.int 0) kk p) pos) (mFst m) := by
  obtain ⟨t, a1, a2⟩ := he.ex
  refine ⟨_, fun i => pe_ix (kix rIx (fun i => ix_seq) i) (a1 i) pe_int hp, fun A H σ env Q Qz Ez hh v hm hq hx => ?_⟩
  refine a2 A H σ env _ _ Ez hh v hm (fun v H' A' k d fp g o f q => ?_) hx
  split at q
  · rename_i k1 k2 d1 d2
    rw [Own] at o
    obtain ⟨a, u, w, d1', d2', f1, f2, rfl, e2, e3, o1, o2, rfl⟩ := o
    cases e2
    refine .inr (.inl ⟨a, [u, w], 0, u, rfl, rfl, sqT_of g.ah e3, rfl, ?_⟩)
    exact hq u H' A' k1 d1 f1 g o1 ⟨(List.nodup_append.mp f.1).1, fun b m => f.2 b (List.mem_append_left _ m)⟩ q
  · exact q.elim
/-! ### l.index(x) -/
def oIndex : DMt := fun x xs Q => match x, xs with
  | .lst ds, [y] => (eqOk (.lst ds) && eqOk y) = true ∧ ∃ (j : Nat) (z : D), ds[j]? = some z ∧ eqD z y = true ∧ (∀ (m : Nat) (z' : D), m < j → ds[m]? = some z' → eqD z' y = false) ∧ Q .sh (.int (j : Nat))
  | _, _ => False
theorem zm_index : ZMt Z "list.index" oIndex := by
  refine ⟨rIndexD G.K, fun i => ?_, fun A H x xs d ds Q Qz hs sx sxs ho hq => ?_⟩
  · have := mt_indexD (X := Z.X i) (Room.un65 (Z.room i))
    rw [Z.hK i] at this
    exact this
  · unfold oIndex at ho
    split at ho
    · rename_i zs y
      obtain ⟨c, j, z, h1, h2, h3, ho⟩ := ho
      rw [Bool.and_eq_true] at c
      obtain ⟨d1, z1⟩ := eqOk_dp hs c.1 sx
      obtain ⟨v, rfl, sv⟩ := shrL1 sxs
      obtain ⟨d2, z2⟩ := eqOk_dp hs c.2 sv
      simp only [Shr] at sx
      obtain ⟨p, vs, rfl, e1, e2⟩ := sx
      have at_ : ∀ m, (pyL zs)[m]? = (zs[m]?).map D.py := fun m => by rw [pyL_eq, List.getElem?_map]
      refine ⟨p, v, _, pyL zs, j, z.py, rfl, rfl, d1, d2, z1, z2, by rw [at_, h1]; rfl, h2, fun m z' hm hz => ?_, put0 hs hq (d := .int _) (by simp only [Shr]) ho⟩
      rw [at_] at hz
      cases e : zs[m]? with
      | none => rw [e] at hz; cases hz
      | some w =>
        rw [e] at hz
        cases hz
        exact h3 m w hm e
    · exact ho.elim
theorem ze_index {ob e : Expr} {apos cpos : Pos} {mo : ZM} {m : ZM} (ho : ZE Z ob mo) (ha : ZE Z e m)
    (h1 : ∀ env, attributeBase ob "index" env (eval ob env) = eval ob env := by intro _; rfl)
    (h2 : ∀ env, ((backTo cpos (starEach (e :: []) env)).all (fun x => !x.1) && (backToKw cpos (keywordEach [] env)).all (fun x => x.1.isSome) && decide ((e :: []).length + ([] : List Keyword).length + (if ([] : List Keyword).isEmpty then 0 else 1) < 30)) = true := by intro _; rfl)
    (h3 : (apos.endLine == cpos.line) = true := by rfl) (h4 : ∀ env, starEach (e :: []) env = (false, eval e env) :: starEach [] env := by intro _; rfl) (h5 : ∀ env, (backTo cpos (starEach [] env)).any (·.1) = false := by intro _; rfl) :
    ZE Z (.Call (.Attribute ob "index" apos) [e] [] cpos) (mMeth oIndex mo (mCons m mNil)) :=
  ze_meth PySem.F.plainAttrs_list PySem.F.slot_list_index PySem.F.type_list_index zm_index ho (za_cons ha za_nil h4) h1 h2 h3 h4 h5
/-! ### >= of texts -/
def oStrGe : DOp := fun x y Q => match x, y with
  | .str a, .str b => Q .sh (.bl (!decide (a.cps.toList < b.cps.toList)))
  | _, _ => False
theorem zo_strGe : ZOp Z (compareOp .GtE) oStrGe := by
  refine ⟨_, fun i => op_ge_str, fun A H x y dx dy Q Qz hs sx sy ho hq => ?_⟩
  unfold oStrGe at ho
  split at ho
  · simp only [Shr] at sx sy
    subst sx sy
    exact ⟨_, _, rfl, rfl, put0 hs hq (d := .bl _) (by simp only [Shr]) ho⟩
  · exact ho.elim
def oGeT : DOp := fun x y Q => match x, y with
  | .str a, .str b => Q .sh (.bl (!decide (a.cps.toList < b.cps.toList)))
  | .int i, .int j => Q .sh (.bl (decide (j ≤ i)))
  | _, _ => False
theorem zo_geT : ZOp Z (compareOp .GtE) oGeT := ZOp.imp (ZOp.or zo_ge zo_strGe) fun x y Q h => by
  unfold oGeT at h
  split at h
  · exact .inr h
  · exact .inl ⟨trivial, h⟩
  · exact h.elim
end
/-- a def that calls itself, by the depth of its data -/
theorem rec_ok {G : Glob} {x : Str} {params : Arguments} {body : List Stmt} {scope : Scope} {f : Addr} {fd : FuncData} {N ps : List Str} {k0 n : Nat} {w : ZSpec → ZMS} {qual : Str} (sps : Nat → ZSpec)
    (F : FunD G.K x qual params body scope [] [] f fd) (S : FnScope N ps scope) (hm : G.mg x = some (.ref f)) (hb : Binds G.K fd ps []) (hn : ps.length = n) (ar : ∀ d, (sps d).Ar n)
    (hw : ∀ (W : WX) (k : Nat) (Z : Zc G N scope (fun _ => true) W k), Zst Z → k0 ≤ k → ∀ sp, FnZ G k x n [] sp → ZSs Z body (w sp)) (h0 : ∀ ds Q E, ¬ sps 0 ds Q E) (hs : ∀ d ds Q E, sps (d + 1) ds Q E → w (sps d) (env0 N ds) (ends0 Q E)) :
    ∀ d, FnZ G (k0 + 1 + d) x n [] (sps d)
  | 0 => def_ok (w := wNever) F S hm hb .nil rfl hn (ar 0) (fun W Z T => zss_never) fun ds Q E h => (h0 ds Q E h).elim
  | d + 1 => def_ok F S hm hb .nil rfl hn (ar (d + 1)) (fun W Z T => hw W _ Z T (show k0 ≤ k0 + 1 + d by omega) (sps d) (rec_ok sps F S hm hb hn ar hw h0 hs d)) (hs d)
end ZL


namespace ZL.K30
open PySem PySem.Spec PyProof.Rows L2 ZL
/-! ### pools as data -/
abbrev il (ns : List Int) : List D := ns.map D.int
def rowT (r : List Int) : D := .tup (il r)
def rowL (r : List Int) : D := .lst (il r)
def prI (p : Int × Int) : D := .tup [.int p.1, .int p.2]
/-- a tuple or a list -/
def sq (t : Bool) (ds : List D) : D := if t = true then .tup ds else .lst ds
theorem sq_t (ds : List D) : sq true ds = .tup ds := rfl
theorem sq_f (ds : List D) : sq false ds = .lst ds := rfl
theorem cln_rowT (r : List Int) : clnS (rowT r) = true := by
  unfold rowT
  simp only [clnS]
  exact clnL_ints r
theorem cln_prI (p : Int × Int) : clnS (prI p) = true := rfl
def poolF : List String := ["caps", "holders", "seats", "pieces"]
def poolD (cs : List Int) (hs : List (List Int)) : List D := [.tup (il cs), .tup (hs.map rowT), .int (cs.length : Int), .int (hs.length : Int)]
def pool (cs : List Int) (hs : List (List Int)) : D := .obj "Pool" poolF (poolD cs hs)
def RowOk (n : Nat) (r : List Int) : Prop := r.Pairwise (· < ·) ∧ (∀ x ∈ r, 0 ≤ x ∧ x < (n : Int)) ∧ r.length ≤ 60
structure PoolOk (cs : List Int) (hs : List (List Int)) : Prop where
  pos : 0 < cs.length
  small : cs.length < 64
  caps : ∀ c ∈ cs, 0 ≤ c
  rows : ∀ r ∈ hs, RowOk cs.length r
  many : hs.length ≤ 1000
def capA (cs : List Int) (i : Int) : Int := cs.getD i.toNat 0
theorem cap_at {cs : List Int} {i : Int} (h0 : 0 ≤ i) (h : i < (cs.length : Int)) : atI (il cs) i = some (.int (capA cs i)) := by
  have hi : i.toNat < cs.length := by omega
  refine atI_nat h0 ?_
  unfold capA
  simp [hi]
theorem RowOk.nodup {n : Nat} {r : List Int} (h : RowOk n r) : r.Nodup := h.1.imp fun hlt => Int.ne_of_lt hlt
/-! ### lists -/
theorem mxm (v m : Int) (h : 0 < m) : 0 ≤ v % m ∧ v % m < m := ⟨Int.emod_nonneg _ (by omega), Int.emod_lt_of_pos _ h⟩
theorem at_il {rs : List Int} {i : Nat} {r : Int} (h : rs[i]? = some r) : atI (il rs) (i : Int) = some (.int r) := atI_of (by simp [il, h])
theorem flat_il (ns : List Int) : (il ns).all flatD = true := by
  rw [List.all_eq_true]
  intro d hd
  obtain ⟨i, _, rfl⟩ := List.mem_map.1 hd
  rfl
theorem eqOk_row (r : List Int) : eqOk (.lst (il r)) = true := (Dpt.lst (Dpt.ints 0 (fun x => x) r)).ok
theorem cutD_drop (xs : List D) (l : Nat) : cutD xs (some (l : Int)) none = xs.drop l := by
  unfold cutD HT.sIx
  have : ¬ ((l : Int) < 0) := by omega
  simp only [this, if_false]
  by_cases h : l ≤ xs.length
  · rw [List.take_of_length_le (by rw [List.length_drop]; omega)]
    congr 1
    omega
  · rw [List.drop_of_length_le (by omega), List.drop_of_length_le (by omega)]
    simp
theorem cutD_take (xs : List D) (l : Nat) : cutD xs none (some (l : Int)) = xs.take l := by
  unfold cutD HT.sIx
  simp only [Nat.sub_zero, List.drop_zero]
  have : ¬ ((l : Int) < 0) := by omega
  by_cases h : l ≤ xs.length
  · simp only [this, if_false]
    congr 1
    omega
  · simp only [this, if_false]
    rw [List.take_of_length_le (by omega), List.take_of_length_le (by omega)]
theorem cutD_ints (l : List Int) (a b : Option Int) : ∃ l' : List Int, cutD (il l) a b = il l' ∧ l'.Sublist l := by
  refine ⟨((l.drop (HT.sIx (il l).length 0 a)).take (HT.sIx (il l).length (il l).length b - HT.sIx (il l).length 0 a)), ?_, (List.take_sublist _ _).trans (List.drop_sublist _ _)⟩
  unfold cutD
  rw [il, ← List.map_drop, ← List.map_take]
theorem filt_row (c : Nat) (t : Nat → Bool) : (List.range c).filterMap (fun k => if t k = true then some (D.int (k : Int)) else none) = il (((List.range c).filter t).map fun (k : Nat) => (k : Int)) := by
  rw [← List.filterMap_eq_filter, List.map_filterMap, il, List.map_filterMap]
  congr 1
  funext k
  by_cases h : t k = true <;> simp [h, Option.guard]
theorem filt_il (l : List Int) (t : Int → Bool) : l.filterMap (fun q => if t q = true then some (D.int q) else none) = il (l.filter t) := by
  rw [il, ← List.filterMap_eq_filter, List.map_filterMap]
  congr 1
  funext k
  by_cases h : t k = true <;> simp [h, Option.guard]
theorem filt_any {α : Type} (f : α → D) (l : List α) (t : α → Bool) : l.filterMap (fun q => if t q = true then some (f q) else none) = (l.filter t).map f := by
  rw [← List.filterMap_eq_filter, List.map_filterMap]
  congr 1
  funext k
  by_cases h : t k = true <;> simp [h, Option.guard]
theorem at_map {α : Type} {xs : List α} {i : Nat} (f : α → D) (h : i < xs.length) : atI (xs.map f) (i : Int) = some (f xs[i]) := atI_of (by rw [List.getElem?_map, List.getElem?_eq_getElem h]; rfl)
theorem rowOk_filter {c : Nat} (t : Nat → Bool) (hc : c ≤ 60) : RowOk c (((List.range c).filter t).map fun (k : Nat) => (k : Int)) := by
  refine ⟨?_, fun x hx => ?_, ?_⟩
  · rw [List.pairwise_map]
    exact (List.pairwise_lt_range.sublist List.filter_sublist).imp fun h => by omega
  · obtain ⟨k, hk, rfl⟩ := List.mem_map.1 hx
    have := List.mem_range.1 (List.mem_filter.1 hk).1
    omega
  · rw [List.length_map]
    exact Nat.le_trans (List.length_filter_le _ _) (by rw [List.length_range]; exact hc)
theorem RowOk.sub {n : Nat} {r r' : List Int} (h : RowOk n r) (s : r'.Sublist r) : RowOk n r' := ⟨h.1.sublist s, fun x hx => h.2.1 x (s.subset hx), Nat.le_trans s.length_le h.2.2⟩
/-! texts as lists of signs -/
open TL
abbrev tx (l : List Nat) : Str := ⟨l.toArray⟩
theorem tx_app (a b : List Nat) : tx a ++ tx b = tx (a ++ b) := TL.ext_tl (by rw [TL.tl_append])
theorem tx_len (l : List Nat) : (tx l).length = l.length := by rw [TL.len_tl]
theorem tx_inj {a b : List Nat} (h : tx a = tx b) : a = b := by have := congrArg TL.tl h; exact this
def digs (i : Int) : List Nat := TL.numL i.toNat
theorem str_tx {i : Int} (h : 0 ≤ i) : Str.ofString (toString i) = tx (digs i) := by
  obtain ⟨n, rfl⟩ := Int.eq_ofNat_of_zero_le h
  exact TL.ext_tl (TL.tl_num n)
def Small (ns : List Int) : Prop := ∀ n ∈ ns, 0 ≤ n ∧ n < 10 ^ 60
theorem digs_len {i : Int} (h0 : 0 ≤ i) (h : i < 10 ^ 60) : (digs i).length ≤ 60 := TL.numL_len (by decide) (by omega)
theorem digs_free {i : Int} {s : Nat} (h : s < 48 ∨ 57 < s) : s ∉ digs i := TL.numL_free h
theorem sp_tx : Str.ofString " " = tx [32] := by decide
theorem nl_tx : Str.ofString "\n" = tx [10] := by decide
theorem em_tx : Str.ofString "" = tx [] := by decide
theorem flat_len {α : Type} (f : α → List Nat) (b : Nat) : ∀ xs : List α, (∀ x ∈ xs, (f x).length ≤ b) → (xs.flatMap f).length ≤ xs.length * b
  | [], _ => by simp
  | x :: xs, h => by
    have h1 := h x (List.mem_cons_self ..)
    have h2 := flat_len f b xs fun y hy => h y (List.mem_cons_of_mem _ hy)
    rw [List.flatMap_cons, List.length_append, List.length_cons, Nat.succ_mul]
    omega
theorem signs_tx (l : List Nat) : signsD (tx l) = l.map (fun c => D.str ⟨#[c]⟩) := by simp [signsD, tx]
theorem occ1 (z : Str) (c : Nat) : (Builtin.Str.occurrences z ⟨#[c]⟩ 0 z.length 1).isEmpty = !decide (c ∈ z.cps.toList) := by
  have := PySem.StrLaws.found_one z c
  rw [← this, Bool.not_not]
theorem in_digits {c : Nat} (h : 48 ≤ c ∧ c ≤ 57) : decide (c ∈ (Str.ofString "0123456789").cps.toList) = true := by
  have e : (Str.ofString "0123456789").cps.toList = [48, 49, 50, 51, 52, 53, 54, 55, 56, 57] := by decide
  rw [e, decide_eq_true_eq]
  simp only [List.mem_cons, List.not_mem_nil, or_false]
  omega
theorem digs_dig {i : Int} : ∀ c ∈ digs i, 48 ≤ c ∧ c ≤ 57 := TL.numL_digits _
theorem numL_head : ∀ n : Nat, 10 ≤ n → ∃ c r, TL.numL n = c :: r ∧ c ≠ 48 := by
  intro n
  induction n using Nat.strongRecOn with
  | _ n ih =>
    intro h
    rw [TL.numL_step h]
    by_cases h2 : n / 10 < 10
    · rw [TL.numL_lt h2]
      exact ⟨_, _, rfl, by omega⟩
    · obtain ⟨c, r, e, hc⟩ := ih (n / 10) (by omega) (by omega)
      rw [e]
      exact ⟨c, _, rfl, hc⟩
theorem int_tx {i : Int} (h0 : 0 ≤ i) (h : i < 10 ^ 60) : intText? (tx (digs i)) = some i := by
  obtain ⟨n, rfl⟩ := Int.eq_ofNat_of_zero_le h0
  have := digs_len h0 h
  rw [← str_tx h0]
  exact TL.int_num (by have e : digs (n : Int) = TL.numL n := rfl; rw [← e]; omega)
theorem log_ok {i : Int} (h0 : 0 ≤ i) (h : i < 10 ^ 60) : i.natAbs.log2 < 1920 := by
  by_cases hz : i.natAbs = 0
  · rw [hz]; decide
  · rw [Nat.log2_lt hz]
    have : (10 : Nat) ^ 60 < 2 ^ 1920 := Nat.lt_of_lt_of_le (m := 2 ^ 250) (by decide) (Nat.pow_le_pow_right (by decide) (by decide))
    omega
theorem joinL_em : ∀ ls : List (List Nat), TL.joinL [] ls = ls.flatten
  | [] => rfl
  | [p] => by simp [TL.joinL]
  | p :: q :: r => by
    show p ++ ([] ++ TL.joinL [] (q :: r)) = _
    rw [joinL_em (q :: r)]
    simp
theorem joinL_cons (s : Nat) : ∀ (p : List Nat) (ps : List (List Nat)), TL.joinL [s] (p :: ps) = p ++ (ps.map (s :: ·)).flatten
  | p, [] => by simp [TL.joinL]
  | p, q :: r => by
    show p ++ ([s] ++ TL.joinL [s] (q :: r)) = _
    rw [joinL_cons s q r]
    simp
theorem joinL_end (s : Nat) : ∀ ps : List (List Nat), TL.joinL [s] (ps ++ [[]]) = (ps.map (· ++ [s])).flatten
  | [] => rfl
  | [p] => by simp [TL.joinL]
  | p :: q :: r => by
    show p ++ ([s] ++ TL.joinL [s] ((q :: r) ++ [[]])) = _
    rw [joinL_end s (q :: r)]
    simp
theorem tl_txs (ls : List (List Nat)) : (ls.map tx).map TL.tl = ls := by
  rw [List.map_map]
  exact List.map_id _
theorem join_em (ls : List (List Nat)) : Txt.join (tx []) (ls.map tx) = tx ls.flatten := by
  refine TL.ext_tl ?_
  rw [TL.join_eq, TL.tl_join, tl_txs]
  exact joinL_em ls
theorem split_tx {s : Nat} (h : s < 256) {ls : List (List Nat)} (hne : ls ≠ []) (hp : ∀ p ∈ ls, s ∉ p) : Txt.split (tx (TL.joinL [s] ls)) (tx [s]) = ls.map tx := by
  have e : tx (TL.joinL [s] ls) = Txt.join (tx [s]) (ls.map tx) := by
    refine TL.ext_tl ?_
    rw [TL.join_eq, TL.tl_join, tl_txs]
  rw [e]
  refine TL.split_join (s := s) (S := []) rfl ?_ (by simpa using hne) fun p hp' => ?_
  · simp [tx, h]
  · obtain ⟨l, hl, rfl⟩ := List.mem_map.1 hp'
    exact hp l hl
theorem sum_len : ∀ ls : List (List Nat), ((ls.map tx).map (·.length)).sum = ls.flatten.length
  | [] => rfl
  | l :: ls => by
    simp only [List.map_cons, List.sum_cons, List.flatten_cons, List.length_append, tx_len]
    rw [sum_len ls]
/-- the join of texts without a separator -/
theorem join_ok (ls : List (List Nat)) (Q : Kd → D → Prop) (hl : ls.flatten.length ≤ 16777216) (q : Q .sh (.str (tx ls.flatten))) : oJoin (.str (Str.ofString "")) [.lst (ls.map fun l => D.str (tx l))] Q := by
  refine ⟨ls.map tx, by rw [List.map_map]; rfl, ?_, ?_⟩
  · rw [sum_len, em_tx]
    have : (tx []).length = 0 := rfl
    rw [this]
    omega
  · rw [em_tx, join_em]
    exact q
theorem take_snoc {α : Type} {xs : List α} {i : Nat} {x : α} (h : xs[i]? = some x) : xs.take (i + 1) = xs.take i ++ [x] := by rw [List.take_succ, h]; rfl
theorem atI_last {α : Type} (xs : List α) (x : α) : atI (xs ++ [x]) (-1) = some x := by
  unfold atI ixN
  rw [if_neg (by decide), if_pos (by rw [List.length_append, List.length_singleton]; omega)]
  simp only [List.length_append, List.length_singleton, Option.bind_some]
  rw [show ((-1 : Int) + ((xs.length + 1 : Nat) : Int)).toNat = xs.length by omega]
  simp
/-! texts cut at a sign -/
abbrev Tx := List Nat
def cutAt (c : Nat) : Tx → List Tx
  | [] => [[]]
  | x :: r => if x = c then [] :: cutAt c r else match cutAt c r with
    | [] => [[x]]
    | p :: ps => (x :: p) :: ps
theorem cutAt_ne (c : Nat) (l : Tx) : cutAt c l ≠ [] := by
  cases l with
  | nil => exact List.cons_ne_nil _ _
  | cons x r =>
    unfold cutAt
    split
    · exact List.cons_ne_nil _ _
    · split
      · exact List.cons_ne_nil _ _
      · exact List.cons_ne_nil _ _
theorem spl_cut (c : Nat) : ∀ (l acc : Tx), TL.spl [c] 0 acc l = match cutAt c l with
    | [] => [acc]
    | p :: ps => (acc ++ p) :: ps
  | [], acc => by simp [cutAt, TL.spl_nil]
  | x :: r, acc => by
    by_cases h : x = c
    · subst h
      rw [TL.spl_hit (by simp [TL.pre]), show ([x] : List Nat).length - 1 = 0 from rfl, spl_cut x r []]
      rw [show cutAt x (x :: r) = [] :: cutAt x r by rw [cutAt, if_pos rfl]]
      cases e : cutAt x r with
      | nil => exact absurd e (cutAt_ne x r)
      | cons p ps => simp
    · rw [TL.spl_miss (by simpa [TL.pre] using h), spl_cut c r (acc ++ [x])]
      conv => rhs; unfold cutAt
      rw [if_neg h]
      cases e : cutAt c r with
      | nil => exact absurd e (cutAt_ne c r)
      | cons p ps => simp
theorem split_cut {c : Nat} (h : c < 256) (l : Tx) : Txt.split (tx l) (tx [c]) = (cutAt c l).map tx := by
  refine TL.map_tl_inj ?_
  rw [TL.split_spl (tx l) (tx [c]) (List.cons_ne_nil _ _) (TL.kind_ok (by simp [tx, h])), tl_txs]
  show TL.spl [c] 0 [] l = cutAt c l
  rw [spl_cut]
  cases e : cutAt c l with
  | nil => exact absurd e (cutAt_ne c l)
  | cons p ps => simp
theorem map_tx_inj {a b : List Tx} (h : a.map tx = b.map tx) : a = b := by
  have := congrArg (List.map TL.tl) h
  rwa [tl_txs, tl_txs] at this
theorem cut_join {c : Nat} (h : c < 256) {ps : List Tx} (hne : ps ≠ []) (hp : ∀ p ∈ ps, c ∉ p) : cutAt c (TL.joinL [c] ps) = ps :=
  map_tx_inj ((split_cut h _).symm.trans (split_tx h hne hp))
theorem mem_cut {c : Nat} : ∀ {l p : Tx}, p ∈ cutAt c l → (∀ x ∈ p, x ∈ l) ∧ p.length ≤ l.length
  | [], p, h => by
    have : p = [] := by simpa [cutAt] using h
    subst this
    exact ⟨fun x hx => (List.not_mem_nil hx).elim, Nat.le_refl _⟩
  | y :: r, p, h => by
    unfold cutAt at h
    split at h
    · rcases List.mem_cons.1 h with rfl | h
      · exact ⟨fun x hx => (List.not_mem_nil hx).elim, Nat.zero_le _⟩
      · have := mem_cut h
        exact ⟨fun x hx => List.mem_cons_of_mem _ (this.1 x hx), Nat.le_succ_of_le this.2⟩
    · split at h
      · have : p = [y] := by simpa using h
        subst this
        exact ⟨fun x hx => by rw [List.mem_singleton.1 hx]; exact List.mem_cons_self .., by simp⟩
      · rename_i q qs e
        rcases List.mem_cons.1 h with rfl | h
        · have := mem_cut (c := c) (l := r) (p := q) (by rw [e]; exact List.mem_cons_self ..)
          exact ⟨fun x hx => by
            rcases List.mem_cons.1 hx with rfl | hx
            · exact List.mem_cons_self ..
            · exact List.mem_cons_of_mem _ (this.1 x hx), by simp only [List.length_cons]; omega⟩
        · have := mem_cut (c := c) (l := r) (p := p) (by rw [e]; exact List.mem_cons_of_mem _ h)
          exact ⟨fun x hx => List.mem_cons_of_mem _ (this.1 x hx), Nat.le_succ_of_le this.2⟩
theorem len_cut (c : Nat) : ∀ l : Tx, (cutAt c l).length ≤ l.length + 1
  | [] => Nat.le_refl _
  | y :: r => by
    have ih := len_cut c r
    unfold cutAt
    split
    · simp only [List.length_cons]; omega
    · split
      · simp
      · rename_i q qs e
        rw [e] at ih
        simp only [List.length_cons] at ih ⊢
        omega
structure OkT (l : Tx) : Prop where
  len : l.length ≤ 600
  sg : ∀ c ∈ l, c < 1000
theorem OkT.cut {l p : Tx} {c : Nat} (h : OkT l) (hp : p ∈ cutAt c l) : OkT p := ⟨Nat.le_trans (mem_cut hp).2 h.len, fun x hx => h.sg x ((mem_cut hp).1 x hx)⟩
/-! ### what the readers say -/
def val (l : Tx) : Nat := NumText.digitsVal l
def isD (c : Nat) : Bool := decide (48 ≤ c ∧ c ≤ 57)
def numO (l : Tx) : Option Nat := if l = [] then none else if l.all isD = false then none else if 1 < l.length ∧ l.headD 0 = 48 then none else some (val l)
def nmC (c : Nat) : Bool := decide ((97 ≤ c ∧ c ≤ 122) ∨ (48 ≤ c ∧ c ≤ 57))
def nameB (l : Tx) : Bool := decide (1 ≤ l.length ∧ l.length ≤ 12) && l.all nmC
def allO {α : Type} : List (Option α) → Option (List α)
  | [] => some []
  | none :: _ => none
  | some x :: r => (allO r).map (x :: ·)
def listO (l : Tx) : Option (List Nat) := if l = [] then some [] else allO ((cutAt 44 l).map numO)
def rise {α : Type} (lt : α → α → Bool) (d : α) (xs : List α) : Bool := decide (∀ i, i < xs.length - 1 → lt (xs.getD i d) (xs.getD (i + 1) d) = true)
def riseN (xs : List Nat) : Bool := rise (fun a b => decide (a < b)) 0 xs
def riseT (xs : List Tx) : Bool := rise (fun a b => decide (a < b)) [] xs
def namedO (w : Tx) : Option (Tx × List Nat) := match cutAt 61 w with
  | [p, q] => if nameB p = false then none else match listO q with
    | none => none
    | some ns => if 0 ∈ ns then none else if riseN ns = false then none else some (p, ns)
  | _ => none
abbrev Ent := Nat × Nat × Nat
def pairO (n : Nat) : Option (List Nat) → Option Ent
  | some [a, b] => if b ≤ a then none else some (n, a, b)
  | _ => none
theorem pairO_none (n : Nat) {ns : List Nat} (h : ns.length ≠ 2) : pairO n (some ns) = none := by
  unfold pairO
  split
  · rename_i e
    cases e
    exact (h rfl).elim
  · rfl
def wardenO (w : Tx) : Option Ent := match cutAt 58 w with
  | [p, q] => match numO p with
    | none => none
    | some n => if n < 1 then none else pairO n (listO q)
  | _ => none
def wardensO (ws : List Tx) : Option (List Ent) := match allO (ws.map wardenO) with
  | none => none
  | some es => if riseN (es.map (·.1)) = false then none else some es
inductive Head where
  | deal | put (n : Tx) (ns : List Nat) | cap (s c : Nat) | pic (cs : List Nat) (ns : List (Tx × List Nat))
def dealW : Tx := [100, 101, 97, 108]
def putW : Tx := [112, 117, 116]
def capW : Tx := [99, 97, 112]
def picW : Tx := [112, 105, 99, 116, 117, 114, 101]
def eraW : Tx := [101, 114, 97, 115, 101]
def pictureO (ws : List Tx) : Option Head := match listO (ws.getD 0 []) with
  | none => none
  | some cs => if cs = [] then none else match allO ((ws.drop 1).map namedO) with
    | none => none
    | some ns => if riseT (ns.map (·.1)) = false then none else some (.pic cs ns)
def capO (ws : List Tx) : Option Head := match numO (ws.getD 0 []) with
  | none => none
  | some s => match numO (ws.getD 1 []) with
    | none => none
    | some c => some (.cap s c)
def headO (ws : List Tx) : Option Head := if ws = [dealW] then some .deal
  else if ws.length = 2 ∧ ws.getD 0 [] = putW then (namedO (ws.getD 1 [])).map fun p => .put p.1 p.2
  else if ws.length = 3 ∧ ws.getD 0 [] = capW then capO (ws.drop 1)
  else if 2 ≤ ws.length ∧ ws.getD 0 [] = picW then pictureO (ws.drop 1) else none
inductive Rec where
  | era (n : Tx) | hd (h : Head) (ws : List Ent)
def recW (ws : List Tx) : Option Rec := if ws.getD 0 [] = eraW then (if ws.length = 2 ∧ nameB (ws.getD 1 []) = true then some (.era (ws.getD 1 [])) else none)
  else if [47] ∈ ws then (match headO (ws.take (ws.idxOf [47])) with
    | none => none
    | some h => match wardensO (ws.drop (ws.idxOf [47] + 1)) with
      | none => none
      | some es => some (.hd h es)) else none
def recO (l : Tx) : Option Rec := if l.drop (l.length - 1) = [59] then recW (cutAt 32 l.dropLast) else none
def isPic : Rec → Bool
  | .hd (.pic _ _) _ => true
  | _ => false
/-- the records that count, and the end of the log -/
def stepC (st : List Rec × Nat) (i : Nat) (o : Option Rec) : List Rec × Nat := match o with
  | none => st
  | some r => if isPic r = true then ([r], i + 1) else if 0 < st.1.length ∧ st.2 = i then (st.1 ++ [r], i + 1) else st
def cnt : List (Option Rec) → Nat → List Rec × Nat → List Rec × Nat
  | [], _, st => st
  | o :: r, i, st => cnt r (i + 1) (stepC st i o)
theorem cnt_snoc : ∀ (xs : List (Option Rec)) (i : Nat) (st : List Rec × Nat) (o : Option Rec), cnt (xs ++ [o]) i st = stepC (cnt xs i st) (i + xs.length) o
  | [], i, st, o => rfl
  | x :: xs, i, st, o => by
    rw [List.cons_append, cnt, cnt_snoc xs, cnt, List.length_cons]
    congr 1
    omega
/-! ### what the writers write -/
def joinN (ns : List Nat) : Tx := TL.joinL [44] (ns.map TL.numL)
def namW (p : Tx × List Nat) : Tx := p.1 ++ 61 :: joinN p.2
def entW (e : Ent) : Tx := TL.numL e.1 ++ 58 :: (TL.numL e.2.1 ++ 44 :: TL.numL e.2.2)
def headW : Head → List Tx
  | .deal => [dealW]
  | .put n ns => [putW, namW (n, ns)]
  | .cap s c => [capW, TL.numL s, TL.numL c]
  | .pic cs ns => picW :: joinN cs :: ns.map namW
def recP : Rec → Tx
  | .era n => eraW ++ 32 :: (n ++ [59])
  | .hd h es => TL.joinL [32] (headW h ++ [47] :: es.map entW) ++ [59]
def NumsOk (ns : List Nat) : Prop := riseN ns = true ∧ 0 ∉ ns
def HeadOk : Head → Prop
  | .deal => True
  | .put n ns => nameB n = true ∧ NumsOk ns
  | .cap _ _ => True
  | .pic cs ns => cs ≠ [] ∧ (∀ p ∈ ns, nameB p.1 = true ∧ NumsOk p.2) ∧ riseT (ns.map (·.1)) = true
def RecOk : Rec → Prop
  | .era n => nameB n = true
  | .hd h es => HeadOk h ∧ (∀ e ∈ es, 1 ≤ e.1 ∧ e.2.1 < e.2.2) ∧ riseN (es.map (·.1)) = true
theorem numL_dig (n : Nat) : ∀ c ∈ TL.numL n, 48 ≤ c ∧ c ≤ 57 := TL.numL_digits n
theorem numO_num (n : Nat) : numO (TL.numL n) = some n := by
  unfold numO
  rw [if_neg (TL.numL_ne n), if_neg, if_neg]
  · exact congrArg some (TL.numL_val n)
  · rintro ⟨h1, h2⟩
    by_cases h10 : 10 ≤ n
    · obtain ⟨c, r, e, hc⟩ := numL_head n h10
      rw [e] at h2
      exact hc h2
    · rw [TL.numL_lt (by omega)] at h1
      simp at h1
  · have : (TL.numL n).all isD = true := by
      rw [List.all_eq_true]
      intro c hc
      have := numL_dig n c hc
      simp [isD, this]
    rw [this]
    decide
theorem allO_some {α β : Type} (f : α → Option β) (g : α → β) : ∀ xs : List α, (∀ x ∈ xs, f x = some (g x)) → allO (xs.map f) = some (xs.map g)
  | [], _ => rfl
  | x :: xs, h => by
    rw [List.map_cons, h x (List.mem_cons_self ..), allO, allO_some f g xs fun y hy => h y (List.mem_cons_of_mem _ hy)]
    rfl
theorem allO_self {α β : Type} (f : α → Option β) (g : β → α) (xs : List β) (h : ∀ x ∈ xs, f (g x) = some x) : allO ((xs.map g).map f) = some xs := by
  rw [List.map_map, allO_some (f ∘ g) id xs h, List.map_id]
theorem joinL_ne {c : Nat} {p : Tx} (hp : p ≠ []) (ps : List Tx) : TL.joinL [c] (p :: ps) ≠ [] := by
  rw [joinL_cons]
  intro h
  exact hp (List.append_eq_nil_iff.1 h).1
theorem listO_join (ns : List Nat) : listO (joinN ns) = some ns := by
  unfold listO
  cases ns with
  | nil => rfl
  | cons n r =>
    have h1 : joinN (n :: r) ≠ [] := joinL_ne (TL.numL_ne n) _
    rw [if_neg h1]
    have h2 : cutAt 44 (joinN (n :: r)) = (n :: r).map TL.numL := cut_join (by decide) (by simp) fun p hp => by
      obtain ⟨m, _, rfl⟩ := List.mem_map.1 hp
      exact TL.numL_free (.inl (by decide))
    rw [h2]
    exact allO_self numO TL.numL _ fun n _ => numO_num n
theorem cut_two {c : Nat} (h : c < 256) {p q : Tx} (hp : c ∉ p) (hq : c ∉ q) : cutAt c (p ++ c :: q) = [p, q] := by
  have := cut_join (c := c) h (ps := [p, q]) (by simp) (fun z hz => by
    rcases List.mem_cons.1 hz with rfl | hz
    · exact hp
    · rw [List.mem_singleton.1 hz]; exact hq)
  have e : TL.joinL [c] [p, q] = p ++ c :: q := by simp [TL.joinL]
  rwa [e] at this
theorem joinN_mem {ns : List Nat} {c : Nat} (h : c ∈ joinN ns) : (48 ≤ c ∧ c ≤ 57) ∨ c = 44 := by
  cases ns with
  | nil => cases h
  | cons n r =>
    unfold joinN at h
    rw [List.map_cons, joinL_cons] at h
    rcases List.mem_append.1 h with h | h
    · exact .inl (numL_dig n c h)
    · obtain ⟨l, hl, hc⟩ := List.mem_flatten.1 h
      obtain ⟨p, hp, rfl⟩ := List.mem_map.1 hl
      obtain ⟨m, _, rfl⟩ := List.mem_map.1 hp
      rcases List.mem_cons.1 hc with hc | hc
      · exact .inr hc
      · exact .inl (numL_dig m c hc)
theorem name_mem {n : Tx} (h : nameB n = true) {c : Nat} (hc : c ∈ n) : (97 ≤ c ∧ c ≤ 122) ∨ (48 ≤ c ∧ c ≤ 57) := by
  unfold nameB at h
  rw [Bool.and_eq_true, List.all_eq_true] at h
  have := h.2 c hc
  unfold nmC at this
  exact of_decide_eq_true this
theorem namedO_nam {p : Tx × List Nat} (hn : nameB p.1 = true) (h : NumsOk p.2) : namedO (namW p) = some p := by
  unfold namedO namW
  rw [cut_two (by decide) (fun z => by have := name_mem hn z; omega) (fun z => by have := joinN_mem z; omega)]
  simp only [hn, listO_join]
  rw [if_neg (by decide), if_neg h.2, if_neg (by rw [h.1]; decide)]
theorem wardenO_ent {e : Ent} (h : 1 ≤ e.1 ∧ e.2.1 < e.2.2) : wardenO (entW e) = some e := by
  unfold wardenO entW
  rw [cut_two (by decide) (TL.numL_free (.inr (by decide))) (fun z => by
    rcases List.mem_append.1 z with z | z
    · have := numL_dig _ _ z; omega
    · rcases List.mem_cons.1 z with z | z
      · cases z
      · have := numL_dig _ _ z; omega)]
  have e2 : TL.numL e.2.1 ++ 44 :: TL.numL e.2.2 = joinN [e.2.1, e.2.2] := by simp [joinN, TL.joinL]
  simp only [numO_num]
  rw [if_neg (by omega), e2, listO_join]
  unfold pairO
  simp only
  rw [if_neg (by omega)]
theorem namedO_name {w : Tx} {q : Tx × List Nat} (h : namedO w = some q) : q.1 ∈ cutAt 61 w := by
  unfold namedO at h
  split at h
  · rename_i p r e
    split at h
    · cases h
    · split at h
      · cases h
      · split at h
        · cases h
        · split at h
          · cases h
          · cases h
            rw [e]
            exact List.mem_cons_self ..
  · cases h
theorem headO_head {h : Head} (ok : HeadOk h) : headO (headW h) = some h := by
  unfold headO
  cases h with
  | deal => rfl
  | put n ns =>
    have e : namedO (namW (n, ns)) = some (n, ns) := namedO_nam ok.1 ok.2
    simp [headW, e, dealW, putW]
  | cap s c => simp [headW, capO, numO_num, dealW, putW, capW]
  | pic cs ns =>
    have e : allO ((ns.map namW).map namedO) = some ns := allO_self namedO namW ns fun p hp => namedO_nam (ok.2.1 p hp).1 (ok.2.1 p hp).2
    have e2 : pictureO (joinN cs :: ns.map namW) = some (.pic cs ns) := by
      unfold pictureO
      simp only [List.getD_cons_zero, listO_join, List.drop_succ_cons, List.drop_zero, e]
      rw [if_neg ok.1, if_neg (by rw [ok.2.2]; decide)]
    have hp1 : picW ≠ putW := by decide
    have hp2 : picW ≠ capW := by decide
    rw [show headW (.pic cs ns) = picW :: joinN cs :: ns.map namW from rfl, if_neg (by simp), if_neg (fun z => hp1 z.2), if_neg (fun z => hp2 z.2), if_pos (show 2 ≤ (picW :: joinN cs :: ns.map namW).length ∧ (picW :: joinN cs :: ns.map namW).getD 0 [] = picW from ⟨by simp only [List.length_cons]; omega, rfl⟩)]
    exact e2
theorem headW_free {h : Head} (ok : HeadOk h) : [47] ∉ headW h ∧ ∀ w ∈ headW h, 32 ∉ w := by
  have nw : ∀ p : Tx × List Nat, nameB p.1 = true → namW p ≠ [47] ∧ 32 ∉ namW p := fun p hp => by
    constructor
    · intro z
      have : (61 : Nat) ∈ namW p := List.mem_append_right _ (List.mem_cons_self ..)
      rw [z] at this
      simp at this
    · intro z
      rcases List.mem_append.1 z with z | z
      · have := name_mem hp z; omega
      · rcases List.mem_cons.1 z with z | z
        · cases z
        · have := joinN_mem z; omega
  have nn : ∀ n : Nat, TL.numL n ≠ [47] ∧ 32 ∉ TL.numL n := fun n => ⟨fun z => by
    have := numL_dig n 47 (by rw [z]; simp)
    omega, TL.numL_free (.inl (by decide))⟩
  have nj : ∀ ns : List Nat, joinN ns ≠ [47] ∧ 32 ∉ joinN ns := fun ns => ⟨fun z => by
    have := joinN_mem (ns := ns) (c := 47) (by rw [z]; simp)
    omega, fun z => by have := joinN_mem z; omega⟩
  have key : ∀ w ∈ headW h, w ≠ [47] ∧ 32 ∉ w := by
    intro w hw
    cases h with
    | deal => rw [List.mem_singleton.1 hw]; exact ⟨by decide, by decide⟩
    | put n ns =>
      rcases List.mem_cons.1 hw with rfl | hw
      · exact ⟨by decide, by decide⟩
      · rw [List.mem_singleton.1 hw]; exact nw (n, ns) ok.1
    | cap s c =>
      rcases List.mem_cons.1 hw with rfl | hw
      · exact ⟨by decide, by decide⟩
      rcases List.mem_cons.1 hw with rfl | hw
      · exact nn s
      · rw [List.mem_singleton.1 hw]; exact nn c
    | pic cs ns =>
      rcases List.mem_cons.1 hw with rfl | hw
      · exact ⟨by decide, by decide⟩
      rcases List.mem_cons.1 hw with rfl | hw
      · exact nj cs
      · obtain ⟨p, hp, rfl⟩ := List.mem_map.1 hw
        exact nw p (ok.2.1 p hp).1
  exact ⟨fun z => (key _ z).1 rfl, fun w hw => (key w hw).2⟩
theorem entW_free (e : Ent) : 32 ∉ entW e := fun z => by
  rcases List.mem_append.1 z with z | z
  · have := numL_dig _ _ z; omega
  · rcases List.mem_cons.1 z with z | z
    · cases z
    · rcases List.mem_append.1 z with z | z
      · have := numL_dig _ _ z; omega
      · rcases List.mem_cons.1 z with z | z
        · cases z
        · have := numL_dig _ _ z; omega
theorem last_snoc (l : Tx) (c : Nat) : (l ++ [c]).drop ((l ++ [c]).length - 1) = [c] := by
  rw [List.length_append, List.length_singleton, Nat.add_sub_cancel, List.drop_left]
/-- what is written is read back -/
theorem rec_back {r : Rec} (ok : RecOk r) : recO (recP r) = some r := by
  unfold recO
  cases r with
  | era n =>
    have hn : nameB n = true := ok
    have e : recP (.era n) = (eraW ++ 32 :: n) ++ [59] := by simp [recP]
    rw [e, if_pos (last_snoc _ _), List.dropLast_concat, cut_two (by decide) (by decide) (fun z => by have := name_mem hn z; omega)]
    unfold recW
    simp [hn]
  | hd h es =>
    obtain ⟨o1, o2, o3⟩ := ok
    have hf := headW_free o1
    rw [recP, if_pos (last_snoc _ _), List.dropLast_concat, cut_join (by decide) (by simp) (fun p hp => by
      rcases List.mem_append.1 hp with hp | hp
      · exact hf.2 p hp
      rcases List.mem_cons.1 hp with rfl | hp
      · decide
      · obtain ⟨e, _, rfl⟩ := List.mem_map.1 hp
        exact entW_free e)]
    have hne : (headW h ++ [47] :: es.map entW).getD 0 [] ≠ eraW := by
      cases h with
      | deal => exact (show dealW ≠ eraW by decide)
      | put n ns => exact (show putW ≠ eraW by decide)
      | cap s c => exact (show capW ≠ eraW by decide)
      | pic cs ns => exact (show picW ≠ eraW by decide)
    have hi : (headW h ++ [47] :: es.map entW).idxOf [47] = (headW h).length := by
      rw [List.idxOf_append, if_neg hf.1]
      simp
    unfold recW
    rw [if_neg hne, if_pos (by simp), hi, List.take_left, headO_head o1]
    have hd : (headW h ++ [47] :: es.map entW).drop ((headW h).length + 1) = es.map entW := by
      rw [← List.drop_drop, List.drop_left]
      rfl
    have hw : wardensO (es.map entW) = some es := by
      unfold wardensO
      rw [allO_self wardenO entW es fun e he => wardenO_ent (o2 e he)]
      simp only
      rw [if_neg (by rw [o3]; decide)]
    rw [hd]
    simp only [hw]
theorem rec_no {l : Tx} (h : l.drop (l.length - 1) ≠ [59]) : recO l = none := if_neg h

end ZL.K30


namespace ZL.K30
open PySem PySem.Spec PyProof.Rows L2 ZL
/-! ### data -/
def strT (l : Tx) : D := .str (tx l)
def natL (ns : List Nat) : List D := ns.map fun (n : Nat) => D.int (n : Int)
def numD : Option Nat → D
  | none => .non
  | some n => .int (n : Int)
def nlD (ns : List Nat) : D := .tup (natL ns)
def listD : Option (List Nat) → D
  | none => .non
  | some ns => nlD ns
def namD (p : Tx × List Nat) : D := .tup [strT p.1, nlD p.2]
def namOD : Option (Tx × List Nat) → D
  | none => .non
  | some p => namD p
def entD (e : Ent) : D := .tup [.int (e.1 : Int), .int (e.2.1 : Int), .int (e.2.2 : Int)]
def entOD : Option Ent → D
  | none => .non
  | some e => entD e
def entsOD : Option (List Ent) → D
  | none => .non
  | some es => .tup (es.map entD)
def headL : Head → List D
  | .deal => [strT dealW]
  | .put n ns => [strT putW, strT n, nlD ns]
  | .cap s c => [strT capW, .int (s : Int), .int (c : Int)]
  | .pic cs ns => [strT picW, nlD cs, .tup (ns.map namD)]
def headD : Option Head → D
  | none => .non
  | some h => .tup (headL h)
def recD : Rec → D
  | .era n => .tup [strT eraW, strT n]
  | .hd h es => .tup (headL h ++ [.tup (es.map entD)])
def recOD : Option Rec → D
  | none => .non
  | some r => recD r
theorem all_str (xs : List Tx) : ((xs.map strT).all fun x => clnS x) = true := all_map (fun _ => rfl) xs
theorem cln_nl (ns : List Nat) : clnS (nlD ns) = true := clnL_of (all_map (fun _ => rfl) ns)
theorem cln_num (o : Option Nat) : clnS (numD o) = true := by cases o <;> rfl
theorem cln_list (o : Option (List Nat)) : clnS (listD o) = true := by
  cases o with
  | none => rfl
  | some ns => exact cln_nl ns
theorem cln_nam (p : Tx × List Nat) : clnS (namD p) = true := by
  unfold namD strT
  simp only [wSeq, wSet, wRet, wRetN, wIf, wDrop, wFor, wNext, wBreak, wCont, wAppend, wSetIx, wAug, wFrz, wAsg, gN, gT, gNil', gCons', mL, mS, mLT, mMv, mIV, mRng, mRngV, mItems, mOp, mB, mC, mVar, mCons, mNil, mTup, mLst, mCB, mCall, mAnd, mOr, mNot, mAndV, mOrV, mNotV, mIf, mNeg, mSl, mNo, mPart, mPk, mChain2, mChain3, mFld, mComp, mComp2, cN, cT, cNil, cCons, mEnum, mYes, mRev, mLenSet, mLenSetG, mLenSetH, wAugIx, mMeth, mMethS, mFst, mJR, mMv2, wUnp, mTru, truD, mMake, wFld, wNever, setN, setF, fldD, String.reduceEq, List.mem_cons, List.mem_singleton, true_or, or_true, or_false, false_or, List.not_mem_nil, oCount, oSplit, oZfill, oLjust, oMulS, cMod, cDiv, cMul, oAdd, oSub, oMul, oDiv, oMod, oPow, oB, oI, oEq, oEqT, oGeT, oIndex, oIs, oIn, oIx, oMulI, oAddI, oSl, oRng1, oRng2, okL, okT, okS, fLen, fAbs, fInt, fStr, fMin, fMax, fSum, fSorted, fSortedW, fMinW, fList, fTuple, fIsi, fIsiC, tyOf, Ty.isi, ty_int, ty_bool, ty_str, ty_list, ty_tuple, ty_dict, isNon, eqOk_int, eqOk_non, eqOk_bl, eqD_int, eqD_bl, eqD_str, eqD_non, beq_self_eq_true, beq_iff_eq, Bool.and_self, atI_0, atI_1, atI_2, atI_3, atI_4, atI_5, atI_6, vw, vs, lendS, ownS, wipeE, ZL.frz, lendS, hasOb, env0, List.replicate_zero, List.replicate_succ, List.cons_append, Nat.reduceSub, List.map_cons, List.map_nil, List.getElem?_cons_zero, List.getElem?_cons_succ, List.getElem?_nil, List.set_cons_zero, List.set_cons_succ, List.length_cons, List.length_nil, List.length_set, Nat.reduceAdd, Nat.reduceLT, Nat.lt_add_one, Nat.zero_lt_succ, List.append_nil, List.nil_append, cln, clnS, clnL, clnX, List.all_cons, List.all_nil, Bool.and_true, Bool.true_and, and_true, true_and, if_true, if_false, Bool.false_eq_true, decide_eq_true_eq, Bool.true_or, Bool.or_true, Bool.false_or, Bool.or_false, decide_true, decide_false, Bool.and_false, Bool.false_and, reduceCtorEq, Int.reduceBEq, nc_0, nc_1, nc_2, nc_3, nc_4, nc_5, nc_6, Bool.not_true, Bool.not_false, reduceIte, cln_nl]
theorem cln_namO (o : Option (Tx × List Nat)) : clnS (namOD o) = true := by
  cases o with
  | none => rfl
  | some p => exact cln_nam p
theorem cln_ent (e : Ent) : clnS (entD e) = true := rfl
theorem cln_entO (o : Option Ent) : clnS (entOD o) = true := by cases o <;> rfl
theorem cln_tup {ds : List D} (h : (ds.all fun x => clnS x) = true) : clnS (.tup ds) = true := clnL_of h
theorem cln_ents (o : Option (List Ent)) : clnS (entsOD o) = true := by
  cases o with
  | none => rfl
  | some es => exact cln_tup (all_map cln_ent es)
theorem cln_headL (h : Head) : ((headL h).all fun x => clnS x) = true := by
  cases h with
  | deal => rfl
  | put n ns => simp only [headL, strT, wSeq, wSet, wRet, wRetN, wIf, wDrop, wFor, wNext, wBreak, wCont, wAppend, wSetIx, wAug, wFrz, wAsg, gN, gT, gNil', gCons', mL, mS, mLT, mMv, mIV, mRng, mRngV, mItems, mOp, mB, mC, mVar, mCons, mNil, mTup, mLst, mCB, mCall, mAnd, mOr, mNot, mAndV, mOrV, mNotV, mIf, mNeg, mSl, mNo, mPart, mPk, mChain2, mChain3, mFld, mComp, mComp2, cN, cT, cNil, cCons, mEnum, mYes, mRev, mLenSet, mLenSetG, mLenSetH, wAugIx, mMeth, mMethS, mFst, mJR, mMv2, wUnp, mTru, truD, mMake, wFld, wNever, setN, setF, fldD, String.reduceEq, List.mem_cons, List.mem_singleton, true_or, or_true, or_false, false_or, List.not_mem_nil, oCount, oSplit, oZfill, oLjust, oMulS, cMod, cDiv, cMul, oAdd, oSub, oMul, oDiv, oMod, oPow, oB, oI, oEq, oEqT, oGeT, oIndex, oIs, oIn, oIx, oMulI, oAddI, oSl, oRng1, oRng2, okL, okT, okS, fLen, fAbs, fInt, fStr, fMin, fMax, fSum, fSorted, fSortedW, fMinW, fList, fTuple, fIsi, fIsiC, tyOf, Ty.isi, ty_int, ty_bool, ty_str, ty_list, ty_tuple, ty_dict, isNon, eqOk_int, eqOk_non, eqOk_bl, eqD_int, eqD_bl, eqD_str, eqD_non, beq_self_eq_true, beq_iff_eq, Bool.and_self, atI_0, atI_1, atI_2, atI_3, atI_4, atI_5, atI_6, vw, vs, lendS, ownS, wipeE, ZL.frz, lendS, hasOb, env0, List.replicate_zero, List.replicate_succ, List.cons_append, Nat.reduceSub, List.map_cons, List.map_nil, List.getElem?_cons_zero, List.getElem?_cons_succ, List.getElem?_nil, List.set_cons_zero, List.set_cons_succ, List.length_cons, List.length_nil, List.length_set, Nat.reduceAdd, Nat.reduceLT, Nat.lt_add_one, Nat.zero_lt_succ, List.append_nil, List.nil_append, cln, clnS, clnL, clnX, List.all_cons, List.all_nil, Bool.and_true, Bool.true_and, and_true, true_and, if_true, if_false, Bool.false_eq_true, decide_eq_true_eq, Bool.true_or, Bool.or_true, Bool.false_or, Bool.or_false, decide_true, decide_false, Bool.and_false, Bool.false_and, reduceCtorEq, Int.reduceBEq, nc_0, nc_1, nc_2, nc_3, nc_4, nc_5, nc_6, Bool.not_true, Bool.not_false, reduceIte, cln_nl]
  | cap s c => rfl
  | pic cs ns => simp only [headL, strT, wSeq, wSet, wRet, wRetN, wIf, wDrop, wFor, wNext, wBreak, wCont, wAppend, wSetIx, wAug, wFrz, wAsg, gN, gT, gNil', gCons', mL, mS, mLT, mMv, mIV, mRng, mRngV, mItems, mOp, mB, mC, mVar, mCons, mNil, mTup, mLst, mCB, mCall, mAnd, mOr, mNot, mAndV, mOrV, mNotV, mIf, mNeg, mSl, mNo, mPart, mPk, mChain2, mChain3, mFld, mComp, mComp2, cN, cT, cNil, cCons, mEnum, mYes, mRev, mLenSet, mLenSetG, mLenSetH, wAugIx, mMeth, mMethS, mFst, mJR, mMv2, wUnp, mTru, truD, mMake, wFld, wNever, setN, setF, fldD, String.reduceEq, List.mem_cons, List.mem_singleton, true_or, or_true, or_false, false_or, List.not_mem_nil, oCount, oSplit, oZfill, oLjust, oMulS, cMod, cDiv, cMul, oAdd, oSub, oMul, oDiv, oMod, oPow, oB, oI, oEq, oEqT, oGeT, oIndex, oIs, oIn, oIx, oMulI, oAddI, oSl, oRng1, oRng2, okL, okT, okS, fLen, fAbs, fInt, fStr, fMin, fMax, fSum, fSorted, fSortedW, fMinW, fList, fTuple, fIsi, fIsiC, tyOf, Ty.isi, ty_int, ty_bool, ty_str, ty_list, ty_tuple, ty_dict, isNon, eqOk_int, eqOk_non, eqOk_bl, eqD_int, eqD_bl, eqD_str, eqD_non, beq_self_eq_true, beq_iff_eq, Bool.and_self, atI_0, atI_1, atI_2, atI_3, atI_4, atI_5, atI_6, vw, vs, lendS, ownS, wipeE, ZL.frz, lendS, hasOb, env0, List.replicate_zero, List.replicate_succ, List.cons_append, Nat.reduceSub, List.map_cons, List.map_nil, List.getElem?_cons_zero, List.getElem?_cons_succ, List.getElem?_nil, List.set_cons_zero, List.set_cons_succ, List.length_cons, List.length_nil, List.length_set, Nat.reduceAdd, Nat.reduceLT, Nat.lt_add_one, Nat.zero_lt_succ, List.append_nil, List.nil_append, cln, clnS, clnL, clnX, List.all_cons, List.all_nil, Bool.and_true, Bool.true_and, and_true, true_and, if_true, if_false, Bool.false_eq_true, decide_eq_true_eq, Bool.true_or, Bool.or_true, Bool.false_or, Bool.or_false, decide_true, decide_false, Bool.and_false, Bool.false_and, reduceCtorEq, Int.reduceBEq, nc_0, nc_1, nc_2, nc_3, nc_4, nc_5, nc_6, Bool.not_true, Bool.not_false, reduceIte, cln_nl, clnL_of (all_map cln_nam ns)]
theorem cln_head (o : Option Head) : clnS (headD o) = true := by
  cases o with
  | none => rfl
  | some h => exact cln_tup (cln_headL h)
theorem cln_rec (r : Rec) : clnS (recD r) = true := by
  cases r with
  | era n => rfl
  | hd h es =>
    refine cln_tup ?_
    rw [List.all_append, cln_headL, Bool.true_and]
    simp only [wSeq, wSet, wRet, wRetN, wIf, wDrop, wFor, wNext, wBreak, wCont, wAppend, wSetIx, wAug, wFrz, wAsg, gN, gT, gNil', gCons', mL, mS, mLT, mMv, mIV, mRng, mRngV, mItems, mOp, mB, mC, mVar, mCons, mNil, mTup, mLst, mCB, mCall, mAnd, mOr, mNot, mAndV, mOrV, mNotV, mIf, mNeg, mSl, mNo, mPart, mPk, mChain2, mChain3, mFld, mComp, mComp2, cN, cT, cNil, cCons, mEnum, mYes, mRev, mLenSet, mLenSetG, mLenSetH, wAugIx, mMeth, mMethS, mFst, mJR, mMv2, wUnp, mTru, truD, mMake, wFld, wNever, setN, setF, fldD, String.reduceEq, List.mem_cons, List.mem_singleton, true_or, or_true, or_false, false_or, List.not_mem_nil, oCount, oSplit, oZfill, oLjust, oMulS, cMod, cDiv, cMul, oAdd, oSub, oMul, oDiv, oMod, oPow, oB, oI, oEq, oEqT, oGeT, oIndex, oIs, oIn, oIx, oMulI, oAddI, oSl, oRng1, oRng2, okL, okT, okS, fLen, fAbs, fInt, fStr, fMin, fMax, fSum, fSorted, fSortedW, fMinW, fList, fTuple, fIsi, fIsiC, tyOf, Ty.isi, ty_int, ty_bool, ty_str, ty_list, ty_tuple, ty_dict, isNon, eqOk_int, eqOk_non, eqOk_bl, eqD_int, eqD_bl, eqD_str, eqD_non, beq_self_eq_true, beq_iff_eq, Bool.and_self, atI_0, atI_1, atI_2, atI_3, atI_4, atI_5, atI_6, vw, vs, lendS, ownS, wipeE, ZL.frz, lendS, hasOb, env0, List.replicate_zero, List.replicate_succ, List.cons_append, Nat.reduceSub, List.map_cons, List.map_nil, List.getElem?_cons_zero, List.getElem?_cons_succ, List.getElem?_nil, List.set_cons_zero, List.set_cons_succ, List.length_cons, List.length_nil, List.length_set, Nat.reduceAdd, Nat.reduceLT, Nat.lt_add_one, Nat.zero_lt_succ, List.append_nil, List.nil_append, cln, clnS, clnL, clnX, List.all_cons, List.all_nil, Bool.and_true, Bool.true_and, and_true, true_and, if_true, if_false, Bool.false_eq_true, decide_eq_true_eq, Bool.true_or, Bool.or_true, Bool.false_or, Bool.or_false, decide_true, decide_false, Bool.and_false, Bool.false_and, reduceCtorEq, Int.reduceBEq, nc_0, nc_1, nc_2, nc_3, nc_4, nc_5, nc_6, Bool.not_true, Bool.not_false, reduceIte, clnL_of (all_map cln_ent es)]
theorem cln_recO (o : Option Rec) : clnS (recOD o) = true := by
  cases o with
  | none => rfl
  | some r => exact cln_rec r
/-! ### what the defs do -/
def AllT (ws : List Tx) : Prop := (∀ w ∈ ws, OkT w) ∧ ws.length ≤ 1000
def sp_is_rising : ZSpec := fun ds Q _ => (∃ (t : Bool) (ns : List Nat), ds = [sq t (natL ns)] ∧ ns.length ≤ 1000 ∧ Q .sh (.bl (riseN ns))) ∨ (∃ xs : List Tx, ds = [.lst (xs.map strT)] ∧ xs.length ≤ 1000 ∧ Q .sh (.bl (riseT xs)))
theorem ar_is_rising : ZSpec.Ar sp_is_rising 1 := fun ds Q E h => by
  rcases h with ⟨_, _, rfl, _⟩ | ⟨_, rfl, _⟩ <;> rfl
def sp_number_of : ZSpec := fun ds Q _ => ∃ l, ds = [strT l] ∧ OkT l ∧ Q .sh (numD (numO l))
theorem ar_number_of : ZSpec.Ar sp_number_of 1 := fun ds Q E h => by obtain ⟨_, rfl, _⟩ := h; rfl
def sp_is_name : ZSpec := fun ds Q _ => ∃ l, ds = [strT l] ∧ OkT l ∧ Q .sh (.bl (nameB l))
theorem ar_is_name : ZSpec.Ar sp_is_name 1 := fun ds Q E h => by obtain ⟨_, rfl, _⟩ := h; rfl
def sp_read_list : ZSpec := fun ds Q _ => ∃ l, ds = [strT l] ∧ OkT l ∧ Q .sh (listD (listO l))
theorem ar_read_list : ZSpec.Ar sp_read_list 1 := fun ds Q E h => by obtain ⟨_, rfl, _⟩ := h; rfl
def sp_read_named : ZSpec := fun ds Q _ => ∃ l, ds = [strT l] ∧ OkT l ∧ Q .sh (namOD (namedO l))
theorem ar_read_named : ZSpec.Ar sp_read_named 1 := fun ds Q E h => by obtain ⟨_, rfl, _⟩ := h; rfl
def sp_read_warden : ZSpec := fun ds Q _ => ∃ l, ds = [strT l] ∧ OkT l ∧ Q .sh (entOD (wardenO l))
theorem ar_read_warden : ZSpec.Ar sp_read_warden 1 := fun ds Q E h => by obtain ⟨_, rfl, _⟩ := h; rfl
def sp_read_wardens : ZSpec := fun ds Q _ => ∃ ws : List Tx, ds = [.lst (ws.map strT)] ∧ AllT ws ∧ Q .sh (entsOD (wardensO ws))
theorem ar_read_wardens : ZSpec.Ar sp_read_wardens 1 := fun ds Q E h => by obtain ⟨_, rfl, _⟩ := h; rfl
def sp_read_picture : ZSpec := fun ds Q _ => ∃ ws : List Tx, ds = [.lst (ws.map strT)] ∧ AllT ws ∧ 1 ≤ ws.length ∧ Q .sh (headD (pictureO ws))
theorem ar_read_picture : ZSpec.Ar sp_read_picture 1 := fun ds Q E h => by obtain ⟨_, rfl, _⟩ := h; rfl
def sp_read_cap : ZSpec := fun ds Q _ => ∃ ws : List Tx, ds = [.lst (ws.map strT)] ∧ AllT ws ∧ ws.length = 2 ∧ Q .sh (headD (capO ws))
theorem ar_read_cap : ZSpec.Ar sp_read_cap 1 := fun ds Q E h => by obtain ⟨_, rfl, _⟩ := h; rfl
def sp_read_head : ZSpec := fun ds Q _ => ∃ ws : List Tx, ds = [.lst (ws.map strT)] ∧ AllT ws ∧ Q .sh (headD (headO ws))
theorem ar_read_head : ZSpec.Ar sp_read_head 1 := fun ds Q E h => by obtain ⟨_, rfl, _⟩ := h; rfl
def sp_read_record : ZSpec := fun ds Q _ => ∃ l, ds = [strT l] ∧ OkT l ∧ Q .sh (recOD (recO l))
theorem ar_read_record : ZSpec.Ar sp_read_record 1 := fun ds Q E h => by obtain ⟨_, rfl, _⟩ := h; rfl
abbrev cntT (ls : List Tx) : List Rec × Nat := cnt (ls.map recO) 0 ([], 0)
def sp_counted : ZSpec := fun ds Q _ => ∃ ls : List Tx, ds = [.lst (ls.map strT)] ∧ AllT ls ∧ Q (.t2 (.ls .sh) .sh) (.tup [.lst ((cntT ls).1.map recD), .int ((cntT ls).2 : Int)])
theorem ar_counted : ZSpec.Ar sp_counted 1 := fun ds Q E h => by obtain ⟨_, rfl, _⟩ := h; rfl
def sp_read_log : ZSpec := fun ds Q _ => ∃ ls : List Tx, ds = [.lst (ls.map strT)] ∧ AllT ls ∧ Q (.ls .sh) (.lst ((cntT ls).1.map recD))
theorem ar_read_log : ZSpec.Ar sp_read_log 1 := fun ds Q E h => by obtain ⟨_, rfl, _⟩ := h; rfl
def sp_log_end : ZSpec := fun ds Q _ => ∃ ls : List Tx, ds = [.lst (ls.map strT)] ∧ AllT ls ∧ Q .sh (.int ((cntT ls).2 : Int))
theorem ar_log_end : ZSpec.Ar sp_log_end 1 := fun ds Q E h => by obtain ⟨_, rfl, _⟩ := h; rfl
/-! ### what the law's defs do -/
def sgS : Str := Str.ofString " !\"#$&'()*+,-./0123456789:;<=>?@ABCDEFGHIJKLMNOPQRSTUVWXYZ[\\]^_`" ++ Str.ofString "abcdefghijklmnopqrstuvwxyz{|}~"
theorem sgS_len : sgS.cps.toList.length = 94 := by decide +kernel
theorem sgS_all : ∀ c ∈ sgS.cps.toList, 32 ≤ c ∧ c ≤ 126 := by decide +kernel
def signC (n : Int) : Nat := sgS.cps.toList.getD (n % 94).toNat 0
theorem signC_at (n : Int) : sgS.cps.toList[(n % 94).toNat]? = some (signC n) := by
  have hm := mxm n 94 (by decide)
  have hi : (n % 94).toNat < sgS.cps.toList.length := by rw [sgS_len]; omega
  unfold signC
  rw [List.getD_eq_getElem?_getD, List.getElem?_eq_getElem hi]
  rfl
theorem signC_ok (n : Int) : 32 ≤ signC n ∧ signC n ≤ 126 := sgS_all _ (List.mem_of_getElem? (signC_at n))
def sp__law_sign : ZSpec := fun ds Q _ => ∃ n : Int, ds = [.int n] ∧ Q .sh (.str (tx [signC n]))
theorem ar__law_sign : ZSpec.Ar sp__law_sign 1 := fun ds Q E h => by obtain ⟨_, rfl, _⟩ := h; rfl
structure NamesOk (ns : List Tx) : Prop where
  four : ns.length = 4
  ok : ∀ n ∈ ns, nameB n = true
def sp__law_names : ZSpec := fun ds Q _ => ∃ c : Int, ds = [.int c] ∧ ∀ ns : List Tx, NamesOk ns → Q (.ls .sh) (.lst (ns.map strT))
theorem ar__law_names : ZSpec.Ar sp__law_names 1 := fun ds Q E h => by obtain ⟨_, rfl, _⟩ := h; rfl
/-- data of strings, ints and tuples, of a depth -/
def Alk : Nat → D → Prop
  | 0, _ => False
  | n + 1, d => (∃ i, d = .int i) ∨ (∃ s, d = .str s) ∨ (∃ ds, d = .tup ds ∧ ds.length ≤ 1000 ∧ ∀ x ∈ ds, Alk n x)
def sps__law_alike (n : Nat) : ZSpec := fun ds Q _ => ∃ d, ds = [d, d] ∧ Alk n d ∧ Q .sh (.bl true)
theorem ars__law_alike (n : Nat) : ZSpec.Ar (sps__law_alike n) 2 := fun ds Q E h => by obtain ⟨_, rfl, _⟩ := h; rfl
theorem z__law_alike : ∀ ds Q E, ¬ sps__law_alike 0 ds Q E := fun ds Q E h => by
  obtain ⟨_, _, h, _⟩ := h
  exact h
abbrev sp__law_alike : ZSpec := sps__law_alike 7
theorem ar__law_alike : ZSpec.Ar sp__law_alike 2 := ars__law_alike 7
def sp__law_join : ZSpec := fun ds Q _ => ∃ ns : List Nat, ds = [nlD ns] ∧ (∀ n ∈ ns, n < 10 ^ 6) ∧ ns.length ≤ 60 ∧ Q .sh (strT (joinN ns))
theorem ar__law_join : ZSpec.Ar sp__law_join 1 := fun ds Q E h => by obtain ⟨_, rfl, _⟩ := h; rfl
def sizesS : List Int := [5, 4, 4, 4, 3, 900, 90, 3, 900, 5, 5, 5, 5, 4, 40]
def sp__law_sizes : ZSpec := fun ds Q _ => ds = [] ∧ Q (.ls .sh) (.lst (il sizesS))
theorem ar__law_sizes : ZSpec.Ar sp__law_sizes 0 := fun ds Q E h => by obtain ⟨rfl, _⟩ := h; rfl
/-- records as the law makes them: small ones -/
def SmallN (ns : List Nat) : Prop := (∀ n ∈ ns, n < 10 ^ 6) ∧ ns.length ≤ 5
def HeadS : Head → Prop
  | .deal => True
  | .put _ ns => SmallN ns
  | .cap s c => s < 10 ^ 6 ∧ c < 10 ^ 6
  | .pic cs ns => SmallN cs ∧ (∀ p ∈ ns, SmallN p.2) ∧ ns.length ≤ 2
def RecS : Rec → Prop
  | .era _ => True
  | .hd h es => HeadS h ∧ (∀ e ∈ es, e.1 < 10 ^ 6 ∧ e.2.1 < 10 ^ 6 ∧ e.2.2 < 10 ^ 6) ∧ es.length ≤ 3
structure Good (r : Rec) : Prop where
  ok : RecOk r
  sm : RecS r
def sp__law_text_of : ZSpec := fun ds Q _ => ∃ r, ds = [recD r] ∧ Good r ∧ Q .sh (strT (recP r))
theorem ar__law_text_of : ZSpec.Ar sp__law_text_of 1 := fun ds Q E h => by obtain ⟨_, rfl, _⟩ := h; rfl
def sp__law_small : ZSpec := fun ds Q _ => ∃ (pre rs post : List Int) (k : Nat) (b : Bool) (ns : List Tx), ds = [.lst (il (pre ++ rs ++ post)), .int (k : Int), .bl b, .lst (ns.map strT)] ∧ pre.length = k ∧ k ≤ 100 ∧ DrawOk sizesS rs ∧ NamesOk ns ∧ ∀ r, Good r → (b = true → isPic r = true) → Q .sh (recD r)
theorem ar__law_small : ZSpec.Ar sp__law_small 4 := fun ds Q E h => by obtain ⟨_, _, _, _, _, _, rfl, _⟩ := h; rfl
def sp__law_other : ZSpec := fun ds Q _ => ∃ n : Int, ds = [.int n] ∧ ∀ l, OkT l → recO l = none → Q .sh (strT l)
theorem ar__law_other : ZSpec.Ar sp__law_other 1 := fun ds Q E h => by obtain ⟨_, rfl, _⟩ := h; rfl
def befD : Option Tx → D
  | none => .non
  | some l => strT l
def prD (p : Tx × Option Rec) : D := .tup [strT p.1, recOD p.2]
structure StrOk (p : Tx × Option Rec) : Prop where
  ok : OkT p.1
  rd : recO p.1 = p.2
  sm : ∀ r, p.2 = some r → Good r
def sp__law_string : ZSpec := fun ds Q _ => ∃ (c : Int) (ns : List Tx) (o : Option Tx), ds = [.int c, .lst (ns.map strT), befD o] ∧ NamesOk ns ∧ (∀ l, o = some l → OkT l) ∧ ∀ p, StrOk p → Q .sh (prD p)
theorem ar__law_string : ZSpec.Ar sp__law_string 3 := fun ds Q E h => by obtain ⟨_, _, _, rfl, _⟩ := h; rfl
abbrev cntP (ps : List (Tx × Option Rec)) : List Rec × Nat := cnt (ps.map (·.2)) 0 ([], 0)
def sp__law_counted : ZSpec := fun ds Q _ => ∃ ps : List (Tx × Option Rec), ds = [.lst (ps.map prD)] ∧ ps.length ≤ 1000 ∧ Q .sh (.tup [.tup ((cntP ps).1.map recD), .int ((cntP ps).2 : Int)])
theorem ar__law_counted : ZSpec.Ar sp__law_counted 1 := fun ds Q E h => by obtain ⟨_, rfl, _⟩ := h; rfl
def sp__law_reads : ZSpec := fun ds Q _ => ∃ ps : List (Tx × Option Rec), ds = [.lst (ps.map fun p => strT p.1), .lst (ps.map prD)] ∧ ps.length ≤ 1000 ∧ (∀ p ∈ ps, StrOk p) ∧ Q .sh (.bl true)
theorem ar__law_reads : ZSpec.Ar sp__law_reads 2 := fun ds Q E h => by obtain ⟨_, rfl, _⟩ := h; rfl
abbrev sp_law : ZSpec := spLaw
abbrev N_is_rising : List Str := ["numbers", "index"]
def w_is_rising_s0 : ZMS := (wFor (mRngV oRng2 (mCons (mC (.int 1)) (mCons (mCB fLen (mCons (mVar 0) mNil)) mNil))) (gN 1) (wIf (mLT (mB (mOp oGeT (mOp oIx (mVar 0) (mOp oSub (mVar 1) (mC (.int 1)))) (mOp oIx (mVar 0) (mVar 1))))) (wRet (mL (mC (.bl false)))) wNext))
def w_is_rising_s1 : ZMS := (wRet (mL (mC (.bl true))))
def w_is_rising : ZMS := (wSeq w_is_rising_s0
    w_is_rising_s1)
abbrev N_number_of : List Str := ["text", "sign"]
def w_number_of_s0 : ZMS := (wIf (mLT (mB (mOp (oEqT false) (mVar 0) (mC (.str ""))))) (wRet (mL (mC .non))) wNext)
def w_number_of_s1 : ZMS := (wFor (mIV (mItems okS (mVar 0))) (gN 1) (wIf (mLT (mB (mOp (oIn true) (mVar 1) (mC (.str "0123456789"))))) (wRet (mL (mC .non))) wNext))
def w_number_of_s2 : ZMS := (wIf (mLT (mAnd (mB (mOp (oB fun i j => decide (j < i)) (mCB fLen (mCons (mVar 0) mNil)) (mC (.int 1)))) (mB (mOp (oEqT false) (mOp oIx (mVar 0) (mC (.int 0))) (mC (.str "0")))))) (wRet (mL (mC .non))) wNext)
def w_number_of_s3 : ZMS := (wIf (mLT (mB (mOp (oB fun i j => decide (j < i)) (mCB fLen (mCons (mVar 0) mNil)) (mC (.int 4000))))) (wRet (mL (mC .non))) wNext)
def w_number_of_s4 : ZMS := (wRet (mL (mCB fInt (mCons (mVar 0) mNil))))
def w_number_of : ZMS := (wSeq w_number_of_s0
    (wSeq w_number_of_s1
    (wSeq w_number_of_s2
    (wSeq w_number_of_s3
    w_number_of_s4))))
abbrev N_is_name : List Str := ["text", "sign"]
def w_is_name_s0 : ZMS := (wIf (mLT (mOr (mB (mOp (oB fun i j => decide (i < j)) (mCB fLen (mCons (mVar 0) mNil)) (mC (.int 1)))) (mB (mOp (oB fun i j => decide (j < i)) (mCB fLen (mCons (mVar 0) mNil)) (mC (.int 12)))))) (wRet (mL (mC (.bl false)))) wNext)
def w_is_name_s1 : ZMS := (wFor (mIV (mItems okS (mVar 0))) (gN 1) (wIf (mLT (mB (mOp (oIn true) (mVar 1) (mC (.str "abcdefghijklmnopqrstuvwxyz0123456789"))))) (wRet (mL (mC (.bl false)))) wNext))
def w_is_name_s2 : ZMS := (wRet (mL (mC (.bl true))))
def w_is_name : ZMS := (wSeq w_is_name_s0
    (wSeq w_is_name_s1
    w_is_name_s2))
abbrev N_read_list : List Str := ["text", "numbers", "part"]
def w_read_list_s0 : ZMS := (wIf (mLT (mB (mOp (oEqT false) (mVar 0) (mC (.str ""))))) (wRet (mL (mTup mNil))) wNext)
def w_read_list_s1 : ZMS := (wSet 1 (mL (mComp (mItems okL (mMethS oSplit (mVar 0) (mCons (mC (.str ",")) mNil))) [2] (cN 2) mYes (mCall sp_number_of [] (mCons (mVar 2) mNil)))))
def w_read_list_s2 : ZMS := (wIf (mLT (mB (mOp (oIn false) (mC .non) (mVar 1)))) (wRet (mL (mC .non))) wNext)
def w_read_list_s3 : ZMS := (wRet (mL (mCB fTuple (mCons (mVar 1) mNil))))
def w_read_list : ZMS := (wSeq w_read_list_s0
    (wSeq w_read_list_s1
    (wSeq w_read_list_s2
    w_read_list_s3)))
abbrev N_read_named : List Str := ["word", "parts", "numbers"]
def w_read_named_s0 : ZMS := (wSet 1 (mL (mMethS oSplit (mVar 0) (mCons (mC (.str "=")) mNil))))
def w_read_named_s1 : ZMS := (wIf (mLT (mOr (mB (mOp (oEqT true) (mCB fLen (mCons (mVar 1) mNil)) (mC (.int 2)))) (mNot (mB (mCall sp_is_name [] (mCons (mOp oIx (mVar 1) (mC (.int 0))) mNil)))))) (wRet (mL (mC .non))) wNext)
def w_read_named_s2 : ZMS := (wSet 2 (mL (mCall sp_read_list [] (mCons (mOp oIx (mVar 1) (mC (.int 1))) mNil))))
def w_read_named_s3 : ZMS := (wIf (mLT (mOr (mB (mOp (oIs false) (mVar 2) (mC .non))) (mOr (mB (mOp (oIn false) (mC (.int 0)) (mVar 2))) (mNot (mB (mCall sp_is_rising [] (mCons (mVar 2) mNil))))))) (wRet (mL (mC .non))) wNext)
def w_read_named_s4 : ZMS := (wRet (mL (mTup (mCons (mOp oIx (mVar 1) (mC (.int 0))) (mCons (mVar 2) mNil)))))
def w_read_named : ZMS := (wSeq w_read_named_s0
    (wSeq w_read_named_s1
    (wSeq w_read_named_s2
    (wSeq w_read_named_s3
    w_read_named_s4))))
abbrev N_read_warden : List Str := ["word", "parts", "number", "pair"]
def w_read_warden_s0 : ZMS := (wSet 1 (mL (mMethS oSplit (mVar 0) (mCons (mC (.str ":")) mNil))))
def w_read_warden_s1 : ZMS := (wIf (mLT (mB (mOp (oEqT true) (mCB fLen (mCons (mVar 1) mNil)) (mC (.int 2))))) (wRet (mL (mC .non))) wNext)
def w_read_warden_s2 : ZMS := (wSet 2 (mL (mCall sp_number_of [] (mCons (mOp oIx (mVar 1) (mC (.int 0))) mNil))))
def w_read_warden_s3 : ZMS := (wSet 3 (mL (mCall sp_read_list [] (mCons (mOp oIx (mVar 1) (mC (.int 1))) mNil))))
def w_read_warden_s4 : ZMS := (wIf (mLT (mOr (mB (mOp (oIs false) (mVar 2) (mC .non))) (mOr (mB (mOp (oB fun i j => decide (i < j)) (mVar 2) (mC (.int 1)))) (mOr (mB (mOp (oIs false) (mVar 3) (mC .non))) (mOr (mB (mOp (oEqT true) (mCB fLen (mCons (mVar 3) mNil)) (mC (.int 2)))) (mB (mOp oGeT (mOp oIx (mVar 3) (mC (.int 0))) (mOp oIx (mVar 3) (mC (.int 1)))))))))) (wRet (mL (mC .non))) wNext)
def w_read_warden_s5 : ZMS := (wRet (mL (mTup (mCons (mVar 2) (mCons (mOp oIx (mVar 3) (mC (.int 0))) (mCons (mOp oIx (mVar 3) (mC (.int 1))) mNil))))))
def w_read_warden : ZMS := (wSeq w_read_warden_s0
    (wSeq w_read_warden_s1
    (wSeq w_read_warden_s2
    (wSeq w_read_warden_s3
    (wSeq w_read_warden_s4
    w_read_warden_s5)))))
abbrev N_read_wardens : List Str := ["words", "entries", "word", "entry"]
def w_read_wardens_s0 : ZMS := (wSet 1 (mL (mComp (mItems okL (mVar 0)) [2] (cN 2) mYes (mCall sp_read_warden [] (mCons (mVar 2) mNil)))))
def w_read_wardens_s1 : ZMS := (wIf (mLT (mOr (mB (mOp (oIn false) (mC .non) (mVar 1))) (mNot (mB (mCall sp_is_rising [] (mCons (mComp (mItems okL (mVar 1)) [3] (cN 3) mYes (mOp oIx (mVar 3) (mC (.int 0)))) mNil)))))) (wRet (mL (mC .non))) wNext)
def w_read_wardens_s2 : ZMS := (wRet (mL (mCB fTuple (mCons (mVar 1) mNil))))
def w_read_wardens : ZMS := (wSeq w_read_wardens_s0
    (wSeq w_read_wardens_s1
    w_read_wardens_s2))
abbrev N_read_picture : List Str := ["words", "caps", "names", "word", "name", "numbers"]
def w_read_picture_s0 : ZMS := (wSet 1 (mL (mCall sp_read_list [] (mCons (mOp oIx (mVar 0) (mC (.int 0))) mNil))))
def w_read_picture_s1 : ZMS := (wSet 2 (mL (mComp (mItems okL (mSl (mVar 0) (mPart (mC (.int 1))) mNo)) [3] (cN 3) mYes (mCall sp_read_named [] (mCons (mVar 3) mNil)))))
def w_read_picture_s2 : ZMS := (wIf (mLT (mOr (mB (mOp (oIs false) (mVar 1) (mC .non))) (mOr (mB (mOp (oEqT false) (mCB fLen (mCons (mVar 1) mNil)) (mC (.int 0)))) (mB (mOp (oIn false) (mC .non) (mVar 2)))))) (wRet (mL (mC .non))) wNext)
def w_read_picture_s3 : ZMS := (wIf (mLT (mNot (mB (mCall sp_is_rising [] (mCons (mComp (mItems okL (mVar 2)) [4, 5] (cT 2 (cCons (cN 4) (cCons (cN 5) cNil))) mYes (mVar 4)) mNil))))) (wRet (mL (mC .non))) wNext)
def w_read_picture_s4 : ZMS := (wRet (mL (mTup (mCons (mC (.str "picture")) (mCons (mVar 1) (mCons (mCB fTuple (mCons (mVar 2) mNil)) mNil))))))
def w_read_picture : ZMS := (wSeq w_read_picture_s0
    (wSeq w_read_picture_s1
    (wSeq w_read_picture_s2
    (wSeq w_read_picture_s3
    w_read_picture_s4))))
abbrev N_read_cap : List Str := ["words", "seat", "cap"]
def w_read_cap_s0 : ZMS := (wSet 1 (mL (mCall sp_number_of [] (mCons (mOp oIx (mVar 0) (mC (.int 0))) mNil))))
def w_read_cap_s1 : ZMS := (wSet 2 (mL (mCall sp_number_of [] (mCons (mOp oIx (mVar 0) (mC (.int 1))) mNil))))
def w_read_cap_s2 : ZMS := (wIf (mLT (mOr (mB (mOp (oIs false) (mVar 1) (mC .non))) (mB (mOp (oIs false) (mVar 2) (mC .non))))) (wRet (mL (mC .non))) wNext)
def w_read_cap_s3 : ZMS := (wRet (mL (mTup (mCons (mC (.str "cap")) (mCons (mVar 1) (mCons (mVar 2) mNil))))))
def w_read_cap : ZMS := (wSeq w_read_cap_s0
    (wSeq w_read_cap_s1
    (wSeq w_read_cap_s2
    w_read_cap_s3)))
abbrev N_read_head : List Str := ["words", "named"]
def w_read_head_s0 : ZMS := (wIf (mLT (mB (mOp (oEqT false) (mVar 0) (mLst (mCons (mC (.str "deal")) mNil))))) (wRet (mL (mTup (mCons (mC (.str "deal")) mNil)))) wNext)
def w_read_head_s1 : ZMS := (wIf (mLT (mAnd (mB (mOp (oEqT false) (mCB fLen (mCons (mVar 0) mNil)) (mC (.int 2)))) (mB (mOp (oEqT false) (mOp oIx (mVar 0) (mC (.int 0))) (mC (.str "put")))))) (wSeq (wSet 1 (mL (mCall sp_read_named [] (mCons (mOp oIx (mVar 0) (mC (.int 1))) mNil))))
    (wSeq (wIf (mLT (mB (mOp (oIs false) (mVar 1) (mC .non)))) (wRet (mL (mC .non))) wNext)
    (wRet (mL (mOp oAdd (mTup (mCons (mC (.str "put")) mNil)) (mVar 1)))))) wNext)
def w_read_head_s2 : ZMS := (wIf (mLT (mAnd (mB (mOp (oEqT false) (mCB fLen (mCons (mVar 0) mNil)) (mC (.int 3)))) (mB (mOp (oEqT false) (mOp oIx (mVar 0) (mC (.int 0))) (mC (.str "cap")))))) (wRet (mL (mCall sp_read_cap [] (mCons (mSl (mVar 0) (mPart (mC (.int 1))) mNo) mNil)))) wNext)
def w_read_head_s3 : ZMS := (wIf (mLT (mAnd (mB (mOp oGeT (mCB fLen (mCons (mVar 0) mNil)) (mC (.int 2)))) (mB (mOp (oEqT false) (mOp oIx (mVar 0) (mC (.int 0))) (mC (.str "picture")))))) (wRet (mL (mCall sp_read_picture [] (mCons (mSl (mVar 0) (mPart (mC (.int 1))) mNo) mNil)))) wNext)
def w_read_head_s4 : ZMS := (wRet (mL (mC .non)))
def w_read_head : ZMS := (wSeq w_read_head_s0
    (wSeq w_read_head_s1
    (wSeq w_read_head_s2
    (wSeq w_read_head_s3
    w_read_head_s4))))
abbrev N_read_record : List Str := ["text", "words", "stroke", "head", "wardens"]
def w_read_record_s0 : ZMS := (wIf (mLT (mB (mOp (oEqT true) (mSl (mVar 0) (mPart (mNeg (mC (.int 1)))) mNo) (mC (.str ";"))))) (wRet (mL (mC .non))) wNext)
def w_read_record_s1 : ZMS := (wSet 1 (mL (mMethS oSplit (mSl (mVar 0) mNo (mPart (mNeg (mC (.int 1))))) (mCons (mC (.str " ")) mNil))))
def w_read_record_s2 : ZMS := (wIf (mLT (mB (mOp (oEqT false) (mOp oIx (mVar 1) (mC (.int 0))) (mC (.str "erase"))))) (wSeq (wIf (mLT (mOr (mB (mOp (oEqT true) (mCB fLen (mCons (mVar 1) mNil)) (mC (.int 2)))) (mNot (mB (mCall sp_is_name [] (mCons (mOp oIx (mVar 1) (mC (.int 1))) mNil)))))) (wRet (mL (mC .non))) wNext)
    (wRet (mL (mTup (mCons (mC (.str "erase")) (mCons (mOp oIx (mVar 1) (mC (.int 1))) mNil)))))) wNext)
def w_read_record_s3 : ZMS := (wIf (mLT (mB (mOp (oIn true) (mC (.str "/")) (mVar 1)))) (wRet (mL (mC .non))) wNext)
def w_read_record_s4 : ZMS := (wSet 2 (mL (mMeth oIndex (mVar 1) (mCons (mC (.str "/")) mNil))))
def w_read_record_s5 : ZMS := (wSet 3 (mL (mCall sp_read_head [] (mCons (mSl (mVar 1) mNo (mPart (mVar 2))) mNil))))
def w_read_record_s6 : ZMS := (wSet 4 (mL (mCall sp_read_wardens [] (mCons (mSl (mVar 1) (mPart (mOp oAdd (mVar 2) (mC (.int 1)))) mNo) mNil))))
def w_read_record_s7 : ZMS := (wIf (mLT (mOr (mB (mOp (oIs false) (mVar 3) (mC .non))) (mB (mOp (oIs false) (mVar 4) (mC .non))))) (wRet (mL (mC .non))) wNext)
def w_read_record_s8 : ZMS := (wRet (mL (mOp oAdd (mVar 3) (mTup (mCons (mVar 4) mNil)))))
def w_read_record : ZMS := (wSeq w_read_record_s0
    (wSeq w_read_record_s1
    (wSeq w_read_record_s2
    (wSeq w_read_record_s3
    (wSeq w_read_record_s4
    (wSeq w_read_record_s5
    (wSeq w_read_record_s6
    (wSeq w_read_record_s7
    w_read_record_s8))))))))
abbrev N_counted : List Str := ["log", "records", "end", "index", "record"]
def w_counted_s0 : ZMS := (wSet 1 (mL (mLst mNil)))
def w_counted_s1 : ZMS := (wSet 2 (mL (mC (.int 0))))
def w_counted_s2 : ZMS := (wFor (mRngV oRng1 (mCons (mCB fLen (mCons (mVar 0) mNil)) mNil)) (gN 3) (wSeq (wSet 4 (mL (mCall sp_read_record [] (mCons (mOp oIx (mVar 0) (mVar 3)) mNil))))
    (wIf (mLT (mAnd (mB (mOp (oIs true) (mVar 4) (mC .non))) (mB (mOp (oEqT false) (mOp oIx (mVar 4) (mC (.int 0))) (mC (.str "picture")))))) (wSeq (wSet 1 (mL (mLst (mCons (mVar 4) mNil))))
    (wSet 2 (mL (mOp oAdd (mVar 3) (mC (.int 1)))))) (wIf (mLT (mAnd (mB (mOp (oIs true) (mVar 4) (mC .non))) (mAnd (mB (mOp (oB fun i j => decide (j < i)) (mCB fLen (mCons (mVar 1) mNil)) (mC (.int 0)))) (mB (mOp (oEqT false) (mVar 2) (mVar 3)))))) (wSeq (wAppend 1 (mL (mVar 4)))
    (wSet 2 (mL (mOp oAdd (mVar 3) (mC (.int 1)))))) wNext))))
def w_counted_s3 : ZMS := (wRet (mMv2 1 2))
def w_counted : ZMS := (wSeq w_counted_s0
    (wSeq w_counted_s1
    (wSeq w_counted_s2
    w_counted_s3)))
abbrev N_read_log : List Str := ["log"]
def w_read_log : ZMS := (wRet (mL (mFst (mCall sp_counted [] (mCons (mVar 0) mNil)))))
abbrev N_log_end : List Str := ["log"]
def w_log_end : ZMS := (wRet (mL (mOp oIx (mCall sp_counted [] (mCons (mVar 0) mNil)) (mC (.int 1)))))
abbrev N__law_cell : List Str := ["_law_script", "_law_k"]
def w__law_cell : ZMS := (wSeq (wIf (mLT (mB (mOp (oB fun i j => decide (i < j)) (mVar 1) (mCB fLen (mCons (mVar 0) mNil))))) (wRet (mL (mOp oIx (mVar 0) (mVar 1)))) wNext)
    (wRet (mL (mC (.int 0)))))
abbrev N__law_draws : List Str := ["_law_cell_here", "_law_sizes_here", "_law_left", "_law_digits", "_law_drawn", "_law_k", "_law_size", "_law_mixed"]
def w__law_draws : ZMS := (wSeq (wSet 2 (mL (mCB fAbs (mCons (mCB fInt (mCons (mVar 0) mNil)) mNil))))
    (wSeq (wSet 3 (mL (mOp oGeT (mVar 2) (mOp oPow (mC (.int 10)) (mC (.int 18))))))
    (wSeq (wSet 4 (mL (mLst mNil)))
    (wSeq (wFor (mRngV oRng1 (mCons (mCB fLen (mCons (mVar 1) mNil)) mNil)) (gN 5) (wSeq (wSet 6 (mL (mOp oIx (mVar 1) (mVar 5))))
    (wIf (mLT (mAnd (mB (mVar 3)) (mB (mOp (oB fun i j => decide (j < i)) (mVar 2) (mC (.int 0)))))) (wSeq (wAppend 4 (mL (mOp oMod (mCB fInt (mCons (mVar 2) mNil)) (mVar 6))))
    (wSet 2 (mL (mOp oDiv (mVar 2) (mVar 6))))) (wSeq (wSet 7 (mL (mOp oMod (mCB fInt (mCons (mOp oAdd (mOp oAdd (mCB fAbs (mCons (mCB fInt (mCons (mVar 0) mNil)) mNil)) (mOp oMul (mC (.int 7919)) (mVar 5))) (mC (.int 13))) mNil)) (mC (.int 2147483647)))))
    (wSeq (wSet 7 (mL (mOp oMod (mCB fInt (mCons (mOp oMul (mVar 7) (mOp oAdd (mVar 7) (mC (.int 48271)))) mNil)) (mC (.int 2147483629)))))
    (wSeq (wSet 7 (mL (mOp oMod (mCB fInt (mCons (mOp oAdd (mOp oMul (mVar 7) (mOp oAdd (mVar 7) (mC (.int 69621)))) (mOp oMul (mC (.int 31)) (mVar 5))) mNil)) (mC (.int 2147483647)))))
    (wAppend 4 (mL (mOp oMod (mCB fInt (mCons (mOp oDiv (mVar 7) (mC (.int 9))) mNil)) (mVar 6))))))))))
    (wRet (mMv 4))))))
abbrev N__law_sign : List Str := ["_law_number", "_law_signs"]
def w__law_sign_s0 : ZMS := (wSet 1 (mL (mC (.str " !\"#$&'()*+,-./0123456789:;<=>?@ABCDEFGHIJKLMNOPQRSTUVWXYZ[\\]^_`"))))
def w__law_sign_s1 : ZMS := (wSet 1 (mL (mOp oAdd (mVar 1) (mC (.str "abcdefghijklmnopqrstuvwxyz{|}~")))))
def w__law_sign_s2 : ZMS := (wRet (mL (mOp oIx (mVar 1) (mOp oMod (mCB fInt (mCons (mVar 0) mNil)) (mC (.int 94))))))
def w__law_sign : ZMS := (wSeq w__law_sign_s0
    (wSeq w__law_sign_s1
    w__law_sign_s2))
abbrev N__law_is_integer : List Str := ["_law_actual"]
def w__law_is_integer : ZMS := (wRet (mL (mAndV (mCB fIsi (mCons (mVar 0) (mCons (mC (.ty "int")) mNil))) (mNotV (mCB fIsi (mCons (mVar 0) (mCons (mC (.ty "bool")) mNil)))))))
abbrev N__law_names : List Str := ["_law_cell_here", "_law_drawn", "_law_signs", "_law_stem", "_law_names_here", "_law_k", "_law_spot"]
def w__law_names_s0 : ZMS := (wSet 1 (mL (mCall sp__law_draws [] (mCons (mVar 0) (mCons (mOp oAdd (mOp oAdd (mOp oMul (mLst (mCons (mC (.int 36)) mNil)) (mC (.int 12))) (mOp oMul (mLst (mCons (mC (.int 12)) mNil)) (mC (.int 4)))) (mOp oMul (mLst (mCons (mC (.int 36)) mNil)) (mC (.int 4)))) mNil)))))
def w__law_names_s1 : ZMS := (wSet 2 (mL (mC (.str "abcdefghijklmnopqrstuvwxyz0123456789"))))
def w__law_names_s2 : ZMS := (wSet 3 (mL (mMethS oJoin (mC (.str "")) (mCons (mComp (mRng oRng1 (mCons (mC (.int 12)) mNil)) [5] (cN 5) mYes (mOp oIx (mVar 2) (mOp oIx (mVar 1) (mVar 5)))) mNil))))
def w__law_names_s3 : ZMS := (wSet 4 (mL (mLst mNil)))
def w__law_names_s4 : ZMS := (wFor (mRngV oRng1 (mCons (mC (.int 4)) mNil)) (gN 5) (wSeq (wSet 6 (mL (mOp oIx (mVar 1) (mOp oAdd (mC (.int 12)) (mVar 5)))))
    (wAppend 4 (mL (mOp oAdd (mSl (mVar 3) mNo (mPart (mVar 6))) (mOp oIx (mVar 2) (mOp oIx (mVar 1) (mOp oAdd (mC (.int 16)) (mVar 5)))))))))
def w__law_names_s5 : ZMS := (wRet (mMv 4))
def w__law_names : ZMS := (wSeq w__law_names_s0
    (wSeq w__law_names_s1
    (wSeq w__law_names_s2
    (wSeq w__law_names_s3
    (wSeq w__law_names_s4
    w__law_names_s5)))))
abbrev N__law_alike : List Str := ["_law_actual", "_law_due", "_law_k"]
def w__law_alike (spR : ZSpec) : ZMS := (wSeq (wIf (mLT (mB (mCB fIsi (mCons (mVar 1) (mCons (mC (.ty "str")) mNil))))) (wRet (mL (mAndV (mCB fIsi (mCons (mVar 0) (mCons (mC (.ty "str")) mNil))) (mOp (oEqT false) (mVar 0) (mVar 1))))) wNext)
    (wSeq (wIf (mLT (mNot (mB (mCB fIsi (mCons (mVar 1) (mCons (mC (.ty "tuple")) mNil)))))) (wRet (mL (mAndV (mCall sp__law_is_integer [] (mCons (mVar 0) mNil)) (mOp (oEqT false) (mVar 0) (mVar 1))))) wNext)
    (wSeq (wIf (mLT (mOr (mNot (mB (mCB fIsi (mCons (mVar 0) (mCons (mC (.ty "tuple")) mNil))))) (mB (mOp (oEqT true) (mCB fLen (mCons (mVar 0) mNil)) (mCB fLen (mCons (mVar 1) mNil)))))) (wRet (mL (mC (.bl false)))) wNext)
    (wSeq (wFor (mRngV oRng1 (mCons (mCB fLen (mCons (mVar 1) mNil)) mNil)) (gN 2) (wIf (mLT (mNot (mB (mCall spR [] (mCons (mOp oIx (mVar 0) (mVar 2)) (mCons (mOp oIx (mVar 1) (mVar 2)) mNil)))))) (wRet (mL (mC (.bl false)))) wNext))
    (wRet (mL (mC (.bl true))))))))
abbrev N__law_join : List Str := ["_law_numbers", "_law_number"]
def w__law_join : ZMS := (wRet (mL (mMethS oJoin (mC (.str ",")) (mCons (mComp (mItems okT (mVar 0)) [1] (cN 1) mYes (mCB fStr (mCons (mVar 1) mNil))) mNil))))
abbrev N__law_text_of : List Str := ["_law_record", "_law_words", "_law_entry", "_law_named"]
def w__law_text_of_s0 : ZMS := (wIf (mLT (mB (mOp (oEqT false) (mOp oIx (mVar 0) (mC (.int 0))) (mC (.str "erase"))))) (wRet (mL (mOp oAdd (mOp oAdd (mC (.str "erase ")) (mOp oIx (mVar 0) (mC (.int 1)))) (mC (.str ";"))))) wNext)
def w__law_text_of_s1 : ZMS := (wSet 1 (mL (mLst (mCons (mOp oIx (mVar 0) (mC (.int 0))) mNil))))
def w__law_text_of_s2 : ZMS := (wIf (mLT (mB (mOp (oEqT false) (mOp oIx (mVar 0) (mC (.int 0))) (mC (.str "picture"))))) (wSet 1 (mL (mOp oAdd (mOp oAdd (mVar 1) (mLst (mCons (mCall sp__law_join [] (mCons (mOp oIx (mVar 0) (mC (.int 1))) mNil)) mNil))) (mComp (mItems okT (mOp oIx (mVar 0) (mC (.int 2)))) [3] (cN 3) mYes (mOp oAdd (mOp oAdd (mOp oIx (mVar 3) (mC (.int 0))) (mC (.str "="))) (mCall sp__law_join [] (mCons (mOp oIx (mVar 3) (mC (.int 1))) mNil))))))) wNext)
def w__law_text_of_s3 : ZMS := (wIf (mLT (mB (mOp (oEqT false) (mOp oIx (mVar 0) (mC (.int 0))) (mC (.str "put"))))) (wAppend 1 (mL (mOp oAdd (mOp oAdd (mOp oIx (mVar 0) (mC (.int 1))) (mC (.str "="))) (mCall sp__law_join [] (mCons (mOp oIx (mVar 0) (mC (.int 2))) mNil))))) wNext)
def w__law_text_of_s4 : ZMS := (wIf (mLT (mB (mOp (oEqT false) (mOp oIx (mVar 0) (mC (.int 0))) (mC (.str "cap"))))) (wSet 1 (mL (mOp oAdd (mVar 1) (mLst (mCons (mCB fStr (mCons (mOp oIx (mVar 0) (mC (.int 1))) mNil)) (mCons (mCB fStr (mCons (mOp oIx (mVar 0) (mC (.int 2))) mNil)) mNil)))))) wNext)
def w__law_text_of_s5 : ZMS := (wAppend 1 (mL (mC (.str "/"))))
def w__law_text_of_s6 : ZMS := (wFor (mIV (mItems okT (mOp oIx (mVar 0) (mNeg (mC (.int 1)))))) (gN 2) (wAppend 1 (mL (mOp oAdd (mOp oAdd (mOp oAdd (mOp oAdd (mCB fStr (mCons (mOp oIx (mVar 2) (mC (.int 0))) mNil)) (mC (.str ":"))) (mCB fStr (mCons (mOp oIx (mVar 2) (mC (.int 1))) mNil))) (mC (.str ","))) (mCB fStr (mCons (mOp oIx (mVar 2) (mC (.int 2))) mNil))))))
def w__law_text_of_s7 : ZMS := (wRet (mL (mOp oAdd (mMethS oJoin (mC (.str " ")) (mCons (mVar 1) mNil)) (mC (.str ";")))))
def w__law_text_of : ZMS := (wSeq w__law_text_of_s0
    (wSeq w__law_text_of_s1
    (wSeq w__law_text_of_s2
    (wSeq w__law_text_of_s3
    (wSeq w__law_text_of_s4
    (wSeq w__law_text_of_s5
    (wSeq w__law_text_of_s6
    w__law_text_of_s7)))))))
abbrev N__law_sizes : List Str := []
def w__law_sizes : ZMS := (wRet (mL (mLst (mCons (mC (.int 5)) (mCons (mC (.int 4)) (mCons (mC (.int 4)) (mCons (mC (.int 4)) (mCons (mC (.int 3)) (mCons (mC (.int 900)) (mCons (mC (.int 90)) (mCons (mC (.int 3)) (mCons (mC (.int 900)) (mCons (mC (.int 5)) (mCons (mC (.int 5)) (mCons (mC (.int 5)) (mCons (mC (.int 5)) (mCons (mC (.int 4)) (mCons (mC (.int 40)) mNil))))))))))))))))))
abbrev N__law_small : List Str := ["_law_row", "_law_k", "_law_is_picture", "_law_names_here", "_law_numbers", "_law_others", "_law_wardens", "_law_step", "_law_first", "_law_second", "_law_low", "_law_caps", "_law_named"]
def w__law_small_s0 : ZMS := (wSet 4 (mL (mCB fTuple (mCons (mComp (mRng oRng1 (mCons (mOp oIx (mVar 0) (mOp oAdd (mVar 1) (mC (.int 3)))) mNil)) [7] (cN 7) mYes (mOp oAdd (mOp oAdd (mC (.int 1)) (mOp oIx (mVar 0) (mOp oAdd (mVar 1) (mC (.int 5))))) (mOp oMul (mVar 7) (mOp oAdd (mOp oIx (mVar 0) (mOp oAdd (mVar 1) (mC (.int 6)))) (mC (.int 1)))))) mNil))))
def w__law_small_s1 : ZMS := (wSet 5 (mL (mCB fTuple (mCons (mComp (mRng oRng1 (mCons (mOp oIx (mVar 0) (mOp oAdd (mVar 1) (mC (.int 4)))) mNil)) [7] (cN 7) mYes (mOp oAdd (mOp oAdd (mC (.int 2)) (mOp oIx (mVar 0) (mOp oAdd (mVar 1) (mC (.int 6))))) (mOp oMul (mC (.int 3)) (mVar 7)))) mNil))))
def w__law_small_s2 : ZMS := (wSet 6 (mL (mLst mNil)))
def w__law_small_s3 : ZMS := (wFor (mRngV oRng1 (mCons (mOp oIx (mVar 0) (mOp oAdd (mVar 1) (mC (.int 7)))) mNil)) (gN 7) (wSeq (wSet 10 (mL (mOp oIx (mVar 0) (mOp oAdd (mOp oAdd (mVar 1) (mC (.int 9))) (mOp oMul (mC (.int 2)) (mVar 7))))))
    (wAppend 6 (mL (mTup (mCons (mOp oAdd (mOp oAdd (mC (.int 1)) (mOp oIx (mVar 0) (mOp oAdd (mVar 1) (mC (.int 8))))) (mOp oMul (mVar 7) (mOp oAdd (mOp oIx (mVar 0) (mOp oAdd (mVar 1) (mC (.int 6)))) (mC (.int 1))))) (mCons (mVar 10) (mCons (mOp oAdd (mOp oAdd (mVar 10) (mC (.int 1))) (mOp oIx (mVar 0) (mOp oAdd (mOp oAdd (mVar 1) (mC (.int 10))) (mOp oMul (mC (.int 2)) (mVar 7))))) mNil))))))))
def w__law_small_s4 : ZMS := (wSet 8 (mL (mOp oIx (mVar 3) (mOp oIx (mVar 0) (mOp oAdd (mVar 1) (mC (.int 1)))))))
def w__law_small_s5 : ZMS := (wSet 9 (mL (mOp oIx (mVar 3) (mOp oIx (mVar 0) (mOp oAdd (mVar 1) (mC (.int 2)))))))
def w__law_small_p0 : ZMS := (wSet 11 (mL (mCB fTuple (mCons (mComp (mRng oRng1 (mCons (mOp oAdd (mOp oIx (mVar 0) (mOp oAdd (mVar 1) (mC (.int 13)))) (mC (.int 1))) mNil)) [7] (cN 7) mYes (mOp oMod (mCB fInt (mCons (mOp oAdd (mOp oIx (mVar 0) (mOp oAdd (mVar 1) (mC (.int 14)))) (mOp oMul (mC (.int 13)) (mVar 7))) mNil)) (mC (.int 41)))) mNil))))
def w__law_small_p1 : ZMS := (wSet 12 (mL (mLst mNil)))
def w__law_small_p2 : ZMS := (wIf (mLT (mB (mOp (oB fun i j => decide (j < i)) (mOp oIx (mVar 0) (mOp oAdd (mVar 1) (mC (.int 3)))) (mC (.int 0))))) (wSet 12 (mL (mLst (mCons (mTup (mCons (mVar 8) (mCons (mVar 4) mNil))) mNil)))) wNext)
def w__law_small_p3 : ZMS := (wIf (mLT (mAnd (mB (mOp (oB fun i j => decide (j < i)) (mOp oIx (mVar 0) (mOp oAdd (mVar 1) (mC (.int 3)))) (mC (.int 1)))) (mB (mOp (oEqT true) (mVar 8) (mVar 9))))) (wSet 12 (mL (mCB fSortedW (mCons (mLst (mCons (mTup (mCons (mVar 8) (mCons (mVar 4) mNil))) (mCons (mTup (mCons (mVar 9) (mCons (mVar 5) mNil))) mNil))) mNil)))) wNext)
def w__law_small_p4 : ZMS := (wRet (mL (mTup (mCons (mC (.str "picture")) (mCons (mVar 11) (mCons (mCB fTuple (mCons (mVar 12) mNil)) (mCons (mCB fTuple (mCons (mVar 6) mNil)) mNil)))))))
def w__law_small_s6 : ZMS := (wIf (mLT (mB (mVar 2))) (wSeq w__law_small_p0
    (wSeq w__law_small_p1
    (wSeq w__law_small_p2
    (wSeq w__law_small_p3
    w__law_small_p4)))) wNext)
def w__law_small_s7 : ZMS := (wIf (mLT (mB (mOp (oB fun i j => decide (i < j)) (mOp oIx (mVar 0) (mVar 1)) (mC (.int 2))))) (wRet (mL (mTup (mCons (mC (.str "put")) (mCons (mVar 8) (mCons (mVar 4) (mCons (mCB fTuple (mCons (mVar 6) mNil)) mNil))))))) wNext)
def w__law_small_s8 : ZMS := (wIf (mLT (mB (mOp (oEqT false) (mOp oIx (mVar 0) (mVar 1)) (mC (.int 2))))) (wRet (mL (mTup (mCons (mC (.str "erase")) (mCons (mVar 8) mNil))))) wNext)
def w__law_small_s9 : ZMS := (wIf (mLT (mB (mOp (oEqT false) (mOp oIx (mVar 0) (mVar 1)) (mC (.int 3))))) (wRet (mL (mTup (mCons (mC (.str "deal")) (mCons (mCB fTuple (mCons (mVar 6) mNil)) mNil))))) wNext)
def w__law_small_s10 : ZMS := (wRet (mL (mTup (mCons (mC (.str "cap")) (mCons (mOp oIx (mVar 0) (mOp oAdd (mVar 1) (mC (.int 13)))) (mCons (mOp oIx (mVar 0) (mOp oAdd (mVar 1) (mC (.int 14)))) (mCons (mCB fTuple (mCons (mVar 6) mNil)) mNil)))))))
def w__law_small : ZMS := (wSeq w__law_small_s0
    (wSeq w__law_small_s1
    (wSeq w__law_small_s2
    (wSeq w__law_small_s3
    (wSeq w__law_small_s4
    (wSeq w__law_small_s5
    (wSeq w__law_small_s6
    (wSeq w__law_small_s7
    (wSeq w__law_small_s8
    (wSeq w__law_small_s9
    w__law_small_s10))))))))))
abbrev N__law_other : List Str := ["_law_number", "_law_texts"]
def w__law_other_s0 : ZMS := (wSet 1 (mL (mLst (mCons (mC (.str "")) (mCons (mC (.str ";")) (mCons (mC (.str "picture")) (mCons (mC (.str "picture ;")) (mCons (mC (.str "picture /;")) (mCons (mC (.str "picture 1,1 /")) (mCons (mC (.str "picture 1,1 / ;")) (mCons (mC (.str "erase")) (mCons (mC (.str "erase ;")) (mCons (mC (.str "x")) mNil)))))))))))))
def w__law_other_s1 : ZMS := (wSet 1 (mL (mOp oAdd (mVar 1) (mLst (mCons (mC (.str "erase A;")) (mCons (mC (.str "erase a")) (mCons (mC (.str "deal;")) (mCons (mC (.str "put a= /")) (mCons (mC (.str "put a=1,1 /;")) (mCons (mC (.str "cap 0 /;")) mNil))))))))))
def w__law_other_s2 : ZMS := (wRet (mL (mOp oIx (mVar 1) (mOp oMod (mCB fInt (mCons (mVar 0) mNil)) (mC (.int 16))))))
def w__law_other : ZMS := (wSeq w__law_other_s0
    (wSeq w__law_other_s1
    w__law_other_s2))
abbrev N__law_string : List Str := ["_law_cell_here", "_law_names_here", "_law_before", "_law_row", "_law_is_picture", "_law_record", "_law_text", "_law_old", "_law_kept", "_law_k"]
def w__law_string_s0 : ZMS := (wSet 3 (mL (mCall sp__law_draws [] (mCons (mVar 0) (mCons (mOp oAdd (mOp oAdd (mLst (mCons (mC (.int 16)) (mCons (mC (.int 840)) (mCons (mC (.int 2)) (mCons (mC (.int 2)) (mCons (mC (.int 16)) mNil)))))) (mCall sp__law_sizes [] mNil)) (mOp oMul (mLst (mCons (mC (.int 94)) mNil)) (mC (.int 5)))) mNil)))))
def w__law_string_s1 : ZMS := (wSet 4 (mL (mOrV (mChain2 (oB fun i j => decide (i ≤ j)) (oB fun i j => decide (i < j)) (mC (.int 6)) (mOp oIx (mVar 3) (mC (.int 0))) (mC (.int 10))) (mOrV (mAndV (mOp (oIs false) (mVar 2) (mC .non)) (mOp (oB fun i j => decide (i < j)) (mOp oIx (mVar 3) (mC (.int 0))) (mC (.int 10)))) (mAndV (mOp (oB fun i j => decide (j < i)) (mOp oIx (mVar 3) (mC (.int 0))) (mC (.int 9))) (mOp (oEqT false) (mOp oIx (mVar 3) (mC (.int 2))) (mC (.int 1))))))))
def w__law_string_s2 : ZMS := (wSet 5 (mL (mCall sp__law_small [] (mCons (mVar 3) (mCons (mC (.int 5)) (mCons (mVar 4) (mCons (mVar 1) mNil)))))))
def w__law_string_s3 : ZMS := (wSet 6 (mL (mCall sp__law_text_of [] (mCons (mVar 5) mNil))))
def w__law_string_s4 : ZMS := (wIf (mLT (mB (mOp (oB fun i j => decide (i < j)) (mOp oIx (mVar 3) (mC (.int 0))) (mC (.int 10))))) (wRet (mL (mTup (mCons (mVar 6) (mCons (mVar 5) mNil))))) wNext)
def w__law_string_t0 : ZMS := (wSet 7 (mL (mC (.str ""))))
def w__law_string_t1 : ZMS := (wIf (mLT (mAnd (mB (mOp (oEqT false) (mOp oIx (mVar 3) (mC (.int 3))) (mC (.int 1)))) (mAnd (mB (mOp (oIs true) (mVar 2) (mC .non))) (mB (mOp (oIn true) (mC (.str ";")) (mVar 2)))))) (wSet 7 (mL (mVar 2))) wNext)
def w__law_string_t2 : ZMS := (wSet 8 (mL (mOp oMod (mCB fInt (mCons (mOp oIx (mVar 3) (mC (.int 1))) mNil)) (mCB fLen (mCons (mVar 6) mNil)))))
def w__law_string_t3 : ZMS := (wRet (mL (mTup (mCons (mOp oAdd (mSl (mVar 6) mNo (mPart (mVar 8))) (mSl (mVar 7) (mPart (mVar 8)) mNo)) (mCons (mC .non) mNil)))))
def w__law_string_s5 : ZMS := (wIf (mLT (mB (mOp (oB fun i j => decide (i < j)) (mOp oIx (mVar 3) (mC (.int 0))) (mC (.int 13))))) (wSeq w__law_string_t0
    (wSeq w__law_string_t1
    (wSeq w__law_string_t2
    w__law_string_t3))) wNext)
def w__law_string_s6 : ZMS := (wIf (mLT (mB (mOp (oEqT false) (mOp oIx (mVar 3) (mC (.int 0))) (mC (.int 13))))) (wRet (mL (mTup (mCons (mC (.str "")) (mCons (mC .non) mNil))))) wNext)
def w__law_string_s7 : ZMS := (wIf (mLT (mB (mOp (oEqT false) (mOp oIx (mVar 3) (mC (.int 0))) (mC (.int 14))))) (wRet (mL (mTup (mCons (mCall sp__law_other [] (mCons (mOp oIx (mVar 3) (mC (.int 4))) mNil)) (mCons (mC .non) mNil))))) wNext)
def w__law_string_s8 : ZMS := (wRet (mL (mTup (mCons (mJR "" ";" ":" (mComp (mRng oRng1 (mCons (mC (.int 5)) mNil)) [9] (cN 9) mYes (mCall sp__law_sign [] (mCons (mOp oIx (mVar 3) (mOp oAdd (mC (.int 20)) (mVar 9))) mNil)))) (mCons (mC .non) mNil)))))
def w__law_string : ZMS := (wSeq w__law_string_s0
    (wSeq w__law_string_s1
    (wSeq w__law_string_s2
    (wSeq w__law_string_s3
    (wSeq w__law_string_s4
    (wSeq w__law_string_s5
    (wSeq w__law_string_s6
    (wSeq w__law_string_s7
    w__law_string_s8))))))))
abbrev N__law_counted : List Str := ["_law_strings", "_law_records", "_law_end", "_law_counts", "_law_k", "_law_record"]
def w__law_counted_s0 : ZMS := (wSet 1 (mL (mLst mNil)))
def w__law_counted_s1 : ZMS := (wSet 2 (mL (mC (.int 0))))
def w__law_counted_s2 : ZMS := (wSet 3 (mL (mC (.bl false))))
def w__law_counted_s3 : ZMS := (wFor (mRngV oRng1 (mCons (mCB fLen (mCons (mVar 0) mNil)) mNil)) (gN 4) (wSeq (wSet 5 (mL (mOp oIx (mOp oIx (mVar 0) (mVar 4)) (mC (.int 1)))))
    (wIf (mLT (mB (mOp (oIs false) (mVar 5) (mC .non)))) (wSet 3 (mL (mC (.bl false)))) (wIf (mLT (mB (mOp (oEqT false) (mOp oIx (mVar 5) (mC (.int 0))) (mC (.str "picture"))))) (wSeq (wSet 1 (mL (mLst (mCons (mVar 5) mNil))))
    (wSeq (wSet 2 (mL (mOp oAdd (mVar 4) (mC (.int 1)))))
    (wSet 3 (mL (mC (.bl true)))))) (wIf (mLT (mB (mVar 3))) (wSeq (wAppend 1 (mL (mVar 5)))
    (wSet 2 (mL (mOp oAdd (mVar 4) (mC (.int 1)))))) wNext)))))
def w__law_counted_s4 : ZMS := (wRet (mL (mTup (mCons (mCB fTuple (mCons (mVar 1) mNil)) (mCons (mVar 2) mNil)))))
def w__law_counted : ZMS := (wSeq w__law_counted_s0
    (wSeq w__law_counted_s1
    (wSeq w__law_counted_s2
    (wSeq w__law_counted_s3
    w__law_counted_s4))))
abbrev N__law_reads : List Str := ["_law_handed", "_law_strings", "_law_due", "_law_actual", "_law_end", "_law_string_here"]
def w__law_reads_s0 : ZMS := (wSet 2 (mL (mCall sp__law_counted [] (mCons (mVar 1) mNil))))
def w__law_reads_s1 : ZMS := (wSet 3 (mL (mCall sp_read_log [] (mCons (mVar 0) mNil))))
def w__law_reads_s2 : ZMS := (wIf (mLT (mOr (mNot (mB (mCB fIsi (mCons (mVar 3) (mCons (mC (.ty "list")) mNil))))) (mNot (mB (mCall sp__law_alike [] (mCons (mCB fTuple (mCons (mVar 3) mNil)) (mCons (mOp oIx (mVar 2) (mC (.int 0))) mNil))))))) (wRet (mL (mC (.bl false)))) wNext)
def w__law_reads_s3 : ZMS := (wAppend 3 (mL (mTup (mCons (mC (.str "erase")) (mCons (mC (.str "spoilt")) mNil)))))
def w__law_reads_s4 : ZMS := (wSet 4 (mL (mCall sp_log_end [] (mCons (mVar 0) mNil))))
def w__law_reads_s5 : ZMS := (wRet (mL (mAndV (mCall sp__law_is_integer [] (mCons (mVar 4) mNil)) (mAndV (mOp (oEqT false) (mVar 4) (mOp oIx (mVar 2) (mC (.int 1)))) (mOp (oEqT false) (mVar 0) (mComp (mItems okL (mVar 1)) [5] (cN 5) mYes (mOp oIx (mVar 5) (mC (.int 0)))))))))
def w__law_reads : ZMS := (wSeq w__law_reads_s0
    (wSeq w__law_reads_s1
    (wSeq w__law_reads_s2
    (wSeq w__law_reads_s3
    (wSeq w__law_reads_s4
    w__law_reads_s5)))))
abbrev N_law : List Str := ["_law_script", "_law_names_here", "_law_strings", "_law_before", "_law_k", "_law_row", "_law_handed", "_law_size", "_law_record", "_law_string_here"]
def w_law_s0 : ZMS := (wSet 1 (mL (mCall sp__law_names [] (mCons (mCall sp__law_cell [] (mCons (mVar 0) (mCons (mC (.int 0)) mNil))) mNil))))
def w_law_s1 : ZMS := (wSet 2 (mL (mLst mNil)))
def w_law_s2 : ZMS := (wSet 3 (mL (mC .non)))
def w_law_s3 : ZMS := (wFor (mRngV oRng1 (mCons (mCB fMinW (mCons (mC (.int 9)) (mCons (mCB fMax (mCons (mC (.int 3)) (mCons (mOp oSub (mCB fLen (mCons (mVar 0) mNil)) (mC (.int 1))) mNil))) mNil))) mNil)) (gN 4) (wSeq (wAppend 2 (mL (mCall sp__law_string [] (mCons (mOp oAdd (mCall sp__law_cell [] (mCons (mVar 0) (mCons (mOp oAdd (mC (.int 1)) (mVar 4)) mNil))) (mOp oMul (mC (.int 5)) (mVar 4))) (mCons (mVar 1) (mCons (mVar 3) mNil))))))
    (wSet 3 (mL (mOp oIx (mOp oIx (mVar 2) (mVar 4)) (mC (.int 0)))))))
def w_law_s4 : ZMS := (wSet 5 (mL (mCall sp__law_draws [] (mCons (mOp oAdd (mCall sp__law_cell [] (mCons (mVar 0) (mCons (mC (.int 10)) mNil))) (mC (.int 3))) (mCons (mOp oAdd (mLst (mCons (mC (.int 840)) (mCons (mC (.int 8)) (mCons (mC (.int 840)) mNil)))) (mCall sp__law_sizes [] mNil)) mNil)))))
def w_law_s5 : ZMS := (wIf (mLT (mB (mOp (oEqT false) (mOp oIx (mVar 5) (mC (.int 1))) (mC (.int 7))))) (wSet 2 (mL (mOp oAdd (mVar 2) (mOp oMul (mLst (mCons (mOp oIx (mVar 2) (mOp oMod (mCB fInt (mCons (mOp oIx (mVar 5) (mC (.int 2))) mNil)) (mCB fLen (mCons (mVar 2) mNil)))) mNil)) (mC (.int 90)))))) wNext)
def w_law_s6 : ZMS := (wSet 6 (mL (mComp (mItems okL (mVar 2)) [9] (cN 9) mYes (mOp oIx (mVar 9) (mC (.int 0))))))
def w_law_s7 : ZMS := (wIf (mLT (mOr (mNot (mB (mCall sp__law_reads [] (mCons (mVar 6) (mCons (mVar 2) mNil))))) (mNot (mB (mCall sp__law_reads [] (mCons (mVar 6) (mCons (mVar 2) mNil))))))) (wRet (mL (mC (.bl false)))) wNext)
def w_law_s8 : ZMS := (wSet 7 (mL (mOp oMod (mCB fInt (mCons (mOp oIx (mVar 5) (mC (.int 0))) mNil)) (mOp oAdd (mCB fLen (mCons (mVar 2) mNil)) (mC (.int 1))))))
def w_law_s9 : ZMS := (wIf (mLT (mNot (mB (mCall sp__law_reads [] (mCons (mComp (mItems okL (mSl (mVar 2) mNo (mPart (mVar 7)))) [9] (cN 9) mYes (mOp oIx (mVar 9) (mC (.int 0)))) (mCons (mSl (mVar 2) mNo (mPart (mVar 7))) mNil)))))) (wRet (mL (mC (.bl false)))) wNext)
def w_law_s10 : ZMS := (wSet 8 (mL (mCall sp__law_small [] (mCons (mVar 5) (mCons (mC (.int 3)) (mCons (mC (.bl true)) (mCons (mVar 1) mNil)))))))
def w_law_s11 : ZMS := (wAppend 6 (mL (mCall sp__law_text_of [] (mCons (mVar 8) mNil))))
def w_law_s12 : ZMS := (wRet (mL (mCall sp__law_reads [] (mCons (mVar 6) (mCons (mOp oAdd (mVar 2) (mLst (mCons (mTup (mCons (mCall sp__law_text_of [] (mCons (mVar 8) mNil)) (mCons (mVar 8) mNil))) mNil))) mNil)))))
def w_law : ZMS := (wSeq w_law_s0
    (wSeq w_law_s1
    (wSeq w_law_s2
    (wSeq w_law_s3
    (wSeq w_law_s4
    (wSeq w_law_s5
    (wSeq w_law_s6
    (wSeq w_law_s7
    (wSeq w_law_s8
    (wSeq w_law_s9
    (wSeq w_law_s10
    (wSeq w_law_s11
    w_law_s12))))))))))))
theorem u__law_cell : ∀ ds Q E, sp__law_cell ds Q E → w__law_cell (env0 N__law_cell ds) (ends0 Q E) := by
  intro ds Q E h
  obtain ⟨ns, k, rfl, h0, q⟩ := h
  simp only [w__law_cell, N__law_cell, wSeq, wSet, wRet, wRetN, wIf, wDrop, wFor, wNext, wBreak, wCont, wAppend, wSetIx, wAug, wFrz, wAsg, gN, gT, gNil', gCons', mL, mS, mLT, mMv, mIV, mRng, mRngV, mItems, mOp, mB, mC, mVar, mCons, mNil, mTup, mLst, mCB, mCall, mAnd, mOr, mNot, mAndV, mOrV, mNotV, mIf, mNeg, mSl, mNo, mPart, mPk, mChain2, mChain3, mFld, mComp, mComp2, cN, cT, cNil, cCons, mEnum, mYes, mRev, mLenSet, mLenSetG, mLenSetH, wAugIx, mMeth, mMethS, mFst, mJR, mMv2, wUnp, mTru, truD, mMake, wFld, wNever, setN, setF, fldD, String.reduceEq, List.mem_cons, List.mem_singleton, true_or, or_true, or_false, false_or, List.not_mem_nil, oCount, oSplit, oZfill, oLjust, oMulS, cMod, cDiv, cMul, oAdd, oSub, oMul, oDiv, oMod, oPow, oB, oI, oEq, oEqT, oGeT, oIndex, oIs, oIn, oIx, oMulI, oAddI, oSl, oRng1, oRng2, okL, okT, okS, fLen, fAbs, fInt, fStr, fMin, fMax, fSum, fSorted, fSortedW, fMinW, fList, fTuple, fIsi, fIsiC, tyOf, Ty.isi, ty_int, ty_bool, ty_str, ty_list, ty_tuple, ty_dict, isNon, eqOk_int, eqOk_non, eqOk_bl, eqD_int, eqD_bl, eqD_str, eqD_non, beq_self_eq_true, beq_iff_eq, Bool.and_self, atI_0, atI_1, atI_2, atI_3, atI_4, atI_5, atI_6, vw, vs, lendS, ownS, wipeE, ZL.frz, lendS, hasOb, env0, List.replicate_zero, List.replicate_succ, List.cons_append, Nat.reduceSub, List.map_cons, List.map_nil, List.getElem?_cons_zero, List.getElem?_cons_succ, List.getElem?_nil, List.set_cons_zero, List.set_cons_succ, List.length_cons, List.length_nil, List.length_set, Nat.reduceAdd, Nat.reduceLT, Nat.lt_add_one, Nat.zero_lt_succ, List.append_nil, List.nil_append, cln, clnS, clnL, clnX, List.all_cons, List.all_nil, Bool.and_true, Bool.true_and, and_true, true_and, if_true, if_false, Bool.false_eq_true, decide_eq_true_eq, Bool.true_or, Bool.or_true, Bool.false_or, Bool.or_false, decide_true, decide_false, Bool.and_false, Bool.false_and, reduceCtorEq, Int.reduceBEq, nc_0, nc_1, nc_2, nc_3, nc_4, nc_5, nc_6, Bool.not_true, Bool.not_false, reduceIte]
  split
  · rename_i hk
    rw [atI_nat h0 (List.getElem?_eq_getElem (by omega))]
    exact q _
  · exact q _

theorem u__law_is_integer : ∀ ds Q E, sp__law_is_integer ds Q E → w__law_is_integer (env0 N__law_is_integer ds) (ends0 Q E) := by
  intro ds Q E h
  obtain ⟨d, rfl, q⟩ := h
  cases d <;> first | exact q.elim | (simp only [w__law_is_integer, N__law_is_integer, wSeq, wSet, wRet, wRetN, wIf, wDrop, wFor, wNext, wBreak, wCont, wAppend, wSetIx, wAug, wFrz, wAsg, gN, gT, gNil', gCons', mL, mS, mLT, mMv, mIV, mRng, mRngV, mItems, mOp, mB, mC, mVar, mCons, mNil, mTup, mLst, mCB, mCall, mAnd, mOr, mNot, mAndV, mOrV, mNotV, mIf, mNeg, mSl, mNo, mPart, mPk, mChain2, mChain3, mFld, mComp, mComp2, cN, cT, cNil, cCons, mEnum, mYes, mRev, mLenSet, mLenSetG, mLenSetH, wAugIx, mMeth, mMethS, mFst, mJR, mMv2, wUnp, mTru, truD, mMake, wFld, wNever, setN, setF, fldD, String.reduceEq, List.mem_cons, List.mem_singleton, true_or, or_true, or_false, false_or, List.not_mem_nil, oCount, oSplit, oZfill, oLjust, oMulS, cMod, cDiv, cMul, oAdd, oSub, oMul, oDiv, oMod, oPow, oB, oI, oEq, oEqT, oGeT, oIndex, oIs, oIn, oIx, oMulI, oAddI, oSl, oRng1, oRng2, okL, okT, okS, fLen, fAbs, fInt, fStr, fMin, fMax, fSum, fSorted, fSortedW, fMinW, fList, fTuple, fIsi, fIsiC, tyOf, Ty.isi, ty_int, ty_bool, ty_str, ty_list, ty_tuple, ty_dict, isNon, eqOk_int, eqOk_non, eqOk_bl, eqD_int, eqD_bl, eqD_str, eqD_non, beq_self_eq_true, beq_iff_eq, Bool.and_self, atI_0, atI_1, atI_2, atI_3, atI_4, atI_5, atI_6, vw, vs, lendS, ownS, wipeE, ZL.frz, lendS, hasOb, env0, List.replicate_zero, List.replicate_succ, List.cons_append, Nat.reduceSub, List.map_cons, List.map_nil, List.getElem?_cons_zero, List.getElem?_cons_succ, List.getElem?_nil, List.set_cons_zero, List.set_cons_succ, List.length_cons, List.length_nil, List.length_set, Nat.reduceAdd, Nat.reduceLT, Nat.lt_add_one, Nat.zero_lt_succ, List.append_nil, List.nil_append, cln, clnS, clnL, clnX, List.all_cons, List.all_nil, Bool.and_true, Bool.true_and, and_true, true_and, if_true, if_false, Bool.false_eq_true, decide_eq_true_eq, Bool.true_or, Bool.or_true, Bool.false_or, Bool.or_false, decide_true, decide_false, Bool.and_false, Bool.false_and, reduceCtorEq, Int.reduceBEq, nc_0, nc_1, nc_2, nc_3, nc_4, nc_5, nc_6, Bool.not_true, Bool.not_false, reduceIte]; exact q)

theorem u__law_draws : ∀ ds Q E, sp__law_draws ds Q E → w__law_draws (env0 N__law_draws ds) (ends0 Q E) := by
  intro ds Q E h
  obtain ⟨c, ss, rfl, hl, hs, q⟩ := h
  simp only [w__law_draws, N__law_draws, wSeq, wSet, wRet, wRetN, wIf, wDrop, wFor, wNext, wBreak, wCont, wAppend, wSetIx, wAug, wFrz, wAsg, gN, gT, gNil', gCons', mL, mS, mLT, mMv, mIV, mRng, mRngV, mItems, mOp, mB, mC, mVar, mCons, mNil, mTup, mLst, mCB, mCall, mAnd, mOr, mNot, mAndV, mOrV, mNotV, mIf, mNeg, mSl, mNo, mPart, mPk, mChain2, mChain3, mFld, mComp, mComp2, cN, cT, cNil, cCons, mEnum, mYes, mRev, mLenSet, mLenSetG, mLenSetH, wAugIx, mMeth, mMethS, mFst, mJR, mMv2, wUnp, mTru, truD, mMake, wFld, wNever, setN, setF, fldD, String.reduceEq, List.mem_cons, List.mem_singleton, true_or, or_true, or_false, false_or, List.not_mem_nil, oCount, oSplit, oZfill, oLjust, oMulS, cMod, cDiv, cMul, oAdd, oSub, oMul, oDiv, oMod, oPow, oB, oI, oEq, oEqT, oGeT, oIndex, oIs, oIn, oIx, oMulI, oAddI, oSl, oRng1, oRng2, okL, okT, okS, fLen, fAbs, fInt, fStr, fMin, fMax, fSum, fSorted, fSortedW, fMinW, fList, fTuple, fIsi, fIsiC, tyOf, Ty.isi, ty_int, ty_bool, ty_str, ty_list, ty_tuple, ty_dict, isNon, eqOk_int, eqOk_non, eqOk_bl, eqD_int, eqD_bl, eqD_str, eqD_non, beq_self_eq_true, beq_iff_eq, Bool.and_self, atI_0, atI_1, atI_2, atI_3, atI_4, atI_5, atI_6, vw, vs, lendS, ownS, wipeE, ZL.frz, lendS, hasOb, env0, List.replicate_zero, List.replicate_succ, List.cons_append, Nat.reduceSub, List.map_cons, List.map_nil, List.getElem?_cons_zero, List.getElem?_cons_succ, List.getElem?_nil, List.set_cons_zero, List.set_cons_succ, List.length_cons, List.length_nil, List.length_set, Nat.reduceAdd, Nat.reduceLT, Nat.lt_add_one, Nat.zero_lt_succ, List.append_nil, List.nil_append, cln, clnS, clnL, clnX, List.all_cons, List.all_nil, Bool.and_true, Bool.true_and, and_true, true_and, if_true, if_false, Bool.false_eq_true, decide_eq_true_eq, Bool.true_or, Bool.or_true, Bool.false_or, Bool.or_false, decide_true, decide_false, Bool.and_false, Bool.false_and, reduceCtorEq, Int.reduceBEq, nc_0, nc_1, nc_2, nc_3, nc_4, nc_5, nc_6, Bool.not_true, Bool.not_false, reduceIte]
  refine ⟨cpow_of (by decide) (by decide) (by decide), Nat.zero_le _, by rw [List.length_map]; omega, ?_⟩
  generalize decide (10 ^ Int.toNat 18 ≤ (c.natAbs : Int)) = dg
  have ef : ((List.map D.int ss).length : Int).toNat = ss.length := by simp
  rw [ef]
  refine for_range (fun i env => ∃ (lf : Int) (rs : List Int) (x y z : Option (Kd × D)), env = [some (.sh, .int c), some (.sh, .lst (ss.map D.int)), some (.sh, .int lf), some (.sh, .bl dg), some (.ls .sh, .lst (rs.map D.int)), x, y, z] ∧ DrawOk (ss.take i) rs) ⟨_, [], _, _, _, rfl, by simp [DrawOk]⟩ ?_ ?_
  · rintro i hi env K ⟨lf, rs, x, y, z, rfl, dr⟩ hK
    have hg : (ss.map D.int)[i]? = some (.int ss[i]) := by simp [hi]
    have hb := hs _ (List.getElem_mem hi)
    have hrl := dr.length
    have hmin : (ss.take i).length = i := by rw [List.length_take]; omega
    have fin : ∀ (lf' v : Int) (x y z : Option (Kd × D)), 0 ≤ v → v < ss[i] → K [some (.sh, .int c), some (.sh, .lst (ss.map D.int)), some (.sh, .int lf'), some (.sh, .bl dg), some (.ls .sh, .lst (rs.map D.int ++ [.int v])), x, y, z] := fun lf' v x y z h0 h1 => by
      refine hK _ ⟨lf', rs ++ [v], x, y, z, by simp, ?_⟩
      have e : ss.take (i + 1) = ss.take i ++ [ss[i]] := by rw [List.take_succ]; simp [hi]
      rw [e]
      exact dr.snoc h0 h1
    have hlen : (rs.map D.int).length < sizeLine := by
      rw [List.length_map, hrl, hmin]
      have : (10 : Nat) ^ 6 < sizeLine := by decide
      omega
    simp only [wSeq, wSet, wRet, wRetN, wIf, wDrop, wFor, wNext, wBreak, wCont, wAppend, wSetIx, wAug, wFrz, wAsg, gN, gT, gNil', gCons', mL, mS, mLT, mMv, mIV, mRng, mRngV, mItems, mOp, mB, mC, mVar, mCons, mNil, mTup, mLst, mCB, mCall, mAnd, mOr, mNot, mAndV, mOrV, mNotV, mIf, mNeg, mSl, mNo, mPart, mPk, mChain2, mChain3, mFld, mComp, mComp2, cN, cT, cNil, cCons, mEnum, mYes, mRev, mLenSet, mLenSetG, mLenSetH, wAugIx, mMeth, mMethS, mFst, mJR, mMv2, wUnp, mTru, truD, mMake, wFld, wNever, setN, setF, fldD, String.reduceEq, List.mem_cons, List.mem_singleton, true_or, or_true, or_false, false_or, List.not_mem_nil, oCount, oSplit, oZfill, oLjust, oMulS, cMod, cDiv, cMul, oAdd, oSub, oMul, oDiv, oMod, oPow, oB, oI, oEq, oEqT, oGeT, oIndex, oIs, oIn, oIx, oMulI, oAddI, oSl, oRng1, oRng2, okL, okT, okS, fLen, fAbs, fInt, fStr, fMin, fMax, fSum, fSorted, fSortedW, fMinW, fList, fTuple, fIsi, fIsiC, tyOf, Ty.isi, ty_int, ty_bool, ty_str, ty_list, ty_tuple, ty_dict, isNon, eqOk_int, eqOk_non, eqOk_bl, eqD_int, eqD_bl, eqD_str, eqD_non, beq_self_eq_true, beq_iff_eq, Bool.and_self, atI_0, atI_1, atI_2, atI_3, atI_4, atI_5, atI_6, vw, vs, lendS, ownS, wipeE, ZL.frz, lendS, hasOb, env0, List.replicate_zero, List.replicate_succ, List.cons_append, Nat.reduceSub, List.map_cons, List.map_nil, List.getElem?_cons_zero, List.getElem?_cons_succ, List.getElem?_nil, List.set_cons_zero, List.set_cons_succ, List.length_cons, List.length_nil, List.length_set, Nat.reduceAdd, Nat.reduceLT, Nat.lt_add_one, Nat.zero_lt_succ, List.append_nil, List.nil_append, cln, clnS, clnL, clnX, List.all_cons, List.all_nil, Bool.and_true, Bool.true_and, and_true, true_and, if_true, if_false, Bool.false_eq_true, decide_eq_true_eq, Bool.true_or, Bool.or_true, Bool.false_or, Bool.or_false, decide_true, decide_false, Bool.and_false, Bool.false_and, reduceCtorEq, Int.reduceBEq, nc_0, nc_1, nc_2, nc_3, nc_4, nc_5, nc_6, Bool.not_true, Bool.not_false, reduceIte, Int.zero_add, atI_of hg, cMod, cDiv, cMul]
    have fb : ∀ v : Int, 0 ≤ v → v ≤ 10 ^ 40 → fit v := fun v a b => fit_of (by omega) (by omega)
    have low : fit ss[i] := fit_of (by omega) (by have := hb.2; omega)
    have mx : ∀ v m : Int, 0 < m → 0 ≤ v % m ∧ v % m < m := fun v m h => ⟨Int.emod_nonneg _ (by omega), Int.emod_lt_of_pos _ h⟩
    have big : ∃ c0 : Int, (c.natAbs : Int) = c0 := ⟨_, rfl⟩
    have st : ∀ (B : Prop), B → (fit 7919 ∧ fit (i : Int)) ∧ 0 < (2147483647 : Int) ∧ B := fun B b => ⟨⟨fb _ (by decide) (by decide), fb _ (by omega) (by omega)⟩, by decide, b⟩
    have ci : (i : Int) ≤ 10 ^ 6 := by omega
    have els : ∀ (P : Prop), (∀ v1 v2 v3 : Int, (0 ≤ v1 ∧ v1 < 2147483647) → (0 ≤ v2 ∧ v2 < 2147483647) → (0 ≤ v3 ∧ v3 < 2147483647) → P) → P := fun P h => h 0 0 0 (by omega) (by omega) (by omega)
    have m1 := mx ((c.natAbs : Int) + 7919 * (i : Int) + 13) 2147483647 (by decide)
    generalize ((c.natAbs : Int) + 7919 * (i : Int) + 13) % 2147483647 = v1 at m1 ⊢
    have m2 := mx (v1 * (v1 + 48271)) 2147483629 (by decide)
    generalize v1 * (v1 + 48271) % 2147483629 = v2 at m2 ⊢
    have m3 := mx (v2 * (v2 + 69621) + 31 * (i : Int)) 2147483647 (by decide)
    generalize (v2 * (v2 + 69621) + 31 * (i : Int)) % 2147483647 = v3 at m3 ⊢
    have rest : (fit 7919 ∧ fit (i : Int)) ∧ 0 < (2147483647 : Int) ∧ (fit v1 ∧ fit (v1 + 48271)) ∧ 0 < (2147483629 : Int) ∧ (fit v2 ∧ fit (v2 + 69621)) ∧ (fit 31 ∧ fit (i : Int)) ∧ 0 < (2147483647 : Int) ∧ (0 < (9 : Int) ∧ fit 9) ∧ 0 < ss[i] ∧ (rs.map D.int).length < sizeLine :=
      ⟨⟨fb _ (by decide) (by decide), fb _ (by omega) (by omega)⟩, by decide, ⟨fb _ (by omega) (by omega), fb _ (by omega) (by omega)⟩, by decide, ⟨fb _ (by omega) (by omega), fb _ (by omega) (by omega)⟩, ⟨fb _ (by decide) (by decide), fb _ (by omega) (by omega)⟩, by decide, ⟨by decide, fb _ (by decide) (by decide)⟩, hb.1, hlen⟩
    obtain ⟨r1, r2, r3, r4, r5, r6, r7, r8, r9, r10⟩ := rest
    have f1 := fin
    cases dg with
    | true =>
      simp only [if_true]
      by_cases hp : 0 < lf
      · simp only [hp, if_true]
        exact ⟨hb.1, hlen, ⟨hb.1, low⟩, fin _ _ _ _ _ (mx _ _ hb.1).1 (mx _ _ hb.1).2⟩
      · simp only [hp, if_false]
        exact ⟨r1, r2, r3, r4, r5, r6, r7, r8, r9, r10, fin _ _ _ _ _ (mx _ _ hb.1).1 (mx _ _ hb.1).2⟩
    | false =>
      simp only [Bool.false_eq_true, if_false]
      exact ⟨r1, r2, r3, r4, r5, r6, r7, r8, r9, r10, fin _ _ _ _ _ (mx _ _ hb.1).1 (mx _ _ hb.1).2⟩
  · rintro env ⟨lf, rs, x, y, z, rfl, dr⟩
    simp only [wSeq, wSet, wRet, wRetN, wIf, wDrop, wFor, wNext, wBreak, wCont, wAppend, wSetIx, wAug, wFrz, wAsg, gN, gT, gNil', gCons', mL, mS, mLT, mMv, mIV, mRng, mRngV, mItems, mOp, mB, mC, mVar, mCons, mNil, mTup, mLst, mCB, mCall, mAnd, mOr, mNot, mAndV, mOrV, mNotV, mIf, mNeg, mSl, mNo, mPart, mPk, mChain2, mChain3, mFld, mComp, mComp2, cN, cT, cNil, cCons, mEnum, mYes, mRev, mLenSet, mLenSetG, mLenSetH, wAugIx, mMeth, mMethS, mFst, mJR, mMv2, wUnp, mTru, truD, mMake, wFld, wNever, setN, setF, fldD, String.reduceEq, List.mem_cons, List.mem_singleton, true_or, or_true, or_false, false_or, List.not_mem_nil, oCount, oSplit, oZfill, oLjust, oMulS, cMod, cDiv, cMul, oAdd, oSub, oMul, oDiv, oMod, oPow, oB, oI, oEq, oEqT, oGeT, oIndex, oIs, oIn, oIx, oMulI, oAddI, oSl, oRng1, oRng2, okL, okT, okS, fLen, fAbs, fInt, fStr, fMin, fMax, fSum, fSorted, fSortedW, fMinW, fList, fTuple, fIsi, fIsiC, tyOf, Ty.isi, ty_int, ty_bool, ty_str, ty_list, ty_tuple, ty_dict, isNon, eqOk_int, eqOk_non, eqOk_bl, eqD_int, eqD_bl, eqD_str, eqD_non, beq_self_eq_true, beq_iff_eq, Bool.and_self, atI_0, atI_1, atI_2, atI_3, atI_4, atI_5, atI_6, vw, vs, lendS, ownS, wipeE, ZL.frz, lendS, hasOb, env0, List.replicate_zero, List.replicate_succ, List.cons_append, Nat.reduceSub, List.map_cons, List.map_nil, List.getElem?_cons_zero, List.getElem?_cons_succ, List.getElem?_nil, List.set_cons_zero, List.set_cons_succ, List.length_cons, List.length_nil, List.length_set, Nat.reduceAdd, Nat.reduceLT, Nat.lt_add_one, Nat.zero_lt_succ, List.append_nil, List.nil_append, cln, clnS, clnL, clnX, List.all_cons, List.all_nil, Bool.and_true, Bool.true_and, and_true, true_and, if_true, if_false, Bool.false_eq_true, decide_eq_true_eq, Bool.true_or, Bool.or_true, Bool.false_or, Bool.or_false, decide_true, decide_false, Bool.and_false, Bool.false_and, reduceCtorEq, Int.reduceBEq, nc_0, nc_1, nc_2, nc_3, nc_4, nc_5, nc_6, Bool.not_true, Bool.not_false, reduceIte]
    rw [List.take_length] at dr
    exact q rs dr

end ZL.K30


namespace ZL.K30
open PySem PySem.Spec PyProof.Rows L2 ZL
theorem getD_at {α : Type} {xs : List α} {i : Nat} {d : α} (f : α → D) (h : i < xs.length) : atI (xs.map f) (i : Int) = some (f (xs.getD i d)) := atI_of (by rw [List.getElem?_map, List.getD_eq_getElem?_getD, List.getElem?_eq_getElem h]; rfl)
theorem u_is_rising : ∀ ds Q E, sp_is_rising ds Q E → w_is_rising (env0 N_is_rising ds) (ends0 Q E) := by
  intro ds Q E h
  rcases h with ⟨t, ns, rfl, hl, q⟩ | ⟨xs, rfl, hl, q⟩
  · have fin : ∀ d : D, (d = .lst (natL ns) ∨ d = .tup (natL ns)) → w_is_rising_s0 [some (.sh, d), none] { nx := fun env' => w_is_rising_s1 env' (ends0 Q E), rt := Q, bk := fun x => False, ct := fun x => False, ex := fun x => E } := fun d hd => by
      rcases hd with rfl | rfl
      all_goals
        simp only [w_is_rising_s0, natL, wSeq, wSet, wRet, wRetN, wIf, wDrop, wFor, wNext, wBreak, wCont, wAppend, wSetIx, wAug, wFrz, wAsg, gN, gT, gNil', gCons', mL, mS, mLT, mMv, mIV, mRng, mRngV, mItems, mOp, mB, mC, mVar, mCons, mNil, mTup, mLst, mCB, mCall, mAnd, mOr, mNot, mAndV, mOrV, mNotV, mIf, mNeg, mSl, mNo, mPart, mPk, mChain2, mChain3, mFld, mComp, mComp2, cN, cT, cNil, cCons, mEnum, mYes, mRev, mLenSet, mLenSetG, mLenSetH, wAugIx, mMeth, mMethS, mFst, mJR, mMv2, wUnp, mTru, truD, mMake, wFld, wNever, setN, setF, fldD, String.reduceEq, List.mem_cons, List.mem_singleton, true_or, or_true, or_false, false_or, List.not_mem_nil, oCount, oSplit, oZfill, oLjust, oMulS, cMod, cDiv, cMul, oAdd, oSub, oMul, oDiv, oMod, oPow, oB, oI, oEq, oEqT, oGeT, oIndex, oIs, oIn, oIx, oMulI, oAddI, oSl, oRng1, oRng2, okL, okT, okS, fLen, fAbs, fInt, fStr, fMin, fMax, fSum, fSorted, fSortedW, fMinW, fList, fTuple, fIsi, fIsiC, tyOf, Ty.isi, ty_int, ty_bool, ty_str, ty_list, ty_tuple, ty_dict, isNon, eqOk_int, eqOk_non, eqOk_bl, eqD_int, eqD_bl, eqD_str, eqD_non, beq_self_eq_true, beq_iff_eq, Bool.and_self, atI_0, atI_1, atI_2, atI_3, atI_4, atI_5, atI_6, vw, vs, lendS, ownS, wipeE, ZL.frz, lendS, hasOb, env0, List.replicate_zero, List.replicate_succ, List.cons_append, Nat.reduceSub, List.map_cons, List.map_nil, List.getElem?_cons_zero, List.getElem?_cons_succ, List.getElem?_nil, List.set_cons_zero, List.set_cons_succ, List.length_cons, List.length_nil, List.length_set, Nat.reduceAdd, Nat.reduceLT, Nat.lt_add_one, Nat.zero_lt_succ, List.append_nil, List.nil_append, cln, clnS, clnL, clnX, List.all_cons, List.all_nil, Bool.and_true, Bool.true_and, and_true, true_and, if_true, if_false, Bool.false_eq_true, decide_eq_true_eq, Bool.true_or, Bool.or_true, Bool.false_or, Bool.or_false, decide_true, decide_false, Bool.and_false, Bool.false_and, reduceCtorEq, Int.reduceBEq, nc_0, nc_1, nc_2, nc_3, nc_4, nc_5, nc_6, Bool.not_true, Bool.not_false, reduceIte, List.length_map]
        refine ⟨⟨by omega, by omega, by omega, by omega⟩, ?_⟩
        refine for_range (fun i env => ∃ x d', env = [some (.sh, d'), x] ∧ (d' = .lst (natL ns) ∨ d' = .tup (natL ns)) ∧ ∀ j, j < i → (decide (ns.getD j 0 < ns.getD (j + 1) 0)) = true) ⟨_, _, rfl, by first | exact .inl rfl | exact .inr rfl, fun j hj => absurd hj (Nat.not_lt_zero _)⟩ ?_ ?_
        · rintro i hi env K ⟨x, d', rfl, hd', hx⟩ hK
          have a0 := getD_at (xs := ns) (i := i) (d := 0) (fun (n : Nat) => D.int (n : Int)) (by omega)
          have a1 := getD_at (xs := ns) (i := i + 1) (d := 0) (fun (n : Nat) => D.int (n : Int)) (by omega)
          rw [show ((i + 1 : Nat) : Int) = 1 + (i : Int) by omega] at a1
          rw [show (i : Int) = 1 + (i : Int) - 1 by omega] at a0
          have fin2 : (if ((ns.getD (i + 1) 0 : Nat) : Int) ≤ ((ns.getD i 0 : Nat) : Int) then Q .sh (.bl false) else K [some (.sh, d'), some (.sh, .int (1 + (i : Int)))]) := by
            refine ifZ (fun z => ?_) fun z => hK _ ⟨_, _, rfl, hd', fun j hj => ?_⟩
            · have e : riseN ns = false := decide_eq_false fun w => by
                have := w i (by omega)
                have := of_decide_eq_true this
                omega
              rw [e] at q
              exact q
            · by_cases e : j = i
              · subst e
                exact decide_eq_true (by omega)
              · exact hx j (by omega)
          rcases hd' with rfl | rfl
          all_goals
            simp only [natL, wSeq, wSet, wRet, wRetN, wIf, wDrop, wFor, wNext, wBreak, wCont, wAppend, wSetIx, wAug, wFrz, wAsg, gN, gT, gNil', gCons', mL, mS, mLT, mMv, mIV, mRng, mRngV, mItems, mOp, mB, mC, mVar, mCons, mNil, mTup, mLst, mCB, mCall, mAnd, mOr, mNot, mAndV, mOrV, mNotV, mIf, mNeg, mSl, mNo, mPart, mPk, mChain2, mChain3, mFld, mComp, mComp2, cN, cT, cNil, cCons, mEnum, mYes, mRev, mLenSet, mLenSetG, mLenSetH, wAugIx, mMeth, mMethS, mFst, mJR, mMv2, wUnp, mTru, truD, mMake, wFld, wNever, setN, setF, fldD, String.reduceEq, List.mem_cons, List.mem_singleton, true_or, or_true, or_false, false_or, List.not_mem_nil, oCount, oSplit, oZfill, oLjust, oMulS, cMod, cDiv, cMul, oAdd, oSub, oMul, oDiv, oMod, oPow, oB, oI, oEq, oEqT, oGeT, oIndex, oIs, oIn, oIx, oMulI, oAddI, oSl, oRng1, oRng2, okL, okT, okS, fLen, fAbs, fInt, fStr, fMin, fMax, fSum, fSorted, fSortedW, fMinW, fList, fTuple, fIsi, fIsiC, tyOf, Ty.isi, ty_int, ty_bool, ty_str, ty_list, ty_tuple, ty_dict, isNon, eqOk_int, eqOk_non, eqOk_bl, eqD_int, eqD_bl, eqD_str, eqD_non, beq_self_eq_true, beq_iff_eq, Bool.and_self, atI_0, atI_1, atI_2, atI_3, atI_4, atI_5, atI_6, vw, vs, lendS, ownS, wipeE, ZL.frz, lendS, hasOb, env0, List.replicate_zero, List.replicate_succ, List.cons_append, Nat.reduceSub, List.map_cons, List.map_nil, List.getElem?_cons_zero, List.getElem?_cons_succ, List.getElem?_nil, List.set_cons_zero, List.set_cons_succ, List.length_cons, List.length_nil, List.length_set, Nat.reduceAdd, Nat.reduceLT, Nat.lt_add_one, Nat.zero_lt_succ, List.append_nil, List.nil_append, cln, clnS, clnL, clnX, List.all_cons, List.all_nil, Bool.and_true, Bool.true_and, and_true, true_and, if_true, if_false, Bool.false_eq_true, decide_eq_true_eq, Bool.true_or, Bool.or_true, Bool.false_or, Bool.or_false, decide_true, decide_false, Bool.and_false, Bool.false_and, reduceCtorEq, Int.reduceBEq, nc_0, nc_1, nc_2, nc_3, nc_4, nc_5, nc_6, Bool.not_true, Bool.not_false, reduceIte]
            simp only [natL] at fin2
            rw [a0, a1]
            exact fin2
        · rintro env ⟨x, d', rfl, hd', hx⟩
          have e : riseN ns = true := decide_eq_true fun j hj => hx j (by omega)
          rw [e] at q
          simp only [w_is_rising_s1, wSeq, wSet, wRet, wRetN, wIf, wDrop, wFor, wNext, wBreak, wCont, wAppend, wSetIx, wAug, wFrz, wAsg, gN, gT, gNil', gCons', mL, mS, mLT, mMv, mIV, mRng, mRngV, mItems, mOp, mB, mC, mVar, mCons, mNil, mTup, mLst, mCB, mCall, mAnd, mOr, mNot, mAndV, mOrV, mNotV, mIf, mNeg, mSl, mNo, mPart, mPk, mChain2, mChain3, mFld, mComp, mComp2, cN, cT, cNil, cCons, mEnum, mYes, mRev, mLenSet, mLenSetG, mLenSetH, wAugIx, mMeth, mMethS, mFst, mJR, mMv2, wUnp, mTru, truD, mMake, wFld, wNever, setN, setF, fldD, String.reduceEq, List.mem_cons, List.mem_singleton, true_or, or_true, or_false, false_or, List.not_mem_nil, oCount, oSplit, oZfill, oLjust, oMulS, cMod, cDiv, cMul, oAdd, oSub, oMul, oDiv, oMod, oPow, oB, oI, oEq, oEqT, oGeT, oIndex, oIs, oIn, oIx, oMulI, oAddI, oSl, oRng1, oRng2, okL, okT, okS, fLen, fAbs, fInt, fStr, fMin, fMax, fSum, fSorted, fSortedW, fMinW, fList, fTuple, fIsi, fIsiC, tyOf, Ty.isi, ty_int, ty_bool, ty_str, ty_list, ty_tuple, ty_dict, isNon, eqOk_int, eqOk_non, eqOk_bl, eqD_int, eqD_bl, eqD_str, eqD_non, beq_self_eq_true, beq_iff_eq, Bool.and_self, atI_0, atI_1, atI_2, atI_3, atI_4, atI_5, atI_6, vw, vs, lendS, ownS, wipeE, ZL.frz, lendS, hasOb, env0, List.replicate_zero, List.replicate_succ, List.cons_append, Nat.reduceSub, List.map_cons, List.map_nil, List.getElem?_cons_zero, List.getElem?_cons_succ, List.getElem?_nil, List.set_cons_zero, List.set_cons_succ, List.length_cons, List.length_nil, List.length_set, Nat.reduceAdd, Nat.reduceLT, Nat.lt_add_one, Nat.zero_lt_succ, List.append_nil, List.nil_append, cln, clnS, clnL, clnX, List.all_cons, List.all_nil, Bool.and_true, Bool.true_and, and_true, true_and, if_true, if_false, Bool.false_eq_true, decide_eq_true_eq, Bool.true_or, Bool.or_true, Bool.false_or, Bool.or_false, decide_true, decide_false, Bool.and_false, Bool.false_and, reduceCtorEq, Int.reduceBEq, nc_0, nc_1, nc_2, nc_3, nc_4, nc_5, nc_6, Bool.not_true, Bool.not_false, reduceIte]
          exact q
    cases t <;> simp only [w_is_rising, N_is_rising, sq_t, sq_f, wSeq, wSet, wRet, wRetN, wIf, wDrop, wFor, wNext, wBreak, wCont, wAppend, wSetIx, wAug, wFrz, wAsg, gN, gT, gNil', gCons', mL, mS, mLT, mMv, mIV, mRng, mRngV, mItems, mOp, mB, mC, mVar, mCons, mNil, mTup, mLst, mCB, mCall, mAnd, mOr, mNot, mAndV, mOrV, mNotV, mIf, mNeg, mSl, mNo, mPart, mPk, mChain2, mChain3, mFld, mComp, mComp2, cN, cT, cNil, cCons, mEnum, mYes, mRev, mLenSet, mLenSetG, mLenSetH, wAugIx, mMeth, mMethS, mFst, mJR, mMv2, wUnp, mTru, truD, mMake, wFld, wNever, setN, setF, fldD, String.reduceEq, List.mem_cons, List.mem_singleton, true_or, or_true, or_false, false_or, List.not_mem_nil, oCount, oSplit, oZfill, oLjust, oMulS, cMod, cDiv, cMul, oAdd, oSub, oMul, oDiv, oMod, oPow, oB, oI, oEq, oEqT, oGeT, oIndex, oIs, oIn, oIx, oMulI, oAddI, oSl, oRng1, oRng2, okL, okT, okS, fLen, fAbs, fInt, fStr, fMin, fMax, fSum, fSorted, fSortedW, fMinW, fList, fTuple, fIsi, fIsiC, tyOf, Ty.isi, ty_int, ty_bool, ty_str, ty_list, ty_tuple, ty_dict, isNon, eqOk_int, eqOk_non, eqOk_bl, eqD_int, eqD_bl, eqD_str, eqD_non, beq_self_eq_true, beq_iff_eq, Bool.and_self, atI_0, atI_1, atI_2, atI_3, atI_4, atI_5, atI_6, vw, vs, lendS, ownS, wipeE, ZL.frz, lendS, hasOb, env0, List.replicate_zero, List.replicate_succ, List.cons_append, Nat.reduceSub, List.map_cons, List.map_nil, List.getElem?_cons_zero, List.getElem?_cons_succ, List.getElem?_nil, List.set_cons_zero, List.set_cons_succ, List.length_cons, List.length_nil, List.length_set, Nat.reduceAdd, Nat.reduceLT, Nat.lt_add_one, Nat.zero_lt_succ, List.append_nil, List.nil_append, cln, clnS, clnL, clnX, List.all_cons, List.all_nil, Bool.and_true, Bool.true_and, and_true, true_and, if_true, if_false, Bool.false_eq_true, decide_eq_true_eq, Bool.true_or, Bool.or_true, Bool.false_or, Bool.or_false, decide_true, decide_false, Bool.and_false, Bool.false_and, reduceCtorEq, Int.reduceBEq, nc_0, nc_1, nc_2, nc_3, nc_4, nc_5, nc_6, Bool.not_true, Bool.not_false, reduceIte]
    · exact fin _ (.inl rfl)
    · exact fin _ (.inr rfl)
  · simp only [w_is_rising, w_is_rising_s0, N_is_rising, wSeq, wSet, wRet, wRetN, wIf, wDrop, wFor, wNext, wBreak, wCont, wAppend, wSetIx, wAug, wFrz, wAsg, gN, gT, gNil', gCons', mL, mS, mLT, mMv, mIV, mRng, mRngV, mItems, mOp, mB, mC, mVar, mCons, mNil, mTup, mLst, mCB, mCall, mAnd, mOr, mNot, mAndV, mOrV, mNotV, mIf, mNeg, mSl, mNo, mPart, mPk, mChain2, mChain3, mFld, mComp, mComp2, cN, cT, cNil, cCons, mEnum, mYes, mRev, mLenSet, mLenSetG, mLenSetH, wAugIx, mMeth, mMethS, mFst, mJR, mMv2, wUnp, mTru, truD, mMake, wFld, wNever, setN, setF, fldD, String.reduceEq, List.mem_cons, List.mem_singleton, true_or, or_true, or_false, false_or, List.not_mem_nil, oCount, oSplit, oZfill, oLjust, oMulS, cMod, cDiv, cMul, oAdd, oSub, oMul, oDiv, oMod, oPow, oB, oI, oEq, oEqT, oGeT, oIndex, oIs, oIn, oIx, oMulI, oAddI, oSl, oRng1, oRng2, okL, okT, okS, fLen, fAbs, fInt, fStr, fMin, fMax, fSum, fSorted, fSortedW, fMinW, fList, fTuple, fIsi, fIsiC, tyOf, Ty.isi, ty_int, ty_bool, ty_str, ty_list, ty_tuple, ty_dict, isNon, eqOk_int, eqOk_non, eqOk_bl, eqD_int, eqD_bl, eqD_str, eqD_non, beq_self_eq_true, beq_iff_eq, Bool.and_self, atI_0, atI_1, atI_2, atI_3, atI_4, atI_5, atI_6, vw, vs, lendS, ownS, wipeE, ZL.frz, lendS, hasOb, env0, List.replicate_zero, List.replicate_succ, List.cons_append, Nat.reduceSub, List.map_cons, List.map_nil, List.getElem?_cons_zero, List.getElem?_cons_succ, List.getElem?_nil, List.set_cons_zero, List.set_cons_succ, List.length_cons, List.length_nil, List.length_set, Nat.reduceAdd, Nat.reduceLT, Nat.lt_add_one, Nat.zero_lt_succ, List.append_nil, List.nil_append, cln, clnS, clnL, clnX, List.all_cons, List.all_nil, Bool.and_true, Bool.true_and, and_true, true_and, if_true, if_false, Bool.false_eq_true, decide_eq_true_eq, Bool.true_or, Bool.or_true, Bool.false_or, Bool.or_false, decide_true, decide_false, Bool.and_false, Bool.false_and, reduceCtorEq, Int.reduceBEq, nc_0, nc_1, nc_2, nc_3, nc_4, nc_5, nc_6, Bool.not_true, Bool.not_false, reduceIte, List.length_map]
    refine ⟨⟨by omega, by omega, by omega, by omega⟩, ?_⟩
    refine for_range (fun i env => ∃ x, env = [some (.sh, .lst (xs.map strT)), x] ∧ ∀ j, j < i → (decide (xs.getD j [] < xs.getD (j + 1) [])) = true) ⟨_, rfl, fun j hj => absurd hj (Nat.not_lt_zero _)⟩ ?_ ?_
    · rintro i hi env K ⟨x, rfl, hx⟩ hK
      have a0 := getD_at (xs := xs) (i := i) (d := []) strT (by omega)
      have a1 := getD_at (xs := xs) (i := i + 1) (d := []) strT (by omega)
      rw [show ((i + 1 : Nat) : Int) = 1 + (i : Int) by omega] at a1
      rw [show (i : Int) = 1 + (i : Int) - 1 by omega] at a0
      simp only [wSeq, wSet, wRet, wRetN, wIf, wDrop, wFor, wNext, wBreak, wCont, wAppend, wSetIx, wAug, wFrz, wAsg, gN, gT, gNil', gCons', mL, mS, mLT, mMv, mIV, mRng, mRngV, mItems, mOp, mB, mC, mVar, mCons, mNil, mTup, mLst, mCB, mCall, mAnd, mOr, mNot, mAndV, mOrV, mNotV, mIf, mNeg, mSl, mNo, mPart, mPk, mChain2, mChain3, mFld, mComp, mComp2, cN, cT, cNil, cCons, mEnum, mYes, mRev, mLenSet, mLenSetG, mLenSetH, wAugIx, mMeth, mMethS, mFst, mJR, mMv2, wUnp, mTru, truD, mMake, wFld, wNever, setN, setF, fldD, String.reduceEq, List.mem_cons, List.mem_singleton, true_or, or_true, or_false, false_or, List.not_mem_nil, oCount, oSplit, oZfill, oLjust, oMulS, cMod, cDiv, cMul, oAdd, oSub, oMul, oDiv, oMod, oPow, oB, oI, oEq, oEqT, oGeT, oIndex, oIs, oIn, oIx, oMulI, oAddI, oSl, oRng1, oRng2, okL, okT, okS, fLen, fAbs, fInt, fStr, fMin, fMax, fSum, fSorted, fSortedW, fMinW, fList, fTuple, fIsi, fIsiC, tyOf, Ty.isi, ty_int, ty_bool, ty_str, ty_list, ty_tuple, ty_dict, isNon, eqOk_int, eqOk_non, eqOk_bl, eqD_int, eqD_bl, eqD_str, eqD_non, beq_self_eq_true, beq_iff_eq, Bool.and_self, atI_0, atI_1, atI_2, atI_3, atI_4, atI_5, atI_6, vw, vs, lendS, ownS, wipeE, ZL.frz, lendS, hasOb, env0, List.replicate_zero, List.replicate_succ, List.cons_append, Nat.reduceSub, List.map_cons, List.map_nil, List.getElem?_cons_zero, List.getElem?_cons_succ, List.getElem?_nil, List.set_cons_zero, List.set_cons_succ, List.length_cons, List.length_nil, List.length_set, Nat.reduceAdd, Nat.reduceLT, Nat.lt_add_one, Nat.zero_lt_succ, List.append_nil, List.nil_append, cln, clnS, clnL, clnX, List.all_cons, List.all_nil, Bool.and_true, Bool.true_and, and_true, true_and, if_true, if_false, Bool.false_eq_true, decide_eq_true_eq, Bool.true_or, Bool.or_true, Bool.false_or, Bool.or_false, decide_true, decide_false, Bool.and_false, Bool.false_and, reduceCtorEq, Int.reduceBEq, nc_0, nc_1, nc_2, nc_3, nc_4, nc_5, nc_6, Bool.not_true, Bool.not_false, reduceIte]
      rw [a0, a1]
      show (if (!decide (xs.getD i [] < xs.getD (i + 1) [])) = true then _ else _)
      by_cases z : xs.getD i [] < xs.getD (i + 1) []
      · rw [decide_eq_true z, if_neg (by decide)]
        refine hK _ ⟨_, rfl, fun j hj => ?_⟩
        by_cases e : j = i
        · subst e
          exact decide_eq_true z
        · exact hx j (by omega)
      · rw [decide_eq_false z, if_pos (by decide)]
        have e : riseT xs = false := decide_eq_false fun w => z (of_decide_eq_true (w i (by omega)))
        rw [e] at q
        exact q
    · rintro env ⟨x, rfl, hx⟩
      have e : riseT xs = true := decide_eq_true fun j hj => hx j (by omega)
      rw [e] at q
      simp only [w_is_rising_s1, wSeq, wSet, wRet, wRetN, wIf, wDrop, wFor, wNext, wBreak, wCont, wAppend, wSetIx, wAug, wFrz, wAsg, gN, gT, gNil', gCons', mL, mS, mLT, mMv, mIV, mRng, mRngV, mItems, mOp, mB, mC, mVar, mCons, mNil, mTup, mLst, mCB, mCall, mAnd, mOr, mNot, mAndV, mOrV, mNotV, mIf, mNeg, mSl, mNo, mPart, mPk, mChain2, mChain3, mFld, mComp, mComp2, cN, cT, cNil, cCons, mEnum, mYes, mRev, mLenSet, mLenSetG, mLenSetH, wAugIx, mMeth, mMethS, mFst, mJR, mMv2, wUnp, mTru, truD, mMake, wFld, wNever, setN, setF, fldD, String.reduceEq, List.mem_cons, List.mem_singleton, true_or, or_true, or_false, false_or, List.not_mem_nil, oCount, oSplit, oZfill, oLjust, oMulS, cMod, cDiv, cMul, oAdd, oSub, oMul, oDiv, oMod, oPow, oB, oI, oEq, oEqT, oGeT, oIndex, oIs, oIn, oIx, oMulI, oAddI, oSl, oRng1, oRng2, okL, okT, okS, fLen, fAbs, fInt, fStr, fMin, fMax, fSum, fSorted, fSortedW, fMinW, fList, fTuple, fIsi, fIsiC, tyOf, Ty.isi, ty_int, ty_bool, ty_str, ty_list, ty_tuple, ty_dict, isNon, eqOk_int, eqOk_non, eqOk_bl, eqD_int, eqD_bl, eqD_str, eqD_non, beq_self_eq_true, beq_iff_eq, Bool.and_self, atI_0, atI_1, atI_2, atI_3, atI_4, atI_5, atI_6, vw, vs, lendS, ownS, wipeE, ZL.frz, lendS, hasOb, env0, List.replicate_zero, List.replicate_succ, List.cons_append, Nat.reduceSub, List.map_cons, List.map_nil, List.getElem?_cons_zero, List.getElem?_cons_succ, List.getElem?_nil, List.set_cons_zero, List.set_cons_succ, List.length_cons, List.length_nil, List.length_set, Nat.reduceAdd, Nat.reduceLT, Nat.lt_add_one, Nat.zero_lt_succ, List.append_nil, List.nil_append, cln, clnS, clnL, clnX, List.all_cons, List.all_nil, Bool.and_true, Bool.true_and, and_true, true_and, if_true, if_false, Bool.false_eq_true, decide_eq_true_eq, Bool.true_or, Bool.or_true, Bool.false_or, Bool.or_false, decide_true, decide_false, Bool.and_false, Bool.false_and, reduceCtorEq, Int.reduceBEq, nc_0, nc_1, nc_2, nc_3, nc_4, nc_5, nc_6, Bool.not_true, Bool.not_false, reduceIte]
      exact q
theorem tx_eq (a b : List Nat) : (tx a == tx b) = decide (a = b) := by
  rw [Bool.eq_iff_iff]
  simp only [beq_iff_eq, decide_eq_true_eq]
  exact ⟨tx_inj, fun h => by rw [h]⟩
theorem one_eq (x y : Nat) : ((⟨#[x]⟩ : Str) == tx [y]) = decide (x = y) := by
  rw [Bool.eq_iff_iff]
  simp [tx]
theorem ze_tx : Str.ofString "0" = tx [48] := by decide
theorem in_digits2 (c : Nat) : decide (c ∈ (Str.ofString "0123456789").cps.toList) = isD c := by
  have e : (Str.ofString "0123456789").cps.toList = [48, 49, 50, 51, 52, 53, 54, 55, 56, 57] := by decide
  unfold isD
  rw [e, decide_eq_decide]
  simp only [List.mem_cons, List.not_mem_nil, or_false]
  omega
theorem in_name2 (c : Nat) : decide (c ∈ (Str.ofString "abcdefghijklmnopqrstuvwxyz0123456789").cps.toList) = nmC c := by
  have e : (Str.ofString "abcdefghijklmnopqrstuvwxyz0123456789").cps.toList = [97, 98, 99, 100, 101, 102, 103, 104, 105, 106, 107, 108, 109, 110, 111, 112, 113, 114, 115, 116, 117, 118, 119, 120, 121, 122, 48, 49, 50, 51, 52, 53, 54, 55, 56, 57] := by decide
  unfold nmC
  rw [e, decide_eq_decide]
  simp only [List.mem_cons, List.not_mem_nil, or_false]
  omega
theorem int_val {l : Tx} (h : l.all isD = true) (h0 : l ≠ []) (hl : l.length ≤ 600) : intText? (tx l) = some ((val l : Nat) : Int) :=
  PySem.intText_digits (x := tx l) (fun c hc => by
    have := List.all_eq_true.1 h c hc
    exact of_decide_eq_true this) h0 (by rw [tx_len]; omega)
theorem u_number_of : ∀ ds Q E, sp_number_of ds Q E → w_number_of (env0 N_number_of ds) (ends0 Q E) := by
  intro ds Q E h
  obtain ⟨l, rfl, ok, q⟩ := h
  have hz : 3000 ≤ sizeLine := by decide
  have hl := ok.len
  simp only [w_number_of, w_number_of_s0, w_number_of_s1, N_number_of, strT, wSeq, wSet, wRet, wRetN, wIf, wDrop, wFor, wNext, wBreak, wCont, wAppend, wSetIx, wAug, wFrz, wAsg, gN, gT, gNil', gCons', mL, mS, mLT, mMv, mIV, mRng, mRngV, mItems, mOp, mB, mC, mVar, mCons, mNil, mTup, mLst, mCB, mCall, mAnd, mOr, mNot, mAndV, mOrV, mNotV, mIf, mNeg, mSl, mNo, mPart, mPk, mChain2, mChain3, mFld, mComp, mComp2, cN, cT, cNil, cCons, mEnum, mYes, mRev, mLenSet, mLenSetG, mLenSetH, wAugIx, mMeth, mMethS, mFst, mJR, mMv2, wUnp, mTru, truD, mMake, wFld, wNever, setN, setF, fldD, String.reduceEq, List.mem_cons, List.mem_singleton, true_or, or_true, or_false, false_or, List.not_mem_nil, oCount, oSplit, oZfill, oLjust, oMulS, cMod, cDiv, cMul, oAdd, oSub, oMul, oDiv, oMod, oPow, oB, oI, oEq, oEqT, oGeT, oIndex, oIs, oIn, oIx, oMulI, oAddI, oSl, oRng1, oRng2, okL, okT, okS, fLen, fAbs, fInt, fStr, fMin, fMax, fSum, fSorted, fSortedW, fMinW, fList, fTuple, fIsi, fIsiC, tyOf, Ty.isi, ty_int, ty_bool, ty_str, ty_list, ty_tuple, ty_dict, isNon, eqOk_int, eqOk_non, eqOk_bl, eqD_int, eqD_bl, eqD_str, eqD_non, beq_self_eq_true, beq_iff_eq, Bool.and_self, atI_0, atI_1, atI_2, atI_3, atI_4, atI_5, atI_6, vw, vs, lendS, ownS, wipeE, ZL.frz, lendS, hasOb, env0, List.replicate_zero, List.replicate_succ, List.cons_append, Nat.reduceSub, List.map_cons, List.map_nil, List.getElem?_cons_zero, List.getElem?_cons_succ, List.getElem?_nil, List.set_cons_zero, List.set_cons_succ, List.length_cons, List.length_nil, List.length_set, Nat.reduceAdd, Nat.reduceLT, Nat.lt_add_one, Nat.zero_lt_succ, List.append_nil, List.nil_append, cln, clnS, clnL, clnX, List.all_cons, List.all_nil, Bool.and_true, Bool.true_and, and_true, true_and, if_true, if_false, Bool.false_eq_true, decide_eq_true_eq, Bool.true_or, Bool.or_true, Bool.false_or, Bool.or_false, decide_true, decide_false, Bool.and_false, Bool.false_and, reduceCtorEq, Int.reduceBEq, nc_0, nc_1, nc_2, nc_3, nc_4, nc_5, nc_6, Bool.not_true, Bool.not_false, reduceIte, em_tx]
  refine ifZ (fun z => ?_) fun z => ?_
  · have e : numO l = none := if_pos (tx_inj z)
    rw [e] at q
    exact q
  have hne : l ≠ [] := fun e => z (by rw [e])
  rw [signs_tx]
  refine for_items l _ (fun i env => ∃ x, env = [some (.sh, .str (tx l)), x] ∧ ∀ c ∈ l.take i, isD c = true) ⟨_, rfl, fun c hc => by simp at hc⟩ ?_ ?_
  · rintro i c hc env K ⟨x, rfl, hd⟩ hK
    simp only [wSeq, wSet, wRet, wRetN, wIf, wDrop, wFor, wNext, wBreak, wCont, wAppend, wSetIx, wAug, wFrz, wAsg, gN, gT, gNil', gCons', mL, mS, mLT, mMv, mIV, mRng, mRngV, mItems, mOp, mB, mC, mVar, mCons, mNil, mTup, mLst, mCB, mCall, mAnd, mOr, mNot, mAndV, mOrV, mNotV, mIf, mNeg, mSl, mNo, mPart, mPk, mChain2, mChain3, mFld, mComp, mComp2, cN, cT, cNil, cCons, mEnum, mYes, mRev, mLenSet, mLenSetG, mLenSetH, wAugIx, mMeth, mMethS, mFst, mJR, mMv2, wUnp, mTru, truD, mMake, wFld, wNever, setN, setF, fldD, String.reduceEq, List.mem_cons, List.mem_singleton, true_or, or_true, or_false, false_or, List.not_mem_nil, oCount, oSplit, oZfill, oLjust, oMulS, cMod, cDiv, cMul, oAdd, oSub, oMul, oDiv, oMod, oPow, oB, oI, oEq, oEqT, oGeT, oIndex, oIs, oIn, oIx, oMulI, oAddI, oSl, oRng1, oRng2, okL, okT, okS, fLen, fAbs, fInt, fStr, fMin, fMax, fSum, fSorted, fSortedW, fMinW, fList, fTuple, fIsi, fIsiC, tyOf, Ty.isi, ty_int, ty_bool, ty_str, ty_list, ty_tuple, ty_dict, isNon, eqOk_int, eqOk_non, eqOk_bl, eqD_int, eqD_bl, eqD_str, eqD_non, beq_self_eq_true, beq_iff_eq, Bool.and_self, atI_0, atI_1, atI_2, atI_3, atI_4, atI_5, atI_6, vw, vs, lendS, ownS, wipeE, ZL.frz, lendS, hasOb, env0, List.replicate_zero, List.replicate_succ, List.cons_append, Nat.reduceSub, List.map_cons, List.map_nil, List.getElem?_cons_zero, List.getElem?_cons_succ, List.getElem?_nil, List.set_cons_zero, List.set_cons_succ, List.length_cons, List.length_nil, List.length_set, Nat.reduceAdd, Nat.reduceLT, Nat.lt_add_one, Nat.zero_lt_succ, List.append_nil, List.nil_append, cln, clnS, clnL, clnX, List.all_cons, List.all_nil, Bool.and_true, Bool.true_and, and_true, true_and, if_true, if_false, Bool.false_eq_true, decide_eq_true_eq, Bool.true_or, Bool.or_true, Bool.false_or, Bool.or_false, decide_true, decide_false, Bool.and_false, Bool.false_and, reduceCtorEq, Int.reduceBEq, nc_0, nc_1, nc_2, nc_3, nc_4, nc_5, nc_6, Bool.not_true, Bool.not_false, reduceIte, occ1, in_digits2]
    cases e : isD c with
    | true =>
      rw [if_neg (by decide)]
      refine hK _ ⟨_, rfl, fun y hy => ?_⟩
      rw [take_snoc hc] at hy
      rcases List.mem_append.1 hy with hy | hy
      · exact hd y hy
      · rw [List.mem_singleton.1 hy]; exact e
    | false =>
      rw [if_pos (by decide)]
      have e2 : numO l = none := by
        unfold numO
        rw [if_neg hne, if_pos]
        rw [List.all_eq_false]
        exact ⟨c, List.mem_of_getElem? hc, by rw [e]; decide⟩
      rw [e2] at q
      exact q
  · rintro env ⟨x, rfl, hd⟩
    rw [List.take_length] at hd
    have hall : l.all isD = true := List.all_eq_true.2 hd
    obtain ⟨c, r, rfl⟩ := List.exists_cons_of_ne_nil hne
    have a0 : atI (c :: r) 0 = some c := atI_nat (by decide) rfl
    simp only [w_number_of_s2, w_number_of_s3, w_number_of_s4, wSeq, wSet, wRet, wRetN, wIf, wDrop, wFor, wNext, wBreak, wCont, wAppend, wSetIx, wAug, wFrz, wAsg, gN, gT, gNil', gCons', mL, mS, mLT, mMv, mIV, mRng, mRngV, mItems, mOp, mB, mC, mVar, mCons, mNil, mTup, mLst, mCB, mCall, mAnd, mOr, mNot, mAndV, mOrV, mNotV, mIf, mNeg, mSl, mNo, mPart, mPk, mChain2, mChain3, mFld, mComp, mComp2, cN, cT, cNil, cCons, mEnum, mYes, mRev, mLenSet, mLenSetG, mLenSetH, wAugIx, mMeth, mMethS, mFst, mJR, mMv2, wUnp, mTru, truD, mMake, wFld, wNever, setN, setF, fldD, String.reduceEq, List.mem_cons, List.mem_singleton, true_or, or_true, or_false, false_or, List.not_mem_nil, oCount, oSplit, oZfill, oLjust, oMulS, cMod, cDiv, cMul, oAdd, oSub, oMul, oDiv, oMod, oPow, oB, oI, oEq, oEqT, oGeT, oIndex, oIs, oIn, oIx, oMulI, oAddI, oSl, oRng1, oRng2, okL, okT, okS, fLen, fAbs, fInt, fStr, fMin, fMax, fSum, fSorted, fSortedW, fMinW, fList, fTuple, fIsi, fIsiC, tyOf, Ty.isi, ty_int, ty_bool, ty_str, ty_list, ty_tuple, ty_dict, isNon, eqOk_int, eqOk_non, eqOk_bl, eqD_int, eqD_bl, eqD_str, eqD_non, beq_self_eq_true, beq_iff_eq, Bool.and_self, atI_0, atI_1, atI_2, atI_3, atI_4, atI_5, atI_6, vw, vs, lendS, ownS, wipeE, ZL.frz, lendS, hasOb, env0, List.replicate_zero, List.replicate_succ, List.cons_append, Nat.reduceSub, List.map_cons, List.map_nil, List.getElem?_cons_zero, List.getElem?_cons_succ, List.getElem?_nil, List.set_cons_zero, List.set_cons_succ, List.length_cons, List.length_nil, List.length_set, Nat.reduceAdd, Nat.reduceLT, Nat.lt_add_one, Nat.zero_lt_succ, List.append_nil, List.nil_append, cln, clnS, clnL, clnX, List.all_cons, List.all_nil, Bool.and_true, Bool.true_and, and_true, true_and, if_true, if_false, Bool.false_eq_true, decide_eq_true_eq, Bool.true_or, Bool.or_true, Bool.false_or, Bool.or_false, decide_true, decide_false, Bool.and_false, Bool.false_and, reduceCtorEq, Int.reduceBEq, nc_0, nc_1, nc_2, nc_3, nc_4, nc_5, nc_6, Bool.not_true, Bool.not_false, reduceIte, tx_len, a0, ze_tx, one_eq]
    refine ⟨by simp only [List.length_cons] at hl; omega, ?_⟩
    have t3 : numO (c :: r) = some (val (c :: r)) → (r.length + 1 ≤ sizeLine ∧ if (4000 : Int) < ((r.length + 1 : Nat) : Int) then Q .sh .non else r.length + 1 ≤ 640 ∧ ∃ m, intText? (tx (c :: r)) = some m ∧ Q .sh (.int m)) := fun e => by
      simp only [List.length_cons] at hl
      rw [e] at q
      refine ⟨by omega, ?_⟩
      rw [if_neg (by omega)]
      exact ⟨by omega, _, int_val hall hne (by simp only [List.length_cons]; omega), q⟩
    have hf : ¬ (c :: r).all isD = false := by rw [hall]; decide
    refine ifZ (fun z1 => ⟨by simp only [List.length_cons] at hl; omega, ifZ (fun z2 => ?_) fun z2 => t3 ?_⟩) fun z1 => t3 ?_
    · have e : numO (c :: r) = none := by
        unfold numO
        rw [if_neg hne, if_neg hf, if_pos ⟨by simp only [List.length_cons]; omega, z2⟩]
      rw [e] at q
      exact q
    · unfold numO
      rw [if_neg hne, if_neg hf, if_neg fun w => z2 w.2]
    · unfold numO
      rw [if_neg hne, if_neg hf, if_neg fun w => z1 (by have := w.1; simp only [List.length_cons] at this; omega)]
theorem u_is_name : ∀ ds Q E, sp_is_name ds Q E → w_is_name (env0 N_is_name ds) (ends0 Q E) := by
  intro ds Q E h
  obtain ⟨l, rfl, ok, q⟩ := h
  have hz : 3000 ≤ sizeLine := by decide
  have hl := ok.len
  simp only [w_is_name, w_is_name_s0, w_is_name_s1, N_is_name, strT, wSeq, wSet, wRet, wRetN, wIf, wDrop, wFor, wNext, wBreak, wCont, wAppend, wSetIx, wAug, wFrz, wAsg, gN, gT, gNil', gCons', mL, mS, mLT, mMv, mIV, mRng, mRngV, mItems, mOp, mB, mC, mVar, mCons, mNil, mTup, mLst, mCB, mCall, mAnd, mOr, mNot, mAndV, mOrV, mNotV, mIf, mNeg, mSl, mNo, mPart, mPk, mChain2, mChain3, mFld, mComp, mComp2, cN, cT, cNil, cCons, mEnum, mYes, mRev, mLenSet, mLenSetG, mLenSetH, wAugIx, mMeth, mMethS, mFst, mJR, mMv2, wUnp, mTru, truD, mMake, wFld, wNever, setN, setF, fldD, String.reduceEq, List.mem_cons, List.mem_singleton, true_or, or_true, or_false, false_or, List.not_mem_nil, oCount, oSplit, oZfill, oLjust, oMulS, cMod, cDiv, cMul, oAdd, oSub, oMul, oDiv, oMod, oPow, oB, oI, oEq, oEqT, oGeT, oIndex, oIs, oIn, oIx, oMulI, oAddI, oSl, oRng1, oRng2, okL, okT, okS, fLen, fAbs, fInt, fStr, fMin, fMax, fSum, fSorted, fSortedW, fMinW, fList, fTuple, fIsi, fIsiC, tyOf, Ty.isi, ty_int, ty_bool, ty_str, ty_list, ty_tuple, ty_dict, isNon, eqOk_int, eqOk_non, eqOk_bl, eqD_int, eqD_bl, eqD_str, eqD_non, beq_self_eq_true, beq_iff_eq, Bool.and_self, atI_0, atI_1, atI_2, atI_3, atI_4, atI_5, atI_6, vw, vs, lendS, ownS, wipeE, ZL.frz, lendS, hasOb, env0, List.replicate_zero, List.replicate_succ, List.cons_append, Nat.reduceSub, List.map_cons, List.map_nil, List.getElem?_cons_zero, List.getElem?_cons_succ, List.getElem?_nil, List.set_cons_zero, List.set_cons_succ, List.length_cons, List.length_nil, List.length_set, Nat.reduceAdd, Nat.reduceLT, Nat.lt_add_one, Nat.zero_lt_succ, List.append_nil, List.nil_append, cln, clnS, clnL, clnX, List.all_cons, List.all_nil, Bool.and_true, Bool.true_and, and_true, true_and, if_true, if_false, Bool.false_eq_true, decide_eq_true_eq, Bool.true_or, Bool.or_true, Bool.false_or, Bool.or_false, decide_true, decide_false, Bool.and_false, Bool.false_and, reduceCtorEq, Int.reduceBEq, nc_0, nc_1, nc_2, nc_3, nc_4, nc_5, nc_6, Bool.not_true, Bool.not_false, reduceIte, tx_len, signs_tx]
  have no : ¬ (1 ≤ l.length ∧ l.length ≤ 12) → Q .sh (.bl false) := fun z => by
    have e : nameB l = false := by unfold nameB; rw [decide_eq_false z]; rfl
    rw [e] at q
    exact q
  refine ⟨by omega, ?_⟩
  refine ifZ (fun z => no (by omega)) fun z1 => ⟨by omega, ifZ (fun z => no (by omega)) fun z2 => ?_⟩
  refine for_items l _ (fun i env => ∃ x, env = [some (.sh, .str (tx l)), x] ∧ ∀ c ∈ l.take i, nmC c = true) ⟨_, rfl, fun c hc => by simp at hc⟩ ?_ ?_
  · rintro i c hc env K ⟨x, rfl, hd⟩ hK
    simp only [wSeq, wSet, wRet, wRetN, wIf, wDrop, wFor, wNext, wBreak, wCont, wAppend, wSetIx, wAug, wFrz, wAsg, gN, gT, gNil', gCons', mL, mS, mLT, mMv, mIV, mRng, mRngV, mItems, mOp, mB, mC, mVar, mCons, mNil, mTup, mLst, mCB, mCall, mAnd, mOr, mNot, mAndV, mOrV, mNotV, mIf, mNeg, mSl, mNo, mPart, mPk, mChain2, mChain3, mFld, mComp, mComp2, cN, cT, cNil, cCons, mEnum, mYes, mRev, mLenSet, mLenSetG, mLenSetH, wAugIx, mMeth, mMethS, mFst, mJR, mMv2, wUnp, mTru, truD, mMake, wFld, wNever, setN, setF, fldD, String.reduceEq, List.mem_cons, List.mem_singleton, true_or, or_true, or_false, false_or, List.not_mem_nil, oCount, oSplit, oZfill, oLjust, oMulS, cMod, cDiv, cMul, oAdd, oSub, oMul, oDiv, oMod, oPow, oB, oI, oEq, oEqT, oGeT, oIndex, oIs, oIn, oIx, oMulI, oAddI, oSl, oRng1, oRng2, okL, okT, okS, fLen, fAbs, fInt, fStr, fMin, fMax, fSum, fSorted, fSortedW, fMinW, fList, fTuple, fIsi, fIsiC, tyOf, Ty.isi, ty_int, ty_bool, ty_str, ty_list, ty_tuple, ty_dict, isNon, eqOk_int, eqOk_non, eqOk_bl, eqD_int, eqD_bl, eqD_str, eqD_non, beq_self_eq_true, beq_iff_eq, Bool.and_self, atI_0, atI_1, atI_2, atI_3, atI_4, atI_5, atI_6, vw, vs, lendS, ownS, wipeE, ZL.frz, lendS, hasOb, env0, List.replicate_zero, List.replicate_succ, List.cons_append, Nat.reduceSub, List.map_cons, List.map_nil, List.getElem?_cons_zero, List.getElem?_cons_succ, List.getElem?_nil, List.set_cons_zero, List.set_cons_succ, List.length_cons, List.length_nil, List.length_set, Nat.reduceAdd, Nat.reduceLT, Nat.lt_add_one, Nat.zero_lt_succ, List.append_nil, List.nil_append, cln, clnS, clnL, clnX, List.all_cons, List.all_nil, Bool.and_true, Bool.true_and, and_true, true_and, if_true, if_false, Bool.false_eq_true, decide_eq_true_eq, Bool.true_or, Bool.or_true, Bool.false_or, Bool.or_false, decide_true, decide_false, Bool.and_false, Bool.false_and, reduceCtorEq, Int.reduceBEq, nc_0, nc_1, nc_2, nc_3, nc_4, nc_5, nc_6, Bool.not_true, Bool.not_false, reduceIte, occ1, in_name2]
    cases e : nmC c with
    | true =>
      rw [if_neg (by decide)]
      refine hK _ ⟨_, rfl, fun y hy => ?_⟩
      rw [take_snoc hc] at hy
      rcases List.mem_append.1 hy with hy | hy
      · exact hd y hy
      · rw [List.mem_singleton.1 hy]; exact e
    | false =>
      rw [if_pos (by decide)]
      have e2 : nameB l = false := by
        unfold nameB
        have : l.all nmC = false := List.all_eq_false.2 ⟨c, List.mem_of_getElem? hc, by rw [e]; decide⟩
        rw [this, Bool.and_false]
      rw [e2] at q
      exact q
  · rintro env ⟨x, rfl, hd⟩
    rw [List.take_length] at hd
    have e2 : nameB l = true := by
      unfold nameB
      rw [List.all_eq_true.2 hd, decide_eq_true (by omega)]
      rfl
    rw [e2] at q
    simp only [w_is_name_s2, wSeq, wSet, wRet, wRetN, wIf, wDrop, wFor, wNext, wBreak, wCont, wAppend, wSetIx, wAug, wFrz, wAsg, gN, gT, gNil', gCons', mL, mS, mLT, mMv, mIV, mRng, mRngV, mItems, mOp, mB, mC, mVar, mCons, mNil, mTup, mLst, mCB, mCall, mAnd, mOr, mNot, mAndV, mOrV, mNotV, mIf, mNeg, mSl, mNo, mPart, mPk, mChain2, mChain3, mFld, mComp, mComp2, cN, cT, cNil, cCons, mEnum, mYes, mRev, mLenSet, mLenSetG, mLenSetH, wAugIx, mMeth, mMethS, mFst, mJR, mMv2, wUnp, mTru, truD, mMake, wFld, wNever, setN, setF, fldD, String.reduceEq, List.mem_cons, List.mem_singleton, true_or, or_true, or_false, false_or, List.not_mem_nil, oCount, oSplit, oZfill, oLjust, oMulS, cMod, cDiv, cMul, oAdd, oSub, oMul, oDiv, oMod, oPow, oB, oI, oEq, oEqT, oGeT, oIndex, oIs, oIn, oIx, oMulI, oAddI, oSl, oRng1, oRng2, okL, okT, okS, fLen, fAbs, fInt, fStr, fMin, fMax, fSum, fSorted, fSortedW, fMinW, fList, fTuple, fIsi, fIsiC, tyOf, Ty.isi, ty_int, ty_bool, ty_str, ty_list, ty_tuple, ty_dict, isNon, eqOk_int, eqOk_non, eqOk_bl, eqD_int, eqD_bl, eqD_str, eqD_non, beq_self_eq_true, beq_iff_eq, Bool.and_self, atI_0, atI_1, atI_2, atI_3, atI_4, atI_5, atI_6, vw, vs, lendS, ownS, wipeE, ZL.frz, lendS, hasOb, env0, List.replicate_zero, List.replicate_succ, List.cons_append, Nat.reduceSub, List.map_cons, List.map_nil, List.getElem?_cons_zero, List.getElem?_cons_succ, List.getElem?_nil, List.set_cons_zero, List.set_cons_succ, List.length_cons, List.length_nil, List.length_set, Nat.reduceAdd, Nat.reduceLT, Nat.lt_add_one, Nat.zero_lt_succ, List.append_nil, List.nil_append, cln, clnS, clnL, clnX, List.all_cons, List.all_nil, Bool.and_true, Bool.true_and, and_true, true_and, if_true, if_false, Bool.false_eq_true, decide_eq_true_eq, Bool.true_or, Bool.or_true, Bool.false_or, Bool.or_false, decide_true, decide_false, Bool.and_false, Bool.false_and, reduceCtorEq, Int.reduceBEq, nc_0, nc_1, nc_2, nc_3, nc_4, nc_5, nc_6, Bool.not_true, Bool.not_false, reduceIte]
    exact q

end ZL.K30


namespace ZL.K30
open PySem PySem.Spec PyProof.Rows L2 ZL
theorem co_tx : Str.ofString "," = tx [44] := by decide
theorem eq_tx : Str.ofString "=" = tx [61] := by decide
theorem cl_tx : Str.ofString ":" = tx [58] := by decide
theorem sl_tx : Str.ofString "/" = tx [47] := by decide
theorem sc_tx : Str.ofString ";" = tx [59] := by decide
theorem deal_tx : Str.ofString "deal" = tx dealW := by decide
theorem put_tx : Str.ofString "put" = tx putW := by decide
theorem cap_tx : Str.ofString "cap" = tx capW := by decide
theorem pic_tx : Str.ofString "picture" = tx picW := by decide
theorem era_tx : Str.ofString "erase" = tx eraW := by decide
theorem map_strT (ls : List Tx) : (ls.map tx).map D.str = ls.map strT := by rw [List.map_map]; rfl
theorem dpt_num (o : Option Nat) : Dpt 0 (numD o) := by
  cases o with
  | none => exact Dpt.non 0
  | some n => exact Dpt.int 0 _
theorem eqD_non_num (o : Option Nat) : eqD (numD o) .non = o.isNone := by cases o <;> rfl
/-- None in a list of what is there or not -/
theorem inD_none {α : Type} (f : Option α → D) (h : ∀ o, eqD (f o) .non = o.isNone) (xs : List (Option α)) : inD .non (xs.map f) = xs.any (·.isNone) := by
  unfold inD
  rw [List.any_map]
  congr 1
  funext o
  exact h o
theorem allO_none {α : Type} : ∀ xs : List (Option α), xs.any (·.isNone) = true → allO xs = none
  | [], h => by cases h
  | none :: r, _ => rfl
  | some x :: r, h => by
    have : allO r = none := allO_none r (by simpa using h)
    rw [allO, this]
    rfl
theorem allO_all {α : Type} : ∀ xs : List (Option α), xs.any (·.isNone) = false → ∃ ys : List α, xs = ys.map some ∧ allO xs = some ys
  | [], _ => ⟨[], rfl, rfl⟩
  | none :: r, h => by simp at h
  | some x :: r, h => by
    obtain ⟨ys, e1, e2⟩ := allO_all r (by simpa using h)
    exact ⟨x :: ys, by rw [e1]; rfl, by rw [allO, e2]; rfl⟩
theorem u_read_list : ∀ ds Q E, sp_read_list ds Q E → w_read_list (env0 N_read_list ds) (ends0 Q E) := by
  intro ds Q E h
  obtain ⟨l, rfl, ok, q⟩ := h
  have hz : 3000 ≤ sizeLine := by decide
  have hl := ok.len
  have hc := len_cut 44 l
  simp only [w_read_list, w_read_list_s0, w_read_list_s1, N_read_list, sp_number_of, strT, wSeq, wSet, wRet, wRetN, wIf, wDrop, wFor, wNext, wBreak, wCont, wAppend, wSetIx, wAug, wFrz, wAsg, gN, gT, gNil', gCons', mL, mS, mLT, mMv, mIV, mRng, mRngV, mItems, mOp, mB, mC, mVar, mCons, mNil, mTup, mLst, mCB, mCall, mAnd, mOr, mNot, mAndV, mOrV, mNotV, mIf, mNeg, mSl, mNo, mPart, mPk, mChain2, mChain3, mFld, mComp, mComp2, cN, cT, cNil, cCons, mEnum, mYes, mRev, mLenSet, mLenSetG, mLenSetH, wAugIx, mMeth, mMethS, mFst, mJR, mMv2, wUnp, mTru, truD, mMake, wFld, wNever, setN, setF, fldD, String.reduceEq, List.mem_cons, List.mem_singleton, true_or, or_true, or_false, false_or, List.not_mem_nil, oCount, oSplit, oZfill, oLjust, oMulS, cMod, cDiv, cMul, oAdd, oSub, oMul, oDiv, oMod, oPow, oB, oI, oEq, oEqT, oGeT, oIndex, oIs, oIn, oIx, oMulI, oAddI, oSl, oRng1, oRng2, okL, okT, okS, fLen, fAbs, fInt, fStr, fMin, fMax, fSum, fSorted, fSortedW, fMinW, fList, fTuple, fIsi, fIsiC, tyOf, Ty.isi, ty_int, ty_bool, ty_str, ty_list, ty_tuple, ty_dict, isNon, eqOk_int, eqOk_non, eqOk_bl, eqD_int, eqD_bl, eqD_str, eqD_non, beq_self_eq_true, beq_iff_eq, Bool.and_self, atI_0, atI_1, atI_2, atI_3, atI_4, atI_5, atI_6, vw, vs, lendS, ownS, wipeE, ZL.frz, lendS, hasOb, env0, List.replicate_zero, List.replicate_succ, List.cons_append, Nat.reduceSub, List.map_cons, List.map_nil, List.getElem?_cons_zero, List.getElem?_cons_succ, List.getElem?_nil, List.set_cons_zero, List.set_cons_succ, List.length_cons, List.length_nil, List.length_set, Nat.reduceAdd, Nat.reduceLT, Nat.lt_add_one, Nat.zero_lt_succ, List.append_nil, List.nil_append, cln, clnS, clnL, clnX, List.all_cons, List.all_nil, Bool.and_true, Bool.true_and, and_true, true_and, if_true, if_false, Bool.false_eq_true, decide_eq_true_eq, Bool.true_or, Bool.or_true, Bool.false_or, Bool.or_false, decide_true, decide_false, Bool.and_false, Bool.false_and, reduceCtorEq, Int.reduceBEq, nc_0, nc_1, nc_2, nc_3, nc_4, nc_5, nc_6, Bool.not_true, Bool.not_false, reduceIte, em_tx, co_tx, tx_len]
  refine ifZ (fun z => ?_) fun z => ?_
  · have e : listO l = some [] := if_pos (tx_inj z)
    rw [e] at q
    exact ⟨by decide, q⟩
  have hne : l ≠ [] := fun e => z (by rw [e])
  have e : listO l = allO ((cutAt 44 l).map numO) := if_neg hne
  rw [e] at q
  rw [split_cut (by decide), map_strT]
  refine ⟨⟨rfl, by omega⟩, ?_⟩
  refine comp_map (cutAt 44 l) strT (fun p => numD (numO p)) (fun p hp K hK => ?_) (by omega) ?_
  · simp only [wSeq, wSet, wRet, wRetN, wIf, wDrop, wFor, wNext, wBreak, wCont, wAppend, wSetIx, wAug, wFrz, wAsg, gN, gT, gNil', gCons', mL, mS, mLT, mMv, mIV, mRng, mRngV, mItems, mOp, mB, mC, mVar, mCons, mNil, mTup, mLst, mCB, mCall, mAnd, mOr, mNot, mAndV, mOrV, mNotV, mIf, mNeg, mSl, mNo, mPart, mPk, mChain2, mChain3, mFld, mComp, mComp2, cN, cT, cNil, cCons, mEnum, mYes, mRev, mLenSet, mLenSetG, mLenSetH, wAugIx, mMeth, mMethS, mFst, mJR, mMv2, wUnp, mTru, truD, mMake, wFld, wNever, setN, setF, fldD, String.reduceEq, List.mem_cons, List.mem_singleton, true_or, or_true, or_false, false_or, List.not_mem_nil, oCount, oSplit, oZfill, oLjust, oMulS, cMod, cDiv, cMul, oAdd, oSub, oMul, oDiv, oMod, oPow, oB, oI, oEq, oEqT, oGeT, oIndex, oIs, oIn, oIx, oMulI, oAddI, oSl, oRng1, oRng2, okL, okT, okS, fLen, fAbs, fInt, fStr, fMin, fMax, fSum, fSorted, fSortedW, fMinW, fList, fTuple, fIsi, fIsiC, tyOf, Ty.isi, ty_int, ty_bool, ty_str, ty_list, ty_tuple, ty_dict, isNon, eqOk_int, eqOk_non, eqOk_bl, eqD_int, eqD_bl, eqD_str, eqD_non, beq_self_eq_true, beq_iff_eq, Bool.and_self, atI_0, atI_1, atI_2, atI_3, atI_4, atI_5, atI_6, vw, vs, lendS, ownS, wipeE, ZL.frz, lendS, hasOb, env0, List.replicate_zero, List.replicate_succ, List.cons_append, Nat.reduceSub, List.map_cons, List.map_nil, List.getElem?_cons_zero, List.getElem?_cons_succ, List.getElem?_nil, List.set_cons_zero, List.set_cons_succ, List.length_cons, List.length_nil, List.length_set, Nat.reduceAdd, Nat.reduceLT, Nat.lt_add_one, Nat.zero_lt_succ, List.append_nil, List.nil_append, cln, clnS, clnL, clnX, List.all_cons, List.all_nil, Bool.and_true, Bool.true_and, and_true, true_and, if_true, if_false, Bool.false_eq_true, decide_eq_true_eq, Bool.true_or, Bool.or_true, Bool.false_or, Bool.or_false, decide_true, decide_false, Bool.and_false, Bool.false_and, reduceCtorEq, Int.reduceBEq, nc_0, nc_1, nc_2, nc_3, nc_4, nc_5, nc_6, Bool.not_true, Bool.not_false, reduceIte]
    exact ⟨p, rfl, ok.cut hp, hK⟩
  have em : (cutAt 44 l).map (fun p => numD (numO p)) = ((cutAt 44 l).map numO).map numD := by rw [List.map_map]; rfl
  rw [em]
  generalize hxs : (cutAt 44 l).map numO = xs at q
  have eok : eqOk (.lst (xs.map numD)) = true := (Dpt.lst (Dpt.all dpt_num xs)).ok
  simp only [w_read_list_s2, w_read_list_s3, wSeq, wSet, wRet, wRetN, wIf, wDrop, wFor, wNext, wBreak, wCont, wAppend, wSetIx, wAug, wFrz, wAsg, gN, gT, gNil', gCons', mL, mS, mLT, mMv, mIV, mRng, mRngV, mItems, mOp, mB, mC, mVar, mCons, mNil, mTup, mLst, mCB, mCall, mAnd, mOr, mNot, mAndV, mOrV, mNotV, mIf, mNeg, mSl, mNo, mPart, mPk, mChain2, mChain3, mFld, mComp, mComp2, cN, cT, cNil, cCons, mEnum, mYes, mRev, mLenSet, mLenSetG, mLenSetH, wAugIx, mMeth, mMethS, mFst, mJR, mMv2, wUnp, mTru, truD, mMake, wFld, wNever, setN, setF, fldD, String.reduceEq, List.mem_cons, List.mem_singleton, true_or, or_true, or_false, false_or, List.not_mem_nil, oCount, oSplit, oZfill, oLjust, oMulS, cMod, cDiv, cMul, oAdd, oSub, oMul, oDiv, oMod, oPow, oB, oI, oEq, oEqT, oGeT, oIndex, oIs, oIn, oIx, oMulI, oAddI, oSl, oRng1, oRng2, okL, okT, okS, fLen, fAbs, fInt, fStr, fMin, fMax, fSum, fSorted, fSortedW, fMinW, fList, fTuple, fIsi, fIsiC, tyOf, Ty.isi, ty_int, ty_bool, ty_str, ty_list, ty_tuple, ty_dict, isNon, eqOk_int, eqOk_non, eqOk_bl, eqD_int, eqD_bl, eqD_str, eqD_non, beq_self_eq_true, beq_iff_eq, Bool.and_self, atI_0, atI_1, atI_2, atI_3, atI_4, atI_5, atI_6, vw, vs, lendS, ownS, wipeE, ZL.frz, lendS, hasOb, env0, List.replicate_zero, List.replicate_succ, List.cons_append, Nat.reduceSub, List.map_cons, List.map_nil, List.getElem?_cons_zero, List.getElem?_cons_succ, List.getElem?_nil, List.set_cons_zero, List.set_cons_succ, List.length_cons, List.length_nil, List.length_set, Nat.reduceAdd, Nat.reduceLT, Nat.lt_add_one, Nat.zero_lt_succ, List.append_nil, List.nil_append, cln, clnS, clnL, clnX, List.all_cons, List.all_nil, Bool.and_true, Bool.true_and, and_true, true_and, if_true, if_false, Bool.false_eq_true, decide_eq_true_eq, Bool.true_or, Bool.or_true, Bool.false_or, Bool.or_false, decide_true, decide_false, Bool.and_false, Bool.false_and, reduceCtorEq, Int.reduceBEq, nc_0, nc_1, nc_2, nc_3, nc_4, nc_5, nc_6, Bool.not_true, Bool.not_false, reduceIte, eok, inD_none numD eqD_non_num xs]
  refine ⟨all_map cln_num _, ?_⟩
  refine ifZ (fun z => ?_) fun z => ?_
  · rw [allO_none xs z] at q
    exact q
  · obtain ⟨ys, e1, e2⟩ := allO_all xs (eq_false_of_ne_true z)
    rw [e2] at q
    subst e1
    rw [List.map_map]
    exact ⟨clnL_of (all_map (fun _ => rfl) ys), q⟩
theorem len1 (n : Nat) : ((n : Int) == 1) = decide (n = 1) := by
  rw [Bool.eq_iff_iff, beq_iff_eq, decide_eq_true_eq]; omega
theorem len2 (n : Nat) : ((n : Int) == 2) = decide (n = 2) := by
  rw [Bool.eq_iff_iff, beq_iff_eq, decide_eq_true_eq]; omega
theorem len3 (n : Nat) : ((n : Int) == 3) = decide (n = 3) := by
  rw [Bool.eq_iff_iff, beq_iff_eq, decide_eq_true_eq]; omega
theorem two_of {α : Type} {ws : List α} (h : ws.length = 2) : ∃ a b, ws = [a, b] := by
  obtain ⟨a, r, rfl⟩ := List.exists_cons_of_length_eq_add_one h
  obtain ⟨b, r, rfl⟩ := List.exists_cons_of_length_eq_add_one (show r.length = 0 + 1 by simpa using h)
  have : r = [] := List.eq_nil_of_length_eq_zero (by simpa using h)
  exact ⟨a, b, by rw [this]⟩
theorem allO_len {α : Type} : ∀ {xs : List (Option α)} {ys : List α}, allO xs = some ys → ys.length = xs.length
  | [], ys, h => by cases h; rfl
  | none :: r, ys, h => by cases h
  | some x :: r, ys, h => by
    cases e : allO r with
    | none => rw [allO, e] at h; cases h
    | some zs =>
      rw [allO, e] at h
      cases h
      simp [allO_len e]
theorem listO_len {l : Tx} {ns : List Nat} (h : listO l = some ns) : ns.length ≤ l.length + 1 := by
  unfold listO at h
  split at h
  · cases h; exact Nat.zero_le _
  · rw [allO_len h, List.length_map]
    exact len_cut 44 l
theorem u_read_named : ∀ ds Q E, sp_read_named ds Q E → w_read_named (env0 N_read_named ds) (ends0 Q E) := by
  intro ds Q E h
  obtain ⟨l, rfl, ok, q⟩ := h
  have hz : 3000 ≤ sizeLine := by decide
  have hl := ok.len
  have hc := len_cut 61 l
  simp only [w_read_named, w_read_named_s0, w_read_named_s1, N_read_named, sp_is_name, strT, wSeq, wSet, wRet, wRetN, wIf, wDrop, wFor, wNext, wBreak, wCont, wAppend, wSetIx, wAug, wFrz, wAsg, gN, gT, gNil', gCons', mL, mS, mLT, mMv, mIV, mRng, mRngV, mItems, mOp, mB, mC, mVar, mCons, mNil, mTup, mLst, mCB, mCall, mAnd, mOr, mNot, mAndV, mOrV, mNotV, mIf, mNeg, mSl, mNo, mPart, mPk, mChain2, mChain3, mFld, mComp, mComp2, cN, cT, cNil, cCons, mEnum, mYes, mRev, mLenSet, mLenSetG, mLenSetH, wAugIx, mMeth, mMethS, mFst, mJR, mMv2, wUnp, mTru, truD, mMake, wFld, wNever, setN, setF, fldD, String.reduceEq, List.mem_cons, List.mem_singleton, true_or, or_true, or_false, false_or, List.not_mem_nil, oCount, oSplit, oZfill, oLjust, oMulS, cMod, cDiv, cMul, oAdd, oSub, oMul, oDiv, oMod, oPow, oB, oI, oEq, oEqT, oGeT, oIndex, oIs, oIn, oIx, oMulI, oAddI, oSl, oRng1, oRng2, okL, okT, okS, fLen, fAbs, fInt, fStr, fMin, fMax, fSum, fSorted, fSortedW, fMinW, fList, fTuple, fIsi, fIsiC, tyOf, Ty.isi, ty_int, ty_bool, ty_str, ty_list, ty_tuple, ty_dict, isNon, eqOk_int, eqOk_non, eqOk_bl, eqD_int, eqD_bl, eqD_str, eqD_non, beq_self_eq_true, beq_iff_eq, Bool.and_self, atI_0, atI_1, atI_2, atI_3, atI_4, atI_5, atI_6, vw, vs, lendS, ownS, wipeE, ZL.frz, lendS, hasOb, env0, List.replicate_zero, List.replicate_succ, List.cons_append, Nat.reduceSub, List.map_cons, List.map_nil, List.getElem?_cons_zero, List.getElem?_cons_succ, List.getElem?_nil, List.set_cons_zero, List.set_cons_succ, List.length_cons, List.length_nil, List.length_set, Nat.reduceAdd, Nat.reduceLT, Nat.lt_add_one, Nat.zero_lt_succ, List.append_nil, List.nil_append, cln, clnS, clnL, clnX, List.all_cons, List.all_nil, Bool.and_true, Bool.true_and, and_true, true_and, if_true, if_false, Bool.false_eq_true, decide_eq_true_eq, Bool.true_or, Bool.or_true, Bool.false_or, Bool.or_false, decide_true, decide_false, Bool.and_false, Bool.false_and, reduceCtorEq, Int.reduceBEq, nc_0, nc_1, nc_2, nc_3, nc_4, nc_5, nc_6, Bool.not_true, Bool.not_false, reduceIte, eq_tx, tx_len]
  rw [split_cut (by decide), map_strT]
  refine ⟨⟨rfl, by omega⟩, all_str _, ?_⟩
  have hok : ∀ p ∈ cutAt 61 l, OkT p := fun p hp => ok.cut hp
  have hno : (cutAt 61 l).length ≠ 2 → namedO l = none := fun h => by
    unfold namedO
    split
    · rename_i e
      rw [e] at h
      exact (h rfl).elim
    · rfl
  have q0 := q
  unfold namedO at q
  generalize cutAt 61 l = ws at *
  rw [List.length_map]
  rw [len2]
  by_cases h2 : ws.length = 2
  · obtain ⟨p, p2, rfl⟩ := two_of h2
    simp only at q
    rw [if_neg (by rw [decide_eq_true h2]; decide)]
    rw [show atI ([p, p2].map strT) 0 = some (strT p) from atI_nat (by decide) rfl]
    refine ⟨p, rfl, hok p (List.mem_cons_self ..), ?_⟩
    cases hn : nameB p with
    | false =>
      rw [hn, if_pos rfl] at q
      rw [if_pos (by decide)]
      exact q
    | true =>
      rw [hn, if_neg (by decide)] at q
      rw [if_neg (by decide)]
      simp only [w_read_named_s2, w_read_named_s3, w_read_named_s4, sp_read_list, sp_is_rising, wSeq, wSet, wRet, wRetN, wIf, wDrop, wFor, wNext, wBreak, wCont, wAppend, wSetIx, wAug, wFrz, wAsg, gN, gT, gNil', gCons', mL, mS, mLT, mMv, mIV, mRng, mRngV, mItems, mOp, mB, mC, mVar, mCons, mNil, mTup, mLst, mCB, mCall, mAnd, mOr, mNot, mAndV, mOrV, mNotV, mIf, mNeg, mSl, mNo, mPart, mPk, mChain2, mChain3, mFld, mComp, mComp2, cN, cT, cNil, cCons, mEnum, mYes, mRev, mLenSet, mLenSetG, mLenSetH, wAugIx, mMeth, mMethS, mFst, mJR, mMv2, wUnp, mTru, truD, mMake, wFld, wNever, setN, setF, fldD, String.reduceEq, List.mem_cons, List.mem_singleton, true_or, or_true, or_false, false_or, List.not_mem_nil, oCount, oSplit, oZfill, oLjust, oMulS, cMod, cDiv, cMul, oAdd, oSub, oMul, oDiv, oMod, oPow, oB, oI, oEq, oEqT, oGeT, oIndex, oIs, oIn, oIx, oMulI, oAddI, oSl, oRng1, oRng2, okL, okT, okS, fLen, fAbs, fInt, fStr, fMin, fMax, fSum, fSorted, fSortedW, fMinW, fList, fTuple, fIsi, fIsiC, tyOf, Ty.isi, ty_int, ty_bool, ty_str, ty_list, ty_tuple, ty_dict, isNon, eqOk_int, eqOk_non, eqOk_bl, eqD_int, eqD_bl, eqD_str, eqD_non, beq_self_eq_true, beq_iff_eq, Bool.and_self, atI_0, atI_1, atI_2, atI_3, atI_4, atI_5, atI_6, vw, vs, lendS, ownS, wipeE, ZL.frz, lendS, hasOb, env0, List.replicate_zero, List.replicate_succ, List.cons_append, Nat.reduceSub, List.map_cons, List.map_nil, List.getElem?_cons_zero, List.getElem?_cons_succ, List.getElem?_nil, List.set_cons_zero, List.set_cons_succ, List.length_cons, List.length_nil, List.length_set, Nat.reduceAdd, Nat.reduceLT, Nat.lt_add_one, Nat.zero_lt_succ, List.append_nil, List.nil_append, cln, clnS, clnL, clnX, List.all_cons, List.all_nil, Bool.and_true, Bool.true_and, and_true, true_and, if_true, if_false, Bool.false_eq_true, decide_eq_true_eq, Bool.true_or, Bool.or_true, Bool.false_or, Bool.or_false, decide_true, decide_false, Bool.and_false, Bool.false_and, reduceCtorEq, Int.reduceBEq, nc_0, nc_1, nc_2, nc_3, nc_4, nc_5, nc_6, Bool.not_true, Bool.not_false, reduceIte]
      refine ⟨p2, rfl, hok p2 (by simp), cln_list _, ?_⟩
      cases hL : listO p2 with
      | none =>
        rw [hL] at q
        simp only [listD, wSeq, wSet, wRet, wRetN, wIf, wDrop, wFor, wNext, wBreak, wCont, wAppend, wSetIx, wAug, wFrz, wAsg, gN, gT, gNil', gCons', mL, mS, mLT, mMv, mIV, mRng, mRngV, mItems, mOp, mB, mC, mVar, mCons, mNil, mTup, mLst, mCB, mCall, mAnd, mOr, mNot, mAndV, mOrV, mNotV, mIf, mNeg, mSl, mNo, mPart, mPk, mChain2, mChain3, mFld, mComp, mComp2, cN, cT, cNil, cCons, mEnum, mYes, mRev, mLenSet, mLenSetG, mLenSetH, wAugIx, mMeth, mMethS, mFst, mJR, mMv2, wUnp, mTru, truD, mMake, wFld, wNever, setN, setF, fldD, String.reduceEq, List.mem_cons, List.mem_singleton, true_or, or_true, or_false, false_or, List.not_mem_nil, oCount, oSplit, oZfill, oLjust, oMulS, cMod, cDiv, cMul, oAdd, oSub, oMul, oDiv, oMod, oPow, oB, oI, oEq, oEqT, oGeT, oIndex, oIs, oIn, oIx, oMulI, oAddI, oSl, oRng1, oRng2, okL, okT, okS, fLen, fAbs, fInt, fStr, fMin, fMax, fSum, fSorted, fSortedW, fMinW, fList, fTuple, fIsi, fIsiC, tyOf, Ty.isi, ty_int, ty_bool, ty_str, ty_list, ty_tuple, ty_dict, isNon, eqOk_int, eqOk_non, eqOk_bl, eqD_int, eqD_bl, eqD_str, eqD_non, beq_self_eq_true, beq_iff_eq, Bool.and_self, atI_0, atI_1, atI_2, atI_3, atI_4, atI_5, atI_6, vw, vs, lendS, ownS, wipeE, ZL.frz, lendS, hasOb, env0, List.replicate_zero, List.replicate_succ, List.cons_append, Nat.reduceSub, List.map_cons, List.map_nil, List.getElem?_cons_zero, List.getElem?_cons_succ, List.getElem?_nil, List.set_cons_zero, List.set_cons_succ, List.length_cons, List.length_nil, List.length_set, Nat.reduceAdd, Nat.reduceLT, Nat.lt_add_one, Nat.zero_lt_succ, List.append_nil, List.nil_append, cln, clnS, clnL, clnX, List.all_cons, List.all_nil, Bool.and_true, Bool.true_and, and_true, true_and, if_true, if_false, Bool.false_eq_true, decide_eq_true_eq, Bool.true_or, Bool.or_true, Bool.false_or, Bool.or_false, decide_true, decide_false, Bool.and_false, Bool.false_and, reduceCtorEq, Int.reduceBEq, nc_0, nc_1, nc_2, nc_3, nc_4, nc_5, nc_6, Bool.not_true, Bool.not_false, reduceIte]
        exact q
      | some ns =>
        rw [hL] at q
        simp only at q
        have hlen : ns.length ≤ 1000 := by
          have := listO_len hL
          have := (hok p2 (by simp)).len
          omega
        have e0 : inD (.int 0) (natL ns) = decide (0 ∈ ns) := by
          unfold inD natL
          rw [Bool.eq_iff_iff, List.any_eq_true, decide_eq_true_eq]
          constructor
          · rintro ⟨d, hd, he⟩
            obtain ⟨n, hn, rfl⟩ := List.mem_map.1 hd
            have : ((n : Int) == 0) = true := he
            have : n = 0 := by simpa using this
            exact this ▸ hn
          · intro h0
            exact ⟨.int ((0 : Nat) : Int), List.mem_map.2 ⟨0, h0, rfl⟩, rfl⟩
        have ef : (natL ns).all flatD = true := by
          rw [List.all_eq_true]
          intro d hd
          obtain ⟨n, _, rfl⟩ := List.mem_map.1 hd
          rfl
        simp only [listD, nlD, isNon, e0, ef, wSeq, wSet, wRet, wRetN, wIf, wDrop, wFor, wNext, wBreak, wCont, wAppend, wSetIx, wAug, wFrz, wAsg, gN, gT, gNil', gCons', mL, mS, mLT, mMv, mIV, mRng, mRngV, mItems, mOp, mB, mC, mVar, mCons, mNil, mTup, mLst, mCB, mCall, mAnd, mOr, mNot, mAndV, mOrV, mNotV, mIf, mNeg, mSl, mNo, mPart, mPk, mChain2, mChain3, mFld, mComp, mComp2, cN, cT, cNil, cCons, mEnum, mYes, mRev, mLenSet, mLenSetG, mLenSetH, wAugIx, mMeth, mMethS, mFst, mJR, mMv2, wUnp, mTru, truD, mMake, wFld, wNever, setN, setF, fldD, String.reduceEq, List.mem_cons, List.mem_singleton, true_or, or_true, or_false, false_or, List.not_mem_nil, oCount, oSplit, oZfill, oLjust, oMulS, cMod, cDiv, cMul, oAdd, oSub, oMul, oDiv, oMod, oPow, oB, oI, oEq, oEqT, oGeT, oIndex, oIs, oIn, oIx, oMulI, oAddI, oSl, oRng1, oRng2, okL, okT, okS, fLen, fAbs, fInt, fStr, fMin, fMax, fSum, fSorted, fSortedW, fMinW, fList, fTuple, fIsi, fIsiC, tyOf, Ty.isi, ty_int, ty_bool, ty_str, ty_list, ty_tuple, ty_dict, isNon, eqOk_int, eqOk_non, eqOk_bl, eqD_int, eqD_bl, eqD_str, eqD_non, beq_self_eq_true, beq_iff_eq, Bool.and_self, atI_0, atI_1, atI_2, atI_3, atI_4, atI_5, atI_6, vw, vs, lendS, ownS, wipeE, ZL.frz, lendS, hasOb, env0, List.replicate_zero, List.replicate_succ, List.cons_append, Nat.reduceSub, List.map_cons, List.map_nil, List.getElem?_cons_zero, List.getElem?_cons_succ, List.getElem?_nil, List.set_cons_zero, List.set_cons_succ, List.length_cons, List.length_nil, List.length_set, Nat.reduceAdd, Nat.reduceLT, Nat.lt_add_one, Nat.zero_lt_succ, List.append_nil, List.nil_append, cln, clnS, clnL, clnX, List.all_cons, List.all_nil, Bool.and_true, Bool.true_and, and_true, true_and, if_true, if_false, Bool.false_eq_true, decide_eq_true_eq, Bool.true_or, Bool.or_true, Bool.false_or, Bool.or_false, decide_true, decide_false, Bool.and_false, Bool.false_and, reduceCtorEq, Int.reduceBEq, nc_0, nc_1, nc_2, nc_3, nc_4, nc_5, nc_6, Bool.not_true, Bool.not_false, reduceIte]
        refine ⟨rfl, ?_⟩
        refine ifZ (fun z => ?_) fun z => ?_
        · rw [if_pos z] at q
          exact q
        rw [if_neg z] at q
        refine .inl ⟨true, ns, rfl, hlen, ?_⟩
        cases hr : riseN ns with
        | false =>
          rw [hr, if_pos rfl] at q
          rw [if_pos (by decide)]
          exact q
        | true =>
          rw [hr, if_neg (by decide)] at q
          rw [if_neg (by decide)]
          exact ⟨by decide, by rw [show clnS (strT p) = true from rfl, Bool.true_and]; exact cln_nl ns, q⟩
  · rw [if_pos (by rw [decide_eq_false h2]; rfl)]
    rw [hno h2] at q0
    exact q0

end ZL.K30


namespace ZL.K30
open PySem PySem.Spec PyProof.Rows L2 ZL
theorem eqD_tup_none (xs : List D) : eqD (.tup xs) .non = false := eqD_tup_non xs
theorem eqD_non_ent (o : Option Ent) : eqD (entOD o) .non = o.isNone := by
  cases o with
  | none => rfl
  | some e => exact eqD_tup_non _
theorem eqD_non_nam (o : Option (Tx × List Nat)) : eqD (namOD o) .non = o.isNone := by
  cases o with
  | none => rfl
  | some e => exact eqD_tup_non _
theorem Dpt.up {n m : Nat} {d : D} (h : Dpt n d) (hm : n ≤ m) : Dpt m d := ⟨h.1, h.2.1, Nat.le_trans h.2.2 hm⟩
theorem dpt_str {l : Tx} (h : OkT l) : Dpt 0 (strT l) := by
  refine ⟨rfl, ?_, Nat.le_refl _⟩
  show PyData.strOk (tx l) = true
  unfold PyData.strOk
  rw [Array.all_eq_true']
  intro c hc
  have := h.sg c (by simpa [tx] using hc)
  exact decide_eq_true (by omega)
theorem dpt_ent (o : Option Ent) : Dpt 1 (entOD o) := by
  cases o with
  | none => exact Dpt.non 1
  | some e => exact Dpt.tup (fun d hd => by
      simp only [List.mem_cons, List.not_mem_nil, or_false] at hd
      rcases hd with rfl | rfl | rfl <;> exact Dpt.int 0 _)
theorem u_read_warden : ∀ ds Q E, sp_read_warden ds Q E → w_read_warden (env0 N_read_warden ds) (ends0 Q E) := by
  intro ds Q E h
  obtain ⟨l, rfl, ok, q⟩ := h
  have hz : 3000 ≤ sizeLine := by decide
  have hl := ok.len
  have hc := len_cut 58 l
  simp only [w_read_warden, w_read_warden_s0, w_read_warden_s1, N_read_warden, strT, wSeq, wSet, wRet, wRetN, wIf, wDrop, wFor, wNext, wBreak, wCont, wAppend, wSetIx, wAug, wFrz, wAsg, gN, gT, gNil', gCons', mL, mS, mLT, mMv, mIV, mRng, mRngV, mItems, mOp, mB, mC, mVar, mCons, mNil, mTup, mLst, mCB, mCall, mAnd, mOr, mNot, mAndV, mOrV, mNotV, mIf, mNeg, mSl, mNo, mPart, mPk, mChain2, mChain3, mFld, mComp, mComp2, cN, cT, cNil, cCons, mEnum, mYes, mRev, mLenSet, mLenSetG, mLenSetH, wAugIx, mMeth, mMethS, mFst, mJR, mMv2, wUnp, mTru, truD, mMake, wFld, wNever, setN, setF, fldD, String.reduceEq, List.mem_cons, List.mem_singleton, true_or, or_true, or_false, false_or, List.not_mem_nil, oCount, oSplit, oZfill, oLjust, oMulS, cMod, cDiv, cMul, oAdd, oSub, oMul, oDiv, oMod, oPow, oB, oI, oEq, oEqT, oGeT, oIndex, oIs, oIn, oIx, oMulI, oAddI, oSl, oRng1, oRng2, okL, okT, okS, fLen, fAbs, fInt, fStr, fMin, fMax, fSum, fSorted, fSortedW, fMinW, fList, fTuple, fIsi, fIsiC, tyOf, Ty.isi, ty_int, ty_bool, ty_str, ty_list, ty_tuple, ty_dict, isNon, eqOk_int, eqOk_non, eqOk_bl, eqD_int, eqD_bl, eqD_str, eqD_non, beq_self_eq_true, beq_iff_eq, Bool.and_self, atI_0, atI_1, atI_2, atI_3, atI_4, atI_5, atI_6, vw, vs, lendS, ownS, wipeE, ZL.frz, lendS, hasOb, env0, List.replicate_zero, List.replicate_succ, List.cons_append, Nat.reduceSub, List.map_cons, List.map_nil, List.getElem?_cons_zero, List.getElem?_cons_succ, List.getElem?_nil, List.set_cons_zero, List.set_cons_succ, List.length_cons, List.length_nil, List.length_set, Nat.reduceAdd, Nat.reduceLT, Nat.lt_add_one, Nat.zero_lt_succ, List.append_nil, List.nil_append, cln, clnS, clnL, clnX, List.all_cons, List.all_nil, Bool.and_true, Bool.true_and, and_true, true_and, if_true, if_false, Bool.false_eq_true, decide_eq_true_eq, Bool.true_or, Bool.or_true, Bool.false_or, Bool.or_false, decide_true, decide_false, Bool.and_false, Bool.false_and, reduceCtorEq, Int.reduceBEq, nc_0, nc_1, nc_2, nc_3, nc_4, nc_5, nc_6, Bool.not_true, Bool.not_false, reduceIte, cl_tx, tx_len]
  rw [split_cut (by decide), map_strT]
  refine ⟨⟨rfl, by omega⟩, all_str _, ?_⟩
  have hok : ∀ p ∈ cutAt 58 l, OkT p := fun p hp => ok.cut hp
  have hno : (cutAt 58 l).length ≠ 2 → wardenO l = none := fun h => by
    unfold wardenO
    split
    · rename_i e
      rw [e] at h
      exact (h rfl).elim
    · rfl
  have q0 := q
  unfold wardenO at q
  generalize cutAt 58 l = ws at *
  rw [List.length_map, len2]
  by_cases h2 : ws.length = 2
  · obtain ⟨p, p2, rfl⟩ := two_of h2
    simp only at q
    rw [if_neg (by rw [decide_eq_true h2]; decide)]
    simp only [w_read_warden_s2, w_read_warden_s3, sp_number_of, sp_read_list, wSeq, wSet, wRet, wRetN, wIf, wDrop, wFor, wNext, wBreak, wCont, wAppend, wSetIx, wAug, wFrz, wAsg, gN, gT, gNil', gCons', mL, mS, mLT, mMv, mIV, mRng, mRngV, mItems, mOp, mB, mC, mVar, mCons, mNil, mTup, mLst, mCB, mCall, mAnd, mOr, mNot, mAndV, mOrV, mNotV, mIf, mNeg, mSl, mNo, mPart, mPk, mChain2, mChain3, mFld, mComp, mComp2, cN, cT, cNil, cCons, mEnum, mYes, mRev, mLenSet, mLenSetG, mLenSetH, wAugIx, mMeth, mMethS, mFst, mJR, mMv2, wUnp, mTru, truD, mMake, wFld, wNever, setN, setF, fldD, String.reduceEq, List.mem_cons, List.mem_singleton, true_or, or_true, or_false, false_or, List.not_mem_nil, oCount, oSplit, oZfill, oLjust, oMulS, cMod, cDiv, cMul, oAdd, oSub, oMul, oDiv, oMod, oPow, oB, oI, oEq, oEqT, oGeT, oIndex, oIs, oIn, oIx, oMulI, oAddI, oSl, oRng1, oRng2, okL, okT, okS, fLen, fAbs, fInt, fStr, fMin, fMax, fSum, fSorted, fSortedW, fMinW, fList, fTuple, fIsi, fIsiC, tyOf, Ty.isi, ty_int, ty_bool, ty_str, ty_list, ty_tuple, ty_dict, isNon, eqOk_int, eqOk_non, eqOk_bl, eqD_int, eqD_bl, eqD_str, eqD_non, beq_self_eq_true, beq_iff_eq, Bool.and_self, atI_0, atI_1, atI_2, atI_3, atI_4, atI_5, atI_6, vw, vs, lendS, ownS, wipeE, ZL.frz, lendS, hasOb, env0, List.replicate_zero, List.replicate_succ, List.cons_append, Nat.reduceSub, List.map_cons, List.map_nil, List.getElem?_cons_zero, List.getElem?_cons_succ, List.getElem?_nil, List.set_cons_zero, List.set_cons_succ, List.length_cons, List.length_nil, List.length_set, Nat.reduceAdd, Nat.reduceLT, Nat.lt_add_one, Nat.zero_lt_succ, List.append_nil, List.nil_append, cln, clnS, clnL, clnX, List.all_cons, List.all_nil, Bool.and_true, Bool.true_and, and_true, true_and, if_true, if_false, Bool.false_eq_true, decide_eq_true_eq, Bool.true_or, Bool.or_true, Bool.false_or, Bool.or_false, decide_true, decide_false, Bool.and_false, Bool.false_and, reduceCtorEq, Int.reduceBEq, nc_0, nc_1, nc_2, nc_3, nc_4, nc_5, nc_6, Bool.not_true, Bool.not_false, reduceIte]
    refine ⟨p, rfl, hok p (List.mem_cons_self ..), cln_num _, p2, rfl, hok p2 (by simp), cln_list _, ?_⟩
    cases hn : numO p with
    | none =>
      rw [hn] at q
      simp only [w_read_warden_s4, numD, wSeq, wSet, wRet, wRetN, wIf, wDrop, wFor, wNext, wBreak, wCont, wAppend, wSetIx, wAug, wFrz, wAsg, gN, gT, gNil', gCons', mL, mS, mLT, mMv, mIV, mRng, mRngV, mItems, mOp, mB, mC, mVar, mCons, mNil, mTup, mLst, mCB, mCall, mAnd, mOr, mNot, mAndV, mOrV, mNotV, mIf, mNeg, mSl, mNo, mPart, mPk, mChain2, mChain3, mFld, mComp, mComp2, cN, cT, cNil, cCons, mEnum, mYes, mRev, mLenSet, mLenSetG, mLenSetH, wAugIx, mMeth, mMethS, mFst, mJR, mMv2, wUnp, mTru, truD, mMake, wFld, wNever, setN, setF, fldD, String.reduceEq, List.mem_cons, List.mem_singleton, true_or, or_true, or_false, false_or, List.not_mem_nil, oCount, oSplit, oZfill, oLjust, oMulS, cMod, cDiv, cMul, oAdd, oSub, oMul, oDiv, oMod, oPow, oB, oI, oEq, oEqT, oGeT, oIndex, oIs, oIn, oIx, oMulI, oAddI, oSl, oRng1, oRng2, okL, okT, okS, fLen, fAbs, fInt, fStr, fMin, fMax, fSum, fSorted, fSortedW, fMinW, fList, fTuple, fIsi, fIsiC, tyOf, Ty.isi, ty_int, ty_bool, ty_str, ty_list, ty_tuple, ty_dict, isNon, eqOk_int, eqOk_non, eqOk_bl, eqD_int, eqD_bl, eqD_str, eqD_non, beq_self_eq_true, beq_iff_eq, Bool.and_self, atI_0, atI_1, atI_2, atI_3, atI_4, atI_5, atI_6, vw, vs, lendS, ownS, wipeE, ZL.frz, lendS, hasOb, env0, List.replicate_zero, List.replicate_succ, List.cons_append, Nat.reduceSub, List.map_cons, List.map_nil, List.getElem?_cons_zero, List.getElem?_cons_succ, List.getElem?_nil, List.set_cons_zero, List.set_cons_succ, List.length_cons, List.length_nil, List.length_set, Nat.reduceAdd, Nat.reduceLT, Nat.lt_add_one, Nat.zero_lt_succ, List.append_nil, List.nil_append, cln, clnS, clnL, clnX, List.all_cons, List.all_nil, Bool.and_true, Bool.true_and, and_true, true_and, if_true, if_false, Bool.false_eq_true, decide_eq_true_eq, Bool.true_or, Bool.or_true, Bool.false_or, Bool.or_false, decide_true, decide_false, Bool.and_false, Bool.false_and, reduceCtorEq, Int.reduceBEq, nc_0, nc_1, nc_2, nc_3, nc_4, nc_5, nc_6, Bool.not_true, Bool.not_false, reduceIte]
      exact q
    | some n =>
      rw [hn] at q
      simp only at q
      simp only [w_read_warden_s4, numD, wSeq, wSet, wRet, wRetN, wIf, wDrop, wFor, wNext, wBreak, wCont, wAppend, wSetIx, wAug, wFrz, wAsg, gN, gT, gNil', gCons', mL, mS, mLT, mMv, mIV, mRng, mRngV, mItems, mOp, mB, mC, mVar, mCons, mNil, mTup, mLst, mCB, mCall, mAnd, mOr, mNot, mAndV, mOrV, mNotV, mIf, mNeg, mSl, mNo, mPart, mPk, mChain2, mChain3, mFld, mComp, mComp2, cN, cT, cNil, cCons, mEnum, mYes, mRev, mLenSet, mLenSetG, mLenSetH, wAugIx, mMeth, mMethS, mFst, mJR, mMv2, wUnp, mTru, truD, mMake, wFld, wNever, setN, setF, fldD, String.reduceEq, List.mem_cons, List.mem_singleton, true_or, or_true, or_false, false_or, List.not_mem_nil, oCount, oSplit, oZfill, oLjust, oMulS, cMod, cDiv, cMul, oAdd, oSub, oMul, oDiv, oMod, oPow, oB, oI, oEq, oEqT, oGeT, oIndex, oIs, oIn, oIx, oMulI, oAddI, oSl, oRng1, oRng2, okL, okT, okS, fLen, fAbs, fInt, fStr, fMin, fMax, fSum, fSorted, fSortedW, fMinW, fList, fTuple, fIsi, fIsiC, tyOf, Ty.isi, ty_int, ty_bool, ty_str, ty_list, ty_tuple, ty_dict, isNon, eqOk_int, eqOk_non, eqOk_bl, eqD_int, eqD_bl, eqD_str, eqD_non, beq_self_eq_true, beq_iff_eq, Bool.and_self, atI_0, atI_1, atI_2, atI_3, atI_4, atI_5, atI_6, vw, vs, lendS, ownS, wipeE, ZL.frz, lendS, hasOb, env0, List.replicate_zero, List.replicate_succ, List.cons_append, Nat.reduceSub, List.map_cons, List.map_nil, List.getElem?_cons_zero, List.getElem?_cons_succ, List.getElem?_nil, List.set_cons_zero, List.set_cons_succ, List.length_cons, List.length_nil, List.length_set, Nat.reduceAdd, Nat.reduceLT, Nat.lt_add_one, Nat.zero_lt_succ, List.append_nil, List.nil_append, cln, clnS, clnL, clnX, List.all_cons, List.all_nil, Bool.and_true, Bool.true_and, and_true, true_and, if_true, if_false, Bool.false_eq_true, decide_eq_true_eq, Bool.true_or, Bool.or_true, Bool.false_or, Bool.or_false, decide_true, decide_false, Bool.and_false, Bool.false_and, reduceCtorEq, Int.reduceBEq, nc_0, nc_1, nc_2, nc_3, nc_4, nc_5, nc_6, Bool.not_true, Bool.not_false, reduceIte]
      refine ifZ (fun z => ?_) fun z => ?_
      · rw [if_pos (by omega)] at q
        exact q
      rw [if_neg (by omega)] at q
      cases hL : listO p2 with
      | none =>
        rw [hL, show pairO n none = none from rfl] at q
        simp only [listD, wSeq, wSet, wRet, wRetN, wIf, wDrop, wFor, wNext, wBreak, wCont, wAppend, wSetIx, wAug, wFrz, wAsg, gN, gT, gNil', gCons', mL, mS, mLT, mMv, mIV, mRng, mRngV, mItems, mOp, mB, mC, mVar, mCons, mNil, mTup, mLst, mCB, mCall, mAnd, mOr, mNot, mAndV, mOrV, mNotV, mIf, mNeg, mSl, mNo, mPart, mPk, mChain2, mChain3, mFld, mComp, mComp2, cN, cT, cNil, cCons, mEnum, mYes, mRev, mLenSet, mLenSetG, mLenSetH, wAugIx, mMeth, mMethS, mFst, mJR, mMv2, wUnp, mTru, truD, mMake, wFld, wNever, setN, setF, fldD, String.reduceEq, List.mem_cons, List.mem_singleton, true_or, or_true, or_false, false_or, List.not_mem_nil, oCount, oSplit, oZfill, oLjust, oMulS, cMod, cDiv, cMul, oAdd, oSub, oMul, oDiv, oMod, oPow, oB, oI, oEq, oEqT, oGeT, oIndex, oIs, oIn, oIx, oMulI, oAddI, oSl, oRng1, oRng2, okL, okT, okS, fLen, fAbs, fInt, fStr, fMin, fMax, fSum, fSorted, fSortedW, fMinW, fList, fTuple, fIsi, fIsiC, tyOf, Ty.isi, ty_int, ty_bool, ty_str, ty_list, ty_tuple, ty_dict, isNon, eqOk_int, eqOk_non, eqOk_bl, eqD_int, eqD_bl, eqD_str, eqD_non, beq_self_eq_true, beq_iff_eq, Bool.and_self, atI_0, atI_1, atI_2, atI_3, atI_4, atI_5, atI_6, vw, vs, lendS, ownS, wipeE, ZL.frz, lendS, hasOb, env0, List.replicate_zero, List.replicate_succ, List.cons_append, Nat.reduceSub, List.map_cons, List.map_nil, List.getElem?_cons_zero, List.getElem?_cons_succ, List.getElem?_nil, List.set_cons_zero, List.set_cons_succ, List.length_cons, List.length_nil, List.length_set, Nat.reduceAdd, Nat.reduceLT, Nat.lt_add_one, Nat.zero_lt_succ, List.append_nil, List.nil_append, cln, clnS, clnL, clnX, List.all_cons, List.all_nil, Bool.and_true, Bool.true_and, and_true, true_and, if_true, if_false, Bool.false_eq_true, decide_eq_true_eq, Bool.true_or, Bool.or_true, Bool.false_or, Bool.or_false, decide_true, decide_false, Bool.and_false, Bool.false_and, reduceCtorEq, Int.reduceBEq, nc_0, nc_1, nc_2, nc_3, nc_4, nc_5, nc_6, Bool.not_true, Bool.not_false, reduceIte]
        exact q
      | some ns =>
        rw [hL] at q
        simp only [listD, nlD, natL, List.length_map, len2, wSeq, wSet, wRet, wRetN, wIf, wDrop, wFor, wNext, wBreak, wCont, wAppend, wSetIx, wAug, wFrz, wAsg, gN, gT, gNil', gCons', mL, mS, mLT, mMv, mIV, mRng, mRngV, mItems, mOp, mB, mC, mVar, mCons, mNil, mTup, mLst, mCB, mCall, mAnd, mOr, mNot, mAndV, mOrV, mNotV, mIf, mNeg, mSl, mNo, mPart, mPk, mChain2, mChain3, mFld, mComp, mComp2, cN, cT, cNil, cCons, mEnum, mYes, mRev, mLenSet, mLenSetG, mLenSetH, wAugIx, mMeth, mMethS, mFst, mJR, mMv2, wUnp, mTru, truD, mMake, wFld, wNever, setN, setF, fldD, String.reduceEq, List.mem_cons, List.mem_singleton, true_or, or_true, or_false, false_or, List.not_mem_nil, oCount, oSplit, oZfill, oLjust, oMulS, cMod, cDiv, cMul, oAdd, oSub, oMul, oDiv, oMod, oPow, oB, oI, oEq, oEqT, oGeT, oIndex, oIs, oIn, oIx, oMulI, oAddI, oSl, oRng1, oRng2, okL, okT, okS, fLen, fAbs, fInt, fStr, fMin, fMax, fSum, fSorted, fSortedW, fMinW, fList, fTuple, fIsi, fIsiC, tyOf, Ty.isi, ty_int, ty_bool, ty_str, ty_list, ty_tuple, ty_dict, isNon, eqOk_int, eqOk_non, eqOk_bl, eqD_int, eqD_bl, eqD_str, eqD_non, beq_self_eq_true, beq_iff_eq, Bool.and_self, atI_0, atI_1, atI_2, atI_3, atI_4, atI_5, atI_6, vw, vs, lendS, ownS, wipeE, ZL.frz, lendS, hasOb, env0, List.replicate_zero, List.replicate_succ, List.cons_append, Nat.reduceSub, List.map_cons, List.map_nil, List.getElem?_cons_zero, List.getElem?_cons_succ, List.getElem?_nil, List.set_cons_zero, List.set_cons_succ, List.length_cons, List.length_nil, List.length_set, Nat.reduceAdd, Nat.reduceLT, Nat.lt_add_one, Nat.zero_lt_succ, List.append_nil, List.nil_append, cln, clnS, clnL, clnX, List.all_cons, List.all_nil, Bool.and_true, Bool.true_and, and_true, true_and, if_true, if_false, Bool.false_eq_true, decide_eq_true_eq, Bool.true_or, Bool.or_true, Bool.false_or, Bool.or_false, decide_true, decide_false, Bool.and_false, Bool.false_and, reduceCtorEq, Int.reduceBEq, nc_0, nc_1, nc_2, nc_3, nc_4, nc_5, nc_6, Bool.not_true, Bool.not_false, reduceIte]
        by_cases hn2 : ns.length = 2
        · obtain ⟨a, b, rfl⟩ := two_of hn2
          rw [if_neg (by rw [decide_eq_true hn2]; decide)]
          simp only [pairO] at q
          simp only [w_read_warden_s5, wSeq, wSet, wRet, wRetN, wIf, wDrop, wFor, wNext, wBreak, wCont, wAppend, wSetIx, wAug, wFrz, wAsg, gN, gT, gNil', gCons', mL, mS, mLT, mMv, mIV, mRng, mRngV, mItems, mOp, mB, mC, mVar, mCons, mNil, mTup, mLst, mCB, mCall, mAnd, mOr, mNot, mAndV, mOrV, mNotV, mIf, mNeg, mSl, mNo, mPart, mPk, mChain2, mChain3, mFld, mComp, mComp2, cN, cT, cNil, cCons, mEnum, mYes, mRev, mLenSet, mLenSetG, mLenSetH, wAugIx, mMeth, mMethS, mFst, mJR, mMv2, wUnp, mTru, truD, mMake, wFld, wNever, setN, setF, fldD, String.reduceEq, List.mem_cons, List.mem_singleton, true_or, or_true, or_false, false_or, List.not_mem_nil, oCount, oSplit, oZfill, oLjust, oMulS, cMod, cDiv, cMul, oAdd, oSub, oMul, oDiv, oMod, oPow, oB, oI, oEq, oEqT, oGeT, oIndex, oIs, oIn, oIx, oMulI, oAddI, oSl, oRng1, oRng2, okL, okT, okS, fLen, fAbs, fInt, fStr, fMin, fMax, fSum, fSorted, fSortedW, fMinW, fList, fTuple, fIsi, fIsiC, tyOf, Ty.isi, ty_int, ty_bool, ty_str, ty_list, ty_tuple, ty_dict, isNon, eqOk_int, eqOk_non, eqOk_bl, eqD_int, eqD_bl, eqD_str, eqD_non, beq_self_eq_true, beq_iff_eq, Bool.and_self, atI_0, atI_1, atI_2, atI_3, atI_4, atI_5, atI_6, vw, vs, lendS, ownS, wipeE, ZL.frz, lendS, hasOb, env0, List.replicate_zero, List.replicate_succ, List.cons_append, Nat.reduceSub, List.map_cons, List.map_nil, List.getElem?_cons_zero, List.getElem?_cons_succ, List.getElem?_nil, List.set_cons_zero, List.set_cons_succ, List.length_cons, List.length_nil, List.length_set, Nat.reduceAdd, Nat.reduceLT, Nat.lt_add_one, Nat.zero_lt_succ, List.append_nil, List.nil_append, cln, clnS, clnL, clnX, List.all_cons, List.all_nil, Bool.and_true, Bool.true_and, and_true, true_and, if_true, if_false, Bool.false_eq_true, decide_eq_true_eq, Bool.true_or, Bool.or_true, Bool.false_or, Bool.or_false, decide_true, decide_false, Bool.and_false, Bool.false_and, reduceCtorEq, Int.reduceBEq, nc_0, nc_1, nc_2, nc_3, nc_4, nc_5, nc_6, Bool.not_true, Bool.not_false, reduceIte]
          refine ifZ (fun z => ?_) fun z => ?_
          · rw [if_pos (by omega)] at q
            exact q
          · rw [if_neg (by omega)] at q
            exact ⟨by decide, q⟩
        · rw [if_pos (by rw [decide_eq_false hn2]; rfl)]
          rw [pairO_none n hn2] at q
          exact q
  · rw [if_pos (by rw [decide_eq_false h2]; rfl)]
    rw [hno h2] at q0
    exact q0
theorem u_read_wardens : ∀ ds Q E, sp_read_wardens ds Q E → w_read_wardens (env0 N_read_wardens ds) (ends0 Q E) := by
  intro ds Q E h
  obtain ⟨ws, rfl, ok, q⟩ := h
  have hz : 3000 ≤ sizeLine := by decide
  have hl := ok.2
  simp only [w_read_wardens, w_read_wardens_s0, N_read_wardens, sp_read_warden, wSeq, wSet, wRet, wRetN, wIf, wDrop, wFor, wNext, wBreak, wCont, wAppend, wSetIx, wAug, wFrz, wAsg, gN, gT, gNil', gCons', mL, mS, mLT, mMv, mIV, mRng, mRngV, mItems, mOp, mB, mC, mVar, mCons, mNil, mTup, mLst, mCB, mCall, mAnd, mOr, mNot, mAndV, mOrV, mNotV, mIf, mNeg, mSl, mNo, mPart, mPk, mChain2, mChain3, mFld, mComp, mComp2, cN, cT, cNil, cCons, mEnum, mYes, mRev, mLenSet, mLenSetG, mLenSetH, wAugIx, mMeth, mMethS, mFst, mJR, mMv2, wUnp, mTru, truD, mMake, wFld, wNever, setN, setF, fldD, String.reduceEq, List.mem_cons, List.mem_singleton, true_or, or_true, or_false, false_or, List.not_mem_nil, oCount, oSplit, oZfill, oLjust, oMulS, cMod, cDiv, cMul, oAdd, oSub, oMul, oDiv, oMod, oPow, oB, oI, oEq, oEqT, oGeT, oIndex, oIs, oIn, oIx, oMulI, oAddI, oSl, oRng1, oRng2, okL, okT, okS, fLen, fAbs, fInt, fStr, fMin, fMax, fSum, fSorted, fSortedW, fMinW, fList, fTuple, fIsi, fIsiC, tyOf, Ty.isi, ty_int, ty_bool, ty_str, ty_list, ty_tuple, ty_dict, isNon, eqOk_int, eqOk_non, eqOk_bl, eqD_int, eqD_bl, eqD_str, eqD_non, beq_self_eq_true, beq_iff_eq, Bool.and_self, atI_0, atI_1, atI_2, atI_3, atI_4, atI_5, atI_6, vw, vs, lendS, ownS, wipeE, ZL.frz, lendS, hasOb, env0, List.replicate_zero, List.replicate_succ, List.cons_append, Nat.reduceSub, List.map_cons, List.map_nil, List.getElem?_cons_zero, List.getElem?_cons_succ, List.getElem?_nil, List.set_cons_zero, List.set_cons_succ, List.length_cons, List.length_nil, List.length_set, Nat.reduceAdd, Nat.reduceLT, Nat.lt_add_one, Nat.zero_lt_succ, List.append_nil, List.nil_append, cln, clnS, clnL, clnX, List.all_cons, List.all_nil, Bool.and_true, Bool.true_and, and_true, true_and, if_true, if_false, Bool.false_eq_true, decide_eq_true_eq, Bool.true_or, Bool.or_true, Bool.false_or, Bool.or_false, decide_true, decide_false, Bool.and_false, Bool.false_and, reduceCtorEq, Int.reduceBEq, nc_0, nc_1, nc_2, nc_3, nc_4, nc_5, nc_6, Bool.not_true, Bool.not_false, reduceIte]
  refine comp_map ws strT (fun p => entOD (wardenO p)) (fun p hp K hK => ?_) (by omega) ?_
  · simp only [wSeq, wSet, wRet, wRetN, wIf, wDrop, wFor, wNext, wBreak, wCont, wAppend, wSetIx, wAug, wFrz, wAsg, gN, gT, gNil', gCons', mL, mS, mLT, mMv, mIV, mRng, mRngV, mItems, mOp, mB, mC, mVar, mCons, mNil, mTup, mLst, mCB, mCall, mAnd, mOr, mNot, mAndV, mOrV, mNotV, mIf, mNeg, mSl, mNo, mPart, mPk, mChain2, mChain3, mFld, mComp, mComp2, cN, cT, cNil, cCons, mEnum, mYes, mRev, mLenSet, mLenSetG, mLenSetH, wAugIx, mMeth, mMethS, mFst, mJR, mMv2, wUnp, mTru, truD, mMake, wFld, wNever, setN, setF, fldD, String.reduceEq, List.mem_cons, List.mem_singleton, true_or, or_true, or_false, false_or, List.not_mem_nil, oCount, oSplit, oZfill, oLjust, oMulS, cMod, cDiv, cMul, oAdd, oSub, oMul, oDiv, oMod, oPow, oB, oI, oEq, oEqT, oGeT, oIndex, oIs, oIn, oIx, oMulI, oAddI, oSl, oRng1, oRng2, okL, okT, okS, fLen, fAbs, fInt, fStr, fMin, fMax, fSum, fSorted, fSortedW, fMinW, fList, fTuple, fIsi, fIsiC, tyOf, Ty.isi, ty_int, ty_bool, ty_str, ty_list, ty_tuple, ty_dict, isNon, eqOk_int, eqOk_non, eqOk_bl, eqD_int, eqD_bl, eqD_str, eqD_non, beq_self_eq_true, beq_iff_eq, Bool.and_self, atI_0, atI_1, atI_2, atI_3, atI_4, atI_5, atI_6, vw, vs, lendS, ownS, wipeE, ZL.frz, lendS, hasOb, env0, List.replicate_zero, List.replicate_succ, List.cons_append, Nat.reduceSub, List.map_cons, List.map_nil, List.getElem?_cons_zero, List.getElem?_cons_succ, List.getElem?_nil, List.set_cons_zero, List.set_cons_succ, List.length_cons, List.length_nil, List.length_set, Nat.reduceAdd, Nat.reduceLT, Nat.lt_add_one, Nat.zero_lt_succ, List.append_nil, List.nil_append, cln, clnS, clnL, clnX, List.all_cons, List.all_nil, Bool.and_true, Bool.true_and, and_true, true_and, if_true, if_false, Bool.false_eq_true, decide_eq_true_eq, Bool.true_or, Bool.or_true, Bool.false_or, Bool.or_false, decide_true, decide_false, Bool.and_false, Bool.false_and, reduceCtorEq, Int.reduceBEq, nc_0, nc_1, nc_2, nc_3, nc_4, nc_5, nc_6, Bool.not_true, Bool.not_false, reduceIte]
    exact ⟨p, rfl, ok.1 p hp, hK⟩
  have em : ws.map (fun p => entOD (wardenO p)) = (ws.map wardenO).map entOD := by rw [List.map_map]; rfl
  rw [em]
  unfold wardensO at q
  have hxl : (ws.map wardenO).length ≤ 1000 := by rw [List.length_map]; exact hl
  generalize ws.map wardenO = xs at *
  have eok : eqOk (.lst (xs.map entOD)) = true := (Dpt.lst (Dpt.all dpt_ent xs)).ok
  simp only [w_read_wardens_s1, wSeq, wSet, wRet, wRetN, wIf, wDrop, wFor, wNext, wBreak, wCont, wAppend, wSetIx, wAug, wFrz, wAsg, gN, gT, gNil', gCons', mL, mS, mLT, mMv, mIV, mRng, mRngV, mItems, mOp, mB, mC, mVar, mCons, mNil, mTup, mLst, mCB, mCall, mAnd, mOr, mNot, mAndV, mOrV, mNotV, mIf, mNeg, mSl, mNo, mPart, mPk, mChain2, mChain3, mFld, mComp, mComp2, cN, cT, cNil, cCons, mEnum, mYes, mRev, mLenSet, mLenSetG, mLenSetH, wAugIx, mMeth, mMethS, mFst, mJR, mMv2, wUnp, mTru, truD, mMake, wFld, wNever, setN, setF, fldD, String.reduceEq, List.mem_cons, List.mem_singleton, true_or, or_true, or_false, false_or, List.not_mem_nil, oCount, oSplit, oZfill, oLjust, oMulS, cMod, cDiv, cMul, oAdd, oSub, oMul, oDiv, oMod, oPow, oB, oI, oEq, oEqT, oGeT, oIndex, oIs, oIn, oIx, oMulI, oAddI, oSl, oRng1, oRng2, okL, okT, okS, fLen, fAbs, fInt, fStr, fMin, fMax, fSum, fSorted, fSortedW, fMinW, fList, fTuple, fIsi, fIsiC, tyOf, Ty.isi, ty_int, ty_bool, ty_str, ty_list, ty_tuple, ty_dict, isNon, eqOk_int, eqOk_non, eqOk_bl, eqD_int, eqD_bl, eqD_str, eqD_non, beq_self_eq_true, beq_iff_eq, Bool.and_self, atI_0, atI_1, atI_2, atI_3, atI_4, atI_5, atI_6, vw, vs, lendS, ownS, wipeE, ZL.frz, lendS, hasOb, env0, List.replicate_zero, List.replicate_succ, List.cons_append, Nat.reduceSub, List.map_cons, List.map_nil, List.getElem?_cons_zero, List.getElem?_cons_succ, List.getElem?_nil, List.set_cons_zero, List.set_cons_succ, List.length_cons, List.length_nil, List.length_set, Nat.reduceAdd, Nat.reduceLT, Nat.lt_add_one, Nat.zero_lt_succ, List.append_nil, List.nil_append, cln, clnS, clnL, clnX, List.all_cons, List.all_nil, Bool.and_true, Bool.true_and, and_true, true_and, if_true, if_false, Bool.false_eq_true, decide_eq_true_eq, Bool.true_or, Bool.or_true, Bool.false_or, Bool.or_false, decide_true, decide_false, Bool.and_false, Bool.false_and, reduceCtorEq, Int.reduceBEq, nc_0, nc_1, nc_2, nc_3, nc_4, nc_5, nc_6, Bool.not_true, Bool.not_false, reduceIte, eok, inD_none entOD eqD_non_ent xs]
  refine ⟨all_map cln_entO _, ?_⟩
  refine ifZ (fun z => ?_) fun z => ?_
  · rw [allO_none xs z] at q
    exact q
  · obtain ⟨ys, e1, e2⟩ := allO_all xs (eq_false_of_ne_true z)
    rw [e2] at q
    subst e1
    simp only at q
    rw [List.length_map] at hxl
    rw [List.map_map]
    refine comp_map ys entD (fun e => D.int (e.1 : Int)) (fun e he K hK => ?_) (by omega) ?_
    · simp only [entD, wSeq, wSet, wRet, wRetN, wIf, wDrop, wFor, wNext, wBreak, wCont, wAppend, wSetIx, wAug, wFrz, wAsg, gN, gT, gNil', gCons', mL, mS, mLT, mMv, mIV, mRng, mRngV, mItems, mOp, mB, mC, mVar, mCons, mNil, mTup, mLst, mCB, mCall, mAnd, mOr, mNot, mAndV, mOrV, mNotV, mIf, mNeg, mSl, mNo, mPart, mPk, mChain2, mChain3, mFld, mComp, mComp2, cN, cT, cNil, cCons, mEnum, mYes, mRev, mLenSet, mLenSetG, mLenSetH, wAugIx, mMeth, mMethS, mFst, mJR, mMv2, wUnp, mTru, truD, mMake, wFld, wNever, setN, setF, fldD, String.reduceEq, List.mem_cons, List.mem_singleton, true_or, or_true, or_false, false_or, List.not_mem_nil, oCount, oSplit, oZfill, oLjust, oMulS, cMod, cDiv, cMul, oAdd, oSub, oMul, oDiv, oMod, oPow, oB, oI, oEq, oEqT, oGeT, oIndex, oIs, oIn, oIx, oMulI, oAddI, oSl, oRng1, oRng2, okL, okT, okS, fLen, fAbs, fInt, fStr, fMin, fMax, fSum, fSorted, fSortedW, fMinW, fList, fTuple, fIsi, fIsiC, tyOf, Ty.isi, ty_int, ty_bool, ty_str, ty_list, ty_tuple, ty_dict, isNon, eqOk_int, eqOk_non, eqOk_bl, eqD_int, eqD_bl, eqD_str, eqD_non, beq_self_eq_true, beq_iff_eq, Bool.and_self, atI_0, atI_1, atI_2, atI_3, atI_4, atI_5, atI_6, vw, vs, lendS, ownS, wipeE, ZL.frz, lendS, hasOb, env0, List.replicate_zero, List.replicate_succ, List.cons_append, Nat.reduceSub, List.map_cons, List.map_nil, List.getElem?_cons_zero, List.getElem?_cons_succ, List.getElem?_nil, List.set_cons_zero, List.set_cons_succ, List.length_cons, List.length_nil, List.length_set, Nat.reduceAdd, Nat.reduceLT, Nat.lt_add_one, Nat.zero_lt_succ, List.append_nil, List.nil_append, cln, clnS, clnL, clnX, List.all_cons, List.all_nil, Bool.and_true, Bool.true_and, and_true, true_and, if_true, if_false, Bool.false_eq_true, decide_eq_true_eq, Bool.true_or, Bool.or_true, Bool.false_or, Bool.or_false, decide_true, decide_false, Bool.and_false, Bool.false_and, reduceCtorEq, Int.reduceBEq, nc_0, nc_1, nc_2, nc_3, nc_4, nc_5, nc_6, Bool.not_true, Bool.not_false, reduceIte]
      exact hK
    simp only [sp_is_rising]
    refine .inl ⟨false, ys.map (·.1), by rw [sq_f, natL, List.map_map]; rfl, by rw [List.length_map]; exact hxl, ?_⟩
    cases hr : riseN (ys.map (·.1)) with
    | false =>
      rw [hr, if_pos rfl] at q
      rw [if_pos (by decide)]
      exact q
    | true =>
      rw [hr, if_neg (by decide)] at q
      rw [if_neg (by decide)]
      simp only [w_read_wardens_s2, wSeq, wSet, wRet, wRetN, wIf, wDrop, wFor, wNext, wBreak, wCont, wAppend, wSetIx, wAug, wFrz, wAsg, gN, gT, gNil', gCons', mL, mS, mLT, mMv, mIV, mRng, mRngV, mItems, mOp, mB, mC, mVar, mCons, mNil, mTup, mLst, mCB, mCall, mAnd, mOr, mNot, mAndV, mOrV, mNotV, mIf, mNeg, mSl, mNo, mPart, mPk, mChain2, mChain3, mFld, mComp, mComp2, cN, cT, cNil, cCons, mEnum, mYes, mRev, mLenSet, mLenSetG, mLenSetH, wAugIx, mMeth, mMethS, mFst, mJR, mMv2, wUnp, mTru, truD, mMake, wFld, wNever, setN, setF, fldD, String.reduceEq, List.mem_cons, List.mem_singleton, true_or, or_true, or_false, false_or, List.not_mem_nil, oCount, oSplit, oZfill, oLjust, oMulS, cMod, cDiv, cMul, oAdd, oSub, oMul, oDiv, oMod, oPow, oB, oI, oEq, oEqT, oGeT, oIndex, oIs, oIn, oIx, oMulI, oAddI, oSl, oRng1, oRng2, okL, okT, okS, fLen, fAbs, fInt, fStr, fMin, fMax, fSum, fSorted, fSortedW, fMinW, fList, fTuple, fIsi, fIsiC, tyOf, Ty.isi, ty_int, ty_bool, ty_str, ty_list, ty_tuple, ty_dict, isNon, eqOk_int, eqOk_non, eqOk_bl, eqD_int, eqD_bl, eqD_str, eqD_non, beq_self_eq_true, beq_iff_eq, Bool.and_self, atI_0, atI_1, atI_2, atI_3, atI_4, atI_5, atI_6, vw, vs, lendS, ownS, wipeE, ZL.frz, lendS, hasOb, env0, List.replicate_zero, List.replicate_succ, List.cons_append, Nat.reduceSub, List.map_cons, List.map_nil, List.getElem?_cons_zero, List.getElem?_cons_succ, List.getElem?_nil, List.set_cons_zero, List.set_cons_succ, List.length_cons, List.length_nil, List.length_set, Nat.reduceAdd, Nat.reduceLT, Nat.lt_add_one, Nat.zero_lt_succ, List.append_nil, List.nil_append, cln, clnS, clnL, clnX, List.all_cons, List.all_nil, Bool.and_true, Bool.true_and, and_true, true_and, if_true, if_false, Bool.false_eq_true, decide_eq_true_eq, Bool.true_or, Bool.or_true, Bool.false_or, Bool.or_false, decide_true, decide_false, Bool.and_false, Bool.false_and, reduceCtorEq, Int.reduceBEq, nc_0, nc_1, nc_2, nc_3, nc_4, nc_5, nc_6, Bool.not_true, Bool.not_false, reduceIte]
      exact ⟨clnL_of (all_map cln_ent ys), q⟩
theorem u_read_cap : ∀ ds Q E, sp_read_cap ds Q E → w_read_cap (env0 N_read_cap ds) (ends0 Q E) := by
  intro ds Q E h
  obtain ⟨ws, rfl, ok, h2, q⟩ := h
  obtain ⟨p, p2, rfl⟩ := two_of h2
  simp only [w_read_cap, w_read_cap_s0, w_read_cap_s1, N_read_cap, sp_number_of, wSeq, wSet, wRet, wRetN, wIf, wDrop, wFor, wNext, wBreak, wCont, wAppend, wSetIx, wAug, wFrz, wAsg, gN, gT, gNil', gCons', mL, mS, mLT, mMv, mIV, mRng, mRngV, mItems, mOp, mB, mC, mVar, mCons, mNil, mTup, mLst, mCB, mCall, mAnd, mOr, mNot, mAndV, mOrV, mNotV, mIf, mNeg, mSl, mNo, mPart, mPk, mChain2, mChain3, mFld, mComp, mComp2, cN, cT, cNil, cCons, mEnum, mYes, mRev, mLenSet, mLenSetG, mLenSetH, wAugIx, mMeth, mMethS, mFst, mJR, mMv2, wUnp, mTru, truD, mMake, wFld, wNever, setN, setF, fldD, String.reduceEq, List.mem_cons, List.mem_singleton, true_or, or_true, or_false, false_or, List.not_mem_nil, oCount, oSplit, oZfill, oLjust, oMulS, cMod, cDiv, cMul, oAdd, oSub, oMul, oDiv, oMod, oPow, oB, oI, oEq, oEqT, oGeT, oIndex, oIs, oIn, oIx, oMulI, oAddI, oSl, oRng1, oRng2, okL, okT, okS, fLen, fAbs, fInt, fStr, fMin, fMax, fSum, fSorted, fSortedW, fMinW, fList, fTuple, fIsi, fIsiC, tyOf, Ty.isi, ty_int, ty_bool, ty_str, ty_list, ty_tuple, ty_dict, isNon, eqOk_int, eqOk_non, eqOk_bl, eqD_int, eqD_bl, eqD_str, eqD_non, beq_self_eq_true, beq_iff_eq, Bool.and_self, atI_0, atI_1, atI_2, atI_3, atI_4, atI_5, atI_6, vw, vs, lendS, ownS, wipeE, ZL.frz, lendS, hasOb, env0, List.replicate_zero, List.replicate_succ, List.cons_append, Nat.reduceSub, List.map_cons, List.map_nil, List.getElem?_cons_zero, List.getElem?_cons_succ, List.getElem?_nil, List.set_cons_zero, List.set_cons_succ, List.length_cons, List.length_nil, List.length_set, Nat.reduceAdd, Nat.reduceLT, Nat.lt_add_one, Nat.zero_lt_succ, List.append_nil, List.nil_append, cln, clnS, clnL, clnX, List.all_cons, List.all_nil, Bool.and_true, Bool.true_and, and_true, true_and, if_true, if_false, Bool.false_eq_true, decide_eq_true_eq, Bool.true_or, Bool.or_true, Bool.false_or, Bool.or_false, decide_true, decide_false, Bool.and_false, Bool.false_and, reduceCtorEq, Int.reduceBEq, nc_0, nc_1, nc_2, nc_3, nc_4, nc_5, nc_6, Bool.not_true, Bool.not_false, reduceIte]
  refine ⟨p, rfl, ok.1 p (by simp), cln_num _, p2, rfl, ok.1 p2 (by simp), cln_num _, ?_⟩
  unfold capO at q
  simp only [List.getD_cons_zero, List.getD_cons_succ] at q
  cases h1 : numO p with
  | none =>
    rw [h1] at q
    simp only [w_read_cap_s2, numD, wSeq, wSet, wRet, wRetN, wIf, wDrop, wFor, wNext, wBreak, wCont, wAppend, wSetIx, wAug, wFrz, wAsg, gN, gT, gNil', gCons', mL, mS, mLT, mMv, mIV, mRng, mRngV, mItems, mOp, mB, mC, mVar, mCons, mNil, mTup, mLst, mCB, mCall, mAnd, mOr, mNot, mAndV, mOrV, mNotV, mIf, mNeg, mSl, mNo, mPart, mPk, mChain2, mChain3, mFld, mComp, mComp2, cN, cT, cNil, cCons, mEnum, mYes, mRev, mLenSet, mLenSetG, mLenSetH, wAugIx, mMeth, mMethS, mFst, mJR, mMv2, wUnp, mTru, truD, mMake, wFld, wNever, setN, setF, fldD, String.reduceEq, List.mem_cons, List.mem_singleton, true_or, or_true, or_false, false_or, List.not_mem_nil, oCount, oSplit, oZfill, oLjust, oMulS, cMod, cDiv, cMul, oAdd, oSub, oMul, oDiv, oMod, oPow, oB, oI, oEq, oEqT, oGeT, oIndex, oIs, oIn, oIx, oMulI, oAddI, oSl, oRng1, oRng2, okL, okT, okS, fLen, fAbs, fInt, fStr, fMin, fMax, fSum, fSorted, fSortedW, fMinW, fList, fTuple, fIsi, fIsiC, tyOf, Ty.isi, ty_int, ty_bool, ty_str, ty_list, ty_tuple, ty_dict, isNon, eqOk_int, eqOk_non, eqOk_bl, eqD_int, eqD_bl, eqD_str, eqD_non, beq_self_eq_true, beq_iff_eq, Bool.and_self, atI_0, atI_1, atI_2, atI_3, atI_4, atI_5, atI_6, vw, vs, lendS, ownS, wipeE, ZL.frz, lendS, hasOb, env0, List.replicate_zero, List.replicate_succ, List.cons_append, Nat.reduceSub, List.map_cons, List.map_nil, List.getElem?_cons_zero, List.getElem?_cons_succ, List.getElem?_nil, List.set_cons_zero, List.set_cons_succ, List.length_cons, List.length_nil, List.length_set, Nat.reduceAdd, Nat.reduceLT, Nat.lt_add_one, Nat.zero_lt_succ, List.append_nil, List.nil_append, cln, clnS, clnL, clnX, List.all_cons, List.all_nil, Bool.and_true, Bool.true_and, and_true, true_and, if_true, if_false, Bool.false_eq_true, decide_eq_true_eq, Bool.true_or, Bool.or_true, Bool.false_or, Bool.or_false, decide_true, decide_false, Bool.and_false, Bool.false_and, reduceCtorEq, Int.reduceBEq, nc_0, nc_1, nc_2, nc_3, nc_4, nc_5, nc_6, Bool.not_true, Bool.not_false, reduceIte]
    exact q
  | some s =>
    rw [h1] at q
    cases h3 : numO p2 with
    | none =>
      rw [h3] at q
      simp only [w_read_cap_s2, numD, wSeq, wSet, wRet, wRetN, wIf, wDrop, wFor, wNext, wBreak, wCont, wAppend, wSetIx, wAug, wFrz, wAsg, gN, gT, gNil', gCons', mL, mS, mLT, mMv, mIV, mRng, mRngV, mItems, mOp, mB, mC, mVar, mCons, mNil, mTup, mLst, mCB, mCall, mAnd, mOr, mNot, mAndV, mOrV, mNotV, mIf, mNeg, mSl, mNo, mPart, mPk, mChain2, mChain3, mFld, mComp, mComp2, cN, cT, cNil, cCons, mEnum, mYes, mRev, mLenSet, mLenSetG, mLenSetH, wAugIx, mMeth, mMethS, mFst, mJR, mMv2, wUnp, mTru, truD, mMake, wFld, wNever, setN, setF, fldD, String.reduceEq, List.mem_cons, List.mem_singleton, true_or, or_true, or_false, false_or, List.not_mem_nil, oCount, oSplit, oZfill, oLjust, oMulS, cMod, cDiv, cMul, oAdd, oSub, oMul, oDiv, oMod, oPow, oB, oI, oEq, oEqT, oGeT, oIndex, oIs, oIn, oIx, oMulI, oAddI, oSl, oRng1, oRng2, okL, okT, okS, fLen, fAbs, fInt, fStr, fMin, fMax, fSum, fSorted, fSortedW, fMinW, fList, fTuple, fIsi, fIsiC, tyOf, Ty.isi, ty_int, ty_bool, ty_str, ty_list, ty_tuple, ty_dict, isNon, eqOk_int, eqOk_non, eqOk_bl, eqD_int, eqD_bl, eqD_str, eqD_non, beq_self_eq_true, beq_iff_eq, Bool.and_self, atI_0, atI_1, atI_2, atI_3, atI_4, atI_5, atI_6, vw, vs, lendS, ownS, wipeE, ZL.frz, lendS, hasOb, env0, List.replicate_zero, List.replicate_succ, List.cons_append, Nat.reduceSub, List.map_cons, List.map_nil, List.getElem?_cons_zero, List.getElem?_cons_succ, List.getElem?_nil, List.set_cons_zero, List.set_cons_succ, List.length_cons, List.length_nil, List.length_set, Nat.reduceAdd, Nat.reduceLT, Nat.lt_add_one, Nat.zero_lt_succ, List.append_nil, List.nil_append, cln, clnS, clnL, clnX, List.all_cons, List.all_nil, Bool.and_true, Bool.true_and, and_true, true_and, if_true, if_false, Bool.false_eq_true, decide_eq_true_eq, Bool.true_or, Bool.or_true, Bool.false_or, Bool.or_false, decide_true, decide_false, Bool.and_false, Bool.false_and, reduceCtorEq, Int.reduceBEq, nc_0, nc_1, nc_2, nc_3, nc_4, nc_5, nc_6, Bool.not_true, Bool.not_false, reduceIte]
      exact q
    | some c =>
      rw [h3] at q
      simp only [w_read_cap_s2, w_read_cap_s3, numD, wSeq, wSet, wRet, wRetN, wIf, wDrop, wFor, wNext, wBreak, wCont, wAppend, wSetIx, wAug, wFrz, wAsg, gN, gT, gNil', gCons', mL, mS, mLT, mMv, mIV, mRng, mRngV, mItems, mOp, mB, mC, mVar, mCons, mNil, mTup, mLst, mCB, mCall, mAnd, mOr, mNot, mAndV, mOrV, mNotV, mIf, mNeg, mSl, mNo, mPart, mPk, mChain2, mChain3, mFld, mComp, mComp2, cN, cT, cNil, cCons, mEnum, mYes, mRev, mLenSet, mLenSetG, mLenSetH, wAugIx, mMeth, mMethS, mFst, mJR, mMv2, wUnp, mTru, truD, mMake, wFld, wNever, setN, setF, fldD, String.reduceEq, List.mem_cons, List.mem_singleton, true_or, or_true, or_false, false_or, List.not_mem_nil, oCount, oSplit, oZfill, oLjust, oMulS, cMod, cDiv, cMul, oAdd, oSub, oMul, oDiv, oMod, oPow, oB, oI, oEq, oEqT, oGeT, oIndex, oIs, oIn, oIx, oMulI, oAddI, oSl, oRng1, oRng2, okL, okT, okS, fLen, fAbs, fInt, fStr, fMin, fMax, fSum, fSorted, fSortedW, fMinW, fList, fTuple, fIsi, fIsiC, tyOf, Ty.isi, ty_int, ty_bool, ty_str, ty_list, ty_tuple, ty_dict, isNon, eqOk_int, eqOk_non, eqOk_bl, eqD_int, eqD_bl, eqD_str, eqD_non, beq_self_eq_true, beq_iff_eq, Bool.and_self, atI_0, atI_1, atI_2, atI_3, atI_4, atI_5, atI_6, vw, vs, lendS, ownS, wipeE, ZL.frz, lendS, hasOb, env0, List.replicate_zero, List.replicate_succ, List.cons_append, Nat.reduceSub, List.map_cons, List.map_nil, List.getElem?_cons_zero, List.getElem?_cons_succ, List.getElem?_nil, List.set_cons_zero, List.set_cons_succ, List.length_cons, List.length_nil, List.length_set, Nat.reduceAdd, Nat.reduceLT, Nat.lt_add_one, Nat.zero_lt_succ, List.append_nil, List.nil_append, cln, clnS, clnL, clnX, List.all_cons, List.all_nil, Bool.and_true, Bool.true_and, and_true, true_and, if_true, if_false, Bool.false_eq_true, decide_eq_true_eq, Bool.true_or, Bool.or_true, Bool.false_or, Bool.or_false, decide_true, decide_false, Bool.and_false, Bool.false_and, reduceCtorEq, Int.reduceBEq, nc_0, nc_1, nc_2, nc_3, nc_4, nc_5, nc_6, Bool.not_true, Bool.not_false, reduceIte, cap_tx]
      exact ⟨by decide, q⟩
theorem cutD_dropS (ws : List Tx) (k : Nat) : cutD (ws.map strT) (some (k : Int)) none = (ws.drop k).map strT := by rw [cutD_drop, List.map_drop]
theorem u_read_picture : ∀ ds Q E, sp_read_picture ds Q E → w_read_picture (env0 N_read_picture ds) (ends0 Q E) := by
  intro ds Q E h
  obtain ⟨ws, rfl, ok, h1, q⟩ := h
  have hz : 3000 ≤ sizeLine := by decide
  obtain ⟨w, r, rfl⟩ := List.exists_cons_of_length_pos h1
  have hl := ok.2
  simp only [List.length_cons] at hl
  have ed : cutD ((w :: r).map strT) (some 1) none = r.map strT := cutD_dropS (w :: r) 1
  simp only [List.map_cons] at ed
  simp only [w_read_picture, w_read_picture_s0, w_read_picture_s1, N_read_picture, sp_read_list, sp_read_named, wSeq, wSet, wRet, wRetN, wIf, wDrop, wFor, wNext, wBreak, wCont, wAppend, wSetIx, wAug, wFrz, wAsg, gN, gT, gNil', gCons', mL, mS, mLT, mMv, mIV, mRng, mRngV, mItems, mOp, mB, mC, mVar, mCons, mNil, mTup, mLst, mCB, mCall, mAnd, mOr, mNot, mAndV, mOrV, mNotV, mIf, mNeg, mSl, mNo, mPart, mPk, mChain2, mChain3, mFld, mComp, mComp2, cN, cT, cNil, cCons, mEnum, mYes, mRev, mLenSet, mLenSetG, mLenSetH, wAugIx, mMeth, mMethS, mFst, mJR, mMv2, wUnp, mTru, truD, mMake, wFld, wNever, setN, setF, fldD, String.reduceEq, List.mem_cons, List.mem_singleton, true_or, or_true, or_false, false_or, List.not_mem_nil, oCount, oSplit, oZfill, oLjust, oMulS, cMod, cDiv, cMul, oAdd, oSub, oMul, oDiv, oMod, oPow, oB, oI, oEq, oEqT, oGeT, oIndex, oIs, oIn, oIx, oMulI, oAddI, oSl, oRng1, oRng2, okL, okT, okS, fLen, fAbs, fInt, fStr, fMin, fMax, fSum, fSorted, fSortedW, fMinW, fList, fTuple, fIsi, fIsiC, tyOf, Ty.isi, ty_int, ty_bool, ty_str, ty_list, ty_tuple, ty_dict, isNon, eqOk_int, eqOk_non, eqOk_bl, eqD_int, eqD_bl, eqD_str, eqD_non, beq_self_eq_true, beq_iff_eq, Bool.and_self, atI_0, atI_1, atI_2, atI_3, atI_4, atI_5, atI_6, vw, vs, lendS, ownS, wipeE, ZL.frz, lendS, hasOb, env0, List.replicate_zero, List.replicate_succ, List.cons_append, Nat.reduceSub, List.map_cons, List.map_nil, List.getElem?_cons_zero, List.getElem?_cons_succ, List.getElem?_nil, List.set_cons_zero, List.set_cons_succ, List.length_cons, List.length_nil, List.length_set, Nat.reduceAdd, Nat.reduceLT, Nat.lt_add_one, Nat.zero_lt_succ, List.append_nil, List.nil_append, cln, clnS, clnL, clnX, List.all_cons, List.all_nil, Bool.and_true, Bool.true_and, and_true, true_and, if_true, if_false, Bool.false_eq_true, decide_eq_true_eq, Bool.true_or, Bool.or_true, Bool.false_or, Bool.or_false, decide_true, decide_false, Bool.and_false, Bool.false_and, reduceCtorEq, Int.reduceBEq, nc_0, nc_1, nc_2, nc_3, nc_4, nc_5, nc_6, Bool.not_true, Bool.not_false, reduceIte, ed]
  refine ⟨w, rfl, ok.1 w (by simp), cln_list _, ?_⟩
  refine comp_map r strT (fun p => namOD (namedO p)) (fun p hp K hK => ?_) (by omega) ?_
  · simp only [wSeq, wSet, wRet, wRetN, wIf, wDrop, wFor, wNext, wBreak, wCont, wAppend, wSetIx, wAug, wFrz, wAsg, gN, gT, gNil', gCons', mL, mS, mLT, mMv, mIV, mRng, mRngV, mItems, mOp, mB, mC, mVar, mCons, mNil, mTup, mLst, mCB, mCall, mAnd, mOr, mNot, mAndV, mOrV, mNotV, mIf, mNeg, mSl, mNo, mPart, mPk, mChain2, mChain3, mFld, mComp, mComp2, cN, cT, cNil, cCons, mEnum, mYes, mRev, mLenSet, mLenSetG, mLenSetH, wAugIx, mMeth, mMethS, mFst, mJR, mMv2, wUnp, mTru, truD, mMake, wFld, wNever, setN, setF, fldD, String.reduceEq, List.mem_cons, List.mem_singleton, true_or, or_true, or_false, false_or, List.not_mem_nil, oCount, oSplit, oZfill, oLjust, oMulS, cMod, cDiv, cMul, oAdd, oSub, oMul, oDiv, oMod, oPow, oB, oI, oEq, oEqT, oGeT, oIndex, oIs, oIn, oIx, oMulI, oAddI, oSl, oRng1, oRng2, okL, okT, okS, fLen, fAbs, fInt, fStr, fMin, fMax, fSum, fSorted, fSortedW, fMinW, fList, fTuple, fIsi, fIsiC, tyOf, Ty.isi, ty_int, ty_bool, ty_str, ty_list, ty_tuple, ty_dict, isNon, eqOk_int, eqOk_non, eqOk_bl, eqD_int, eqD_bl, eqD_str, eqD_non, beq_self_eq_true, beq_iff_eq, Bool.and_self, atI_0, atI_1, atI_2, atI_3, atI_4, atI_5, atI_6, vw, vs, lendS, ownS, wipeE, ZL.frz, lendS, hasOb, env0, List.replicate_zero, List.replicate_succ, List.cons_append, Nat.reduceSub, List.map_cons, List.map_nil, List.getElem?_cons_zero, List.getElem?_cons_succ, List.getElem?_nil, List.set_cons_zero, List.set_cons_succ, List.length_cons, List.length_nil, List.length_set, Nat.reduceAdd, Nat.reduceLT, Nat.lt_add_one, Nat.zero_lt_succ, List.append_nil, List.nil_append, cln, clnS, clnL, clnX, List.all_cons, List.all_nil, Bool.and_true, Bool.true_and, and_true, true_and, if_true, if_false, Bool.false_eq_true, decide_eq_true_eq, Bool.true_or, Bool.or_true, Bool.false_or, Bool.or_false, decide_true, decide_false, Bool.and_false, Bool.false_and, reduceCtorEq, Int.reduceBEq, nc_0, nc_1, nc_2, nc_3, nc_4, nc_5, nc_6, Bool.not_true, Bool.not_false, reduceIte]
    exact ⟨p, rfl, ok.1 p (List.mem_cons_of_mem _ hp), hK⟩
  have em : r.map (fun p => namOD (namedO p)) = (r.map namedO).map namOD := by rw [List.map_map]; rfl
  rw [em]
  unfold pictureO at q
  simp only [List.getD_cons_zero, List.drop_succ_cons, List.drop_zero] at q
  have hxl : (r.map namedO).length ≤ 1000 := by rw [List.length_map]; omega
  have hdx : ∀ o ∈ r.map namedO, Dpt 2 (namOD o) := by
    intro o ho
    obtain ⟨w', hw, rfl⟩ := List.mem_map.1 ho
    cases e : namedO w' with
    | none => exact Dpt.non 2
    | some q =>
      refine Dpt.tup fun d hd => ?_
      simp only [List.mem_cons, List.not_mem_nil, or_false] at hd
      rcases hd with rfl | rfl
      · exact Dpt.up (dpt_str ((ok.1 w' (List.mem_cons_of_mem _ hw)).cut (namedO_name e))) (Nat.zero_le _)
      · exact Dpt.tup fun d hd => by
          obtain ⟨n, _, rfl⟩ := List.mem_map.1 hd
          exact Dpt.int 0 _
  generalize r.map namedO = xs at *
  have eok : eqOk (.lst (xs.map namOD)) = true := by
    refine (Dpt.lst (n := 2) fun d hd => ?_).ok
    obtain ⟨o, ho, rfl⟩ := List.mem_map.1 hd
    exact hdx o ho
  refine ⟨all_map cln_namO _, ?_⟩
  cases hL : listO w with
  | none =>
    rw [hL] at q
    simp only [w_read_picture_s2, listD, wSeq, wSet, wRet, wRetN, wIf, wDrop, wFor, wNext, wBreak, wCont, wAppend, wSetIx, wAug, wFrz, wAsg, gN, gT, gNil', gCons', mL, mS, mLT, mMv, mIV, mRng, mRngV, mItems, mOp, mB, mC, mVar, mCons, mNil, mTup, mLst, mCB, mCall, mAnd, mOr, mNot, mAndV, mOrV, mNotV, mIf, mNeg, mSl, mNo, mPart, mPk, mChain2, mChain3, mFld, mComp, mComp2, cN, cT, cNil, cCons, mEnum, mYes, mRev, mLenSet, mLenSetG, mLenSetH, wAugIx, mMeth, mMethS, mFst, mJR, mMv2, wUnp, mTru, truD, mMake, wFld, wNever, setN, setF, fldD, String.reduceEq, List.mem_cons, List.mem_singleton, true_or, or_true, or_false, false_or, List.not_mem_nil, oCount, oSplit, oZfill, oLjust, oMulS, cMod, cDiv, cMul, oAdd, oSub, oMul, oDiv, oMod, oPow, oB, oI, oEq, oEqT, oGeT, oIndex, oIs, oIn, oIx, oMulI, oAddI, oSl, oRng1, oRng2, okL, okT, okS, fLen, fAbs, fInt, fStr, fMin, fMax, fSum, fSorted, fSortedW, fMinW, fList, fTuple, fIsi, fIsiC, tyOf, Ty.isi, ty_int, ty_bool, ty_str, ty_list, ty_tuple, ty_dict, isNon, eqOk_int, eqOk_non, eqOk_bl, eqD_int, eqD_bl, eqD_str, eqD_non, beq_self_eq_true, beq_iff_eq, Bool.and_self, atI_0, atI_1, atI_2, atI_3, atI_4, atI_5, atI_6, vw, vs, lendS, ownS, wipeE, ZL.frz, lendS, hasOb, env0, List.replicate_zero, List.replicate_succ, List.cons_append, Nat.reduceSub, List.map_cons, List.map_nil, List.getElem?_cons_zero, List.getElem?_cons_succ, List.getElem?_nil, List.set_cons_zero, List.set_cons_succ, List.length_cons, List.length_nil, List.length_set, Nat.reduceAdd, Nat.reduceLT, Nat.lt_add_one, Nat.zero_lt_succ, List.append_nil, List.nil_append, cln, clnS, clnL, clnX, List.all_cons, List.all_nil, Bool.and_true, Bool.true_and, and_true, true_and, if_true, if_false, Bool.false_eq_true, decide_eq_true_eq, Bool.true_or, Bool.or_true, Bool.false_or, Bool.or_false, decide_true, decide_false, Bool.and_false, Bool.false_and, reduceCtorEq, Int.reduceBEq, nc_0, nc_1, nc_2, nc_3, nc_4, nc_5, nc_6, Bool.not_true, Bool.not_false, reduceIte]
    exact q
  | some cs =>
    rw [hL] at q
    simp only at q
    simp only [w_read_picture_s2, listD, nlD, natL, wSeq, wSet, wRet, wRetN, wIf, wDrop, wFor, wNext, wBreak, wCont, wAppend, wSetIx, wAug, wFrz, wAsg, gN, gT, gNil', gCons', mL, mS, mLT, mMv, mIV, mRng, mRngV, mItems, mOp, mB, mC, mVar, mCons, mNil, mTup, mLst, mCB, mCall, mAnd, mOr, mNot, mAndV, mOrV, mNotV, mIf, mNeg, mSl, mNo, mPart, mPk, mChain2, mChain3, mFld, mComp, mComp2, cN, cT, cNil, cCons, mEnum, mYes, mRev, mLenSet, mLenSetG, mLenSetH, wAugIx, mMeth, mMethS, mFst, mJR, mMv2, wUnp, mTru, truD, mMake, wFld, wNever, setN, setF, fldD, String.reduceEq, List.mem_cons, List.mem_singleton, true_or, or_true, or_false, false_or, List.not_mem_nil, oCount, oSplit, oZfill, oLjust, oMulS, cMod, cDiv, cMul, oAdd, oSub, oMul, oDiv, oMod, oPow, oB, oI, oEq, oEqT, oGeT, oIndex, oIs, oIn, oIx, oMulI, oAddI, oSl, oRng1, oRng2, okL, okT, okS, fLen, fAbs, fInt, fStr, fMin, fMax, fSum, fSorted, fSortedW, fMinW, fList, fTuple, fIsi, fIsiC, tyOf, Ty.isi, ty_int, ty_bool, ty_str, ty_list, ty_tuple, ty_dict, isNon, eqOk_int, eqOk_non, eqOk_bl, eqD_int, eqD_bl, eqD_str, eqD_non, beq_self_eq_true, beq_iff_eq, Bool.and_self, atI_0, atI_1, atI_2, atI_3, atI_4, atI_5, atI_6, vw, vs, lendS, ownS, wipeE, ZL.frz, lendS, hasOb, env0, List.replicate_zero, List.replicate_succ, List.cons_append, Nat.reduceSub, List.map_cons, List.map_nil, List.getElem?_cons_zero, List.getElem?_cons_succ, List.getElem?_nil, List.set_cons_zero, List.set_cons_succ, List.length_cons, List.length_nil, List.length_set, Nat.reduceAdd, Nat.reduceLT, Nat.lt_add_one, Nat.zero_lt_succ, List.append_nil, List.nil_append, cln, clnS, clnL, clnX, List.all_cons, List.all_nil, Bool.and_true, Bool.true_and, and_true, true_and, if_true, if_false, Bool.false_eq_true, decide_eq_true_eq, Bool.true_or, Bool.or_true, Bool.false_or, Bool.or_false, decide_true, decide_false, Bool.and_false, Bool.false_and, reduceCtorEq, Int.reduceBEq, nc_0, nc_1, nc_2, nc_3, nc_4, nc_5, nc_6, Bool.not_true, Bool.not_false, reduceIte, eok, inD_none namOD eqD_non_nam xs, List.length_map]
    refine ifZ (fun z => ?_) fun z => ?_
    · rw [if_pos (List.eq_nil_of_length_eq_zero (by omega))] at q
      exact q
    rw [if_neg (fun e => z (by rw [e]; rfl))] at q
    refine ifZ (fun z => ?_) fun z => ?_
    · rw [allO_none xs z] at q
      exact q
    obtain ⟨ys, e1, e2⟩ := allO_all xs (eq_false_of_ne_true z)
    rw [e2] at q
    subst e1
    simp only at q
    rw [List.length_map] at hxl
    simp only [w_read_picture_s3, wSeq, wSet, wRet, wRetN, wIf, wDrop, wFor, wNext, wBreak, wCont, wAppend, wSetIx, wAug, wFrz, wAsg, gN, gT, gNil', gCons', mL, mS, mLT, mMv, mIV, mRng, mRngV, mItems, mOp, mB, mC, mVar, mCons, mNil, mTup, mLst, mCB, mCall, mAnd, mOr, mNot, mAndV, mOrV, mNotV, mIf, mNeg, mSl, mNo, mPart, mPk, mChain2, mChain3, mFld, mComp, mComp2, cN, cT, cNil, cCons, mEnum, mYes, mRev, mLenSet, mLenSetG, mLenSetH, wAugIx, mMeth, mMethS, mFst, mJR, mMv2, wUnp, mTru, truD, mMake, wFld, wNever, setN, setF, fldD, String.reduceEq, List.mem_cons, List.mem_singleton, true_or, or_true, or_false, false_or, List.not_mem_nil, oCount, oSplit, oZfill, oLjust, oMulS, cMod, cDiv, cMul, oAdd, oSub, oMul, oDiv, oMod, oPow, oB, oI, oEq, oEqT, oGeT, oIndex, oIs, oIn, oIx, oMulI, oAddI, oSl, oRng1, oRng2, okL, okT, okS, fLen, fAbs, fInt, fStr, fMin, fMax, fSum, fSorted, fSortedW, fMinW, fList, fTuple, fIsi, fIsiC, tyOf, Ty.isi, ty_int, ty_bool, ty_str, ty_list, ty_tuple, ty_dict, isNon, eqOk_int, eqOk_non, eqOk_bl, eqD_int, eqD_bl, eqD_str, eqD_non, beq_self_eq_true, beq_iff_eq, Bool.and_self, atI_0, atI_1, atI_2, atI_3, atI_4, atI_5, atI_6, vw, vs, lendS, ownS, wipeE, ZL.frz, lendS, hasOb, env0, List.replicate_zero, List.replicate_succ, List.cons_append, Nat.reduceSub, List.map_cons, List.map_nil, List.getElem?_cons_zero, List.getElem?_cons_succ, List.getElem?_nil, List.set_cons_zero, List.set_cons_succ, List.length_cons, List.length_nil, List.length_set, Nat.reduceAdd, Nat.reduceLT, Nat.lt_add_one, Nat.zero_lt_succ, List.append_nil, List.nil_append, cln, clnS, clnL, clnX, List.all_cons, List.all_nil, Bool.and_true, Bool.true_and, and_true, true_and, if_true, if_false, Bool.false_eq_true, decide_eq_true_eq, Bool.true_or, Bool.or_true, Bool.false_or, Bool.or_false, decide_true, decide_false, Bool.and_false, Bool.false_and, reduceCtorEq, Int.reduceBEq, nc_0, nc_1, nc_2, nc_3, nc_4, nc_5, nc_6, Bool.not_true, Bool.not_false, reduceIte, List.map_map]
    refine comp_map ys namD (fun p => strT p.1) (fun p hp K hK => ?_) (by omega) ?_
    · simp only [namD, wSeq, wSet, wRet, wRetN, wIf, wDrop, wFor, wNext, wBreak, wCont, wAppend, wSetIx, wAug, wFrz, wAsg, gN, gT, gNil', gCons', mL, mS, mLT, mMv, mIV, mRng, mRngV, mItems, mOp, mB, mC, mVar, mCons, mNil, mTup, mLst, mCB, mCall, mAnd, mOr, mNot, mAndV, mOrV, mNotV, mIf, mNeg, mSl, mNo, mPart, mPk, mChain2, mChain3, mFld, mComp, mComp2, cN, cT, cNil, cCons, mEnum, mYes, mRev, mLenSet, mLenSetG, mLenSetH, wAugIx, mMeth, mMethS, mFst, mJR, mMv2, wUnp, mTru, truD, mMake, wFld, wNever, setN, setF, fldD, String.reduceEq, List.mem_cons, List.mem_singleton, true_or, or_true, or_false, false_or, List.not_mem_nil, oCount, oSplit, oZfill, oLjust, oMulS, cMod, cDiv, cMul, oAdd, oSub, oMul, oDiv, oMod, oPow, oB, oI, oEq, oEqT, oGeT, oIndex, oIs, oIn, oIx, oMulI, oAddI, oSl, oRng1, oRng2, okL, okT, okS, fLen, fAbs, fInt, fStr, fMin, fMax, fSum, fSorted, fSortedW, fMinW, fList, fTuple, fIsi, fIsiC, tyOf, Ty.isi, ty_int, ty_bool, ty_str, ty_list, ty_tuple, ty_dict, isNon, eqOk_int, eqOk_non, eqOk_bl, eqD_int, eqD_bl, eqD_str, eqD_non, beq_self_eq_true, beq_iff_eq, Bool.and_self, atI_0, atI_1, atI_2, atI_3, atI_4, atI_5, atI_6, vw, vs, lendS, ownS, wipeE, ZL.frz, lendS, hasOb, env0, List.replicate_zero, List.replicate_succ, List.cons_append, Nat.reduceSub, List.map_cons, List.map_nil, List.getElem?_cons_zero, List.getElem?_cons_succ, List.getElem?_nil, List.set_cons_zero, List.set_cons_succ, List.length_cons, List.length_nil, List.length_set, Nat.reduceAdd, Nat.reduceLT, Nat.lt_add_one, Nat.zero_lt_succ, List.append_nil, List.nil_append, cln, clnS, clnL, clnX, List.all_cons, List.all_nil, Bool.and_true, Bool.true_and, and_true, true_and, if_true, if_false, Bool.false_eq_true, decide_eq_true_eq, Bool.true_or, Bool.or_true, Bool.false_or, Bool.or_false, decide_true, decide_false, Bool.and_false, Bool.false_and, reduceCtorEq, Int.reduceBEq, nc_0, nc_1, nc_2, nc_3, nc_4, nc_5, nc_6, Bool.not_true, Bool.not_false, reduceIte]
      exact hK
    simp only [sp_is_rising]
    refine .inr ⟨ys.map (·.1), by rw [List.map_map]; rfl, by rw [List.length_map]; exact hxl, ?_⟩
    cases hr : riseT (ys.map (·.1)) with
    | false =>
      rw [hr, if_pos rfl] at q
      rw [if_pos (by decide)]
      exact q
    | true =>
      rw [hr, if_neg (by decide)] at q
      rw [if_neg (by decide)]
      simp only [w_read_picture_s4, wSeq, wSet, wRet, wRetN, wIf, wDrop, wFor, wNext, wBreak, wCont, wAppend, wSetIx, wAug, wFrz, wAsg, gN, gT, gNil', gCons', mL, mS, mLT, mMv, mIV, mRng, mRngV, mItems, mOp, mB, mC, mVar, mCons, mNil, mTup, mLst, mCB, mCall, mAnd, mOr, mNot, mAndV, mOrV, mNotV, mIf, mNeg, mSl, mNo, mPart, mPk, mChain2, mChain3, mFld, mComp, mComp2, cN, cT, cNil, cCons, mEnum, mYes, mRev, mLenSet, mLenSetG, mLenSetH, wAugIx, mMeth, mMethS, mFst, mJR, mMv2, wUnp, mTru, truD, mMake, wFld, wNever, setN, setF, fldD, String.reduceEq, List.mem_cons, List.mem_singleton, true_or, or_true, or_false, false_or, List.not_mem_nil, oCount, oSplit, oZfill, oLjust, oMulS, cMod, cDiv, cMul, oAdd, oSub, oMul, oDiv, oMod, oPow, oB, oI, oEq, oEqT, oGeT, oIndex, oIs, oIn, oIx, oMulI, oAddI, oSl, oRng1, oRng2, okL, okT, okS, fLen, fAbs, fInt, fStr, fMin, fMax, fSum, fSorted, fSortedW, fMinW, fList, fTuple, fIsi, fIsiC, tyOf, Ty.isi, ty_int, ty_bool, ty_str, ty_list, ty_tuple, ty_dict, isNon, eqOk_int, eqOk_non, eqOk_bl, eqD_int, eqD_bl, eqD_str, eqD_non, beq_self_eq_true, beq_iff_eq, Bool.and_self, atI_0, atI_1, atI_2, atI_3, atI_4, atI_5, atI_6, vw, vs, lendS, ownS, wipeE, ZL.frz, lendS, hasOb, env0, List.replicate_zero, List.replicate_succ, List.cons_append, Nat.reduceSub, List.map_cons, List.map_nil, List.getElem?_cons_zero, List.getElem?_cons_succ, List.getElem?_nil, List.set_cons_zero, List.set_cons_succ, List.length_cons, List.length_nil, List.length_set, Nat.reduceAdd, Nat.reduceLT, Nat.lt_add_one, Nat.zero_lt_succ, List.append_nil, List.nil_append, cln, clnS, clnL, clnX, List.all_cons, List.all_nil, Bool.and_true, Bool.true_and, and_true, true_and, if_true, if_false, Bool.false_eq_true, decide_eq_true_eq, Bool.true_or, Bool.or_true, Bool.false_or, Bool.or_false, decide_true, decide_false, Bool.and_false, Bool.false_and, reduceCtorEq, Int.reduceBEq, nc_0, nc_1, nc_2, nc_3, nc_4, nc_5, nc_6, Bool.not_true, Bool.not_false, reduceIte, pic_tx]
      exact ⟨by decide, by rw [show clnL (List.map (namOD ∘ some) ys) = true from clnL_of (all_map cln_nam ys), Bool.and_true]; exact cln_nl cs, q⟩

end ZL.K30


namespace ZL.K30
open PySem PySem.Spec PyProof.Rows L2 ZL
theorem eqD_strT (a b : Tx) : eqD (strT a) (strT b) = decide (a = b) := tx_eq a b
theorem eqL_strs : ∀ xs ys : List Tx, PyData.eqvAll (pyL (xs.map strT)) (pyL (ys.map strT)) = decide (xs = ys)
  | [], [] => rfl
  | [], _ :: _ => by simp [pyL, PyData.eqvAll]
  | _ :: _, [] => by simp [pyL, PyData.eqvAll]
  | x :: xs, y :: ys => by
    have h1 : PyData.eqv (strT x).py (strT y).py = decide (x = y) := eqD_strT x y
    simp only [List.map_cons, pyL, PyData.eqvAll, h1, eqL_strs xs ys]
    by_cases h : x = y
    · subst h; simp
    · simp [h]
theorem eqD_strs (xs ys : List Tx) : eqD (.lst (xs.map strT)) (.lst (ys.map strT)) = decide (xs = ys) := by
  simp only [eqD, D.py, PyData.eqv]
  exact eqL_strs xs ys
theorem eqOk_strs {ws : List Tx} (h : ∀ w ∈ ws, OkT w) : eqOk (.lst (ws.map strT)) = true := by
  refine (Dpt.lst (n := 0) fun d hd => ?_).ok
  obtain ⟨w, hw, rfl⟩ := List.mem_map.1 hd
  exact dpt_str (h w hw)
theorem okt_of {l : Tx} (h : ∀ c ∈ l, c < 1000) (hl : l.length ≤ 600) : OkT l := ⟨hl, h⟩
theorem eqOk_strT {l : Tx} (h : OkT l) : eqOk (strT l) = true := (dpt_str h).ok
theorem cutD_takeS (ws : List Tx) (k : Nat) : cutD (ws.map strT) none (some (k : Int)) = (ws.take k).map strT := by rw [cutD_take, List.map_take]
theorem atS {ws : List Tx} {i : Nat} (h : i < ws.length) : atI (ws.map strT) (i : Int) = some (strT (ws.getD i [])) := getD_at strT h
theorem AllT.drop {ws : List Tx} (h : AllT ws) (k : Nat) : AllT (ws.drop k) := ⟨fun w hw => h.1 w (List.mem_of_mem_drop hw), by rw [List.length_drop]; have := h.2; omega⟩
theorem AllT.take {ws : List Tx} (h : AllT ws) (k : Nat) : AllT (ws.take k) := ⟨fun w hw => h.1 w (List.mem_of_mem_take hw), by rw [List.length_take]; have := h.2; omega⟩
theorem AllT.at {ws : List Tx} (h : AllT ws) {i : Nat} (hi : i < ws.length) : OkT (ws.getD i []) := by
  rw [List.getD_eq_getElem?_getD, List.getElem?_eq_getElem hi]
  exact h.1 _ (List.getElem_mem hi)
theorem u_read_head : ∀ ds Q E, sp_read_head ds Q E → w_read_head (env0 N_read_head ds) (ends0 Q E) := by
  intro ds Q E h
  obtain ⟨ws, rfl, ok, q⟩ := h
  have hl := ok.2
  have e1 : eqD (.lst (ws.map strT)) (.lst [.str (tx dealW)]) = decide (ws = [dealW]) := eqD_strs ws [dealW]
  have e2 : eqOk (.lst (ws.map strT)) = true := eqOk_strs ok.1
  have e3 : eqOk (.lst [.str (tx dealW)]) = true := eqOk_strs (ws := [dealW]) fun w hw => by
    rw [List.mem_singleton.1 hw]
    exact ⟨by decide, by decide⟩
  have hd := cutD_dropS ws 1
  have a0 : 0 < ws.length → atI (ws.map strT) 0 = some (strT (ws.getD 0 [])) := fun h => atS (i := 0) h
  have a1 : 1 < ws.length → atI (ws.map strT) 1 = some (strT (ws.getD 1 [])) := fun h => atS (i := 1) h
  unfold headO at q
  simp only [w_read_head, w_read_head_s0, N_read_head, wSeq, wSet, wRet, wRetN, wIf, wDrop, wFor, wNext, wBreak, wCont, wAppend, wSetIx, wAug, wFrz, wAsg, gN, gT, gNil', gCons', mL, mS, mLT, mMv, mIV, mRng, mRngV, mItems, mOp, mB, mC, mVar, mCons, mNil, mTup, mLst, mCB, mCall, mAnd, mOr, mNot, mAndV, mOrV, mNotV, mIf, mNeg, mSl, mNo, mPart, mPk, mChain2, mChain3, mFld, mComp, mComp2, cN, cT, cNil, cCons, mEnum, mYes, mRev, mLenSet, mLenSetG, mLenSetH, wAugIx, mMeth, mMethS, mFst, mJR, mMv2, wUnp, mTru, truD, mMake, wFld, wNever, setN, setF, fldD, String.reduceEq, List.mem_cons, List.mem_singleton, true_or, or_true, or_false, false_or, List.not_mem_nil, oCount, oSplit, oZfill, oLjust, oMulS, cMod, cDiv, cMul, oAdd, oSub, oMul, oDiv, oMod, oPow, oB, oI, oEq, oEqT, oGeT, oIndex, oIs, oIn, oIx, oMulI, oAddI, oSl, oRng1, oRng2, okL, okT, okS, fLen, fAbs, fInt, fStr, fMin, fMax, fSum, fSorted, fSortedW, fMinW, fList, fTuple, fIsi, fIsiC, tyOf, Ty.isi, ty_int, ty_bool, ty_str, ty_list, ty_tuple, ty_dict, isNon, eqOk_int, eqOk_non, eqOk_bl, eqD_int, eqD_bl, eqD_str, eqD_non, beq_self_eq_true, beq_iff_eq, Bool.and_self, atI_0, atI_1, atI_2, atI_3, atI_4, atI_5, atI_6, vw, vs, lendS, ownS, wipeE, ZL.frz, lendS, hasOb, env0, List.replicate_zero, List.replicate_succ, List.cons_append, Nat.reduceSub, List.map_cons, List.map_nil, List.getElem?_cons_zero, List.getElem?_cons_succ, List.getElem?_nil, List.set_cons_zero, List.set_cons_succ, List.length_cons, List.length_nil, List.length_set, Nat.reduceAdd, Nat.reduceLT, Nat.lt_add_one, Nat.zero_lt_succ, List.append_nil, List.nil_append, cln, clnS, clnL, clnX, List.all_cons, List.all_nil, Bool.and_true, Bool.true_and, and_true, true_and, if_true, if_false, Bool.false_eq_true, decide_eq_true_eq, Bool.true_or, Bool.or_true, Bool.false_or, Bool.or_false, decide_true, decide_false, Bool.and_false, Bool.false_and, reduceCtorEq, Int.reduceBEq, nc_0, nc_1, nc_2, nc_3, nc_4, nc_5, nc_6, Bool.not_true, Bool.not_false, reduceIte, deal_tx, e1, e2, e3]
  refine ⟨by decide, ifZ (fun z => ?_) fun z => ?_⟩
  · rw [if_pos (by first | exact z | exact of_decide_eq_true z)] at q
    exact ⟨by decide, q⟩
  rw [if_neg (by first | exact z | exact fun w => z (decide_eq_true w))] at q
  by_cases h2 : ws.length = 2
  · obtain ⟨a, b, rfl⟩ := two_of h2
    have q' : Q .sh (headD (if a = putW then (namedO b).map (fun p => Head.put p.1 p.2) else if a = picW then pictureO [b] else none)) := by simpa using q
    have hd' : cutD [strT a, strT b] (some 1) none = [strT b] := hd
    have ob : OkT b := ok.1 b (by simp)
    simp only [w_read_head_s1, strT, wSeq, wSet, wRet, wRetN, wIf, wDrop, wFor, wNext, wBreak, wCont, wAppend, wSetIx, wAug, wFrz, wAsg, gN, gT, gNil', gCons', mL, mS, mLT, mMv, mIV, mRng, mRngV, mItems, mOp, mB, mC, mVar, mCons, mNil, mTup, mLst, mCB, mCall, mAnd, mOr, mNot, mAndV, mOrV, mNotV, mIf, mNeg, mSl, mNo, mPart, mPk, mChain2, mChain3, mFld, mComp, mComp2, cN, cT, cNil, cCons, mEnum, mYes, mRev, mLenSet, mLenSetG, mLenSetH, wAugIx, mMeth, mMethS, mFst, mJR, mMv2, wUnp, mTru, truD, mMake, wFld, wNever, setN, setF, fldD, String.reduceEq, List.mem_cons, List.mem_singleton, true_or, or_true, or_false, false_or, List.not_mem_nil, oCount, oSplit, oZfill, oLjust, oMulS, cMod, cDiv, cMul, oAdd, oSub, oMul, oDiv, oMod, oPow, oB, oI, oEq, oEqT, oGeT, oIndex, oIs, oIn, oIx, oMulI, oAddI, oSl, oRng1, oRng2, okL, okT, okS, fLen, fAbs, fInt, fStr, fMin, fMax, fSum, fSorted, fSortedW, fMinW, fList, fTuple, fIsi, fIsiC, tyOf, Ty.isi, ty_int, ty_bool, ty_str, ty_list, ty_tuple, ty_dict, isNon, eqOk_int, eqOk_non, eqOk_bl, eqD_int, eqD_bl, eqD_str, eqD_non, beq_self_eq_true, beq_iff_eq, Bool.and_self, atI_0, atI_1, atI_2, atI_3, atI_4, atI_5, atI_6, vw, vs, lendS, ownS, wipeE, ZL.frz, lendS, hasOb, env0, List.replicate_zero, List.replicate_succ, List.cons_append, Nat.reduceSub, List.map_cons, List.map_nil, List.getElem?_cons_zero, List.getElem?_cons_succ, List.getElem?_nil, List.set_cons_zero, List.set_cons_succ, List.length_cons, List.length_nil, List.length_set, Nat.reduceAdd, Nat.reduceLT, Nat.lt_add_one, Nat.zero_lt_succ, List.append_nil, List.nil_append, cln, clnS, clnL, clnX, List.all_cons, List.all_nil, Bool.and_true, Bool.true_and, and_true, true_and, if_true, if_false, Bool.false_eq_true, decide_eq_true_eq, Bool.true_or, Bool.or_true, Bool.false_or, Bool.or_false, decide_true, decide_false, Bool.and_false, Bool.false_and, reduceCtorEq, Int.reduceBEq, nc_0, nc_1, nc_2, nc_3, nc_4, nc_5, nc_6, Bool.not_true, Bool.not_false, reduceIte, put_tx, sp_read_named]
    refine ifZ (fun z => ?_) fun z => ?_
    · rw [if_pos (tx_inj z)] at q'
      refine ⟨b, rfl, ob, cln_namO _, ?_⟩
      cases hn : namedO b with
      | none =>
        rw [hn] at q'
        simp only [namOD, wSeq, wSet, wRet, wRetN, wIf, wDrop, wFor, wNext, wBreak, wCont, wAppend, wSetIx, wAug, wFrz, wAsg, gN, gT, gNil', gCons', mL, mS, mLT, mMv, mIV, mRng, mRngV, mItems, mOp, mB, mC, mVar, mCons, mNil, mTup, mLst, mCB, mCall, mAnd, mOr, mNot, mAndV, mOrV, mNotV, mIf, mNeg, mSl, mNo, mPart, mPk, mChain2, mChain3, mFld, mComp, mComp2, cN, cT, cNil, cCons, mEnum, mYes, mRev, mLenSet, mLenSetG, mLenSetH, wAugIx, mMeth, mMethS, mFst, mJR, mMv2, wUnp, mTru, truD, mMake, wFld, wNever, setN, setF, fldD, String.reduceEq, List.mem_cons, List.mem_singleton, true_or, or_true, or_false, false_or, List.not_mem_nil, oCount, oSplit, oZfill, oLjust, oMulS, cMod, cDiv, cMul, oAdd, oSub, oMul, oDiv, oMod, oPow, oB, oI, oEq, oEqT, oGeT, oIndex, oIs, oIn, oIx, oMulI, oAddI, oSl, oRng1, oRng2, okL, okT, okS, fLen, fAbs, fInt, fStr, fMin, fMax, fSum, fSorted, fSortedW, fMinW, fList, fTuple, fIsi, fIsiC, tyOf, Ty.isi, ty_int, ty_bool, ty_str, ty_list, ty_tuple, ty_dict, isNon, eqOk_int, eqOk_non, eqOk_bl, eqD_int, eqD_bl, eqD_str, eqD_non, beq_self_eq_true, beq_iff_eq, Bool.and_self, atI_0, atI_1, atI_2, atI_3, atI_4, atI_5, atI_6, vw, vs, lendS, ownS, wipeE, ZL.frz, lendS, hasOb, env0, List.replicate_zero, List.replicate_succ, List.cons_append, Nat.reduceSub, List.map_cons, List.map_nil, List.getElem?_cons_zero, List.getElem?_cons_succ, List.getElem?_nil, List.set_cons_zero, List.set_cons_succ, List.length_cons, List.length_nil, List.length_set, Nat.reduceAdd, Nat.reduceLT, Nat.lt_add_one, Nat.zero_lt_succ, List.append_nil, List.nil_append, cln, clnS, clnL, clnX, List.all_cons, List.all_nil, Bool.and_true, Bool.true_and, and_true, true_and, if_true, if_false, Bool.false_eq_true, decide_eq_true_eq, Bool.true_or, Bool.or_true, Bool.false_or, Bool.or_false, decide_true, decide_false, Bool.and_false, Bool.false_and, reduceCtorEq, Int.reduceBEq, nc_0, nc_1, nc_2, nc_3, nc_4, nc_5, nc_6, Bool.not_true, Bool.not_false, reduceIte]
        exact q'
      | some p =>
        rw [hn] at q'
        simp only [namOD, namD, wSeq, wSet, wRet, wRetN, wIf, wDrop, wFor, wNext, wBreak, wCont, wAppend, wSetIx, wAug, wFrz, wAsg, gN, gT, gNil', gCons', mL, mS, mLT, mMv, mIV, mRng, mRngV, mItems, mOp, mB, mC, mVar, mCons, mNil, mTup, mLst, mCB, mCall, mAnd, mOr, mNot, mAndV, mOrV, mNotV, mIf, mNeg, mSl, mNo, mPart, mPk, mChain2, mChain3, mFld, mComp, mComp2, cN, cT, cNil, cCons, mEnum, mYes, mRev, mLenSet, mLenSetG, mLenSetH, wAugIx, mMeth, mMethS, mFst, mJR, mMv2, wUnp, mTru, truD, mMake, wFld, wNever, setN, setF, fldD, String.reduceEq, List.mem_cons, List.mem_singleton, true_or, or_true, or_false, false_or, List.not_mem_nil, oCount, oSplit, oZfill, oLjust, oMulS, cMod, cDiv, cMul, oAdd, oSub, oMul, oDiv, oMod, oPow, oB, oI, oEq, oEqT, oGeT, oIndex, oIs, oIn, oIx, oMulI, oAddI, oSl, oRng1, oRng2, okL, okT, okS, fLen, fAbs, fInt, fStr, fMin, fMax, fSum, fSorted, fSortedW, fMinW, fList, fTuple, fIsi, fIsiC, tyOf, Ty.isi, ty_int, ty_bool, ty_str, ty_list, ty_tuple, ty_dict, isNon, eqOk_int, eqOk_non, eqOk_bl, eqD_int, eqD_bl, eqD_str, eqD_non, beq_self_eq_true, beq_iff_eq, Bool.and_self, atI_0, atI_1, atI_2, atI_3, atI_4, atI_5, atI_6, vw, vs, lendS, ownS, wipeE, ZL.frz, lendS, hasOb, env0, List.replicate_zero, List.replicate_succ, List.cons_append, Nat.reduceSub, List.map_cons, List.map_nil, List.getElem?_cons_zero, List.getElem?_cons_succ, List.getElem?_nil, List.set_cons_zero, List.set_cons_succ, List.length_cons, List.length_nil, List.length_set, Nat.reduceAdd, Nat.reduceLT, Nat.lt_add_one, Nat.zero_lt_succ, List.append_nil, List.nil_append, cln, clnS, clnL, clnX, List.all_cons, List.all_nil, Bool.and_true, Bool.true_and, and_true, true_and, if_true, if_false, Bool.false_eq_true, decide_eq_true_eq, Bool.true_or, Bool.or_true, Bool.false_or, Bool.or_false, decide_true, decide_false, Bool.and_false, Bool.false_and, reduceCtorEq, Int.reduceBEq, nc_0, nc_1, nc_2, nc_3, nc_4, nc_5, nc_6, Bool.not_true, Bool.not_false, reduceIte]
        exact ⟨by decide, by decide, by rw [show clnS (strT p.1) = true from rfl, Bool.true_and]; exact cln_nl p.2, q'⟩
    · rw [if_neg (fun e => z (by rw [e]))] at q'
      simp only [w_read_head_s2, w_read_head_s3, w_read_head_s4, strT, wSeq, wSet, wRet, wRetN, wIf, wDrop, wFor, wNext, wBreak, wCont, wAppend, wSetIx, wAug, wFrz, wAsg, gN, gT, gNil', gCons', mL, mS, mLT, mMv, mIV, mRng, mRngV, mItems, mOp, mB, mC, mVar, mCons, mNil, mTup, mLst, mCB, mCall, mAnd, mOr, mNot, mAndV, mOrV, mNotV, mIf, mNeg, mSl, mNo, mPart, mPk, mChain2, mChain3, mFld, mComp, mComp2, cN, cT, cNil, cCons, mEnum, mYes, mRev, mLenSet, mLenSetG, mLenSetH, wAugIx, mMeth, mMethS, mFst, mJR, mMv2, wUnp, mTru, truD, mMake, wFld, wNever, setN, setF, fldD, String.reduceEq, List.mem_cons, List.mem_singleton, true_or, or_true, or_false, false_or, List.not_mem_nil, oCount, oSplit, oZfill, oLjust, oMulS, cMod, cDiv, cMul, oAdd, oSub, oMul, oDiv, oMod, oPow, oB, oI, oEq, oEqT, oGeT, oIndex, oIs, oIn, oIx, oMulI, oAddI, oSl, oRng1, oRng2, okL, okT, okS, fLen, fAbs, fInt, fStr, fMin, fMax, fSum, fSorted, fSortedW, fMinW, fList, fTuple, fIsi, fIsiC, tyOf, Ty.isi, ty_int, ty_bool, ty_str, ty_list, ty_tuple, ty_dict, isNon, eqOk_int, eqOk_non, eqOk_bl, eqD_int, eqD_bl, eqD_str, eqD_non, beq_self_eq_true, beq_iff_eq, Bool.and_self, atI_0, atI_1, atI_2, atI_3, atI_4, atI_5, atI_6, vw, vs, lendS, ownS, wipeE, ZL.frz, lendS, hasOb, env0, List.replicate_zero, List.replicate_succ, List.cons_append, Nat.reduceSub, List.map_cons, List.map_nil, List.getElem?_cons_zero, List.getElem?_cons_succ, List.getElem?_nil, List.set_cons_zero, List.set_cons_succ, List.length_cons, List.length_nil, List.length_set, Nat.reduceAdd, Nat.reduceLT, Nat.lt_add_one, Nat.zero_lt_succ, List.append_nil, List.nil_append, cln, clnS, clnL, clnX, List.all_cons, List.all_nil, Bool.and_true, Bool.true_and, and_true, true_and, if_true, if_false, Bool.false_eq_true, decide_eq_true_eq, Bool.true_or, Bool.or_true, Bool.false_or, Bool.or_false, decide_true, decide_false, Bool.and_false, Bool.false_and, reduceCtorEq, Int.reduceBEq, nc_0, nc_1, nc_2, nc_3, nc_4, nc_5, nc_6, Bool.not_true, Bool.not_false, reduceIte, pic_tx, sp_read_picture]
      rw [if_pos (show (2 : Int) ≤ 2 by decide)]
      refine ifZ (fun z => ?_) fun z => ?_
      · rw [if_pos (tx_inj z)] at q'
        refine ⟨[b], by rw [show cutD [D.str (tx a), D.str (tx b)] (some 1) none = _ from hd']; rfl, ⟨fun w hw => by rw [List.mem_singleton.1 hw]; exact ob, (show 1 ≤ 1000 by decide)⟩, (show 1 ≤ 1 by decide), cln_head _, q'⟩
      · rw [if_neg (fun e => z (by rw [e]))] at q'
        exact q'
  rw [if_neg (fun w => h2 w.1)] at q
  by_cases h3 : ws.length = 3
  · obtain ⟨a, r, rfl⟩ := List.exists_cons_of_length_eq_add_one h3
    have hr : r.length = 2 := by simpa using h3
    obtain ⟨b, c, rfl⟩ := two_of hr
    have q' : Q .sh (headD (if a = capW then capO [b, c] else if a = picW then pictureO [b, c] else none)) := by simpa using q
    have hd' : cutD [strT a, strT b, strT c] (some 1) none = [strT b, strT c] := hd
    have obc : AllT [b, c] := ⟨fun w hw => ok.1 w (List.mem_cons_of_mem _ hw), (show 2 ≤ 1000 by decide)⟩
    simp only [w_read_head_s1, w_read_head_s2, strT, wSeq, wSet, wRet, wRetN, wIf, wDrop, wFor, wNext, wBreak, wCont, wAppend, wSetIx, wAug, wFrz, wAsg, gN, gT, gNil', gCons', mL, mS, mLT, mMv, mIV, mRng, mRngV, mItems, mOp, mB, mC, mVar, mCons, mNil, mTup, mLst, mCB, mCall, mAnd, mOr, mNot, mAndV, mOrV, mNotV, mIf, mNeg, mSl, mNo, mPart, mPk, mChain2, mChain3, mFld, mComp, mComp2, cN, cT, cNil, cCons, mEnum, mYes, mRev, mLenSet, mLenSetG, mLenSetH, wAugIx, mMeth, mMethS, mFst, mJR, mMv2, wUnp, mTru, truD, mMake, wFld, wNever, setN, setF, fldD, String.reduceEq, List.mem_cons, List.mem_singleton, true_or, or_true, or_false, false_or, List.not_mem_nil, oCount, oSplit, oZfill, oLjust, oMulS, cMod, cDiv, cMul, oAdd, oSub, oMul, oDiv, oMod, oPow, oB, oI, oEq, oEqT, oGeT, oIndex, oIs, oIn, oIx, oMulI, oAddI, oSl, oRng1, oRng2, okL, okT, okS, fLen, fAbs, fInt, fStr, fMin, fMax, fSum, fSorted, fSortedW, fMinW, fList, fTuple, fIsi, fIsiC, tyOf, Ty.isi, ty_int, ty_bool, ty_str, ty_list, ty_tuple, ty_dict, isNon, eqOk_int, eqOk_non, eqOk_bl, eqD_int, eqD_bl, eqD_str, eqD_non, beq_self_eq_true, beq_iff_eq, Bool.and_self, atI_0, atI_1, atI_2, atI_3, atI_4, atI_5, atI_6, vw, vs, lendS, ownS, wipeE, ZL.frz, lendS, hasOb, env0, List.replicate_zero, List.replicate_succ, List.cons_append, Nat.reduceSub, List.map_cons, List.map_nil, List.getElem?_cons_zero, List.getElem?_cons_succ, List.getElem?_nil, List.set_cons_zero, List.set_cons_succ, List.length_cons, List.length_nil, List.length_set, Nat.reduceAdd, Nat.reduceLT, Nat.lt_add_one, Nat.zero_lt_succ, List.append_nil, List.nil_append, cln, clnS, clnL, clnX, List.all_cons, List.all_nil, Bool.and_true, Bool.true_and, and_true, true_and, if_true, if_false, Bool.false_eq_true, decide_eq_true_eq, Bool.true_or, Bool.or_true, Bool.false_or, Bool.or_false, decide_true, decide_false, Bool.and_false, Bool.false_and, reduceCtorEq, Int.reduceBEq, nc_0, nc_1, nc_2, nc_3, nc_4, nc_5, nc_6, Bool.not_true, Bool.not_false, reduceIte, put_tx, cap_tx, sp_read_cap]
    refine ifZ (fun z => ?_) fun z => ?_
    · rw [if_pos (tx_inj z)] at q'
      exact ⟨[b, c], by rw [show cutD [D.str (tx a), D.str (tx b), D.str (tx c)] (some 1) none = _ from hd']; rfl, obc, rfl, cln_head _, q'⟩
    · rw [if_neg (fun e => z (by rw [e]))] at q'
      simp only [w_read_head_s3, w_read_head_s4, strT, wSeq, wSet, wRet, wRetN, wIf, wDrop, wFor, wNext, wBreak, wCont, wAppend, wSetIx, wAug, wFrz, wAsg, gN, gT, gNil', gCons', mL, mS, mLT, mMv, mIV, mRng, mRngV, mItems, mOp, mB, mC, mVar, mCons, mNil, mTup, mLst, mCB, mCall, mAnd, mOr, mNot, mAndV, mOrV, mNotV, mIf, mNeg, mSl, mNo, mPart, mPk, mChain2, mChain3, mFld, mComp, mComp2, cN, cT, cNil, cCons, mEnum, mYes, mRev, mLenSet, mLenSetG, mLenSetH, wAugIx, mMeth, mMethS, mFst, mJR, mMv2, wUnp, mTru, truD, mMake, wFld, wNever, setN, setF, fldD, String.reduceEq, List.mem_cons, List.mem_singleton, true_or, or_true, or_false, false_or, List.not_mem_nil, oCount, oSplit, oZfill, oLjust, oMulS, cMod, cDiv, cMul, oAdd, oSub, oMul, oDiv, oMod, oPow, oB, oI, oEq, oEqT, oGeT, oIndex, oIs, oIn, oIx, oMulI, oAddI, oSl, oRng1, oRng2, okL, okT, okS, fLen, fAbs, fInt, fStr, fMin, fMax, fSum, fSorted, fSortedW, fMinW, fList, fTuple, fIsi, fIsiC, tyOf, Ty.isi, ty_int, ty_bool, ty_str, ty_list, ty_tuple, ty_dict, isNon, eqOk_int, eqOk_non, eqOk_bl, eqD_int, eqD_bl, eqD_str, eqD_non, beq_self_eq_true, beq_iff_eq, Bool.and_self, atI_0, atI_1, atI_2, atI_3, atI_4, atI_5, atI_6, vw, vs, lendS, ownS, wipeE, ZL.frz, lendS, hasOb, env0, List.replicate_zero, List.replicate_succ, List.cons_append, Nat.reduceSub, List.map_cons, List.map_nil, List.getElem?_cons_zero, List.getElem?_cons_succ, List.getElem?_nil, List.set_cons_zero, List.set_cons_succ, List.length_cons, List.length_nil, List.length_set, Nat.reduceAdd, Nat.reduceLT, Nat.lt_add_one, Nat.zero_lt_succ, List.append_nil, List.nil_append, cln, clnS, clnL, clnX, List.all_cons, List.all_nil, Bool.and_true, Bool.true_and, and_true, true_and, if_true, if_false, Bool.false_eq_true, decide_eq_true_eq, Bool.true_or, Bool.or_true, Bool.false_or, Bool.or_false, decide_true, decide_false, Bool.and_false, Bool.false_and, reduceCtorEq, Int.reduceBEq, nc_0, nc_1, nc_2, nc_3, nc_4, nc_5, nc_6, Bool.not_true, Bool.not_false, reduceIte, pic_tx, sp_read_picture]
      rw [if_pos (show (2 : Int) ≤ 3 by decide)]
      refine ifZ (fun z => ?_) fun z => ?_
      · rw [if_pos (tx_inj z)] at q'
        exact ⟨[b, c], by rw [show cutD [D.str (tx a), D.str (tx b), D.str (tx c)] (some 1) none = _ from hd']; rfl, obc, (show 1 ≤ 2 by decide), cln_head _, q'⟩
      · rw [if_neg (fun e => z (by rw [e]))] at q'
        exact q'
  rw [if_neg (fun w => h3 w.1)] at q
  simp only [w_read_head_s1, w_read_head_s2, w_read_head_s3, w_read_head_s4, wSeq, wSet, wRet, wRetN, wIf, wDrop, wFor, wNext, wBreak, wCont, wAppend, wSetIx, wAug, wFrz, wAsg, gN, gT, gNil', gCons', mL, mS, mLT, mMv, mIV, mRng, mRngV, mItems, mOp, mB, mC, mVar, mCons, mNil, mTup, mLst, mCB, mCall, mAnd, mOr, mNot, mAndV, mOrV, mNotV, mIf, mNeg, mSl, mNo, mPart, mPk, mChain2, mChain3, mFld, mComp, mComp2, cN, cT, cNil, cCons, mEnum, mYes, mRev, mLenSet, mLenSetG, mLenSetH, wAugIx, mMeth, mMethS, mFst, mJR, mMv2, wUnp, mTru, truD, mMake, wFld, wNever, setN, setF, fldD, String.reduceEq, List.mem_cons, List.mem_singleton, true_or, or_true, or_false, false_or, List.not_mem_nil, oCount, oSplit, oZfill, oLjust, oMulS, cMod, cDiv, cMul, oAdd, oSub, oMul, oDiv, oMod, oPow, oB, oI, oEq, oEqT, oGeT, oIndex, oIs, oIn, oIx, oMulI, oAddI, oSl, oRng1, oRng2, okL, okT, okS, fLen, fAbs, fInt, fStr, fMin, fMax, fSum, fSorted, fSortedW, fMinW, fList, fTuple, fIsi, fIsiC, tyOf, Ty.isi, ty_int, ty_bool, ty_str, ty_list, ty_tuple, ty_dict, isNon, eqOk_int, eqOk_non, eqOk_bl, eqD_int, eqD_bl, eqD_str, eqD_non, beq_self_eq_true, beq_iff_eq, Bool.and_self, atI_0, atI_1, atI_2, atI_3, atI_4, atI_5, atI_6, vw, vs, lendS, ownS, wipeE, ZL.frz, lendS, hasOb, env0, List.replicate_zero, List.replicate_succ, List.cons_append, Nat.reduceSub, List.map_cons, List.map_nil, List.getElem?_cons_zero, List.getElem?_cons_succ, List.getElem?_nil, List.set_cons_zero, List.set_cons_succ, List.length_cons, List.length_nil, List.length_set, Nat.reduceAdd, Nat.reduceLT, Nat.lt_add_one, Nat.zero_lt_succ, List.append_nil, List.nil_append, cln, clnS, clnL, clnX, List.all_cons, List.all_nil, Bool.and_true, Bool.true_and, and_true, true_and, if_true, if_false, Bool.false_eq_true, decide_eq_true_eq, Bool.true_or, Bool.or_true, Bool.false_or, Bool.or_false, decide_true, decide_false, Bool.and_false, Bool.false_and, reduceCtorEq, Int.reduceBEq, nc_0, nc_1, nc_2, nc_3, nc_4, nc_5, nc_6, Bool.not_true, Bool.not_false, reduceIte, List.length_map, len2, len3, put_tx, cap_tx, pic_tx, sp_read_picture]
  rw [if_neg h2, if_neg h3]
  by_cases hp : 2 ≤ ws.length
  · rw [if_pos (by omega), a0 (by omega)]
    have hd' : cutD (ws.map strT) (some 1) none = (ws.drop 1).map strT := hd
    rw [hd']
    show if tx (ws.getD 0 []) = tx picW then _ else _
    refine ifZ (fun z => ?_) fun z => ?_
    · rw [if_pos ⟨hp, tx_inj z⟩] at q
      exact ⟨_, rfl, ok.drop 1, by rw [List.length_drop]; omega, cln_head _, q⟩
    · rw [if_neg (fun w => z (by rw [w.2]))] at q
      exact q
  · rw [if_neg (by omega)]
    rw [if_neg (fun w => hp w.1)] at q
    exact q
theorem cut_lastc (l : Tx) : cutS (tx l) (some (-1)) none = tx (l.drop (l.length - 1)) := by
  refine TL.ext_tl ?_
  show (l.drop (HT.sIx (tx l).length 0 (some (-1)))).take (HT.sIx _ (tx l).length none - HT.sIx (tx l).length 0 (some (-1))) = _
  have e : HT.sIx (tx l).length 0 (some (-1)) = l.length - 1 := by
    unfold HT.sIx
    rw [tx_len]
    simp only [show ((-1 : Int) < 0) = True from by simp, if_true]
    omega
  rw [e, HT.sIx_none, tx_len, List.take_of_length_le (by rw [List.length_drop]; omega)]
theorem cut_init (l : Tx) : cutS (tx l) none (some (-1)) = tx l.dropLast := by
  refine TL.ext_tl ?_
  show (l.drop (HT.sIx (tx l).length 0 none)).take (HT.sIx (tx l).length (tx l).length (some (-1)) - HT.sIx (tx l).length 0 none) = _
  have e : HT.sIx (tx l).length (tx l).length (some (-1)) = l.length - 1 := by
    unfold HT.sIx
    rw [tx_len]
    simp only [show ((-1 : Int) < 0) = True from by simp, if_true]
    omega
  rw [e, HT.sIx_none, List.drop_zero, Nat.sub_zero, ← List.dropLast_eq_take]
theorem idxOf_min (x : Tx) : ∀ (ws : List Tx) (m : Nat) (y : Tx), m < ws.idxOf x → ws[m]? = some y → y ≠ x
  | [], m, y, h, _ => by cases h
  | w :: r, m, y, h, e => by
    rw [List.idxOf_cons] at h
    cases hw : w == x with
    | true =>
      rw [hw] at h
      cases h
    | false =>
      rw [hw] at h
      have h : m < r.idxOf x + 1 := h
      cases m with
      | zero =>
        have : w = y := by simpa using e
        subst this
        intro z
        rw [z] at hw
        simp at hw
      | succ m =>
        exact idxOf_min x r m y (by omega) (by simpa using e)
theorem u_read_record : ∀ ds Q E, sp_read_record ds Q E → w_read_record (env0 N_read_record ds) (ends0 Q E) := by
  intro ds Q E h
  obtain ⟨l, rfl, ok, q⟩ := h
  have hz : 3000 ≤ sizeLine := by decide
  have hl := ok.len
  unfold recO at q
  simp only [w_read_record, w_read_record_s0, N_read_record, strT, wSeq, wSet, wRet, wRetN, wIf, wDrop, wFor, wNext, wBreak, wCont, wAppend, wSetIx, wAug, wFrz, wAsg, gN, gT, gNil', gCons', mL, mS, mLT, mMv, mIV, mRng, mRngV, mItems, mOp, mB, mC, mVar, mCons, mNil, mTup, mLst, mCB, mCall, mAnd, mOr, mNot, mAndV, mOrV, mNotV, mIf, mNeg, mSl, mNo, mPart, mPk, mChain2, mChain3, mFld, mComp, mComp2, cN, cT, cNil, cCons, mEnum, mYes, mRev, mLenSet, mLenSetG, mLenSetH, wAugIx, mMeth, mMethS, mFst, mJR, mMv2, wUnp, mTru, truD, mMake, wFld, wNever, setN, setF, fldD, String.reduceEq, List.mem_cons, List.mem_singleton, true_or, or_true, or_false, false_or, List.not_mem_nil, oCount, oSplit, oZfill, oLjust, oMulS, cMod, cDiv, cMul, oAdd, oSub, oMul, oDiv, oMod, oPow, oB, oI, oEq, oEqT, oGeT, oIndex, oIs, oIn, oIx, oMulI, oAddI, oSl, oRng1, oRng2, okL, okT, okS, fLen, fAbs, fInt, fStr, fMin, fMax, fSum, fSorted, fSortedW, fMinW, fList, fTuple, fIsi, fIsiC, tyOf, Ty.isi, ty_int, ty_bool, ty_str, ty_list, ty_tuple, ty_dict, isNon, eqOk_int, eqOk_non, eqOk_bl, eqD_int, eqD_bl, eqD_str, eqD_non, beq_self_eq_true, beq_iff_eq, Bool.and_self, atI_0, atI_1, atI_2, atI_3, atI_4, atI_5, atI_6, vw, vs, lendS, ownS, wipeE, ZL.frz, lendS, hasOb, env0, List.replicate_zero, List.replicate_succ, List.cons_append, Nat.reduceSub, List.map_cons, List.map_nil, List.getElem?_cons_zero, List.getElem?_cons_succ, List.getElem?_nil, List.set_cons_zero, List.set_cons_succ, List.length_cons, List.length_nil, List.length_set, Nat.reduceAdd, Nat.reduceLT, Nat.lt_add_one, Nat.zero_lt_succ, List.append_nil, List.nil_append, cln, clnS, clnL, clnX, List.all_cons, List.all_nil, Bool.and_true, Bool.true_and, and_true, true_and, if_true, if_false, Bool.false_eq_true, decide_eq_true_eq, Bool.true_or, Bool.or_true, Bool.false_or, Bool.or_false, decide_true, decide_false, Bool.and_false, Bool.false_and, reduceCtorEq, Int.reduceBEq, nc_0, nc_1, nc_2, nc_3, nc_4, nc_5, nc_6, Bool.not_true, Bool.not_false, reduceIte, tx_len, sc_tx, sp_tx]
  rw [cut_lastc, tx_eq]
  refine ⟨by omega, ?_⟩
  by_cases h59 : l.drop (l.length - 1) = [59]
  · rw [if_neg (by rw [decide_eq_true h59]; decide)]
    rw [if_pos h59] at q
    have oki : OkT l.dropLast := ⟨by rw [List.length_dropLast]; omega, fun c hc => ok.sg c (List.dropLast_subset _ hc)⟩
    have okw : AllT (cutAt 32 l.dropLast) := ⟨fun w hw => oki.cut hw, by have := len_cut 32 l.dropLast; have := oki.len; omega⟩
    have hwl : (cutAt 32 l.dropLast).length ≤ 601 := by have := len_cut 32 l.dropLast; have := oki.len; omega
    have hne := cutAt_ne 32 l.dropLast
    simp only [w_read_record_s1, wSeq, wSet, wRet, wRetN, wIf, wDrop, wFor, wNext, wBreak, wCont, wAppend, wSetIx, wAug, wFrz, wAsg, gN, gT, gNil', gCons', mL, mS, mLT, mMv, mIV, mRng, mRngV, mItems, mOp, mB, mC, mVar, mCons, mNil, mTup, mLst, mCB, mCall, mAnd, mOr, mNot, mAndV, mOrV, mNotV, mIf, mNeg, mSl, mNo, mPart, mPk, mChain2, mChain3, mFld, mComp, mComp2, cN, cT, cNil, cCons, mEnum, mYes, mRev, mLenSet, mLenSetG, mLenSetH, wAugIx, mMeth, mMethS, mFst, mJR, mMv2, wUnp, mTru, truD, mMake, wFld, wNever, setN, setF, fldD, String.reduceEq, List.mem_cons, List.mem_singleton, true_or, or_true, or_false, false_or, List.not_mem_nil, oCount, oSplit, oZfill, oLjust, oMulS, cMod, cDiv, cMul, oAdd, oSub, oMul, oDiv, oMod, oPow, oB, oI, oEq, oEqT, oGeT, oIndex, oIs, oIn, oIx, oMulI, oAddI, oSl, oRng1, oRng2, okL, okT, okS, fLen, fAbs, fInt, fStr, fMin, fMax, fSum, fSorted, fSortedW, fMinW, fList, fTuple, fIsi, fIsiC, tyOf, Ty.isi, ty_int, ty_bool, ty_str, ty_list, ty_tuple, ty_dict, isNon, eqOk_int, eqOk_non, eqOk_bl, eqD_int, eqD_bl, eqD_str, eqD_non, beq_self_eq_true, beq_iff_eq, Bool.and_self, atI_0, atI_1, atI_2, atI_3, atI_4, atI_5, atI_6, vw, vs, lendS, ownS, wipeE, ZL.frz, lendS, hasOb, env0, List.replicate_zero, List.replicate_succ, List.cons_append, Nat.reduceSub, List.map_cons, List.map_nil, List.getElem?_cons_zero, List.getElem?_cons_succ, List.getElem?_nil, List.set_cons_zero, List.set_cons_succ, List.length_cons, List.length_nil, List.length_set, Nat.reduceAdd, Nat.reduceLT, Nat.lt_add_one, Nat.zero_lt_succ, List.append_nil, List.nil_append, cln, clnS, clnL, clnX, List.all_cons, List.all_nil, Bool.and_true, Bool.true_and, and_true, true_and, if_true, if_false, Bool.false_eq_true, decide_eq_true_eq, Bool.true_or, Bool.or_true, Bool.false_or, Bool.or_false, decide_true, decide_false, Bool.and_false, Bool.false_and, reduceCtorEq, Int.reduceBEq, nc_0, nc_1, nc_2, nc_3, nc_4, nc_5, nc_6, Bool.not_true, Bool.not_false, reduceIte, tx_len, sp_tx]
    rw [cut_init, split_cut (by decide), map_strT]
    generalize cutAt 32 l.dropLast = ws at *
    rw [tx_len]
    refine ⟨by omega, ⟨rfl, by rw [List.length_dropLast]; omega⟩, all_str _, ?_⟩
    have h0 : 0 < ws.length := List.length_pos_iff.mpr hne
    have a0 : atI (ws.map strT) 0 = some (strT (ws.getD 0 [])) := atS (i := 0) h0
    have a1 : 1 < ws.length → atI (ws.map strT) 1 = some (strT (ws.getD 1 [])) := fun h => atS (i := 1) h
    unfold recW at q
    simp only [w_read_record_s2, wSeq, wSet, wRet, wRetN, wIf, wDrop, wFor, wNext, wBreak, wCont, wAppend, wSetIx, wAug, wFrz, wAsg, gN, gT, gNil', gCons', mL, mS, mLT, mMv, mIV, mRng, mRngV, mItems, mOp, mB, mC, mVar, mCons, mNil, mTup, mLst, mCB, mCall, mAnd, mOr, mNot, mAndV, mOrV, mNotV, mIf, mNeg, mSl, mNo, mPart, mPk, mChain2, mChain3, mFld, mComp, mComp2, cN, cT, cNil, cCons, mEnum, mYes, mRev, mLenSet, mLenSetG, mLenSetH, wAugIx, mMeth, mMethS, mFst, mJR, mMv2, wUnp, mTru, truD, mMake, wFld, wNever, setN, setF, fldD, String.reduceEq, List.mem_cons, List.mem_singleton, true_or, or_true, or_false, false_or, List.not_mem_nil, oCount, oSplit, oZfill, oLjust, oMulS, cMod, cDiv, cMul, oAdd, oSub, oMul, oDiv, oMod, oPow, oB, oI, oEq, oEqT, oGeT, oIndex, oIs, oIn, oIx, oMulI, oAddI, oSl, oRng1, oRng2, okL, okT, okS, fLen, fAbs, fInt, fStr, fMin, fMax, fSum, fSorted, fSortedW, fMinW, fList, fTuple, fIsi, fIsiC, tyOf, Ty.isi, ty_int, ty_bool, ty_str, ty_list, ty_tuple, ty_dict, isNon, eqOk_int, eqOk_non, eqOk_bl, eqD_int, eqD_bl, eqD_str, eqD_non, beq_self_eq_true, beq_iff_eq, Bool.and_self, atI_0, atI_1, atI_2, atI_3, atI_4, atI_5, atI_6, vw, vs, lendS, ownS, wipeE, ZL.frz, lendS, hasOb, env0, List.replicate_zero, List.replicate_succ, List.cons_append, Nat.reduceSub, List.map_cons, List.map_nil, List.getElem?_cons_zero, List.getElem?_cons_succ, List.getElem?_nil, List.set_cons_zero, List.set_cons_succ, List.length_cons, List.length_nil, List.length_set, Nat.reduceAdd, Nat.reduceLT, Nat.lt_add_one, Nat.zero_lt_succ, List.append_nil, List.nil_append, cln, clnS, clnL, clnX, List.all_cons, List.all_nil, Bool.and_true, Bool.true_and, and_true, true_and, if_true, if_false, Bool.false_eq_true, decide_eq_true_eq, Bool.true_or, Bool.or_true, Bool.false_or, Bool.or_false, decide_true, decide_false, Bool.and_false, Bool.false_and, reduceCtorEq, Int.reduceBEq, nc_0, nc_1, nc_2, nc_3, nc_4, nc_5, nc_6, Bool.not_true, Bool.not_false, reduceIte, a0, era_tx, sp_is_name, List.length_map, len2]
    show if tx (ws.getD 0 []) = tx eraW then _ else _
    refine ifZ (fun z => ?_) fun z => ?_
    · rw [if_pos (tx_inj z)] at q
      by_cases h2 : ws.length = 2
      · rw [if_neg (by rw [decide_eq_true h2]; decide), a1 (by omega)]
        refine ⟨ws.getD 1 [], rfl, okw.at (by omega), ?_⟩
        cases hn : nameB (ws.getD 1 []) with
        | false =>
          rw [hn, if_neg (fun w => Bool.noConfusion w.2)] at q
          rw [if_pos (by decide)]
          exact q
        | true =>
          rw [hn, if_pos ⟨h2, rfl⟩] at q
          rw [if_neg (by decide)]
          exact ⟨by decide, rfl, q⟩
      · rw [if_pos (by rw [decide_eq_false h2]; rfl)]
        rw [if_neg (fun w => h2 w.1)] at q
        exact q
    rw [if_neg (fun e => z (by rw [e]))] at q
    have okS : OkT [47] := ⟨by decide, by decide⟩
    have eS : eqOk (.str (tx [47])) = true := eqOk_strT okS
    have eW : eqOk (.lst (ws.map strT)) = true := eqOk_strs okw.1
    have eI : inD (.str (tx [47])) (ws.map strT) = decide ([47] ∈ ws) := by
      unfold inD
      rw [Bool.eq_iff_iff, List.any_eq_true, decide_eq_true_eq]
      constructor
      · rintro ⟨d, hd, he⟩
        obtain ⟨w, hw, rfl⟩ := List.mem_map.1 hd
        have : eqD (strT w) (strT [47]) = true := he
        rw [eqD_strT] at this
        exact of_decide_eq_true this ▸ hw
      · intro h
        exact ⟨strT [47], List.mem_map.2 ⟨_, h, rfl⟩, by rw [show eqD (strT [47]) (.str (tx [47])) = decide (([47] : Tx) = [47]) from eqD_strT _ _]; decide⟩
    simp only [w_read_record_s3, wSeq, wSet, wRet, wRetN, wIf, wDrop, wFor, wNext, wBreak, wCont, wAppend, wSetIx, wAug, wFrz, wAsg, gN, gT, gNil', gCons', mL, mS, mLT, mMv, mIV, mRng, mRngV, mItems, mOp, mB, mC, mVar, mCons, mNil, mTup, mLst, mCB, mCall, mAnd, mOr, mNot, mAndV, mOrV, mNotV, mIf, mNeg, mSl, mNo, mPart, mPk, mChain2, mChain3, mFld, mComp, mComp2, cN, cT, cNil, cCons, mEnum, mYes, mRev, mLenSet, mLenSetG, mLenSetH, wAugIx, mMeth, mMethS, mFst, mJR, mMv2, wUnp, mTru, truD, mMake, wFld, wNever, setN, setF, fldD, String.reduceEq, List.mem_cons, List.mem_singleton, true_or, or_true, or_false, false_or, List.not_mem_nil, oCount, oSplit, oZfill, oLjust, oMulS, cMod, cDiv, cMul, oAdd, oSub, oMul, oDiv, oMod, oPow, oB, oI, oEq, oEqT, oGeT, oIndex, oIs, oIn, oIx, oMulI, oAddI, oSl, oRng1, oRng2, okL, okT, okS, fLen, fAbs, fInt, fStr, fMin, fMax, fSum, fSorted, fSortedW, fMinW, fList, fTuple, fIsi, fIsiC, tyOf, Ty.isi, ty_int, ty_bool, ty_str, ty_list, ty_tuple, ty_dict, isNon, eqOk_int, eqOk_non, eqOk_bl, eqD_int, eqD_bl, eqD_str, eqD_non, beq_self_eq_true, beq_iff_eq, Bool.and_self, atI_0, atI_1, atI_2, atI_3, atI_4, atI_5, atI_6, vw, vs, lendS, ownS, wipeE, ZL.frz, lendS, hasOb, env0, List.replicate_zero, List.replicate_succ, List.cons_append, Nat.reduceSub, List.map_cons, List.map_nil, List.getElem?_cons_zero, List.getElem?_cons_succ, List.getElem?_nil, List.set_cons_zero, List.set_cons_succ, List.length_cons, List.length_nil, List.length_set, Nat.reduceAdd, Nat.reduceLT, Nat.lt_add_one, Nat.zero_lt_succ, List.append_nil, List.nil_append, cln, clnS, clnL, clnX, List.all_cons, List.all_nil, Bool.and_true, Bool.true_and, and_true, true_and, if_true, if_false, Bool.false_eq_true, decide_eq_true_eq, Bool.true_or, Bool.or_true, Bool.false_or, Bool.or_false, decide_true, decide_false, Bool.and_false, Bool.false_and, reduceCtorEq, Int.reduceBEq, nc_0, nc_1, nc_2, nc_3, nc_4, nc_5, nc_6, Bool.not_true, Bool.not_false, reduceIte, sl_tx, eS, eW, eI]
    by_cases h47 : [47] ∈ ws
    · rw [if_neg (by rw [decide_eq_true h47]; decide)]
      rw [if_pos h47] at q
      have hj := List.idxOf_lt_length_iff.2 h47
      have eT := cutD_takeS ws (ws.idxOf [47])
      have eD := cutD_dropS ws (ws.idxOf [47] + 1)
      have eJ : ((ws.idxOf [47] : Nat) : Int) + 1 = ((ws.idxOf [47] + 1 : Nat) : Int) := by omega
      have hix : (ws.map strT)[ws.idxOf [47]]? = some (strT [47]) := by
        rw [List.getElem?_map, List.getElem?_eq_getElem hj, List.getElem_idxOf hj]
        rfl
      have hno : ∀ (m : Nat) (z' : D), m < ws.idxOf [47] → (ws.map strT)[m]? = some z' → eqD z' (.str (tx [47])) = false := fun m z' hm hz' => by
        rw [List.getElem?_map, List.getElem?_eq_getElem (by omega)] at hz'
        cases hz'
        rw [show eqD (strT ws[m]) (.str (tx [47])) = decide (ws[m] = [47]) from eqD_strT _ _]
        exact decide_eq_false (idxOf_min [47] ws m _ hm (List.getElem?_eq_getElem (by omega)))
      generalize ws.idxOf [47] = jx at *
      simp only [w_read_record_s4, w_read_record_s5, w_read_record_s6, wSeq, wSet, wRet, wRetN, wIf, wDrop, wFor, wNext, wBreak, wCont, wAppend, wSetIx, wAug, wFrz, wAsg, gN, gT, gNil', gCons', mL, mS, mLT, mMv, mIV, mRng, mRngV, mItems, mOp, mB, mC, mVar, mCons, mNil, mTup, mLst, mCB, mCall, mAnd, mOr, mNot, mAndV, mOrV, mNotV, mIf, mNeg, mSl, mNo, mPart, mPk, mChain2, mChain3, mFld, mComp, mComp2, cN, cT, cNil, cCons, mEnum, mYes, mRev, mLenSet, mLenSetG, mLenSetH, wAugIx, mMeth, mMethS, mFst, mJR, mMv2, wUnp, mTru, truD, mMake, wFld, wNever, setN, setF, fldD, String.reduceEq, List.mem_cons, List.mem_singleton, true_or, or_true, or_false, false_or, List.not_mem_nil, oCount, oSplit, oZfill, oLjust, oMulS, cMod, cDiv, cMul, oAdd, oSub, oMul, oDiv, oMod, oPow, oB, oI, oEq, oEqT, oGeT, oIndex, oIs, oIn, oIx, oMulI, oAddI, oSl, oRng1, oRng2, okL, okT, okS, fLen, fAbs, fInt, fStr, fMin, fMax, fSum, fSorted, fSortedW, fMinW, fList, fTuple, fIsi, fIsiC, tyOf, Ty.isi, ty_int, ty_bool, ty_str, ty_list, ty_tuple, ty_dict, isNon, eqOk_int, eqOk_non, eqOk_bl, eqD_int, eqD_bl, eqD_str, eqD_non, beq_self_eq_true, beq_iff_eq, Bool.and_self, atI_0, atI_1, atI_2, atI_3, atI_4, atI_5, atI_6, vw, vs, lendS, ownS, wipeE, ZL.frz, lendS, hasOb, env0, List.replicate_zero, List.replicate_succ, List.cons_append, Nat.reduceSub, List.map_cons, List.map_nil, List.getElem?_cons_zero, List.getElem?_cons_succ, List.getElem?_nil, List.set_cons_zero, List.set_cons_succ, List.length_cons, List.length_nil, List.length_set, Nat.reduceAdd, Nat.reduceLT, Nat.lt_add_one, Nat.zero_lt_succ, List.append_nil, List.nil_append, cln, clnS, clnL, clnX, List.all_cons, List.all_nil, Bool.and_true, Bool.true_and, and_true, true_and, if_true, if_false, Bool.false_eq_true, decide_eq_true_eq, Bool.true_or, Bool.or_true, Bool.false_or, Bool.or_false, decide_true, decide_false, Bool.and_false, Bool.false_and, reduceCtorEq, Int.reduceBEq, nc_0, nc_1, nc_2, nc_3, nc_4, nc_5, nc_6, Bool.not_true, Bool.not_false, reduceIte, eS, eW, sl_tx, sp_read_head, sp_read_wardens]
      refine ⟨jx, strT [47], hix, eqD_self _, hno, ?_⟩
      have eJ' : cutD (ws.map strT) (some ((jx : Int) + 1)) none = (ws.drop (jx + 1)).map strT := by rw [eJ]; exact eD
      rw [eT, eJ']
      refine ⟨_, rfl, okw.take jx, cln_head _, _, rfl, okw.drop (jx + 1), cln_ents _, ?_⟩
      cases hh : headO (ws.take jx) with
      | none =>
        rw [hh] at q
        simp only [w_read_record_s7, headD, wSeq, wSet, wRet, wRetN, wIf, wDrop, wFor, wNext, wBreak, wCont, wAppend, wSetIx, wAug, wFrz, wAsg, gN, gT, gNil', gCons', mL, mS, mLT, mMv, mIV, mRng, mRngV, mItems, mOp, mB, mC, mVar, mCons, mNil, mTup, mLst, mCB, mCall, mAnd, mOr, mNot, mAndV, mOrV, mNotV, mIf, mNeg, mSl, mNo, mPart, mPk, mChain2, mChain3, mFld, mComp, mComp2, cN, cT, cNil, cCons, mEnum, mYes, mRev, mLenSet, mLenSetG, mLenSetH, wAugIx, mMeth, mMethS, mFst, mJR, mMv2, wUnp, mTru, truD, mMake, wFld, wNever, setN, setF, fldD, String.reduceEq, List.mem_cons, List.mem_singleton, true_or, or_true, or_false, false_or, List.not_mem_nil, oCount, oSplit, oZfill, oLjust, oMulS, cMod, cDiv, cMul, oAdd, oSub, oMul, oDiv, oMod, oPow, oB, oI, oEq, oEqT, oGeT, oIndex, oIs, oIn, oIx, oMulI, oAddI, oSl, oRng1, oRng2, okL, okT, okS, fLen, fAbs, fInt, fStr, fMin, fMax, fSum, fSorted, fSortedW, fMinW, fList, fTuple, fIsi, fIsiC, tyOf, Ty.isi, ty_int, ty_bool, ty_str, ty_list, ty_tuple, ty_dict, isNon, eqOk_int, eqOk_non, eqOk_bl, eqD_int, eqD_bl, eqD_str, eqD_non, beq_self_eq_true, beq_iff_eq, Bool.and_self, atI_0, atI_1, atI_2, atI_3, atI_4, atI_5, atI_6, vw, vs, lendS, ownS, wipeE, ZL.frz, lendS, hasOb, env0, List.replicate_zero, List.replicate_succ, List.cons_append, Nat.reduceSub, List.map_cons, List.map_nil, List.getElem?_cons_zero, List.getElem?_cons_succ, List.getElem?_nil, List.set_cons_zero, List.set_cons_succ, List.length_cons, List.length_nil, List.length_set, Nat.reduceAdd, Nat.reduceLT, Nat.lt_add_one, Nat.zero_lt_succ, List.append_nil, List.nil_append, cln, clnS, clnL, clnX, List.all_cons, List.all_nil, Bool.and_true, Bool.true_and, and_true, true_and, if_true, if_false, Bool.false_eq_true, decide_eq_true_eq, Bool.true_or, Bool.or_true, Bool.false_or, Bool.or_false, decide_true, decide_false, Bool.and_false, Bool.false_and, reduceCtorEq, Int.reduceBEq, nc_0, nc_1, nc_2, nc_3, nc_4, nc_5, nc_6, Bool.not_true, Bool.not_false, reduceIte]
        exact q
      | some hd =>
        rw [hh] at q
        simp only at q
        cases hw : wardensO (ws.drop (jx + 1)) with
        | none =>
          rw [hw] at q
          simp only [w_read_record_s7, headD, entsOD, wSeq, wSet, wRet, wRetN, wIf, wDrop, wFor, wNext, wBreak, wCont, wAppend, wSetIx, wAug, wFrz, wAsg, gN, gT, gNil', gCons', mL, mS, mLT, mMv, mIV, mRng, mRngV, mItems, mOp, mB, mC, mVar, mCons, mNil, mTup, mLst, mCB, mCall, mAnd, mOr, mNot, mAndV, mOrV, mNotV, mIf, mNeg, mSl, mNo, mPart, mPk, mChain2, mChain3, mFld, mComp, mComp2, cN, cT, cNil, cCons, mEnum, mYes, mRev, mLenSet, mLenSetG, mLenSetH, wAugIx, mMeth, mMethS, mFst, mJR, mMv2, wUnp, mTru, truD, mMake, wFld, wNever, setN, setF, fldD, String.reduceEq, List.mem_cons, List.mem_singleton, true_or, or_true, or_false, false_or, List.not_mem_nil, oCount, oSplit, oZfill, oLjust, oMulS, cMod, cDiv, cMul, oAdd, oSub, oMul, oDiv, oMod, oPow, oB, oI, oEq, oEqT, oGeT, oIndex, oIs, oIn, oIx, oMulI, oAddI, oSl, oRng1, oRng2, okL, okT, okS, fLen, fAbs, fInt, fStr, fMin, fMax, fSum, fSorted, fSortedW, fMinW, fList, fTuple, fIsi, fIsiC, tyOf, Ty.isi, ty_int, ty_bool, ty_str, ty_list, ty_tuple, ty_dict, isNon, eqOk_int, eqOk_non, eqOk_bl, eqD_int, eqD_bl, eqD_str, eqD_non, beq_self_eq_true, beq_iff_eq, Bool.and_self, atI_0, atI_1, atI_2, atI_3, atI_4, atI_5, atI_6, vw, vs, lendS, ownS, wipeE, ZL.frz, lendS, hasOb, env0, List.replicate_zero, List.replicate_succ, List.cons_append, Nat.reduceSub, List.map_cons, List.map_nil, List.getElem?_cons_zero, List.getElem?_cons_succ, List.getElem?_nil, List.set_cons_zero, List.set_cons_succ, List.length_cons, List.length_nil, List.length_set, Nat.reduceAdd, Nat.reduceLT, Nat.lt_add_one, Nat.zero_lt_succ, List.append_nil, List.nil_append, cln, clnS, clnL, clnX, List.all_cons, List.all_nil, Bool.and_true, Bool.true_and, and_true, true_and, if_true, if_false, Bool.false_eq_true, decide_eq_true_eq, Bool.true_or, Bool.or_true, Bool.false_or, Bool.or_false, decide_true, decide_false, Bool.and_false, Bool.false_and, reduceCtorEq, Int.reduceBEq, nc_0, nc_1, nc_2, nc_3, nc_4, nc_5, nc_6, Bool.not_true, Bool.not_false, reduceIte]
          exact q
        | some es =>
          rw [hw] at q
          simp only [w_read_record_s7, w_read_record_s8, headD, entsOD, wSeq, wSet, wRet, wRetN, wIf, wDrop, wFor, wNext, wBreak, wCont, wAppend, wSetIx, wAug, wFrz, wAsg, gN, gT, gNil', gCons', mL, mS, mLT, mMv, mIV, mRng, mRngV, mItems, mOp, mB, mC, mVar, mCons, mNil, mTup, mLst, mCB, mCall, mAnd, mOr, mNot, mAndV, mOrV, mNotV, mIf, mNeg, mSl, mNo, mPart, mPk, mChain2, mChain3, mFld, mComp, mComp2, cN, cT, cNil, cCons, mEnum, mYes, mRev, mLenSet, mLenSetG, mLenSetH, wAugIx, mMeth, mMethS, mFst, mJR, mMv2, wUnp, mTru, truD, mMake, wFld, wNever, setN, setF, fldD, String.reduceEq, List.mem_cons, List.mem_singleton, true_or, or_true, or_false, false_or, List.not_mem_nil, oCount, oSplit, oZfill, oLjust, oMulS, cMod, cDiv, cMul, oAdd, oSub, oMul, oDiv, oMod, oPow, oB, oI, oEq, oEqT, oGeT, oIndex, oIs, oIn, oIx, oMulI, oAddI, oSl, oRng1, oRng2, okL, okT, okS, fLen, fAbs, fInt, fStr, fMin, fMax, fSum, fSorted, fSortedW, fMinW, fList, fTuple, fIsi, fIsiC, tyOf, Ty.isi, ty_int, ty_bool, ty_str, ty_list, ty_tuple, ty_dict, isNon, eqOk_int, eqOk_non, eqOk_bl, eqD_int, eqD_bl, eqD_str, eqD_non, beq_self_eq_true, beq_iff_eq, Bool.and_self, atI_0, atI_1, atI_2, atI_3, atI_4, atI_5, atI_6, vw, vs, lendS, ownS, wipeE, ZL.frz, lendS, hasOb, env0, List.replicate_zero, List.replicate_succ, List.cons_append, Nat.reduceSub, List.map_cons, List.map_nil, List.getElem?_cons_zero, List.getElem?_cons_succ, List.getElem?_nil, List.set_cons_zero, List.set_cons_succ, List.length_cons, List.length_nil, List.length_set, Nat.reduceAdd, Nat.reduceLT, Nat.lt_add_one, Nat.zero_lt_succ, List.append_nil, List.nil_append, cln, clnS, clnL, clnX, List.all_cons, List.all_nil, Bool.and_true, Bool.true_and, and_true, true_and, if_true, if_false, Bool.false_eq_true, decide_eq_true_eq, Bool.true_or, Bool.or_true, Bool.false_or, Bool.or_false, decide_true, decide_false, Bool.and_false, Bool.false_and, reduceCtorEq, Int.reduceBEq, nc_0, nc_1, nc_2, nc_3, nc_4, nc_5, nc_6, Bool.not_true, Bool.not_false, reduceIte]
          have h4 : (headL hd).length ≤ 3 := by cases hd <;> simp [headL]
          exact ⟨by decide, by omega, cln_rec (.hd hd es), q⟩
    · rw [if_pos (by rw [decide_eq_false h47]; rfl)]
      rw [if_neg h47] at q
      exact q
  · rw [if_pos (by rw [decide_eq_false h59]; rfl)]
    rw [if_neg h59] at q
    exact q
theorem u_read_log : ∀ ds Q E, sp_read_log ds Q E → w_read_log (env0 N_read_log ds) (ends0 Q E) := by
  intro ds Q E h
  obtain ⟨ls, rfl, ok, q⟩ := h
  simp only [w_read_log, N_read_log, sp_counted, wSeq, wSet, wRet, wRetN, wIf, wDrop, wFor, wNext, wBreak, wCont, wAppend, wSetIx, wAug, wFrz, wAsg, gN, gT, gNil', gCons', mL, mS, mLT, mMv, mIV, mRng, mRngV, mItems, mOp, mB, mC, mVar, mCons, mNil, mTup, mLst, mCB, mCall, mAnd, mOr, mNot, mAndV, mOrV, mNotV, mIf, mNeg, mSl, mNo, mPart, mPk, mChain2, mChain3, mFld, mComp, mComp2, cN, cT, cNil, cCons, mEnum, mYes, mRev, mLenSet, mLenSetG, mLenSetH, wAugIx, mMeth, mMethS, mFst, mJR, mMv2, wUnp, mTru, truD, mMake, wFld, wNever, setN, setF, fldD, String.reduceEq, List.mem_cons, List.mem_singleton, true_or, or_true, or_false, false_or, List.not_mem_nil, oCount, oSplit, oZfill, oLjust, oMulS, cMod, cDiv, cMul, oAdd, oSub, oMul, oDiv, oMod, oPow, oB, oI, oEq, oEqT, oGeT, oIndex, oIs, oIn, oIx, oMulI, oAddI, oSl, oRng1, oRng2, okL, okT, okS, fLen, fAbs, fInt, fStr, fMin, fMax, fSum, fSorted, fSortedW, fMinW, fList, fTuple, fIsi, fIsiC, tyOf, Ty.isi, ty_int, ty_bool, ty_str, ty_list, ty_tuple, ty_dict, isNon, eqOk_int, eqOk_non, eqOk_bl, eqD_int, eqD_bl, eqD_str, eqD_non, beq_self_eq_true, beq_iff_eq, Bool.and_self, atI_0, atI_1, atI_2, atI_3, atI_4, atI_5, atI_6, vw, vs, lendS, ownS, wipeE, ZL.frz, lendS, hasOb, env0, List.replicate_zero, List.replicate_succ, List.cons_append, Nat.reduceSub, List.map_cons, List.map_nil, List.getElem?_cons_zero, List.getElem?_cons_succ, List.getElem?_nil, List.set_cons_zero, List.set_cons_succ, List.length_cons, List.length_nil, List.length_set, Nat.reduceAdd, Nat.reduceLT, Nat.lt_add_one, Nat.zero_lt_succ, List.append_nil, List.nil_append, cln, clnS, clnL, clnX, List.all_cons, List.all_nil, Bool.and_true, Bool.true_and, and_true, true_and, if_true, if_false, Bool.false_eq_true, decide_eq_true_eq, Bool.true_or, Bool.or_true, Bool.false_or, Bool.or_false, decide_true, decide_false, Bool.and_false, Bool.false_and, reduceCtorEq, Int.reduceBEq, nc_0, nc_1, nc_2, nc_3, nc_4, nc_5, nc_6, Bool.not_true, Bool.not_false, reduceIte]
  exact ⟨ls, rfl, ok, all_map cln_rec _, q⟩
theorem u_log_end : ∀ ds Q E, sp_log_end ds Q E → w_log_end (env0 N_log_end ds) (ends0 Q E) := by
  intro ds Q E h
  obtain ⟨ls, rfl, ok, q⟩ := h
  simp only [w_log_end, N_log_end, sp_counted, wSeq, wSet, wRet, wRetN, wIf, wDrop, wFor, wNext, wBreak, wCont, wAppend, wSetIx, wAug, wFrz, wAsg, gN, gT, gNil', gCons', mL, mS, mLT, mMv, mIV, mRng, mRngV, mItems, mOp, mB, mC, mVar, mCons, mNil, mTup, mLst, mCB, mCall, mAnd, mOr, mNot, mAndV, mOrV, mNotV, mIf, mNeg, mSl, mNo, mPart, mPk, mChain2, mChain3, mFld, mComp, mComp2, cN, cT, cNil, cCons, mEnum, mYes, mRev, mLenSet, mLenSetG, mLenSetH, wAugIx, mMeth, mMethS, mFst, mJR, mMv2, wUnp, mTru, truD, mMake, wFld, wNever, setN, setF, fldD, String.reduceEq, List.mem_cons, List.mem_singleton, true_or, or_true, or_false, false_or, List.not_mem_nil, oCount, oSplit, oZfill, oLjust, oMulS, cMod, cDiv, cMul, oAdd, oSub, oMul, oDiv, oMod, oPow, oB, oI, oEq, oEqT, oGeT, oIndex, oIs, oIn, oIx, oMulI, oAddI, oSl, oRng1, oRng2, okL, okT, okS, fLen, fAbs, fInt, fStr, fMin, fMax, fSum, fSorted, fSortedW, fMinW, fList, fTuple, fIsi, fIsiC, tyOf, Ty.isi, ty_int, ty_bool, ty_str, ty_list, ty_tuple, ty_dict, isNon, eqOk_int, eqOk_non, eqOk_bl, eqD_int, eqD_bl, eqD_str, eqD_non, beq_self_eq_true, beq_iff_eq, Bool.and_self, atI_0, atI_1, atI_2, atI_3, atI_4, atI_5, atI_6, vw, vs, lendS, ownS, wipeE, ZL.frz, lendS, hasOb, env0, List.replicate_zero, List.replicate_succ, List.cons_append, Nat.reduceSub, List.map_cons, List.map_nil, List.getElem?_cons_zero, List.getElem?_cons_succ, List.getElem?_nil, List.set_cons_zero, List.set_cons_succ, List.length_cons, List.length_nil, List.length_set, Nat.reduceAdd, Nat.reduceLT, Nat.lt_add_one, Nat.zero_lt_succ, List.append_nil, List.nil_append, cln, clnS, clnL, clnX, List.all_cons, List.all_nil, Bool.and_true, Bool.true_and, and_true, true_and, if_true, if_false, Bool.false_eq_true, decide_eq_true_eq, Bool.true_or, Bool.or_true, Bool.false_or, Bool.or_false, decide_true, decide_false, Bool.and_false, Bool.false_and, reduceCtorEq, Int.reduceBEq, nc_0, nc_1, nc_2, nc_3, nc_4, nc_5, nc_6, Bool.not_true, Bool.not_false, reduceIte]
  exact ⟨ls, rfl, ok, q⟩

end ZL.K30


namespace ZL.K30
open PySem PySem.Spec PyProof.Rows L2 ZL
def hwR : Rec → Tx
  | .era _ => eraW
  | .hd .deal _ => dealW
  | .hd (.put _ _) _ => putW
  | .hd (.cap _ _) _ => capW
  | .hd (.pic _ _) _ => picW
theorem rec_head (r : Rec) : ∃ ds, recD r = .tup (strT (hwR r) :: ds) ∧ (hwR r = picW ↔ isPic r = true) := by
  cases r with
  | era n => exact ⟨_, rfl, by simp [hwR, isPic, eraW, picW]⟩
  | hd h es => cases h with
    | deal => exact ⟨_, rfl, by simp [hwR, isPic, dealW, picW]⟩
    | put n ns => exact ⟨_, rfl, by simp [hwR, isPic, putW, picW]⟩
    | cap s c => exact ⟨_, rfl, by simp [hwR, isPic, capW, picW]⟩
    | pic cs ns => exact ⟨_, rfl, by simp [hwR, isPic]⟩
theorem u_counted : ∀ ds Q E, sp_counted ds Q E → w_counted (env0 N_counted ds) (ends0 Q E) := by
  intro ds Q E h
  obtain ⟨ls, rfl, ok, q⟩ := h
  have hz : 3000 ≤ sizeLine := by decide
  have hl := ok.2
  simp only [w_counted, w_counted_s0, w_counted_s1, w_counted_s2, N_counted, wSeq, wSet, wRet, wRetN, wIf, wDrop, wFor, wNext, wBreak, wCont, wAppend, wSetIx, wAug, wFrz, wAsg, gN, gT, gNil', gCons', mL, mS, mLT, mMv, mIV, mRng, mRngV, mItems, mOp, mB, mC, mVar, mCons, mNil, mTup, mLst, mCB, mCall, mAnd, mOr, mNot, mAndV, mOrV, mNotV, mIf, mNeg, mSl, mNo, mPart, mPk, mChain2, mChain3, mFld, mComp, mComp2, cN, cT, cNil, cCons, mEnum, mYes, mRev, mLenSet, mLenSetG, mLenSetH, wAugIx, mMeth, mMethS, mFst, mJR, mMv2, wUnp, mTru, truD, mMake, wFld, wNever, setN, setF, fldD, String.reduceEq, List.mem_cons, List.mem_singleton, true_or, or_true, or_false, false_or, List.not_mem_nil, oCount, oSplit, oZfill, oLjust, oMulS, cMod, cDiv, cMul, oAdd, oSub, oMul, oDiv, oMod, oPow, oB, oI, oEq, oEqT, oGeT, oIndex, oIs, oIn, oIx, oMulI, oAddI, oSl, oRng1, oRng2, okL, okT, okS, fLen, fAbs, fInt, fStr, fMin, fMax, fSum, fSorted, fSortedW, fMinW, fList, fTuple, fIsi, fIsiC, tyOf, Ty.isi, ty_int, ty_bool, ty_str, ty_list, ty_tuple, ty_dict, isNon, eqOk_int, eqOk_non, eqOk_bl, eqD_int, eqD_bl, eqD_str, eqD_non, beq_self_eq_true, beq_iff_eq, Bool.and_self, atI_0, atI_1, atI_2, atI_3, atI_4, atI_5, atI_6, vw, vs, lendS, ownS, wipeE, ZL.frz, lendS, hasOb, env0, List.replicate_zero, List.replicate_succ, List.cons_append, Nat.reduceSub, List.map_cons, List.map_nil, List.getElem?_cons_zero, List.getElem?_cons_succ, List.getElem?_nil, List.set_cons_zero, List.set_cons_succ, List.length_cons, List.length_nil, List.length_set, Nat.reduceAdd, Nat.reduceLT, Nat.lt_add_one, Nat.zero_lt_succ, List.append_nil, List.nil_append, cln, clnS, clnL, clnX, List.all_cons, List.all_nil, Bool.and_true, Bool.true_and, and_true, true_and, if_true, if_false, Bool.false_eq_true, decide_eq_true_eq, Bool.true_or, Bool.or_true, Bool.false_or, Bool.or_false, decide_true, decide_false, Bool.and_false, Bool.false_and, reduceCtorEq, Int.reduceBEq, nc_0, nc_1, nc_2, nc_3, nc_4, nc_5, nc_6, Bool.not_true, Bool.not_false, reduceIte, List.length_map, Int.toNat_natCast]
  refine ⟨by omega, ⟨by omega, by omega⟩, ?_⟩
  refine for_range (fun i env => ∃ x y, env = [some (.sh, .lst (ls.map strT)), some (.ls .sh, .lst ((cntT (ls.take i)).1.map recD)), some (.sh, .int ((cntT (ls.take i)).2 : Int)), x, y] ∧ (cntT (ls.take i)).1.length ≤ i) ⟨none, none, rfl, Nat.le_refl _⟩ ?_ ?_
  · rintro i hi env K ⟨x, y, rfl, hlen⟩ hK
    have ai := atS hi
    have hs : cntT (ls.take (i + 1)) = stepC (cntT (ls.take i)) i (recO (ls.getD i [])) := by
      have e : ls.take (i + 1) = ls.take i ++ [ls.getD i []] := take_snoc (by rw [List.getD_eq_getElem?_getD, List.getElem?_eq_getElem hi]; rfl)
      unfold cntT
      rw [e, List.map_append, List.map_cons, List.map_nil, cnt_snoc, Nat.zero_add, List.length_map, List.length_take, Nat.min_eq_left (by omega)]
    have hK' : ∀ x y, K [some (.sh, .lst (ls.map strT)), some (.ls .sh, .lst ((stepC (cntT (ls.take i)) i (recO (ls.getD i []))).1.map recD)), some (.sh, .int ((stepC (cntT (ls.take i)) i (recO (ls.getD i []))).2 : Int)), x, y] := fun x y => hK _ ⟨x, y, by rw [hs], by
      rw [hs]
      unfold stepC
      split
      · omega
      · split
        · simp
        · split
          · simp; omega
          · omega⟩
    generalize cntT (ls.take i) = st at *
    obtain ⟨recs, en⟩ := st
    simp only [wSeq, wSet, wRet, wRetN, wIf, wDrop, wFor, wNext, wBreak, wCont, wAppend, wSetIx, wAug, wFrz, wAsg, gN, gT, gNil', gCons', mL, mS, mLT, mMv, mIV, mRng, mRngV, mItems, mOp, mB, mC, mVar, mCons, mNil, mTup, mLst, mCB, mCall, mAnd, mOr, mNot, mAndV, mOrV, mNotV, mIf, mNeg, mSl, mNo, mPart, mPk, mChain2, mChain3, mFld, mComp, mComp2, cN, cT, cNil, cCons, mEnum, mYes, mRev, mLenSet, mLenSetG, mLenSetH, wAugIx, mMeth, mMethS, mFst, mJR, mMv2, wUnp, mTru, truD, mMake, wFld, wNever, setN, setF, fldD, String.reduceEq, List.mem_cons, List.mem_singleton, true_or, or_true, or_false, false_or, List.not_mem_nil, oCount, oSplit, oZfill, oLjust, oMulS, cMod, cDiv, cMul, oAdd, oSub, oMul, oDiv, oMod, oPow, oB, oI, oEq, oEqT, oGeT, oIndex, oIs, oIn, oIx, oMulI, oAddI, oSl, oRng1, oRng2, okL, okT, okS, fLen, fAbs, fInt, fStr, fMin, fMax, fSum, fSorted, fSortedW, fMinW, fList, fTuple, fIsi, fIsiC, tyOf, Ty.isi, ty_int, ty_bool, ty_str, ty_list, ty_tuple, ty_dict, isNon, eqOk_int, eqOk_non, eqOk_bl, eqD_int, eqD_bl, eqD_str, eqD_non, beq_self_eq_true, beq_iff_eq, Bool.and_self, atI_0, atI_1, atI_2, atI_3, atI_4, atI_5, atI_6, vw, vs, lendS, ownS, wipeE, ZL.frz, lendS, hasOb, env0, List.replicate_zero, List.replicate_succ, List.cons_append, Nat.reduceSub, List.map_cons, List.map_nil, List.getElem?_cons_zero, List.getElem?_cons_succ, List.getElem?_nil, List.set_cons_zero, List.set_cons_succ, List.length_cons, List.length_nil, List.length_set, Nat.reduceAdd, Nat.reduceLT, Nat.lt_add_one, Nat.zero_lt_succ, List.append_nil, List.nil_append, cln, clnS, clnL, clnX, List.all_cons, List.all_nil, Bool.and_true, Bool.true_and, and_true, true_and, if_true, if_false, Bool.false_eq_true, decide_eq_true_eq, Bool.true_or, Bool.or_true, Bool.false_or, Bool.or_false, decide_true, decide_false, Bool.and_false, Bool.false_and, reduceCtorEq, Int.reduceBEq, nc_0, nc_1, nc_2, nc_3, nc_4, nc_5, nc_6, Bool.not_true, Bool.not_false, reduceIte, Int.zero_add, ai, sp_read_record]
    refine ⟨_, rfl, ok.at hi, cln_recO _, ?_⟩
    generalize recO (ls.getD i []) = o at *
    cases o with
    | none =>
      simp only [recOD, wSeq, wSet, wRet, wRetN, wIf, wDrop, wFor, wNext, wBreak, wCont, wAppend, wSetIx, wAug, wFrz, wAsg, gN, gT, gNil', gCons', mL, mS, mLT, mMv, mIV, mRng, mRngV, mItems, mOp, mB, mC, mVar, mCons, mNil, mTup, mLst, mCB, mCall, mAnd, mOr, mNot, mAndV, mOrV, mNotV, mIf, mNeg, mSl, mNo, mPart, mPk, mChain2, mChain3, mFld, mComp, mComp2, cN, cT, cNil, cCons, mEnum, mYes, mRev, mLenSet, mLenSetG, mLenSetH, wAugIx, mMeth, mMethS, mFst, mJR, mMv2, wUnp, mTru, truD, mMake, wFld, wNever, setN, setF, fldD, String.reduceEq, List.mem_cons, List.mem_singleton, true_or, or_true, or_false, false_or, List.not_mem_nil, oCount, oSplit, oZfill, oLjust, oMulS, cMod, cDiv, cMul, oAdd, oSub, oMul, oDiv, oMod, oPow, oB, oI, oEq, oEqT, oGeT, oIndex, oIs, oIn, oIx, oMulI, oAddI, oSl, oRng1, oRng2, okL, okT, okS, fLen, fAbs, fInt, fStr, fMin, fMax, fSum, fSorted, fSortedW, fMinW, fList, fTuple, fIsi, fIsiC, tyOf, Ty.isi, ty_int, ty_bool, ty_str, ty_list, ty_tuple, ty_dict, isNon, eqOk_int, eqOk_non, eqOk_bl, eqD_int, eqD_bl, eqD_str, eqD_non, beq_self_eq_true, beq_iff_eq, Bool.and_self, atI_0, atI_1, atI_2, atI_3, atI_4, atI_5, atI_6, vw, vs, lendS, ownS, wipeE, ZL.frz, lendS, hasOb, env0, List.replicate_zero, List.replicate_succ, List.cons_append, Nat.reduceSub, List.map_cons, List.map_nil, List.getElem?_cons_zero, List.getElem?_cons_succ, List.getElem?_nil, List.set_cons_zero, List.set_cons_succ, List.length_cons, List.length_nil, List.length_set, Nat.reduceAdd, Nat.reduceLT, Nat.lt_add_one, Nat.zero_lt_succ, List.append_nil, List.nil_append, cln, clnS, clnL, clnX, List.all_cons, List.all_nil, Bool.and_true, Bool.true_and, and_true, true_and, if_true, if_false, Bool.false_eq_true, decide_eq_true_eq, Bool.true_or, Bool.or_true, Bool.false_or, Bool.or_false, decide_true, decide_false, Bool.and_false, Bool.false_and, reduceCtorEq, Int.reduceBEq, nc_0, nc_1, nc_2, nc_3, nc_4, nc_5, nc_6, Bool.not_true, Bool.not_false, reduceIte]
      exact hK' _ _
    | some r =>
      obtain ⟨ds, e1, e2⟩ := rec_head r
      have hc := cln_rec r
      simp only [recOD, e1, strT, wSeq, wSet, wRet, wRetN, wIf, wDrop, wFor, wNext, wBreak, wCont, wAppend, wSetIx, wAug, wFrz, wAsg, gN, gT, gNil', gCons', mL, mS, mLT, mMv, mIV, mRng, mRngV, mItems, mOp, mB, mC, mVar, mCons, mNil, mTup, mLst, mCB, mCall, mAnd, mOr, mNot, mAndV, mOrV, mNotV, mIf, mNeg, mSl, mNo, mPart, mPk, mChain2, mChain3, mFld, mComp, mComp2, cN, cT, cNil, cCons, mEnum, mYes, mRev, mLenSet, mLenSetG, mLenSetH, wAugIx, mMeth, mMethS, mFst, mJR, mMv2, wUnp, mTru, truD, mMake, wFld, wNever, setN, setF, fldD, String.reduceEq, List.mem_cons, List.mem_singleton, true_or, or_true, or_false, false_or, List.not_mem_nil, oCount, oSplit, oZfill, oLjust, oMulS, cMod, cDiv, cMul, oAdd, oSub, oMul, oDiv, oMod, oPow, oB, oI, oEq, oEqT, oGeT, oIndex, oIs, oIn, oIx, oMulI, oAddI, oSl, oRng1, oRng2, okL, okT, okS, fLen, fAbs, fInt, fStr, fMin, fMax, fSum, fSorted, fSortedW, fMinW, fList, fTuple, fIsi, fIsiC, tyOf, Ty.isi, ty_int, ty_bool, ty_str, ty_list, ty_tuple, ty_dict, isNon, eqOk_int, eqOk_non, eqOk_bl, eqD_int, eqD_bl, eqD_str, eqD_non, beq_self_eq_true, beq_iff_eq, Bool.and_self, atI_0, atI_1, atI_2, atI_3, atI_4, atI_5, atI_6, vw, vs, lendS, ownS, wipeE, ZL.frz, lendS, hasOb, env0, List.replicate_zero, List.replicate_succ, List.cons_append, Nat.reduceSub, List.map_cons, List.map_nil, List.getElem?_cons_zero, List.getElem?_cons_succ, List.getElem?_nil, List.set_cons_zero, List.set_cons_succ, List.length_cons, List.length_nil, List.length_set, Nat.reduceAdd, Nat.reduceLT, Nat.lt_add_one, Nat.zero_lt_succ, List.append_nil, List.nil_append, cln, clnS, clnL, clnX, List.all_cons, List.all_nil, Bool.and_true, Bool.true_and, and_true, true_and, if_true, if_false, Bool.false_eq_true, decide_eq_true_eq, Bool.true_or, Bool.or_true, Bool.false_or, Bool.or_false, decide_true, decide_false, Bool.and_false, Bool.false_and, reduceCtorEq, Int.reduceBEq, nc_0, nc_1, nc_2, nc_3, nc_4, nc_5, nc_6, Bool.not_true, Bool.not_false, reduceIte, pic_tx, List.length_map]
      rw [e1] at hc
      have s1 : isPic r = true → stepC (recs, en) i (some r) = ([r], i + 1) := fun h => by simp [stepC, h]
      have s2 : ¬ isPic r = true → 0 < recs.length ∧ en = i → stepC (recs, en) i (some r) = (recs ++ [r], i + 1) := fun h w => by
        show (if isPic r = true then _ else if 0 < recs.length ∧ en = i then _ else _) = _
        rw [if_neg h, if_pos w]
      have s3 : ¬ isPic r = true → ¬ (0 < recs.length ∧ en = i) → stepC (recs, en) i (some r) = (recs, en) := fun h w => by
        show (if isPic r = true then _ else if 0 < recs.length ∧ en = i then _ else _) = _
        rw [if_neg h, if_neg w]
      have hlen : recs.length ≤ i := hlen
      refine ifZ (fun z => ?_) fun z => ?_
      · have := hK' (some (.sh, .int (i : Int))) (some (.sh, recD r))
        rw [s1 (e2.1 (tx_inj z))] at this
        simp only [List.map_cons, List.map_nil, e1, strT] at this
        exact ⟨by decide, hc, this⟩
      · have hp : ¬ isPic r = true := fun w => z (by rw [e2.2 w])
        refine ifZ (fun z1 => ?_) fun z1 => ?_
        · refine ifZ (fun z2 => ?_) fun z2 => ?_
          · have := hK' (some (.sh, .int (i : Int))) (some (.sh, recD r))
            rw [s2 hp ⟨by omega, by omega⟩] at this
            simp only [List.map_append, List.map_cons, List.map_nil, e1, strT] at this
            exact ⟨hc, by omega, this⟩
          · have := hK' (some (.sh, .int (i : Int))) (some (.sh, recD r))
            rw [s3 hp (fun w => z2 (by omega))] at this
            simp only [e1, strT] at this
            exact this
        · have := hK' (some (.sh, .int (i : Int))) (some (.sh, recD r))
          rw [s3 hp (fun w => z1 (by omega))] at this
          simp only [e1, strT] at this
          exact this
  · rintro env ⟨x, y, rfl, hlen⟩
    rw [List.take_length]
    simp only [w_counted_s3, wSeq, wSet, wRet, wRetN, wIf, wDrop, wFor, wNext, wBreak, wCont, wAppend, wSetIx, wAug, wFrz, wAsg, gN, gT, gNil', gCons', mL, mS, mLT, mMv, mIV, mRng, mRngV, mItems, mOp, mB, mC, mVar, mCons, mNil, mTup, mLst, mCB, mCall, mAnd, mOr, mNot, mAndV, mOrV, mNotV, mIf, mNeg, mSl, mNo, mPart, mPk, mChain2, mChain3, mFld, mComp, mComp2, cN, cT, cNil, cCons, mEnum, mYes, mRev, mLenSet, mLenSetG, mLenSetH, wAugIx, mMeth, mMethS, mFst, mJR, mMv2, wUnp, mTru, truD, mMake, wFld, wNever, setN, setF, fldD, String.reduceEq, List.mem_cons, List.mem_singleton, true_or, or_true, or_false, false_or, List.not_mem_nil, oCount, oSplit, oZfill, oLjust, oMulS, cMod, cDiv, cMul, oAdd, oSub, oMul, oDiv, oMod, oPow, oB, oI, oEq, oEqT, oGeT, oIndex, oIs, oIn, oIx, oMulI, oAddI, oSl, oRng1, oRng2, okL, okT, okS, fLen, fAbs, fInt, fStr, fMin, fMax, fSum, fSorted, fSortedW, fMinW, fList, fTuple, fIsi, fIsiC, tyOf, Ty.isi, ty_int, ty_bool, ty_str, ty_list, ty_tuple, ty_dict, isNon, eqOk_int, eqOk_non, eqOk_bl, eqD_int, eqD_bl, eqD_str, eqD_non, beq_self_eq_true, beq_iff_eq, Bool.and_self, atI_0, atI_1, atI_2, atI_3, atI_4, atI_5, atI_6, vw, vs, lendS, ownS, wipeE, ZL.frz, lendS, hasOb, env0, List.replicate_zero, List.replicate_succ, List.cons_append, Nat.reduceSub, List.map_cons, List.map_nil, List.getElem?_cons_zero, List.getElem?_cons_succ, List.getElem?_nil, List.set_cons_zero, List.set_cons_succ, List.length_cons, List.length_nil, List.length_set, Nat.reduceAdd, Nat.reduceLT, Nat.lt_add_one, Nat.zero_lt_succ, List.append_nil, List.nil_append, cln, clnS, clnL, clnX, List.all_cons, List.all_nil, Bool.and_true, Bool.true_and, and_true, true_and, if_true, if_false, Bool.false_eq_true, decide_eq_true_eq, Bool.true_or, Bool.or_true, Bool.false_or, Bool.or_false, decide_true, decide_false, Bool.and_false, Bool.false_and, reduceCtorEq, Int.reduceBEq, nc_0, nc_1, nc_2, nc_3, nc_4, nc_5, nc_6, Bool.not_true, Bool.not_false, reduceIte]
    exact ⟨by decide, q⟩
theorem u__law_sign : ∀ ds Q E, sp__law_sign ds Q E → w__law_sign (env0 N__law_sign ds) (ends0 Q E) := by
  intro ds Q E h
  obtain ⟨n, rfl, q⟩ := h
  simp only [w__law_sign, w__law_sign_s0, w__law_sign_s1, w__law_sign_s2, N__law_sign, wSeq, wSet, wRet, wRetN, wIf, wDrop, wFor, wNext, wBreak, wCont, wAppend, wSetIx, wAug, wFrz, wAsg, gN, gT, gNil', gCons', mL, mS, mLT, mMv, mIV, mRng, mRngV, mItems, mOp, mB, mC, mVar, mCons, mNil, mTup, mLst, mCB, mCall, mAnd, mOr, mNot, mAndV, mOrV, mNotV, mIf, mNeg, mSl, mNo, mPart, mPk, mChain2, mChain3, mFld, mComp, mComp2, cN, cT, cNil, cCons, mEnum, mYes, mRev, mLenSet, mLenSetG, mLenSetH, wAugIx, mMeth, mMethS, mFst, mJR, mMv2, wUnp, mTru, truD, mMake, wFld, wNever, setN, setF, fldD, String.reduceEq, List.mem_cons, List.mem_singleton, true_or, or_true, or_false, false_or, List.not_mem_nil, oCount, oSplit, oZfill, oLjust, oMulS, cMod, cDiv, cMul, oAdd, oSub, oMul, oDiv, oMod, oPow, oB, oI, oEq, oEqT, oGeT, oIndex, oIs, oIn, oIx, oMulI, oAddI, oSl, oRng1, oRng2, okL, okT, okS, fLen, fAbs, fInt, fStr, fMin, fMax, fSum, fSorted, fSortedW, fMinW, fList, fTuple, fIsi, fIsiC, tyOf, Ty.isi, ty_int, ty_bool, ty_str, ty_list, ty_tuple, ty_dict, isNon, eqOk_int, eqOk_non, eqOk_bl, eqD_int, eqD_bl, eqD_str, eqD_non, beq_self_eq_true, beq_iff_eq, Bool.and_self, atI_0, atI_1, atI_2, atI_3, atI_4, atI_5, atI_6, vw, vs, lendS, ownS, wipeE, ZL.frz, lendS, hasOb, env0, List.replicate_zero, List.replicate_succ, List.cons_append, Nat.reduceSub, List.map_cons, List.map_nil, List.getElem?_cons_zero, List.getElem?_cons_succ, List.getElem?_nil, List.set_cons_zero, List.set_cons_succ, List.length_cons, List.length_nil, List.length_set, Nat.reduceAdd, Nat.reduceLT, Nat.lt_add_one, Nat.zero_lt_succ, List.append_nil, List.nil_append, cln, clnS, clnL, clnX, List.all_cons, List.all_nil, Bool.and_true, Bool.true_and, and_true, true_and, if_true, if_false, Bool.false_eq_true, decide_eq_true_eq, Bool.true_or, Bool.or_true, Bool.false_or, Bool.or_false, decide_true, decide_false, Bool.and_false, Bool.false_and, reduceCtorEq, Int.reduceBEq, nc_0, nc_1, nc_2, nc_3, nc_4, nc_5, nc_6, Bool.not_true, Bool.not_false, reduceIte]
  have hm := mxm n 94 (by decide)
  have hsz : sgS.length ≤ sizeLine := by decide +kernel
  refine ⟨by decide +kernel, by decide, ?_⟩
  show match atI sgS.cps.toList (n % 94) with
    | some c => sgS.length ≤ sizeLine ∧ Q .sh (.str ⟨#[c]⟩)
    | none => False
  rw [atI_nat hm.1 (signC_at n)]
  exact ⟨hsz, q⟩
theorem u__law_sizes : ∀ ds Q E, sp__law_sizes ds Q E → w__law_sizes (env0 N__law_sizes ds) (ends0 Q E) := by
  intro ds Q E h
  obtain ⟨rfl, q⟩ := h
  simp only [w__law_sizes, N__law_sizes, wSeq, wSet, wRet, wRetN, wIf, wDrop, wFor, wNext, wBreak, wCont, wAppend, wSetIx, wAug, wFrz, wAsg, gN, gT, gNil', gCons', mL, mS, mLT, mMv, mIV, mRng, mRngV, mItems, mOp, mB, mC, mVar, mCons, mNil, mTup, mLst, mCB, mCall, mAnd, mOr, mNot, mAndV, mOrV, mNotV, mIf, mNeg, mSl, mNo, mPart, mPk, mChain2, mChain3, mFld, mComp, mComp2, cN, cT, cNil, cCons, mEnum, mYes, mRev, mLenSet, mLenSetG, mLenSetH, wAugIx, mMeth, mMethS, mFst, mJR, mMv2, wUnp, mTru, truD, mMake, wFld, wNever, setN, setF, fldD, String.reduceEq, List.mem_cons, List.mem_singleton, true_or, or_true, or_false, false_or, List.not_mem_nil, oCount, oSplit, oZfill, oLjust, oMulS, cMod, cDiv, cMul, oAdd, oSub, oMul, oDiv, oMod, oPow, oB, oI, oEq, oEqT, oGeT, oIndex, oIs, oIn, oIx, oMulI, oAddI, oSl, oRng1, oRng2, okL, okT, okS, fLen, fAbs, fInt, fStr, fMin, fMax, fSum, fSorted, fSortedW, fMinW, fList, fTuple, fIsi, fIsiC, tyOf, Ty.isi, ty_int, ty_bool, ty_str, ty_list, ty_tuple, ty_dict, isNon, eqOk_int, eqOk_non, eqOk_bl, eqD_int, eqD_bl, eqD_str, eqD_non, beq_self_eq_true, beq_iff_eq, Bool.and_self, atI_0, atI_1, atI_2, atI_3, atI_4, atI_5, atI_6, vw, vs, lendS, ownS, wipeE, ZL.frz, lendS, hasOb, env0, List.replicate_zero, List.replicate_succ, List.cons_append, Nat.reduceSub, List.map_cons, List.map_nil, List.getElem?_cons_zero, List.getElem?_cons_succ, List.getElem?_nil, List.set_cons_zero, List.set_cons_succ, List.length_cons, List.length_nil, List.length_set, Nat.reduceAdd, Nat.reduceLT, Nat.lt_add_one, Nat.zero_lt_succ, List.append_nil, List.nil_append, cln, clnS, clnL, clnX, List.all_cons, List.all_nil, Bool.and_true, Bool.true_and, and_true, true_and, if_true, if_false, Bool.false_eq_true, decide_eq_true_eq, Bool.true_or, Bool.or_true, Bool.false_or, Bool.or_false, decide_true, decide_false, Bool.and_false, Bool.false_and, reduceCtorEq, Int.reduceBEq, nc_0, nc_1, nc_2, nc_3, nc_4, nc_5, nc_6, Bool.not_true, Bool.not_false, reduceIte]
  exact ⟨by decide, q⟩
theorem eqD_self' (d : D) : eqD d d = true := eqD_self d
theorem u__law_alike : ∀ n ds Q E, sps__law_alike (n + 1) ds Q E → w__law_alike (sps__law_alike n) (env0 N__law_alike ds) (ends0 Q E) := by
  intro n ds Q E h
  obtain ⟨d, rfl, ha, q⟩ := h
  rcases ha with ⟨i, rfl⟩ | ⟨s, rfl⟩ | ⟨xs, rfl, hl, hx⟩
  · simp only [w__law_alike, N__law_alike, sp__law_is_integer, wSeq, wSet, wRet, wRetN, wIf, wDrop, wFor, wNext, wBreak, wCont, wAppend, wSetIx, wAug, wFrz, wAsg, gN, gT, gNil', gCons', mL, mS, mLT, mMv, mIV, mRng, mRngV, mItems, mOp, mB, mC, mVar, mCons, mNil, mTup, mLst, mCB, mCall, mAnd, mOr, mNot, mAndV, mOrV, mNotV, mIf, mNeg, mSl, mNo, mPart, mPk, mChain2, mChain3, mFld, mComp, mComp2, cN, cT, cNil, cCons, mEnum, mYes, mRev, mLenSet, mLenSetG, mLenSetH, wAugIx, mMeth, mMethS, mFst, mJR, mMv2, wUnp, mTru, truD, mMake, wFld, wNever, setN, setF, fldD, String.reduceEq, List.mem_cons, List.mem_singleton, true_or, or_true, or_false, false_or, List.not_mem_nil, oCount, oSplit, oZfill, oLjust, oMulS, cMod, cDiv, cMul, oAdd, oSub, oMul, oDiv, oMod, oPow, oB, oI, oEq, oEqT, oGeT, oIndex, oIs, oIn, oIx, oMulI, oAddI, oSl, oRng1, oRng2, okL, okT, okS, fLen, fAbs, fInt, fStr, fMin, fMax, fSum, fSorted, fSortedW, fMinW, fList, fTuple, fIsi, fIsiC, tyOf, Ty.isi, ty_int, ty_bool, ty_str, ty_list, ty_tuple, ty_dict, isNon, eqOk_int, eqOk_non, eqOk_bl, eqD_int, eqD_bl, eqD_str, eqD_non, beq_self_eq_true, beq_iff_eq, Bool.and_self, atI_0, atI_1, atI_2, atI_3, atI_4, atI_5, atI_6, vw, vs, lendS, ownS, wipeE, ZL.frz, lendS, hasOb, env0, List.replicate_zero, List.replicate_succ, List.cons_append, Nat.reduceSub, List.map_cons, List.map_nil, List.getElem?_cons_zero, List.getElem?_cons_succ, List.getElem?_nil, List.set_cons_zero, List.set_cons_succ, List.length_cons, List.length_nil, List.length_set, Nat.reduceAdd, Nat.reduceLT, Nat.lt_add_one, Nat.zero_lt_succ, List.append_nil, List.nil_append, cln, clnS, clnL, clnX, List.all_cons, List.all_nil, Bool.and_true, Bool.true_and, and_true, true_and, if_true, if_false, Bool.false_eq_true, decide_eq_true_eq, Bool.true_or, Bool.or_true, Bool.false_or, Bool.or_false, decide_true, decide_false, Bool.and_false, Bool.false_and, reduceCtorEq, Int.reduceBEq, nc_0, nc_1, nc_2, nc_3, nc_4, nc_5, nc_6, Bool.not_true, Bool.not_false, reduceIte]
    exact ⟨_, rfl, q⟩
  · simp only [w__law_alike, N__law_alike, wSeq, wSet, wRet, wRetN, wIf, wDrop, wFor, wNext, wBreak, wCont, wAppend, wSetIx, wAug, wFrz, wAsg, gN, gT, gNil', gCons', mL, mS, mLT, mMv, mIV, mRng, mRngV, mItems, mOp, mB, mC, mVar, mCons, mNil, mTup, mLst, mCB, mCall, mAnd, mOr, mNot, mAndV, mOrV, mNotV, mIf, mNeg, mSl, mNo, mPart, mPk, mChain2, mChain3, mFld, mComp, mComp2, cN, cT, cNil, cCons, mEnum, mYes, mRev, mLenSet, mLenSetG, mLenSetH, wAugIx, mMeth, mMethS, mFst, mJR, mMv2, wUnp, mTru, truD, mMake, wFld, wNever, setN, setF, fldD, String.reduceEq, List.mem_cons, List.mem_singleton, true_or, or_true, or_false, false_or, List.not_mem_nil, oCount, oSplit, oZfill, oLjust, oMulS, cMod, cDiv, cMul, oAdd, oSub, oMul, oDiv, oMod, oPow, oB, oI, oEq, oEqT, oGeT, oIndex, oIs, oIn, oIx, oMulI, oAddI, oSl, oRng1, oRng2, okL, okT, okS, fLen, fAbs, fInt, fStr, fMin, fMax, fSum, fSorted, fSortedW, fMinW, fList, fTuple, fIsi, fIsiC, tyOf, Ty.isi, ty_int, ty_bool, ty_str, ty_list, ty_tuple, ty_dict, isNon, eqOk_int, eqOk_non, eqOk_bl, eqD_int, eqD_bl, eqD_str, eqD_non, beq_self_eq_true, beq_iff_eq, Bool.and_self, atI_0, atI_1, atI_2, atI_3, atI_4, atI_5, atI_6, vw, vs, lendS, ownS, wipeE, ZL.frz, lendS, hasOb, env0, List.replicate_zero, List.replicate_succ, List.cons_append, Nat.reduceSub, List.map_cons, List.map_nil, List.getElem?_cons_zero, List.getElem?_cons_succ, List.getElem?_nil, List.set_cons_zero, List.set_cons_succ, List.length_cons, List.length_nil, List.length_set, Nat.reduceAdd, Nat.reduceLT, Nat.lt_add_one, Nat.zero_lt_succ, List.append_nil, List.nil_append, cln, clnS, clnL, clnX, List.all_cons, List.all_nil, Bool.and_true, Bool.true_and, and_true, true_and, if_true, if_false, Bool.false_eq_true, decide_eq_true_eq, Bool.true_or, Bool.or_true, Bool.false_or, Bool.or_false, decide_true, decide_false, Bool.and_false, Bool.false_and, reduceCtorEq, Int.reduceBEq, nc_0, nc_1, nc_2, nc_3, nc_4, nc_5, nc_6, Bool.not_true, Bool.not_false, reduceIte]
    exact q
  · simp only [w__law_alike, N__law_alike, wSeq, wSet, wRet, wRetN, wIf, wDrop, wFor, wNext, wBreak, wCont, wAppend, wSetIx, wAug, wFrz, wAsg, gN, gT, gNil', gCons', mL, mS, mLT, mMv, mIV, mRng, mRngV, mItems, mOp, mB, mC, mVar, mCons, mNil, mTup, mLst, mCB, mCall, mAnd, mOr, mNot, mAndV, mOrV, mNotV, mIf, mNeg, mSl, mNo, mPart, mPk, mChain2, mChain3, mFld, mComp, mComp2, cN, cT, cNil, cCons, mEnum, mYes, mRev, mLenSet, mLenSetG, mLenSetH, wAugIx, mMeth, mMethS, mFst, mJR, mMv2, wUnp, mTru, truD, mMake, wFld, wNever, setN, setF, fldD, String.reduceEq, List.mem_cons, List.mem_singleton, true_or, or_true, or_false, false_or, List.not_mem_nil, oCount, oSplit, oZfill, oLjust, oMulS, cMod, cDiv, cMul, oAdd, oSub, oMul, oDiv, oMod, oPow, oB, oI, oEq, oEqT, oGeT, oIndex, oIs, oIn, oIx, oMulI, oAddI, oSl, oRng1, oRng2, okL, okT, okS, fLen, fAbs, fInt, fStr, fMin, fMax, fSum, fSorted, fSortedW, fMinW, fList, fTuple, fIsi, fIsiC, tyOf, Ty.isi, ty_int, ty_bool, ty_str, ty_list, ty_tuple, ty_dict, isNon, eqOk_int, eqOk_non, eqOk_bl, eqD_int, eqD_bl, eqD_str, eqD_non, beq_self_eq_true, beq_iff_eq, Bool.and_self, atI_0, atI_1, atI_2, atI_3, atI_4, atI_5, atI_6, vw, vs, lendS, ownS, wipeE, ZL.frz, lendS, hasOb, env0, List.replicate_zero, List.replicate_succ, List.cons_append, Nat.reduceSub, List.map_cons, List.map_nil, List.getElem?_cons_zero, List.getElem?_cons_succ, List.getElem?_nil, List.set_cons_zero, List.set_cons_succ, List.length_cons, List.length_nil, List.length_set, Nat.reduceAdd, Nat.reduceLT, Nat.lt_add_one, Nat.zero_lt_succ, List.append_nil, List.nil_append, cln, clnS, clnL, clnX, List.all_cons, List.all_nil, Bool.and_true, Bool.true_and, and_true, true_and, if_true, if_false, Bool.false_eq_true, decide_eq_true_eq, Bool.true_or, Bool.or_true, Bool.false_or, Bool.or_false, decide_true, decide_false, Bool.and_false, Bool.false_and, reduceCtorEq, Int.reduceBEq, nc_0, nc_1, nc_2, nc_3, nc_4, nc_5, nc_6, Bool.not_true, Bool.not_false, reduceIte, Int.toNat_natCast]
    refine ⟨⟨by omega, by omega⟩, ?_⟩
    refine for_range (fun _ env => ∃ y, env = [some (.sh, .tup xs), some (.sh, .tup xs), y]) ⟨none, rfl⟩ ?_ ?_
    · rintro i hi env K ⟨y, rfl⟩ hK
      have ai : atI xs (i : Int) = some xs[i] := atI_of (List.getElem?_eq_getElem hi)
      simp only [wSeq, wSet, wRet, wRetN, wIf, wDrop, wFor, wNext, wBreak, wCont, wAppend, wSetIx, wAug, wFrz, wAsg, gN, gT, gNil', gCons', mL, mS, mLT, mMv, mIV, mRng, mRngV, mItems, mOp, mB, mC, mVar, mCons, mNil, mTup, mLst, mCB, mCall, mAnd, mOr, mNot, mAndV, mOrV, mNotV, mIf, mNeg, mSl, mNo, mPart, mPk, mChain2, mChain3, mFld, mComp, mComp2, cN, cT, cNil, cCons, mEnum, mYes, mRev, mLenSet, mLenSetG, mLenSetH, wAugIx, mMeth, mMethS, mFst, mJR, mMv2, wUnp, mTru, truD, mMake, wFld, wNever, setN, setF, fldD, String.reduceEq, List.mem_cons, List.mem_singleton, true_or, or_true, or_false, false_or, List.not_mem_nil, oCount, oSplit, oZfill, oLjust, oMulS, cMod, cDiv, cMul, oAdd, oSub, oMul, oDiv, oMod, oPow, oB, oI, oEq, oEqT, oGeT, oIndex, oIs, oIn, oIx, oMulI, oAddI, oSl, oRng1, oRng2, okL, okT, okS, fLen, fAbs, fInt, fStr, fMin, fMax, fSum, fSorted, fSortedW, fMinW, fList, fTuple, fIsi, fIsiC, tyOf, Ty.isi, ty_int, ty_bool, ty_str, ty_list, ty_tuple, ty_dict, isNon, eqOk_int, eqOk_non, eqOk_bl, eqD_int, eqD_bl, eqD_str, eqD_non, beq_self_eq_true, beq_iff_eq, Bool.and_self, atI_0, atI_1, atI_2, atI_3, atI_4, atI_5, atI_6, vw, vs, lendS, ownS, wipeE, ZL.frz, lendS, hasOb, env0, List.replicate_zero, List.replicate_succ, List.cons_append, Nat.reduceSub, List.map_cons, List.map_nil, List.getElem?_cons_zero, List.getElem?_cons_succ, List.getElem?_nil, List.set_cons_zero, List.set_cons_succ, List.length_cons, List.length_nil, List.length_set, Nat.reduceAdd, Nat.reduceLT, Nat.lt_add_one, Nat.zero_lt_succ, List.append_nil, List.nil_append, cln, clnS, clnL, clnX, List.all_cons, List.all_nil, Bool.and_true, Bool.true_and, and_true, true_and, if_true, if_false, Bool.false_eq_true, decide_eq_true_eq, Bool.true_or, Bool.or_true, Bool.false_or, Bool.or_false, decide_true, decide_false, Bool.and_false, Bool.false_and, reduceCtorEq, Int.reduceBEq, nc_0, nc_1, nc_2, nc_3, nc_4, nc_5, nc_6, Bool.not_true, Bool.not_false, reduceIte, Int.zero_add, ai, sps__law_alike]
      exact ⟨_, rfl, hx _ (List.getElem_mem hi), hK _ ⟨_, rfl⟩⟩
    · rintro env ⟨y, rfl⟩
      exact q
theorem str_nat (n : Nat) : Str.ofString (toString ((n : Nat) : Int)) = tx (TL.numL n) := TL.ext_tl (TL.tl_num n)
theorem log_nat {n : Nat} (h : n < 10 ^ 60) : ((n : Int)).natAbs.log2 < 1920 := log_ok (by omega) (by omega)
theorem join_seps (S : Tx) (ls : List Tx) : Txt.join (tx S) (ls.map tx) = tx (TL.joinL S ls) := by
  refine TL.ext_tl ?_
  rw [TL.join_eq, TL.tl_join, tl_txs]
theorem join_okS (S : Tx) (ls : List Tx) (Q : Kd → D → Prop) (hl : ls.flatten.length + ls.length * S.length ≤ 16777216) (q : Q .sh (strT (TL.joinL S ls))) : oJoin (.str (tx S)) [.lst (ls.map strT)] Q := by
  refine ⟨ls.map tx, by rw [List.map_map]; rfl, ?_, ?_⟩
  · rw [sum_len, List.length_map, tx_len]
    exact hl
  · rw [join_seps]
    exact q
theorem numL_l6 {n : Nat} (h : n < 10 ^ 6) : (TL.numL n).length ≤ 6 := TL.numL_len (by decide) h
theorem flat_le6 : ∀ ns : List Nat, (∀ n ∈ ns, n < 10 ^ 6) → (ns.map TL.numL).flatten.length ≤ ns.length * 6
  | [], _ => Nat.le_refl _
  | n :: r, h => by
    have h1 := numL_l6 (h n (List.mem_cons_self ..))
    have h2 := flat_le6 r fun m hm => h m (List.mem_cons_of_mem _ hm)
    simp only [List.map_cons, List.flatten_cons, List.length_append, List.length_cons]
    omega
theorem u__law_join : ∀ ds Q E, sp__law_join ds Q E → w__law_join (env0 N__law_join ds) (ends0 Q E) := by
  intro ds Q E h
  obtain ⟨ns, rfl, hs, hl, q⟩ := h
  have hz : 3000 ≤ sizeLine := by decide
  simp only [w__law_join, N__law_join, nlD, natL, wSeq, wSet, wRet, wRetN, wIf, wDrop, wFor, wNext, wBreak, wCont, wAppend, wSetIx, wAug, wFrz, wAsg, gN, gT, gNil', gCons', mL, mS, mLT, mMv, mIV, mRng, mRngV, mItems, mOp, mB, mC, mVar, mCons, mNil, mTup, mLst, mCB, mCall, mAnd, mOr, mNot, mAndV, mOrV, mNotV, mIf, mNeg, mSl, mNo, mPart, mPk, mChain2, mChain3, mFld, mComp, mComp2, cN, cT, cNil, cCons, mEnum, mYes, mRev, mLenSet, mLenSetG, mLenSetH, wAugIx, mMeth, mMethS, mFst, mJR, mMv2, wUnp, mTru, truD, mMake, wFld, wNever, setN, setF, fldD, String.reduceEq, List.mem_cons, List.mem_singleton, true_or, or_true, or_false, false_or, List.not_mem_nil, oCount, oSplit, oZfill, oLjust, oMulS, cMod, cDiv, cMul, oAdd, oSub, oMul, oDiv, oMod, oPow, oB, oI, oEq, oEqT, oGeT, oIndex, oIs, oIn, oIx, oMulI, oAddI, oSl, oRng1, oRng2, okL, okT, okS, fLen, fAbs, fInt, fStr, fMin, fMax, fSum, fSorted, fSortedW, fMinW, fList, fTuple, fIsi, fIsiC, tyOf, Ty.isi, ty_int, ty_bool, ty_str, ty_list, ty_tuple, ty_dict, isNon, eqOk_int, eqOk_non, eqOk_bl, eqD_int, eqD_bl, eqD_str, eqD_non, beq_self_eq_true, beq_iff_eq, Bool.and_self, atI_0, atI_1, atI_2, atI_3, atI_4, atI_5, atI_6, vw, vs, lendS, ownS, wipeE, ZL.frz, lendS, hasOb, env0, List.replicate_zero, List.replicate_succ, List.cons_append, Nat.reduceSub, List.map_cons, List.map_nil, List.getElem?_cons_zero, List.getElem?_cons_succ, List.getElem?_nil, List.set_cons_zero, List.set_cons_succ, List.length_cons, List.length_nil, List.length_set, Nat.reduceAdd, Nat.reduceLT, Nat.lt_add_one, Nat.zero_lt_succ, List.append_nil, List.nil_append, cln, clnS, clnL, clnX, List.all_cons, List.all_nil, Bool.and_true, Bool.true_and, and_true, true_and, if_true, if_false, Bool.false_eq_true, decide_eq_true_eq, Bool.true_or, Bool.or_true, Bool.false_or, Bool.or_false, decide_true, decide_false, Bool.and_false, Bool.false_and, reduceCtorEq, Int.reduceBEq, nc_0, nc_1, nc_2, nc_3, nc_4, nc_5, nc_6, Bool.not_true, Bool.not_false, reduceIte, co_tx]
  refine comp_map ns (fun (n : Nat) => D.int (n : Int)) (fun n => strT (TL.numL n)) (fun n hn K hK => ?_) (by omega) ?_
  · have := hs n hn
    simp only [wSeq, wSet, wRet, wRetN, wIf, wDrop, wFor, wNext, wBreak, wCont, wAppend, wSetIx, wAug, wFrz, wAsg, gN, gT, gNil', gCons', mL, mS, mLT, mMv, mIV, mRng, mRngV, mItems, mOp, mB, mC, mVar, mCons, mNil, mTup, mLst, mCB, mCall, mAnd, mOr, mNot, mAndV, mOrV, mNotV, mIf, mNeg, mSl, mNo, mPart, mPk, mChain2, mChain3, mFld, mComp, mComp2, cN, cT, cNil, cCons, mEnum, mYes, mRev, mLenSet, mLenSetG, mLenSetH, wAugIx, mMeth, mMethS, mFst, mJR, mMv2, wUnp, mTru, truD, mMake, wFld, wNever, setN, setF, fldD, String.reduceEq, List.mem_cons, List.mem_singleton, true_or, or_true, or_false, false_or, List.not_mem_nil, oCount, oSplit, oZfill, oLjust, oMulS, cMod, cDiv, cMul, oAdd, oSub, oMul, oDiv, oMod, oPow, oB, oI, oEq, oEqT, oGeT, oIndex, oIs, oIn, oIx, oMulI, oAddI, oSl, oRng1, oRng2, okL, okT, okS, fLen, fAbs, fInt, fStr, fMin, fMax, fSum, fSorted, fSortedW, fMinW, fList, fTuple, fIsi, fIsiC, tyOf, Ty.isi, ty_int, ty_bool, ty_str, ty_list, ty_tuple, ty_dict, isNon, eqOk_int, eqOk_non, eqOk_bl, eqD_int, eqD_bl, eqD_str, eqD_non, beq_self_eq_true, beq_iff_eq, Bool.and_self, atI_0, atI_1, atI_2, atI_3, atI_4, atI_5, atI_6, vw, vs, lendS, ownS, wipeE, ZL.frz, lendS, hasOb, env0, List.replicate_zero, List.replicate_succ, List.cons_append, Nat.reduceSub, List.map_cons, List.map_nil, List.getElem?_cons_zero, List.getElem?_cons_succ, List.getElem?_nil, List.set_cons_zero, List.set_cons_succ, List.length_cons, List.length_nil, List.length_set, Nat.reduceAdd, Nat.reduceLT, Nat.lt_add_one, Nat.zero_lt_succ, List.append_nil, List.nil_append, cln, clnS, clnL, clnX, List.all_cons, List.all_nil, Bool.and_true, Bool.true_and, and_true, true_and, if_true, if_false, Bool.false_eq_true, decide_eq_true_eq, Bool.true_or, Bool.or_true, Bool.false_or, Bool.or_false, decide_true, decide_false, Bool.and_false, Bool.false_and, reduceCtorEq, Int.reduceBEq, nc_0, nc_1, nc_2, nc_3, nc_4, nc_5, nc_6, Bool.not_true, Bool.not_false, reduceIte, str_nat]
    exact ⟨log_nat (by omega), hK⟩
  have e : (ns.map fun n => strT (TL.numL n)) = (ns.map TL.numL).map strT := by rw [List.map_map]; rfl
  rw [e]
  have := flat_le6 ns hs
  refine join_okS [44] _ _ (by rw [List.length_map]; simp only [List.length_singleton]; omega) ⟨rfl, q⟩

end ZL.K30


namespace ZL.K30
open PySem PySem.Spec PyProof.Rows L2 ZL
def abc : Str := Str.ofString "abcdefghijklmnopqrstuvwxyz0123456789"
theorem abc_len : abc.cps.toList.length = 36 := by decide +kernel
theorem abc_all : ∀ c ∈ abc.cps.toList, nmC c = true := by decide +kernel
theorem abc_at {v : Int} (h0 : 0 ≤ v) (h : v < 36) : ∃ c, atI abc.cps.toList v = some c ∧ nmC c = true := by
  have hi : v.toNat < abc.cps.toList.length := by rw [abc_len]; omega
  exact ⟨_, atI_nat h0 (List.getElem?_eq_getElem hi), abc_all _ (List.getElem_mem hi)⟩
def abcC (v : Int) : Nat := abc.cps.toList.getD v.toNat 0
theorem abcC_at {v : Int} (h0 : 0 ≤ v) (h : v < 36) : atI abc.cps.toList v = some (abcC v) ∧ nmC (abcC v) = true := by
  have hi : v.toNat < abc.cps.toList.length := by rw [abc_len]; omega
  have e : abc.cps.toList[v.toNat]? = some (abcC v) := by
    unfold abcC
    rw [List.getD_eq_getElem?_getD, List.getElem?_eq_getElem hi]
    rfl
  exact ⟨atI_nat h0 e, abc_all _ (List.mem_of_getElem? e)⟩
theorem chars_of (l : List Nat) : ((l.map fun c => [c]).flatten) = l := by
  induction l with
  | nil => rfl
  | cons c l ih => rw [List.map_cons, List.flatten_cons, ih]; rfl
theorem join_chars (n : Nat) (f : Nat → Nat) (Q : Kd → D → Prop) (hn : n ≤ 1000) (q : Q .sh (.str (tx ((List.range n).map f)))) : oJoin (.str (Str.ofString "")) [.lst ((List.range n).map fun i => D.str (tx [f i]))] Q := by
  have e : ((List.range n).map fun i => D.str (tx [f i])) = (((List.range n).map f).map fun c => [c]).map fun l => D.str (tx l) := by rw [List.map_map, List.map_map]; rfl
  rw [e]
  refine join_ok _ _ (by rw [chars_of, List.length_map, List.length_range]; omega) ?_
  rw [chars_of]
  exact q
theorem cut_take (l : List Nat) (k : Nat) : cutS (tx l) none (some (k : Int)) = tx (l.take k) := by
  refine TL.ext_tl ?_
  show (l.drop (HT.sIx _ 0 none)).take (HT.sIx (tx l).length _ (some (k : Int)) - HT.sIx _ 0 none) = _
  rw [HT.sIx_nat, HT.sIx_none, tx_len, List.drop_zero, Nat.sub_zero]
  show l.take (min k l.length) = l.take k
  rw [List.take_eq_take_iff]
  omega
theorem cut_drop (l : List Nat) (k : Nat) : cutS (tx l) (some (k : Int)) none = tx (l.drop k) := by
  refine TL.ext_tl ?_
  show (l.drop (HT.sIx (tx l).length 0 (some (k : Int)))).take (HT.sIx _ (tx l).length none - HT.sIx (tx l).length 0 (some (k : Int))) = _
  rw [HT.sIx_nat, HT.sIx_none, tx_len]
  show (l.drop (min k l.length)).take (l.length - min k l.length) = l.drop k
  rw [List.take_of_length_le (by rw [List.length_drop]; omega)]
  by_cases h : k ≤ l.length
  · rw [Nat.min_eq_left h]
  · rw [List.drop_of_length_le (by omega), List.drop_of_length_le (by omega)]
def sizesN : List Int := List.replicate 12 36 ++ List.replicate 4 12 ++ List.replicate 4 36
theorem u__law_names : ∀ ds Q E, sp__law_names ds Q E → w__law_names (env0 N__law_names ds) (ends0 Q E) := by
  intro ds Q E h
  obtain ⟨c, rfl, q⟩ := h
  have hz : 3000 ≤ sizeLine := by decide
  simp only [w__law_names, w__law_names_s0, w__law_names_s1, N__law_names, wSeq, wSet, wRet, wRetN, wIf, wDrop, wFor, wNext, wBreak, wCont, wAppend, wSetIx, wAug, wFrz, wAsg, gN, gT, gNil', gCons', mL, mS, mLT, mMv, mIV, mRng, mRngV, mItems, mOp, mB, mC, mVar, mCons, mNil, mTup, mLst, mCB, mCall, mAnd, mOr, mNot, mAndV, mOrV, mNotV, mIf, mNeg, mSl, mNo, mPart, mPk, mChain2, mChain3, mFld, mComp, mComp2, cN, cT, cNil, cCons, mEnum, mYes, mRev, mLenSet, mLenSetG, mLenSetH, wAugIx, mMeth, mMethS, mFst, mJR, mMv2, wUnp, mTru, truD, mMake, wFld, wNever, setN, setF, fldD, String.reduceEq, List.mem_cons, List.mem_singleton, true_or, or_true, or_false, false_or, List.not_mem_nil, oCount, oSplit, oZfill, oLjust, oMulS, cMod, cDiv, cMul, oAdd, oSub, oMul, oDiv, oMod, oPow, oB, oI, oEq, oEqT, oGeT, oIndex, oIs, oIn, oIx, oMulI, oAddI, oSl, oRng1, oRng2, okL, okT, okS, fLen, fAbs, fInt, fStr, fMin, fMax, fSum, fSorted, fSortedW, fMinW, fList, fTuple, fIsi, fIsiC, tyOf, Ty.isi, ty_int, ty_bool, ty_str, ty_list, ty_tuple, ty_dict, isNon, eqOk_int, eqOk_non, eqOk_bl, eqD_int, eqD_bl, eqD_str, eqD_non, beq_self_eq_true, beq_iff_eq, Bool.and_self, atI_0, atI_1, atI_2, atI_3, atI_4, atI_5, atI_6, vw, vs, lendS, ownS, wipeE, ZL.frz, lendS, hasOb, env0, List.replicate_zero, List.replicate_succ, List.cons_append, Nat.reduceSub, List.map_cons, List.map_nil, List.getElem?_cons_zero, List.getElem?_cons_succ, List.getElem?_nil, List.set_cons_zero, List.set_cons_succ, List.length_cons, List.length_nil, List.length_set, Nat.reduceAdd, Nat.reduceLT, Nat.lt_add_one, Nat.zero_lt_succ, List.append_nil, List.nil_append, cln, clnS, clnL, clnX, List.all_cons, List.all_nil, Bool.and_true, Bool.true_and, and_true, true_and, if_true, if_false, Bool.false_eq_true, decide_eq_true_eq, Bool.true_or, Bool.or_true, Bool.false_or, Bool.or_false, decide_true, decide_false, Bool.and_false, Bool.false_and, reduceCtorEq, Int.reduceBEq, nc_0, nc_1, nc_2, nc_3, nc_4, nc_5, nc_6, Bool.not_true, Bool.not_false, reduceIte, sp__law_draws]
  refine ⟨by decide, ⟨by decide, by decide, by decide⟩, by decide, ⟨by decide, by decide, by decide⟩, by decide, by decide, ⟨by decide, by decide, by decide⟩, by decide, c, sizesN, rfl, by simp [sizesN], fun s hs => ?_, fun rs dr => ⟨all_ints _, ?_⟩⟩
  · simp [sizesN] at hs
    omega
  have g0 : ∀ k : Nat, k < 12 → ∃ v, atI (il rs) (k : Int) = some (.int v) ∧ 0 ≤ v ∧ v < 36 := fun k hk => by
    obtain ⟨v, e, b⟩ := dr.get (i := k) (s := 36) (by
      unfold sizesN
      rw [List.getElem?_append_left (by simp <;> omega), List.getElem?_append_left (by simp <;> omega), List.getElem?_replicate]
      simp <;> omega)
    exact ⟨v, at_il e, b⟩
  have g1 : ∀ k : Nat, k < 4 → ∃ v : Nat, atI (il rs) (12 + (k : Int)) = some (.int (v : Int)) ∧ v < 12 := fun k hk => by
    obtain ⟨v, e, b⟩ := dr.get (i := 12 + k) (s := 12) (by
      have : k = 0 ∨ k = 1 ∨ k = 2 ∨ k = 3 := by omega
      rcases this with rfl | rfl | rfl | rfl <;> rfl)
    obtain ⟨n, rfl⟩ := Int.eq_ofNat_of_zero_le b.1
    have := at_il e
    rw [show ((12 + k : Nat) : Int) = 12 + (k : Int) by omega] at this
    exact ⟨n, this, by omega⟩
  have g2 : ∀ k : Nat, k < 4 → ∃ v, atI (il rs) (16 + (k : Int)) = some (.int v) ∧ 0 ≤ v ∧ v < 36 := fun k hk => by
    obtain ⟨v, e, b⟩ := dr.get (i := 16 + k) (s := 36) (by
      have : k = 0 ∨ k = 1 ∨ k = 2 ∨ k = 3 := by omega
      rcases this with rfl | rfl | rfl | rfl <;> rfl)
    have := at_il e
    rw [show ((16 + k : Nat) : Int) = 16 + (k : Int) by omega] at this
    exact ⟨v, this, b⟩
  let f : Nat → Nat := fun k => abcC (rs.getD k 0)
  have hf : ∀ k : Nat, k < 12 → nmC (f k) = true := fun k hk => by
    obtain ⟨v, e, b⟩ := dr.get (i := k) (s := 36) (by
      unfold sizesN
      rw [List.getElem?_append_left (by simp <;> omega), List.getElem?_append_left (by simp <;> omega), List.getElem?_replicate]
      simp <;> omega)
    show nmC (abcC (rs.getD k 0)) = true
    rw [List.getD_eq_getElem?_getD, e]
    exact (abcC_at b.1 b.2).2
  have hsz : abc.length ≤ sizeLine := by decide +kernel
  simp only [w__law_names_s2, wSeq, wSet, wRet, wRetN, wIf, wDrop, wFor, wNext, wBreak, wCont, wAppend, wSetIx, wAug, wFrz, wAsg, gN, gT, gNil', gCons', mL, mS, mLT, mMv, mIV, mRng, mRngV, mItems, mOp, mB, mC, mVar, mCons, mNil, mTup, mLst, mCB, mCall, mAnd, mOr, mNot, mAndV, mOrV, mNotV, mIf, mNeg, mSl, mNo, mPart, mPk, mChain2, mChain3, mFld, mComp, mComp2, cN, cT, cNil, cCons, mEnum, mYes, mRev, mLenSet, mLenSetG, mLenSetH, wAugIx, mMeth, mMethS, mFst, mJR, mMv2, wUnp, mTru, truD, mMake, wFld, wNever, setN, setF, fldD, String.reduceEq, List.mem_cons, List.mem_singleton, true_or, or_true, or_false, false_or, List.not_mem_nil, oCount, oSplit, oZfill, oLjust, oMulS, cMod, cDiv, cMul, oAdd, oSub, oMul, oDiv, oMod, oPow, oB, oI, oEq, oEqT, oGeT, oIndex, oIs, oIn, oIx, oMulI, oAddI, oSl, oRng1, oRng2, okL, okT, okS, fLen, fAbs, fInt, fStr, fMin, fMax, fSum, fSorted, fSortedW, fMinW, fList, fTuple, fIsi, fIsiC, tyOf, Ty.isi, ty_int, ty_bool, ty_str, ty_list, ty_tuple, ty_dict, isNon, eqOk_int, eqOk_non, eqOk_bl, eqD_int, eqD_bl, eqD_str, eqD_non, beq_self_eq_true, beq_iff_eq, Bool.and_self, atI_0, atI_1, atI_2, atI_3, atI_4, atI_5, atI_6, vw, vs, lendS, ownS, wipeE, ZL.frz, lendS, hasOb, env0, List.replicate_zero, List.replicate_succ, List.cons_append, Nat.reduceSub, List.map_cons, List.map_nil, List.getElem?_cons_zero, List.getElem?_cons_succ, List.getElem?_nil, List.set_cons_zero, List.set_cons_succ, List.length_cons, List.length_nil, List.length_set, Nat.reduceAdd, Nat.reduceLT, Nat.lt_add_one, Nat.zero_lt_succ, List.append_nil, List.nil_append, cln, clnS, clnL, clnX, List.all_cons, List.all_nil, Bool.and_true, Bool.true_and, and_true, true_and, if_true, if_false, Bool.false_eq_true, decide_eq_true_eq, Bool.true_or, Bool.or_true, Bool.false_or, Bool.or_false, decide_true, decide_false, Bool.and_false, Bool.false_and, reduceCtorEq, Int.reduceBEq, nc_0, nc_1, nc_2, nc_3, nc_4, nc_5, nc_6, Bool.not_true, Bool.not_false, reduceIte]
  refine ⟨⟨by decide, by decide⟩, ?_⟩
  unfold rangeD
  refine comp_map (List.range 12) _ (fun i => D.str (tx [f i])) (fun i hi K hK => ?_) (by decide) ?_
  · have hi := List.mem_range.1 hi
    obtain ⟨v, e, b⟩ := dr.get (i := i) (s := 36) (by
      unfold sizesN
      rw [List.getElem?_append_left (by simp <;> omega), List.getElem?_append_left (by simp <;> omega), List.getElem?_replicate]
      simp <;> omega)
    have ev := at_il e
    have ea := (abcC_at b.1 b.2).1
    have efi : f i = abcC v := by show abcC (rs.getD i 0) = _; rw [List.getD_eq_getElem?_getD, e]; rfl
    simp only [wSeq, wSet, wRet, wRetN, wIf, wDrop, wFor, wNext, wBreak, wCont, wAppend, wSetIx, wAug, wFrz, wAsg, gN, gT, gNil', gCons', mL, mS, mLT, mMv, mIV, mRng, mRngV, mItems, mOp, mB, mC, mVar, mCons, mNil, mTup, mLst, mCB, mCall, mAnd, mOr, mNot, mAndV, mOrV, mNotV, mIf, mNeg, mSl, mNo, mPart, mPk, mChain2, mChain3, mFld, mComp, mComp2, cN, cT, cNil, cCons, mEnum, mYes, mRev, mLenSet, mLenSetG, mLenSetH, wAugIx, mMeth, mMethS, mFst, mJR, mMv2, wUnp, mTru, truD, mMake, wFld, wNever, setN, setF, fldD, String.reduceEq, List.mem_cons, List.mem_singleton, true_or, or_true, or_false, false_or, List.not_mem_nil, oCount, oSplit, oZfill, oLjust, oMulS, cMod, cDiv, cMul, oAdd, oSub, oMul, oDiv, oMod, oPow, oB, oI, oEq, oEqT, oGeT, oIndex, oIs, oIn, oIx, oMulI, oAddI, oSl, oRng1, oRng2, okL, okT, okS, fLen, fAbs, fInt, fStr, fMin, fMax, fSum, fSorted, fSortedW, fMinW, fList, fTuple, fIsi, fIsiC, tyOf, Ty.isi, ty_int, ty_bool, ty_str, ty_list, ty_tuple, ty_dict, isNon, eqOk_int, eqOk_non, eqOk_bl, eqD_int, eqD_bl, eqD_str, eqD_non, beq_self_eq_true, beq_iff_eq, Bool.and_self, atI_0, atI_1, atI_2, atI_3, atI_4, atI_5, atI_6, vw, vs, lendS, ownS, wipeE, ZL.frz, lendS, hasOb, env0, List.replicate_zero, List.replicate_succ, List.cons_append, Nat.reduceSub, List.map_cons, List.map_nil, List.getElem?_cons_zero, List.getElem?_cons_succ, List.getElem?_nil, List.set_cons_zero, List.set_cons_succ, List.length_cons, List.length_nil, List.length_set, Nat.reduceAdd, Nat.reduceLT, Nat.lt_add_one, Nat.zero_lt_succ, List.append_nil, List.nil_append, cln, clnS, clnL, clnX, List.all_cons, List.all_nil, Bool.and_true, Bool.true_and, and_true, true_and, if_true, if_false, Bool.false_eq_true, decide_eq_true_eq, Bool.true_or, Bool.or_true, Bool.false_or, Bool.or_false, decide_true, decide_false, Bool.and_false, Bool.false_and, reduceCtorEq, Int.reduceBEq, nc_0, nc_1, nc_2, nc_3, nc_4, nc_5, nc_6, Bool.not_true, Bool.not_false, reduceIte, Int.zero_add, ev]
    show match atI abc.cps.toList v with
      | some c => abc.length ≤ sizeLine ∧ K (.str ⟨#[c]⟩)
      | none => False
    rw [ea]
    rw [efi] at hK
    exact ⟨hsz, hK⟩
  refine join_chars 12 f _ (by decide) ⟨rfl, ?_⟩
  have hst : ∀ x ∈ (List.range 12).map f, nmC x = true := fun x hx => by
    obtain ⟨k, hk, rfl⟩ := List.mem_map.1 hx
    exact hf k (List.mem_range.1 hk)
  have hsl : ((List.range 12).map f).length = 12 := by simp
  generalize (List.range 12).map f = stem at *
  simp only [w__law_names_s3, w__law_names_s4, wSeq, wSet, wRet, wRetN, wIf, wDrop, wFor, wNext, wBreak, wCont, wAppend, wSetIx, wAug, wFrz, wAsg, gN, gT, gNil', gCons', mL, mS, mLT, mMv, mIV, mRng, mRngV, mItems, mOp, mB, mC, mVar, mCons, mNil, mTup, mLst, mCB, mCall, mAnd, mOr, mNot, mAndV, mOrV, mNotV, mIf, mNeg, mSl, mNo, mPart, mPk, mChain2, mChain3, mFld, mComp, mComp2, cN, cT, cNil, cCons, mEnum, mYes, mRev, mLenSet, mLenSetG, mLenSetH, wAugIx, mMeth, mMethS, mFst, mJR, mMv2, wUnp, mTru, truD, mMake, wFld, wNever, setN, setF, fldD, String.reduceEq, List.mem_cons, List.mem_singleton, true_or, or_true, or_false, false_or, List.not_mem_nil, oCount, oSplit, oZfill, oLjust, oMulS, cMod, cDiv, cMul, oAdd, oSub, oMul, oDiv, oMod, oPow, oB, oI, oEq, oEqT, oGeT, oIndex, oIs, oIn, oIx, oMulI, oAddI, oSl, oRng1, oRng2, okL, okT, okS, fLen, fAbs, fInt, fStr, fMin, fMax, fSum, fSorted, fSortedW, fMinW, fList, fTuple, fIsi, fIsiC, tyOf, Ty.isi, ty_int, ty_bool, ty_str, ty_list, ty_tuple, ty_dict, isNon, eqOk_int, eqOk_non, eqOk_bl, eqD_int, eqD_bl, eqD_str, eqD_non, beq_self_eq_true, beq_iff_eq, Bool.and_self, atI_0, atI_1, atI_2, atI_3, atI_4, atI_5, atI_6, vw, vs, lendS, ownS, wipeE, ZL.frz, lendS, hasOb, env0, List.replicate_zero, List.replicate_succ, List.cons_append, Nat.reduceSub, List.map_cons, List.map_nil, List.getElem?_cons_zero, List.getElem?_cons_succ, List.getElem?_nil, List.set_cons_zero, List.set_cons_succ, List.length_cons, List.length_nil, List.length_set, Nat.reduceAdd, Nat.reduceLT, Nat.lt_add_one, Nat.zero_lt_succ, List.append_nil, List.nil_append, cln, clnS, clnL, clnX, List.all_cons, List.all_nil, Bool.and_true, Bool.true_and, and_true, true_and, if_true, if_false, Bool.false_eq_true, decide_eq_true_eq, Bool.true_or, Bool.or_true, Bool.false_or, Bool.or_false, decide_true, decide_false, Bool.and_false, Bool.false_and, reduceCtorEq, Int.reduceBEq, nc_0, nc_1, nc_2, nc_3, nc_4, nc_5, nc_6, Bool.not_true, Bool.not_false, reduceIte]
  refine ⟨by decide, ⟨by decide, by decide⟩, ?_⟩
  refine for_range (fun i env => ∃ (ns : List Tx) (x y : Option (Kd × D)), env = [some (.sh, .int c), some (.ls .sh, .lst (il rs)), some (.sh, .str abc), some (.sh, .str (tx stem)), some (.ls .sh, .lst (ns.map strT)), x, y] ∧ ns.length = i ∧ ∀ n ∈ ns, nameB n = true) ⟨[], none, none, rfl, rfl, fun n h => by cases h⟩ ?_ ?_
  · rintro i hi env K ⟨ns, x, y, rfl, hlen, hok⟩ hK
    have hi : i < 4 := hi
    obtain ⟨v, ev, hv⟩ := g1 i hi
    obtain ⟨w, ew, hw⟩ := g2 i hi
    have ea := abcC_at hw.1 hw.2
    simp only [wSeq, wSet, wRet, wRetN, wIf, wDrop, wFor, wNext, wBreak, wCont, wAppend, wSetIx, wAug, wFrz, wAsg, gN, gT, gNil', gCons', mL, mS, mLT, mMv, mIV, mRng, mRngV, mItems, mOp, mB, mC, mVar, mCons, mNil, mTup, mLst, mCB, mCall, mAnd, mOr, mNot, mAndV, mOrV, mNotV, mIf, mNeg, mSl, mNo, mPart, mPk, mChain2, mChain3, mFld, mComp, mComp2, cN, cT, cNil, cCons, mEnum, mYes, mRev, mLenSet, mLenSetG, mLenSetH, wAugIx, mMeth, mMethS, mFst, mJR, mMv2, wUnp, mTru, truD, mMake, wFld, wNever, setN, setF, fldD, String.reduceEq, List.mem_cons, List.mem_singleton, true_or, or_true, or_false, false_or, List.not_mem_nil, oCount, oSplit, oZfill, oLjust, oMulS, cMod, cDiv, cMul, oAdd, oSub, oMul, oDiv, oMod, oPow, oB, oI, oEq, oEqT, oGeT, oIndex, oIs, oIn, oIx, oMulI, oAddI, oSl, oRng1, oRng2, okL, okT, okS, fLen, fAbs, fInt, fStr, fMin, fMax, fSum, fSorted, fSortedW, fMinW, fList, fTuple, fIsi, fIsiC, tyOf, Ty.isi, ty_int, ty_bool, ty_str, ty_list, ty_tuple, ty_dict, isNon, eqOk_int, eqOk_non, eqOk_bl, eqD_int, eqD_bl, eqD_str, eqD_non, beq_self_eq_true, beq_iff_eq, Bool.and_self, atI_0, atI_1, atI_2, atI_3, atI_4, atI_5, atI_6, vw, vs, lendS, ownS, wipeE, ZL.frz, lendS, hasOb, env0, List.replicate_zero, List.replicate_succ, List.cons_append, Nat.reduceSub, List.map_cons, List.map_nil, List.getElem?_cons_zero, List.getElem?_cons_succ, List.getElem?_nil, List.set_cons_zero, List.set_cons_succ, List.length_cons, List.length_nil, List.length_set, Nat.reduceAdd, Nat.reduceLT, Nat.lt_add_one, Nat.zero_lt_succ, List.append_nil, List.nil_append, cln, clnS, clnL, clnX, List.all_cons, List.all_nil, Bool.and_true, Bool.true_and, and_true, true_and, if_true, if_false, Bool.false_eq_true, decide_eq_true_eq, Bool.true_or, Bool.or_true, Bool.false_or, Bool.or_false, decide_true, decide_false, Bool.and_false, Bool.false_and, reduceCtorEq, Int.reduceBEq, nc_0, nc_1, nc_2, nc_3, nc_4, nc_5, nc_6, Bool.not_true, Bool.not_false, reduceIte, Int.zero_add, ev, ew, cut_take, tx_len, ea.1, hsl, List.length_map]
    have l1 : ∀ c : Nat, (⟨#[c]⟩ : Str) = tx [c] := fun c => rfl
    simp only [l1, tx_app, tx_len, List.length_take, List.length_singleton]
    refine ⟨by omega, hsz, by omega, by omega, hK _ ⟨ns ++ [stem.take v ++ [abcC w]], _, _, by rw [List.map_append]; rfl, by rw [List.length_append, hlen]; rfl, fun n hn => ?_⟩⟩
    rcases List.mem_append.1 hn with hn | hn
    · exact hok n hn
    · rw [List.mem_singleton.1 hn]
      unfold nameB
      rw [Bool.and_eq_true, decide_eq_true_eq, List.all_eq_true]
      refine ⟨?_, fun z hz => ?_⟩
      · simp only [List.length_append, List.length_take, List.length_singleton, hsl]
        omega
      · rcases List.mem_append.1 hz with hz | hz
        · exact hst z (List.mem_of_mem_take hz)
        · rw [List.mem_singleton.1 hz]; exact ea.2
  · rintro env ⟨ns, x, y, rfl, hlen, hok⟩
    simp only [w__law_names_s5, wSeq, wSet, wRet, wRetN, wIf, wDrop, wFor, wNext, wBreak, wCont, wAppend, wSetIx, wAug, wFrz, wAsg, gN, gT, gNil', gCons', mL, mS, mLT, mMv, mIV, mRng, mRngV, mItems, mOp, mB, mC, mVar, mCons, mNil, mTup, mLst, mCB, mCall, mAnd, mOr, mNot, mAndV, mOrV, mNotV, mIf, mNeg, mSl, mNo, mPart, mPk, mChain2, mChain3, mFld, mComp, mComp2, cN, cT, cNil, cCons, mEnum, mYes, mRev, mLenSet, mLenSetG, mLenSetH, wAugIx, mMeth, mMethS, mFst, mJR, mMv2, wUnp, mTru, truD, mMake, wFld, wNever, setN, setF, fldD, String.reduceEq, List.mem_cons, List.mem_singleton, true_or, or_true, or_false, false_or, List.not_mem_nil, oCount, oSplit, oZfill, oLjust, oMulS, cMod, cDiv, cMul, oAdd, oSub, oMul, oDiv, oMod, oPow, oB, oI, oEq, oEqT, oGeT, oIndex, oIs, oIn, oIx, oMulI, oAddI, oSl, oRng1, oRng2, okL, okT, okS, fLen, fAbs, fInt, fStr, fMin, fMax, fSum, fSorted, fSortedW, fMinW, fList, fTuple, fIsi, fIsiC, tyOf, Ty.isi, ty_int, ty_bool, ty_str, ty_list, ty_tuple, ty_dict, isNon, eqOk_int, eqOk_non, eqOk_bl, eqD_int, eqD_bl, eqD_str, eqD_non, beq_self_eq_true, beq_iff_eq, Bool.and_self, atI_0, atI_1, atI_2, atI_3, atI_4, atI_5, atI_6, vw, vs, lendS, ownS, wipeE, ZL.frz, lendS, hasOb, env0, List.replicate_zero, List.replicate_succ, List.cons_append, Nat.reduceSub, List.map_cons, List.map_nil, List.getElem?_cons_zero, List.getElem?_cons_succ, List.getElem?_nil, List.set_cons_zero, List.set_cons_succ, List.length_cons, List.length_nil, List.length_set, Nat.reduceAdd, Nat.reduceLT, Nat.lt_add_one, Nat.zero_lt_succ, List.append_nil, List.nil_append, cln, clnS, clnL, clnX, List.all_cons, List.all_nil, Bool.and_true, Bool.true_and, and_true, true_and, if_true, if_false, Bool.false_eq_true, decide_eq_true_eq, Bool.true_or, Bool.or_true, Bool.false_or, Bool.or_false, decide_true, decide_false, Bool.and_false, Bool.false_and, reduceCtorEq, Int.reduceBEq, nc_0, nc_1, nc_2, nc_3, nc_4, nc_5, nc_6, Bool.not_true, Bool.not_false, reduceIte]
    exact q ns ⟨hlen, hok⟩

end ZL.K30


namespace ZL.K30
open PySem PySem.Spec PyProof.Rows L2 ZL
theorem recO_dec {s : Str} (h : (recO s.cps.toList).isNone = true) : recO s.cps.toList = none := Option.isNone_iff_eq_none.1 h
def Odd (d : D) : Prop := ∃ s : Str, d = .str s ∧ OkT s.cps.toList ∧ recO s.cps.toList = none
def odds1 : List Str := [Str.ofString "", Str.ofString ";", Str.ofString "picture", Str.ofString "picture ;", Str.ofString "picture /;", Str.ofString "picture 1,1 /", Str.ofString "picture 1,1 / ;", Str.ofString "erase", Str.ofString "erase ;", Str.ofString "x"]
def odds2 : List Str := [Str.ofString "erase A;", Str.ofString "erase a", Str.ofString "deal;", Str.ofString "put a= /", Str.ofString "put a=1,1 /;", Str.ofString "cap 0 /;"]
def oddB (s : Str) : Bool := decide (s.cps.toList.length ≤ 600) && (s.cps.toList.all fun c => decide (c < 1000)) && (recO s.cps.toList).isNone
theorem odds1_ok : odds1.all oddB = true := by decide +kernel
theorem odds2_ok : odds2.all oddB = true := by decide +kernel
theorem odd_of {ss : List Str} (h : ss.all oddB = true) : ∀ d ∈ ss.map D.str, Odd d := fun d hd => by
  obtain ⟨s, hs, rfl⟩ := List.mem_map.1 hd
  have := List.all_eq_true.1 h s hs
  unfold oddB at this
  rw [Bool.and_eq_true, Bool.and_eq_true, decide_eq_true_eq, List.all_eq_true] at this
  exact ⟨s, rfl, ⟨this.1.1, fun c hc => of_decide_eq_true (this.1.2 c hc)⟩, recO_dec this.2⟩
theorem u__law_other : ∀ ds Q E, sp__law_other ds Q E → w__law_other (env0 N__law_other ds) (ends0 Q E) := by
  intro ds Q E h
  obtain ⟨n, rfl, q⟩ := h
  simp only [w__law_other, w__law_other_s0, N__law_other, wSeq, wSet, wRet, wRetN, wIf, wDrop, wFor, wNext, wBreak, wCont, wAppend, wSetIx, wAug, wFrz, wAsg, gN, gT, gNil', gCons', mL, mS, mLT, mMv, mIV, mRng, mRngV, mItems, mOp, mB, mC, mVar, mCons, mNil, mTup, mLst, mCB, mCall, mAnd, mOr, mNot, mAndV, mOrV, mNotV, mIf, mNeg, mSl, mNo, mPart, mPk, mChain2, mChain3, mFld, mComp, mComp2, cN, cT, cNil, cCons, mEnum, mYes, mRev, mLenSet, mLenSetG, mLenSetH, wAugIx, mMeth, mMethS, mFst, mJR, mMv2, wUnp, mTru, truD, mMake, wFld, wNever, setN, setF, fldD, String.reduceEq, List.mem_cons, List.mem_singleton, true_or, or_true, or_false, false_or, List.not_mem_nil, oCount, oSplit, oZfill, oLjust, oMulS, cMod, cDiv, cMul, oAdd, oSub, oMul, oDiv, oMod, oPow, oB, oI, oEq, oEqT, oGeT, oIndex, oIs, oIn, oIx, oMulI, oAddI, oSl, oRng1, oRng2, okL, okT, okS, fLen, fAbs, fInt, fStr, fMin, fMax, fSum, fSorted, fSortedW, fMinW, fList, fTuple, fIsi, fIsiC, tyOf, Ty.isi, ty_int, ty_bool, ty_str, ty_list, ty_tuple, ty_dict, isNon, eqOk_int, eqOk_non, eqOk_bl, eqD_int, eqD_bl, eqD_str, eqD_non, beq_self_eq_true, beq_iff_eq, Bool.and_self, atI_0, atI_1, atI_2, atI_3, atI_4, atI_5, atI_6, vw, vs, lendS, ownS, wipeE, ZL.frz, lendS, hasOb, env0, List.replicate_zero, List.replicate_succ, List.cons_append, Nat.reduceSub, List.map_cons, List.map_nil, List.getElem?_cons_zero, List.getElem?_cons_succ, List.getElem?_nil, List.set_cons_zero, List.set_cons_succ, List.length_cons, List.length_nil, List.length_set, Nat.reduceAdd, Nat.reduceLT, Nat.lt_add_one, Nat.zero_lt_succ, List.append_nil, List.nil_append, cln, clnS, clnL, clnX, List.all_cons, List.all_nil, Bool.and_true, Bool.true_and, and_true, true_and, if_true, if_false, Bool.false_eq_true, decide_eq_true_eq, Bool.true_or, Bool.or_true, Bool.false_or, Bool.or_false, decide_true, decide_false, Bool.and_false, Bool.false_and, reduceCtorEq, Int.reduceBEq, nc_0, nc_1, nc_2, nc_3, nc_4, nc_5, nc_6, Bool.not_true, Bool.not_false, reduceIte]
  have hm := mxm n 16 (by decide)
  have o1 := odd_of odds1_ok
  have o2 := odd_of odds2_ok
  have l1 : (odds1.map D.str).length = 10 := rfl
  have l2 : (odds2.map D.str).length = 6 := rfl
  refine ⟨by decide, ?_⟩
  show w__law_other_s1 [some (Kd.sh, D.int n), some (Kd.sh.ls, D.lst (odds1.map D.str))] _
  have k2 : ∀ (Z : ZEnds), Z.nx [some (Kd.sh, D.int n), some (Kd.sh.ls, D.lst (odds1.map D.str ++ odds2.map D.str))] → w__law_other_s1 [some (Kd.sh, D.int n), some (Kd.sh.ls, D.lst (odds1.map D.str))] Z := fun Z hZ => by
    simp only [w__law_other_s1, wSeq, wSet, wRet, wRetN, wIf, wDrop, wFor, wNext, wBreak, wCont, wAppend, wSetIx, wAug, wFrz, wAsg, gN, gT, gNil', gCons', mL, mS, mLT, mMv, mIV, mRng, mRngV, mItems, mOp, mB, mC, mVar, mCons, mNil, mTup, mLst, mCB, mCall, mAnd, mOr, mNot, mAndV, mOrV, mNotV, mIf, mNeg, mSl, mNo, mPart, mPk, mChain2, mChain3, mFld, mComp, mComp2, cN, cT, cNil, cCons, mEnum, mYes, mRev, mLenSet, mLenSetG, mLenSetH, wAugIx, mMeth, mMethS, mFst, mJR, mMv2, wUnp, mTru, truD, mMake, wFld, wNever, setN, setF, fldD, String.reduceEq, List.mem_cons, List.mem_singleton, true_or, or_true, or_false, false_or, List.not_mem_nil, oCount, oSplit, oZfill, oLjust, oMulS, cMod, cDiv, cMul, oAdd, oSub, oMul, oDiv, oMod, oPow, oB, oI, oEq, oEqT, oGeT, oIndex, oIs, oIn, oIx, oMulI, oAddI, oSl, oRng1, oRng2, okL, okT, okS, fLen, fAbs, fInt, fStr, fMin, fMax, fSum, fSorted, fSortedW, fMinW, fList, fTuple, fIsi, fIsiC, tyOf, Ty.isi, ty_int, ty_bool, ty_str, ty_list, ty_tuple, ty_dict, isNon, eqOk_int, eqOk_non, eqOk_bl, eqD_int, eqD_bl, eqD_str, eqD_non, beq_self_eq_true, beq_iff_eq, Bool.and_self, atI_0, atI_1, atI_2, atI_3, atI_4, atI_5, atI_6, vw, vs, lendS, ownS, wipeE, ZL.frz, lendS, hasOb, env0, List.replicate_zero, List.replicate_succ, List.cons_append, Nat.reduceSub, List.map_cons, List.map_nil, List.getElem?_cons_zero, List.getElem?_cons_succ, List.getElem?_nil, List.set_cons_zero, List.set_cons_succ, List.length_cons, List.length_nil, List.length_set, Nat.reduceAdd, Nat.reduceLT, Nat.lt_add_one, Nat.zero_lt_succ, List.append_nil, List.nil_append, cln, clnS, clnL, clnX, List.all_cons, List.all_nil, Bool.and_true, Bool.true_and, and_true, true_and, if_true, if_false, Bool.false_eq_true, decide_eq_true_eq, Bool.true_or, Bool.or_true, Bool.false_or, Bool.or_false, decide_true, decide_false, Bool.and_false, Bool.false_and, reduceCtorEq, Int.reduceBEq, nc_0, nc_1, nc_2, nc_3, nc_4, nc_5, nc_6, Bool.not_true, Bool.not_false, reduceIte]
    exact ⟨by decide, by decide, by decide, hZ⟩
  refine k2 _ ?_
  have o3 : ∀ d ∈ odds1.map D.str ++ odds2.map D.str, Odd d := fun d hd => by
    rcases List.mem_append.1 hd with hd | hd
    · exact o1 d hd
    · exact o2 d hd
  have l3 : (odds1.map D.str ++ odds2.map D.str).length = 16 := by rw [List.length_append, l1, l2]
  generalize odds1.map D.str ++ odds2.map D.str = L at *
  have hi : (n % 16).toNat < L.length := by omega
  have ha : atI L (n % 16) = some L[(n % 16).toNat] := atI_nat hm.1 (List.getElem?_eq_getElem hi)
  simp only [w__law_other_s2, wSeq, wSet, wRet, wRetN, wIf, wDrop, wFor, wNext, wBreak, wCont, wAppend, wSetIx, wAug, wFrz, wAsg, gN, gT, gNil', gCons', mL, mS, mLT, mMv, mIV, mRng, mRngV, mItems, mOp, mB, mC, mVar, mCons, mNil, mTup, mLst, mCB, mCall, mAnd, mOr, mNot, mAndV, mOrV, mNotV, mIf, mNeg, mSl, mNo, mPart, mPk, mChain2, mChain3, mFld, mComp, mComp2, cN, cT, cNil, cCons, mEnum, mYes, mRev, mLenSet, mLenSetG, mLenSetH, wAugIx, mMeth, mMethS, mFst, mJR, mMv2, wUnp, mTru, truD, mMake, wFld, wNever, setN, setF, fldD, String.reduceEq, List.mem_cons, List.mem_singleton, true_or, or_true, or_false, false_or, List.not_mem_nil, oCount, oSplit, oZfill, oLjust, oMulS, cMod, cDiv, cMul, oAdd, oSub, oMul, oDiv, oMod, oPow, oB, oI, oEq, oEqT, oGeT, oIndex, oIs, oIn, oIx, oMulI, oAddI, oSl, oRng1, oRng2, okL, okT, okS, fLen, fAbs, fInt, fStr, fMin, fMax, fSum, fSorted, fSortedW, fMinW, fList, fTuple, fIsi, fIsiC, tyOf, Ty.isi, ty_int, ty_bool, ty_str, ty_list, ty_tuple, ty_dict, isNon, eqOk_int, eqOk_non, eqOk_bl, eqD_int, eqD_bl, eqD_str, eqD_non, beq_self_eq_true, beq_iff_eq, Bool.and_self, atI_0, atI_1, atI_2, atI_3, atI_4, atI_5, atI_6, vw, vs, lendS, ownS, wipeE, ZL.frz, lendS, hasOb, env0, List.replicate_zero, List.replicate_succ, List.cons_append, Nat.reduceSub, List.map_cons, List.map_nil, List.getElem?_cons_zero, List.getElem?_cons_succ, List.getElem?_nil, List.set_cons_zero, List.set_cons_succ, List.length_cons, List.length_nil, List.length_set, Nat.reduceAdd, Nat.reduceLT, Nat.lt_add_one, Nat.zero_lt_succ, List.append_nil, List.nil_append, cln, clnS, clnL, clnX, List.all_cons, List.all_nil, Bool.and_true, Bool.true_and, and_true, true_and, if_true, if_false, Bool.false_eq_true, decide_eq_true_eq, Bool.true_or, Bool.or_true, Bool.false_or, Bool.or_false, decide_true, decide_false, Bool.and_false, Bool.false_and, reduceCtorEq, Int.reduceBEq, nc_0, nc_1, nc_2, nc_3, nc_4, nc_5, nc_6, Bool.not_true, Bool.not_false, reduceIte, ha]
  obtain ⟨s, e, h1, h2⟩ := o3 _ (List.getElem_mem hi)
  rw [e]
  have := q _ h1 h2
  unfold strT at this
  rw [show tx s.cps.toList = s from TL.mk_tl s] at this
  exact ⟨by decide, rfl, this⟩

end ZL.K30


namespace ZL.K30
open PySem PySem.Spec PyProof.Rows L2 ZL
theorem spc_tx : Str.ofString "erase " = tx (eraW ++ [32]) := by decide
theorem joinN_len {ns : List Nat} (h : SmallN ns) : (joinN ns).length ≤ 40 := by
  have h1 := flat_le6 ns h.1
  have h2 := h.2
  have : ∀ ls : List Tx, (TL.joinL [44] ls).length ≤ ls.flatten.length + ls.length := by
    intro ls
    cases ls with
    | nil => exact Nat.le_refl _
    | cons p ps =>
      rw [joinL_cons]
      have : ∀ qs : List Tx, ((qs.map (44 :: ·)).flatten).length = qs.flatten.length + qs.length := by
        intro qs
        induction qs with
        | nil => rfl
        | cons q qs ih =>
          simp only [List.map_cons, List.flatten_cons, List.length_append, List.length_cons, ih]
          omega
      simp only [List.length_append, this, List.flatten_cons, List.length_cons]
      omega
  have h3 := this (ns.map TL.numL)
  rw [List.length_map] at h3
  unfold joinN
  omega
theorem name_len {n : Tx} (h : nameB n = true) : n.length ≤ 12 := by
  unfold nameB at h
  rw [Bool.and_eq_true, decide_eq_true_eq] at h
  exact h.1.2
theorem namW_len {p : Tx × List Nat} (h : nameB p.1 = true) (s : SmallN p.2) : (namW p).length ≤ 60 := by
  have h1 := name_len h
  have h2 := joinN_len s
  unfold namW
  rw [List.length_append, List.length_cons]
  omega
theorem entW_len {e : Ent} (h : e.1 < 10 ^ 6 ∧ e.2.1 < 10 ^ 6 ∧ e.2.2 < 10 ^ 6) : (entW e).length ≤ 20 := by
  have h1 := numL_l6 h.1
  have h2 := numL_l6 h.2.1
  have h3 := numL_l6 h.2.2
  unfold entW
  simp only [List.length_append, List.length_cons]
  omega
theorem headW_len {h : Head} (ok : HeadOk h) (s : HeadS h) : (headW h).flatten.length ≤ 200 ∧ (headW h).length ≤ 4 := by
  cases h with
  | deal => decide
  | put n ns =>
    have := namW_len (p := (n, ns)) ok.1 s
    have hp : putW.length = 3 := rfl
    simp only [headW, List.flatten_cons, List.flatten_nil, List.length_append, List.length_cons, List.length_nil, hp]
    omega
  | cap a b =>
    have h1 := numL_l6 s.1
    have h2 := numL_l6 s.2
    have hp : capW.length = 3 := rfl
    simp only [headW, List.flatten_cons, List.flatten_nil, List.length_append, List.length_cons, List.length_nil, hp]
    omega
  | pic cs ns =>
    have h1 := joinN_len s.1
    have h2 := flat_len (fun (p : Tx) => p) 60 (ns.map namW) fun p hp => by
      obtain ⟨q, hq, rfl⟩ := List.mem_map.1 hp
      exact namW_len (ok.2.1 q hq).1 (s.2.1 q hq)
    rw [List.flatMap_id', List.length_map] at h2
    have h3 := s.2.2
    have hp : picW.length = 7 := rfl
    simp only [headW, List.flatten_cons, List.length_append, List.length_cons, List.length_map, hp]
    omega
theorem words_len {h : Head} {es : List Ent} (g : Good (.hd h es)) : (headW h ++ [47] :: es.map entW).flatten.length ≤ 300 ∧ (headW h ++ [47] :: es.map entW).length ≤ 8 := by
  have h1 := headW_len g.ok.1 g.sm.1
  have h2 := flat_len (fun (p : Tx) => p) 20 (es.map entW) fun p hp => by
    obtain ⟨q, hq, rfl⟩ := List.mem_map.1 hp
    exact entW_len (g.sm.2.1 q hq)
  rw [List.flatMap_id', List.length_map] at h2
  have h3 := g.sm.2.2
  simp only [List.flatten_append, List.flatten_cons, List.length_append, List.length_cons, List.length_nil, List.length_map]
  omega
theorem joinS_len (ls : List Tx) : (TL.joinL [32] ls).length ≤ ls.flatten.length + ls.length := by
  cases ls with
  | nil => exact Nat.le_refl _
  | cons p ps =>
    rw [joinL_cons]
    have : ∀ qs : List Tx, ((qs.map (32 :: ·)).flatten).length = qs.flatten.length + qs.length := by
      intro qs
      induction qs with
      | nil => rfl
      | cons q qs ih =>
        simp only [List.map_cons, List.flatten_cons, List.length_append, List.length_cons, ih]
        omega
    simp only [List.length_append, this, List.flatten_cons, List.length_cons]
    omega
theorem recP_len {r : Rec} (g : Good r) : (recP r).length ≤ 400 := by
  cases r with
  | era n =>
    have := name_len (show nameB n = true from g.ok)
    have hp : eraW.length = 5 := rfl
    simp only [recP, List.length_append, List.length_cons, List.length_nil, hp]
    omega
  | hd h es =>
    have h1 := words_len g
    have h2 := joinS_len (headW h ++ [47] :: es.map entW)
    rw [recP, List.length_append]
    simp only [List.length_cons, List.length_nil]
    omega
theorem fin_text {h : Head} {es : List Ent} (g : Good (.hd h es)) (d : D) (x y : Option (Kd × D)) (Q : Kd → D → Prop) (E : Exn → Prop) (q : Q .sh (strT (recP (.hd h es)))) :
    ∀ ws : List Tx, ws = headW h ++ [47] :: es.map entW → w__law_text_of_s7 [some (.sh, d), some (.ls .sh, .lst (ws.map strT)), x, y] (ends0 Q E) := by
  intro ws e
  have hz : 3000 ≤ sizeLine := by decide
  have h1 := words_len g
  have h2 := joinS_len (headW h ++ [47] :: es.map entW)
  subst e
  simp only [w__law_text_of_s7, wSeq, wSet, wRet, wRetN, wIf, wDrop, wFor, wNext, wBreak, wCont, wAppend, wSetIx, wAug, wFrz, wAsg, gN, gT, gNil', gCons', mL, mS, mLT, mMv, mIV, mRng, mRngV, mItems, mOp, mB, mC, mVar, mCons, mNil, mTup, mLst, mCB, mCall, mAnd, mOr, mNot, mAndV, mOrV, mNotV, mIf, mNeg, mSl, mNo, mPart, mPk, mChain2, mChain3, mFld, mComp, mComp2, cN, cT, cNil, cCons, mEnum, mYes, mRev, mLenSet, mLenSetG, mLenSetH, wAugIx, mMeth, mMethS, mFst, mJR, mMv2, wUnp, mTru, truD, mMake, wFld, wNever, setN, setF, fldD, String.reduceEq, List.mem_cons, List.mem_singleton, true_or, or_true, or_false, false_or, List.not_mem_nil, oCount, oSplit, oZfill, oLjust, oMulS, cMod, cDiv, cMul, oAdd, oSub, oMul, oDiv, oMod, oPow, oB, oI, oEq, oEqT, oGeT, oIndex, oIs, oIn, oIx, oMulI, oAddI, oSl, oRng1, oRng2, okL, okT, okS, fLen, fAbs, fInt, fStr, fMin, fMax, fSum, fSorted, fSortedW, fMinW, fList, fTuple, fIsi, fIsiC, tyOf, Ty.isi, ty_int, ty_bool, ty_str, ty_list, ty_tuple, ty_dict, isNon, eqOk_int, eqOk_non, eqOk_bl, eqD_int, eqD_bl, eqD_str, eqD_non, beq_self_eq_true, beq_iff_eq, Bool.and_self, atI_0, atI_1, atI_2, atI_3, atI_4, atI_5, atI_6, vw, vs, lendS, ownS, wipeE, ZL.frz, lendS, hasOb, env0, List.replicate_zero, List.replicate_succ, List.cons_append, Nat.reduceSub, List.map_cons, List.map_nil, List.getElem?_cons_zero, List.getElem?_cons_succ, List.getElem?_nil, List.set_cons_zero, List.set_cons_succ, List.length_cons, List.length_nil, List.length_set, Nat.reduceAdd, Nat.reduceLT, Nat.lt_add_one, Nat.zero_lt_succ, List.append_nil, List.nil_append, cln, clnS, clnL, clnX, List.all_cons, List.all_nil, Bool.and_true, Bool.true_and, and_true, true_and, if_true, if_false, Bool.false_eq_true, decide_eq_true_eq, Bool.true_or, Bool.or_true, Bool.false_or, Bool.or_false, decide_true, decide_false, Bool.and_false, Bool.false_and, reduceCtorEq, Int.reduceBEq, nc_0, nc_1, nc_2, nc_3, nc_4, nc_5, nc_6, Bool.not_true, Bool.not_false, reduceIte, sp_tx, sc_tx]
  refine join_okS [32] _ _ (by simp only [List.length_singleton]; omega) ?_
  unfold strT
  simp only [tx_app, tx_len]
  have h59 : ([59] : List Nat).length = 1 := rfl
  exact ⟨by omega, q⟩
theorem ents_text {h : Head} {es : List Ent} (g : Good (.hd h es)) (Q : Kd → D → Prop) (E : Exn → Prop) (q : Q .sh (strT (recP (.hd h es)))) (x y : Option (Kd × D)) :
    w__law_text_of_s5 [some (.sh, recD (.hd h es)), some (.ls .sh, .lst ((headW h).map strT)), x, y] { nx := fun env' => w__law_text_of_s6 env' { nx := fun env' => w__law_text_of_s7 env' (ends0 Q E), rt := Q, bk := fun x => False, ct := fun x => False, ex := fun x => E }, rt := Q, bk := fun x => False, ct := fun x => False, ex := fun x => E } := by
  have hz : 3000 ≤ sizeLine := by decide
  have h4 := (headW_len g.ok.1 g.sm.1).2
  have h3 := g.sm.2.2
  have hlast : atI (headL h ++ [.tup (es.map entD)]) (-1) = some (.tup (es.map entD)) := atI_last _ _
  simp only [w__law_text_of_s5, w__law_text_of_s6, recD, wSeq, wSet, wRet, wRetN, wIf, wDrop, wFor, wNext, wBreak, wCont, wAppend, wSetIx, wAug, wFrz, wAsg, gN, gT, gNil', gCons', mL, mS, mLT, mMv, mIV, mRng, mRngV, mItems, mOp, mB, mC, mVar, mCons, mNil, mTup, mLst, mCB, mCall, mAnd, mOr, mNot, mAndV, mOrV, mNotV, mIf, mNeg, mSl, mNo, mPart, mPk, mChain2, mChain3, mFld, mComp, mComp2, cN, cT, cNil, cCons, mEnum, mYes, mRev, mLenSet, mLenSetG, mLenSetH, wAugIx, mMeth, mMethS, mFst, mJR, mMv2, wUnp, mTru, truD, mMake, wFld, wNever, setN, setF, fldD, String.reduceEq, List.mem_cons, List.mem_singleton, true_or, or_true, or_false, false_or, List.not_mem_nil, oCount, oSplit, oZfill, oLjust, oMulS, cMod, cDiv, cMul, oAdd, oSub, oMul, oDiv, oMod, oPow, oB, oI, oEq, oEqT, oGeT, oIndex, oIs, oIn, oIx, oMulI, oAddI, oSl, oRng1, oRng2, okL, okT, okS, fLen, fAbs, fInt, fStr, fMin, fMax, fSum, fSorted, fSortedW, fMinW, fList, fTuple, fIsi, fIsiC, tyOf, Ty.isi, ty_int, ty_bool, ty_str, ty_list, ty_tuple, ty_dict, isNon, eqOk_int, eqOk_non, eqOk_bl, eqD_int, eqD_bl, eqD_str, eqD_non, beq_self_eq_true, beq_iff_eq, Bool.and_self, atI_0, atI_1, atI_2, atI_3, atI_4, atI_5, atI_6, vw, vs, lendS, ownS, wipeE, ZL.frz, lendS, hasOb, env0, List.replicate_zero, List.replicate_succ, List.cons_append, Nat.reduceSub, List.map_cons, List.map_nil, List.getElem?_cons_zero, List.getElem?_cons_succ, List.getElem?_nil, List.set_cons_zero, List.set_cons_succ, List.length_cons, List.length_nil, List.length_set, Nat.reduceAdd, Nat.reduceLT, Nat.lt_add_one, Nat.zero_lt_succ, List.append_nil, List.nil_append, cln, clnS, clnL, clnX, List.all_cons, List.all_nil, Bool.and_true, Bool.true_and, and_true, true_and, if_true, if_false, Bool.false_eq_true, decide_eq_true_eq, Bool.true_or, Bool.or_true, Bool.false_or, Bool.or_false, decide_true, decide_false, Bool.and_false, Bool.false_and, reduceCtorEq, Int.reduceBEq, nc_0, nc_1, nc_2, nc_3, nc_4, nc_5, nc_6, Bool.not_true, Bool.not_false, reduceIte, hlast, sl_tx, List.length_map]
  refine ⟨by omega, ?_⟩
  refine for_items es entD (fun i env => ∃ x, env = [some (.sh, recD (.hd h es)), some (.ls .sh, .lst ((headW h ++ [47] :: (es.take i).map entW).map strT)), x, y]) ⟨x, by simp [recD, strT]⟩ ?_ ?_
  · rintro i e he env K ⟨x, rfl⟩ hK
    have hs := g.sm.2.1 e (List.mem_of_getElem? he)
    have l1 := numL_l6 hs.1
    have l2 := numL_l6 hs.2.1
    have l3 := numL_l6 hs.2.2
    have hi : i < es.length := (List.getElem?_eq_some_iff.1 he).1
    simp only [entD, wSeq, wSet, wRet, wRetN, wIf, wDrop, wFor, wNext, wBreak, wCont, wAppend, wSetIx, wAug, wFrz, wAsg, gN, gT, gNil', gCons', mL, mS, mLT, mMv, mIV, mRng, mRngV, mItems, mOp, mB, mC, mVar, mCons, mNil, mTup, mLst, mCB, mCall, mAnd, mOr, mNot, mAndV, mOrV, mNotV, mIf, mNeg, mSl, mNo, mPart, mPk, mChain2, mChain3, mFld, mComp, mComp2, cN, cT, cNil, cCons, mEnum, mYes, mRev, mLenSet, mLenSetG, mLenSetH, wAugIx, mMeth, mMethS, mFst, mJR, mMv2, wUnp, mTru, truD, mMake, wFld, wNever, setN, setF, fldD, String.reduceEq, List.mem_cons, List.mem_singleton, true_or, or_true, or_false, false_or, List.not_mem_nil, oCount, oSplit, oZfill, oLjust, oMulS, cMod, cDiv, cMul, oAdd, oSub, oMul, oDiv, oMod, oPow, oB, oI, oEq, oEqT, oGeT, oIndex, oIs, oIn, oIx, oMulI, oAddI, oSl, oRng1, oRng2, okL, okT, okS, fLen, fAbs, fInt, fStr, fMin, fMax, fSum, fSorted, fSortedW, fMinW, fList, fTuple, fIsi, fIsiC, tyOf, Ty.isi, ty_int, ty_bool, ty_str, ty_list, ty_tuple, ty_dict, isNon, eqOk_int, eqOk_non, eqOk_bl, eqD_int, eqD_bl, eqD_str, eqD_non, beq_self_eq_true, beq_iff_eq, Bool.and_self, atI_0, atI_1, atI_2, atI_3, atI_4, atI_5, atI_6, vw, vs, lendS, ownS, wipeE, ZL.frz, lendS, hasOb, env0, List.replicate_zero, List.replicate_succ, List.cons_append, Nat.reduceSub, List.map_cons, List.map_nil, List.getElem?_cons_zero, List.getElem?_cons_succ, List.getElem?_nil, List.set_cons_zero, List.set_cons_succ, List.length_cons, List.length_nil, List.length_set, Nat.reduceAdd, Nat.reduceLT, Nat.lt_add_one, Nat.zero_lt_succ, List.append_nil, List.nil_append, cln, clnS, clnL, clnX, List.all_cons, List.all_nil, Bool.and_true, Bool.true_and, and_true, true_and, if_true, if_false, Bool.false_eq_true, decide_eq_true_eq, Bool.true_or, Bool.or_true, Bool.false_or, Bool.or_false, decide_true, decide_false, Bool.and_false, Bool.false_and, reduceCtorEq, Int.reduceBEq, nc_0, nc_1, nc_2, nc_3, nc_4, nc_5, nc_6, Bool.not_true, Bool.not_false, reduceIte, str_nat, cl_tx, co_tx, tx_app, tx_len, List.length_append, List.length_singleton, List.length_map, List.length_cons, List.length_take]
    refine ⟨log_nat (by omega), by omega, log_nat (by omega), by omega, by omega, log_nat (by omega), by omega, by omega, hK _ ⟨some (.sh, entD e), ?_⟩⟩
    rw [take_snoc he]
    simp [entW, strT, entD]
  · rintro env ⟨x, rfl⟩
    rw [List.take_length]
    exact fin_text g _ _ _ Q E q _ rfl
theorem all_str_cons (a b : Tx) (ns : List (Tx × List Nat)) : ((ns.map fun p => strT (namW p)).all fun x => clnS x) = true := all_map (fun _ => rfl) ns
theorem u__law_text_of : ∀ ds Q E, sp__law_text_of ds Q E → w__law_text_of (env0 N__law_text_of ds) (ends0 Q E) := by
  intro ds Q E h
  obtain ⟨r, rfl, g, q⟩ := h
  have hz : 3000 ≤ sizeLine := by decide
  cases r with
  | era n =>
    have := name_len (show nameB n = true from g.ok)
    have hp : eraW.length = 5 := rfl
    simp only [w__law_text_of, w__law_text_of_s0, N__law_text_of, recD, strT, wSeq, wSet, wRet, wRetN, wIf, wDrop, wFor, wNext, wBreak, wCont, wAppend, wSetIx, wAug, wFrz, wAsg, gN, gT, gNil', gCons', mL, mS, mLT, mMv, mIV, mRng, mRngV, mItems, mOp, mB, mC, mVar, mCons, mNil, mTup, mLst, mCB, mCall, mAnd, mOr, mNot, mAndV, mOrV, mNotV, mIf, mNeg, mSl, mNo, mPart, mPk, mChain2, mChain3, mFld, mComp, mComp2, cN, cT, cNil, cCons, mEnum, mYes, mRev, mLenSet, mLenSetG, mLenSetH, wAugIx, mMeth, mMethS, mFst, mJR, mMv2, wUnp, mTru, truD, mMake, wFld, wNever, setN, setF, fldD, String.reduceEq, List.mem_cons, List.mem_singleton, true_or, or_true, or_false, false_or, List.not_mem_nil, oCount, oSplit, oZfill, oLjust, oMulS, cMod, cDiv, cMul, oAdd, oSub, oMul, oDiv, oMod, oPow, oB, oI, oEq, oEqT, oGeT, oIndex, oIs, oIn, oIx, oMulI, oAddI, oSl, oRng1, oRng2, okL, okT, okS, fLen, fAbs, fInt, fStr, fMin, fMax, fSum, fSorted, fSortedW, fMinW, fList, fTuple, fIsi, fIsiC, tyOf, Ty.isi, ty_int, ty_bool, ty_str, ty_list, ty_tuple, ty_dict, isNon, eqOk_int, eqOk_non, eqOk_bl, eqD_int, eqD_bl, eqD_str, eqD_non, beq_self_eq_true, beq_iff_eq, Bool.and_self, atI_0, atI_1, atI_2, atI_3, atI_4, atI_5, atI_6, vw, vs, lendS, ownS, wipeE, ZL.frz, lendS, hasOb, env0, List.replicate_zero, List.replicate_succ, List.cons_append, Nat.reduceSub, List.map_cons, List.map_nil, List.getElem?_cons_zero, List.getElem?_cons_succ, List.getElem?_nil, List.set_cons_zero, List.set_cons_succ, List.length_cons, List.length_nil, List.length_set, Nat.reduceAdd, Nat.reduceLT, Nat.lt_add_one, Nat.zero_lt_succ, List.append_nil, List.nil_append, cln, clnS, clnL, clnX, List.all_cons, List.all_nil, Bool.and_true, Bool.true_and, and_true, true_and, if_true, if_false, Bool.false_eq_true, decide_eq_true_eq, Bool.true_or, Bool.or_true, Bool.false_or, Bool.or_false, decide_true, decide_false, Bool.and_false, Bool.false_and, reduceCtorEq, Int.reduceBEq, nc_0, nc_1, nc_2, nc_3, nc_4, nc_5, nc_6, Bool.not_true, Bool.not_false, reduceIte, era_tx, spc_tx, sc_tx, tx_app, tx_len, List.length_append, List.length_singleton, hp]
    refine ⟨by omega, by omega, ?_⟩
    simpa [strT, recP] using q
  | hd h es =>
    have ent := ents_text g Q E q
    cases h with
    | deal =>
      have h1 : tx dealW ≠ tx eraW := by decide
      have h2 : tx dealW ≠ tx picW := by decide
      have h3 : tx dealW ≠ tx putW := by decide
      have h4 : tx dealW ≠ tx capW := by decide
      have e := ent none none
      simp only [recD, headL, headW, strT, List.map_cons, List.map_nil, List.cons_append, List.nil_append] at e
      simp only [w__law_text_of, w__law_text_of_s0, w__law_text_of_s1, w__law_text_of_s2, w__law_text_of_s3, w__law_text_of_s4, N__law_text_of, recD, headL, strT, wSeq, wSet, wRet, wRetN, wIf, wDrop, wFor, wNext, wBreak, wCont, wAppend, wSetIx, wAug, wFrz, wAsg, gN, gT, gNil', gCons', mL, mS, mLT, mMv, mIV, mRng, mRngV, mItems, mOp, mB, mC, mVar, mCons, mNil, mTup, mLst, mCB, mCall, mAnd, mOr, mNot, mAndV, mOrV, mNotV, mIf, mNeg, mSl, mNo, mPart, mPk, mChain2, mChain3, mFld, mComp, mComp2, cN, cT, cNil, cCons, mEnum, mYes, mRev, mLenSet, mLenSetG, mLenSetH, wAugIx, mMeth, mMethS, mFst, mJR, mMv2, wUnp, mTru, truD, mMake, wFld, wNever, setN, setF, fldD, String.reduceEq, List.mem_cons, List.mem_singleton, true_or, or_true, or_false, false_or, List.not_mem_nil, oCount, oSplit, oZfill, oLjust, oMulS, cMod, cDiv, cMul, oAdd, oSub, oMul, oDiv, oMod, oPow, oB, oI, oEq, oEqT, oGeT, oIndex, oIs, oIn, oIx, oMulI, oAddI, oSl, oRng1, oRng2, okL, okT, okS, fLen, fAbs, fInt, fStr, fMin, fMax, fSum, fSorted, fSortedW, fMinW, fList, fTuple, fIsi, fIsiC, tyOf, Ty.isi, ty_int, ty_bool, ty_str, ty_list, ty_tuple, ty_dict, isNon, eqOk_int, eqOk_non, eqOk_bl, eqD_int, eqD_bl, eqD_str, eqD_non, beq_self_eq_true, beq_iff_eq, Bool.and_self, atI_0, atI_1, atI_2, atI_3, atI_4, atI_5, atI_6, vw, vs, lendS, ownS, wipeE, ZL.frz, lendS, hasOb, env0, List.replicate_zero, List.replicate_succ, List.cons_append, Nat.reduceSub, List.map_cons, List.map_nil, List.getElem?_cons_zero, List.getElem?_cons_succ, List.getElem?_nil, List.set_cons_zero, List.set_cons_succ, List.length_cons, List.length_nil, List.length_set, Nat.reduceAdd, Nat.reduceLT, Nat.lt_add_one, Nat.zero_lt_succ, List.append_nil, List.nil_append, cln, clnS, clnL, clnX, List.all_cons, List.all_nil, Bool.and_true, Bool.true_and, and_true, true_and, if_true, if_false, Bool.false_eq_true, decide_eq_true_eq, Bool.true_or, Bool.or_true, Bool.false_or, Bool.or_false, decide_true, decide_false, Bool.and_false, Bool.false_and, reduceCtorEq, Int.reduceBEq, nc_0, nc_1, nc_2, nc_3, nc_4, nc_5, nc_6, Bool.not_true, Bool.not_false, reduceIte, era_tx, pic_tx, put_tx, cap_tx, h1, h2, h3, h4]
      exact ⟨by decide, e⟩
    | put n ns =>
      have h1 : tx putW ≠ tx eraW := by decide
      have h2 : tx putW ≠ tx picW := by decide
      have h4 : tx putW ≠ tx capW := by decide
      have e := ent none none
      have hn := name_len (show nameB n = true from g.ok.1.1)
      have hs : SmallN ns := g.sm.1
      have hj := joinN_len hs
      have hs2 := hs.2
      simp only [recD, headL, headW, strT, List.map_cons, List.map_nil, List.cons_append, List.nil_append] at e
      simp only [w__law_text_of, w__law_text_of_s0, w__law_text_of_s1, w__law_text_of_s2, w__law_text_of_s3, N__law_text_of, recD, headL, strT, sp__law_join, wSeq, wSet, wRet, wRetN, wIf, wDrop, wFor, wNext, wBreak, wCont, wAppend, wSetIx, wAug, wFrz, wAsg, gN, gT, gNil', gCons', mL, mS, mLT, mMv, mIV, mRng, mRngV, mItems, mOp, mB, mC, mVar, mCons, mNil, mTup, mLst, mCB, mCall, mAnd, mOr, mNot, mAndV, mOrV, mNotV, mIf, mNeg, mSl, mNo, mPart, mPk, mChain2, mChain3, mFld, mComp, mComp2, cN, cT, cNil, cCons, mEnum, mYes, mRev, mLenSet, mLenSetG, mLenSetH, wAugIx, mMeth, mMethS, mFst, mJR, mMv2, wUnp, mTru, truD, mMake, wFld, wNever, setN, setF, fldD, String.reduceEq, List.mem_cons, List.mem_singleton, true_or, or_true, or_false, false_or, List.not_mem_nil, oCount, oSplit, oZfill, oLjust, oMulS, cMod, cDiv, cMul, oAdd, oSub, oMul, oDiv, oMod, oPow, oB, oI, oEq, oEqT, oGeT, oIndex, oIs, oIn, oIx, oMulI, oAddI, oSl, oRng1, oRng2, okL, okT, okS, fLen, fAbs, fInt, fStr, fMin, fMax, fSum, fSorted, fSortedW, fMinW, fList, fTuple, fIsi, fIsiC, tyOf, Ty.isi, ty_int, ty_bool, ty_str, ty_list, ty_tuple, ty_dict, isNon, eqOk_int, eqOk_non, eqOk_bl, eqD_int, eqD_bl, eqD_str, eqD_non, beq_self_eq_true, beq_iff_eq, Bool.and_self, atI_0, atI_1, atI_2, atI_3, atI_4, atI_5, atI_6, vw, vs, lendS, ownS, wipeE, ZL.frz, lendS, hasOb, env0, List.replicate_zero, List.replicate_succ, List.cons_append, Nat.reduceSub, List.map_cons, List.map_nil, List.getElem?_cons_zero, List.getElem?_cons_succ, List.getElem?_nil, List.set_cons_zero, List.set_cons_succ, List.length_cons, List.length_nil, List.length_set, Nat.reduceAdd, Nat.reduceLT, Nat.lt_add_one, Nat.zero_lt_succ, List.append_nil, List.nil_append, cln, clnS, clnL, clnX, List.all_cons, List.all_nil, Bool.and_true, Bool.true_and, and_true, true_and, if_true, if_false, Bool.false_eq_true, decide_eq_true_eq, Bool.true_or, Bool.or_true, Bool.false_or, Bool.or_false, decide_true, decide_false, Bool.and_false, Bool.false_and, reduceCtorEq, Int.reduceBEq, nc_0, nc_1, nc_2, nc_3, nc_4, nc_5, nc_6, Bool.not_true, Bool.not_false, reduceIte, era_tx, pic_tx, put_tx, cap_tx, eq_tx, tx_app, tx_len, h1, h2, List.length_append, List.length_singleton]
      have en : namW (n, ns) = n ++ [61] ++ joinN ns := by simp [namW]
      rw [en] at e
      refine ⟨by decide, by omega, ns, rfl, hs.1, by omega, by omega, by decide, ?_⟩
      simp only [w__law_text_of_s4, wSeq, wSet, wRet, wRetN, wIf, wDrop, wFor, wNext, wBreak, wCont, wAppend, wSetIx, wAug, wFrz, wAsg, gN, gT, gNil', gCons', mL, mS, mLT, mMv, mIV, mRng, mRngV, mItems, mOp, mB, mC, mVar, mCons, mNil, mTup, mLst, mCB, mCall, mAnd, mOr, mNot, mAndV, mOrV, mNotV, mIf, mNeg, mSl, mNo, mPart, mPk, mChain2, mChain3, mFld, mComp, mComp2, cN, cT, cNil, cCons, mEnum, mYes, mRev, mLenSet, mLenSetG, mLenSetH, wAugIx, mMeth, mMethS, mFst, mJR, mMv2, wUnp, mTru, truD, mMake, wFld, wNever, setN, setF, fldD, String.reduceEq, List.mem_cons, List.mem_singleton, true_or, or_true, or_false, false_or, List.not_mem_nil, oCount, oSplit, oZfill, oLjust, oMulS, cMod, cDiv, cMul, oAdd, oSub, oMul, oDiv, oMod, oPow, oB, oI, oEq, oEqT, oGeT, oIndex, oIs, oIn, oIx, oMulI, oAddI, oSl, oRng1, oRng2, okL, okT, okS, fLen, fAbs, fInt, fStr, fMin, fMax, fSum, fSorted, fSortedW, fMinW, fList, fTuple, fIsi, fIsiC, tyOf, Ty.isi, ty_int, ty_bool, ty_str, ty_list, ty_tuple, ty_dict, isNon, eqOk_int, eqOk_non, eqOk_bl, eqD_int, eqD_bl, eqD_str, eqD_non, beq_self_eq_true, beq_iff_eq, Bool.and_self, atI_0, atI_1, atI_2, atI_3, atI_4, atI_5, atI_6, vw, vs, lendS, ownS, wipeE, ZL.frz, lendS, hasOb, env0, List.replicate_zero, List.replicate_succ, List.cons_append, Nat.reduceSub, List.map_cons, List.map_nil, List.getElem?_cons_zero, List.getElem?_cons_succ, List.getElem?_nil, List.set_cons_zero, List.set_cons_succ, List.length_cons, List.length_nil, List.length_set, Nat.reduceAdd, Nat.reduceLT, Nat.lt_add_one, Nat.zero_lt_succ, List.append_nil, List.nil_append, cln, clnS, clnL, clnX, List.all_cons, List.all_nil, Bool.and_true, Bool.true_and, and_true, true_and, if_true, if_false, Bool.false_eq_true, decide_eq_true_eq, Bool.true_or, Bool.or_true, Bool.false_or, Bool.or_false, decide_true, decide_false, Bool.and_false, Bool.false_and, reduceCtorEq, Int.reduceBEq, nc_0, nc_1, nc_2, nc_3, nc_4, nc_5, nc_6, Bool.not_true, Bool.not_false, reduceIte, cap_tx, h4]
      exact e
    | cap a b =>
      have h1 : tx capW ≠ tx eraW := by decide
      have h2 : tx capW ≠ tx picW := by decide
      have h3 : tx capW ≠ tx putW := by decide
      have e := ent none none
      have hs : a < 10 ^ 6 ∧ b < 10 ^ 6 := g.sm.1
      simp only [recD, headL, headW, strT, List.map_cons, List.map_nil, List.cons_append, List.nil_append] at e
      simp only [w__law_text_of, w__law_text_of_s0, w__law_text_of_s1, w__law_text_of_s2, w__law_text_of_s3, w__law_text_of_s4, N__law_text_of, recD, headL, strT, wSeq, wSet, wRet, wRetN, wIf, wDrop, wFor, wNext, wBreak, wCont, wAppend, wSetIx, wAug, wFrz, wAsg, gN, gT, gNil', gCons', mL, mS, mLT, mMv, mIV, mRng, mRngV, mItems, mOp, mB, mC, mVar, mCons, mNil, mTup, mLst, mCB, mCall, mAnd, mOr, mNot, mAndV, mOrV, mNotV, mIf, mNeg, mSl, mNo, mPart, mPk, mChain2, mChain3, mFld, mComp, mComp2, cN, cT, cNil, cCons, mEnum, mYes, mRev, mLenSet, mLenSetG, mLenSetH, wAugIx, mMeth, mMethS, mFst, mJR, mMv2, wUnp, mTru, truD, mMake, wFld, wNever, setN, setF, fldD, String.reduceEq, List.mem_cons, List.mem_singleton, true_or, or_true, or_false, false_or, List.not_mem_nil, oCount, oSplit, oZfill, oLjust, oMulS, cMod, cDiv, cMul, oAdd, oSub, oMul, oDiv, oMod, oPow, oB, oI, oEq, oEqT, oGeT, oIndex, oIs, oIn, oIx, oMulI, oAddI, oSl, oRng1, oRng2, okL, okT, okS, fLen, fAbs, fInt, fStr, fMin, fMax, fSum, fSorted, fSortedW, fMinW, fList, fTuple, fIsi, fIsiC, tyOf, Ty.isi, ty_int, ty_bool, ty_str, ty_list, ty_tuple, ty_dict, isNon, eqOk_int, eqOk_non, eqOk_bl, eqD_int, eqD_bl, eqD_str, eqD_non, beq_self_eq_true, beq_iff_eq, Bool.and_self, atI_0, atI_1, atI_2, atI_3, atI_4, atI_5, atI_6, vw, vs, lendS, ownS, wipeE, ZL.frz, lendS, hasOb, env0, List.replicate_zero, List.replicate_succ, List.cons_append, Nat.reduceSub, List.map_cons, List.map_nil, List.getElem?_cons_zero, List.getElem?_cons_succ, List.getElem?_nil, List.set_cons_zero, List.set_cons_succ, List.length_cons, List.length_nil, List.length_set, Nat.reduceAdd, Nat.reduceLT, Nat.lt_add_one, Nat.zero_lt_succ, List.append_nil, List.nil_append, cln, clnS, clnL, clnX, List.all_cons, List.all_nil, Bool.and_true, Bool.true_and, and_true, true_and, if_true, if_false, Bool.false_eq_true, decide_eq_true_eq, Bool.true_or, Bool.or_true, Bool.false_or, Bool.or_false, decide_true, decide_false, Bool.and_false, Bool.false_and, reduceCtorEq, Int.reduceBEq, nc_0, nc_1, nc_2, nc_3, nc_4, nc_5, nc_6, Bool.not_true, Bool.not_false, reduceIte, era_tx, pic_tx, put_tx, cap_tx, h1, h2, h3, str_nat]
      exact ⟨by decide, log_nat (by omega), log_nat (by omega), by decide, by decide, e⟩
    | pic cs ns =>
      have h1 : tx picW ≠ tx eraW := by decide
      have h3 : tx picW ≠ tx putW := by decide
      have h4 : tx picW ≠ tx capW := by decide
      have hs : SmallN cs ∧ (∀ p ∈ ns, SmallN p.2) ∧ ns.length ≤ 2 := g.sm.1
      have hc2 := hs.1.2
      have hn2 := hs.2.2
      have hok : ∀ p ∈ ns, nameB p.1 = true := fun p hp => (g.ok.1.2.1 p hp).1
      simp only [w__law_text_of, w__law_text_of_s0, w__law_text_of_s1, w__law_text_of_s2, N__law_text_of, recD, headL, strT, sp__law_join, wSeq, wSet, wRet, wRetN, wIf, wDrop, wFor, wNext, wBreak, wCont, wAppend, wSetIx, wAug, wFrz, wAsg, gN, gT, gNil', gCons', mL, mS, mLT, mMv, mIV, mRng, mRngV, mItems, mOp, mB, mC, mVar, mCons, mNil, mTup, mLst, mCB, mCall, mAnd, mOr, mNot, mAndV, mOrV, mNotV, mIf, mNeg, mSl, mNo, mPart, mPk, mChain2, mChain3, mFld, mComp, mComp2, cN, cT, cNil, cCons, mEnum, mYes, mRev, mLenSet, mLenSetG, mLenSetH, wAugIx, mMeth, mMethS, mFst, mJR, mMv2, wUnp, mTru, truD, mMake, wFld, wNever, setN, setF, fldD, String.reduceEq, List.mem_cons, List.mem_singleton, true_or, or_true, or_false, false_or, List.not_mem_nil, oCount, oSplit, oZfill, oLjust, oMulS, cMod, cDiv, cMul, oAdd, oSub, oMul, oDiv, oMod, oPow, oB, oI, oEq, oEqT, oGeT, oIndex, oIs, oIn, oIx, oMulI, oAddI, oSl, oRng1, oRng2, okL, okT, okS, fLen, fAbs, fInt, fStr, fMin, fMax, fSum, fSorted, fSortedW, fMinW, fList, fTuple, fIsi, fIsiC, tyOf, Ty.isi, ty_int, ty_bool, ty_str, ty_list, ty_tuple, ty_dict, isNon, eqOk_int, eqOk_non, eqOk_bl, eqD_int, eqD_bl, eqD_str, eqD_non, beq_self_eq_true, beq_iff_eq, Bool.and_self, atI_0, atI_1, atI_2, atI_3, atI_4, atI_5, atI_6, vw, vs, lendS, ownS, wipeE, ZL.frz, lendS, hasOb, env0, List.replicate_zero, List.replicate_succ, List.cons_append, Nat.reduceSub, List.map_cons, List.map_nil, List.getElem?_cons_zero, List.getElem?_cons_succ, List.getElem?_nil, List.set_cons_zero, List.set_cons_succ, List.length_cons, List.length_nil, List.length_set, Nat.reduceAdd, Nat.reduceLT, Nat.lt_add_one, Nat.zero_lt_succ, List.append_nil, List.nil_append, cln, clnS, clnL, clnX, List.all_cons, List.all_nil, Bool.and_true, Bool.true_and, and_true, true_and, if_true, if_false, Bool.false_eq_true, decide_eq_true_eq, Bool.true_or, Bool.or_true, Bool.false_or, Bool.or_false, decide_true, decide_false, Bool.and_false, Bool.false_and, reduceCtorEq, Int.reduceBEq, nc_0, nc_1, nc_2, nc_3, nc_4, nc_5, nc_6, Bool.not_true, Bool.not_false, reduceIte, era_tx, pic_tx, eq_tx, h1]
      refine ⟨by decide, cs, rfl, hs.1.1, by omega, by decide, by decide, ?_⟩
      refine comp_map ns namD (fun p => strT (namW p)) (fun p hp K hK => ?_) (by omega) ?_
      · have hn := name_len (hok p hp)
        have hj := joinN_len (hs.2.1 p hp)
        have hp2 := (hs.2.1 p hp).2
        have en : namW p = p.1 ++ [61] ++ joinN p.2 := by simp [namW]
        simp only [namD, strT, wSeq, wSet, wRet, wRetN, wIf, wDrop, wFor, wNext, wBreak, wCont, wAppend, wSetIx, wAug, wFrz, wAsg, gN, gT, gNil', gCons', mL, mS, mLT, mMv, mIV, mRng, mRngV, mItems, mOp, mB, mC, mVar, mCons, mNil, mTup, mLst, mCB, mCall, mAnd, mOr, mNot, mAndV, mOrV, mNotV, mIf, mNeg, mSl, mNo, mPart, mPk, mChain2, mChain3, mFld, mComp, mComp2, cN, cT, cNil, cCons, mEnum, mYes, mRev, mLenSet, mLenSetG, mLenSetH, wAugIx, mMeth, mMethS, mFst, mJR, mMv2, wUnp, mTru, truD, mMake, wFld, wNever, setN, setF, fldD, String.reduceEq, List.mem_cons, List.mem_singleton, true_or, or_true, or_false, false_or, List.not_mem_nil, oCount, oSplit, oZfill, oLjust, oMulS, cMod, cDiv, cMul, oAdd, oSub, oMul, oDiv, oMod, oPow, oB, oI, oEq, oEqT, oGeT, oIndex, oIs, oIn, oIx, oMulI, oAddI, oSl, oRng1, oRng2, okL, okT, okS, fLen, fAbs, fInt, fStr, fMin, fMax, fSum, fSorted, fSortedW, fMinW, fList, fTuple, fIsi, fIsiC, tyOf, Ty.isi, ty_int, ty_bool, ty_str, ty_list, ty_tuple, ty_dict, isNon, eqOk_int, eqOk_non, eqOk_bl, eqD_int, eqD_bl, eqD_str, eqD_non, beq_self_eq_true, beq_iff_eq, Bool.and_self, atI_0, atI_1, atI_2, atI_3, atI_4, atI_5, atI_6, vw, vs, lendS, ownS, wipeE, ZL.frz, lendS, hasOb, env0, List.replicate_zero, List.replicate_succ, List.cons_append, Nat.reduceSub, List.map_cons, List.map_nil, List.getElem?_cons_zero, List.getElem?_cons_succ, List.getElem?_nil, List.set_cons_zero, List.set_cons_succ, List.length_cons, List.length_nil, List.length_set, Nat.reduceAdd, Nat.reduceLT, Nat.lt_add_one, Nat.zero_lt_succ, List.append_nil, List.nil_append, cln, clnS, clnL, clnX, List.all_cons, List.all_nil, Bool.and_true, Bool.true_and, and_true, true_and, if_true, if_false, Bool.false_eq_true, decide_eq_true_eq, Bool.true_or, Bool.or_true, Bool.false_or, Bool.or_false, decide_true, decide_false, Bool.and_false, Bool.false_and, reduceCtorEq, Int.reduceBEq, nc_0, nc_1, nc_2, nc_3, nc_4, nc_5, nc_6, Bool.not_true, Bool.not_false, reduceIte, tx_app, tx_len, List.length_append, List.length_singleton]
        rw [en] at hK
        refine ⟨by omega, p.2, rfl, (hs.2.1 p hp).1, by omega, ?_⟩
        simp only [strT, tx_app, tx_len, List.length_append, List.length_singleton]
        exact ⟨by omega, hK⟩
      rw [List.length_map]
      refine ⟨by omega, all_str_cons [] [] ns, ?_⟩
      simp only [w__law_text_of_s3, w__law_text_of_s4, wSeq, wSet, wRet, wRetN, wIf, wDrop, wFor, wNext, wBreak, wCont, wAppend, wSetIx, wAug, wFrz, wAsg, gN, gT, gNil', gCons', mL, mS, mLT, mMv, mIV, mRng, mRngV, mItems, mOp, mB, mC, mVar, mCons, mNil, mTup, mLst, mCB, mCall, mAnd, mOr, mNot, mAndV, mOrV, mNotV, mIf, mNeg, mSl, mNo, mPart, mPk, mChain2, mChain3, mFld, mComp, mComp2, cN, cT, cNil, cCons, mEnum, mYes, mRev, mLenSet, mLenSetG, mLenSetH, wAugIx, mMeth, mMethS, mFst, mJR, mMv2, wUnp, mTru, truD, mMake, wFld, wNever, setN, setF, fldD, String.reduceEq, List.mem_cons, List.mem_singleton, true_or, or_true, or_false, false_or, List.not_mem_nil, oCount, oSplit, oZfill, oLjust, oMulS, cMod, cDiv, cMul, oAdd, oSub, oMul, oDiv, oMod, oPow, oB, oI, oEq, oEqT, oGeT, oIndex, oIs, oIn, oIx, oMulI, oAddI, oSl, oRng1, oRng2, okL, okT, okS, fLen, fAbs, fInt, fStr, fMin, fMax, fSum, fSorted, fSortedW, fMinW, fList, fTuple, fIsi, fIsiC, tyOf, Ty.isi, ty_int, ty_bool, ty_str, ty_list, ty_tuple, ty_dict, isNon, eqOk_int, eqOk_non, eqOk_bl, eqD_int, eqD_bl, eqD_str, eqD_non, beq_self_eq_true, beq_iff_eq, Bool.and_self, atI_0, atI_1, atI_2, atI_3, atI_4, atI_5, atI_6, vw, vs, lendS, ownS, wipeE, ZL.frz, lendS, hasOb, env0, List.replicate_zero, List.replicate_succ, List.cons_append, Nat.reduceSub, List.map_cons, List.map_nil, List.getElem?_cons_zero, List.getElem?_cons_succ, List.getElem?_nil, List.set_cons_zero, List.set_cons_succ, List.length_cons, List.length_nil, List.length_set, Nat.reduceAdd, Nat.reduceLT, Nat.lt_add_one, Nat.zero_lt_succ, List.append_nil, List.nil_append, cln, clnS, clnL, clnX, List.all_cons, List.all_nil, Bool.and_true, Bool.true_and, and_true, true_and, if_true, if_false, Bool.false_eq_true, decide_eq_true_eq, Bool.true_or, Bool.or_true, Bool.false_or, Bool.or_false, decide_true, decide_false, Bool.and_false, Bool.false_and, reduceCtorEq, Int.reduceBEq, nc_0, nc_1, nc_2, nc_3, nc_4, nc_5, nc_6, Bool.not_true, Bool.not_false, reduceIte, put_tx, cap_tx, h3, h4]
      have e := ent none none
      simp only [recD, headL, headW, strT, List.map_cons, List.map_nil, List.cons_append, List.nil_append, List.map_map] at e
      exact e

end ZL.K30


namespace ZL.K30
open PySem PySem.Spec PyProof.Rows L2 ZL
theorem cnt_len : ∀ (xs : List (Option Rec)) (i : Nat) (st : List Rec × Nat), st.1.length ≤ i → (cnt xs i st).1.length ≤ i + xs.length ∧ ((st.2 ≤ i) → (cnt xs i st).2 ≤ i + xs.length)
  | [], i, st, h => ⟨h, fun h2 => h2⟩
  | o :: r, i, st, h => by
    have hs : (stepC st i o).1.length ≤ i + 1 ∧ (st.2 ≤ i → (stepC st i o).2 ≤ i + 1) := by
      unfold stepC
      split
      · exact ⟨by omega, fun h2 => by omega⟩
      · split
        · exact ⟨by simp, fun h2 => by simp⟩
        · split
          · exact ⟨by simp; omega, fun h2 => by simp⟩
          · exact ⟨by omega, fun h2 => by omega⟩
    have ih := cnt_len r (i + 1) (stepC st i o) hs.1
    rw [cnt, List.length_cons]
    exact ⟨by omega, fun h2 => by have := ih.2 (hs.2 h2); omega⟩
theorem cnt_mem : ∀ (xs : List (Option Rec)) (i : Nat) (st : List Rec × Nat) (r : Rec), r ∈ (cnt xs i st).1 → r ∈ st.1 ∨ some r ∈ xs
  | [], i, st, r, h => .inl h
  | o :: t, i, st, r, h => by
    rw [cnt] at h
    rcases cnt_mem t (i + 1) _ r h with h | h
    · unfold stepC at h
      split at h
      · exact .inl h
      · split at h
        · rw [List.mem_singleton.1 h]
          exact .inr (List.mem_cons_self ..)
        · split at h
          · rcases List.mem_append.1 h with h | h
            · exact .inl h
            · rw [List.mem_singleton.1 h]
              exact .inr (List.mem_cons_self ..)
          · exact .inl h
    · exact .inr (List.mem_cons_of_mem _ h)
theorem u__law_counted : ∀ ds Q E, sp__law_counted ds Q E → w__law_counted (env0 N__law_counted ds) (ends0 Q E) := by
  intro ds Q E h
  obtain ⟨ps, rfl, hl, q⟩ := h
  have hz : 3000 ≤ sizeLine := by decide
  simp only [w__law_counted, w__law_counted_s0, w__law_counted_s1, w__law_counted_s2, w__law_counted_s3, N__law_counted, wSeq, wSet, wRet, wRetN, wIf, wDrop, wFor, wNext, wBreak, wCont, wAppend, wSetIx, wAug, wFrz, wAsg, gN, gT, gNil', gCons', mL, mS, mLT, mMv, mIV, mRng, mRngV, mItems, mOp, mB, mC, mVar, mCons, mNil, mTup, mLst, mCB, mCall, mAnd, mOr, mNot, mAndV, mOrV, mNotV, mIf, mNeg, mSl, mNo, mPart, mPk, mChain2, mChain3, mFld, mComp, mComp2, cN, cT, cNil, cCons, mEnum, mYes, mRev, mLenSet, mLenSetG, mLenSetH, wAugIx, mMeth, mMethS, mFst, mJR, mMv2, wUnp, mTru, truD, mMake, wFld, wNever, setN, setF, fldD, String.reduceEq, List.mem_cons, List.mem_singleton, true_or, or_true, or_false, false_or, List.not_mem_nil, oCount, oSplit, oZfill, oLjust, oMulS, cMod, cDiv, cMul, oAdd, oSub, oMul, oDiv, oMod, oPow, oB, oI, oEq, oEqT, oGeT, oIndex, oIs, oIn, oIx, oMulI, oAddI, oSl, oRng1, oRng2, okL, okT, okS, fLen, fAbs, fInt, fStr, fMin, fMax, fSum, fSorted, fSortedW, fMinW, fList, fTuple, fIsi, fIsiC, tyOf, Ty.isi, ty_int, ty_bool, ty_str, ty_list, ty_tuple, ty_dict, isNon, eqOk_int, eqOk_non, eqOk_bl, eqD_int, eqD_bl, eqD_str, eqD_non, beq_self_eq_true, beq_iff_eq, Bool.and_self, atI_0, atI_1, atI_2, atI_3, atI_4, atI_5, atI_6, vw, vs, lendS, ownS, wipeE, ZL.frz, lendS, hasOb, env0, List.replicate_zero, List.replicate_succ, List.cons_append, Nat.reduceSub, List.map_cons, List.map_nil, List.getElem?_cons_zero, List.getElem?_cons_succ, List.getElem?_nil, List.set_cons_zero, List.set_cons_succ, List.length_cons, List.length_nil, List.length_set, Nat.reduceAdd, Nat.reduceLT, Nat.lt_add_one, Nat.zero_lt_succ, List.append_nil, List.nil_append, cln, clnS, clnL, clnX, List.all_cons, List.all_nil, Bool.and_true, Bool.true_and, and_true, true_and, if_true, if_false, Bool.false_eq_true, decide_eq_true_eq, Bool.true_or, Bool.or_true, Bool.false_or, Bool.or_false, decide_true, decide_false, Bool.and_false, Bool.false_and, reduceCtorEq, Int.reduceBEq, nc_0, nc_1, nc_2, nc_3, nc_4, nc_5, nc_6, Bool.not_true, Bool.not_false, reduceIte, List.length_map, Int.toNat_natCast]
  refine ⟨by omega, ⟨by omega, by omega⟩, ?_⟩
  refine for_range (fun i env => ∃ x y, env = [some (.sh, .lst (ps.map prD)), some (.ls .sh, .lst ((cntP (ps.take i)).1.map recD)), some (.sh, .int ((cntP (ps.take i)).2 : Int)), some (.sh, .bl (decide (0 < (cntP (ps.take i)).1.length ∧ (cntP (ps.take i)).2 = i))), x, y] ∧ (cntP (ps.take i)).1.length ≤ i ∧ (cntP (ps.take i)).2 ≤ i) ⟨none, none, rfl, Nat.le_refl _, Nat.le_refl _⟩ ?_ ?_
  · rintro i hi env K ⟨x, y, rfl, hlen, hend⟩ hK
    have ai : atI (ps.map prD) (i : Int) = some (prD ps[i]) := at_map prD hi
    have hs : cntP (ps.take (i + 1)) = stepC (cntP (ps.take i)) i ps[i].2 := by
      have e : ps.take (i + 1) = ps.take i ++ [ps[i]] := take_snoc (List.getElem?_eq_getElem hi)
      unfold cntP
      rw [e, List.map_append, List.map_cons, List.map_nil, cnt_snoc, Nat.zero_add, List.length_map, List.length_take, Nat.min_eq_left (by omega)]
    have hK' : ∀ x y st', st' = stepC (cntP (ps.take i)) i ps[i].2 → st'.1.length ≤ i + 1 → st'.2 ≤ i + 1 → K [some (.sh, .lst (ps.map prD)), some (.ls .sh, .lst (st'.1.map recD)), some (.sh, .int (st'.2 : Int)), some (.sh, .bl (decide (0 < st'.1.length ∧ st'.2 = i + 1))), x, y] := fun x y st' e h1 h2 => hK _ ⟨x, y, by rw [hs, e], by rw [hs, ← e]; exact h1, by rw [hs, ← e]; exact h2⟩
    generalize cntP (ps.take i) = st at *
    obtain ⟨recs, en⟩ := st
    have hlen : recs.length ≤ i := hlen
    have hend : en ≤ i := hend
    simp only [wSeq, wSet, wRet, wRetN, wIf, wDrop, wFor, wNext, wBreak, wCont, wAppend, wSetIx, wAug, wFrz, wAsg, gN, gT, gNil', gCons', mL, mS, mLT, mMv, mIV, mRng, mRngV, mItems, mOp, mB, mC, mVar, mCons, mNil, mTup, mLst, mCB, mCall, mAnd, mOr, mNot, mAndV, mOrV, mNotV, mIf, mNeg, mSl, mNo, mPart, mPk, mChain2, mChain3, mFld, mComp, mComp2, cN, cT, cNil, cCons, mEnum, mYes, mRev, mLenSet, mLenSetG, mLenSetH, wAugIx, mMeth, mMethS, mFst, mJR, mMv2, wUnp, mTru, truD, mMake, wFld, wNever, setN, setF, fldD, String.reduceEq, List.mem_cons, List.mem_singleton, true_or, or_true, or_false, false_or, List.not_mem_nil, oCount, oSplit, oZfill, oLjust, oMulS, cMod, cDiv, cMul, oAdd, oSub, oMul, oDiv, oMod, oPow, oB, oI, oEq, oEqT, oGeT, oIndex, oIs, oIn, oIx, oMulI, oAddI, oSl, oRng1, oRng2, okL, okT, okS, fLen, fAbs, fInt, fStr, fMin, fMax, fSum, fSorted, fSortedW, fMinW, fList, fTuple, fIsi, fIsiC, tyOf, Ty.isi, ty_int, ty_bool, ty_str, ty_list, ty_tuple, ty_dict, isNon, eqOk_int, eqOk_non, eqOk_bl, eqD_int, eqD_bl, eqD_str, eqD_non, beq_self_eq_true, beq_iff_eq, Bool.and_self, atI_0, atI_1, atI_2, atI_3, atI_4, atI_5, atI_6, vw, vs, lendS, ownS, wipeE, ZL.frz, lendS, hasOb, env0, List.replicate_zero, List.replicate_succ, List.cons_append, Nat.reduceSub, List.map_cons, List.map_nil, List.getElem?_cons_zero, List.getElem?_cons_succ, List.getElem?_nil, List.set_cons_zero, List.set_cons_succ, List.length_cons, List.length_nil, List.length_set, Nat.reduceAdd, Nat.reduceLT, Nat.lt_add_one, Nat.zero_lt_succ, List.append_nil, List.nil_append, cln, clnS, clnL, clnX, List.all_cons, List.all_nil, Bool.and_true, Bool.true_and, and_true, true_and, if_true, if_false, Bool.false_eq_true, decide_eq_true_eq, Bool.true_or, Bool.or_true, Bool.false_or, Bool.or_false, decide_true, decide_false, Bool.and_false, Bool.false_and, reduceCtorEq, Int.reduceBEq, nc_0, nc_1, nc_2, nc_3, nc_4, nc_5, nc_6, Bool.not_true, Bool.not_false, reduceIte, Int.zero_add, ai]
    unfold prD
    generalize ps[i].2 = o at *
    cases o with
    | none =>
      simp only [recOD, wSeq, wSet, wRet, wRetN, wIf, wDrop, wFor, wNext, wBreak, wCont, wAppend, wSetIx, wAug, wFrz, wAsg, gN, gT, gNil', gCons', mL, mS, mLT, mMv, mIV, mRng, mRngV, mItems, mOp, mB, mC, mVar, mCons, mNil, mTup, mLst, mCB, mCall, mAnd, mOr, mNot, mAndV, mOrV, mNotV, mIf, mNeg, mSl, mNo, mPart, mPk, mChain2, mChain3, mFld, mComp, mComp2, cN, cT, cNil, cCons, mEnum, mYes, mRev, mLenSet, mLenSetG, mLenSetH, wAugIx, mMeth, mMethS, mFst, mJR, mMv2, wUnp, mTru, truD, mMake, wFld, wNever, setN, setF, fldD, String.reduceEq, List.mem_cons, List.mem_singleton, true_or, or_true, or_false, false_or, List.not_mem_nil, oCount, oSplit, oZfill, oLjust, oMulS, cMod, cDiv, cMul, oAdd, oSub, oMul, oDiv, oMod, oPow, oB, oI, oEq, oEqT, oGeT, oIndex, oIs, oIn, oIx, oMulI, oAddI, oSl, oRng1, oRng2, okL, okT, okS, fLen, fAbs, fInt, fStr, fMin, fMax, fSum, fSorted, fSortedW, fMinW, fList, fTuple, fIsi, fIsiC, tyOf, Ty.isi, ty_int, ty_bool, ty_str, ty_list, ty_tuple, ty_dict, isNon, eqOk_int, eqOk_non, eqOk_bl, eqD_int, eqD_bl, eqD_str, eqD_non, beq_self_eq_true, beq_iff_eq, Bool.and_self, atI_0, atI_1, atI_2, atI_3, atI_4, atI_5, atI_6, vw, vs, lendS, ownS, wipeE, ZL.frz, lendS, hasOb, env0, List.replicate_zero, List.replicate_succ, List.cons_append, Nat.reduceSub, List.map_cons, List.map_nil, List.getElem?_cons_zero, List.getElem?_cons_succ, List.getElem?_nil, List.set_cons_zero, List.set_cons_succ, List.length_cons, List.length_nil, List.length_set, Nat.reduceAdd, Nat.reduceLT, Nat.lt_add_one, Nat.zero_lt_succ, List.append_nil, List.nil_append, cln, clnS, clnL, clnX, List.all_cons, List.all_nil, Bool.and_true, Bool.true_and, and_true, true_and, if_true, if_false, Bool.false_eq_true, decide_eq_true_eq, Bool.true_or, Bool.or_true, Bool.false_or, Bool.or_false, decide_true, decide_false, Bool.and_false, Bool.false_and, reduceCtorEq, Int.reduceBEq, nc_0, nc_1, nc_2, nc_3, nc_4, nc_5, nc_6, Bool.not_true, Bool.not_false, reduceIte]
      have := hK' (some (.sh, .int (i : Int))) (some (.sh, .non)) (recs, en) rfl (by omega) (by omega)
      rw [show decide (0 < (recs, en).1.length ∧ (recs, en).2 = i + 1) = false from decide_eq_false fun w => by have : en = i + 1 := w.2; omega] at this
      exact this
    | some r =>
      obtain ⟨ds, e1, e2⟩ := rec_head r
      have hc := cln_rec r
      simp only [recOD, e1, strT, wSeq, wSet, wRet, wRetN, wIf, wDrop, wFor, wNext, wBreak, wCont, wAppend, wSetIx, wAug, wFrz, wAsg, gN, gT, gNil', gCons', mL, mS, mLT, mMv, mIV, mRng, mRngV, mItems, mOp, mB, mC, mVar, mCons, mNil, mTup, mLst, mCB, mCall, mAnd, mOr, mNot, mAndV, mOrV, mNotV, mIf, mNeg, mSl, mNo, mPart, mPk, mChain2, mChain3, mFld, mComp, mComp2, cN, cT, cNil, cCons, mEnum, mYes, mRev, mLenSet, mLenSetG, mLenSetH, wAugIx, mMeth, mMethS, mFst, mJR, mMv2, wUnp, mTru, truD, mMake, wFld, wNever, setN, setF, fldD, String.reduceEq, List.mem_cons, List.mem_singleton, true_or, or_true, or_false, false_or, List.not_mem_nil, oCount, oSplit, oZfill, oLjust, oMulS, cMod, cDiv, cMul, oAdd, oSub, oMul, oDiv, oMod, oPow, oB, oI, oEq, oEqT, oGeT, oIndex, oIs, oIn, oIx, oMulI, oAddI, oSl, oRng1, oRng2, okL, okT, okS, fLen, fAbs, fInt, fStr, fMin, fMax, fSum, fSorted, fSortedW, fMinW, fList, fTuple, fIsi, fIsiC, tyOf, Ty.isi, ty_int, ty_bool, ty_str, ty_list, ty_tuple, ty_dict, isNon, eqOk_int, eqOk_non, eqOk_bl, eqD_int, eqD_bl, eqD_str, eqD_non, beq_self_eq_true, beq_iff_eq, Bool.and_self, atI_0, atI_1, atI_2, atI_3, atI_4, atI_5, atI_6, vw, vs, lendS, ownS, wipeE, ZL.frz, lendS, hasOb, env0, List.replicate_zero, List.replicate_succ, List.cons_append, Nat.reduceSub, List.map_cons, List.map_nil, List.getElem?_cons_zero, List.getElem?_cons_succ, List.getElem?_nil, List.set_cons_zero, List.set_cons_succ, List.length_cons, List.length_nil, List.length_set, Nat.reduceAdd, Nat.reduceLT, Nat.lt_add_one, Nat.zero_lt_succ, List.append_nil, List.nil_append, cln, clnS, clnL, clnX, List.all_cons, List.all_nil, Bool.and_true, Bool.true_and, and_true, true_and, if_true, if_false, Bool.false_eq_true, decide_eq_true_eq, Bool.true_or, Bool.or_true, Bool.false_or, Bool.or_false, decide_true, decide_false, Bool.and_false, Bool.false_and, reduceCtorEq, Int.reduceBEq, nc_0, nc_1, nc_2, nc_3, nc_4, nc_5, nc_6, Bool.not_true, Bool.not_false, reduceIte, pic_tx, List.length_map]
      rw [e1] at hc
      have s1 : isPic r = true → stepC (recs, en) i (some r) = ([r], i + 1) := fun h => by simp [stepC, h]
      have s2 : ¬ isPic r = true → 0 < recs.length ∧ en = i → stepC (recs, en) i (some r) = (recs ++ [r], i + 1) := fun h w => by
        show (if isPic r = true then _ else if 0 < recs.length ∧ en = i then _ else _) = _
        rw [if_neg h, if_pos w]
      have s3 : ¬ isPic r = true → ¬ (0 < recs.length ∧ en = i) → stepC (recs, en) i (some r) = (recs, en) := fun h w => by
        show (if isPic r = true then _ else if 0 < recs.length ∧ en = i then _ else _) = _
        rw [if_neg h, if_neg w]
      refine ⟨hc, ?_⟩
      refine ifZ (fun z => ?_) fun z => ?_
      · have := hK' (some (.sh, .int (i : Int))) (some (.sh, recD r)) ([r], i + 1) (s1 (e2.1 (tx_inj z))).symm (by simp) (Nat.le_refl _)
        rw [show decide (0 < ([r], i + 1).1.length ∧ ([r], i + 1).2 = i + 1) = true from decide_eq_true ⟨Nat.one_pos, rfl⟩] at this
        simp only [List.map_cons, List.map_nil, e1, strT] at this
        exact ⟨by decide, hc, this⟩
      · have hp : ¬ isPic r = true := fun w => z (by rw [e2.2 w])
        by_cases w : 0 < recs.length ∧ en = i
        · rw [show decide (0 < (recs, en).1.length ∧ (recs, en).2 = i) = true from decide_eq_true w]
          rw [if_pos w]
          have := hK' (some (.sh, .int (i : Int))) (some (.sh, recD r)) (recs ++ [r], i + 1) (s2 hp w).symm (by simp; omega) (Nat.le_refl _)
          rw [show decide (0 < (recs ++ [r], i + 1).1.length ∧ (recs ++ [r], i + 1).2 = i + 1) = true from decide_eq_true ⟨by simp, rfl⟩] at this
          simp only [List.map_append, List.map_cons, List.map_nil, e1, strT] at this
          exact ⟨hc, by omega, this⟩
        · rw [show decide (0 < (recs, en).1.length ∧ (recs, en).2 = i) = false from decide_eq_false w]
          rw [if_neg w]
          have := hK' (some (.sh, .int (i : Int))) (some (.sh, recD r)) (recs, en) (s3 hp w).symm (by omega) (by omega)
          rw [show decide (0 < (recs, en).1.length ∧ (recs, en).2 = i + 1) = false from decide_eq_false fun w => by have : en = i + 1 := w.2; omega] at this
          simp only [e1, strT] at this
          exact this
  · rintro env ⟨x, y, rfl, hlen, hend⟩
    rw [List.take_length]
    simp only [w__law_counted_s4, wSeq, wSet, wRet, wRetN, wIf, wDrop, wFor, wNext, wBreak, wCont, wAppend, wSetIx, wAug, wFrz, wAsg, gN, gT, gNil', gCons', mL, mS, mLT, mMv, mIV, mRng, mRngV, mItems, mOp, mB, mC, mVar, mCons, mNil, mTup, mLst, mCB, mCall, mAnd, mOr, mNot, mAndV, mOrV, mNotV, mIf, mNeg, mSl, mNo, mPart, mPk, mChain2, mChain3, mFld, mComp, mComp2, cN, cT, cNil, cCons, mEnum, mYes, mRev, mLenSet, mLenSetG, mLenSetH, wAugIx, mMeth, mMethS, mFst, mJR, mMv2, wUnp, mTru, truD, mMake, wFld, wNever, setN, setF, fldD, String.reduceEq, List.mem_cons, List.mem_singleton, true_or, or_true, or_false, false_or, List.not_mem_nil, oCount, oSplit, oZfill, oLjust, oMulS, cMod, cDiv, cMul, oAdd, oSub, oMul, oDiv, oMod, oPow, oB, oI, oEq, oEqT, oGeT, oIndex, oIs, oIn, oIx, oMulI, oAddI, oSl, oRng1, oRng2, okL, okT, okS, fLen, fAbs, fInt, fStr, fMin, fMax, fSum, fSorted, fSortedW, fMinW, fList, fTuple, fIsi, fIsiC, tyOf, Ty.isi, ty_int, ty_bool, ty_str, ty_list, ty_tuple, ty_dict, isNon, eqOk_int, eqOk_non, eqOk_bl, eqD_int, eqD_bl, eqD_str, eqD_non, beq_self_eq_true, beq_iff_eq, Bool.and_self, atI_0, atI_1, atI_2, atI_3, atI_4, atI_5, atI_6, vw, vs, lendS, ownS, wipeE, ZL.frz, lendS, hasOb, env0, List.replicate_zero, List.replicate_succ, List.cons_append, Nat.reduceSub, List.map_cons, List.map_nil, List.getElem?_cons_zero, List.getElem?_cons_succ, List.getElem?_nil, List.set_cons_zero, List.set_cons_succ, List.length_cons, List.length_nil, List.length_set, Nat.reduceAdd, Nat.reduceLT, Nat.lt_add_one, Nat.zero_lt_succ, List.append_nil, List.nil_append, cln, clnS, clnL, clnX, List.all_cons, List.all_nil, Bool.and_true, Bool.true_and, and_true, true_and, if_true, if_false, Bool.false_eq_true, decide_eq_true_eq, Bool.true_or, Bool.or_true, Bool.false_or, Bool.or_false, decide_true, decide_false, Bool.and_false, Bool.false_and, reduceCtorEq, Int.reduceBEq, nc_0, nc_1, nc_2, nc_3, nc_4, nc_5, nc_6, Bool.not_true, Bool.not_false, reduceIte]
    exact ⟨by decide, by rw [clnL_of (all_map cln_rec _)], q⟩
theorem alk_int (n : Nat) (i : Int) : Alk (n + 1) (.int i) := .inl ⟨i, rfl⟩
theorem alk_str (n : Nat) (l : Tx) : Alk (n + 1) (strT l) := .inr (.inl ⟨_, rfl⟩)
theorem alk_tup {n : Nat} {ds : List D} (hl : ds.length ≤ 1000) (h : ∀ x ∈ ds, Alk n x) : Alk (n + 1) (.tup ds) := .inr (.inr ⟨ds, rfl, hl, h⟩)
theorem alk_nl (n : Nat) {ns : List Nat} (h : SmallN ns) : Alk (n + 2) (nlD ns) := alk_tup (by unfold natL; rw [List.length_map]; have := h.2; omega) fun x hx => by
  obtain ⟨m, _, rfl⟩ := List.mem_map.1 hx
  exact alk_int n _
theorem alk_rec {r : Rec} (g : Good r) : Alk 6 (recD r) := by
  cases r with
  | era n =>
    refine alk_tup (show 2 ≤ 1000 by decide) fun x hx => ?_
    simp only [List.mem_cons, List.not_mem_nil, or_false] at hx
    rcases hx with rfl | rfl
    · exact alk_str _ _
    · exact alk_str _ _
  | hd h es =>
    have he : Alk 5 (.tup (es.map entD)) := alk_tup (by rw [List.length_map]; have := g.sm.2.2; omega) fun x hx => by
      obtain ⟨e, _, rfl⟩ := List.mem_map.1 hx
      refine alk_tup (show 3 ≤ 1000 by decide) fun y hy => ?_
      simp only [List.mem_cons, List.not_mem_nil, or_false] at hy
      rcases hy with rfl | rfl | rfl
      · exact alk_int _ _
      · exact alk_int _ _
      · exact alk_int _ _
    have hh : ∀ x ∈ headL h, Alk 5 x := fun x hx => by
      cases h with
      | deal =>
        rw [List.mem_singleton.1 hx]
        exact alk_str _ _
      | put n ns =>
        simp only [headL, List.mem_cons, List.not_mem_nil, or_false] at hx
        rcases hx with rfl | rfl | rfl
        · exact alk_str _ _
        · exact alk_str _ _
        · exact alk_nl 3 (show SmallN ns from g.sm.1)
      | cap a b =>
        simp only [headL, List.mem_cons, List.not_mem_nil, or_false] at hx
        rcases hx with rfl | rfl | rfl
        · exact alk_str _ _
        · exact alk_int _ _
        · exact alk_int _ _
      | pic cs ns =>
        have hs : SmallN cs ∧ (∀ p ∈ ns, SmallN p.2) ∧ ns.length ≤ 2 := g.sm.1
        simp only [headL, List.mem_cons, List.not_mem_nil, or_false] at hx
        rcases hx with rfl | rfl | rfl
        · exact alk_str _ _
        · exact alk_nl 3 hs.1
        · refine alk_tup (by rw [List.length_map]; have := hs.2.2; omega) fun y hy => ?_
          obtain ⟨p, hp, rfl⟩ := List.mem_map.1 hy
          refine alk_tup (show 2 ≤ 1000 by decide) fun z hz => ?_
          simp only [List.mem_cons, List.not_mem_nil, or_false] at hz
          rcases hz with rfl | rfl
          · exact alk_str _ _
          · exact alk_nl 1 (hs.2.1 p hp)
    refine alk_tup ?_ fun x hx => ?_
    · have : (headL h).length ≤ 3 := by cases h <;> simp [headL]
      rw [List.length_append, List.length_singleton]
      omega
    · rcases List.mem_append.1 hx with hx | hx
      · exact hh x hx
      · rw [List.mem_singleton.1 hx]
        exact he
theorem u__law_reads : ∀ ds Q E, sp__law_reads ds Q E → w__law_reads (env0 N__law_reads ds) (ends0 Q E) := by
  intro ds Q E h
  obtain ⟨ps, rfl, hl, hp, q⟩ := h
  have hz : 3000 ≤ sizeLine := by decide
  have e1 : (ps.map fun p => strT p.1) = (ps.map (·.1)).map strT := by rw [List.map_map]; rfl
  have ok : AllT (ps.map (·.1)) := ⟨fun w hw => by
    obtain ⟨p, h, rfl⟩ := List.mem_map.1 hw
    exact (hp p h).ok, by rw [List.length_map]; exact hl⟩
  have e2 : (ps.map (·.1)).map recO = ps.map (·.2) := by
    rw [List.map_map]
    exact List.map_congr_left fun p h => (hp p h).rd
  have e3 : cntT (ps.map (·.1)) = cntP ps := by unfold cntT cntP; rw [e2]
  have hlen := (cnt_len (ps.map (·.2)) 0 ([], 0) (Nat.zero_le _)).1
  rw [List.length_map, Nat.zero_add] at hlen
  have hgood : ∀ r ∈ (cntP ps).1, Good r := fun r hr => by
    rcases cnt_mem _ _ _ r hr with h | h
    · cases h
    · obtain ⟨p, h1, h2⟩ := List.mem_map.1 h
      exact (hp p h1).sm r h2
  have hclr : ((cntP ps).1.map recD).all (fun x => clnS x) = true := all_map cln_rec _
  rw [e1]
  simp only [w__law_reads, w__law_reads_s0, w__law_reads_s1, w__law_reads_s2, w__law_reads_s3, w__law_reads_s4, N__law_reads, sp__law_counted, sp_read_log, sp__law_alike, sps__law_alike, sp_log_end, wSeq, wSet, wRet, wRetN, wIf, wDrop, wFor, wNext, wBreak, wCont, wAppend, wSetIx, wAug, wFrz, wAsg, gN, gT, gNil', gCons', mL, mS, mLT, mMv, mIV, mRng, mRngV, mItems, mOp, mB, mC, mVar, mCons, mNil, mTup, mLst, mCB, mCall, mAnd, mOr, mNot, mAndV, mOrV, mNotV, mIf, mNeg, mSl, mNo, mPart, mPk, mChain2, mChain3, mFld, mComp, mComp2, cN, cT, cNil, cCons, mEnum, mYes, mRev, mLenSet, mLenSetG, mLenSetH, wAugIx, mMeth, mMethS, mFst, mJR, mMv2, wUnp, mTru, truD, mMake, wFld, wNever, setN, setF, fldD, String.reduceEq, List.mem_cons, List.mem_singleton, true_or, or_true, or_false, false_or, List.not_mem_nil, oCount, oSplit, oZfill, oLjust, oMulS, cMod, cDiv, cMul, oAdd, oSub, oMul, oDiv, oMod, oPow, oB, oI, oEq, oEqT, oGeT, oIndex, oIs, oIn, oIx, oMulI, oAddI, oSl, oRng1, oRng2, okL, okT, okS, fLen, fAbs, fInt, fStr, fMin, fMax, fSum, fSorted, fSortedW, fMinW, fList, fTuple, fIsi, fIsiC, tyOf, Ty.isi, ty_int, ty_bool, ty_str, ty_list, ty_tuple, ty_dict, isNon, eqOk_int, eqOk_non, eqOk_bl, eqD_int, eqD_bl, eqD_str, eqD_non, beq_self_eq_true, beq_iff_eq, Bool.and_self, atI_0, atI_1, atI_2, atI_3, atI_4, atI_5, atI_6, vw, vs, lendS, ownS, wipeE, ZL.frz, lendS, hasOb, env0, List.replicate_zero, List.replicate_succ, List.cons_append, Nat.reduceSub, List.map_cons, List.map_nil, List.getElem?_cons_zero, List.getElem?_cons_succ, List.getElem?_nil, List.set_cons_zero, List.set_cons_succ, List.length_cons, List.length_nil, List.length_set, Nat.reduceAdd, Nat.reduceLT, Nat.lt_add_one, Nat.zero_lt_succ, List.append_nil, List.nil_append, cln, clnS, clnL, clnX, List.all_cons, List.all_nil, Bool.and_true, Bool.true_and, and_true, true_and, if_true, if_false, Bool.false_eq_true, decide_eq_true_eq, Bool.true_or, Bool.or_true, Bool.false_or, Bool.or_false, decide_true, decide_false, Bool.and_false, Bool.false_and, reduceCtorEq, Int.reduceBEq, nc_0, nc_1, nc_2, nc_3, nc_4, nc_5, nc_6, Bool.not_true, Bool.not_false, reduceIte]
  refine ⟨ps, rfl, hl, ?_⟩
  have halk : Alk 7 (.tup ((cntP ps).1.map recD)) := alk_tup (by rw [List.length_map]; exact Nat.le_trans hlen hl) fun x hx => by
    obtain ⟨r, hr, rfl⟩ := List.mem_map.1 hx
    exact alk_rec (hgood r hr)
  refine ⟨clnL_of hclr, ps.map (·.1), rfl, ok, by rw [e3]; exact hclr, .tup ((cntP ps).1.map recD), by rw [e3], halk, by decide, by rw [e3, List.length_map]; exact Nat.lt_of_le_of_lt (Nat.le_trans hlen hl) (by decide), ps.map (·.1), rfl, ok, ?_⟩
  rw [e3]
  simp only [w__law_reads_s5, sp__law_is_integer, wSeq, wSet, wRet, wRetN, wIf, wDrop, wFor, wNext, wBreak, wCont, wAppend, wSetIx, wAug, wFrz, wAsg, gN, gT, gNil', gCons', mL, mS, mLT, mMv, mIV, mRng, mRngV, mItems, mOp, mB, mC, mVar, mCons, mNil, mTup, mLst, mCB, mCall, mAnd, mOr, mNot, mAndV, mOrV, mNotV, mIf, mNeg, mSl, mNo, mPart, mPk, mChain2, mChain3, mFld, mComp, mComp2, cN, cT, cNil, cCons, mEnum, mYes, mRev, mLenSet, mLenSetG, mLenSetH, wAugIx, mMeth, mMethS, mFst, mJR, mMv2, wUnp, mTru, truD, mMake, wFld, wNever, setN, setF, fldD, String.reduceEq, List.mem_cons, List.mem_singleton, true_or, or_true, or_false, false_or, List.not_mem_nil, oCount, oSplit, oZfill, oLjust, oMulS, cMod, cDiv, cMul, oAdd, oSub, oMul, oDiv, oMod, oPow, oB, oI, oEq, oEqT, oGeT, oIndex, oIs, oIn, oIx, oMulI, oAddI, oSl, oRng1, oRng2, okL, okT, okS, fLen, fAbs, fInt, fStr, fMin, fMax, fSum, fSorted, fSortedW, fMinW, fList, fTuple, fIsi, fIsiC, tyOf, Ty.isi, ty_int, ty_bool, ty_str, ty_list, ty_tuple, ty_dict, isNon, eqOk_int, eqOk_non, eqOk_bl, eqD_int, eqD_bl, eqD_str, eqD_non, beq_self_eq_true, beq_iff_eq, Bool.and_self, atI_0, atI_1, atI_2, atI_3, atI_4, atI_5, atI_6, vw, vs, lendS, ownS, wipeE, ZL.frz, lendS, hasOb, env0, List.replicate_zero, List.replicate_succ, List.cons_append, Nat.reduceSub, List.map_cons, List.map_nil, List.getElem?_cons_zero, List.getElem?_cons_succ, List.getElem?_nil, List.set_cons_zero, List.set_cons_succ, List.length_cons, List.length_nil, List.length_set, Nat.reduceAdd, Nat.reduceLT, Nat.lt_add_one, Nat.zero_lt_succ, List.append_nil, List.nil_append, cln, clnS, clnL, clnX, List.all_cons, List.all_nil, Bool.and_true, Bool.true_and, and_true, true_and, if_true, if_false, Bool.false_eq_true, decide_eq_true_eq, Bool.true_or, Bool.or_true, Bool.false_or, Bool.or_false, decide_true, decide_false, Bool.and_false, Bool.false_and, reduceCtorEq, Int.reduceBEq, nc_0, nc_1, nc_2, nc_3, nc_4, nc_5, nc_6, Bool.not_true, Bool.not_false, reduceIte]
  refine ⟨_, rfl, ?_⟩
  refine comp_map ps prD (fun p => strT p.1) (fun p hp' K hK => ?_) (by omega) ?_
  · unfold prD
    simp only [wSeq, wSet, wRet, wRetN, wIf, wDrop, wFor, wNext, wBreak, wCont, wAppend, wSetIx, wAug, wFrz, wAsg, gN, gT, gNil', gCons', mL, mS, mLT, mMv, mIV, mRng, mRngV, mItems, mOp, mB, mC, mVar, mCons, mNil, mTup, mLst, mCB, mCall, mAnd, mOr, mNot, mAndV, mOrV, mNotV, mIf, mNeg, mSl, mNo, mPart, mPk, mChain2, mChain3, mFld, mComp, mComp2, cN, cT, cNil, cCons, mEnum, mYes, mRev, mLenSet, mLenSetG, mLenSetH, wAugIx, mMeth, mMethS, mFst, mJR, mMv2, wUnp, mTru, truD, mMake, wFld, wNever, setN, setF, fldD, String.reduceEq, List.mem_cons, List.mem_singleton, true_or, or_true, or_false, false_or, List.not_mem_nil, oCount, oSplit, oZfill, oLjust, oMulS, cMod, cDiv, cMul, oAdd, oSub, oMul, oDiv, oMod, oPow, oB, oI, oEq, oEqT, oGeT, oIndex, oIs, oIn, oIx, oMulI, oAddI, oSl, oRng1, oRng2, okL, okT, okS, fLen, fAbs, fInt, fStr, fMin, fMax, fSum, fSorted, fSortedW, fMinW, fList, fTuple, fIsi, fIsiC, tyOf, Ty.isi, ty_int, ty_bool, ty_str, ty_list, ty_tuple, ty_dict, isNon, eqOk_int, eqOk_non, eqOk_bl, eqD_int, eqD_bl, eqD_str, eqD_non, beq_self_eq_true, beq_iff_eq, Bool.and_self, atI_0, atI_1, atI_2, atI_3, atI_4, atI_5, atI_6, vw, vs, lendS, ownS, wipeE, ZL.frz, lendS, hasOb, env0, List.replicate_zero, List.replicate_succ, List.cons_append, Nat.reduceSub, List.map_cons, List.map_nil, List.getElem?_cons_zero, List.getElem?_cons_succ, List.getElem?_nil, List.set_cons_zero, List.set_cons_succ, List.length_cons, List.length_nil, List.length_set, Nat.reduceAdd, Nat.reduceLT, Nat.lt_add_one, Nat.zero_lt_succ, List.append_nil, List.nil_append, cln, clnS, clnL, clnX, List.all_cons, List.all_nil, Bool.and_true, Bool.true_and, and_true, true_and, if_true, if_false, Bool.false_eq_true, decide_eq_true_eq, Bool.true_or, Bool.or_true, Bool.false_or, Bool.or_false, decide_true, decide_false, Bool.and_false, Bool.false_and, reduceCtorEq, Int.reduceBEq, nc_0, nc_1, nc_2, nc_3, nc_4, nc_5, nc_6, Bool.not_true, Bool.not_false, reduceIte]
    exact hK
  · rw [e1, eqOk_strs ok.1, eqD_self]
    exact ⟨rfl, q⟩

end ZL.K30


namespace ZL.K30
open PySem PySem.Spec PyProof.Rows L2 ZL
structure RowS (L : List D) (k : Nat) (a : Nat → Nat) : Prop where
  at_ : ∀ j : Nat, j < 15 → atI L ((k : Int) + (j : Int)) = some (.int (a j : Int))
  b : ∀ j s, sizesS[j]? = some s → (a j : Int) < s
theorem row_of {pre rs post : List Int} {k : Nat} (hk : pre.length = k) (dr : DrawOk sizesS rs) : RowS (il (pre ++ rs ++ post)) k (fun j => (rs.getD j 0).toNat) := by
  have hg : ∀ j s, sizesS[j]? = some s → ∃ r : Int, rs[j]? = some r ∧ 0 ≤ r ∧ r < s := fun j s e => dr.get e
  refine ⟨fun j hj => ?_, fun j s e => ?_⟩
  · obtain ⟨s, es⟩ : ∃ s, sizesS[j]? = some s := ⟨_, List.getElem?_eq_getElem (show j < sizesS.length from hj)⟩
    obtain ⟨r, er, h0, h1⟩ := hg j s es
    have hj2 := (List.getElem?_eq_some_iff.1 er).1
    have e1 : (pre ++ rs ++ post)[k + j]? = some r := by
      rw [List.append_assoc, List.getElem?_append_right (by omega), List.getElem?_append_left (by omega), hk, Nat.add_sub_cancel_left, er]
    have e2 := at_il e1
    rw [show ((k + j : Nat) : Int) = (k : Int) + (j : Int) by omega] at e2
    rw [e2, List.getD_eq_getElem?_getD, er]
    show some (D.int r) = some (D.int ((r.toNat : Nat) : Int))
    rw [Int.toNat_of_nonneg h0]
  · obtain ⟨r, er, h0, h1⟩ := hg j s e
    show (((rs.getD j 0).toNat : Nat) : Int) < s
    rw [List.getD_eq_getElem?_getD, er]
    show ((r.toNat : Nat) : Int) < s
    rw [Int.toNat_of_nonneg h0]
    exact h1
def numsS (a : Nat → Nat) : List Nat := (List.range (a 3)).map fun i => 1 + a 5 + i * (a 6 + 1)
def othsS (a : Nat → Nat) : List Nat := (List.range (a 4)).map fun i => 2 + a 6 + 3 * i
def wardS (a : Nat → Nat) (i : Nat) : Ent := (1 + a 8 + i * (a 6 + 1), a (9 + 2 * i), a (9 + 2 * i) + 1 + a (10 + 2 * i))
def capsS (a : Nat → Nat) : List Nat := (List.range (a 13 + 1)).map fun i => (a 14 + 13 * i) % 41
theorem natL_range (n : Nat) (f : Nat → Nat) : (List.range n).map (fun i => D.int ((f i : Nat) : Int)) = natL ((List.range n).map f) := by
  unfold natL
  rw [List.map_map]
  rfl
theorem cln_natL (ns : List Nat) : clnL (natL ns) = true := clnL_of (all_map (fun _ => rfl) ns)
theorem small_s0 {L : List D} {k : Nat} {a : Nat → Nat} (ra : RowS L k a) (e2 e3 : D) (Z : ZEnds)
    (h : Z.nx [some (.sh, .lst L), some (.sh, .int (k : Int)), some (.sh, e2), some (.sh, e3), some (.sh, nlD (numsS a)), none, none, none, none, none, none, none, none]) :
    w__law_small_s0 [some (.sh, .lst L), some (.sh, .int (k : Int)), some (.sh, e2), some (.sh, e3), none, none, none, none, none, none, none, none, none] Z := by
  have h3 : atI L ((k : Int) + 3) = some (.int (a 3 : Int)) := ra.at_ 3 (by decide)
  have h5 : atI L ((k : Int) + 5) = some (.int (a 5 : Int)) := ra.at_ 5 (by decide)
  have h6 : atI L ((k : Int) + 6) = some (.int (a 6 : Int)) := ra.at_ 6 (by decide)
  have b3 := ra.b 3 4 rfl
  have b5 := ra.b 5 900 rfl
  have b6 := ra.b 6 90 rfl
  have hz : 3000 ≤ sizeLine := by decide
  simp only [w__law_small_s0, wSeq, wSet, wRet, wRetN, wIf, wDrop, wFor, wNext, wBreak, wCont, wAppend, wSetIx, wAug, wFrz, wAsg, gN, gT, gNil', gCons', mL, mS, mLT, mMv, mIV, mRng, mRngV, mItems, mOp, mB, mC, mVar, mCons, mNil, mTup, mLst, mCB, mCall, mAnd, mOr, mNot, mAndV, mOrV, mNotV, mIf, mNeg, mSl, mNo, mPart, mPk, mChain2, mChain3, mFld, mComp, mComp2, cN, cT, cNil, cCons, mEnum, mYes, mRev, mLenSet, mLenSetG, mLenSetH, wAugIx, mMeth, mMethS, mFst, mJR, mMv2, wUnp, mTru, truD, mMake, wFld, wNever, setN, setF, fldD, String.reduceEq, List.mem_cons, List.mem_singleton, true_or, or_true, or_false, false_or, List.not_mem_nil, oCount, oSplit, oZfill, oLjust, oMulS, cMod, cDiv, cMul, oAdd, oSub, oMul, oDiv, oMod, oPow, oB, oI, oEq, oEqT, oGeT, oIndex, oIs, oIn, oIx, oMulI, oAddI, oSl, oRng1, oRng2, okL, okT, okS, fLen, fAbs, fInt, fStr, fMin, fMax, fSum, fSorted, fSortedW, fMinW, fList, fTuple, fIsi, fIsiC, tyOf, Ty.isi, ty_int, ty_bool, ty_str, ty_list, ty_tuple, ty_dict, isNon, eqOk_int, eqOk_non, eqOk_bl, eqD_int, eqD_bl, eqD_str, eqD_non, beq_self_eq_true, beq_iff_eq, Bool.and_self, atI_0, atI_1, atI_2, atI_3, atI_4, atI_5, atI_6, vw, vs, lendS, ownS, wipeE, ZL.frz, lendS, hasOb, env0, List.replicate_zero, List.replicate_succ, List.cons_append, Nat.reduceSub, List.map_cons, List.map_nil, List.getElem?_cons_zero, List.getElem?_cons_succ, List.getElem?_nil, List.set_cons_zero, List.set_cons_succ, List.length_cons, List.length_nil, List.length_set, Nat.reduceAdd, Nat.reduceLT, Nat.lt_add_one, Nat.zero_lt_succ, List.append_nil, List.nil_append, cln, clnS, clnL, clnX, List.all_cons, List.all_nil, Bool.and_true, Bool.true_and, and_true, true_and, if_true, if_false, Bool.false_eq_true, decide_eq_true_eq, Bool.true_or, Bool.or_true, Bool.false_or, Bool.or_false, decide_true, decide_false, Bool.and_false, Bool.false_and, reduceCtorEq, Int.reduceBEq, nc_0, nc_1, nc_2, nc_3, nc_4, nc_5, nc_6, Bool.not_true, Bool.not_false, reduceIte, h3, h5, h6, Int.toNat_natCast, rangeD_zero]
  refine ⟨by omega, ?_⟩
  refine comp_map (List.range (a 3)) _ (fun i => D.int ((1 + a 5 + i * (a 6 + 1) : Nat) : Int)) (fun i hi K hK => ?_) (by rw [List.length_range]; omega) ?_
  · have hi := List.mem_range.1 hi
    simp only [wSeq, wSet, wRet, wRetN, wIf, wDrop, wFor, wNext, wBreak, wCont, wAppend, wSetIx, wAug, wFrz, wAsg, gN, gT, gNil', gCons', mL, mS, mLT, mMv, mIV, mRng, mRngV, mItems, mOp, mB, mC, mVar, mCons, mNil, mTup, mLst, mCB, mCall, mAnd, mOr, mNot, mAndV, mOrV, mNotV, mIf, mNeg, mSl, mNo, mPart, mPk, mChain2, mChain3, mFld, mComp, mComp2, cN, cT, cNil, cCons, mEnum, mYes, mRev, mLenSet, mLenSetG, mLenSetH, wAugIx, mMeth, mMethS, mFst, mJR, mMv2, wUnp, mTru, truD, mMake, wFld, wNever, setN, setF, fldD, String.reduceEq, List.mem_cons, List.mem_singleton, true_or, or_true, or_false, false_or, List.not_mem_nil, oCount, oSplit, oZfill, oLjust, oMulS, cMod, cDiv, cMul, oAdd, oSub, oMul, oDiv, oMod, oPow, oB, oI, oEq, oEqT, oGeT, oIndex, oIs, oIn, oIx, oMulI, oAddI, oSl, oRng1, oRng2, okL, okT, okS, fLen, fAbs, fInt, fStr, fMin, fMax, fSum, fSorted, fSortedW, fMinW, fList, fTuple, fIsi, fIsiC, tyOf, Ty.isi, ty_int, ty_bool, ty_str, ty_list, ty_tuple, ty_dict, isNon, eqOk_int, eqOk_non, eqOk_bl, eqD_int, eqD_bl, eqD_str, eqD_non, beq_self_eq_true, beq_iff_eq, Bool.and_self, atI_0, atI_1, atI_2, atI_3, atI_4, atI_5, atI_6, vw, vs, lendS, ownS, wipeE, ZL.frz, lendS, hasOb, env0, List.replicate_zero, List.replicate_succ, List.cons_append, Nat.reduceSub, List.map_cons, List.map_nil, List.getElem?_cons_zero, List.getElem?_cons_succ, List.getElem?_nil, List.set_cons_zero, List.set_cons_succ, List.length_cons, List.length_nil, List.length_set, Nat.reduceAdd, Nat.reduceLT, Nat.lt_add_one, Nat.zero_lt_succ, List.append_nil, List.nil_append, cln, clnS, clnL, clnX, List.all_cons, List.all_nil, Bool.and_true, Bool.true_and, and_true, true_and, if_true, if_false, Bool.false_eq_true, decide_eq_true_eq, Bool.true_or, Bool.or_true, Bool.false_or, Bool.or_false, decide_true, decide_false, Bool.and_false, Bool.false_and, reduceCtorEq, Int.reduceBEq, nc_0, nc_1, nc_2, nc_3, nc_4, nc_5, nc_6, Bool.not_true, Bool.not_false, reduceIte, h5, h6]
    have e : (1 : Int) + (a 5 : Int) + (i : Int) * ((a 6 : Int) + 1) = ((1 + a 5 + i * (a 6 + 1) : Nat) : Int) := by push_cast; rfl
    rw [e]
    exact ⟨⟨fit_of (by omega) (by omega), fit_of (by omega) (by omega)⟩, hK⟩
  · rw [natL_range (a 3) fun i => 1 + a 5 + i * (a 6 + 1)]
    exact ⟨cln_natL _, h⟩
theorem small_s1 {L : List D} {k : Nat} {a : Nat → Nat} (ra : RowS L k a) (e2 e3 e4 : D) (Z : ZEnds)
    (h : Z.nx [some (.sh, .lst L), some (.sh, .int (k : Int)), some (.sh, e2), some (.sh, e3), some (.sh, e4), some (.sh, nlD (othsS a)), none, none, none, none, none, none, none]) :
    w__law_small_s1 [some (.sh, .lst L), some (.sh, .int (k : Int)), some (.sh, e2), some (.sh, e3), some (.sh, e4), none, none, none, none, none, none, none, none] Z := by
  have h4 : atI L ((k : Int) + 4) = some (.int (a 4 : Int)) := ra.at_ 4 (by decide)
  have h6 : atI L ((k : Int) + 6) = some (.int (a 6 : Int)) := ra.at_ 6 (by decide)
  have b4 := ra.b 4 3 rfl
  have b6 := ra.b 6 90 rfl
  have hz : 3000 ≤ sizeLine := by decide
  simp only [w__law_small_s1, wSeq, wSet, wRet, wRetN, wIf, wDrop, wFor, wNext, wBreak, wCont, wAppend, wSetIx, wAug, wFrz, wAsg, gN, gT, gNil', gCons', mL, mS, mLT, mMv, mIV, mRng, mRngV, mItems, mOp, mB, mC, mVar, mCons, mNil, mTup, mLst, mCB, mCall, mAnd, mOr, mNot, mAndV, mOrV, mNotV, mIf, mNeg, mSl, mNo, mPart, mPk, mChain2, mChain3, mFld, mComp, mComp2, cN, cT, cNil, cCons, mEnum, mYes, mRev, mLenSet, mLenSetG, mLenSetH, wAugIx, mMeth, mMethS, mFst, mJR, mMv2, wUnp, mTru, truD, mMake, wFld, wNever, setN, setF, fldD, String.reduceEq, List.mem_cons, List.mem_singleton, true_or, or_true, or_false, false_or, List.not_mem_nil, oCount, oSplit, oZfill, oLjust, oMulS, cMod, cDiv, cMul, oAdd, oSub, oMul, oDiv, oMod, oPow, oB, oI, oEq, oEqT, oGeT, oIndex, oIs, oIn, oIx, oMulI, oAddI, oSl, oRng1, oRng2, okL, okT, okS, fLen, fAbs, fInt, fStr, fMin, fMax, fSum, fSorted, fSortedW, fMinW, fList, fTuple, fIsi, fIsiC, tyOf, Ty.isi, ty_int, ty_bool, ty_str, ty_list, ty_tuple, ty_dict, isNon, eqOk_int, eqOk_non, eqOk_bl, eqD_int, eqD_bl, eqD_str, eqD_non, beq_self_eq_true, beq_iff_eq, Bool.and_self, atI_0, atI_1, atI_2, atI_3, atI_4, atI_5, atI_6, vw, vs, lendS, ownS, wipeE, ZL.frz, lendS, hasOb, env0, List.replicate_zero, List.replicate_succ, List.cons_append, Nat.reduceSub, List.map_cons, List.map_nil, List.getElem?_cons_zero, List.getElem?_cons_succ, List.getElem?_nil, List.set_cons_zero, List.set_cons_succ, List.length_cons, List.length_nil, List.length_set, Nat.reduceAdd, Nat.reduceLT, Nat.lt_add_one, Nat.zero_lt_succ, List.append_nil, List.nil_append, cln, clnS, clnL, clnX, List.all_cons, List.all_nil, Bool.and_true, Bool.true_and, and_true, true_and, if_true, if_false, Bool.false_eq_true, decide_eq_true_eq, Bool.true_or, Bool.or_true, Bool.false_or, Bool.or_false, decide_true, decide_false, Bool.and_false, Bool.false_and, reduceCtorEq, Int.reduceBEq, nc_0, nc_1, nc_2, nc_3, nc_4, nc_5, nc_6, Bool.not_true, Bool.not_false, reduceIte, h4, h6, Int.toNat_natCast, rangeD_zero]
  refine ⟨by omega, ?_⟩
  refine comp_map (List.range (a 4)) _ (fun i => D.int ((2 + a 6 + 3 * i : Nat) : Int)) (fun i hi K hK => ?_) (by rw [List.length_range]; omega) ?_
  · have hi := List.mem_range.1 hi
    simp only [wSeq, wSet, wRet, wRetN, wIf, wDrop, wFor, wNext, wBreak, wCont, wAppend, wSetIx, wAug, wFrz, wAsg, gN, gT, gNil', gCons', mL, mS, mLT, mMv, mIV, mRng, mRngV, mItems, mOp, mB, mC, mVar, mCons, mNil, mTup, mLst, mCB, mCall, mAnd, mOr, mNot, mAndV, mOrV, mNotV, mIf, mNeg, mSl, mNo, mPart, mPk, mChain2, mChain3, mFld, mComp, mComp2, cN, cT, cNil, cCons, mEnum, mYes, mRev, mLenSet, mLenSetG, mLenSetH, wAugIx, mMeth, mMethS, mFst, mJR, mMv2, wUnp, mTru, truD, mMake, wFld, wNever, setN, setF, fldD, String.reduceEq, List.mem_cons, List.mem_singleton, true_or, or_true, or_false, false_or, List.not_mem_nil, oCount, oSplit, oZfill, oLjust, oMulS, cMod, cDiv, cMul, oAdd, oSub, oMul, oDiv, oMod, oPow, oB, oI, oEq, oEqT, oGeT, oIndex, oIs, oIn, oIx, oMulI, oAddI, oSl, oRng1, oRng2, okL, okT, okS, fLen, fAbs, fInt, fStr, fMin, fMax, fSum, fSorted, fSortedW, fMinW, fList, fTuple, fIsi, fIsiC, tyOf, Ty.isi, ty_int, ty_bool, ty_str, ty_list, ty_tuple, ty_dict, isNon, eqOk_int, eqOk_non, eqOk_bl, eqD_int, eqD_bl, eqD_str, eqD_non, beq_self_eq_true, beq_iff_eq, Bool.and_self, atI_0, atI_1, atI_2, atI_3, atI_4, atI_5, atI_6, vw, vs, lendS, ownS, wipeE, ZL.frz, lendS, hasOb, env0, List.replicate_zero, List.replicate_succ, List.cons_append, Nat.reduceSub, List.map_cons, List.map_nil, List.getElem?_cons_zero, List.getElem?_cons_succ, List.getElem?_nil, List.set_cons_zero, List.set_cons_succ, List.length_cons, List.length_nil, List.length_set, Nat.reduceAdd, Nat.reduceLT, Nat.lt_add_one, Nat.zero_lt_succ, List.append_nil, List.nil_append, cln, clnS, clnL, clnX, List.all_cons, List.all_nil, Bool.and_true, Bool.true_and, and_true, true_and, if_true, if_false, Bool.false_eq_true, decide_eq_true_eq, Bool.true_or, Bool.or_true, Bool.false_or, Bool.or_false, decide_true, decide_false, Bool.and_false, Bool.false_and, reduceCtorEq, Int.reduceBEq, nc_0, nc_1, nc_2, nc_3, nc_4, nc_5, nc_6, Bool.not_true, Bool.not_false, reduceIte, h6]
    have e : (2 : Int) + (a 6 : Int) + 3 * (i : Int) = ((2 + a 6 + 3 * i : Nat) : Int) := by push_cast; rfl
    rw [e]
    exact ⟨⟨fit_of (by omega) (by omega), fit_of (by omega) (by omega)⟩, hK⟩
  · rw [natL_range (a 4) fun i => 2 + a 6 + 3 * i]
    exact ⟨cln_natL _, h⟩
theorem small_s3 {L : List D} {k : Nat} {a : Nat → Nat} (ra : RowS L k a) (e2 e3 e4 e5 : D) (Z : ZEnds)
    (h : ∀ x7 x10, Z.nx [some (.sh, .lst L), some (.sh, .int (k : Int)), some (.sh, e2), some (.sh, e3), some (.sh, e4), some (.sh, e5), some (.ls .sh, .lst (((List.range (a 7)).map (wardS a)).map entD)), x7, none, none, x10, none, none]) :
    w__law_small_s3 [some (.sh, .lst L), some (.sh, .int (k : Int)), some (.sh, e2), some (.sh, e3), some (.sh, e4), some (.sh, e5), some (.ls .sh, .lst []), none, none, none, none, none, none] Z := by
  have h7 : atI L ((k : Int) + 7) = some (.int (a 7 : Int)) := ra.at_ 7 (by decide)
  have h6 : atI L ((k : Int) + 6) = some (.int (a 6 : Int)) := ra.at_ 6 (by decide)
  have h8 : atI L ((k : Int) + 8) = some (.int (a 8 : Int)) := ra.at_ 8 (by decide)
  have b7 := ra.b 7 3 rfl
  have b6 := ra.b 6 90 rfl
  have b8 := ra.b 8 900 rfl
  have hz : 3000 ≤ sizeLine := by decide
  simp only [w__law_small_s3, wSeq, wSet, wRet, wRetN, wIf, wDrop, wFor, wNext, wBreak, wCont, wAppend, wSetIx, wAug, wFrz, wAsg, gN, gT, gNil', gCons', mL, mS, mLT, mMv, mIV, mRng, mRngV, mItems, mOp, mB, mC, mVar, mCons, mNil, mTup, mLst, mCB, mCall, mAnd, mOr, mNot, mAndV, mOrV, mNotV, mIf, mNeg, mSl, mNo, mPart, mPk, mChain2, mChain3, mFld, mComp, mComp2, cN, cT, cNil, cCons, mEnum, mYes, mRev, mLenSet, mLenSetG, mLenSetH, wAugIx, mMeth, mMethS, mFst, mJR, mMv2, wUnp, mTru, truD, mMake, wFld, wNever, setN, setF, fldD, String.reduceEq, List.mem_cons, List.mem_singleton, true_or, or_true, or_false, false_or, List.not_mem_nil, oCount, oSplit, oZfill, oLjust, oMulS, cMod, cDiv, cMul, oAdd, oSub, oMul, oDiv, oMod, oPow, oB, oI, oEq, oEqT, oGeT, oIndex, oIs, oIn, oIx, oMulI, oAddI, oSl, oRng1, oRng2, okL, okT, okS, fLen, fAbs, fInt, fStr, fMin, fMax, fSum, fSorted, fSortedW, fMinW, fList, fTuple, fIsi, fIsiC, tyOf, Ty.isi, ty_int, ty_bool, ty_str, ty_list, ty_tuple, ty_dict, isNon, eqOk_int, eqOk_non, eqOk_bl, eqD_int, eqD_bl, eqD_str, eqD_non, beq_self_eq_true, beq_iff_eq, Bool.and_self, atI_0, atI_1, atI_2, atI_3, atI_4, atI_5, atI_6, vw, vs, lendS, ownS, wipeE, ZL.frz, lendS, hasOb, env0, List.replicate_zero, List.replicate_succ, List.cons_append, Nat.reduceSub, List.map_cons, List.map_nil, List.getElem?_cons_zero, List.getElem?_cons_succ, List.getElem?_nil, List.set_cons_zero, List.set_cons_succ, List.length_cons, List.length_nil, List.length_set, Nat.reduceAdd, Nat.reduceLT, Nat.lt_add_one, Nat.zero_lt_succ, List.append_nil, List.nil_append, cln, clnS, clnL, clnX, List.all_cons, List.all_nil, Bool.and_true, Bool.true_and, and_true, true_and, if_true, if_false, Bool.false_eq_true, decide_eq_true_eq, Bool.true_or, Bool.or_true, Bool.false_or, Bool.or_false, decide_true, decide_false, Bool.and_false, Bool.false_and, reduceCtorEq, Int.reduceBEq, nc_0, nc_1, nc_2, nc_3, nc_4, nc_5, nc_6, Bool.not_true, Bool.not_false, reduceIte, h7, Int.toNat_natCast]
  refine ⟨by omega, ?_⟩
  refine for_range (fun i env => ∃ x7 x10, env = [some (.sh, .lst L), some (.sh, .int (k : Int)), some (.sh, e2), some (.sh, e3), some (.sh, e4), some (.sh, e5), some (.ls .sh, .lst (((List.range i).map (wardS a)).map entD)), x7, none, none, x10, none, none]) ⟨none, none, rfl⟩ ?_ ?_
  · rintro i hi env K ⟨x7, x10, rfl⟩ hK
    have h9 : atI L ((k : Int) + 9 + 2 * (i : Int)) = some (.int (a (9 + 2 * i) : Int)) := by
      have := ra.at_ (9 + 2 * i) (by omega)
      rw [← this]
      congr 1
      omega
    have h10 : atI L ((k : Int) + 10 + 2 * (i : Int)) = some (.int (a (10 + 2 * i) : Int)) := by
      have := ra.at_ (10 + 2 * i) (by omega)
      rw [← this]
      congr 1
      omega
    simp only [wSeq, wSet, wRet, wRetN, wIf, wDrop, wFor, wNext, wBreak, wCont, wAppend, wSetIx, wAug, wFrz, wAsg, gN, gT, gNil', gCons', mL, mS, mLT, mMv, mIV, mRng, mRngV, mItems, mOp, mB, mC, mVar, mCons, mNil, mTup, mLst, mCB, mCall, mAnd, mOr, mNot, mAndV, mOrV, mNotV, mIf, mNeg, mSl, mNo, mPart, mPk, mChain2, mChain3, mFld, mComp, mComp2, cN, cT, cNil, cCons, mEnum, mYes, mRev, mLenSet, mLenSetG, mLenSetH, wAugIx, mMeth, mMethS, mFst, mJR, mMv2, wUnp, mTru, truD, mMake, wFld, wNever, setN, setF, fldD, String.reduceEq, List.mem_cons, List.mem_singleton, true_or, or_true, or_false, false_or, List.not_mem_nil, oCount, oSplit, oZfill, oLjust, oMulS, cMod, cDiv, cMul, oAdd, oSub, oMul, oDiv, oMod, oPow, oB, oI, oEq, oEqT, oGeT, oIndex, oIs, oIn, oIx, oMulI, oAddI, oSl, oRng1, oRng2, okL, okT, okS, fLen, fAbs, fInt, fStr, fMin, fMax, fSum, fSorted, fSortedW, fMinW, fList, fTuple, fIsi, fIsiC, tyOf, Ty.isi, ty_int, ty_bool, ty_str, ty_list, ty_tuple, ty_dict, isNon, eqOk_int, eqOk_non, eqOk_bl, eqD_int, eqD_bl, eqD_str, eqD_non, beq_self_eq_true, beq_iff_eq, Bool.and_self, atI_0, atI_1, atI_2, atI_3, atI_4, atI_5, atI_6, vw, vs, lendS, ownS, wipeE, ZL.frz, lendS, hasOb, env0, List.replicate_zero, List.replicate_succ, List.cons_append, Nat.reduceSub, List.map_cons, List.map_nil, List.getElem?_cons_zero, List.getElem?_cons_succ, List.getElem?_nil, List.set_cons_zero, List.set_cons_succ, List.length_cons, List.length_nil, List.length_set, Nat.reduceAdd, Nat.reduceLT, Nat.lt_add_one, Nat.zero_lt_succ, List.append_nil, List.nil_append, cln, clnS, clnL, clnX, List.all_cons, List.all_nil, Bool.and_true, Bool.true_and, and_true, true_and, if_true, if_false, Bool.false_eq_true, decide_eq_true_eq, Bool.true_or, Bool.or_true, Bool.false_or, Bool.or_false, decide_true, decide_false, Bool.and_false, Bool.false_and, reduceCtorEq, Int.reduceBEq, nc_0, nc_1, nc_2, nc_3, nc_4, nc_5, nc_6, Bool.not_true, Bool.not_false, reduceIte, Int.zero_add, h9, h10, h6, h8, List.length_map, List.length_range]
    have fi : fit (2 : Int) ∧ fit (i : Int) := ⟨fit_of (by omega) (by omega), fit_of (by omega) (by omega)⟩
    refine ⟨fi, ⟨fi.2, fit_of (by omega) (by omega)⟩, fi, by decide, by omega, hK _ ⟨some (.sh, .int (i : Int)), some (.sh, .int (a (9 + 2 * i) : Int)), ?_⟩⟩
    rw [List.range_succ]
    simp [wardS, entD]
  · rintro env ⟨x7, x10, rfl⟩
    exact h x7 x10
theorem rise_range (f : Nat → Nat) (hf : ∀ i, f i < f (i + 1)) (n : Nat) : riseN ((List.range n).map f) = true := by
  refine decide_eq_true fun i hi => ?_
  rw [List.length_map, List.length_range] at hi
  simp only [List.getD_eq_getElem?_getD, List.getElem?_map]
  rw [List.getElem?_range (by omega), List.getElem?_range (by omega)]
  exact decide_eq_true (hf i)
theorem numsS_ok {a : Nat → Nat} : NumsOk (numsS a) := ⟨rise_range _ (fun i => by rw [Nat.succ_mul]; omega) _, fun h => by
  obtain ⟨i, _, e⟩ := List.mem_map.1 h
  omega⟩
theorem othsS_ok {a : Nat → Nat} : NumsOk (othsS a) := ⟨rise_range _ (fun i => by omega) _, fun h => by
  obtain ⟨i, _, e⟩ := List.mem_map.1 h
  omega⟩
theorem numsS_sm {L : List D} {k : Nat} {a : Nat → Nat} (ra : RowS L k a) : SmallN (numsS a) := by
  have b3 := ra.b 3 4 rfl
  have b5 := ra.b 5 900 rfl
  have b6 := ra.b 6 90 rfl
  refine ⟨fun n hn => ?_, by unfold numsS; rw [List.length_map, List.length_range]; omega⟩
  obtain ⟨i, hi, rfl⟩ := List.mem_map.1 hn
  have hi := List.mem_range.1 hi
  have : i * (a 6 + 1) ≤ 3 * 90 := Nat.mul_le_mul (by omega) (by omega)
  omega
theorem othsS_sm {L : List D} {k : Nat} {a : Nat → Nat} (ra : RowS L k a) : SmallN (othsS a) := by
  have b4 := ra.b 4 3 rfl
  have b6 := ra.b 6 90 rfl
  refine ⟨fun n hn => ?_, by unfold othsS; rw [List.length_map, List.length_range]; omega⟩
  obtain ⟨i, hi, rfl⟩ := List.mem_map.1 hn
  have hi := List.mem_range.1 hi
  omega
theorem wards_ok {L : List D} {k : Nat} {a : Nat → Nat} (ra : RowS L k a) : (∀ e ∈ (List.range (a 7)).map (wardS a), 1 ≤ e.1 ∧ e.2.1 < e.2.2) ∧ riseN (((List.range (a 7)).map (wardS a)).map (·.1)) = true := by
  refine ⟨fun e he => ?_, ?_⟩
  · obtain ⟨i, hi, rfl⟩ := List.mem_map.1 he
    exact ⟨by simp only [wardS]; omega, by simp only [wardS]; omega⟩
  · rw [List.map_map]
    exact rise_range _ (fun i => by simp only [Function.comp, wardS]; rw [Nat.succ_mul]; omega) _
theorem wards_sm {L : List D} {k : Nat} {a : Nat → Nat} (ra : RowS L k a) : (∀ e ∈ (List.range (a 7)).map (wardS a), e.1 < 10 ^ 6 ∧ e.2.1 < 10 ^ 6 ∧ e.2.2 < 10 ^ 6) ∧ ((List.range (a 7)).map (wardS a)).length ≤ 3 := by
  have b7 := ra.b 7 3 rfl
  have b6 := ra.b 6 90 rfl
  have b8 := ra.b 8 900 rfl
  have b9 := ra.b 9 5 rfl
  have b10 := ra.b 10 5 rfl
  have b11 := ra.b 11 5 rfl
  have b12 := ra.b 12 5 rfl
  refine ⟨fun e he => ?_, by rw [List.length_map, List.length_range]; omega⟩
  obtain ⟨i, hi, rfl⟩ := List.mem_map.1 he
  have hi := List.mem_range.1 hi
  have : i * (a 6 + 1) ≤ 3 * 90 := Nat.mul_le_mul (by omega) (by omega)
  have : i = 0 ∨ i = 1 := by omega
  simp only [wardS]
  rcases this with rfl | rfl
  · refine ⟨by omega, ?_, ?_⟩
    · show a 9 < _
      omega
    · show a 9 + 1 + a 10 < _
      omega
  · refine ⟨by omega, ?_, ?_⟩
    · show a 11 < _
      omega
    · show a 11 + 1 + a 12 < _
      omega
theorem good_of {L : List D} {k : Nat} {a : Nat → Nat} (ra : RowS L k a) {h : Head} (h1 : HeadOk h) (h2 : HeadS h) : Good (.hd h ((List.range (a 7)).map (wardS a))) :=
  ⟨⟨h1, (wards_ok ra).1, (wards_ok ra).2⟩, ⟨h2, (wards_sm ra).1, (wards_sm ra).2⟩⟩
/-! the named ones sorted -/
theorem nam_py (p : Tx × List Nat) : (namD p).py = .tuple [.str (tx p.1), .tuple (p.2.map fun (n : Nat) => PyData.int (n : Int))] := by
  unfold namD nlD natL strT
  simp only [D.py, pyL_eq, List.map_map, List.map_cons, List.map_nil]
  rfl
theorem nam_alike (p q : Tx × List Nat) : PySem.W.alike (namD p).py (namD q).py = true := by
  rw [nam_py, nam_py]
  show (PySem.W.alike (.str (tx p.1)) (.str (tx q.1)) && (PySem.W.alike (.tuple (p.2.map fun (n : Nat) => PyData.int (n : Int))) (.tuple (q.2.map fun (n : Nat) => PyData.int (n : Int))) && true)) = true
  have h : ∀ ns : List Nat, (ns.map fun (n : Nat) => PyData.int (n : Int)) = (ns.map fun (n : Nat) => (n : Int)).map PyData.int := fun ns => by rw [List.map_map]; rfl
  have : PySem.W.alike (.tuple (p.2.map fun (n : Nat) => PyData.int (n : Int))) (.tuple (q.2.map fun (n : Nat) => PyData.int (n : Int))) = true := by
    rw [h, h]
    exact PySem.W.alike_ints _ _
  rw [this]
  rfl
theorem nam_lt {p q : Tx × List Nat} (h : p.1 ≠ q.1) : leD (namD p) (namD q) = decide (p.1 < q.1) := by
  show (!PySem.W.dataLt (namD q).py (namD p).py) = _
  have al := nam_alike q p
  rw [nam_py, nam_py] at al ⊢
  have a1 : PySem.W.alike (.str (tx q.1)) (.str (tx p.1)) = true := rfl
  have a2 : PySem.W.alike (.tuple (q.2.map fun (n : Nat) => PyData.int (n : Int))) (.tuple (p.2.map fun (n : Nat) => PyData.int (n : Int))) = true := by
    have : (PySem.W.alike (.str (tx q.1)) (.str (tx p.1)) && (PySem.W.alike (.tuple (q.2.map fun (n : Nat) => PyData.int (n : Int))) (.tuple (p.2.map fun (n : Nat) => PyData.int (n : Int))) && true)) = true := al
    rw [Bool.and_eq_true, Bool.and_eq_true] at this
    exact this.2.1
  rw [PySem.W.dataLt_pair a1 a2, PySem.W.dataLt_str]
  have e1 : PyData.eqv (.str (tx q.1)) (.str (tx p.1)) = false := by
    have := eqD_str (i := tx q.1) (j := tx p.1)
    unfold eqD at this
    simp only [D.py] at this
    rw [this, tx_eq]
    exact decide_eq_false fun z => h z.symm
  rw [e1, if_neg (by decide)]
  show (!decide ((tx q.1).cps.toList < (tx p.1).cps.toList)) = _
  rw [show (tx q.1).cps.toList = q.1 from rfl, show (tx p.1).cps.toList = p.1 from rfl]
  by_cases z : p.1 < q.1
  · rw [decide_eq_true z, decide_eq_false fun w => List.lt_asymm z w]; rfl
  · have : q.1 < p.1 := by
      rcases Std.Trichotomous.rel_or_eq_or_rel_swap (r := fun (a b : Tx) => a < b) (a := p.1) (b := q.1) with w | w | w
      · exact absurd w z
      · exact absurd w h
      · exact w
    rw [decide_eq_false z, decide_eq_true this]; rfl
theorem sort_nam {p q : Tx × List Nat} (h : p.1 ≠ q.1) : ∃ r s, ((r = p ∧ s = q) ∨ (r = q ∧ s = p)) ∧ r.1 < s.1 ∧ sortD [namD p, namD q] = [namD r, namD s] := by
  have key : ∀ r s : Tx × List Nat, r.1 ≠ s.1 → r.1 < s.1 → [namD r, namD s].Pairwise (fun a b => leD a b = true ∧ leD b a = false) := fun r s hn hl => by
    refine List.pairwise_cons.2 ⟨fun x hx => ?_, List.pairwise_singleton _ _⟩
    rw [List.mem_singleton.1 hx, nam_lt hn, nam_lt (Ne.symm hn)]
    exact ⟨decide_eq_true hl, decide_eq_false fun w => List.lt_asymm hl w⟩
  by_cases z : p.1 < q.1
  · exact ⟨p, q, .inl ⟨rfl, rfl⟩, z, sortD_is (List.Perm.refl _) (key p q h z) leD_trans leD_total⟩
  · have : q.1 < p.1 := by
      rcases Std.Trichotomous.rel_or_eq_or_rel_swap (r := fun (a b : Tx) => a < b) (a := p.1) (b := q.1) with w | w | w
      · exact absurd w z
      · exact absurd w h
      · exact w
    exact ⟨q, p, .inr ⟨rfl, rfl⟩, this, sortD_is (List.Perm.swap _ _ _) (key q p (Ne.symm h) this) leD_trans leD_total⟩
theorem dpt_nam {p : Tx × List Nat} (h : OkT p.1) : Dpt 2 (namD p) := Dpt.tup fun d m => by
  simp only [List.mem_cons, List.not_mem_nil, or_false] at m
  rcases m with rfl | rfl
  · exact Dpt.up (dpt_str h) (Nat.zero_le _)
  · exact Dpt.tup (Dpt.all (fun n => Dpt.int 0 _) p.2)
theorem sortOk_nam {ps : List (Tx × List Nat)} (h : ∀ p ∈ ps, OkT p.1) : SortOk (ps.map namD) := by
  refine ⟨fun d hd => ?_, fun d hd e he => ?_, .inl fun d hd => ?_⟩
  · obtain ⟨c, hc, rfl⟩ := List.mem_map.1 hd
    exact (dpt_nam (h c hc)).ok
  · obtain ⟨x, _, rfl⟩ := List.mem_map.1 hd
    obtain ⟨y, _, rfl⟩ := List.mem_map.1 he
    exact nam_alike x y
  · obtain ⟨c, _, rfl⟩ := List.mem_map.1 hd
    rw [nam_py]
    exact ⟨_, _, rfl⟩
theorem okT_name {n : Tx} (h : nameB n = true) : OkT n := ⟨by have := name_len h; omega, fun c hc => by have := name_mem h hc; omega⟩

end ZL.K30


namespace ZL.K30
open PySem PySem.Spec PyProof.Rows L2 ZL
theorem name_at {ns : List Tx} (h : NamesOk ns) {i : Nat} (hi : i < 4) : atI (ns.map strT) (i : Int) = some (strT (ns.getD i [])) ∧ nameB (ns.getD i []) = true := by
  have h4 := h.four
  refine ⟨getD_at strT (by omega), ?_⟩
  rw [List.getD_eq_getElem?_getD, List.getElem?_eq_getElem (by omega)]
  exact h.ok _ (List.getElem_mem _)
theorem capsS_sm {L : List D} {k : Nat} {a : Nat → Nat} (ra : RowS L k a) : SmallN (capsS a) := by
  have b13 := ra.b 13 4 rfl
  refine ⟨fun n hn => ?_, by unfold capsS; rw [List.length_map, List.length_range]; omega⟩
  obtain ⟨i, hi, rfl⟩ := List.mem_map.1 hn
  have := Nat.mod_lt (a 14 + 13 * i) (show 0 < 41 by decide)
  omega
theorem capsS_ne (a : Nat → Nat) : capsS a ≠ [] := by
  unfold capsS
  intro h
  have := congrArg List.length h
  simp at this
theorem u__law_small : ∀ ds Q E, sp__law_small ds Q E → w__law_small (env0 N__law_small ds) (ends0 Q E) := by
  intro ds Q E h
  obtain ⟨pre, rs, post, k, b, ns, rfl, hk, hk2, dr, nok, q⟩ := h
  have ra := row_of (post := post) hk dr
  generalize (fun j => (rs.getD j 0).toNat) = a at ra
  generalize il (pre ++ rs ++ post) = L at *
  have hz : 3000 ≤ sizeLine := by decide
  have b1 := ra.b 1 4 rfl
  have b2 := ra.b 2 4 rfl
  obtain ⟨n1, m1⟩ := name_at nok (i := a 1) (by omega)
  obtain ⟨n2, m2⟩ := name_at nok (i := a 2) (by omega)
  have g0 : atI L (k : Int) = some (.int (a 0 : Int)) := by have := ra.at_ 0 (by decide); rwa [show (k : Int) + ((0 : Nat) : Int) = (k : Int) by omega] at this
  have g1 : atI L ((k : Int) + 1) = some (.int (a 1 : Int)) := ra.at_ 1 (by decide)
  have g2 : atI L ((k : Int) + 2) = some (.int (a 2 : Int)) := ra.at_ 2 (by decide)
  have g3 : atI L ((k : Int) + 3) = some (.int (a 3 : Int)) := ra.at_ 3 (by decide)
  have g13 : atI L ((k : Int) + 13) = some (.int (a 13 : Int)) := ra.at_ 13 (by decide)
  have g14 : atI L ((k : Int) + 14) = some (.int (a 14 : Int)) := ra.at_ 14 (by decide)
  have b13 := ra.b 13 4 rfl
  have b14 := ra.b 14 40 rfl
  have b3 := ra.b 3 4 rfl
  have ew : (((List.range (a 7)).map (wardS a)).map entD).all (fun x => clnS x) = true := all_map cln_ent _
  have cw : clnL (((List.range (a 7)).map (wardS a)).map entD) = true := clnL_of ew
  have eN : env0 N__law_small [.lst L, .int (k : Int), .bl b, .lst (ns.map strT)] = [some (.sh, .lst L), some (.sh, .int (k : Int)), some (.sh, .bl b), some (.sh, .lst (ns.map strT)), none, none, none, none, none, none, none, none, none] := rfl
  rw [eN]
  unfold w__law_small
  simp only [wSeq]
  refine small_s0 ra _ _ _ (small_s1 ra _ _ _ _ ?_)
  simp only [w__law_small_s2, wSeq, wSet, wRet, wRetN, wIf, wDrop, wFor, wNext, wBreak, wCont, wAppend, wSetIx, wAug, wFrz, wAsg, gN, gT, gNil', gCons', mL, mS, mLT, mMv, mIV, mRng, mRngV, mItems, mOp, mB, mC, mVar, mCons, mNil, mTup, mLst, mCB, mCall, mAnd, mOr, mNot, mAndV, mOrV, mNotV, mIf, mNeg, mSl, mNo, mPart, mPk, mChain2, mChain3, mFld, mComp, mComp2, cN, cT, cNil, cCons, mEnum, mYes, mRev, mLenSet, mLenSetG, mLenSetH, wAugIx, mMeth, mMethS, mFst, mJR, mMv2, wUnp, mTru, truD, mMake, wFld, wNever, setN, setF, fldD, String.reduceEq, List.mem_cons, List.mem_singleton, true_or, or_true, or_false, false_or, List.not_mem_nil, oCount, oSplit, oZfill, oLjust, oMulS, cMod, cDiv, cMul, oAdd, oSub, oMul, oDiv, oMod, oPow, oB, oI, oEq, oEqT, oGeT, oIndex, oIs, oIn, oIx, oMulI, oAddI, oSl, oRng1, oRng2, okL, okT, okS, fLen, fAbs, fInt, fStr, fMin, fMax, fSum, fSorted, fSortedW, fMinW, fList, fTuple, fIsi, fIsiC, tyOf, Ty.isi, ty_int, ty_bool, ty_str, ty_list, ty_tuple, ty_dict, isNon, eqOk_int, eqOk_non, eqOk_bl, eqD_int, eqD_bl, eqD_str, eqD_non, beq_self_eq_true, beq_iff_eq, Bool.and_self, atI_0, atI_1, atI_2, atI_3, atI_4, atI_5, atI_6, vw, vs, lendS, ownS, wipeE, ZL.frz, lendS, hasOb, env0, List.replicate_zero, List.replicate_succ, List.cons_append, Nat.reduceSub, List.map_cons, List.map_nil, List.getElem?_cons_zero, List.getElem?_cons_succ, List.getElem?_nil, List.set_cons_zero, List.set_cons_succ, List.length_cons, List.length_nil, List.length_set, Nat.reduceAdd, Nat.reduceLT, Nat.lt_add_one, Nat.zero_lt_succ, List.append_nil, List.nil_append, cln, clnS, clnL, clnX, List.all_cons, List.all_nil, Bool.and_true, Bool.true_and, and_true, true_and, if_true, if_false, Bool.false_eq_true, decide_eq_true_eq, Bool.true_or, Bool.or_true, Bool.false_or, Bool.or_false, decide_true, decide_false, Bool.and_false, Bool.false_and, reduceCtorEq, Int.reduceBEq, nc_0, nc_1, nc_2, nc_3, nc_4, nc_5, nc_6, Bool.not_true, Bool.not_false, reduceIte]
  refine ⟨by decide, small_s3 ra _ _ _ _ _ fun x7 x10 => ?_⟩
  simp only [w__law_small_s4, w__law_small_s5, wSeq, wSet, wRet, wRetN, wIf, wDrop, wFor, wNext, wBreak, wCont, wAppend, wSetIx, wAug, wFrz, wAsg, gN, gT, gNil', gCons', mL, mS, mLT, mMv, mIV, mRng, mRngV, mItems, mOp, mB, mC, mVar, mCons, mNil, mTup, mLst, mCB, mCall, mAnd, mOr, mNot, mAndV, mOrV, mNotV, mIf, mNeg, mSl, mNo, mPart, mPk, mChain2, mChain3, mFld, mComp, mComp2, cN, cT, cNil, cCons, mEnum, mYes, mRev, mLenSet, mLenSetG, mLenSetH, wAugIx, mMeth, mMethS, mFst, mJR, mMv2, wUnp, mTru, truD, mMake, wFld, wNever, setN, setF, fldD, String.reduceEq, List.mem_cons, List.mem_singleton, true_or, or_true, or_false, false_or, List.not_mem_nil, oCount, oSplit, oZfill, oLjust, oMulS, cMod, cDiv, cMul, oAdd, oSub, oMul, oDiv, oMod, oPow, oB, oI, oEq, oEqT, oGeT, oIndex, oIs, oIn, oIx, oMulI, oAddI, oSl, oRng1, oRng2, okL, okT, okS, fLen, fAbs, fInt, fStr, fMin, fMax, fSum, fSorted, fSortedW, fMinW, fList, fTuple, fIsi, fIsiC, tyOf, Ty.isi, ty_int, ty_bool, ty_str, ty_list, ty_tuple, ty_dict, isNon, eqOk_int, eqOk_non, eqOk_bl, eqD_int, eqD_bl, eqD_str, eqD_non, beq_self_eq_true, beq_iff_eq, Bool.and_self, atI_0, atI_1, atI_2, atI_3, atI_4, atI_5, atI_6, vw, vs, lendS, ownS, wipeE, ZL.frz, lendS, hasOb, env0, List.replicate_zero, List.replicate_succ, List.cons_append, Nat.reduceSub, List.map_cons, List.map_nil, List.getElem?_cons_zero, List.getElem?_cons_succ, List.getElem?_nil, List.set_cons_zero, List.set_cons_succ, List.length_cons, List.length_nil, List.length_set, Nat.reduceAdd, Nat.reduceLT, Nat.lt_add_one, Nat.zero_lt_succ, List.append_nil, List.nil_append, cln, clnS, clnL, clnX, List.all_cons, List.all_nil, Bool.and_true, Bool.true_and, and_true, true_and, if_true, if_false, Bool.false_eq_true, decide_eq_true_eq, Bool.true_or, Bool.or_true, Bool.false_or, Bool.or_false, decide_true, decide_false, Bool.and_false, Bool.false_and, reduceCtorEq, Int.reduceBEq, nc_0, nc_1, nc_2, nc_3, nc_4, nc_5, nc_6, Bool.not_true, Bool.not_false, reduceIte, g1, g2, n1, n2]
  have rest : ∀ h, HeadOk h → HeadS h → Q .sh (.tup (headL h ++ [.tup (((List.range (a 7)).map (wardS a)).map entD)])) ∨ b = true := fun h h1 h2 => by
    cases b with
    | true => exact .inr rfl
    | false => exact .inl (q _ (good_of ra h1 h2) (fun z => by cases z))
  have hm : ∀ n : Int, 0 ≤ n → fit (13 : Int) ∧ (n < 4 → fit n) := fun n h0 => ⟨fit_of (by omega) (by omega), fun h => fit_of (by omega) (by omega)⟩
  refine ⟨rfl, rfl, ?_⟩
  cases b with
  | true =>
    simp only [w__law_small_s6, w__law_small_p0, wSeq, wSet, wRet, wRetN, wIf, wDrop, wFor, wNext, wBreak, wCont, wAppend, wSetIx, wAug, wFrz, wAsg, gN, gT, gNil', gCons', mL, mS, mLT, mMv, mIV, mRng, mRngV, mItems, mOp, mB, mC, mVar, mCons, mNil, mTup, mLst, mCB, mCall, mAnd, mOr, mNot, mAndV, mOrV, mNotV, mIf, mNeg, mSl, mNo, mPart, mPk, mChain2, mChain3, mFld, mComp, mComp2, cN, cT, cNil, cCons, mEnum, mYes, mRev, mLenSet, mLenSetG, mLenSetH, wAugIx, mMeth, mMethS, mFst, mJR, mMv2, wUnp, mTru, truD, mMake, wFld, wNever, setN, setF, fldD, String.reduceEq, List.mem_cons, List.mem_singleton, true_or, or_true, or_false, false_or, List.not_mem_nil, oCount, oSplit, oZfill, oLjust, oMulS, cMod, cDiv, cMul, oAdd, oSub, oMul, oDiv, oMod, oPow, oB, oI, oEq, oEqT, oGeT, oIndex, oIs, oIn, oIx, oMulI, oAddI, oSl, oRng1, oRng2, okL, okT, okS, fLen, fAbs, fInt, fStr, fMin, fMax, fSum, fSorted, fSortedW, fMinW, fList, fTuple, fIsi, fIsiC, tyOf, Ty.isi, ty_int, ty_bool, ty_str, ty_list, ty_tuple, ty_dict, isNon, eqOk_int, eqOk_non, eqOk_bl, eqD_int, eqD_bl, eqD_str, eqD_non, beq_self_eq_true, beq_iff_eq, Bool.and_self, atI_0, atI_1, atI_2, atI_3, atI_4, atI_5, atI_6, vw, vs, lendS, ownS, wipeE, ZL.frz, lendS, hasOb, env0, List.replicate_zero, List.replicate_succ, List.cons_append, Nat.reduceSub, List.map_cons, List.map_nil, List.getElem?_cons_zero, List.getElem?_cons_succ, List.getElem?_nil, List.set_cons_zero, List.set_cons_succ, List.length_cons, List.length_nil, List.length_set, Nat.reduceAdd, Nat.reduceLT, Nat.lt_add_one, Nat.zero_lt_succ, List.append_nil, List.nil_append, cln, clnS, clnL, clnX, List.all_cons, List.all_nil, Bool.and_true, Bool.true_and, and_true, true_and, if_true, if_false, Bool.false_eq_true, decide_eq_true_eq, Bool.true_or, Bool.or_true, Bool.false_or, Bool.or_false, decide_true, decide_false, Bool.and_false, Bool.false_and, reduceCtorEq, Int.reduceBEq, nc_0, nc_1, nc_2, nc_3, nc_4, nc_5, nc_6, Bool.not_true, Bool.not_false, reduceIte, g13, g14, Int.toNat_natCast, rangeD_zero]
    refine ⟨by omega, ?_⟩
    have e13 : ((a 13 : Int) + 1).toNat = a 13 + 1 := by omega
    rw [e13]
    refine comp_map (List.range (a 13 + 1)) _ (fun i => D.int (((a 14 + 13 * i) % 41 : Nat) : Int)) (fun i hi K hK => ?_) (by rw [List.length_range]; omega) ?_
    · have hi := List.mem_range.1 hi
      simp only [wSeq, wSet, wRet, wRetN, wIf, wDrop, wFor, wNext, wBreak, wCont, wAppend, wSetIx, wAug, wFrz, wAsg, gN, gT, gNil', gCons', mL, mS, mLT, mMv, mIV, mRng, mRngV, mItems, mOp, mB, mC, mVar, mCons, mNil, mTup, mLst, mCB, mCall, mAnd, mOr, mNot, mAndV, mOrV, mNotV, mIf, mNeg, mSl, mNo, mPart, mPk, mChain2, mChain3, mFld, mComp, mComp2, cN, cT, cNil, cCons, mEnum, mYes, mRev, mLenSet, mLenSetG, mLenSetH, wAugIx, mMeth, mMethS, mFst, mJR, mMv2, wUnp, mTru, truD, mMake, wFld, wNever, setN, setF, fldD, String.reduceEq, List.mem_cons, List.mem_singleton, true_or, or_true, or_false, false_or, List.not_mem_nil, oCount, oSplit, oZfill, oLjust, oMulS, cMod, cDiv, cMul, oAdd, oSub, oMul, oDiv, oMod, oPow, oB, oI, oEq, oEqT, oGeT, oIndex, oIs, oIn, oIx, oMulI, oAddI, oSl, oRng1, oRng2, okL, okT, okS, fLen, fAbs, fInt, fStr, fMin, fMax, fSum, fSorted, fSortedW, fMinW, fList, fTuple, fIsi, fIsiC, tyOf, Ty.isi, ty_int, ty_bool, ty_str, ty_list, ty_tuple, ty_dict, isNon, eqOk_int, eqOk_non, eqOk_bl, eqD_int, eqD_bl, eqD_str, eqD_non, beq_self_eq_true, beq_iff_eq, Bool.and_self, atI_0, atI_1, atI_2, atI_3, atI_4, atI_5, atI_6, vw, vs, lendS, ownS, wipeE, ZL.frz, lendS, hasOb, env0, List.replicate_zero, List.replicate_succ, List.cons_append, Nat.reduceSub, List.map_cons, List.map_nil, List.getElem?_cons_zero, List.getElem?_cons_succ, List.getElem?_nil, List.set_cons_zero, List.set_cons_succ, List.length_cons, List.length_nil, List.length_set, Nat.reduceAdd, Nat.reduceLT, Nat.lt_add_one, Nat.zero_lt_succ, List.append_nil, List.nil_append, cln, clnS, clnL, clnX, List.all_cons, List.all_nil, Bool.and_true, Bool.true_and, and_true, true_and, if_true, if_false, Bool.false_eq_true, decide_eq_true_eq, Bool.true_or, Bool.or_true, Bool.false_or, Bool.or_false, decide_true, decide_false, Bool.and_false, Bool.false_and, reduceCtorEq, Int.reduceBEq, nc_0, nc_1, nc_2, nc_3, nc_4, nc_5, nc_6, Bool.not_true, Bool.not_false, reduceIte, g14]
      have e : ((a 14 : Int) + 13 * (i : Int)) % 41 = (((a 14 + 13 * i) % 41 : Nat) : Int) := by push_cast; rfl
      rw [e]
      exact ⟨⟨fit_of (by omega) (by omega), fit_of (by omega) (by omega)⟩, by decide, hK⟩
    rw [natL_range (a 13 + 1) fun i => (a 14 + 13 * i) % 41]
    refine ⟨cln_natL _, ?_⟩
    -- the end
    have fin : ∀ nm : List (Tx × List Nat), HeadOk (.pic (capsS a) nm) → HeadS (.pic (capsS a) nm) → ∀ d0 d1 d2 d3 d5 d8 d9 x7 x10,
        w__law_small_p4 [some (.sh, d0), some (.sh, d1), some (.sh, d2), some (.sh, d3), some (.sh, nlD (numsS a)), some (.sh, d5), some (.ls .sh, .lst (((List.range (a 7)).map (wardS a)).map entD)), x7, some (.sh, d8), some (.sh, d9), x10, some (.sh, nlD (capsS a)), some (.ls .sh, .lst (nm.map namD))] (ends0 Q E) := fun nm h1 h2 d0 d1 d2 d3 d5 d8 d9 x7 x10 => by
      have := q _ (good_of ra h1 h2) (fun _ => rfl)
      have e1 : ((nm.map namD).all fun x => clnS x) = true := all_map cln_nam _
      simp only [w__law_small_p4, wSeq, wSet, wRet, wRetN, wIf, wDrop, wFor, wNext, wBreak, wCont, wAppend, wSetIx, wAug, wFrz, wAsg, gN, gT, gNil', gCons', mL, mS, mLT, mMv, mIV, mRng, mRngV, mItems, mOp, mB, mC, mVar, mCons, mNil, mTup, mLst, mCB, mCall, mAnd, mOr, mNot, mAndV, mOrV, mNotV, mIf, mNeg, mSl, mNo, mPart, mPk, mChain2, mChain3, mFld, mComp, mComp2, cN, cT, cNil, cCons, mEnum, mYes, mRev, mLenSet, mLenSetG, mLenSetH, wAugIx, mMeth, mMethS, mFst, mJR, mMv2, wUnp, mTru, truD, mMake, wFld, wNever, setN, setF, fldD, String.reduceEq, List.mem_cons, List.mem_singleton, true_or, or_true, or_false, false_or, List.not_mem_nil, oCount, oSplit, oZfill, oLjust, oMulS, cMod, cDiv, cMul, oAdd, oSub, oMul, oDiv, oMod, oPow, oB, oI, oEq, oEqT, oGeT, oIndex, oIs, oIn, oIx, oMulI, oAddI, oSl, oRng1, oRng2, okL, okT, okS, fLen, fAbs, fInt, fStr, fMin, fMax, fSum, fSorted, fSortedW, fMinW, fList, fTuple, fIsi, fIsiC, tyOf, Ty.isi, ty_int, ty_bool, ty_str, ty_list, ty_tuple, ty_dict, isNon, eqOk_int, eqOk_non, eqOk_bl, eqD_int, eqD_bl, eqD_str, eqD_non, beq_self_eq_true, beq_iff_eq, Bool.and_self, atI_0, atI_1, atI_2, atI_3, atI_4, atI_5, atI_6, vw, vs, lendS, ownS, wipeE, ZL.frz, lendS, hasOb, env0, List.replicate_zero, List.replicate_succ, List.cons_append, Nat.reduceSub, List.map_cons, List.map_nil, List.getElem?_cons_zero, List.getElem?_cons_succ, List.getElem?_nil, List.set_cons_zero, List.set_cons_succ, List.length_cons, List.length_nil, List.length_set, Nat.reduceAdd, Nat.reduceLT, Nat.lt_add_one, Nat.zero_lt_succ, List.append_nil, List.nil_append, cln, clnS, clnL, clnX, List.all_cons, List.all_nil, Bool.and_true, Bool.true_and, and_true, true_and, if_true, if_false, Bool.false_eq_true, decide_eq_true_eq, Bool.true_or, Bool.or_true, Bool.false_or, Bool.or_false, decide_true, decide_false, Bool.and_false, Bool.false_and, reduceCtorEq, Int.reduceBEq, nc_0, nc_1, nc_2, nc_3, nc_4, nc_5, nc_6, Bool.not_true, Bool.not_false, reduceIte, pic_tx, clnL_of e1, cw, cln_nl]
      exact ⟨by decide, this⟩
    have a1 : NumsOk (numsS a) := numsS_ok
    have a2 : NumsOk (othsS a) := othsS_ok
    have s1 := numsS_sm ra
    have s2 := othsS_sm ra
    have s3 := capsS_sm ra
    have one : riseT [ns.getD (a 1) []] = true := by simp [riseT, rise]
    have nil0 : riseT [] = true := by simp [riseT, rise]
    have f0 := fin [] ⟨capsS_ne a, (fun p hp => nomatch hp), nil0⟩ ⟨s3, (fun p hp => nomatch hp), Nat.zero_le _⟩
    have f1 := fin [(ns.getD (a 1) [], numsS a)] ⟨capsS_ne a, fun p hp => by rw [List.mem_singleton.1 hp]; exact ⟨m1, a1⟩, one⟩ ⟨s3, fun p hp => by rw [List.mem_singleton.1 hp]; exact s1, (show 1 ≤ 2 by decide)⟩
    simp only [w__law_small_p1, w__law_small_p2, w__law_small_p3, wSeq, wSet, wRet, wRetN, wIf, wDrop, wFor, wNext, wBreak, wCont, wAppend, wSetIx, wAug, wFrz, wAsg, gN, gT, gNil', gCons', mL, mS, mLT, mMv, mIV, mRng, mRngV, mItems, mOp, mB, mC, mVar, mCons, mNil, mTup, mLst, mCB, mCall, mAnd, mOr, mNot, mAndV, mOrV, mNotV, mIf, mNeg, mSl, mNo, mPart, mPk, mChain2, mChain3, mFld, mComp, mComp2, cN, cT, cNil, cCons, mEnum, mYes, mRev, mLenSet, mLenSetG, mLenSetH, wAugIx, mMeth, mMethS, mFst, mJR, mMv2, wUnp, mTru, truD, mMake, wFld, wNever, setN, setF, fldD, String.reduceEq, List.mem_cons, List.mem_singleton, true_or, or_true, or_false, false_or, List.not_mem_nil, oCount, oSplit, oZfill, oLjust, oMulS, cMod, cDiv, cMul, oAdd, oSub, oMul, oDiv, oMod, oPow, oB, oI, oEq, oEqT, oGeT, oIndex, oIs, oIn, oIx, oMulI, oAddI, oSl, oRng1, oRng2, okL, okT, okS, fLen, fAbs, fInt, fStr, fMin, fMax, fSum, fSorted, fSortedW, fMinW, fList, fTuple, fIsi, fIsiC, tyOf, Ty.isi, ty_int, ty_bool, ty_str, ty_list, ty_tuple, ty_dict, isNon, eqOk_int, eqOk_non, eqOk_bl, eqD_int, eqD_bl, eqD_str, eqD_non, beq_self_eq_true, beq_iff_eq, Bool.and_self, atI_0, atI_1, atI_2, atI_3, atI_4, atI_5, atI_6, vw, vs, lendS, ownS, wipeE, ZL.frz, lendS, hasOb, env0, List.replicate_zero, List.replicate_succ, List.cons_append, Nat.reduceSub, List.map_cons, List.map_nil, List.getElem?_cons_zero, List.getElem?_cons_succ, List.getElem?_nil, List.set_cons_zero, List.set_cons_succ, List.length_cons, List.length_nil, List.length_set, Nat.reduceAdd, Nat.reduceLT, Nat.lt_add_one, Nat.zero_lt_succ, List.append_nil, List.nil_append, cln, clnS, clnL, clnX, List.all_cons, List.all_nil, Bool.and_true, Bool.true_and, and_true, true_and, if_true, if_false, Bool.false_eq_true, decide_eq_true_eq, Bool.true_or, Bool.or_true, Bool.false_or, Bool.or_false, decide_true, decide_false, Bool.and_false, Bool.false_and, reduceCtorEq, Int.reduceBEq, nc_0, nc_1, nc_2, nc_3, nc_4, nc_5, nc_6, Bool.not_true, Bool.not_false, reduceIte, g3]
    refine ⟨by decide, ?_⟩
    refine ifZ (fun z => ?_) fun z => ?_
    · refine ⟨by decide, by decide, by rw [cln_nl]; rfl, ?_⟩
      refine ifZ (fun z2 => ?_) fun z2 => f1 _ _ _ _ _ _ _ _ _
      show if (!(tx (ns.getD (a 1) []) == tx (ns.getD (a 2) []))) = true then _ else _
      rw [tx_eq]
      by_cases hne : ns.getD (a 1) [] = ns.getD (a 2) []
      · rw [decide_eq_true hne, if_neg (by decide)]
        exact f1 _ _ _ _ _ _ _ _ _
      · rw [decide_eq_false hne, if_pos (by decide)]
        obtain ⟨r, s, hrs, hlt, es⟩ := sort_nam (p := (ns.getD (a 1) [], numsS a)) (q := (ns.getD (a 2) [], othsS a)) hne
        have so := sortOk_nam (ps := [(ns.getD (a 1) [], numsS a), (ns.getD (a 2) [], othsS a)]) (fun p hp => by
          simp only [List.mem_cons, List.not_mem_nil, or_false] at hp
          rcases hp with rfl | rfl
          · exact okT_name m1
          · exact okT_name m2)
        have two : riseT [r.1, s.1] = true := by simp [riseT, rise, hlt]
        have hr : ∀ p ∈ [r, s], (nameB p.1 = true ∧ NumsOk p.2) ∧ SmallN p.2 := fun p hp => by
          simp only [List.mem_cons, List.not_mem_nil, or_false] at hp
          have : p = (ns.getD (a 1) [], numsS a) ∨ p = (ns.getD (a 2) [], othsS a) := by
            rcases hrs with ⟨rfl, rfl⟩ | ⟨rfl, rfl⟩
            · exact hp
            · exact hp.symm
          rcases this with rfl | rfl
          · exact ⟨⟨m1, a1⟩, s1⟩
          · exact ⟨⟨m2, a2⟩, s2⟩
        have f2 := fin [r, s] ⟨capsS_ne a, (fun p hp => (hr p hp).1), two⟩ ⟨s3, (fun p hp => (hr p hp).2), (show 2 ≤ 2 by decide)⟩
        refine ⟨by decide, by decide, by decide, so, ?_⟩
        have es2 : sortD [D.tup [strT (ns.getD (a 1) []), nlD (numsS a)], D.tup [strT (ns.getD (a 2) []), nlD (othsS a)]] = [namD r, namD s] := es
        rw [es2]
        exact ⟨by simp only [List.all_cons, List.all_nil, cln_nam]; rfl, f2 _ _ _ _ _ _ _ _ _⟩
    · rw [if_neg (by omega)]
      exact f0 _ _ _ _ _ _ _ _ _
  | false =>
    have q2 := fun r g => q r g (fun z => by cases z)
    simp only [w__law_small_s6, w__law_small_s7, w__law_small_s8, w__law_small_s9, w__law_small_s10, wSeq, wSet, wRet, wRetN, wIf, wDrop, wFor, wNext, wBreak, wCont, wAppend, wSetIx, wAug, wFrz, wAsg, gN, gT, gNil', gCons', mL, mS, mLT, mMv, mIV, mRng, mRngV, mItems, mOp, mB, mC, mVar, mCons, mNil, mTup, mLst, mCB, mCall, mAnd, mOr, mNot, mAndV, mOrV, mNotV, mIf, mNeg, mSl, mNo, mPart, mPk, mChain2, mChain3, mFld, mComp, mComp2, cN, cT, cNil, cCons, mEnum, mYes, mRev, mLenSet, mLenSetG, mLenSetH, wAugIx, mMeth, mMethS, mFst, mJR, mMv2, wUnp, mTru, truD, mMake, wFld, wNever, setN, setF, fldD, String.reduceEq, List.mem_cons, List.mem_singleton, true_or, or_true, or_false, false_or, List.not_mem_nil, oCount, oSplit, oZfill, oLjust, oMulS, cMod, cDiv, cMul, oAdd, oSub, oMul, oDiv, oMod, oPow, oB, oI, oEq, oEqT, oGeT, oIndex, oIs, oIn, oIx, oMulI, oAddI, oSl, oRng1, oRng2, okL, okT, okS, fLen, fAbs, fInt, fStr, fMin, fMax, fSum, fSorted, fSortedW, fMinW, fList, fTuple, fIsi, fIsiC, tyOf, Ty.isi, ty_int, ty_bool, ty_str, ty_list, ty_tuple, ty_dict, isNon, eqOk_int, eqOk_non, eqOk_bl, eqD_int, eqD_bl, eqD_str, eqD_non, beq_self_eq_true, beq_iff_eq, Bool.and_self, atI_0, atI_1, atI_2, atI_3, atI_4, atI_5, atI_6, vw, vs, lendS, ownS, wipeE, ZL.frz, lendS, hasOb, env0, List.replicate_zero, List.replicate_succ, List.cons_append, Nat.reduceSub, List.map_cons, List.map_nil, List.getElem?_cons_zero, List.getElem?_cons_succ, List.getElem?_nil, List.set_cons_zero, List.set_cons_succ, List.length_cons, List.length_nil, List.length_set, Nat.reduceAdd, Nat.reduceLT, Nat.lt_add_one, Nat.zero_lt_succ, List.append_nil, List.nil_append, cln, clnS, clnL, clnX, List.all_cons, List.all_nil, Bool.and_true, Bool.true_and, and_true, true_and, if_true, if_false, Bool.false_eq_true, decide_eq_true_eq, Bool.true_or, Bool.or_true, Bool.false_or, Bool.or_false, decide_true, decide_false, Bool.and_false, Bool.false_and, reduceCtorEq, Int.reduceBEq, nc_0, nc_1, nc_2, nc_3, nc_4, nc_5, nc_6, Bool.not_true, Bool.not_false, reduceIte, g0, g13, g14, put_tx, era_tx, deal_tx, cap_tx, cln_nl, cw]
    refine ifZ (fun z => ⟨by decide, rfl, ?_⟩) fun z => ifZ (fun z2 => ⟨by decide, rfl, ?_⟩) fun z2 => ifZ (fun z3 => ⟨by decide, ?_⟩) fun z3 => ⟨by decide, ?_⟩
    · exact q2 _ (good_of ra (h := .put (ns.getD (a 1) []) (numsS a)) ⟨m1, numsS_ok⟩ (numsS_sm ra))
    · exact q2 (.era (ns.getD (a 1) [])) ⟨m1, trivial⟩
    · exact q2 _ (good_of ra (h := .deal) trivial trivial)
    · exact q2 _ (good_of ra (h := .cap (a 13) (a 14)) trivial ⟨by omega, by omega⟩)

end ZL.K30


namespace ZL.K30
open PySem PySem.Spec PyProof.Rows L2 ZL
open PySem.StrLaws
theorem repl1 : ∀ l : Tx, replL [59] [58] l = l.map fun c => if c = 59 then 58 else c
  | [] => replL_nil
  | c :: r => by
    by_cases h : c = 59
    · rw [replL_hit (by decide) (by rw [h]; rfl), List.map_cons, if_pos h]
      show [58] ++ replL [59] [58] r = _
      rw [repl1 r]; rfl
    · rw [replL_miss (fun z => h (by simpa using z)), List.map_cons, if_neg h, repl1 r]
theorem repl_tx (l : Tx) : Txt.replace (tx l) (Str.ofString ";") (Str.ofString ":") = tx (l.map fun c => if c = 59 then 58 else c) := by
  refine TL.ext_tl ?_
  have e1 : Str.ofString ";" = tx [59] := by decide
  have e2 : Str.ofString ":" = tx [58] := by decide
  rw [e1, e2]
  have := replace_list (x := tx l) (y := tx [59]) (z := tx [58]) (by decide)
  rw [show (tx [59]).cps.toList = [59] from rfl, show (tx [58]).cps.toList = [58] from rfl, show (tx l).cps.toList = l from rfl, repl1] at this
  exact this
/-- a sign of a text, not the last -/
def Pl (c : Nat) : Prop := c < 1000 ∧ c ≠ 59
theorem joinL_pl {s : Nat} (hs : Pl s) {ls : List Tx} (h : ∀ w ∈ ls, ∀ c ∈ w, Pl c) : ∀ c ∈ TL.joinL [s] ls, Pl c := by
  cases ls with
  | nil => intro c hc; cases hc
  | cons p ps =>
    intro c hc
    rw [joinL_cons] at hc
    rcases List.mem_append.1 hc with hc | hc
    · exact h p (List.mem_cons_self ..) c hc
    · obtain ⟨l, hl, hc⟩ := List.mem_flatten.1 hc
      obtain ⟨q, hq, rfl⟩ := List.mem_map.1 hl
      rcases List.mem_cons.1 hc with hc | hc
      · rw [hc]; exact hs
      · exact h q (List.mem_cons_of_mem _ hq) c hc
theorem num_pl (n : Nat) : ∀ c ∈ TL.numL n, Pl c := fun c hc => by
  have := numL_dig n c hc
  exact ⟨by omega, by omega⟩
theorem join_pl (ns : List Nat) : ∀ c ∈ joinN ns, Pl c := fun c hc => by
  have := joinN_mem hc
  exact ⟨by omega, by omega⟩
theorem nameB_pl {n : Tx} (h : nameB n = true) : ∀ c ∈ n, Pl c := fun c hc => by
  have := name_mem h hc
  exact ⟨by omega, by omega⟩
theorem namW_pl {p : Tx × List Nat} (h : nameB p.1 = true) : ∀ c ∈ namW p, Pl c := fun c hc => by
  unfold namW at hc
  rcases List.mem_append.1 hc with hc | hc
  · exact nameB_pl h c hc
  · rcases List.mem_cons.1 hc with hc | hc
    · rw [hc]; exact ⟨by decide, by decide⟩
    · exact join_pl _ c hc
theorem entW_pl (e : Ent) : ∀ c ∈ entW e, Pl c := fun c hc => by
  unfold entW at hc
  rcases List.mem_append.1 hc with hc | hc
  · exact num_pl _ c hc
  · rcases List.mem_cons.1 hc with hc | hc
    · rw [hc]; exact ⟨by decide, by decide⟩
    · rcases List.mem_append.1 hc with hc | hc
      · exact num_pl _ c hc
      · rcases List.mem_cons.1 hc with hc | hc
        · rw [hc]; exact ⟨by decide, by decide⟩
        · exact num_pl _ c hc
instance (c : Nat) : Decidable (Pl c) := inferInstanceAs (Decidable (_ ∧ _))
theorem word_pl {w : Tx} (h : w.all (fun c => decide (Pl c)) = true) : ∀ c ∈ w, Pl c := fun c hc => of_decide_eq_true (List.all_eq_true.1 h c hc)
theorem headW_pl {h : Head} (ok : HeadOk h) : ∀ w ∈ headW h, ∀ c ∈ w, Pl c := fun w hw => by
  cases h with
  | deal =>
    rw [List.mem_singleton.1 hw]
    exact word_pl (by decide)
  | put n ns =>
    simp only [headW, List.mem_cons, List.not_mem_nil, or_false] at hw
    rcases hw with rfl | rfl
    · exact word_pl (by decide)
    · exact namW_pl (p := (n, ns)) ok.1
  | cap a b =>
    simp only [headW, List.mem_cons, List.not_mem_nil, or_false] at hw
    rcases hw with rfl | rfl | rfl
    · exact word_pl (by decide)
    · exact num_pl a
    · exact num_pl b
  | pic cs ns =>
    simp only [headW, List.mem_cons] at hw
    rcases hw with rfl | rfl | hw
    · exact word_pl (by decide)
    · exact join_pl cs
    · obtain ⟨p, hp, rfl⟩ := List.mem_map.1 hw
      exact namW_pl (ok.2.1 p hp).1
theorem recP_pl {r : Rec} (g : Good r) : ∃ b : Tx, recP r = b ++ [59] ∧ ∀ c ∈ b, Pl c := by
  cases r with
  | era n =>
    refine ⟨eraW ++ 32 :: n, by simp [recP], fun c hc => ?_⟩
    rcases List.mem_append.1 hc with hc | hc
    · exact word_pl (by decide) c hc
    · rcases List.mem_cons.1 hc with hc | hc
      · rw [hc]; exact ⟨by decide, by decide⟩
      · exact nameB_pl (show nameB n = true from g.ok) c hc
  | hd h es =>
    refine ⟨_, rfl, joinL_pl ⟨by decide, by decide⟩ fun w hw => ?_⟩
    rcases List.mem_append.1 hw with hw | hw
    · exact headW_pl g.ok.1 w hw
    · rcases List.mem_cons.1 hw with hw | hw
      · rw [hw]; exact word_pl (by decide)
      · obtain ⟨e, _, rfl⟩ := List.mem_map.1 hw
        exact entW_pl e
theorem recP_ok {r : Rec} (g : Good r) : OkT (recP r) := by
  refine ⟨by have := recP_len g; omega, fun c hc => ?_⟩
  obtain ⟨b, e, h⟩ := recP_pl g
  rw [e] at hc
  rcases List.mem_append.1 hc with hc | hc
  · exact (h c hc).1
  · rw [List.mem_singleton.1 hc]; decide
theorem no_semi {l : Tx} (h : 59 ∉ l) : recO l = none := rec_no fun e => h (List.mem_of_mem_drop (i := l.length - 1) (by rw [e]; exact List.mem_singleton_self _))
theorem torn_ok {r : Rec} (g : Good r) {o : Tx} (ho : OkT o) (hs : 59 ∉ o) {k : Nat} (hk : k < (recP r).length) : StrOk ((recP r).take k ++ o.drop k, none) := by
  have h1 := recP_len g
  have h2 := ho.len
  obtain ⟨b, e, h⟩ := recP_pl g
  have ht : ∀ c ∈ (recP r).take k, Pl c := fun c hc => by
    rw [e] at hc hk
    rw [List.length_append, List.length_singleton] at hk
    rw [List.take_append_of_le_length (by omega)] at hc
    exact h c (List.mem_of_mem_take hc)
  refine ⟨⟨?_, fun c hc => ?_⟩, no_semi fun hc => ?_, fun r e => by cases e⟩
  · simp only [List.length_append, List.length_take, List.length_drop]
    omega
  · rcases List.mem_append.1 hc with hc | hc
    · exact (ht c hc).1
    · exact ho.sg c (List.mem_of_mem_drop hc)
  · rcases List.mem_append.1 hc with hc | hc
    · exact (ht 59 hc).2 rfl
    · exact hs (List.mem_of_mem_drop hc)
theorem draw_app : ∀ {a b rs : List Int}, DrawOk (a ++ b) rs → ∃ r1 r2, rs = r1 ++ r2 ∧ DrawOk a r1 ∧ DrawOk b r2
  | [], b, rs, h => ⟨[], rs, rfl, trivial, h⟩
  | s :: a, b, [], h => h.elim
  | s :: a, b, r :: rs, h => by
    obtain ⟨r1, r2, e, h1, h2⟩ := draw_app (a := a) h.2
    exact ⟨r :: r1, r2, by rw [e]; rfl, ⟨h.1, h1⟩, h2⟩
def sizesR : List Int := [16, 840, 2, 2, 16] ++ (sizesS ++ [94, 94, 94, 94, 94])
theorem string_s1 {c : Int} {ns : List Tx} {o : Option Tx} {rs : List Int} (dr : DrawOk sizesR rs) (Z : ZEnds)
    (h : ∀ b, Z.nx [some (.sh, .int c), some (.sh, .lst (ns.map strT)), some (.sh, befD o), some (.ls .sh, .lst (rs.map D.int)), some (.sh, .bl b), none, none, none, none, none]) :
    w__law_string_s1 [some (.sh, .int c), some (.sh, .lst (ns.map strT)), some (.sh, befD o), some (.ls .sh, .lst (rs.map D.int)), none, none, none, none, none, none] Z := by
  obtain ⟨r0, e0, b0⟩ := dr.get (i := 0) (s := 16) rfl
  obtain ⟨r2, e2, b2⟩ := dr.get (i := 2) (s := 2) rfl
  have g0 : atI (rs.map D.int) 0 = some (.int r0) := at_il e0
  have g2 : atI (rs.map D.int) 2 = some (.int r2) := at_il e2
  cases o <;> simp only [w__law_string_s1, befD, strT, wSeq, wSet, wRet, wRetN, wIf, wDrop, wFor, wNext, wBreak, wCont, wAppend, wSetIx, wAug, wFrz, wAsg, gN, gT, gNil', gCons', mL, mS, mLT, mMv, mIV, mRng, mRngV, mItems, mOp, mB, mC, mVar, mCons, mNil, mTup, mLst, mCB, mCall, mAnd, mOr, mNot, mAndV, mOrV, mNotV, mIf, mNeg, mSl, mNo, mPart, mPk, mChain2, mChain3, mFld, mComp, mComp2, cN, cT, cNil, cCons, mEnum, mYes, mRev, mLenSet, mLenSetG, mLenSetH, wAugIx, mMeth, mMethS, mFst, mJR, mMv2, wUnp, mTru, truD, mMake, wFld, wNever, setN, setF, fldD, String.reduceEq, List.mem_cons, List.mem_singleton, true_or, or_true, or_false, false_or, List.not_mem_nil, oCount, oSplit, oZfill, oLjust, oMulS, cMod, cDiv, cMul, oAdd, oSub, oMul, oDiv, oMod, oPow, oB, oI, oEq, oEqT, oGeT, oIndex, oIs, oIn, oIx, oMulI, oAddI, oSl, oRng1, oRng2, okL, okT, okS, fLen, fAbs, fInt, fStr, fMin, fMax, fSum, fSorted, fSortedW, fMinW, fList, fTuple, fIsi, fIsiC, tyOf, Ty.isi, ty_int, ty_bool, ty_str, ty_list, ty_tuple, ty_dict, isNon, eqOk_int, eqOk_non, eqOk_bl, eqD_int, eqD_bl, eqD_str, eqD_non, beq_self_eq_true, beq_iff_eq, Bool.and_self, atI_0, atI_1, atI_2, atI_3, atI_4, atI_5, atI_6, vw, vs, lendS, ownS, wipeE, ZL.frz, lendS, hasOb, env0, List.replicate_zero, List.replicate_succ, List.cons_append, Nat.reduceSub, List.map_cons, List.map_nil, List.getElem?_cons_zero, List.getElem?_cons_succ, List.getElem?_nil, List.set_cons_zero, List.set_cons_succ, List.length_cons, List.length_nil, List.length_set, Nat.reduceAdd, Nat.reduceLT, Nat.lt_add_one, Nat.zero_lt_succ, List.append_nil, List.nil_append, cln, clnS, clnL, clnX, List.all_cons, List.all_nil, Bool.and_true, Bool.true_and, and_true, true_and, if_true, if_false, Bool.false_eq_true, decide_eq_true_eq, Bool.true_or, Bool.or_true, Bool.false_or, Bool.or_false, decide_true, decide_false, Bool.and_false, Bool.false_and, reduceCtorEq, Int.reduceBEq, nc_0, nc_1, nc_2, nc_3, nc_4, nc_5, nc_6, Bool.not_true, Bool.not_false, reduceIte, g0, g2] <;> (repeat' split) <;> exact h _
theorem u__law_string : ∀ ds Q E, sp__law_string ds Q E → w__law_string (env0 N__law_string ds) (ends0 Q E) := by
  intro ds Q E h
  obtain ⟨c, ns, o, rfl, nok, hob, q⟩ := h
  have hz : 3000 ≤ sizeLine := by decide
  have eN : env0 N__law_string [.int c, .lst (ns.map strT), befD o] = [some (.sh, .int c), some (.sh, .lst (ns.map strT)), some (.sh, befD o), none, none, none, none, none, none, none] := rfl
  rw [eN]
  unfold w__law_string
  simp only [wSeq, w__law_string_s0, sp__law_draws, sp__law_sizes, wSeq, wSet, wRet, wRetN, wIf, wDrop, wFor, wNext, wBreak, wCont, wAppend, wSetIx, wAug, wFrz, wAsg, gN, gT, gNil', gCons', mL, mS, mLT, mMv, mIV, mRng, mRngV, mItems, mOp, mB, mC, mVar, mCons, mNil, mTup, mLst, mCB, mCall, mAnd, mOr, mNot, mAndV, mOrV, mNotV, mIf, mNeg, mSl, mNo, mPart, mPk, mChain2, mChain3, mFld, mComp, mComp2, cN, cT, cNil, cCons, mEnum, mYes, mRev, mLenSet, mLenSetG, mLenSetH, wAugIx, mMeth, mMethS, mFst, mJR, mMv2, wUnp, mTru, truD, mMake, wFld, wNever, setN, setF, fldD, String.reduceEq, List.mem_cons, List.mem_singleton, true_or, or_true, or_false, false_or, List.not_mem_nil, oCount, oSplit, oZfill, oLjust, oMulS, cMod, cDiv, cMul, oAdd, oSub, oMul, oDiv, oMod, oPow, oB, oI, oEq, oEqT, oGeT, oIndex, oIs, oIn, oIx, oMulI, oAddI, oSl, oRng1, oRng2, okL, okT, okS, fLen, fAbs, fInt, fStr, fMin, fMax, fSum, fSorted, fSortedW, fMinW, fList, fTuple, fIsi, fIsiC, tyOf, Ty.isi, ty_int, ty_bool, ty_str, ty_list, ty_tuple, ty_dict, isNon, eqOk_int, eqOk_non, eqOk_bl, eqD_int, eqD_bl, eqD_str, eqD_non, beq_self_eq_true, beq_iff_eq, Bool.and_self, atI_0, atI_1, atI_2, atI_3, atI_4, atI_5, atI_6, vw, vs, lendS, ownS, wipeE, ZL.frz, lendS, hasOb, env0, List.replicate_zero, List.replicate_succ, List.cons_append, Nat.reduceSub, List.map_cons, List.map_nil, List.getElem?_cons_zero, List.getElem?_cons_succ, List.getElem?_nil, List.set_cons_zero, List.set_cons_succ, List.length_cons, List.length_nil, List.length_set, Nat.reduceAdd, Nat.reduceLT, Nat.lt_add_one, Nat.zero_lt_succ, List.append_nil, List.nil_append, cln, clnS, clnL, clnX, List.all_cons, List.all_nil, Bool.and_true, Bool.true_and, and_true, true_and, if_true, if_false, Bool.false_eq_true, decide_eq_true_eq, Bool.true_or, Bool.or_true, Bool.false_or, Bool.or_false, decide_true, decide_false, Bool.and_false, Bool.false_and, reduceCtorEq, Int.reduceBEq, nc_0, nc_1, nc_2, nc_3, nc_4, nc_5, nc_6, Bool.not_true, Bool.not_false, reduceIte]
  refine ⟨by decide, by decide, by decide, by decide, by decide, c, sizesR, rfl, by decide, fun s hs => ?_, fun rs dr => ⟨all_ints _, ?_⟩⟩
  · simp [sizesR, sizesS] at hs
    omega
  refine string_s1 dr _ fun b => ?_
  obtain ⟨r0, e0, b0⟩ := dr.get (i := 0) (s := 16) rfl
  obtain ⟨r1, e1, b1⟩ := dr.get (i := 1) (s := 840) rfl
  obtain ⟨r3, e3, b3⟩ := dr.get (i := 3) (s := 2) rfl
  obtain ⟨r4, e4, b4⟩ := dr.get (i := 4) (s := 16) rfl
  have g0 : atI (rs.map D.int) 0 = some (.int r0) := at_il e0
  have g1 : atI (rs.map D.int) 1 = some (.int r1) := at_il e1
  have g3 : atI (rs.map D.int) 3 = some (.int r3) := at_il e3
  have g4 : atI (rs.map D.int) 4 = some (.int r4) := at_il e4
  have gs : ∀ k : Nat, k < 5 → atI (rs.map D.int) (20 + (k : Int)) = some (.int (rs.getD (20 + k) 0)) := fun k hk => by
    obtain ⟨v, e, b⟩ := dr.get (i := 20 + k) (s := 94) (by
      have : k = 0 ∨ k = 1 ∨ k = 2 ∨ k = 3 ∨ k = 4 := by omega
      rcases this with rfl | rfl | rfl | rfl | rfl <;> rfl)
    have := at_il e
    rw [show ((20 + k : Nat) : Int) = 20 + (k : Int) by omega] at this
    rw [List.getD_eq_getElem?_getD, e]
    exact this
  obtain ⟨p, mt, erp, dp, dmt⟩ := draw_app dr
  obtain ⟨m, t, emt, dm, dt⟩ := draw_app dmt
  have hp5 : p.length = 5 := dp.length
  simp only [w__law_string_s2, w__law_string_s3, sp__law_small, sp__law_text_of, wSeq, wSet, wRet, wRetN, wIf, wDrop, wFor, wNext, wBreak, wCont, wAppend, wSetIx, wAug, wFrz, wAsg, gN, gT, gNil', gCons', mL, mS, mLT, mMv, mIV, mRng, mRngV, mItems, mOp, mB, mC, mVar, mCons, mNil, mTup, mLst, mCB, mCall, mAnd, mOr, mNot, mAndV, mOrV, mNotV, mIf, mNeg, mSl, mNo, mPart, mPk, mChain2, mChain3, mFld, mComp, mComp2, cN, cT, cNil, cCons, mEnum, mYes, mRev, mLenSet, mLenSetG, mLenSetH, wAugIx, mMeth, mMethS, mFst, mJR, mMv2, wUnp, mTru, truD, mMake, wFld, wNever, setN, setF, fldD, String.reduceEq, List.mem_cons, List.mem_singleton, true_or, or_true, or_false, false_or, List.not_mem_nil, oCount, oSplit, oZfill, oLjust, oMulS, cMod, cDiv, cMul, oAdd, oSub, oMul, oDiv, oMod, oPow, oB, oI, oEq, oEqT, oGeT, oIndex, oIs, oIn, oIx, oMulI, oAddI, oSl, oRng1, oRng2, okL, okT, okS, fLen, fAbs, fInt, fStr, fMin, fMax, fSum, fSorted, fSortedW, fMinW, fList, fTuple, fIsi, fIsiC, tyOf, Ty.isi, ty_int, ty_bool, ty_str, ty_list, ty_tuple, ty_dict, isNon, eqOk_int, eqOk_non, eqOk_bl, eqD_int, eqD_bl, eqD_str, eqD_non, beq_self_eq_true, beq_iff_eq, Bool.and_self, atI_0, atI_1, atI_2, atI_3, atI_4, atI_5, atI_6, vw, vs, lendS, ownS, wipeE, ZL.frz, lendS, hasOb, env0, List.replicate_zero, List.replicate_succ, List.cons_append, Nat.reduceSub, List.map_cons, List.map_nil, List.getElem?_cons_zero, List.getElem?_cons_succ, List.getElem?_nil, List.set_cons_zero, List.set_cons_succ, List.length_cons, List.length_nil, List.length_set, Nat.reduceAdd, Nat.reduceLT, Nat.lt_add_one, Nat.zero_lt_succ, List.append_nil, List.nil_append, cln, clnS, clnL, clnX, List.all_cons, List.all_nil, Bool.and_true, Bool.true_and, and_true, true_and, if_true, if_false, Bool.false_eq_true, decide_eq_true_eq, Bool.true_or, Bool.or_true, Bool.false_or, Bool.or_false, decide_true, decide_false, Bool.and_false, Bool.false_and, reduceCtorEq, Int.reduceBEq, nc_0, nc_1, nc_2, nc_3, nc_4, nc_5, nc_6, Bool.not_true, Bool.not_false, reduceIte]
  refine ⟨p, m, t, 5, b, ns, by rw [erp, emt, ← List.append_assoc]; rfl, hp5, by decide, dm, nok, fun r g _ => ⟨cln_rec r, r, rfl, g, rfl, ?_⟩⟩
  have hl := recP_len g
  have hl1 : 1 ≤ (recP r).length := by
    obtain ⟨b, e, _⟩ := recP_pl g
    rw [e]; simp
  simp only [w__law_string_s4, wSeq, wSet, wRet, wRetN, wIf, wDrop, wFor, wNext, wBreak, wCont, wAppend, wSetIx, wAug, wFrz, wAsg, gN, gT, gNil', gCons', mL, mS, mLT, mMv, mIV, mRng, mRngV, mItems, mOp, mB, mC, mVar, mCons, mNil, mTup, mLst, mCB, mCall, mAnd, mOr, mNot, mAndV, mOrV, mNotV, mIf, mNeg, mSl, mNo, mPart, mPk, mChain2, mChain3, mFld, mComp, mComp2, cN, cT, cNil, cCons, mEnum, mYes, mRev, mLenSet, mLenSetG, mLenSetH, wAugIx, mMeth, mMethS, mFst, mJR, mMv2, wUnp, mTru, truD, mMake, wFld, wNever, setN, setF, fldD, String.reduceEq, List.mem_cons, List.mem_singleton, true_or, or_true, or_false, false_or, List.not_mem_nil, oCount, oSplit, oZfill, oLjust, oMulS, cMod, cDiv, cMul, oAdd, oSub, oMul, oDiv, oMod, oPow, oB, oI, oEq, oEqT, oGeT, oIndex, oIs, oIn, oIx, oMulI, oAddI, oSl, oRng1, oRng2, okL, okT, okS, fLen, fAbs, fInt, fStr, fMin, fMax, fSum, fSorted, fSortedW, fMinW, fList, fTuple, fIsi, fIsiC, tyOf, Ty.isi, ty_int, ty_bool, ty_str, ty_list, ty_tuple, ty_dict, isNon, eqOk_int, eqOk_non, eqOk_bl, eqD_int, eqD_bl, eqD_str, eqD_non, beq_self_eq_true, beq_iff_eq, Bool.and_self, atI_0, atI_1, atI_2, atI_3, atI_4, atI_5, atI_6, vw, vs, lendS, ownS, wipeE, ZL.frz, lendS, hasOb, env0, List.replicate_zero, List.replicate_succ, List.cons_append, Nat.reduceSub, List.map_cons, List.map_nil, List.getElem?_cons_zero, List.getElem?_cons_succ, List.getElem?_nil, List.set_cons_zero, List.set_cons_succ, List.length_cons, List.length_nil, List.length_set, Nat.reduceAdd, Nat.reduceLT, Nat.lt_add_one, Nat.zero_lt_succ, List.append_nil, List.nil_append, cln, clnS, clnL, clnX, List.all_cons, List.all_nil, Bool.and_true, Bool.true_and, and_true, true_and, if_true, if_false, Bool.false_eq_true, decide_eq_true_eq, Bool.true_or, Bool.or_true, Bool.false_or, Bool.or_false, decide_true, decide_false, Bool.and_false, Bool.false_and, reduceCtorEq, Int.reduceBEq, nc_0, nc_1, nc_2, nc_3, nc_4, nc_5, nc_6, Bool.not_true, Bool.not_false, reduceIte, g0, cln_rec, strT]
  refine ifZ (fun z0 => ⟨by decide, ?_⟩) fun z0 => ?_
  · exact q (recP r, some r) ⟨recP_ok g, rec_back g.ok, fun r' e => by cases e; exact g⟩
  have hk : 0 ≤ r1 % ((recP r).length : Int) ∧ r1 % ((recP r).length : Int) < ((recP r).length : Int) := ⟨Int.emod_nonneg _ (by omega), Int.emod_lt_of_pos _ (by omega)⟩
  have tail : ∀ (old : Tx) (d0 d1 d2 d4 d5 : D) (Z : ZEnds), OkT old → 59 ∉ old → (∀ k d, Q k d → Z.rt k d) → w__law_string_t2 [some (.sh, d0), some (.sh, d1), some (.sh, d2), some (.ls .sh, .lst (rs.map D.int)), some (.sh, d4), some (.sh, d5), some (.sh, .str (tx (recP r))), some (.sh, .str (tx old)), none, none] { Z with nx := fun env => w__law_string_t3 env Z } := fun old d0 d1 d2 d4 d5 Z h1 h2 h3 => by
    have ho := h1.len
    obtain ⟨k, ek⟩ := Int.eq_ofNat_of_zero_le hk.1
    rw [ek] at hk
    simp only [w__law_string_t2, w__law_string_t3, wSeq, wSet, wRet, wRetN, wIf, wDrop, wFor, wNext, wBreak, wCont, wAppend, wSetIx, wAug, wFrz, wAsg, gN, gT, gNil', gCons', mL, mS, mLT, mMv, mIV, mRng, mRngV, mItems, mOp, mB, mC, mVar, mCons, mNil, mTup, mLst, mCB, mCall, mAnd, mOr, mNot, mAndV, mOrV, mNotV, mIf, mNeg, mSl, mNo, mPart, mPk, mChain2, mChain3, mFld, mComp, mComp2, cN, cT, cNil, cCons, mEnum, mYes, mRev, mLenSet, mLenSetG, mLenSetH, wAugIx, mMeth, mMethS, mFst, mJR, mMv2, wUnp, mTru, truD, mMake, wFld, wNever, setN, setF, fldD, String.reduceEq, List.mem_cons, List.mem_singleton, true_or, or_true, or_false, false_or, List.not_mem_nil, oCount, oSplit, oZfill, oLjust, oMulS, cMod, cDiv, cMul, oAdd, oSub, oMul, oDiv, oMod, oPow, oB, oI, oEq, oEqT, oGeT, oIndex, oIs, oIn, oIx, oMulI, oAddI, oSl, oRng1, oRng2, okL, okT, okS, fLen, fAbs, fInt, fStr, fMin, fMax, fSum, fSorted, fSortedW, fMinW, fList, fTuple, fIsi, fIsiC, tyOf, Ty.isi, ty_int, ty_bool, ty_str, ty_list, ty_tuple, ty_dict, isNon, eqOk_int, eqOk_non, eqOk_bl, eqD_int, eqD_bl, eqD_str, eqD_non, beq_self_eq_true, beq_iff_eq, Bool.and_self, atI_0, atI_1, atI_2, atI_3, atI_4, atI_5, atI_6, vw, vs, lendS, ownS, wipeE, ZL.frz, lendS, hasOb, env0, List.replicate_zero, List.replicate_succ, List.cons_append, Nat.reduceSub, List.map_cons, List.map_nil, List.getElem?_cons_zero, List.getElem?_cons_succ, List.getElem?_nil, List.set_cons_zero, List.set_cons_succ, List.length_cons, List.length_nil, List.length_set, Nat.reduceAdd, Nat.reduceLT, Nat.lt_add_one, Nat.zero_lt_succ, List.append_nil, List.nil_append, cln, clnS, clnL, clnX, List.all_cons, List.all_nil, Bool.and_true, Bool.true_and, and_true, true_and, if_true, if_false, Bool.false_eq_true, decide_eq_true_eq, Bool.true_or, Bool.or_true, Bool.false_or, Bool.or_false, decide_true, decide_false, Bool.and_false, Bool.false_and, reduceCtorEq, Int.reduceBEq, nc_0, nc_1, nc_2, nc_3, nc_4, nc_5, nc_6, Bool.not_true, Bool.not_false, reduceIte, g1, tx_len, ek]
    have := h3 _ _ (q ((recP r).take k ++ old.drop k, none) (torn_ok g h1 h2 (by omega)))
    have e1 := cut_take (recP r) k
    have e2 := cut_drop old k
    rw [e1, e2, tx_app]
    simp only [tx_len, List.length_take, List.length_drop]
    exact ⟨by omega, by omega, by omega, by omega, by omega, by decide, this⟩
  have bef : ∀ (d0 d1 d4 d5 : D) (Z : ZEnds), (∀ k d, Q k d → Z.rt k d) → w__law_string_t1 [some (.sh, d0), some (.sh, d1), some (.sh, befD o), some (.ls .sh, .lst (rs.map D.int)), some (.sh, d4), some (.sh, d5), some (.sh, .str (tx (recP r))), some (.sh, .str (tx [])), none, none] { Z with nx := fun env => w__law_string_t2 env { Z with nx := fun env => w__law_string_t3 env Z } } := fun d0 d1 d4 d5 Z h3 => by
    have t0 := tail [] d0 d1 (befD o) d4 d5 Z ⟨by decide, fun c hc => by cases hc⟩ (by decide) h3
    have e3 : eqOk (.int r3) = true := rfl
    cases o with
    | none =>
      simp only [w__law_string_t1, befD, wSeq, wSet, wRet, wRetN, wIf, wDrop, wFor, wNext, wBreak, wCont, wAppend, wSetIx, wAug, wFrz, wAsg, gN, gT, gNil', gCons', mL, mS, mLT, mMv, mIV, mRng, mRngV, mItems, mOp, mB, mC, mVar, mCons, mNil, mTup, mLst, mCB, mCall, mAnd, mOr, mNot, mAndV, mOrV, mNotV, mIf, mNeg, mSl, mNo, mPart, mPk, mChain2, mChain3, mFld, mComp, mComp2, cN, cT, cNil, cCons, mEnum, mYes, mRev, mLenSet, mLenSetG, mLenSetH, wAugIx, mMeth, mMethS, mFst, mJR, mMv2, wUnp, mTru, truD, mMake, wFld, wNever, setN, setF, fldD, String.reduceEq, List.mem_cons, List.mem_singleton, true_or, or_true, or_false, false_or, List.not_mem_nil, oCount, oSplit, oZfill, oLjust, oMulS, cMod, cDiv, cMul, oAdd, oSub, oMul, oDiv, oMod, oPow, oB, oI, oEq, oEqT, oGeT, oIndex, oIs, oIn, oIx, oMulI, oAddI, oSl, oRng1, oRng2, okL, okT, okS, fLen, fAbs, fInt, fStr, fMin, fMax, fSum, fSorted, fSortedW, fMinW, fList, fTuple, fIsi, fIsiC, tyOf, Ty.isi, ty_int, ty_bool, ty_str, ty_list, ty_tuple, ty_dict, isNon, eqOk_int, eqOk_non, eqOk_bl, eqD_int, eqD_bl, eqD_str, eqD_non, beq_self_eq_true, beq_iff_eq, Bool.and_self, atI_0, atI_1, atI_2, atI_3, atI_4, atI_5, atI_6, vw, vs, lendS, ownS, wipeE, ZL.frz, lendS, hasOb, env0, List.replicate_zero, List.replicate_succ, List.cons_append, Nat.reduceSub, List.map_cons, List.map_nil, List.getElem?_cons_zero, List.getElem?_cons_succ, List.getElem?_nil, List.set_cons_zero, List.set_cons_succ, List.length_cons, List.length_nil, List.length_set, Nat.reduceAdd, Nat.reduceLT, Nat.lt_add_one, Nat.zero_lt_succ, List.append_nil, List.nil_append, cln, clnS, clnL, clnX, List.all_cons, List.all_nil, Bool.and_true, Bool.true_and, and_true, true_and, if_true, if_false, Bool.false_eq_true, decide_eq_true_eq, Bool.true_or, Bool.or_true, Bool.false_or, Bool.or_false, decide_true, decide_false, Bool.and_false, Bool.false_and, reduceCtorEq, Int.reduceBEq, nc_0, nc_1, nc_2, nc_3, nc_4, nc_5, nc_6, Bool.not_true, Bool.not_false, reduceIte, g3]
      exact ifZ (fun _ => t0) fun _ => t0
    | some ob =>
      simp only [w__law_string_t1, befD, strT, wSeq, wSet, wRet, wRetN, wIf, wDrop, wFor, wNext, wBreak, wCont, wAppend, wSetIx, wAug, wFrz, wAsg, gN, gT, gNil', gCons', mL, mS, mLT, mMv, mIV, mRng, mRngV, mItems, mOp, mB, mC, mVar, mCons, mNil, mTup, mLst, mCB, mCall, mAnd, mOr, mNot, mAndV, mOrV, mNotV, mIf, mNeg, mSl, mNo, mPart, mPk, mChain2, mChain3, mFld, mComp, mComp2, cN, cT, cNil, cCons, mEnum, mYes, mRev, mLenSet, mLenSetG, mLenSetH, wAugIx, mMeth, mMethS, mFst, mJR, mMv2, wUnp, mTru, truD, mMake, wFld, wNever, setN, setF, fldD, String.reduceEq, List.mem_cons, List.mem_singleton, true_or, or_true, or_false, false_or, List.not_mem_nil, oCount, oSplit, oZfill, oLjust, oMulS, cMod, cDiv, cMul, oAdd, oSub, oMul, oDiv, oMod, oPow, oB, oI, oEq, oEqT, oGeT, oIndex, oIs, oIn, oIx, oMulI, oAddI, oSl, oRng1, oRng2, okL, okT, okS, fLen, fAbs, fInt, fStr, fMin, fMax, fSum, fSorted, fSortedW, fMinW, fList, fTuple, fIsi, fIsiC, tyOf, Ty.isi, ty_int, ty_bool, ty_str, ty_list, ty_tuple, ty_dict, isNon, eqOk_int, eqOk_non, eqOk_bl, eqD_int, eqD_bl, eqD_str, eqD_non, beq_self_eq_true, beq_iff_eq, Bool.and_self, atI_0, atI_1, atI_2, atI_3, atI_4, atI_5, atI_6, vw, vs, lendS, ownS, wipeE, ZL.frz, lendS, hasOb, env0, List.replicate_zero, List.replicate_succ, List.cons_append, Nat.reduceSub, List.map_cons, List.map_nil, List.getElem?_cons_zero, List.getElem?_cons_succ, List.getElem?_nil, List.set_cons_zero, List.set_cons_succ, List.length_cons, List.length_nil, List.length_set, Nat.reduceAdd, Nat.reduceLT, Nat.lt_add_one, Nat.zero_lt_succ, List.append_nil, List.nil_append, cln, clnS, clnL, clnX, List.all_cons, List.all_nil, Bool.and_true, Bool.true_and, and_true, true_and, if_true, if_false, Bool.false_eq_true, decide_eq_true_eq, Bool.true_or, Bool.or_true, Bool.false_or, Bool.or_false, decide_true, decide_false, Bool.and_false, Bool.false_and, reduceCtorEq, Int.reduceBEq, nc_0, nc_1, nc_2, nc_3, nc_4, nc_5, nc_6, Bool.not_true, Bool.not_false, reduceIte, g3]
      have e59 : Str.ofString ";" = (⟨#[59]⟩ : Str) := by decide
      rw [e59, occ1, show (tx ob).cps.toList = ob from rfl]
      refine ifZ (fun _ => ifZ (fun z => ?_) fun _ => t0) fun _ => t0
      exact tail ob d0 d1 _ d4 d5 Z (hob _ rfl) (fun w => by rw [decide_eq_true w] at z; cases z) h3
  have em : Str.ofString "" = tx [] := by decide
  have oke : StrOk ([], none) := ⟨⟨by decide, fun c hc => by cases hc⟩, no_semi (by decide), fun r e => by cases e⟩
  simp only [w__law_string_s5, w__law_string_t0, wSeq, wSet, wRet, wRetN, wIf, wDrop, wFor, wNext, wBreak, wCont, wAppend, wSetIx, wAug, wFrz, wAsg, gN, gT, gNil', gCons', mL, mS, mLT, mMv, mIV, mRng, mRngV, mItems, mOp, mB, mC, mVar, mCons, mNil, mTup, mLst, mCB, mCall, mAnd, mOr, mNot, mAndV, mOrV, mNotV, mIf, mNeg, mSl, mNo, mPart, mPk, mChain2, mChain3, mFld, mComp, mComp2, cN, cT, cNil, cCons, mEnum, mYes, mRev, mLenSet, mLenSetG, mLenSetH, wAugIx, mMeth, mMethS, mFst, mJR, mMv2, wUnp, mTru, truD, mMake, wFld, wNever, setN, setF, fldD, String.reduceEq, List.mem_cons, List.mem_singleton, true_or, or_true, or_false, false_or, List.not_mem_nil, oCount, oSplit, oZfill, oLjust, oMulS, cMod, cDiv, cMul, oAdd, oSub, oMul, oDiv, oMod, oPow, oB, oI, oEq, oEqT, oGeT, oIndex, oIs, oIn, oIx, oMulI, oAddI, oSl, oRng1, oRng2, okL, okT, okS, fLen, fAbs, fInt, fStr, fMin, fMax, fSum, fSorted, fSortedW, fMinW, fList, fTuple, fIsi, fIsiC, tyOf, Ty.isi, ty_int, ty_bool, ty_str, ty_list, ty_tuple, ty_dict, isNon, eqOk_int, eqOk_non, eqOk_bl, eqD_int, eqD_bl, eqD_str, eqD_non, beq_self_eq_true, beq_iff_eq, Bool.and_self, atI_0, atI_1, atI_2, atI_3, atI_4, atI_5, atI_6, vw, vs, lendS, ownS, wipeE, ZL.frz, lendS, hasOb, env0, List.replicate_zero, List.replicate_succ, List.cons_append, Nat.reduceSub, List.map_cons, List.map_nil, List.getElem?_cons_zero, List.getElem?_cons_succ, List.getElem?_nil, List.set_cons_zero, List.set_cons_succ, List.length_cons, List.length_nil, List.length_set, Nat.reduceAdd, Nat.reduceLT, Nat.lt_add_one, Nat.zero_lt_succ, List.append_nil, List.nil_append, cln, clnS, clnL, clnX, List.all_cons, List.all_nil, Bool.and_true, Bool.true_and, and_true, true_and, if_true, if_false, Bool.false_eq_true, decide_eq_true_eq, Bool.true_or, Bool.or_true, Bool.false_or, Bool.or_false, decide_true, decide_false, Bool.and_false, Bool.false_and, reduceCtorEq, Int.reduceBEq, nc_0, nc_1, nc_2, nc_3, nc_4, nc_5, nc_6, Bool.not_true, Bool.not_false, reduceIte, g0, em]
  refine ifZ (fun z1 => bef _ _ _ _ _ (fun _ _ h => h)) fun z1 => ?_
  simp only [w__law_string_s6, w__law_string_s7, sp__law_other, wSeq, wSet, wRet, wRetN, wIf, wDrop, wFor, wNext, wBreak, wCont, wAppend, wSetIx, wAug, wFrz, wAsg, gN, gT, gNil', gCons', mL, mS, mLT, mMv, mIV, mRng, mRngV, mItems, mOp, mB, mC, mVar, mCons, mNil, mTup, mLst, mCB, mCall, mAnd, mOr, mNot, mAndV, mOrV, mNotV, mIf, mNeg, mSl, mNo, mPart, mPk, mChain2, mChain3, mFld, mComp, mComp2, cN, cT, cNil, cCons, mEnum, mYes, mRev, mLenSet, mLenSetG, mLenSetH, wAugIx, mMeth, mMethS, mFst, mJR, mMv2, wUnp, mTru, truD, mMake, wFld, wNever, setN, setF, fldD, String.reduceEq, List.mem_cons, List.mem_singleton, true_or, or_true, or_false, false_or, List.not_mem_nil, oCount, oSplit, oZfill, oLjust, oMulS, cMod, cDiv, cMul, oAdd, oSub, oMul, oDiv, oMod, oPow, oB, oI, oEq, oEqT, oGeT, oIndex, oIs, oIn, oIx, oMulI, oAddI, oSl, oRng1, oRng2, okL, okT, okS, fLen, fAbs, fInt, fStr, fMin, fMax, fSum, fSorted, fSortedW, fMinW, fList, fTuple, fIsi, fIsiC, tyOf, Ty.isi, ty_int, ty_bool, ty_str, ty_list, ty_tuple, ty_dict, isNon, eqOk_int, eqOk_non, eqOk_bl, eqD_int, eqD_bl, eqD_str, eqD_non, beq_self_eq_true, beq_iff_eq, Bool.and_self, atI_0, atI_1, atI_2, atI_3, atI_4, atI_5, atI_6, vw, vs, lendS, ownS, wipeE, ZL.frz, lendS, hasOb, env0, List.replicate_zero, List.replicate_succ, List.cons_append, Nat.reduceSub, List.map_cons, List.map_nil, List.getElem?_cons_zero, List.getElem?_cons_succ, List.getElem?_nil, List.set_cons_zero, List.set_cons_succ, List.length_cons, List.length_nil, List.length_set, Nat.reduceAdd, Nat.reduceLT, Nat.lt_add_one, Nat.zero_lt_succ, List.append_nil, List.nil_append, cln, clnS, clnL, clnX, List.all_cons, List.all_nil, Bool.and_true, Bool.true_and, and_true, true_and, if_true, if_false, Bool.false_eq_true, decide_eq_true_eq, Bool.true_or, Bool.or_true, Bool.false_or, Bool.or_false, decide_true, decide_false, Bool.and_false, Bool.false_and, reduceCtorEq, Int.reduceBEq, nc_0, nc_1, nc_2, nc_3, nc_4, nc_5, nc_6, Bool.not_true, Bool.not_false, reduceIte, g0, g4, em]
  refine ifZ (fun z2 => ⟨by decide, q ([], none) oke⟩) fun z2 => ?_
  refine ifZ (fun z3 => ⟨_, rfl, fun l h1 h2 => ⟨by decide, rfl, q (l, none) ⟨h1, h2, fun r e => by cases e⟩⟩⟩) fun z3 => ?_
  simp only [w__law_string_s8, sp__law_sign, wSeq, wSet, wRet, wRetN, wIf, wDrop, wFor, wNext, wBreak, wCont, wAppend, wSetIx, wAug, wFrz, wAsg, gN, gT, gNil', gCons', mL, mS, mLT, mMv, mIV, mRng, mRngV, mItems, mOp, mB, mC, mVar, mCons, mNil, mTup, mLst, mCB, mCall, mAnd, mOr, mNot, mAndV, mOrV, mNotV, mIf, mNeg, mSl, mNo, mPart, mPk, mChain2, mChain3, mFld, mComp, mComp2, cN, cT, cNil, cCons, mEnum, mYes, mRev, mLenSet, mLenSetG, mLenSetH, wAugIx, mMeth, mMethS, mFst, mJR, mMv2, wUnp, mTru, truD, mMake, wFld, wNever, setN, setF, fldD, String.reduceEq, List.mem_cons, List.mem_singleton, true_or, or_true, or_false, false_or, List.not_mem_nil, oCount, oSplit, oZfill, oLjust, oMulS, cMod, cDiv, cMul, oAdd, oSub, oMul, oDiv, oMod, oPow, oB, oI, oEq, oEqT, oGeT, oIndex, oIs, oIn, oIx, oMulI, oAddI, oSl, oRng1, oRng2, okL, okT, okS, fLen, fAbs, fInt, fStr, fMin, fMax, fSum, fSorted, fSortedW, fMinW, fList, fTuple, fIsi, fIsiC, tyOf, Ty.isi, ty_int, ty_bool, ty_str, ty_list, ty_tuple, ty_dict, isNon, eqOk_int, eqOk_non, eqOk_bl, eqD_int, eqD_bl, eqD_str, eqD_non, beq_self_eq_true, beq_iff_eq, Bool.and_self, atI_0, atI_1, atI_2, atI_3, atI_4, atI_5, atI_6, vw, vs, lendS, ownS, wipeE, ZL.frz, lendS, hasOb, env0, List.replicate_zero, List.replicate_succ, List.cons_append, Nat.reduceSub, List.map_cons, List.map_nil, List.getElem?_cons_zero, List.getElem?_cons_succ, List.getElem?_nil, List.set_cons_zero, List.set_cons_succ, List.length_cons, List.length_nil, List.length_set, Nat.reduceAdd, Nat.reduceLT, Nat.lt_add_one, Nat.zero_lt_succ, List.append_nil, List.nil_append, cln, clnS, clnL, clnX, List.all_cons, List.all_nil, Bool.and_true, Bool.true_and, and_true, true_and, if_true, if_false, Bool.false_eq_true, decide_eq_true_eq, Bool.true_or, Bool.or_true, Bool.false_or, Bool.or_false, decide_true, decide_false, Bool.and_false, Bool.false_and, reduceCtorEq, Int.reduceBEq, nc_0, nc_1, nc_2, nc_3, nc_4, nc_5, nc_6, Bool.not_true, Bool.not_false, reduceIte, rangeD_zero]
  refine ⟨by decide, ?_⟩
  let f : Nat → Nat := fun i => signC (rs.getD (20 + i) 0)
  refine comp_map (List.range 5) _ (fun i => D.str (tx [f i])) (fun i hi K hK => ?_) (by decide) ?_
  · have hi := List.mem_range.1 hi
    simp only [wSeq, wSet, wRet, wRetN, wIf, wDrop, wFor, wNext, wBreak, wCont, wAppend, wSetIx, wAug, wFrz, wAsg, gN, gT, gNil', gCons', mL, mS, mLT, mMv, mIV, mRng, mRngV, mItems, mOp, mB, mC, mVar, mCons, mNil, mTup, mLst, mCB, mCall, mAnd, mOr, mNot, mAndV, mOrV, mNotV, mIf, mNeg, mSl, mNo, mPart, mPk, mChain2, mChain3, mFld, mComp, mComp2, cN, cT, cNil, cCons, mEnum, mYes, mRev, mLenSet, mLenSetG, mLenSetH, wAugIx, mMeth, mMethS, mFst, mJR, mMv2, wUnp, mTru, truD, mMake, wFld, wNever, setN, setF, fldD, String.reduceEq, List.mem_cons, List.mem_singleton, true_or, or_true, or_false, false_or, List.not_mem_nil, oCount, oSplit, oZfill, oLjust, oMulS, cMod, cDiv, cMul, oAdd, oSub, oMul, oDiv, oMod, oPow, oB, oI, oEq, oEqT, oGeT, oIndex, oIs, oIn, oIx, oMulI, oAddI, oSl, oRng1, oRng2, okL, okT, okS, fLen, fAbs, fInt, fStr, fMin, fMax, fSum, fSorted, fSortedW, fMinW, fList, fTuple, fIsi, fIsiC, tyOf, Ty.isi, ty_int, ty_bool, ty_str, ty_list, ty_tuple, ty_dict, isNon, eqOk_int, eqOk_non, eqOk_bl, eqD_int, eqD_bl, eqD_str, eqD_non, beq_self_eq_true, beq_iff_eq, Bool.and_self, atI_0, atI_1, atI_2, atI_3, atI_4, atI_5, atI_6, vw, vs, lendS, ownS, wipeE, ZL.frz, lendS, hasOb, env0, List.replicate_zero, List.replicate_succ, List.cons_append, Nat.reduceSub, List.map_cons, List.map_nil, List.getElem?_cons_zero, List.getElem?_cons_succ, List.getElem?_nil, List.set_cons_zero, List.set_cons_succ, List.length_cons, List.length_nil, List.length_set, Nat.reduceAdd, Nat.reduceLT, Nat.lt_add_one, Nat.zero_lt_succ, List.append_nil, List.nil_append, cln, clnS, clnL, clnX, List.all_cons, List.all_nil, Bool.and_true, Bool.true_and, and_true, true_and, if_true, if_false, Bool.false_eq_true, decide_eq_true_eq, Bool.true_or, Bool.or_true, Bool.false_or, Bool.or_false, decide_true, decide_false, Bool.and_false, Bool.false_and, reduceCtorEq, Int.reduceBEq, nc_0, nc_1, nc_2, nc_3, nc_4, nc_5, nc_6, Bool.not_true, Bool.not_false, reduceIte, gs i hi]
    exact ⟨_, rfl, hK⟩
  have hf : ∀ i, f i < 1000 := fun i => by have := signC_ok (rs.getD (20 + i) 0); show signC _ < _; omega
  have ex : ((List.range 5).map fun i => D.str (tx [f i])) = ((((List.range 5).map f).map fun c => [c]).map tx).map D.str := by simp only [List.map_map]; rfl
  have ec : ∀ l : Tx, (l.map fun c => [c]).flatten = l := fun l => by induction l with
    | nil => rfl
    | cons c l ih => rw [List.map_cons, List.flatten_cons, ih]; rfl
  refine ⟨(((List.range 5).map f).map fun c => [c]).map tx, congrArg D.lst ex, ?_, ?_, ?_⟩
  · have e0 : (Str.ofString "").length = 0 := by decide
    have e1 : ((((List.range 5).map f).map fun c => [c]).map tx).map (·.length) = (List.range 5).map fun _ => 1 := by simp only [List.map_map]; exact List.map_congr_left fun i _ => tx_len _
    rw [e0, e1]
    rw [Nat.mul_zero]; decide
  · rw [em, join_seps, joinL_em, ec, tx_len]
    simp [show (Str.ofString ":").length = 1 from rfl]
  · rw [em, join_seps, joinL_em, ec, repl_tx]
    have hl5 : ((List.range 5).map f).length = 5 := by simp
    have hm5 : ∀ c ∈ (List.range 5).map f, c < 1000 := fun c hc => by
      obtain ⟨i, _, rfl⟩ := List.mem_map.1 hc
      exact hf i
    generalize (List.range 5).map f = l at *
    refine ⟨by decide, q (l.map fun c => if c = 59 then 58 else c, none) ⟨⟨by rw [List.length_map]; omega, fun c hc => ?_⟩, no_semi fun hc => ?_, fun r e => by cases e⟩⟩
    · obtain ⟨x, hx, rfl⟩ := List.mem_map.1 hc
      have := hm5 x hx
      split <;> omega
    · obtain ⟨x, hx, hxx⟩ := List.mem_map.1 hc
      split at hxx <;> omega

end ZL.K30


namespace ZL.K30
open PySem PySem.Spec PyProof.Rows L2 ZL
theorem str_bef {p : Tx × Option Rec} : atI [strT p.1, recOD p.2] 0 = some (strT p.1) := atI_0
def sizesL : List Int := [840, 8, 840] ++ sizesS
theorem handed_eq (ps : List (Tx × Option Rec)) (env : SEnv) (e1 : env.length = 10) (Q : List D → Prop) (hl : ps.length ≤ 1000) (q : Q (ps.map fun p => strT p.1)) : mCompL (cN 9) mYes (mOp oIx (mVar 9) (mC (.int 0))) env (ps.map prD) [] Q := by
  have hz : 3000 ≤ sizeLine := by decide
  refine comp_map ps prD (fun p => strT p.1) (fun p hp K hK => ?_) (by omega) q
  unfold prD
  have h9 : (env.set 9 (some (D.tup [strT p.1, recOD p.2])))[9]? = some (some (D.tup [strT p.1, recOD p.2])) := List.getElem?_set_self (by omega)
  simp only [wSeq, wSet, wRet, wRetN, wIf, wDrop, wFor, wNext, wBreak, wCont, wAppend, wSetIx, wAug, wFrz, wAsg, gN, gT, gNil', gCons', mL, mS, mLT, mMv, mIV, mRng, mRngV, mItems, mOp, mB, mC, mVar, mCons, mNil, mTup, mLst, mCB, mCall, mAnd, mOr, mNot, mAndV, mOrV, mNotV, mIf, mNeg, mSl, mNo, mPart, mPk, mChain2, mChain3, mFld, mComp, mComp2, cN, cT, cNil, cCons, mEnum, mYes, mRev, mLenSet, mLenSetG, mLenSetH, wAugIx, mMeth, mMethS, mFst, mJR, mMv2, wUnp, mTru, truD, mMake, wFld, wNever, setN, setF, fldD, String.reduceEq, List.mem_cons, List.mem_singleton, true_or, or_true, or_false, false_or, List.not_mem_nil, oCount, oSplit, oZfill, oLjust, oMulS, cMod, cDiv, cMul, oAdd, oSub, oMul, oDiv, oMod, oPow, oB, oI, oEq, oEqT, oGeT, oIndex, oIs, oIn, oIx, oMulI, oAddI, oSl, oRng1, oRng2, okL, okT, okS, fLen, fAbs, fInt, fStr, fMin, fMax, fSum, fSorted, fSortedW, fMinW, fList, fTuple, fIsi, fIsiC, tyOf, Ty.isi, ty_int, ty_bool, ty_str, ty_list, ty_tuple, ty_dict, isNon, eqOk_int, eqOk_non, eqOk_bl, eqD_int, eqD_bl, eqD_str, eqD_non, beq_self_eq_true, beq_iff_eq, Bool.and_self, atI_0, atI_1, atI_2, atI_3, atI_4, atI_5, atI_6, h9, e1]
  refine ⟨by decide, hK⟩
theorem law_end {ps : List (Tx × Option Rec)} {ns : List Tx} {rs : List Int} (dr : DrawOk sizesL rs) (nok : NamesOk ns) (hp : ∀ p ∈ ps, StrOk p) (hl : ps.length ≤ 200) (h1 : 1 ≤ ps.length) (sc : List Int) (o : Option Tx) (x4 : Option (Kd × D)) (Q : Kd → D → Prop) (E : Exn → Prop) (q : Q .sh (.bl true)) :
    w_law_s6 [some (.sh, .scr sc), some (.ls .sh, .lst (ns.map strT)), some (.ls .sh, .lst (ps.map prD)), some (.sh, befD o), x4, some (.ls .sh, .lst (rs.map D.int)), none, none, none, none]
      { nx := fun env' => w_law_s7 env' { nx := fun env' => w_law_s8 env' { nx := fun env' => w_law_s9 env' { nx := fun env' => w_law_s10 env' { nx := fun env' => w_law_s11 env' { nx := fun env' => w_law_s12 env' (ends0 Q E), rt := Q, bk := fun x => False, ct := fun x => False, ex := fun x => E }, rt := Q, bk := fun x => False, ct := fun x => False, ex := fun x => E }, rt := Q, bk := fun x => False, ct := fun x => False, ex := fun x => E }, rt := Q, bk := fun x => False, ct := fun x => False, ex := fun x => E }, rt := Q, bk := fun x => False, ct := fun x => False, ex := fun x => E }, rt := Q, bk := fun x => False, ct := fun x => False, ex := fun x => E } := by
  have hz : 3000 ≤ sizeLine := by decide
  obtain ⟨r0, e0, b0⟩ := dr.get (i := 0) (s := 840) rfl
  have g0 : atI (rs.map D.int) 0 = some (.int r0) := at_il e0
  have hk := Int.emod_nonneg r0 (show ((ps.length : Int) + 1) ≠ 0 by omega)
  have hk2 := Int.emod_lt_of_pos r0 (show (0 : Int) < ((ps.length : Int) + 1) by omega)
  obtain ⟨k, ek⟩ := Int.eq_ofNat_of_zero_le hk
  simp only [w_law_s6, wSeq, wSet, wRet, wRetN, wIf, wDrop, wFor, wNext, wBreak, wCont, wAppend, wSetIx, wAug, wFrz, wAsg, gN, gT, gNil', gCons', mL, mS, mLT, mMv, mIV, mRng, mRngV, mItems, mOp, mB, mC, mVar, mCons, mNil, mTup, mLst, mCB, mCall, mAnd, mOr, mNot, mAndV, mOrV, mNotV, mIf, mNeg, mSl, mNo, mPart, mPk, mChain2, mChain3, mFld, mComp, mComp2, cN, cT, cNil, cCons, mEnum, mYes, mRev, mLenSet, mLenSetG, mLenSetH, wAugIx, mMeth, mMethS, mFst, mJR, mMv2, wUnp, mTru, truD, mMake, wFld, wNever, setN, setF, fldD, String.reduceEq, List.mem_cons, List.mem_singleton, true_or, or_true, or_false, false_or, List.not_mem_nil, oCount, oSplit, oZfill, oLjust, oMulS, cMod, cDiv, cMul, oAdd, oSub, oMul, oDiv, oMod, oPow, oB, oI, oEq, oEqT, oGeT, oIndex, oIs, oIn, oIx, oMulI, oAddI, oSl, oRng1, oRng2, okL, okT, okS, fLen, fAbs, fInt, fStr, fMin, fMax, fSum, fSorted, fSortedW, fMinW, fList, fTuple, fIsi, fIsiC, tyOf, Ty.isi, ty_int, ty_bool, ty_str, ty_list, ty_tuple, ty_dict, isNon, eqOk_int, eqOk_non, eqOk_bl, eqD_int, eqD_bl, eqD_str, eqD_non, beq_self_eq_true, beq_iff_eq, Bool.and_self, atI_0, atI_1, atI_2, atI_3, atI_4, atI_5, atI_6, vw, vs, lendS, ownS, wipeE, ZL.frz, lendS, hasOb, env0, List.replicate_zero, List.replicate_succ, List.cons_append, Nat.reduceSub, List.map_cons, List.map_nil, List.getElem?_cons_zero, List.getElem?_cons_succ, List.getElem?_nil, List.set_cons_zero, List.set_cons_succ, List.length_cons, List.length_nil, List.length_set, Nat.reduceAdd, Nat.reduceLT, Nat.lt_add_one, Nat.zero_lt_succ, List.append_nil, List.nil_append, cln, clnS, clnL, clnX, List.all_cons, List.all_nil, Bool.and_true, Bool.true_and, and_true, true_and, if_true, if_false, Bool.false_eq_true, decide_eq_true_eq, Bool.true_or, Bool.or_true, Bool.false_or, Bool.or_false, decide_true, decide_false, Bool.and_false, Bool.false_and, reduceCtorEq, Int.reduceBEq, nc_0, nc_1, nc_2, nc_3, nc_4, nc_5, nc_6, Bool.not_true, Bool.not_false, reduceIte]
  refine handed_eq ps _ rfl _ (by omega) ?_
  have cs : ∀ l : List (Tx × Option Rec), ((l.map fun p => strT p.1).all fun x => clnS x) = true := fun l => all_map (fun _ => rfl) l
  refine ⟨cs _, ?_⟩
  simp only [w_law_s7, sp__law_reads, wSeq, wSet, wRet, wRetN, wIf, wDrop, wFor, wNext, wBreak, wCont, wAppend, wSetIx, wAug, wFrz, wAsg, gN, gT, gNil', gCons', mL, mS, mLT, mMv, mIV, mRng, mRngV, mItems, mOp, mB, mC, mVar, mCons, mNil, mTup, mLst, mCB, mCall, mAnd, mOr, mNot, mAndV, mOrV, mNotV, mIf, mNeg, mSl, mNo, mPart, mPk, mChain2, mChain3, mFld, mComp, mComp2, cN, cT, cNil, cCons, mEnum, mYes, mRev, mLenSet, mLenSetG, mLenSetH, wAugIx, mMeth, mMethS, mFst, mJR, mMv2, wUnp, mTru, truD, mMake, wFld, wNever, setN, setF, fldD, String.reduceEq, List.mem_cons, List.mem_singleton, true_or, or_true, or_false, false_or, List.not_mem_nil, oCount, oSplit, oZfill, oLjust, oMulS, cMod, cDiv, cMul, oAdd, oSub, oMul, oDiv, oMod, oPow, oB, oI, oEq, oEqT, oGeT, oIndex, oIs, oIn, oIx, oMulI, oAddI, oSl, oRng1, oRng2, okL, okT, okS, fLen, fAbs, fInt, fStr, fMin, fMax, fSum, fSorted, fSortedW, fMinW, fList, fTuple, fIsi, fIsiC, tyOf, Ty.isi, ty_int, ty_bool, ty_str, ty_list, ty_tuple, ty_dict, isNon, eqOk_int, eqOk_non, eqOk_bl, eqD_int, eqD_bl, eqD_str, eqD_non, beq_self_eq_true, beq_iff_eq, Bool.and_self, atI_0, atI_1, atI_2, atI_3, atI_4, atI_5, atI_6, vw, vs, lendS, ownS, wipeE, ZL.frz, lendS, hasOb, env0, List.replicate_zero, List.replicate_succ, List.cons_append, Nat.reduceSub, List.map_cons, List.map_nil, List.getElem?_cons_zero, List.getElem?_cons_succ, List.getElem?_nil, List.set_cons_zero, List.set_cons_succ, List.length_cons, List.length_nil, List.length_set, Nat.reduceAdd, Nat.reduceLT, Nat.lt_add_one, Nat.zero_lt_succ, List.append_nil, List.nil_append, cln, clnS, clnL, clnX, List.all_cons, List.all_nil, Bool.and_true, Bool.true_and, and_true, true_and, if_true, if_false, Bool.false_eq_true, decide_eq_true_eq, Bool.true_or, Bool.or_true, Bool.false_or, Bool.or_false, decide_true, decide_false, Bool.and_false, Bool.false_and, reduceCtorEq, Int.reduceBEq, nc_0, nc_1, nc_2, nc_3, nc_4, nc_5, nc_6, Bool.not_true, Bool.not_false, reduceIte]
  refine ⟨ps, rfl, by omega, hp, ps, rfl, by omega, hp, ?_⟩
  simp only [w_law_s8, w_law_s9, sp__law_reads, wSeq, wSet, wRet, wRetN, wIf, wDrop, wFor, wNext, wBreak, wCont, wAppend, wSetIx, wAug, wFrz, wAsg, gN, gT, gNil', gCons', mL, mS, mLT, mMv, mIV, mRng, mRngV, mItems, mOp, mB, mC, mVar, mCons, mNil, mTup, mLst, mCB, mCall, mAnd, mOr, mNot, mAndV, mOrV, mNotV, mIf, mNeg, mSl, mNo, mPart, mPk, mChain2, mChain3, mFld, mComp, mComp2, cN, cT, cNil, cCons, mEnum, mYes, mRev, mLenSet, mLenSetG, mLenSetH, wAugIx, mMeth, mMethS, mFst, mJR, mMv2, wUnp, mTru, truD, mMake, wFld, wNever, setN, setF, fldD, String.reduceEq, List.mem_cons, List.mem_singleton, true_or, or_true, or_false, false_or, List.not_mem_nil, oCount, oSplit, oZfill, oLjust, oMulS, cMod, cDiv, cMul, oAdd, oSub, oMul, oDiv, oMod, oPow, oB, oI, oEq, oEqT, oGeT, oIndex, oIs, oIn, oIx, oMulI, oAddI, oSl, oRng1, oRng2, okL, okT, okS, fLen, fAbs, fInt, fStr, fMin, fMax, fSum, fSorted, fSortedW, fMinW, fList, fTuple, fIsi, fIsiC, tyOf, Ty.isi, ty_int, ty_bool, ty_str, ty_list, ty_tuple, ty_dict, isNon, eqOk_int, eqOk_non, eqOk_bl, eqD_int, eqD_bl, eqD_str, eqD_non, beq_self_eq_true, beq_iff_eq, Bool.and_self, atI_0, atI_1, atI_2, atI_3, atI_4, atI_5, atI_6, vw, vs, lendS, ownS, wipeE, ZL.frz, lendS, hasOb, env0, List.replicate_zero, List.replicate_succ, List.cons_append, Nat.reduceSub, List.map_cons, List.map_nil, List.getElem?_cons_zero, List.getElem?_cons_succ, List.getElem?_nil, List.set_cons_zero, List.set_cons_succ, List.length_cons, List.length_nil, List.length_set, Nat.reduceAdd, Nat.reduceLT, Nat.lt_add_one, Nat.zero_lt_succ, List.append_nil, List.nil_append, cln, clnS, clnL, clnX, List.all_cons, List.all_nil, Bool.and_true, Bool.true_and, and_true, true_and, if_true, if_false, Bool.false_eq_true, decide_eq_true_eq, Bool.true_or, Bool.or_true, Bool.false_or, Bool.or_false, decide_true, decide_false, Bool.and_false, Bool.false_and, reduceCtorEq, Int.reduceBEq, nc_0, nc_1, nc_2, nc_3, nc_4, nc_5, nc_6, Bool.not_true, Bool.not_false, reduceIte, g0, List.length_map, ek, cutD_take, ← List.map_take]
  refine ⟨by omega, ?_⟩
  refine handed_eq (ps.take k) _ rfl _ (by rw [List.length_take]; omega) ⟨ps.take k, rfl, by rw [List.length_take]; omega, fun p h => hp p (List.mem_of_mem_take h), ?_⟩
  simp only [w_law_s10, w_law_s11, w_law_s12, sp__law_small, sp__law_text_of, sp__law_reads, wSeq, wSet, wRet, wRetN, wIf, wDrop, wFor, wNext, wBreak, wCont, wAppend, wSetIx, wAug, wFrz, wAsg, gN, gT, gNil', gCons', mL, mS, mLT, mMv, mIV, mRng, mRngV, mItems, mOp, mB, mC, mVar, mCons, mNil, mTup, mLst, mCB, mCall, mAnd, mOr, mNot, mAndV, mOrV, mNotV, mIf, mNeg, mSl, mNo, mPart, mPk, mChain2, mChain3, mFld, mComp, mComp2, cN, cT, cNil, cCons, mEnum, mYes, mRev, mLenSet, mLenSetG, mLenSetH, wAugIx, mMeth, mMethS, mFst, mJR, mMv2, wUnp, mTru, truD, mMake, wFld, wNever, setN, setF, fldD, String.reduceEq, List.mem_cons, List.mem_singleton, true_or, or_true, or_false, false_or, List.not_mem_nil, oCount, oSplit, oZfill, oLjust, oMulS, cMod, cDiv, cMul, oAdd, oSub, oMul, oDiv, oMod, oPow, oB, oI, oEq, oEqT, oGeT, oIndex, oIs, oIn, oIx, oMulI, oAddI, oSl, oRng1, oRng2, okL, okT, okS, fLen, fAbs, fInt, fStr, fMin, fMax, fSum, fSorted, fSortedW, fMinW, fList, fTuple, fIsi, fIsiC, tyOf, Ty.isi, ty_int, ty_bool, ty_str, ty_list, ty_tuple, ty_dict, isNon, eqOk_int, eqOk_non, eqOk_bl, eqD_int, eqD_bl, eqD_str, eqD_non, beq_self_eq_true, beq_iff_eq, Bool.and_self, atI_0, atI_1, atI_2, atI_3, atI_4, atI_5, atI_6, vw, vs, lendS, ownS, wipeE, ZL.frz, lendS, hasOb, env0, List.replicate_zero, List.replicate_succ, List.cons_append, Nat.reduceSub, List.map_cons, List.map_nil, List.getElem?_cons_zero, List.getElem?_cons_succ, List.getElem?_nil, List.set_cons_zero, List.set_cons_succ, List.length_cons, List.length_nil, List.length_set, Nat.reduceAdd, Nat.reduceLT, Nat.lt_add_one, Nat.zero_lt_succ, List.append_nil, List.nil_append, cln, clnS, clnL, clnX, List.all_cons, List.all_nil, Bool.and_true, Bool.true_and, and_true, true_and, if_true, if_false, Bool.false_eq_true, decide_eq_true_eq, Bool.true_or, Bool.or_true, Bool.false_or, Bool.or_false, decide_true, decide_false, Bool.and_false, Bool.false_and, reduceCtorEq, Int.reduceBEq, nc_0, nc_1, nc_2, nc_3, nc_4, nc_5, nc_6, Bool.not_true, Bool.not_false, reduceIte]
  obtain ⟨r3, m, er, d3, dm⟩ := draw_app (a := [840, 8, 840]) dr
  refine ⟨r3, m, [], 3, true, ns, by rw [er, List.append_nil]; rfl, d3.length, by decide, dm, nok, fun r g _ => ⟨cln_rec r, r, rfl, g, rfl, by rw [List.length_map]; omega, r, rfl, g, ?_⟩⟩
  have es : StrOk (recP r, some r) := ⟨recP_ok g, rec_back g.ok, fun r' e => by cases e; exact g⟩
  have e1 : ps.map (fun p => strT p.1) ++ [strT (recP r)] = (ps ++ [(recP r, some r)]).map fun p => strT p.1 := by rw [List.map_append]; rfl
  have e2 : ps.map prD ++ [D.tup [strT (recP r), recD r]] = (ps ++ [(recP r, some r)]).map prD := by rw [List.map_append]; rfl
  refine ⟨by decide, by decide, by rw [List.length_map]; omega, ps ++ [(recP r, some r)], by rw [e1, e2], by simp; omega, fun p h => ?_, q⟩
  rcases List.mem_append.1 h with h | h
  · exact hp p h
  · rw [List.mem_singleton.1 h]; exact es
theorem u_law : ∀ ds Q E, spLaw ds Q E → w_law (env0 N_law ds) (ends0 Q E) := by
  intro ds Q E h
  obtain ⟨sc, rfl, hl, q⟩ := h
  have hz : 3000 ≤ sizeLine := by decide
  simp only [w_law, w_law_s0, w_law_s1, w_law_s2, w_law_s3, N_law, sp__law_cell, sp__law_names, wSeq, wSet, wRet, wRetN, wIf, wDrop, wFor, wNext, wBreak, wCont, wAppend, wSetIx, wAug, wFrz, wAsg, gN, gT, gNil', gCons', mL, mS, mLT, mMv, mIV, mRng, mRngV, mItems, mOp, mB, mC, mVar, mCons, mNil, mTup, mLst, mCB, mCall, mAnd, mOr, mNot, mAndV, mOrV, mNotV, mIf, mNeg, mSl, mNo, mPart, mPk, mChain2, mChain3, mFld, mComp, mComp2, cN, cT, cNil, cCons, mEnum, mYes, mRev, mLenSet, mLenSetG, mLenSetH, wAugIx, mMeth, mMethS, mFst, mJR, mMv2, wUnp, mTru, truD, mMake, wFld, wNever, setN, setF, fldD, String.reduceEq, List.mem_cons, List.mem_singleton, true_or, or_true, or_false, false_or, List.not_mem_nil, oCount, oSplit, oZfill, oLjust, oMulS, cMod, cDiv, cMul, oAdd, oSub, oMul, oDiv, oMod, oPow, oB, oI, oEq, oEqT, oGeT, oIndex, oIs, oIn, oIx, oMulI, oAddI, oSl, oRng1, oRng2, okL, okT, okS, fLen, fAbs, fInt, fStr, fMin, fMax, fSum, fSorted, fSortedW, fMinW, fList, fTuple, fIsi, fIsiC, tyOf, Ty.isi, ty_int, ty_bool, ty_str, ty_list, ty_tuple, ty_dict, isNon, eqOk_int, eqOk_non, eqOk_bl, eqD_int, eqD_bl, eqD_str, eqD_non, beq_self_eq_true, beq_iff_eq, Bool.and_self, atI_0, atI_1, atI_2, atI_3, atI_4, atI_5, atI_6, vw, vs, lendS, ownS, wipeE, ZL.frz, lendS, hasOb, env0, List.replicate_zero, List.replicate_succ, List.cons_append, Nat.reduceSub, List.map_cons, List.map_nil, List.getElem?_cons_zero, List.getElem?_cons_succ, List.getElem?_nil, List.set_cons_zero, List.set_cons_succ, List.length_cons, List.length_nil, List.length_set, Nat.reduceAdd, Nat.reduceLT, Nat.lt_add_one, Nat.zero_lt_succ, List.append_nil, List.nil_append, cln, clnS, clnL, clnX, List.all_cons, List.all_nil, Bool.and_true, Bool.true_and, and_true, true_and, if_true, if_false, Bool.false_eq_true, decide_eq_true_eq, Bool.true_or, Bool.or_true, Bool.false_or, Bool.or_false, decide_true, decide_false, Bool.and_false, Bool.false_and, reduceCtorEq, Int.reduceBEq, nc_0, nc_1, nc_2, nc_3, nc_4, nc_5, nc_6, Bool.not_true, Bool.not_false, reduceIte]
  refine ⟨sc, 0, rfl, by decide, fun c => ⟨c, rfl, fun ns nok => ⟨all_map (fun _ => rfl) ns, by decide, by omega, ?_⟩⟩⟩
  generalize hn : (min 9 (max 3 ((sc.length : Int) - 1))).toNat = n
  have hn2 : 3 ≤ n ∧ n ≤ 9 := by omega
  refine for_range (fun i env => ∃ (ps : List (Tx × Option Rec)) (o : Option Tx) (x4 : Option (Kd × D)), env = [some (.sh, .scr sc), some (.ls .sh, .lst (ns.map strT)), some (.ls .sh, .lst (ps.map prD)), some (.sh, befD o), x4, none, none, none, none, none] ∧ ps.length = i ∧ (∀ p ∈ ps, StrOk p) ∧ ∀ l, o = some l → OkT l) ⟨[], none, none, rfl, rfl, (fun p hp => by cases hp), (fun l e => by cases e)⟩ ?_ ?_
  · rintro i hi env K ⟨ps, o, x4, rfl, hlen, hps, ho⟩ hK
    simp only [sp__law_cell, sp__law_string, wSeq, wSet, wRet, wRetN, wIf, wDrop, wFor, wNext, wBreak, wCont, wAppend, wSetIx, wAug, wFrz, wAsg, gN, gT, gNil', gCons', mL, mS, mLT, mMv, mIV, mRng, mRngV, mItems, mOp, mB, mC, mVar, mCons, mNil, mTup, mLst, mCB, mCall, mAnd, mOr, mNot, mAndV, mOrV, mNotV, mIf, mNeg, mSl, mNo, mPart, mPk, mChain2, mChain3, mFld, mComp, mComp2, cN, cT, cNil, cCons, mEnum, mYes, mRev, mLenSet, mLenSetG, mLenSetH, wAugIx, mMeth, mMethS, mFst, mJR, mMv2, wUnp, mTru, truD, mMake, wFld, wNever, setN, setF, fldD, String.reduceEq, List.mem_cons, List.mem_singleton, true_or, or_true, or_false, false_or, List.not_mem_nil, oCount, oSplit, oZfill, oLjust, oMulS, cMod, cDiv, cMul, oAdd, oSub, oMul, oDiv, oMod, oPow, oB, oI, oEq, oEqT, oGeT, oIndex, oIs, oIn, oIx, oMulI, oAddI, oSl, oRng1, oRng2, okL, okT, okS, fLen, fAbs, fInt, fStr, fMin, fMax, fSum, fSorted, fSortedW, fMinW, fList, fTuple, fIsi, fIsiC, tyOf, Ty.isi, ty_int, ty_bool, ty_str, ty_list, ty_tuple, ty_dict, isNon, eqOk_int, eqOk_non, eqOk_bl, eqD_int, eqD_bl, eqD_str, eqD_non, beq_self_eq_true, beq_iff_eq, Bool.and_self, atI_0, atI_1, atI_2, atI_3, atI_4, atI_5, atI_6, vw, vs, lendS, ownS, wipeE, ZL.frz, lendS, hasOb, env0, List.replicate_zero, List.replicate_succ, List.cons_append, Nat.reduceSub, List.map_cons, List.map_nil, List.getElem?_cons_zero, List.getElem?_cons_succ, List.getElem?_nil, List.set_cons_zero, List.set_cons_succ, List.length_cons, List.length_nil, List.length_set, Nat.reduceAdd, Nat.reduceLT, Nat.lt_add_one, Nat.zero_lt_succ, List.append_nil, List.nil_append, cln, clnS, clnL, clnX, List.all_cons, List.all_nil, Bool.and_true, Bool.true_and, and_true, true_and, if_true, if_false, Bool.false_eq_true, decide_eq_true_eq, Bool.true_or, Bool.or_true, Bool.false_or, Bool.or_false, decide_true, decide_false, Bool.and_false, Bool.false_and, reduceCtorEq, Int.reduceBEq, nc_0, nc_1, nc_2, nc_3, nc_4, nc_5, nc_6, Bool.not_true, Bool.not_false, reduceIte, Int.zero_add]
    refine ⟨sc, _, rfl, by omega, fun c => ⟨⟨fit_of (by omega) (by omega), fit_of (by omega) (by omega)⟩, _, ns, o, rfl, nok, ho, fun p hp => ⟨?_, by rw [List.length_map]; omega, ?_⟩⟩⟩
    · unfold prD strT
      simp only [wSeq, wSet, wRet, wRetN, wIf, wDrop, wFor, wNext, wBreak, wCont, wAppend, wSetIx, wAug, wFrz, wAsg, gN, gT, gNil', gCons', mL, mS, mLT, mMv, mIV, mRng, mRngV, mItems, mOp, mB, mC, mVar, mCons, mNil, mTup, mLst, mCB, mCall, mAnd, mOr, mNot, mAndV, mOrV, mNotV, mIf, mNeg, mSl, mNo, mPart, mPk, mChain2, mChain3, mFld, mComp, mComp2, cN, cT, cNil, cCons, mEnum, mYes, mRev, mLenSet, mLenSetG, mLenSetH, wAugIx, mMeth, mMethS, mFst, mJR, mMv2, wUnp, mTru, truD, mMake, wFld, wNever, setN, setF, fldD, String.reduceEq, List.mem_cons, List.mem_singleton, true_or, or_true, or_false, false_or, List.not_mem_nil, oCount, oSplit, oZfill, oLjust, oMulS, cMod, cDiv, cMul, oAdd, oSub, oMul, oDiv, oMod, oPow, oB, oI, oEq, oEqT, oGeT, oIndex, oIs, oIn, oIx, oMulI, oAddI, oSl, oRng1, oRng2, okL, okT, okS, fLen, fAbs, fInt, fStr, fMin, fMax, fSum, fSorted, fSortedW, fMinW, fList, fTuple, fIsi, fIsiC, tyOf, Ty.isi, ty_int, ty_bool, ty_str, ty_list, ty_tuple, ty_dict, isNon, eqOk_int, eqOk_non, eqOk_bl, eqD_int, eqD_bl, eqD_str, eqD_non, beq_self_eq_true, beq_iff_eq, Bool.and_self, atI_0, atI_1, atI_2, atI_3, atI_4, atI_5, atI_6, vw, vs, lendS, ownS, wipeE, ZL.frz, lendS, hasOb, env0, List.replicate_zero, List.replicate_succ, List.cons_append, Nat.reduceSub, List.map_cons, List.map_nil, List.getElem?_cons_zero, List.getElem?_cons_succ, List.getElem?_nil, List.set_cons_zero, List.set_cons_succ, List.length_cons, List.length_nil, List.length_set, Nat.reduceAdd, Nat.reduceLT, Nat.lt_add_one, Nat.zero_lt_succ, List.append_nil, List.nil_append, cln, clnS, clnL, clnX, List.all_cons, List.all_nil, Bool.and_true, Bool.true_and, and_true, true_and, if_true, if_false, Bool.false_eq_true, decide_eq_true_eq, Bool.true_or, Bool.or_true, Bool.false_or, Bool.or_false, decide_true, decide_false, Bool.and_false, Bool.false_and, reduceCtorEq, Int.reduceBEq, nc_0, nc_1, nc_2, nc_3, nc_4, nc_5, nc_6, Bool.not_true, Bool.not_false, reduceIte, cln_recO]
    · have e : atI (ps.map prD ++ [prD p]) (i : Int) = some (prD p) := by
        refine atI_of ?_
        rw [List.getElem?_append_right (by rw [List.length_map]; omega), List.length_map, hlen, Nat.sub_self]
        rfl
      rw [e]
      show match atI [strT p.1, recOD p.2] 0 with
        | some d => clnS d = true ∧ K [some (Kd.sh, D.scr sc), some (Kd.sh.ls, D.lst (List.map strT ns)), some (Kd.sh.ls, D.lst (List.map prD ps ++ [prD p])), some (Kd.sh, d), some (Kd.sh, D.int (i : Int)), none, none, none, none, none]
        | none => False
      rw [str_bef]
      refine ⟨rfl, hK _ ⟨ps ++ [p], some p.1, some (.sh, .int (i : Int)), ?_, by simp [hlen], fun p' hp' => ?_, fun l e => by cases e; exact hp.ok⟩⟩
      · rw [List.map_append]; rfl
      · rcases List.mem_append.1 hp' with h | h
        · exact hps _ h
        · rw [List.mem_singleton.1 h]; exact hp
  · rintro env ⟨ps, o, x4, rfl, hlen, hps, ho⟩
    simp only [w_law_s4, sp__law_cell, sp__law_draws, sp__law_sizes, wSeq, wSet, wRet, wRetN, wIf, wDrop, wFor, wNext, wBreak, wCont, wAppend, wSetIx, wAug, wFrz, wAsg, gN, gT, gNil', gCons', mL, mS, mLT, mMv, mIV, mRng, mRngV, mItems, mOp, mB, mC, mVar, mCons, mNil, mTup, mLst, mCB, mCall, mAnd, mOr, mNot, mAndV, mOrV, mNotV, mIf, mNeg, mSl, mNo, mPart, mPk, mChain2, mChain3, mFld, mComp, mComp2, cN, cT, cNil, cCons, mEnum, mYes, mRev, mLenSet, mLenSetG, mLenSetH, wAugIx, mMeth, mMethS, mFst, mJR, mMv2, wUnp, mTru, truD, mMake, wFld, wNever, setN, setF, fldD, String.reduceEq, List.mem_cons, List.mem_singleton, true_or, or_true, or_false, false_or, List.not_mem_nil, oCount, oSplit, oZfill, oLjust, oMulS, cMod, cDiv, cMul, oAdd, oSub, oMul, oDiv, oMod, oPow, oB, oI, oEq, oEqT, oGeT, oIndex, oIs, oIn, oIx, oMulI, oAddI, oSl, oRng1, oRng2, okL, okT, okS, fLen, fAbs, fInt, fStr, fMin, fMax, fSum, fSorted, fSortedW, fMinW, fList, fTuple, fIsi, fIsiC, tyOf, Ty.isi, ty_int, ty_bool, ty_str, ty_list, ty_tuple, ty_dict, isNon, eqOk_int, eqOk_non, eqOk_bl, eqD_int, eqD_bl, eqD_str, eqD_non, beq_self_eq_true, beq_iff_eq, Bool.and_self, atI_0, atI_1, atI_2, atI_3, atI_4, atI_5, atI_6, vw, vs, lendS, ownS, wipeE, ZL.frz, lendS, hasOb, env0, List.replicate_zero, List.replicate_succ, List.cons_append, Nat.reduceSub, List.map_cons, List.map_nil, List.getElem?_cons_zero, List.getElem?_cons_succ, List.getElem?_nil, List.set_cons_zero, List.set_cons_succ, List.length_cons, List.length_nil, List.length_set, Nat.reduceAdd, Nat.reduceLT, Nat.lt_add_one, Nat.zero_lt_succ, List.append_nil, List.nil_append, cln, clnS, clnL, clnX, List.all_cons, List.all_nil, Bool.and_true, Bool.true_and, and_true, true_and, if_true, if_false, Bool.false_eq_true, decide_eq_true_eq, Bool.true_or, Bool.or_true, Bool.false_or, Bool.or_false, decide_true, decide_false, Bool.and_false, Bool.false_and, reduceCtorEq, Int.reduceBEq, nc_0, nc_1, nc_2, nc_3, nc_4, nc_5, nc_6, Bool.not_true, Bool.not_false, reduceIte]
    refine ⟨sc, _, rfl, by omega, fun c => ⟨by decide, by decide, _, sizesL, rfl, by decide, fun s hs => ?_, fun rs dr => ⟨all_ints _, ?_⟩⟩⟩
    · simp [sizesL, sizesS] at hs
      omega
    obtain ⟨r1, e1, b1⟩ := dr.get (i := 1) (s := 8) rfl
    obtain ⟨r2, e2, b2⟩ := dr.get (i := 2) (s := 840) rfl
    have g1 : atI (rs.map D.int) 1 = some (.int r1) := at_il e1
    have g2 : atI (rs.map D.int) 2 = some (.int r2) := at_il e2
    have hk := Int.emod_nonneg r2 (show (ps.length : Int) ≠ 0 by omega)
    have hk2 := Int.emod_lt_of_pos r2 (show (0 : Int) < (ps.length : Int) by omega)
    obtain ⟨k, ek⟩ := Int.eq_ofNat_of_zero_le hk
    have hkl : k < ps.length := by omega
    have ea : atI (ps.map prD) (k : Int) = some (prD ps[k]) := at_map prD hkl
    have two : sizeLine ≥ 1000 := by decide
    simp only [w_law_s5, wSeq, wSet, wRet, wRetN, wIf, wDrop, wFor, wNext, wBreak, wCont, wAppend, wSetIx, wAug, wFrz, wAsg, gN, gT, gNil', gCons', mL, mS, mLT, mMv, mIV, mRng, mRngV, mItems, mOp, mB, mC, mVar, mCons, mNil, mTup, mLst, mCB, mCall, mAnd, mOr, mNot, mAndV, mOrV, mNotV, mIf, mNeg, mSl, mNo, mPart, mPk, mChain2, mChain3, mFld, mComp, mComp2, cN, cT, cNil, cCons, mEnum, mYes, mRev, mLenSet, mLenSetG, mLenSetH, wAugIx, mMeth, mMethS, mFst, mJR, mMv2, wUnp, mTru, truD, mMake, wFld, wNever, setN, setF, fldD, String.reduceEq, List.mem_cons, List.mem_singleton, true_or, or_true, or_false, false_or, List.not_mem_nil, oCount, oSplit, oZfill, oLjust, oMulS, cMod, cDiv, cMul, oAdd, oSub, oMul, oDiv, oMod, oPow, oB, oI, oEq, oEqT, oGeT, oIndex, oIs, oIn, oIx, oMulI, oAddI, oSl, oRng1, oRng2, okL, okT, okS, fLen, fAbs, fInt, fStr, fMin, fMax, fSum, fSorted, fSortedW, fMinW, fList, fTuple, fIsi, fIsiC, tyOf, Ty.isi, ty_int, ty_bool, ty_str, ty_list, ty_tuple, ty_dict, isNon, eqOk_int, eqOk_non, eqOk_bl, eqD_int, eqD_bl, eqD_str, eqD_non, beq_self_eq_true, beq_iff_eq, Bool.and_self, atI_0, atI_1, atI_2, atI_3, atI_4, atI_5, atI_6, vw, vs, lendS, ownS, wipeE, ZL.frz, lendS, hasOb, env0, List.replicate_zero, List.replicate_succ, List.cons_append, Nat.reduceSub, List.map_cons, List.map_nil, List.getElem?_cons_zero, List.getElem?_cons_succ, List.getElem?_nil, List.set_cons_zero, List.set_cons_succ, List.length_cons, List.length_nil, List.length_set, Nat.reduceAdd, Nat.reduceLT, Nat.lt_add_one, Nat.zero_lt_succ, List.append_nil, List.nil_append, cln, clnS, clnL, clnX, List.all_cons, List.all_nil, Bool.and_true, Bool.true_and, and_true, true_and, if_true, if_false, Bool.false_eq_true, decide_eq_true_eq, Bool.true_or, Bool.or_true, Bool.false_or, Bool.or_false, decide_true, decide_false, Bool.and_false, Bool.false_and, reduceCtorEq, Int.reduceBEq, nc_0, nc_1, nc_2, nc_3, nc_4, nc_5, nc_6, Bool.not_true, Bool.not_false, reduceIte, g1, g2, List.length_map, ek, ea]
    refine ifZ (fun z => ?_) fun z => law_end dr nok hps (by omega) (by omega) sc o x4 Q E q
    have er : (List.replicate (Int.toNat 90) [prD ps[k]]).flatten = (List.replicate 90 ps[k]).map prD := by rw [List.map_replicate]; rfl
    rw [er, ← List.map_append, List.length_map, List.length_replicate]
    refine ⟨by omega, by decide, by decide, by omega, all_map (fun p => ?_) _, law_end dr nok (fun p hp => ?_) (by simp; omega) (by simp) sc o x4 Q E q⟩
    · unfold prD strT
      simp only [wSeq, wSet, wRet, wRetN, wIf, wDrop, wFor, wNext, wBreak, wCont, wAppend, wSetIx, wAug, wFrz, wAsg, gN, gT, gNil', gCons', mL, mS, mLT, mMv, mIV, mRng, mRngV, mItems, mOp, mB, mC, mVar, mCons, mNil, mTup, mLst, mCB, mCall, mAnd, mOr, mNot, mAndV, mOrV, mNotV, mIf, mNeg, mSl, mNo, mPart, mPk, mChain2, mChain3, mFld, mComp, mComp2, cN, cT, cNil, cCons, mEnum, mYes, mRev, mLenSet, mLenSetG, mLenSetH, wAugIx, mMeth, mMethS, mFst, mJR, mMv2, wUnp, mTru, truD, mMake, wFld, wNever, setN, setF, fldD, String.reduceEq, List.mem_cons, List.mem_singleton, true_or, or_true, or_false, false_or, List.not_mem_nil, oCount, oSplit, oZfill, oLjust, oMulS, cMod, cDiv, cMul, oAdd, oSub, oMul, oDiv, oMod, oPow, oB, oI, oEq, oEqT, oGeT, oIndex, oIs, oIn, oIx, oMulI, oAddI, oSl, oRng1, oRng2, okL, okT, okS, fLen, fAbs, fInt, fStr, fMin, fMax, fSum, fSorted, fSortedW, fMinW, fList, fTuple, fIsi, fIsiC, tyOf, Ty.isi, ty_int, ty_bool, ty_str, ty_list, ty_tuple, ty_dict, isNon, eqOk_int, eqOk_non, eqOk_bl, eqD_int, eqD_bl, eqD_str, eqD_non, beq_self_eq_true, beq_iff_eq, Bool.and_self, atI_0, atI_1, atI_2, atI_3, atI_4, atI_5, atI_6, vw, vs, lendS, ownS, wipeE, ZL.frz, lendS, hasOb, env0, List.replicate_zero, List.replicate_succ, List.cons_append, Nat.reduceSub, List.map_cons, List.map_nil, List.getElem?_cons_zero, List.getElem?_cons_succ, List.getElem?_nil, List.set_cons_zero, List.set_cons_succ, List.length_cons, List.length_nil, List.length_set, Nat.reduceAdd, Nat.reduceLT, Nat.lt_add_one, Nat.zero_lt_succ, List.append_nil, List.nil_append, cln, clnS, clnL, clnX, List.all_cons, List.all_nil, Bool.and_true, Bool.true_and, and_true, true_and, if_true, if_false, Bool.false_eq_true, decide_eq_true_eq, Bool.true_or, Bool.or_true, Bool.false_or, Bool.or_false, decide_true, decide_false, Bool.and_false, Bool.false_and, reduceCtorEq, Int.reduceBEq, nc_0, nc_1, nc_2, nc_3, nc_4, nc_5, nc_6, Bool.not_true, Bool.not_false, reduceIte, cln_recO]
    · rcases List.mem_append.1 hp with hp | hp
      · exact hps p hp
      · rw [List.eq_of_mem_replicate hp]; exact hps _ (List.getElem_mem hkl)

end ZL.K30


namespace ZL.K30
open PySem PySem.Spec PyProof.Rows L2 ZL
def top (i : Nat) : Stmt := PySem.Challenge.pw_pairwarden_k30_logs_read.main.body.getD i (.Pass ⟨0, 0, 0, 0⟩)
structure Blt (G : Glob) : Prop where
  b_abs : Free G "abs"
  b_bool : Free G "bool"
  b_int : Free G "int"
  b_isinstance : Free G "isinstance"
  b_len : Free G "len"
  b_list : Free G "list"
  b_max : Free G "max"
  b_min : Free G "min"
  b_range : Free G "range"
  b_sorted : Free G "sorted"
  b_str : Free G "str"
  b_tuple : Free G "tuple"
abbrev s_is_rising : Stmt := (top 1)
theorem sc_is_rising : FnScope N_is_rising ["numbers"] (defScope s_is_rising) := ⟨rfl, rfl, rfl, by decide +kernel, rfl, by decide +kernel, by decide +kernel⟩
theorem b_is_rising {G : Glob} {W : WX} (B : Blt G) (Z : Zc G N_is_rising (defScope s_is_rising) (fun _ => true) W 0) (T : Zst Z) : ZSs Z (defBody s_is_rising) w_is_rising :=
  (zss_cons (zs_for T (ziv_range2 (B.b_range) (za_cons ze_int (za_cons (ze_callB zf_len (B.b_len) (za_cons (ze_var 0) za_nil)) za_nil))) (zg_name 1) (zss_one (zs_if (zvt (zt_cmp zo_geT (ze_ix (ze_var 0) (ze_op zo_sub (ze_var 1) ze_int)) (ze_ix (ze_var 0) (ze_var 1)))) (zss_one (zs_ret (zv_L ze_bl))) zss_nil)))
    (zss_one (zs_ret (zv_L ze_bl))))
theorem f_is_rising {G : Glob} {f : Addr} {fd : FuncData} (B : Blt G) (F : FunD G.K "is_rising" "is_rising" (defArgs s_is_rising) (defBody s_is_rising) (defScope s_is_rising) [] [] f fd) (hm : G.mg "is_rising" = some (.ref f)) : FnZ G 1 "is_rising" 1 [] sp_is_rising :=
  def_ok F sc_is_rising hm (F.bindsN fun _ _ _ _ _ _ us hl => match us, hl with | [_], _ => rfl) .nil rfl rfl ar_is_rising (fun W Z T => b_is_rising B Z T) u_is_rising
abbrev s_number_of : Stmt := (top 2)
theorem sc_number_of : FnScope N_number_of ["text"] (defScope s_number_of) := ⟨rfl, rfl, rfl, by decide +kernel, rfl, by decide +kernel, by decide +kernel⟩
theorem b_number_of {G : Glob} {W : WX} (B : Blt G) (Z : Zc G N_number_of (defScope s_number_of) (fun _ => true) W 0) (T : Zst Z) : ZSs Z (defBody s_number_of) w_number_of :=
  (zss_cons (zs_if (zvt (zt_cmp zo_eqT (ze_var 0) ze_str)) (zss_one (zs_ret (zv_L ze_non))) zss_nil)
    (zss_cons (zs_for T (ziv_S (zie_str (ze_var 0))) (zg_name 1) (zss_one (zs_if (zvt (zt_cmp zo_notin (ze_var 1) ze_str (by rfl))) (zss_one (zs_ret (zv_L ze_non))) zss_nil)))
    (zss_cons (zs_if (zvt (zt_w (zw_and (zt_cmp zo_gt (ze_callB zf_len (B.b_len) (za_cons (ze_var 0) za_nil)) ze_int) (zw_and1 (zt_cmp zo_eqT (ze_ix (ze_var 0) ze_int) ze_str))))) (zss_one (zs_ret (zv_L ze_non))) zss_nil)
    (zss_cons (zs_if (zvt (zt_cmp zo_gt (ze_callB zf_len (B.b_len) (za_cons (ze_var 0) za_nil)) ze_int)) (zss_one (zs_ret (zv_L ze_non))) zss_nil)
    (zss_one (zs_ret (zv_L (ze_callTy zf_int (B.b_int) (za_cons (ze_var 0) za_nil)))))))))
theorem f_number_of {G : Glob} {f : Addr} {fd : FuncData} (B : Blt G) (F : FunD G.K "number_of" "number_of" (defArgs s_number_of) (defBody s_number_of) (defScope s_number_of) [] [] f fd) (hm : G.mg "number_of" = some (.ref f)) : FnZ G 1 "number_of" 1 [] sp_number_of :=
  def_ok F sc_number_of hm (F.bindsN fun _ _ _ _ _ _ us hl => match us, hl with | [_], _ => rfl) .nil rfl rfl ar_number_of (fun W Z T => b_number_of B Z T) u_number_of
abbrev s_is_name : Stmt := (top 3)
theorem sc_is_name : FnScope N_is_name ["text"] (defScope s_is_name) := ⟨rfl, rfl, rfl, by decide +kernel, rfl, by decide +kernel, by decide +kernel⟩
theorem b_is_name {G : Glob} {W : WX} (B : Blt G) (Z : Zc G N_is_name (defScope s_is_name) (fun _ => true) W 0) (T : Zst Z) : ZSs Z (defBody s_is_name) w_is_name :=
  (zss_cons (zs_if (zvt (zt_w (zw_or (zt_cmp zo_lt (ze_callB zf_len (B.b_len) (za_cons (ze_var 0) za_nil)) ze_int) (zw_or1 (zt_cmp zo_gt (ze_callB zf_len (B.b_len) (za_cons (ze_var 0) za_nil)) ze_int))))) (zss_one (zs_ret (zv_L ze_bl))) zss_nil)
    (zss_cons (zs_for T (ziv_S (zie_str (ze_var 0))) (zg_name 1) (zss_one (zs_if (zvt (zt_cmp zo_notin (ze_var 1) ze_str (by rfl))) (zss_one (zs_ret (zv_L ze_bl))) zss_nil)))
    (zss_one (zs_ret (zv_L ze_bl)))))
theorem f_is_name {G : Glob} {f : Addr} {fd : FuncData} (B : Blt G) (F : FunD G.K "is_name" "is_name" (defArgs s_is_name) (defBody s_is_name) (defScope s_is_name) [] [] f fd) (hm : G.mg "is_name" = some (.ref f)) : FnZ G 1 "is_name" 1 [] sp_is_name :=
  def_ok F sc_is_name hm (F.bindsN fun _ _ _ _ _ _ us hl => match us, hl with | [_], _ => rfl) .nil rfl rfl ar_is_name (fun W Z T => b_is_name B Z T) u_is_name
abbrev s_read_list : Stmt := (top 5)
theorem sc_read_list : FnScope N_read_list ["text"] (defScope s_read_list) := ⟨rfl, rfl, rfl, by decide +kernel, rfl, by decide +kernel, by decide +kernel⟩
theorem b_read_list {G : Glob} {W : WX} (B : Blt G) (Z : Zc G N_read_list (defScope s_read_list) (fun _ => true) W 1) (T : Zst Z) (F_number_of : FnZ G 1 "number_of" 1 [] sp_number_of) : ZSs Z (defBody s_read_list) w_read_list :=
  (zss_cons (zs_if (zvt (zt_cmp zo_eqT (ze_var 0) ze_str)) (zss_one (zs_ret (zv_L (ze_tup za_nil)))) zss_nil)
    (zss_cons (zs_setComp (own := [("part", 2)]) (wr := mL) snd_L (zie_list (ze_split (ze_var 0) ze_str)) (by decide +kernel) (zc_name 2) zts_nil (ze_call F_number_of (by decide) (za_cons (ze_var 2) za_nil)))
    (zss_cons (zs_if (zvt (zt_cmp zo_in ze_non (ze_var 1) (by rfl))) (zss_one (zs_ret (zv_L ze_non))) zss_nil)
    (zss_one (zs_ret (zv_L (ze_callTy zf_tuple (B.b_tuple) (za_cons (ze_var 1) za_nil))))))))
theorem f_read_list {G : Glob} {f : Addr} {fd : FuncData} (B : Blt G) (F : FunD G.K "read_list" "read_list" (defArgs s_read_list) (defBody s_read_list) (defScope s_read_list) [] [] f fd) (hm : G.mg "read_list" = some (.ref f)) (F_number_of : FnZ G 1 "number_of" 1 [] sp_number_of) : FnZ G 2 "read_list" 1 [] sp_read_list :=
  def_ok F sc_read_list hm (F.bindsN fun _ _ _ _ _ _ us hl => match us, hl with | [_], _ => rfl) .nil rfl rfl ar_read_list (fun W Z T => b_read_list B Z T F_number_of) u_read_list
abbrev s_read_named : Stmt := (top 6)
theorem sc_read_named : FnScope N_read_named ["word"] (defScope s_read_named) := ⟨rfl, rfl, rfl, by decide +kernel, rfl, by decide +kernel, by decide +kernel⟩
theorem b_read_named {G : Glob} {W : WX} (B : Blt G) (Z : Zc G N_read_named (defScope s_read_named) (fun _ => true) W 2) (T : Zst Z) (F_is_name : FnZ G 1 "is_name" 1 [] sp_is_name) (F_read_list : FnZ G 2 "read_list" 1 [] sp_read_list) (F_is_rising : FnZ G 1 "is_rising" 1 [] sp_is_rising) : ZSs Z (defBody s_read_named) w_read_named :=
  (zss_cons (zs_set (zv_L (ze_split (ze_var 0) ze_str)))
    (zss_cons (zs_if (zvt (zt_w (zw_or (zt_cmp zo_neT (ze_callB zf_len (B.b_len) (za_cons (ze_var 1) za_nil)) ze_int) (zw_or1 (zt_not (zt_val (ze_call F_is_name (by decide) (za_cons (ze_ix (ze_var 1) ze_int) za_nil)))))))) (zss_one (zs_ret (zv_L ze_non))) zss_nil)
    (zss_cons (zs_set (zv_L (ze_call F_read_list (by decide) (za_cons (ze_ix (ze_var 1) ze_int) za_nil))))
    (zss_cons (zs_if (zvt (zt_w (zw_or (zt_cmp zo_is (ze_var 2) ze_non) (zw_or (zt_cmp zo_in ze_int (ze_var 2) (by rfl)) (zw_or1 (zt_not (zt_val (ze_call F_is_rising (by decide) (za_cons (ze_var 2) za_nil))))))))) (zss_one (zs_ret (zv_L ze_non))) zss_nil)
    (zss_one (zs_ret (zv_L (ze_tup (za_cons (ze_ix (ze_var 1) ze_int) (za_cons (ze_var 2) za_nil))))))))))
theorem f_read_named {G : Glob} {f : Addr} {fd : FuncData} (B : Blt G) (F : FunD G.K "read_named" "read_named" (defArgs s_read_named) (defBody s_read_named) (defScope s_read_named) [] [] f fd) (hm : G.mg "read_named" = some (.ref f)) (F_is_name : FnZ G 1 "is_name" 1 [] sp_is_name) (F_read_list : FnZ G 2 "read_list" 1 [] sp_read_list) (F_is_rising : FnZ G 1 "is_rising" 1 [] sp_is_rising) : FnZ G 3 "read_named" 1 [] sp_read_named :=
  def_ok F sc_read_named hm (F.bindsN fun _ _ _ _ _ _ us hl => match us, hl with | [_], _ => rfl) .nil rfl rfl ar_read_named (fun W Z T => b_read_named B Z T F_is_name F_read_list F_is_rising) u_read_named
abbrev s_read_warden : Stmt := (top 7)
theorem sc_read_warden : FnScope N_read_warden ["word"] (defScope s_read_warden) := ⟨rfl, rfl, rfl, by decide +kernel, rfl, by decide +kernel, by decide +kernel⟩
theorem b_read_warden {G : Glob} {W : WX} (B : Blt G) (Z : Zc G N_read_warden (defScope s_read_warden) (fun _ => true) W 2) (T : Zst Z) (F_number_of : FnZ G 1 "number_of" 1 [] sp_number_of) (F_read_list : FnZ G 2 "read_list" 1 [] sp_read_list) : ZSs Z (defBody s_read_warden) w_read_warden :=
  (zss_cons (zs_set (zv_L (ze_split (ze_var 0) ze_str)))
    (zss_cons (zs_if (zvt (zt_cmp zo_neT (ze_callB zf_len (B.b_len) (za_cons (ze_var 1) za_nil)) ze_int)) (zss_one (zs_ret (zv_L ze_non))) zss_nil)
    (zss_cons (zs_set (zv_L (ze_call F_number_of (by decide) (za_cons (ze_ix (ze_var 1) ze_int) za_nil))))
    (zss_cons (zs_set (zv_L (ze_call F_read_list (by decide) (za_cons (ze_ix (ze_var 1) ze_int) za_nil))))
    (zss_cons (zs_if (zvt (zt_w (zw_or (zt_cmp zo_is (ze_var 2) ze_non) (zw_or (zt_cmp zo_lt (ze_var 2) ze_int) (zw_or (zt_cmp zo_is (ze_var 3) ze_non) (zw_or (zt_cmp zo_neT (ze_callB zf_len (B.b_len) (za_cons (ze_var 3) za_nil)) ze_int) (zw_or1 (zt_cmp zo_geT (ze_ix (ze_var 3) ze_int) (ze_ix (ze_var 3) ze_int))))))))) (zss_one (zs_ret (zv_L ze_non))) zss_nil)
    (zss_one (zs_ret (zv_L (ze_tup (za_cons (ze_var 2) (za_cons (ze_ix (ze_var 3) ze_int) (za_cons (ze_ix (ze_var 3) ze_int) za_nil))))))))))))
theorem f_read_warden {G : Glob} {f : Addr} {fd : FuncData} (B : Blt G) (F : FunD G.K "read_warden" "read_warden" (defArgs s_read_warden) (defBody s_read_warden) (defScope s_read_warden) [] [] f fd) (hm : G.mg "read_warden" = some (.ref f)) (F_number_of : FnZ G 1 "number_of" 1 [] sp_number_of) (F_read_list : FnZ G 2 "read_list" 1 [] sp_read_list) : FnZ G 3 "read_warden" 1 [] sp_read_warden :=
  def_ok F sc_read_warden hm (F.bindsN fun _ _ _ _ _ _ us hl => match us, hl with | [_], _ => rfl) .nil rfl rfl ar_read_warden (fun W Z T => b_read_warden B Z T F_number_of F_read_list) u_read_warden
abbrev s_read_wardens : Stmt := (top 8)
theorem sc_read_wardens : FnScope N_read_wardens ["words"] (defScope s_read_wardens) := ⟨rfl, rfl, rfl, by decide +kernel, rfl, by decide +kernel, by decide +kernel⟩
theorem b_read_wardens {G : Glob} {W : WX} (B : Blt G) (Z : Zc G N_read_wardens (defScope s_read_wardens) (fun _ => true) W 3) (T : Zst Z) (F_read_warden : FnZ G 3 "read_warden" 1 [] sp_read_warden) (F_is_rising : FnZ G 1 "is_rising" 1 [] sp_is_rising) : ZSs Z (defBody s_read_wardens) w_read_wardens :=
  (zss_cons (zs_setComp (own := [("word", 2)]) (wr := mL) snd_L (zie_list (ze_var 0)) (by decide +kernel) (zc_name 2) zts_nil (ze_call F_read_warden (by decide) (za_cons (ze_var 2) za_nil)))
    (zss_cons (zs_if (zvt (zt_w (zw_or (zt_cmp zo_in ze_non (ze_var 1) (by rfl)) (zw_or1 (zt_not (zt_val (ze_call F_is_rising (by decide) (za_cons (ze_comp [("entry", 3)] (zie_list (ze_var 1)) (by decide +kernel) (zc_name 3) zts_nil (ze_ix (ze_var 3) ze_int)) za_nil)))))))) (zss_one (zs_ret (zv_L ze_non))) zss_nil)
    (zss_one (zs_ret (zv_L (ze_callTy zf_tuple (B.b_tuple) (za_cons (ze_var 1) za_nil)))))))
theorem f_read_wardens {G : Glob} {f : Addr} {fd : FuncData} (B : Blt G) (F : FunD G.K "read_wardens" "read_wardens" (defArgs s_read_wardens) (defBody s_read_wardens) (defScope s_read_wardens) [] [] f fd) (hm : G.mg "read_wardens" = some (.ref f)) (F_read_warden : FnZ G 3 "read_warden" 1 [] sp_read_warden) (F_is_rising : FnZ G 1 "is_rising" 1 [] sp_is_rising) : FnZ G 4 "read_wardens" 1 [] sp_read_wardens :=
  def_ok F sc_read_wardens hm (F.bindsN fun _ _ _ _ _ _ us hl => match us, hl with | [_], _ => rfl) .nil rfl rfl ar_read_wardens (fun W Z T => b_read_wardens B Z T F_read_warden F_is_rising) u_read_wardens
abbrev s_read_picture : Stmt := (top 9)
theorem sc_read_picture : FnScope N_read_picture ["words"] (defScope s_read_picture) := ⟨rfl, rfl, rfl, by decide +kernel, rfl, by decide +kernel, by decide +kernel⟩
theorem b_read_picture {G : Glob} {W : WX} (B : Blt G) (Z : Zc G N_read_picture (defScope s_read_picture) (fun _ => true) W 3) (T : Zst Z) (F_read_list : FnZ G 2 "read_list" 1 [] sp_read_list) (F_read_named : FnZ G 3 "read_named" 1 [] sp_read_named) (F_is_rising : FnZ G 1 "is_rising" 1 [] sp_is_rising) : ZSs Z (defBody s_read_picture) w_read_picture :=
  (zss_cons (zs_set (zv_L (ze_call F_read_list (by decide) (za_cons (ze_ix (ze_var 0) ze_int) za_nil))))
    (zss_cons (zs_setComp (own := [("word", 3)]) (wr := mL) snd_L (zie_list (ze_slice (ze_var 0) (zo_some ze_int) zo_none)) (by decide +kernel) (zc_name 3) zts_nil (ze_call F_read_named (by decide) (za_cons (ze_var 3) za_nil)))
    (zss_cons (zs_if (zvt (zt_w (zw_or (zt_cmp zo_is (ze_var 1) ze_non) (zw_or (zt_cmp zo_eqT (ze_callB zf_len (B.b_len) (za_cons (ze_var 1) za_nil)) ze_int) (zw_or1 (zt_cmp zo_in ze_non (ze_var 2) (by rfl))))))) (zss_one (zs_ret (zv_L ze_non))) zss_nil)
    (zss_cons (zs_if (zvt (zt_not (zt_val (ze_call F_is_rising (by decide) (za_cons (ze_comp [("name", 4), ("numbers", 5)] (zie_list (ze_var 2)) (by decide +kernel) (zc_tup (zcs_cons (zc_name 4) (zcs_cons (zc_name 5) zcs_nil))) zts_nil (ze_var 4)) za_nil))))) (zss_one (zs_ret (zv_L ze_non))) zss_nil)
    (zss_one (zs_ret (zv_L (ze_tup (za_cons ze_str (za_cons (ze_var 1) (za_cons (ze_callTy zf_tuple (B.b_tuple) (za_cons (ze_var 2) za_nil)) za_nil)))))))))))
theorem f_read_picture {G : Glob} {f : Addr} {fd : FuncData} (B : Blt G) (F : FunD G.K "read_picture" "read_picture" (defArgs s_read_picture) (defBody s_read_picture) (defScope s_read_picture) [] [] f fd) (hm : G.mg "read_picture" = some (.ref f)) (F_read_list : FnZ G 2 "read_list" 1 [] sp_read_list) (F_read_named : FnZ G 3 "read_named" 1 [] sp_read_named) (F_is_rising : FnZ G 1 "is_rising" 1 [] sp_is_rising) : FnZ G 4 "read_picture" 1 [] sp_read_picture :=
  def_ok F sc_read_picture hm (F.bindsN fun _ _ _ _ _ _ us hl => match us, hl with | [_], _ => rfl) .nil rfl rfl ar_read_picture (fun W Z T => b_read_picture B Z T F_read_list F_read_named F_is_rising) u_read_picture
abbrev s_read_cap : Stmt := (top 10)
theorem sc_read_cap : FnScope N_read_cap ["words"] (defScope s_read_cap) := ⟨rfl, rfl, rfl, by decide +kernel, rfl, by decide +kernel, by decide +kernel⟩
theorem b_read_cap {G : Glob} {W : WX} (B : Blt G) (Z : Zc G N_read_cap (defScope s_read_cap) (fun _ => true) W 1) (T : Zst Z) (F_number_of : FnZ G 1 "number_of" 1 [] sp_number_of) : ZSs Z (defBody s_read_cap) w_read_cap :=
  (zss_cons (zs_set (zv_L (ze_call F_number_of (by decide) (za_cons (ze_ix (ze_var 0) ze_int) za_nil))))
    (zss_cons (zs_set (zv_L (ze_call F_number_of (by decide) (za_cons (ze_ix (ze_var 0) ze_int) za_nil))))
    (zss_cons (zs_if (zvt (zt_w (zw_or (zt_cmp zo_is (ze_var 1) ze_non) (zw_or1 (zt_cmp zo_is (ze_var 2) ze_non))))) (zss_one (zs_ret (zv_L ze_non))) zss_nil)
    (zss_one (zs_ret (zv_L (ze_tup (za_cons ze_str (za_cons (ze_var 1) (za_cons (ze_var 2) za_nil))))))))))
theorem f_read_cap {G : Glob} {f : Addr} {fd : FuncData} (B : Blt G) (F : FunD G.K "read_cap" "read_cap" (defArgs s_read_cap) (defBody s_read_cap) (defScope s_read_cap) [] [] f fd) (hm : G.mg "read_cap" = some (.ref f)) (F_number_of : FnZ G 1 "number_of" 1 [] sp_number_of) : FnZ G 2 "read_cap" 1 [] sp_read_cap :=
  def_ok F sc_read_cap hm (F.bindsN fun _ _ _ _ _ _ us hl => match us, hl with | [_], _ => rfl) .nil rfl rfl ar_read_cap (fun W Z T => b_read_cap B Z T F_number_of) u_read_cap
abbrev s_read_head : Stmt := (top 11)
theorem sc_read_head : FnScope N_read_head ["words"] (defScope s_read_head) := ⟨rfl, rfl, rfl, by decide +kernel, rfl, by decide +kernel, by decide +kernel⟩
theorem b_read_head {G : Glob} {W : WX} (B : Blt G) (Z : Zc G N_read_head (defScope s_read_head) (fun _ => true) W 4) (T : Zst Z) (F_read_named : FnZ G 3 "read_named" 1 [] sp_read_named) (F_read_cap : FnZ G 2 "read_cap" 1 [] sp_read_cap) (F_read_picture : FnZ G 4 "read_picture" 1 [] sp_read_picture) : ZSs Z (defBody s_read_head) w_read_head :=
  (zss_cons (zs_if (zvt (zt_cmp zo_eqT (ze_var 0) (ze_lst (za_cons ze_str za_nil)))) (zss_one (zs_ret (zv_L (ze_tup (za_cons ze_str za_nil))))) zss_nil)
    (zss_cons (zs_if (zvt (zt_w (zw_and (zt_cmp zo_eqT (ze_callB zf_len (B.b_len) (za_cons (ze_var 0) za_nil)) ze_int) (zw_and1 (zt_cmp zo_eqT (ze_ix (ze_var 0) ze_int) ze_str))))) (zss_cons (zs_set (zv_L (ze_call F_read_named (by decide) (za_cons (ze_ix (ze_var 0) ze_int) za_nil))))
    (zss_cons (zs_if (zvt (zt_cmp zo_is (ze_var 1) ze_non)) (zss_one (zs_ret (zv_L ze_non))) zss_nil)
    (zss_one (zs_ret (zv_L (ze_op zo_add (ze_tup (za_cons ze_str za_nil)) (ze_var 1))))))) zss_nil)
    (zss_cons (zs_if (zvt (zt_w (zw_and (zt_cmp zo_eqT (ze_callB zf_len (B.b_len) (za_cons (ze_var 0) za_nil)) ze_int) (zw_and1 (zt_cmp zo_eqT (ze_ix (ze_var 0) ze_int) ze_str))))) (zss_one (zs_ret (zv_L (ze_call F_read_cap (by decide) (za_cons (ze_slice (ze_var 0) (zo_some ze_int) zo_none) za_nil))))) zss_nil)
    (zss_cons (zs_if (zvt (zt_w (zw_and (zt_cmp zo_geT (ze_callB zf_len (B.b_len) (za_cons (ze_var 0) za_nil)) ze_int) (zw_and1 (zt_cmp zo_eqT (ze_ix (ze_var 0) ze_int) ze_str))))) (zss_one (zs_ret (zv_L (ze_call F_read_picture (by decide) (za_cons (ze_slice (ze_var 0) (zo_some ze_int) zo_none) za_nil))))) zss_nil)
    (zss_one (zs_ret (zv_L ze_non)))))))
theorem f_read_head {G : Glob} {f : Addr} {fd : FuncData} (B : Blt G) (F : FunD G.K "read_head" "read_head" (defArgs s_read_head) (defBody s_read_head) (defScope s_read_head) [] [] f fd) (hm : G.mg "read_head" = some (.ref f)) (F_read_named : FnZ G 3 "read_named" 1 [] sp_read_named) (F_read_cap : FnZ G 2 "read_cap" 1 [] sp_read_cap) (F_read_picture : FnZ G 4 "read_picture" 1 [] sp_read_picture) : FnZ G 5 "read_head" 1 [] sp_read_head :=
  def_ok F sc_read_head hm (F.bindsN fun _ _ _ _ _ _ us hl => match us, hl with | [_], _ => rfl) .nil rfl rfl ar_read_head (fun W Z T => b_read_head B Z T F_read_named F_read_cap F_read_picture) u_read_head
abbrev s_read_record : Stmt := (top 12)
theorem sc_read_record : FnScope N_read_record ["text"] (defScope s_read_record) := ⟨rfl, rfl, rfl, by decide +kernel, rfl, by decide +kernel, by decide +kernel⟩
theorem b_read_record {G : Glob} {W : WX} (B : Blt G) (Z : Zc G N_read_record (defScope s_read_record) (fun _ => true) W 5) (T : Zst Z) (F_is_name : FnZ G 1 "is_name" 1 [] sp_is_name) (F_read_head : FnZ G 5 "read_head" 1 [] sp_read_head) (F_read_wardens : FnZ G 4 "read_wardens" 1 [] sp_read_wardens) : ZSs Z (defBody s_read_record) w_read_record :=
  (zss_cons (zs_if (zvt (zt_cmp zo_neT (ze_slice (ze_var 0) (zo_some (ze_neg ze_int)) zo_none) ze_str)) (zss_one (zs_ret (zv_L ze_non))) zss_nil)
    (zss_cons (zs_set (zv_L (ze_split (ze_slice (ze_var 0) zo_none (zo_some (ze_neg ze_int))) ze_str)))
    (zss_cons (zs_if (zvt (zt_cmp zo_eqT (ze_ix (ze_var 1) ze_int) ze_str)) (zss_cons (zs_if (zvt (zt_w (zw_or (zt_cmp zo_neT (ze_callB zf_len (B.b_len) (za_cons (ze_var 1) za_nil)) ze_int) (zw_or1 (zt_not (zt_val (ze_call F_is_name (by decide) (za_cons (ze_ix (ze_var 1) ze_int) za_nil)))))))) (zss_one (zs_ret (zv_L ze_non))) zss_nil)
    (zss_one (zs_ret (zv_L (ze_tup (za_cons ze_str (za_cons (ze_ix (ze_var 1) ze_int) za_nil))))))) zss_nil)
    (zss_cons (zs_if (zvt (zt_cmp zo_notin ze_str (ze_var 1) (by rfl))) (zss_one (zs_ret (zv_L ze_non))) zss_nil)
    (zss_cons (zs_set (zv_L (ze_index (ze_var 1) ze_str)))
    (zss_cons (zs_set (zv_L (ze_call F_read_head (by decide) (za_cons (ze_slice (ze_var 1) zo_none (zo_some (ze_var 2))) za_nil))))
    (zss_cons (zs_set (zv_L (ze_call F_read_wardens (by decide) (za_cons (ze_slice (ze_var 1) (zo_some (ze_op zo_add (ze_var 2) ze_int)) zo_none) za_nil))))
    (zss_cons (zs_if (zvt (zt_w (zw_or (zt_cmp zo_is (ze_var 3) ze_non) (zw_or1 (zt_cmp zo_is (ze_var 4) ze_non))))) (zss_one (zs_ret (zv_L ze_non))) zss_nil)
    (zss_one (zs_ret (zv_L (ze_op zo_add (ze_var 3) (ze_tup (za_cons (ze_var 4) za_nil))))))))))))))
theorem f_read_record {G : Glob} {f : Addr} {fd : FuncData} (B : Blt G) (F : FunD G.K "read_record" "read_record" (defArgs s_read_record) (defBody s_read_record) (defScope s_read_record) [] [] f fd) (hm : G.mg "read_record" = some (.ref f)) (F_is_name : FnZ G 1 "is_name" 1 [] sp_is_name) (F_read_head : FnZ G 5 "read_head" 1 [] sp_read_head) (F_read_wardens : FnZ G 4 "read_wardens" 1 [] sp_read_wardens) : FnZ G 6 "read_record" 1 [] sp_read_record :=
  def_ok F sc_read_record hm (F.bindsN fun _ _ _ _ _ _ us hl => match us, hl with | [_], _ => rfl) .nil rfl rfl ar_read_record (fun W Z T => b_read_record B Z T F_is_name F_read_head F_read_wardens) u_read_record
abbrev s_counted : Stmt := (top 13)
theorem sc_counted : FnScope N_counted ["log"] (defScope s_counted) := ⟨rfl, rfl, rfl, by decide +kernel, rfl, by decide +kernel, by decide +kernel⟩
theorem b_counted {G : Glob} {W : WX} (B : Blt G) (Z : Zc G N_counted (defScope s_counted) (fun _ => true) W 6) (T : Zst Z) (F_read_record : FnZ G 6 "read_record" 1 [] sp_read_record) : ZSs Z (defBody s_counted) w_counted :=
  (zss_cons (zs_set (zv_L (ze_lst za_nil)))
    (zss_cons (zs_set (zv_L ze_int))
    (zss_cons (zs_for T (ziv_range1 (B.b_range) (za_cons (ze_callB zf_len (B.b_len) (za_cons (ze_var 0) za_nil)) za_nil)) (zg_name 3) (zss_cons (zs_set (zv_L (ze_call F_read_record (by decide) (za_cons (ze_ix (ze_var 0) (ze_var 3)) za_nil))))
    (zss_one (zs_if (zvt (zt_w (zw_and (zt_cmp zo_isnot (ze_var 4) ze_non) (zw_and1 (zt_cmp zo_eqT (ze_ix (ze_var 4) ze_int) ze_str))))) (zss_cons (zs_set (zv_L (ze_lst (za_cons (ze_var 4) za_nil))))
    (zss_one (zs_set (zv_L (ze_op zo_add (ze_var 3) ze_int))))) (zss_one (zs_if (zvt (zt_w (zw_and (zt_cmp zo_isnot (ze_var 4) ze_non) (zw_and (zt_cmp zo_gt (ze_callB zf_len (B.b_len) (za_cons (ze_var 1) za_nil)) ze_int) (zw_and1 (zt_cmp zo_eqT (ze_var 2) (ze_var 3))))))) (zss_cons (zs_append 1 (zv_L (ze_var 4)))
    (zss_one (zs_set (zv_L (ze_op zo_add (ze_var 3) ze_int))))) zss_nil))))))
    (zss_one (zs_ret (zv_mv2 1 2))))))
theorem f_counted {G : Glob} {f : Addr} {fd : FuncData} (B : Blt G) (F : FunD G.K "counted" "counted" (defArgs s_counted) (defBody s_counted) (defScope s_counted) [] [] f fd) (hm : G.mg "counted" = some (.ref f)) (F_read_record : FnZ G 6 "read_record" 1 [] sp_read_record) : FnZ G 7 "counted" 1 [] sp_counted :=
  def_ok F sc_counted hm (F.bindsN fun _ _ _ _ _ _ us hl => match us, hl with | [_], _ => rfl) .nil rfl rfl ar_counted (fun W Z T => b_counted B Z T F_read_record) u_counted
abbrev s_read_log : Stmt := (top 14)
theorem sc_read_log : FnScope N_read_log ["log"] (defScope s_read_log) := ⟨rfl, rfl, rfl, by decide +kernel, rfl, by decide +kernel, by decide +kernel⟩
theorem b_read_log {G : Glob} {W : WX} (B : Blt G) (Z : Zc G N_read_log (defScope s_read_log) (fun _ => true) W 7) (T : Zst Z) (F_counted : FnZ G 7 "counted" 1 [] sp_counted) : ZSs Z (defBody s_read_log) w_read_log :=
  (zss_one (zs_ret (zv_L (ze_fst (ze_call F_counted (by decide) (za_cons (ze_var 0) za_nil))))))
theorem f_read_log {G : Glob} {f : Addr} {fd : FuncData} (B : Blt G) (F : FunD G.K "read_log" "read_log" (defArgs s_read_log) (defBody s_read_log) (defScope s_read_log) [] [] f fd) (hm : G.mg "read_log" = some (.ref f)) (F_counted : FnZ G 7 "counted" 1 [] sp_counted) : FnZ G 8 "read_log" 1 [] sp_read_log :=
  def_ok F sc_read_log hm (F.bindsN fun _ _ _ _ _ _ us hl => match us, hl with | [_], _ => rfl) .nil rfl rfl ar_read_log (fun W Z T => b_read_log B Z T F_counted) u_read_log
abbrev s_log_end : Stmt := (top 15)
theorem sc_log_end : FnScope N_log_end ["log"] (defScope s_log_end) := ⟨rfl, rfl, rfl, by decide +kernel, rfl, by decide +kernel, by decide +kernel⟩
theorem b_log_end {G : Glob} {W : WX} (B : Blt G) (Z : Zc G N_log_end (defScope s_log_end) (fun _ => true) W 7) (T : Zst Z) (F_counted : FnZ G 7 "counted" 1 [] sp_counted) : ZSs Z (defBody s_log_end) w_log_end :=
  (zss_one (zs_ret (zv_L (ze_ix (ze_call F_counted (by decide) (za_cons (ze_var 0) za_nil)) ze_int))))
theorem f_log_end {G : Glob} {f : Addr} {fd : FuncData} (B : Blt G) (F : FunD G.K "log_end" "log_end" (defArgs s_log_end) (defBody s_log_end) (defScope s_log_end) [] [] f fd) (hm : G.mg "log_end" = some (.ref f)) (F_counted : FnZ G 7 "counted" 1 [] sp_counted) : FnZ G 8 "log_end" 1 [] sp_log_end :=
  def_ok F sc_log_end hm (F.bindsN fun _ _ _ _ _ _ us hl => match us, hl with | [_], _ => rfl) .nil rfl rfl ar_log_end (fun W Z T => b_log_end B Z T F_counted) u_log_end
abbrev s__law_cell : Stmt := (top 17)
theorem sc__law_cell : FnScope N__law_cell ["_law_script", "_law_k"] (defScope s__law_cell) := ⟨rfl, rfl, rfl, by decide +kernel, rfl, by decide +kernel, by decide +kernel⟩
theorem b__law_cell {G : Glob} {W : WX} (B : Blt G) (Z : Zc G N__law_cell (defScope s__law_cell) (fun _ => true) W 0) (T : Zst Z) : ZSs Z (defBody s__law_cell) w__law_cell :=
  (zss_cons (zs_if (zvt (zt_cmp zo_lt (ze_var 1) (ze_callB zf_len (B.b_len) (za_cons (ze_var 0) za_nil)))) (zss_one (zs_ret (zv_L (ze_ix (ze_var 0) (ze_var 1))))) zss_nil)
    (zss_one (zs_ret (zv_L ze_int))))
theorem f__law_cell {G : Glob} {f : Addr} {fd : FuncData} (B : Blt G) (F : FunD G.K "_law_cell" "_law_cell" (defArgs s__law_cell) (defBody s__law_cell) (defScope s__law_cell) [] [] f fd) (hm : G.mg "_law_cell" = some (.ref f)) : FnZ G 1 "_law_cell" 2 [] sp__law_cell :=
  def_ok F sc__law_cell hm (F.bindsN fun _ _ _ _ _ _ us hl => match us, hl with | [_, _], _ => rfl) .nil rfl rfl ar__law_cell (fun W Z T => b__law_cell B Z T) u__law_cell
abbrev s__law_draws : Stmt := (top 18)
theorem sc__law_draws : FnScope N__law_draws ["_law_cell_here", "_law_sizes_here"] (defScope s__law_draws) := ⟨rfl, rfl, rfl, by decide +kernel, rfl, by decide +kernel, by decide +kernel⟩
theorem b__law_draws {G : Glob} {W : WX} (B : Blt G) (Z : Zc G N__law_draws (defScope s__law_draws) (fun _ => true) W 0) (T : Zst Z) : ZSs Z (defBody s__law_draws) w__law_draws :=
  (zss_cons (zs_set (zv_L (ze_callB zf_abs (B.b_abs) (za_cons (ze_callTy zf_int (B.b_int) (za_cons (ze_var 0) za_nil)) za_nil))))
    (zss_cons (zs_set (zv_L (ze_cmp zo_geT (ze_var 2) (ze_op zo_pow ze_int ze_int))))
    (zss_cons (zs_set (zv_L (ze_lst za_nil)))
    (zss_cons (zs_for T (ziv_range1 (B.b_range) (za_cons (ze_callB zf_len (B.b_len) (za_cons (ze_var 1) za_nil)) za_nil)) (zg_name 5) (zss_cons (zs_set (zv_L (ze_ix (ze_var 1) (ze_var 5))))
    (zss_one (zs_if (zvt (zt_w (zw_and (zt_val (ze_var 3)) (zw_and1 (zt_cmp zo_gt (ze_var 2) ze_int))))) (zss_cons (zs_append 4 (zv_L (ze_op zo_mod (ze_callTy zf_int (B.b_int) (za_cons (ze_var 2) za_nil)) (ze_var 6))))
    (zss_one (zs_set (zv_L (ze_op zo_div (ze_var 2) (ze_var 6)))))) (zss_cons (zs_set (zv_L (ze_op zo_mod (ze_callTy zf_int (B.b_int) (za_cons (ze_op zo_add (ze_op zo_add (ze_callB zf_abs (B.b_abs) (za_cons (ze_callTy zf_int (B.b_int) (za_cons (ze_var 0) za_nil)) za_nil)) (ze_op zo_mul ze_int (ze_var 5))) ze_int) za_nil)) ze_int)))
    (zss_cons (zs_set (zv_L (ze_op zo_mod (ze_callTy zf_int (B.b_int) (za_cons (ze_op zo_mul (ze_var 7) (ze_op zo_add (ze_var 7) ze_int)) za_nil)) ze_int)))
    (zss_cons (zs_set (zv_L (ze_op zo_mod (ze_callTy zf_int (B.b_int) (za_cons (ze_op zo_add (ze_op zo_mul (ze_var 7) (ze_op zo_add (ze_var 7) ze_int)) (ze_op zo_mul ze_int (ze_var 5))) za_nil)) ze_int)))
    (zss_one (zs_append 4 (zv_L (ze_op zo_mod (ze_callTy zf_int (B.b_int) (za_cons (ze_op zo_div (ze_var 7) ze_int) za_nil)) (ze_var 6))))))))))))
    (zss_one (zs_ret (zv_mv 4)))))))
theorem f__law_draws {G : Glob} {f : Addr} {fd : FuncData} (B : Blt G) (F : FunD G.K "_law_draws" "_law_draws" (defArgs s__law_draws) (defBody s__law_draws) (defScope s__law_draws) [] [] f fd) (hm : G.mg "_law_draws" = some (.ref f)) : FnZ G 1 "_law_draws" 2 [] sp__law_draws :=
  def_ok F sc__law_draws hm (F.bindsN fun _ _ _ _ _ _ us hl => match us, hl with | [_, _], _ => rfl) .nil rfl rfl ar__law_draws (fun W Z T => b__law_draws B Z T) u__law_draws
abbrev s__law_sign : Stmt := (top 19)
theorem sc__law_sign : FnScope N__law_sign ["_law_number"] (defScope s__law_sign) := ⟨rfl, rfl, rfl, by decide +kernel, rfl, by decide +kernel, by decide +kernel⟩
theorem b__law_sign {G : Glob} {W : WX} (B : Blt G) (Z : Zc G N__law_sign (defScope s__law_sign) (fun _ => true) W 0) (T : Zst Z) : ZSs Z (defBody s__law_sign) w__law_sign :=
  (zss_cons (zs_set (zv_L ze_str))
    (zss_cons (zs_set (zv_L (ze_op zo_add (ze_var 1) ze_str)))
    (zss_one (zs_ret (zv_L (ze_ix (ze_var 1) (ze_op zo_mod (ze_callTy zf_int (B.b_int) (za_cons (ze_var 0) za_nil)) ze_int)))))))
theorem f__law_sign {G : Glob} {f : Addr} {fd : FuncData} (B : Blt G) (F : FunD G.K "_law_sign" "_law_sign" (defArgs s__law_sign) (defBody s__law_sign) (defScope s__law_sign) [] [] f fd) (hm : G.mg "_law_sign" = some (.ref f)) : FnZ G 1 "_law_sign" 1 [] sp__law_sign :=
  def_ok F sc__law_sign hm (F.bindsN fun _ _ _ _ _ _ us hl => match us, hl with | [_], _ => rfl) .nil rfl rfl ar__law_sign (fun W Z T => b__law_sign B Z T) u__law_sign
abbrev s__law_is_integer : Stmt := (top 20)
theorem sc__law_is_integer : FnScope N__law_is_integer ["_law_actual"] (defScope s__law_is_integer) := ⟨rfl, rfl, rfl, by decide +kernel, rfl, by decide +kernel, by decide +kernel⟩
theorem b__law_is_integer {G : Glob} {W : WX} (B : Blt G) (Z : Zc G N__law_is_integer (defScope s__law_is_integer) (fun _ => true) W 0) (T : Zst Z) : ZSs Z (defBody s__law_is_integer) w__law_is_integer :=
  (zss_one (zs_ret (zv_L (ze_and (ze_callB zf_isi (B.b_isinstance) (za_cons (ze_var 0) (za_cons (ze_ty (B.b_int)) za_nil))) (ze_one (ze_not (ze_callB zf_isi (B.b_isinstance) (za_cons (ze_var 0) (za_cons (ze_ty (B.b_bool)) za_nil)))))))))
theorem f__law_is_integer {G : Glob} {f : Addr} {fd : FuncData} (B : Blt G) (F : FunD G.K "_law_is_integer" "_law_is_integer" (defArgs s__law_is_integer) (defBody s__law_is_integer) (defScope s__law_is_integer) [] [] f fd) (hm : G.mg "_law_is_integer" = some (.ref f)) : FnZ G 1 "_law_is_integer" 1 [] sp__law_is_integer :=
  def_ok F sc__law_is_integer hm (F.bindsN fun _ _ _ _ _ _ us hl => match us, hl with | [_], _ => rfl) .nil rfl rfl ar__law_is_integer (fun W Z T => b__law_is_integer B Z T) u__law_is_integer
abbrev s__law_names : Stmt := (top 21)
theorem sc__law_names : FnScope N__law_names ["_law_cell_here"] (defScope s__law_names) := ⟨rfl, rfl, rfl, by decide +kernel, rfl, by decide +kernel, by decide +kernel⟩
theorem b__law_names {G : Glob} {W : WX} (B : Blt G) (Z : Zc G N__law_names (defScope s__law_names) (fun _ => true) W 1) (T : Zst Z) (F__law_draws : FnZ G 1 "_law_draws" 2 [] sp__law_draws) : ZSs Z (defBody s__law_names) w__law_names :=
  (zss_cons (zs_set (zv_L (ze_call F__law_draws (by decide) (za_cons (ze_var 0) (za_cons (ze_op zo_add (ze_op zo_add (ze_op zo_mul (ze_lst (za_cons ze_int za_nil)) ze_int) (ze_op zo_mul (ze_lst (za_cons ze_int za_nil)) ze_int)) (ze_op zo_mul (ze_lst (za_cons ze_int za_nil)) ze_int)) za_nil)))))
    (zss_cons (zs_set (zv_L ze_str))
    (zss_cons (zs_set (zv_L (ze_join ze_str (ze_comp [("_law_k", 5)] (zie_range1 (B.b_range) (za_cons ze_int za_nil)) (by decide +kernel) (zc_name 5) zts_nil (ze_ix (ze_var 2) (ze_ix (ze_var 1) (ze_var 5)))))))
    (zss_cons (zs_set (zv_L (ze_lst za_nil)))
    (zss_cons (zs_for T (ziv_range1 (B.b_range) (za_cons ze_int za_nil)) (zg_name 5) (zss_cons (zs_set (zv_L (ze_ix (ze_var 1) (ze_op zo_add ze_int (ze_var 5)))))
    (zss_one (zs_append 4 (zv_L (ze_op zo_add (ze_slice (ze_var 3) zo_none (zo_some (ze_var 6))) (ze_ix (ze_var 2) (ze_ix (ze_var 1) (ze_op zo_add ze_int (ze_var 5))))))))))
    (zss_one (zs_ret (zv_mv 4))))))))
theorem f__law_names {G : Glob} {f : Addr} {fd : FuncData} (B : Blt G) (F : FunD G.K "_law_names" "_law_names" (defArgs s__law_names) (defBody s__law_names) (defScope s__law_names) [] [] f fd) (hm : G.mg "_law_names" = some (.ref f)) (F__law_draws : FnZ G 1 "_law_draws" 2 [] sp__law_draws) : FnZ G 2 "_law_names" 1 [] sp__law_names :=
  def_ok F sc__law_names hm (F.bindsN fun _ _ _ _ _ _ us hl => match us, hl with | [_], _ => rfl) .nil rfl rfl ar__law_names (fun W Z T => b__law_names B Z T F__law_draws) u__law_names
abbrev s__law_alike : Stmt := (top 22)
theorem sc__law_alike : FnScope N__law_alike ["_law_actual", "_law_due"] (defScope s__law_alike) := ⟨rfl, rfl, rfl, by decide +kernel, rfl, by decide +kernel, by decide +kernel⟩
theorem b__law_alike {G : Glob} {W : WX} (B : Blt G) {k : Nat} (Z : Zc G N__law_alike (defScope s__law_alike) (fun _ => true) W k) (T : Zst Z) (hk : 1 ≤ k) (sp : ZSpec) (R : FnZ G k "_law_alike" 2 [] sp) (F__law_is_integer : FnZ G 1 "_law_is_integer" 1 [] sp__law_is_integer) : ZSs Z (defBody s__law_alike) (w__law_alike sp) :=
  (zss_cons (zs_if (zvt (zt_val (ze_callB zf_isi (B.b_isinstance) (za_cons (ze_var 1) (za_cons (ze_ty (B.b_str)) za_nil))))) (zss_one (zs_ret (zv_L (ze_and (ze_callB zf_isi (B.b_isinstance) (za_cons (ze_var 0) (za_cons (ze_ty (B.b_str)) za_nil))) (ze_one (ze_cmp zo_eqT (ze_var 0) (ze_var 1))))))) zss_nil)
    (zss_cons (zs_if (zvt (zt_not (zt_val (ze_callB zf_isi (B.b_isinstance) (za_cons (ze_var 1) (za_cons (ze_ty (B.b_tuple)) za_nil)))))) (zss_one (zs_ret (zv_L (ze_and (ze_call F__law_is_integer (by omega) (za_cons (ze_var 0) za_nil)) (ze_one (ze_cmp zo_eqT (ze_var 0) (ze_var 1))))))) zss_nil)
    (zss_cons (zs_if (zvt (zt_w (zw_or (zt_not (zt_val (ze_callB zf_isi (B.b_isinstance) (za_cons (ze_var 0) (za_cons (ze_ty (B.b_tuple)) za_nil))))) (zw_or1 (zt_cmp zo_neT (ze_callB zf_len (B.b_len) (za_cons (ze_var 0) za_nil)) (ze_callB zf_len (B.b_len) (za_cons (ze_var 1) za_nil))))))) (zss_one (zs_ret (zv_L ze_bl))) zss_nil)
    (zss_cons (zs_for T (ziv_range1 (B.b_range) (za_cons (ze_callB zf_len (B.b_len) (za_cons (ze_var 1) za_nil)) za_nil)) (zg_name 2) (zss_one (zs_if (zvt (zt_not (zt_val (ze_call R (Nat.le_refl _) (za_cons (ze_ix (ze_var 0) (ze_var 2)) (za_cons (ze_ix (ze_var 1) (ze_var 2)) za_nil)))))) (zss_one (zs_ret (zv_L ze_bl))) zss_nil)))
    (zss_one (zs_ret (zv_L ze_bl)))))))
theorem f__law_alike {G : Glob} {f : Addr} {fd : FuncData} (B : Blt G) (F : FunD G.K "_law_alike" "_law_alike" (defArgs s__law_alike) (defBody s__law_alike) (defScope s__law_alike) [] [] f fd) (hm : G.mg "_law_alike" = some (.ref f)) (F__law_is_integer : FnZ G 1 "_law_is_integer" 1 [] sp__law_is_integer) : FnZ G 9 "_law_alike" 2 [] sp__law_alike :=
  rec_ok (k0 := 1) (w := w__law_alike) sps__law_alike F sc__law_alike hm (F.bindsN fun _ _ _ _ _ _ us hl => match us, hl with | [_, _], _ => rfl) rfl ars__law_alike (fun W k Z T hk sp R => b__law_alike B Z T hk sp R F__law_is_integer) z__law_alike u__law_alike 7
abbrev s__law_join : Stmt := (top 23)
theorem sc__law_join : FnScope N__law_join ["_law_numbers"] (defScope s__law_join) := ⟨rfl, rfl, rfl, by decide +kernel, rfl, by decide +kernel, by decide +kernel⟩
theorem b__law_join {G : Glob} {W : WX} (B : Blt G) (Z : Zc G N__law_join (defScope s__law_join) (fun _ => true) W 0) (T : Zst Z) : ZSs Z (defBody s__law_join) w__law_join :=
  (zss_one (zs_ret (zv_L (ze_join ze_str (ze_comp [("_law_number", 1)] (zie_tup (ze_var 0)) (by decide +kernel) (zc_name 1) zts_nil (ze_callTy zf_str (B.b_str) (za_cons (ze_var 1) za_nil)))))))
theorem f__law_join {G : Glob} {f : Addr} {fd : FuncData} (B : Blt G) (F : FunD G.K "_law_join" "_law_join" (defArgs s__law_join) (defBody s__law_join) (defScope s__law_join) [] [] f fd) (hm : G.mg "_law_join" = some (.ref f)) : FnZ G 1 "_law_join" 1 [] sp__law_join :=
  def_ok F sc__law_join hm (F.bindsN fun _ _ _ _ _ _ us hl => match us, hl with | [_], _ => rfl) .nil rfl rfl ar__law_join (fun W Z T => b__law_join B Z T) u__law_join
abbrev s__law_text_of : Stmt := (top 24)
theorem sc__law_text_of : FnScope N__law_text_of ["_law_record"] (defScope s__law_text_of) := ⟨rfl, rfl, rfl, by decide +kernel, rfl, by decide +kernel, by decide +kernel⟩
theorem b__law_text_of {G : Glob} {W : WX} (B : Blt G) (Z : Zc G N__law_text_of (defScope s__law_text_of) (fun _ => true) W 1) (T : Zst Z) (F__law_join : FnZ G 1 "_law_join" 1 [] sp__law_join) : ZSs Z (defBody s__law_text_of) w__law_text_of :=
  (zss_cons (zs_if (zvt (zt_cmp zo_eqT (ze_ix (ze_var 0) ze_int) ze_str)) (zss_one (zs_ret (zv_L (ze_op zo_add (ze_op zo_add ze_str (ze_ix (ze_var 0) ze_int)) ze_str)))) zss_nil)
    (zss_cons (zs_set (zv_L (ze_lst (za_cons (ze_ix (ze_var 0) ze_int) za_nil))))
    (zss_cons (zs_if (zvt (zt_cmp zo_eqT (ze_ix (ze_var 0) ze_int) ze_str)) (zss_one (zs_set (zv_L (ze_op zo_add (ze_op zo_add (ze_var 1) (ze_lst (za_cons (ze_call F__law_join (by decide) (za_cons (ze_ix (ze_var 0) ze_int) za_nil)) za_nil))) (ze_comp [("_law_named", 3)] (zie_tup (ze_ix (ze_var 0) ze_int)) (by decide +kernel) (zc_name 3) zts_nil (ze_op zo_add (ze_op zo_add (ze_ix (ze_var 3) ze_int) ze_str) (ze_call F__law_join (by decide) (za_cons (ze_ix (ze_var 3) ze_int) za_nil)))))))) zss_nil)
    (zss_cons (zs_if (zvt (zt_cmp zo_eqT (ze_ix (ze_var 0) ze_int) ze_str)) (zss_one (zs_append 1 (zv_L (ze_op zo_add (ze_op zo_add (ze_ix (ze_var 0) ze_int) ze_str) (ze_call F__law_join (by decide) (za_cons (ze_ix (ze_var 0) ze_int) za_nil)))))) zss_nil)
    (zss_cons (zs_if (zvt (zt_cmp zo_eqT (ze_ix (ze_var 0) ze_int) ze_str)) (zss_one (zs_set (zv_L (ze_op zo_add (ze_var 1) (ze_lst (za_cons (ze_callTy zf_str (B.b_str) (za_cons (ze_ix (ze_var 0) ze_int) za_nil)) (za_cons (ze_callTy zf_str (B.b_str) (za_cons (ze_ix (ze_var 0) ze_int) za_nil)) za_nil))))))) zss_nil)
    (zss_cons (zs_append 1 (zv_L ze_str))
    (zss_cons (zs_for T (ziv_S (zie_tup (ze_ix (ze_var 0) (ze_neg ze_int)))) (zg_name 2) (zss_one (zs_append 1 (zv_L (ze_op zo_add (ze_op zo_add (ze_op zo_add (ze_op zo_add (ze_callTy zf_str (B.b_str) (za_cons (ze_ix (ze_var 2) ze_int) za_nil)) ze_str) (ze_callTy zf_str (B.b_str) (za_cons (ze_ix (ze_var 2) ze_int) za_nil))) ze_str) (ze_callTy zf_str (B.b_str) (za_cons (ze_ix (ze_var 2) ze_int) za_nil)))))))
    (zss_one (zs_ret (zv_L (ze_op zo_add (ze_join ze_str (ze_var 1)) ze_str)))))))))))
theorem f__law_text_of {G : Glob} {f : Addr} {fd : FuncData} (B : Blt G) (F : FunD G.K "_law_text_of" "_law_text_of" (defArgs s__law_text_of) (defBody s__law_text_of) (defScope s__law_text_of) [] [] f fd) (hm : G.mg "_law_text_of" = some (.ref f)) (F__law_join : FnZ G 1 "_law_join" 1 [] sp__law_join) : FnZ G 2 "_law_text_of" 1 [] sp__law_text_of :=
  def_ok F sc__law_text_of hm (F.bindsN fun _ _ _ _ _ _ us hl => match us, hl with | [_], _ => rfl) .nil rfl rfl ar__law_text_of (fun W Z T => b__law_text_of B Z T F__law_join) u__law_text_of
abbrev s__law_sizes : Stmt := (top 25)
theorem sc__law_sizes : FnScope N__law_sizes [] (defScope s__law_sizes) := ⟨rfl, rfl, rfl, by decide +kernel, rfl, by decide +kernel, by decide +kernel⟩
theorem b__law_sizes {G : Glob} {W : WX} (B : Blt G) (Z : Zc G N__law_sizes (defScope s__law_sizes) (fun _ => true) W 0) (T : Zst Z) : ZSs Z (defBody s__law_sizes) w__law_sizes :=
  (zss_one (zs_ret (zv_L (ze_lst (za_cons ze_int (za_cons ze_int (za_cons ze_int (za_cons ze_int (za_cons ze_int (za_cons ze_int (za_cons ze_int (za_cons ze_int (za_cons ze_int (za_cons ze_int (za_cons ze_int (za_cons ze_int (za_cons ze_int (za_cons ze_int (za_cons ze_int za_nil)))))))))))))))))))
theorem f__law_sizes {G : Glob} {f : Addr} {fd : FuncData} (B : Blt G) (F : FunD G.K "_law_sizes" "_law_sizes" (defArgs s__law_sizes) (defBody s__law_sizes) (defScope s__law_sizes) [] [] f fd) (hm : G.mg "_law_sizes" = some (.ref f)) : FnZ G 1 "_law_sizes" 0 [] sp__law_sizes :=
  def_ok F sc__law_sizes hm (F.bindsN fun _ _ _ _ _ _ us hl => match us, hl with | [], _ => rfl) .nil rfl rfl ar__law_sizes (fun W Z T => b__law_sizes B Z T) u__law_sizes
abbrev s__law_small : Stmt := (top 26)
theorem sc__law_small : FnScope N__law_small ["_law_row", "_law_k", "_law_is_picture", "_law_names_here"] (defScope s__law_small) := ⟨rfl, rfl, rfl, by decide +kernel, rfl, by decide +kernel, by decide +kernel⟩
theorem b__law_small {G : Glob} {W : WX} (B : Blt G) (Z : Zc G N__law_small (defScope s__law_small) (fun _ => true) W 0) (T : Zst Z) : ZSs Z (defBody s__law_small) w__law_small :=
  (zss_cons (zs_set (zv_L (ze_callTy zf_tuple (B.b_tuple) (za_cons (ze_comp [("_law_step", 7)] (zie_range1 (B.b_range) (za_cons (ze_ix (ze_var 0) (ze_op zo_add (ze_var 1) ze_int)) za_nil)) (by decide +kernel) (zc_name 7) zts_nil (ze_op zo_add (ze_op zo_add ze_int (ze_ix (ze_var 0) (ze_op zo_add (ze_var 1) ze_int))) (ze_op zo_mul (ze_var 7) (ze_op zo_add (ze_ix (ze_var 0) (ze_op zo_add (ze_var 1) ze_int)) ze_int)))) za_nil))))
    (zss_cons (zs_set (zv_L (ze_callTy zf_tuple (B.b_tuple) (za_cons (ze_comp [("_law_step", 7)] (zie_range1 (B.b_range) (za_cons (ze_ix (ze_var 0) (ze_op zo_add (ze_var 1) ze_int)) za_nil)) (by decide +kernel) (zc_name 7) zts_nil (ze_op zo_add (ze_op zo_add ze_int (ze_ix (ze_var 0) (ze_op zo_add (ze_var 1) ze_int))) (ze_op zo_mul ze_int (ze_var 7)))) za_nil))))
    (zss_cons (zs_set (zv_L (ze_lst za_nil)))
    (zss_cons (zs_for T (ziv_range1 (B.b_range) (za_cons (ze_ix (ze_var 0) (ze_op zo_add (ze_var 1) ze_int)) za_nil)) (zg_name 7) (zss_cons (zs_set (zv_L (ze_ix (ze_var 0) (ze_op zo_add (ze_op zo_add (ze_var 1) ze_int) (ze_op zo_mul ze_int (ze_var 7))))))
    (zss_one (zs_append 6 (zv_L (ze_tup (za_cons (ze_op zo_add (ze_op zo_add ze_int (ze_ix (ze_var 0) (ze_op zo_add (ze_var 1) ze_int))) (ze_op zo_mul (ze_var 7) (ze_op zo_add (ze_ix (ze_var 0) (ze_op zo_add (ze_var 1) ze_int)) ze_int))) (za_cons (ze_var 10) (za_cons (ze_op zo_add (ze_op zo_add (ze_var 10) ze_int) (ze_ix (ze_var 0) (ze_op zo_add (ze_op zo_add (ze_var 1) ze_int) (ze_op zo_mul ze_int (ze_var 7))))) za_nil)))))))))
    (zss_cons (zs_set (zv_L (ze_ix (ze_var 3) (ze_ix (ze_var 0) (ze_op zo_add (ze_var 1) ze_int)))))
    (zss_cons (zs_set (zv_L (ze_ix (ze_var 3) (ze_ix (ze_var 0) (ze_op zo_add (ze_var 1) ze_int)))))
    (zss_cons (zs_if (zvt (zt_val (ze_var 2))) (zss_cons (zs_set (zv_L (ze_callTy zf_tuple (B.b_tuple) (za_cons (ze_comp [("_law_step", 7)] (zie_range1 (B.b_range) (za_cons (ze_op zo_add (ze_ix (ze_var 0) (ze_op zo_add (ze_var 1) ze_int)) ze_int) za_nil)) (by decide +kernel) (zc_name 7) zts_nil (ze_op zo_mod (ze_callTy zf_int (B.b_int) (za_cons (ze_op zo_add (ze_ix (ze_var 0) (ze_op zo_add (ze_var 1) ze_int)) (ze_op zo_mul ze_int (ze_var 7))) za_nil)) ze_int)) za_nil))))
    (zss_cons (zs_set (zv_L (ze_lst za_nil)))
    (zss_cons (zs_if (zvt (zt_cmp zo_gt (ze_ix (ze_var 0) (ze_op zo_add (ze_var 1) ze_int)) ze_int)) (zss_one (zs_set (zv_L (ze_lst (za_cons (ze_tup (za_cons (ze_var 8) (za_cons (ze_var 4) za_nil))) za_nil))))) zss_nil)
    (zss_cons (zs_if (zvt (zt_w (zw_and (zt_cmp zo_gt (ze_ix (ze_var 0) (ze_op zo_add (ze_var 1) ze_int)) ze_int) (zw_and1 (zt_cmp zo_neT (ze_var 8) (ze_var 9)))))) (zss_one (zs_set (zv_L (ze_callB zf_sortedW (B.b_sorted) (za_cons (ze_lst (za_cons (ze_tup (za_cons (ze_var 8) (za_cons (ze_var 4) za_nil))) (za_cons (ze_tup (za_cons (ze_var 9) (za_cons (ze_var 5) za_nil))) za_nil))) za_nil))))) zss_nil)
    (zss_one (zs_ret (zv_L (ze_tup (za_cons ze_str (za_cons (ze_var 11) (za_cons (ze_callTy zf_tuple (B.b_tuple) (za_cons (ze_var 12) za_nil)) (za_cons (ze_callTy zf_tuple (B.b_tuple) (za_cons (ze_var 6) za_nil)) za_nil)))))))))))) zss_nil)
    (zss_cons (zs_if (zvt (zt_cmp zo_lt (ze_ix (ze_var 0) (ze_var 1)) ze_int)) (zss_one (zs_ret (zv_L (ze_tup (za_cons ze_str (za_cons (ze_var 8) (za_cons (ze_var 4) (za_cons (ze_callTy zf_tuple (B.b_tuple) (za_cons (ze_var 6) za_nil)) za_nil)))))))) zss_nil)
    (zss_cons (zs_if (zvt (zt_cmp zo_eqT (ze_ix (ze_var 0) (ze_var 1)) ze_int)) (zss_one (zs_ret (zv_L (ze_tup (za_cons ze_str (za_cons (ze_var 8) za_nil)))))) zss_nil)
    (zss_cons (zs_if (zvt (zt_cmp zo_eqT (ze_ix (ze_var 0) (ze_var 1)) ze_int)) (zss_one (zs_ret (zv_L (ze_tup (za_cons ze_str (za_cons (ze_callTy zf_tuple (B.b_tuple) (za_cons (ze_var 6) za_nil)) za_nil)))))) zss_nil)
    (zss_one (zs_ret (zv_L (ze_tup (za_cons ze_str (za_cons (ze_ix (ze_var 0) (ze_op zo_add (ze_var 1) ze_int)) (za_cons (ze_ix (ze_var 0) (ze_op zo_add (ze_var 1) ze_int)) (za_cons (ze_callTy zf_tuple (B.b_tuple) (za_cons (ze_var 6) za_nil)) za_nil))))))))))))))))))
theorem f__law_small {G : Glob} {f : Addr} {fd : FuncData} (B : Blt G) (F : FunD G.K "_law_small" "_law_small" (defArgs s__law_small) (defBody s__law_small) (defScope s__law_small) [] [] f fd) (hm : G.mg "_law_small" = some (.ref f)) : FnZ G 1 "_law_small" 4 [] sp__law_small :=
  def_ok F sc__law_small hm (F.bindsN fun _ _ _ _ _ _ us hl => match us, hl with | [_, _, _, _], _ => rfl) .nil rfl rfl ar__law_small (fun W Z T => b__law_small B Z T) u__law_small
abbrev s__law_other : Stmt := (top 27)
theorem sc__law_other : FnScope N__law_other ["_law_number"] (defScope s__law_other) := ⟨rfl, rfl, rfl, by decide +kernel, rfl, by decide +kernel, by decide +kernel⟩
theorem b__law_other {G : Glob} {W : WX} (B : Blt G) (Z : Zc G N__law_other (defScope s__law_other) (fun _ => true) W 0) (T : Zst Z) : ZSs Z (defBody s__law_other) w__law_other :=
  (zss_cons (zs_set (zv_L (ze_lst (za_cons ze_str (za_cons ze_str (za_cons ze_str (za_cons ze_str (za_cons ze_str (za_cons ze_str (za_cons ze_str (za_cons ze_str (za_cons ze_str (za_cons ze_str za_nil)))))))))))))
    (zss_cons (zs_set (zv_L (ze_op zo_add (ze_var 1) (ze_lst (za_cons ze_str (za_cons ze_str (za_cons ze_str (za_cons ze_str (za_cons ze_str (za_cons ze_str za_nil))))))))))
    (zss_one (zs_ret (zv_L (ze_ix (ze_var 1) (ze_op zo_mod (ze_callTy zf_int (B.b_int) (za_cons (ze_var 0) za_nil)) ze_int)))))))
theorem f__law_other {G : Glob} {f : Addr} {fd : FuncData} (B : Blt G) (F : FunD G.K "_law_other" "_law_other" (defArgs s__law_other) (defBody s__law_other) (defScope s__law_other) [] [] f fd) (hm : G.mg "_law_other" = some (.ref f)) : FnZ G 1 "_law_other" 1 [] sp__law_other :=
  def_ok F sc__law_other hm (F.bindsN fun _ _ _ _ _ _ us hl => match us, hl with | [_], _ => rfl) .nil rfl rfl ar__law_other (fun W Z T => b__law_other B Z T) u__law_other
abbrev s__law_string : Stmt := (top 28)
theorem sc__law_string : FnScope N__law_string ["_law_cell_here", "_law_names_here", "_law_before"] (defScope s__law_string) := ⟨rfl, rfl, rfl, by decide +kernel, rfl, by decide +kernel, by decide +kernel⟩
theorem b__law_string {G : Glob} {W : WX} (B : Blt G) (Z : Zc G N__law_string (defScope s__law_string) (fun _ => true) W 2) (T : Zst Z) (F__law_draws : FnZ G 1 "_law_draws" 2 [] sp__law_draws) (F__law_sizes : FnZ G 1 "_law_sizes" 0 [] sp__law_sizes) (F__law_small : FnZ G 1 "_law_small" 4 [] sp__law_small) (F__law_text_of : FnZ G 2 "_law_text_of" 1 [] sp__law_text_of) (F__law_other : FnZ G 1 "_law_other" 1 [] sp__law_other) (F__law_sign : FnZ G 1 "_law_sign" 1 [] sp__law_sign) : ZSs Z (defBody s__law_string) w__law_string :=
  (zss_cons (zs_set (zv_L (ze_call F__law_draws (by decide) (za_cons (ze_var 0) (za_cons (ze_op zo_add (ze_op zo_add (ze_lst (za_cons ze_int (za_cons ze_int (za_cons ze_int (za_cons ze_int (za_cons ze_int za_nil)))))) (ze_call0 F__law_sizes (by decide))) (ze_op zo_mul (ze_lst (za_cons ze_int za_nil)) ze_int)) za_nil)))))
    (zss_cons (zs_set (zv_L (ze_or (ze_chain2 zo_le zo_lt ze_int (ze_ix (ze_var 3) ze_int) ze_int) (ze_or (ze_and (ze_cmp zo_is (ze_var 2) ze_non) (ze_one (ze_cmp zo_lt (ze_ix (ze_var 3) ze_int) ze_int))) (ze_one (ze_and (ze_cmp zo_gt (ze_ix (ze_var 3) ze_int) ze_int) (ze_one (ze_cmp zo_eqT (ze_ix (ze_var 3) ze_int) ze_int))))))))
    (zss_cons (zs_set (zv_L (ze_call F__law_small (by decide) (za_cons (ze_var 3) (za_cons ze_int (za_cons (ze_var 4) (za_cons (ze_var 1) za_nil)))))))
    (zss_cons (zs_set (zv_L (ze_call F__law_text_of (by decide) (za_cons (ze_var 5) za_nil))))
    (zss_cons (zs_if (zvt (zt_cmp zo_lt (ze_ix (ze_var 3) ze_int) ze_int)) (zss_one (zs_ret (zv_L (ze_tup (za_cons (ze_var 6) (za_cons (ze_var 5) za_nil)))))) zss_nil)
    (zss_cons (zs_if (zvt (zt_cmp zo_lt (ze_ix (ze_var 3) ze_int) ze_int)) (zss_cons (zs_set (zv_L ze_str))
    (zss_cons (zs_if (zvt (zt_w (zw_and (zt_cmp zo_eqT (ze_ix (ze_var 3) ze_int) ze_int) (zw_and (zt_cmp zo_isnot (ze_var 2) ze_non) (zw_and1 (zt_cmp zo_notin ze_str (ze_var 2) (by rfl))))))) (zss_one (zs_set (zv_L (ze_var 2)))) zss_nil)
    (zss_cons (zs_set (zv_L (ze_op zo_mod (ze_callTy zf_int (B.b_int) (za_cons (ze_ix (ze_var 3) ze_int) za_nil)) (ze_callB zf_len (B.b_len) (za_cons (ze_var 6) za_nil)))))
    (zss_one (zs_ret (zv_L (ze_tup (za_cons (ze_op zo_add (ze_slice (ze_var 6) zo_none (zo_some (ze_var 8))) (ze_slice (ze_var 7) (zo_some (ze_var 8)) zo_none)) (za_cons ze_non za_nil))))))))) zss_nil)
    (zss_cons (zs_if (zvt (zt_cmp zo_eqT (ze_ix (ze_var 3) ze_int) ze_int)) (zss_one (zs_ret (zv_L (ze_tup (za_cons ze_str (za_cons ze_non za_nil)))))) zss_nil)
    (zss_cons (zs_if (zvt (zt_cmp zo_eqT (ze_ix (ze_var 3) ze_int) ze_int)) (zss_one (zs_ret (zv_L (ze_tup (za_cons (ze_call F__law_other (by decide) (za_cons (ze_ix (ze_var 3) ze_int) za_nil)) (za_cons ze_non za_nil)))))) zss_nil)
    (zss_one (zs_ret (zv_L (ze_tup (za_cons (ze_joinRepl (ze_comp [("_law_k", 9)] (zie_range1 (B.b_range) (za_cons ze_int za_nil)) (by decide +kernel) (zc_name 9) zts_nil (ze_call F__law_sign (by decide) (za_cons (ze_ix (ze_var 3) (ze_op zo_add ze_int (ze_var 9))) za_nil)))) (za_cons ze_non za_nil))))))))))))))
theorem f__law_string {G : Glob} {f : Addr} {fd : FuncData} (B : Blt G) (F : FunD G.K "_law_string" "_law_string" (defArgs s__law_string) (defBody s__law_string) (defScope s__law_string) [] [] f fd) (hm : G.mg "_law_string" = some (.ref f)) (F__law_draws : FnZ G 1 "_law_draws" 2 [] sp__law_draws) (F__law_sizes : FnZ G 1 "_law_sizes" 0 [] sp__law_sizes) (F__law_small : FnZ G 1 "_law_small" 4 [] sp__law_small) (F__law_text_of : FnZ G 2 "_law_text_of" 1 [] sp__law_text_of) (F__law_other : FnZ G 1 "_law_other" 1 [] sp__law_other) (F__law_sign : FnZ G 1 "_law_sign" 1 [] sp__law_sign) : FnZ G 3 "_law_string" 3 [] sp__law_string :=
  def_ok F sc__law_string hm (F.bindsN fun _ _ _ _ _ _ us hl => match us, hl with | [_, _, _], _ => rfl) .nil rfl rfl ar__law_string (fun W Z T => b__law_string B Z T F__law_draws F__law_sizes F__law_small F__law_text_of F__law_other F__law_sign) u__law_string
abbrev s__law_counted : Stmt := (top 29)
theorem sc__law_counted : FnScope N__law_counted ["_law_strings"] (defScope s__law_counted) := ⟨rfl, rfl, rfl, by decide +kernel, rfl, by decide +kernel, by decide +kernel⟩
theorem b__law_counted {G : Glob} {W : WX} (B : Blt G) (Z : Zc G N__law_counted (defScope s__law_counted) (fun _ => true) W 0) (T : Zst Z) : ZSs Z (defBody s__law_counted) w__law_counted :=
  (zss_cons (zs_set (zv_L (ze_lst za_nil)))
    (zss_cons (zs_set (zv_L ze_int))
    (zss_cons (zs_set (zv_L ze_bl))
    (zss_cons (zs_for T (ziv_range1 (B.b_range) (za_cons (ze_callB zf_len (B.b_len) (za_cons (ze_var 0) za_nil)) za_nil)) (zg_name 4) (zss_cons (zs_set (zv_L (ze_ix (ze_ix (ze_var 0) (ze_var 4)) ze_int)))
    (zss_one (zs_if (zvt (zt_cmp zo_is (ze_var 5) ze_non)) (zss_one (zs_set (zv_L ze_bl))) (zss_one (zs_if (zvt (zt_cmp zo_eqT (ze_ix (ze_var 5) ze_int) ze_str)) (zss_cons (zs_set (zv_L (ze_lst (za_cons (ze_var 5) za_nil))))
    (zss_cons (zs_set (zv_L (ze_op zo_add (ze_var 4) ze_int)))
    (zss_one (zs_set (zv_L ze_bl))))) (zss_one (zs_if (zvt (zt_val (ze_var 3))) (zss_cons (zs_append 1 (zv_L (ze_var 5)))
    (zss_one (zs_set (zv_L (ze_op zo_add (ze_var 4) ze_int))))) zss_nil))))))))
    (zss_one (zs_ret (zv_L (ze_tup (za_cons (ze_callTy zf_tuple (B.b_tuple) (za_cons (ze_var 1) za_nil)) (za_cons (ze_var 2) za_nil))))))))))
theorem f__law_counted {G : Glob} {f : Addr} {fd : FuncData} (B : Blt G) (F : FunD G.K "_law_counted" "_law_counted" (defArgs s__law_counted) (defBody s__law_counted) (defScope s__law_counted) [] [] f fd) (hm : G.mg "_law_counted" = some (.ref f)) : FnZ G 1 "_law_counted" 1 [] sp__law_counted :=
  def_ok F sc__law_counted hm (F.bindsN fun _ _ _ _ _ _ us hl => match us, hl with | [_], _ => rfl) .nil rfl rfl ar__law_counted (fun W Z T => b__law_counted B Z T) u__law_counted
abbrev s__law_reads : Stmt := (top 30)
theorem sc__law_reads : FnScope N__law_reads ["_law_handed", "_law_strings"] (defScope s__law_reads) := ⟨rfl, rfl, rfl, by decide +kernel, rfl, by decide +kernel, by decide +kernel⟩
theorem b__law_reads {G : Glob} {W : WX} (B : Blt G) (Z : Zc G N__law_reads (defScope s__law_reads) (fun _ => true) W 9) (T : Zst Z) (F__law_counted : FnZ G 1 "_law_counted" 1 [] sp__law_counted) (F_read_log : FnZ G 8 "read_log" 1 [] sp_read_log) (F__law_alike : FnZ G 9 "_law_alike" 2 [] sp__law_alike) (F_log_end : FnZ G 8 "log_end" 1 [] sp_log_end) (F__law_is_integer : FnZ G 1 "_law_is_integer" 1 [] sp__law_is_integer) : ZSs Z (defBody s__law_reads) w__law_reads :=
  (zss_cons (zs_set (zv_L (ze_call F__law_counted (by decide) (za_cons (ze_var 1) za_nil))))
    (zss_cons (zs_set (zv_L (ze_call F_read_log (by decide) (za_cons (ze_var 0) za_nil))))
    (zss_cons (zs_if (zvt (zt_w (zw_or (zt_not (zt_val (ze_callB zf_isi (B.b_isinstance) (za_cons (ze_var 3) (za_cons (ze_ty (B.b_list)) za_nil))))) (zw_or1 (zt_not (zt_val (ze_call F__law_alike (by decide) (za_cons (ze_callTy zf_tuple (B.b_tuple) (za_cons (ze_var 3) za_nil)) (za_cons (ze_ix (ze_var 2) ze_int) za_nil))))))))) (zss_one (zs_ret (zv_L ze_bl))) zss_nil)
    (zss_cons (zs_append 3 (zv_L (ze_tup (za_cons ze_str (za_cons ze_str za_nil)))))
    (zss_cons (zs_set (zv_L (ze_call F_log_end (by decide) (za_cons (ze_var 0) za_nil))))
    (zss_one (zs_ret (zv_L (ze_and (ze_call F__law_is_integer (by decide) (za_cons (ze_var 4) za_nil)) (ze_and (ze_cmp zo_eqT (ze_var 4) (ze_ix (ze_var 2) ze_int)) (ze_one (ze_cmp zo_eqT (ze_var 0) (ze_comp [("_law_string_here", 5)] (zie_list (ze_var 1)) (by decide +kernel) (zc_name 5) zts_nil (ze_ix (ze_var 5) ze_int))))))))))))))
theorem f__law_reads {G : Glob} {f : Addr} {fd : FuncData} (B : Blt G) (F : FunD G.K "_law_reads" "_law_reads" (defArgs s__law_reads) (defBody s__law_reads) (defScope s__law_reads) [] [] f fd) (hm : G.mg "_law_reads" = some (.ref f)) (F__law_counted : FnZ G 1 "_law_counted" 1 [] sp__law_counted) (F_read_log : FnZ G 8 "read_log" 1 [] sp_read_log) (F__law_alike : FnZ G 9 "_law_alike" 2 [] sp__law_alike) (F_log_end : FnZ G 8 "log_end" 1 [] sp_log_end) (F__law_is_integer : FnZ G 1 "_law_is_integer" 1 [] sp__law_is_integer) : FnZ G 10 "_law_reads" 2 [] sp__law_reads :=
  def_ok F sc__law_reads hm (F.bindsN fun _ _ _ _ _ _ us hl => match us, hl with | [_, _], _ => rfl) .nil rfl rfl ar__law_reads (fun W Z T => b__law_reads B Z T F__law_counted F_read_log F__law_alike F_log_end F__law_is_integer) u__law_reads
abbrev s_law : Stmt := (top 31)
theorem sc_law : FnScope N_law ["_law_script"] (defScope s_law) := ⟨rfl, rfl, rfl, by decide +kernel, rfl, by decide +kernel, by decide +kernel⟩
theorem b_law {G : Glob} {W : WX} (B : Blt G) (Z : Zc G N_law (defScope s_law) (fun _ => true) W 10) (T : Zst Z) (F__law_names : FnZ G 2 "_law_names" 1 [] sp__law_names) (F__law_cell : FnZ G 1 "_law_cell" 2 [] sp__law_cell) (F__law_string : FnZ G 3 "_law_string" 3 [] sp__law_string) (F__law_draws : FnZ G 1 "_law_draws" 2 [] sp__law_draws) (F__law_sizes : FnZ G 1 "_law_sizes" 0 [] sp__law_sizes) (F__law_reads : FnZ G 10 "_law_reads" 2 [] sp__law_reads) (F__law_small : FnZ G 1 "_law_small" 4 [] sp__law_small) (F__law_text_of : FnZ G 2 "_law_text_of" 1 [] sp__law_text_of) : ZSs Z (defBody s_law) w_law :=
  (zss_cons (zs_set (zv_L (ze_call F__law_names (by decide) (za_cons (ze_call F__law_cell (by decide) (za_cons (ze_var 0) (za_cons ze_int za_nil))) za_nil))))
    (zss_cons (zs_set (zv_L (ze_lst za_nil)))
    (zss_cons (zs_set (zv_L ze_non))
    (zss_cons (zs_for T (ziv_range1 (B.b_range) (za_cons (ze_callB zf_minW (B.b_min) (za_cons ze_int (za_cons (ze_callB zf_max (B.b_max) (za_cons ze_int (za_cons (ze_op zo_sub (ze_callB zf_len (B.b_len) (za_cons (ze_var 0) za_nil)) ze_int) za_nil))) za_nil))) za_nil)) (zg_name 4) (zss_cons (zs_append 2 (zv_L (ze_call F__law_string (by decide) (za_cons (ze_op zo_add (ze_call F__law_cell (by decide) (za_cons (ze_var 0) (za_cons (ze_op zo_add ze_int (ze_var 4)) za_nil))) (ze_op zo_mul ze_int (ze_var 4))) (za_cons (ze_var 1) (za_cons (ze_var 3) za_nil))))))
    (zss_one (zs_set (zv_L (ze_ix (ze_ix (ze_var 2) (ze_var 4)) ze_int))))))
    (zss_cons (zs_set (zv_L (ze_call F__law_draws (by decide) (za_cons (ze_op zo_add (ze_call F__law_cell (by decide) (za_cons (ze_var 0) (za_cons ze_int za_nil))) ze_int) (za_cons (ze_op zo_add (ze_lst (za_cons ze_int (za_cons ze_int (za_cons ze_int za_nil)))) (ze_call0 F__law_sizes (by decide))) za_nil)))))
    (zss_cons (zs_if (zvt (zt_cmp zo_eqT (ze_ix (ze_var 5) ze_int) ze_int)) (zss_one (zs_set (zv_L (ze_op zo_add (ze_var 2) (ze_op zo_mul (ze_lst (za_cons (ze_ix (ze_var 2) (ze_op zo_mod (ze_callTy zf_int (B.b_int) (za_cons (ze_ix (ze_var 5) ze_int) za_nil)) (ze_callB zf_len (B.b_len) (za_cons (ze_var 2) za_nil)))) za_nil)) ze_int))))) zss_nil)
    (zss_cons (zs_setComp (own := [("_law_string_here", 9)]) (wr := mL) snd_L (zie_list (ze_var 2)) (by decide +kernel) (zc_name 9) zts_nil (ze_ix (ze_var 9) ze_int))
    (zss_cons (zs_if (zvt (zt_w (zw_or (zt_not (zt_val (ze_call F__law_reads (by decide) (za_cons (ze_var 6) (za_cons (ze_var 2) za_nil))))) (zw_or1 (zt_not (zt_val (ze_call F__law_reads (by decide) (za_cons (ze_var 6) (za_cons (ze_var 2) za_nil))))))))) (zss_one (zs_ret (zv_L ze_bl))) zss_nil)
    (zss_cons (zs_set (zv_L (ze_op zo_mod (ze_callTy zf_int (B.b_int) (za_cons (ze_ix (ze_var 5) ze_int) za_nil)) (ze_op zo_add (ze_callB zf_len (B.b_len) (za_cons (ze_var 2) za_nil)) ze_int))))
    (zss_cons (zs_if (zvt (zt_not (zt_val (ze_call F__law_reads (by decide) (za_cons (ze_comp [("_law_string_here", 9)] (zie_list (ze_slice (ze_var 2) zo_none (zo_some (ze_var 7)))) (by decide +kernel) (zc_name 9) zts_nil (ze_ix (ze_var 9) ze_int)) (za_cons (ze_slice (ze_var 2) zo_none (zo_some (ze_var 7))) za_nil)))))) (zss_one (zs_ret (zv_L ze_bl))) zss_nil)
    (zss_cons (zs_set (zv_L (ze_call F__law_small (by decide) (za_cons (ze_var 5) (za_cons ze_int (za_cons ze_bl (za_cons (ze_var 1) za_nil)))))))
    (zss_cons (zs_append 6 (zv_L (ze_call F__law_text_of (by decide) (za_cons (ze_var 8) za_nil))))
    (zss_one (zs_ret (zv_L (ze_call F__law_reads (by decide) (za_cons (ze_var 6) (za_cons (ze_op zo_add (ze_var 2) (ze_lst (za_cons (ze_tup (za_cons (ze_call F__law_text_of (by decide) (za_cons (ze_var 8) za_nil)) (za_cons (ze_var 8) za_nil))) za_nil))) za_nil))))))))))))))))))
theorem f_law {G : Glob} {f : Addr} {fd : FuncData} (B : Blt G) (F : FunD G.K "law" "law" (defArgs s_law) (defBody s_law) (defScope s_law) [] [] f fd) (hm : G.mg "law" = some (.ref f)) (F__law_names : FnZ G 2 "_law_names" 1 [] sp__law_names) (F__law_cell : FnZ G 1 "_law_cell" 2 [] sp__law_cell) (F__law_string : FnZ G 3 "_law_string" 3 [] sp__law_string) (F__law_draws : FnZ G 1 "_law_draws" 2 [] sp__law_draws) (F__law_sizes : FnZ G 1 "_law_sizes" 0 [] sp__law_sizes) (F__law_reads : FnZ G 10 "_law_reads" 2 [] sp__law_reads) (F__law_small : FnZ G 1 "_law_small" 4 [] sp__law_small) (F__law_text_of : FnZ G 2 "_law_text_of" 1 [] sp__law_text_of) : FnZ G 11 "law" 1 [] sp_law :=
  def_ok F sc_law hm (F.bindsN fun _ _ _ _ _ _ us hl => match us, hl with | [_], _ => rfl) .nil rfl rfl ar_law (fun W Z T => b_law B Z T F__law_names F__law_cell F__law_string F__law_draws F__law_sizes F__law_reads F__law_small F__law_text_of) u_law
end ZL.K30


namespace ZL.K30
open PySem PySem.Spec PyProof.Rows L2 ZL
def d_is_rising : He.DefD := ⟨("is_rising", none), "is_rising", "is_rising", defArgs s_is_rising, defBody s_is_rising, defScope s_is_rising, [], []⟩
def d_number_of : He.DefD := ⟨("number_of", none), "number_of", "number_of", defArgs s_number_of, defBody s_number_of, defScope s_number_of, [], []⟩
def d_is_name : He.DefD := ⟨("is_name", none), "is_name", "is_name", defArgs s_is_name, defBody s_is_name, defScope s_is_name, [], []⟩
def d_read_list : He.DefD := ⟨("read_list", none), "read_list", "read_list", defArgs s_read_list, defBody s_read_list, defScope s_read_list, [], []⟩
def d_read_named : He.DefD := ⟨("read_named", none), "read_named", "read_named", defArgs s_read_named, defBody s_read_named, defScope s_read_named, [], []⟩
def d_read_warden : He.DefD := ⟨("read_warden", none), "read_warden", "read_warden", defArgs s_read_warden, defBody s_read_warden, defScope s_read_warden, [], []⟩
def d_read_wardens : He.DefD := ⟨("read_wardens", none), "read_wardens", "read_wardens", defArgs s_read_wardens, defBody s_read_wardens, defScope s_read_wardens, [], []⟩
def d_read_picture : He.DefD := ⟨("read_picture", none), "read_picture", "read_picture", defArgs s_read_picture, defBody s_read_picture, defScope s_read_picture, [], []⟩
def d_read_cap : He.DefD := ⟨("read_cap", none), "read_cap", "read_cap", defArgs s_read_cap, defBody s_read_cap, defScope s_read_cap, [], []⟩
def d_read_head : He.DefD := ⟨("read_head", none), "read_head", "read_head", defArgs s_read_head, defBody s_read_head, defScope s_read_head, [], []⟩
def d_read_record : He.DefD := ⟨("read_record", none), "read_record", "read_record", defArgs s_read_record, defBody s_read_record, defScope s_read_record, [], []⟩
def d_counted : He.DefD := ⟨("counted", none), "counted", "counted", defArgs s_counted, defBody s_counted, defScope s_counted, [], []⟩
def d_read_log : He.DefD := ⟨("read_log", none), "read_log", "read_log", defArgs s_read_log, defBody s_read_log, defScope s_read_log, [], []⟩
def d_log_end : He.DefD := ⟨("log_end", none), "log_end", "log_end", defArgs s_log_end, defBody s_log_end, defScope s_log_end, [], []⟩
def d__law_cell : He.DefD := ⟨("_law_cell", none), "_law_cell", "_law_cell", defArgs s__law_cell, defBody s__law_cell, defScope s__law_cell, [], []⟩
def d__law_draws : He.DefD := ⟨("_law_draws", none), "_law_draws", "_law_draws", defArgs s__law_draws, defBody s__law_draws, defScope s__law_draws, [], []⟩
def d__law_sign : He.DefD := ⟨("_law_sign", none), "_law_sign", "_law_sign", defArgs s__law_sign, defBody s__law_sign, defScope s__law_sign, [], []⟩
def d__law_is_integer : He.DefD := ⟨("_law_is_integer", none), "_law_is_integer", "_law_is_integer", defArgs s__law_is_integer, defBody s__law_is_integer, defScope s__law_is_integer, [], []⟩
def d__law_names : He.DefD := ⟨("_law_names", none), "_law_names", "_law_names", defArgs s__law_names, defBody s__law_names, defScope s__law_names, [], []⟩
def d__law_alike : He.DefD := ⟨("_law_alike", none), "_law_alike", "_law_alike", defArgs s__law_alike, defBody s__law_alike, defScope s__law_alike, [], []⟩
def d__law_join : He.DefD := ⟨("_law_join", none), "_law_join", "_law_join", defArgs s__law_join, defBody s__law_join, defScope s__law_join, [], []⟩
def d__law_text_of : He.DefD := ⟨("_law_text_of", none), "_law_text_of", "_law_text_of", defArgs s__law_text_of, defBody s__law_text_of, defScope s__law_text_of, [], []⟩
def d__law_sizes : He.DefD := ⟨("_law_sizes", none), "_law_sizes", "_law_sizes", defArgs s__law_sizes, defBody s__law_sizes, defScope s__law_sizes, [], []⟩
def d__law_small : He.DefD := ⟨("_law_small", none), "_law_small", "_law_small", defArgs s__law_small, defBody s__law_small, defScope s__law_small, [], []⟩
def d__law_other : He.DefD := ⟨("_law_other", none), "_law_other", "_law_other", defArgs s__law_other, defBody s__law_other, defScope s__law_other, [], []⟩
def d__law_string : He.DefD := ⟨("_law_string", none), "_law_string", "_law_string", defArgs s__law_string, defBody s__law_string, defScope s__law_string, [], []⟩
def d__law_counted : He.DefD := ⟨("_law_counted", none), "_law_counted", "_law_counted", defArgs s__law_counted, defBody s__law_counted, defScope s__law_counted, [], []⟩
def d__law_reads : He.DefD := ⟨("_law_reads", none), "_law_reads", "_law_reads", defArgs s__law_reads, defBody s__law_reads, defScope s__law_reads, [], []⟩
def d_law : He.DefD := ⟨("law", none), "law", "law", defArgs s_law, defBody s_law, defScope s_law, [], []⟩
def fn : List He.DefD := [d_is_rising, d_number_of, d_is_name, d_read_list, d_read_named, d_read_warden, d_read_wardens, d_read_picture, d_read_cap, d_read_head, d_read_record, d_counted, d_read_log, d_log_end, d__law_cell, d__law_draws, d__law_sign, d__law_is_integer, d__law_names, d__law_alike, d__law_join, d__law_text_of, d__law_sizes, d__law_small, d__law_other, d__law_string, d__law_counted, d__law_reads, d_law]
def fa : List He.Fa := [.glo "is_rising", .glo "number_of", .glo "is_name", .glo "read_list", .glo "read_named", .glo "read_warden", .glo "read_wardens", .glo "read_picture", .glo "read_cap", .glo "read_head", .glo "read_record", .glo "counted", .glo "read_log", .glo "log_end", .glo "_law_cell", .glo "_law_draws", .glo "_law_sign", .glo "_law_is_integer", .glo "_law_names", .glo "_law_alike", .glo "_law_join", .glo "_law_text_of", .glo "_law_sizes", .glo "_law_small", .glo "_law_other", .glo "_law_string", .glo "_law_counted", .glo "_law_reads", .glo "law", .free "abs", .free "bool", .free "int", .free "isinstance", .free "len", .free "list", .free "max", .free "min", .free "range", .free "sorted", .free "str", .free "tuple"]
abbrev R : PySem.W.OpenRow := PySem.W.OpenLaw.row PySem.Challenge.rw_pairwarden_k30_logs_read
abbrev hk : PySem.W.Hook := He.hookD 4 fa fn
def ob (s : PySem.W.SharedT) : He.AlD := He.obsDG 4 fa fn (HandSHeadRun.getT s)
theorem ob_eq (s : PySem.W.SharedT) : ob s = hk.obs s.abs := He.obsDG_eq (HandSHeadRun.getT_eq s)
def loose : List Str := ["is_rising", "number_of", "is_name", "read_list", "read_named", "read_warden", "read_wardens", "read_picture", "read_cap", "read_head", "read_record", "counted", "read_log", "log_end", "_law_cell", "_law_draws", "_law_sign", "_law_is_integer", "_law_names", "_law_alike", "_law_join", "_law_text_of", "_law_sizes", "_law_small", "_law_other", "_law_string", "_law_counted", "_law_reads"]
theorem run (w : World) : HandSHeadRun.RunEq R (PySem.W.view R.prog [31]) hk ob 4000 loose w := by
  intro os
  kernel_rfl
theorem facts {P : Program} {w : World} {K : PySem.W.Frag} {mg : Str → Option Value} {h : Heap} {fl : Addr} (X : K.In h) (Gh : h.Ns mainGlobals mg) (hfa : mg ("law" : Str) = some (.ref fl)) (c : He.SaysD fa fn K) :
    ∃ fd : FuncData, (∀ (s : Shared) (v : Value), BindsTo s fd ⟨[v], []⟩ [("_law_script", v)]) ∧ ∀ base : Heap, K.In base → base.Ns mainGlobals mg → L2.FnOk P w K mg base (L2.CX P w) 11 fl fd ["_law_script"] (spZ ⟨P, w, K, mg, base⟩ 1 sp_law) := by
  obtain ⟨fd_is_rising, F_is_rising⟩ := c.def_ 0 (d := d_is_rising) rfl
  obtain ⟨fd_number_of, F_number_of⟩ := c.def_ 1 (d := d_number_of) rfl
  obtain ⟨fd_is_name, F_is_name⟩ := c.def_ 2 (d := d_is_name) rfl
  obtain ⟨fd_read_list, F_read_list⟩ := c.def_ 3 (d := d_read_list) rfl
  obtain ⟨fd_read_named, F_read_named⟩ := c.def_ 4 (d := d_read_named) rfl
  obtain ⟨fd_read_warden, F_read_warden⟩ := c.def_ 5 (d := d_read_warden) rfl
  obtain ⟨fd_read_wardens, F_read_wardens⟩ := c.def_ 6 (d := d_read_wardens) rfl
  obtain ⟨fd_read_picture, F_read_picture⟩ := c.def_ 7 (d := d_read_picture) rfl
  obtain ⟨fd_read_cap, F_read_cap⟩ := c.def_ 8 (d := d_read_cap) rfl
  obtain ⟨fd_read_head, F_read_head⟩ := c.def_ 9 (d := d_read_head) rfl
  obtain ⟨fd_read_record, F_read_record⟩ := c.def_ 10 (d := d_read_record) rfl
  obtain ⟨fd_counted, F_counted⟩ := c.def_ 11 (d := d_counted) rfl
  obtain ⟨fd_read_log, F_read_log⟩ := c.def_ 12 (d := d_read_log) rfl
  obtain ⟨fd_log_end, F_log_end⟩ := c.def_ 13 (d := d_log_end) rfl
  obtain ⟨fd__law_cell, F__law_cell⟩ := c.def_ 14 (d := d__law_cell) rfl
  obtain ⟨fd__law_draws, F__law_draws⟩ := c.def_ 15 (d := d__law_draws) rfl
  obtain ⟨fd__law_sign, F__law_sign⟩ := c.def_ 16 (d := d__law_sign) rfl
  obtain ⟨fd__law_is_integer, F__law_is_integer⟩ := c.def_ 17 (d := d__law_is_integer) rfl
  obtain ⟨fd__law_names, F__law_names⟩ := c.def_ 18 (d := d__law_names) rfl
  obtain ⟨fd__law_alike, F__law_alike⟩ := c.def_ 19 (d := d__law_alike) rfl
  obtain ⟨fd__law_join, F__law_join⟩ := c.def_ 20 (d := d__law_join) rfl
  obtain ⟨fd__law_text_of, F__law_text_of⟩ := c.def_ 21 (d := d__law_text_of) rfl
  obtain ⟨fd__law_sizes, F__law_sizes⟩ := c.def_ 22 (d := d__law_sizes) rfl
  obtain ⟨fd__law_small, F__law_small⟩ := c.def_ 23 (d := d__law_small) rfl
  obtain ⟨fd__law_other, F__law_other⟩ := c.def_ 24 (d := d__law_other) rfl
  obtain ⟨fd__law_string, F__law_string⟩ := c.def_ 25 (d := d__law_string) rfl
  obtain ⟨fd__law_counted, F__law_counted⟩ := c.def_ 26 (d := d__law_counted) rfl
  obtain ⟨fd__law_reads, F__law_reads⟩ := c.def_ 27 (d := d__law_reads) rfl
  obtain ⟨fd_law, F_law⟩ := c.def_ 28 (d := d_law) rfl
  have e := hfa.symm.trans (He.glo_ok X Gh (c.fact 28 (f := .glo "law") rfl))
  cases e
  refine ⟨fd_law, fun s v => FunD.bindsA (ps := ["_law_script"]) F_law (fun _ _ _ _ _ _ us hl => match us, hl with | [_], _ => rfl) s [v] rfl, fun base hK hG => ?_⟩
  let G : Glob := ⟨P, w, K, mg, base⟩
  have B : Blt G := ⟨He.free_ok X Gh (c.fact 29 (f := .free "abs") rfl), He.free_ok X Gh (c.fact 30 (f := .free "bool") rfl), He.free_ok X Gh (c.fact 31 (f := .free "int") rfl), He.free_ok X Gh (c.fact 32 (f := .free "isinstance") rfl), He.free_ok X Gh (c.fact 33 (f := .free "len") rfl), He.free_ok X Gh (c.fact 34 (f := .free "list") rfl), He.free_ok X Gh (c.fact 35 (f := .free "max") rfl), He.free_ok X Gh (c.fact 36 (f := .free "min") rfl), He.free_ok X Gh (c.fact 37 (f := .free "range") rfl), He.free_ok X Gh (c.fact 38 (f := .free "sorted") rfl), He.free_ok X Gh (c.fact 39 (f := .free "str") rfl), He.free_ok X Gh (c.fact 40 (f := .free "tuple") rfl)⟩
  have Z_is_rising := f_is_rising (G := G) B F_is_rising (He.glo_ok X Gh (c.fact 0 (f := .glo "is_rising") rfl))
  have Z_number_of := f_number_of (G := G) B F_number_of (He.glo_ok X Gh (c.fact 1 (f := .glo "number_of") rfl))
  have Z_is_name := f_is_name (G := G) B F_is_name (He.glo_ok X Gh (c.fact 2 (f := .glo "is_name") rfl))
  have Z__law_cell := f__law_cell (G := G) B F__law_cell (He.glo_ok X Gh (c.fact 14 (f := .glo "_law_cell") rfl))
  have Z__law_draws := f__law_draws (G := G) B F__law_draws (He.glo_ok X Gh (c.fact 15 (f := .glo "_law_draws") rfl))
  have Z__law_sign := f__law_sign (G := G) B F__law_sign (He.glo_ok X Gh (c.fact 16 (f := .glo "_law_sign") rfl))
  have Z__law_is_integer := f__law_is_integer (G := G) B F__law_is_integer (He.glo_ok X Gh (c.fact 17 (f := .glo "_law_is_integer") rfl))
  have Z__law_join := f__law_join (G := G) B F__law_join (He.glo_ok X Gh (c.fact 20 (f := .glo "_law_join") rfl))
  have Z__law_sizes := f__law_sizes (G := G) B F__law_sizes (He.glo_ok X Gh (c.fact 22 (f := .glo "_law_sizes") rfl))
  have Z__law_small := f__law_small (G := G) B F__law_small (He.glo_ok X Gh (c.fact 23 (f := .glo "_law_small") rfl))
  have Z__law_other := f__law_other (G := G) B F__law_other (He.glo_ok X Gh (c.fact 24 (f := .glo "_law_other") rfl))
  have Z__law_counted := f__law_counted (G := G) B F__law_counted (He.glo_ok X Gh (c.fact 26 (f := .glo "_law_counted") rfl))
  have Z_read_list := f_read_list (G := G) B F_read_list (He.glo_ok X Gh (c.fact 3 (f := .glo "read_list") rfl)) Z_number_of
  have Z_read_cap := f_read_cap (G := G) B F_read_cap (He.glo_ok X Gh (c.fact 8 (f := .glo "read_cap") rfl)) Z_number_of
  have Z__law_names := f__law_names (G := G) B F__law_names (He.glo_ok X Gh (c.fact 18 (f := .glo "_law_names") rfl)) Z__law_draws
  have Z__law_text_of := f__law_text_of (G := G) B F__law_text_of (He.glo_ok X Gh (c.fact 21 (f := .glo "_law_text_of") rfl)) Z__law_join
  have Z_read_named := f_read_named (G := G) B F_read_named (He.glo_ok X Gh (c.fact 4 (f := .glo "read_named") rfl)) Z_is_name Z_read_list Z_is_rising
  have Z_read_warden := f_read_warden (G := G) B F_read_warden (He.glo_ok X Gh (c.fact 5 (f := .glo "read_warden") rfl)) Z_number_of Z_read_list
  have Z__law_string := f__law_string (G := G) B F__law_string (He.glo_ok X Gh (c.fact 25 (f := .glo "_law_string") rfl)) Z__law_draws Z__law_sizes Z__law_small Z__law_text_of Z__law_other Z__law_sign
  have Z_read_wardens := f_read_wardens (G := G) B F_read_wardens (He.glo_ok X Gh (c.fact 6 (f := .glo "read_wardens") rfl)) Z_read_warden Z_is_rising
  have Z_read_picture := f_read_picture (G := G) B F_read_picture (He.glo_ok X Gh (c.fact 7 (f := .glo "read_picture") rfl)) Z_read_list Z_read_named Z_is_rising
  have Z_read_head := f_read_head (G := G) B F_read_head (He.glo_ok X Gh (c.fact 9 (f := .glo "read_head") rfl)) Z_read_named Z_read_cap Z_read_picture
  have Z_read_record := f_read_record (G := G) B F_read_record (He.glo_ok X Gh (c.fact 10 (f := .glo "read_record") rfl)) Z_is_name Z_read_head Z_read_wardens
  have Z_counted := f_counted (G := G) B F_counted (He.glo_ok X Gh (c.fact 11 (f := .glo "counted") rfl)) Z_read_record
  have Z_read_log := f_read_log (G := G) B F_read_log (He.glo_ok X Gh (c.fact 12 (f := .glo "read_log") rfl)) Z_counted
  have Z_log_end := f_log_end (G := G) B F_log_end (He.glo_ok X Gh (c.fact 13 (f := .glo "log_end") rfl)) Z_counted
  have Z__law_alike := f__law_alike (G := G) B F__law_alike (He.glo_ok X Gh (c.fact 19 (f := .glo "_law_alike") rfl)) Z__law_is_integer
  have Z__law_reads := f__law_reads (G := G) B F__law_reads (He.glo_ok X Gh (c.fact 27 (f := .glo "_law_reads") rfl)) Z__law_counted Z_read_log Z__law_alike Z_log_end Z__law_is_integer
  exact def_run F_law sc_law rfl (fun W Z T => b_law B Z T Z__law_names Z__law_cell Z__law_string Z__law_draws Z__law_sizes Z__law_reads Z__law_small Z__law_text_of) u_law
end ZL.K30
open PySem PySem.W PySem.Calls PyProof.Rows
theorem PySem.Challenge.cw_pairwarden_k30_logs_read_holds : PySem.Challenge.rw_pairwarden_k30_logs_read.Holds := by
  w_on; o_law
  refine HandSHeadRun.head_any (r := OpenLaw.row PySem.Challenge.rw_pairwarden_k30_logs_read) (q := view (OpenLaw.row PySem.Challenge.rw_pairwarden_k30_logs_read).prog [31]) (H := ZL.K30.hk) (ob := ZL.K30.ob) (M := 4000) (loose := ZL.K30.loose) (d := HandSHeadRun.topDef (OpenLaw.row PySem.Challenge.rw_pairwarden_k30_logs_read).prog 31) (kwd := []) ZL.K30.ob_eq
    (by kernel_rfl) (fun s => by kernel_rfl) ZL.K30.run (by kernel_rfl) (by kernel_rfl) (by kernel_rfl) (by rfl) (by first | assumption | decide +kernel) (by decide +kernel) ⟨rfl, rfl, rfl, rfl, rfl, by decide +kernel⟩ ?hw ?hc
  case hw => w_witness2
  case hc =>
    refine ZL.walk_zl (l := PySem.Challenge.rw_pairwarden_k30_logs_read) (top := 63) (k := 11) (x := "_law_script") (cx := L2.CX (PySem.Challenge.rw_pairwarden_k30_logs_read).prog) rfl (by decide) (by kernel_rfl) ⟨rfl, by decide, by decide⟩ ?F (fun w H s e s' z => ZL.cx_none z)
    intro w mg fa h Y G hmg0
    obtain ⟨K, KX, c⟩ := Y
    have hmg : mg ("law" : PySem.Str) = some (.ref fa) := by
      have e : (HandSHeadRun.topDef (OpenLaw.row PySem.Challenge.rw_pairwarden_k30_logs_read).prog 31).name = ("law" : PySem.Str) := by kernel_rfl
      rw [← e]
      exact hmg0
    obtain ⟨fd, hb, hF⟩ := ZL.K30.facts (P := (PySem.Challenge.rw_pairwarden_k30_logs_read).prog) (w := w) KX G hmg c
    exact ⟨K, fd, ZL.spZ ⟨(PySem.Challenge.rw_pairwarden_k30_logs_read).prog, w, K, mg, h⟩ 1 ZL.spLaw, KX, hb, fun H a ns hl hS => ZL.law_sp hl hS, hF⟩

