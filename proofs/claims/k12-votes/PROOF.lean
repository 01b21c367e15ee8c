import PyProof.Rows.All
import Wide.All
import OpenK.AllK
import Wide.FinOn
import HandS.ForMost
import HandS.Flow
import HandS.Style
import HandS.IsInst
import HandS.Defaults
import HandS.Property
import HandS.TupAny
import HandS.Wide
import HandS.Deep
import HandS.HeadHook2
import HandS.Head0
import HandS.Head1
import HandS.Head2
import HandS.HeadEnd
import KE.GoesEnum
import HandS.SetFor
import HandS.HeadHook1
import KE.KStateDown
import PyProof.P3Eq
import KE.DataFind
import HandS.RaiseMore
import HandS.TupMul
import PySem.Challenge.RW_hueward_k12_votes_of_slots
set_option Elab.async false
set_option linter.all false
set_option maxRecDepth 100000
set_option maxHeartbeats 8000000
namespace Dl
open PySem L2
abbrev Frag := PySem.W.Frag
def Le (H H' : Hp) : Prop := ∀ a o, H a = some o → H' a = some o
theorem Le.refl (H : Hp) : Le H H := fun _ _ h => h
theorem Le.trans {H H1 H2 : Hp} (a : Le H H1) (b : Le H1 H2) : Le H H2 := fun x o h => b x o (a x o h)
theorem Le.none {H H' : Hp} (e : Le H H') {a : Addr} (h : H' a = Option.none) : H a = Option.none := by
  cases q : H a with
  | none => rfl
  | some o => rw [e a o q] at h; cases h
theorem Le.sqL {K : Frag} {H H' : Hp} {a : Addr} {xs : List V} (e : Le H H') (h : SqL K H a xs) : SqL K H' a xs := by
  rcases h with (h | ⟨o, h⟩) | h
  · exact .inl (.inl (e _ _ h))
  · exact .inl (.inr ⟨o, e _ _ h⟩)
  · exact .inr h
theorem Le.sqT {K : Frag} {H H' : Hp} {a : Addr} {xs : List V} (e : Le H H') (h : SqT K H a xs) : SqT K H' a xs := by
  rcases h with (h | ⟨o, h⟩) | h
  · exact .inl (.inl (e _ _ h))
  · exact .inl (.inr ⟨o, e _ _ h⟩)
  · exact .inr h
theorem Le.rd {H H' : Hp} {a : Addr} {u : HO} (e : Le H H') (h : Rd H a u) : Rd H' a u := by
  rcases h with h | ⟨o, h⟩
  · exact .inl (e _ _ h)
  · exact .inr ⟨o, e _ _ h⟩
mutual
inductive Dd (K : Frag) (H : Hp) : V → PyData → Prop
  | non : Dd K H .non .none
  | bl (b : Bool) : Dd K H (.bl b) (.bool b)
  | int (i : Int) : Dd K H (.int i) (.int i)
  | str (x : Str) : Dd K H (.str x) (.str x)
  | lst {a : Addr} {xs : List V} {ds : List PyData} : Rd H a (.lst xs) → DdAll K H xs ds → Dd K H (.ref a) (.list ds)
  | tup {a : Addr} {xs : List V} {ds : List PyData} : SqT K H a xs → DdAll K H xs ds → Dd K H (.ref a) (.tuple ds)
inductive DdAll (K : Frag) (H : Hp) : List V → List PyData → Prop
  | nil : DdAll K H [] []
  | cons {v : V} {vs : List V} {d : PyData} {ds : List PyData} : Dd K H v d → DdAll K H vs ds → DdAll K H (v :: vs) (d :: ds)
end
mutual
theorem Dd.dp {K : Frag} {H : Hp} : ∀ {v : V} {d : PyData}, Dd K H v d → Dp K H v d
  | _, _, .non => .non
  | _, _, .bl b => .bl b
  | _, _, .int i => .int i
  | _, _, .str x => .str x
  | _, _, .lst h hs => .lst (.inl h) (DdAll.dps hs)
  | _, _, .tup h hs => .tup h (DdAll.dps hs)
theorem DdAll.dps {K : Frag} {H : Hp} : ∀ {vs : List V} {ds : List PyData}, DdAll K H vs ds → DpAll K H vs ds
  | _, _, .nil => .nil
  | _, _, .cons h hs => .cons (Dd.dp h) (DdAll.dps hs)
end
mutual
theorem Le.dp {K : Frag} {H H' : Hp} (e : Le H H') : ∀ {v : V} {d : PyData}, Dd K H v d → Dd K H' v d
  | _, _, .non => .non
  | _, _, .bl b => .bl b
  | _, _, .int i => .int i
  | _, _, .str x => .str x
  | _, _, .lst h hs => .lst (e.rd h) (Le.dps e hs)
  | _, _, .tup h hs => .tup (e.sqT h) (Le.dps e hs)
theorem Le.dps {K : Frag} {H H' : Hp} (e : Le H H') : ∀ {vs : List V} {ds : List PyData}, DdAll K H vs ds → DdAll K H' vs ds
  | _, _, .nil => .nil
  | _, _, .cons h hs => .cons (Le.dp e h) (Le.dps e hs)
end
structure Res where
  v : V
  p : Frag → Hp → Hp → List Addr → Prop
  loc : ∀ {K S H fp S' H'}, p K S H fp → Le S S' → (∀ a ∈ fp, H' a = H a) → p K S' H' fp
inductive Sl where
  | no
  | dat (d : PyData)
  | raw (v : V)
  | res (r : Res)
def SlOk (K : Frag) (S H : Hp) (x : Option V) (fp : List Addr) : Sl → Prop
  | .no => fp = []
  | .dat d => fp = [] ∧ ∃ v, x = some v ∧ Dd K S v d
  | .raw v => fp = [] ∧ x = some v
  | .res r => x = some r.v ∧ r.p K S H fp
theorem SlOk.step {K : Frag} {S H S' H' : Hp} {x : Option V} {fp : List Addr} {s : Sl} (h : SlOk K S H x fp s) (e : Le S S') (k : ∀ a ∈ fp, H' a = H a) : SlOk K S' H' x fp s := by
  cases s with
  | no => exact h
  | dat d => obtain ⟨a, v, b, c⟩ := h; exact ⟨a, v, b, e.dp c⟩
  | raw v => exact h
  | res r => exact ⟨h.1, r.loc h.2 e k⟩
inductive SatL (K : Frag) (S H : Hp) : List (Option V) → List Sl → List (List Addr) → Prop
  | nil : SatL K S H [] [] []
  | cons {x : Option V} {s : Sl} {fp : List Addr} {xs : List (Option V)} {ss : List Sl} {fs : List (List Addr)} : SlOk K S H x fp s → SatL K S H xs ss fs → SatL K S H (x :: xs) (s :: ss) (fp :: fs)
theorem SatL.step {K : Frag} {S H S' H' : Hp} (e : Le S S') : ∀ {xs : List (Option V)} {ss : List Sl} {fs : List (List Addr)}, SatL K S H xs ss fs → (∀ a ∈ fs.flatten, H' a = H a) → SatL K S' H' xs ss fs
  | _, _, _, .nil, _ => .nil
  | _, _, _, .cons h hs, k => .cons (h.step e fun a ha => k a (by simp [ha])) (SatL.step e hs fun a ha => k a (by
      rw [List.flatten_cons]; exact List.mem_append_right _ ha))
theorem SatL.append {K : Frag} {S H : Hp} : ∀ {xs : List (Option V)} {ss : List Sl} {fs : List (List Addr)} {ys : List (Option V)} {ts : List Sl} {gs : List (List Addr)},
    SatL K S H xs ss fs → SatL K S H ys ts gs → SatL K S H (xs ++ ys) (ss ++ ts) (fs ++ gs)
  | _, _, _, _, _, _, .nil, h => h
  | _, _, _, _, _, _, .cons a b, h => .cons a (SatL.append b h)
theorem SatL.split {K : Frag} {S H : Hp} : ∀ {xs : List (Option V)} {ss : List Sl} {fs : List (List Addr)} {ys : List (Option V)} {ts : List Sl} {gs : List (List Addr)},
    SatL K S H (xs ++ ys) (ss ++ ts) (fs ++ gs) → xs.length = ss.length → fs.length = ss.length → SatL K S H xs ss fs ∧ SatL K S H ys ts gs
  | [], [], [], _, _, _, h, _, _ => ⟨.nil, h⟩
  | x :: xs, s :: ss, f :: fs, _, _, _, h, h1, h2 => by
    cases h with
    | cons a b =>
      obtain ⟨c, d⟩ := SatL.split (xs := xs) (ss := ss) (fs := fs) b (by simpa using h1) (by simpa using h2)
      exact ⟨.cons a c, d⟩
  | [], _ :: _, _, _, _, _, _, h1, _ => by simp at h1
  | _ :: _, [], _, _, _, _, _, h1, _ => by simp at h1
  | [], [], _ :: _, _, _, _, _, _, h2 => by simp at h2
  | _ :: _, _ :: _, [], _, _, _, _, _, h2 => by simp at h2
theorem SatL.lens {K : Frag} {S H : Hp} : ∀ {xs : List (Option V)} {ss : List Sl} {fs : List (List Addr)}, SatL K S H xs ss fs → xs.length = ss.length ∧ fs.length = ss.length
  | _, _, _, .nil => ⟨rfl, rfl⟩
  | _, _, _, .cons _ h => by obtain ⟨a, b⟩ := h.lens; simp [a, b]
structure Good (S H : Hp) (F : List Addr) : Prop where
  sub : Le S H
  nd : F.Nodup
  dis : ∀ a ∈ F, S a = none
  al : ∀ a ∈ F, H a ≠ none
theorem Good.perm {S H : Hp} {F F' : List Addr} (g : Good S H F) (p : F.Perm F') : Good S H F' :=
  ⟨g.sub, p.nodup_iff.mp g.nd, fun a h => g.dis a (p.mem_iff.mpr h), fun a h => g.al a (p.mem_iff.mpr h)⟩
theorem Good.sublist {S H : Hp} {F F' : List Addr} (g : Good S H F) (p : F'.Sublist F) : Good S H F' :=
  ⟨g.sub, g.nd.sublist p, fun a h => g.dis a (p.subset h), fun a h => g.al a (p.subset h)⟩
theorem Good.right {S H : Hp} {F G : List Addr} (g : Good S H (F ++ G)) : Good S H G := g.sublist (List.sublist_append_right _ _)
theorem Good.left {S H : Hp} {F G : List Addr} (g : Good S H (F ++ G)) : Good S H F := g.sublist (List.sublist_append_left _ _)
structure Step (S H : Hp) (F : List Addr) (S' H' : Hp) (F' : List Addr) : Prop where
  le : Le S S'
  fr : ∀ a o, H a = some o → a ∉ F → H' a = some o
  new : ∀ a, S' a ≠ none → S a ≠ none ∨ H a = none ∨ a ∈ F
  own : ∀ a ∈ F', H a = none ∨ a ∈ F
  al : ∀ a, H a ≠ none → H' a ≠ none
theorem Step.refl {S H : Hp} {F : List Addr} : Step S H F S H F := ⟨Le.refl _, fun _ _ h _ => h, fun _ h => .inl h, fun _ h => .inr h, fun _ h => h⟩
theorem Step.sub {S H S' H' : Hp} {F F' F'' : List Addr} (s : Step S H F S' H' F') (h : ∀ a ∈ F'', a ∈ F') : Step S H F S' H' F'' :=
  ⟨s.le, s.fr, s.new, fun a ha => s.own a (h a ha), s.al⟩
theorem Step.weak {S H S' H' : Hp} {F G F' : List Addr} (s : Step S H F S' H' F') (h : ∀ a ∈ F, a ∈ G) : Step S H G S' H' F' :=
  ⟨s.le, fun a o e n => s.fr a o e fun q => n (h a q), fun a e => (s.new a e).imp id fun q => q.imp id (h a), fun a ha => (s.own a ha).imp id (h a), s.al⟩
theorem Step.trans {S H S1 H1 S2 H2 : Hp} {F F1 F2 : List Addr} (a : Step S H F S1 H1 F1) (b : Step S1 H1 F1 S2 H2 F2) : Step S H F S2 H2 F2 := by
  have back : ∀ x, H1 x = none → H x = none := fun x h => by
    cases q : H x with
    | none => rfl
    | some o => exact absurd h (a.al x (by rw [q]; simp))
  refine ⟨a.le.trans b.le, fun x o h n => b.fr x o (a.fr x o h n) fun q => ?_, fun x h => ?_, fun x h => ?_, fun x h => b.al x (a.al x h)⟩
  · rcases a.own x q with e | e
    · rw [h] at e; cases e
    · exact n e
  · rcases b.new x h with e | e | e
    · exact a.new x e
    · exact .inr (.inl (back x e))
    · exact .inr (a.own x e)
  · rcases b.own x h with e | e
    · exact .inl (back x e)
    · exact a.own x e
structure Wd (K : Frag) (σ : List (Option V)) (Γ : List Sl) (S H : Hp) (fs : List (List Addr)) : Prop where
  good : Good S H fs.flatten
  sat : SatL K S H σ Γ fs
theorem frame {K : Frag} {ts σ σ' : List (Option V)} {Θ Γ Γ' : List Sl} {S H S' H' : Hp} {ft fs fs' : List (List Addr)} (l1 : ts.length = Θ.length) (l2 : ft.length = Θ.length) (w : Wd K (ts ++ σ) (Θ ++ Γ) S H (ft ++ fs))
    (w' : Wd K σ' Γ' S' H' fs') (s : Step S H fs.flatten S' H' fs'.flatten) :
    Wd K (ts ++ σ') (Θ ++ Γ') S' H' (ft ++ fs') ∧ Step S H (ft ++ fs).flatten S' H' (ft ++ fs').flatten := by
  obtain ⟨g, sat⟩ := w
  obtain ⟨s1, s2⟩ := sat.split l1 l2
  rw [List.flatten_append] at g
  have dj : ∀ a ∈ ft.flatten, a ∉ fs.flatten := fun a h1 h2 => (List.nodup_append.mp g.nd).2.2 a h1 a h2 rfl
  have keep : ∀ a ∈ ft.flatten, H' a = H a := fun a ha => by
    cases q : H a with
    | none => exact absurd q (g.al a (List.mem_append_left _ ha))
    | some o => exact s.fr a o q (dj a ha)
  have nF : ∀ a ∈ ft.flatten, a ∉ fs'.flatten := fun a h1 h2 => by
    rcases s.own a h2 with e | e
    · exact g.al a (List.mem_append_left _ h1) e
    · exact dj a h1 e
  refine ⟨⟨?_, (s1.step s.le keep).append w'.sat⟩, ?_⟩
  · rw [List.flatten_append]
    refine ⟨w'.good.sub, List.nodup_append.mpr ⟨g.left.nd, w'.good.nd, fun a h1 b h2 e => nF a h1 (e ▸ h2)⟩, fun a ha => ?_, fun a ha => ?_⟩
    · rcases List.mem_append.mp ha with h | h
      · cases q : S' a with
        | none => rfl
        | some o =>
          rcases s.new a (by rw [q]; simp) with e | e | e
          · exact absurd (g.dis a (List.mem_append_left _ h)) e
          · exact absurd e (g.al a (List.mem_append_left _ h))
          · exact absurd e (dj a h)
      · exact w'.good.dis a h
    · rcases List.mem_append.mp ha with h | h
      · exact s.al a (g.al a (List.mem_append_left _ h))
      · exact w'.good.al a h
  · rw [List.flatten_append, List.flatten_append]
    refine ⟨s.le, fun a o e n => s.fr a o e fun q => n (List.mem_append_right _ q), fun a e => (s.new a e).imp id fun q => q.imp id (List.mem_append_right _), fun a ha => ?_, s.al⟩
    rcases List.mem_append.mp ha with h | h
    · exact .inr (List.mem_append_left _ h)
    · exact (s.own a h).imp id (List.mem_append_right _)
theorem Wd.tail {K : Frag} {ts σ : List (Option V)} {Θ Γ : List Sl} {S H : Hp} {ft fs : List (List Addr)} (l1 : ts.length = Θ.length) (l2 : ft.length = Θ.length) (w : Wd K (ts ++ σ) (Θ ++ Γ) S H (ft ++ fs)) : Wd K σ Γ S H fs := by
  obtain ⟨g, sat⟩ := w
  rw [List.flatten_append] at g
  exact ⟨g.right, (sat.split l1 l2).2⟩
theorem Wd.tl {K : Frag} {x : Option V} {σ : List (Option V)} {s : Sl} {Γ : List Sl} {S H : Hp} {f : List Addr} {fs : List (List Addr)} (w : Wd K (x :: σ) (s :: Γ) S H (f :: fs)) : Wd K σ Γ S H fs :=
  Wd.tail (ts := [x]) (Θ := [s]) (ft := [f]) rfl rfl w
theorem Wd.hd {K : Frag} {x : Option V} {σ : List (Option V)} {s : Sl} {Γ : List Sl} {S H : Hp} {f : List Addr} {fs : List (List Addr)} (w : Wd K (x :: σ) (s :: Γ) S H (f :: fs)) : SlOk K S H x f s := by
  cases w.sat with | cons a _ => exact a
def Post (K : Frag) (σ : List (Option V)) (S H : Hp) (F : List Addr) (k : Sl → List Sl → Prop) (Q : VK) : Prop :=
  ∀ v r Γ' S' H' fr fs', k r Γ' → Wd K (some v :: σ) (r :: Γ') S' H' (fr :: fs') → Step S H F S' H' (fr :: fs').flatten → Q v H'
def EvP (K : Frag) (te : TE) (Γ : List Sl) (k : Sl → List Sl → Prop) : Prop :=
  ∀ σ S H fs Q, Wd K σ Γ S H fs → Post K σ S H fs.flatten k Q → te σ H Q
def EvB (K : Frag) (tt : TT) (Γ : List Sl) (k : Bool → List Sl → Prop) : Prop :=
  ∀ σ S H fs Q, Wd K σ Γ S H fs → (∀ b Γ' S' H' fs', k b Γ' → Wd K σ Γ' S' H' fs' → Step S H fs.flatten S' H' fs'.flatten → Q b H') → tt σ H Q
def EvA (K : Frag) (ta : TA) (Γ : List Sl) (k : List Sl → List Sl → Prop) : Prop :=
  ∀ σ S H fs Q, Wd K σ Γ S H fs → (∀ vs rs Γ' S' H' frs fs', k rs Γ' → vs.length = rs.length → frs.length = rs.length → Wd K (vs.map some ++ σ) (rs ++ Γ') S' H' (frs ++ fs') → Step S H fs.flatten S' H' (frs ++ fs').flatten → Q vs H') → ta σ H Q
structure Out where
  nx : List Sl → Prop
  rt : Sl → List Sl → Prop
  bk : List Sl → Prop := fun _ => False
  ct : List Sl → Prop := fun _ => False
def EndN (K : Frag) (S H : Hp) (F : List Addr) (o : List Sl → Prop) (q : St → Hp → Prop) : Prop := ∀ σ' Γ' S' H' fs', o Γ' → Wd K σ' Γ' S' H' fs' → Step S H F S' H' fs'.flatten → q σ' H'
def EndR (K : Frag) (S H : Hp) (F : List Addr) (o : Sl → List Sl → Prop) (q : VK) : Prop := ∀ v r σ' Γ' S' H' fr fs', o r Γ' → Wd K (some v :: σ') (r :: Γ') S' H' (fr :: fs') → Step S H F S' H' (fr :: fs').flatten → q v H'
structure EndsOk (K : Frag) (S H : Hp) (F : List Addr) (O : Out) (D : Ends) : Prop where
  nx : EndN K S H F O.nx D.nx
  rt : EndR K S H F O.rt D.rt
  bk : EndN K S H F O.bk D.bk
  ct : EndN K S H F O.ct D.ct
def ExS (K : Frag) (t : TS) (Γ : List Sl) (O : Out) : Prop := ∀ σ S H fs D, Wd K σ Γ S H fs → EndsOk K S H fs.flatten O D → t D σ H
theorem EndN.step {K : Frag} {S H S1 H1 : Hp} {F F1 : List Addr} {o : List Sl → Prop} {q : St → Hp → Prop} (e : EndN K S H F o q) (s : Step S H F S1 H1 F1) : EndN K S1 H1 F1 o q := fun σ' Γ' S' H' fs' h w s' => e σ' Γ' S' H' fs' h w (s.trans s')
theorem EndR.step {K : Frag} {S H S1 H1 : Hp} {F F1 : List Addr} {o : Sl → List Sl → Prop} {q : VK} (e : EndR K S H F o q) (s : Step S H F S1 H1 F1) : EndR K S1 H1 F1 o q := fun v r σ' Γ' S' H' fr fs' h w s' => e v r σ' Γ' S' H' fr fs' h w (s.trans s')
theorem EndsOk.step {K : Frag} {S H S1 H1 : Hp} {F F1 : List Addr} {O : Out} {D : Ends} (e : EndsOk K S H F O D) (s : Step S H F S1 H1 F1) : EndsOk K S1 H1 F1 O D := ⟨e.nx.step s, e.rt.step s, e.bk.step s, e.ct.step s⟩
end Dl
namespace Dl
open PySem L2
variable {K : Frag} {Γ : List Sl} {k : Sl → List Sl → Prop}
theorem SatL.get {S H : Hp} : ∀ {xs : List (Option V)} {ss : List Sl} {fs : List (List Addr)} {i : Nat} {s : Sl}, SatL K S H xs ss fs → ss[i]? = some s → ∃ x fp, xs[i]? = some x ∧ fs[i]? = some fp ∧ SlOk K S H x fp s
  | _, _, _, 0, _, .cons a _, h => by
    simp only [List.getElem?_cons_zero, Option.some.injEq] at h
    subst h
    exact ⟨_, _, rfl, rfl, a⟩
  | _, _, _, i + 1, _, .cons _ b, h => by
    simp only [List.getElem?_cons_succ] at h
    obtain ⟨x, fp, h1, h2, h3⟩ := SatL.get b h
    exact ⟨x, fp, by simpa using h1, by simpa using h2, h3⟩
  | _, _, _, _, _, .nil, h => by simp at h
theorem SatL.set {S H : Hp} : ∀ {xs : List (Option V)} {ss : List Sl} {fs : List (List Addr)} {x : Option V} {s : Sl} {fp : List Addr} (i : Nat), SatL K S H xs ss fs → SlOk K S H x fp s → SatL K S H (xs.set i x) (ss.set i s) (fs.set i fp)
  | _, _, _, _, _, _, _, .nil, _ => .nil
  | _, _, _, _, _, _, 0, .cons _ b, h => .cons h b
  | _, _, _, _, _, _, i + 1, .cons a b, h => .cons a (SatL.set i b h)
theorem flat_set : ∀ (fs : List (List Addr)) (i : Nat) (fp : List Addr), (fs.set i []).flatten.Sublist fs.flatten
  | [], _, _ => by simp
  | f :: fs, 0, _ => by simp
  | f :: fs, i + 1, fp => by
    simp only [List.set_cons_succ, List.flatten_cons]
    exact List.Sublist.append (List.Sublist.refl _) (flat_set fs i fp)
theorem flat_take : ∀ (fs : List (List Addr)) (i : Nat) (fp : List Addr), fs[i]? = some fp → fs.flatten.Perm (fp ++ (fs.set i []).flatten)
  | f :: fs, 0, fp, h => by
    simp only [List.getElem?_cons_zero, Option.some.injEq] at h
    subst h
    simp
  | f :: fs, i + 1, fp, h => by
    simp only [List.getElem?_cons_succ] at h
    simp only [List.set_cons_succ, List.flatten_cons]
    have := flat_take fs i fp h
    refine (this.append_left f).trans ?_
    rw [← List.append_assoc, ← List.append_assoc]
    exact (List.perm_append_comm).append_right _
  | [], _, _, h => by simp at h
theorem flat_put : ∀ (fs : List (List Addr)) (i : Nat) (fp : List Addr), fs[i]? = some [] → (fs.set i fp).flatten.Perm (fp ++ fs.flatten)
  | f :: fs, 0, fp, h => by
    simp only [List.getElem?_cons_zero, Option.some.injEq] at h
    subst h
    simp
  | f :: fs, i + 1, fp, h => by
    simp only [List.getElem?_cons_succ] at h
    simp only [List.set_cons_succ, List.flatten_cons]
    have := flat_put fs i fp h
    refine (this.append_left f).trans ?_
    rw [← List.append_assoc, ← List.append_assoc]
    exact (List.perm_append_comm).append_right _
  | [], _, _, h => by simp at h
theorem Wd.put {σ : List (Option V)} {S H : Hp} {fs : List (List Addr)} {v : V} {r : Sl} (w : Wd K σ Γ S H fs) (h : SlOk K S H (some v) [] r) : Wd K (some v :: σ) (r :: Γ) S H ([] :: fs) :=
  ⟨by simpa using w.good, .cons h w.sat⟩
theorem Post.dat {σ : List (Option V)} {S H : Hp} {fs : List (List Addr)} {d : PyData} {v : V} {Q : VK} (P : Post K σ S H fs.flatten k Q) (w : Wd K σ Γ S H fs) (hk : k (.dat d) Γ) (h : Dd K S v d) : Q v H :=
  P v (.dat d) Γ S H [] fs hk (w.put ⟨rfl, v, rfl, h⟩) (by simpa using Step.refl)
theorem Post.raw {σ : List (Option V)} {S H : Hp} {fs : List (List Addr)} {v : V} {Q : VK} (P : Post K σ S H fs.flatten k Q) (w : Wd K σ Γ S H fs) (hk : k (.raw v) Γ) : Q v H :=
  P v (.raw v) Γ S H [] fs hk (w.put ⟨rfl, rfl⟩) (by simpa using Step.refl)
theorem e_dat {i : Nat} {d : PyData} (h : Γ[i]? = some (.dat d)) (hk : k (.dat d) Γ) : EvP K (tVar i) Γ k := by
  intro σ S H fs Q w P
  obtain ⟨x, fp, h1, h2, _, v, rfl, h3⟩ := w.sat.get h
  exact ⟨v, h1, P.dat w hk h3⟩
theorem e_raw {i : Nat} {v : V} (h : Γ[i]? = some (.raw v)) (hk : k (.raw v) Γ) : EvP K (tVar i) Γ k := by
  intro σ S H fs Q w P
  obtain ⟨x, fp, h1, h2, _, rfl⟩ := w.sat.get h
  exact ⟨v, h1, P.raw w hk⟩
theorem e_res {i : Nat} {r : Res} (h : Γ[i]? = some (.res r)) (hk : k (.raw r.v) Γ) : EvP K (tVar i) Γ k := by
  intro σ S H fs Q w P
  obtain ⟨x, fp, h1, h2, rfl, h3⟩ := w.sat.get h
  exact ⟨r.v, h1, P.raw w hk⟩
theorem e_move {i : Nat} {r : Res} (h : Γ[i]? = some (.res r)) (hk : k (.res r) (Γ.set i .no)) : EvP K (tVar i) Γ k := by
  intro σ S H fs Q w P
  obtain ⟨x, fp, h1, h2, rfl, h3⟩ := w.sat.get h
  have pm := flat_take fs i fp h2
  have gs : SatL K S H σ (Γ.set i .no) (fs.set i []) := by
    have q := w.sat.set (x := some r.v) (s := .no) (fp := []) i rfl
    have e : σ.set i (some r.v) = σ := by
      apply List.ext_getElem?
      intro j
      by_cases hj : i = j
      · subst hj
        rw [List.getElem?_set_self (List.getElem?_eq_some_iff.mp h1).1, h1]
      · rw [List.getElem?_set_ne hj]
    rwa [e] at q
  refine ⟨r.v, h1, P r.v (.res r) _ S H fp (fs.set i []) hk ⟨w.good.perm (by simpa using pm), .cons ⟨rfl, h3⟩ gs⟩ ?_⟩
  exact Step.refl.sub fun a ha => pm.mem_iff.mpr (by simpa using ha)
theorem e_int {i : Int} (hk : k (.dat (.int i)) Γ) : EvP K (tC (.int i)) Γ k := fun _ _ _ _ _ w P => P.dat w hk (.int i)
theorem e_str {i : Str} (hk : k (.dat (.str i)) Γ) : EvP K (tC (.str i)) Γ k := fun _ _ _ _ _ w P => P.dat w hk (.str i)
theorem e_bl {i : Bool} (hk : k (.dat (.bool i)) Γ) : EvP K (tC (.bl i)) Γ k := fun _ _ _ _ _ w P => P.dat w hk (.bl i)
theorem e_non (hk : k (.dat .none) Γ) : EvP K (tC .non) Γ k := fun _ _ _ _ _ w P => P.dat w hk .non
theorem e_c {v : V} (hk : k (.raw v) Γ) : EvP K (tC v) Γ k := fun _ _ _ _ _ w P => P.raw w hk
def OpK (K : Frag) (r : R2) (s1 s2 : Sl) (Γ : List Sl) (k : Sl → List Sl → Prop) : Prop :=
  ∀ σ S H f1 f2 fs x y Q, Wd K (some x :: some y :: σ) (s1 :: s2 :: Γ) S H (f1 :: f2 :: fs) → Post K σ S H (f1 :: f2 :: fs).flatten k Q → r x y H Q
theorem Post.trans {σ : List (Option V)} {S H S1 H1 : Hp} {F F1 : List Addr} {Q : VK} (P : Post K σ S H F k Q) (s : Step S H F S1 H1 F1) : Post K σ S1 H1 F1 k Q :=
  fun v r Γ' S' H' fr fs' hk w s' => P v r Γ' S' H' fr fs' hk w (s.trans s')
theorem e_op {r : R2} {ta tb : TE} (h : EvP K ta Γ fun s1 Γ1 => EvP K tb Γ1 fun s2 Γ2 => OpK K r s1 s2 Γ2 k) : EvP K (tOp r ta tb) Γ k := by
  intro σ S H fs Q w P
  refine h σ S H fs _ w fun v r1 Γ1 S1 H1 f1 fs1 hb w1 st1 => ?_
  refine hb σ S1 H1 fs1 _ w1.tl fun u r2 Γ2 S2 H2 f2 fs2 ho w2 st2 => ?_
  obtain ⟨w3, st3⟩ := frame (ts := [some v]) (Θ := [r1]) (ft := [f1]) rfl rfl w1 w2 st2
  exact ho σ S2 H2 f1 f2 fs2 v u Q w3 (P.trans (st1.trans st3))
theorem Post.drop2 {σ : List (Option V)} {S H : Hp} {f1 f2 : List Addr} {fs : List (List Addr)} {Q : VK} (P : Post K σ S H (f1 :: f2 :: fs).flatten k Q) : Post K σ S H fs.flatten k Q :=
  P.trans (Step.refl.sub fun a ha => by simp only [List.flatten_cons]; exact List.mem_append_right _ (List.mem_append_right _ ha))
theorem op_pure {r : R2} {d1 d2 d : PyData} (hr : ∀ S H x y Q, Le S H → Dd K S x d1 → Dd K S y d2 → (∀ v, Dd K S v d → Q v H) → r x y H Q) (hk : k (.dat d) Γ) : OpK K r (.dat d1) (.dat d2) Γ k := by
  intro σ S H f1 f2 fs x y Q w P
  obtain ⟨_, x', e1, h1⟩ := w.hd
  obtain ⟨_, y', e2, h2⟩ := w.tl.hd
  cases e1; cases e2
  exact hr S H x y Q w.good.sub h1 h2 fun v hv => (Post.drop2 P).dat w.tl.tl hk hv
theorem op_I0 {g : Int → Int → V} {i j : Int} {d : PyData} (hd : ∀ S, Dd K S (g i j) d) (hk : k (.dat d) Γ) : OpK K (rI0 g) (.dat (.int i)) (.dat (.int j)) Γ k :=
  op_pure (fun S H x y Q _ h1 h2 q => by cases h1; cases h2; exact ⟨i, j, rfl, rfl, q _ (hd S)⟩) hk
theorem op_I {C : Int → Int → Prop} {g : Int → Int → V} {i j : Int} {d : PyData} (hc : C i j) (hd : ∀ S, Dd K S (g i j) d) (hk : k (.dat d) Γ) : OpK K (rI C g) (.dat (.int i)) (.dat (.int j)) Γ k :=
  op_pure (fun S H x y Q _ h1 h2 q => by cases h1; cases h2; exact ⟨i, j, rfl, rfl, hc, q _ (hd S)⟩) hk
theorem op_or_l {r r' : R2} {s1 s2 : Sl} (h : OpK K r s1 s2 Γ k) : OpK K (fun x y H Q => r x y H Q ∨ r' x y H Q) s1 s2 Γ k := fun σ S H f1 f2 fs x y Q w P => .inl (h σ S H f1 f2 fs x y Q w P)
theorem op_or_r {r r' : R2} {s1 s2 : Sl} (h : OpK K r' s1 s2 Γ k) : OpK K (fun x y H Q => r x y H Q ∨ r' x y H Q) s1 s2 Γ k := fun σ S H f1 f2 fs x y Q w P => .inr (h σ S H f1 f2 fs x y Q w P)
theorem op_eqD' {d e : PyData} (h1 : SeqAt.shaped d = true) (h2 : SeqAt.shaped e = true) (hk : k (.dat (.bool (PyData.eqv d e))) Γ) : OpK K (rEqD K) (.dat d) (.dat e) Γ k :=
  op_pure (fun S H x y Q l a b q => ⟨d, e, (l.dp a).dp, (l.dp b).dp, h1, h2, q _ (.bl _)⟩) hk
theorem op_neD' {d e : PyData} (h1 : SeqAt.shaped d = true) (h2 : SeqAt.shaped e = true) (hk : k (.dat (.bool (!PyData.eqv d e))) Γ) : OpK K (rNeD K) (.dat d) (.dat e) Γ k :=
  op_pure (fun S H x y Q l a b q => ⟨d, e, (l.dp a).dp, (l.dp b).dp, h1, h2, q _ (.bl _)⟩) hk
theorem b_test {te : TE} {kb : Bool → List Sl → Prop} (h : EvP K te Γ fun r Γ1 => ∃ b, r = .dat (.bool b) ∧ kb b Γ1) : EvB K (tTest te) Γ kb := by
  intro σ S H fs Q w P
  refine h σ S H fs _ w fun v r Γ1 S1 H1 f1 fs1 hb w1 st1 => ?_
  obtain ⟨b, rfl, hk⟩ := hb
  obtain ⟨e, v', e1, h1⟩ := w1.hd
  cases e1; cases h1
  exact ⟨b, rfl, P b Γ1 S1 H1 fs1 hk w1.tl (st1.sub fun a ha => List.mem_append_right _ ha)⟩
theorem b_B {te : TE} {kb : Bool → List Sl → Prop} (h : EvP K te Γ fun r Γ1 => ∃ b, r = .dat (.bool b) ∧ kb b Γ1) : EvB K (tB te) Γ kb := b_test h
def truD : PyData → Option Bool
  | .none => some false
  | .bool b => some b
  | .int i => some (i != 0)
  | .str y => if y.length ≤ sizeLine then some ((y.length : Int) != 0) else Option.none
  | .list xs => some (!xs.isEmpty)
  | .tuple xs => some (!xs.isEmpty)
  | .dict _ => Option.none
theorem dps_len {S : Hp} : ∀ {vs : List V} {ds : List PyData}, DdAll K S vs ds → vs.length = ds.length
  | _, _, .nil => rfl
  | _, _, .cons _ h => by simp [dps_len h]
theorem dps_empty {S : Hp} {vs : List V} {ds : List PyData} (h : DdAll K S vs ds) : vs.isEmpty = ds.isEmpty := by cases h <;> rfl
theorem tru_dat {S H : Hp} {v : V} {d : PyData} {b : Bool} (l : Le S H) (h : Dd K S v d) (e : truD d = some b) : TruV K v H b := by
  cases h with
  | non => exact (Option.some.inj e).symm
  | bl b => exact (Option.some.inj e).symm
  | int i => exact (Option.some.inj e).symm
  | str x =>
    have e' : (if x.length ≤ sizeLine then some ((x.length : Int) != 0) else Option.none) = some b := e
    by_cases hx : x.length ≤ sizeLine
    · rw [if_pos hx] at e'
      exact ⟨hx, (Option.some.inj e').symm⟩
    · rw [if_neg hx] at e'
      cases e'
  | lst h hs => exact .inl ⟨_, .inl (l.rd h), by rw [dps_empty hs]; exact (Option.some.inj e).symm⟩
  | tup h hs => exact .inr (.inl ⟨_, l.sqT h, by rw [dps_empty hs]; exact (Option.some.inj e).symm⟩)
def tTru' (K : Frag) (te : TE) : TT := fun σ H Q => te σ H fun x H' => ∃ k, TruV K x H' k ∧ Q k H'
theorem b_tru {te : TE} {kb : Bool → List Sl → Prop} (h : EvP K te Γ fun r Γ1 => ∃ d b, r = .dat d ∧ truD d = some b ∧ kb b Γ1) : EvB K (tTru' K te) Γ kb := by
  intro σ S H fs Q w P
  refine h σ S H fs _ w fun v r Γ1 S1 H1 f1 fs1 hb w1 st1 => ?_
  obtain ⟨d, b, rfl, e, hk⟩ := hb
  obtain ⟨e0, v', e1, h1⟩ := w1.hd
  cases e1
  exact ⟨b, tru_dat w1.good.sub h1 e, P b Γ1 S1 H1 fs1 hk w1.tl (st1.sub fun a ha => List.mem_append_right _ ha)⟩
theorem b_not {tt : TT} {kb : Bool → List Sl → Prop} (h : EvB K tt Γ fun b Γ1 => kb (!b) Γ1) : EvB K (tNot tt) Γ kb := fun σ S H fs Q w P =>
  h σ S H fs _ w fun b Γ1 S1 H1 fs1 hk w1 st1 => P (!b) Γ1 S1 H1 fs1 hk w1 st1
theorem b_and {t u : TT} {kb : Bool → List Sl → Prop} (h : EvB K t Γ fun b Γ1 => (b = true → EvB K u Γ1 kb) ∧ (b = false → kb false Γ1)) : EvB K (tAnd t u) Γ kb := fun σ S H fs Q w P =>
  h σ S H fs _ w fun b Γ1 S1 H1 fs1 hk w1 st1 => by
    cases b with
    | true => exact hk.1 rfl σ S1 H1 fs1 Q w1 fun b' Γ2 S2 H2 fs2 hk2 w2 st2 => P b' Γ2 S2 H2 fs2 hk2 w2 (st1.trans st2)
    | false => exact P false Γ1 S1 H1 fs1 (hk.2 rfl) w1 st1
theorem b_or {t u : TT} {kb : Bool → List Sl → Prop} (h : EvB K t Γ fun b Γ1 => (b = false → EvB K u Γ1 kb) ∧ (b = true → kb true Γ1)) : EvB K (tOr t u) Γ kb := fun σ S H fs Q w P =>
  h σ S H fs _ w fun b Γ1 S1 H1 fs1 hk w1 st1 => by
    cases b with
    | false => exact hk.1 rfl σ S1 H1 fs1 Q w1 fun b' Γ2 S2 H2 fs2 hk2 w2 st2 => P b' Γ2 S2 H2 fs2 hk2 w2 (st1.trans st2)
    | true => exact P true Γ1 S1 H1 fs1 (hk.2 rfl) w1 st1
theorem e_if {tt : TT} {ta tb : TE} (h : EvB K tt Γ fun b Γ1 => (b = true → EvP K ta Γ1 k) ∧ (b = false → EvP K tb Γ1 k)) : EvP K (tIf tt ta tb) Γ k := fun σ S H fs Q w P =>
  h σ S H fs _ w fun b Γ1 S1 H1 fs1 hk w1 st1 => by
    cases b with
    | true => exact hk.1 rfl σ S1 H1 fs1 Q w1 (P.trans st1)
    | false => exact hk.2 rfl σ S1 H1 fs1 Q w1 (P.trans st1)
theorem e_andV {ta tb : TE} (h : EvP K ta Γ fun r Γ1 => ∃ b, r = .dat (.bool b) ∧ (b = true → EvP K tb Γ1 k) ∧ (b = false → k (.dat (.bool false)) Γ1)) : EvP K (tAndV ta tb) Γ k := by
  intro σ S H fs Q w P
  refine h σ S H fs _ w fun v r Γ1 S1 H1 f1 fs1 hb w1 st1 => ?_
  obtain ⟨b, rfl, hk1, hk2⟩ := hb
  obtain ⟨e, v', e1, h1⟩ := w1.hd
  cases e1; cases h1
  have st2 := st1.sub (F'' := fs1.flatten) fun a ha => List.mem_append_right _ ha
  refine ⟨b, rfl, ?_⟩
  cases b with
  | true => exact hk1 rfl σ S1 H1 fs1 Q w1.tl (P.trans st2)
  | false => exact (P.trans st2).dat w1.tl (hk2 rfl) (.bl false)
theorem e_orV {ta tb : TE} (h : EvP K ta Γ fun r Γ1 => ∃ b, r = .dat (.bool b) ∧ (b = false → EvP K tb Γ1 k) ∧ (b = true → k (.dat (.bool true)) Γ1)) : EvP K (tOrV ta tb) Γ k := by
  intro σ S H fs Q w P
  refine h σ S H fs _ w fun v r Γ1 S1 H1 f1 fs1 hb w1 st1 => ?_
  obtain ⟨b, rfl, hk1, hk2⟩ := hb
  obtain ⟨e, v', e1, h1⟩ := w1.hd
  cases e1; cases h1
  have st2 := st1.sub (F'' := fs1.flatten) fun a ha => List.mem_append_right _ ha
  refine ⟨b, rfl, ?_⟩
  cases b with
  | false => exact hk1 rfl σ S1 H1 fs1 Q w1.tl (P.trans st2)
  | true => exact (P.trans st2).dat w1.tl (hk2 rfl) (.bl true)
theorem e_notV {ta : TE} (h : EvP K ta Γ fun r Γ1 => ∃ b, r = .dat (.bool b) ∧ k (.dat (.bool (!b))) Γ1) : EvP K (tNotV ta) Γ k := by
  intro σ S H fs Q w P
  refine h σ S H fs _ w fun v r Γ1 S1 H1 f1 fs1 hb w1 st1 => ?_
  obtain ⟨b, rfl, hk⟩ := hb
  obtain ⟨e, v', e1, h1⟩ := w1.hd
  cases e1; cases h1
  have st2 := st1.sub (F'' := fs1.flatten) fun a ha => List.mem_append_right _ ha
  exact ⟨b, rfl, (P.trans st2).dat w1.tl hk (.bl _)⟩
theorem e_chain {r r' : R2} {ta tb tc : TE} (h : EvP K ta Γ fun s1 Γ1 => EvP K tb Γ1 fun s2 Γ2 => ∃ d1 d2, s1 = .dat d1 ∧ s2 = .dat d2 ∧ OpK K r (.dat d1) (.dat d2) Γ2 fun s3 Γ3 => ∃ b, s3 = .dat (.bool b) ∧ (b = true → EvP K tc Γ3 fun s4 Γ4 => OpK K r' (.dat d2) s4 Γ4 k) ∧ (b = false → k (.dat (.bool false)) Γ3)) :
    EvP K (tChain r r' ta tb tc) Γ k := by
  intro σ S H fs Q w P
  refine h σ S H fs _ w fun v r1 Γ1 S1 H1 f1 fs1 hb w1 st1 => ?_
  refine hb σ S1 H1 fs1 _ w1.tl fun u r2 Γ2 S2 H2 f2 fs2 ho w2 st2 => ?_
  obtain ⟨d1, d2, rfl, rfl, ho⟩ := ho
  obtain ⟨w3, st3⟩ := frame (ts := [some v]) (Θ := [.dat d1]) (ft := [f1]) rfl rfl w1 w2 st2
  obtain ⟨_, u', e2, hu⟩ := w2.hd
  cases e2
  refine ho σ S2 H2 f1 f2 fs2 v u _ w3 fun z r3 Γ3 S3 H3 f3 fs3 hb3 w4 st4 => ?_
  obtain ⟨b, rfl, hk1, hk2⟩ := hb3
  obtain ⟨_, z', e3, hz⟩ := w4.hd
  cases e3; cases hz
  have stA := (st1.trans st3).trans st4
  have st5 := stA.sub (F'' := fs3.flatten) fun a ha => List.mem_append_right _ ha
  refine ⟨b, rfl, ?_⟩
  cases b with
  | true =>
    refine hk1 rfl σ S3 H3 fs3 _ w4.tl fun t r4 Γ4 S4 H4 f4 fs4 ho4 w5 st6 => ?_
    have l := st4.le.trans st6.le
    have w6 : Wd K (some u :: some t :: σ) (.dat d2 :: r4 :: Γ4) S4 H4 ([] :: f4 :: fs4) := w5.put ⟨rfl, u, rfl, l.dp hu⟩
    exact ho4 σ S4 H4 [] f4 fs4 u t Q w6 (P.trans ((st5.trans st6).sub fun a ha => by simpa using ha))
  | false => exact (P.trans st5).dat w4.tl (hk2 rfl) (.bl false)
theorem a_nil {ka : List Sl → List Sl → Prop} (hk : ka [] Γ) : EvA K tNil Γ ka := fun σ S H fs Q w P => P [] [] Γ S H [] fs hk rfl rfl w Step.refl
theorem a_cons {te : TE} {ta : TA} {ka : List Sl → List Sl → Prop} (h : EvP K te Γ fun s Γ1 => EvA K ta Γ1 fun ss Γ2 => ka (s :: ss) Γ2) : EvA K (tCons te ta) Γ ka := by
  intro σ S H fs Q w P
  refine h σ S H fs _ w fun v r1 Γ1 S1 H1 f1 fs1 hb w1 st1 => ?_
  refine hb σ S1 H1 fs1 _ w1.tl fun vs rs Γ2 S2 H2 frs fs2 hk l1 l2 w2 st2 => ?_
  obtain ⟨w3, st3⟩ := frame (ts := [some v]) (Θ := [r1]) (ft := [f1]) rfl rfl w1 w2 st2
  exact P (v :: vs) (r1 :: rs) Γ2 S2 H2 (f1 :: frs) fs2 hk (by simp [l1]) (by simp [l2]) w3 (st1.trans st3)
theorem sat_dats {S H : Hp} : ∀ {ds : List PyData} {vs : List V} {frs : List (List Addr)}, SatL K S H (vs.map some) (ds.map .dat) frs → DdAll K S vs ds ∧ frs.flatten = []
  | [], [], [], _ => ⟨.nil, rfl⟩
  | d :: ds, v :: vs, f :: frs, h => by
    cases h with
    | cons a b =>
      obtain ⟨e, v', e1, h1⟩ := a
      cases e1
      obtain ⟨h2, h3⟩ := sat_dats b
      exact ⟨.cons h1 h2, by simp [e, h3]⟩
  | [], _ :: _, _, h => by cases h
  | _ :: _, [], _, h => by cases h
  | [], [], _ :: _, h => by cases h
  | _ :: _, _ :: _, [], h => by cases h
theorem alloc {σ : List (Option V)} {S H : Hp} {fs : List (List Addr)} {p : Addr} (o : HO) (w : Wd K σ Γ S H fs) (hp : H p = none) : Wd K σ Γ (upd S p o) (upd H p o) fs ∧ Step S H fs.flatten (upd S p o) (upd H p o) fs.flatten := by
  have nS : S p = none := w.good.sub.none hp
  have le : Le S (upd S p o) := fun a u e => by rw [upd_ne (ne_of_none e nS)]; exact e
  have leH : Le H (upd H p o) := fun a u e => by rw [upd_ne (ne_of_none e hp)]; exact e
  have nF : ∀ a ∈ fs.flatten, a ≠ p := fun a ha e => w.good.al a ha (by rw [e]; exact hp)
  refine ⟨⟨⟨fun a u e => ?_, w.good.nd, fun a ha => ?_, fun a ha => ?_⟩, w.sat.step le fun a ha => upd_ne (nF a ha)⟩, le, fun a u e _ => leH a u e, fun a e => ?_, fun a ha => .inr ha, fun a e => ?_⟩
  · by_cases q : a = p
    · subst q
      rw [upd_same] at e ⊢
      exact e
    · rw [upd_ne q] at e ⊢
      exact w.good.sub a u e
  · rw [upd_ne (nF a ha)]
    exact w.good.dis a ha
  · rw [upd_ne (nF a ha)]
    exact w.good.al a ha
  · by_cases q : a = p
    · subst q
      exact .inr (.inl hp)
    · rw [upd_ne q] at e
      exact .inl e
  · by_cases q : a = p
    · subst q
      rw [upd_same]
      simp
    · rw [upd_ne q]
      exact e
theorem Post.new {σ : List (Option V)} {S H : Hp} {fs : List (List Addr)} {d : PyData} {p : Addr} {o : HO} {Q : VK} (P : Post K σ S H fs.flatten k Q) (w : Wd K σ Γ S H fs) (hk : k (.dat d) Γ) (hp : H p = none) (h : Dd K (upd S p o) (.ref p) d) : Q (.ref p) (upd H p o) := by
  obtain ⟨w1, st⟩ := alloc o w hp
  exact (P.trans st).dat w1 hk h
theorem dp_tup_new {S : Hp} {p : Addr} {vs : List V} {ds : List PyData} (nS : S p = none) (h : DdAll K S vs ds) : Dd K (upd S p (.tup vs)) (.ref p) (.tuple ds) :=
  .tup (SqT.of upd_same) (Le.dps (fun a u e => by rw [upd_ne (ne_of_none e nS)]; exact e) h)
theorem dp_lst_new {S : Hp} {p : Addr} {vs : List V} {ds : List PyData} (nS : S p = none) (h : DdAll K S vs ds) : Dd K (upd S p (.lst vs)) (.ref p) (.list ds) :=
  .lst (.inl upd_same) (Le.dps (fun a u e => by rw [upd_ne (ne_of_none e nS)]; exact e) h)
theorem e_tup {ta : TA} (h : EvA K ta Γ fun rs Γ1 => ∃ ds : List PyData, rs = ds.map .dat ∧ ds.length ≤ sizeLine ∧ k (.dat (.tuple ds)) Γ1) : EvP K (tTup ta) Γ k := by
  intro σ S H fs Q w P
  refine h σ S H fs _ w fun vs rs Γ1 S1 H1 frs fs1 hb l1 l2 w1 st1 => ?_
  obtain ⟨ds, rfl, hz, hk⟩ := hb
  obtain ⟨s1, s2⟩ := w1.sat.split (by simpa using l1) l2
  obtain ⟨hd, hf⟩ := sat_dats s1
  have w2 : Wd K σ Γ1 S1 H1 fs1 := Wd.tail (by simpa using l1) l2 w1
  refine ⟨by rw [dps_len hd]; exact hz, fun p hp => ?_⟩
  exact (P.trans (st1.sub (F'' := fs1.flatten) fun a ha => by simp [hf]; simpa using ha)).new w2 hk hp (dp_tup_new (w2.good.sub.none hp) hd)
theorem e_lst {ta : TA} (h : EvA K ta Γ fun rs Γ1 => ∃ ds : List PyData, rs = ds.map .dat ∧ ds.length ≤ sizeLine ∧ k (.dat (.list ds)) Γ1) : EvP K (tLst ta) Γ k := by
  intro σ S H fs Q w P
  refine h σ S H fs _ w fun vs rs Γ1 S1 H1 frs fs1 hb l1 l2 w1 st1 => ?_
  obtain ⟨ds, rfl, hz, hk⟩ := hb
  obtain ⟨s1, s2⟩ := w1.sat.split (by simpa using l1) l2
  obtain ⟨hd, hf⟩ := sat_dats s1
  have w2 : Wd K σ Γ1 S1 H1 fs1 := Wd.tail (by simpa using l1) l2 w1
  refine ⟨by rw [dps_len hd]; exact hz, fun p hp => ?_⟩
  exact (P.trans (st1.sub (F'' := fs1.flatten) fun a ha => by simp [hf]; simpa using ha)).new w2 hk hp (dp_lst_new (w2.good.sub.none hp) hd)
end Dl
namespace Dl
open PySem L2
variable {K : Frag} {Γ : List Sl} {k : Sl → List Sl → Prop}
abbrev FSpec := List Sl → (Sl → List Sl → Prop) → Prop
def spOf (K : Frag) (F : FSpec) : Sp := fun vs H Q _ => ∃ (args : List Sl) (S : Hp) (fs : List (List Addr)) (k : Sl → List Sl → Prop),
  Wd K (vs.map some) args S H fs ∧ F args k ∧ Post K (vs.map some) S H fs.flatten k Q
inductive Keep : List Sl → List Sl → List Sl → Prop
  | nil {Γ : List Sl} : Keep [] [] Γ
  | dat {d : PyData} {as as' : List Sl} {Γ : List Sl} : Keep as as' (Γ.drop 1) → Keep (.dat d :: as) (.dat d :: as') Γ
  | raw {v : V} {as as' : List Sl} {Γ : List Sl} : Keep as as' (Γ.drop 1) → Keep (.raw v :: as) (.raw v :: as') Γ
  | res {r r' : Res} {as as' : List Sl} {Γ : List Sl} (h : r'.v = r.v) : Keep as as' Γ → Keep (.res r :: as) (.res r' :: as') (.res r' :: Γ)
  | drop {r : Res} {as as' : List Sl} {Γ : List Sl} : Keep as as' (Γ.drop 1) → Keep (.res r :: as) (.no :: as') Γ
  | no {as as' : List Sl} {Γ : List Sl} : Keep as as' (Γ.drop 1) → Keep (.no :: as) (.no :: as') Γ
theorem SatL.drop1 {S H : Hp} {xs : List (Option V)} {ss : List Sl} {fs : List (List Addr)} (h : SatL K S H xs ss fs) : SatL K S H (xs.drop 1) (ss.drop 1) (fs.drop 1) := by
  cases h with
  | nil => exact .nil
  | cons a b => exact b
theorem flat_drop1 (fs : List (List Addr)) : (fs.drop 1).flatten.Sublist fs.flatten := by
  cases fs with
  | nil => exact List.Sublist.refl _
  | cons f fs => simp
theorem Keep.sat {S H S' H' : Hp} (l : Le S S') : ∀ {as as' Γ : List Sl} {xs σ : List (Option V)} {fs gs : List (List Addr)}, Keep as as' Γ → SatL K S H xs as fs → SatL K S' H' σ Γ gs → ∃ fs', SatL K S' H' xs as' fs' ∧ fs'.flatten.Sublist gs.flatten
  | _, _, _, _, _, _, _, .nil, .nil, _ => ⟨[], .nil, by simp⟩
  | _, _, _, _, _, _, gs, .dat h, .cons a b, q => by
    obtain ⟨fs', h1, h2⟩ := Keep.sat l h b q.drop1
    obtain ⟨_, v, e, q⟩ := a
    exact ⟨[] :: fs', .cons ⟨rfl, v, e, l.dp q⟩ h1, by simpa using h2.trans (flat_drop1 gs)⟩
  | _, _, _, _, _, _, gs, .raw h, .cons a b, q => by
    obtain ⟨fs', h1, h2⟩ := Keep.sat l h b q.drop1
    exact ⟨[] :: fs', .cons ⟨rfl, a.2⟩ h1, by simpa using h2.trans (flat_drop1 gs)⟩
  | _, _, _, _, _, _, _, .res e h, .cons a b, .cons (fp := fp) c d => by
    obtain ⟨fs', h1, h2⟩ := Keep.sat l h b d
    exact ⟨fp :: fs', .cons ⟨by rw [a.1, e], c.2⟩ h1, by simpa using h2⟩
  | _, _, _, _, _, _, gs, .drop h, .cons a b, q => by
    obtain ⟨fs', h1, h2⟩ := Keep.sat l h b q.drop1
    exact ⟨[] :: fs', .cons rfl h1, by simpa using h2.trans (flat_drop1 gs)⟩
  | _, _, _, _, _, _, gs, .no h, .cons a b, q => by
    obtain ⟨fs', h1, h2⟩ := Keep.sat l h b q.drop1
    exact ⟨[] :: fs', .cons rfl h1, by simpa using h2.trans (flat_drop1 gs)⟩
theorem keep_dats : ∀ (ds : List PyData) (Γ : List Sl), Keep (ds.map .dat) (ds.map .dat) Γ
  | [], _ => .nil
  | _ :: ds, Γ => .dat (keep_dats ds _)
def fnOut (args : List Sl) (k : Sl → List Sl → Prop) : Out where
  nx := fun Γ' => ∃ as', k (.dat .none) as' ∧ Keep args as' Γ'
  rt := fun r Γ' => ∃ as', k r as' ∧ Keep args as' Γ'
theorem sat_start {S H : Hp} {N : List Str} {vs : List V} {args : List Sl} {fs : List (List Addr)} (h : SatL K S H (vs.map some) args fs) :
    SatL K S H (L2.start N vs) (args ++ List.replicate (N.length - args.length) .no) (fs ++ List.replicate (N.length - args.length) []) := by
  have l := h.lens
  unfold L2.start
  rw [show vs.length = args.length by simpa using l.1]
  refine h.append ?_
  have : ∀ n : Nat, SatL K S H (List.replicate n none) (List.replicate n Sl.no) (List.replicate n []) := fun n => by
    induction n with
    | zero => exact .nil
    | succ n ih => exact .cons rfl ih
  exact this _
theorem flat_nils (n : Nat) : (List.replicate n ([] : List Addr)).flatten = [] := by induction n <;> simp_all [List.replicate_succ]
theorem fn_body {F : FSpec} {t : TS} {N : List Str} {vs : List V} {H : Hp} {Q : VK} {E : XK}
    (hb : ∀ args k, F args k → ExS K t (args ++ List.replicate (N.length - args.length) .no) (fnOut args k)) (h : spOf K F vs H Q E) :
    t { nx := fun _ H' => Q .non H', rt := Q } (L2.start N vs) H := by
  obtain ⟨args, S, fs, k, w, hF, P⟩ := h
  have fl : (fs ++ List.replicate (N.length - args.length) []).flatten = fs.flatten := by rw [List.flatten_append, flat_nils, List.append_nil]
  refine hb args k hF _ S H (fs ++ List.replicate (N.length - args.length) []) _ ⟨by rw [fl]; exact w.good, sat_start w.sat⟩ ?_
  rw [fl]
  refine ⟨fun σ' Γ' S' H' fs' ho w' st => ?_, fun v r σ' Γ' S' H' fr fs' ho w' st => ?_, fun _ _ _ _ _ ho _ _ => ho.elim, fun _ _ _ _ _ ho _ _ => ho.elim⟩
  · obtain ⟨as', hk, kp⟩ := ho
    obtain ⟨gs, h1, h2⟩ := kp.sat st.le w.sat w'.sat
    exact P .non (.dat .none) as' S' H' [] gs hk ⟨by simpa using w'.good.sublist h2, .cons ⟨rfl, .non, rfl, .non⟩ h1⟩ (st.sub fun a ha => h2.subset (by simpa using ha))
  · obtain ⟨as', hk, kp⟩ := ho
    obtain ⟨gs, h1, h2⟩ := kp.sat st.le w.sat w'.tl.sat
    have h3 : (fr :: gs).flatten.Sublist (fr :: fs').flatten := by
      simp only [List.flatten_cons]
      exact (List.Sublist.refl _).append h2
    exact P v r as' S' H' fr gs hk ⟨w'.good.sublist h3, .cons w'.hd h1⟩ (st.sub fun a ha => h3.subset ha)
theorem sp_len {F : FSpec} {n : Nat} (hn : ∀ args k, F args k → args.length = n) {vs : List V} {H : Hp} {Q : VK} {E : XK} (h : spOf K F vs H Q E) : vs.length = n := by
  obtain ⟨args, S, fs, k, w, hF, P⟩ := h
  rw [← hn args k hF]
  simpa using w.sat.lens.1
theorem Wd.swap {a b : List (Option V)} {A B : List Sl} {S H : Hp} {fa fb : List (List Addr)} (l1 : a.length = A.length) (l2 : fa.length = A.length) (w : Wd K (a ++ b) (A ++ B) S H (fa ++ fb)) : Wd K (b ++ a) (B ++ A) S H (fb ++ fa) := by
  obtain ⟨s1, s2⟩ := w.sat.split l1 l2
  refine ⟨w.good.perm ?_, s2.append s1⟩
  rw [List.flatten_append, List.flatten_append]
  exact List.perm_append_comm
theorem e_call {F : FSpec} {ta : TA} {E : XK} (h : EvA K ta Γ fun rs Γ1 => F rs fun r as' => k r Γ1) : EvP K (tCall (spOf K F) [] E ta) Γ k := by
  intro σ S H fs Q w P
  refine h σ S H fs _ w fun vs rs Γ1 S1 H1 frs fs1 hF l1 l2 w1 st1 => ?_
  rw [List.append_nil]
  have lv : (vs.map some).length = rs.length := by simpa using l1
  have wA : Wd K (vs.map some) rs S1 H1 frs := by
    have q := w1.swap lv l2
    have l3 := w1.sat.split lv l2
    exact Wd.tail (l3.2.lens.1) (l3.2.lens.2) q
  refine ⟨rs, S1, frs, _, wA, hF, fun v r as' S2 H2 fr fs2 hk w2 st2 => ?_⟩
  have l3 := w1.sat.split lv l2
  obtain ⟨w3, st3⟩ := frame l3.2.lens.1 l3.2.lens.2 (w1.swap lv l2) w2 st2
  have w4 : Wd K (σ ++ [some v]) (Γ1 ++ [r]) S2 H2 (fs1 ++ [fr]) := by
    have q : Wd K ((σ ++ [some v]) ++ vs.map some) ((Γ1 ++ [r]) ++ as') S2 H2 ((fs1 ++ [fr]) ++ fs2) := by simpa using w3
    have q2 := q.swap (by simp [l3.2.lens.1]) (by simp [l3.2.lens.2])
    have q3 := w2.tl.sat.lens
    exact Wd.tail q3.1 q3.2 q2
  have w5 : Wd K (some v :: σ) (r :: Γ1) S2 H2 (fr :: fs1) := by simpa using w4.swap l3.2.lens.1 l3.2.lens.2
  refine P v r Γ1 S2 H2 fr fs1 hk w5 ?_
  have e1 : ∀ a, a ∈ (fs1 ++ frs).flatten → a ∈ (frs ++ fs1).flatten := fun a ha => by
    rw [List.flatten_append] at ha ⊢
    exact (List.mem_append.mp ha).elim (List.mem_append_right _) (List.mem_append_left _)
  exact st1.trans ((st3.weak e1).sub fun a ha => by
    simp only [List.flatten_cons, List.flatten_append, List.mem_append] at ha ⊢
    exact ha.elim (fun q => .inr (.inl q)) .inl)
theorem lend {ts σ : List (Option V)} {Θ : List Sl} {S H : Hp} {ft fs : List (List Addr)} {i j : Nat} {r : Res} (l1 : ts.length = Θ.length) (l2 : ft.length = Θ.length) (w : Wd K (ts ++ σ) (Θ ++ Γ) S H (ft ++ fs)) (hi : Θ[i]? = some (.raw r.v)) (hj : Γ[j]? = some (.res r)) :
    ∃ fp, Wd K (ts ++ σ) (Θ.set i (.res r) ++ Γ.set j .no) S H (ft.set i fp ++ fs.set j []) ∧ (∀ a, a ∈ (ft.set i fp ++ fs.set j []).flatten ↔ a ∈ (ft ++ fs).flatten) ∧ σ[j]? = some (some r.v) := by
  obtain ⟨s1, s2⟩ := w.sat.split l1 l2
  obtain ⟨x, fp0, hx, hf, e0, rfl⟩ := s1.get hi
  subst e0
  obtain ⟨y, fp, hy, hg, rfl, hp⟩ := s2.get hj
  have p1 := flat_put ft i fp hf
  have p2 := flat_take fs j fp hg
  have pm : (ft.set i fp ++ fs.set j []).flatten.Perm (ft ++ fs).flatten := by
    rw [List.flatten_append, List.flatten_append]
    refine (p1.append_right _).trans ?_
    refine List.Perm.trans ?_ (p2.symm.append_left _)
    rw [← List.append_assoc]
    exact (List.perm_append_comm).append_right _
  refine ⟨fp, ⟨w.good.perm pm.symm, ?_⟩, fun a => pm.mem_iff, hy⟩
  have e1 : ts.set i (some r.v) = ts := by
    apply List.ext_getElem?
    intro n
    by_cases hn : i = n
    · subst hn
      rw [List.getElem?_set_self (List.getElem?_eq_some_iff.mp hx).1, hx]
    · rw [List.getElem?_set_ne hn]
  have e2 : σ.set j (some r.v) = σ := by
    apply List.ext_getElem?
    intro n
    by_cases hn : j = n
    · subst hn
      rw [List.getElem?_set_self (List.getElem?_eq_some_iff.mp hy).1, hy]
    · rw [List.getElem?_set_ne hn]
  have a1 := s1.set (x := some r.v) (s := .res r) (fp := fp) i ⟨rfl, hp⟩
  have a2 := s2.set (x := some r.v) (s := .no) (fp := []) j rfl
  rw [e1] at a1
  rw [e2] at a2
  exact a1.append a2
theorem setSame {α : Type} {l : List α} {i : Nat} {x : α} (h : l[i]? = some x) : l.set i x = l := by
  apply List.ext_getElem?
  intro n
  by_cases hn : i = n
  · subst hn
    rw [List.getElem?_set_self (List.getElem?_eq_some_iff.mp h).1, h]
  · rw [List.getElem?_set_ne hn]
theorem back {ts σ : List (Option V)} {Θ : List Sl} {S H : Hp} {ft fs : List (List Addr)} {i j : Nat} {r : Res} (l1 : ts.length = Θ.length) (l2 : ft.length = Θ.length) (w : Wd K (ts ++ σ) (Θ ++ Γ) S H (ft ++ fs)) (hi : Θ[i]? = some (.res r)) (hj : Γ[j]? = some .no) (hv : σ[j]? = some (some r.v)) :
    ∃ fp, Wd K (ts ++ σ) (Θ.set i .no ++ Γ.set j (.res r)) S H (ft.set i [] ++ fs.set j fp) ∧ (∀ a, a ∈ (ft.set i [] ++ fs.set j fp).flatten ↔ a ∈ (ft ++ fs).flatten) := by
  obtain ⟨s1, s2⟩ := w.sat.split l1 l2
  obtain ⟨x, fp, hx, hf, rfl, hp⟩ := s1.get hi
  obtain ⟨y, fp0, hy, hg, e0⟩ := s2.get hj
  have e0 : fp0 = [] := e0
  subst e0
  have p1 := flat_take ft i fp hf
  have p2 := flat_put fs j fp hg
  have pm : (ft.set i [] ++ fs.set j fp).flatten.Perm (ft ++ fs).flatten := by
    rw [List.flatten_append, List.flatten_append]
    refine (p2.append_left _).trans ?_
    refine List.Perm.trans ?_ (p1.symm.append_right _)
    rw [← List.append_assoc]
    exact (List.perm_append_comm).append_right _
  refine ⟨fp, ⟨w.good.perm pm.symm, ?_⟩, fun a => pm.mem_iff⟩
  have a1 := s1.set (x := some r.v) (s := .no) (fp := []) i rfl
  have a2 := s2.set (x := some r.v) (s := .res r) (fp := fp) j ⟨rfl, hp⟩
  rw [setSame hx] at a1
  rw [setSame hv] at a2
  exact a1.append a2
theorem e_call1 {F : FSpec} {ta : TA} {E : XK} (i j : Nat) (h : EvA K ta Γ fun rs Γ1 => ∃ r : Res, rs[i]? = some (.raw r.v) ∧ Γ1[j]? = some (.res r) ∧ F (rs.set i (.res r)) fun r0 as' => ∃ r' : Res, as'[i]? = some (.res r') ∧ r'.v = r.v ∧ as'.length = rs.length ∧ k r0 (Γ1.set j (.res r'))) :
    EvP K (tCall (spOf K F) [] E ta) Γ k := by
  intro σ S H fs Q w P
  refine h σ S H fs _ w fun vs rs Γ1 S1 H1 frs fs1 hF l1 l2 w1 st1 => ?_
  obtain ⟨r, hi, hj, hF⟩ := hF
  rw [List.append_nil]
  have lv : (vs.map some).length = rs.length := by simpa using l1
  obtain ⟨fp, wl, hm, hσ⟩ := lend lv l2 w1 hi hj
  have lv' : (vs.map some).length = (rs.set i (.res r)).length := by simpa using l1
  have l2' : (frs.set i fp).length = (rs.set i (.res r)).length := by simpa using l2
  have ls := wl.sat.split lv' l2'
  have wsw := wl.swap lv' l2'
  have wA : Wd K (vs.map some) (rs.set i (.res r)) S1 H1 (frs.set i fp) := Wd.tail ls.2.lens.1 ls.2.lens.2 wsw
  refine ⟨_, S1, _, _, wA, hF, fun v r0 as' S2 H2 fr fs2 hk w2 st2 => ?_⟩
  obtain ⟨r', ha, hv, hl, hk⟩ := hk
  obtain ⟨w3, st3⟩ := frame ls.2.lens.1 ls.2.lens.2 wsw w2 st2
  have w4 : Wd K (vs.map some ++ (some v :: σ)) (as' ++ (r0 :: Γ1.set j .no)) S2 H2 (fs2 ++ (fr :: fs1.set j [])) := by
    have q : Wd K ((σ ++ [some v]) ++ vs.map some) ((Γ1.set j .no ++ [r0]) ++ as') S2 H2 ((fs1.set j [] ++ [fr]) ++ fs2) := by simpa using w3
    have q2 := q.swap (by simpa using ls.2.lens.1) (by simpa using ls.2.lens.2)
    have q3 := w2.tl.sat.lens
    have q4 : Wd K (vs.map some ++ (σ ++ [some v])) (as' ++ (Γ1.set j .no ++ [r0])) S2 H2 (fs2 ++ (fs1.set j [] ++ [fr])) := q2
    obtain ⟨g, st⟩ := q4
    obtain ⟨a, b⟩ := st.split q3.1 q3.2
    obtain ⟨c, d⟩ := b.split (xs := σ) (ss := Γ1.set j .no) (fs := fs1.set j []) ls.2.lens.1 ls.2.lens.2
    refine ⟨g.perm ?_, a.append ?_⟩
    · simp only [List.flatten_append, List.flatten_cons, List.flatten_nil, List.append_nil]
      exact List.Perm.append_left _ List.perm_append_comm
    · cases d with
      | cons d1 d2 => exact .cons d1 c
  have q3 := w2.tl.sat.lens
  obtain ⟨fp', w5, hm2⟩ := back (i := i) (j := j + 1) (r := r') q3.1 q3.2 w4 ha (by
      simp only [List.getElem?_cons_succ]
      exact List.getElem?_set_self (List.getElem?_eq_some_iff.mp hj).1) (by simp only [List.getElem?_cons_succ]; rw [hσ, hv])
  simp only [List.set_cons_succ, List.set_set] at w5 hm2
  have w6 := Wd.tail (by simpa using q3.1) (by simpa using q3.2) w5
  refine P v r0 _ S2 H2 fr _ hk w6 ?_
  have e1 : ∀ a, a ∈ (fs1.set j [] ++ frs.set i fp).flatten → a ∈ (frs ++ fs1).flatten := fun a ha => by
    rw [← hm]
    rw [List.flatten_append] at ha ⊢
    exact (List.mem_append.mp ha).elim (List.mem_append_right _) (List.mem_append_left _)
  refine st1.trans ((st3.weak e1).sub fun a ha => ?_)
  have hb : a ∈ (fs2.set i [] ++ (fr :: fs1.set j fp')).flatten := by
    rw [List.flatten_append]
    exact List.mem_append_right _ ha
  have hc := (hm2 a).mp hb
  simp only [List.flatten_cons, List.flatten_append, List.mem_append] at hc ⊢
  rcases hc with q | q | q
  · exact .inr (.inr q)
  · exact .inr (.inl q)
  · exact .inl q
end Dl
namespace Dl
open PySem L2
variable {K : Frag} {Γ : List Sl} {k : Sl → List Sl → Prop} {O : Out}
theorem x_seq {t u : TS} (h : ExS K t Γ { O with nx := fun Γ1 => ExS K u Γ1 O }) : ExS K (tSeq t u) Γ O := fun σ S H fs D w e =>
  h σ S H fs { D with nx := u D } w ⟨fun σ' Γ' S' H' fs' ho w' st => ho σ' S' H' fs' D w' (e.step st), e.rt, e.bk, e.ct⟩
theorem x_next (h : O.nx Γ) : ExS K tNext Γ O := fun σ S H fs D w e => e.nx σ Γ S H fs h w Step.refl
theorem x_break (h : O.bk Γ) : ExS K tBreak Γ O := fun σ S H fs D w e => e.bk σ Γ S H fs h w Step.refl
theorem x_cont (h : O.ct Γ) : ExS K tCont Γ O := fun σ S H fs D w e => e.ct σ Γ S H fs h w Step.refl
theorem x_never (h : False) : ExS K tNever Γ O := h.elim
theorem x_ret {te : TE} (h : EvP K te Γ O.rt) : ExS K (tRet te) Γ O := fun σ S H fs D w e =>
  h σ S H fs _ w fun v r Γ' S' H' fr fs' hk w' st => e.rt v r σ Γ' S' H' fr fs' hk w' st
theorem x_retN (h : O.rt (.dat .none) Γ) : ExS K tRetN Γ O := fun σ S H fs D w e =>
  e.rt .non (.dat .none) σ Γ S H [] fs h (w.put ⟨rfl, .non, rfl, .non⟩) (by simpa using Step.refl)
theorem x_expr {te : TE} (h : EvP K te Γ fun _ Γ1 => O.nx Γ1) : ExS K (tDrop te) Γ O := fun σ S H fs D w e =>
  h σ S H fs _ w fun v r Γ' S' H' fr fs' hk w' st => e.nx σ Γ' S' H' fs' hk w'.tl (st.sub fun a ha => List.mem_append_right _ ha)
theorem x_if {tt : TT} {t u : TS} (h : EvB K tt Γ fun b Γ1 => (b = true → ExS K t Γ1 O) ∧ (b = false → ExS K u Γ1 O)) : ExS K (tIfS tt t u) Γ O := fun σ S H fs D w e =>
  h σ S H fs _ w fun b Γ1 S1 H1 fs1 hk w1 st1 => by
    cases b with
    | true => exact hk.1 rfl σ S1 H1 fs1 D w1 (e.step st1)
    | false => exact hk.2 rfl σ S1 H1 fs1 D w1 (e.step st1)
def EvG (K : Frag) (g : TG) (s : Sl) (Γ : List Sl) (kn : List Sl → Prop) : Prop :=
  ∀ σ S H f fs v q, Wd K (some v :: σ) (s :: Γ) S H (f :: fs) → EndN K S H (f :: fs).flatten kn q → g v σ H q
theorem g_name {i : Nat} {s : Sl} {kn : List Sl → Prop} (h : kn (Γ.set i s)) : EvG K (gName i) s Γ kn := by
  intro σ S H f fs v q w e
  have gs : SatL K S H (σ.set i (some v)) (Γ.set i s) (fs.set i f) := w.tl.sat.set i w.hd
  have pm : (fs.set i f).flatten.Perm (f ++ (fs.set i []).flatten) ∨ (fs.set i f).flatten = fs.flatten := by
    by_cases hi : i < fs.length
    · left
      have q := flat_put (fs.set i []) i f (List.getElem?_set_self hi)
      rwa [List.set_set] at q
    · right
      rw [List.set_eq_of_length_le (Nat.le_of_not_lt hi)]
  have sub : ∀ a, a ∈ (fs.set i f).flatten → a ∈ (f :: fs).flatten := fun a ha => by
    rcases pm with p | p
    · rcases List.mem_append.mp (p.mem_iff.mp ha) with z | z
      · exact List.mem_append_left _ z
      · exact List.mem_append_right _ ((flat_set fs i f).subset z)
    · rw [p] at ha
      exact List.mem_append_right _ ha
  have gd : Good S H (fs.set i f).flatten := by
    rcases pm with p | p
    · refine Good.perm ?_ p.symm
      refine w.good.sublist ?_
      simp only [List.flatten_cons]
      exact (List.Sublist.refl _).append (flat_set fs i f)
    · rw [p]
      exact w.tl.good
  exact e _ _ S H _ h ⟨gd, gs⟩ (Step.refl.sub sub)
theorem x_asg {te : TE} {g : TG} (h : EvP K te Γ fun r Γ1 => EvG K g r Γ1 O.nx) : ExS K (tAsg te g) Γ O := fun σ S H fs D w e =>
  h σ S H fs _ w fun v r Γ' S' H' fr fs' hk w' st => hk σ S' H' fr fs' v _ w' (e.nx.step st)
def EvGs (K : Frag) (g : TGs) (ds : List PyData) (Γ : List Sl) (kn : List Sl → Prop) : Prop :=
  ∀ σ S H fs vs q, Wd K σ Γ S H fs → DdAll K S vs ds → EndN K S H fs.flatten kn q → g vs σ H q
theorem gs_nil {kn : List Sl → Prop} (h : kn Γ) : EvGs K gNil [] Γ kn := fun σ S H fs vs q w hd e => by
  cases hd
  exact ⟨rfl, e σ Γ S H fs h w Step.refl⟩
theorem gs_cons {g : TG} {gs : TGs} {d : PyData} {ds : List PyData} {kn : List Sl → Prop} (h : EvG K g (.dat d) Γ fun Γ1 => EvGs K gs ds Γ1 kn) : EvGs K (gCons g gs) (d :: ds) Γ kn := fun σ S H fs vs q w hd e => by
  cases hd with
  | cons h1 h2 =>
    refine ⟨_, _, rfl, h σ S H [] fs _ _ (w.put ⟨rfl, _, rfl, h1⟩) ?_⟩
    intro σ' Γ' S' H' fs' hk w' st
    have st' : Step S H fs.flatten S' H' fs'.flatten := by simpa using st
    exact hk σ' S' H' fs' _ q w' (Le.dps st'.le h2) (e.step st')
theorem g_tup {n : Nat} {gs : TGs} {ds : List PyData} {kn : List Sl → Prop} (hn : ds.length = n) (h : EvGs K gs ds Γ kn) : EvG K (gTup K n gs) (.dat (.tuple ds)) Γ kn := by
  intro σ S H f fs v q w e
  obtain ⟨e0, v', e1, hd⟩ := w.hd
  subst e0
  cases e1
  cases hd with
  | tup hs ha =>
    refine ⟨_, _, rfl, w.good.sub.sqT hs, by rw [dps_len ha]; exact hn, h σ S H fs _ q w.tl ha ?_⟩
    simpa using e
theorem x_par {i j : Nat} {ta : TA} (hij : i ≠ j) (h : EvA K ta Γ fun rs Γ1 => ∃ s1 s2, rs = [s1, s2] ∧ EvG K (gName i) s1 Γ1 fun Γ2 => EvG K (gName j) s2 Γ2 O.nx) : ExS K (tPar i j ta) Γ O := by
  intro σ S H fs D w e
  refine h σ S H fs _ w fun vs rs Γ1 S1 H1 frs fs1 hk l1 l2 w1 st1 => ?_
  obtain ⟨s1, s2, rfl, hk⟩ := hk
  match vs, frs, l1, l2, w1, st1 with
  | [v, u], [f1, f2], _, _, w1, st1 =>
    refine ⟨v, u, rfl, ?_⟩
    have w1' : Wd K (some v :: some u :: σ) (s1 :: s2 :: Γ1) S1 H1 (f1 :: f2 :: fs1) := w1
    have wsw : Wd K (some u :: some v :: σ) (s2 :: s1 :: Γ1) S1 H1 (f2 :: f1 :: fs1) := by
      refine ⟨w1'.good.perm ?_, .cons w1'.tl.hd (.cons w1'.hd w1'.tl.tl.sat)⟩
      simp only [List.flatten_cons]
      rw [← List.append_assoc, ← List.append_assoc]
      exact List.perm_append_comm.append_right _
    have mm : ∀ a, a ∈ (f2 :: f1 :: fs1).flatten ↔ a ∈ (f1 :: f2 :: fs1).flatten := fun a => by
      simp only [List.flatten_cons, List.mem_append]
      constructor <;> (intro q; rcases q with q | q | q <;> simp [q])
    have hw1 : Wd K (some v :: σ) (s1 :: Γ1) S1 H1 (f1 :: fs1) := wsw.tl
    refine hk σ S1 H1 f1 fs1 v (fun σ' H' => D.nx (σ'.set j (some u)) H') hw1 ?_
    intro σ2 Γ2 S2 H2 fs2 hk2 w2 st2
    obtain ⟨w3, st3⟩ := frame (ts := [some u]) (Θ := [s2]) (ft := [f2]) rfl rfl wsw w2 st2
    have w3' : Wd K (some u :: σ2) (s2 :: Γ2) S2 H2 (f2 :: fs2) := w3
    refine hk2 σ2 S2 H2 f2 fs2 u (fun σ' H' => D.nx σ' H') w3' ?_
    have q1 : Step S1 H1 (f1 :: f2 :: fs1).flatten S2 H2 (f2 :: fs2).flatten := st3.weak fun a ha => (mm a).mp ha
    exact e.nx.step (st1.trans q1)
  | [], _, l1, _, _, _ => simp at l1
  | [_], _, l1, _, _, _ => simp at l1
  | _ :: _ :: _ :: _, _, l1, _, _, _ => simp at l1
  | [_, _], [], _, l2, _, _ => simp at l2
  | [_, _], [_], _, l2, _, _ => simp at l2
  | [_, _], _ :: _ :: _ :: _, _, l2, _, _ => simp at l2
theorem x_while {c : TT} {tb : TS} (W : Nat → List Sl → Prop) (h0 : ∃ m, W m Γ)
    (hs : ∀ m Γ, W m Γ → EvB K c Γ fun b Γ1 => (b = true → ExS K tb Γ1 { O with nx := fun Γ2 => ∃ m', m' < m ∧ W m' Γ2, ct := fun Γ2 => ∃ m', m' < m ∧ W m' Γ2, bk := O.nx }) ∧ (b = false → O.nx Γ1)) : ExS K (tWhile c tb) Γ O := by
  intro σ S H fs D w e
  refine ⟨fun m σ1 H1 => ∃ Γ1 S1 fs1, W m Γ1 ∧ Wd K σ1 Γ1 S1 H1 fs1 ∧ Step S H fs.flatten S1 H1 fs1.flatten, ?_, ?_⟩
  · obtain ⟨m, hm⟩ := h0
    exact ⟨m, Γ, S, fs, hm, w, Step.refl⟩
  · rintro m σ1 H1 ⟨Γ1, S1, fs1, hm, w1, st1⟩
    refine hs m Γ1 hm σ1 S1 H1 fs1 _ w1 fun b Γ2 S2 H2 fs2 hk w2 st2 => ?_
    have st12 := st1.trans st2
    cases b with
    | false => exact (e.nx.step st12) σ1 Γ2 S2 H2 fs2 (hk.2 rfl) w2 Step.refl
    | true =>
      refine ⟨fun σ' H' => ∃ m', m' < m ∧ ∃ Γ1 S1 fs1, W m' Γ1 ∧ Wd K σ' Γ1 S1 H' fs1 ∧ Step S H fs.flatten S1 H' fs1.flatten, fun σ' H' q => q, ?_⟩
      refine hk.1 rfl σ1 S2 H2 fs2 _ w2 ⟨?_, e.rt.step st12, e.nx.step st12, ?_⟩
      all_goals
        rintro σ3 Γ3 S3 H3 fs3 ⟨m', hm', hw⟩ w3 st3
        exact ⟨m', hm', Γ3, S3, fs3, hw, w3, st12.trans st3⟩
def seqD : PyData → Option (List PyData)
  | .list ds => some ds
  | .tuple ds => some ds
  | _ => none
def iSeq (K : Frag) (tl : TE) : TI := fun σ H R => iList K tl σ H R ∨ iTup K tl σ H R
theorem dps_get {S : Hp} : ∀ {vs : List V} {ds : List PyData} {i : Nat} {v : V}, DdAll K S vs ds → vs[i]? = some v → ∃ d, ds[i]? = some d ∧ Dd K S v d
  | _, _, 0, _, .cons h _, e => by
    simp only [List.getElem?_cons_zero, Option.some.injEq] at e
    subst e
    exact ⟨_, rfl, h⟩
  | _, _, i + 1, _, .cons _ h, e => by
    simp only [List.getElem?_cons_succ] at e
    obtain ⟨d, h1, h2⟩ := dps_get h e
    exact ⟨d, by simpa using h1, h2⟩
  | _, _, _, _, .nil, e => by simp at e
theorem dps_get' {S : Hp} : ∀ {vs : List V} {ds : List PyData} {i : Nat} {d : PyData}, DdAll K S vs ds → ds[i]? = some d → ∃ v, vs[i]? = some v ∧ Dd K S v d
  | _, _, 0, _, .cons h _, e => by
    simp only [List.getElem?_cons_zero, Option.some.injEq] at e
    subst e
    exact ⟨_, rfl, h⟩
  | _, _, i + 1, _, .cons _ h, e => by
    simp only [List.getElem?_cons_succ] at e
    obtain ⟨d, h1, h2⟩ := dps_get' h e
    exact ⟨d, by simpa using h1, h2⟩
  | _, _, _, _, .nil, e => by simp at e
def EvI (K : Frag) (wi : TI) (Γ : List Sl) (ki : (Nat → Sl) → Nat → (List Sl → Prop) → List Sl → Prop) : Prop :=
  ∀ σ S H fs R, Wd K σ Γ S H fs → (∀ (J : It) (f : Nat → Sl) (n : Nat) (G : List Sl → Prop) Γ1 S1 H1 fs1, (∀ s Γ, G Γ → G (s :: Γ)) → ki f n G Γ1 → Wd K σ Γ1 S1 H1 fs1 → Step S H fs.flatten S1 H1 fs1.flatten →
    (∀ i σ2 Γ2 S2 H2 fs2, i ≤ n → G Γ2 → Wd K σ2 Γ2 S2 H2 fs2 → Step S1 H1 fs1.flatten S2 H2 fs2.flatten →
      (i < n → J.go i H2 ∧ ∀ x H', J.yld i H2 x H' → ∃ S', Wd K (some x :: σ2) (f i :: Γ2) S' H' ([] :: fs2) ∧ Step S2 H2 fs2.flatten S' H' fs2.flatten) ∧ (i = n → J.stop i H2)) → R J H1) → wi σ H R
theorem x_for {wi : TI} {g : TG} {tb : TS} (h : EvI K wi Γ fun f n G Γ1 => ∃ W : Nat → List Sl → Prop, W 0 Γ1 ∧ (∀ i Γ, i ≤ n → W i Γ → G Γ) ∧
    (∀ i Γ, i < n → W i Γ → EvG K g (f i) Γ fun Γ2 => ExS K tb Γ2 { O with nx := W (i + 1), ct := W (i + 1), bk := O.nx }) ∧ (∀ Γ, W n Γ → O.nx Γ)) : ExS K (tFor wi g tb) Γ O := by
  intro σ S H fs D w e
  refine h σ S H fs _ w fun J f n G Γ1 S1 H1 fs1 hG hk w1 st1 tn => ?_
  obtain ⟨W, h0, hWG, hs, hd⟩ := hk
  refine ⟨fun i m σ2 H2 => m = n - i ∧ i ≤ n ∧ ∃ Γ2 S2 fs2, W i Γ2 ∧ Wd K σ2 Γ2 S2 H2 fs2 ∧ Step S1 H1 fs1.flatten S2 H2 fs2.flatten, ⟨n, by simp, Nat.zero_le _, Γ1, S1, fs1, h0, w1, Step.refl⟩, ?_⟩
  rintro i m σ2 H2 ⟨rfl, hi, Γ2, S2, fs2, hW, w2, st2⟩
  obtain ⟨t1, t2⟩ := tn i σ2 Γ2 S2 H2 fs2 hi (hWG i Γ2 hi hW) w2 st2
  by_cases hlt : i < n
  · obtain ⟨hgo, hy⟩ := t1 hlt
    refine .inr ⟨hgo, fun σ' H' => ∃ Γ2 S2 fs2, W (i + 1) Γ2 ∧ Wd K σ' Γ2 S2 H' fs2 ∧ Step S1 H1 fs1.flatten S2 H' fs2.flatten, fun σ' H' q => ⟨n - (i + 1), by omega, rfl, hlt, q⟩, fun x H' y => ?_⟩
    obtain ⟨S', w3, st3⟩ := hy x H' y
    refine hs i Γ2 hlt hW σ2 S' H' [] fs2 x _ w3 ?_
    intro σ4 Γ4 S4 H4 fs4 hk4 w4 st4
    have st4' : Step S' H' fs2.flatten S4 H4 fs4.flatten := by simpa using st4
    have sA := (st2.trans st3).trans st4'
    have sB := st1.trans sA
    refine hk4 σ4 S4 H4 fs4 _ w4 ⟨?_, e.rt.step sB, e.nx.step sB, ?_⟩
    all_goals
      intro σ5 Γ5 S5 H5 fs5 hk5 w5 st5
      exact ⟨Γ5, S5, fs5, hk5, w5, sA.trans st5⟩
  · have e1 : i = n := by omega
    subst e1
    exact .inl ⟨t2 rfl, (e.nx.step (st1.trans st2)) σ2 Γ2 S2 H2 fs2 (hd Γ2 hW) w2 Step.refl⟩
theorem i_rng1 {ta : TA} {ki : (Nat → Sl) → Nat → (List Sl → Prop) → List Sl → Prop} (h : EvA K ta Γ fun rs Γ1 => ∃ j : Int, rs = [.dat (.int j)] ∧ -(2 ^ 62) ≤ j ∧ j < 2 ^ 62 ∧ ki (fun i => .dat (.int (i : Int))) j.toNat (fun _ => True) Γ1) : EvI K (iRng1 ta) Γ ki := by
  intro σ S H fs R w P
  refine h σ S H fs _ w fun vs rs Γ1 S1 H1 frs fs1 hb l1 l2 w1 st1 => ?_
  obtain ⟨j, rfl, hj1, hj2, hk⟩ := hb
  match vs, frs, l1, l2, w1, st1 with
  | [v], [f], _, _, w1, st1 =>
    have w1' : Wd K (some v :: σ) (.dat (.int j) :: Γ1) S1 H1 (f :: fs1) := w1
    obtain ⟨e0, v', e1, hd⟩ := w1'.hd
    subst e0
    cases e1; cases hd
    refine ⟨j, rfl, hj1, hj2, P _ _ _ _ Γ1 S1 H1 fs1 (fun _ _ h => h) hk w1'.tl (by simpa using st1) fun i σ2 Γ2 S2 H2 fs2 hi _ w2 st2 => ⟨fun hlt => ⟨hlt, fun x H' y => ?_⟩, fun he => Nat.le_of_eq he.symm⟩⟩
    obtain ⟨rfl, rfl⟩ := y
    exact ⟨S2, w2.put ⟨rfl, _, rfl, by simpa using Dd.int (K := K) (H := S2) (i : Int)⟩, Step.refl⟩
  | [], _, l1, _, _, _ => simp at l1
  | _ :: _ :: _, _, l1, _, _, _ => simp at l1
  | [_], [], _, l2, _, _ => simp at l2
  | [_], _ :: _ :: _, _, l2, _, _ => simp at l2
theorem i_rng2 {ta : TA} {ki : (Nat → Sl) → Nat → (List Sl → Prop) → List Sl → Prop} (h : EvA K ta Γ fun rs Γ1 => ∃ lo hi : Int, rs = [.dat (.int lo), .dat (.int hi)] ∧ (-(2 ^ 62) ≤ lo ∧ lo < 2 ^ 62 ∧ -(2 ^ 62) ≤ hi ∧ hi < 2 ^ 62) ∧ ki (fun i => .dat (.int (lo + (i : Int)))) (hi - lo).toNat (fun _ => True) Γ1) : EvI K (iRng2 ta) Γ ki := by
  intro σ S H fs R w P
  refine h σ S H fs _ w fun vs rs Γ1 S1 H1 frs fs1 hb l1 l2 w1 st1 => ?_
  obtain ⟨lo, hi, rfl, hj, hk⟩ := hb
  match vs, frs, l1, l2, w1, st1 with
  | [v, u], [f, f'], _, _, w1, st1 =>
    have w1' : Wd K (some v :: some u :: σ) (.dat (.int lo) :: .dat (.int hi) :: Γ1) S1 H1 (f :: f' :: fs1) := w1
    obtain ⟨e0, v', e1, hd⟩ := w1'.hd
    obtain ⟨e0', u', e1', hd'⟩ := w1'.tl.hd
    subst e0 e0'
    cases e1; cases hd; cases e1'; cases hd'
    refine ⟨lo, hi, rfl, hj, P _ _ _ _ Γ1 S1 H1 fs1 (fun _ _ h => h) hk w1'.tl.tl (by simpa using st1) fun i σ2 Γ2 S2 H2 fs2 hi _ w2 st2 => ⟨fun hlt => ⟨hlt, fun x H' y => ?_⟩, fun he => Nat.le_of_eq he.symm⟩⟩
    obtain ⟨rfl, rfl⟩ := y
    exact ⟨S2, w2.put ⟨rfl, _, rfl, Dd.int _⟩, Step.refl⟩
  | [], _, l1, _, _, _ => simp at l1
  | [_], _, l1, _, _, _ => simp at l1
  | _ :: _ :: _ :: _, _, l1, _, _, _ => simp at l1
  | [_, _], [], _, l2, _, _ => simp at l2
  | [_, _], [_], _, l2, _, _ => simp at l2
  | [_, _], _ :: _ :: _ :: _, _, l2, _, _ => simp at l2
theorem SqL.inj' {H : Hp} {a : Addr} {xs ys : List V} : SqL K H a xs → SqL K H a ys → H a = none ∨ True := fun _ _ => .inr trivial
end Dl
namespace Dl
open PySem L2
def iSq (K : Frag) (tl : TE) : TI := fun σ H R => tl σ H fun x H1 => (∃ a xs, x = .ref a ∧ SqL K H1 a xs ∧ (xs.length ≤ sizeLine → R (Itl K a) H1)) ∨ ∃ a xs, x = .ref a ∧ SqT K H1 a xs ∧ (xs.length ≤ sizeLine → R (Itt K a) H1)
section
variable {X : Cx} {tg : Expr}
theorem pi_sq {l : Expr} {tl : TE} (hl : PE X l tl) : PI X tg l (iSq X.K tl) := by
  refine ⟨fun pins s σ H R I h => ?_⟩
  refine thn (hl.run pins s σ H _ I h) fun v s1 ⟨x, H1, I1, r1, q1⟩ => ?_
  rcases q1 with ⟨a, xs, e, hq, q⟩ | ⟨a, xs, e, hq, q⟩
  · subst e
    cases r1
    obtain ⟨its, rv, p, hz⟩ := I1.list hq
    refine wpAny_pyIter_list p.isList ?_
    refine ⟨s1.heap.objs.size, [s1.heap.objs.size], _, _, H1, rfl, I1.kept (t' := s1.toks) fun b o e => Heap.get?_push_of_some _ e, turn_list a _, ⟨_, Heap.get?_push_size _ rfl, rfl, rfl⟩, fun b hb => ?_, q hz⟩
    have e : b = s1.heap.objs.size := by simpa using hb
    subst e
    exact I1.fpOk (Nat.le_refl _) (I1.hok.fresh (Nat.le_refl _))
  · subst e
    cases r1
    obtain ⟨its, rv, p, hz⟩ := I1.tuple hq
    refine wpAny_pyIter_tuple (show s1.heap.IsTuple a its.toArray from p) ?_
    refine ⟨s1.heap.objs.size, [s1.heap.objs.size], _, _, H1, rfl, I1.kept (t' := s1.toks) fun b o e => Heap.get?_push_of_some _ e, turn_tuple a _, ⟨_, Heap.get?_push_size _ rfl, rfl, rfl⟩, fun b hb => ?_, q hz⟩
    have e : b = s1.heap.objs.size := by simpa using hb
    subst e
    exact I1.fpOk (Nat.le_refl _) (I1.hok.fresh (Nat.le_refl _))
end
variable {K : Frag} {Γ : List Sl} {k : Sl → List Sl → Prop} {O : Out}
theorem EvA.one {te : TE} {ka : List Sl → List Sl → Prop} (h : EvP K te Γ fun s Γ1 => ka [s] Γ1) : EvA K (tCons te tNil) Γ ka := a_cons fun σ S H fs Q w P => h σ S H fs Q w fun v r Γ' S' H' fr fs' hk w' st => P v r Γ' S' H' fr fs' (a_nil hk) w' st
theorem i_sq {tl : TE} {ki : (Nat → Sl) → Nat → (List Sl → Prop) → List Sl → Prop} (h : EvP K tl Γ fun r Γ1 => ∃ d ds, r = .dat d ∧ seqD d = some ds ∧ (ds.length ≤ sizeLine → ki (fun i => .dat (ds.getD i .none)) ds.length (fun _ => True) Γ1)) : EvI K (iSq K tl) Γ ki := by
  intro σ S H fs R w P
  refine h σ S H fs _ w fun v r Γ1 S1 H1 f1 fs1 hb w1 st1 => ?_
  obtain ⟨d, ds, rfl, hs, hk⟩ := hb
  obtain ⟨e0, v', e1, hd⟩ := w1.hd
  subst e0
  cases e1
  have turns : ∀ (vs : List V), DdAll K S1 vs ds → ∀ i (S2 H2 : Hp) (σ2 : List (Option V)) (Γ2 : List Sl) (fs2 : List (List Addr)) (x : V), Le S1 S2 → Wd K σ2 Γ2 S2 H2 fs2 → vs[i]? = some x → Wd K (some x :: σ2) (.dat (ds.getD i .none) :: Γ2) S2 H2 ([] :: fs2) := fun vs ha i S2 H2 σ2 Γ2 fs2 x l w2 hx => by
    obtain ⟨d', h1, h2⟩ := dps_get ha hx
    refine w2.put ⟨rfl, x, rfl, ?_⟩
    rw [List.getD_eq_getElem?_getD, h1]
    exact l.dp h2
  cases hd with
  | lst h1 ha =>
    cases hs
    have hl := dps_len ha
    refine .inl ⟨_, _, rfl, w1.good.sub.sqL (.inl h1), fun hz => P _ _ _ _ Γ1 S1 H1 fs1 (fun _ _ h => h) (hk (by omega)) w1.tl (by simpa using st1) fun i σ2 Γ2 S2 H2 fs2 hi _ w2 st2 => ⟨fun hlt => ?_, fun he => ?_⟩⟩
    · have hq : SqL K H2 _ _ := w2.good.sub.sqL (st2.le.sqL (.inl h1))
      refine ⟨⟨_, _, hq, List.getElem?_eq_getElem (by omega)⟩, fun x H' y => ?_⟩
      obtain ⟨rfl, y⟩ := y
      exact ⟨S2, turns _ ha i S2 _ σ2 Γ2 fs2 x st2.le w2 (y _ hq), Step.refl⟩
    · exact ⟨_, w2.good.sub.sqL (st2.le.sqL (.inl h1)), by omega⟩
  | tup h1 ha =>
    cases hs
    have hl := dps_len ha
    refine .inr ⟨_, _, rfl, w1.good.sub.sqT h1, fun hz => P _ _ _ _ Γ1 S1 H1 fs1 (fun _ _ h => h) (hk (by omega)) w1.tl (by simpa using st1) fun i σ2 Γ2 S2 H2 fs2 hi _ w2 st2 => ⟨fun hlt => ?_, fun he => ?_⟩⟩
    · have hq := w2.good.sub.sqT (st2.le.sqT h1)
      refine ⟨⟨_, _, hq, List.getElem?_eq_getElem (by omega)⟩, fun x H' y => ?_⟩
      obtain ⟨rfl, y⟩ := y
      exact ⟨S2, turns _ ha i S2 _ σ2 Γ2 fs2 x st2.le w2 (y _ hq), Step.refl⟩
    · exact ⟨_, w2.good.sub.sqT (st2.le.sqT h1), by omega⟩
  | _ => cases hs
def ownL (a : Addr) (xs : List PyData) : Res where
  v := .ref a
  p := fun K S H fp => fp = [a] ∧ ∃ vs, H a = some (.lst vs) ∧ DdAll K S vs xs
  loc := fun ⟨h1, vs, h2, h3⟩ l k => ⟨h1, vs, by rw [k _ (by simp [h1])]; exact h2, Le.dps l h3⟩
theorem allocOwn {σ : List (Option V)} {S H : Hp} {fs : List (List Addr)} {p : Addr} {vs : List V} {xs : List PyData} (w : Wd K σ Γ S H fs) (hp : H p = none) (hd : DdAll K S vs xs) :
    Wd K (some (.ref p) :: σ) (.res (ownL p xs) :: Γ) S (upd H p (.lst vs)) ([p] :: fs) ∧ Step S H fs.flatten S (upd H p (.lst vs)) ([p] :: fs).flatten := by
  have nS : S p = none := w.good.sub.none hp
  have nF : ∀ a ∈ fs.flatten, a ≠ p := fun a ha e => w.good.al a ha (by rw [e]; exact hp)
  have leH : Le H (upd H p (.lst vs)) := fun a u e => by rw [upd_ne (ne_of_none e hp)]; exact e
  refine ⟨⟨⟨w.good.sub.trans leH, ?_, fun a ha => ?_, fun a ha => ?_⟩, .cons ⟨rfl, rfl, vs, upd_same, hd⟩ (w.sat.step (Le.refl _) fun a ha => upd_ne (nF a ha))⟩, Le.refl _, fun a u e _ => leH a u e, fun a e => .inl e, fun a ha => ?_, fun a e => ?_⟩
  · simp only [List.flatten_cons]
    exact List.nodup_cons.mpr ⟨fun q => nF p q rfl, w.good.nd⟩
  · rcases List.mem_cons.mp (show a ∈ p :: fs.flatten by simpa using ha) with rfl | q
    · exact nS
    · exact w.good.dis a q
  · rcases List.mem_cons.mp (show a ∈ p :: fs.flatten by simpa using ha) with rfl | q
    · rw [upd_same]; simp
    · rw [upd_ne (nF a q)]
      exact w.good.al a q
  · rcases List.mem_cons.mp (show a ∈ p :: fs.flatten by simpa using ha) with rfl | q
    · exact .inl hp
    · exact .inr q
  · by_cases q : a = p
    · subst q
      rw [upd_same]
      simp
    · rw [upd_ne q]
      exact e
theorem e_lstO {ta : TA} (h : EvA K ta Γ fun rs Γ1 => ∃ ds : List PyData, rs = ds.map .dat ∧ ds.length ≤ sizeLine ∧ ∀ a, k (.res (ownL a ds)) Γ1) : EvP K (tLst ta) Γ k := by
  intro σ S H fs Q w P
  refine h σ S H fs _ w fun vs rs Γ1 S1 H1 frs fs1 hb l1 l2 w1 st1 => ?_
  obtain ⟨ds, rfl, hz, hk⟩ := hb
  obtain ⟨s1, s2⟩ := w1.sat.split (by simpa using l1) l2
  obtain ⟨hd, hf⟩ := sat_dats s1
  have w2 : Wd K σ Γ1 S1 H1 fs1 := Wd.tail (by simpa using l1) l2 w1
  refine ⟨by rw [dps_len hd]; exact hz, fun p hp => ?_⟩
  obtain ⟨w3, st3⟩ := allocOwn w2 hp hd
  exact P _ _ Γ1 S1 _ [p] fs1 (hk p) w3 ((st1.sub (F'' := fs1.flatten) fun a ha => by simp [hf]; simpa using ha).trans st3)
theorem freezeW {σ : List (Option V)} {S H : Hp} {f : List Addr} {fs : List (List Addr)} {a : Addr} {xs : List PyData} {v : V} (w : Wd K (some v :: σ) (.res (ownL a xs) :: Γ) S H (f :: fs)) :
    ∃ S', Wd K (some v :: σ) (.dat (.list xs) :: Γ) S' H ([] :: fs) ∧ Step S H (f :: fs).flatten S' H fs.flatten := by
  obtain ⟨e1, e2, vs, e3, hd⟩ := w.hd
  have e2 : f = [a] := e2
  have e3 : H a = some (.lst vs) := e3
  subst e2
  cases e1
  have nS : S a = none := w.good.dis a (by simp)
  have le : Le S (upd S a (.lst vs)) := fun b u e => by rw [upd_ne (ne_of_none e nS)]; exact e
  have nd := w.good.nd
  simp only [List.flatten_cons] at nd
  have nF : ∀ b ∈ fs.flatten, b ≠ a := fun b hb e => (List.nodup_cons.mp nd).1 (e ▸ hb)
  refine ⟨upd S a (.lst vs), ⟨⟨fun b u e => ?_, ?_, fun b hb => ?_, fun b hb => w.good.al b ?_⟩, .cons ⟨rfl, _, rfl, dp_lst_new nS hd⟩ (w.tl.sat.step le fun _ _ => rfl)⟩, le, fun _ _ e _ => e, fun b e => ?_, fun b hb => .inr ?_, fun _ e => e⟩
  · by_cases q : b = a
    · subst q
      rw [upd_same] at e
      exact e3.trans e
    · rw [upd_ne q] at e
      exact w.good.sub b u e
  · simpa using w.tl.good.nd
  · have hb' : b ∈ fs.flatten := by simpa using hb
    rw [upd_ne (nF b hb')]
    exact w.tl.good.dis b hb'
  · simpa using Or.inr (by simpa using hb)
  · by_cases q : b = a
    · subst q
      exact .inr (.inr (by simp))
    · rw [upd_ne q] at e
      exact .inl e
  · simp only [List.flatten_cons]
    exact List.mem_append_right _ hb
theorem e_freeze {te : TE} (h : EvP K te Γ fun r Γ1 => ∃ a xs, r = .res (ownL a xs) ∧ k (.dat (.list xs)) Γ1) : EvP K te Γ k := by
  intro σ S H fs Q w P
  refine h σ S H fs _ w fun v r Γ1 S1 H1 f1 fs1 hb w1 st1 => ?_
  obtain ⟨a, xs, rfl, hk⟩ := hb
  obtain ⟨S', w2, st2⟩ := freezeW w1
  exact P v _ Γ1 S' H1 [] fs1 hk w2 (by simpa using st1.trans st2)
theorem upd_own {σ : List (Option V)} {S H : Hp} {fs : List (List Addr)} {j : Nat} {a : Addr} {xs ys : List PyData} {ws : List V} (w : Wd K σ Γ S H fs) (hj : Γ[j]? = some (.res (ownL a xs))) (hd : DdAll K S ws ys) :
    Wd K σ (Γ.set j (.res (ownL a ys))) S (upd H a (.lst ws)) fs ∧ Step S H fs.flatten S (upd H a (.lst ws)) fs.flatten := by
  obtain ⟨x, fp, hx, hf, e1, e2, vs, e3, hv⟩ := w.sat.get hj
  have e2 : fp = [a] := e2
  have e3 : H a = some (.lst vs) := e3
  subst e2
  have pm := flat_take fs j [a] hf
  have gp := w.good.perm pm
  have nd := gp.nd
  have aF : a ∈ fs.flatten := pm.mem_iff.mpr (by simp)
  have nS : S a = none := w.good.dis a aF
  have nF : ∀ b ∈ (fs.set j []).flatten, b ≠ a := fun b hb e => (List.nodup_cons.mp nd).1 (e ▸ hb)
  have sat1 : SatL K S H σ (Γ.set j .no) (fs.set j []) := by
    have q := w.sat.set (x := x) (s := .no) (fp := []) j rfl
    rwa [setSame hx] at q
  have sat2 := sat1.step (Le.refl S) (H' := upd H a (.lst ws)) fun b hb => upd_ne (nF b hb)
  have sat3 := sat2.set (x := x) (s := .res (ownL a ys)) (fp := [a]) j ⟨e1, rfl, ws, upd_same, hd⟩
  rw [setSame hx, List.set_set, List.set_set, setSame hf] at sat3
  refine ⟨⟨⟨fun b u e => ?_, w.good.nd, w.good.dis, fun b hb => ?_⟩, sat3⟩, Le.refl _, fun b u e n => ?_, fun b e => .inl e, fun b hb => .inr hb, fun b e => ?_⟩
  · rw [upd_ne (ne_of_none e nS)]
    exact w.good.sub b u e
  · by_cases q : b = a
    · subst q; rw [upd_same]; simp
    · rw [upd_ne q]; exact w.good.al b hb
  · rw [upd_ne fun q => n (by rw [q]; exact aF)]
    exact e
  · by_cases q : b = a
    · subst q; rw [upd_same]; simp
    · rw [upd_ne q]; exact e
theorem e_append {to : TE} {ta : TA} (j : Nat) (h : EvP K to Γ fun s Γ1 => ∃ a, s = .raw (.ref a) ∧ (∃ xs, Γ1[j]? = some (.res (ownL a xs))) ∧ EvA K ta Γ1 fun rs Γ2 => ∃ xs d, Γ2[j]? = some (.res (ownL a xs)) ∧ rs = [.dat d] ∧ xs.length < sizeLine ∧ k (.dat .none) (Γ2.set j (.res (ownL a (xs ++ [d]))))) :
    EvP K (tBM K "list" rAppend to ta) Γ k := by
  intro σ S H fs Q w P
  refine h σ S H fs _ w fun v r1 Γ1 S1 H1 f1 fs1 hb w1 st1 => ?_
  obtain ⟨a, rfl, ⟨xs0, hj0⟩, hA⟩ := hb
  obtain ⟨e0, e1⟩ := w1.hd
  subst e0
  cases e1
  obtain ⟨x0, fp0, hx0, hf0, q1, q2, vs0, q3, q4⟩ := w1.tl.sat.get hj0
  refine ⟨.inl ⟨rfl, vs0, .inl (.inl q3)⟩, ?_⟩
  refine hA σ S1 H1 fs1 _ w1.tl fun vs rs Γ2 S2 H2 frs fs2 hk l1 l2 w2 st2 => ?_
  obtain ⟨xs, d, hj, rfl, hz, hk⟩ := hk
  match vs, frs, l1, l2, w2, st2 with
  | [u], [f], _, _, w2, st2 =>
    have w2' : Wd K (some u :: σ) (.dat d :: Γ2) S2 H2 (f :: fs2) := w2
    obtain ⟨e4, u', e5, hu⟩ := w2'.hd
    subst e4
    cases e5
    obtain ⟨x, fp, hx, hf, q5, q6, ws, q7, q8⟩ := w2'.tl.sat.get hj
    have hl := dps_len q8
    have app : ∀ {as bs : List V} {cs ds : List PyData}, DdAll K S2 as cs → DdAll K S2 bs ds → DdAll K S2 (as ++ bs) (cs ++ ds) := by
      intro as bs cs ds h1 h2
      induction h1 using DdAll.rec (motive_1 := fun _ _ _ => True) with
      | nil => exact h2
      | cons a b _ ih => exact .cons a ih
      | _ => trivial
    obtain ⟨w3, st3⟩ := upd_own (ws := ws ++ [u]) w2'.tl hj (app q8 (.cons hu .nil))
    refine ⟨a, ws, u, rfl, rfl, q7, by omega, ?_⟩
    have st12 : Step S H fs.flatten S2 H2 fs2.flatten := (by simpa using st1 : Step S H fs.flatten S1 H1 fs1.flatten).trans (by simpa using st2)
    exact (P.trans (st12.trans st3)).dat w3 hk .non
  | [], _, l1, _, _, _ => simp at l1
  | _ :: _ :: _, _, l1, _, _, _ => simp at l1
  | [_], [], _, l2, _, _ => simp at l2
  | [_], _ :: _ :: _, _, l2, _, _ => simp at l2
end Dl
namespace Dl
open PySem PySem.Spec PyProof.Rows L2
structure Callee (P : Program) (w : World) (K : Frag) (mg : Str → Option Value) (base : Heap) (x : Str) (k : Nat) (ps : List Str) (sp : Sp) : Prop where
  ex : ∃ f fd, FnOk P w K mg base CX0 k f fd ps sp ∧ mg x = some (.ref f) ∧ PySem.W.keepIn K (.ref f) = true ∧ Binds K fd ps []
theorem callee_mk {P : Program} {w : World} {K : Frag} {mg : Str → Option Value} {base : Heap} {x qual : Str} {params : Arguments} {body : List Stmt} {scope : Scope} {f : Addr} {N ps : List Str} {k : Nat} {F : FSpec}
    (hf : ∃ fd, FunD K x qual params body scope [] [] f fd) (S : FnScope N ps scope)
    (hb : ∀ (kV doc pm : Value) (an : Option Addr) (cdv ct : Value) (us : List Value), us.length = ps.length → bindArgs (PySem.W.fnOf x qual params body scope .none kV doc pm an cdv ct) ⟨us, []⟩ = pure (ps.zip us))
    (g : mg x = some (.ref f)) (hn : ∀ args k, F args k → args.length = ps.length) (t : TS) (ht : ∀ args k, F args k → ExS K t (args ++ List.replicate (N.length - args.length) .no) (fnOut args k))
    (hd : ∀ (cdv : Value) (A : Around) (outer : List Env) (s : Shared) (H : Hp) (E : XK), Room k (A.deeper (envOfC qual scope s.heap.objs.size f cdv)) → PSs (cxOf CX0 P w K mg base N qual scope f cdv A outer s H E).nox body t) :
    Callee P w K mg base x (k + 1) ps (spOf K F) := by
  obtain ⟨fd, FD⟩ := hf
  refine ⟨f, fd, FD.ok S (fun vs H Q E h => sp_len hn h) (fun cdv A outer s H vs Q E hr h => ⟨t, (hd cdv A outer s H E hr).nox, fn_body ht h⟩), g, FD.kp, FD.bindsN hb⟩
section
variable {X : Cx} {x : Str} {j k : Nat} {ps : List Str} {sp : Sp} {p pos : Pos} {e : Expr} {es : List Expr} {t : TA}
theorem pe_u (C : Callee X.prog X.w X.K X.mg X.base x j ps sp) (hr : Room k X.A) (hj : j ≤ k) (hg : Gl X x) (ha : PA X (e :: es) t) (hdb : (x == ("__debug__" : Str)) = false := by decide) (he : starEach (e :: es) X.env = (false, eval e X.env) :: starEach es X.env := by rfl) (hpl : (backTo pos (starEach es X.env)).any (·.1) = false := by rfl) :
    PE X (.Call (.Name x p) (e :: es) [] pos) (tCall sp [] E0 t) := by
  obtain ⟨f, fd, F, hm, hk, hb⟩ := C.ex
  exact pe_call F (hr.mono hj) hg hm hk hb .nil pass0 ha hdb he hpl
theorem pe_u0 (C : Callee X.prog X.w X.K X.mg X.base x j ps sp) (hr : Room k X.A) (hj : j ≤ k) (hg : Gl X x) (hdb : (x == ("__debug__" : Str)) = false := by decide) : PE X (.Call (.Name x p) [] [] pos) (tCall sp [] E0 tNil) := by
  obtain ⟨f, fd, F, hm, hk, hb⟩ := C.ex
  exact pe_call0 F (hr.mono hj) hg hm hk hb .nil pass0 hdb
theorem pe_gc {v : V} (hg : Gl X x) (hm : ∃ u, X.mg x = some u ∧ RelV v u) (hd : (x == ("__debug__" : Str)) = false := by decide) : PE X (.Name x pos) (tC v) := by
  obtain ⟨u, h1, h2⟩ := hm
  exact pe_glob hg h1 h2 hd
end
def rAddS : R2 := fun x y H Q => ∃ i j, x = .str i ∧ y = .str j ∧ i.length + j.length ≤ sizeLine ∧ Q (.str (i ++ j)) H
def rCatR : R2 := fun x y H Q => ∃ l b xs zs, x = .ref l ∧ y = .ref b ∧ Rd H l (.lst xs) ∧ Rd H b (.lst zs) ∧ xs.length + zs.length ≤ sizeLine ∧ ∀ p, H p = none → Q (.ref p) (upd H p (.lst (xs ++ zs)))
def rRepR : R2 := fun x y H Q => ∃ l k xs, x = .ref l ∧ y = .int k ∧ H l = some (.lst xs) ∧ -(2 ^ 63) ≤ k ∧ k < 2 ^ 63 ∧ xs.length * k.toNat ≤ sizeLine ∧ ∀ p, H p = none → Q (.ref p) (upd H p (.lst (List.replicate k.toNat xs).flatten))
def uAdd (K : Frag) : R2 := fun x y H Q => rI0 (fun i j => .int (i + j)) x y H Q ∨ (rAddS x y H Q ∨ (rCatR x y H Q ∨ rCatA K x y H Q))
def uSub (K : Frag) : R2 := rI0 fun i j => .int (i - j)
def uMul (K : Frag) : R2 := fun x y H Q => rI CMul (fun i j => .int (i * j)) x y H Q ∨ (rI CMulW (fun i j => .int (i * j)) x y H Q ∨ rRep x y H Q)
def uFDiv (K : Frag) : R2 := fun x y H Q => rI CDiv (fun i j => .int (i / j)) x y H Q ∨ rI CDivW (fun i j => .int (i / j)) x y H Q
def uMod (K : Frag) : R2 := rI (fun _ j => 0 < j) fun i j => .int (i % j)
def uPow (K : Frag) : R2 := rI CPow fun i j => .int (i ^ j.toNat)
def rIsNn : R2 := fun x y H Q => y = .non ∧ Q (.bl (decide (x = .non))) H
def rNotNn : R2 := fun x y H Q => y = .non ∧ Q (.bl (!decide (x = .non))) H
def rIsRf : R2 := fun x y H Q => ∃ a b oa ob, x = .ref a ∧ y = .ref b ∧ H a = some oa ∧ isObj oa = true ∧ H b = some ob ∧ isObj ob = true ∧ Q (.bl (decide (a = b))) H
def rNotRf : R2 := fun x y H Q => ∃ a b oa ob, x = .ref a ∧ y = .ref b ∧ H a = some oa ∧ isObj oa = true ∧ H b = some ob ∧ isObj ob = true ∧ Q (.bl (!decide (a = b))) H
def uIs (K : Frag) : R2 := fun x y H Q => rIsNn x y H Q ∨ (rIsB x y H Q ∨ rIsRf x y H Q)
def uIsNot (K : Frag) : R2 := fun x y H Q => rNotNn x y H Q ∨ (rNotB x y H Q ∨ rNotRf x y H Q)
def rInStr : R2 := fun x y H Q => ∃ i j, x = .str i ∧ y = .str j ∧ Q (.bl (!(Builtin.Str.occurrences j i 0 j.length 1).isEmpty)) H
def rNiStr : R2 := fun x y H Q => ∃ i j, x = .str i ∧ y = .str j ∧ Q (.bl (!(!(Builtin.Str.occurrences j i 0 j.length 1).isEmpty))) H
def uIn (K : Frag) : R2 := fun x y H Q => rIn K false x y H Q ∨ (rInStr x y H Q ∨ rInD K x y H Q)
def uNotIn (K : Frag) : R2 := fun x y H Q => rIn K true x y H Q ∨ (rNiStr x y H Q ∨ rNotInD K x y H Q)
def rLtS : R2 := fun x y H Q => ∃ i j, x = .str i ∧ y = .str j ∧ Q (.bl (decide (i.cps.toList < j.cps.toList))) H
def uLt (K : Frag) : R2 := fun x y H Q => rI0 (fun i j => .bl (decide (i < j))) x y H Q ∨ rLtS x y H Q
def uLe (K : Frag) : R2 := rI0 fun i j => .bl (decide (i ≤ j))
def uGt (K : Frag) : R2 := rI0 fun i j => .bl (decide (j < i))
def uGe (K : Frag) : R2 := rI0 fun i j => .bl (decide (j ≤ i))
def uEq (K : Frag) : R2 := rEqD K
def uNe (K : Frag) : R2 := rNeD K
def uIx (K : Frag) : R2 := rIx K
def rSlU (K : Frag) : V → Option Int → Option Int → Hp → VK → Prop := fun x lo hi H Q => rSlL K x lo hi H Q ∨ (rSlA K x lo hi H Q ∨ rSlS x lo hi H Q)
def rLen (K : Frag) : List V → Hp → VK → Prop := fun xs H Q => ∃ x n, xs = [x] ∧ LenV K x H n ∧ Q (.int n) H
def rIsiU (K : Frag) : List V → Hp → VK → Prop := fun xs H Q => rIsi K xs H Q ∨ (rIsiT K xs H Q ∨ rIsiK K xs H Q)
def rMax2 : List V → Hp → VK → Prop := fun xs H Q => ∃ i j, xs = [.int i, .int j] ∧ Q (.int (if j > i then j else i)) H
def rMin2 : List V → Hp → VK → Prop := fun xs H Q => ∃ i j, xs = [.int i, .int j] ∧ Q (.int (if j < i then j else i)) H
def rMaxU (K : Frag) : List V → Hp → VK → Prop := fun xs H Q => rMax2 xs H Q ∨ rMax K xs H Q
def rMinU (K : Frag) : List V → Hp → VK → Prop := fun xs H Q => rMin2 xs H Q ∨ rMin K xs H Q
def rAbs (_ : Frag) : List V → Hp → VK → Prop := fun xs H Q => ∃ i, xs = [.int i] ∧ Q (.int (if i < 0 then -i else i)) H
def rInt1 (_ : Frag) : List V → Hp → VK → Prop := fun xs H Q => (∃ i, xs = [.int i] ∧ Q (.int i) H) ∨ ∃ k, xs = [.bl k] ∧ Q (.int (if k then 1 else 0)) H
def rListU (K : Frag) : List V → Hp → VK → Prop := fun xs H Q => ∃ p ys, xs = [.ref p] ∧ (SqL K H p ys ∨ SqT K H p ys) ∧ ∀ l, H l = none → Q (.ref l) (upd H l (.lst ys))
def rTupU (K : Frag) : List V → Hp → VK → Prop := fun xs H Q => ∃ p ys, xs = [.ref p] ∧ ((SqL K H p ys ∧ ∀ l, H l = none → Q (.ref l) (upd H l (.tup ys))) ∨ (SqT K H p ys ∧ Q (.ref p) H))
section
variable {X : Cx} {k : Nat}
theorem op_catR : OpR X (binaryOp .Add) rCatR := by
  intro pins s σ H x y v u Q I rx ry h
  obtain ⟨l, b, xs, zs, rfl, rfl, hH, hB, hz, q⟩ := h
  cases rx
  cases ry
  obtain ⟨z, its, n, r, e⟩ := hH.ok I.hok
  obtain ⟨z2, its2, n2, r2, e2⟩ := hB.ok I.hok
  have l1 := r.length
  have l2 := r2.length
  refine PySem.P.add_list e e2 ?_ (by rw [List.size_toArray, List.size_toArray]; omega)
  have ea : its.toArray ++ its2.toArray = (its ++ its2).toArray := by simp
  rw [ea]
  exact ⟨.ref _, _, I.lnew (t' := s.toks) (r.append r2) (by rw [List.length_append]; omega), rfl, q _ I.fresh⟩
theorem opAdd : OpR X (binaryOp .Add) (uAdd X.K) := op_add.or (op_add_str.or (op_catR.or op_catA))
theorem opSub : OpR X (binaryOp .Sub) (uSub X.K) := op_sub
theorem opMul : OpR X (binaryOp .Mult) (uMul X.K) := op_mul.or (op_mulW.or op_rep)
theorem opFDiv : OpR X (binaryOp .FloorDiv) (uFDiv X.K) := op_fdiv.or op_fdivW
theorem opMod : OpR X (binaryOp .Mod) (uMod X.K) := op_mod
theorem opPow : OpR X (binaryOp .Pow) (uPow X.K) := op_pow
theorem opIs (hr : Room k X.A) : OpR X (compareOp .Is) (uIs X.K) := op_isN.or (op_isBl.or op_is_ref)
theorem opIsNot (hr : Room k X.A) : OpR X (compareOp .IsNot) (uIsNot X.K) := op_notN.or (op_notBl.or op_isnot_ref)
theorem opIn (hr : Room k X.A) : OpR X (compareOp .In) (uIn X.K) := op_in_seq.or (op_in_str.or (op_inD (by have := hr.un; omega)))
theorem opNotIn (hr : Room k X.A) : OpR X (compareOp .NotIn) (uNotIn X.K) := op_notIn_seq.or (op_notIn_str.or (op_notInD (by have := hr.un; omega)))
theorem opLt (hr : Room k X.A) : OpR X (compareOp .Lt) (uLt X.K) := op_lt.or op_lt_str
theorem opLe (hr : Room k X.A) : OpR X (compareOp .LtE) (uLe X.K) := op_le
theorem opGt (hr : Room k X.A) : OpR X (compareOp .Gt) (uGt X.K) := op_gt
theorem opGe (hr : Room k X.A) : OpR X (compareOp .GtE) (uGe X.K) := op_ge
theorem opEq (hr : Room k X.A) : OpR X (compareOp .Eq) (uEq X.K) := op_eqD hr.units
theorem opNe (hr : Room k X.A) : OpR X (compareOp .NotEq) (uNe X.K) := op_neD hr.units
theorem ixU : IxR X (uIx X.K) := ix_seq
theorem slU : SlR X (rSlU X.K) := sl_list.or (sl_tupA.or sl_str)
theorem cIsi : CallR X (.builtin "isinstance") (rIsiU X.K) := call_isi.or (call_isiT.or call_isiK)
theorem cMax (hc : X.calm = true := by rfl) : CallR X (.builtin "max") (rMaxU X.K) := (call_max2 hc).or (cr_max hc)
theorem cMin (hc : X.calm = true := by rfl) : CallR X (.builtin "min") (rMinU X.K) := (call_min2 hc).or (cr_min hc)
theorem cList : CallR X (.type "list") (rListU X.K) := call_list_of
theorem cTuple : CallR X (.type "tuple") (rTupU X.K) := call_tuple_of
end
end Dl
namespace PySem
theorem dl_meets_enum1 {v : Value} {o : Obj} {H : Heap → Prop} (B : Begins v o H) :
    Meets (Builtin.«enumerate.__new__» ⟨[.type "enumerate", v], []⟩) (fun _ R s => H s.heap ∧
      R (.ok (.ret (.ref (s.heap.push o).objs.size))) { s with heap := (s.heap.push o).push { cls := .type "enumerate", data := .fields #[.none, .bool false, .ref s.heap.objs.size, rawInt 0, .none, .none] } }) :=
  .of_wp fun prog w A R s h => by
    obtain ⟨hp, g, d, tk, os⟩ := s; obtain ⟨h1, h⟩ := h
    have hsub := sub_enumerate
    have q1 : ∀ {A' : Around} {E : Value → Shared → Prop} {Q : Value → Shared → Prop}, Q (.ref hp.objs.size) ⟨hp.push o, g, d, tk, os⟩ → wpAny (model prog w) A' (pyIter v) Q E ⟨hp, g, d, tk, os⟩ :=
      fun q => B.iter prog w _ _ ⟨hp, g, d, tk, os⟩ _ h1 q
    wp_walk using q1
    refine wpAny_stack_any fun st => wpAny_pure ?_
    split
    · rename_i c _ _ _ _ _
      cases (c == Value.type "enumerate")
      · wp_walk using q1
        exact ⟨_, rfl, h⟩
      · wp_walk using q1
        exact ⟨_, rfl, h⟩
    · wp_walk using q1
      exact ⟨_, rfl, h⟩
section
variable {prog : Program} {w : World} {A : Around} {E : Value → Shared → Prop} {s : Shared}
theorem dl_enum_begins1 {v : Value} {o : Obj} {H : Heap → Prop} {Q : Value → Shared → Prop} (B : Begins v o H) (h1 : H s.heap)
    (h : ∀ h', IsEnum h' (s.heap.objs.size + 1) s.heap.objs.size 0 .none → h'.get? s.heap.objs.size = some o → h'.objs.size = s.heap.objs.size + 2 →
      (∀ b o, s.heap.get? b = some o → h'.get? b = some o) → Q (.ref (s.heap.objs.size + 1)) { s with heap := h' }) :
    wpAny (model prog w) A (call (.type "enumerate") [v]) Q E s := by
  refine callType_new F.called_enumerate (by decide) (F.typeCall_enumerate_1 _) (F.newCall_enumerate_1 _) (fun obj => F.args_object_init_2 obj _) F.entry_enumerate_new
    (dl_meets_enum1 B) ⟨h1, ?_⟩
  have hz : (s.heap.push o).objs.size = s.heap.objs.size + 1 := Heap.size_push ..
  show _ ∧ _
  rw [hz]
  have he : IsEnum ((s.heap.push o).push { cls := .type "enumerate", data := .fields #[.none, .bool false, .ref s.heap.objs.size, rawInt 0, .none, .none] }) (s.heap.objs.size + 1) s.heap.objs.size 0 .none := by
    have := Heap.get?_push_size (s.heap.push o) (o := { cls := .type "enumerate", data := .fields #[.none, .bool false, .ref s.heap.objs.size, rawInt 0, .none, .none] }) rfl
    rw [hz] at this; exact this
  refine ⟨⟨_, he, rfl⟩, h _ he (Heap.get?_push_of_some _ (Heap.get?_push_size _ B.free)) (by rw [Heap.size_push, hz]) fun b o x => Heap.get?_push_of_some _ (Heap.get?_push_of_some _ x)⟩
end
end PySem
namespace Dl
open PySem PySem.Spec PyProof.Rows L2
def sqB (b : Bool) (K : Frag) (H : Hp) (a : Addr) (xs : List V) : Prop := if b then SqL K H a xs else SqT K H a xs
def itB (b : Bool) (h : Heap) (it a : Addr) (i : Nat) : Prop := if b then h.IsListIter it a i else h.IsTupleIter it a i
def isB (b : Bool) (h : Heap) (a : Addr) (its : Array Value) : Prop := if b then h.IsList a its else h.IsTuple a its
theorem isB_lt {b : Bool} {h : Heap} {a : Addr} {its : Array Value} (x : isB b h a its) : ∃ o, h.get? a = some o := by
  cases b with
  | true => obtain ⟨o, e, _⟩ := (show h.IsList a its from x); exact ⟨o, e⟩
  | false => obtain ⟨o, e, _⟩ := (show h.IsTuple a its from x); exact ⟨o, e⟩
theorem itB_obj {b : Bool} {h : Heap} {it a : Addr} {i : Nat} (x : itB b h it a i) : ∃ o, h.get? it = some o ∧ ∀ v, o.data ≠ .cell v := by
  cases b with
  | true => obtain ⟨o, e, _, d⟩ := (show h.IsListIter it a i from x); exact ⟨o, e, fun v q => by rw [d] at q; cases q⟩
  | false => obtain ⟨o, e, _, d⟩ := (show h.IsTupleIter it a i from x); exact ⟨o, e, fun v q => by rw [d] at q; cases q⟩
theorem itB_at {b : Bool} {h h' : Heap} {it a : Addr} {i : Nat} (x : itB b h it a i) (k : ∀ o, h.get? it = some o → h'.get? it = some o) : itB b h' it a i := by
  cases b with
  | true => exact Heap.IsListIter.at (show h.IsListIter it a i from x) k
  | false => exact Heap.IsTupleIter.at (show h.IsTupleIter it a i from x) k
theorem drawsB (b : Bool) {prog : Program} {w : World} {A : Around} (hh : A.handled = none) (it l : Addr) (hne : l ≠ it) (items : Array Value) :
    Draws prog w A it [it, l] items.size (fun i v => items[i]? = some v) (fun i h => itB b h it l i ∧ isB b h l items) := by
  cases b with
  | true => exact Draws.list hh it l hne items
  | false => exact Draws.tuple hh it l hne items
def objB (b : Bool) (a : Addr) : Obj := if b then { cls := .type "list_iterator", data := .fields #[.ref a, .int 0 0] } else { cls := .type "tuple_iterator", data := .fields #[.ref a, .int 0 0] }
theorem beginsB (b : Bool) (l : Addr) (items : Array Value) : Begins (.ref l) (objB b l) fun h => isB b h l items := by
  cases b with
  | true => exact begins_list l items
  | false => exact begins_tuple l items
theorem itB_new {b : Bool} {h : Heap} {it a : Addr} (e : h.get? it = some (objB b a)) : itB b h it a 0 := by
  cases b with
  | true => exact ⟨_, e, rfl, rfl⟩
  | false => exact ⟨_, e, rfl, rfl⟩
section
variable {X : Cx} {pins : List (Addr × Obj)} {σ : L2.St} {H : Hp} {s : Shared}
theorem invSqB {b : Bool} {a : Addr} {xs : List V} (I : L2.Inv X pins σ H s) (h : sqB b X.K H a xs) : ∃ its : List Value, Vals xs its ∧ isB b s.heap a its.toArray ∧ xs.length ≤ sizeLine := by
  cases b with
  | true =>
    obtain ⟨its, r, p, z⟩ := I.list (show SqL X.K H a xs from h)
    exact ⟨its, r, p.isList, z⟩
  | false =>
    obtain ⟨its, r, p, z⟩ := I.tuple (show SqT X.K H a xs from h)
    exact ⟨its, r, p, z⟩
theorem invSqB_inj {b : Bool} {a : Addr} {xs ys : List V} (I : L2.Inv X pins σ H s) (h : sqB b X.K H a xs) (h' : sqB b X.K H a ys) : xs = ys := by
  cases b with
  | true => exact I.list_inj h h'
  | false => exact I.tuple_inj h h'
end
def Itb (b : Bool) (k0 : Int) (K : Frag) (a : Addr) : It :=
  ⟨fun i H => ∃ (xs : List V) (x : V), sqB b K H a xs ∧ xs[i]? = some x, fun i H v H' => ∃ T x, v = .ref T ∧ H T = none ∧ H' = upd H T (.tup [.int (k0 + (i : Nat)), x]) ∧ ∀ xs, sqB b K H a xs → xs[i]? = some x, fun i H => ∃ xs : List V, sqB b K H a xs ∧ xs.length = i⟩
theorem turn_enumB {P : Program} {w : World} {K : Frag} {elts : List Expr} {kk : Nat} {tpos : Pos} (b : Bool) (k0 : Int) (a e it : Addr) (hna : a ≠ e ∧ a ≠ it) :
    Turn P w K (.Tuple elts kk tpos) (Itb b k0 K a) [e, it] e (fun i h => (∃ old, IsEnum h e it (k0 + ((i : Nat) : Int)) old) ∧ itB b h it a i ∧ e ≠ it) where
  mem := by simp
  obj := fun i h st c hb => by
    obtain ⟨⟨old, he⟩, hit, _⟩ := st
    have e' : c = e ∨ c = it := by simpa using hb
    rcases e' with z | z
    · rw [z]; exact ⟨_, he, fun v q => nomatch q⟩
    · rw [z]; exact itB_obj hit
  keep := fun i h h' st k => let ⟨⟨old, he⟩, hi, hne⟩ := st; ⟨⟨old, k e (by simp) _ he⟩, itB_at hi fun o q => k it (by simp) o q, hne⟩
  item := by
    intro X hP hw hK hc i pins s σ H E I hf st hg
    subst hP hw hK
    obtain ⟨⟨old, he⟩, hit, hne⟩ := st
    obtain ⟨xs, x, hq, hx⟩ := hg
    obtain ⟨its, rv, p, hz⟩ := invSqB I hq
    obtain ⟨u, hu, ru⟩ := rv.get hx
    have hel : e < s.heap.objs.size := Heap.lt_size he
    have hil : it < s.heap.objs.size := by obtain ⟨_, q, _⟩ := itB_obj hit; exact Heap.lt_size q
    have hlen : i < its.toArray.size := by
      have := (List.getElem?_eq_some_iff.mp hu).1
      simpa using this
    refine wpAny_pyNext_enum_itemC (drawsB b (A := X.A.in1) (I.ok.hd hc) it a hna.2 its.toArray) he ⟨hit, p⟩ hlen hne (by
      simp only [List.mem_cons, List.not_mem_nil, or_false, not_or]
      exact ⟨hne, fun z => hna.1 z.symm⟩) fun x' h' tk hx' ho hst' hT hsz hk => ?_
    obtain ⟨hit', _⟩ := hst'
    have ex : x' = u := by
      have : its[i]? = some x' := by simpa using hx'
      rw [hu] at this
      exact (Option.some.inj this).symm
    subst ex
    refine ⟨_, rfl, wpAny_letOwnedTupleGo_enum (s := { s with heap := h', toks := tk + 1 }) ho fun h'' he' sb => ?_⟩
    have hT2 : h''.get? s.heap.objs.size = some { cls := .type "tuple", data := .seq #[.int (k0 + (i : Nat)) tk, x'] } := (sb.2 _ (Nat.ne_of_gt hel)).trans hT
    have new : ObjOk X.prog X.w (upd H s.heap.objs.size (.tup [.int (k0 + (i : Nat)), x])) h'' s.heap.objs.size (.tup [.int (k0 + (i : Nat)), x]) :=
      ⟨by show 2 ≤ sizeLine; decide, [.int (k0 + (i : Nat)) tk, x'], .cons ⟨_, rfl⟩ (.cons ru .nil), ⟨_, hT2, rfl, _, rfl⟩⟩
    have I1 : L2.Inv X pins σ (upd H s.heap.objs.size (.tup [.int (k0 + (i : Nat)), x])) { s with heap := h'', toks := tk + 1 } :=
      I.turnedNew (ch := [e, it]) (fun b ob hb q => (sb.2 b (fun z => hb (by simp [z]))).trans (hk b ob (fun z => hb (by simp [z])) (fun z => hb (by simp [z])) q)) hf (Nat.le_refl _) new
    refine ⟨.ref s.heap.objs.size, _, I1, rfl, ⟨_, x, rfl, I.hok.fresh (Nat.le_refl _), rfl, fun ys hy => by rw [invSqB_inj I hy hq]; exact hx⟩, ⟨⟨x', ?_⟩, itB_at hit' fun o q => (sb.2 it (Ne.symm hne)).trans q, hne⟩, fun c hb => ?_⟩
    · have e1 : k0 + ((i + 1 : Nat) : Int) = k0 + (i : Int) + 1 := by omega
      rw [e1]; exact he'
    · have hb' : c < s.heap.objs.size := by
        have e' : c = e ∨ c = it := by simpa using hb
        rcases e' with z | z
        · rw [z]; exact hel
        · rw [z]; exact hil
      rw [upd_ne (Nat.ne_of_lt hb')]
      exact (hf c hb).1
  done := by
    intro X hP hw hK hc i pins s σ H E I hf st hg
    subst hP hw hK
    obtain ⟨⟨old, he⟩, hit, hne⟩ := st
    obtain ⟨xs, hq, hx⟩ := hg
    obtain ⟨its, rv, p, hz⟩ := invSqB I hq
    obtain ⟨f0, f1, f2, f3, f4, f5⟩ := hf it (by simp)
    have hl := rv.length
    have hi : its.toArray.size = i := by simp; omega
    have D := drawsB b (prog := X.prog) (w := X.w) (A := X.A.in1) (I.ok.hd hc) it a hna.2 its.toArray
    rw [hi] at D
    exact wpAny_pyNext_enum_endD D he ⟨hit, p⟩ fun h' eb => ⟨rfl, I.turned (t' := s.toks) (fun b o hb q => eb b o hb q) f0 f1 f3 f4 f5⟩
  self := fun A i s Q E st h => let ⟨⟨_, he⟩, _⟩ := st; wpAny_pyIter_enum he h
def iEnB (K : Frag) (k0 : Int) (x : V) (H : Hp) (R : It → Hp → Prop) : Prop := ∃ (b : Bool) (a : Addr) (xs : List V), x = .ref a ∧ sqB b K H a xs ∧ (xs.length ≤ sizeLine → R (Itb b k0 K a) H)
def iEnumU (K : Frag) (ta : TA) : TI := fun σ H R => ta σ H fun vs H1 => ∃ x, vs = [x] ∧ iEnB K 0 x H1 R
def iEnumS (K : Frag) (ta : TA) : TI := fun σ H R => ta σ H fun vs H1 => ∃ x k0, vs = [x, .int k0] ∧ -(2 ^ 63) ≤ k0 ∧ k0 < 2 ^ 63 ∧ iEnB K k0 x H1 R
section
variable {X : Cx} {e e2 : Expr} {ta : TA} {p pos tpos : Pos} {elts : List Expr} {kk : Nat}
theorem pi_enB {pins : List (Addr × Obj)} {σ : L2.St} {H1 : Hp} {s1 : Shared} {R : It → Hp → Prop} {b : Bool} {k0 : Int} {a : Addr} {xs : List V} {h' : Heap} (I1 : L2.Inv X pins σ H1 s1) (hq : sqB b X.K H1 a xs) (q : xs.length ≤ sizeLine → R (Itb b k0 X.K a) H1)
    (he : IsEnum h' (s1.heap.objs.size + 1) s1.heap.objs.size k0 .none) (hit : h'.get? s1.heap.objs.size = some (objB b a)) (hk : ∀ b o, s1.heap.get? b = some o → h'.get? b = some o) :
    wpAny (model X.prog X.w) X.A (pyIter (.ref (s1.heap.objs.size + 1))) (PIE X pins σ (.Tuple elts kk tpos) R) X.xe { s1 with heap := h' } := by
  obtain ⟨its, rv, p', hz⟩ := invSqB I1 hq
  refine wpAny_pyIter_enum he ?_
  have I2 : L2.Inv X pins σ H1 { s1 with heap := h' } := I1.kept (t' := s1.toks) hk
  have ha : a < s1.heap.objs.size := by obtain ⟨o, e⟩ := isB_lt p'; exact Heap.lt_size e
  refine ⟨s1.heap.objs.size + 1, [s1.heap.objs.size + 1, s1.heap.objs.size], _, _, H1, rfl, I2, turn_enumB b k0 a (s1.heap.objs.size + 1) s1.heap.objs.size ⟨Nat.ne_of_lt (Nat.lt_succ_of_lt ha), Nat.ne_of_lt ha⟩, ⟨⟨.none, by simpa using he⟩, itB_new hit, Nat.succ_ne_self _⟩, fun c hb => ?_, q hz⟩
  have e' : c = s1.heap.objs.size + 1 ∨ c = s1.heap.objs.size := by simpa using hb
  have hle : s1.heap.objs.size ≤ c := by
    rcases e' with z | z
    · rw [z]; exact Nat.le_add_right _ _
    · rw [z]; exact Nat.le_refl _
  exact I1.fpOk hle (I1.hok.fresh hle)
theorem pi_enumU (hg : Gl X "enumerate") (hm : X.mg "enumerate" = none) (ha : PA X [e] ta) (hs : starEach [e] X.env = [(false, eval e X.env)] := by rfl) :
    PI X (.Tuple elts kk tpos) (.Call (.Name "enumerate" p) [e] [] pos) (iEnumU X.K ta) := by
  refine ⟨fun pins s σ H R I h => ?_⟩
  refine Call_ (ld_blt I hg hm boot_enumerate (PyProof.Rows.callWith_type1 (thn (ha.run pos pins s σ H _ I h) fun us s1 ⟨vs, H1, I1, r1, q1⟩ => ?_) hs rfl))
  obtain ⟨x, ex, b, a, xs, rfl, hq, q⟩ := q1
  subst ex
  cases r1 with
  | cons r rr =>
    cases rr
    cases r
    obtain ⟨its, rv, p', hz⟩ := invSqB I1 hq
    exact dl_enum_begins1 (beginsB b a its.toArray) p' fun h' he hit hsz hk => pi_enB I1 hq q he hit hk
theorem pi_enumS (hg : Gl X "enumerate") (hm : X.mg "enumerate" = none) (ha : PA X [e, e2] ta) (hs : starEach [e, e2] X.env = (false, eval e X.env) :: starEach [e2] X.env := by rfl) (hpl : (backTo pos (starEach [e2] X.env)).any (·.1) = false := by rfl) :
    PI X (.Tuple elts kk tpos) (.Call (.Name "enumerate" p) [e, e2] [] pos) (iEnumS X.K ta) := by
  refine ⟨fun pins s σ H R I h => ?_⟩
  refine Call_ (ld_blt I hg hm boot_enumerate (PyProof.Rows.callWith_type1 (thn (ha.run pos pins s σ H _ I h) fun us s1 ⟨vs, H1, I1, r1, q1⟩ => ?_) hs hpl))
  obtain ⟨x, k0, ex, hk1, hk2, b, a, xs, rfl, hq, q⟩ := q1
  subst ex
  cases r1 with
  | cons r rr =>
    cases rr with
    | cons r2 rr =>
      cases rr
      cases r
      obtain ⟨t, rfl⟩ := r2
      obtain ⟨its, rv, p', hz⟩ := invSqB I1 hq
      exact enum_begins (beginsB b a its.toArray) p' hk1 hk2 fun h' he hit hsz hk => pi_enB I1 hq q he hit hk
end
end Dl
namespace Dl
open PySem PySem.Spec PyProof.Rows L2
variable {K : Frag} {Γ : List Sl} {k : Sl → List Sl → Prop} {O : Out}
theorem sq_of_dat {S H : Hp} {v : V} {d : PyData} {ds : List PyData} (l : Le S H) (h : Dd K S v d) (e : seqD d = some ds) : ∃ (b : Bool) (a : Addr) (xs : List V), v = .ref a ∧ sqB b K H a xs ∧ DdAll K S xs ds ∧ (∀ H', Le S H' → sqB b K H' a xs) ∧ (b = true → Rd S a (.lst xs) ∧ d = .list ds) ∧ (b = false → SqT K S a xs ∧ d = .tuple ds) := by
  cases h with
  | lst h1 h2 => cases e; exact ⟨true, _, _, rfl, l.sqL (.inl h1), h2, fun H' l' => l'.sqL (.inl h1), fun _ => ⟨h1, rfl⟩, fun q => nomatch q⟩
  | tup h1 h2 => cases e; exact ⟨false, _, _, rfl, l.sqT h1, h2, fun H' l' => l'.sqT h1, (fun q => nomatch q), fun _ => ⟨h1, rfl⟩⟩
  | _ => cases e
theorem i_enB {k0 : Int} {σ : List (Option V)} {S1 H1 : Hp} {fs1 : List (List Addr)} {v : V} {d : PyData} {ds : List PyData} {Γ1 : List Sl} {R : It → Hp → Prop} {σ' : List (Option V)} (w1 : Wd K σ Γ1 S1 H1 fs1) (hd : Dd K S1 v d) (hs : seqD d = some ds)
    (P : ds.length ≤ sizeLine → ∀ J : It, (∀ i σ2 Γ2 S2 H2 fs2, i ≤ ds.length → Wd K σ2 Γ2 S2 H2 fs2 → Step S1 H1 fs1.flatten S2 H2 fs2.flatten →
      (i < ds.length → J.go i H2 ∧ ∀ x H', J.yld i H2 x H' → ∃ S', Wd K (some x :: σ2) (.dat (.tuple [.int (k0 + (i : Int)), ds.getD i .none]) :: Γ2) S' H' ([] :: fs2) ∧ Step S2 H2 fs2.flatten S' H' fs2.flatten) ∧ (i = ds.length → J.stop i H2)) → R J H1) : iEnB K k0 v H1 R := by
  obtain ⟨b, a, xs, rfl, hq, ha, hq', _, _⟩ := sq_of_dat w1.good.sub hd hs
  have hl := dps_len ha
  refine ⟨b, a, xs, rfl, hq, fun hz => P (by omega) _ fun i σ2 Γ2 S2 H2 fs2 hi w2 st2 => ⟨fun hlt => ?_, fun he => ?_⟩⟩
  · have hq2 := hq' H2 (st2.le.trans w2.good.sub)
    refine ⟨⟨xs, xs[i]'(by omega), hq2, List.getElem?_eq_getElem (by omega)⟩, fun x H' y => ?_⟩
    obtain ⟨T, u, rfl, hT, rfl, hy⟩ := y
    have hu := hy xs hq2
    obtain ⟨d', h1, h2⟩ := dps_get ha hu
    obtain ⟨w3, st3⟩ := alloc (.tup [.int (k0 + (i : Nat)), u]) w2 hT
    refine ⟨_, w3.put ⟨rfl, _, rfl, ?_⟩, st3⟩
    rw [List.getD_eq_getElem?_getD, h1]
    exact dp_tup_new (w2.good.sub.none hT) (.cons (.int _) (.cons (st2.le.dp h2) .nil))
  · exact ⟨xs, hq' H2 (st2.le.trans w2.good.sub), by omega⟩
theorem i_enumU {ta : TA} {ki : (Nat → Sl) → Nat → (List Sl → Prop) → List Sl → Prop} (h : EvA K ta Γ fun rs Γ1 => ∃ d ds, rs = [.dat d] ∧ seqD d = some ds ∧ (ds.length ≤ sizeLine → ki (fun i => .dat (.tuple [.int (i : Int), ds.getD i .none])) ds.length (fun _ => True) Γ1)) : EvI K (iEnumU K ta) Γ ki := by
  intro σ S H fs R w P
  refine h σ S H fs _ w fun vs rs Γ1 S1 H1 frs fs1 hb l1 l2 w1 st1 => ?_
  obtain ⟨d, ds, rfl, hs, hk⟩ := hb
  match vs, frs, l1, l2, w1, st1 with
  | [v], [f], _, _, w1, st1 =>
    have w1' : Wd K (some v :: σ) (.dat d :: Γ1) S1 H1 (f :: fs1) := w1
    obtain ⟨e0, v', e1, hd⟩ := w1'.hd
    subst e0
    cases e1
    refine ⟨v, rfl, i_enB (σ' := σ) w1'.tl hd hs fun hz J hJ => P J _ _ _ Γ1 S1 H1 fs1 (fun _ _ h => h) (hk hz) w1'.tl (by simpa using st1) fun i σ2 Γ2 S2 H2 fs2 hi _ w2 st2 => ?_⟩
    have := hJ i σ2 Γ2 S2 H2 fs2 hi w2 st2
    simpa using this
  | [], _, l1, _, _, _ => simp at l1
  | _ :: _ :: _, _, l1, _, _, _ => simp at l1
  | [_], [], _, l2, _, _ => simp at l2
  | [_], _ :: _ :: _, _, l2, _, _ => simp at l2
theorem i_enumS {ta : TA} {ki : (Nat → Sl) → Nat → (List Sl → Prop) → List Sl → Prop} (h : EvA K ta Γ fun rs Γ1 => ∃ d ds k0, rs = [.dat d, .dat (.int k0)] ∧ -(2 ^ 63) ≤ k0 ∧ k0 < 2 ^ 63 ∧ seqD d = some ds ∧ (ds.length ≤ sizeLine → ki (fun i => .dat (.tuple [.int (k0 + (i : Int)), ds.getD i .none])) ds.length (fun _ => True) Γ1)) : EvI K (iEnumS K ta) Γ ki := by
  intro σ S H fs R w P
  refine h σ S H fs _ w fun vs rs Γ1 S1 H1 frs fs1 hb l1 l2 w1 st1 => ?_
  obtain ⟨d, ds, k0, rfl, hk1, hk2, hs, hk⟩ := hb
  match vs, frs, l1, l2, w1, st1 with
  | [v, u], [f, f'], _, _, w1, st1 =>
    have w1' : Wd K (some v :: some u :: σ) (.dat d :: .dat (.int k0) :: Γ1) S1 H1 (f :: f' :: fs1) := w1
    obtain ⟨e0, v', e1, hd⟩ := w1'.hd
    obtain ⟨e0', u', e1', hu⟩ := w1'.tl.hd
    subst e0 e0'
    cases e1; cases e1'; cases hu
    refine ⟨v, k0, rfl, hk1, hk2, i_enB (σ' := σ) w1'.tl.tl hd hs fun hz J hJ => P J _ _ _ Γ1 S1 H1 fs1 (fun _ _ h => h) (hk hz) w1'.tl.tl (by simpa using st1) fun i σ2 Γ2 S2 H2 fs2 hi _ w2 st2 => hJ i σ2 Γ2 S2 H2 fs2 hi w2 st2⟩
  | [], _, l1, _, _, _ => simp at l1
  | [_], _, l1, _, _, _ => simp at l1
  | _ :: _ :: _ :: _, _, l1, _, _, _ => simp at l1
  | [_, _], [], _, l2, _, _ => simp at l2
  | [_, _], [_], _, l2, _, _ => simp at l2
  | [_, _], _ :: _ :: _ :: _, _, l2, _, _ => simp at l2
def CbK (K : Frag) (r : List V → Hp → VK → Prop) (rs : List Sl) (Γ : List Sl) (k : Sl → List Sl → Prop) : Prop :=
  ∀ σ S H frs fs vs Q, vs.length = rs.length → frs.length = rs.length → Wd K (vs.map some ++ σ) (rs ++ Γ) S H (frs ++ fs) → Post K σ S H (frs ++ fs).flatten k Q → r vs H Q
theorem e_cb {r : List V → Hp → VK → Prop} {ta : TA} (h : EvA K ta Γ fun rs Γ1 => CbK K r rs Γ1 k) : EvP K (tCB r ta) Γ k := fun σ S H fs Q w P =>
  h σ S H fs _ w fun vs rs Γ1 S1 H1 frs fs1 hc l1 l2 w1 st1 => hc σ S1 H1 frs fs1 vs Q l1 l2 w1 (P.trans st1)
theorem cb1 {r : List V → Hp → VK → Prop} {d : PyData} (h : ∀ σ S H fs v Q, Wd K σ Γ S H fs → Dd K S v d → Post K σ S H fs.flatten k Q → r [v] H Q) : CbK K r [.dat d] Γ k := by
  intro σ S H frs fs vs Q l1 l2 w P
  match vs, frs, l1, l2, w, P with
  | [v], [f], _, _, w, P =>
    have w' : Wd K (some v :: σ) (.dat d :: Γ) S H (f :: fs) := w
    obtain ⟨e0, v', e1, hd⟩ := w'.hd
    subst e0
    cases e1
    exact h σ S H fs v Q w'.tl hd (P.trans (Step.refl.sub fun a ha => by simpa using ha))
  | [], _, l1, _, _, _ => simp at l1
  | _ :: _ :: _, _, l1, _, _, _ => simp at l1
  | [_], [], _, l2, _, _ => simp at l2
  | [_], _ :: _ :: _, _, l2, _, _ => simp at l2
theorem cb1r {r : List V → Hp → VK → Prop} {d : PyData} {u : V} (h : ∀ σ S H fs v Q, Wd K σ Γ S H fs → Dd K S v d → Post K σ S H fs.flatten k Q → r [v, u] H Q) : CbK K r [.dat d, .raw u] Γ k := by
  intro σ S H frs fs vs Q l1 l2 w P
  match vs, frs, l1, l2, w, P with
  | [v, u'], [f, f'], _, _, w, P =>
    have w' : Wd K (some v :: some u' :: σ) (.dat d :: .raw u :: Γ) S H (f :: f' :: fs) := w
    obtain ⟨e0, v', e1, hd⟩ := w'.hd
    obtain ⟨e0', e1'⟩ := w'.tl.hd
    subst e0 e0'
    cases e1; cases e1'
    exact h σ S H fs v Q w'.tl.tl hd (P.trans (Step.refl.sub fun a ha => by simpa using ha))
  | [], _, l1, _, _, _ => simp at l1
  | [_], _, l1, _, _, _ => simp at l1
  | _ :: _ :: _ :: _, _, l1, _, _, _ => simp at l1
  | [_, _], [], _, l2, _, _ => simp at l2
  | [_, _], [_], _, l2, _, _ => simp at l2
  | [_, _], _ :: _ :: _ :: _, _, l2, _, _ => simp at l2
theorem cb2 {r : List V → Hp → VK → Prop} {d d2 : PyData} (h : ∀ σ S H fs v u Q, Wd K σ Γ S H fs → Dd K S v d → Dd K S u d2 → Post K σ S H fs.flatten k Q → r [v, u] H Q) : CbK K r [.dat d, .dat d2] Γ k := by
  intro σ S H frs fs vs Q l1 l2 w P
  match vs, frs, l1, l2, w, P with
  | [v, u'], [f, f'], _, _, w, P =>
    have w' : Wd K (some v :: some u' :: σ) (.dat d :: .dat d2 :: Γ) S H (f :: f' :: fs) := w
    obtain ⟨e0, v', e1, hd⟩ := w'.hd
    obtain ⟨e0', v'', e1', hu⟩ := w'.tl.hd
    subst e0 e0'
    cases e1; cases e1'
    exact h σ S H fs v u' Q w'.tl.tl hd hu (P.trans (Step.refl.sub fun a ha => by simpa using ha))
  | [], _, l1, _, _, _ => simp at l1
  | [_], _, l1, _, _, _ => simp at l1
  | _ :: _ :: _ :: _, _, l1, _, _, _ => simp at l1
  | [_, _], [], _, l2, _, _ => simp at l2
  | [_, _], [_], _, l2, _, _ => simp at l2
  | [_, _], _ :: _ :: _ :: _, _, l2, _, _ => simp at l2
def tyD : PyData → String
  | .none => "NoneType"
  | .bool _ => "bool"
  | .int _ => "int"
  | .str _ => "str"
  | .list _ => "list"
  | .tuple _ => "tuple"
  | .dict _ => "dict"
theorem dd_ty {S H : Hp} {v : V} {d : PyData} (l : Le S H) (h : Dd K S v d) : TyX K H v (.type (tyD d)) := by
  cases h with
  | non => exact .base .non
  | bl b => exact .base (.bl b)
  | int i => exact .base (.int i)
  | str x => exact .base (.str x)
  | lst h _ =>
    rcases h with h | ⟨o, h⟩
    · exact .base (.lst (l _ _ h))
    · exact .base (.frz (l _ _ h))
  | tup h _ =>
    rcases h with (h | ⟨o, h⟩) | ⟨o, its, n, h1, h2, _⟩
    · exact .base (.tup (l _ _ h))
    · exact .fTuple (l _ _ h)
    · exact .kTuple h1 h2
def isT (T : String) (d : PyData) : Bool := match d with
  | .none => T == "NoneType"
  | .bool _ => T == "bool" || T == "int"
  | .int _ => T == "int"
  | .str _ => T == "str"
  | .list _ => T == "list"
  | .tuple _ => T == "tuple"
  | .dict _ => T == "dict"
theorem kit_isT (d : PyData) {T : String} (hT : T = "int" ∨ T = "bool" ∨ T = "str" ∨ T = "list" ∨ T = "tuple" ∨ T = "dict") : kitB (tyD d) T = some (isT T d) := by
  rcases hT with rfl | rfl | rfl | rfl | rfl | rfl <;> cases d <;> (simp only [tyD, isT]; decide +kernel)
theorem cb_isi {T : String} {d : PyData} (hT : T = "int" ∨ T = "bool" ∨ T = "str" ∨ T = "list" ∨ T = "tuple" ∨ T = "dict" := by decide) (hk : k (.dat (.bool (isT T d))) Γ) : CbK K (rIsiU K) [.dat d, .raw (.ty T)] Γ k :=
  cb1r fun σ S H fs v Q w hd P => .inl ⟨v, .ty T, _, _, _, rfl, .ty T, dd_ty w.good.sub hd, kit_ty (kit_isT d hT), P.dat w hk (.bl _)⟩
def lenD : PyData → Option Nat
  | .str y => if y.length ≤ sizeLine then some y.length else none
  | .list ds => some ds.length
  | .tuple ds => some ds.length
  | _ => none
theorem cb_len {d : PyData} {n : Nat} (e : lenD d = some n) (hk : k (.dat (.int n)) Γ) : CbK K (rLen K) [.dat d] Γ k :=
  cb1 fun σ S H fs v Q w hd P => by
    refine ⟨v, n, rfl, ?_, P.dat w hk (.int _)⟩
    cases hd with
    | str x =>
      have e' : (if x.length ≤ sizeLine then some x.length else none) = some n := e
      by_cases hx : x.length ≤ sizeLine
      · rw [if_pos hx] at e'
        exact ⟨hx, (Option.some.inj e').symm⟩
      · rw [if_neg hx] at e'
        cases e'
    | lst h hs => exact .inl ⟨_, w.good.sub.sqL (.inl h), by rw [dps_len hs]; exact (Option.some.inj e).symm⟩
    | tup h hs => exact .inr ⟨_, w.good.sub.sqT h, by rw [dps_len hs]; exact (Option.some.inj e).symm⟩
    | _ => cases e
theorem cb_list {d : PyData} {ds : List PyData} (e : seqD d = some ds) (hk : k (.dat (.list ds)) Γ) : CbK K (rListU K) [.dat d] Γ k :=
  cb1 fun σ S H fs v Q w hd P => by
    obtain ⟨b, a, xs, rfl, hq, ha, _, h1, h2⟩ := sq_of_dat w.good.sub hd e
    refine ⟨a, xs, rfl, ?_, fun p hp => P.new w hk hp (dp_lst_new (w.good.sub.none hp) ha)⟩
    cases b with
    | true => exact .inl hq
    | false => exact .inr hq
theorem cb_listO {d : PyData} {ds : List PyData} (e : seqD d = some ds) (hk : ∀ a, k (.res (ownL a ds)) Γ) : CbK K (rListU K) [.dat d] Γ k :=
  cb1 fun σ S H fs v Q w hd P => by
    obtain ⟨b, a, xs, rfl, hq, ha, _, h1, h2⟩ := sq_of_dat w.good.sub hd e
    refine ⟨a, xs, rfl, ?_, fun p hp => ?_⟩
    · cases b with
      | true => exact .inl hq
      | false => exact .inr hq
    · obtain ⟨w3, st3⟩ := allocOwn w hp ha
      exact P _ _ _ S _ [p] fs (hk p) w3 st3
theorem cb_tuple {d : PyData} {ds : List PyData} (e : seqD d = some ds) (hk : k (.dat (.tuple ds)) Γ) : CbK K (rTupU K) [.dat d] Γ k :=
  cb1 fun σ S H fs v Q w hd P => by
    obtain ⟨b, a, xs, rfl, hq, ha, _, h1, h2⟩ := sq_of_dat w.good.sub hd e
    refine ⟨a, xs, rfl, ?_⟩
    cases b with
    | true => exact .inl ⟨hq, fun p hp => P.new w hk hp (dp_tup_new (w.good.sub.none hp) ha)⟩
    | false =>
      obtain ⟨_, rfl⟩ := h2 rfl
      exact .inr ⟨hq, P.dat w hk hd⟩
theorem cb_max2 {i j : Int} (hk : k (.dat (.int (if j > i then j else i))) Γ) : CbK K (rMaxU K) [.dat (.int i), .dat (.int j)] Γ k :=
  cb2 fun σ S H fs v u Q w hd hu P => by cases hd; cases hu; exact .inl ⟨i, j, rfl, P.dat w hk (.int _)⟩
theorem cb_min2 {i j : Int} (hk : k (.dat (.int (if j < i then j else i))) Γ) : CbK K (rMinU K) [.dat (.int i), .dat (.int j)] Γ k :=
  cb2 fun σ S H fs v u Q w hd hu P => by cases hd; cases hu; exact .inl ⟨i, j, rfl, P.dat w hk (.int _)⟩
theorem cb_abs {i : Int} (hk : k (.dat (.int (if i < 0 then -i else i))) Γ) : CbK K (rAbs K) [.dat (.int i)] Γ k :=
  cb1 fun σ S H fs v Q w hd P => by cases hd; exact ⟨i, rfl, P.dat w hk (.int _)⟩
theorem cb_int {i : Int} (hk : k (.dat (.int i)) Γ) : CbK K (rInt1 K) [.dat (.int i)] Γ k :=
  cb1 fun σ S H fs v Q w hd P => by cases hd; exact .inl ⟨i, rfl, P.dat w hk (.int _)⟩
theorem op_add_i {i j : Int} (hk : k (.dat (.int (i + j))) Γ) : OpK K (uAdd K) (.dat (.int i)) (.dat (.int j)) Γ k := op_or_l (op_I0 (fun _ => .int _) hk)
theorem op_add_s {i j : Str} (hz : i.length + j.length ≤ sizeLine) (hk : k (.dat (.str (i ++ j))) Γ) : OpK K (uAdd K) (.dat (.str i)) (.dat (.str j)) Γ k :=
  op_or_r (op_or_l (op_pure (fun S H x y Q _ h1 h2 q => by cases h1; cases h2; exact ⟨i, j, rfl, rfl, hz, q _ (.str _)⟩) hk))
theorem dps_app {S : Hp} : ∀ {as bs : List V} {cs ds : List PyData}, DdAll K S as cs → DdAll K S bs ds → DdAll K S (as ++ bs) (cs ++ ds)
  | _, _, _, _, .nil, h => h
  | _, _, _, _, .cons a b, h => .cons a (dps_app b h)
theorem op_new {r : R2} {d1 d2 d : PyData} (hr : ∀ σ S H fs x y Q, Wd K σ Γ S H fs → Dd K S x d1 → Dd K S y d2 → Post K σ S H fs.flatten k Q → r x y H Q) : OpK K r (.dat d1) (.dat d2) Γ k := by
  intro σ S H f1 f2 fs x y Q w P
  obtain ⟨_, x', e1, h1⟩ := w.hd
  obtain ⟨_, y', e2, h2⟩ := w.tl.hd
  cases e1; cases e2
  exact hr σ S H fs x y Q w.tl.tl h1 h2 (Post.drop2 P)
theorem op_add_l {xs ys : List PyData} (hz : xs.length + ys.length ≤ sizeLine) (hk : k (.dat (.list (xs ++ ys))) Γ) : OpK K (uAdd K) (.dat (.list xs)) (.dat (.list ys)) Γ k :=
  op_or_r (op_or_r (op_or_l (op_new (d := .none) fun σ S H fs x y Q w h1 h2 P => by
    cases h1 with
    | lst a1 a2 =>
      cases h2 with
      | lst b1 b2 =>
        exact ⟨_, _, _, _, rfl, rfl, w.good.sub.rd a1, w.good.sub.rd b1, by rw [dps_len a2, dps_len b2]; exact hz, fun p hp => P.new w hk hp (dp_lst_new (w.good.sub.none hp) (dps_app a2 b2))⟩)))
theorem op_add_t {xs ys : List PyData} (hz : xs.length + ys.length ≤ sizeLine) (hk : k (.dat (.tuple (xs ++ ys))) Γ) : OpK K (uAdd K) (.dat (.tuple xs)) (.dat (.tuple ys)) Γ k :=
  op_or_r (op_or_r (op_or_r (op_new (d := .none) fun σ S H fs x y Q w h1 h2 P => by
    cases h1 with
    | tup a1 a2 =>
      cases h2 with
      | tup b1 b2 =>
        refine ⟨_, _, _, _, rfl, rfl, w.good.sub.sqT a1, w.good.sub.sqT b1, by rw [dps_len a2, dps_len b2]; exact hz, fun e => ?_, fun _ e => ?_, fun _ _ p hp => P.new w hk hp (dp_tup_new (w.good.sub.none hp) (dps_app a2 b2))⟩
        · subst e
          cases a2
          exact P.dat w hk (.tup b1 b2)
        · subst e
          cases b2
          rw [List.append_nil] at hk
          exact P.dat w hk (.tup a1 a2))))
theorem op_sub_i {i j : Int} (hk : k (.dat (.int (i - j))) Γ) : OpK K (uSub K) (.dat (.int i)) (.dat (.int j)) Γ k := op_I0 (fun _ => .int _) hk
theorem op_mul_i {i j : Int} (hc : CMul i j) (hk : k (.dat (.int (i * j))) Γ) : OpK K (uMul K) (.dat (.int i)) (.dat (.int j)) Γ k := op_or_l (op_I hc (fun _ => .int _) hk)
theorem op_mul_w {i j : Int} (hc : CMulW i j) (hk : k (.dat (.int (i * j))) Γ) : OpK K (uMul K) (.dat (.int i)) (.dat (.int j)) Γ k := op_or_r (op_or_l (op_I hc (fun _ => .int _) hk))
theorem op_fdiv_i {i j : Int} (hc : 0 < j ∧ j < 1073741824) (hk : k (.dat (.int (i / j))) Γ) : OpK K (uFDiv K) (.dat (.int i)) (.dat (.int j)) Γ k := op_or_l (op_I hc (fun _ => .int _) hk)
theorem op_fdiv_w {i j : Int} (hc : CDivW i j) (hk : k (.dat (.int (i / j))) Γ) : OpK K (uFDiv K) (.dat (.int i)) (.dat (.int j)) Γ k := op_or_r (op_I hc (fun _ => .int _) hk)
theorem op_mod_i {i j : Int} (hc : 0 < j) (hk : k (.dat (.int (i % j))) Γ) : OpK K (uMod K) (.dat (.int i)) (.dat (.int j)) Γ k := op_I hc (fun _ => .int _) hk
theorem op_pow_i {i j : Int} (hc : CPow i j) (hk : k (.dat (.int (i ^ j.toNat))) Γ) : OpK K (uPow K) (.dat (.int i)) (.dat (.int j)) Γ k := op_I hc (fun _ => .int _) hk
theorem op_lt_i {i j : Int} (hk : k (.dat (.bool (decide (i < j)))) Γ) : OpK K (uLt K) (.dat (.int i)) (.dat (.int j)) Γ k := op_or_l (op_I0 (fun _ => .bl _) hk)
theorem op_le_i {i j : Int} (hk : k (.dat (.bool (decide (i ≤ j)))) Γ) : OpK K (uLe K) (.dat (.int i)) (.dat (.int j)) Γ k := op_I0 (fun _ => .bl _) hk
theorem op_gt_i {i j : Int} (hk : k (.dat (.bool (decide (j < i)))) Γ) : OpK K (uGt K) (.dat (.int i)) (.dat (.int j)) Γ k := op_I0 (fun _ => .bl _) hk
theorem op_ge_i {i j : Int} (hk : k (.dat (.bool (decide (j ≤ i)))) Γ) : OpK K (uGe K) (.dat (.int i)) (.dat (.int j)) Γ k := op_I0 (fun _ => .bl _) hk
theorem op_eq_d {d e : PyData} (h1 : SeqAt.shaped d = true) (h2 : SeqAt.shaped e = true) (hk : k (.dat (.bool (PyData.eqv d e))) Γ) : OpK K (uEq K) (.dat d) (.dat e) Γ k := op_eqD' h1 h2 hk
theorem op_ne_d {d e : PyData} (h1 : SeqAt.shaped d = true) (h2 : SeqAt.shaped e = true) (hk : k (.dat (.bool (!PyData.eqv d e))) Γ) : OpK K (uNe K) (.dat d) (.dat e) Γ k := op_neD' h1 h2 hk
def isNoneD : PyData → Bool
  | .none => true
  | _ => false
theorem op_isnone {d : PyData} (hk : k (.dat (.bool (isNoneD d))) Γ) : OpK K (uIs K) (.dat d) (.dat .none) Γ k :=
  op_or_l (op_pure (fun S H x y Q _ h1 h2 q => by
    cases h2
    refine ⟨rfl, q _ ?_⟩
    cases h1 <;> exact .bl _) hk)
theorem op_notnone {d : PyData} (hk : k (.dat (.bool (!isNoneD d))) Γ) : OpK K (uIsNot K) (.dat d) (.dat .none) Γ k :=
  op_or_l (op_pure (fun S H x y Q _ h1 h2 q => by
    cases h2
    refine ⟨rfl, q _ ?_⟩
    cases h1 <;> exact .bl _) hk)
theorem op_isb {a b : Bool} (hk : k (.dat (.bool (decide (a = b)))) Γ) : OpK K (uIs K) (.dat (.bool a)) (.dat (.bool b)) Γ k :=
  op_or_r (op_or_l (op_pure (fun S H x y Q _ h1 h2 q => by cases h1; cases h2; exact ⟨a, b, rfl, rfl, q _ (.bl _)⟩) hk))
theorem op_notb {a b : Bool} (hk : k (.dat (.bool (!decide (a = b)))) Γ) : OpK K (uIsNot K) (.dat (.bool a)) (.dat (.bool b)) Γ k :=
  op_or_r (op_or_l (op_pure (fun S H x y Q _ h1 h2 q => by cases h1; cases h2; exact ⟨a, b, rfl, rfl, q _ (.bl _)⟩) hk))
theorem atI_dps {S : Hp} {vs : List V} {ds : List PyData} {i : Int} {d : PyData} (h : DdAll K S vs ds) (e : atI ds i = some d) : ∃ v, atI vs i = some v ∧ Dd K S v d := by
  unfold atI at e ⊢
  rw [dps_len h]
  cases q : ixN ds.length i with
  | none => rw [q] at e; cases e
  | some j =>
    rw [q] at e
    exact dps_get' h e
theorem op_ix_d {d d' : PyData} {ds : List PyData} {i : Int} (e : seqD d = some ds) (h : atI ds i = some d') (hk : k (.dat d') Γ) : OpK K (uIx K) (.dat d) (.dat (.int i)) Γ k :=
  op_new (d := .none) fun σ S H fs x y Q w h1 h2 P => by
    cases h2
    obtain ⟨b, a, xs, rfl, hq, ha, _, _, _⟩ := sq_of_dat w.good.sub h1 e
    obtain ⟨v, hv, hd⟩ := atI_dps ha h
    cases b with
    | true => exact .inl ⟨a, xs, i, v, rfl, rfl, hq, hv, P.dat w hk hd⟩
    | false => exact .inr (.inl ⟨a, xs, i, v, rfl, rfl, hq, hv, P.dat w hk hd⟩)
theorem op_ix_s {z : Str} {i : Int} {c : Nat} (hz : z.length ≤ sizeLine) (h : atI z.cps.toList i = some c) (hk : k (.dat (.str ⟨#[c]⟩)) Γ) : OpK K (uIx K) (.dat (.str z)) (.dat (.int i)) Γ k :=
  op_pure (fun S H x y Q _ h1 h2 q => by cases h1; cases h2; exact .inr (.inr ⟨z, i, c, rfl, rfl, hz, h, q _ (.str _)⟩)) hk
def EvO (K : Frag) (to : TO) (Γ : List Sl) (ko : Option Int → List Sl → Prop) : Prop := ∀ σ S H fs (Q : Option Int → Hp → Prop), Wd K σ Γ S H fs → (∀ o Γ' S' H' fs', ko o Γ' → Wd K σ Γ' S' H' fs' → Step S H fs.flatten S' H' fs'.flatten → Q o H') → to σ H Q
theorem o_no {ko : Option Int → List Sl → Prop} (h : ko none Γ) : EvO K tNoPart Γ ko := fun σ S H fs Q w P => P none Γ S H fs h w Step.refl
theorem o_some {te : TE} {ko : Option Int → List Sl → Prop} (h : EvP K te Γ fun r Γ1 => ∃ i, r = .dat (.int i) ∧ ko (some i) Γ1) : EvO K (tPart te) Γ ko := fun σ S H fs Q w P =>
  h σ S H fs _ w fun v r Γ1 S1 H1 f1 fs1 hb w1 st1 => by
    obtain ⟨i, rfl, hk⟩ := hb
    obtain ⟨e0, v', e1, hd⟩ := w1.hd
    cases e1; cases hd
    exact ⟨i, rfl, P _ Γ1 S1 H1 fs1 hk w1.tl (st1.sub fun a ha => List.mem_append_right _ ha)⟩
def cutG {α : Type} (xs : List α) (lo hi : Option Int) : List α := (xs.drop (HT.sIx xs.length 0 lo)).take (HT.sIx xs.length xs.length hi - HT.sIx xs.length 0 lo)
theorem dps_drop {S : Hp} : ∀ {vs : List V} {ds : List PyData} (n : Nat), DdAll K S vs ds → DdAll K S (vs.drop n) (ds.drop n)
  | _, _, 0, h => h
  | _, _, _ + 1, .nil => .nil
  | _, _, n + 1, .cons _ h => dps_drop n h
theorem dps_take {S : Hp} : ∀ {vs : List V} {ds : List PyData} (n : Nat), DdAll K S vs ds → DdAll K S (vs.take n) (ds.take n)
  | _, _, 0, _ => .nil
  | _, _, _ + 1, .nil => .nil
  | _, _, n + 1, .cons a h => .cons a (dps_take n h)
theorem dps_cut {S : Hp} {vs : List V} {ds : List PyData} {lo hi : Option Int} (h : DdAll K S vs ds) : DdAll K S (cutV vs lo hi) (cutG ds lo hi) := by
  unfold cutV cutG
  rw [dps_len h]
  exact dps_take _ (dps_drop _ h)
theorem cut_whole {ds : List PyData} {lo hi : Option Int} (h : HT.sIx ds.length 0 lo = 0 ∧ HT.sIx ds.length ds.length hi = ds.length) : cutG ds lo hi = ds := by
  unfold cutG
  rw [h.1, h.2]
  simp
def slD (d : PyData) (lo hi : Option Int) : Option PyData := match d with
  | .list ds => some (.list (cutG ds lo hi))
  | .tuple ds => some (.tuple (cutG ds lo hi))
  | .str z => if z.length ≤ sizeLine then some (.str (cutS z lo hi)) else none
  | _ => none
theorem e_sl {te : TE} {tl th : TO} (h : EvP K te Γ fun r Γ1 => EvO K tl Γ1 fun lo Γ2 => EvO K th Γ2 fun hi Γ3 => ∃ d d', r = .dat d ∧ slD d lo hi = some d' ∧ k (.dat d') Γ3) : EvP K (tSl (rSlU K) te tl th) Γ k := by
  intro σ S H fs Q w P
  refine h σ S H fs _ w fun v r Γ1 S1 H1 f1 fs1 hl w1 st1 => ?_
  refine hl σ S1 H1 fs1 _ w1.tl fun lo Γ2 S2 H2 fs2 hh w2 st2 => ?_
  refine hh σ S2 H2 fs2 _ w2 fun hi Γ3 S3 H3 fs3 hk w3 st3 => ?_
  obtain ⟨d, d', rfl, e, hk⟩ := hk
  obtain ⟨e0, v', e1, hd⟩ := w1.hd
  subst e0
  cases e1
  have hd3 : Dd K S3 v d := (st2.le.trans st3.le).dp hd
  have P3 : Post K σ S3 H3 fs3.flatten k Q := P.trans (((by simpa using st1 : Step S H fs.flatten S1 H1 fs1.flatten).trans st2).trans st3)
  cases hd3 with
  | lst h1 h2 =>
    cases e
    exact .inl ⟨_, _, rfl, w3.good.sub.sqL (.inl h1), fun p hp => P3.new w3 hk hp (dp_lst_new (w3.good.sub.none hp) (dps_cut h2))⟩
  | tup h1 h2 =>
    cases e
    refine .inr (.inl ⟨_, _, rfl, w3.good.sub.sqT h1, fun hw => ?_, fun _ p hp => P3.new w3 hk hp (dp_tup_new (w3.good.sub.none hp) (dps_cut h2))⟩)
    rw [dps_len h2] at hw
    rw [cut_whole hw] at hk
    exact P3.dat w3 hk (.tup h1 h2)
  | str z =>
    have e' : (if z.length ≤ sizeLine then some (PyData.str (cutS z lo hi)) else none) = some d' := e
    by_cases hz : z.length ≤ sizeLine
    · rw [if_pos hz] at e'
      cases e'
      exact .inr (.inr ⟨z, rfl, hz, P3.dat w3 hk (.str _)⟩)
    · rw [if_neg hz] at e'
      cases e'
  | _ => cases e
theorem e_neg {te : TE} (h : EvP K te Γ fun r Γ1 => ∃ i, r = .dat (.int i) ∧ k (.dat (.int (-i))) Γ1) : EvP K (tUn (rU fun i => .int (-i)) te) Γ k := by
  intro σ S H fs Q w P
  refine h σ S H fs _ w fun v r Γ1 S1 H1 f1 fs1 hl w1 st1 => ?_
  obtain ⟨i, rfl, hk⟩ := hl
  obtain ⟨e0, v', e1, hd⟩ := w1.hd
  subst e0
  cases e1; cases hd
  exact ⟨i, rfl, (P.trans (by simpa using st1 : Step S H fs.flatten S1 H1 fs1.flatten)).dat w1.tl hk (.int _)⟩
end Dl
namespace Dl
open PySem PySem.Spec PyProof.Rows L2
variable {K : Frag} {Γ : List Sl} {k : Sl → List Sl → Prop} {O : Out}
def wipeA {α : Type} (z : α) (l : List α) : List Nat → List α
  | [] => l
  | v :: vs => (wipeA z l vs).set v z
abbrev wipeG (Γ : List Sl) (vs : List Nat) : List Sl := wipeA .no Γ vs
theorem wipe_eq (σ : L2.St) : ∀ vs : List Nat, wipe σ vs = wipeA none σ vs
  | [] => rfl
  | v :: vs => by unfold wipe wipeA; rw [wipe_eq σ vs]
theorem wipeA_len {α : Type} {z : α} {l : List α} : ∀ vs : List Nat, (wipeA z l vs).length = l.length
  | [] => rfl
  | v :: vs => by unfold wipeA; rw [List.length_set, wipeA_len vs]
theorem wipeA_get {α : Type} {z : α} {l : List α} {j : Nat} : ∀ vs : List Nat, (wipeA z l vs)[j]? = if j ∈ vs then (if j < l.length then some z else none) else l[j]?
  | [] => by simp [wipeA]
  | v :: vs => by
    unfold wipeA
    by_cases hj : v = j
    · subst hj
      rw [if_pos List.mem_cons_self]
      by_cases hl : v < l.length
      · rw [if_pos hl, List.getElem?_set_self (by rw [wipeA_len]; exact hl)]
      · rw [if_neg hl]
        rw [List.getElem?_eq_none_iff]
        rw [List.length_set, wipeA_len]
        omega
    · rw [List.getElem?_set_ne hj, wipeA_get vs]
      by_cases hm : j ∈ vs
      · rw [if_pos hm, if_pos (List.mem_cons_of_mem _ hm)]
      · rw [if_neg hm, if_neg (by simp [hm, Ne.symm hj])]
theorem wipeA_idem {α : Type} {z : α} {l : List α} {vs : List Nat} : wipeA z (wipeA z l vs) vs = wipeA z l vs := by
  apply List.ext_getElem?
  intro j
  rw [wipeA_get, wipeA_len, wipeA_get]
  by_cases h : j ∈ vs <;> simp [h]
theorem wipeA_set {α : Type} {z x : α} {l : List α} {vs : List Nat} {i : Nat} (hi : i ∈ vs) : wipeA z (l.set i x) vs = wipeA z l vs := by
  apply List.ext_getElem?
  intro j
  rw [wipeA_get, wipeA_get, List.length_set]
  by_cases h : j ∈ vs
  · simp [h]
  · rw [if_neg h, if_neg h, List.getElem?_set_ne]
    rintro rfl
    exact h hi
theorem satL_iff {S H : Hp} : ∀ {xs : List (Option V)} {ss : List Sl} {fs : List (List Addr)}, SatL K S H xs ss fs ↔ (xs.length = ss.length ∧ fs.length = ss.length ∧ ∀ (i : Nat) (s : Sl), ss[i]? = some s → ∃ x fp, xs[i]? = some x ∧ fs[i]? = some fp ∧ SlOk K S H x fp s) := by
  intro xs ss fs
  constructor
  · intro h
    exact ⟨h.lens.1, h.lens.2, fun i s e => h.get e⟩
  · rintro ⟨l1, l2, h⟩
    induction ss generalizing xs fs with
    | nil =>
      cases xs with
      | nil =>
        cases fs with
        | nil => exact .nil
        | cons _ _ => simp at l2
      | cons _ _ => simp at l1
    | cons s ss ih =>
      cases xs with
      | nil => simp at l1
      | cons x xs =>
        cases fs with
        | nil => simp at l2
        | cons f fs =>
          obtain ⟨x', fp, e1, e2, e3⟩ := h 0 s rfl
          simp at e1 e2
          subst e1 e2
          exact .cons e3 (ih (by simpa using l1) (by simpa using l2) fun i s e => by
            obtain ⟨x', fp, e1, e2, e3⟩ := h (i + 1) s (by simpa using e)
            exact ⟨x', fp, by simpa using e1, by simpa using e2, e3⟩)
theorem sat_wipe {S H : Hp} {σ : List (Option V)} {fs : List (List Addr)} {vs : List Nat} (h : SatL K S H σ Γ fs) : SatL K S H (wipe σ vs) (wipeG Γ vs) (wipeA [] fs vs) := by
  obtain ⟨l1, l2, hg⟩ := satL_iff.mp h
  refine satL_iff.mpr ⟨by rw [wipe_eq, wipeA_len, wipeA_len]; exact l1, by rw [wipeA_len, wipeA_len]; exact l2, fun i s e => ?_⟩
  rw [wipe_eq, wipeA_get, wipeA_get]
  rw [wipeA_get] at e
  by_cases hi : i ∈ vs
  · rw [if_pos hi] at e ⊢
    by_cases hl : i < Γ.length
    · rw [if_pos hl] at e
      cases e
      rw [if_pos (by omega), if_pos hi, if_pos (by omega)]
      exact ⟨none, [], rfl, rfl, rfl⟩
    · rw [if_neg hl] at e
      cases e
  · rw [if_neg hi] at e ⊢
    rw [if_neg hi]
    exact hg i s e
theorem sat_unwipe {S H : Hp} {σ : List (Option V)} {fs : List (List Addr)} {vs : List Nat} (h : SatL K S H (wipe σ vs) (wipeG Γ vs) fs) : SatL K S H σ (wipeG Γ vs) fs := by
  obtain ⟨l1, l2, hg⟩ := satL_iff.mp h
  refine satL_iff.mpr ⟨by rw [wipe_eq, wipeA_len] at l1; exact l1, l2, fun i s e => ?_⟩
  obtain ⟨x, fp, e1, e2, e3⟩ := hg i s e
  rw [wipe_eq, wipeA_get] at e1
  rw [wipeA_get] at e
  by_cases hi : i ∈ vs
  · rw [if_pos hi] at e1 e
    by_cases hl : i < σ.length
    · by_cases hl2 : i < Γ.length
      · rw [if_pos hl2] at e
        cases e
        exact ⟨σ[i], fp, List.getElem?_eq_getElem hl, e2, e3⟩
      · rw [if_neg hl2] at e
        cases e
    · rw [if_neg hl] at e1
      cases e1
  · rw [if_neg hi] at e1
    exact ⟨x, fp, e1, e2, e3⟩
theorem flat_wipe {fs : List (List Addr)} : ∀ vs : List Nat, (wipeA [] fs vs).flatten.Sublist fs.flatten
  | [] => List.Sublist.refl _
  | v :: vs => (flat_set (wipeA [] fs vs) v []).trans (flat_wipe vs)
def Sets (g : TG) (vs : List Nat) : Prop := ∀ v σ H (q : L2.St → Hp → Prop), g v σ H q → g v σ H fun σ' H' => wipe σ' vs = wipe σ vs ∧ q σ' H'
theorem sets_name {i : Nat} {vs : List Nat} (hi : i ∈ vs) : Sets (gName i) vs := fun v σ H q h => ⟨by rw [wipe_eq, wipe_eq, wipeA_set hi], h⟩
def SetsL (g : TGs) (vs : List Nat) : Prop := ∀ us σ H (q : L2.St → Hp → Prop), g us σ H q → g us σ H fun σ' H' => wipe σ' vs = wipe σ vs ∧ q σ' H'
def GMono (g : TG) : Prop := ∀ v σ H (q q' : L2.St → Hp → Prop), (∀ σ H, q σ H → q' σ H) → g v σ H q → g v σ H q'
theorem gm_name {i : Nat} : GMono (gName i) := fun v σ H q q' h p => h _ _ p
theorem setsL_nil {vs : List Nat} : SetsL gNil vs := fun us σ H q ⟨e, h⟩ => ⟨e, rfl, h⟩
theorem setsL_cons {g : TG} {gs : TGs} {vs : List Nat} (m : GMono g) (h1 : Sets g vs) (h2 : SetsL gs vs) : SetsL (gCons g gs) vs := fun us σ H q ⟨v, r, e, h⟩ => by
  refine ⟨v, r, e, m v σ H _ _ (fun σ' H' ⟨e1, hh⟩ => ?_) (h1 v σ H _ h)⟩
  have := h2 r σ' H' q hh
  rw [e1] at this
  exact this
theorem gm_nil : ∀ (us : List V) σ H (q q' : L2.St → Hp → Prop), (∀ σ H, q σ H → q' σ H) → gNil us σ H q → gNil us σ H q' := fun us σ H q q' h p => ⟨p.1, h _ _ p.2⟩
theorem gm_cons {g : TG} {gs : TGs} (m : GMono g) (ms : ∀ (us : List V) σ H (q q' : L2.St → Hp → Prop), (∀ σ H, q σ H → q' σ H) → gs us σ H q → gs us σ H q') : ∀ (us : List V) σ H (q q' : L2.St → Hp → Prop), (∀ σ H, q σ H → q' σ H) → gCons g gs us σ H q → gCons g gs us σ H q' := fun us σ H q q' h ⟨v, r, e, p⟩ => ⟨v, r, e, m v σ H _ _ (fun σ1 H1 p1 => ms r σ1 H1 _ _ h p1) p⟩
theorem gm_tup {K : Frag} {n : Nat} {gs : TGs} (ms : ∀ (us : List V) σ H (q q' : L2.St → Hp → Prop), (∀ σ H, q σ H → q' σ H) → gs us σ H q → gs us σ H q') : GMono (gTup K n gs) := fun v σ H q q' h ⟨a, xs, e, hq, hl, p⟩ => ⟨a, xs, e, hq, hl, ms xs σ H q q' h p⟩
theorem sets_tup {K : Frag} {n : Nat} {gs : TGs} {vs : List Nat} (h : SetsL gs vs) : Sets (gTup K n gs) vs := fun v σ H q ⟨a, xs, e, hq, hl, hh⟩ => ⟨a, xs, e, hq, hl, h xs σ H q hh⟩
theorem Wd.swap2 {x y : Option V} {s t : Sl} {f g : List Addr} {σ : List (Option V)} {S H : Hp} {fs : List (List Addr)} (w : Wd K (x :: y :: σ) (s :: t :: Γ) S H (f :: g :: fs)) : Wd K (y :: x :: σ) (t :: s :: Γ) S H (g :: f :: fs) := by
  refine ⟨w.good.perm ?_, .cons w.tl.hd (.cons w.hd w.tl.tl.sat)⟩
  simp only [List.flatten_cons]
  rw [← List.append_assoc, ← List.append_assoc]
  exact List.perm_append_comm.append_right _
theorem Wd.wipe {σ : List (Option V)} {S H : Hp} {fs : List (List Addr)} (vs : List Nat) (w : Wd K σ Γ S H fs) : Wd K (L2.wipe σ vs) (wipeG Γ vs) S H (wipeA [] fs vs) := ⟨w.good.sublist (flat_wipe vs), sat_wipe w.sat⟩
theorem mem2 {f : List Addr} {fs gs : List (List Addr)} {a : Addr} (h : ∀ b, b ∈ fs.flatten → b ∈ gs.flatten) : a ∈ (f :: fs).flatten → a ∈ (f :: gs).flatten := fun ha => by
  simp only [List.flatten_cons, List.mem_append] at ha ⊢
  exact ha.imp id (h a)
theorem e_lc {wi : TI} {g : TG} {tt : TT} {te : TE} {vs : List Nat} (hg : Sets g vs) (gm : GMono g) (h : EvI K wi Γ fun f n G Γ1 => ∃ W : Nat → List PyData → List Sl → Prop, n ≤ sizeLine ∧ W 0 [] (wipeG Γ1 vs) ∧ (∀ i acc Γ, i ≤ n → W i acc (wipeG Γ vs) → G (wipeG Γ vs)) ∧
    (∀ i acc Γ, i < n → acc.length ≤ i → W i acc (wipeG Γ vs) → EvG K g (f i) (wipeG Γ vs) fun Γ2 => EvB K tt Γ2 fun b Γ3 => (b = true → EvP K te Γ3 fun r Γ4 => ∃ y, r = .dat y ∧ W (i + 1) (acc ++ [y]) (wipeG Γ4 vs)) ∧ (b = false → W (i + 1) acc (wipeG Γ3 vs))) ∧
    (∀ acc Γ, acc.length ≤ n → W n acc (wipeG Γ vs) → k (.dat (.list acc)) (wipeG Γ vs))) : EvP K (tLc wi g tt te vs) Γ k := by
  intro σ S H fs Q w P
  refine h σ S H fs _ w fun J f n G Γ1 S1 H1 fs1 hG hk w1 st1 tn => ?_
  obtain ⟨W, hn, h0, hWG, hs, hd⟩ := hk
  intro D hD
  refine ⟨fun i m H2 => m = n - i ∧ i ≤ n ∧ ∃ acc Γ2 S2 fs2, W i acc (wipeG Γ2 vs) ∧ acc.length ≤ i ∧ Wd K (some (.ref D) :: σ) (.res (ownL D acc) :: wipeG Γ2 vs) S2 H2 ([D] :: fs2) ∧ Step S1 H1 fs1.flatten S2 H2 ([D] :: fs2).flatten, ⟨n, by simp, Nat.zero_le _, ?_⟩, ?_⟩
  · obtain ⟨w2, st2⟩ := allocOwn (vs := []) (xs := []) w1 hD .nil
    have w3 : Wd K σ (wipeG Γ1 vs) S1 (upd H1 D (.lst [])) (wipeA [] fs1 vs) := ⟨w2.tl.good.sublist (flat_wipe vs), sat_unwipe (sat_wipe w2.tl.sat)⟩
    refine ⟨[], Γ1, S1, wipeA [] fs1 vs, h0, Nat.le_refl _, ⟨w2.good.sublist ?_, .cons w2.hd w3.sat⟩, st2.sub fun a => mem2 fun b hb => (flat_wipe vs).subset hb⟩
    simp only [List.flatten_cons]
    exact (List.Sublist.refl _).append (flat_wipe vs)
  · rintro i m H2 ⟨rfl, hi, acc, Γ2, S2, fs2, hW, hal, w2, st2⟩
    obtain ⟨t1, t2⟩ := tn i _ _ S2 H2 _ hi (hG _ _ (hWG i acc Γ2 hi hW)) w2 st2
    by_cases hlt : i < n
    · obtain ⟨hgo, hy⟩ := t1 hlt
      refine .inr ⟨hgo, fun H' => ∃ acc Γ2 S2 fs2, W (i + 1) acc (wipeG Γ2 vs) ∧ acc.length ≤ i + 1 ∧ Wd K (some (.ref D) :: σ) (.res (ownL D acc) :: wipeG Γ2 vs) S2 H' ([D] :: fs2) ∧ Step S1 H1 fs1.flatten S2 H' ([D] :: fs2).flatten, fun H' q => ⟨n - (i + 1), by omega, rfl, hlt, q⟩, fun x H' y => ?_⟩
      obtain ⟨S', w3, st3⟩ := hy x H' y
      have st23 := st2.trans st3
      have w4 := w3.swap2
      have w5 : Wd K (some x :: wipe σ vs) (f i :: wipeG Γ2 vs) S' H' ([] :: wipeA [] fs2 vs) := by
        have q := w3.tl.tl.wipe vs
        rw [show wipeG (wipeG Γ2 vs) vs = wipeG Γ2 vs from wipeA_idem] at q
        exact q.put w3.hd
      have fsub : ∀ a, a ∈ ([] :: wipeA [] fs2 vs).flatten → a ∈ fs2.flatten := fun a ha => (flat_wipe vs).subset (by simpa using ha)
      have wD : Wd K (some (.ref D) :: (some x :: wipe σ vs)) (.res (ownL D acc) :: (f i :: wipeG Γ2 vs)) S' H' ([D] :: ([] :: wipeA [] fs2 vs)) := by
        refine ⟨w3.tl.good.sublist ?_, .cons w3.tl.hd w5.sat⟩
        simp only [List.flatten_cons, List.nil_append]
        exact (List.Sublist.refl _).append (flat_wipe vs)
      have stD : Step S1 H1 fs1.flatten S' H' ([D] :: ([] :: wipeA [] fs2 vs)).flatten := st23.sub fun a ha => by
        have := mem2 (f := [D]) fsub ha
        simpa using this
      have key : g x (wipe σ vs) H' fun σ2 H2' => wipe σ2 vs = wipe σ vs → tt σ2 H2' fun b H3 => if b = true then te σ2 H3 fun y H4 => ∃ acc, H4 D = some (.lst acc) ∧ acc.length < sizeLine ∧ (∃ acc' Γ2 S2 fs2, W (i + 1) acc' (wipeG Γ2 vs) ∧ acc'.length ≤ i + 1 ∧ Wd K (some (.ref D) :: σ) (.res (ownL D acc') :: wipeG Γ2 vs) S2 (upd H4 D (.lst (acc ++ [y]))) ([D] :: fs2) ∧ Step S1 H1 fs1.flatten S2 (upd H4 D (.lst (acc ++ [y]))) ([D] :: fs2).flatten)
          else (∃ acc' Γ2 S2 fs2, W (i + 1) acc' (wipeG Γ2 vs) ∧ acc'.length ≤ i + 1 ∧ Wd K (some (.ref D) :: σ) (.res (ownL D acc') :: wipeG Γ2 vs) S2 H3 ([D] :: fs2) ∧ Step S1 H1 fs1.flatten S2 H3 ([D] :: fs2).flatten) := by
        refine hs i acc Γ2 hlt hal hW (wipe σ vs) S' H' [] _ x _ w5 fun σ2 Γ3 S3 H3 fs3 hB w6 st6 => ?_
        obtain ⟨w7, st7⟩ := frame (ts := [some (.ref D)]) (Θ := [.res (ownL D acc)]) (ft := [[D]]) rfl rfl wD w6 st6
        have st8 := stD.trans st7
        intro hw
        refine hB σ2 S3 H3 fs3 _ w6 fun b Γ4 S4 H4 fs4 hT w8 st9 => ?_
        obtain ⟨w9, st10⟩ := frame (ts := [some (.ref D)]) (Θ := [.res (ownL D acc)]) (ft := [[D]]) rfl rfl w7 w8 st9
        have st11 := st8.trans st10
        have back : ∀ (Γx : List Sl) (Sx Hx : Hp) (fx : List (List Addr)) (accx : List PyData), Wd K (some (.ref D) :: σ2) (.res (ownL D accx) :: Γx) Sx Hx ([D] :: fx) → Wd K (some (.ref D) :: σ) (.res (ownL D accx) :: wipeG Γx vs) Sx Hx ([D] :: wipeA [] fx vs) := fun Γx Sx Hx fx accx wx => by
          have q := wx.tl.wipe vs
          rw [hw] at q
          refine ⟨wx.good.sublist ?_, .cons wx.hd (sat_unwipe q.sat)⟩
          simp only [List.flatten_cons]
          exact (List.Sublist.refl _).append (flat_wipe vs)
        cases b with
        | true =>
          rw [if_pos rfl]
          refine hT.1 rfl σ2 S4 H4 fs4 _ w8 fun y r Γ5 S5 H5 f5 fs5 hE w10 st12 => ?_
          obtain ⟨yd, rfl, hW'⟩ := hE
          obtain ⟨w11, st13⟩ := frame (ts := [some (.ref D)]) (Θ := [.res (ownL D acc)]) (ft := [[D]]) rfl rfl w9 w10 st12
          obtain ⟨e0, y', e1, hyd⟩ := w10.hd
          subst e0
          cases e1
          have w11' : Wd K (some (.ref D) :: some y :: σ2) (.res (ownL D acc) :: .dat yd :: Γ5) S5 H5 ([D] :: [] :: fs5) := w11
          have w12 : Wd K (some (.ref D) :: σ2) (.res (ownL D acc) :: Γ5) S5 H5 ([D] :: fs5) := w11'.swap2.tl
          obtain ⟨_, _, ws, hws, hda⟩ := w12.hd
          have hws : H5 D = some (.lst ws) := hws
          have hlen := dps_len hda
          refine ⟨ws, hws, by omega, acc ++ [yd], Γ5, S5, wipeA [] fs5 vs, hW', by simp; omega, ?_⟩
          obtain ⟨w13, st14⟩ := upd_own (j := 0) (ws := ws ++ [y]) (ys := acc ++ [yd]) w12 rfl (dps_app hda (.cons hyd .nil))
          refine ⟨back _ _ _ _ _ w13, ?_⟩
          have st15 : Step S1 H1 fs1.flatten S5 H5 ([D] :: fs5).flatten := (st11.trans st13).sub fun a ha => by simpa using ha
          exact (st15.trans st14).sub fun a => mem2 fun b hb => (flat_wipe vs).subset hb
        | false =>
          rw [if_neg (by decide)]
          exact ⟨acc, Γ4, S4, wipeA [] fs4 vs, hT.2 rfl, Nat.le_succ_of_le hal, back _ _ _ _ _ w9, st11.sub fun a => mem2 fun b hb => (flat_wipe vs).subset hb⟩
      refine gm x _ H' _ _ (fun σ' H'' ⟨e, q⟩ => ?_) (hg x _ H' _ key)
      have e' : wipe σ' vs = wipe σ vs := by rw [e, wipe_eq, wipe_eq, wipeA_idem]
      exact ⟨e', q e'⟩
    · have e1 : i = n := by omega
      subst e1
      refine .inl ⟨t2 rfl, ?_⟩
      obtain ⟨S', w3, st3⟩ := freezeW w2
      exact P _ _ _ S' H2 [] fs2 (hd acc Γ2 hal hW) w3 (by simpa using st1.trans (st2.trans st3))
end Dl
namespace Dl
open PySem PySem.Spec PyProof.Rows L2
def pure1 (g : PyData → Option PyData) : FSpec := fun args k => ∃ a d, args = [.dat a] ∧ g a = some d ∧ k (.dat d) args
def pure2 (g : PyData → PyData → Option PyData) : FSpec := fun args k => ∃ a b d, args = [.dat a, .dat b] ∧ g a b = some d ∧ k (.dat d) args
def pure3 (g : PyData → PyData → PyData → Option PyData) : FSpec := fun args k => ∃ a b c d, args = [.dat a, .dat b, .dat c] ∧ g a b c = some d ∧ k (.dat d) args
def pure4 (g : PyData → PyData → PyData → PyData → Option PyData) : FSpec := fun args k => ∃ a b c e d, args = [.dat a, .dat b, .dat c, .dat e] ∧ g a b c e = some d ∧ k (.dat d) args
def pure5 (g : PyData → PyData → PyData → PyData → PyData → Option PyData) : FSpec := fun args k => ∃ a b c e f d, args = [.dat a, .dat b, .dat c, .dat e, .dat f] ∧ g a b c e f = some d ∧ k (.dat d) args
theorem n1 {g : PyData → Option PyData} : ∀ args k, pure1 g args k → args.length = 1 := fun args k ⟨a, d, e, _⟩ => by rw [e]; rfl
theorem n2 {g : PyData → PyData → Option PyData} : ∀ args k, pure2 g args k → args.length = 2 := fun args k ⟨a, b, d, e, _⟩ => by rw [e]; rfl
theorem n3 {g : PyData → PyData → PyData → Option PyData} : ∀ args k, pure3 g args k → args.length = 3 := fun args k ⟨a, b, c, d, e, _⟩ => by rw [e]; rfl
theorem n4 {g : PyData → PyData → PyData → PyData → Option PyData} : ∀ args k, pure4 g args k → args.length = 4 := fun args k ⟨a, b, c, x, d, e, _⟩ => by rw [e]; rfl
theorem n5 {g : PyData → PyData → PyData → PyData → PyData → Option PyData} : ∀ args k, pure5 g args k → args.length = 5 := fun args k ⟨a, b, c, x, y, d, e, _⟩ => by rw [e]; rfl
variable {K : Frag} {t : TS}
def datOut (d : PyData) : Out := { nx := fun _ => PyData.none = d, rt := fun r _ => r = .dat d }
theorem body_dats {N : List Str} {ds : List PyData} {d : PyData} {k : Sl → List Sl → Prop} (hk : k (.dat d) (ds.map .dat)) (h : ExS K t (ds.map .dat ++ List.replicate (N.length - ds.length) .no) (datOut d)) :
    ExS K t (ds.map .dat ++ List.replicate (N.length - (ds.map Sl.dat).length) .no) (fnOut (ds.map .dat) k) := by
  intro σ S H fs D w E
  rw [List.length_map] at w
  refine h σ S H fs D w ⟨fun σ' Γ' S' H' fs' ho w' st => ?_, fun v r σ' Γ' S' H' fr fs' ho w' st => ?_, fun _ _ _ _ _ ho => ho.elim, fun _ _ _ _ _ ho => ho.elim⟩
  · have ho : PyData.none = d := ho
    subst ho
    exact E.nx σ' Γ' S' H' fs' ⟨_, hk, keep_dats ds Γ'⟩ w' st
  · have ho : r = .dat d := ho
    subst ho
    exact E.rt v _ σ' Γ' S' H' fr fs' ⟨_, hk, keep_dats ds Γ'⟩ w' st
theorem body1 {g : PyData → Option PyData} (m : Nat) (h : ∀ a d, g a = some d → ExS K t (.dat a :: List.replicate m .no) (datOut d)) :
    ∀ args k, pure1 g args k → ExS K t (args ++ List.replicate (m + 1 - args.length) .no) (fnOut args k) := by
  rintro args k ⟨a, d, rfl, e, hk⟩
  have q := body_dats (t := t) (K := K) (N := List.replicate (m + 1) (PySem.Str.ofString "")) (ds := [a]) hk (by rw [List.length_replicate]; exact h a d e)
  rw [List.length_replicate] at q
  exact q
theorem body2 {g : PyData → PyData → Option PyData} (m : Nat) (h : ∀ a b d, g a b = some d → ExS K t (.dat a :: .dat b :: List.replicate m .no) (datOut d)) :
    ∀ args k, pure2 g args k → ExS K t (args ++ List.replicate (m + 2 - args.length) .no) (fnOut args k) := by
  rintro args k ⟨a, b, d, rfl, e, hk⟩
  have q := body_dats (t := t) (K := K) (N := List.replicate (m + 2) (PySem.Str.ofString "")) (ds := [a, b]) hk (by rw [List.length_replicate]; exact h a b d e)
  rw [List.length_replicate] at q
  exact q
theorem body3 {g : PyData → PyData → PyData → Option PyData} (m : Nat) (h : ∀ a b c d, g a b c = some d → ExS K t (.dat a :: .dat b :: .dat c :: List.replicate m .no) (datOut d)) :
    ∀ args k, pure3 g args k → ExS K t (args ++ List.replicate (m + 3 - args.length) .no) (fnOut args k) := by
  rintro args k ⟨a, b, c, d, rfl, e, hk⟩
  have q := body_dats (t := t) (K := K) (N := List.replicate (m + 3) (PySem.Str.ofString "")) (ds := [a, b, c]) hk (by rw [List.length_replicate]; exact h a b c d e)
  rw [List.length_replicate] at q
  exact q
theorem body4 {g : PyData → PyData → PyData → PyData → Option PyData} (m : Nat) (h : ∀ a b c x d, g a b c x = some d → ExS K t (.dat a :: .dat b :: .dat c :: .dat x :: List.replicate m .no) (datOut d)) :
    ∀ args k, pure4 g args k → ExS K t (args ++ List.replicate (m + 4 - args.length) .no) (fnOut args k) := by
  rintro args k ⟨a, b, c, x, d, rfl, e, hk⟩
  have q := body_dats (t := t) (K := K) (N := List.replicate (m + 4) (PySem.Str.ofString "")) (ds := [a, b, c, x]) hk (by rw [List.length_replicate]; exact h a b c x d e)
  rw [List.length_replicate] at q
  exact q
theorem body5 {g : PyData → PyData → PyData → PyData → PyData → Option PyData} (m : Nat) (h : ∀ a b c x y d, g a b c x y = some d → ExS K t (.dat a :: .dat b :: .dat c :: .dat x :: .dat y :: List.replicate m .no) (datOut d)) :
    ∀ args k, pure5 g args k → ExS K t (args ++ List.replicate (m + 5 - args.length) .no) (fnOut args k) := by
  rintro args k ⟨a, b, c, x, y, d, rfl, e, hk⟩
  have q := body_dats (t := t) (K := K) (N := List.replicate (m + 5) (PySem.Str.ofString "")) (ds := [a, b, c, x, y]) hk (by rw [List.length_replicate]; exact h a b c x y d e)
  rw [List.length_replicate] at q
  exact q
variable {Γ : List Sl} {k : Sl → List Sl → Prop}
theorem EvP.mono {te : TE} {k k' : Sl → List Sl → Prop} (h : EvP K te Γ k) (m : ∀ r Γ, k r Γ → k' r Γ) : EvP K te Γ k' := fun σ S H fs Q w P => h σ S H fs Q w fun v r Γ' S' H' fr fs' hk => P v r Γ' S' H' fr fs' (m _ _ hk)
theorem EvB.mono {tt : TT} {k k' : Bool → List Sl → Prop} (h : EvB K tt Γ k) (m : ∀ r Γ, k r Γ → k' r Γ) : EvB K tt Γ k' := fun σ S H fs Q w P => h σ S H fs Q w fun b Γ' S' H' fs' hk => P b Γ' S' H' fs' (m _ _ hk)
theorem EvA.mono {ta : TA} {k k' : List Sl → List Sl → Prop} (h : EvA K ta Γ k) (m : ∀ r Γ, k r Γ → k' r Γ) : EvA K ta Γ k' := fun σ S H fs Q w P => h σ S H fs Q w fun vs rs Γ' S' H' frs fs' hk => P vs rs Γ' S' H' frs fs' (m _ _ hk)
theorem OpK.mono {r : R2} {s1 s2 : Sl} {k k' : Sl → List Sl → Prop} (h : OpK K r s1 s2 Γ k) (m : ∀ r Γ, k r Γ → k' r Γ) : OpK K r s1 s2 Γ k' := fun σ S H f1 f2 fs x y Q w P => h σ S H f1 f2 fs x y Q w fun v r Γ' S' H' fr fs' hk => P v r Γ' S' H' fr fs' (m _ _ hk)
theorem CbK.mono {r : List V → Hp → VK → Prop} {rs : List Sl} {k k' : Sl → List Sl → Prop} (h : CbK K r rs Γ k) (m : ∀ r Γ, k r Γ → k' r Γ) : CbK K r rs Γ k' := fun σ S H frs fs vs Q l1 l2 w P => h σ S H frs fs vs Q l1 l2 w fun v r Γ' S' H' fr fs' hk => P v r Γ' S' H' fr fs' (m _ _ hk)
theorem ExS.mono {O O' : Out} (h : ExS K t Γ O) (m1 : ∀ Γ, O.nx Γ → O'.nx Γ) (m2 : ∀ r Γ, O.rt r Γ → O'.rt r Γ) (m3 : ∀ Γ, O.bk Γ → O'.bk Γ) (m4 : ∀ Γ, O.ct Γ → O'.ct Γ) : ExS K t Γ O' := fun σ S H fs D w E => h σ S H fs D w
  ⟨fun σ' Γ' S' H' fs' ho => E.nx σ' Γ' S' H' fs' (m1 _ ho), fun v r σ' Γ' S' H' fr fs' ho => E.rt v r σ' Γ' S' H' fr fs' (m2 _ _ ho), fun σ' Γ' S' H' fs' ho => E.bk σ' Γ' S' H' fs' (m3 _ ho), fun σ' Γ' S' H' fs' ho => E.ct σ' Γ' S' H' fs' (m4 _ ho)⟩
theorem ifB {b : Bool} {A B : Prop} (h : if b = true then A else B) : (b = true → A) ∧ (b = false → B) := by
  cases b with
  | true => exact ⟨fun _ => by simpa using h, fun e => nomatch e⟩
  | false => exact ⟨fun e => (nomatch e), fun _ => by simpa using h⟩
theorem b_and' {t u : TT} {kb : Bool → List Sl → Prop} (h : EvB K t Γ fun b Γ1 => if b = true then EvB K u Γ1 kb else kb false Γ1) : EvB K (tAnd t u) Γ kb := b_and (h.mono fun b Γ1 q => ifB q)
theorem b_or' {t u : TT} {kb : Bool → List Sl → Prop} (h : EvB K t Γ fun b Γ1 => if b = true then kb true Γ1 else EvB K u Γ1 kb) : EvB K (tOr t u) Γ kb := b_or (h.mono fun b Γ1 q => ⟨(ifB q).2, (ifB q).1⟩)
theorem x_if' {O : Out} {tt : TT} {t u : TS} (h : EvB K tt Γ fun b Γ1 => if b = true then ExS K t Γ1 O else ExS K u Γ1 O) : ExS K (tIfS tt t u) Γ O := x_if (h.mono fun b Γ1 q => ifB q)
theorem e_if' {tt : TT} {ta tb : TE} (h : EvB K tt Γ fun b Γ1 => if b = true then EvP K ta Γ1 k else EvP K tb Γ1 k) : EvP K (tIf tt ta tb) Γ k := e_if (h.mono fun b Γ1 q => ifB q)
theorem e_andV' {ta tb : TE} (h : EvP K ta Γ fun r Γ1 => ∃ b, r = .dat (.bool b) ∧ if b = true then EvP K tb Γ1 k else k (.dat (.bool false)) Γ1) : EvP K (tAndV ta tb) Γ k := e_andV (h.mono fun r Γ1 ⟨b, e, q⟩ => ⟨b, e, ifB q⟩)
theorem e_orV' {ta tb : TE} (h : EvP K ta Γ fun r Γ1 => ∃ b, r = .dat (.bool b) ∧ if b = true then k (.dat (.bool true)) Γ1 else EvP K tb Γ1 k) : EvP K (tOrV ta tb) Γ k := e_orV (h.mono fun r Γ1 ⟨b, e, q⟩ => ⟨b, e, (ifB q).2, (ifB q).1⟩)
theorem e_chain' {r r' : R2} {ta tb tc : TE} (h : EvP K ta Γ fun s1 Γ1 => EvP K tb Γ1 fun s2 Γ2 => ∃ d1 d2, s1 = .dat d1 ∧ s2 = .dat d2 ∧ OpK K r (.dat d1) (.dat d2) Γ2 fun s3 Γ3 => ∃ b, s3 = .dat (.bool b) ∧ if b = true then EvP K tc Γ3 fun s4 Γ4 => OpK K r' (.dat d2) s4 Γ4 k else k (.dat (.bool false)) Γ3) :
    EvP K (tChain r r' ta tb tc) Γ k := e_chain (h.mono fun s1 Γ1 q => q.mono fun s2 Γ2 ⟨d1, d2, e1, e2, q⟩ => ⟨d1, d2, e1, e2, q.mono fun s3 Γ3 ⟨b, e, q⟩ => ⟨b, e, ifB q⟩⟩)
theorem iteB {b : Bool} {A B : Prop} (h1 : b = true → A) (h2 : b = false → B) : if b = true then A else B := by
  cases b with
  | true => exact iteT (h1 rfl)
  | false => exact iteF (h2 rfl)
theorem dat_ok {d e : PyData} (h : d = e) : (datOut e).rt (.dat d) Γ := by rw [h]; exact rfl
theorem dat_nx {e : PyData} (h : PyData.none = e) : (datOut e).nx Γ := h
theorem call1 {g : PyData → Option PyData} {a d : PyData} (e : g a = some d) (h : k (.dat d) [.dat a]) : pure1 g [.dat a] k := ⟨a, d, rfl, e, h⟩
theorem call2 {g : PyData → PyData → Option PyData} {a b d : PyData} (e : g a b = some d) (h : k (.dat d) [.dat a, .dat b]) : pure2 g [.dat a, .dat b] k := ⟨a, b, d, rfl, e, h⟩
theorem call3 {g : PyData → PyData → PyData → Option PyData} {a b c d : PyData} (e : g a b c = some d) (h : k (.dat d) [.dat a, .dat b, .dat c]) : pure3 g [.dat a, .dat b, .dat c] k := ⟨a, b, c, d, rfl, e, h⟩
theorem call4 {g : PyData → PyData → PyData → PyData → Option PyData} {a b c x d : PyData} (e : g a b c x = some d) (h : k (.dat d) [.dat a, .dat b, .dat c, .dat x]) : pure4 g [.dat a, .dat b, .dat c, .dat x] k := ⟨a, b, c, x, d, rfl, e, h⟩
theorem call5 {g : PyData → PyData → PyData → PyData → PyData → Option PyData} {a b c x y d : PyData} (e : g a b c x y = some d) (h : k (.dat d) [.dat a, .dat b, .dat c, .dat x, .dat y]) : pure5 g [.dat a, .dat b, .dat c, .dat x, .dat y] k := ⟨a, b, c, x, y, d, rfl, e, h⟩
end Dl
namespace Dl
open PySem PySem.Spec PyProof.Rows L2
def Pers : Sl → Prop
  | .dat _ => True
  | .raw _ => True
  | _ => False
def VS (K : Frag) (S : Hp) (v : V) : Sl → Prop
  | .dat d => Dd K S v d
  | .raw u => v = u
  | _ => False
theorem VS.mono {K : Frag} {S S' : Hp} {v : V} {s : Sl} (l : Le S S') (h : VS K S v s) : VS K S' v s := by
  cases s with
  | dat d => exact l.dp h
  | raw u => exact h
  | no => exact h
  | res r => exact h
theorem VS.ok {K : Frag} {S H : Hp} {v : V} {s : Sl} (h : VS K S v s) : SlOk K S H (some v) [] s := by
  cases s with
  | dat d => exact ⟨rfl, v, rfl, h⟩
  | raw u => exact ⟨rfl, by rw [show v = u from h]⟩
  | no => exact h.elim
  | res r => exact h.elim
theorem VS.of {K : Frag} {S H : Hp} {v : V} {s : Sl} {f : List Addr} (h : SlOk K S H (some v) f s) (p : Pers s) : VS K S v s ∧ f = [] := by
  cases s with
  | dat d => obtain ⟨e, v', e1, hd⟩ := h; cases e1; exact ⟨hd, e⟩
  | raw u => obtain ⟨e, e1⟩ := h; cases e1; exact ⟨rfl, e⟩
  | no => exact p.elim
  | res r => exact p.elim
abbrev VSs (K : Frag) (S : Hp) : List V → List Sl → Prop := Paired (VS K S)
theorem VSs.mono {K : Frag} {S S' : Hp} (l : Le S S') : ∀ {vs : List V} {ss : List Sl}, VSs K S vs ss → VSs K S' vs ss
  | _, _, .nil => .nil
  | _, _, .cons h t => .cons (h.mono l) (VSs.mono l t)
theorem VSs.get {K : Frag} {S : Hp} : ∀ {vs : List V} {ss : List Sl} {i : Nat} {s : Sl}, VSs K S vs ss → ss[i]? = some s → ∃ v, vs[i]? = some v ∧ VS K S v s
  | _, _, 0, _, .cons h _, e => by
    simp only [List.getElem?_cons_zero, Option.some.injEq] at e
    subst e
    exact ⟨_, rfl, h⟩
  | _, _, i + 1, _, .cons _ t, e => by
    simp only [List.getElem?_cons_succ] at e
    obtain ⟨v, h1, h2⟩ := VSs.get t e
    exact ⟨v, by simpa using h1, h2⟩
  | _, _, _, _, .nil, e => by simp at e
theorem VSs.set {K : Frag} {S : Hp} {v : V} {s : Sl} (h : VS K S v s) : ∀ {vs : List V} {ss : List Sl} (i : Nat), VSs K S vs ss → VSs K S (vs.set i v) (ss.set i s)
  | _, _, _, .nil => .nil
  | _, _, 0, .cons _ t => .cons h t
  | _, _, i + 1, .cons a t => .cons a (VSs.set h i t)
theorem VSs.snoc {K : Frag} {S : Hp} {v : V} {s : Sl} (h : VS K S v s) : ∀ {vs : List V} {ss : List Sl}, VSs K S vs ss → VSs K S (vs ++ [v]) (ss ++ [s])
  | _, _, .nil => .cons h .nil
  | _, _, .cons a t => .cons a (VSs.snoc h t)
theorem VSs.dats {K : Frag} {S : Hp} : ∀ {vs : List V} {ds : List PyData}, VSs K S vs (ds.map .dat) → DdAll K S vs ds
  | _, [], .nil => .nil
  | _, _ :: _, .cons h t => .cons h (VSs.dats t)
theorem VSs.of_dats {K : Frag} {S : Hp} : ∀ {vs : List V} {ds : List PyData}, DdAll K S vs ds → VSs K S vs (ds.map .dat)
  | _, [], .nil => .nil
  | _, _ :: _, .cons h t => .cons h (VSs.of_dats t)
inductive Cell where
  | ins (C : Addr) (ns : List Str) (ss : List Sl)
  | lst (ss : List Sl)
  | dS (ns : List Str) (ss : List Sl)
  | dI (kvs : List (Int × PyData))
  | tup (ss : List Sl)
def CellOk (K : Frag) (S H : Hp) (a : Addr) : Cell → Prop
  | .ins C ns ss => ns.Nodup ∧ ns.length = ss.length ∧ ∃ dx vs, H a = some (.ins C dx (ns.zip vs)) ∧ VSs K S vs ss
  | .lst ss => ∃ vs, H a = some (.lst vs) ∧ VSs K S vs ss
  | .dS ns ss => ns.Nodup ∧ ns.length = ss.length ∧ ∃ vs, H a = some (.dK ((ns.map Sum.inr).zip vs)) ∧ VSs K S vs ss
  | .dI kvs => ∃ vs, H a = some (.dK ((kvs.map fun p => (Sum.inl p.1 : Key)).zip vs)) ∧ DdAll K S vs (kvs.map (·.2))
  | .tup ss => ∃ vs, H a = some (.tup vs) ∧ VSs K S vs ss
theorem CellOk.step {K : Frag} {S H S' H' : Hp} {a : Addr} {c : Cell} (h : CellOk K S H a c) (l : Le S S') (e : H' a = H a) : CellOk K S' H' a c := by
  cases c with
  | ins C ns ss => obtain ⟨h0, h1, dx, vs, h2, h3⟩ := h; exact ⟨h0, h1, dx, vs, e.trans h2, VSs.mono l h3⟩
  | lst ss => obtain ⟨vs, h2, h3⟩ := h; exact ⟨vs, e.trans h2, VSs.mono l h3⟩
  | dS ns ss => obtain ⟨h0, h1, vs, h2, h3⟩ := h; exact ⟨h0, h1, vs, e.trans h2, VSs.mono l h3⟩
  | dI kvs => obtain ⟨vs, h2, h3⟩ := h; exact ⟨vs, e.trans h2, Le.dps l h3⟩
  | tup ss => obtain ⟨vs, h2, h3⟩ := h; exact ⟨vs, e.trans h2, VSs.mono l h3⟩
def star (v : V) (Θ : List (Addr × Cell)) : Res where
  v := v
  p := fun K S H fp => fp = Θ.map (·.1) ∧ ∀ p ∈ Θ, CellOk K S H p.1 p.2
  loc := fun ⟨h1, h2⟩ l k => ⟨h1, fun p hp => (h2 p hp).step l (k _ (by rw [h1]; exact List.mem_map.mpr ⟨p, hp, rfl⟩))⟩
variable {K : Frag} {Γ : List Sl} {k : Sl → List Sl → Prop} {O : Out}
theorem nodup_ix2 : ∀ {l : List Addr}, l.Nodup → ∀ {i j : Nat} {x : Addr}, l[i]? = some x → l[j]? = some x → i = j
  | [], _, _, _, _, h, _ => by simp at h
  | a :: l, nd, 0, 0, _, _, _ => rfl
  | a :: l, nd, 0, j + 1, x, h1, h2 => by
    simp only [List.getElem?_cons_zero, Option.some.injEq, List.getElem?_cons_succ] at h1 h2
    exact absurd (List.mem_of_getElem? h2) (by rw [← h1]; exact (List.nodup_cons.mp nd).1)
  | a :: l, nd, i + 1, 0, x, h1, h2 => by
    simp only [List.getElem?_cons_zero, Option.some.injEq, List.getElem?_cons_succ] at h1 h2
    exact absurd (List.mem_of_getElem? h1) (by rw [← h2]; exact (List.nodup_cons.mp nd).1)
  | a :: l, nd, i + 1, j + 1, x, h1, h2 => by
    simp only [List.getElem?_cons_succ] at h1 h2
    rw [nodup_ix2 (List.nodup_cons.mp nd).2 h1 h2]
theorem star_cell {σ : List (Option V)} {S H : Hp} {fs : List (List Addr)} {j n : Nat} {v : V} {Θ : List (Addr × Cell)} {a : Addr} {c : Cell} (w : Wd K σ Γ S H fs) (hj : Γ[j]? = some (.res (star v Θ))) (hn : Θ[n]? = some (a, c)) : CellOk K S H a c := by
  obtain ⟨x, fp, hx, hf, e1, e2, hc⟩ := w.sat.get hj
  exact hc (a, c) (List.mem_of_getElem? hn)
theorem star_upd {σ : List (Option V)} {S H : Hp} {fs : List (List Addr)} {j n : Nat} {v : V} {Θ : List (Addr × Cell)} {a : Addr} {c c' : Cell} {o : HO} (w : Wd K σ Γ S H fs) (hj : Γ[j]? = some (.res (star v Θ))) (hn : Θ[n]? = some (a, c)) (hc : CellOk K S (upd H a o) a c') :
    Wd K σ (Γ.set j (.res (star v (Θ.set n (a, c'))))) S (upd H a o) fs ∧ Step S H fs.flatten S (upd H a o) fs.flatten := by
  obtain ⟨x, fp, hx, hf, e1, e2, hcs⟩ := w.sat.get hj
  have e2 : fp = Θ.map (·.1) := e2
  have e1 : x = some v := e1
  subst e2
  have pm := flat_take fs j _ hf
  have gp := w.good.perm pm
  have aT : a ∈ Θ.map (·.1) := List.mem_map.mpr ⟨(a, c), List.mem_of_getElem? hn, rfl⟩
  have aF : a ∈ fs.flatten := pm.mem_iff.mpr (List.mem_append_left _ aT)
  have nS : S a = none := w.good.dis a aF
  have ndT : (Θ.map (·.1)).Nodup := (List.nodup_append.mp gp.nd).1
  have nF : ∀ b ∈ (fs.set j []).flatten, b ≠ a := fun b hb e => (List.nodup_append.mp gp.nd).2.2 a aT b hb e.symm
  have sat1 : SatL K S H σ (Γ.set j .no) (fs.set j []) := by
    have q := w.sat.set (x := x) (s := .no) (fp := []) j rfl
    rwa [setSame hx] at q
  have sat2 := sat1.step (Le.refl S) (H' := upd H a o) fun b hb => upd_ne (nF b hb)
  have e3 : (Θ.set n (a, c')).map (·.1) = Θ.map (·.1) := by
    rw [List.map_set]
    exact setSame (by rw [List.getElem?_map, hn]; rfl)
  have sat3 := sat2.set (x := x) (s := .res (star v (Θ.set n (a, c')))) (fp := Θ.map (·.1)) j ⟨e1, e3.symm, fun p hp => by
    obtain ⟨m, hm⟩ := List.getElem?_of_mem hp
    by_cases hmn : n = m
    · subst hmn
      rw [List.getElem?_set_self (List.getElem?_eq_some_iff.mp hn).1] at hm
      cases hm
      exact hc
    · rw [List.getElem?_set_ne hmn] at hm
      refine (hcs p (List.mem_of_getElem? hm)).step (Le.refl _) (upd_ne fun e => hmn ?_)
      refine nodup_ix2 ndT (x := a) ?_ ?_
      · rw [List.getElem?_map, hn]; rfl
      · rw [List.getElem?_map, hm]; show some p.1 = some a; rw [e]⟩
  rw [setSame hx, List.set_set, List.set_set, setSame hf] at sat3
  refine ⟨⟨⟨fun b u e => ?_, w.good.nd, w.good.dis, fun b hb => ?_⟩, sat3⟩, Le.refl _, fun b u e n => ?_, fun b e => .inl e, fun b hb => .inr hb, fun b e => ?_⟩
  · rw [upd_ne (ne_of_none e nS)]
    exact w.good.sub b u e
  · by_cases q : b = a
    · subst q; rw [upd_same]; simp
    · rw [upd_ne q]; exact w.good.al b hb
  · rw [upd_ne fun q => n (by rw [q]; exact aF)]
    exact e
  · by_cases q : b = a
    · subst q; rw [upd_same]; simp
    · rw [upd_ne q]; exact e
theorem lookup_zip {α : Type} : ∀ {ns : List Str} {vs : List α} {q : Nat} {f : Str} {v : α}, ns.Nodup → ns[q]? = some f → vs[q]? = some v → (ns.zip vs).lookup f = some v
  | [], _, _, _, _, _, h, _ => by simp at h
  | _ :: _, [], _, _, _, _, _, h => by simp at h
  | n :: ns, u :: vs, 0, f, v, _, h1, h2 => by
    simp at h1 h2
    subst h1 h2
    simp [List.zip_cons_cons, List.lookup]
  | n :: ns, u :: vs, q + 1, f, v, nd, h1, h2 => by
    simp only [List.getElem?_cons_succ] at h1 h2
    have hne : ¬ f = n := fun e => (List.nodup_cons.mp nd).1 (by rw [← e]; exact List.mem_of_getElem? h1)
    rw [List.zip_cons_cons]
    have hb : (f == n) = false := beq_eq_false_iff_ne.mpr hne
    simp only [List.lookup, hb]
    exact lookup_zip (List.nodup_cons.mp nd).2 h1 h2
theorem putF_zip : ∀ {ns : List Str} {vs : List V} {q : Nat} {f : Str} {v : V}, ns.Nodup → ns.length = vs.length → ns[q]? = some f → putF f v (ns.zip vs) = ns.zip (vs.set q v)
  | [], _, _, _, _, _, _, h => by simp at h
  | _ :: _, [], _, _, _, _, h, _ => by simp at h
  | n :: ns, u :: vs, 0, f, v, _, _, h1 => by
    simp at h1
    subst h1
    simp [List.zip_cons_cons, putF]
  | n :: ns, u :: vs, q + 1, f, v, nd, hl, h1 => by
    simp only [List.getElem?_cons_succ] at h1
    have hne : ¬ n = f := fun e => (List.nodup_cons.mp nd).1 (by rw [e]; exact List.mem_of_getElem? h1)
    rw [List.zip_cons_cons, List.set_cons_succ, List.zip_cons_cons]
    unfold putF
    rw [if_neg hne, putF_zip (List.nodup_cons.mp nd).2 (by simpa using hl) h1]
theorem putF_new : ∀ {ns : List Str} {vs : List V} {f : Str} {v : V}, ns.length = vs.length → f ∉ ns → putF f v (ns.zip vs) = (ns ++ [f]).zip (vs ++ [v])
  | [], [], _, _, _, _ => rfl
  | [], _ :: _, _, _, h, _ => by simp at h
  | _ :: _, [], _, _, h, _ => by simp at h
  | n :: ns, u :: vs, f, v, hl, h => by
    have hne : ¬ n = f := fun e => h (by simp [e])
    rw [List.zip_cons_cons, List.cons_append, List.cons_append, List.zip_cons_cons]
    unfold putF
    rw [if_neg hne, putF_new (by simpa using hl) fun q => h (List.mem_cons_of_mem _ q)]
theorem vss_len {S : Hp} {vs : List V} {ss : List Sl} (h : VSs K S vs ss) : vs.length = ss.length := Paired.length h
theorem pers_hd {σ : List (Option V)} {S H : Hp} {v : V} {s : Sl} {f : List Addr} {fs : List (List Addr)} (w : Wd K (some v :: σ) (s :: Γ) S H (f :: fs)) (h : VS K S v s) : f = [] := by
  have q := w.hd
  cases s with
  | dat d => exact q.1
  | raw u => exact q.1
  | no => exact h.elim
  | res r => exact h.elim
theorem e_fld (j n q : Nat) {to : TE} {f : Str} (h : EvP K to Γ fun s Γ1 => ∃ a v Θ C ns ss u, s = .raw (.ref a) ∧ Γ1[j]? = some (.res (star v Θ)) ∧ Θ[n]? = some (a, .ins C ns ss) ∧ Cls K C ∧ NoAttr K C f ∧ ns[q]? = some f ∧ ss[q]? = some u ∧ k u Γ1) : EvP K (tFld K to f) Γ k := by
  intro σ S H fs Q w P
  refine h σ S H fs _ w fun x r Γ1 S1 H1 f1 fs1 hb w1 st1 => ?_
  obtain ⟨a, v, Θ, C, ns, ss, u, rfl, hj, hn, hC, hN, hq, hu, hk⟩ := hb
  obtain ⟨e0, e1⟩ := w1.hd
  subst e0
  cases e1
  obtain ⟨nd, hl, dx, vs, hH, hv⟩ := star_cell w1.tl hj hn
  obtain ⟨y, hy, hys⟩ := VSs.get hv hu
  refine ⟨a, C, dx, _, y, rfl, hH, hC, hN, lookup_zip nd hq hy, ?_⟩
  have P1 := P.trans (by simpa using st1 : Step S H fs.flatten S1 H1 fs1.flatten)
  exact P1 y u Γ1 S1 H1 [] fs1 hk (w1.tl.put hys.ok) (by simpa using Step.refl)
theorem x_fld (j n q : Nat) {to te : TE} {f : Str} (h : EvP K te Γ fun s Γ1 => Pers s ∧ EvP K to Γ1 fun s2 Γ2 => ∃ a v Θ C ns ss, s2 = .raw (.ref a) ∧ Γ2[j]? = some (.res (star v Θ)) ∧ Θ[n]? = some (a, .ins C ns ss) ∧ Cls K C ∧ NoAttr K C f ∧ ns[q]? = some f ∧ ns.length < 1000 ∧ O.nx (Γ2.set j (.res (star v (Θ.set n (a, .ins C ns (ss.set q s))))))) : ExS K (sFld K to te f) Γ O := by
  intro σ S H fs D w E
  refine h σ S H fs _ w fun y s Γ1 S1 H1 f1 fs1 hb w1 st1 => ?_
  obtain ⟨hp, hb⟩ := hb
  obtain ⟨hv, e0⟩ := VS.of w1.hd hp
  subst e0
  refine hb σ S1 H1 fs1 _ w1.tl fun x s2 Γ2 S2 H2 f2 fs2 hc w2 st2 => ?_
  obtain ⟨a, v, Θ, C, ns, ss, rfl, hj, hn, hC, hN, hq, hz, hk⟩ := hc
  obtain ⟨e1, e2⟩ := w2.hd
  subst e1
  cases e2
  obtain ⟨nd, hl, dx, vs, hH, hvs⟩ := star_cell w2.tl hj hn
  have hlen := vss_len hvs
  have hv2 := hv.mono st2.le
  refine ⟨a, C, dx, _, rfl, hH, hC, hN, ?_, ?_⟩
  · rw [List.length_zip]
    omega
  · rw [putF_zip nd (by omega) hq]
    obtain ⟨w3, st3⟩ := star_upd (o := .ins C dx (ns.zip (vs.set q y))) (c' := .ins C ns (ss.set q s)) w2.tl hj hn ⟨nd, by simpa using hl, dx, _, upd_same, VSs.set hv2 q hvs⟩
    have stA : Step S H fs.flatten S2 H2 fs2.flatten := (by simpa using st1 : Step S H fs.flatten S1 H1 fs1.flatten).trans (by simpa using st2)
    exact (E.nx.step (stA.trans st3)) σ _ S2 _ fs2 hk w3 Step.refl
theorem x_fldN (j n : Nat) {to te : TE} {f : Str} (h : EvP K te Γ fun s Γ1 => Pers s ∧ EvP K to Γ1 fun s2 Γ2 => ∃ a v Θ C ns ss, s2 = .raw (.ref a) ∧ Γ2[j]? = some (.res (star v Θ)) ∧ Θ[n]? = some (a, .ins C ns ss) ∧ Cls K C ∧ NoAttr K C f ∧ f ∉ ns ∧ ns.length < 999 ∧ O.nx (Γ2.set j (.res (star v (Θ.set n (a, .ins C (ns ++ [f]) (ss ++ [s]))))))) : ExS K (sFld K to te f) Γ O := by
  intro σ S H fs D w E
  refine h σ S H fs _ w fun y s Γ1 S1 H1 f1 fs1 hb w1 st1 => ?_
  obtain ⟨hp, hb⟩ := hb
  obtain ⟨hv, e0⟩ := VS.of w1.hd hp
  subst e0
  refine hb σ S1 H1 fs1 _ w1.tl fun x s2 Γ2 S2 H2 f2 fs2 hc w2 st2 => ?_
  obtain ⟨a, v, Θ, C, ns, ss, rfl, hj, hn, hC, hN, hq, hz, hk⟩ := hc
  obtain ⟨e1, e2⟩ := w2.hd
  subst e1
  cases e2
  obtain ⟨nd, hl, dx, vs, hH, hvs⟩ := star_cell w2.tl hj hn
  have hlen := vss_len hvs
  have hv2 := hv.mono st2.le
  refine ⟨a, C, dx, _, rfl, hH, hC, hN, ?_, ?_⟩
  · rw [List.length_zip]
    omega
  · rw [putF_new (by omega) hq]
    obtain ⟨w3, st3⟩ := star_upd (o := .ins C dx ((ns ++ [f]).zip (vs ++ [y]))) (c' := .ins C (ns ++ [f]) (ss ++ [s])) w2.tl hj hn ⟨by rw [List.nodup_append]; exact ⟨nd, by simp, fun a ha b hb e => hq (by simp at hb; rw [← hb, ← e]; exact ha)⟩, by simp [hl], dx, _, upd_same, VSs.snoc hv2 hvs⟩
    have stA : Step S H fs.flatten S2 H2 fs2.flatten := (by simpa using st1 : Step S H fs.flatten S1 H1 fs1.flatten).trans (by simpa using st2)
    exact (E.nx.step (stA.trans st3)) σ _ S2 _ fs2 hk w3 Step.refl
theorem op_ixC (j n : Nat) {a : Addr} {v : V} {Θ : List (Addr × Cell)} {ss : List Sl} {i : Int} {u : Sl} (hj : Γ[j]? = some (.res (star v Θ))) (hn : Θ[n]? = some (a, .lst ss)) (hi : atI ss i = some u) (hk : k u Γ) : OpK K (uIx K) (.raw (.ref a)) (.dat (.int i)) Γ k := by
  intro σ S H f1 f2 fs x y Q w P
  obtain ⟨e0, e1⟩ := w.hd
  obtain ⟨e2, y', e3, hy⟩ := w.tl.hd
  subst e0 e2
  cases e1; cases e3; cases hy
  obtain ⟨vs, hH, hvs⟩ := star_cell w.tl.tl hj hn
  have hl := vss_len hvs
  unfold atI at hi
  rw [← hl] at hi
  cases q : ixN vs.length i with
  | none => rw [q] at hi; cases hi
  | some m =>
    rw [q] at hi
    obtain ⟨z, hz, hzs⟩ := VSs.get hvs hi
    refine .inl ⟨a, vs, i, z, rfl, rfl, .inl (.inl hH), by unfold atI; rw [q]; exact hz, ?_⟩
    exact (Post.drop2 P) z u Γ S H [] fs hk (w.tl.tl.put hzs.ok) (by simpa using Step.refl)
theorem g_subC (j n : Nat) {to ti : TE} {s : Sl} {kn : List Sl → Prop} (hp : Pers s) (h : EvP K to Γ fun s1 Γ1 => EvP K ti Γ1 fun s2 Γ2 => ∃ a v Θ ss i m, s1 = .raw (.ref a) ∧ s2 = .dat (.int i) ∧ Γ2[j]? = some (.res (star v Θ)) ∧ Θ[n]? = some (a, .lst ss) ∧ ixN ss.length i = some m ∧ kn (Γ2.set j (.res (star v (Θ.set n (a, .lst (ss.set m s))))))) : EvG K (gSub to ti rSetL) s Γ kn := by
  intro σ S H f fs y q w E
  obtain ⟨hv, e0⟩ := VS.of w.hd hp
  subst e0
  refine h σ S H fs _ w.tl fun x s1 Γ1 S1 H1 f1 fs1 hb w1 st1 => ?_
  refine hb σ S1 H1 fs1 _ w1.tl fun z s2 Γ2 S2 H2 f2 fs2 hc w2 st2 => ?_
  obtain ⟨a, v, Θ, ss, i, m, rfl, rfl, hj, hn, hm, hk⟩ := hc
  obtain ⟨e1, e2⟩ := w1.hd
  obtain ⟨e3, z', e4, hz⟩ := w2.hd
  subst e1 e3
  cases e2; cases e4; cases hz
  obtain ⟨vs, hH, hvs⟩ := star_cell w2.tl hj hn
  have hl := vss_len hvs
  refine ⟨a, vs, i, m, rfl, rfl, hH, by rw [hl]; exact hm, ?_⟩
  have hv2 := (hv.mono st1.le).mono st2.le
  obtain ⟨w3, st3⟩ := star_upd (o := .lst (vs.set m y)) (c' := .lst (ss.set m s)) w2.tl hj hn ⟨_, upd_same, VSs.set hv2 m hvs⟩
  have stA : Step S H fs.flatten S2 H2 fs2.flatten := (by simpa using st1 : Step S H fs.flatten S1 H1 fs1.flatten).trans (by simpa using st2)
  exact E σ _ S2 _ fs2 hk w3 (by simpa using stA.trans st3)
theorem e_appC (j n : Nat) {to : TE} {ta : TA} (h : EvP K to Γ fun s Γ1 => ∃ a, s = .raw (.ref a) ∧ (∃ v Θ ss, Γ1[j]? = some (.res (star v Θ)) ∧ Θ[n]? = some (a, .lst ss)) ∧ EvA K ta Γ1 fun rs Γ2 => ∃ v Θ ss s2, Pers s2 ∧ Γ2[j]? = some (.res (star v Θ)) ∧ Θ[n]? = some (a, .lst ss) ∧ rs = [s2] ∧ ss.length < sizeLine ∧ k (.dat .none) (Γ2.set j (.res (star v (Θ.set n (a, .lst (ss ++ [s2]))))))) :
    EvP K (tBM K "list" rAppend to ta) Γ k := by
  intro σ S H fs Q w P
  refine h σ S H fs _ w fun x r1 Γ1 S1 H1 f1 fs1 hb w1 st1 => ?_
  obtain ⟨a, rfl, ⟨v0, Θ0, ss0, hj0, hn0⟩, hA⟩ := hb
  obtain ⟨e0, e1⟩ := w1.hd
  subst e0
  cases e1
  obtain ⟨vs0, q3, q4⟩ := star_cell w1.tl hj0 hn0
  refine ⟨.inl ⟨rfl, vs0, .inl (.inl q3)⟩, ?_⟩
  refine hA σ S1 H1 fs1 _ w1.tl fun vs rs Γ2 S2 H2 frs fs2 hk l1 l2 w2 st2 => ?_
  obtain ⟨v, Θ, ss, s2, hp, hj, hn, rfl, hz, hk⟩ := hk
  match vs, frs, l1, l2, w2, st2 with
  | [u], [f], _, _, w2, st2 =>
    have w2' : Wd K (some u :: σ) (s2 :: Γ2) S2 H2 (f :: fs2) := w2
    obtain ⟨hu, e4⟩ := VS.of w2'.hd hp
    subst e4
    obtain ⟨ws, q7, q8⟩ := star_cell w2'.tl hj hn
    have hl := vss_len q8
    obtain ⟨w3, st3⟩ := star_upd (o := .lst (ws ++ [u])) (c' := .lst (ss ++ [s2])) w2'.tl hj hn ⟨_, upd_same, VSs.snoc hu q8⟩
    refine ⟨a, ws, u, rfl, rfl, q7, by omega, ?_⟩
    have st12 : Step S H fs.flatten S2 H2 fs2.flatten := (by simpa using st1 : Step S H fs.flatten S1 H1 fs1.flatten).trans (by simpa using st2)
    exact (P.trans (st12.trans st3)).dat w3 hk .non
  | [], _, l1, _, _, _ => simp at l1
  | _ :: _ :: _, _, l1, _, _, _ => simp at l1
  | [_], [], _, l2, _, _ => simp at l2
  | [_], _ :: _ :: _, _, l2, _, _ => simp at l2
theorem e_pop0C (j n : Nat) {to : TE} {ta : TA} (h : EvP K to Γ fun s Γ1 => ∃ a, s = .raw (.ref a) ∧ (∃ v Θ ss, Γ1[j]? = some (.res (star v Θ)) ∧ Θ[n]? = some (a, .lst ss)) ∧ EvA K ta Γ1 fun rs Γ2 => ∃ v Θ s0 ss, Γ2[j]? = some (.res (star v Θ)) ∧ Θ[n]? = some (a, .lst (s0 :: ss)) ∧ rs = [.dat (.int 0)] ∧ k s0 (Γ2.set j (.res (star v (Θ.set n (a, .lst ss)))))) :
    EvP K (tBM K "list" rPopAt to ta) Γ k := by
  intro σ S H fs Q w P
  refine h σ S H fs _ w fun x r1 Γ1 S1 H1 f1 fs1 hb w1 st1 => ?_
  obtain ⟨a, rfl, ⟨v0, Θ0, ss0, hj0, hn0⟩, hA⟩ := hb
  obtain ⟨e0, e1⟩ := w1.hd
  subst e0
  cases e1
  obtain ⟨vs0, q3, q4⟩ := star_cell w1.tl hj0 hn0
  refine ⟨.inl ⟨rfl, vs0, .inl (.inl q3)⟩, ?_⟩
  refine hA σ S1 H1 fs1 _ w1.tl fun vs rs Γ2 S2 H2 frs fs2 hk l1 l2 w2 st2 => ?_
  obtain ⟨v, Θ, s0, ss, hj, hn, rfl, hk⟩ := hk
  match vs, frs, l1, l2, w2, st2 with
  | [u], [f], _, _, w2, st2 =>
    have w2' : Wd K (some u :: σ) (.dat (.int 0) :: Γ2) S2 H2 (f :: fs2) := w2
    obtain ⟨e4, u', e5, hu⟩ := w2'.hd
    subst e4
    cases e5; cases hu
    obtain ⟨ws, q7, q8⟩ := star_cell w2'.tl hj hn
    cases q8 with
    | @cons y _ ys _ hy hys =>
      obtain ⟨w3, st3⟩ := star_upd (o := .lst ys) (c' := .lst ss) w2'.tl hj hn ⟨_, upd_same, hys⟩
      refine ⟨a, y :: ys, 0, 0, y, rfl, rfl, q7, by decide, by decide, by simp [seqIndex?], rfl, ?_⟩
      have st12 : Step S H fs.flatten S2 H2 fs2.flatten := (by simpa using st1 : Step S H fs.flatten S1 H1 fs1.flatten).trans (by simpa using st2)
      have P3 := P.trans (st12.trans st3)
      exact P3 y s0 _ S2 _ [] fs2 hk (w3.put hy.ok) (by simpa using Step.refl)
  | [], _, l1, _, _, _ => simp at l1
  | _ :: _ :: _, _, l1, _, _, _ => simp at l1
  | [_], [], _, l2, _, _ => simp at l2
  | [_], _ :: _ :: _, _, l2, _, _ => simp at l2
end Dl
namespace Dl
open PySem PySem.Spec PyProof.Rows L2
variable {K : Frag} {Γ : List Sl} {k : Sl → List Sl → Prop} {O : Out}
def HasL (Γ : List Sl) (a : Addr) (ss : List Sl) : Prop := (∃ (j n : Nat) (v : V) (Θ : List (Addr × Cell)), Γ[j]? = some (.res (star v Θ)) ∧ Θ[n]? = some (a, .lst ss)) ∨ ∃ (j : Nat) (ds : List PyData), Γ[j]? = some (.res (ownL a ds)) ∧ ss = ds.map .dat
theorem HasL.s (j n : Nat) {v : V} {Θ : List (Addr × Cell)} {a : Addr} {ss : List Sl} (h1 : Γ[j]? = some (.res (star v Θ))) (h2 : Θ[n]? = some (a, .lst ss)) : HasL Γ a ss := .inl ⟨j, n, v, Θ, h1, h2⟩
theorem HasL.o (j : Nat) {a : Addr} {ds : List PyData} (h1 : Γ[j]? = some (.res (ownL a ds))) : HasL Γ a (ds.map .dat) := .inr ⟨j, ds, h1, rfl⟩
theorem HasL.cons {s : Sl} {a : Addr} {ss : List Sl} (h : HasL Γ a ss) : HasL (s :: Γ) a ss := by
  rcases h with ⟨j, n, v, Θ, h1, h2⟩ | ⟨j, ds, h1, h2⟩
  · exact .inl ⟨j + 1, n, v, Θ, by simpa using h1, h2⟩
  · exact .inr ⟨j + 1, ds, by simpa using h1, h2⟩
theorem HasL.at {σ : List (Option V)} {S H : Hp} {fs : List (List Addr)} {a : Addr} {ss : List Sl} (h : HasL Γ a ss) (w : Wd K σ Γ S H fs) : ∃ vs, H a = some (.lst vs) ∧ VSs K S vs ss := by
  rcases h with ⟨j, n, v, Θ, h1, h2⟩ | ⟨j, ds, h1, rfl⟩
  · exact star_cell w h1 h2
  · obtain ⟨x, fp, hx, hf, e1, e2, vs, h3, h4⟩ := w.sat.get h1
    exact ⟨vs, h3, VSs.of_dats h4⟩
theorem i_sqC {tl : TE} {ki : (Nat → Sl) → Nat → (List Sl → Prop) → List Sl → Prop} (h : EvP K tl Γ fun r Γ1 => ∃ a ss, r = .raw (.ref a) ∧ HasL Γ1 a ss ∧ (ss.length ≤ sizeLine → ki (fun i => ss.getD i .no) ss.length (fun Γ => HasL Γ a ss) Γ1)) : EvI K (iSq K tl) Γ ki := by
  intro σ S H fs R w P
  refine h σ S H fs _ w fun v r Γ1 S1 H1 f1 fs1 hb w1 st1 => ?_
  obtain ⟨a, ss, rfl, hL, hk⟩ := hb
  obtain ⟨e0, e1⟩ := w1.hd
  subst e0
  cases e1
  obtain ⟨vs, hH, hvs⟩ := hL.at w1.tl
  have hl := vss_len hvs
  refine .inl ⟨a, vs, rfl, .inl (.inl hH), fun hz => P _ _ _ _ Γ1 S1 H1 fs1 (fun _ _ h => h.cons) (hk (by omega)) w1.tl (by simpa using st1) fun i σ2 Γ2 S2 H2 fs2 hi hG w2 st2 => ?_⟩
  obtain ⟨us, hU, hus⟩ := hG.at w2
  have hl2 := vss_len hus
  refine ⟨fun hlt => ⟨⟨us, us[i]'(by omega), .inl (.inl hU), List.getElem?_eq_getElem (by omega)⟩, fun x H' y => ?_⟩, fun he => ⟨us, .inl (.inl hU), by omega⟩⟩
  obtain ⟨rfl, y⟩ := y
  have hx := y us (.inl (.inl hU))
  have hs : ss[i]? = some (ss.getD i .no) := by
    rw [List.getD_eq_getElem?_getD, List.getElem?_eq_getElem hlt]
    rfl
  obtain ⟨u, h1, h2⟩ := VSs.get hus hs
  rw [hx] at h1
  cases h1
  exact ⟨S2, w2.put h2.ok, Step.refl⟩
theorem cb1raw {r : List V → Hp → VK → Prop} {u : V} (h : ∀ σ S H fs Q, Wd K σ Γ S H fs → Post K σ S H fs.flatten k Q → r [u] H Q) : CbK K r [.raw u] Γ k := by
  intro σ S H frs fs vs Q l1 l2 w P
  match vs, frs, l1, l2, w, P with
  | [v], [f], _, _, w, P =>
    have w' : Wd K (some v :: σ) (.raw u :: Γ) S H (f :: fs) := w
    obtain ⟨e0, e1⟩ := w'.hd
    subst e0
    cases e1
    exact h σ S H fs Q w'.tl (P.trans (Step.refl.sub fun a ha => by simpa using ha))
  | [], _, l1, _, _, _ => simp at l1
  | _ :: _ :: _, _, l1, _, _, _ => simp at l1
  | [_], [], _, l2, _, _ => simp at l2
  | [_], _ :: _ :: _, _, l2, _, _ => simp at l2
theorem cb_lenC {a : Addr} {ss : List Sl} (hL : HasL Γ a ss) (hk : k (.dat (.int ss.length)) Γ) : CbK K (rLen K) [.raw (.ref a)] Γ k :=
  cb1raw fun σ S H fs Q w P => by
    obtain ⟨vs, hH, hvs⟩ := hL.at w
    exact ⟨.ref a, ss.length, rfl, .inl ⟨vs, .inl (.inl hH), (vss_len hvs).symm⟩, P.dat w hk (.int _)⟩
theorem cb_listC {a : Addr} {ds : List PyData} (hL : HasL Γ a (ds.map .dat)) (hk : k (.dat (.list ds)) Γ) : CbK K (rListU K) [.raw (.ref a)] Γ k :=
  cb1raw fun σ S H fs Q w P => by
    obtain ⟨vs, hH, hvs⟩ := hL.at w
    exact ⟨a, vs, rfl, .inl (.inl (.inl hH)), fun p hp => P.new w hk hp (dp_lst_new (w.good.sub.none hp) (VSs.dats hvs))⟩
theorem cb_tupleC {a : Addr} {ds : List PyData} (hL : HasL Γ a (ds.map .dat)) (hk : k (.dat (.tuple ds)) Γ) : CbK K (rTupU K) [.raw (.ref a)] Γ k :=
  cb1raw fun σ S H fs Q w P => by
    obtain ⟨vs, hH, hvs⟩ := hL.at w
    exact ⟨a, vs, rfl, .inl ⟨.inl (.inl hH), fun p hp => P.new w hk hp (dp_tup_new (w.good.sub.none hp) (VSs.dats hvs))⟩⟩
theorem op_ixL {a : Addr} {ss : List Sl} {i : Int} {u : Sl} (hL : HasL Γ a ss) (hi : atI ss i = some u) (hk : k u Γ) : OpK K (uIx K) (.raw (.ref a)) (.dat (.int i)) Γ k := by
  intro σ S H f1 f2 fs x y Q w P
  obtain ⟨e0, e1⟩ := w.hd
  obtain ⟨e2, y', e3, hy⟩ := w.tl.hd
  subst e0 e2
  cases e1; cases e3; cases hy
  obtain ⟨vs, hH, hvs⟩ := hL.at w.tl.tl
  have hl := vss_len hvs
  unfold atI at hi
  rw [← hl] at hi
  cases q : ixN vs.length i with
  | none => rw [q] at hi; cases hi
  | some m =>
    rw [q] at hi
    obtain ⟨z, hz, hzs⟩ := VSs.get hvs hi
    refine .inl ⟨a, vs, i, z, rfl, rfl, .inl (.inl hH), by unfold atI; rw [q]; exact hz, ?_⟩
    exact (Post.drop2 P) z u Γ S H [] fs hk (w.tl.tl.put hzs.ok) (by simpa using Step.refl)
theorem own_dd {σ : List (Option V)} {S H : Hp} {fs : List (List Addr)} {a : Addr} {ds : List PyData} (hL : HasL Γ a (ds.map .dat)) (w : Wd K σ Γ S H fs) : Dp K H (.ref a) (.list ds) := by
  obtain ⟨vs, hH, hvs⟩ := hL.at w
  exact .lst (.inl (.inl hH)) (DdAll.dps (Le.dps w.good.sub (VSs.dats hvs)))
theorem op_neC {a : Addr} {ds : List PyData} {e : PyData} (hL : HasL Γ a (ds.map .dat)) (h1 : SeqAt.shaped (.list ds) = true) (h2 : SeqAt.shaped e = true) (hk : k (.dat (.bool (!PyData.eqv (.list ds) e))) Γ) : OpK K (uNe K) (.raw (.ref a)) (.dat e) Γ k := by
  intro σ S H f1 f2 fs x y Q w P
  obtain ⟨e0, e1⟩ := w.hd
  obtain ⟨e2, y', e3, hy⟩ := w.tl.hd
  subst e0 e2
  cases e1; cases e3
  exact ⟨_, _, own_dd hL w.tl.tl, (w.good.sub.dp hy).dp, h1, h2, (Post.drop2 P).dat w.tl.tl hk (.bl _)⟩
theorem op_eqC {a : Addr} {ds : List PyData} {e : PyData} (hL : HasL Γ a (ds.map .dat)) (h1 : SeqAt.shaped (.list ds) = true) (h2 : SeqAt.shaped e = true) (hk : k (.dat (.bool (PyData.eqv (.list ds) e))) Γ) : OpK K (uEq K) (.raw (.ref a)) (.dat e) Γ k := by
  intro σ S H f1 f2 fs x y Q w P
  obtain ⟨e0, e1⟩ := w.hd
  obtain ⟨e2, y', e3, hy⟩ := w.tl.hd
  subst e0 e2
  cases e1; cases e3
  exact ⟨_, _, own_dd hL w.tl.tl, (w.good.sub.dp hy).dp, h1, h2, (Post.drop2 P).dat w.tl.tl hk (.bl _)⟩
theorem e_slC {te : TE} {tl th : TO} (h : EvP K te Γ fun r Γ1 => EvO K tl Γ1 fun lo Γ2 => EvO K th Γ2 fun hi Γ3 => ∃ a ds, r = .raw (.ref a) ∧ HasL Γ3 a (ds.map .dat) ∧ k (.dat (.list (cutG ds lo hi))) Γ3) : EvP K (tSl (rSlU K) te tl th) Γ k := by
  intro σ S H fs Q w P
  refine h σ S H fs _ w fun v r Γ1 S1 H1 f1 fs1 hl w1 st1 => ?_
  refine hl σ S1 H1 fs1 _ w1.tl fun lo Γ2 S2 H2 fs2 hh w2 st2 => ?_
  refine hh σ S2 H2 fs2 _ w2 fun hi Γ3 S3 H3 fs3 hk w3 st3 => ?_
  obtain ⟨a, ds, rfl, hL, hk⟩ := hk
  obtain ⟨e0, e1⟩ := w1.hd
  subst e0
  cases e1
  have P3 : Post K σ S3 H3 fs3.flatten k Q := P.trans (((by simpa using st1 : Step S H fs.flatten S1 H1 fs1.flatten).trans st2).trans st3)
  obtain ⟨vs, hH, hvs⟩ := hL.at w3
  exact .inl ⟨a, vs, rfl, .inl (.inl hH), fun p hp => P3.new w3 hk hp (dp_lst_new (w3.good.sub.none hp) (dps_cut (VSs.dats hvs)))⟩
theorem valV_zip : ∀ {ns : List Str} {vs : List V} {q : Nat} {f : Str} {v : V}, ns.Nodup → ns[q]? = some f → vs[q]? = some v → valV ((ns.map (Sum.inr : Str → Key)).zip vs) (Sum.inr f) = some v
  | [], _, _, _, _, _, h, _ => by simp at h
  | _ :: _, [], _, _, _, _, _, h => by simp at h
  | n :: ns, u :: vs, 0, f, v, _, h1, h2 => by
    simp at h1 h2
    subst h1 h2
    exact valV_pos (p := (Sum.inr n, u)) rfl
  | n :: ns, u :: vs, q + 1, f, v, nd, h1, h2 => by
    simp only [List.getElem?_cons_succ] at h1 h2
    have hne : ¬ n = f := fun e => (List.nodup_cons.mp nd).1 (by rw [e]; exact List.mem_of_getElem? h1)
    rw [List.map_cons, List.zip_cons_cons]
    rw [valV_neg (p := (Sum.inr n, u)) fun e => hne (Sum.inr.inj e)]
    exact valV_zip (List.nodup_cons.mp nd).2 h1 h2
theorem map_zip_set : ∀ {ns : List Str} {vs : List V} {q : Nat} {f : Str} {v : V}, ns.Nodup → ns.length = vs.length → ns[q]? = some f → ((ns.map (Sum.inr : Str → Key)).zip vs).map (fun kv => if kv.1 = Sum.inr f then (kv.1, v) else kv) = (ns.map Sum.inr).zip (vs.set q v)
  | [], _, _, _, _, _, _, h => by simp at h
  | _ :: _, [], _, _, _, _, h, _ => by simp at h
  | n :: ns, u :: vs, 0, f, v, nd, hl, h1 => by
    simp at h1
    subst h1
    have hh : ∀ {ms : List Str} {us : List V}, n ∉ ms → ((ms.map (Sum.inr : Str → Key)).zip us).map (fun kv => if kv.1 = Sum.inr n then (kv.1, v) else kv) = (ms.map Sum.inr).zip us := by
      intro ms
      induction ms with
      | nil => intro us _; simp
      | cons m ms ih =>
        intro us hn
        cases us with
        | nil => simp
        | cons z us =>
          simp only [List.map_cons, List.zip_cons_cons]
          rw [if_neg (fun e => hn (by rw [← Sum.inr.inj e]; exact List.mem_cons_self)), ih fun q => hn (List.mem_cons_of_mem _ q)]
    simp only [List.map_cons, List.zip_cons_cons, List.set_cons_zero]
    rw [hh (List.nodup_cons.mp nd).1]
    simp
  | n :: ns, u :: vs, q + 1, f, v, nd, hl, h1 => by
    simp only [List.getElem?_cons_succ] at h1
    have hne : ¬ n = f := fun e => (List.nodup_cons.mp nd).1 (by rw [e]; exact List.mem_of_getElem? h1)
    simp only [List.map_cons, List.zip_cons_cons, List.set_cons_succ]
    rw [if_neg fun e => hne (Sum.inr.inj e), map_zip_set (List.nodup_cons.mp nd).2 (by simpa using hl) h1]
theorem putK_zip {ns : List Str} {vs : List V} {q : Nat} {f : Str} {v : V} (nd : ns.Nodup) (hl : ns.length = vs.length) (h : ns[q]? = some f) : putK ((ns.map (Sum.inr : Str → Key)).zip vs) (Sum.inr f) v = (ns.map Sum.inr).zip (vs.set q v) := by
  unfold putK
  rw [if_pos, map_zip_set nd hl h]
  rw [valV_any]
  have hq : q < vs.length := by rw [← hl]; exact (List.getElem?_eq_some_iff.mp h).1
  rw [valV_zip nd h (List.getElem?_eq_getElem hq)]
  rfl
theorem e_dgetC (j n q : Nat) {to ti : TE} (h : EvP K to Γ fun s Γ1 => EvP K ti Γ1 fun s2 Γ2 => ∃ a v Θ ns ss f u, s = .raw (.ref a) ∧ s2 = .dat (.str f) ∧ Γ2[j]? = some (.res (star v Θ)) ∧ Θ[n]? = some (a, .dS ns ss) ∧ ns[q]? = some f ∧ ss[q]? = some u ∧ k u Γ2) : EvP K (tDGet to ti) Γ k := by
  intro σ S H fs Q w P
  refine h σ S H fs _ w fun x r Γ1 S1 H1 f1 fs1 hb w1 st1 => ?_
  refine hb σ S1 H1 fs1 _ w1.tl fun y r2 Γ2 S2 H2 f2 fs2 hc w2 st2 => ?_
  obtain ⟨a, v, Θ, ns, ss, f, u, rfl, rfl, hj, hn, hq, hu, hk⟩ := hc
  obtain ⟨e0, e1⟩ := w1.hd
  obtain ⟨e2, y', e3, hy⟩ := w2.hd
  subst e0 e2
  cases e1; cases e3; cases hy
  obtain ⟨nd, hl, vs, hH, hvs⟩ := star_cell w2.tl hj hn
  obtain ⟨z, hz, hzs⟩ := VSs.get hvs hu
  refine ⟨a, z, rfl, ?_, ?_⟩
  · have := DGet.k (k := Sum.inr f) hH
    rw [valV_zip nd hq hz] at this
    exact this
  · have P2 := P.trans ((by simpa using st1 : Step S H fs.flatten S1 H1 fs1.flatten).trans (by simpa using st2 : Step S1 H1 fs1.flatten S2 H2 fs2.flatten))
    exact P2 z u Γ2 S2 H2 [] fs2 hk (w2.tl.put hzs.ok) (by simpa using Step.refl)
theorem x_dputC (j n q : Nat) {to ti te : TE} (h : EvP K te Γ fun s Γ1 => Pers s ∧ EvP K to Γ1 fun s2 Γ2 => EvP K ti Γ2 fun s3 Γ3 => ∃ a v Θ ns ss f, s2 = .raw (.ref a) ∧ s3 = .dat (.str f) ∧ Γ3[j]? = some (.res (star v Θ)) ∧ Θ[n]? = some (a, .dS ns ss) ∧ ns[q]? = some f ∧ ns.length < 1000 ∧ O.nx (Γ3.set j (.res (star v (Θ.set n (a, .dS ns (ss.set q s))))))) : ExS K (sDPut to ti te) Γ O := by
  intro σ S H fs D w E
  refine h σ S H fs _ w fun y s Γ1 S1 H1 f1 fs1 hb w1 st1 => ?_
  obtain ⟨hp, hb⟩ := hb
  obtain ⟨hv, e0⟩ := VS.of w1.hd hp
  subst e0
  refine hb σ S1 H1 fs1 _ w1.tl fun x s2 Γ2 S2 H2 f2 fs2 hc w2 st2 => ?_
  refine hc σ S2 H2 fs2 _ w2.tl fun z s3 Γ3 S3 H3 f3 fs3 hd w3 st3 => ?_
  obtain ⟨a, v, Θ, ns, ss, f, rfl, rfl, hj, hn, hq, hz, hk⟩ := hd
  obtain ⟨e1, e2⟩ := w2.hd
  obtain ⟨e3, z', e4, hz'⟩ := w3.hd
  subst e1 e3
  cases e2; cases e4; cases hz'
  obtain ⟨nd, hl, vs, hH, hvs⟩ := star_cell w3.tl hj hn
  have hlen := vss_len hvs
  refine ⟨a, _, rfl, DPut.k (k := Sum.inr f) hH (by rw [List.length_zip, List.length_map, sizeLine_eq]; omega), ?_⟩
  rw [putK_zip nd (by omega) hq]
  have hv2 := ((hv.mono st2.le).mono st3.le)
  obtain ⟨w4, st4⟩ := star_upd (o := .dK ((ns.map Sum.inr).zip (vs.set q y))) (c' := .dS ns (ss.set q s)) w3.tl hj hn ⟨nd, by simpa using hl, _, upd_same, VSs.set hv2 q hvs⟩
  have stA : Step S H fs.flatten S3 H3 fs3.flatten := ((by simpa using st1 : Step S H fs.flatten S1 H1 fs1.flatten).trans (by simpa using st2)).trans (by simpa using st3)
  exact (E.nx.step (stA.trans st4)) σ _ S3 _ fs3 hk w4 Step.refl
theorem star_cons {σ : List (Option V)} {S H : Hp} {fs : List (List Addr)} {v u : V} {Θ Θ' : List (Addr × Cell)} {f g : List Addr} (w : Wd K (some v :: some u :: σ) (.res (star v Θ) :: .res (star u Θ') :: Γ) S H (f :: g :: fs)) :
    Wd K (some u :: σ) (.res (star u (Θ ++ Θ')) :: Γ) S H ((f ++ g) :: fs) := by
  obtain ⟨e1, e2, e3⟩ := w.hd
  obtain ⟨e4, e5, e6⟩ := w.tl.hd
  have e2 : f = Θ.map (·.1) := e2
  have e5 : g = Θ'.map (·.1) := e5
  refine ⟨w.good.perm (by simp), .cons ⟨rfl, by rw [e2, e5, List.map_append], fun p hp => ?_⟩ w.tl.tl.sat⟩
  rcases List.mem_append.mp hp with q | q
  · exact e3 p q
  · exact e6 p q
theorem star_part {σ : List (Option V)} {S H : Hp} {fs : List (List Addr)} {v u : V} {Θ Θ' : List (Addr × Cell)} {f : List Addr} (w : Wd K (some u :: σ) (.res (star u (Θ ++ Θ')) :: Γ) S H (f :: fs)) :
    Wd K (some v :: some u :: σ) (.res (star v Θ) :: .res (star u Θ') :: Γ) S H (Θ.map (·.1) :: Θ'.map (·.1) :: fs) := by
  obtain ⟨e1, e2, e3⟩ := w.hd
  have e2 : f = (Θ ++ Θ').map (·.1) := e2
  subst e2
  refine ⟨w.good.perm (by simp), .cons ⟨rfl, rfl, fun p hp => e3 p (List.mem_append_left _ hp)⟩ (.cons ⟨rfl, rfl, fun p hp => e3 p (List.mem_append_right _ hp)⟩ w.tl.sat)⟩
theorem star_perm {K S H fp} {v : V} {Θ Θ' : List (Addr × Cell)} (p : Θ.Perm Θ') (h : (star v Θ).p K S H fp) : (star v Θ').p K S H (Θ'.map (·.1)) ∧ fp.Perm (Θ'.map (·.1)) :=
  ⟨⟨rfl, fun q hq => h.2 q (p.mem_iff.mpr hq)⟩, by rw [h.1]; exact p.map _⟩
end Dl
namespace Dl
open PySem PySem.Spec PyProof.Rows L2
structure CalleeM (P : Program) (w : World) (K : Frag) (mg : Str → Option Value) (base : Heap) (C : Addr) (m : Str) (k : Nat) (ps : List Str) (sp : Sp) : Prop where
  ex : ∃ f fd, FnOk P w K mg base CX0 k f fd ps sp ∧ Meth K C m f ∧ Binds K fd ps []
structure CalleeI (P : Program) (w : World) (K : Frag) (mg : Str → Option Value) (base : Heap) (x : Str) (C : Addr) (k : Nat) (ps : List Str) (sp : Sp) : Prop where
  ex : ∃ f fd, FnOk P w K mg base CX0 k f fd ps sp ∧ Mk K C f ∧ mg x = some (.ref C) ∧ Binds K fd ps []
structure CalleeP (P : Program) (w : World) (K : Frag) (mg : Str → Option Value) (base : Heap) (C : Addr) (m : Str) (k : Nat) (ps : List Str) (sp : Sp) : Prop where
  ex : ∃ p f fd, FnOk P w K mg base CX0 k f fd ps sp ∧ PropOf K C m p f ∧ Binds K fd ps []
theorem fn_mk {P : Program} {w : World} {K : Frag} {mg : Str → Option Value} {base : Heap} {x qual : Str} {params : Arguments} {body : List Stmt} {scope : Scope} {f : Addr} {fd : FuncData} {N ps : List Str} {k : Nat} {F : FSpec}
    (FD : FunD K x qual params body scope [] [] f fd) (S : FnScope N ps scope)
    (hn : ∀ args k, F args k → args.length = ps.length) (t : TS) (ht : ∀ args k, F args k → ExS K t (args ++ List.replicate (N.length - args.length) .no) (fnOut args k))
    (hd : ∀ (cdv : Value) (A : Around) (outer : List Env) (s : Shared) (H : Hp) (E : XK), Room k (A.deeper (envOfC qual scope s.heap.objs.size f cdv)) → PSs (cxOf CX0 P w K mg base N qual scope f cdv A outer s H E).nox body t) :
    FnOk P w K mg base CX0 (k + 1) f fd ps (spOf K F) :=
  FD.ok S (fun vs H Q E h => sp_len hn h) (fun cdv A outer s H vs Q E hr h => ⟨t, (hd cdv A outer s H E hr).nox, fn_body ht h⟩)
section
variable {X : Cx} {x m : Str} {j k : Nat} {C : Addr} {ps : List Str} {sp : Sp} {p pos apos : Pos} {e o : Expr} {es : List Expr} {ta : TE} {t : TA}
theorem pe_um {pl : Sem Bool} (he : PE X o ta) (c : Cls X.K C) (M : CalleeM X.prog X.w X.K X.mg X.base C m j ps sp) (hr : Room k X.A) (hj : j ≤ k) (ha : PA X (e :: es) t)
    (hst : starEach (e :: es) X.env = (false, eval e X.env) :: starEach es X.env := by rfl) (hpl : (backTo pos (starEach es X.env)).any (·.1) = false := by rfl)
    (ht : eval (.Call (.Attribute o m apos) (e :: es) [] pos) X.env = (do
      let ov ← eval o X.env
      standAt apos.atName
      let (f, first) ← holding [ov] (getMethod ov m pl)
      callWith pos f first (backTo pos (starEach (e :: es) X.env)) (backToKw pos (keywordEach [] X.env))) := by rfl) :
    PE X (.Call (.Attribute o m apos) (e :: es) [] pos) (tMeth C m sp [] E0 ta t) := by
  obtain ⟨f, fd, F, hm, hb⟩ := M.ex
  exact pe_meth he c hm F (hr.mono hj) hb .nil pass0 ha hst hpl ht
theorem pe_um0 {pl : Sem Bool} (he : PE X o ta) (c : Cls X.K C) (M : CalleeM X.prog X.w X.K X.mg X.base C m j ps sp) (hr : Room k X.A) (hj : j ≤ k)
    (ht : eval (.Call (.Attribute o m apos) [] [] pos) X.env = (do
      let ov ← eval o X.env
      standAt apos.atName
      let (f, first) ← holding [ov] (getMethod ov m pl)
      callWith pos f first (backTo pos (starEach [] X.env)) (backToKw pos (keywordEach [] X.env))) := by rfl) :
    PE X (.Call (.Attribute o m apos) [] [] pos) (tMeth C m sp [] E0 ta tNil) := by
  obtain ⟨f, fd, F, hm, hb⟩ := M.ex
  exact pe_meth0 he c hm F (hr.mono hj) hb .nil pass0 ht
theorem pe_mk {dvs : List V} {ds : List Value} {f : Addr} {fd : FuncData} (M : Mk X.K C f) (F : FnOk X.prog X.w X.K X.mg X.base CX0 j f fd ps sp) (hm : X.mg x = some (.ref C)) (hb : Binds X.K fd ps ds) (hd : Vals dvs ds) (hr : Room k X.A) (hj : j + 1 ≤ k) (hg : Gl X x) (ha : PA X (e :: es) t) (hdb : (x == ("__debug__" : Str)) = false := by decide) (he : starEach (e :: es) X.env = (false, eval e X.env) :: starEach es X.env := by rfl) (hpl : (backTo pos (starEach es X.env)).any (·.1) = false := by rfl) :
    PE X (.Call (.Name x p) (e :: es) [] pos) (tMake C sp dvs E0 t) := pe_make M F (hr.mono hj) hg hm hb hd pass0 ha hdb he hpl
theorem pe_up {f : Str} (he : PE X e ta) (c : Cls X.K C) (M : CalleeP X.prog X.w X.K X.mg X.base C f j ps sp) (hr : Room k X.A) (hj : j + 1 ≤ k) (hab : attributeBase e f X.env (eval e X.env) = eval e X.env) : PE X (.Attribute e f pos) (tProp C sp [] E0 ta) := by
  obtain ⟨q, g, fd, F, hm, hb⟩ := M.ex
  exact pe_prop he c hm F (hr.mono hj) hb .nil pass0 hab
end
variable {K : Frag} {Γ : List Sl} {k : Sl → List Sl → Prop} {O : Out}
def IsIns (C : Addr) (m : Str) (r : Res) : Prop := ∀ K S H fp, r.p K S H fp → ∃ a dx fs, r.v = .ref a ∧ H a = some (.ins C dx fs) ∧ fs.lookup m = none
theorem lookup_zip_none {α : Type} : ∀ {ns : List Str} {vs : List α} {f : Str}, f ∉ ns → (ns.zip vs).lookup f = none
  | [], _, _, _ => by simp
  | _ :: _, [], _, _ => by simp
  | n :: ns, u :: vs, f, h => by
    have hb : (f == n) = false := beq_eq_false_iff_ne.mpr fun e => h (by simp [e])
    simp only [List.zip_cons_cons, List.lookup, hb]
    exact lookup_zip_none fun q => h (List.mem_cons_of_mem _ q)
theorem isIns_star {C : Addr} {m : Str} {a : Addr} {ns : List Str} {ss : List Sl} {Θ : List (Addr × Cell)} {n : Nat} (h : Θ[n]? = some (a, .ins C ns ss)) (hm : m ∉ ns) : IsIns C m (star (.ref a) Θ) := fun K S H fp hp => by
  obtain ⟨_, h2⟩ := hp
  obtain ⟨_, _, dx, vs, hH, _⟩ := h2 _ (List.mem_of_getElem? h)
  exact ⟨a, dx, _, rfl, hH, lookup_zip_none hm⟩
theorem e_meth {C : Addr} {m : Str} {F : FSpec} {to : TE} {ta : TA} (j : Nat) (h : EvP K to Γ fun s Γ1 => ∃ r : Res, s = .raw r.v ∧ Γ1[j]? = some (.res r) ∧ IsIns C m r ∧ EvA K ta Γ1 fun rs Γ2 => ∃ r2 : Res, r2.v = r.v ∧ Γ2[j]? = some (.res r2) ∧ F (.res r2 :: rs) fun r0 as' => ∃ r' : Res, as'[0]? = some (.res r') ∧ r'.v = r2.v ∧ as'.length = rs.length + 1 ∧ k r0 (Γ2.set j (.res r'))) :
    EvP K (tMeth C m (spOf K F) [] E0 to ta) Γ k := by
  intro σ S H fs Q w P
  refine h σ S H fs _ w fun x s Γ1 S1 H1 f1 fs1 hb w1 st1 => ?_
  obtain ⟨r, rfl, hj, hI, hA⟩ := hb
  obtain ⟨e0, e1⟩ := w1.hd
  subst e0
  cases e1
  obtain ⟨y, fp, hy, hf, e2, hp⟩ := w1.tl.sat.get hj
  obtain ⟨a, dx, fl, hv, hH, hl⟩ := hI K S1 H1 fp hp
  refine ⟨a, dx, fl, hv, hH, hl, ?_⟩
  have key : EvA K (tCons (tC r.v) ta) Γ1 fun rs Γ2 => ∃ r : Res, rs[0]? = some (.raw r.v) ∧ Γ2[j]? = some (.res r) ∧ F (rs.set 0 (.res r)) fun r0 as' => ∃ r' : Res, as'[0]? = some (.res r') ∧ r'.v = r.v ∧ as'.length = rs.length ∧ k r0 (Γ2.set j (.res r')) :=
    a_cons (e_c (hA.mono fun rs Γ2 ⟨r2, h2, h1, h3⟩ => ⟨r2, by rw [h2]; rfl, h1, h3⟩))
  exact e_call1 (E := E0) 0 j key σ S1 H1 fs1 Q w1.tl (P.trans (by simpa using st1))
theorem e_prop {C : Addr} {F : FSpec} {to : TE} (j : Nat) (h : EvP K to Γ fun s Γ1 => ∃ r : Res, s = .raw r.v ∧ Γ1[j]? = some (.res r) ∧ IsIns C (PySem.Str.ofString "") r ∧ F [.res r] fun r0 as' => ∃ r' : Res, as'[0]? = some (.res r') ∧ r'.v = r.v ∧ as'.length = 1 ∧ k r0 (Γ1.set j (.res r'))) :
    EvP K (tProp C (spOf K F) [] E0 to) Γ k := by
  intro σ S H fs Q w P
  refine h σ S H fs _ w fun x s Γ1 S1 H1 f1 fs1 hb w1 st1 => ?_
  obtain ⟨r, rfl, hj, hI, hA⟩ := hb
  obtain ⟨e0, e1⟩ := w1.hd
  subst e0
  cases e1
  obtain ⟨y, fp, hy, hf, e2, hp⟩ := w1.tl.sat.get hj
  obtain ⟨a, dx, fl, hv, hH, hl⟩ := hI K S1 H1 fp hp
  refine ⟨a, dx, fl, hv, hH, ?_⟩
  have key : EvA K (tCons (tC r.v) tNil) Γ1 fun rs Γ2 => ∃ r : Res, rs[0]? = some (.raw r.v) ∧ Γ2[j]? = some (.res r) ∧ F (rs.set 0 (.res r)) fun r0 as' => ∃ r' : Res, as'[0]? = some (.res r') ∧ r'.v = r.v ∧ as'.length = rs.length ∧ k r0 (Γ2.set j (.res r')) :=
    a_cons (e_c (a_nil ⟨r, rfl, hj, hA⟩))
  have q := e_call1 (E := E0) 0 j key σ S1 H1 fs1 Q w1.tl (P.trans (by simpa using st1))
  rw [← hv]
  exact q
theorem e_make {C : Addr} {F : FSpec} {ta : TA} {dvs : List V} {dss : List Sl} (hd : ∀ S, VSs K S dvs dss) (h : EvA K ta Γ fun rs Γ1 => ∀ x, F (.res (star (.ref x) [(x, .ins C [] [])]) :: (rs ++ dss)) fun r as' => r = .dat .none ∧ ∃ r' : Res, as'[0]? = some (.res r') ∧ r'.v = .ref x ∧ k (.res r') Γ1) : EvP K (tMake C (spOf K F) dvs E0 ta) Γ k := by
  intro σ S H fs Q w P
  refine h σ S H fs _ w fun vs rs Γ1 S1 H1 frs fs1 hF l1 l2 w1 st1 => ?_
  intro x dx hx hdx hne
  have lv : (vs.map some).length = rs.length := by simpa using l1
  obtain ⟨s1, s2⟩ := w1.sat.split lv l2
  have hx' : (upd H1 dx (.own x)) x = none := by rw [upd_ne hne.symm]; exact hx
  have nF : ∀ a ∈ (frs ++ fs1).flatten, a ≠ x ∧ a ≠ dx := fun a ha => ⟨fun e => w1.good.al a ha (by rw [e]; exact hx), fun e => w1.good.al a ha (by rw [e]; exact hdx)⟩
  have kp : ∀ a, a ≠ x → a ≠ dx → (upd (upd H1 dx (.own x)) x (.ins C dx [])) a = H1 a := fun a h1 h2 => by rw [upd_ne h1, upd_ne h2]
  have nSx : S1 x = none := w1.good.sub.none hx
  have leH : Le H1 (upd (upd H1 dx (.own x)) x (.ins C dx [])) := fun a o e => by
    rw [kp a (ne_of_none e hx) (ne_of_none e hdx)]
    exact e
  have cell : CellOk K S1 (upd (upd H1 dx (.own x)) x (.ins C dx [])) x (.ins C [] []) := ⟨List.nodup_nil, rfl, dx, [], upd_same, .nil⟩
  have g2 : Good S1 (upd (upd H1 dx (.own x)) x (.ins C dx [])) ([x] ++ (frs ++ fs1).flatten) := by
    refine ⟨w1.good.sub.trans leH, List.nodup_append.mpr ⟨by simp, w1.good.nd, fun a ha b hb e => ?_⟩, fun a ha => ?_, fun a ha => ?_⟩
    · simp only [List.mem_singleton] at ha
      exact (nF b hb).1 (by rw [← e, ha])
    · rcases List.mem_append.mp ha with q | q
      · simp only [List.mem_singleton] at q
        rw [q]; exact nSx
      · exact w1.good.dis a q
    · rcases List.mem_append.mp ha with q | q
      · simp only [List.mem_singleton] at q
        rw [q, upd_same]; simp
      · rw [kp a (nF a q).1 (nF a q).2]
        exact w1.good.al a q
  have sK : ∀ {xs : List (Option V)} {ss : List Sl} {gs : List (List Addr)}, SatL K S1 H1 xs ss gs → (∀ a ∈ gs.flatten, a ∈ (frs ++ fs1).flatten) → SatL K S1 (upd (upd H1 dx (.own x)) x (.ins C dx [])) xs ss gs := fun q hq => q.step (Le.refl _) fun a ha => kp a (nF a (hq a ha)).1 (nF a (hq a ha)).2
  have dS : ∀ {us : List V} {ts : List Sl}, VSs K S1 us ts → SatL K S1 (upd (upd H1 dx (.own x)) x (.ins C dx [])) (us.map some) ts (List.replicate ts.length []) := fun {us ts} q => by
    induction q with
    | nil => exact .nil
    | cons a b ih => exact .cons a.ok ih
  have rs1 := sK s1 fun a ha => by rw [List.flatten_append]; exact List.mem_append_left _ ha
  have rs2 := sK s2 fun a ha => by rw [List.flatten_append]; exact List.mem_append_right _ ha
  have dsl := (hd S1)
  have fl0 : (frs ++ List.replicate dss.length ([] : List Addr)).flatten = frs.flatten := by rw [List.flatten_append, flat_nils, List.append_nil]
  have wA : Wd K ((V.ref x :: (vs ++ dvs)).map some) (.res (star (.ref x) [(x, .ins C [] [])]) :: (rs ++ dss)) S1 (upd (upd H1 dx (.own x)) x (.ins C dx [])) ([x] :: (frs ++ List.replicate dss.length [])) := by
    refine ⟨?_, ?_⟩
    · rw [List.flatten_cons, fl0]
      refine g2.sublist ((List.Sublist.refl _).append ?_)
      rw [List.flatten_append]
      exact List.sublist_append_left _ _
    · rw [List.map_cons, List.map_append]
      refine .cons ⟨rfl, rfl, fun p hp => ?_⟩ (rs1.append (dS dsl))
      simp only [List.mem_singleton] at hp
      subst hp
      exact cell
  have st2 : Step S1 H1 (frs ++ fs1).flatten S1 (upd (upd H1 dx (.own x)) x (.ins C dx [])) ([x] ++ (frs ++ fs1).flatten) :=
    ⟨Le.refl _, fun a o e _ => leH a o e, fun a e => .inl e, fun a ha => by
      rcases List.mem_append.mp ha with q | q
      · simp only [List.mem_singleton] at q
        rw [q]; exact .inl hx
      · exact .inr q, fun a e => by
      cases q : H1 a with
      | none => exact absurd q e
      | some o => rw [leH a o q]; simp⟩
  refine ⟨_, S1, _, _, wA, hF x, fun v r as' S2 H2 fr fs2 hk w2 st3 => ?_⟩
  obtain ⟨rfl, r', ha, hv, hk⟩ := hk
  obtain ⟨_, v', e3, hvn⟩ := w2.hd
  cases e3; cases hvn
  refine ⟨rfl, ?_⟩
  have wB : Wd K (σ ++ (V.ref x :: (vs ++ dvs)).map some) (Γ1 ++ (.res (star (.ref x) [(x, .ins C [] [])]) :: (rs ++ dss))) S1 (upd (upd H1 dx (.own x)) x (.ins C dx [])) (fs1 ++ ([x] :: (frs ++ List.replicate dss.length []))) := by
    refine ⟨g2.perm ?_, rs2.append wA.sat⟩
    rw [List.flatten_append, List.flatten_append, List.flatten_cons, fl0]
    refine List.Perm.trans ?_ (List.perm_append_comm)
    rw [List.append_assoc]
  obtain ⟨w3, st4⟩ := frame s2.lens.1 s2.lens.2 wB w2 st3
  match as', fs2, ha, w2, w3, st4 with
  | _ :: at', f2 :: fs2, ha, w2, w3, st4 =>
    simp only [List.getElem?_cons_zero, Option.some.injEq] at ha
    subst ha
    have h2 := w2.tl.hd
    obtain ⟨e5, h2p⟩ := h2
    have w4 : Wd K (some (.ref x) :: σ) (.res r' :: Γ1) S2 H2 (f2 :: fs1) := by
      have sat3 := w3.sat.split s2.lens.1 s2.lens.2
      refine ⟨(w3.good.sublist (F' := fs1.flatten ++ f2) ?_).perm List.perm_append_comm, .cons ⟨by rw [hv], h2p⟩ sat3.1⟩
      simp only [List.flatten_append, List.flatten_cons]
      exact (List.Sublist.refl _).append ((List.sublist_append_left f2 _).trans (List.sublist_append_right _ _))
    have st5 : Step S H fs.flatten S2 H2 (f2 :: fs1).flatten := by
      refine (st1.trans (st2.trans (st4.weak fun a ha => ?_))).sub fun a ha => ?_
      · rw [List.flatten_append, List.flatten_cons, fl0] at ha
        rw [List.flatten_append]
        simp only [List.mem_append] at ha ⊢
        rcases ha with q | q | q
        · exact .inr (.inr q)
        · exact .inl q
        · exact .inr (.inl q)
      · simp only [List.flatten_cons, List.flatten_append, List.mem_append] at ha ⊢
        rcases ha with q | q
        · exact .inr (.inr (.inl q))
        · exact .inl q
    exact P (.ref x) (.res r') Γ1 S2 H2 f2 fs1 hk w4 st5
  | [], _, ha, _, _, _ => simp at ha
  | _ :: _, [], _, w2, _, _ => have := w2.sat.lens; simp at this
end Dl
namespace Dl
open PySem PySem.Spec PyProof.Rows L2
variable {K : Frag} {Γ : List Sl} {k : Sl → List Sl → Prop} {O : Out}
theorem allocStar {σ : List (Option V)} {S H : Hp} {fs : List (List Addr)} {p : Addr} {o : HO} {c : Cell} (w : Wd K σ Γ S H fs) (hp : H p = none) (hd : CellOk K S (upd H p o) p c) :
    Wd K (some (.ref p) :: σ) (.res (star (.ref p) [(p, c)]) :: Γ) S (upd H p o) ([p] :: fs) ∧ Step S H fs.flatten S (upd H p o) ([p] :: fs).flatten := by
  have nS : S p = none := w.good.sub.none hp
  have nF : ∀ a ∈ fs.flatten, a ≠ p := fun a ha e => w.good.al a ha (by rw [e]; exact hp)
  have leH : Le H (upd H p o) := fun a u e => by rw [upd_ne (ne_of_none e hp)]; exact e
  refine ⟨⟨⟨w.good.sub.trans leH, ?_, fun a ha => ?_, fun a ha => ?_⟩, .cons ⟨rfl, rfl, fun q hq => by simp only [List.mem_singleton] at hq; subst hq; exact hd⟩ (w.sat.step (Le.refl _) fun a ha => upd_ne (nF a ha))⟩, Le.refl _, fun a u e _ => leH a u e, fun a e => .inl e, fun a ha => ?_, fun a e => ?_⟩
  · simp only [List.flatten_cons]
    exact List.nodup_cons.mpr ⟨fun q => nF p q rfl, w.good.nd⟩
  · rcases List.mem_cons.mp (show a ∈ p :: fs.flatten by simpa using ha) with rfl | q
    · exact nS
    · exact w.good.dis a q
  · rcases List.mem_cons.mp (show a ∈ p :: fs.flatten by simpa using ha) with rfl | q
    · rw [upd_same]; simp
    · rw [upd_ne (nF a q)]
      exact w.good.al a q
  · rcases List.mem_cons.mp (show a ∈ p :: fs.flatten by simpa using ha) with rfl | q
    · exact .inl hp
    · exact .inr q
  · by_cases q : a = p
    · subst q
      rw [upd_same]
      simp
    · rw [upd_ne q]
      exact e
theorem e_lcS {wi : TI} {g : TG} {tt : TT} {te : TE} {vs : List Nat} (hg : Sets g vs) (gm : GMono g) (h : EvI K wi Γ fun f n G Γ1 => ∃ W : Nat → List Sl → List Sl → Prop, n ≤ sizeLine ∧ W 0 [] (wipeG Γ1 vs) ∧ (∀ i acc Γ, i ≤ n → W i acc (wipeG Γ vs) → G (wipeG Γ vs)) ∧
    (∀ i acc Γ, i < n → acc.length ≤ i → W i acc (wipeG Γ vs) → EvG K g (f i) (wipeG Γ vs) fun Γ2 => EvB K tt Γ2 fun b Γ3 => (b = true → EvP K te Γ3 fun r Γ4 => Pers r ∧ W (i + 1) (acc ++ [r]) (wipeG Γ4 vs)) ∧ (b = false → W (i + 1) acc (wipeG Γ3 vs))) ∧
    (∀ acc Γ, acc.length ≤ n → W n acc (wipeG Γ vs) → ∀ D, k (.res (star (.ref D) [(D, .lst acc)])) (wipeG Γ vs))) : EvP K (tLc wi g tt te vs) Γ k := by
  intro σ S H fs Q w P
  refine h σ S H fs _ w fun J f n G Γ1 S1 H1 fs1 hG hk w1 st1 tn => ?_
  obtain ⟨W, hn, h0, hWG, hs, hd⟩ := hk
  intro D hD
  refine ⟨fun i m H2 => m = n - i ∧ i ≤ n ∧ ∃ acc Γ2 S2 fs2, W i acc (wipeG Γ2 vs) ∧ acc.length ≤ i ∧ Wd K (some (.ref D) :: σ) (.res (star (.ref D) [(D, .lst acc)]) :: wipeG Γ2 vs) S2 H2 ([D] :: fs2) ∧ Step S1 H1 fs1.flatten S2 H2 ([D] :: fs2).flatten, ⟨n, by simp, Nat.zero_le _, ?_⟩, ?_⟩
  · obtain ⟨w2, st2⟩ := allocStar (o := .lst []) (c := .lst []) w1 hD ⟨[], upd_same, .nil⟩
    have w3 : Wd K σ (wipeG Γ1 vs) S1 (upd H1 D (.lst [])) (wipeA [] fs1 vs) := ⟨w2.tl.good.sublist (flat_wipe vs), sat_unwipe (sat_wipe w2.tl.sat)⟩
    refine ⟨[], Γ1, S1, wipeA [] fs1 vs, h0, Nat.le_refl _, ⟨w2.good.sublist ?_, .cons w2.hd w3.sat⟩, st2.sub fun a => mem2 fun b hb => (flat_wipe vs).subset hb⟩
    simp only [List.flatten_cons]
    exact (List.Sublist.refl _).append (flat_wipe vs)
  · rintro i m H2 ⟨rfl, hi, acc, Γ2, S2, fs2, hW, hal, w2, st2⟩
    obtain ⟨t1, t2⟩ := tn i _ _ S2 H2 _ hi (hG _ _ (hWG i acc Γ2 hi hW)) w2 st2
    by_cases hlt : i < n
    · obtain ⟨hgo, hy⟩ := t1 hlt
      refine .inr ⟨hgo, fun H' => ∃ acc Γ2 S2 fs2, W (i + 1) acc (wipeG Γ2 vs) ∧ acc.length ≤ i + 1 ∧ Wd K (some (.ref D) :: σ) (.res (star (.ref D) [(D, .lst acc)]) :: wipeG Γ2 vs) S2 H' ([D] :: fs2) ∧ Step S1 H1 fs1.flatten S2 H' ([D] :: fs2).flatten, fun H' q => ⟨n - (i + 1), by omega, rfl, hlt, q⟩, fun x H' y => ?_⟩
      obtain ⟨S', w3, st3⟩ := hy x H' y
      have st23 := st2.trans st3
      have w4 := w3.swap2
      have w5 : Wd K (some x :: wipe σ vs) (f i :: wipeG Γ2 vs) S' H' ([] :: wipeA [] fs2 vs) := by
        have q := w3.tl.tl.wipe vs
        rw [show wipeG (wipeG Γ2 vs) vs = wipeG Γ2 vs from wipeA_idem] at q
        exact q.put w3.hd
      have fsub : ∀ a, a ∈ ([] :: wipeA [] fs2 vs).flatten → a ∈ fs2.flatten := fun a ha => (flat_wipe vs).subset (by simpa using ha)
      have wD : Wd K (some (.ref D) :: (some x :: wipe σ vs)) (.res (star (.ref D) [(D, .lst acc)]) :: (f i :: wipeG Γ2 vs)) S' H' ([D] :: ([] :: wipeA [] fs2 vs)) := by
        refine ⟨w3.tl.good.sublist ?_, .cons w3.tl.hd w5.sat⟩
        simp only [List.flatten_cons, List.nil_append]
        exact (List.Sublist.refl _).append (flat_wipe vs)
      have stD : Step S1 H1 fs1.flatten S' H' ([D] :: ([] :: wipeA [] fs2 vs)).flatten := st23.sub fun a ha => by
        have := mem2 (f := [D]) fsub ha
        simpa using this
      have key : g x (wipe σ vs) H' fun σ2 H2' => wipe σ2 vs = wipe σ vs → tt σ2 H2' fun b H3 => if b = true then te σ2 H3 fun y H4 => ∃ acc, H4 D = some (.lst acc) ∧ acc.length < sizeLine ∧ (∃ acc' Γ2 S2 fs2, W (i + 1) acc' (wipeG Γ2 vs) ∧ acc'.length ≤ i + 1 ∧ Wd K (some (.ref D) :: σ) (.res (star (.ref D) [(D, .lst acc')]) :: wipeG Γ2 vs) S2 (upd H4 D (.lst (acc ++ [y]))) ([D] :: fs2) ∧ Step S1 H1 fs1.flatten S2 (upd H4 D (.lst (acc ++ [y]))) ([D] :: fs2).flatten)
          else (∃ acc' Γ2 S2 fs2, W (i + 1) acc' (wipeG Γ2 vs) ∧ acc'.length ≤ i + 1 ∧ Wd K (some (.ref D) :: σ) (.res (star (.ref D) [(D, .lst acc')]) :: wipeG Γ2 vs) S2 H3 ([D] :: fs2) ∧ Step S1 H1 fs1.flatten S2 H3 ([D] :: fs2).flatten) := by
        refine hs i acc Γ2 hlt hal hW (wipe σ vs) S' H' [] _ x _ w5 fun σ2 Γ3 S3 H3 fs3 hB w6 st6 => ?_
        obtain ⟨w7, st7⟩ := frame (ts := [some (.ref D)]) (Θ := [.res (star (.ref D) [(D, .lst acc)])]) (ft := [[D]]) rfl rfl wD w6 st6
        have st8 := stD.trans st7
        intro hw
        refine hB σ2 S3 H3 fs3 _ w6 fun b Γ4 S4 H4 fs4 hT w8 st9 => ?_
        obtain ⟨w9, st10⟩ := frame (ts := [some (.ref D)]) (Θ := [.res (star (.ref D) [(D, .lst acc)])]) (ft := [[D]]) rfl rfl w7 w8 st9
        have st11 := st8.trans st10
        have back : ∀ (Γx : List Sl) (Sx Hx : Hp) (fx : List (List Addr)) (accx : List Sl), Wd K (some (.ref D) :: σ2) (.res (star (.ref D) [(D, .lst accx)]) :: Γx) Sx Hx ([D] :: fx) → Wd K (some (.ref D) :: σ) (.res (star (.ref D) [(D, .lst accx)]) :: wipeG Γx vs) Sx Hx ([D] :: wipeA [] fx vs) := fun Γx Sx Hx fx accx wx => by
          have q := wx.tl.wipe vs
          rw [hw] at q
          refine ⟨wx.good.sublist ?_, .cons wx.hd (sat_unwipe q.sat)⟩
          simp only [List.flatten_cons]
          exact (List.Sublist.refl _).append (flat_wipe vs)
        cases b with
        | true =>
          rw [if_pos rfl]
          refine hT.1 rfl σ2 S4 H4 fs4 _ w8 fun y r Γ5 S5 H5 f5 fs5 hE w10 st12 => ?_
          obtain ⟨hpr, hW'⟩ := hE
          obtain ⟨w11, st13⟩ := frame (ts := [some (.ref D)]) (Θ := [.res (star (.ref D) [(D, .lst acc)])]) (ft := [[D]]) rfl rfl w9 w10 st12
          obtain ⟨hyd, e0⟩ := VS.of w10.hd hpr
          subst e0
          have w11' : Wd K (some (.ref D) :: some y :: σ2) (.res (star (.ref D) [(D, .lst acc)]) :: r :: Γ5) S5 H5 ([D] :: [] :: fs5) := w11
          have w12 : Wd K (some (.ref D) :: σ2) (.res (star (.ref D) [(D, .lst acc)]) :: Γ5) S5 H5 ([D] :: fs5) := w11'.swap2.tl
          obtain ⟨ws, hws, hda⟩ := star_cell (n := 0) (j := 0) w12 rfl rfl
          have hlen := vss_len hda
          refine ⟨ws, hws, by omega, acc ++ [r], Γ5, S5, wipeA [] fs5 vs, hW', by simp; omega, ?_⟩
          obtain ⟨w13, st14⟩ := star_upd (j := 0) (n := 0) (o := .lst (ws ++ [y])) (c' := .lst (acc ++ [r])) w12 rfl rfl ⟨_, upd_same, VSs.snoc hyd hda⟩
          refine ⟨back _ _ _ _ _ w13, ?_⟩
          have st15 : Step S1 H1 fs1.flatten S5 H5 ([D] :: fs5).flatten := (st11.trans st13).sub fun a ha => by simpa using ha
          exact (st15.trans st14).sub fun a => mem2 fun b hb => (flat_wipe vs).subset hb
        | false =>
          rw [if_neg (by decide)]
          exact ⟨acc, Γ4, S4, wipeA [] fs4 vs, hT.2 rfl, Nat.le_succ_of_le hal, back _ _ _ _ _ w9, st11.sub fun a => mem2 fun b hb => (flat_wipe vs).subset hb⟩
      refine gm x _ H' _ _ (fun σ' H'' ⟨e, q⟩ => ?_) (hg x _ H' _ key)
      have e' : wipe σ' vs = wipe σ vs := by rw [e, wipe_eq, wipe_eq, wipeA_idem]
      exact ⟨e', q e'⟩
    · have e1 : i = n := by omega
      subst e1
      refine .inl ⟨t2 rfl, ?_⟩
      exact P _ _ _ S2 H2 [D] fs2 (hd acc Γ2 hal hW D) w2 (by simpa using st1.trans st2)
def Cells (r : Res) (Θ : List (Addr × Cell)) : Prop := ∀ K S H fp, r.p K S H fp → fp = Θ.map (·.1) ∧ ∀ p ∈ Θ, CellOk K S H p.1 p.2
theorem cells_star {v : V} {Θ : List (Addr × Cell)} : Cells (star v Θ) Θ := fun _ _ _ _ h => h
theorem cells_own {a : Addr} {ds : List PyData} : Cells (ownL a ds) [(a, .lst (ds.map .dat))] := fun K S H fp ⟨h1, vs, h2, h3⟩ => ⟨h1, fun p hp => by
  simp only [List.mem_singleton] at hp
  subst hp
  exact ⟨vs, h2, VSs.of_dats h3⟩⟩
theorem e_absorb {te : TE} (j : Nat) (h : EvP K te Γ fun r Γ1 => ∃ (rr : Res) (v : V) (Θ Θ' : List (Addr × Cell)), r = .res rr ∧ Cells rr Θ' ∧ Γ1[j]? = some (.res (star v Θ)) ∧ k (.raw rr.v) (Γ1.set j (.res (star v (Θ ++ Θ'))))) : EvP K te Γ k := by
  intro σ S H fs Q w P
  refine h σ S H fs _ w fun u r Γ1 S1 H1 f1 fs1 hb w1 st1 => ?_
  obtain ⟨rr, v, Θ, Θ', rfl, hC, hj, hk⟩ := hb
  obtain ⟨e1, hp⟩ := w1.hd
  cases e1
  obtain ⟨hf, hc⟩ := hC K S1 H1 f1 hp
  subst hf
  obtain ⟨x, fp, hx, hg, e2, e3, hcs⟩ := w1.tl.sat.get hj
  have e3 : fp = Θ.map (·.1) := e3
  have e2 : x = some v := e2
  subst e3
  have pm := flat_take fs1 j _ hg
  have jl : j < fs1.length := (List.getElem?_eq_some_iff.mp hg).1
  have pm2 := flat_put (fs1.set j []) j ((Θ ++ Θ').map (·.1)) (List.getElem?_set_self jl)
  rw [List.set_set] at pm2
  have perm : (Θ'.map (·.1) :: fs1).flatten.Perm ([] :: fs1.set j ((Θ ++ Θ').map (·.1))).flatten := by
    simp only [List.flatten_cons, List.nil_append]
    refine List.Perm.trans (pm.append_left _) (List.Perm.trans ?_ pm2.symm)
    rw [List.map_append, ← List.append_assoc]
    exact (List.perm_append_comm).append_right _
  have sat := w1.tl.sat.set (x := x) (s := .res (star v (Θ ++ Θ'))) (fp := (Θ ++ Θ').map (·.1)) j ⟨e2, rfl, fun p hp => by
    rcases List.mem_append.mp hp with q | q
    · exact hcs p q
    · exact hc p q⟩
  rw [setSame hx] at sat
  exact P rr.v _ _ S1 H1 [] _ hk ⟨w1.good.perm perm, .cons ⟨rfl, rfl⟩ sat⟩ (st1.sub fun a ha => perm.mem_iff.mpr ha)
theorem op_repO {a : Addr} {ds : List PyData} {n : Int} (h1 : 0 ≤ n) (h2 : n < 2 ^ 63) (hz : ds.length * n.toNat ≤ sizeLine) (hk : ∀ b, k (.res (ownL b (List.replicate n.toNat ds).flatten)) Γ) : OpK K (uMul K) (.res (ownL a ds)) (.dat (.int n)) Γ k := by
  intro σ S H f1 f2 fs x y Q w P
  obtain ⟨e0, e1, vs, hH, hvs⟩ := w.hd
  obtain ⟨e2, y', e3, hy⟩ := w.tl.hd
  subst e2
  cases e0; cases e3; cases hy
  have hH : H a = some (.lst vs) := hH
  refine .inr (.inr ⟨a, n, vs, rfl, rfl, hH, by omega, h2, by rw [dps_len hvs]; exact hz, fun p hp => ?_⟩)
  have rep : ∀ m : Nat, DdAll K S (List.replicate m vs).flatten (List.replicate m ds).flatten := fun m => by
    induction m with
    | zero => exact .nil
    | succ m ih =>
      rw [List.replicate_succ, List.replicate_succ, List.flatten_cons, List.flatten_cons]
      exact dps_app hvs ih
  obtain ⟨w3, st3⟩ := allocOwn w.tl.tl hp (rep n.toNat)
  exact (Post.drop2 P) _ _ _ S _ [p] fs (hk p) w3 st3
theorem lst_filter_take {ds : List PyData} {c : PyData → Bool} {f : PyData → PyData} {i : Nat} {d : PyData} (h : ds[i]? = some d) : ((ds.take (i + 1)).filter c).map f = ((ds.take i).filter c).map f ++ (if c d then [f d] else []) := by
  rw [List.take_add_one, h]
  simp only [Option.toList, List.filter_append, List.map_append]
  by_cases hc : c d <;> simp [hc]
theorem e_lc1 {i : Nat} {tl te : TE} {tt : TT} (c : PyData → Bool) (f : PyData → PyData) (h : EvP K tl Γ fun r Γ1 => ∃ d ds, r = .dat d ∧ seqD d = some ds ∧
    (∀ x ∈ ds, EvB K tt ((Γ1.set i .no).set i (.dat x)) fun b Γ2 => b = c x ∧ if c x = true then EvP K te Γ2 fun r Γ3 => r = .dat (f x) ∧ Γ3.set i .no = Γ1.set i .no else Γ2.set i .no = Γ1.set i .no) ∧ k (.dat (.list ((ds.filter c).map f))) (Γ1.set i .no)) : EvP K (tLc (iSq K tl) (gName i) tt te [i]) Γ k := by
  refine e_lc (sets_name (by simp)) gm_name (i_sq (h.mono fun r Γ1 ⟨d, ds, e1, e2, h1, h2⟩ => ⟨d, ds, e1, e2, fun hz => ?_⟩))
  refine ⟨fun j acc Γ => acc = ((ds.take j).filter c).map f ∧ Γ = Γ1.set i .no, hz, ⟨by simp, rfl⟩, fun _ _ _ _ _ => trivial, fun j acc Γx hj hl ⟨ha, hΓ⟩ => ?_, fun acc Γx hl ⟨ha, hΓ⟩ => ?_⟩
  · have hx : ds[j]? = some (ds.getD j .none) := by
      rw [List.getD_eq_getElem?_getD, List.getElem?_eq_getElem hj]
      rfl
    have hm := List.mem_of_getElem? hx
    rw [hΓ]
    refine g_name ((h1 _ hm).mono fun b Γ2 ⟨hb, hc⟩ => ⟨fun hb1 => ?_, fun hb0 => ?_⟩)
    · rw [← hb, hb1, if_pos rfl] at hc
      refine hc.mono fun r Γ3 ⟨hr, h3⟩ => ⟨_, hr, ?_, h3⟩
      rw [lst_filter_take hx, ha, if_pos (by rw [← hb, hb1])]
    · rw [← hb, hb0, if_neg (by decide)] at hc
      refine ⟨?_, hc⟩
      rw [lst_filter_take hx, ha, if_neg (by rw [← hb, hb0]; decide), List.append_nil]
  · rw [hΓ, ha, List.take_length]
    exact h2
end Dl
namespace Dl
open PySem PySem.Spec PyProof.Rows L2
variable {K : Frag} {Γ : List Sl} {k : Sl → List Sl → Prop} {O : Out}
theorem e_cd {v : V} {d : PyData} (h : ∀ S, Dd K S v d) (hk : k (.dat d) Γ) : EvP K (tC v) Γ k := fun _ S _ _ _ w P => P.dat w hk (h S)
theorem dps_strs {S : Hp} : ∀ {vs : List V} {ws : List Str}, DdAll K S vs (ws.map .str) → vs = ws.map .str
  | _, [], .nil => rfl
  | _, _ :: _, .cons h t => by cases h; rw [dps_strs t]; rfl
theorem flat_strs (ws : List Str) : (ws.map V.str).all flatV = true := by simp [flatV]
theorem inV_strs (w : Str) (ws : List Str) : inV (.str w) (ws.map V.str) = decide (w ∈ ws) := by
  unfold inV
  induction ws with
  | nil => simp
  | cons a ws ih =>
    rw [List.map_cons, List.any_cons, ih]
    show ((a == w) || _) = _
    by_cases h : a = w
    · subst h; simp
    · have : (a == w) = false := beq_eq_false_iff_ne.mpr h
      rw [this, Bool.false_or]
      simp [Ne.symm h]
theorem op_in_strs {w : Str} {d : PyData} {ws : List Str} (e : seqD d = some (ws.map .str)) (hk : k (.dat (.bool (decide (w ∈ ws)))) Γ) : OpK K (uIn K) (.dat (.str w)) (.dat d) Γ k :=
  op_or_l (op_pure (fun S H x y Q l h1 h2 q => by
    cases h1
    obtain ⟨b, a, xs, rfl, hq, ha, _, _, _⟩ := sq_of_dat l h2 e
    rw [dps_strs ha] at hq
    refine ⟨a, _, rfl, ?_, rfl, flat_strs ws, ?_⟩
    · cases b with
      | true => exact .inl hq
      | false => exact .inr hq
    · rw [if_neg (by decide), inV_strs]
      exact q _ (.bl _)) hk)
theorem op_ni_strs {w : Str} {d : PyData} {ws : List Str} (e : seqD d = some (ws.map .str)) (hk : k (.dat (.bool (!decide (w ∈ ws)))) Γ) : OpK K (uNotIn K) (.dat (.str w)) (.dat d) Γ k :=
  op_or_l (op_pure (fun S H x y Q l h1 h2 q => by
    cases h1
    obtain ⟨b, a, xs, rfl, hq, ha, _, _, _⟩ := sq_of_dat l h2 e
    rw [dps_strs ha] at hq
    refine ⟨a, _, rfl, ?_, rfl, flat_strs ws, ?_⟩
    · cases b with
      | true => exact .inl hq
      | false => exact .inr hq
    · rw [if_pos rfl, inV_strs]
      exact q _ (.bl _)) hk)
theorem zip_kV : ∀ {ns : List Str} {vs : List V}, (ns.map V.str).zip vs = ((ns.map (Sum.inr : Str → Key)).zip vs).map fun kv => (kV kv.1, kv.2)
  | [], _ => by simp
  | _ :: _, [] => by simp
  | n :: ns, v :: vs => by
    simp only [List.map_cons, List.zip_cons_cons]
    rw [zip_kV]
    rfl
def EvD (K : Frag) (trs : List (TE × TE)) (Γ : List Sl) (kd : List Str → List Sl → List Sl → Prop) : Prop :=
  ∀ σ S H fs (Q : List (V × V) → Hp → Prop), Wd K σ Γ S H fs → (∀ (ns : List Str) vs ss Γ' S' H' fs', kd ns ss Γ' → ns.length = ss.length → VSs K S' vs ss → Wd K σ Γ' S' H' fs' → Step S H fs.flatten S' H' fs'.flatten → Q ((ns.map V.str).zip vs) H') → tPairs trs σ H Q
theorem d_nil {kd : List Str → List Sl → List Sl → Prop} (h : kd [] [] Γ) : EvD K [] Γ kd := fun σ S H fs Q w P => P [] [] [] Γ S H fs h rfl .nil w Step.refl
theorem d_cons {n : Str} {te : TE} {trs : List (TE × TE)} {kd : List Str → List Sl → List Sl → Prop} (h : EvP K te Γ fun s Γ1 => Pers s ∧ EvD K trs Γ1 fun ns ss Γ2 => kd (n :: ns) (s :: ss) Γ2) : EvD K ((tC (.str n), te) :: trs) Γ kd := by
  intro σ S H fs Q w P
  refine h σ S H fs _ w fun v s Γ1 S1 H1 f1 fs1 hb w1 st1 => ?_
  obtain ⟨hp, hd⟩ := hb
  obtain ⟨hv, e0⟩ := VS.of w1.hd hp
  subst e0
  refine hd σ S1 H1 fs1 _ w1.tl fun ns vs ss Γ2 S2 H2 fs2 hk hl hvs w2 st2 => ?_
  have := P (n :: ns) (v :: vs) (s :: ss) Γ2 S2 H2 fs2 hk (by simp [hl]) (.cons (hv.mono st2.le) hvs) w2 ((by simpa using st1 : Step S H fs.flatten S1 H1 fs1.flatten).trans st2)
  exact this
theorem putK_fresh {acc : List (Key × V)} {n : Key} {v : V} (h : n ∉ acc.map (·.1)) : putK acc n v = acc ++ [(n, v)] := by
  unfold putK
  rw [if_neg]
  intro q
  obtain ⟨p, hp, e⟩ := List.any_eq_true.mp q
  exact h (List.mem_map.mpr ⟨p, hp, of_decide_eq_true e⟩)
theorem mergeK_nd : ∀ (more acc : List (Key × V)), (acc.map (·.1) ++ more.map (·.1)).Nodup → mergeK acc more = acc ++ more
  | [], acc, _ => by simp [mergeK]
  | p :: more, acc, nd => by
    have hn : p.1 ∉ acc.map (·.1) := fun h => (List.nodup_append.mp nd).2.2 _ h p.1 (by simp) rfl
    show mergeK (putK acc p.1 p.2) more = _
    rw [putK_fresh hn, mergeK_nd more]
    · simp
    · rw [List.map_append, List.append_assoc]
      exact nd
theorem zip_keys {ns : List Str} {vs : List V} (h : ns.length = vs.length) : ((ns.map (Sum.inr : Str → Key)).zip vs).map (·.1) = ns.map Sum.inr := by
  rw [List.map_fst_zip]
  simp [h]
theorem nd_inr {ns : List Str} (h : ns.Nodup) : (ns.map (Sum.inr : Str → Key)).Nodup := by
  induction ns with
  | nil => simp
  | cons n ns ih =>
    obtain ⟨h1, h2⟩ := List.nodup_cons.mp h
    rw [List.map_cons]
    refine List.nodup_cons.mpr ⟨fun q => ?_, ih h2⟩
    obtain ⟨m, hm, e⟩ := List.mem_map.mp q
    rw [Sum.inr.inj e] at hm
    exact h1 hm
theorem e_disp {trs : List (TE × TE)} (h : EvD K trs Γ fun ns ss Γ1 => ns.Nodup ∧ ns.length ≤ 15 ∧ ∀ p, k (.res (star (.ref p) [(p, .dS ns ss)])) Γ1) : EvP K (tDisp trs) Γ k := by
  intro σ S H fs Q w P
  intro p hp
  obtain ⟨w1, st1⟩ := allocStar (o := .dK []) (c := .dS [] []) w hp ⟨List.nodup_nil, rfl, [], upd_same, .nil⟩
  refine h σ S _ fs _ w1.tl fun ns vs ss Γ2 S2 H2 fs2 hk hl hvs w2 st2 => ?_
  obtain ⟨nd, h15, hk⟩ := hk
  obtain ⟨w3, st3⟩ := frame (ts := [some (.ref p)]) (Θ := [.res (star (.ref p) [(p, .dS [] [])])]) (ft := [[p]]) rfl rfl w1 w2 st2
  have hvl := vss_len hvs
  obtain ⟨_, _, us, hH, hus⟩ := star_cell (n := 0) (j := 0) w3 rfl rfl
  have hH : H2 p = some (.dK (([] : List Key).zip us)) := hH
  rw [List.zip_nil_left] at hH
  refine ⟨hH, (ns.map Sum.inr).zip vs, ?_, by rw [List.length_zip, List.length_map]; omega, ?_⟩
  · exact zip_kV
  · have em : mergeK [] ((ns.map (Sum.inr : Str → Key)).zip vs) = (ns.map Sum.inr).zip vs := by
      rw [mergeK_nd]
      · simp
      · rw [List.map_nil, List.nil_append, zip_keys (by omega)]
        exact nd_inr nd
    rw [em]
    obtain ⟨w4, st4⟩ := star_upd (n := 0) (j := 0) (o := .dK ((ns.map Sum.inr).zip vs)) (c' := .dS ns ss) w3 rfl rfl ⟨nd, hl, vs, upd_same, hvs⟩
    exact P _ _ Γ2 S2 _ [p] fs2 (hk p) w4 ((st1.trans st3).trans st4)
theorem e_dgetT (q : Nat) {to ti : TE} (h : EvP K to Γ fun s Γ1 => ∃ a ns ss, s = .res (star (.ref a) [(a, .dS ns ss)]) ∧ EvP K ti Γ1 fun s2 Γ2 => ∃ f u, s2 = .dat (.str f) ∧ ns[q]? = some f ∧ ss[q]? = some u ∧ k u Γ2) : EvP K (tDGet to ti) Γ k := by
  intro σ S H fs Q w P
  refine h σ S H fs _ w fun x r Γ1 S1 H1 f1 fs1 hb w1 st1 => ?_
  obtain ⟨a, ns, ss, rfl, hb⟩ := hb
  obtain ⟨e0, e1, hc⟩ := w1.hd
  cases e0
  have e1 : f1 = [a] := e1
  subst e1
  refine hb σ S1 H1 fs1 _ w1.tl fun y r2 Γ2 S2 H2 f2 fs2 hc2 w2 st2 => ?_
  obtain ⟨f, u, rfl, hq, hu, hk⟩ := hc2
  obtain ⟨w3, st3⟩ := frame (ts := [some (.ref a)]) (Θ := [.res (star (.ref a) [(a, .dS ns ss)])]) (ft := [[a]]) rfl rfl w1 w2 st2
  obtain ⟨e2, y', e3, hy⟩ := w2.hd
  subst e2
  cases e3; cases hy
  obtain ⟨nd, hl, vs, hH, hvs⟩ := star_cell (n := 0) (j := 0) w3 rfl rfl
  obtain ⟨z, hz, hzs⟩ := VSs.get hvs hu
  refine ⟨a, z, rfl, ?_, ?_⟩
  · have := DGet.k (k := Sum.inr f) hH
    rw [valV_zip nd hq hz] at this
    exact this
  · have stA : Step S H fs.flatten S2 H2 fs2.flatten := (st1.trans st3).sub fun b hb => by
      have hb2 : b ∈ fs2.flatten := by simpa using hb
      simp [hb2]
    exact (P.trans stA) z u Γ2 S2 H2 [] fs2 hk (w2.tl.put hzs.ok) (by simpa using Step.refl)
theorem e_dnew (hk : ∀ p, k (.res (star (.ref p) [(p, .dS [] [])])) Γ) : EvP K tDNewK Γ k := by
  intro σ S H fs Q w P
  intro p hp
  obtain ⟨w1, st1⟩ := allocStar (o := .dK []) (c := .dS [] []) w hp ⟨List.nodup_nil, rfl, [], upd_same, .nil⟩
  exact P _ _ Γ S _ [p] fs (hk p) w1 st1
theorem e_dget2E (j n : Nat) {to ti tx : TE} (h : EvP K to Γ fun s Γ1 => ∃ a, s = .raw (.ref a) ∧ (∃ v Θ, Γ1[j]? = some (.res (star v Θ)) ∧ Θ[n]? = some (a, .dS [] [])) ∧ EvP K ti Γ1 fun s2 Γ2 => ∃ i, s2 = .dat (.int i) ∧ EvP K tx Γ2 fun s3 Γ3 => (∃ v Θ, Γ3[j]? = some (.res (star v Θ)) ∧ Θ[n]? = some (a, .dS [] [])) ∧ k s3 Γ3) : EvP K (tDGet2 to ti tx) Γ k := by
  intro σ S H fs Q w P
  refine h σ S H fs _ w fun x r Γ1 S1 H1 f1 fs1 hb w1 st1 => ?_
  obtain ⟨a, rfl, ⟨v0, Θ0, hj0, hn0⟩, hb⟩ := hb
  obtain ⟨e0, e1⟩ := w1.hd
  subst e0
  cases e1
  obtain ⟨_, _, vs0, hH0, hvs0⟩ := star_cell w1.tl hj0 hn0
  refine ⟨a, rfl, .inl ⟨_, .inl hH0⟩, ?_⟩
  refine hb σ S1 H1 fs1 _ w1.tl fun y r2 Γ2 S2 H2 f2 fs2 hc2 w2 st2 => ?_
  obtain ⟨i, rfl, hc⟩ := hc2
  obtain ⟨e2, y', e3, hy⟩ := w2.hd
  subst e2
  cases e3; cases hy
  refine hc σ S2 H2 fs2 _ w2.tl fun z r3 Γ3 S3 H3 f3 fs3 hd w3 st3 => ?_
  obtain ⟨⟨v, Θ, hj, hn⟩, hk⟩ := hd
  obtain ⟨_, _, vs, hH, hvs⟩ := star_cell w3.tl hj hn
  have hH : H3 a = some (.dK (([] : List Key).zip vs)) := hH
  rw [List.zip_nil_left] at hH
  refine ⟨none, ?_, ?_⟩
  · have := DGet.k (k := Sum.inl i) hH
    exact this
  · have stA := ((by simpa using st1 : Step S H fs.flatten S1 H1 fs1.flatten).trans (by simpa using st2 : Step S1 H1 fs1.flatten S2 H2 fs2.flatten)).trans st3
    exact P z r3 Γ3 S3 H3 f3 fs3 hk w3 stA
end Dl
namespace Dl
open PySem PySem.Spec PyProof.Rows L2
variable {K : Frag} {Γ : List Sl} {k : Sl → List Sl → Prop} {O : Out}
theorem freezeJ {σ : List (Option V)} {S H : Hp} {fs : List (List Addr)} {a : Addr} {xs : List PyData} {j : Nat} (w : Wd K σ Γ S H fs) (hj : Γ[j]? = some (.res (ownL a xs))) :
    ∃ S', Wd K σ (Γ.set j (.dat (.list xs))) S' H (fs.set j []) ∧ Step S H fs.flatten S' H (fs.set j []).flatten := by
  obtain ⟨x, fp, hx, hf, e1, e2, vs, e3, hd⟩ := w.sat.get hj
  have e1 : x = some (.ref a) := e1
  have e2 : fp = [a] := e2
  have e3 : H a = some (.lst vs) := e3
  subst e1 e2
  have pm := flat_take fs j _ hf
  have gp := w.good.perm pm
  have nS : S a = none := w.good.dis a (pm.mem_iff.mpr (by simp))
  have le : Le S (upd S a (.lst vs)) := fun b u e => by rw [upd_ne (ne_of_none e nS)]; exact e
  have nd : ([a] ++ (fs.set j []).flatten).Nodup := gp.nd
  have nF : ∀ b ∈ (fs.set j []).flatten, b ≠ a := fun b hb e => (List.nodup_cons.mp nd).1 (e ▸ hb)
  have sat1 : SatL K (upd S a (.lst vs)) H σ (Γ.set j (.dat (.list xs))) (fs.set j []) := by
    have q := (w.sat.step le fun _ _ => rfl).set (x := some (V.ref a)) (s := .dat (.list xs)) (fp := []) j ⟨rfl, _, rfl, dp_lst_new nS hd⟩
    rwa [setSame hx] at q
  refine ⟨upd S a (.lst vs), ⟨⟨fun b u e => ?_, (List.nodup_cons.mp nd).2, fun b hb => ?_, fun b hb => w.good.al b (pm.mem_iff.mpr (List.mem_append_right _ hb))⟩, sat1⟩, le, fun _ _ e _ => e, fun b e => ?_, fun b hb => .inr (pm.mem_iff.mpr (List.mem_append_right _ hb)), fun _ e => e⟩
  · by_cases q : b = a
    · subst q
      rw [upd_same] at e
      exact e3.trans e
    · rw [upd_ne q] at e
      exact w.good.sub b u e
  · rw [upd_ne (nF b hb)]
    exact gp.right.dis b hb
  · by_cases q : b = a
    · subst q
      exact .inr (.inr (pm.mem_iff.mpr (by simp)))
    · rw [upd_ne q] at e
      exact .inl e
theorem x_frz (j : Nat) {a : Addr} {xs : List PyData} {t : TS} (hj : Γ[j]? = some (.res (ownL a xs))) (h : ExS K t (Γ.set j (.dat (.list xs))) O) : ExS K t Γ O := by
  intro σ S H fs D w e
  obtain ⟨S', w2, st⟩ := freezeJ w hj
  exact h σ S' H _ D w2 (e.step st)
theorem op_neR {a : Addr} {ds : List PyData} {e : PyData} (hL : HasL Γ a (ds.map .dat)) (h1 : SeqAt.shaped e = true) (h2 : SeqAt.shaped (.list ds) = true) (hk : k (.dat (.bool (!PyData.eqv e (.list ds)))) Γ) : OpK K (uNe K) (.dat e) (.raw (.ref a)) Γ k := by
  intro σ S H f1 f2 fs x y Q w P
  obtain ⟨e0, x', e1, hx⟩ := w.hd
  obtain ⟨e2, e3⟩ := w.tl.hd
  subst e0 e2
  cases e1; cases e3
  exact ⟨_, _, (w.good.sub.dp hx).dp, own_dd hL w.tl.tl, h1, h2, (Post.drop2 P).dat w.tl.tl hk (.bl _)⟩
theorem dd_ints {S : Hp} : ∀ {vs : List V} {ns : List Int}, DdAll K S vs (ns.map .int) → vs = ns.map .int
  | _, [], .nil => rfl
  | _, n :: ns, .cons (.int _) h => by rw [List.map_cons, dd_ints h]
theorem e_count {to : TE} {ta : TA} (h : EvP K to Γ fun s Γ1 => ∃ ns : List Int, s = .dat (.list (ns.map .int)) ∧ EvA K ta Γ1 fun rs Γ2 => ∃ n : Int, rs = [.dat (.int n)] ∧ k (.dat (.int (ns.count n : Nat))) Γ2) :
    EvP K (tBM K "list" (rCntI K) to ta) Γ k := by
  intro σ S H fs Q w P
  refine h σ S H fs _ w fun v r1 Γ1 S1 H1 f1 fs1 hb w1 st1 => ?_
  obtain ⟨ns, rfl, hA⟩ := hb
  obtain ⟨e0, v', e1, hd⟩ := w1.hd
  subst e0
  cases e1
  cases hd with
  | lst hr hall =>
    rename_i a vs
    refine ⟨.inl ⟨rfl, vs, w1.good.sub.sqL (.inl hr)⟩, ?_⟩
    refine hA σ S1 H1 fs1 _ w1.tl fun us rs Γ2 S2 H2 frs fs2 hk l1 l2 w2 st2 => ?_
    obtain ⟨n, rfl, hk⟩ := hk
    match us, frs, l1, l2, w2, st2 with
    | [u], [f], _, _, w2, st2 =>
      have w2' : Wd K (some u :: σ) (.dat (.int n) :: Γ2) S2 H2 (f :: fs2) := w2
      obtain ⟨e4, u', e5, hu⟩ := w2'.hd
      subst e4
      cases e5; cases hu
      have q := st2.le.rd hr
      refine ⟨a, ns, n, rfl, rfl, ?_, ?_⟩
      · rw [← dd_ints hall]
        exact w2.good.sub.sqL (.inl q)
      · have st12 : Step S H fs.flatten S2 H2 fs2.flatten := (by simpa using st1 : Step S H fs.flatten S1 H1 fs1.flatten).trans (by simpa using st2)
        exact (P.trans st12).dat w2'.tl hk (.int _)
    | [], _, l1, _, _, _ => simp at l1
    | _ :: _ :: _, _, l1, _, _, _ => simp at l1
    | [_], [], _, l2, _, _ => simp at l2
    | [_], _ :: _ :: _, _, l2, _, _ => simp at l2
def Res.at (r : Res) (u : V) : Res := { v := u, p := r.p, loc := r.loc }
theorem star_at {v u : V} {Θ : List (Addr × Cell)} : (star v Θ).at u = star u Θ := rfl
theorem lendP {ts σ : List (Option V)} {Θ : List Sl} {S H : Hp} {ft fs : List (List Addr)} {i j : Nat} {r : Res} {u : V} (l1 : ts.length = Θ.length) (l2 : ft.length = Θ.length) (w : Wd K (ts ++ σ) (Θ ++ Γ) S H (ft ++ fs)) (hi : Θ[i]? = some (.raw u)) (hj : Γ[j]? = some (.res r)) :
    ∃ fp, Wd K (ts ++ σ) (Θ.set i (.res (r.at u)) ++ Γ.set j .no) S H (ft.set i fp ++ fs.set j []) ∧ (∀ a, a ∈ (ft.set i fp ++ fs.set j []).flatten ↔ a ∈ (ft ++ fs).flatten) ∧ σ[j]? = some (some r.v) := by
  obtain ⟨s1, s2⟩ := w.sat.split l1 l2
  obtain ⟨x, fp0, hx, hf, e0, rfl⟩ := s1.get hi
  subst e0
  obtain ⟨y, fp, hy, hg, rfl, hp⟩ := s2.get hj
  have p1 := flat_put ft i fp hf
  have p2 := flat_take fs j fp hg
  have pm : (ft.set i fp ++ fs.set j []).flatten.Perm (ft ++ fs).flatten := by
    rw [List.flatten_append, List.flatten_append]
    refine (p1.append_right _).trans ?_
    refine List.Perm.trans ?_ (p2.symm.append_left _)
    rw [← List.append_assoc]
    exact (List.perm_append_comm).append_right _
  refine ⟨fp, ⟨w.good.perm pm.symm, ?_⟩, fun a => pm.mem_iff, hy⟩
  have a1 := s1.set (x := some u) (s := .res (r.at u)) (fp := fp) i ⟨rfl, hp⟩
  have a2 := s2.set (x := some r.v) (s := .no) (fp := []) j rfl
  rw [setSame hx] at a1
  rw [setSame hy] at a2
  exact a1.append a2
theorem backP {ts σ : List (Option V)} {Θ : List Sl} {S H : Hp} {ft fs : List (List Addr)} {i j : Nat} {r : Res} {v : V} (l1 : ts.length = Θ.length) (l2 : ft.length = Θ.length) (w : Wd K (ts ++ σ) (Θ ++ Γ) S H (ft ++ fs)) (hi : Θ[i]? = some (.res r)) (hj : Γ[j]? = some .no) (hv : σ[j]? = some (some v)) :
    ∃ fp, Wd K (ts ++ σ) (Θ.set i .no ++ Γ.set j (.res (r.at v))) S H (ft.set i [] ++ fs.set j fp) ∧ (∀ a, a ∈ (ft.set i [] ++ fs.set j fp).flatten ↔ a ∈ (ft ++ fs).flatten) := by
  obtain ⟨s1, s2⟩ := w.sat.split l1 l2
  obtain ⟨x, fp, hx, hf, rfl, hp⟩ := s1.get hi
  obtain ⟨y, fp0, hy, hg, e0⟩ := s2.get hj
  have e0 : fp0 = [] := e0
  subst e0
  have p1 := flat_take ft i fp hf
  have p2 := flat_put fs j fp hg
  have pm : (ft.set i [] ++ fs.set j fp).flatten.Perm (ft ++ fs).flatten := by
    rw [List.flatten_append, List.flatten_append]
    refine (p2.append_left _).trans ?_
    refine List.Perm.trans ?_ (p1.symm.append_right _)
    rw [← List.append_assoc]
    exact (List.perm_append_comm).append_right _
  refine ⟨fp, ⟨w.good.perm pm.symm, ?_⟩, fun a => pm.mem_iff⟩
  have a1 := s1.set (x := some r.v) (s := .no) (fp := []) i rfl
  have a2 := s2.set (x := some v) (s := .res (r.at v)) (fp := fp) j ⟨rfl, hp⟩
  rw [setSame hx] at a1
  rw [setSame hv] at a2
  exact a1.append a2
theorem e_callP {F : FSpec} {ta : TA} {E : XK} (i j : Nat) (h : EvA K ta Γ fun rs Γ1 => ∃ (r : Res) (u : V), rs[i]? = some (.raw u) ∧ Γ1[j]? = some (.res r) ∧ F (rs.set i (.res (r.at u))) fun r0 as' => ∃ r' : Res, as'[i]? = some (.res r') ∧ as'.length = rs.length ∧ k r0 (Γ1.set j (.res (r'.at r.v)))) :
    EvP K (tCall (spOf K F) [] E ta) Γ k := by
  intro σ S H fs Q w P
  refine h σ S H fs _ w fun vs rs Γ1 S1 H1 frs fs1 hF l1 l2 w1 st1 => ?_
  obtain ⟨r, u, hi, hj, hF⟩ := hF
  rw [List.append_nil]
  have lv : (vs.map some).length = rs.length := by simpa using l1
  obtain ⟨fp, wl, hm, hσ⟩ := lendP lv l2 w1 hi hj
  have lv' : (vs.map some).length = (rs.set i (.res (r.at u))).length := by simpa using l1
  have l2' : (frs.set i fp).length = (rs.set i (.res (r.at u))).length := by simpa using l2
  have ls := wl.sat.split lv' l2'
  have wsw := wl.swap lv' l2'
  have wA : Wd K (vs.map some) (rs.set i (.res (r.at u))) S1 H1 (frs.set i fp) := Wd.tail ls.2.lens.1 ls.2.lens.2 wsw
  refine ⟨_, S1, _, _, wA, hF, fun v r0 as' S2 H2 fr fs2 hk w2 st2 => ?_⟩
  obtain ⟨r', ha, hl, hk⟩ := hk
  obtain ⟨w3, st3⟩ := frame ls.2.lens.1 ls.2.lens.2 wsw w2 st2
  have w4 : Wd K (vs.map some ++ (some v :: σ)) (as' ++ (r0 :: Γ1.set j .no)) S2 H2 (fs2 ++ (fr :: fs1.set j [])) := by
    have q : Wd K ((σ ++ [some v]) ++ vs.map some) ((Γ1.set j .no ++ [r0]) ++ as') S2 H2 ((fs1.set j [] ++ [fr]) ++ fs2) := by simpa using w3
    have q2 := q.swap (by simpa using ls.2.lens.1) (by simpa using ls.2.lens.2)
    have q3 := w2.tl.sat.lens
    have q4 : Wd K (vs.map some ++ (σ ++ [some v])) (as' ++ (Γ1.set j .no ++ [r0])) S2 H2 (fs2 ++ (fs1.set j [] ++ [fr])) := q2
    obtain ⟨g, st⟩ := q4
    obtain ⟨a, b⟩ := st.split q3.1 q3.2
    obtain ⟨c, d⟩ := b.split (xs := σ) (ss := Γ1.set j .no) (fs := fs1.set j []) ls.2.lens.1 ls.2.lens.2
    refine ⟨g.perm ?_, a.append ?_⟩
    · simp only [List.flatten_append, List.flatten_cons, List.flatten_nil, List.append_nil]
      exact List.Perm.append_left _ List.perm_append_comm
    · cases d with
      | cons d1 d2 => exact .cons d1 c
  have q3 := w2.tl.sat.lens
  obtain ⟨fp', w5, hm2⟩ := backP (i := i) (j := j + 1) (r := r') (v := r.v) q3.1 q3.2 w4 ha (by
      simp only [List.getElem?_cons_succ]
      exact List.getElem?_set_self (List.getElem?_eq_some_iff.mp hj).1) (by simp only [List.getElem?_cons_succ]; rw [hσ])
  simp only [List.set_cons_succ, List.set_set] at w5 hm2
  have w6 := Wd.tail (by simpa using q3.1) (by simpa using q3.2) w5
  refine P v r0 _ S2 H2 fr _ hk w6 ?_
  have e1 : ∀ a, a ∈ (fs1.set j [] ++ frs.set i fp).flatten → a ∈ (frs ++ fs1).flatten := fun a ha => by
    rw [← hm]
    rw [List.flatten_append] at ha ⊢
    exact (List.mem_append.mp ha).elim (List.mem_append_right _) (List.mem_append_left _)
  refine st1.trans ((st3.weak e1).sub fun a ha => ?_)
  have hb : a ∈ (fs2.set i [] ++ (fr :: fs1.set j fp')).flatten := by
    rw [List.flatten_append]
    exact List.mem_append_right _ ha
  have hc := (hm2 a).mp hb
  simp only [List.flatten_cons, List.flatten_append, List.mem_append] at hc ⊢
  rcases hc with q | q | q
  · exact .inr (.inr q)
  · exact .inr (.inl q)
  · exact .inl q
theorem e_methP {C : Addr} {m : Str} {F : FSpec} {to : TE} {ta : TA} (j n : Nat) (h : EvP K to Γ fun s Γ1 => ∃ a v Θ ns ss, s = .raw (.ref a) ∧ Γ1[j]? = some (.res (star v Θ)) ∧ Θ[n]? = some (a, .ins C ns ss) ∧ m ∉ ns ∧ EvA K ta Γ1 fun rs Γ2 => ∃ r : Res, Γ2[j]? = some (.res r) ∧ F (.res (r.at (.ref a)) :: rs) fun r0 as' => ∃ r' : Res, as'[0]? = some (.res r') ∧ as'.length = rs.length + 1 ∧ k r0 (Γ2.set j (.res (r'.at r.v)))) :
    EvP K (tMeth C m (spOf K F) [] E0 to ta) Γ k := by
  intro σ S H fs Q w P
  refine h σ S H fs _ w fun x s Γ1 S1 H1 f1 fs1 hb w1 st1 => ?_
  obtain ⟨a, v, Θ, ns, ss, rfl, hj, hn, hm, hA⟩ := hb
  obtain ⟨e0, e1⟩ := w1.hd
  subst e0
  cases e1
  obtain ⟨h0, hl0, dx, vs, hH, _⟩ := star_cell w1.tl hj hn
  refine ⟨a, dx, _, rfl, hH, lookup_zip_none hm, ?_⟩
  have key : EvA K (tCons (tC (.ref a)) ta) Γ1 fun rs Γ2 => ∃ (r : Res) (u : V), rs[0]? = some (.raw u) ∧ Γ2[j]? = some (.res r) ∧ F (rs.set 0 (.res (r.at u))) fun r0 as' => ∃ r' : Res, as'[0]? = some (.res r') ∧ as'.length = rs.length ∧ k r0 (Γ2.set j (.res (r'.at r.v))) :=
    a_cons (e_c (hA.mono fun rs Γ2 ⟨r, h1, h3⟩ => ⟨r, .ref a, rfl, h1, h3⟩))
  exact e_callP (E := E0) 0 j key σ S1 H1 fs1 Q w1.tl (P.trans (by simpa using st1))
theorem calleeM_mk {P : Program} {w : World} {K : Frag} {mg : Str → Option Value} {base : Heap} {C : Addr} {m qual : Str} {params : Arguments} {body : List Stmt} {scope : Scope} {f : Addr} {N ps : List Str} {k : Nat} {F : FSpec}
    (M : Meth K C m f) (FD : ∃ fd, FunD K m qual params body scope [] [] f fd) (S : FnScope N ps scope)
    (hb : ∀ (kV doc pm an cdv ct) (us : List Value), us.length = ps.length → bindArgs (PySem.W.fnOf m qual params body scope .none kV doc pm an cdv ct) ⟨us, []⟩ = pure (ps.zip us))
    (hn : ∀ args k, F args k → args.length = ps.length) (t : TS) (ht : ∀ args k, F args k → ExS K t (args ++ List.replicate (N.length - args.length) .no) (fnOut args k))
    (hd : ∀ (cdv : Value) (A : Around) (outer : List Env) (s : Shared) (H : Hp) (E : XK), Room k (A.deeper (envOfC qual scope s.heap.objs.size f cdv)) → PSs (cxOf CX0 P w K mg base N qual scope f cdv A outer s H E).nox body t) :
    CalleeM P w K mg base C m (k + 1) ps (spOf K F) := by
  obtain ⟨fd, FD⟩ := FD
  exact ⟨f, fd, fn_mk FD S hn t ht hd, M, FD.bindsN hb⟩
theorem calleeP_mk {P : Program} {w : World} {K : Frag} {mg : Str → Option Value} {base : Heap} {C : Addr} {m qual : Str} {params : Arguments} {body : List Stmt} {scope : Scope} {f p : Addr} {N ps : List Str} {k : Nat} {F : FSpec}
    (M : PropOf K C m p f) (FD : ∃ fd, FunD K m qual params body scope [] [] f fd) (S : FnScope N ps scope)
    (hb : ∀ (kV doc pm an cdv ct) (us : List Value), us.length = ps.length → bindArgs (PySem.W.fnOf m qual params body scope .none kV doc pm an cdv ct) ⟨us, []⟩ = pure (ps.zip us))
    (hn : ∀ args k, F args k → args.length = ps.length) (t : TS) (ht : ∀ args k, F args k → ExS K t (args ++ List.replicate (N.length - args.length) .no) (fnOut args k))
    (hd : ∀ (cdv : Value) (A : Around) (outer : List Env) (s : Shared) (H : Hp) (E : XK), Room k (A.deeper (envOfC qual scope s.heap.objs.size f cdv)) → PSs (cxOf CX0 P w K mg base N qual scope f cdv A outer s H E).nox body t) :
    CalleeP P w K mg base C m (k + 1) ps (spOf K F) := by
  obtain ⟨fd, FD⟩ := FD
  exact ⟨p, f, fd, fn_mk FD S hn t ht hd, M, FD.bindsN hb⟩
structure CalleeJ (P : Program) (w : World) (K : Frag) (mg : Str → Option Value) (base : Heap) (x : Str) (C : Addr) (k : Nat) (ps : List Str) (dvs : List V) (sp : Sp) : Prop where
  ex : ∃ f fd ds, FnOk P w K mg base CX0 k f fd ps sp ∧ Mk K C f ∧ mg x = some (.ref C) ∧ Vals dvs ds ∧ Binds K fd ps ds
theorem calleeJ_mk {P : Program} {w : World} {K : Frag} {mg : Str → Option Value} {base : Heap} {x : Str} {C : Addr} {qual : Str} {params : Arguments} {body : List Stmt} {scope : Scope} {f : Addr} {N ps : List Str} {k : Nat} {F : FSpec} {dvs : List V}
    (g : mg x = some (.ref C)) (M : Mk K C f) (FD : ∃ fd, FunD K "__init__" qual params body scope dvs [] f fd) (S : FnScope N ps scope)
    (hb : ∀ fd, FunD K "__init__" qual params body scope dvs [] f fd → ∃ ds, Vals dvs ds ∧ Binds K fd ps ds)
    (hn : ∀ args k, F args k → args.length = ps.length) (t : TS) (ht : ∀ args k, F args k → ExS K t (args ++ List.replicate (N.length - args.length) .no) (fnOut args k))
    (hd : ∀ (cdv : Value) (A : Around) (outer : List Env) (s : Shared) (H : Hp) (E : XK), Room k (A.deeper (envOfC qual scope s.heap.objs.size f cdv)) → PSs (cxOf CX0 P w K mg base N qual scope f cdv A outer s H E).nox body t) :
    CalleeJ P w K mg base x C (k + 1) ps dvs (spOf K F) := by
  obtain ⟨fd, FD⟩ := FD
  obtain ⟨ds, h1, h2⟩ := hb fd FD
  exact ⟨f, fd, ds, FD.ok S (fun vs H Q E h => sp_len hn h) (fun cdv A outer s H vs Q E hr h => ⟨t, (hd cdv A outer s H E hr).nox, fn_body ht h⟩), M, g, h1, h2⟩
theorem pe_mkj {X : Cx} {x : Str} {j k : Nat} {C : Addr} {ps : List Str} {sp : Sp} {p pos : Pos} {e : Expr} {es : List Expr} {t : TA} {dvs : List V} (J : CalleeJ X.prog X.w X.K X.mg X.base x C j ps dvs sp) (hr : Room k X.A) (hj : j + 1 ≤ k) (hg : Gl X x) (ha : PA X (e :: es) t) (hdb : (x == ("__debug__" : Str)) = false := by decide) (he : starEach (e :: es) X.env = (false, eval e X.env) :: starEach es X.env := by rfl) (hpl : (backTo pos (starEach es X.env)).any (·.1) = false := by rfl) :
    PE X (.Call (.Name x p) (e :: es) [] pos) (tMake C sp dvs E0 t) := by
  obtain ⟨f, fd, ds, F, M, hm, h1, h2⟩ := J.ex
  exact pe_mk M F hm h2 h1 hr hj hg ha hdb he hpl
def tCallR (_ : Nat) (sp : Sp) (E : XK) (ta : TA) : TE := tCall sp [] E ta
def tMethR (_ : Nat) (C : Addr) (m : Str) (sp : Sp) (E : XK) (to : TE) (ta : TA) : TE := tMeth C m sp [] E to ta
def tPropR (_ : Nat) (C : Addr) (sp : Sp) (E : XK) (to : TE) : TE := tProp C sp [] E to
theorem e_callR {F : FSpec} {ta : TA} {E : XK} {j : Nat} (h : EvA K (tCons (tVar j) ta) Γ fun rs Γ1 => ∃ (r : Res) (rt : List Sl), rs = .raw r.v :: rt ∧ Γ1[j]? = some (.res r) ∧ F (.res r :: rt) fun r0 as' => ∃ r' : Res, as'[0]? = some (.res r') ∧ r'.v = r.v ∧ as'.length = rs.length ∧ k r0 (Γ1.set j (.res r'))) :
    EvP K (tCallR j (spOf K F) E (tCons (tVar j) ta)) Γ k :=
  e_call1 0 j (h.mono fun rs Γ1 ⟨r, rt, e, h1, h2⟩ => by subst e; exact ⟨r, rfl, h1, h2⟩)
theorem e_methR {C : Addr} {m : Str} {F : FSpec} {ta : TA} {j : Nat} {r : Res} (hj : Γ[j]? = some (.res r)) (hI : IsIns C m r) (h : EvA K ta Γ fun rs Γ2 => ∃ r2 : Res, r2.v = r.v ∧ Γ2[j]? = some (.res r2) ∧ F (.res r2 :: rs) fun r0 as' => ∃ r' : Res, as'[0]? = some (.res r') ∧ r'.v = r2.v ∧ as'.length = rs.length + 1 ∧ k r0 (Γ2.set j (.res r'))) :
    EvP K (tMethR j C m (spOf K F) E0 (tVar j) ta) Γ k := e_meth j (e_res hj ⟨r, rfl, hj, hI, h⟩)
theorem e_propR {C : Addr} {F : FSpec} {j : Nat} {r : Res} (hj : Γ[j]? = some (.res r)) (hI : IsIns C (PySem.Str.ofString "") r) (h : F [.res r] fun r0 as' => ∃ r' : Res, as'[0]? = some (.res r') ∧ r'.v = r.v ∧ as'.length = 1 ∧ k r0 (Γ.set j (.res r'))) :
    EvP K (tPropR j C (spOf K F) E0 (tVar j)) Γ k := e_prop j (e_res hj ⟨r, rfl, hj, hI, h⟩)
def pD (args : List Sl) (k : Sl → List Sl → Prop) (ds : List PyData) (r : PyData) : Prop := args = ds.map .dat ∧ k (.dat r) args
theorem bodyD {t : TS} {args : List Sl} {k : Sl → List Sl → Prop} {ds : List PyData} {r : PyData} {n : Nat} {Γ : List Sl} (h : pD args k ds r) (e : ds.map Sl.dat ++ List.replicate (n - ds.length) .no = Γ) (hx : ExS K t Γ (datOut r)) : ExS K t (args ++ List.replicate (n - args.length) .no) (fnOut args k) := by
  obtain ⟨rfl, hk⟩ := h
  have q := body_dats (t := t) (K := K) (N := List.replicate n (PySem.Str.ofString "")) hk (by rw [List.length_replicate, e]; exact hx)
  rwa [List.length_replicate] at q
end Dl
namespace Dl
open PySem PySem.Spec PyProof.Rows L2
structure DefX where
  adr : Frag → Addr
  name : Str
  qual : Str
  params : Arguments
  body : List Stmt
  scope : Scope
  dfl : List He.Dv := []
def fnX (K : Frag) (a : Addr) : He.FnW := match K.lookup a with
  | some ⟨_, _, .func fd, _⟩ => some (fd.name, fd.qualname, fd.params, fd.body, fd.scope, fd.globals, fd.closure, fd.builtins)
  | _ => none
def DefX.val (d : DefX) : He.FnW := some (d.name, d.qual, d.params, .stmts d.body, d.scope, mainGlobals, [], builtinsNs)
def DefX.dvs (K : Frag) (d : DefX) : List V := d.dfl.map (He.Dv.v K)
def DefX.ok (K : Frag) (d : DefX) : Bool := PySem.W.keepIn K (.ref (d.adr K)) && (match K.lookup (d.adr K) with
  | some ⟨_, _, .func fd, _⟩ => PySem.W.codeIn K fd.code d.qual && He.dflB K fd.defaults (d.dvs K)
  | _ => false)
theorem DefX.funD {K : Frag} {d : DefX} (e : fnX K (d.adr K) = d.val) (c : d.ok K = true) : ∃ fd, FunD K d.name d.qual d.params d.body d.scope (d.dvs K) [] (d.adr K) fd := by
  obtain ⟨kp, c2⟩ := He.ba c
  unfold fnX at e
  cases q : K.lookup (d.adr K) with
  | none =>
    rw [q] at c2
    cases c2
  | some o =>
    obtain ⟨oc, od, dt, osl⟩ := o
    rw [q] at c2 e
    cases dt with
    | func fd =>
      obtain ⟨n1, n2, n3, n4, n5, n6, n7, n8, n9, n10, n11, n12, n13, n14, n15⟩ := fd
      have e2 : (some (n1, n2, n3, n4, n5, n6, n7, n15) : He.FnW) = some (d.name, d.qual, d.params, .stmts d.body, d.scope, mainGlobals, [], builtinsNs) := e
      simp only [Option.some.injEq, Prod.mk.injEq] at e2
      obtain ⟨h1, h2, h3, h4, h5, h6, h7, h8⟩ := e2
      subst h1 h2 h3 h4 h5 h6 h7 h8
      have c3 : (PySem.W.codeIn K n13 d.qual && He.dflB K n8 (d.dvs K)) = true := c2
      obtain ⟨k1, k2⟩ := He.ba c3
      exact ⟨_, ⟨oc, od, n8, n9, n10, n11, n12, n13, n14, osl, rfl, q, k1, He.dflB_ok k2, .inl rfl⟩, kp⟩
    | _ => cases c2
def pgA (K : Frag) (x m : Str) : Addr := match PySem.W.recIn K (He.ma K (He.ga K x) m) "property" with
  | some (.ref g :: _) => g
  | _ => 0
def prB (K : Frag) (x m : Str) : Bool := He.eqO (PySem.W.findIn K (.ref (He.ga K x)) m) (some (some (.ref (He.ma K (He.ga K x) m)))) && (He.eqO (PySem.W.specialIn K (.ref (He.ma K (He.ga K x) m)) "__get__") (some (some (.builtin "property.__get__"))) &&
  (decide (PySem.W.takesIn K (.ref (He.ma K (He.ga K x) m)) = some true) && (match PySem.W.recIn K (He.ma K (He.ga K x) m) "property" with
  | some (.ref _ :: _) => true
  | _ => false)))
theorem prB_ok {K : Frag} {x m : Str} (h : prB K x m = true) : PropOf K (He.ga K x) m (He.ma K (He.ga K x) m) (pgA K x m) := by
  obtain ⟨h1, h⟩ := He.ba h
  obtain ⟨h2, h⟩ := He.ba h
  obtain ⟨h3, h4⟩ := He.ba h
  refine ⟨He.eqO_ok h1, He.eqO_ok h2, of_decide_eq_true h3, ?_⟩
  unfold pgA
  cases q : PySem.W.recIn K (He.ma K (He.ga K x) m) "property" with
  | none => rw [q] at h4; cases h4
  | some l =>
    rw [q] at h4
    cases l with
    | nil => cases h4
    | cons a r =>
      cases a with
      | ref g => exact ⟨r, rfl⟩
      | _ => cases h4
def tup0B (K : Frag) (a : Addr) : Bool := match K.lookup a with
  | some ⟨.type c, _, .seq its _, _⟩ => decide (c = "tuple") && its.toList.isEmpty
  | _ => false
theorem tup0B_ok {K : Frag} {a : Addr} (h : tup0B K a = true) (S : Hp) : Dd K S (.ref a) (.tuple []) := by
  unfold tup0B at h
  cases q : K.lookup a with
  | none =>
    rw [q] at h
    cases h
  | some o =>
    obtain ⟨oc, od, dt, osl⟩ := o
    rw [q] at h
    cases oc with
    | type c =>
      cases dt with
      | seq its n =>
        obtain ⟨h1, h2⟩ := He.ba (show (decide (c = "tuple") && its.toList.isEmpty) = true from h)
        have e : its.toList = [] := by simpa using h2
        refine .tup (.inr ⟨_, its, n, q, congrArg Value.type (of_decide_eq_true h1), rfl, ?_, ?_⟩) .nil
        · rw [show its.size = its.toList.length from (Array.length_toList).symm, e]; exact Nat.zero_le _
        · rw [e]; exact .nil
      | _ => cases h
    | _ => cases dt <;> cases h
theorem tupS_ok {K : Frag} {x : Str} {ws : List Str} (h : He.tupB K x (ws.map .str) = true) (S : Hp) : Dd K S (.ref (He.ga K x)) (.tuple (ws.map .str)) := by
  have q := He.tupB_ok h S
  refine .tup q ?_
  rw [List.map_map]
  clear q h
  induction ws with
  | nil => exact .nil
  | cons w ws ih => exact .cons (.str w) ih
abbrev AlX : Type := Bool × List He.FnW
def obsX (fa : List He.Fa) (fn : List DefX) (ex : Frag → Bool) (K : Frag) : AlX := ((fa.all fun f => f.ok K) && ((fn.all fun d => d.ok K) && ex K), fn.map fun d => fnX K (d.adr K))
def valX (fn : List DefX) : AlX := (true, fn.map DefX.val)
def SaysX (fa : List He.Fa) (fn : List DefX) (ex : Frag → Bool) (K : Frag) : Prop := obsX fa fn ex K = valX fn
def obsXG (n : Nat) (fa : List He.Fa) (fn : List DefX) (ex : Frag → Bool) (g : Addr → Option Obj) : AlX := obsX fa fn ex (He.frG g (He.asD g n))
def hookX (n : Nat) (fa : List He.Fa) (fn : List DefX) (ex : Frag → Bool) : PySem.W.Hook where
  α := AlX
  obs := fun s => obsXG n fa fn ex s.heap.get?
  val := fun _ => valX fn
  says := fun _ h => ∃ K : Frag, K.In h ∧ SaysX fa fn ex K
  of := fun _ _ e => ⟨_, He.frG_in, e⟩
  keeps := fun _ _ _ ⟨K, hK, c⟩ k => ⟨K, PySem.W.Frag.In.keeps hK k, c⟩
theorem obsXG_eq {n : Nat} {fa : List He.Fa} {fn : List DefX} {ex : Frag → Bool} {g : Addr → Option Obj} {s : Shared} (h : ∀ a, g a = s.heap.get? a) : obsXG n fa fn ex g = (hookX n fa fn ex).obs s := by
  have e : g = s.heap.get? := funext h
  rw [e] <;> rfl
section
variable {fa : List He.Fa} {fn : List DefX} {ex : Frag → Bool} {K : Frag}
theorem SaysX.fact (c : SaysX fa fn ex K) (i : Nat) {f : He.Fa} (h : fa[i]? = some f := by rfl) : f.ok K = true := by
  have c1 := (He.ba (show ((fa.all fun f => f.ok K) && ((fn.all fun d => d.ok K) && ex K)) = true from congrArg (fun z : AlX => z.1) c)).1
  exact List.all_eq_true.mp c1 f (List.mem_of_getElem? h)
theorem SaysX.more (c : SaysX fa fn ex K) : ex K = true :=
  (He.ba (He.ba (show ((fa.all fun f => f.ok K) && ((fn.all fun d => d.ok K) && ex K)) = true from congrArg (fun z : AlX => z.1) c)).2).2
theorem SaysX.def_ (c : SaysX fa fn ex K) (i : Nat) {d : DefX} (h : fn[i]? = some d := by rfl) : ∃ fd, FunD K d.name d.qual d.params d.body d.scope (d.dvs K) [] (d.adr K) fd := by
  have c2 := (He.ba (He.ba (show ((fa.all fun f => f.ok K) && ((fn.all fun d => d.ok K) && ex K)) = true from congrArg (fun z : AlX => z.1) c)).2).1
  have e : fn.map (fun d => fnX K (d.adr K)) = fn.map DefX.val := congrArg (fun z : AlX => z.2) c
  have e2 : (fn.map fun d => fnX K (d.adr K))[i]? = (fn.map DefX.val)[i]? := by rw [e]
  rw [List.getElem?_map, List.getElem?_map, h] at e2
  exact DefX.funD (Option.some.inj e2) (List.all_eq_true.mp c2 d (List.mem_of_getElem? h))
end
end Dl
namespace Dl
open PySem PySem.Spec PyProof.Rows L2
variable {K : Frag} {Γ : List Sl} {k : Sl → List Sl → Prop} {O : Out}
theorem kit_any2 (d : PyData) {A B : String} (hA : A = "int" ∨ A = "bool" ∨ A = "str" ∨ A = "list" ∨ A = "tuple" ∨ A = "dict") (hB : B = "int" ∨ B = "bool" ∨ B = "str" ∨ B = "list" ∨ B = "tuple" ∨ B = "dict") :
    PySem.W.kitAny K (.type (tyD d)) [.type A, .type B] = some (isT A d || isT B d) := by
  refine kitAny_cons (kit_ty (kit_isT d hA)) (fun e => ?_) (fun e => by rw [e]; rfl)
  refine kitAny_cons (kit_ty (kit_isT d hB)) (fun e2 => ?_) (fun e2 => by rw [e2, Bool.or_true])
  rw [e, e2]
  rfl
theorem e_isi2 {te : TE} {A B : String} (hA : A = "int" ∨ A = "bool" ∨ A = "str" ∨ A = "list" ∨ A = "tuple" ∨ A = "dict" := by decide) (hB : B = "int" ∨ B = "bool" ∨ B = "str" ∨ B = "list" ∨ B = "tuple" ∨ B = "dict" := by decide)
    (h : EvP K te Γ fun r Γ1 => ∃ d, r = .dat d ∧ k (.dat (.bool (isT A d || isT B d))) Γ1) : EvP K (tCB (rIsiU K) (tCons te (tCons (tTup (tCons (tC (.ty A)) (tCons (tC (.ty B)) tNil))) tNil))) Γ k := by
  intro σ S H fs Q w P
  refine h σ S H fs _ w fun v r Γ1 S1 H1 f1 fs1 hb w1 st1 => ?_
  obtain ⟨d, rfl, hk⟩ := hb
  obtain ⟨e0, v', e1, hd⟩ := w1.hd
  subst e0
  cases e1
  refine ⟨(show (2 : Nat) ≤ sizeLine by decide), fun p hp => ?_⟩
  obtain ⟨w3, st3⟩ := alloc (.tup [V.ty A, V.ty B]) w1.tl hp
  refine .inr (.inl ⟨v, p, [V.ty A, V.ty B], _, [.type A, .type B], _, rfl, upd_same, .cons (.ty A) (.cons (.ty B) .nil), dd_ty (w1.good.sub.trans fun b o e => by rw [upd_ne (ne_of_none e hp)]; exact e) hd, kit_any2 d hA hB, ?_⟩)
  exact ((P.trans (by simpa using st1)).trans st3).dat w3 hk (.bl _)
theorem iT {b : Bool} {A B : Prop} (e : b = true) (h : A) : if b = true then A else B := by rw [if_pos e]; exact h
theorem iF {b : Bool} {A B : Prop} (e : b = false) (h : B) : if b = true then A else B := by rw [if_neg (by rw [e]; decide)]; exact h
theorem op_ix' {d : PyData} {i : Int} (h : ∃ ds d', seqD d = some ds ∧ atI ds i = some d' ∧ k (.dat d') Γ) : OpK K (uIx K) (.dat d) (.dat (.int i)) Γ k := by
  obtain ⟨ds, d', h1, h2, h3⟩ := h
  exact op_ix_d h1 h2 h3
def datsOf : List Sl → Option (List PyData)
  | [] => some []
  | .dat d :: r => match datsOf r with
    | some ds => some (d :: ds)
    | none => none
  | _ :: _ => none
theorem datsOf_eq : ∀ {rs : List Sl} {ds : List PyData}, datsOf rs = some ds → rs = ds.map .dat
  | [], ds, h => by cases h; rfl
  | .dat d :: r, ds, h => by
    unfold datsOf at h
    cases q : datsOf r with
    | none => rw [q] at h; cases h
    | some es => rw [q] at h; cases h; rw [datsOf_eq q]; rfl
  | .no :: _, _, h => by cases h
  | .raw _ :: _, _, h => by cases h
  | .res _ :: _, _, h => by cases h
def smallL (ds : List PyData) : Bool := Nat.ble ds.length 1000
theorem smallL_ok {ds : List PyData} (h : smallL ds = true) : ds.length ≤ sizeLine := Nat.le_trans (Nat.le_of_ble_eq_true h) (by decide)
theorem e_tup' {ta : TA} (h : EvA K ta Γ fun rs Γ1 => ∃ ds : List PyData, datsOf rs = some ds ∧ smallL ds = true ∧ k (.dat (.tuple ds)) Γ1) : EvP K (tTup ta) Γ k := e_tup (h.mono fun rs Γ1 ⟨ds, e, z, q⟩ => ⟨ds, datsOf_eq e, smallL_ok z, q⟩)
theorem e_lst' {ta : TA} (h : EvA K ta Γ fun rs Γ1 => ∃ ds : List PyData, datsOf rs = some ds ∧ smallL ds = true ∧ k (.dat (.list ds)) Γ1) : EvP K (tLst ta) Γ k := e_lst (h.mono fun rs Γ1 ⟨ds, e, z, q⟩ => ⟨ds, datsOf_eq e, smallL_ok z, q⟩)
theorem op_in2 {w a b : Str} (hk : k (.dat (.bool (decide (w ∈ [a, b])))) Γ) : OpK K (uIn K) (.dat (.str w)) (.dat (.tuple [.str a, .str b])) Γ k := op_in_strs (ws := [a, b]) rfl hk
theorem op_ni3 {w a b c : Str} (hk : k (.dat (.bool (!decide (w ∈ [a, b, c])))) Γ) : OpK K (uNotIn K) (.dat (.str w)) (.dat (.tuple [.str a, .str b, .str c])) Γ k := op_ni_strs (ws := [a, b, c]) rfl hk
theorem op_mul_il {i j : Int} (h : (decide (-(2 ^ 64) < i) && decide (i < 2 ^ 64)) = true) (hk : k (.dat (.int (i * j))) Γ) : OpK K (uMul K) (.dat (.int i)) (.dat (.int j)) Γ k := by
  simp only [Bool.and_eq_true, decide_eq_true_eq] at h
  exact op_mul_i (.inl h) hk
theorem op_mul_ir {i j : Int} (h : (decide (-(2 ^ 64) < j) && decide (j < 2 ^ 64)) = true) (hk : k (.dat (.int (i * j))) Γ) : OpK K (uMul K) (.dat (.int i)) (.dat (.int j)) Γ k := by
  simp only [Bool.and_eq_true, decide_eq_true_eq] at h
  exact op_mul_i (.inr h) hk
structure Shp (n : Nat) (d : PyData) : Prop where
  lay : d.canLay0 = true
  dep : d.depth ≤ n
theorem Shp.shaped {n : Nat} {d : PyData} (h : Shp n d) (hn : n ≤ 64 := by decide) : SeqAt.shaped d = true := by
  unfold SeqAt.shaped
  rw [h.lay, decide_eq_true (Nat.le_trans h.dep hn)]
  rfl
theorem Shp.int {n : Nat} {i : Int} : Shp n (.int i) := ⟨by simp only [PyData.canLay0], by simp only [PyData.depth]; exact Nat.zero_le _⟩
theorem Shp.none {n : Nat} : Shp n .none := ⟨by simp only [PyData.canLay0], by simp only [PyData.depth]; exact Nat.zero_le _⟩
theorem Shp.bool {n : Nat} {b : Bool} : Shp n (.bool b) := ⟨by simp only [PyData.canLay0], by simp only [PyData.depth]; exact Nat.zero_le _⟩
theorem Shp.str {n : Nat} {x : Str} (h : PyData.strOk x = true) : Shp n (.str x) := ⟨by simp only [PyData.canLay0]; exact h, by simp only [PyData.depth]; exact Nat.zero_le _⟩
theorem shp_all {n : Nat} : ∀ {xs : List PyData}, (∀ x ∈ xs, Shp n x) → PyData.canLayAll0 xs = true ∧ PyData.depthAll xs ≤ n
  | [], _ => ⟨by simp only [PyData.canLayAll0], by simp only [PyData.depthAll]; exact Nat.zero_le _⟩
  | x :: xs, h => by
    obtain ⟨a, b⟩ := h x List.mem_cons_self
    obtain ⟨c, d⟩ := shp_all fun y hy => h y (List.mem_cons_of_mem _ hy)
    exact ⟨by simp only [PyData.canLayAll0, a, c, Bool.and_true], by simp only [PyData.depthAll]; exact Nat.max_le.mpr ⟨b, d⟩⟩
theorem Shp.list {n : Nat} {xs : List PyData} (h : ∀ x ∈ xs, Shp n x) : Shp (n + 1) (.list xs) := by
  obtain ⟨a, b⟩ := shp_all h
  exact ⟨by simp only [PyData.canLay0]; exact a, by simp only [PyData.depth]; omega⟩
theorem Shp.tuple {n : Nat} {xs : List PyData} (h : ∀ x ∈ xs, Shp n x) : Shp (n + 1) (.tuple xs) := by
  obtain ⟨a, b⟩ := shp_all h
  exact ⟨by simp only [PyData.canLay0]; exact a, by simp only [PyData.depth]; omega⟩
theorem shaped_int {i : Int} : SeqAt.shaped (.int i) = true := (Shp.int (n := 0)).shaped
theorem shaped_none : SeqAt.shaped .none = true := (Shp.none (n := 0)).shaped
theorem shaped_list {xs : List PyData} (h : ∀ x ∈ xs, Shp 5 x) : SeqAt.shaped (.list xs) = true := (Shp.list h).shaped
theorem shaped_tuple {xs : List PyData} (h : ∀ x ∈ xs, Shp 5 x) : SeqAt.shaped (.tuple xs) = true := (Shp.tuple h).shaped
theorem shp_ints {n : Nat} {ns : List Int} : ∀ x ∈ ns.map PyData.int, Shp n x := fun x hx => by
  obtain ⟨i, _, rfl⟩ := List.mem_map.mp hx
  exact .int
theorem op_eq_ii {i j : Int} (hk : k (.dat (.bool (decide (i = j)))) Γ) : OpK K (uEq K) (.dat (.int i)) (.dat (.int j)) Γ k := by
  refine op_eq_d shaped_int shaped_int ?_
  rwa [show PyData.eqv (.int i) (.int j) = decide (i = j) by simp only [PyData.eqv]; by_cases h : i = j <;> simp [h]]
theorem op_ne_ii {i j : Int} (hk : k (.dat (.bool (!decide (i = j)))) Γ) : OpK K (uNe K) (.dat (.int i)) (.dat (.int j)) Γ k := by
  refine op_ne_d shaped_int shaped_int ?_
  rwa [show PyData.eqv (.int i) (.int j) = decide (i = j) by simp only [PyData.eqv]; by_cases h : i = j <;> simp [h]]
theorem op_eq_ss {x y : Str} (h1 : PyData.strOk x = true) (h2 : PyData.strOk y = true) (hk : k (.dat (.bool (x == y))) Γ) : OpK K (uEq K) (.dat (.str x)) (.dat (.str y)) Γ k := by
  refine op_eq_d (Shp.str (n := 0) h1).shaped (Shp.str (n := 0) h2).shaped ?_
  rwa [show PyData.eqv (.str x) (.str y) = (x == y) by simp only [PyData.eqv]]
theorem op_ne_ss {x y : Str} (h1 : PyData.strOk x = true) (h2 : PyData.strOk y = true) (hk : k (.dat (.bool (!(x == y)))) Γ) : OpK K (uNe K) (.dat (.str x)) (.dat (.str y)) Γ k := by
  refine op_ne_d (Shp.str (n := 0) h1).shaped (Shp.str (n := 0) h2).shaped ?_
  rwa [show PyData.eqv (.str x) (.str y) = (x == y) by simp only [PyData.eqv]]
end Dl
namespace Dl
open PySem PySem.Spec PyProof.Rows L2
variable {K : Frag} {Γ : List Sl} {k : Sl → List Sl → Prop} {O : Out}
theorem asg1 {σ : List (Option V)} {S H : Hp} {f : List Addr} {fs : List (List Addr)} {v : V} {s : Sl} (i : Nat) (w : Wd K (some v :: σ) (s :: Γ) S H (f :: fs)) :
    ∃ S' fs', Wd K (σ.set i (some v)) (Γ.set i s) S' H fs' ∧ Step S H (f :: fs).flatten S' H fs'.flatten := by
  have q : EvG K (gName i) s Γ fun Γ' => Γ' = Γ.set i s := g_name rfl
  exact q σ S H f fs v (fun σ' H' => ∃ S' fs', Wd K σ' (Γ.set i s) S' H' fs' ∧ Step S H (f :: fs).flatten S' H' fs'.flatten) w fun σ' Γ' S' H' fs' e w' st => ⟨S', fs', e ▸ w', st⟩
theorem x_par3 {i j l : Nat} {ta : TA} (h : EvA K ta Γ fun rs Γ1 => ∃ s1 s2 s3, rs = [s1, s2, s3] ∧ O.nx (((Γ1.set i s1).set j s2).set l s3)) : ExS K (tPar3 i j l ta) Γ O := by
  intro σ S H fs D w e
  refine h σ S H fs _ w fun vs rs Γ1 S1 H1 frs fs1 hk l1 l2 w1 st1 => ?_
  obtain ⟨s1, s2, s3, rfl, hk⟩ := hk
  match vs, frs, l1, l2, w1, st1 with
  | [u, v, z], [f1, f2, f3], _, _, w1, st1 =>
    refine ⟨u, v, z, rfl, ?_⟩
    have w1' : Wd K (some u :: some v :: some z :: σ) (s1 :: s2 :: s3 :: Γ1) S1 H1 (f1 :: f2 :: f3 :: fs1) := w1
    obtain ⟨S2, fs2, w2, st2⟩ := asg1 (i + 2) w1'
    simp only [List.set_cons_succ] at w2
    match fs2, w2.sat.lens, w2, st2 with
    | g2 :: g3 :: gs, _, w2, st2 =>
      obtain ⟨S3, fs3, w3, st3⟩ := asg1 (j + 1) w2
      simp only [List.set_cons_succ] at w3
      match fs3, w3.sat.lens, w3, st3 with
      | g4 :: gs', _, w3, st3 =>
        obtain ⟨S4, fs4, w4, st4⟩ := asg1 l w3
        exact e.nx _ _ _ _ _ hk w4 (st1.trans (st2.trans (st3.trans st4)))
      | [], hl, _, _ => simp at hl
    | [_], hl, _, _ => simp at hl
    | [], hl, _, _ => simp at hl
  | [], _, l1, _, _, _ => simp at l1
  | [_], _, l1, _, _, _ => simp at l1
  | [_, _], _, l1, _, _, _ => simp at l1
  | _ :: _ :: _ :: _ :: _, _, l1, _, _, _ => simp at l1
  | [_, _, _], [], _, l2, _, _ => simp at l2
  | [_, _, _], [_], _, l2, _, _ => simp at l2
  | [_, _, _], [_, _], _, l2, _, _ => simp at l2
  | [_, _, _], _ :: _ :: _ :: _ :: _, _, l2, _, _ => simp at l2
theorem vss_drop {S : Hp} : ∀ {vs : List V} {ss : List Sl} (n : Nat), VSs K S vs ss → VSs K S (vs.drop n) (ss.drop n)
  | _, _, 0, h => by simpa using h
  | _, _, n + 1, .nil => by simpa using (Paired.nil : VSs K S [] [])
  | _, _, n + 1, .cons a t => by simpa using vss_drop n t
theorem vss_take {S : Hp} : ∀ {vs : List V} {ss : List Sl} (n : Nat), VSs K S vs ss → VSs K S (vs.take n) (ss.take n)
  | _, _, 0, h => by simpa using (Paired.nil : VSs K S [] [])
  | _, _, n + 1, .nil => by simpa using (Paired.nil : VSs K S [] [])
  | _, _, n + 1, .cons a t => by simpa using Paired.cons a (vss_take n t)
theorem vss_cut {S : Hp} {vs : List V} {ss : List Sl} {lo hi : Option Int} (h : VSs K S vs ss) : VSs K S (cutV vs lo hi) (cutG ss lo hi) := by
  have hl := vss_len h
  unfold cutV cutG
  rw [hl]
  exact vss_take _ (vss_drop _ h)
theorem i_slC {te : TE} {tl th : TO} {ki : (Nat → Sl) → Nat → (List Sl → Prop) → List Sl → Prop} (h : EvP K te Γ fun r Γ1 => EvO K tl Γ1 fun lo Γ2 => EvO K th Γ2 fun hi Γ3 => ∃ a ss, r = .raw (.ref a) ∧ HasL Γ3 a ss ∧ ki (fun i => (cutG ss lo hi).getD i .no) (cutG ss lo hi).length (fun _ => True) Γ3) : EvI K (iSq K (tSl (rSlU K) te tl th)) Γ ki := by
  intro σ S H fs R w P
  refine h σ S H fs _ w fun v r Γ1 S1 H1 f1 fs1 hl w1 st1 => ?_
  refine hl σ S1 H1 fs1 _ w1.tl fun lo Γ2 S2 H2 fs2 hh w2 st2 => ?_
  refine hh σ S2 H2 fs2 _ w2 fun hi Γ3 S3 H3 fs3 hk w3 st3 => ?_
  obtain ⟨a, ss, rfl, hL, hk⟩ := hk
  obtain ⟨e0, e1⟩ := w1.hd
  subst e0
  cases e1
  obtain ⟨vs, hH, hvs⟩ := hL.at w3
  have hc := vss_cut (lo := lo) (hi := hi) hvs
  have hcl := vss_len hc
  have st13 : Step S H fs.flatten S3 H3 fs3.flatten := ((by simpa using st1 : Step S H fs.flatten S1 H1 fs1.flatten).trans st2).trans st3
  refine .inl ⟨a, vs, rfl, .inl (.inl hH), fun p hp => ?_⟩
  obtain ⟨w4, st4⟩ := alloc (.lst (cutV vs lo hi)) w3 hp
  have hS : (upd S3 p (.lst (cutV vs lo hi))) p = some (.lst (cutV vs lo hi)) := upd_same
  refine .inl ⟨p, cutV vs lo hi, rfl, .inl (.inl upd_same), fun hz => P _ _ _ _ Γ3 _ _ fs3 (fun _ _ h => h) hk w4 (st13.trans st4) fun i σ2 Γ5 S5 H5 fs5 hi' hG w5 st5 => ?_⟩
  have hp5 : H5 p = some (.lst (cutV vs lo hi)) := w5.good.sub _ _ (st5.le _ _ hS)
  refine ⟨fun hlt => ⟨⟨_, (cutV vs lo hi)[i]'(by omega), .inl (.inl hp5), List.getElem?_eq_getElem (by omega)⟩, fun x H' y => ?_⟩, fun he => ⟨_, .inl (.inl hp5), by omega⟩⟩
  obtain ⟨rfl, y⟩ := y
  have hx := y _ (.inl (.inl hp5))
  have hs : (cutG ss lo hi)[i]? = some ((cutG ss lo hi).getD i .no) := by
    rw [List.getD_eq_getElem?_getD, List.getElem?_eq_getElem hlt]
    rfl
  obtain ⟨u, h1, h2⟩ := VSs.get hc hs
  rw [hx] at h1
  cases h1
  exact ⟨S5, w5.put (VS.mono (st4.le.trans st5.le) h2).ok, Step.refl⟩
theorem x_perm (j : Nat) {v : V} {Θ Θ' : List (Addr × Cell)} {t : TS} (hj : Γ[j]? = some (.res (star v Θ))) (p : Θ.Perm Θ') (h : ExS K t (Γ.set j (.res (star v Θ'))) O) : ExS K t Γ O := by
  intro σ S H fs D w e
  obtain ⟨x, fp, hx, hf, e1, hp⟩ := w.sat.get hj
  obtain ⟨q1, q2⟩ := star_perm p hp
  have hjl : j < fs.length := (List.getElem?_eq_some_iff.mp hf).1
  have pm := flat_take fs j fp hf
  have pm2 := flat_put (fs.set j []) j (Θ'.map (·.1)) (List.getElem?_set_self hjl)
  rw [List.set_set] at pm2
  have pp : (fs.set j (Θ'.map (·.1))).flatten.Perm fs.flatten := pm2.trans ((q2.symm.append_right _).trans pm.symm)
  have sat1 := w.sat.set (x := x) (s := .res (star v Θ')) (fp := Θ'.map (·.1)) j ⟨e1, q1⟩
  rw [setSame hx] at sat1
  exact h σ S H _ D ⟨w.good.perm pp.symm, sat1⟩ (e.step (Step.refl.sub fun a ha => pp.mem_iff.mp ha))
theorem e_moveP (j : Nat) {te : TE} (h : EvP K te Γ fun s Γ1 => ∃ (r : Res) (u : V), s = .raw u ∧ Γ1[j]? = some (.res r) ∧ k (.res (r.at u)) (Γ1.set j .no)) : EvP K te Γ k := by
  intro σ S H fs Q w P
  refine h σ S H fs _ w fun v s Γ1 S1 H1 f1 fs1 hb w1 st1 => ?_
  obtain ⟨r, u, rfl, hj, hk⟩ := hb
  obtain ⟨e0, e1⟩ := w1.hd
  subst e0
  cases e1
  obtain ⟨x, fp, hx, hf, e2, hp⟩ := w1.tl.sat.get hj
  have pm := flat_take fs1 j fp hf
  have sat1 := w1.tl.sat.set (x := x) (s := .no) (fp := []) j rfl
  rw [setSame hx] at sat1
  have pp : (fp :: fs1.set j []).flatten.Perm fs1.flatten := by
    rw [List.flatten_cons]
    exact pm.symm
  exact P _ _ _ S1 H1 fp (fs1.set j []) hk ⟨w1.tl.good.perm pp.symm, .cons ⟨rfl, hp⟩ sat1⟩ (st1.sub fun a ha => by simpa using pp.mem_iff.mp ha)
theorem x_selfD {j : Nat} {f : Str} {te : TE} (h : EvP K te Γ fun s Γ1 => ∃ (a : Addr) (Θ : List (Addr × Cell)) (C : Addr) (ns : List Str) (ss : List Sl), Pers s ∧ Γ1[j]? = some (.res (star (.ref a) ((a, .ins C ns ss) :: Θ))) ∧ Cls K C ∧ NoAttr K C f ∧ f ∉ ns ∧ ns.length < 999 ∧
    O.nx (Γ1.set j (.res (star (.ref a) ((a, .ins C (ns ++ [f]) (ss ++ [s])) :: Θ))))) : ExS K (sFld K (tVar j) te f) Γ O :=
  x_fldN j 0 (h.mono fun s Γ1 ⟨a, Θ, C, ns, ss, hp, hj, hC, hn, hf, hl, ho⟩ => ⟨hp, e_res hj ⟨a, _, _, C, ns, ss, rfl, hj, rfl, hC, hn, hf, hl, ho⟩⟩)
theorem x_selfL {j : Nat} {f : Str} {te : TE} (h : EvP K te Γ fun r Γ1 => ∃ (rr : Res) (a : Addr) (Θ Θ' : List (Addr × Cell)) (C : Addr) (ns : List Str) (ss : List Sl), r = .res rr ∧ Cells rr Θ' ∧ Γ1[j]? = some (.res (star (.ref a) ((a, .ins C ns ss) :: Θ))) ∧ Cls K C ∧ NoAttr K C f ∧ f ∉ ns ∧ ns.length < 999 ∧
    O.nx (Γ1.set j (.res (star (.ref a) ((a, .ins C (ns ++ [f]) (ss ++ [.raw rr.v])) :: (Θ ++ Θ')))))) : ExS K (sFld K (tVar j) te f) Γ O :=
  x_selfD (e_absorb j (h.mono fun r Γ1 ⟨rr, a, Θ, Θ', C, ns, ss, e, hc, hj, hC, hn, hf, hl, ho⟩ => ⟨rr, _, _, Θ', e, hc, hj, a, Θ ++ Θ', C, ns, ss, trivial, by
    have hlt : j < Γ1.length := (List.getElem?_eq_some_iff.mp hj).1
    rw [List.getElem?_set_self hlt]
    rfl, hC, hn, hf, hl, by
    rw [List.set_set]
    exact ho⟩))
theorem e_lstO' {ta : TA} (h : EvA K ta Γ fun rs Γ1 => ∃ ds : List PyData, datsOf rs = some ds ∧ smallL ds = true ∧ ∀ a, k (.res (ownL a ds)) Γ1) : EvP K (tLst ta) Γ k := e_lstO (h.mono fun rs Γ1 ⟨ds, e, z, q⟩ => ⟨ds, datsOf_eq e, smallL_ok z, q⟩)
end Dl
namespace Dl
open PySem PySem.Spec PyProof.Rows L2
variable {K : Frag} {Γ : List Sl} {k : Sl → List Sl → Prop} {O : Out}
theorem e_split (j : Nat) {te : TE} (h : EvP K te Γ fun r Γ1 => ∃ (u v : V) (Θ2 Θ Θ' : List (Addr × Cell)), r = .res (star u Θ2) ∧ Γ1[j]? = some (.res (star v (Θ ++ Θ'))) ∧ k (.res (star u (Θ2 ++ Θ'))) (Γ1.set j (.res (star v Θ)))) : EvP K te Γ k := by
  intro σ S H fs Q w P
  refine h σ S H fs _ w fun y r Γ1 S1 H1 f1 fs1 hb w1 st1 => ?_
  obtain ⟨u, v, Θ2, Θ, Θ', rfl, hj, hk⟩ := hb
  obtain ⟨e1, e2, hc⟩ := w1.hd
  have e1 : some y = some u := e1
  have e2 : f1 = Θ2.map (·.1) := e2
  cases e1
  subst e2
  obtain ⟨x, fp, hx, hg, e3, e4, hcs⟩ := w1.tl.sat.get hj
  have e4 : fp = (Θ ++ Θ').map (·.1) := e4
  have e3 : x = some v := e3
  subst e4
  have pm := flat_take fs1 j _ hg
  have jl : j < fs1.length := (List.getElem?_eq_some_iff.mp hg).1
  have pm2 := flat_put (fs1.set j []) j (Θ.map (·.1)) (List.getElem?_set_self jl)
  rw [List.set_set] at pm2
  have perm : (Θ2.map (·.1) :: fs1).flatten.Perm ((Θ2 ++ Θ').map (·.1) :: fs1.set j (Θ.map (·.1))).flatten := by
    simp only [List.flatten_cons]
    refine List.Perm.trans (pm.append_left _) (List.Perm.trans ?_ (pm2.symm.append_left _))
    rw [List.map_append, List.map_append, List.append_assoc, List.append_assoc]
    refine List.Perm.append_left _ ?_
    rw [← List.append_assoc, ← List.append_assoc]
    exact (List.perm_append_comm).append_right _
  have sat := w1.tl.sat.set (x := x) (s := .res (star v Θ)) (fp := Θ.map (·.1)) j ⟨e3, rfl, fun p hp => hcs p (List.mem_append_left _ hp)⟩
  rw [setSame hx] at sat
  exact P _ _ _ S1 H1 _ _ hk ⟨w1.good.perm perm, .cons ⟨rfl, rfl, fun p hp => (List.mem_append.mp hp).elim (hc p) fun q => hcs p (List.mem_append_right _ q)⟩ sat⟩ (st1.sub fun a ha => perm.mem_iff.mpr ha)
theorem op_ne_same {d : PyData} (h : Shp 60 d) (hk : k (.dat (.bool false)) Γ) : OpK K (uNe K) (.dat d) (.dat d) Γ k := by
  refine op_ne_d h.shaped h.shaped ?_
  rw [SeqAt.eqv_refl d h.lay]
  exact hk
theorem op_neR_same {a : Addr} {ds : List PyData} (hL : HasL Γ a (ds.map .dat)) (h : Shp 60 (.list ds)) (hk : k (.dat (.bool false)) Γ) : OpK K (uNe K) (.dat (.list ds)) (.raw (.ref a)) Γ k := by
  refine op_neR hL h.shaped h.shaped ?_
  rw [SeqAt.eqv_refl _ h.lay]
  exact hk
theorem Shp.le {n m : Nat} {d : PyData} (h : Shp n d) (l : n ≤ m := by decide) : Shp m d := ⟨h.lay, Nat.le_trans h.dep l⟩
end Dl
namespace Dl
open PySem PySem.Spec PyProof.Rows L2
variable {K : Frag} {Γ : List Sl} {k : Sl → List Sl → Prop} {O : Out}
def Scr (K : Frag) (ns : List Int) (s : Sl) : Prop := s = .dat (.list (ns.map .int)) ∨ ∃ a, s = .raw (.ref a) ∧ ∀ H, SqL K H a (ns.map V.int)
theorem e_scr {i : Nat} {s : Sl} {ns : List Int} (hs : Scr K ns s) (h : Γ[i]? = some s) (hk : k s Γ) : EvP K (tVar i) Γ k := by
  rcases hs with rfl | ⟨a, rfl, _⟩
  · exact e_dat h hk
  · exact e_raw h hk
theorem keep_scr {s : Sl} {ns : List Int} (hs : Scr K ns s) : Keep [s] [s] Γ := by
  rcases hs with rfl | ⟨a, rfl, _⟩
  · exact .dat .nil
  · exact .raw .nil
theorem ints_at {ns : List Int} {i : Nat} {x : V} (h : (ns.map V.int)[i]? = some x) : x = .int (ns.getD i 0) := by
  rw [List.getElem?_map] at h
  cases q : ns[i]? with
  | none => rw [q] at h; cases h
  | some n =>
    rw [q] at h
    cases h
    rw [List.getD_eq_getElem?_getD, q]
    rfl
theorem ints_data {ns : List Int} {i : Nat} (h : i < ns.length) : (ns.map PyData.int).getD i .none = .int (ns.getD i 0) := by
  rw [List.getD_eq_getElem?_getD, List.getD_eq_getElem?_getD, List.getElem?_map, List.getElem?_eq_getElem h]
  rfl
theorem i_scr {tl : TE} {ns : List Int} {ki : (Nat → Sl) → Nat → (List Sl → Prop) → List Sl → Prop} (h : EvP K tl Γ fun r Γ1 => Scr K ns r ∧ (ns.length ≤ sizeLine → ∀ f : Nat → Sl, (∀ i, i < ns.length → f i = .dat (.int (ns.getD i 0))) → ki f ns.length (fun _ => True) Γ1)) : EvI K (iSq K tl) Γ ki := by
  intro σ S H fs R w P
  by_cases hz : ns.length ≤ sizeLine
  case neg =>
    refine h σ S H fs _ w fun v r Γ1 S1 H1 f1 fs1 hb w1 st1 => ?_
    obtain ⟨hs, hk⟩ := hb
    rcases hs with rfl | ⟨a, rfl, hA⟩
    · obtain ⟨e0, v', e1, hd⟩ := w1.hd
      subst e0; cases e1
      cases hd with
      | lst h1 ha =>
        have hl := dps_len ha
        rw [List.length_map] at hl
        exact .inl ⟨_, _, rfl, w1.good.sub.sqL (.inl h1), fun q => absurd (by omega) hz⟩
    · obtain ⟨e0, e1⟩ := w1.hd
      subst e0; cases e1
      exact .inl ⟨_, _, rfl, hA H1, fun q => absurd (by rw [List.length_map] at q; exact q) hz⟩
  refine h σ S H fs _ w fun v r Γ1 S1 H1 f1 fs1 hb w1 st1 => ?_
  obtain ⟨hs, hk⟩ := hb
  have hk := hk hz
  have mk : ∀ (a : Addr), (∀ H2, Le H1 H2 ∨ Le S1 H2 → SqL K H2 a (ns.map V.int)) → f1 = [] → v = .ref a → (∃ a xs, v = .ref a ∧ SqL K H1 a xs ∧ (xs.length ≤ sizeLine → R (Itl K a) H1)) := fun a hA e0 ev => by
    subst e0 ev
    refine ⟨a, ns.map V.int, rfl, hA H1 (.inl (Le.refl _)), fun hz => P _ _ _ _ Γ1 S1 H1 fs1 (fun _ _ h => h) (hk (fun i => .dat (.int (ns.getD i 0))) fun i _ => rfl) w1.tl (by simpa using st1) fun i σ2 Γ2 S2 H2 fs2 hi _ w2 st2 => ⟨fun hlt => ?_, fun he => ?_⟩⟩
    · have hq : SqL K H2 a (ns.map V.int) := hA H2 (.inr (st2.le.trans w2.good.sub))
      refine ⟨⟨_, _, hq, List.getElem?_eq_getElem (by rw [List.length_map]; exact hlt)⟩, fun x H' y => ?_⟩
      obtain ⟨rfl, y⟩ := y
      exact ⟨S2, w2.put ⟨rfl, x, rfl, by rw [ints_at (y _ hq)]; exact .int _⟩, Step.refl⟩
    · exact ⟨_, hA H2 (.inr (st2.le.trans w2.good.sub)), by rw [List.length_map]; omega⟩
  rcases hs with rfl | ⟨a, rfl, hA⟩
  · obtain ⟨e0, v', e1, hd⟩ := w1.hd
    cases e1
    cases hd with
    | @lst a xs _ h1 ha =>
      have hx : xs = ns.map V.int := dd_ints ha
      subst hx
      refine .inl (mk a (fun H2 q => ?_) e0 rfl)
      rcases q with q | q
      · exact q.sqL (w1.good.sub.sqL (.inl h1))
      · exact q.sqL (.inl h1)
  · obtain ⟨e0, e1⟩ := w1.hd
    cases e1
    exact .inl (mk a (fun H2 _ => hA H2) e0 rfl)
theorem e_lcScr {i : Nat} {tl te : TE} {tt : TT} {ns : List Int} (c : Int → Bool) (f : Int → PyData) (h : EvP K tl Γ fun r Γ1 => Scr K ns r ∧
    (∀ x ∈ ns, EvB K tt ((Γ1.set i .no).set i (.dat (.int x))) fun b Γ2 => b = c x ∧ if c x = true then EvP K te Γ2 fun r Γ3 => r = .dat (f x) ∧ Γ3.set i .no = Γ1.set i .no else Γ2.set i .no = Γ1.set i .no) ∧ k (.dat (.list ((ns.filter c).map f))) (Γ1.set i .no)) : EvP K (tLc (iSq K tl) (gName i) tt te [i]) Γ k := by
  refine e_lc (sets_name (by simp)) gm_name (i_scr (ns := ns) (h.mono fun r Γ1 ⟨e1, h1, h2⟩ => ⟨e1, fun hz ff hff => ?_⟩))
  refine ⟨fun j acc Γ => acc = ((ns.take j).filter c).map f ∧ Γ = Γ1.set i .no, hz, ⟨by simp, rfl⟩, fun _ _ _ _ _ => trivial, fun j acc Γx hj hl ⟨ha, hΓ⟩ => ?_, fun acc Γx hl ⟨ha, hΓ⟩ => ?_⟩
  · have hx : ns[j]? = some (ns.getD j 0) := by
      rw [List.getD_eq_getElem?_getD, List.getElem?_eq_getElem hj]
      rfl
    have hm := List.mem_of_getElem? hx
    have ht : ((ns.take (j + 1)).filter c).map f = ((ns.take j).filter c).map f ++ (if c (ns.getD j 0) then [f (ns.getD j 0)] else []) := by
      have hj' : j < ns.length := hj
      have e : ns[j] = ns.getD j 0 := by rw [List.getD_eq_getElem?_getD, List.getElem?_eq_getElem hj']; rfl
      rw [List.take_succ_eq_append_getElem hj', List.filter_append, List.map_append, e]
      generalize ns.getD j 0 = v
      cases q : c v <;> simp [q]
    rw [hΓ, hff j hj]
    refine g_name ((h1 _ hm).mono fun b Γ2 ⟨hb, hc⟩ => ⟨fun hb1 => ?_, fun hb0 => ?_⟩)
    · rw [← hb, hb1, if_pos rfl] at hc
      refine hc.mono fun r Γ3 ⟨hr, h3⟩ => ⟨_, hr, ?_, h3⟩
      rw [ht, ha, if_pos (by rw [← hb, hb1])]
    · rw [← hb, hb0, if_neg (by decide)] at hc
      refine ⟨?_, hc⟩
      rw [ht, ha, if_neg (by rw [← hb, hb0]; decide), List.append_nil]
  · rw [hΓ, ha, List.take_length]
    exact h2
theorem dps_of_ints {S : Hp} : ∀ (ns : List Int), DdAll K S (ns.map V.int) (ns.map .int)
  | [] => .nil
  | n :: ns => .cons (.int n) (dps_of_ints ns)
theorem law_sp {F : FSpec} {H : Hp} {a : Addr} {ns : List Int} {E : XK} (hS : SqL K H a (ns.map V.int)) (hF : ∀ s k, Scr K ns s → (∀ Γ, k (.dat (.bool true)) Γ) → F [s] k) : spOf K F [.ref a] H (fun v _ => v = .bl true) E := by
  have core : ∀ s, Scr K ns s → SlOk K H H (some (.ref a)) [] s → spOf K F [.ref a] H (fun v _ => v = .bl true) E := fun s hs hok => by
    refine ⟨[s], H, [[]], fun r _ => r = .dat (.bool true), ⟨⟨Le.refl _, by simp, fun b hb => by simp at hb, fun b hb => by simp at hb⟩, .cons hok .nil⟩, hF s _ hs fun _ => rfl, ?_⟩
    intro v r Γ' S' H' fr fs' hk w st
    have hk : r = .dat (.bool true) := hk
    subst hk
    obtain ⟨_, v', e1, hd⟩ := w.hd
    cases e1; cases hd
    rfl
  rcases hS with h | ⟨o, its, n, h⟩
  · exact core _ (.inl rfl) ⟨rfl, _, rfl, .lst h (dps_of_ints ns)⟩
  · exact core _ (.inr ⟨a, rfl, fun H => .inr ⟨o, its, n, h⟩⟩) ⟨rfl, rfl⟩
end Dl
namespace Dl
open PySem PySem.Spec PyProof.Rows L2
variable {K : Frag} {Γ : List Sl} {k : Sl → List Sl → Prop} {O : Out}
def ValD (K : Frag) (Γ : List Sl) (s : Sl) (d : PyData) : Prop := ∀ σ S H fs v, Wd K σ Γ S H fs → VS K S v s → Dp K H v d
theorem valD_dat {d : PyData} : ValD K Γ (.dat d) d := fun σ S H fs v w h => (w.good.sub.dp h).dp
inductive ValDs (K : Frag) (Γ : List Sl) : List Sl → List PyData → Prop
  | nil : ValDs K Γ [] []
  | cons {s : Sl} {d : PyData} {ss : List Sl} {ds : List PyData} : ValD K Γ s d → ValDs K Γ ss ds → ValDs K Γ (s :: ss) (d :: ds)
theorem valDs_dats : ∀ {ds : List PyData}, ValDs K Γ (ds.map .dat) ds
  | [] => .nil
  | _ :: _ => .cons valD_dat valDs_dats
theorem ValDs.all {σ : List (Option V)} {S H : Hp} {fs : List (List Addr)} (w : Wd K σ Γ S H fs) : ∀ {ss : List Sl} {ds : List PyData} {vs : List V}, ValDs K Γ ss ds → VSs K S vs ss → DpAll K H vs ds
  | _, _, _, .nil, .nil => .nil
  | _, _, _, .cons a b, .cons c d => .cons (a _ _ _ _ _ w c) (ValDs.all w b d)
theorem ValDs.len : ∀ {ss : List Sl} {ds : List PyData}, ValDs K Γ ss ds → ss.length = ds.length
  | _, _, .nil => rfl
  | _, _, .cons _ b => by simp [b.len]
theorem valD_lst {a : Addr} {ss : List Sl} {ds : List PyData} (hL : HasL Γ a ss) (h : ValDs K Γ ss ds) : ValD K Γ (.raw (.ref a)) (.list ds) := fun σ S H fs v w e => by
  cases (show v = .ref a from e)
  obtain ⟨vs, hH, hvs⟩ := hL.at w
  exact .lst (.inl (.inl hH)) (h.all w hvs)
def HasT (Γ : List Sl) (a : Addr) (ss : List Sl) : Prop := ∃ (j n : Nat) (v : V) (Θ : List (Addr × Cell)), Γ[j]? = some (.res (star v Θ)) ∧ Θ[n]? = some (a, .tup ss)
theorem HasT.s (j n : Nat) {v : V} {Θ : List (Addr × Cell)} {a : Addr} {ss : List Sl} (h1 : Γ[j]? = some (.res (star v Θ))) (h2 : Θ[n]? = some (a, .tup ss)) : HasT Γ a ss := ⟨j, n, v, Θ, h1, h2⟩
theorem HasT.at {σ : List (Option V)} {S H : Hp} {fs : List (List Addr)} {a : Addr} {ss : List Sl} (h : HasT Γ a ss) (w : Wd K σ Γ S H fs) : ∃ vs, H a = some (.tup vs) ∧ VSs K S vs ss := by
  obtain ⟨j, n, v, Θ, h1, h2⟩ := h
  exact star_cell w h1 h2
theorem valD_tup {a : Addr} {ss : List Sl} {ds : List PyData} (hT : HasT Γ a ss) (h : ValDs K Γ ss ds) : ValD K Γ (.raw (.ref a)) (.tuple ds) := fun σ S H fs v w e => by
  cases (show v = .ref a from e)
  obtain ⟨vs, hH, hvs⟩ := hT.at w
  exact .tup (.inl (.inl hH)) (h.all w hvs)
theorem op_eqV {s1 s2 : Sl} {d1 d2 : PyData} (p1 : Pers s1) (p2 : Pers s2) (h1 : ValD K Γ s1 d1) (h2 : ValD K Γ s2 d2) (z1 : SeqAt.shaped d1 = true) (z2 : SeqAt.shaped d2 = true) (hk : k (.dat (.bool (PyData.eqv d1 d2))) Γ) : OpK K (uEq K) s1 s2 Γ k := by
  intro σ S H f1 f2 fs x y Q w P
  obtain ⟨e1, q1⟩ := VS.of w.hd p1
  obtain ⟨e2, q2⟩ := VS.of w.tl.hd p2
  exact ⟨_, _, h1 _ _ _ _ _ w.tl.tl e1, h2 _ _ _ _ _ w.tl.tl e2, z1, z2, (Post.drop2 P).dat w.tl.tl hk (.bl _)⟩
theorem op_neV {s1 s2 : Sl} {d1 d2 : PyData} (p1 : Pers s1) (p2 : Pers s2) (h1 : ValD K Γ s1 d1) (h2 : ValD K Γ s2 d2) (z1 : SeqAt.shaped d1 = true) (z2 : SeqAt.shaped d2 = true) (hk : k (.dat (.bool (!PyData.eqv d1 d2))) Γ) : OpK K (uNe K) s1 s2 Γ k := by
  intro σ S H f1 f2 fs x y Q w P
  obtain ⟨e1, q1⟩ := VS.of w.hd p1
  obtain ⟨e2, q2⟩ := VS.of w.tl.hd p2
  exact ⟨_, _, h1 _ _ _ _ _ w.tl.tl e1, h2 _ _ _ _ _ w.tl.tl e2, z1, z2, (Post.drop2 P).dat w.tl.tl hk (.bl _)⟩
def rCntD (K : Frag) : V → List V → Hp → VK → Prop := fun x xs H Q => ∃ (y : V) (ds : List PyData) (d : PyData), xs = [y] ∧ Dp K H x (.list ds) ∧ Dp K H y d ∧ SeqAt.shaped (.list ds) = true ∧ SeqAt.shaped d = true ∧ Q (.int ((ds.countP fun e => PyData.eqv e d : Nat) : Int)) H
theorem mt_cntD {X : Cx} {j : Nat} (hr : Room j X.A) : MtR X "list.count" (rCntD X.K) := by
  intro pins s σ H x xs v us Q I rx rxs h
  obtain ⟨y, ds, d, rfl, hx, hy, z1, z2, q⟩ := h
  obtain ⟨u, rfl, ru⟩ := rxs.one
  obtain ⟨as, r1⟩ := Dp.reads I (.list ds) x v hx rx
  obtain ⟨bs, r2⟩ := Dp.reads I d y u hy ru
  have pd := PyData.plain_of_canLay0 d (SeqAt.canLay_of_shaped z2)
  have pl := PyData.plain_of_canLay0 _ (SeqAt.canLay_of_shaped z1)
  have l2 := SeqAt.depth_of_shaped z2
  have hu := hr.un
  cases r1 with
  | @list a o vs n _ as e1 e2 e3 e4 =>
    refine SeqAt.count_list_data ⟨o, e1, e2, n, e3⟩ e4 r2 (by simpa only [PyData.plain] using pl) pd (by have := Nat.min_le_right (PyData.depthAll ds) d.depth; omega) ?_
    exact ⟨.int _, H, I.tok _, ⟨_, rfl⟩, q⟩
theorem vs_of {S H : Hp} {v : V} {s : Sl} {f : List Addr} (p : Pers s) (h : SlOk K S H (some v) f s) : VS K S v s := (VS.of h p).1
theorem e_cnt {to : TE} {ta : TA} (h : EvP K to Γ fun s Γ1 => ∃ ds : List PyData, Pers s ∧ ValD K Γ1 s (.list ds) ∧ EvA K ta Γ1 fun rs Γ2 => ∃ (s2 : Sl) (d : PyData), rs = [s2] ∧ Pers s2 ∧ ValD K Γ2 s (.list ds) ∧ ValD K Γ2 s2 d ∧ SeqAt.shaped (.list ds) = true ∧ SeqAt.shaped d = true ∧ k (.dat (.int ((ds.countP fun e => PyData.eqv e d : Nat) : Int))) Γ2) :
    EvP K (tBM K "list" (rCntD K) to ta) Γ k := by
  intro σ S H fs Q w P
  refine h σ S H fs _ w fun v r1 Γ1 S1 H1 f1 fs1 hb w1 st1 => ?_
  obtain ⟨ds, p1, hv, hA⟩ := hb
  obtain ⟨vs1, e0⟩ := VS.of w1.hd p1
  subst e0
  have hD := hv _ _ _ _ _ w1.tl vs1
  refine ⟨?_, ?_⟩
  · cases hD with
    | lst hr _ => exact .inl ⟨rfl, _, hr⟩
  refine hA σ S1 H1 fs1 _ w1.tl fun us rs Γ2 S2 H2 frs fs2 hk l1 l2 w2 st2 => ?_
  obtain ⟨s2, d, rfl, p2, hv2, hd, z1, z2, hk⟩ := hk
  match us, frs, l1, l2, w2, st2 with
  | [u], [f], _, _, w2, st2 =>
    have w2' : Wd K (some u :: σ) (s2 :: Γ2) S2 H2 (f :: fs2) := w2
    obtain ⟨us1, e4⟩ := VS.of w2'.hd p2
    subst e4
    have st12 : Step S H fs.flatten S2 H2 fs2.flatten := (by simpa using st1 : Step S H fs.flatten S1 H1 fs1.flatten).trans (by simpa using st2)
    exact ⟨u, ds, d, rfl, hv2 _ _ _ _ _ w2'.tl (vs1.mono st2.le), hd _ _ _ _ _ w2'.tl us1, z1, z2, (P.trans st12).dat w2'.tl hk (.int _)⟩
  | [], _, l1, _, _, _ => simp at l1
  | _ :: _ :: _, _, l1, _, _, _ => simp at l1
  | [_], [], _, l2, _, _ => simp at l2
  | [_], _ :: _ :: _, _, l2, _, _ => simp at l2
theorem eqv_int {i j : Int} : PyData.eqv (.int i) (.int j) = decide (i = j) := by
  simp only [PyData.eqv]
  by_cases e : i = j
  · simp [e]
  · simp [e]
theorem cnt_ints {ns : List Int} {n : Int} : ((ns.map PyData.int).countP fun e => PyData.eqv e (.int n)) = ns.count n := by
  induction ns with
  | nil => rfl
  | cons x xs ih =>
    rw [List.map_cons, List.countP_cons, List.count_cons, ih, eqv_int]
    by_cases e : x = n
    · simp [e]
    · simp [e]
theorem e_cntI {to : TE} {ta : TA} (h : EvP K to Γ fun s Γ1 => ∃ ns : List Int, s = .dat (.list (ns.map .int)) ∧ EvA K ta Γ1 fun rs Γ2 => ∃ n : Int, rs = [.dat (.int n)] ∧ k (.dat (.int (ns.count n : Nat))) Γ2) :
    EvP K (tBM K "list" (rCntD K) to ta) Γ k :=
  e_cnt (h.mono fun s Γ1 ⟨ns, e, hA⟩ => ⟨ns.map .int, by rw [e]; trivial, by rw [e]; exact valD_dat, hA.mono fun rs Γ2 ⟨n, e2, hk⟩ => ⟨.dat (.int n), .int n, e2, trivial, by rw [e]; exact valD_dat, valD_dat, shaped_list shp_ints, shaped_int, by rw [cnt_ints]; exact hk⟩⟩)
theorem satL_vss {S H : Hp} : ∀ {vs : List V} {ss : List Sl} {fs : List (List Addr)}, (∀ s ∈ ss, Pers s) → SatL K S H (vs.map some) ss fs → VSs K S vs ss ∧ fs.flatten = []
  | [], [], _, _, .nil => ⟨.nil, rfl⟩
  | v :: vs, s :: ss, _, hp, .cons a b => by
    obtain ⟨h1, h2⟩ := VS.of a (hp s (List.mem_cons_self ..))
    obtain ⟨h3, h4⟩ := satL_vss (fun s hs => hp s (List.mem_cons_of_mem _ hs)) b
    exact ⟨.cons h1 h3, by rw [List.flatten_cons, h2, h4]; rfl⟩
theorem e_tupS {ta : TA} (h : EvA K ta Γ fun rs Γ1 => (∀ s ∈ rs, Pers s) ∧ rs.length ≤ sizeLine ∧ ∀ p, k (.res (star (.ref p) [(p, .tup rs)])) Γ1) : EvP K (tTup ta) Γ k := by
  intro σ S H fs Q w P
  refine h σ S H fs _ w fun vs rs Γ1 S1 H1 frs fs1 hb l1 l2 w1 st1 => ?_
  obtain ⟨hp, hz, hk⟩ := hb
  obtain ⟨s1, s2⟩ := w1.sat.split (by simpa using l1) l2
  obtain ⟨hd, hf⟩ := satL_vss hp s1
  have w2 : Wd K σ Γ1 S1 H1 fs1 := Wd.tail (by simpa using l1) l2 w1
  refine ⟨by rw [vss_len hd]; exact hz, fun p hn => ?_⟩
  obtain ⟨w3, st3⟩ := allocStar (o := .tup vs) (c := .tup rs) w2 hn ⟨vs, upd_same, hd⟩
  exact P _ _ Γ1 S1 _ [p] fs1 (hk p) w3 ((st1.sub (F'' := fs1.flatten) fun a ha => by simp [hf]; simpa using ha).trans st3)
theorem op_ixT {a : Addr} {ss : List Sl} {i : Int} {u : Sl} (hT : HasT Γ a ss) (hi : atI ss i = some u) (hk : k u Γ) : OpK K (uIx K) (.raw (.ref a)) (.dat (.int i)) Γ k := by
  intro σ S H f1 f2 fs x y Q w P
  obtain ⟨e0, e1⟩ := w.hd
  obtain ⟨e2, y', e3, hy⟩ := w.tl.hd
  subst e0 e2
  cases e1; cases e3; cases hy
  obtain ⟨vs, hH, hvs⟩ := hT.at w.tl.tl
  have hl := vss_len hvs
  unfold atI at hi
  rw [← hl] at hi
  cases q : ixN vs.length i with
  | none => rw [q] at hi; cases hi
  | some m =>
    rw [q] at hi
    obtain ⟨z, hz, hzs⟩ := VSs.get hvs hi
    have hI : atI vs i = some z := by unfold atI; rw [q]; exact hz
    refine .inr (.inl ⟨a, vs, i, z, rfl, rfl, .inl (.inl hH), hI, ?_⟩)
    exact (Post.drop2 P) z u Γ S H [] fs hk (w.tl.tl.put hzs.ok) (by simpa using Step.refl)
def getI (kvs : List (Int × PyData)) (i : Int) : Option PyData := (kvs.find? fun p => decide (p.1 = i)).map (·.2)
def putI (kvs : List (Int × PyData)) (i : Int) (d : PyData) : List (Int × PyData) := if (kvs.any fun p => decide (p.1 = i)) = true then kvs.map (fun p => if p.1 = i then (p.1, d) else p) else kvs ++ [(i, d)]
def kI (kvs : List (Int × PyData)) : List Key := kvs.map fun p => Sum.inl p.1
theorem valV_dI {S : Hp} {i : Int} : ∀ {kvs : List (Int × PyData)} {vs : List V}, DdAll K S vs (kvs.map (·.2)) → (valV ((kI kvs).zip vs) (Sum.inl i) = none ∧ getI kvs i = none) ∨ ∃ v d, valV ((kI kvs).zip vs) (Sum.inl i) = some v ∧ getI kvs i = some d ∧ Dd K S v d
  | [], _, .nil => .inl ⟨rfl, rfl⟩
  | (j, d) :: kvs, v :: vs, .cons a b => by
    by_cases e : j = i
    · subst e
      exact .inr ⟨v, d, valV_pos rfl, by simp [getI], a⟩
    · have h1 : valV ((kI ((j, d) :: kvs)).zip (v :: vs)) (Sum.inl i) = valV ((kI kvs).zip vs) (Sum.inl i) := valV_neg fun q => e (Sum.inl.inj q)
      have h2 : getI ((j, d) :: kvs) i = getI kvs i := by simp [getI, List.find?_cons, e]
      rw [h1, h2]
      exact valV_dI b
theorem any_dI {i : Int} : ∀ {kvs : List (Int × PyData)} {vs : List V}, vs.length = kvs.length → (((kI kvs).zip vs).any fun kv => decide (kv.1 = Sum.inl i)) = kvs.any fun p => decide (p.1 = i)
  | [], [], _ => rfl
  | (j, d) :: kvs, v :: vs, h => by
    have := any_dI (i := i) (kvs := kvs) (vs := vs) (by simpa using h)
    simp only [kI, List.map_cons, List.zip_cons_cons, List.any_cons] at this ⊢
    rw [this]
    congr 1
    simp
  | [], _ :: _, h => by simp at h
  | _ :: _, [], h => by simp at h
theorem put_dI {S : Hp} {i : Int} {v : V} {d : PyData} (hd : Dd K S v d) {kvs : List (Int × PyData)} {vs : List V} (h : DdAll K S vs (kvs.map (·.2))) : ∃ us, putK ((kI kvs).zip vs) (Sum.inl i) v = (kI (putI kvs i d)).zip us ∧ DdAll K S us ((putI kvs i d).map (·.2)) := by
  have hl : vs.length = kvs.length := by rw [dps_len h, List.length_map]
  unfold putK putI
  rw [any_dI hl]
  by_cases q : (kvs.any fun p => decide (p.1 = i)) = true
  · rw [if_pos q, if_pos q]
    clear q
    induction kvs generalizing vs with
    | nil => exact ⟨[], rfl, .nil⟩
    | cons p kvs ih =>
      obtain ⟨j, d'⟩ := p
      cases h with
      | @cons u us _ _ a b =>
        obtain ⟨zs, e1, e2⟩ := ih b (by simpa using hl)
        by_cases e : j = i
        · subst e
          refine ⟨v :: zs, ?_, ?_⟩
          · simp only [kI, List.map_cons, List.zip_cons_cons, if_true] at e1 ⊢
            rw [e1]
          · simp only [List.map_cons, if_true]
            exact .cons hd e2
        · refine ⟨u :: zs, ?_, ?_⟩
          · simp only [kI, List.map_cons, List.zip_cons_cons, Sum.inl.injEq, if_neg e] at e1 ⊢
            rw [e1]
          · simp only [List.map_cons, if_neg e]
            exact .cons a e2
  · rw [if_neg q, if_neg q]
    refine ⟨vs ++ [v], ?_, ?_⟩
    · unfold kI
      rw [List.map_append, List.zip_append (by rw [List.length_map, hl])]
      rfl
    · rw [List.map_append]
      exact dps_app h (.cons hd .nil)
theorem e_dnewI (hk : ∀ p, k (.res (star (.ref p) [(p, .dI [])])) Γ) : EvP K tDNewK Γ k := by
  intro σ S H fs Q w P p hp
  obtain ⟨w1, st1⟩ := allocStar (o := .dK []) (c := .dI []) w hp ⟨[], upd_same, .nil⟩
  exact P _ _ Γ S _ [p] fs (hk p) w1 st1
theorem e_dget2I (j n : Nat) {to ti tx : TE} (h : EvP K to Γ fun s Γ1 => ∃ a, s = .raw (.ref a) ∧ (∃ v Θ kvs, Γ1[j]? = some (.res (star v Θ)) ∧ Θ[n]? = some (a, .dI kvs)) ∧ EvP K ti Γ1 fun s2 Γ2 => ∃ i, s2 = .dat (.int i) ∧ EvP K tx Γ2 fun s3 Γ3 => ∃ v Θ kvs d, Γ3[j]? = some (.res (star v Θ)) ∧ Θ[n]? = some (a, .dI kvs) ∧ s3 = .dat d ∧ k (.dat ((getI kvs i).getD d)) Γ3) : EvP K (tDGet2 to ti tx) Γ k := by
  intro σ S H fs Q w P
  refine h σ S H fs _ w fun x r Γ1 S1 H1 f1 fs1 hb w1 st1 => ?_
  obtain ⟨a, rfl, ⟨v0, Θ0, kv0, hj0, hn0⟩, hb⟩ := hb
  obtain ⟨e0, e1⟩ := w1.hd
  subst e0
  cases e1
  obtain ⟨vs0, hH0, hvs0⟩ := star_cell w1.tl hj0 hn0
  refine ⟨a, rfl, .inl ⟨_, .inl hH0⟩, ?_⟩
  refine hb σ S1 H1 fs1 _ w1.tl fun y r2 Γ2 S2 H2 f2 fs2 hc2 w2 st2 => ?_
  obtain ⟨i, rfl, hc⟩ := hc2
  obtain ⟨e2, y', e3, hy⟩ := w2.hd
  subst e2
  cases e3; cases hy
  refine hc σ S2 H2 fs2 _ w2.tl fun z r3 Γ3 S3 H3 f3 fs3 hd w3 st3 => ?_
  obtain ⟨v, Θ, kvs, d, hj, hn, rfl, hk⟩ := hd
  obtain ⟨e4, z', e5, hz⟩ := w3.hd
  subst e4
  cases e5
  obtain ⟨vs, hH, hvs⟩ := star_cell w3.tl hj hn
  have stA := ((by simpa using st1 : Step S H fs.flatten S1 H1 fs1.flatten).trans (by simpa using st2 : Step S1 H1 fs1.flatten S2 H2 fs2.flatten)).trans (by simpa using st3 : Step S2 H2 fs2.flatten S3 H3 fs3.flatten)
  have hg := DGet.k (k := Sum.inl i) hH
  rcases valV_dI (i := i) hvs with ⟨h1, h2⟩ | ⟨u, d2, h1, h2, h3⟩
  · refine ⟨none, ?_, ?_⟩
    · rw [← h1]; exact hg
    · rw [h2] at hk
      exact (P.trans stA).dat w3.tl hk hz
  · refine ⟨some u, ?_, ?_⟩
    · rw [← h1]; exact hg
    · rw [h2] at hk
      exact (P.trans stA).dat w3.tl hk h3
theorem x_dputI (j n : Nat) {to ti te : TE} (h : EvP K te Γ fun s Γ1 => ∃ d, s = .dat d ∧ EvP K to Γ1 fun s2 Γ2 => EvP K ti Γ2 fun s3 Γ3 => ∃ a v Θ kvs i, s2 = .raw (.ref a) ∧ s3 = .dat (.int i) ∧ Γ3[j]? = some (.res (star v Θ)) ∧ Θ[n]? = some (a, .dI kvs) ∧ kvs.length < sizeLine ∧ O.nx (Γ3.set j (.res (star v (Θ.set n (a, .dI (putI kvs i d))))))) : ExS K (sDPut to ti te) Γ O := by
  intro σ S H fs D w E
  refine h σ S H fs _ w fun y s Γ1 S1 H1 f1 fs1 hb w1 st1 => ?_
  obtain ⟨d, rfl, hb⟩ := hb
  obtain ⟨e0, y', e1, hy⟩ := w1.hd
  subst e0
  cases e1
  refine hb σ S1 H1 fs1 _ w1.tl fun x s2 Γ2 S2 H2 f2 fs2 hc w2 st2 => ?_
  refine hc σ S2 H2 fs2 _ w2.tl fun z s3 Γ3 S3 H3 f3 fs3 hd w3 st3 => ?_
  obtain ⟨a, v, Θ, kvs, i, rfl, rfl, hj, hn, hz, hk⟩ := hd
  obtain ⟨e1, e2⟩ := w2.hd
  obtain ⟨e3, z', e4, hz'⟩ := w3.hd
  subst e1 e3
  cases e2; cases e4; cases hz'
  obtain ⟨vs, hH, hvs⟩ := star_cell w3.tl hj hn
  obtain ⟨us, q1, q2⟩ := put_dI (i := i) (st3.le.dp (st2.le.dp hy)) hvs
  have hl : vs.length = kvs.length := by rw [dps_len hvs, List.length_map]
  refine ⟨a, _, rfl, DPut.k (k := Sum.inl i) hH (by rw [List.length_zip, List.length_map, hl, Nat.min_self]; exact hz), ?_⟩
  have q1' : putK ((kvs.map fun p => (Sum.inl p.1 : Key)).zip vs) (Sum.inl i) y = (kI (putI kvs i d)).zip us := q1
  rw [q1']
  obtain ⟨w4, st4⟩ := star_upd (o := .dK ((kI (putI kvs i d)).zip us)) (c' := .dI (putI kvs i d)) w3.tl hj hn ⟨us, upd_same, q2⟩
  have stA : Step S H fs.flatten S3 H3 fs3.flatten := ((by simpa using st1 : Step S H fs.flatten S1 H1 fs1.flatten).trans (by simpa using st2)).trans (by simpa using st3)
  exact (E.nx.step (stA.trans st4)) σ _ S3 _ fs3 hk w4 Step.refl
end Dl
namespace Dl
open PySem PySem.Spec PyProof.Rows L2
variable {K : Frag} {Γ : List Sl} {k : Sl → List Sl → Prop} {O : Out}
theorem x_sub (j : Nat) {v : V} {Θ Θ' Z : List (Addr × Cell)} {t : TS} (hj : Γ[j]? = some (.res (star v Θ))) (p : Θ.Perm (Θ' ++ Z)) (h : ExS K t (Γ.set j (.res (star v Θ'))) O) : ExS K t Γ O := by
  intro σ S H fs D w e
  obtain ⟨x, fp, hx, hf, e1, hp⟩ := w.sat.get hj
  obtain ⟨q1, q2⟩ := star_perm p hp
  obtain ⟨q3, q4⟩ := q1
  have hjl : j < fs.length := (List.getElem?_eq_some_iff.mp hf).1
  have pm := flat_take fs j fp hf
  have pm2 := flat_put (fs.set j []) j (Θ'.map (·.1)) (List.getElem?_set_self hjl)
  rw [List.set_set] at pm2
  have big : fs.flatten.Perm ((Θ'.map (·.1) ++ Z.map (·.1)) ++ (fs.set j []).flatten) := by
    refine pm.trans (List.Perm.append_right _ ?_)
    rw [← List.map_append]
    exact q2
  have sl : (Θ'.map (·.1) ++ (fs.set j []).flatten).Sublist ((Θ'.map (·.1) ++ Z.map (·.1)) ++ (fs.set j []).flatten) := (List.sublist_append_left _ _).append_right _
  have sat1 := w.sat.set (x := x) (s := .res (star v Θ')) (fp := Θ'.map (·.1)) j ⟨e1, rfl, fun q hq => q4 q (List.mem_append_left _ hq)⟩
  rw [setSame hx] at sat1
  exact h σ S H _ D ⟨((w.good.perm big).sublist sl).perm pm2.symm, sat1⟩ (e.step (Step.refl.sub fun a ha => big.mem_iff.mpr (sl.subset (pm2.mem_iff.mp ha))))
def gFld (K : Frag) (to : TE) (f : Str) : TG := fun v σ H Q => to σ H fun x H1 => ∃ a C dx fs, x = .ref a ∧ H1 a = some (.ins C dx fs) ∧ Cls K C ∧ NoAttr K C f ∧ fs.length < 1000 ∧ Q σ (upd H1 a (.ins C dx (putF f v fs)))
theorem pg_fld {X : Cx} {o : Expr} {f : Str} {pos : Pos} {to : TE} (ho : PE X o to)
    (ha : ∀ v, assign (.Attribute o f pos) X.env v = (do
      let ov ← holding [v] (eval o X.env)
      standAt pos.atName
      holding [v, ov] (setAttr ov f v)
      release [v, ov] []) := by intro _; rfl) : PG X (.Attribute o f pos) (gFld X.K to f) := by
  refine ⟨fun pins s σ H v u Q I r h => ?_⟩
  rw [ha]
  refine wpAny_bind (wpAny_holding (thn (ho.run pins s σ H _ I h) fun ov s1 ⟨x, H1, I1, r1, q1⟩ => ?_))
  obtain ⟨a, C, dx, fs, rfl, ea, c, n, l, q⟩ := q1
  cases r1
  refine wpAny_bind (wpAny_standAt (wpAny_bind (wpAny_holding (setattr_ok I1 ea c n l r fun s3 I3 => wpAny_release ⟨σ, _, I3, q⟩))))
theorem g_fldC (j n q : Nat) {to : TE} {f : Str} {s : Sl} {kn : List Sl → Prop} (hp : Pers s) (h : EvP K to Γ fun s2 Γ2 => ∃ a v Θ C ns ss, s2 = .raw (.ref a) ∧ Γ2[j]? = some (.res (star v Θ)) ∧ Θ[n]? = some (a, .ins C ns ss) ∧ Cls K C ∧ NoAttr K C f ∧ ns[q]? = some f ∧ ns.length < 1000 ∧ kn (Γ2.set j (.res (star v (Θ.set n (a, .ins C ns (ss.set q s))))))) : EvG K (gFld K to f) s Γ kn := by
  intro σ S H f0 fs y q0 w E
  obtain ⟨hv, e0⟩ := VS.of w.hd hp
  subst e0
  refine h σ S H fs _ w.tl fun x s2 Γ2 S2 H2 f2 fs2 hc w2 st2 => ?_
  obtain ⟨a, v, Θ, C, ns, ss, rfl, hj, hn, hC, hN, hq, hz, hk⟩ := hc
  obtain ⟨e1, e2⟩ := w2.hd
  subst e1
  cases e2
  obtain ⟨nd, hl, dx, vs, hH, hvs⟩ := star_cell w2.tl hj hn
  have hlen := vss_len hvs
  refine ⟨a, C, dx, _, rfl, hH, hC, hN, ?_, ?_⟩
  · rw [List.length_zip]
    omega
  · rw [putF_zip nd (by omega) hq]
    obtain ⟨w3, st3⟩ := star_upd (o := .ins C dx (ns.zip (vs.set q y))) (c' := .ins C ns (ss.set q s)) w2.tl hj hn ⟨nd, by simpa using hl, dx, _, upd_same, VSs.set (hv.mono st2.le) q hvs⟩
    have stA : Step S H fs.flatten S2 H2 fs2.flatten := by simpa using st2
    exact E σ _ S2 _ fs2 hk w3 ((by simpa using stA.trans st3 : Step S H ([] :: fs).flatten S2 _ fs2.flatten))
def EvGT (K : Frag) (g : TGs) (ss : List Sl) (Γ : List Sl) (kn : List Sl → Prop) : Prop :=
  ∀ σ S H fs vs q, Wd K σ Γ S H fs → VSs K S vs ss → EndN K S H fs.flatten kn q → g vs σ H q
theorem gt_nil {kn : List Sl → Prop} (h : kn Γ) : EvGT K gNil [] Γ kn := fun σ S H fs vs q w hd e => by
  cases hd
  exact ⟨rfl, e σ Γ S H fs h w Step.refl⟩
theorem gt_cons {g : TG} {gs : TGs} {s : Sl} {ss : List Sl} {kn : List Sl → Prop} (h : EvG K g s Γ fun Γ1 => EvGT K gs ss Γ1 kn) : EvGT K (gCons g gs) (s :: ss) Γ kn := fun σ S H fs vs q w hd e => by
  cases hd with
  | cons h1 h2 =>
    refine ⟨_, _, rfl, h σ S H [] fs _ _ (w.put h1.ok) ?_⟩
    intro σ' Γ' S' H' fs' hk w' st
    have st' : Step S H fs.flatten S' H' fs'.flatten := by simpa using st
    exact hk σ' S' H' fs' _ q w' (VSs.mono st'.le h2) (e.step st')
theorem g_tupS {n : Nat} {gs : TGs} {p : Addr} {ss : List Sl} {kn : List Sl → Prop} (hn : ss.length = n) (h : EvGT K gs ss Γ kn) : EvG K (gTup K n gs) (.res (star (.ref p) [(p, .tup ss)])) Γ kn := by
  intro σ S H f fs v q w e
  obtain ⟨e1, e2, hc⟩ := w.hd
  cases e1
  obtain ⟨vs, hH, hvs⟩ := hc (p, .tup ss) (List.mem_singleton.mpr rfl)
  refine ⟨p, vs, rfl, .inl (.inl hH), by rw [vss_len hvs]; exact hn, h σ S H fs vs q w.tl hvs ?_⟩
  exact e.step (Step.refl.sub fun a ha => List.mem_append_right _ ha)
theorem g_tupR {n : Nat} {gs : TGs} {p : Addr} {ss : List Sl} {kn : List Sl → Prop} (hn : ss.length = n) (hT : HasT Γ p ss) (h : EvGT K gs ss Γ kn) : EvG K (gTup K n gs) (.raw (.ref p)) Γ kn := by
  intro σ S H f fs v q w e
  obtain ⟨e0, e1⟩ := w.hd
  subst e0
  cases e1
  obtain ⟨vs, hH, hvs⟩ := hT.at w.tl
  exact ⟨p, vs, rfl, .inl (.inl hH), by rw [vss_len hvs]; exact hn, h σ S H fs vs q w.tl hvs (by simpa using e)⟩
end Dl
namespace Dl
open PySem PySem.Spec PyProof.Rows L2
variable {K : Frag} {Γ : List Sl} {k : Sl → List Sl → Prop} {O : Out}
theorem VSs.setS {S H : Hp} {σ : List (Option V)} {fs : List (List Addr)} {v : V} {s : Sl} (i : Nat) (h : VS K S v s) (w : Wd K σ Γ S H fs) : ∃ S' fs', Wd K (σ.set i (some v)) (Γ.set i s) S' H fs' ∧ Step S H fs.flatten S' H fs'.flatten := by
  obtain ⟨S', fs', w', st⟩ := asg1 i (w.put h.ok)
  exact ⟨S', fs', w', by simpa using st⟩
theorem x_forE {te : TE} {a b : Nat} {tb : TS} (h : EvP K te Γ fun r Γ1 => ∃ (p : Addr) (ss : List Sl), r = .raw (.ref p) ∧ HasL Γ1 p ss ∧ ∃ W : Nat → List Sl → Prop, W 0 Γ1 ∧ (∀ i Γ, i ≤ ss.length → W i Γ → HasL Γ p ss) ∧
    (∀ i Γ s, ss[i]? = some s → W i Γ → ExS K tb ((Γ.set a (.dat (.int (i : Nat)))).set b s) { O with nx := W (i + 1), ct := W (i + 1), bk := O.nx }) ∧ (∀ Γ, W ss.length Γ → O.nx Γ)) :
    ExS K (tFor (iEnumU K (tCons te tNil)) (gTup K 2 (gCons (gName a) (gCons (gName b) gNil))) tb) Γ O := by
  intro σ S H fs D w e
  refine h σ S H fs _ w fun v r Γ1 S1 H1 f1 fs1 hb w1 st1 => ?_
  obtain ⟨p, ss, rfl, hL, W, h0, hWL, hs, hd⟩ := hb
  obtain ⟨e0, e1⟩ := w1.hd
  subst e0
  cases e1
  have st1 : Step S H fs.flatten S1 H1 fs1.flatten := by simpa using st1
  obtain ⟨vs, hH, hvs⟩ := hL.at w1.tl
  refine ⟨_, rfl, true, p, vs, rfl, .inl (.inl hH), fun hz => ?_⟩
  have hl := vss_len hvs
  refine ⟨fun i m σ2 H2 => m = ss.length - i ∧ i ≤ ss.length ∧ ∃ Γ2 S2 fs2, W i Γ2 ∧ Wd K σ2 Γ2 S2 H2 fs2 ∧ Step S1 H1 fs1.flatten S2 H2 fs2.flatten, ⟨ss.length, by simp, Nat.zero_le _, Γ1, S1, fs1, h0, w1.tl, Step.refl⟩, ?_⟩
  rintro i m σ2 H2 ⟨rfl, hi, Γ2, S2, fs2, hW, w2, st2⟩
  obtain ⟨us, hU, hus⟩ := (hWL i Γ2 hi hW).at w2
  have hl2 := vss_len hus
  by_cases hlt : i < ss.length
  · refine .inr ⟨⟨us, us[i]'(by omega), .inl (.inl hU), List.getElem?_eq_getElem (by omega)⟩, fun σ' H' => ∃ Γ2 S2 fs2, W (i + 1) Γ2 ∧ Wd K σ' Γ2 S2 H' fs2 ∧ Step S1 H1 fs1.flatten S2 H' fs2.flatten, fun σ' H' q => ⟨ss.length - (i + 1), by omega, rfl, hlt, q⟩, fun x H' y => ?_⟩
    obtain ⟨T, u, rfl, hT, rfl, hy⟩ := y
    have hx := hy us (.inl (.inl hU))
    obtain ⟨s, hsi⟩ : ∃ s, ss[i]? = some s := ⟨_, List.getElem?_eq_getElem hlt⟩
    obtain ⟨u', h1, h2⟩ := VSs.get hus hsi
    rw [hx] at h1
    cases h1
    obtain ⟨w3, st3⟩ := alloc (.tup [.int (0 + (i : Nat)), u]) w2 hT
    have hi0 : VS K (upd S2 T (.tup [.int (0 + (i : Nat)), u])) (.int (0 + (i : Nat))) (.dat (.int (i : Nat))) := by
      rw [Int.zero_add]
      exact .int _
    obtain ⟨S4, fs4, w4, m4⟩ := VSs.setS a hi0 w3
    obtain ⟨S5, fs5, w5, m5⟩ := VSs.setS b ((h2.mono st3.le).mono m4.le) w4
    refine ⟨T, _, rfl, .inl (.inl upd_same), rfl, .int (0 + (i : Nat)), [u], rfl, u, [], rfl, rfl, ?_⟩
    have sA := ((st2.trans st3).trans m4).trans m5
    refine hs i Γ2 s hsi hW _ _ _ fs5 _ w5 ⟨?_, e.rt.step (st1.trans sA), e.nx.step (st1.trans sA), ?_⟩
    all_goals
      intro σ6 Γ6 S6 H6 fs6 hk6 w6 st6
      exact ⟨Γ6, S6, fs6, hk6, w6, sA.trans st6⟩
  · have e1 : i = ss.length := by omega
    subst e1
    exact .inl ⟨⟨us, .inl (.inl hU), by omega⟩, (e.nx.step (st1.trans st2)) σ2 Γ2 S2 H2 fs2 (hd Γ2 hW) w2 Step.refl⟩
end Dl
namespace Dl
open PySem PySem.Spec PyProof.Rows L2
theorem calleeJ_mk2 {P : Program} {w : World} {K : Frag} {mg : Str → Option Value} {base : Heap} {x : Str} {C : Addr} {qual : Str} {params : Arguments} {body : List Stmt} {scope : Scope} {f : Addr} {N ps : List Str} {k : Nat} {F : FSpec} {dvf dvs : List V}
    (g : mg x = some (.ref C)) (M : Mk K C f) (FD : ∃ fd, FunD K "__init__" qual params body scope dvf [] f fd) (S : FnScope N ps scope)
    (hb : ∀ fd, FunD K "__init__" qual params body scope dvf [] f fd → ∃ ds, Vals dvs ds ∧ Binds K fd ps ds)
    (hn : ∀ args k, F args k → args.length = ps.length) (t : TS) (ht : ∀ args k, F args k → ExS K t (args ++ List.replicate (N.length - args.length) .no) (fnOut args k))
    (hd : ∀ (cdv : Value) (A : Around) (outer : List Env) (s : Shared) (H : Hp) (E : XK), Room k (A.deeper (envOfC qual scope s.heap.objs.size f cdv)) → PSs (cxOf CX0 P w K mg base N qual scope f cdv A outer s H E).nox body t) :
    CalleeJ P w K mg base x C (k + 1) ps dvs (spOf K F) := by
  obtain ⟨fd, FD⟩ := FD
  obtain ⟨ds, h1, h2⟩ := hb fd FD
  exact ⟨f, fd, ds, FD.ok S (fun vs H Q E h => sp_len hn h) (fun cdv A outer s H vs Q E hr h => ⟨t, (hd cdv A outer s H E hr).nox, fn_body ht h⟩), M, g, h1, h2⟩
end Dl
namespace Dl
open PySem PySem.Spec PyProof.Rows L2
def pick {α : Type} (js : List Nat) (l : List α) : List α := js.filterMap fun j => l[j]?
theorem pick_rel {js : List Nat} : ∀ {vs : List V} {us : List Value}, Vals vs us → Vals (pick js vs) (pick js us) := fun {vs us} r => by
  unfold pick
  induction js with
  | nil => exact .nil
  | cons j js ih =>
    cases hv : vs[j]? with
    | none =>
      have hu : us[j]? = none := by
        rw [List.getElem?_eq_none_iff] at hv ⊢
        rw [← r.length]
        exact hv
      rw [List.filterMap_cons_none hv, List.filterMap_cons_none hu]
      exact ih
    | some v =>
      obtain ⟨u, hu, ru⟩ := r.get hv
      rw [List.filterMap_cons_some hv, List.filterMap_cons_some hu]
      exact .cons ru ih
structure CalleeMK (P : Program) (w : World) (K : Frag) (mg : Str → Option Value) (base : Heap) (C : Addr) (m : Str) (k : Nat) (ps ks : List Str) (js : List Nat) (sp : Sp) : Prop where
  ex : ∃ f fd, FnOk P w K mg base CX0 k f fd ps sp ∧ Meth K C m f ∧ ∀ (s : Shared) (u : Value) (ws : List Value), ws.length = ks.length → BindsTo s fd ⟨[u], ks.zip ws⟩ (ps.zip (u :: pick js ws))
theorem calleeMK_mk {P : Program} {w : World} {K : Frag} {mg : Str → Option Value} {base : Heap} {C : Addr} {m qual : Str} {params : Arguments} {body : List Stmt} {scope : Scope} {f : Addr} {N ps ks : List Str} {js : List Nat} {k : Nat} {F : FSpec}
    (M : Meth K C m f) (FD : ∃ fd, FunD K m qual params body scope [] [] f fd) (S : FnScope N ps scope)
    (hb : ∀ (kV doc pm : Value) (an : Option Addr) (cdv ct u : Value) (ws : List Value), ws.length = ks.length → bindArgs (PySem.W.fnOf m qual params body scope .none kV doc pm an cdv ct) ⟨[u], ks.zip ws⟩ = pure (ps.zip (u :: pick js ws)))
    (hn : ∀ args k, F args k → args.length = ps.length) (t : TS) (ht : ∀ args k, F args k → ExS K t (args ++ List.replicate (N.length - args.length) .no) (fnOut args k))
    (hd : ∀ (cdv : Value) (A : Around) (outer : List Env) (s : Shared) (H : Hp) (E : XK), Room k (A.deeper (envOfC qual scope s.heap.objs.size f cdv)) → PSs (cxOf CX0 P w K mg base N qual scope f cdv A outer s H E).nox body t) :
    CalleeMK P w K mg base C m (k + 1) ps ks js (spOf K F) := by
  obtain ⟨fd, FD⟩ := FD
  refine ⟨f, fd, fn_mk FD S hn t ht hd, M, ?_⟩
  obtain ⟨oc, od, dV, kV, doc, pm, an, cdv, ct, osl, rfl, lk, hcd, hD, hK⟩ := FD.ex
  rcases hD with ⟨_, rfl⟩ | ⟨e, _⟩
  · exact fun s u ws hl => .of_eq (hb kV doc pm an cdv ct u ws hl)
  · exact absurd rfl e
def tPerm (n : Nat) (js : List Nat) (tk : TA) : TA := fun σ H Q => tk σ H fun zs H1 => zs.length = n ∧ Q (pick js zs) H1
section
variable {X : Cx} {m : Str} {j k : Nat} {C : Addr} {ps ks : List Str} {js : List Nat} {sp : Sp} {pos apos : Pos} {o : Expr} {kws : List Keyword} {ta : TE} {tk : TA}
theorem pe_umk {pl : Sem Bool} {n : Nat} (he : PE X o ta) (c : Cls X.K C) (M : CalleeMK X.prog X.w X.K X.mg X.base C m j ps ks js sp) (hr : Room k X.A) (hj : j ≤ k) (hkw : PK X kws tk)
    (hall : (backToKw pos (keywordEach kws X.env)).all (·.1.isSome) = true) (hks : (backToKw pos (keywordEach kws X.env)).filterMap (·.1) = ks)
    (hpl : ((backTo pos (starEach [] X.env)).any (·.1) || (backToKw pos (keywordEach kws X.env)).any (·.1.isNone)) = false)
    (hn : ks.length = n) (ht : eval (.Call (.Attribute o m apos) [] kws pos) X.env = (do
      let self ← eval o X.env
      standAt apos.atName
      let (fn, ahead) ← holding [self] (getMethod self m pl)
      callWith pos fn ahead (backTo pos (starEach [] X.env)) (backToKw pos (keywordEach kws X.env)))) :
    PE X (.Call (.Attribute o m apos) [] kws pos) (tMeth C m sp [] E0 ta (tPerm n js tk)) := by
  subst hn
  obtain ⟨f, fd, F, hm, hb⟩ := M.ex
  refine ⟨fun pins st σ H Q I hyp => ?_⟩
  refine PySem.W.methodCall_KW (pl := pl) (thn (he.run pins st σ H _ I hyp) fun u st1 ⟨x, H1, I1, rx, a, dx, fs, ex, ea, l, q⟩ => ?_) ht
  subst ex
  cases (show u = Value.ref a from rx)
  refine getmeth_ok I1 ea c hm l ?_
  refine PySem.W.callWith_KW0 (first := [.ref a]) (h₀ := X.base) I1.ok.mod.kin hm.kp hall (thn (hkw.run pos pins st1 σ H1 _ I1 q) fun ws st2 ⟨zs, H2, I2, rz, hl, q2⟩ => ⟨I2.kIn, ?_⟩) hpl
  rw [hks]
  have hlw : ws.length = ks.length := by rw [← rz.length]; exact hl
  have q3 : sp (.ref a :: pick js zs) H2 Q E0 := by
    have z : sp (.ref a :: (pick js zs ++ [])) H2 Q E0 := q2
    rwa [List.append_nil] at z
  refine wpAny_call (codeAny_mono (F.run X.A X.stack st2 H2 ⟨[.ref a], ks.zip ws⟩ (.ref a :: pick js ws) (.ref a :: pick js zs) Q E0 (hr.mono hj) I2.env0 (hb st2 (.ref a) ws hlw) (.cons rfl (pick_rel rz)) q3) fun res st' hq => ?_)
  cases res with
  | error e => exact pass0 pins σ H2 st2 e st' I2 hq
  | ok fl =>
    cases fl with
    | ret u => exact I2.after hq
    | next => exact hq.elim
    | brk => exact hq.elim
    | cont => exact hq.elim
end
variable {K : Frag} {Γ : List Sl} {k : Sl → List Sl → Prop} {O : Out}
theorem pick_len {α : Type} {n : Nat} {l : List α} (hl : l.length = n) : ∀ (js : List Nat), (∀ j ∈ js, j < n) → (pick js l).length = js.length ∧ ∀ (i : Nat), (pick js l)[i]? = (js[i]?).bind fun (j : Nat) => l[j]? := fun js h => by
  induction js with
  | nil => exact ⟨rfl, fun i => by simp [pick]⟩
  | cons j js ih =>
    obtain ⟨i1, i2⟩ := ih fun x hx => h x (by simp [hx])
    have hj : j < l.length := by rw [hl]; exact h j (by simp)
    have e : pick (j :: js) l = l[j] :: pick js l := by
      unfold pick
      rw [List.filterMap_cons_some (List.getElem?_eq_getElem hj)]
    rw [e]
    refine ⟨by simp [i1], fun i => ?_⟩
    cases i with
    | zero => simp [hj]
    | succ i => simpa using i2 i
theorem pick_range {α : Type} (l : List α) : pick (List.range l.length) l = l := by
  apply List.ext_getElem?
  intro i
  rw [(pick_len rfl _ fun j hj => List.mem_range.mp hj).2 i]
  by_cases hi : i < l.length
  · rw [List.getElem?_range hi]
    rfl
  · rw [List.getElem?_eq_none (by simp; omega), List.getElem?_eq_none (by omega)]
    rfl
theorem pick_perm {α : Type} {n : Nat} {js : List Nat} {l : List α} (p : js.Perm (List.range n)) (hl : l.length = n) : (pick js l).Perm l := by
  have q := p.filterMap fun j => l[j]?
  have e : (List.range n).filterMap (fun j => l[j]?) = l := by
    have := pick_range l
    rw [hl] at this
    exact this
  rw [e] at q
  exact q
theorem pick_map {α β : Type} (f : α → β) (js : List Nat) (l : List α) : pick js (l.map f) = (pick js l).map f := by
  unfold pick
  rw [List.map_filterMap]
  congr 1
  funext j
  simp
theorem a_perm {n : Nat} {js : List Nat} {tk : TA} {k : List Sl → List Sl → Prop} (p : js.Perm (List.range n)) (h : EvA K tk Γ fun rs Γ1 => rs.length = n ∧ k (pick js rs) Γ1) : EvA K (tPerm n js tk) Γ k := by
  intro σ S H fs Q w P
  refine h σ S H fs _ w fun vs rs Γ' S' H' frs fs' ⟨hn, hk⟩ l1 l2 w' st => ?_
  have hb : ∀ j ∈ js, j < n := fun j hj => List.mem_range.mp (p.mem_iff.mp hj)
  have hv : vs.length = n := by omega
  have hf : frs.length = n := by omega
  obtain ⟨a1, a2⟩ := pick_len hv js hb
  obtain ⟨b1, b2⟩ := pick_len hn js hb
  obtain ⟨c1, c2⟩ := pick_len hf js hb
  have pf : (pick js frs ++ fs').flatten.Perm (frs ++ fs').flatten := by
    rw [List.flatten_append, List.flatten_append]
    exact ((pick_perm p hf).flatten).append_right _
  refine ⟨hv, P (pick js vs) (pick js rs) Γ' S' H' (pick js frs) fs' hk (by rw [a1, b1]) (by rw [c1, b1]) ⟨w'.good.perm pf.symm, ?_⟩ (st.sub fun x hx => pf.mem_iff.mp hx)⟩
  obtain ⟨m1, m2, hg⟩ := satL_iff.mp w'.sat
  refine satL_iff.mpr ⟨?_, ?_, fun i s e => ?_⟩
  · simp only [List.length_append, List.length_map] at m1 ⊢
    omega
  · simp only [List.length_append] at m2 ⊢
    omega
  by_cases hi : i < js.length
  · rw [List.getElem?_append_left (by omega), b2 i] at e
    obtain ⟨j, hj⟩ : ∃ j, js[i]? = some j := ⟨_, List.getElem?_eq_getElem hi⟩
    have hjn := hb j (List.mem_of_getElem? hj)
    rw [hj] at e
    obtain ⟨x, fp, e1, e2, e3⟩ := hg j s (by rw [List.getElem?_append_left (by omega)]; exact e)
    rw [List.getElem?_append_left (by simp; omega)] at e1
    rw [List.getElem?_append_left (by omega)] at e2
    refine ⟨x, fp, ?_, ?_, e3⟩
    · rw [List.getElem?_append_left (by simp; omega), ← pick_map, (pick_len (n := n) (by simp [hv]) js hb).2 i, hj]
      exact e1
    · rw [List.getElem?_append_left (by omega), c2 i, hj]
      exact e2
  · have hjl : js.length = n := by have := p.length_eq; simpa using this
    obtain ⟨x, fp, e1, e2, e3⟩ := hg i s (by
      rw [List.getElem?_append_right (by omega)] at e ⊢
      rw [b1] at e
      rw [hn]
      rw [hjl] at e
      exact e)
    refine ⟨x, fp, ?_, ?_, e3⟩
    · rw [List.getElem?_append_right (by simp; omega)] at e1 ⊢
      simpa [a1, hjl, hv] using e1
    · rw [List.getElem?_append_right (by omega)] at e2 ⊢
      rw [c1, hjl]
      rw [hf] at e2
      exact e2
end Dl
namespace Dl
open PySem PySem.Spec PyProof.Rows L2
theorem tuple_mul1 (l : Addr) (items : Array Value) (n : Nat) (dd : Option Addr) (sl : Array (Option Value)) (u : Tok) :
    Meets (Builtin.«tuple.__mul__» ⟨[.ref l, .int 1 u], []⟩) (fun _ R s => s.heap.get? l = some { cls := .type "tuple", dict := dd, data := .seq items n, slots := sl } ∧
      R (.ok (.ret (Value.ref l))) s) :=
  .of_wp fun prog w A R s h => by
    obtain ⟨hp, g, d, tk, os⟩ := s
    obtain ⟨hl, h⟩ := h
    have f1 := AutoSeq1.idx_int
    wp_walk using wpAny_loadPart' hl
    repeat (first
      | (refine wpAny_ite_false (by decide) ?_; wp_walk using wpAny_loadPart' hl)
      | (refine wpAny_ite_true (by simp) ?_; wp_walk using wpAny_loadPart' hl))
    exact ⟨_, rfl, h⟩
def rRep1 (K : PySem.W.Frag) : R2 := fun x y H Q => ∃ l xs, x = .ref l ∧ y = .int 1 ∧ SqT K H l xs ∧ Q (.ref l) H
section
variable {X : Cx}
theorem op_rep1 : OpR X (binaryOp .Mult) (rRep1 X.K) := by
  intro pins s σ H x y v u Q I rx ry h
  obtain ⟨l, xs, rfl, rfl, hT, q⟩ := h
  cases rx
  obtain ⟨t, rfl⟩ := ry
  obtain ⟨its, r, ⟨⟨cls, dd, data, sl⟩, ho, hc, n, hd⟩, hs⟩ := I.tuple hT
  simp only at hc hd
  subst hc hd
  refine wpAny_binaryOp_repeat_ref (T := "tuple") (U := "int") (by decide) ⟨_, ho, rfl⟩ (fun s' => typeIs_int s' 1 t) noFill_tuple_mul F.fills_int_mul F.slot_int_rmul repeat_tuple F.slot_int_index.lookup
    (call_meets F.slot_int_rmul (typeIs_int s 1 t) F.entry_int_rmul (F.args_int_rmul_2 _ _) (int_rmul_tuple 1 t l its.toArray n dd sl)
      ⟨ho, rfl, ⟨_, ho, rfl⟩, call_meets F.slot_tuple_mul ⟨_, ho, rfl⟩ F.entry_tuple_mul (F.args_tuple_mul_2 _ _) (tuple_mul1 l its.toArray n dd sl t) ⟨ho, ?_⟩⟩)
  exact ⟨.ref l, _, I, rfl, q⟩
def uMulT (K : Frag) : R2 := fun x y H Q => rRep1 K x y H Q ∨ rRepT K x y H Q
theorem opMulT : OpR X (binaryOp .Mult) (uMulT X.K) := op_rep1.or op_repT
def rReprU (_ : Frag) : List V → Hp → VK → Prop := fun xs H Q => (∃ i, xs = [.int i] ∧ i.natAbs.log2 < 1920 ∧ Q (.str (toString i)) H) ∨ (xs = [.non] ∧ Q (.str "None") H)
theorem cRepr : CallR X (.builtin "repr") (rReprU X.K) := by
  intro pins s σ H xs us Q I r h
  rcases h with h | ⟨rfl, q⟩
  · exact SkE.call_repr_int pins s σ H xs us Q I r h
  · obtain ⟨u, rfl, r1⟩ := vals1 r
    cases r1
    exact PySem.P.repr_of_none ⟨.str _, H, I.tok _, ⟨_, rfl⟩, q⟩
end
variable {K : Frag} {Γ : List Sl} {k : Sl → List Sl → Prop} {O : Out}
theorem op_mulT {d : PyData} {n : Int} (h1 : 1 ≤ n) (h2 : n ≤ 1000) (hk : k (.dat (.tuple (List.replicate n.toNat d))) Γ) : OpK K (uMulT K) (.dat (.tuple [d])) (.dat (.int n)) Γ k := by
  intro σ S H f1 f2 fs x y Q w P
  obtain ⟨_, x', e1, hd⟩ := w.hd
  obtain ⟨_, y', e2, he⟩ := w.tl.hd
  cases e1; cases e2
  cases he
  cases hd with
  | @tup a0 xs0 _ ht hs =>
    by_cases h : n = 1
    · subst h
      exact .inl ⟨_, _, rfl, rfl, w.good.sub.sqT ht, (Post.drop2 P).dat w.tl.tl hk (.tup ht hs)⟩
    · obtain ⟨v, rfl, hv⟩ : ∃ v, xs0 = [v] ∧ Dd K S v d := by
        cases hs with
        | cons a b => cases b; exact ⟨_, rfl, a⟩
      refine .inr ⟨_, n, [v], rfl, rfl, w.good.sub.sqT ht, by simp, by omega, h2, by simp, fun p hp => ?_⟩
      have e : (List.replicate n.toNat [v]).flatten = List.replicate n.toNat v := by simp [List.flatten_replicate_singleton]
      rw [e]
      refine (Post.drop2 P).new w.tl.tl hk hp (dp_tup_new (w.good.sub.none hp) ?_)
      have rep : ∀ m : Nat, DdAll K S (List.replicate m v) (List.replicate m d) := fun m => by
        induction m with
        | zero => exact .nil
        | succ m ih => exact .cons hv ih
      exact rep _
theorem cb_reprI {i : Int} (h : i.natAbs.log2 < 1920) (hk : k (.dat (.str (toString i))) Γ) : CbK K (rReprU K) [.dat (.int i)] Γ k :=
  cb1 fun σ S H fs v Q w hd P => by cases hd; exact .inl ⟨i, rfl, h, P.dat w hk (.str _)⟩
theorem cb_reprN (hk : k (.dat (.str "None")) Γ) : CbK K (rReprU K) [.dat .none] Γ k :=
  cb1 fun σ S H fs v Q w hd P => by cases hd; exact .inr ⟨rfl, P.dat w hk (.str _)⟩
end Dl
namespace Dl
open PySem PySem.Spec PyProof.Rows L2
variable {K : Frag} {Γ : List Sl} {k : Sl → List Sl → Prop} {O : Out}
theorem cb_intB {b : Bool} (hk : k (.dat (.int (if b then 1 else 0))) Γ) : CbK K (rInt1 K) [.dat (.bool b)] Γ k :=
  cb1 fun σ S H fs v Q w hd P => by cases hd; exact .inr ⟨b, rfl, P.dat w hk (.int _)⟩
theorem e_propT {C : Addr} {F : FSpec} {to : TE} (h : EvP K to Γ fun s Γ1 => ∃ r : Res, s = .res r ∧ IsIns C (PySem.Str.ofString "") r ∧ F [.res r] fun r0 as' => ∃ d, r0 = .dat d ∧ k (.dat d) Γ1) :
    EvP K (tProp C (spOf K F) [] E0 to) Γ k := by
  intro σ S H fs Q w P
  refine h σ S H fs _ w fun x s Γ1 S1 H1 f1 fs1 hb w1 st1 => ?_
  obtain ⟨r, rfl, hI, hF⟩ := hb
  obtain ⟨e0, e1⟩ := w1.hd
  cases e0
  obtain ⟨a, dx, fl, hv, hH, hl⟩ := hI K S1 H1 f1 e1
  refine ⟨a, dx, fl, hv, hH, ?_⟩
  have q := e_call (K := K) (E := E0) (F := F) (ta := tCons (tVar 0) tNil) (Γ := .res r :: Γ1) (k := fun r0 Γ' => ∃ d, r0 = .dat d ∧ k (.dat d) Γ'.tail)
    (a_cons (e_move rfl (a_nil hF))) (some r.v :: σ) S1 H1 (f1 :: fs1) Q w1 ?_
  · obtain ⟨v, e, q⟩ := q
    cases e
    rw [← hv]
    exact q
  · intro v r0 Γ' S2 H2 f2 fs2 hk w2 st2
    obtain ⟨d, rfl, hk⟩ := hk
    match Γ', fs2, w2, hk with
    | s :: Γ2, f3 :: fs3, w2, hk =>
      obtain ⟨e2, v', e3, hd⟩ := w2.hd
      cases e3
      subst e2
      refine P v (.dat d) Γ2 S2 H2 [] fs3 hk (w2.tl.tl.put ⟨rfl, v, rfl, hd⟩) ((st1.trans st2).sub fun b hb => ?_)
      simp only [List.flatten_cons, List.nil_append] at hb ⊢
      exact List.mem_append_right _ hb
    | [], fs2, w2, _ =>
      have z := w2.sat.lens.1
      simp at z
    | s :: Γ2, [], w2, _ =>
      have z := w2.sat.lens.2
      simp at z
theorem op_addO {a : Addr} {ds es : List PyData} (hL : HasL Γ a (ds.map .dat)) (hz : ds.length + es.length ≤ sizeLine) (hk : ∀ b, k (.res (ownL b (ds ++ es))) Γ) : OpK K (uAdd K) (.raw (.ref a)) (.dat (.list es)) Γ k := by
  intro σ S H f1 f2 fs x y Q w P
  obtain ⟨e0, e1⟩ := w.hd
  obtain ⟨e2, y', e3, hy⟩ := w.tl.hd
  subst e0 e2
  cases e1; cases e3
  obtain ⟨vs, hH, hvs⟩ := hL.at w.tl.tl
  have hd : DdAll K S vs ds := hvs.dats
  cases hy with
  | lst b1 b2 =>
    refine .inr (.inr (.inl ⟨_, _, _, _, rfl, rfl, .inl hH, w.good.sub.rd b1, by rw [dps_len hd, dps_len b2]; exact hz, fun p hp => ?_⟩))
    obtain ⟨w3, st3⟩ := allocOwn w.tl.tl hp (dps_app hd b2)
    exact (Post.drop2 P) _ _ _ S _ [p] fs (hk p) w3 st3
end Dl
namespace Hw
open PySem PySem.Spec PyProof.Rows L2 Dl
def iL (ns : List Int) : List PyData := ns.map .int
theorem iL_len {ns : List Int} : (iL ns).length = ns.length := List.length_map ..
abbrev w0 (s : String) : Str := PySem.Str.ofString s
inductive Ins where
  | set (g v : Int)
  | offer (r : Int)
  | get (g c b l : Int)
  | put (g c b l : Int)
  | two (w : Str) (g a b : Int)
inductive CellT where
  | ins (h : Int) (i : Ins)
  | shw (p w : Int)
  | turn (g w : Int)
  | take (r w : Int)
  | goto (g : Int)
  | mark
  | stop
def insL : Ins → List PyData
  | .set g v => [.str (PySem.Str.ofString "set"), .int g, .int v]
  | .offer r => [.str (PySem.Str.ofString "offer"), .int r]
  | .get g c b l => [.str (PySem.Str.ofString "get"), .int g, .int c, .int b, .int l]
  | .put g c b l => [.str (PySem.Str.ofString "put"), .int g, .int c, .int b, .int l]
  | .two w g a b => [.str w, .int g, .int a, .int b]
def insD (h : Int) (i : Ins) : PyData := .tuple (.int h :: insL i)
def cellD : CellT → PyData
  | .ins h i => insD h i
  | .shw p w => .tuple [.str (PySem.Str.ofString "show"), .int p, .int w]
  | .turn g w => .tuple [.str (PySem.Str.ofString "turn"), .int g, .int w]
  | .take r w => .tuple [.str (PySem.Str.ofString "take"), .int r, .int w]
  | .goto g => .tuple [.str (PySem.Str.ofString "goto"), .int g]
  | .mark => .tuple [.str (PySem.Str.ofString "mark")]
  | .stop => .tuple [.str (PySem.Str.ofString "stop")]
def twos : List Str := [PySem.Str.ofString "plus", PySem.Str.ofString "minus", PySem.Str.ofString "times", PySem.Str.ofString "rest", PySem.Str.ofString "less", PySem.Str.ofString "same"]
def regOk (r : Int) : Prop := 0 ≤ r ∧ r ≤ 7
def insOk (size bank : Int) : Ins → Prop
  | .set g v => regOk g ∧ 0 ≤ v ∧ v ≤ size - 1
  | .offer r => regOk r
  | .get g c b l => regOk g ∧ regOk c ∧ 0 ≤ b ∧ b ≤ bank ∧ 1 ≤ l ∧ l ≤ bank - b
  | .put g c b l => regOk g ∧ regOk c ∧ 0 ≤ b ∧ b ≤ bank ∧ 1 ≤ l ∧ l ≤ bank - b
  | .two w g a b => w ∈ twos ∧ regOk g ∧ regOk a ∧ regOk b
def cellOk (hues size many bank : Int) : CellT → Prop
  | .ins h i => (0 ≤ h ∧ h ≤ hues - 1) ∧ insOk size bank i
  | .shw p w => (0 ≤ p ∧ p ≤ 5) ∧ 1 ≤ w ∧ w ≤ hues
  | .turn g w => (0 ≤ g ∧ g ≤ many - 1) ∧ 1 ≤ w ∧ w ≤ hues
  | .take r w => (0 ≤ r ∧ r ≤ 7) ∧ 1 ≤ w ∧ w ≤ hues
  | .goto g => 0 ≤ g ∧ g ≤ many - 1
  | .mark => True
  | .stop => True
structure Code where
  votes : List Int
  size : Int
  cells : List CellT
  bank : List Int
def Code.d (c : Code) : PyData := .tuple [.tuple (iL c.votes), .int c.size, .tuple (c.cells.map cellD), .tuple (iL c.bank)]
def votesOk (vs : List Int) : Prop := 1 ≤ vs.length ∧ vs.length ≤ 5 ∧ ∀ (i : Nat) (v : Int), vs[i]? = some v → (i : Int) + 1 < 2 * v ∧ 2 * v ≤ 2 * ((i : Int) + 1)
structure Code.Ok (c : Code) : Prop where
  votes : votesOk c.votes
  size : 2 ≤ c.size ∧ c.size ≤ 10000
  cells : 1 ≤ c.cells.length ∧ c.cells.length ≤ 4000 ∧ ∀ x ∈ c.cells, cellOk c.votes.length c.size c.cells.length c.bank.length x
  bank : c.bank.length ≤ 600 ∧ ∀ n ∈ c.bank, 0 ≤ n ∧ n ≤ c.size - 1
inductive Thing where
  | reg (r n : Int)
  | cell (a n : Int)
  | pointer (n : Int)
  | slot (n : Option Int)
  | code (a h : Int) (i : Ins)
def optD : Option Int → PyData
  | none => .none
  | some n => .int n
def placeD : Thing → PyData
  | .reg r _ => .tuple [.str (PySem.Str.ofString "register"), .int r]
  | .cell a _ => .tuple [.str (PySem.Str.ofString "cell"), .int a]
  | .pointer _ => .tuple [.str (PySem.Str.ofString "pointer")]
  | .slot _ => .tuple [.str (PySem.Str.ofString "slot")]
  | .code a _ _ => .tuple [.str (PySem.Str.ofString "code"), .int a]
def newD : Thing → PyData
  | .reg _ n => .int n
  | .cell _ n => .int n
  | .pointer n => .int n
  | .slot n => optD n
  | .code _ h i => insD h i
def thingOk (c : Code) (h : Int) : Thing → Prop
  | .reg r n => regOk r ∧ 0 ≤ n ∧ n ≤ c.size - 1
  | .cell a n => (0 ≤ a ∧ a ≤ c.bank.length - 1) ∧ 0 ≤ n ∧ n ≤ c.size - 1
  | .pointer n => 0 ≤ n ∧ n ≤ 9999
  | .slot n => ∀ x, n = some x → 0 ≤ x ∧ x ≤ c.size - 1
  | .code a h' i => (0 ≤ a ∧ a ≤ c.cells.length - 1) ∧ h' = h ∧ (∃ j, c.cells[a.toNat]? = some (.ins h j)) ∧ insOk c.size c.bank.length i
structure Strike where
  step : Int
  hue : Int
  th : Thing
def Strike.d (s : Strike) : PyData := .tuple [.int s.step, .int s.hue, placeD s.th, newD s.th]
def strikeOk (c : Code) (s : Strike) : Prop := (0 ≤ s.step ∧ s.step ≤ 1000000) ∧ (0 ≤ s.hue ∧ s.hue ≤ c.votes.length - 1) ∧ thingOk c s.hue s.th
def strikesOk (c : Code) (ss : List Strike) : Prop := ss.length ≤ 400 ∧ (∀ s ∈ ss, strikeOk c s) ∧ ss.Pairwise fun a b => a.step ≤ b.step
structure HueD where
  regs : List Int
  bank : List Int
  ptr : Int
  slot : Option Int
  chg : List (Int × CellT)
inductive St where
  | running
  | caught
  | stopped
deriving DecidableEq
def stS : St → Str
  | .running => PySem.Str.ofString "running"
  | .caught => PySem.Str.ofString "caught"
  | .stopped => PySem.Str.ofString "stopped"
inductive Item where
  | shw (p n : Int)
  | take (n : Int)
  | stop
def itemD : Item → PyData
  | .shw p n => .tuple [.str (PySem.Str.ofString "show"), .int p, .int n]
  | .take n => .tuple [.str (PySem.Str.ofString "take"), .int n]
  | .stop => .tuple [.str (PySem.Str.ofString "stop")]
structure MD where
  code : Code
  left : List Int
  strikes : List Strike
  row : List Item
  steps : Int
  state : St
  addr : Option Int
  hues : List HueD
def agreedI (vs : List Int) (need : Int) : Option Int := vs.find? fun v => decide (need ≤ ((vs.count v : Nat) : Int))
abbrev Pair := List Int × List Int
def agreedP (vs : List Pair) (need : Int) : Option Pair := vs.find? fun v => decide (need ≤ ((vs.count v : Nat) : Int))
def needAt (c : Code) (w : Nat) : Int := c.votes.getD (w - 1) 0
def MD.need (d : MD) : Int := needAt d.code d.code.votes.length
def MD.fetch (d : MD) : Option Int := match agreedI (d.hues.map (·.ptr)) d.need with
  | some p => if p < d.code.cells.length then some p else none
  | none => none
def pointH (p : Int) (h : HueD) : HueD := { h with ptr := p }
def emptyH (h : HueD) : HueD := { h with slot := none }
def MD.point (d : MD) (p : Int) : MD := { d with hues := d.hues.map (pointH p) }
def MD.empty (d : MD) : MD := { d with hues := d.hues.map emptyH }
def worth (w : Str) (x y size : Int) : Int :=
  if w = PySem.Str.ofString "plus" then (x + y) % size else if w = PySem.Str.ofString "minus" then (x - y) % size else if w = PySem.Str.ofString "times" then x * y % size
  else if w = PySem.Str.ofString "rest" then (if y ≠ 0 then x % y else 0) else if w = PySem.Str.ofString "less" then (if x < y then 1 else 0) else (if x = y then 1 else 0)
def HueD.reg (h : HueD) (r : Int) : Int := h.regs.getD r.toNat 0
def HueD.setReg (h : HueD) (r n : Int) : HueD := { h with regs := h.regs.set r.toNat n }
def runIns (size : Int) (h : HueD) : Ins → HueD
  | .set g v => h.setReg g v
  | .offer r => { h with slot := some (h.reg r) }
  | .get g c b l => h.setReg g (h.bank.getD (b + h.reg c % l).toNat 0)
  | .put g c b l => { h with bank := h.bank.set (b + h.reg c % l).toNat (h.reg g) }
  | .two w g a b => h.setReg g (worth w (h.reg a) (h.reg b) size)
def runCell (size : Int) (h : HueD) : CellT → HueD
  | .ins _ i => runIns size h i
  | _ => h
def getC (l : List (Int × CellT)) (a : Int) : Option CellT := (l.find? fun p => decide (p.1 = a)).map (·.2)
def putC (l : List (Int × CellT)) (a : Int) (c : CellT) : List (Int × CellT) := if (l.any fun p => decide (p.1 = a)) = true then l.map (fun p => if p.1 = a then (p.1, c) else p) else l ++ [(a, c)]
def MD.onHue (d : MD) (i : Nat) (f : HueD → HueD) : MD := { d with hues := d.hues.modify i f }
def MD.slots (d : MD) (w : Int) : List Int := (d.hues.take w.toNat).filterMap (·.slot)
def MD.takeNo (d : MD) : Int := d.left.headD 0 % d.code.size
def markH (p : Pair) (h : HueD) : HueD := { h with regs := p.1, bank := p.2, chg := [] }
def upToL {α : Type} (f : α → α) (i : Nat) (l : List α) : List α := (l.take i).map f ++ l.drop i
def MD.settle (d : MD) (p : Int) : CellT → MD
  | .ins _ _ => d
  | .shw q w => match agreedI (d.slots w) (needAt d.code w.toNat) with
    | none => { d with state := .caught }
    | some n => { (d.point (p + 1)).empty with row := d.row ++ [.shw q n] }
  | .turn g w => match agreedI (d.slots w) (needAt d.code w.toNat) with
    | none => { d with state := .caught }
    | some n => (d.point (if n ≠ 0 then g else p + 1)).empty
  | .take r w => { d with left := d.left.tail, row := d.row ++ [.take d.takeNo], hues := upToL (fun h => h.setReg r d.takeNo) w.toNat (d.hues.map (pointH (p + 1))) }
  | .goto g => d.point g
  | .mark => match agreedP (d.hues.map fun h => (h.regs, h.bank)) d.need with
    | none => { d with state := .caught }
    | some q => (({ d with hues := d.hues.map (markH q) } : MD).point (p + 1)).empty
  | .stop => { d.point (p + 1) with row := d.row ++ [.stop], state := .stopped }
def MD.at (d : MD) (p : Int) : CellT → MD
  | .ins h i => (d.point (p + 1)).onHue h.toNat fun g => runCell d.code.size g ((getC g.chg p).getD (.ins h i))
  | c => d.settle p c
def MD.step (d : MD) : MD := match d.fetch with
  | none => { d with steps := d.steps + 1, state := .caught }
  | some p => match d.code.cells[p.toNat]? with
    | none => { d with steps := d.steps + 1 }
    | some c => ({ d with steps := d.steps + 1 } : MD).at p c
def strikeH (t : Thing) (h : HueD) : HueD := match t with
  | .reg r n => h.setReg r n
  | .cell a n => { h with bank := h.bank.set a.toNat n }
  | .pointer n => { h with ptr := n }
  | .slot n => { h with slot := n }
  | .code a hu i => { h with chg := putC h.chg a (.ins hu i) }
def dueL (n : Int) : List Strike → List HueD → List Strike × List HueD
  | [], hs => ([], hs)
  | s :: ss, hs => if s.step ≤ n then dueL n ss (hs.modify s.hue.toNat (strikeH s.th)) else (s :: ss, hs)
def MD.due (d : MD) : MD := { d with strikes := (dueL d.steps d.strikes d.hues).1, hues := (dueL d.steps d.strikes d.hues).2 }
def MD.run : Nat → MD → MD
  | 0, d => d
  | n + 1, d => if d.state = .running then MD.run n d.due.step else d
def MD.next (d : MD) : Option Int := if d.state = .running then d.fetch else none
def MD.go (n : Nat) (d : MD) : MD := { MD.run n d with addr := (MD.run n d).next }
def MD.strike (d : MD) (i : Nat) (t : Thing) : MD := { d.onHue i (strikeH t) with addr := (d.onHue i (strikeH t)).next }
def freshH (bank : List Int) : HueD := ⟨List.replicate 8 0, bank, 0, none, []⟩
def MD.new (c : Code) (left : List Int) (ss : List Strike) : MD := ⟨c, left, ss, [], 0, .running, some 0, c.votes.map fun _ => freshH c.bank⟩
structure HueOk (c : Code) (h : HueD) : Prop where
  rl : h.regs.length = 8
  rn : ∀ n ∈ h.regs, 0 ≤ n ∧ n ≤ c.size - 1
  bl : h.bank.length = c.bank.length
  bn : ∀ n ∈ h.bank, 0 ≤ n ∧ n ≤ c.size - 1
  p : 0 ≤ h.ptr
  s : ∀ n, h.slot = some n → 0 ≤ n ∧ n ≤ c.size - 1
  c : ∀ q ∈ h.chg, (0 ≤ q.1 ∧ q.1 ≤ c.cells.length - 1) ∧ ∃ hu i, q.2 = .ins hu i ∧ insOk c.size c.bank.length i
  nd : (h.chg.map (·.1)).Nodup
structure MD.Ok (d : MD) : Prop where
  code : d.code.Ok
  len : d.hues.length = d.code.votes.length
  hues : ∀ h ∈ d.hues, HueOk d.code h
  strikes : ∀ s ∈ d.strikes, strikeOk d.code s
  row : d.row.length ≤ d.steps.toNat
  steps : 0 ≤ d.steps
end Hw
namespace Hw
open PySem PySem.Spec PyProof.Rows L2 Dl
structure MT (K : Frag) : Prop where
  k_HueState : Cls K (He.ga K "HueState")
  na_HueState_m_registers : NoAttr K (He.ga K "HueState") "m_registers"
  na_HueState_m_bank : NoAttr K (He.ga K "HueState") "m_bank"
  na_HueState_m_pointer : NoAttr K (He.ga K "HueState") "m_pointer"
  na_HueState_m_slot : NoAttr K (He.ga K "HueState") "m_slot"
  na_HueState_m_changed : NoAttr K (He.ga K "HueState") "m_changed"
  k_Machine : Cls K (He.ga K "Machine")
  na_Machine_m_code : NoAttr K (He.ga K "Machine") "m_code"
  na_Machine_m_hues : NoAttr K (He.ga K "Machine") "m_hues"
  na_Machine_m_left : NoAttr K (He.ga K "Machine") "m_left"
  na_Machine_m_strikes : NoAttr K (He.ga K "Machine") "m_strikes"
  na_Machine_m_row : NoAttr K (He.ga K "Machine") "m_row"
  na_Machine_m_steps : NoAttr K (He.ga K "Machine") "m_steps"
  na_Machine_m_state : NoAttr K (He.ga K "Machine") "m_state"
  na_Machine_address : NoAttr K (He.ga K "Machine") "address"
  dflt : ∀ S, Dd K S (.ref (He.dflAt ("Machine", some "__init__") 0 K)) (.tuple [])
  twosD : ∀ S, Dd K S (.ref (He.ga K "TWOS")) (.tuple (twos.map .str))
structure Hue where
  x : Addr
  r : Addr
  b : Addr
  c : Addr
  d : HueD
def hN : List Str := ["m_registers", "m_bank", "m_pointer", "m_slot", "m_changed"]
def chgD (l : List (Int × CellT)) : List (Int × PyData) := l.map fun p => (p.1, cellD p.2)
def Hue.fs (h : Hue) : List Sl := [.raw (.ref h.r), .raw (.ref h.b), .dat (.int h.d.ptr), .dat (optD h.d.slot), .raw (.ref h.c)]
def Hue.ic (K : Frag) (h : Hue) : Addr × Cell := (h.x, .ins (He.ga K "HueState") hN h.fs)
def Hue.ls (h : Hue) : List (Addr × Cell) := [(h.r, .lst ((iL h.d.regs).map .dat)), (h.b, .lst ((iL h.d.bank).map .dat)), (h.c, .dI (chgD h.d.chg))]
structure Mach where
  a : Addr
  ah : Addr
  al : Addr
  as_ : Addr
  ar : Addr
  code : Code
  left : List Int
  strikes : List Strike
  row : List Item
  steps : Int
  state : St
  addr : Option Int
  hues : List Hue
def Mach.D (m : Mach) : MD := ⟨m.code, m.left, m.strikes, m.row, m.steps, m.state, m.addr, m.hues.map (·.d)⟩
def mN : List Str := ["m_code", "m_hues", "m_left", "m_strikes", "m_row", "m_steps", "m_state", "address"]
def Mach.fs (m : Mach) : List Sl := [.dat m.code.d, .raw (.ref m.ah), .raw (.ref m.al), .raw (.ref m.as_), .raw (.ref m.ar), .dat (.int m.steps), .dat (.str (stS m.state)), .dat (optD m.addr)]
def Mach.top (K : Frag) (m : Mach) : List (Addr × Cell) :=
  [(m.a, .ins (He.ga K "Machine") mN m.fs),
   (m.ah, .lst (m.hues.map fun h => .raw (.ref h.x))), (m.al, .lst ((iL m.left).map .dat)), (m.as_, .lst ((m.strikes.map Strike.d).map .dat)), (m.ar, .lst ((m.row.map itemD).map .dat))]
def Mach.cs (K : Frag) (m : Mach) : List (Addr × Cell) := m.top K ++ (m.hues.map (Hue.ic K) ++ m.hues.flatMap Hue.ls)
def Mach.R (K : Frag) (m : Mach) : Res := star (.ref m.a) (m.cs K)
def mapH (f : HueD → HueD) (h : Hue) : Hue := { h with d := f h.d }
def Mach.point (m : Mach) (p : Int) : Mach := { m with hues := m.hues.map (mapH (pointH p)) }
def Mach.empty (m : Mach) : Mach := { m with hues := m.hues.map (mapH emptyH) }
def Mach.onHue (m : Mach) (i : Nat) (f : HueD → HueD) : Mach := { m with hues := m.hues.modify i (mapH f) }
def isWholeD (d : PyData) : Bool := isT "int" d && !isT "bool" d
def isFromD (d : PyData) (lo hi : Int) : Bool := match d with
  | .int n => decide (lo ≤ n) && decide (n ≤ hi)
  | _ => false
def seqOf (d : PyData) (ds : List PyData) : Prop := d = .list ds ∨ d = .tuple ds
def insOkR (n : Int) : Prop := 0 ≤ n ∧ n ≤ 9999
def F__wall (_ : Frag) : FSpec := fun args k => False
def F_is_whole (_ : Frag) : FSpec := fun args k => ∃ d, pD args k [d] (.bool (isWholeD d))
def F_is_from (_ : Frag) : FSpec := fun args k => ∃ d lo hi, pD args k [d, .int lo, .int hi] (.bool (isFromD d lo hi))
def F_are_inputs (_ : Frag) : FSpec := fun args k => ∃ (ns : List Int) (d : PyData), (ns.length ≤ 400 ∧ ∀ n ∈ ns, insOkR n) ∧ seqOf d (iL ns) ∧ pD args k [d] (.bool true)
def F_is_votes (_ : Frag) : FSpec := fun args k => ∃ vs, votesOk vs ∧ pD args k [.tuple (iL vs)] (.bool true)
def F_are_registers (_ : Frag) : FSpec := fun args k => ∃ ns : List Int, (∀ n ∈ ns, regOk n) ∧ pD args k [.tuple (iL ns)] (.bool true)
def F_instruction_fits (_ : Frag) : FSpec := fun args k => ∃ i h size many, insOk size many i ∧ pD args k [insD h i, .int h, .int size, .int many] (.bool true)
def F_settle_fits (_ : Frag) : FSpec := fun args k => ∃ c hues many, ((∃ size bank, cellOk hues size many bank c) ∧ ∀ h i, c ≠ .ins h i) ∧ pD args k [cellD c, .int hues, .int many] (.bool true)
def F_is_settle (_ : Frag) : FSpec := fun args k => ∃ d ds, pD args k [.tuple (d :: ds)] (.bool (isT "str" d))
def F_cell_fits (_ : Frag) : FSpec := fun args k => ∃ c hues size many bank, cellOk hues size many bank c ∧ pD args k [cellD c, .int hues, .int size, .int many, .int bank] (.bool true)
def F_is_code (_ : Frag) : FSpec := fun args k => ∃ c : Code, c.Ok ∧ pD args k [c.d] (.bool true)
def F_need_code (_ : Frag) : FSpec := fun args k => ∃ c : Code, c.Ok ∧ pD args k [c.d] .none
def F_need_hue (_ : Frag) : FSpec := fun args k => ∃ (c : Code) (h : Int), (0 ≤ h ∧ h ≤ c.votes.length - 1) ∧ pD args k [c.d, .int h] .none
def F_own_cells (_ : Frag) : FSpec := fun args k => ∃ (c : Code) (h : Int), c.Ok ∧ pD args k [c.d, .int h] (.list ((c.cells.zipIdx.filterMap fun p => match p.1 with | .ins g i => if g = h then some (.tuple [.int p.2, insD g i]) else none | _ => none)))
def F_place_fits (_ : Frag) : FSpec := fun args k => ∃ (c : Code) (h : Int) (t : Thing), thingOk c h t ∧ pD args k [c.d, .int h, placeD t] (.bool true)
def F_new_fits (_ : Frag) : FSpec := fun args k => ∃ (c : Code) (h : Int) (t : Thing), thingOk c h t ∧ pD args k [c.d, .int h, placeD t, newD t] (.bool true)
def F_strike_fits (_ : Frag) : FSpec := fun args k => ∃ (c : Code) (s : Strike), strikeOk c s ∧ pD args k [c.d, s.d] (.bool true)
def F_first_misfit (_ : Frag) : FSpec := fun args k => ∃ (c : Code) (ss : List Strike) (d : PyData), strikesOk c ss ∧ seqOf d (ss.map Strike.d) ∧ pD args k [c.d, d] .none
def F_is_strike_list (_ : Frag) : FSpec := fun args k => ∃ (ds : List PyData) (d : PyData), ds.length ≤ 400 ∧ seqOf d ds ∧ pD args k [d] (.bool true)
def F_need_strikes (_ : Frag) : FSpec := fun args k => ∃ (c : Code) (ss : List Strike) (d : PyData), strikesOk c ss ∧ seqOf d (ss.map Strike.d) ∧ pD args k [c.d, d] .none
def F_need_inputs (_ : Frag) : FSpec := fun args k => ∃ (ns : List Int) (d : PyData), (ns.length ≤ 400 ∧ ∀ n ∈ ns, insOkR n) ∧ seqOf d (iL ns) ∧ pD args k [d] .none
def F_need_steps (_ : Frag) : FSpec := fun args k => ∃ n : Int, (0 ≤ n ∧ n ≤ 1000000) ∧ pD args k [.int n] .none
def pairIn (Θ : List (Addr × Cell)) (t : Addr) (p : Pair) : Prop := ∃ (r b : Addr) (n1 n2 n3 : Nat), Θ[n1]? = some (t, .tup [.raw (.ref r), .raw (.ref b)]) ∧ Θ[n2]? = some (r, .lst ((iL p.1).map .dat)) ∧ Θ[n3]? = some (b, .lst ((iL p.2).map .dat))
def F_most_agreed (_ : Frag) : FSpec := fun args k => (∃ (ns : List Int) (need : Int), ns ≠ [] ∧ pD args k [.list (iL ns), .int need] (optD (agreedI ns need))) ∨
  ∃ (D : Addr) (Θ : List (Addr × Cell)) (n0 : Nat) (tp : List (Addr × Pair)) (need : Int), tp ≠ [] ∧ tp.length ≤ 5 ∧ Θ[n0]? = some (D, .lst (tp.map fun q => .raw (.ref q.1))) ∧ (∀ q ∈ tp, pairIn Θ q.1 q.2) ∧ args = [.res (star (.ref D) Θ), .dat (.int need)] ∧
    (agreedP (tp.map (·.2)) need = none → k (.dat .none) args) ∧ (∀ q ∈ tp, agreedP (tp.map (·.2)) need = some q.2 → k (.raw (.ref q.1)) args)
def F_worked_out (_ : Frag) : FSpec := fun args k => ∃ (w : Str) (x y size : Int), w ∈ twos ∧ (0 ≤ x ∧ x ≤ 10000) ∧ (0 ≤ y ∧ y ≤ 10000) ∧ 0 < size ∧ pD args k [.str w, .int x, .int y, .int size] (.int (worth w x y size))
def stepN (d : MD) : Prop := d.steps ≤ 10000000
def F_machine_address (K : Frag) : FSpec := fun args k => ∃ m : Mach, m.D.Ok ∧ args = [.res (m.R K)] ∧ k (.dat (optD m.D.fetch)) args
def F_next_address (K : Frag) : FSpec := fun args k => ∃ m : Mach, m.D.Ok ∧ args = [.res (m.R K)] ∧ k (.dat (optD m.D.next)) args
def F_strikes_due (K : Frag) : FSpec := fun args k => ∃ m : Mach, m.D.Ok ∧ args = [.res (m.R K)] ∧ ∀ m' : Mach, m'.a = m.a → m'.D = m.D.due → k (.dat .none) [.res (m'.R K)]
def F_point_all (K : Frag) : FSpec := fun args k => ∃ (m : Mach) (p : Int), args = [.res (m.R K), .dat (.int p)] ∧ k (.dat .none) [.res ((m.point p).R K), .dat (.int p)]
def F_empty_slots (K : Frag) : FSpec := fun args k => ∃ m : Mach, args = [.res (m.R K)] ∧ k (.dat .none) [.res (m.empty.R K)]
def F_HueState_instructed (K : Frag) : FSpec := fun args k => ∃ (m : Mach) (j : Nat) (h : Hue) (hh : Int) (i : Ins), m.hues[j]? = some h ∧ HueOk m.code h.d ∧ m.code.Ok ∧ insOk m.code.size m.code.bank.length i ∧ args = [.res ((m.R K).at (.ref h.x)), .dat (insD hh i), .dat (.int m.code.size)] ∧
  k (.dat .none) [.res (((m.onHue j fun g => runIns m.code.size g i).R K).at (.ref h.x)), .dat (insD hh i), .dat (.int m.code.size)]
def F_HueState_struck_at (K : Frag) : FSpec := fun args k => ∃ (m : Mach) (j : Nat) (h : Hue) (t : Thing) (hu : Int), m.hues[j]? = some h ∧ HueOk m.code h.d ∧ m.code.Ok ∧ thingOk m.code hu t ∧ args = [.res ((m.R K).at (.ref h.x)), .dat (placeD t), .dat (newD t)] ∧
  k (.dat .none) [.res (((m.onHue j (strikeH t)).R K).at (.ref h.x)), .dat (placeD t), .dat (newD t)]
def F_settle_done (K : Frag) : FSpec := fun args k => ∃ (m : Mach) (c : CellT) (p : Int), m.D.Ok ∧ stepN m.D ∧ (cellOk m.code.votes.length m.code.size m.code.cells.length m.code.bank.length c ∧ ∀ h i, c ≠ .ins h i) ∧ args = [.res (m.R K), .dat (cellD c), .dat (.int (p + 1))] ∧
  ∀ m' : Mach, m'.a = m.a → m'.D = m.D.settle p c → k (.dat .none) [.res (m'.R K), .dat (cellD c), .dat (.int (p + 1))]
def F_mark_done (K : Frag) : FSpec := fun args k => ∃ (m : Mach) (p : Int), m.D.Ok ∧ args = [.res (m.R K), .dat (.int (p + 1))] ∧
  ∀ m' : Mach, m'.a = m.a → m'.D = m.D.settle p .mark → k (.dat .none) [.res (m'.R K), .dat (.int (p + 1))]
def F_machine_step (K : Frag) : FSpec := fun args k => ∃ m : Mach, m.D.Ok ∧ m.steps < 10000000 ∧ args = [.res (m.R K)] ∧ ∀ m' : Mach, m'.a = m.a → m'.D = m.D.step → k (.dat .none) [.res (m'.R K)]
def F_Machine_go (K : Frag) : FSpec := fun args k => ∃ (m : Mach) (n : Nat), m.D.Ok ∧ n ≤ 1000000 ∧ m.steps + n ≤ 10000000 ∧ args = [.res (m.R K), .dat (.int n)] ∧ ∀ m' : Mach, m'.a = m.a → m'.D = m.D.go n → k (.dat .none) [.res (m'.R K), .dat (.int n)]
def F_Machine_row (K : Frag) : FSpec := fun args k => ∃ m : Mach, args = [.res (m.R K)] ∧ k (.dat (.list (m.row.map itemD))) args
def F_Machine_steps (K : Frag) : FSpec := fun args k => ∃ m : Mach, args = [.res (m.R K)] ∧ k (.dat (.int m.steps)) args
def F_Machine_state (K : Frag) : FSpec := fun args k => ∃ m : Mach, args = [.res (m.R K)] ∧ k (.dat (.str (stS m.state))) args
def F_Machine_left (K : Frag) : FSpec := fun args k => ∃ m : Mach, args = [.res (m.R K)] ∧ k (.dat (.list (iL m.left))) args
def F_Machine_pointers (K : Frag) : FSpec := fun args k => ∃ m : Mach, args = [.res (m.R K)] ∧ k (.dat (.tuple (iL (m.hues.map (·.d.ptr))))) args
def F_Machine_slots (K : Frag) : FSpec := fun args k => ∃ m : Mach, args = [.res (m.R K)] ∧ k (.dat (.tuple (m.hues.map fun h => optD h.d.slot))) args
def F_Machine_registers (K : Frag) : FSpec := fun args k => ∃ (m : Mach) (i : Nat) (h : Hue), m.hues[i]? = some h ∧ m.hues.length = m.code.votes.length ∧ args = [.res (m.R K), .dat (.int i)] ∧ k (.dat (.tuple (iL h.d.regs))) args
def F_Machine_cells (K : Frag) : FSpec := fun args k => ∃ (m : Mach) (i : Nat) (h : Hue), m.hues[i]? = some h ∧ m.hues.length = m.code.votes.length ∧ args = [.res (m.R K), .dat (.int i)] ∧ k (.dat (.tuple (iL h.d.bank))) args
def F_Machine_own (K : Frag) : FSpec := fun args k => ∃ (m : Mach) (i p : Nat) (h : Hue) (j : Ins), m.hues[i]? = some h ∧ m.D.Ok ∧ m.code.cells[p]? = some (.ins i j) ∧ args = [.res (m.R K), .dat (.int i), .dat (.int p)] ∧ k (.dat (cellD ((getC h.d.chg p).getD (.ins i j)))) args
def ownsD (c : Code) (i : Nat) (h : HueD) : List PyData := c.cells.zipIdx.filterMap fun p => match p.1 with
  | .ins g j => if g = (i : Int) then some (cellD ((getC h.chg p.2).getD (.ins g j))) else none
  | _ => none
def hueMD (c : Code) (i : Nat) (h : HueD) : PyData := .tuple [.tuple (iL h.regs), .tuple (iL h.bank), .int h.ptr, optD h.slot, .tuple (ownsD c i h)]
def MD.moment (d : MD) : PyData := .tuple [.tuple (d.hues.zipIdx.map fun p => hueMD d.code p.2 p.1), .tuple [.str (stS d.state), .tuple (iL d.left)]]
def F_Machine_moment (K : Frag) : FSpec := fun args k => ∃ m : Mach, m.D.Ok ∧ args = [.res (m.R K)] ∧ k (.dat m.D.moment) args
def F_Machine_strike (K : Frag) : FSpec := fun args k => ∃ (m : Mach) (i : Nat) (t : Thing), m.D.Ok ∧ i < m.hues.length ∧ thingOk m.code i t ∧ args = [.res (m.R K), .dat (.int i), .dat (placeD t), .dat (newD t)] ∧
  ∀ m' : Mach, m'.a = m.a → m'.D = m.D.strike i t → k (.dat .none) [.res (m'.R K), .dat (.int i), .dat (placeD t), .dat (newD t)]
def newHue (x r b c : Addr) (bank : List Int) : Hue := ⟨x, r, b, c, freshH bank⟩
def F_HueState___init__ (K : Frag) : FSpec := fun args k => ∃ x bank, args = [.res (star (.ref x) [(x, .ins (He.ga K "HueState") [] [])]), .dat (.tuple (iL bank))] ∧ ∀ r b c, k (.dat .none) [.res (star (.ref x) ((newHue x r b c bank).ic K :: (newHue x r b c bank).ls)), .dat (.tuple (iL bank))]
def F_Machine___init__ (K : Frag) : FSpec := fun args k => ∃ x c ns d ss e, Code.Ok c ∧ (ns.length ≤ 400 ∧ ∀ n ∈ ns, insOkR n) ∧ seqOf d (iL ns) ∧ strikesOk c ss ∧ seqOf e (ss.map Strike.d) ∧ args = [.res (star (.ref x) [(x, .ins (He.ga K "Machine") [] [])]), .dat c.d, .dat d, .dat e] ∧
  ∀ m : Mach, m.a = x → m.D = MD.new c ns ss → k (.dat .none) [.res (m.R K), .dat c.d, .dat d, .dat e]
def F_struck (K : Frag) : FSpec := fun args k => ∃ (c : Code) (ns : List Int) (d : PyData) (ss : List Strike) (e : PyData) (n : Nat), c.Ok ∧ (ns.length ≤ 400 ∧ ∀ n ∈ ns, insOkR n) ∧ seqOf d (iL ns) ∧ strikesOk c ss ∧ seqOf e (ss.map Strike.d) ∧ n ≤ 1000000 ∧ args = [.dat c.d, .dat d, .dat e, .dat (.int n)] ∧
  ∀ m : Mach, m.D = (MD.new c ns ss).go n → k (.res (m.R K)) args
theorem n_most_agreed {K : Frag} : ∀ args k, F_most_agreed K args k → args.length = 2 := by
  rintro args k (⟨_, _, _, h, _⟩ | ⟨_, _, _, _, _, _, _, _, _, h, _⟩) <;> rw [h] <;> rfl
def dv_HueState (K : Frag) : List V := []
def dv_Machine (K : Frag) : List V := [.ref (He.dflAt ("Machine", some "__init__") 0 K)]
end Hw
namespace Hw
open PySem PySem.Spec PyProof.Rows L2 Dl
def top (i : Nat) : Stmt := PySem.Challenge.pw_hueward_k12_votes_of_slots.main.body.getD i (.Pass ⟨0, 0, 0, 0⟩)
abbrev s__wall : Stmt := top 0
theorem sc__wall : FnScope ["k"] ["k"] (defScope s__wall) := ⟨rfl, rfl, rfl, by decide +kernel, rfl, by decide +kernel, by decide +kernel⟩
abbrev s_is_whole : Stmt := top 18
theorem sc_is_whole : FnScope ["value"] ["value"] (defScope s_is_whole) := ⟨rfl, rfl, rfl, by decide +kernel, rfl, by decide +kernel, by decide +kernel⟩
abbrev s_is_from : Stmt := top 19
theorem sc_is_from : FnScope ["value", "low", "high"] ["value", "low", "high"] (defScope s_is_from) := ⟨rfl, rfl, rfl, by decide +kernel, rfl, by decide +kernel, by decide +kernel⟩
abbrev s_are_inputs : Stmt := top 20
theorem sc_are_inputs : FnScope ["value", "one"] ["value"] (defScope s_are_inputs) := ⟨rfl, rfl, rfl, by decide +kernel, rfl, by decide +kernel, by decide +kernel⟩
abbrev s_is_votes : Stmt := top 29
theorem sc_is_votes : FnScope ["value", "width", "need"] ["value"] (defScope s_is_votes) := ⟨rfl, rfl, rfl, by decide +kernel, rfl, by decide +kernel, by decide +kernel⟩
abbrev s_are_registers : Stmt := top 30
theorem sc_are_registers : FnScope ["values", "one"] ["values"] (defScope s_are_registers) := ⟨rfl, rfl, rfl, by decide +kernel, rfl, by decide +kernel, by decide +kernel⟩
abbrev s_instruction_fits : Stmt := top 31
theorem sc_instruction_fits : FnScope ["value", "hue", "size", "many", "word"] ["value", "hue", "size", "many"] (defScope s_instruction_fits) := ⟨rfl, rfl, rfl, by decide +kernel, rfl, by decide +kernel, by decide +kernel⟩
abbrev s_settle_fits : Stmt := top 32
theorem sc_settle_fits : FnScope ["value", "hues", "many", "word", "most"] ["value", "hues", "many"] (defScope s_settle_fits) := ⟨rfl, rfl, rfl, by decide +kernel, rfl, by decide +kernel, by decide +kernel⟩
abbrev s_is_settle : Stmt := top 33
theorem sc_is_settle : FnScope ["cell"] ["cell"] (defScope s_is_settle) := ⟨rfl, rfl, rfl, by decide +kernel, rfl, by decide +kernel, by decide +kernel⟩
abbrev s_cell_fits : Stmt := top 34
theorem sc_cell_fits : FnScope ["value", "hues", "size", "many", "bank"] ["value", "hues", "size", "many", "bank"] (defScope s_cell_fits) := ⟨rfl, rfl, rfl, by decide +kernel, rfl, by decide +kernel, by decide +kernel⟩
abbrev s_is_code : Stmt := top 35
theorem sc_is_code : FnScope ["value", "many", "votes", "size", "cells", "bank", "one", "cell"] ["value"] (defScope s_is_code) := ⟨rfl, rfl, rfl, by decide +kernel, rfl, by decide +kernel, by decide +kernel⟩
abbrev s_need_code : Stmt := top 36
theorem sc_need_code : FnScope ["code"] ["code"] (defScope s_need_code) := ⟨rfl, rfl, rfl, by decide +kernel, rfl, by decide +kernel, by decide +kernel⟩
abbrev s_need_hue : Stmt := top 37
theorem sc_need_hue : FnScope ["code", "hue"] ["code", "hue"] (defScope s_need_hue) := ⟨rfl, rfl, rfl, by decide +kernel, rfl, by decide +kernel, by decide +kernel⟩
abbrev s_place_fits : Stmt := top 38
theorem sc_place_fits : FnScope ["code", "hue", "place", "cell"] ["code", "hue", "place"] (defScope s_place_fits) := ⟨rfl, rfl, rfl, by decide +kernel, rfl, by decide +kernel, by decide +kernel⟩
abbrev s_new_fits : Stmt := top 39
theorem sc_new_fits : FnScope ["code", "hue", "place", "new"] ["code", "hue", "place", "new"] (defScope s_new_fits) := ⟨rfl, rfl, rfl, by decide +kernel, rfl, by decide +kernel, by decide +kernel⟩
abbrev s_strike_fits : Stmt := top 40
theorem sc_strike_fits : FnScope ["code", "value"] ["code", "value"] (defScope s_strike_fits) := ⟨rfl, rfl, rfl, by decide +kernel, rfl, by decide +kernel, by decide +kernel⟩
abbrev s_first_misfit : Stmt := top 41
theorem sc_first_misfit : FnScope ["code", "strikes", "last", "at", "value"] ["code", "strikes"] (defScope s_first_misfit) := ⟨rfl, rfl, rfl, by decide +kernel, rfl, by decide +kernel, by decide +kernel⟩
abbrev s_is_strike_list : Stmt := top 42
theorem sc_is_strike_list : FnScope ["value"] ["value"] (defScope s_is_strike_list) := ⟨rfl, rfl, rfl, by decide +kernel, rfl, by decide +kernel, by decide +kernel⟩
abbrev s_need_strikes : Stmt := top 43
theorem sc_need_strikes : FnScope ["code", "strikes", "at"] ["code", "strikes"] (defScope s_need_strikes) := ⟨rfl, rfl, rfl, by decide +kernel, rfl, by decide +kernel, by decide +kernel⟩
abbrev s_need_inputs : Stmt := top 46
theorem sc_need_inputs : FnScope ["inputs"] ["inputs"] (defScope s_need_inputs) := ⟨rfl, rfl, rfl, by decide +kernel, rfl, by decide +kernel, by decide +kernel⟩
abbrev s_need_steps : Stmt := top 47
theorem sc_need_steps : FnScope ["steps"] ["steps"] (defScope s_need_steps) := ⟨rfl, rfl, rfl, by decide +kernel, rfl, by decide +kernel, by decide +kernel⟩
abbrev s_most_agreed : Stmt := top 49
theorem sc_most_agreed : FnScope ["values", "need", "first", "value"] ["values", "need"] (defScope s_most_agreed) := ⟨rfl, rfl, rfl, by decide +kernel, rfl, by decide +kernel, by decide +kernel⟩
abbrev s_worked_out : Stmt := top 50
theorem sc_worked_out : FnScope ["word", "one", "other", "size"] ["word", "one", "other", "size"] (defScope s_worked_out) := ⟨rfl, rfl, rfl, by decide +kernel, rfl, by decide +kernel, by decide +kernel⟩
abbrev s_HueState___init__ : Stmt := inClass (top 51) 0
theorem sc_HueState___init__ : FnScope ["self", "bank"] ["self", "bank"] (defScope s_HueState___init__) := ⟨rfl, rfl, rfl, by decide +kernel, rfl, by decide +kernel, by decide +kernel⟩
abbrev s_HueState_instructed : Stmt := inClass (top 51) 2
theorem sc_HueState_instructed : FnScope ["self", "cell", "size", "registers", "word", "goal", "bank"] ["self", "cell", "size"] (defScope s_HueState_instructed) := ⟨rfl, rfl, rfl, by decide +kernel, rfl, by decide +kernel, by decide +kernel⟩
abbrev s_HueState_struck_at : Stmt := inClass (top 51) 3
theorem sc_HueState_struck_at : FnScope ["self", "place", "new", "registers", "bank", "changed"] ["self", "place", "new"] (defScope s_HueState_struck_at) := ⟨rfl, rfl, rfl, by decide +kernel, rfl, by decide +kernel, by decide +kernel⟩
abbrev s_Machine___init__ : Stmt := inClass (top 52) 0
theorem sc_Machine___init__ : FnScope ["self", "code", "inputs", "strikes", "need"] ["self", "code", "inputs", "strikes"] (defScope s_Machine___init__) := ⟨rfl, rfl, rfl, by decide +kernel, rfl, by decide +kernel, by decide +kernel⟩
abbrev s_Machine_row : Stmt := inClass (top 52) 1
theorem sc_Machine_row : FnScope ["self"] ["self"] (defScope s_Machine_row) := ⟨rfl, rfl, rfl, by decide +kernel, rfl, by decide +kernel, by decide +kernel⟩
abbrev s_Machine_steps : Stmt := inClass (top 52) 2
theorem sc_Machine_steps : FnScope ["self"] ["self"] (defScope s_Machine_steps) := ⟨rfl, rfl, rfl, by decide +kernel, rfl, by decide +kernel, by decide +kernel⟩
abbrev s_Machine_state : Stmt := inClass (top 52) 3
theorem sc_Machine_state : FnScope ["self"] ["self"] (defScope s_Machine_state) := ⟨rfl, rfl, rfl, by decide +kernel, rfl, by decide +kernel, by decide +kernel⟩
abbrev s_Machine_left : Stmt := inClass (top 52) 4
theorem sc_Machine_left : FnScope ["self"] ["self"] (defScope s_Machine_left) := ⟨rfl, rfl, rfl, by decide +kernel, rfl, by decide +kernel, by decide +kernel⟩
abbrev s_Machine_pointers : Stmt := inClass (top 52) 5
theorem sc_Machine_pointers : FnScope ["self", "hue"] ["self"] (defScope s_Machine_pointers) := ⟨rfl, rfl, rfl, by decide +kernel, rfl, by decide +kernel, by decide +kernel⟩
abbrev s_Machine_slots : Stmt := inClass (top 52) 6
theorem sc_Machine_slots : FnScope ["self", "hue"] ["self"] (defScope s_Machine_slots) := ⟨rfl, rfl, rfl, by decide +kernel, rfl, by decide +kernel, by decide +kernel⟩
abbrev s_Machine_registers : Stmt := inClass (top 52) 7
theorem sc_Machine_registers : FnScope ["self", "hue"] ["self", "hue"] (defScope s_Machine_registers) := ⟨rfl, rfl, rfl, by decide +kernel, rfl, by decide +kernel, by decide +kernel⟩
abbrev s_Machine_cells : Stmt := inClass (top 52) 8
theorem sc_Machine_cells : FnScope ["self", "hue"] ["self", "hue"] (defScope s_Machine_cells) := ⟨rfl, rfl, rfl, by decide +kernel, rfl, by decide +kernel, by decide +kernel⟩
abbrev s_Machine_own : Stmt := inClass (top 52) 9
theorem sc_Machine_own : FnScope ["self", "hue", "address"] ["self", "hue", "address"] (defScope s_Machine_own) := ⟨rfl, rfl, rfl, by decide +kernel, rfl, by decide +kernel, by decide +kernel⟩
abbrev s_Machine_go : Stmt := inClass (top 52) 10
theorem sc_Machine_go : FnScope ["self", "steps", "left"] ["self", "steps"] (defScope s_Machine_go) := ⟨rfl, rfl, rfl, by decide +kernel, rfl, by decide +kernel, by decide +kernel⟩
abbrev s_Machine_strike : Stmt := inClass (top 52) 11
theorem sc_Machine_strike : FnScope ["self", "hue", "place", "new"] ["self", "hue", "place", "new"] (defScope s_Machine_strike) := ⟨rfl, rfl, rfl, by decide +kernel, rfl, by decide +kernel, by decide +kernel⟩
abbrev s_machine_address : Stmt := top 53
theorem sc_machine_address : FnScope ["machine", "found", "votes", "cells", "hue"] ["machine"] (defScope s_machine_address) := ⟨rfl, rfl, rfl, by decide +kernel, rfl, by decide +kernel, by decide +kernel⟩
abbrev s_next_address : Stmt := top 54
theorem sc_next_address : FnScope ["machine"] ["machine"] (defScope s_next_address) := ⟨rfl, rfl, rfl, by decide +kernel, rfl, by decide +kernel, by decide +kernel⟩
abbrev s_strikes_due : Stmt := top 55
theorem sc_strikes_due : FnScope ["machine", "strikes", "step", "hue", "place", "new"] ["machine"] (defScope s_strikes_due) := ⟨rfl, rfl, rfl, by decide +kernel, rfl, by decide +kernel, by decide +kernel⟩
abbrev s_machine_step : Stmt := top 56
theorem sc_machine_step : FnScope ["machine", "cell", "hue", "code", "address"] ["machine"] (defScope s_machine_step) := ⟨rfl, rfl, rfl, by decide +kernel, rfl, by decide +kernel, by decide +kernel⟩
abbrev s_point_all : Stmt := top 57
theorem sc_point_all : FnScope ["machine", "address", "hue"] ["machine", "address"] (defScope s_point_all) := ⟨rfl, rfl, rfl, by decide +kernel, rfl, by decide +kernel, by decide +kernel⟩
abbrev s_empty_slots : Stmt := top 58
theorem sc_empty_slots : FnScope ["machine", "hue"] ["machine"] (defScope s_empty_slots) := ⟨rfl, rfl, rfl, by decide +kernel, rfl, by decide +kernel, by decide +kernel⟩
abbrev s_settle_done : Stmt := top 59
theorem sc_settle_done : FnScope ["machine", "cell", "behind", "word", "row", "votes", "slots", "agreed", "number", "hue", "registers"] ["machine", "cell", "behind"] (defScope s_settle_done) := ⟨rfl, rfl, rfl, by decide +kernel, rfl, by decide +kernel, by decide +kernel⟩
abbrev s_mark_done : Stmt := top 60
theorem sc_mark_done : FnScope ["machine", "behind", "votes", "states", "agreed", "hue", "registers", "bank"] ["machine", "behind"] (defScope s_mark_done) := ⟨rfl, rfl, rfl, by decide +kernel, rfl, by decide +kernel, by decide +kernel⟩
abbrev s_struck : Stmt := top 61
theorem sc_struck : FnScope ["code", "inputs", "strikes", "steps", "machine"] ["code", "inputs", "strikes", "steps"] (defScope s_struck) := ⟨rfl, rfl, rfl, by decide +kernel, rfl, by decide +kernel, by decide +kernel⟩
abbrev s__law_begun : Stmt := top 63
theorem sc__law_begun : FnScope ["_law_script", "_law_great", "_law_cell"] ["_law_script"] (defScope s__law_begun) := ⟨rfl, rfl, rfl, by decide +kernel, rfl, by decide +kernel, by decide +kernel⟩
abbrev s__law_mixed : Stmt := top 64
theorem sc__law_mixed : FnScope ["_law_state", "_law_prime", "_law_turn", "_law_found", "_law_blend", "_law_cell"] ["_law_state"] (defScope s__law_mixed) := ⟨rfl, rfl, rfl, by decide +kernel, rfl, by decide +kernel, by decide +kernel⟩
abbrev s__law_draw : Stmt := top 65
theorem sc__law_draw : FnScope ["_law_state", "_law_room", "_law_found"] ["_law_state", "_law_room"] (defScope s__law_draw) := ⟨rfl, rfl, rfl, by decide +kernel, rfl, by decide +kernel, by decide +kernel⟩
abbrev s__law_pick : Stmt := top 66
theorem sc__law_pick : FnScope ["_law_state", "_law_some"] ["_law_state", "_law_some"] (defScope s__law_pick) := ⟨rfl, rfl, rfl, by decide +kernel, rfl, by decide +kernel, by decide +kernel⟩
abbrev s__law_number : Stmt := top 67
theorem sc__law_number : FnScope ["_law_state", "_law_size_here"] ["_law_state", "_law_size_here"] (defScope s__law_number) := ⟨rfl, rfl, rfl, by decide +kernel, rfl, by decide +kernel, by decide +kernel⟩
abbrev s__law_size : Stmt := top 68
theorem sc__law_size : FnScope ["_law_state"] ["_law_state"] (defScope s__law_size) := ⟨rfl, rfl, rfl, by decide +kernel, rfl, by decide +kernel, by decide +kernel⟩
abbrev s__law_votes : Stmt := top 69
theorem sc__law_votes : FnScope ["_law_state", "_law_width", "_law_hues", "_law_found", "_law_least"] ["_law_state"] (defScope s__law_votes) := ⟨rfl, rfl, rfl, by decide +kernel, rfl, by decide +kernel, by decide +kernel⟩
abbrev s__law_mk_agreed : Stmt := top 70
theorem sc__law_mk_agreed : FnScope ["_law_values", "_law_need", "_law_found", "_law_value", "_law_other"] ["_law_values", "_law_need"] (defScope s__law_mk_agreed) := ⟨rfl, rfl, rfl, by decide +kernel, rfl, by decide +kernel, by decide +kernel⟩
abbrev s__law_mk_slots_right : Stmt := top 71
theorem sc__law_mk_slots_right : FnScope ["_law_state", "_law_votes_here", "_law_size_here", "_law_some", "_law_slots", "_law_code", "_law_strikes", "_law_machine", "_law_agreed", "_law_goal", "_law_width", "_law_word", "_law_kept", "_law_hue", "_law_number_here"] ["_law_state", "_law_votes_here", "_law_size_here"] (defScope s__law_mk_slots_right) := ⟨rfl, rfl, rfl, by decide +kernel, rfl, by decide +kernel, by decide +kernel⟩
abbrev s__law_mk_mark_right : Stmt := top 72
theorem sc__law_mk_mark_right : FnScope ["_law_state", "_law_votes_here", "_law_size_here", "_law_hues", "_law_cells", "_law_code", "_law_hue", "_law_machine", "_law_agreed", "_law_strikes", "_law_states", "_law_registers", "_law_due", "_law_fresh", "_law_number_here", "_law_other"] ["_law_state", "_law_votes_here", "_law_size_here"] (defScope s__law_mk_mark_right) := ⟨rfl, rfl, rfl, by decide +kernel, rfl, by decide +kernel, by decide +kernel⟩
abbrev s_law : Stmt := top 73
theorem sc_law : FnScope ["_law_script", "_law_state", "_law_turn", "_law_votes_here", "_law_size_here"] ["_law_script"] (defScope s_law) := ⟨rfl, rfl, rfl, by decide +kernel, rfl, by decide +kernel, by decide +kernel⟩
structure TX (K : Frag) (mg : Str → Option Value) : Prop where
  g__wall : mg "_wall" = some (.ref (He.ga K "_wall"))
  f__wall : ∃ fd, FunD K "_wall" "_wall" (defArgs s__wall) (defBody s__wall) (defScope s__wall) [] [] (He.fAd K ("_wall", none)) fd
  g_is_whole : mg "is_whole" = some (.ref (He.ga K "is_whole"))
  f_is_whole : ∃ fd, FunD K "is_whole" "is_whole" (defArgs s_is_whole) (defBody s_is_whole) (defScope s_is_whole) [] [] (He.fAd K ("is_whole", none)) fd
  g_is_from : mg "is_from" = some (.ref (He.ga K "is_from"))
  f_is_from : ∃ fd, FunD K "is_from" "is_from" (defArgs s_is_from) (defBody s_is_from) (defScope s_is_from) [] [] (He.fAd K ("is_from", none)) fd
  g_are_inputs : mg "are_inputs" = some (.ref (He.ga K "are_inputs"))
  f_are_inputs : ∃ fd, FunD K "are_inputs" "are_inputs" (defArgs s_are_inputs) (defBody s_are_inputs) (defScope s_are_inputs) [] [] (He.fAd K ("are_inputs", none)) fd
  g_is_votes : mg "is_votes" = some (.ref (He.ga K "is_votes"))
  f_is_votes : ∃ fd, FunD K "is_votes" "is_votes" (defArgs s_is_votes) (defBody s_is_votes) (defScope s_is_votes) [] [] (He.fAd K ("is_votes", none)) fd
  g_are_registers : mg "are_registers" = some (.ref (He.ga K "are_registers"))
  f_are_registers : ∃ fd, FunD K "are_registers" "are_registers" (defArgs s_are_registers) (defBody s_are_registers) (defScope s_are_registers) [] [] (He.fAd K ("are_registers", none)) fd
  g_instruction_fits : mg "instruction_fits" = some (.ref (He.ga K "instruction_fits"))
  f_instruction_fits : ∃ fd, FunD K "instruction_fits" "instruction_fits" (defArgs s_instruction_fits) (defBody s_instruction_fits) (defScope s_instruction_fits) [] [] (He.fAd K ("instruction_fits", none)) fd
  g_settle_fits : mg "settle_fits" = some (.ref (He.ga K "settle_fits"))
  f_settle_fits : ∃ fd, FunD K "settle_fits" "settle_fits" (defArgs s_settle_fits) (defBody s_settle_fits) (defScope s_settle_fits) [] [] (He.fAd K ("settle_fits", none)) fd
  g_is_settle : mg "is_settle" = some (.ref (He.ga K "is_settle"))
  f_is_settle : ∃ fd, FunD K "is_settle" "is_settle" (defArgs s_is_settle) (defBody s_is_settle) (defScope s_is_settle) [] [] (He.fAd K ("is_settle", none)) fd
  g_cell_fits : mg "cell_fits" = some (.ref (He.ga K "cell_fits"))
  f_cell_fits : ∃ fd, FunD K "cell_fits" "cell_fits" (defArgs s_cell_fits) (defBody s_cell_fits) (defScope s_cell_fits) [] [] (He.fAd K ("cell_fits", none)) fd
  g_is_code : mg "is_code" = some (.ref (He.ga K "is_code"))
  f_is_code : ∃ fd, FunD K "is_code" "is_code" (defArgs s_is_code) (defBody s_is_code) (defScope s_is_code) [] [] (He.fAd K ("is_code", none)) fd
  g_need_code : mg "need_code" = some (.ref (He.ga K "need_code"))
  f_need_code : ∃ fd, FunD K "need_code" "need_code" (defArgs s_need_code) (defBody s_need_code) (defScope s_need_code) [] [] (He.fAd K ("need_code", none)) fd
  g_need_hue : mg "need_hue" = some (.ref (He.ga K "need_hue"))
  f_need_hue : ∃ fd, FunD K "need_hue" "need_hue" (defArgs s_need_hue) (defBody s_need_hue) (defScope s_need_hue) [] [] (He.fAd K ("need_hue", none)) fd
  g_place_fits : mg "place_fits" = some (.ref (He.ga K "place_fits"))
  f_place_fits : ∃ fd, FunD K "place_fits" "place_fits" (defArgs s_place_fits) (defBody s_place_fits) (defScope s_place_fits) [] [] (He.fAd K ("place_fits", none)) fd
  g_new_fits : mg "new_fits" = some (.ref (He.ga K "new_fits"))
  f_new_fits : ∃ fd, FunD K "new_fits" "new_fits" (defArgs s_new_fits) (defBody s_new_fits) (defScope s_new_fits) [] [] (He.fAd K ("new_fits", none)) fd
  g_strike_fits : mg "strike_fits" = some (.ref (He.ga K "strike_fits"))
  f_strike_fits : ∃ fd, FunD K "strike_fits" "strike_fits" (defArgs s_strike_fits) (defBody s_strike_fits) (defScope s_strike_fits) [] [] (He.fAd K ("strike_fits", none)) fd
  g_first_misfit : mg "first_misfit" = some (.ref (He.ga K "first_misfit"))
  f_first_misfit : ∃ fd, FunD K "first_misfit" "first_misfit" (defArgs s_first_misfit) (defBody s_first_misfit) (defScope s_first_misfit) [] [] (He.fAd K ("first_misfit", none)) fd
  g_is_strike_list : mg "is_strike_list" = some (.ref (He.ga K "is_strike_list"))
  f_is_strike_list : ∃ fd, FunD K "is_strike_list" "is_strike_list" (defArgs s_is_strike_list) (defBody s_is_strike_list) (defScope s_is_strike_list) [] [] (He.fAd K ("is_strike_list", none)) fd
  g_need_strikes : mg "need_strikes" = some (.ref (He.ga K "need_strikes"))
  f_need_strikes : ∃ fd, FunD K "need_strikes" "need_strikes" (defArgs s_need_strikes) (defBody s_need_strikes) (defScope s_need_strikes) [] [] (He.fAd K ("need_strikes", none)) fd
  g_need_inputs : mg "need_inputs" = some (.ref (He.ga K "need_inputs"))
  f_need_inputs : ∃ fd, FunD K "need_inputs" "need_inputs" (defArgs s_need_inputs) (defBody s_need_inputs) (defScope s_need_inputs) [] [] (He.fAd K ("need_inputs", none)) fd
  g_need_steps : mg "need_steps" = some (.ref (He.ga K "need_steps"))
  f_need_steps : ∃ fd, FunD K "need_steps" "need_steps" (defArgs s_need_steps) (defBody s_need_steps) (defScope s_need_steps) [] [] (He.fAd K ("need_steps", none)) fd
  g_most_agreed : mg "most_agreed" = some (.ref (He.ga K "most_agreed"))
  f_most_agreed : ∃ fd, FunD K "most_agreed" "most_agreed" (defArgs s_most_agreed) (defBody s_most_agreed) (defScope s_most_agreed) [] [] (He.fAd K ("most_agreed", none)) fd
  g_worked_out : mg "worked_out" = some (.ref (He.ga K "worked_out"))
  f_worked_out : ∃ fd, FunD K "worked_out" "worked_out" (defArgs s_worked_out) (defBody s_worked_out) (defScope s_worked_out) [] [] (He.fAd K ("worked_out", none)) fd
  f_HueState___init__ : ∃ fd, FunD K "__init__" "HueState.__init__" (defArgs s_HueState___init__) (defBody s_HueState___init__) (defScope s_HueState___init__) (dv_HueState K) [] (He.fAd K ("HueState", some "__init__")) fd
  m_HueState___init__ : Mk K (He.ga K "HueState") (He.ma K (He.ga K "HueState") "__init__")
  f_HueState_instructed : ∃ fd, FunD K "instructed" "HueState.instructed" (defArgs s_HueState_instructed) (defBody s_HueState_instructed) (defScope s_HueState_instructed) [] [] (He.fAd K ("HueState", some "instructed")) fd
  m_HueState_instructed : Meth K (He.ga K "HueState") "instructed" (He.ma K (He.ga K "HueState") "instructed")
  f_HueState_struck_at : ∃ fd, FunD K "struck_at" "HueState.struck_at" (defArgs s_HueState_struck_at) (defBody s_HueState_struck_at) (defScope s_HueState_struck_at) [] [] (He.fAd K ("HueState", some "struck_at")) fd
  m_HueState_struck_at : Meth K (He.ga K "HueState") "struck_at" (He.ma K (He.ga K "HueState") "struck_at")
  f_Machine___init__ : ∃ fd, FunD K "__init__" "Machine.__init__" (defArgs s_Machine___init__) (defBody s_Machine___init__) (defScope s_Machine___init__) (dv_Machine K) [] (He.fAd K ("Machine", some "__init__")) fd
  m_Machine___init__ : Mk K (He.ga K "Machine") (He.ma K (He.ga K "Machine") "__init__")
  f_Machine_row : ∃ fd, FunD K "row" "Machine.row" (defArgs s_Machine_row) (defBody s_Machine_row) (defScope s_Machine_row) [] [] (pgA K "Machine" "row") fd
  m_Machine_row : PropOf K (He.ga K "Machine") "row" (He.ma K (He.ga K "Machine") "row") (pgA K "Machine" "row")
  f_Machine_steps : ∃ fd, FunD K "steps" "Machine.steps" (defArgs s_Machine_steps) (defBody s_Machine_steps) (defScope s_Machine_steps) [] [] (pgA K "Machine" "steps") fd
  m_Machine_steps : PropOf K (He.ga K "Machine") "steps" (He.ma K (He.ga K "Machine") "steps") (pgA K "Machine" "steps")
  f_Machine_state : ∃ fd, FunD K "state" "Machine.state" (defArgs s_Machine_state) (defBody s_Machine_state) (defScope s_Machine_state) [] [] (pgA K "Machine" "state") fd
  m_Machine_state : PropOf K (He.ga K "Machine") "state" (He.ma K (He.ga K "Machine") "state") (pgA K "Machine" "state")
  f_Machine_left : ∃ fd, FunD K "left" "Machine.left" (defArgs s_Machine_left) (defBody s_Machine_left) (defScope s_Machine_left) [] [] (pgA K "Machine" "left") fd
  m_Machine_left : PropOf K (He.ga K "Machine") "left" (He.ma K (He.ga K "Machine") "left") (pgA K "Machine" "left")
  f_Machine_pointers : ∃ fd, FunD K "pointers" "Machine.pointers" (defArgs s_Machine_pointers) (defBody s_Machine_pointers) (defScope s_Machine_pointers) [] [] (pgA K "Machine" "pointers") fd
  m_Machine_pointers : PropOf K (He.ga K "Machine") "pointers" (He.ma K (He.ga K "Machine") "pointers") (pgA K "Machine" "pointers")
  f_Machine_slots : ∃ fd, FunD K "slots" "Machine.slots" (defArgs s_Machine_slots) (defBody s_Machine_slots) (defScope s_Machine_slots) [] [] (pgA K "Machine" "slots") fd
  m_Machine_slots : PropOf K (He.ga K "Machine") "slots" (He.ma K (He.ga K "Machine") "slots") (pgA K "Machine" "slots")
  f_Machine_registers : ∃ fd, FunD K "registers" "Machine.registers" (defArgs s_Machine_registers) (defBody s_Machine_registers) (defScope s_Machine_registers) [] [] (He.fAd K ("Machine", some "registers")) fd
  m_Machine_registers : Meth K (He.ga K "Machine") "registers" (He.ma K (He.ga K "Machine") "registers")
  f_Machine_cells : ∃ fd, FunD K "cells" "Machine.cells" (defArgs s_Machine_cells) (defBody s_Machine_cells) (defScope s_Machine_cells) [] [] (He.fAd K ("Machine", some "cells")) fd
  m_Machine_cells : Meth K (He.ga K "Machine") "cells" (He.ma K (He.ga K "Machine") "cells")
  f_Machine_own : ∃ fd, FunD K "own" "Machine.own" (defArgs s_Machine_own) (defBody s_Machine_own) (defScope s_Machine_own) [] [] (He.fAd K ("Machine", some "own")) fd
  m_Machine_own : Meth K (He.ga K "Machine") "own" (He.ma K (He.ga K "Machine") "own")
  f_Machine_go : ∃ fd, FunD K "go" "Machine.go" (defArgs s_Machine_go) (defBody s_Machine_go) (defScope s_Machine_go) [] [] (He.fAd K ("Machine", some "go")) fd
  m_Machine_go : Meth K (He.ga K "Machine") "go" (He.ma K (He.ga K "Machine") "go")
  f_Machine_strike : ∃ fd, FunD K "strike" "Machine.strike" (defArgs s_Machine_strike) (defBody s_Machine_strike) (defScope s_Machine_strike) [] [] (He.fAd K ("Machine", some "strike")) fd
  m_Machine_strike : Meth K (He.ga K "Machine") "strike" (He.ma K (He.ga K "Machine") "strike")
  g_machine_address : mg "machine_address" = some (.ref (He.ga K "machine_address"))
  f_machine_address : ∃ fd, FunD K "machine_address" "machine_address" (defArgs s_machine_address) (defBody s_machine_address) (defScope s_machine_address) [] [] (He.fAd K ("machine_address", none)) fd
  g_next_address : mg "next_address" = some (.ref (He.ga K "next_address"))
  f_next_address : ∃ fd, FunD K "next_address" "next_address" (defArgs s_next_address) (defBody s_next_address) (defScope s_next_address) [] [] (He.fAd K ("next_address", none)) fd
  g_strikes_due : mg "strikes_due" = some (.ref (He.ga K "strikes_due"))
  f_strikes_due : ∃ fd, FunD K "strikes_due" "strikes_due" (defArgs s_strikes_due) (defBody s_strikes_due) (defScope s_strikes_due) [] [] (He.fAd K ("strikes_due", none)) fd
  g_machine_step : mg "machine_step" = some (.ref (He.ga K "machine_step"))
  f_machine_step : ∃ fd, FunD K "machine_step" "machine_step" (defArgs s_machine_step) (defBody s_machine_step) (defScope s_machine_step) [] [] (He.fAd K ("machine_step", none)) fd
  g_point_all : mg "point_all" = some (.ref (He.ga K "point_all"))
  f_point_all : ∃ fd, FunD K "point_all" "point_all" (defArgs s_point_all) (defBody s_point_all) (defScope s_point_all) [] [] (He.fAd K ("point_all", none)) fd
  g_empty_slots : mg "empty_slots" = some (.ref (He.ga K "empty_slots"))
  f_empty_slots : ∃ fd, FunD K "empty_slots" "empty_slots" (defArgs s_empty_slots) (defBody s_empty_slots) (defScope s_empty_slots) [] [] (He.fAd K ("empty_slots", none)) fd
  g_settle_done : mg "settle_done" = some (.ref (He.ga K "settle_done"))
  f_settle_done : ∃ fd, FunD K "settle_done" "settle_done" (defArgs s_settle_done) (defBody s_settle_done) (defScope s_settle_done) [] [] (He.fAd K ("settle_done", none)) fd
  g_mark_done : mg "mark_done" = some (.ref (He.ga K "mark_done"))
  f_mark_done : ∃ fd, FunD K "mark_done" "mark_done" (defArgs s_mark_done) (defBody s_mark_done) (defScope s_mark_done) [] [] (He.fAd K ("mark_done", none)) fd
  g_struck : mg "struck" = some (.ref (He.ga K "struck"))
  f_struck : ∃ fd, FunD K "struck" "struck" (defArgs s_struck) (defBody s_struck) (defScope s_struck) [] [] (He.fAd K ("struck", none)) fd
  g__law_begun : mg "_law_begun" = some (.ref (He.ga K "_law_begun"))
  f__law_begun : ∃ fd, FunD K "_law_begun" "_law_begun" (defArgs s__law_begun) (defBody s__law_begun) (defScope s__law_begun) [] [] (He.fAd K ("_law_begun", none)) fd
  g__law_mixed : mg "_law_mixed" = some (.ref (He.ga K "_law_mixed"))
  f__law_mixed : ∃ fd, FunD K "_law_mixed" "_law_mixed" (defArgs s__law_mixed) (defBody s__law_mixed) (defScope s__law_mixed) [] [] (He.fAd K ("_law_mixed", none)) fd
  g__law_draw : mg "_law_draw" = some (.ref (He.ga K "_law_draw"))
  f__law_draw : ∃ fd, FunD K "_law_draw" "_law_draw" (defArgs s__law_draw) (defBody s__law_draw) (defScope s__law_draw) [] [] (He.fAd K ("_law_draw", none)) fd
  g__law_pick : mg "_law_pick" = some (.ref (He.ga K "_law_pick"))
  f__law_pick : ∃ fd, FunD K "_law_pick" "_law_pick" (defArgs s__law_pick) (defBody s__law_pick) (defScope s__law_pick) [] [] (He.fAd K ("_law_pick", none)) fd
  g__law_number : mg "_law_number" = some (.ref (He.ga K "_law_number"))
  f__law_number : ∃ fd, FunD K "_law_number" "_law_number" (defArgs s__law_number) (defBody s__law_number) (defScope s__law_number) [] [] (He.fAd K ("_law_number", none)) fd
  g__law_size : mg "_law_size" = some (.ref (He.ga K "_law_size"))
  f__law_size : ∃ fd, FunD K "_law_size" "_law_size" (defArgs s__law_size) (defBody s__law_size) (defScope s__law_size) [] [] (He.fAd K ("_law_size", none)) fd
  g__law_votes : mg "_law_votes" = some (.ref (He.ga K "_law_votes"))
  f__law_votes : ∃ fd, FunD K "_law_votes" "_law_votes" (defArgs s__law_votes) (defBody s__law_votes) (defScope s__law_votes) [] [] (He.fAd K ("_law_votes", none)) fd
  g__law_mk_agreed : mg "_law_mk_agreed" = some (.ref (He.ga K "_law_mk_agreed"))
  f__law_mk_agreed : ∃ fd, FunD K "_law_mk_agreed" "_law_mk_agreed" (defArgs s__law_mk_agreed) (defBody s__law_mk_agreed) (defScope s__law_mk_agreed) [] [] (He.fAd K ("_law_mk_agreed", none)) fd
  g__law_mk_slots_right : mg "_law_mk_slots_right" = some (.ref (He.ga K "_law_mk_slots_right"))
  f__law_mk_slots_right : ∃ fd, FunD K "_law_mk_slots_right" "_law_mk_slots_right" (defArgs s__law_mk_slots_right) (defBody s__law_mk_slots_right) (defScope s__law_mk_slots_right) [] [] (He.fAd K ("_law_mk_slots_right", none)) fd
  g__law_mk_mark_right : mg "_law_mk_mark_right" = some (.ref (He.ga K "_law_mk_mark_right"))
  f__law_mk_mark_right : ∃ fd, FunD K "_law_mk_mark_right" "_law_mk_mark_right" (defArgs s__law_mk_mark_right) (defBody s__law_mk_mark_right) (defScope s__law_mk_mark_right) [] [] (He.fAd K ("_law_mk_mark_right", none)) fd
  g_HueState : mg "HueState" = some (.ref (He.ga K "HueState"))
  k_HueState : Cls K (He.ga K "HueState")
  na_HueState_m_registers : NoAttr K (He.ga K "HueState") "m_registers"
  na_HueState_m_bank : NoAttr K (He.ga K "HueState") "m_bank"
  na_HueState_m_pointer : NoAttr K (He.ga K "HueState") "m_pointer"
  na_HueState_m_slot : NoAttr K (He.ga K "HueState") "m_slot"
  na_HueState_m_changed : NoAttr K (He.ga K "HueState") "m_changed"
  g_Machine : mg "Machine" = some (.ref (He.ga K "Machine"))
  k_Machine : Cls K (He.ga K "Machine")
  na_Machine_m_code : NoAttr K (He.ga K "Machine") "m_code"
  na_Machine_m_hues : NoAttr K (He.ga K "Machine") "m_hues"
  na_Machine_m_left : NoAttr K (He.ga K "Machine") "m_left"
  na_Machine_m_strikes : NoAttr K (He.ga K "Machine") "m_strikes"
  na_Machine_m_row : NoAttr K (He.ga K "Machine") "m_row"
  na_Machine_m_steps : NoAttr K (He.ga K "Machine") "m_steps"
  na_Machine_m_state : NoAttr K (He.ga K "Machine") "m_state"
  na_Machine_address : NoAttr K (He.ga K "Machine") "address"
  n_abs : mg "abs" = none
  n_bool : mg "bool" = none
  n_enumerate : mg "enumerate" = none
  n_int : mg "int" = none
  n_isinstance : mg "isinstance" = none
  n_len : mg "len" = none
  n_list : mg "list" = none
  n_range : mg "range" = none
  n_str : mg "str" = none
  n_tuple : mg "tuple" = none
  c_HueState : ∃ u, mg "HueState" = some u ∧ RelV (.ref (He.ga K "HueState")) u
  c_LEAST_SIZE : ∃ u, mg "LEAST_SIZE" = some u ∧ RelV (.int 2) u
  c_MANY_REGISTERS : ∃ u, mg "MANY_REGISTERS" = some u ∧ RelV (.int 8) u
  c_MOST_BANK : ∃ u, mg "MOST_BANK" = some u ∧ RelV (.int 600) u
  c_MOST_CELLS : ∃ u, mg "MOST_CELLS" = some u ∧ RelV (.int 4000) u
  c_MOST_HUES : ∃ u, mg "MOST_HUES" = some u ∧ RelV (.int 5) u
  c_MOST_INPUT : ∃ u, mg "MOST_INPUT" = some u ∧ RelV (.int 9999) u
  c_MOST_INPUTS : ∃ u, mg "MOST_INPUTS" = some u ∧ RelV (.int 400) u
  c_MOST_POINTER : ∃ u, mg "MOST_POINTER" = some u ∧ RelV (.int 9999) u
  c_MOST_PORT : ∃ u, mg "MOST_PORT" = some u ∧ RelV (.int 5) u
  c_MOST_SIZE : ∃ u, mg "MOST_SIZE" = some u ∧ RelV (.int 10000) u
  c_MOST_STEPS : ∃ u, mg "MOST_STEPS" = some u ∧ RelV (.int 1000000) u
  c_MOST_STRIKES : ∃ u, mg "MOST_STRIKES" = some u ∧ RelV (.int 400) u
  c_MOST_TRIES : ∃ u, mg "MOST_TRIES" = some u ∧ RelV (.int 1000000) u
  c_Machine : ∃ u, mg "Machine" = some u ∧ RelV (.ref (He.ga K "Machine")) u
  e_TWOS : ∀ S, Dd K S (.ref (He.ga K "TWOS")) (.tuple ([(PySem.Str.ofString "plus"), (PySem.Str.ofString "minus"), (PySem.Str.ofString "times"), (PySem.Str.ofString "rest"), (PySem.Str.ofString "less"), (PySem.Str.ofString "same")].map .str))
  c_TWOS : ∃ u, mg "TWOS" = some u ∧ RelV (.ref (He.ga K "TWOS")) u
  e_dflt : ∀ S, Dd K S (.ref (He.dflAt ("Machine", some "__init__") 0 K)) (.tuple [])
theorem TX.mt {K : Frag} {mg : Str → Option Value} (T : TX K mg) : MT K := ⟨T.k_HueState, T.na_HueState_m_registers, T.na_HueState_m_bank, T.na_HueState_m_pointer, T.na_HueState_m_slot, T.na_HueState_m_changed, T.k_Machine, T.na_Machine_m_code, T.na_Machine_m_hues, T.na_Machine_m_left, T.na_Machine_m_strikes, T.na_Machine_m_row, T.na_Machine_m_steps, T.na_Machine_m_state, T.na_Machine_address, T.e_dflt, T.e_TWOS⟩
end Hw
namespace Hw
open PySem PySem.Spec PyProof.Rows L2 Dl
def fa : List He.Fa := [.glo "_wall", .glo "is_whole", .glo "is_from", .glo "are_inputs", .glo "is_votes", .glo "are_registers", .glo "instruction_fits", .glo "settle_fits", .glo "is_settle", .glo "cell_fits", .glo "is_code", .glo "need_code", .glo "need_hue", .glo "place_fits", .glo "new_fits", .glo "strike_fits", .glo "first_misfit", .glo "is_strike_list", .glo "need_strikes", .glo "need_inputs", .glo "need_steps", .glo "most_agreed", .glo "worked_out", .mkr "HueState", .meth "HueState" "instructed", .meth "HueState" "struck_at", .mkr "Machine", .meth "Machine" "registers", .meth "Machine" "cells", .meth "Machine" "own", .meth "Machine" "go", .meth "Machine" "strike", .glo "machine_address", .glo "next_address", .glo "strikes_due", .glo "machine_step", .glo "point_all", .glo "empty_slots", .glo "settle_done", .glo "mark_done", .glo "struck", .glo "_law_begun", .glo "_law_mixed", .glo "_law_draw", .glo "_law_pick", .glo "_law_number", .glo "_law_size", .glo "_law_votes", .glo "_law_mk_agreed", .glo "_law_mk_slots_right", .glo "_law_mk_mark_right", .glo "HueState", .cls "HueState", .noat "HueState" "m_registers", .noat "HueState" "m_bank", .noat "HueState" "m_pointer", .noat "HueState" "m_slot", .noat "HueState" "m_changed", .glo "Machine", .cls "Machine", .noat "Machine" "m_code", .noat "Machine" "m_hues", .noat "Machine" "m_left", .noat "Machine" "m_strikes", .noat "Machine" "m_row", .noat "Machine" "m_steps", .noat "Machine" "m_state", .noat "Machine" "address", .free "abs", .free "bool", .free "enumerate", .free "int", .free "isinstance", .free "len", .free "list", .free "range", .free "str", .free "tuple", .int "LEAST_SIZE" 2, .int "MANY_REGISTERS" 8, .int "MOST_BANK" 600, .int "MOST_CELLS" 4000, .int "MOST_HUES" 5, .int "MOST_INPUT" 9999, .int "MOST_INPUTS" 400, .int "MOST_POINTER" 9999, .int "MOST_PORT" 5, .int "MOST_SIZE" 10000, .int "MOST_STEPS" 1000000, .int "MOST_STRIKES" 400, .int "MOST_TRIES" 1000000, .glo "TWOS", .glo "law"]
def dLaw : DefX := ⟨fun K => He.fAd K ("law", none), "law", "law", defArgs s_law, defBody s_law, defScope s_law, []⟩
def fn : List DefX := [⟨fun K => He.fAd K ("_wall", none), "_wall", "_wall", defArgs s__wall, defBody s__wall, defScope s__wall, []⟩,
  ⟨fun K => He.fAd K ("is_whole", none), "is_whole", "is_whole", defArgs s_is_whole, defBody s_is_whole, defScope s_is_whole, []⟩,
  ⟨fun K => He.fAd K ("is_from", none), "is_from", "is_from", defArgs s_is_from, defBody s_is_from, defScope s_is_from, []⟩,
  ⟨fun K => He.fAd K ("are_inputs", none), "are_inputs", "are_inputs", defArgs s_are_inputs, defBody s_are_inputs, defScope s_are_inputs, []⟩,
  ⟨fun K => He.fAd K ("is_votes", none), "is_votes", "is_votes", defArgs s_is_votes, defBody s_is_votes, defScope s_is_votes, []⟩,
  ⟨fun K => He.fAd K ("are_registers", none), "are_registers", "are_registers", defArgs s_are_registers, defBody s_are_registers, defScope s_are_registers, []⟩,
  ⟨fun K => He.fAd K ("instruction_fits", none), "instruction_fits", "instruction_fits", defArgs s_instruction_fits, defBody s_instruction_fits, defScope s_instruction_fits, []⟩,
  ⟨fun K => He.fAd K ("settle_fits", none), "settle_fits", "settle_fits", defArgs s_settle_fits, defBody s_settle_fits, defScope s_settle_fits, []⟩,
  ⟨fun K => He.fAd K ("is_settle", none), "is_settle", "is_settle", defArgs s_is_settle, defBody s_is_settle, defScope s_is_settle, []⟩,
  ⟨fun K => He.fAd K ("cell_fits", none), "cell_fits", "cell_fits", defArgs s_cell_fits, defBody s_cell_fits, defScope s_cell_fits, []⟩,
  ⟨fun K => He.fAd K ("is_code", none), "is_code", "is_code", defArgs s_is_code, defBody s_is_code, defScope s_is_code, []⟩,
  ⟨fun K => He.fAd K ("need_code", none), "need_code", "need_code", defArgs s_need_code, defBody s_need_code, defScope s_need_code, []⟩,
  ⟨fun K => He.fAd K ("need_hue", none), "need_hue", "need_hue", defArgs s_need_hue, defBody s_need_hue, defScope s_need_hue, []⟩,
  ⟨fun K => He.fAd K ("place_fits", none), "place_fits", "place_fits", defArgs s_place_fits, defBody s_place_fits, defScope s_place_fits, []⟩,
  ⟨fun K => He.fAd K ("new_fits", none), "new_fits", "new_fits", defArgs s_new_fits, defBody s_new_fits, defScope s_new_fits, []⟩,
  ⟨fun K => He.fAd K ("strike_fits", none), "strike_fits", "strike_fits", defArgs s_strike_fits, defBody s_strike_fits, defScope s_strike_fits, []⟩,
  ⟨fun K => He.fAd K ("first_misfit", none), "first_misfit", "first_misfit", defArgs s_first_misfit, defBody s_first_misfit, defScope s_first_misfit, []⟩,
  ⟨fun K => He.fAd K ("is_strike_list", none), "is_strike_list", "is_strike_list", defArgs s_is_strike_list, defBody s_is_strike_list, defScope s_is_strike_list, []⟩,
  ⟨fun K => He.fAd K ("need_strikes", none), "need_strikes", "need_strikes", defArgs s_need_strikes, defBody s_need_strikes, defScope s_need_strikes, []⟩,
  ⟨fun K => He.fAd K ("need_inputs", none), "need_inputs", "need_inputs", defArgs s_need_inputs, defBody s_need_inputs, defScope s_need_inputs, []⟩,
  ⟨fun K => He.fAd K ("need_steps", none), "need_steps", "need_steps", defArgs s_need_steps, defBody s_need_steps, defScope s_need_steps, []⟩,
  ⟨fun K => He.fAd K ("most_agreed", none), "most_agreed", "most_agreed", defArgs s_most_agreed, defBody s_most_agreed, defScope s_most_agreed, []⟩,
  ⟨fun K => He.fAd K ("worked_out", none), "worked_out", "worked_out", defArgs s_worked_out, defBody s_worked_out, defScope s_worked_out, []⟩,
  ⟨fun K => He.fAd K ("HueState", some "__init__"), "__init__", "HueState.__init__", defArgs s_HueState___init__, defBody s_HueState___init__, defScope s_HueState___init__, []⟩,
  ⟨fun K => He.fAd K ("HueState", some "instructed"), "instructed", "HueState.instructed", defArgs s_HueState_instructed, defBody s_HueState_instructed, defScope s_HueState_instructed, []⟩,
  ⟨fun K => He.fAd K ("HueState", some "struck_at"), "struck_at", "HueState.struck_at", defArgs s_HueState_struck_at, defBody s_HueState_struck_at, defScope s_HueState_struck_at, []⟩,
  ⟨fun K => He.fAd K ("Machine", some "__init__"), "__init__", "Machine.__init__", defArgs s_Machine___init__, defBody s_Machine___init__, defScope s_Machine___init__, [.adr (He.dflAt ("Machine", some "__init__") 0)]⟩,
  ⟨fun K => pgA K "Machine" "row", "row", "Machine.row", defArgs s_Machine_row, defBody s_Machine_row, defScope s_Machine_row, []⟩,
  ⟨fun K => pgA K "Machine" "steps", "steps", "Machine.steps", defArgs s_Machine_steps, defBody s_Machine_steps, defScope s_Machine_steps, []⟩,
  ⟨fun K => pgA K "Machine" "state", "state", "Machine.state", defArgs s_Machine_state, defBody s_Machine_state, defScope s_Machine_state, []⟩,
  ⟨fun K => pgA K "Machine" "left", "left", "Machine.left", defArgs s_Machine_left, defBody s_Machine_left, defScope s_Machine_left, []⟩,
  ⟨fun K => pgA K "Machine" "pointers", "pointers", "Machine.pointers", defArgs s_Machine_pointers, defBody s_Machine_pointers, defScope s_Machine_pointers, []⟩,
  ⟨fun K => pgA K "Machine" "slots", "slots", "Machine.slots", defArgs s_Machine_slots, defBody s_Machine_slots, defScope s_Machine_slots, []⟩,
  ⟨fun K => He.fAd K ("Machine", some "registers"), "registers", "Machine.registers", defArgs s_Machine_registers, defBody s_Machine_registers, defScope s_Machine_registers, []⟩,
  ⟨fun K => He.fAd K ("Machine", some "cells"), "cells", "Machine.cells", defArgs s_Machine_cells, defBody s_Machine_cells, defScope s_Machine_cells, []⟩,
  ⟨fun K => He.fAd K ("Machine", some "own"), "own", "Machine.own", defArgs s_Machine_own, defBody s_Machine_own, defScope s_Machine_own, []⟩,
  ⟨fun K => He.fAd K ("Machine", some "go"), "go", "Machine.go", defArgs s_Machine_go, defBody s_Machine_go, defScope s_Machine_go, []⟩,
  ⟨fun K => He.fAd K ("Machine", some "strike"), "strike", "Machine.strike", defArgs s_Machine_strike, defBody s_Machine_strike, defScope s_Machine_strike, []⟩,
  ⟨fun K => He.fAd K ("machine_address", none), "machine_address", "machine_address", defArgs s_machine_address, defBody s_machine_address, defScope s_machine_address, []⟩,
  ⟨fun K => He.fAd K ("next_address", none), "next_address", "next_address", defArgs s_next_address, defBody s_next_address, defScope s_next_address, []⟩,
  ⟨fun K => He.fAd K ("strikes_due", none), "strikes_due", "strikes_due", defArgs s_strikes_due, defBody s_strikes_due, defScope s_strikes_due, []⟩,
  ⟨fun K => He.fAd K ("machine_step", none), "machine_step", "machine_step", defArgs s_machine_step, defBody s_machine_step, defScope s_machine_step, []⟩,
  ⟨fun K => He.fAd K ("point_all", none), "point_all", "point_all", defArgs s_point_all, defBody s_point_all, defScope s_point_all, []⟩,
  ⟨fun K => He.fAd K ("empty_slots", none), "empty_slots", "empty_slots", defArgs s_empty_slots, defBody s_empty_slots, defScope s_empty_slots, []⟩,
  ⟨fun K => He.fAd K ("settle_done", none), "settle_done", "settle_done", defArgs s_settle_done, defBody s_settle_done, defScope s_settle_done, []⟩,
  ⟨fun K => He.fAd K ("mark_done", none), "mark_done", "mark_done", defArgs s_mark_done, defBody s_mark_done, defScope s_mark_done, []⟩,
  ⟨fun K => He.fAd K ("struck", none), "struck", "struck", defArgs s_struck, defBody s_struck, defScope s_struck, []⟩,
  ⟨fun K => He.fAd K ("_law_begun", none), "_law_begun", "_law_begun", defArgs s__law_begun, defBody s__law_begun, defScope s__law_begun, []⟩,
  ⟨fun K => He.fAd K ("_law_mixed", none), "_law_mixed", "_law_mixed", defArgs s__law_mixed, defBody s__law_mixed, defScope s__law_mixed, []⟩,
  ⟨fun K => He.fAd K ("_law_draw", none), "_law_draw", "_law_draw", defArgs s__law_draw, defBody s__law_draw, defScope s__law_draw, []⟩,
  ⟨fun K => He.fAd K ("_law_pick", none), "_law_pick", "_law_pick", defArgs s__law_pick, defBody s__law_pick, defScope s__law_pick, []⟩,
  ⟨fun K => He.fAd K ("_law_number", none), "_law_number", "_law_number", defArgs s__law_number, defBody s__law_number, defScope s__law_number, []⟩,
  ⟨fun K => He.fAd K ("_law_size", none), "_law_size", "_law_size", defArgs s__law_size, defBody s__law_size, defScope s__law_size, []⟩,
  ⟨fun K => He.fAd K ("_law_votes", none), "_law_votes", "_law_votes", defArgs s__law_votes, defBody s__law_votes, defScope s__law_votes, []⟩,
  ⟨fun K => He.fAd K ("_law_mk_agreed", none), "_law_mk_agreed", "_law_mk_agreed", defArgs s__law_mk_agreed, defBody s__law_mk_agreed, defScope s__law_mk_agreed, []⟩,
  ⟨fun K => He.fAd K ("_law_mk_slots_right", none), "_law_mk_slots_right", "_law_mk_slots_right", defArgs s__law_mk_slots_right, defBody s__law_mk_slots_right, defScope s__law_mk_slots_right, []⟩,
  ⟨fun K => He.fAd K ("_law_mk_mark_right", none), "_law_mk_mark_right", "_law_mk_mark_right", defArgs s__law_mk_mark_right, defBody s__law_mk_mark_right, defScope s__law_mk_mark_right, []⟩,
  dLaw]
def ex (K : Frag) : Bool := (prB K "Machine" "row") && (prB K "Machine" "steps") && (prB K "Machine" "state") && (prB K "Machine" "left") && (prB K "Machine" "pointers") && (prB K "Machine" "slots") && (He.tupB K "TWOS" ([(PySem.Str.ofString "plus"), (PySem.Str.ofString "minus"), (PySem.Str.ofString "times"), (PySem.Str.ofString "rest"), (PySem.Str.ofString "less"), (PySem.Str.ofString "same")].map .str)) && (tup0B K (He.dflAt ("Machine", some "__init__") 0 K))
section
variable {K : Frag} {h : Heap} {mg : Str → Option Value}
theorem tx (X : K.In h) (G : h.Ns mainGlobals mg) (c : SaysX fa fn ex K) : TX K mg := by
  have m := c.more
  simp only [ex, Bool.and_eq_true] at m
  obtain ⟨⟨⟨⟨⟨⟨⟨EX0, EX1⟩, EX2⟩, EX3⟩, EX4⟩, EX5⟩, EX6⟩, EX7⟩ := m
  exact ⟨He.glo_ok X G (c.fact 0 (f := .glo "_wall") rfl),
    c.def_ 0 (d := fn.getD 0 ⟨fun _ => 0, "", "", defArgs s__wall, [], defScope s__wall, []⟩) rfl,
    He.glo_ok X G (c.fact 1 (f := .glo "is_whole") rfl),
    c.def_ 1 (d := fn.getD 1 ⟨fun _ => 0, "", "", defArgs s_is_whole, [], defScope s_is_whole, []⟩) rfl,
    He.glo_ok X G (c.fact 2 (f := .glo "is_from") rfl),
    c.def_ 2 (d := fn.getD 2 ⟨fun _ => 0, "", "", defArgs s_is_from, [], defScope s_is_from, []⟩) rfl,
    He.glo_ok X G (c.fact 3 (f := .glo "are_inputs") rfl),
    c.def_ 3 (d := fn.getD 3 ⟨fun _ => 0, "", "", defArgs s_are_inputs, [], defScope s_are_inputs, []⟩) rfl,
    He.glo_ok X G (c.fact 4 (f := .glo "is_votes") rfl),
    c.def_ 4 (d := fn.getD 4 ⟨fun _ => 0, "", "", defArgs s_is_votes, [], defScope s_is_votes, []⟩) rfl,
    He.glo_ok X G (c.fact 5 (f := .glo "are_registers") rfl),
    c.def_ 5 (d := fn.getD 5 ⟨fun _ => 0, "", "", defArgs s_are_registers, [], defScope s_are_registers, []⟩) rfl,
    He.glo_ok X G (c.fact 6 (f := .glo "instruction_fits") rfl),
    c.def_ 6 (d := fn.getD 6 ⟨fun _ => 0, "", "", defArgs s_instruction_fits, [], defScope s_instruction_fits, []⟩) rfl,
    He.glo_ok X G (c.fact 7 (f := .glo "settle_fits") rfl),
    c.def_ 7 (d := fn.getD 7 ⟨fun _ => 0, "", "", defArgs s_settle_fits, [], defScope s_settle_fits, []⟩) rfl,
    He.glo_ok X G (c.fact 8 (f := .glo "is_settle") rfl),
    c.def_ 8 (d := fn.getD 8 ⟨fun _ => 0, "", "", defArgs s_is_settle, [], defScope s_is_settle, []⟩) rfl,
    He.glo_ok X G (c.fact 9 (f := .glo "cell_fits") rfl),
    c.def_ 9 (d := fn.getD 9 ⟨fun _ => 0, "", "", defArgs s_cell_fits, [], defScope s_cell_fits, []⟩) rfl,
    He.glo_ok X G (c.fact 10 (f := .glo "is_code") rfl),
    c.def_ 10 (d := fn.getD 10 ⟨fun _ => 0, "", "", defArgs s_is_code, [], defScope s_is_code, []⟩) rfl,
    He.glo_ok X G (c.fact 11 (f := .glo "need_code") rfl),
    c.def_ 11 (d := fn.getD 11 ⟨fun _ => 0, "", "", defArgs s_need_code, [], defScope s_need_code, []⟩) rfl,
    He.glo_ok X G (c.fact 12 (f := .glo "need_hue") rfl),
    c.def_ 12 (d := fn.getD 12 ⟨fun _ => 0, "", "", defArgs s_need_hue, [], defScope s_need_hue, []⟩) rfl,
    He.glo_ok X G (c.fact 13 (f := .glo "place_fits") rfl),
    c.def_ 13 (d := fn.getD 13 ⟨fun _ => 0, "", "", defArgs s_place_fits, [], defScope s_place_fits, []⟩) rfl,
    He.glo_ok X G (c.fact 14 (f := .glo "new_fits") rfl),
    c.def_ 14 (d := fn.getD 14 ⟨fun _ => 0, "", "", defArgs s_new_fits, [], defScope s_new_fits, []⟩) rfl,
    He.glo_ok X G (c.fact 15 (f := .glo "strike_fits") rfl),
    c.def_ 15 (d := fn.getD 15 ⟨fun _ => 0, "", "", defArgs s_strike_fits, [], defScope s_strike_fits, []⟩) rfl,
    He.glo_ok X G (c.fact 16 (f := .glo "first_misfit") rfl),
    c.def_ 16 (d := fn.getD 16 ⟨fun _ => 0, "", "", defArgs s_first_misfit, [], defScope s_first_misfit, []⟩) rfl,
    He.glo_ok X G (c.fact 17 (f := .glo "is_strike_list") rfl),
    c.def_ 17 (d := fn.getD 17 ⟨fun _ => 0, "", "", defArgs s_is_strike_list, [], defScope s_is_strike_list, []⟩) rfl,
    He.glo_ok X G (c.fact 18 (f := .glo "need_strikes") rfl),
    c.def_ 18 (d := fn.getD 18 ⟨fun _ => 0, "", "", defArgs s_need_strikes, [], defScope s_need_strikes, []⟩) rfl,
    He.glo_ok X G (c.fact 19 (f := .glo "need_inputs") rfl),
    c.def_ 19 (d := fn.getD 19 ⟨fun _ => 0, "", "", defArgs s_need_inputs, [], defScope s_need_inputs, []⟩) rfl,
    He.glo_ok X G (c.fact 20 (f := .glo "need_steps") rfl),
    c.def_ 20 (d := fn.getD 20 ⟨fun _ => 0, "", "", defArgs s_need_steps, [], defScope s_need_steps, []⟩) rfl,
    He.glo_ok X G (c.fact 21 (f := .glo "most_agreed") rfl),
    c.def_ 21 (d := fn.getD 21 ⟨fun _ => 0, "", "", defArgs s_most_agreed, [], defScope s_most_agreed, []⟩) rfl,
    He.glo_ok X G (c.fact 22 (f := .glo "worked_out") rfl),
    c.def_ 22 (d := fn.getD 22 ⟨fun _ => 0, "", "", defArgs s_worked_out, [], defScope s_worked_out, []⟩) rfl,
    c.def_ 23 (d := fn.getD 23 ⟨fun _ => 0, "", "", defArgs s_HueState___init__, [], defScope s_HueState___init__, []⟩) rfl,
    He.mkr_ok (c.fact 23 (f := .mkr "HueState") rfl),
    c.def_ 24 (d := fn.getD 24 ⟨fun _ => 0, "", "", defArgs s_HueState_instructed, [], defScope s_HueState_instructed, []⟩) rfl,
    He.meth_ok (c.fact 24 (f := .meth "HueState" "instructed") rfl),
    c.def_ 25 (d := fn.getD 25 ⟨fun _ => 0, "", "", defArgs s_HueState_struck_at, [], defScope s_HueState_struck_at, []⟩) rfl,
    He.meth_ok (c.fact 25 (f := .meth "HueState" "struck_at") rfl),
    c.def_ 26 (d := fn.getD 26 ⟨fun _ => 0, "", "", defArgs s_Machine___init__, [], defScope s_Machine___init__, []⟩) rfl,
    He.mkr_ok (c.fact 26 (f := .mkr "Machine") rfl),
    c.def_ 27 (d := fn.getD 27 ⟨fun _ => 0, "", "", defArgs s_Machine_row, [], defScope s_Machine_row, []⟩) rfl,
    prB_ok EX0,
    c.def_ 28 (d := fn.getD 28 ⟨fun _ => 0, "", "", defArgs s_Machine_steps, [], defScope s_Machine_steps, []⟩) rfl,
    prB_ok EX1,
    c.def_ 29 (d := fn.getD 29 ⟨fun _ => 0, "", "", defArgs s_Machine_state, [], defScope s_Machine_state, []⟩) rfl,
    prB_ok EX2,
    c.def_ 30 (d := fn.getD 30 ⟨fun _ => 0, "", "", defArgs s_Machine_left, [], defScope s_Machine_left, []⟩) rfl,
    prB_ok EX3,
    c.def_ 31 (d := fn.getD 31 ⟨fun _ => 0, "", "", defArgs s_Machine_pointers, [], defScope s_Machine_pointers, []⟩) rfl,
    prB_ok EX4,
    c.def_ 32 (d := fn.getD 32 ⟨fun _ => 0, "", "", defArgs s_Machine_slots, [], defScope s_Machine_slots, []⟩) rfl,
    prB_ok EX5,
    c.def_ 33 (d := fn.getD 33 ⟨fun _ => 0, "", "", defArgs s_Machine_registers, [], defScope s_Machine_registers, []⟩) rfl,
    He.meth_ok (c.fact 27 (f := .meth "Machine" "registers") rfl),
    c.def_ 34 (d := fn.getD 34 ⟨fun _ => 0, "", "", defArgs s_Machine_cells, [], defScope s_Machine_cells, []⟩) rfl,
    He.meth_ok (c.fact 28 (f := .meth "Machine" "cells") rfl),
    c.def_ 35 (d := fn.getD 35 ⟨fun _ => 0, "", "", defArgs s_Machine_own, [], defScope s_Machine_own, []⟩) rfl,
    He.meth_ok (c.fact 29 (f := .meth "Machine" "own") rfl),
    c.def_ 36 (d := fn.getD 36 ⟨fun _ => 0, "", "", defArgs s_Machine_go, [], defScope s_Machine_go, []⟩) rfl,
    He.meth_ok (c.fact 30 (f := .meth "Machine" "go") rfl),
    c.def_ 37 (d := fn.getD 37 ⟨fun _ => 0, "", "", defArgs s_Machine_strike, [], defScope s_Machine_strike, []⟩) rfl,
    He.meth_ok (c.fact 31 (f := .meth "Machine" "strike") rfl),
    He.glo_ok X G (c.fact 32 (f := .glo "machine_address") rfl),
    c.def_ 38 (d := fn.getD 38 ⟨fun _ => 0, "", "", defArgs s_machine_address, [], defScope s_machine_address, []⟩) rfl,
    He.glo_ok X G (c.fact 33 (f := .glo "next_address") rfl),
    c.def_ 39 (d := fn.getD 39 ⟨fun _ => 0, "", "", defArgs s_next_address, [], defScope s_next_address, []⟩) rfl,
    He.glo_ok X G (c.fact 34 (f := .glo "strikes_due") rfl),
    c.def_ 40 (d := fn.getD 40 ⟨fun _ => 0, "", "", defArgs s_strikes_due, [], defScope s_strikes_due, []⟩) rfl,
    He.glo_ok X G (c.fact 35 (f := .glo "machine_step") rfl),
    c.def_ 41 (d := fn.getD 41 ⟨fun _ => 0, "", "", defArgs s_machine_step, [], defScope s_machine_step, []⟩) rfl,
    He.glo_ok X G (c.fact 36 (f := .glo "point_all") rfl),
    c.def_ 42 (d := fn.getD 42 ⟨fun _ => 0, "", "", defArgs s_point_all, [], defScope s_point_all, []⟩) rfl,
    He.glo_ok X G (c.fact 37 (f := .glo "empty_slots") rfl),
    c.def_ 43 (d := fn.getD 43 ⟨fun _ => 0, "", "", defArgs s_empty_slots, [], defScope s_empty_slots, []⟩) rfl,
    He.glo_ok X G (c.fact 38 (f := .glo "settle_done") rfl),
    c.def_ 44 (d := fn.getD 44 ⟨fun _ => 0, "", "", defArgs s_settle_done, [], defScope s_settle_done, []⟩) rfl,
    He.glo_ok X G (c.fact 39 (f := .glo "mark_done") rfl),
    c.def_ 45 (d := fn.getD 45 ⟨fun _ => 0, "", "", defArgs s_mark_done, [], defScope s_mark_done, []⟩) rfl,
    He.glo_ok X G (c.fact 40 (f := .glo "struck") rfl),
    c.def_ 46 (d := fn.getD 46 ⟨fun _ => 0, "", "", defArgs s_struck, [], defScope s_struck, []⟩) rfl,
    He.glo_ok X G (c.fact 41 (f := .glo "_law_begun") rfl),
    c.def_ 47 (d := fn.getD 47 ⟨fun _ => 0, "", "", defArgs s__law_begun, [], defScope s__law_begun, []⟩) rfl,
    He.glo_ok X G (c.fact 42 (f := .glo "_law_mixed") rfl),
    c.def_ 48 (d := fn.getD 48 ⟨fun _ => 0, "", "", defArgs s__law_mixed, [], defScope s__law_mixed, []⟩) rfl,
    He.glo_ok X G (c.fact 43 (f := .glo "_law_draw") rfl),
    c.def_ 49 (d := fn.getD 49 ⟨fun _ => 0, "", "", defArgs s__law_draw, [], defScope s__law_draw, []⟩) rfl,
    He.glo_ok X G (c.fact 44 (f := .glo "_law_pick") rfl),
    c.def_ 50 (d := fn.getD 50 ⟨fun _ => 0, "", "", defArgs s__law_pick, [], defScope s__law_pick, []⟩) rfl,
    He.glo_ok X G (c.fact 45 (f := .glo "_law_number") rfl),
    c.def_ 51 (d := fn.getD 51 ⟨fun _ => 0, "", "", defArgs s__law_number, [], defScope s__law_number, []⟩) rfl,
    He.glo_ok X G (c.fact 46 (f := .glo "_law_size") rfl),
    c.def_ 52 (d := fn.getD 52 ⟨fun _ => 0, "", "", defArgs s__law_size, [], defScope s__law_size, []⟩) rfl,
    He.glo_ok X G (c.fact 47 (f := .glo "_law_votes") rfl),
    c.def_ 53 (d := fn.getD 53 ⟨fun _ => 0, "", "", defArgs s__law_votes, [], defScope s__law_votes, []⟩) rfl,
    He.glo_ok X G (c.fact 48 (f := .glo "_law_mk_agreed") rfl),
    c.def_ 54 (d := fn.getD 54 ⟨fun _ => 0, "", "", defArgs s__law_mk_agreed, [], defScope s__law_mk_agreed, []⟩) rfl,
    He.glo_ok X G (c.fact 49 (f := .glo "_law_mk_slots_right") rfl),
    c.def_ 55 (d := fn.getD 55 ⟨fun _ => 0, "", "", defArgs s__law_mk_slots_right, [], defScope s__law_mk_slots_right, []⟩) rfl,
    He.glo_ok X G (c.fact 50 (f := .glo "_law_mk_mark_right") rfl),
    c.def_ 56 (d := fn.getD 56 ⟨fun _ => 0, "", "", defArgs s__law_mk_mark_right, [], defScope s__law_mk_mark_right, []⟩) rfl,
    He.glo_ok X G (c.fact 51 (f := .glo "HueState") rfl),
    He.cls_ok (c.fact 52 (f := .cls "HueState") rfl),
    He.noat_ok (c.fact 53 (f := .noat "HueState" "m_registers") rfl),
    He.noat_ok (c.fact 54 (f := .noat "HueState" "m_bank") rfl),
    He.noat_ok (c.fact 55 (f := .noat "HueState" "m_pointer") rfl),
    He.noat_ok (c.fact 56 (f := .noat "HueState" "m_slot") rfl),
    He.noat_ok (c.fact 57 (f := .noat "HueState" "m_changed") rfl),
    He.glo_ok X G (c.fact 58 (f := .glo "Machine") rfl),
    He.cls_ok (c.fact 59 (f := .cls "Machine") rfl),
    He.noat_ok (c.fact 60 (f := .noat "Machine" "m_code") rfl),
    He.noat_ok (c.fact 61 (f := .noat "Machine" "m_hues") rfl),
    He.noat_ok (c.fact 62 (f := .noat "Machine" "m_left") rfl),
    He.noat_ok (c.fact 63 (f := .noat "Machine" "m_strikes") rfl),
    He.noat_ok (c.fact 64 (f := .noat "Machine" "m_row") rfl),
    He.noat_ok (c.fact 65 (f := .noat "Machine" "m_steps") rfl),
    He.noat_ok (c.fact 66 (f := .noat "Machine" "m_state") rfl),
    He.noat_ok (c.fact 67 (f := .noat "Machine" "address") rfl),
    He.free_ok X G (c.fact 68 (f := .free "abs") rfl),
    He.free_ok X G (c.fact 69 (f := .free "bool") rfl),
    He.free_ok X G (c.fact 70 (f := .free "enumerate") rfl),
    He.free_ok X G (c.fact 71 (f := .free "int") rfl),
    He.free_ok X G (c.fact 72 (f := .free "isinstance") rfl),
    He.free_ok X G (c.fact 73 (f := .free "len") rfl),
    He.free_ok X G (c.fact 74 (f := .free "list") rfl),
    He.free_ok X G (c.fact 75 (f := .free "range") rfl),
    He.free_ok X G (c.fact 76 (f := .free "str") rfl),
    He.free_ok X G (c.fact 77 (f := .free "tuple") rfl),
    ⟨_, He.glo_ok X G (c.fact 51 (f := .glo "HueState") rfl), rfl⟩,
    (let ⟨t, h⟩ := He.int_ok X G (c.fact 78 (f := .int "LEAST_SIZE" 2) rfl); ⟨_, h, ⟨t, rfl⟩⟩),
    (let ⟨t, h⟩ := He.int_ok X G (c.fact 79 (f := .int "MANY_REGISTERS" 8) rfl); ⟨_, h, ⟨t, rfl⟩⟩),
    (let ⟨t, h⟩ := He.int_ok X G (c.fact 80 (f := .int "MOST_BANK" 600) rfl); ⟨_, h, ⟨t, rfl⟩⟩),
    (let ⟨t, h⟩ := He.int_ok X G (c.fact 81 (f := .int "MOST_CELLS" 4000) rfl); ⟨_, h, ⟨t, rfl⟩⟩),
    (let ⟨t, h⟩ := He.int_ok X G (c.fact 82 (f := .int "MOST_HUES" 5) rfl); ⟨_, h, ⟨t, rfl⟩⟩),
    (let ⟨t, h⟩ := He.int_ok X G (c.fact 83 (f := .int "MOST_INPUT" 9999) rfl); ⟨_, h, ⟨t, rfl⟩⟩),
    (let ⟨t, h⟩ := He.int_ok X G (c.fact 84 (f := .int "MOST_INPUTS" 400) rfl); ⟨_, h, ⟨t, rfl⟩⟩),
    (let ⟨t, h⟩ := He.int_ok X G (c.fact 85 (f := .int "MOST_POINTER" 9999) rfl); ⟨_, h, ⟨t, rfl⟩⟩),
    (let ⟨t, h⟩ := He.int_ok X G (c.fact 86 (f := .int "MOST_PORT" 5) rfl); ⟨_, h, ⟨t, rfl⟩⟩),
    (let ⟨t, h⟩ := He.int_ok X G (c.fact 87 (f := .int "MOST_SIZE" 10000) rfl); ⟨_, h, ⟨t, rfl⟩⟩),
    (let ⟨t, h⟩ := He.int_ok X G (c.fact 88 (f := .int "MOST_STEPS" 1000000) rfl); ⟨_, h, ⟨t, rfl⟩⟩),
    (let ⟨t, h⟩ := He.int_ok X G (c.fact 89 (f := .int "MOST_STRIKES" 400) rfl); ⟨_, h, ⟨t, rfl⟩⟩),
    (let ⟨t, h⟩ := He.int_ok X G (c.fact 90 (f := .int "MOST_TRIES" 1000000) rfl); ⟨_, h, ⟨t, rfl⟩⟩),
    ⟨_, He.glo_ok X G (c.fact 58 (f := .glo "Machine") rfl), rfl⟩,
    tupS_ok EX6,
    ⟨_, He.glo_ok X G (c.fact 91 (f := .glo "TWOS") rfl), rfl⟩,
    tup0B_ok EX7⟩
end
abbrev Rr : PySem.W.OpenRow := PySem.W.OpenLaw.row PySem.Challenge.rw_hueward_k12_votes_of_slots
abbrev hk : PySem.W.Hook := hookX 6 fa fn ex
def ob (s : PySem.W.SharedT) : AlX := obsXG 6 fa fn ex (HandSHeadRun.getT s)
theorem ob_eq (s : PySem.W.SharedT) : ob s = hk.obs s.abs := obsXG_eq (HandSHeadRun.getT_eq s)
abbrev loose : List Str := (["_wall", "HueError", "BadInputs", "BadCode", "BadSteps", "BadHue", "BadAddress", "BadPlace", "BadNew", "BadStrikes", "TWOS", "LEAST_SIZE", "MOST_SIZE", "MOST_PORT", "MOST_INPUTS", "MOST_INPUT", "is_whole", "is_from", "are_inputs", "MOST_HUES", "MOST_BANK", "MOST_CELLS", "MANY_REGISTERS", "MOST_STRIKES", "MOST_STEPS", "MOST_POINTER", "is_votes", "are_registers", "instruction_fits", "settle_fits"] : List Str) ++ (["is_settle", "cell_fits", "is_code", "need_code", "need_hue", "place_fits", "new_fits", "strike_fits", "first_misfit", "is_strike_list", "need_strikes", "MOST_TRIES", "need_inputs", "need_steps", "most_agreed", "worked_out", "HueState", "Machine", "machine_address", "next_address", "strikes_due", "machine_step", "point_all", "empty_slots", "settle_done", "mark_done", "struck", "_law_begun", "_law_mixed", "_law_draw"] : List Str) ++ (["_law_pick", "_law_number", "_law_size", "_law_votes", "_law_mk_agreed", "_law_mk_slots_right", "_law_mk_mark_right"] : List Str)
theorem run (w : World) : HandSHeadRun.RunEq Rr (PySem.W.view Rr.prog [73]) hk ob 20000 loose w := by
  intro os
  kernel_rfl
end Hw
namespace Hw
open PySem PySem.Spec PyProof.Rows L2 Dl
def t__wall (K : Frag) : TS := (tWhile (tTru' K (tC (.bl true))) (tNext))
theorem n__wall {K : Frag} : ∀ args k, F__wall K args k → args.length = 1 := by
  intro args k h
  simp only [F__wall, pD] at h
  all_goals first
    | (exact False.elim h)
    | (repeat (obtain ⟨_, h⟩ := h)
       subst_vars
       rfl)
def t_is_whole (K : Frag) : TS := (tRet ((tAndV (tCB (rIsiU K) (tCons (tVar 0) (tCons (tC (.ty "int")) tNil))) (tNotV (tCB (rIsiU K) (tCons (tVar 0) (tCons (tC (.ty "bool")) tNil)))))))
theorem n_is_whole {K : Frag} : ∀ args k, F_is_whole K args k → args.length = 1 := by
  intro args k h
  simp only [F_is_whole, pD] at h
  all_goals first
    | (exact False.elim h)
    | (repeat (obtain ⟨_, h⟩ := h)
       subst_vars
       rfl)
def t_is_from (K : Frag) : TS := (tRet ((tAndV (tCall (spOf K (F_is_whole K)) [] E0 (tCons (tVar 0) tNil)) (tChain (uLe K) (uLe K) (tVar 1) (tVar 0) (tVar 2)))))
theorem n_is_from {K : Frag} : ∀ args k, F_is_from K args k → args.length = 3 := by
  intro args k h
  simp only [F_is_from, pD] at h
  all_goals first
    | (exact False.elim h)
    | (repeat (obtain ⟨_, h⟩ := h)
       subst_vars
       rfl)
def t_are_inputs (K : Frag) : TS := (tSeq (tIfS ((tOr (tNot (tTru' K (tCB (rIsiU K) (tCons (tVar 0) (tCons (tTup (tCons (tC (.ty "list")) (tCons (tC (.ty "tuple")) tNil))) tNil))))) (tTest (tOp (uGt K) (tCB (Dl.rLen K) (tCons (tVar 0) tNil)) (tC (.int 400)))))) (tRet (tC (.bl false))) tNext) (tRet (tOp (uEq K) (tLc (iSq K (tVar 0)) (gName 1) (tNot (tTru' K (tCall (spOf K (F_is_from K)) [] E0 (tCons (tVar 1) (tCons (tC (.int 0)) (tCons (tC (.int 9999)) tNil)))))) (tVar 1) [1]) (tLst tNil))))
theorem n_are_inputs {K : Frag} : ∀ args k, F_are_inputs K args k → args.length = 1 := by
  intro args k h
  simp only [F_are_inputs, pD] at h
  all_goals first
    | (exact False.elim h)
    | (repeat (obtain ⟨_, h⟩ := h)
       subst_vars
       rfl)
def t_is_votes (K : Frag) : TS := (tSeq (tIfS ((tOr (tNot (tTru' K (tCB (rIsiU K) (tCons (tVar 0) (tCons (tC (.ty "tuple")) tNil))))) (tNot (tTest (tChain (uLe K) (uLe K) (tC (.int 1)) (tCB (Dl.rLen K) (tCons (tVar 0) tNil)) (tC (.int 5))))))) (tRet (tC (.bl false))) tNext) (tSeq (tFor (iEnumS K (tCons (tVar 0) (tCons (tC (.int 1)) tNil))) (gTup K 2 (gCons (gName 1) (gCons (gName 2) gNil))) (tIfS ((tOr (tNot (tTru' K (tCall (spOf K (F_is_whole K)) [] E0 (tCons (tVar 2) tNil)))) (tNot (tTest (tChain (uLt K) (uLe K) (tVar 1) (tOp (uMul K) (tC (.int 2)) (tVar 2)) (tOp (uMul K) (tC (.int 2)) (tVar 1))))))) (tRet (tC (.bl false))) tNext)) (tRet (tC (.bl true)))))
theorem n_is_votes {K : Frag} : ∀ args k, F_is_votes K args k → args.length = 1 := by
  intro args k h
  simp only [F_is_votes, pD] at h
  all_goals first
    | (exact False.elim h)
    | (repeat (obtain ⟨_, h⟩ := h)
       subst_vars
       rfl)
def t_are_registers (K : Frag) : TS := (tRet (tOp (uEq K) (tLc (iSq K (tVar 0)) (gName 1) (tNot (tTru' K (tCall (spOf K (F_is_from K)) [] E0 (tCons (tVar 1) (tCons (tC (.int 0)) (tCons (tOp (uSub K) (tC (.int 8)) (tC (.int 1))) tNil)))))) (tVar 1) [1]) (tLst tNil)))
theorem n_are_registers {K : Frag} : ∀ args k, F_are_registers K args k → args.length = 1 := by
  intro args k h
  simp only [F_are_registers, pD] at h
  all_goals first
    | (exact False.elim h)
    | (repeat (obtain ⟨_, h⟩ := h)
       subst_vars
       rfl)
def t_instruction_fits (K : Frag) : TS := (tSeq (tIfS ((tOr (tNot (tTru' K (tCB (rIsiU K) (tCons (tVar 0) (tCons (tC (.ty "tuple")) tNil))))) (tOr (tTest (tOp (uLt K) (tCB (Dl.rLen K) (tCons (tVar 0) tNil)) (tC (.int 3)))) (tNot (tTru' K (tCall (spOf K (F_is_from K)) [] E0 (tCons (tOp (uIx K) (tVar 0) (tC (.int 0))) (tCons (tVar 1) (tCons (tVar 1) tNil))))))))) (tRet (tC (.bl false))) tNext) (tSeq (tIfS (tNot (tTru' K (tCB (rIsiU K) (tCons (tOp (uIx K) (tVar 0) (tC (.int 1))) (tCons (tC (.ty "str")) tNil))))) (tRet (tC (.bl false))) tNext) (tSeq (tAsg (tOp (uIx K) (tVar 0) (tC (.int 1))) (gName 4)) (tSeq (tIfS (tTest (tOp (uEq K) (tVar 4) (tC (.str (PySem.Str.ofString "set"))))) (tRet ((tAndV (tOp (uEq K) (tCB (Dl.rLen K) (tCons (tVar 0) tNil)) (tC (.int 4))) (tAndV (tCall (spOf K (F_are_registers K)) [] E0 (tCons (tSl (rSlU K) (tVar 0) (tPart (tC (.int 2))) (tPart (tC (.int 3)))) tNil)) (tCall (spOf K (F_is_from K)) [] E0 (tCons (tOp (uIx K) (tVar 0) (tC (.int 3))) (tCons (tC (.int 0)) (tCons (tOp (uSub K) (tVar 2) (tC (.int 1))) tNil)))))))) tNext) (tSeq (tIfS (tTest (tOp (uEq K) (tVar 4) (tC (.str (PySem.Str.ofString "offer"))))) (tRet ((tAndV (tOp (uEq K) (tCB (Dl.rLen K) (tCons (tVar 0) tNil)) (tC (.int 3))) (tCall (spOf K (F_are_registers K)) [] E0 (tCons (tSl (rSlU K) (tVar 0) (tPart (tC (.int 2))) tNoPart) tNil))))) tNext) (tSeq (tIfS (tTest (tOp (uIn K) (tVar 4) (tTup (tCons (tC (.str (PySem.Str.ofString "get"))) (tCons (tC (.str (PySem.Str.ofString "put"))) tNil))))) (tSeq (tIfS ((tOr (tTest (tOp (uNe K) (tCB (Dl.rLen K) (tCons (tVar 0) tNil)) (tC (.int 6)))) (tNot (tTru' K (tCall (spOf K (F_are_registers K)) [] E0 (tCons (tSl (rSlU K) (tVar 0) (tPart (tC (.int 2))) (tPart (tC (.int 4)))) tNil)))))) (tRet (tC (.bl false))) tNext) (tRet ((tAndV (tCall (spOf K (F_is_from K)) [] E0 (tCons (tOp (uIx K) (tVar 0) (tC (.int 4))) (tCons (tC (.int 0)) (tCons (tVar 3) tNil)))) (tCall (spOf K (F_is_from K)) [] E0 (tCons (tOp (uIx K) (tVar 0) (tC (.int 5))) (tCons (tC (.int 1)) (tCons (tOp (uSub K) (tVar 3) (tOp (uIx K) (tVar 0) (tC (.int 4)))) tNil)))))))) tNext) (tRet ((tAndV (tOp (uIn K) (tVar 4) (tC (.ref (He.ga K "TWOS")))) (tAndV (tOp (uEq K) (tCB (Dl.rLen K) (tCons (tVar 0) tNil)) (tC (.int 5))) (tCall (spOf K (F_are_registers K)) [] E0 (tCons (tSl (rSlU K) (tVar 0) (tPart (tC (.int 2))) tNoPart) tNil))))))))))))
theorem n_instruction_fits {K : Frag} : ∀ args k, F_instruction_fits K args k → args.length = 4 := by
  intro args k h
  simp only [F_instruction_fits, pD] at h
  all_goals first
    | (exact False.elim h)
    | (repeat (obtain ⟨_, h⟩ := h)
       subst_vars
       rfl)
def t_settle_fits (K : Frag) : TS := (tSeq (tIfS ((tOr (tNot (tTru' K (tCB (rIsiU K) (tCons (tVar 0) (tCons (tC (.ty "tuple")) tNil))))) (tOr (tTest (tOp (uEq K) (tCB (Dl.rLen K) (tCons (tVar 0) tNil)) (tC (.int 0)))) (tNot (tTru' K (tCB (rIsiU K) (tCons (tOp (uIx K) (tVar 0) (tC (.int 0))) (tCons (tC (.ty "str")) tNil)))))))) (tRet (tC (.bl false))) tNext) (tSeq (tAsg (tOp (uIx K) (tVar 0) (tC (.int 0))) (gName 3)) (tSeq (tIfS (tTest (tOp (uIn K) (tVar 3) (tTup (tCons (tC (.str (PySem.Str.ofString "stop"))) (tCons (tC (.str (PySem.Str.ofString "mark"))) tNil))))) (tRet (tOp (uEq K) (tCB (Dl.rLen K) (tCons (tVar 0) tNil)) (tC (.int 1)))) tNext) (tSeq (tIfS (tTest (tOp (uEq K) (tVar 3) (tC (.str (PySem.Str.ofString "goto"))))) (tRet ((tAndV (tOp (uEq K) (tCB (Dl.rLen K) (tCons (tVar 0) tNil)) (tC (.int 2))) (tCall (spOf K (F_is_from K)) [] E0 (tCons (tOp (uIx K) (tVar 0) (tC (.int 1))) (tCons (tC (.int 0)) (tCons (tOp (uSub K) (tVar 2) (tC (.int 1))) tNil))))))) tNext) (tSeq (tIfS ((tOr (tTest (tOp (uNotIn K) (tVar 3) (tTup (tCons (tC (.str (PySem.Str.ofString "show"))) (tCons (tC (.str (PySem.Str.ofString "turn"))) (tCons (tC (.str (PySem.Str.ofString "take"))) tNil)))))) (tOr (tTest (tOp (uNe K) (tCB (Dl.rLen K) (tCons (tVar 0) tNil)) (tC (.int 3)))) (tNot (tTru' K (tCall (spOf K (F_is_from K)) [] E0 (tCons (tOp (uIx K) (tVar 0) (tC (.int 2))) (tCons (tC (.int 1)) (tCons (tVar 1) tNil))))))))) (tRet (tC (.bl false))) tNext) (tSeq (tAsg (tDGet (tDisp (((tC (.str (PySem.Str.ofString "show"))), (tC (.int 5))) :: (((tC (.str (PySem.Str.ofString "turn"))), (tOp (uSub K) (tVar 2) (tC (.int 1)))) :: (((tC (.str (PySem.Str.ofString "take"))), (tOp (uSub K) (tC (.int 8)) (tC (.int 1)))) :: [])))) (tVar 3)) (gName 4)) (tRet (tCall (spOf K (F_is_from K)) [] E0 (tCons (tOp (uIx K) (tVar 0) (tC (.int 1))) (tCons (tC (.int 0)) (tCons (tVar 4) tNil)))))))))))
theorem n_settle_fits {K : Frag} : ∀ args k, F_settle_fits K args k → args.length = 3 := by
  intro args k h
  simp only [F_settle_fits, pD] at h
  all_goals first
    | (exact False.elim h)
    | (repeat (obtain ⟨_, h⟩ := h)
       subst_vars
       rfl)
def t_is_settle (K : Frag) : TS := (tRet (tCB (rIsiU K) (tCons (tOp (uIx K) (tVar 0) (tC (.int 0))) (tCons (tC (.ty "str")) tNil))))
theorem n_is_settle {K : Frag} : ∀ args k, F_is_settle K args k → args.length = 1 := by
  intro args k h
  simp only [F_is_settle, pD] at h
  all_goals first
    | (exact False.elim h)
    | (repeat (obtain ⟨_, h⟩ := h)
       subst_vars
       rfl)
def t_cell_fits (K : Frag) : TS := (tSeq (tIfS ((tOr (tNot (tTru' K (tCB (rIsiU K) (tCons (tVar 0) (tCons (tC (.ty "tuple")) tNil))))) (tTest (tOp (uEq K) (tCB (Dl.rLen K) (tCons (tVar 0) tNil)) (tC (.int 0)))))) (tRet (tC (.bl false))) tNext) (tSeq (tIfS (tTru' K (tCall (spOf K (F_is_from K)) [] E0 (tCons (tOp (uIx K) (tVar 0) (tC (.int 0))) (tCons (tC (.int 0)) (tCons (tOp (uSub K) (tVar 1) (tC (.int 1))) tNil))))) (tRet (tCall (spOf K (F_instruction_fits K)) [] E0 (tCons (tVar 0) (tCons (tOp (uIx K) (tVar 0) (tC (.int 0))) (tCons (tVar 2) (tCons (tVar 4) tNil)))))) tNext) (tRet (tCall (spOf K (F_settle_fits K)) [] E0 (tCons (tVar 0) (tCons (tVar 1) (tCons (tVar 3) tNil)))))))
theorem n_cell_fits {K : Frag} : ∀ args k, F_cell_fits K args k → args.length = 5 := by
  intro args k h
  simp only [F_cell_fits, pD] at h
  all_goals first
    | (exact False.elim h)
    | (repeat (obtain ⟨_, h⟩ := h)
       subst_vars
       rfl)
def t_is_code (K : Frag) : TS := (tSeq (tIfS ((tOr (tNot (tTru' K (tCB (rIsiU K) (tCons (tVar 0) (tCons (tC (.ty "tuple")) tNil))))) (tOr (tTest (tOp (uNe K) (tCB (Dl.rLen K) (tCons (tVar 0) tNil)) (tC (.int 4)))) (tNot (tTru' K (tCall (spOf K (F_is_votes K)) [] E0 (tCons (tOp (uIx K) (tVar 0) (tC (.int 0))) tNil))))))) (tRet (tC (.bl false))) tNext) (tSeq (tAsg (tVar 0) (gTup K 4 (gCons (gName 2) (gCons (gName 3) (gCons (gName 4) (gCons (gName 5) gNil)))))) (tSeq (tIfS ((tOr (tNot (tTru' K (tCall (spOf K (F_is_from K)) [] E0 (tCons (tVar 3) (tCons (tC (.int 2)) (tCons (tC (.int 10000)) tNil)))))) (tOr (tNot (tTru' K (tCB (rIsiU K) (tCons (tVar 5) (tCons (tC (.ty "tuple")) tNil))))) (tTest (tOp (uGt K) (tCB (Dl.rLen K) (tCons (tVar 5) tNil)) (tC (.int 600))))))) (tRet (tC (.bl false))) tNext) (tSeq (tIfS (tTest (tOp (uNe K) (tLc (iSq K (tVar 5)) (gName 6) (tNot (tTru' K (tCall (spOf K (F_is_from K)) [] E0 (tCons (tVar 6) (tCons (tC (.int 0)) (tCons (tOp (uSub K) (tVar 3) (tC (.int 1))) tNil)))))) (tVar 6) [6]) (tLst tNil))) (tRet (tC (.bl false))) tNext) (tSeq (tIfS ((tOr (tNot (tTru' K (tCB (rIsiU K) (tCons (tVar 4) (tCons (tC (.ty "tuple")) tNil))))) (tNot (tTest (tChain (uLe K) (uLe K) (tC (.int 1)) (tCB (Dl.rLen K) (tCons (tVar 4) tNil)) (tC (.int 4000))))))) (tRet (tC (.bl false))) tNext) (tSeq (tAsg (tCB (Dl.rLen K) (tCons (tVar 4) tNil)) (gName 1)) (tRet (tOp (uEq K) (tLc (iSq K (tVar 4)) (gName 7) (tNot (tTru' K (tCall (spOf K (F_cell_fits K)) [] E0 (tCons (tVar 7) (tCons (tCB (Dl.rLen K) (tCons (tVar 2) tNil)) (tCons (tVar 3) (tCons (tVar 1) (tCons (tCB (Dl.rLen K) (tCons (tVar 5) tNil)) tNil)))))))) (tVar 7) [7]) (tLst tNil)))))))))
theorem n_is_code {K : Frag} : ∀ args k, F_is_code K args k → args.length = 1 := by
  intro args k h
  simp only [F_is_code, pD] at h
  all_goals first
    | (exact False.elim h)
    | (repeat (obtain ⟨_, h⟩ := h)
       subst_vars
       rfl)
def t_need_code (K : Frag) : TS := (tIfS (tNot (tTru' K (tCall (spOf K (F_is_code K)) [] E0 (tCons (tVar 0) tNil)))) (tNever) tNext)
theorem n_need_code {K : Frag} : ∀ args k, F_need_code K args k → args.length = 1 := by
  intro args k h
  simp only [F_need_code, pD] at h
  all_goals first
    | (exact False.elim h)
    | (repeat (obtain ⟨_, h⟩ := h)
       subst_vars
       rfl)
def t_need_hue (K : Frag) : TS := (tIfS (tNot (tTru' K (tCall (spOf K (F_is_from K)) [] E0 (tCons (tVar 1) (tCons (tC (.int 0)) (tCons (tOp (uSub K) (tCB (Dl.rLen K) (tCons (tOp (uIx K) (tVar 0) (tC (.int 0))) tNil)) (tC (.int 1))) tNil)))))) (tNever) tNext)
theorem n_need_hue {K : Frag} : ∀ args k, F_need_hue K args k → args.length = 2 := by
  intro args k h
  simp only [F_need_hue, pD] at h
  all_goals first
    | (exact False.elim h)
    | (repeat (obtain ⟨_, h⟩ := h)
       subst_vars
       rfl)
def t_place_fits (K : Frag) : TS := (tSeq (tIfS ((tOr (tNot (tTru' K (tCB (rIsiU K) (tCons (tVar 2) (tCons (tC (.ty "tuple")) tNil))))) (tOr (tTest (tOp (uEq K) (tCB (Dl.rLen K) (tCons (tVar 2) tNil)) (tC (.int 0)))) (tNot (tTru' K (tCB (rIsiU K) (tCons (tOp (uIx K) (tVar 2) (tC (.int 0))) (tCons (tC (.ty "str")) tNil)))))))) (tRet (tC (.bl false))) tNext) (tSeq (tIfS (tTest (tOp (uIn K) (tOp (uIx K) (tVar 2) (tC (.int 0))) (tTup (tCons (tC (.str (PySem.Str.ofString "pointer"))) (tCons (tC (.str (PySem.Str.ofString "slot"))) tNil))))) (tRet (tOp (uEq K) (tCB (Dl.rLen K) (tCons (tVar 2) tNil)) (tC (.int 1)))) tNext) (tSeq (tIfS (tTest (tOp (uNe K) (tCB (Dl.rLen K) (tCons (tVar 2) tNil)) (tC (.int 2)))) (tRet (tC (.bl false))) tNext) (tSeq (tIfS (tTest (tOp (uEq K) (tOp (uIx K) (tVar 2) (tC (.int 0))) (tC (.str (PySem.Str.ofString "register"))))) (tRet (tCall (spOf K (F_is_from K)) [] E0 (tCons (tOp (uIx K) (tVar 2) (tC (.int 1))) (tCons (tC (.int 0)) (tCons (tOp (uSub K) (tC (.int 8)) (tC (.int 1))) tNil))))) tNext) (tSeq (tIfS (tTest (tOp (uEq K) (tOp (uIx K) (tVar 2) (tC (.int 0))) (tC (.str (PySem.Str.ofString "cell"))))) (tRet (tCall (spOf K (F_is_from K)) [] E0 (tCons (tOp (uIx K) (tVar 2) (tC (.int 1))) (tCons (tC (.int 0)) (tCons (tOp (uSub K) (tCB (Dl.rLen K) (tCons (tOp (uIx K) (tVar 0) (tC (.int 3))) tNil)) (tC (.int 1))) tNil))))) tNext) (tSeq (tIfS ((tOr (tTest (tOp (uNe K) (tOp (uIx K) (tVar 2) (tC (.int 0))) (tC (.str (PySem.Str.ofString "code"))))) (tNot (tTru' K (tCall (spOf K (F_is_from K)) [] E0 (tCons (tOp (uIx K) (tVar 2) (tC (.int 1))) (tCons (tC (.int 0)) (tCons (tOp (uSub K) (tCB (Dl.rLen K) (tCons (tOp (uIx K) (tVar 0) (tC (.int 2))) tNil)) (tC (.int 1))) tNil)))))))) (tRet (tC (.bl false))) tNext) (tSeq (tAsg (tOp (uIx K) (tOp (uIx K) (tVar 0) (tC (.int 2))) (tOp (uIx K) (tVar 2) (tC (.int 1)))) (gName 3)) (tRet ((tAndV (tNotV (tCall (spOf K (F_is_settle K)) [] E0 (tCons (tVar 3) tNil))) (tOp (uEq K) (tOp (uIx K) (tVar 3) (tC (.int 0))) (tVar 1))))))))))))
theorem n_place_fits {K : Frag} : ∀ args k, F_place_fits K args k → args.length = 3 := by
  intro args k h
  simp only [F_place_fits, pD] at h
  all_goals first
    | (exact False.elim h)
    | (repeat (obtain ⟨_, h⟩ := h)
       subst_vars
       rfl)
def t_new_fits (K : Frag) : TS := (tSeq (tIfS (tTest (tOp (uEq K) (tOp (uIx K) (tVar 2) (tC (.int 0))) (tC (.str (PySem.Str.ofString "code"))))) (tRet (tCall (spOf K (F_instruction_fits K)) [] E0 (tCons (tVar 3) (tCons (tVar 1) (tCons (tOp (uIx K) (tVar 0) (tC (.int 1))) (tCons (tCB (Dl.rLen K) (tCons (tOp (uIx K) (tVar 0) (tC (.int 3))) tNil)) tNil)))))) tNext) (tSeq (tIfS (tTest (tOp (uEq K) (tOp (uIx K) (tVar 2) (tC (.int 0))) (tC (.str (PySem.Str.ofString "pointer"))))) (tRet (tCall (spOf K (F_is_from K)) [] E0 (tCons (tVar 3) (tCons (tC (.int 0)) (tCons (tC (.int 9999)) tNil))))) tNext) (tRet ((tOrV (tCall (spOf K (F_is_from K)) [] E0 (tCons (tVar 3) (tCons (tC (.int 0)) (tCons (tOp (uSub K) (tOp (uIx K) (tVar 0) (tC (.int 1))) (tC (.int 1))) tNil)))) ((tAndV (tOp (uEq K) (tOp (uIx K) (tVar 2) (tC (.int 0))) (tC (.str (PySem.Str.ofString "slot")))) (tOp (uIs K) (tVar 3) (tC .non)))))))))
theorem n_new_fits {K : Frag} : ∀ args k, F_new_fits K args k → args.length = 4 := by
  intro args k h
  simp only [F_new_fits, pD] at h
  all_goals first
    | (exact False.elim h)
    | (repeat (obtain ⟨_, h⟩ := h)
       subst_vars
       rfl)
def t_strike_fits (K : Frag) : TS := (tSeq (tIfS ((tOr (tNot (tTru' K (tCB (rIsiU K) (tCons (tVar 1) (tCons (tC (.ty "tuple")) tNil))))) (tOr (tTest (tOp (uNe K) (tCB (Dl.rLen K) (tCons (tVar 1) tNil)) (tC (.int 4)))) (tNot (tTru' K (tCall (spOf K (F_is_from K)) [] E0 (tCons (tOp (uIx K) (tVar 1) (tC (.int 0))) (tCons (tC (.int 0)) (tCons (tC (.int 1000000)) tNil))))))))) (tRet (tC (.bl false))) tNext) (tSeq (tIfS ((tOr (tNot (tTru' K (tCall (spOf K (F_is_from K)) [] E0 (tCons (tOp (uIx K) (tVar 1) (tC (.int 1))) (tCons (tC (.int 0)) (tCons (tOp (uSub K) (tCB (Dl.rLen K) (tCons (tOp (uIx K) (tVar 0) (tC (.int 0))) tNil)) (tC (.int 1))) tNil)))))) (tNot (tTru' K (tCall (spOf K (F_place_fits K)) [] E0 (tCons (tVar 0) (tCons (tOp (uIx K) (tVar 1) (tC (.int 1))) (tCons (tOp (uIx K) (tVar 1) (tC (.int 2))) tNil)))))))) (tRet (tC (.bl false))) tNext) (tRet (tCall (spOf K (F_new_fits K)) [] E0 (tCons (tVar 0) (tCons (tOp (uIx K) (tVar 1) (tC (.int 1))) (tCons (tOp (uIx K) (tVar 1) (tC (.int 2))) (tCons (tOp (uIx K) (tVar 1) (tC (.int 3))) tNil))))))))
theorem n_strike_fits {K : Frag} : ∀ args k, F_strike_fits K args k → args.length = 2 := by
  intro args k h
  simp only [F_strike_fits, pD] at h
  all_goals first
    | (exact False.elim h)
    | (repeat (obtain ⟨_, h⟩ := h)
       subst_vars
       rfl)
def t_first_misfit (K : Frag) : TS := (tSeq (tAsg (tC (.int 0)) (gName 2)) (tSeq (tFor (iEnumU K (tCons (tVar 1) tNil)) (gTup K 2 (gCons (gName 3) (gCons (gName 4) gNil))) (tSeq (tIfS ((tOr (tNot (tTru' K (tCall (spOf K (F_strike_fits K)) [] E0 (tCons (tVar 0) (tCons (tVar 4) tNil))))) (tTest (tOp (uLt K) (tOp (uIx K) (tVar 4) (tC (.int 0))) (tVar 2))))) (tRet (tVar 3)) tNext) (tAsg (tOp (uIx K) (tVar 4) (tC (.int 0))) (gName 2)))) (tRet (tC .non))))
theorem n_first_misfit {K : Frag} : ∀ args k, F_first_misfit K args k → args.length = 2 := by
  intro args k h
  simp only [F_first_misfit, pD] at h
  all_goals first
    | (exact False.elim h)
    | (repeat (obtain ⟨_, h⟩ := h)
       subst_vars
       rfl)
def t_is_strike_list (K : Frag) : TS := (tRet ((tAndV (tCB (rIsiU K) (tCons (tVar 0) (tCons (tTup (tCons (tC (.ty "list")) (tCons (tC (.ty "tuple")) tNil))) tNil))) (tOp (uLe K) (tCB (Dl.rLen K) (tCons (tVar 0) tNil)) (tC (.int 400))))))
theorem n_is_strike_list {K : Frag} : ∀ args k, F_is_strike_list K args k → args.length = 1 := by
  intro args k h
  simp only [F_is_strike_list, pD] at h
  all_goals first
    | (exact False.elim h)
    | (repeat (obtain ⟨_, h⟩ := h)
       subst_vars
       rfl)
def t_need_strikes (K : Frag) : TS := (tSeq (tIfS (tNot (tTru' K (tCall (spOf K (F_is_strike_list K)) [] E0 (tCons (tVar 1) tNil)))) (tNever) tNext) (tSeq (tAsg (tCall (spOf K (F_first_misfit K)) [] E0 (tCons (tVar 0) (tCons (tVar 1) tNil))) (gName 2)) (tIfS (tTest (tOp (uIsNot K) (tVar 2) (tC .non))) (tNever) tNext)))
theorem n_need_strikes {K : Frag} : ∀ args k, F_need_strikes K args k → args.length = 2 := by
  intro args k h
  simp only [F_need_strikes, pD] at h
  all_goals first
    | (exact False.elim h)
    | (repeat (obtain ⟨_, h⟩ := h)
       subst_vars
       rfl)
def t_need_inputs (K : Frag) : TS := (tIfS (tNot (tTru' K (tCall (spOf K (F_are_inputs K)) [] E0 (tCons (tVar 0) tNil)))) (tNever) tNext)
theorem n_need_inputs {K : Frag} : ∀ args k, F_need_inputs K args k → args.length = 1 := by
  intro args k h
  simp only [F_need_inputs, pD] at h
  all_goals first
    | (exact False.elim h)
    | (repeat (obtain ⟨_, h⟩ := h)
       subst_vars
       rfl)
def t_need_steps (K : Frag) : TS := (tIfS (tNot (tTru' K (tCall (spOf K (F_is_from K)) [] E0 (tCons (tVar 0) (tCons (tC (.int 0)) (tCons (tC (.int 1000000)) tNil)))))) (tNever) tNext)
theorem n_need_steps {K : Frag} : ∀ args k, F_need_steps K args k → args.length = 1 := by
  intro args k h
  simp only [F_need_steps, pD] at h
  all_goals first
    | (exact False.elim h)
    | (repeat (obtain ⟨_, h⟩ := h)
       subst_vars
       rfl)
def t_most_agreed (K : Frag) : TS := (tSeq (tAsg (tOp (uIx K) (tVar 0) (tC (.int 0))) (gName 2)) (tSeq (tIfS (tTest (tOp (uGe K) (tBM K "list" (rCntD K) (tVar 0) (tCons (tVar 2) tNil)) (tVar 1))) (tRet (tVar 2)) tNext) (tSeq (tFor (iSq K (tSl (rSlU K) (tVar 0) (tPart (tC (.int 1))) tNoPart)) (gName 3) (tIfS (tTest (tOp (uGe K) (tBM K "list" (rCntD K) (tVar 0) (tCons (tVar 3) tNil)) (tVar 1))) (tRet (tVar 3)) tNext)) (tRet (tC .non)))))
def t_worked_out (K : Frag) : TS := (tSeq (tIfS (tTest (tOp (uEq K) (tVar 0) (tC (.str (PySem.Str.ofString "plus"))))) (tRet (tOp (uMod K) (tOp (uAdd K) (tVar 1) (tVar 2)) (tVar 3))) tNext) (tSeq (tIfS (tTest (tOp (uEq K) (tVar 0) (tC (.str (PySem.Str.ofString "minus"))))) (tRet (tOp (uMod K) (tOp (uSub K) (tVar 1) (tVar 2)) (tVar 3))) tNext) (tSeq (tIfS (tTest (tOp (uEq K) (tVar 0) (tC (.str (PySem.Str.ofString "times"))))) (tRet (tOp (uMod K) (tOp (uMul K) (tVar 1) (tVar 2)) (tVar 3))) tNext) (tSeq (tIfS (tTest (tOp (uEq K) (tVar 0) (tC (.str (PySem.Str.ofString "rest"))))) (tRet (tIf (tTest (tOp (uNe K) (tVar 2) (tC (.int 0)))) (tOp (uMod K) (tVar 1) (tVar 2)) (tC (.int 0)))) tNext) (tSeq (tIfS (tTest (tOp (uEq K) (tVar 0) (tC (.str (PySem.Str.ofString "less"))))) (tRet (tIf (tTest (tOp (uLt K) (tVar 1) (tVar 2))) (tC (.int 1)) (tC (.int 0)))) tNext) (tRet (tIf (tTest (tOp (uEq K) (tVar 1) (tVar 2))) (tC (.int 1)) (tC (.int 0)))))))))
theorem n_worked_out {K : Frag} : ∀ args k, F_worked_out K args k → args.length = 4 := by
  intro args k h
  simp only [F_worked_out, pD] at h
  all_goals first
    | (exact False.elim h)
    | (repeat (obtain ⟨_, h⟩ := h)
       subst_vars
       rfl)
def t_HueState___init__ (K : Frag) : TS := (tSeq (sFld K (tVar 0) (tOp (uMul K) (tLst (tCons (tC (.int 0)) tNil)) (tC (.int 8))) (PySem.Str.ofString "m_registers")) (tSeq (sFld K (tVar 0) (tCB (rListU K) (tCons (tVar 1) tNil)) (PySem.Str.ofString "m_bank")) (tSeq (sFld K (tVar 0) (tC (.int 0)) (PySem.Str.ofString "m_pointer")) (tSeq (sFld K (tVar 0) (tC .non) (PySem.Str.ofString "m_slot")) (sFld K (tVar 0) (tDNewK) (PySem.Str.ofString "m_changed"))))))
theorem n_HueState___init__ {K : Frag} : ∀ args k, F_HueState___init__ K args k → args.length = 2 := by
  intro args k h
  simp only [F_HueState___init__, pD] at h
  all_goals first
    | (exact False.elim h)
    | (repeat (obtain ⟨_, h⟩ := h)
       subst_vars
       rfl)
def t_HueState_instructed (K : Frag) : TS := (tSeq (tPar3 3 4 5 (tCons (tFld K (tVar 0) (PySem.Str.ofString "m_registers")) (tCons (tOp (uIx K) (tVar 1) (tC (.int 1))) (tCons (tOp (uIx K) (tVar 1) (tC (.int 2))) tNil)))) (tIfS (tTest (tOp (uEq K) (tVar 4) (tC (.str (PySem.Str.ofString "set"))))) (tAsg (tOp (uIx K) (tVar 1) (tC (.int 3))) (gSub (tVar 3) (tVar 5) rSetL)) (tIfS (tTest (tOp (uEq K) (tVar 4) (tC (.str (PySem.Str.ofString "offer"))))) (sFld K (tVar 0) (tOp (uIx K) (tVar 3) (tVar 5)) (PySem.Str.ofString "m_slot")) (tIfS (tTest (tOp (uEq K) (tVar 4) (tC (.str (PySem.Str.ofString "get"))))) (tAsg (tOp (uIx K) (tFld K (tVar 0) (PySem.Str.ofString "m_bank")) (tOp (uAdd K) (tOp (uIx K) (tVar 1) (tC (.int 4))) (tOp (uMod K) (tOp (uIx K) (tVar 3) (tOp (uIx K) (tVar 1) (tC (.int 3)))) (tOp (uIx K) (tVar 1) (tC (.int 5)))))) (gSub (tVar 3) (tVar 5) rSetL)) (tIfS (tTest (tOp (uEq K) (tVar 4) (tC (.str (PySem.Str.ofString "put"))))) (tSeq (tAsg (tFld K (tVar 0) (PySem.Str.ofString "m_bank")) (gName 6)) (tAsg (tOp (uIx K) (tVar 3) (tVar 5)) (gSub (tVar 6) (tOp (uAdd K) (tOp (uIx K) (tVar 1) (tC (.int 4))) (tOp (uMod K) (tOp (uIx K) (tVar 3) (tOp (uIx K) (tVar 1) (tC (.int 3)))) (tOp (uIx K) (tVar 1) (tC (.int 5))))) rSetL))) (tAsg (tCall (spOf K (F_worked_out K)) [] E0 (tCons (tVar 4) (tCons (tOp (uIx K) (tVar 3) (tOp (uIx K) (tVar 1) (tC (.int 3)))) (tCons (tOp (uIx K) (tVar 3) (tOp (uIx K) (tVar 1) (tC (.int 4)))) (tCons (tVar 2) tNil))))) (gSub (tVar 3) (tVar 5) rSetL)))))))
theorem n_HueState_instructed {K : Frag} : ∀ args k, F_HueState_instructed K args k → args.length = 3 := by
  intro args k h
  simp only [F_HueState_instructed, pD] at h
  all_goals first
    | (exact False.elim h)
    | (repeat (obtain ⟨_, h⟩ := h)
       subst_vars
       rfl)
def t_HueState_struck_at (K : Frag) : TS := (tIfS (tTest (tOp (uEq K) (tOp (uIx K) (tVar 1) (tC (.int 0))) (tC (.str (PySem.Str.ofString "register"))))) (tSeq (tAsg (tFld K (tVar 0) (PySem.Str.ofString "m_registers")) (gName 3)) (tAsg (tVar 2) (gSub (tVar 3) (tOp (uIx K) (tVar 1) (tC (.int 1))) rSetL))) (tIfS (tTest (tOp (uEq K) (tOp (uIx K) (tVar 1) (tC (.int 0))) (tC (.str (PySem.Str.ofString "cell"))))) (tSeq (tAsg (tFld K (tVar 0) (PySem.Str.ofString "m_bank")) (gName 4)) (tAsg (tVar 2) (gSub (tVar 4) (tOp (uIx K) (tVar 1) (tC (.int 1))) rSetL))) (tIfS (tTest (tOp (uEq K) (tOp (uIx K) (tVar 1) (tC (.int 0))) (tC (.str (PySem.Str.ofString "pointer"))))) (sFld K (tVar 0) (tVar 2) (PySem.Str.ofString "m_pointer")) (tIfS (tTest (tOp (uEq K) (tOp (uIx K) (tVar 1) (tC (.int 0))) (tC (.str (PySem.Str.ofString "slot"))))) (sFld K (tVar 0) (tVar 2) (PySem.Str.ofString "m_slot")) (tSeq (tAsg (tFld K (tVar 0) (PySem.Str.ofString "m_changed")) (gName 5)) (sDPut (tVar 5) (tOp (uIx K) (tVar 1) (tC (.int 1))) (tVar 2)))))))
theorem n_HueState_struck_at {K : Frag} : ∀ args k, F_HueState_struck_at K args k → args.length = 3 := by
  intro args k h
  simp only [F_HueState_struck_at, pD] at h
  all_goals first
    | (exact False.elim h)
    | (repeat (obtain ⟨_, h⟩ := h)
       subst_vars
       rfl)
def t_Machine___init__ (K : Frag) : TS := (tSeq (tDrop (tCall (spOf K (F_need_code K)) [] E0 (tCons (tVar 1) tNil))) (tSeq (tDrop (tCall (spOf K (F_need_inputs K)) [] E0 (tCons (tVar 2) tNil))) (tSeq (tDrop (tCall (spOf K (F_need_strikes K)) [] E0 (tCons (tVar 1) (tCons (tVar 3) tNil)))) (tSeq (sFld K (tVar 0) (tVar 1) (PySem.Str.ofString "m_code")) (tSeq (sFld K (tVar 0) (tLc (iSq K (tOp (uIx K) (tVar 1) (tC (.int 0)))) (gName 4) tYes (tMake (He.ga K "HueState") (spOf K (F_HueState___init__ K)) (dv_HueState K) E0 (tCons (tOp (uIx K) (tVar 1) (tC (.int 3))) tNil)) [4]) (PySem.Str.ofString "m_hues")) (tSeq (sFld K (tVar 0) (tCB (rListU K) (tCons (tVar 2) tNil)) (PySem.Str.ofString "m_left")) (tSeq (sFld K (tVar 0) (tCB (rListU K) (tCons (tVar 3) tNil)) (PySem.Str.ofString "m_strikes")) (tSeq (sFld K (tVar 0) (tLst tNil) (PySem.Str.ofString "m_row")) (tSeq (sFld K (tVar 0) (tC (.int 0)) (PySem.Str.ofString "m_steps")) (tSeq (sFld K (tVar 0) (tC (.str (PySem.Str.ofString "running"))) (PySem.Str.ofString "m_state")) (sFld K (tVar 0) (tC (.int 0)) (PySem.Str.ofString "address"))))))))))))
theorem n_Machine___init__ {K : Frag} : ∀ args k, F_Machine___init__ K args k → args.length = 4 := by
  intro args k h
  simp only [F_Machine___init__, pD] at h
  all_goals first
    | (exact False.elim h)
    | (repeat (obtain ⟨_, h⟩ := h)
       subst_vars
       rfl)
def t_Machine_row (K : Frag) : TS := (tRet (tCB (rListU K) (tCons (tFld K (tVar 0) (PySem.Str.ofString "m_row")) tNil)))
theorem n_Machine_row {K : Frag} : ∀ args k, F_Machine_row K args k → args.length = 1 := by
  intro args k h
  simp only [F_Machine_row, pD] at h
  all_goals first
    | (exact False.elim h)
    | (repeat (obtain ⟨_, h⟩ := h)
       subst_vars
       rfl)
def t_Machine_steps (K : Frag) : TS := (tRet (tFld K (tVar 0) (PySem.Str.ofString "m_steps")))
theorem n_Machine_steps {K : Frag} : ∀ args k, F_Machine_steps K args k → args.length = 1 := by
  intro args k h
  simp only [F_Machine_steps, pD] at h
  all_goals first
    | (exact False.elim h)
    | (repeat (obtain ⟨_, h⟩ := h)
       subst_vars
       rfl)
def t_Machine_state (K : Frag) : TS := (tRet (tFld K (tVar 0) (PySem.Str.ofString "m_state")))
theorem n_Machine_state {K : Frag} : ∀ args k, F_Machine_state K args k → args.length = 1 := by
  intro args k h
  simp only [F_Machine_state, pD] at h
  all_goals first
    | (exact False.elim h)
    | (repeat (obtain ⟨_, h⟩ := h)
       subst_vars
       rfl)
def t_Machine_left (K : Frag) : TS := (tRet (tCB (rListU K) (tCons (tFld K (tVar 0) (PySem.Str.ofString "m_left")) tNil)))
theorem n_Machine_left {K : Frag} : ∀ args k, F_Machine_left K args k → args.length = 1 := by
  intro args k h
  simp only [F_Machine_left, pD] at h
  all_goals first
    | (exact False.elim h)
    | (repeat (obtain ⟨_, h⟩ := h)
       subst_vars
       rfl)
def t_Machine_pointers (K : Frag) : TS := (tRet (tCB (rTupU K) (tCons (tLc (iSq K (tFld K (tVar 0) (PySem.Str.ofString "m_hues"))) (gName 1) tYes (tFld K (tVar 1) (PySem.Str.ofString "m_pointer")) [1]) tNil)))
theorem n_Machine_pointers {K : Frag} : ∀ args k, F_Machine_pointers K args k → args.length = 1 := by
  intro args k h
  simp only [F_Machine_pointers, pD] at h
  all_goals first
    | (exact False.elim h)
    | (repeat (obtain ⟨_, h⟩ := h)
       subst_vars
       rfl)
def t_Machine_slots (K : Frag) : TS := (tRet (tCB (rTupU K) (tCons (tLc (iSq K (tFld K (tVar 0) (PySem.Str.ofString "m_hues"))) (gName 1) tYes (tFld K (tVar 1) (PySem.Str.ofString "m_slot")) [1]) tNil)))
theorem n_Machine_slots {K : Frag} : ∀ args k, F_Machine_slots K args k → args.length = 1 := by
  intro args k h
  simp only [F_Machine_slots, pD] at h
  all_goals first
    | (exact False.elim h)
    | (repeat (obtain ⟨_, h⟩ := h)
       subst_vars
       rfl)
def t_Machine_registers (K : Frag) : TS := (tSeq (tDrop (tCall (spOf K (F_need_hue K)) [] E0 (tCons (tFld K (tVar 0) (PySem.Str.ofString "m_code")) (tCons (tVar 1) tNil)))) (tRet (tCB (rTupU K) (tCons (tFld K (tOp (uIx K) (tFld K (tVar 0) (PySem.Str.ofString "m_hues")) (tVar 1)) (PySem.Str.ofString "m_registers")) tNil))))
theorem n_Machine_registers {K : Frag} : ∀ args k, F_Machine_registers K args k → args.length = 2 := by
  intro args k h
  simp only [F_Machine_registers, pD] at h
  all_goals first
    | (exact False.elim h)
    | (repeat (obtain ⟨_, h⟩ := h)
       subst_vars
       rfl)
def t_Machine_cells (K : Frag) : TS := (tSeq (tDrop (tCall (spOf K (F_need_hue K)) [] E0 (tCons (tFld K (tVar 0) (PySem.Str.ofString "m_code")) (tCons (tVar 1) tNil)))) (tRet (tCB (rTupU K) (tCons (tFld K (tOp (uIx K) (tFld K (tVar 0) (PySem.Str.ofString "m_hues")) (tVar 1)) (PySem.Str.ofString "m_bank")) tNil))))
theorem n_Machine_cells {K : Frag} : ∀ args k, F_Machine_cells K args k → args.length = 2 := by
  intro args k h
  simp only [F_Machine_cells, pD] at h
  all_goals first
    | (exact False.elim h)
    | (repeat (obtain ⟨_, h⟩ := h)
       subst_vars
       rfl)
def t_Machine_own (K : Frag) : TS := (tSeq (tDrop (tCall (spOf K (F_need_hue K)) [] E0 (tCons (tFld K (tVar 0) (PySem.Str.ofString "m_code")) (tCons (tVar 1) tNil)))) (tSeq (tIfS (tNot (tTru' K (tCall (spOf K (F_place_fits K)) [] E0 (tCons (tFld K (tVar 0) (PySem.Str.ofString "m_code")) (tCons (tVar 1) (tCons (tTup (tCons (tC (.str (PySem.Str.ofString "code"))) (tCons (tVar 2) tNil))) tNil)))))) (tNever) tNext) (tRet (tDGet2 (tFld K (tOp (uIx K) (tFld K (tVar 0) (PySem.Str.ofString "m_hues")) (tVar 1)) (PySem.Str.ofString "m_changed")) (tVar 2) (tOp (uIx K) (tOp (uIx K) (tFld K (tVar 0) (PySem.Str.ofString "m_code")) (tC (.int 2))) (tVar 2))))))
theorem n_Machine_own {K : Frag} : ∀ args k, F_Machine_own K args k → args.length = 3 := by
  intro args k h
  simp only [F_Machine_own, pD] at h
  all_goals first
    | (exact False.elim h)
    | (repeat (obtain ⟨_, h⟩ := h)
       subst_vars
       rfl)
def t_Machine_go (K : Frag) : TS := (tSeq (tDrop (tCall (spOf K (F_need_steps K)) [] E0 (tCons (tVar 1) tNil))) (tSeq (tAsg (tVar 1) (gName 2)) (tSeq (tWhile ((tAnd (tTest (tOp (uGt K) (tVar 2) (tC (.int 0)))) (tTest (tOp (uEq K) (tFld K (tVar 0) (PySem.Str.ofString "m_state")) (tC (.str (PySem.Str.ofString "running"))))))) (tSeq (tAsg (tOp (uSub K) (tVar 2) (tC (.int 1))) (gName 2)) (tSeq (tDrop (tCallR 0 (spOf K (F_strikes_due K)) E0 (tCons (tVar 0) tNil))) (tDrop (tCallR 0 (spOf K (F_machine_step K)) E0 (tCons (tVar 0) tNil)))))) (sFld K (tVar 0) (tCallR 0 (spOf K (F_next_address K)) E0 (tCons (tVar 0) tNil)) (PySem.Str.ofString "address")))))
theorem n_Machine_go {K : Frag} : ∀ args k, F_Machine_go K args k → args.length = 2 := by
  intro args k h
  simp only [F_Machine_go, pD] at h
  all_goals first
    | (exact False.elim h)
    | (repeat (obtain ⟨_, h⟩ := h)
       subst_vars
       rfl)
def t_Machine_strike (K : Frag) : TS := (tSeq (tDrop (tCall (spOf K (F_need_hue K)) [] E0 (tCons (tFld K (tVar 0) (PySem.Str.ofString "m_code")) (tCons (tVar 1) tNil)))) (tSeq (tIfS (tNot (tTru' K (tCall (spOf K (F_place_fits K)) [] E0 (tCons (tFld K (tVar 0) (PySem.Str.ofString "m_code")) (tCons (tVar 1) (tCons (tVar 2) tNil)))))) (tNever) tNext) (tSeq (tIfS (tNot (tTru' K (tCall (spOf K (F_new_fits K)) [] E0 (tCons (tFld K (tVar 0) (PySem.Str.ofString "m_code")) (tCons (tVar 1) (tCons (tVar 2) (tCons (tVar 3) tNil))))))) (tNever) tNext) (tSeq (tDrop (tMeth (He.ga K "HueState") "struck_at" (spOf K (F_HueState_struck_at K)) [] E0 (tOp (uIx K) (tFld K (tVar 0) (PySem.Str.ofString "m_hues")) (tVar 1)) (tCons (tVar 2) (tCons (tVar 3) tNil)))) (sFld K (tVar 0) (tCallR 0 (spOf K (F_next_address K)) E0 (tCons (tVar 0) tNil)) (PySem.Str.ofString "address"))))))
theorem n_Machine_strike {K : Frag} : ∀ args k, F_Machine_strike K args k → args.length = 4 := by
  intro args k h
  simp only [F_Machine_strike, pD] at h
  all_goals first
    | (exact False.elim h)
    | (repeat (obtain ⟨_, h⟩ := h)
       subst_vars
       rfl)
def t_machine_address (K : Frag) : TS := (tSeq (tPar 2 3 (tCons (tOp (uIx K) (tFld K (tVar 0) (PySem.Str.ofString "m_code")) (tC (.int 0))) (tCons (tOp (uIx K) (tFld K (tVar 0) (PySem.Str.ofString "m_code")) (tC (.int 2))) tNil))) (tSeq (tAsg (tCall (spOf K (F_most_agreed K)) [] E0 (tCons (tLc (iSq K (tFld K (tVar 0) (PySem.Str.ofString "m_hues"))) (gName 4) tYes (tFld K (tVar 4) (PySem.Str.ofString "m_pointer")) [4]) (tCons (tOp (uIx K) (tVar 2) (tOp (uSub K) (tCB (Dl.rLen K) (tCons (tVar 2) tNil)) (tC (.int 1)))) tNil))) (gName 1)) (tRet (tIf ((tAnd (tTest (tOp (uIsNot K) (tVar 1) (tC .non))) (tTest (tOp (uLt K) (tVar 1) (tCB (Dl.rLen K) (tCons (tVar 3) tNil)))))) (tVar 1) (tC .non)))))
theorem n_machine_address {K : Frag} : ∀ args k, F_machine_address K args k → args.length = 1 := by
  intro args k h
  simp only [F_machine_address, pD] at h
  all_goals first
    | (exact False.elim h)
    | (repeat (obtain ⟨_, h⟩ := h)
       subst_vars
       rfl)
def t_next_address (K : Frag) : TS := (tRet (tIf (tTest (tOp (uEq K) (tFld K (tVar 0) (PySem.Str.ofString "m_state")) (tC (.str (PySem.Str.ofString "running"))))) (tCallR 0 (spOf K (F_machine_address K)) E0 (tCons (tVar 0) tNil)) (tC .non)))
theorem n_next_address {K : Frag} : ∀ args k, F_next_address K args k → args.length = 1 := by
  intro args k h
  simp only [F_next_address, pD] at h
  all_goals first
    | (exact False.elim h)
    | (repeat (obtain ⟨_, h⟩ := h)
       subst_vars
       rfl)
def t_strikes_due (K : Frag) : TS := (tSeq (tAsg (tFld K (tVar 0) (PySem.Str.ofString "m_strikes")) (gName 1)) (tWhile ((tAnd (tTest (tOp (uNe K) (tVar 1) (tLst tNil))) (tTest (tOp (uLe K) (tOp (uIx K) (tOp (uIx K) (tVar 1) (tC (.int 0))) (tC (.int 0))) (tFld K (tVar 0) (PySem.Str.ofString "m_steps")))))) (tSeq (tAsg (tBM K "list" rPopAt (tVar 1) (tCons (tC (.int 0)) tNil)) (gTup K 4 (gCons (gName 2) (gCons (gName 3) (gCons (gName 4) (gCons (gName 5) gNil)))))) (tDrop (tMeth (He.ga K "HueState") "struck_at" (spOf K (F_HueState_struck_at K)) [] E0 (tOp (uIx K) (tFld K (tVar 0) (PySem.Str.ofString "m_hues")) (tVar 3)) (tCons (tVar 4) (tCons (tVar 5) tNil)))))))
theorem n_strikes_due {K : Frag} : ∀ args k, F_strikes_due K args k → args.length = 1 := by
  intro args k h
  simp only [F_strikes_due, pD] at h
  all_goals first
    | (exact False.elim h)
    | (repeat (obtain ⟨_, h⟩ := h)
       subst_vars
       rfl)
def t_machine_step (K : Frag) : TS := (tSeq (tPar 3 4 (tCons (tFld K (tVar 0) (PySem.Str.ofString "m_code")) (tCons (tCallR 0 (spOf K (F_machine_address K)) E0 (tCons (tVar 0) tNil)) tNil))) (tSeq (sFld K (tVar 0) (tOp (uAdd K) (tFld K (tVar 0) (PySem.Str.ofString "m_steps")) (tC (.int 1))) (PySem.Str.ofString "m_steps")) (tSeq (tIfS (tTest (tOp (uIs K) (tVar 4) (tC .non))) (tSeq (sFld K (tVar 0) (tC (.str (PySem.Str.ofString "caught"))) (PySem.Str.ofString "m_state")) (tRetN)) tNext) (tSeq (tAsg (tOp (uIx K) (tOp (uIx K) (tVar 3) (tC (.int 2))) (tVar 4)) (gName 1)) (tSeq (tIfS (tTru' K (tCall (spOf K (F_is_settle K)) [] E0 (tCons (tVar 1) tNil))) (tSeq (tDrop (tCallR 0 (spOf K (F_settle_done K)) E0 (tCons (tVar 0) (tCons (tVar 1) (tCons (tOp (uAdd K) (tVar 4) (tC (.int 1))) tNil))))) (tRetN)) tNext) (tSeq (tDrop (tCallR 0 (spOf K (F_point_all K)) E0 (tCons (tVar 0) (tCons (tOp (uAdd K) (tVar 4) (tC (.int 1))) tNil)))) (tSeq (tAsg (tOp (uIx K) (tFld K (tVar 0) (PySem.Str.ofString "m_hues")) (tOp (uIx K) (tVar 1) (tC (.int 0)))) (gName 2)) (tDrop (tMeth (He.ga K "HueState") "instructed" (spOf K (F_HueState_instructed K)) [] E0 (tVar 2) (tCons (tDGet2 (tFld K (tVar 2) (PySem.Str.ofString "m_changed")) (tVar 4) (tVar 1)) (tCons (tOp (uIx K) (tVar 3) (tC (.int 1))) tNil)))))))))))
theorem n_machine_step {K : Frag} : ∀ args k, F_machine_step K args k → args.length = 1 := by
  intro args k h
  simp only [F_machine_step, pD] at h
  all_goals first
    | (exact False.elim h)
    | (repeat (obtain ⟨_, h⟩ := h)
       subst_vars
       rfl)
def t_point_all (K : Frag) : TS := (tFor (iSq K (tFld K (tVar 0) (PySem.Str.ofString "m_hues"))) (gName 2) (sFld K (tVar 2) (tVar 1) (PySem.Str.ofString "m_pointer")))
theorem n_point_all {K : Frag} : ∀ args k, F_point_all K args k → args.length = 2 := by
  intro args k h
  simp only [F_point_all, pD] at h
  all_goals first
    | (exact False.elim h)
    | (repeat (obtain ⟨_, h⟩ := h)
       subst_vars
       rfl)
def t_empty_slots (K : Frag) : TS := (tFor (iSq K (tFld K (tVar 0) (PySem.Str.ofString "m_hues"))) (gName 1) (sFld K (tVar 1) (tC .non) (PySem.Str.ofString "m_slot")))
theorem n_empty_slots {K : Frag} : ∀ args k, F_empty_slots K args k → args.length = 1 := by
  intro args k h
  simp only [F_empty_slots, pD] at h
  all_goals first
    | (exact False.elim h)
    | (repeat (obtain ⟨_, h⟩ := h)
       subst_vars
       rfl)
def t_settle_done (K : Frag) : TS := (tSeq (tPar 3 4 (tCons (tOp (uIx K) (tVar 1) (tC (.int 0))) (tCons (tFld K (tVar 0) (PySem.Str.ofString "m_row")) tNil))) (tIfS (tTest (tOp (uIn K) (tVar 3) (tTup (tCons (tC (.str (PySem.Str.ofString "show"))) (tCons (tC (.str (PySem.Str.ofString "turn"))) tNil))))) (tSeq (tAsg (tOp (uIx K) (tFld K (tVar 0) (PySem.Str.ofString "m_code")) (tC (.int 0))) (gName 5)) (tSeq (tAsg (tLc (iSq K (tSl (rSlU K) (tFld K (tVar 0) (PySem.Str.ofString "m_hues")) tNoPart (tPart (tOp (uIx K) (tVar 1) (tC (.int 2)))))) (gName 9) (tTest (tOp (uIsNot K) (tFld K (tVar 9) (PySem.Str.ofString "m_slot")) (tC .non))) (tFld K (tVar 9) (PySem.Str.ofString "m_slot")) [9]) (gName 6)) (tSeq (tAsg (tIf (tTest (tOp (uNe K) (tVar 6) (tLst tNil))) (tCall (spOf K (F_most_agreed K)) [] E0 (tCons (tVar 6) (tCons (tOp (uIx K) (tVar 5) (tOp (uSub K) (tOp (uIx K) (tVar 1) (tC (.int 2))) (tC (.int 1)))) tNil))) (tC .non)) (gName 7)) (tSeq (tIfS (tTest (tOp (uIs K) (tVar 7) (tC .non))) (tSeq (sFld K (tVar 0) (tC (.str (PySem.Str.ofString "caught"))) (PySem.Str.ofString "m_state")) (tRetN)) tNext) (tSeq (tDrop (tCallR 0 (spOf K (F_point_all K)) E0 (tCons (tVar 0) (tCons (tIf ((tAnd (tTest (tOp (uEq K) (tVar 3) (tC (.str (PySem.Str.ofString "turn"))))) (tTest (tOp (uNe K) (tVar 7) (tC (.int 0)))))) (tOp (uIx K) (tVar 1) (tC (.int 1))) (tVar 2)) tNil)))) (tSeq (tDrop (tCallR 0 (spOf K (F_empty_slots K)) E0 (tCons (tVar 0) tNil))) (tIfS (tTest (tOp (uEq K) (tVar 3) (tC (.str (PySem.Str.ofString "show"))))) (tDrop (tBM K "list" rAppend (tVar 4) (tCons (tTup (tCons (tC (.str (PySem.Str.ofString "show"))) (tCons (tOp (uIx K) (tVar 1) (tC (.int 1))) (tCons (tVar 7) tNil)))) tNil))) tNext))))))) (tIfS (tTest (tOp (uEq K) (tVar 3) (tC (.str (PySem.Str.ofString "take"))))) (tSeq (tAsg (tIf (tTest (tOp (uNe K) (tFld K (tVar 0) (PySem.Str.ofString "m_left")) (tLst tNil))) (tOp (uMod K) (tBM K "list" rPopAt (tFld K (tVar 0) (PySem.Str.ofString "m_left")) (tCons (tC (.int 0)) tNil)) (tOp (uIx K) (tFld K (tVar 0) (PySem.Str.ofString "m_code")) (tC (.int 1)))) (tC (.int 0))) (gName 8)) (tSeq (tDrop (tCallR 0 (spOf K (F_point_all K)) E0 (tCons (tVar 0) (tCons (tVar 2) tNil)))) (tSeq (tDrop (tBM K "list" rAppend (tVar 4) (tCons (tTup (tCons (tC (.str (PySem.Str.ofString "take"))) (tCons (tVar 8) tNil))) tNil))) (tFor (iSq K (tSl (rSlU K) (tFld K (tVar 0) (PySem.Str.ofString "m_hues")) tNoPart (tPart (tOp (uIx K) (tVar 1) (tC (.int 2)))))) (gName 9) (tSeq (tAsg (tFld K (tVar 9) (PySem.Str.ofString "m_registers")) (gName 10)) (tAsg (tVar 8) (gSub (tVar 10) (tOp (uIx K) (tVar 1) (tC (.int 1))) rSetL))))))) (tIfS (tTest (tOp (uEq K) (tVar 3) (tC (.str (PySem.Str.ofString "mark"))))) (tDrop (tCallR 0 (spOf K (F_mark_done K)) E0 (tCons (tVar 0) (tCons (tVar 2) tNil)))) (tSeq (tDrop (tCallR 0 (spOf K (F_point_all K)) E0 (tCons (tVar 0) (tCons (tIf (tTest (tOp (uEq K) (tVar 3) (tC (.str (PySem.Str.ofString "goto"))))) (tOp (uIx K) (tVar 1) (tC (.int 1))) (tVar 2)) tNil)))) (tIfS (tTest (tOp (uEq K) (tVar 3) (tC (.str (PySem.Str.ofString "stop"))))) (tSeq (tDrop (tBM K "list" rAppend (tVar 4) (tCons (tTup (tCons (tC (.str (PySem.Str.ofString "stop"))) tNil)) tNil))) (sFld K (tVar 0) (tC (.str (PySem.Str.ofString "stopped"))) (PySem.Str.ofString "m_state"))) tNext))))))
theorem n_settle_done {K : Frag} : ∀ args k, F_settle_done K args k → args.length = 3 := by
  intro args k h
  simp only [F_settle_done, pD] at h
  all_goals first
    | (exact False.elim h)
    | (repeat (obtain ⟨_, h⟩ := h)
       subst_vars
       rfl)
def t_mark_done (K : Frag) : TS := (tSeq (tAsg (tOp (uIx K) (tFld K (tVar 0) (PySem.Str.ofString "m_code")) (tC (.int 0))) (gName 2)) (tSeq (tAsg (tLc (iSq K (tFld K (tVar 0) (PySem.Str.ofString "m_hues"))) (gName 5) tYes (tTup (tCons (tFld K (tVar 5) (PySem.Str.ofString "m_registers")) (tCons (tFld K (tVar 5) (PySem.Str.ofString "m_bank")) tNil))) [5]) (gName 3)) (tSeq (tAsg (tCall (spOf K (F_most_agreed K)) [] E0 (tCons (tVar 3) (tCons (tOp (uIx K) (tVar 2) (tOp (uSub K) (tCB (Dl.rLen K) (tCons (tVar 2) tNil)) (tC (.int 1)))) tNil))) (gName 4)) (tSeq (tIfS (tTest (tOp (uIs K) (tVar 4) (tC .non))) (tSeq (sFld K (tVar 0) (tC (.str (PySem.Str.ofString "caught"))) (PySem.Str.ofString "m_state")) (tRetN)) tNext) (tSeq (tPar 6 7 (tCons (tCB (rListU K) (tCons (tOp (uIx K) (tVar 4) (tC (.int 0))) tNil)) (tCons (tCB (rListU K) (tCons (tOp (uIx K) (tVar 4) (tC (.int 1))) tNil)) tNil))) (tSeq (tFor (iSq K (tFld K (tVar 0) (PySem.Str.ofString "m_hues"))) (gName 5) (tAsg (tTup (tCons (tCB (rListU K) (tCons (tVar 6) tNil)) (tCons (tCB (rListU K) (tCons (tVar 7) tNil)) (tCons (tDNewK) tNil)))) (gTup K 3 (gCons (gFld K (tVar 5) (PySem.Str.ofString "m_registers")) (gCons (gFld K (tVar 5) (PySem.Str.ofString "m_bank")) (gCons (gFld K (tVar 5) (PySem.Str.ofString "m_changed")) gNil)))))) (tSeq (tDrop (tCallR 0 (spOf K (F_point_all K)) E0 (tCons (tVar 0) (tCons (tVar 1) tNil)))) (tDrop (tCallR 0 (spOf K (F_empty_slots K)) E0 (tCons (tVar 0) tNil))))))))))
theorem n_mark_done {K : Frag} : ∀ args k, F_mark_done K args k → args.length = 2 := by
  intro args k h
  simp only [F_mark_done, pD] at h
  all_goals first
    | (exact False.elim h)
    | (repeat (obtain ⟨_, h⟩ := h)
       subst_vars
       rfl)
def t_struck (K : Frag) : TS := (tSeq (tAsg (tMake (He.ga K "Machine") (spOf K (F_Machine___init__ K)) [] E0 (tCons (tVar 0) (tCons (tVar 1) (tCons (tVar 2) tNil)))) (gName 4)) (tSeq (tDrop (tMethR 4 (He.ga K "Machine") "go" (spOf K (F_Machine_go K)) E0 (tVar 4) (tCons (tVar 3) tNil))) (tRet (tVar 4))))
theorem n_struck {K : Frag} : ∀ args k, F_struck K args k → args.length = 4 := by
  intro args k h
  simp only [F_struck, pD] at h
  all_goals first
    | (exact False.elim h)
    | (repeat (obtain ⟨_, h⟩ := h)
       subst_vars
       rfl)
def t_own_cells (K : Frag) : TS := (tRet (tLc (iEnumU K (tCons (tOp (uIx K) (tVar 0) (tC (.int 2))) tNil)) (gTup K 2 (gCons (gName 2) (gCons (gName 3) gNil))) ((tAnd (tNot (tTru' K (tCall (spOf K (F_is_settle K)) [] E0 (tCons (tVar 3) tNil)))) (tTest (tOp (uEq K) (tOp (uIx K) (tVar 3) (tC (.int 0))) (tVar 1))))) (tTup (tCons (tVar 2) (tCons (tVar 3) tNil))) [2, 3]))
theorem n_own_cells {K : Frag} : ∀ args k, F_own_cells K args k → args.length = 2 := by
  intro args k h
  simp only [F_own_cells, pD] at h
  all_goals first
    | (exact False.elim h)
    | (repeat (obtain ⟨_, h⟩ := h)
       subst_vars
       rfl)
def t_Machine_moment (K : Frag) : TS := (tSeq (tAsg (tLst tNil) (gName 1)) (tSeq (tFor (iEnumU K (tCons (tFld K (tVar 0) (PySem.Str.ofString "m_hues")) tNil)) (gTup K 2 (gCons (gName 2) (gCons (gName 3) gNil))) (tSeq (tAsg (tCB (rTupU K) (tCons (tLc (iSq K (tCall (spOf K (F_own_cells K)) [] E0 (tCons (tFld K (tVar 0) (PySem.Str.ofString "m_code")) (tCons (tVar 2) tNil)))) (gTup K 2 (gCons (gName 5) (gCons (gName 6) gNil))) tYes (tDGet2 (tFld K (tVar 3) (PySem.Str.ofString "m_changed")) (tVar 5) (tVar 6)) [5, 6]) tNil)) (gName 4)) (tDrop (tBM K "list" rAppend (tVar 1) (tCons (tTup (tCons (tCB (rTupU K) (tCons (tFld K (tVar 3) (PySem.Str.ofString "m_registers")) tNil)) (tCons (tCB (rTupU K) (tCons (tFld K (tVar 3) (PySem.Str.ofString "m_bank")) tNil)) (tCons (tFld K (tVar 3) (PySem.Str.ofString "m_pointer")) (tCons (tFld K (tVar 3) (PySem.Str.ofString "m_slot")) (tCons (tVar 4) tNil)))))) tNil))))) (tRet (tTup (tCons (tCB (rTupU K) (tCons (tVar 1) tNil)) (tCons (tTup (tCons (tFld K (tVar 0) (PySem.Str.ofString "m_state")) (tCons (tCB (rTupU K) (tCons (tFld K (tVar 0) (PySem.Str.ofString "m_left")) tNil)) tNil))) tNil))))))
theorem n_Machine_moment {K : Frag} : ∀ args k, F_Machine_moment K args k → args.length = 1 := by
  intro args k h
  simp only [F_Machine_moment, pD] at h
  all_goals first
    | (exact False.elim h)
    | (repeat (obtain ⟨_, h⟩ := h)
       subst_vars
       rfl)
end Hw
namespace Hw
open PySem PySem.Spec PyProof.Rows L2 Dl
local macro_rules | `(tactic| walk_at "dbt") => `(tactic| first | assumption | rfl | (decide +kernel) | (simp [isFromD, *]; done) | (simp [isFromD, *]; omega))
local macro_rules | `(tactic| walk_at "d1") => `(tactic| first
  | with_reducible refine x_seq ?_ | with_reducible refine x_if' ?_ | with_reducible refine x_ret ?_ | with_reducible refine x_asg ?_ | with_reducible refine x_next ?_ | with_reducible refine x_expr ?_
  | with_reducible refine e_isi2 (by decide) (by decide) ?_
  | with_reducible refine e_dat rfl ?_ | with_reducible refine e_int ?_ | with_reducible refine e_str ?_ | with_reducible refine e_bl ?_ | with_reducible refine e_non ?_ | with_reducible refine e_op ?_ | with_reducible refine e_cb ?_ | with_reducible refine e_call ?_
  | with_reducible refine a_cons ?_ | with_reducible refine a_nil ?_
  | with_reducible refine b_test ?_ | with_reducible refine b_not ?_ | with_reducible refine b_and' ?_ | with_reducible refine b_or' ?_ | with_reducible refine b_tru ?_
  | with_reducible refine e_andV' ?_ | with_reducible refine e_orV' ?_ | with_reducible refine e_notV ?_ | with_reducible refine e_chain' ?_ | with_reducible refine e_if' ?_ | with_reducible refine e_c ?_ | with_reducible refine e_sl ?_ | with_reducible refine o_no ?_ | with_reducible refine o_some ?_ | with_reducible refine e_neg ?_
  | with_reducible refine e_raw rfl ?_ | with_reducible refine e_res rfl ?_ | with_reducible refine g_name ?_
  | with_reducible refine op_add_i ?_ | with_reducible refine op_sub_i ?_ | with_reducible refine op_lt_i ?_ | with_reducible refine op_le_i ?_ | with_reducible refine op_gt_i ?_ | with_reducible refine op_ge_i ?_ | with_reducible refine op_isnone ?_ | with_reducible refine op_notnone ?_
  | with_reducible refine cb_isi (by decide) ?_ | with_reducible refine cb_max2 ?_ | with_reducible refine cb_min2 ?_ | with_reducible refine cb_abs ?_ | with_reducible refine cb_int ?_ | with_reducible refine cb_len rfl ?_
  | with_reducible refine iteT ?_ | with_reducible refine iteF ?_ | ((with_reducible refine iT ?_ ?_); focus (walk_at "dbt"; done)) | ((with_reducible refine iF ?_ ?_); focus (walk_at "dbt"; done))
  | ((with_reducible refine g_tup ?_ ?_); (focus rfl)) | with_reducible refine gs_cons ?_ | with_reducible refine gs_nil ?_
  | with_reducible refine e_tup' ?_ | with_reducible refine e_lst' ?_ | with_reducible refine op_in2 ?_ | with_reducible refine op_ni3 ?_
  | with_reducible refine op_eq_ii ?_ | with_reducible refine op_ne_ii ?_ | ((with_reducible refine op_eq_ss ?_ ?_ ?_); (focus (decide +kernel)); (focus (decide +kernel))) | ((with_reducible refine op_ne_ss ?_ ?_ ?_); (focus (decide +kernel)); (focus (decide +kernel)))
  | ((with_reducible refine op_eq_d ?_ ?_ ?_); (focus (walk_at "dbt")); (focus (walk_at "dbt")))
  | ((with_reducible refine op_ne_d ?_ ?_ ?_); (focus (walk_at "dbt")); (focus (walk_at "dbt")))
  | ((with_reducible refine op_ix' ?_); refine Exists.intro _ (Exists.intro _ (And.intro rfl (And.intro rfl ?_))))
  | ((with_reducible refine op_mul_il ?_ ?_); (focus (decide +kernel))) | ((with_reducible refine op_mul_ir ?_ ?_); (focus (decide +kernel)))
  | ((with_reducible refine And.intro (a := smallL _ = true) ?_ ?_); (focus rfl)) | ((with_reducible refine And.intro (a := Pers _) ?_ ?_); (focus trivial)) | with_reducible refine d_cons ?_ | with_reducible refine d_nil ?_
  | (with_reducible refine Exists.intro _ (And.intro rfl ?_)) | (with_reducible refine Exists.intro _ (Exists.intro _ (And.intro rfl (And.intro rfl ?_)))) | refine Exists.intro _ (And.intro rfl (And.intro (by rfl) ?_)) | refine Exists.intro _ (Exists.intro _ (And.intro rfl (And.intro rfl ?_))) | with_reducible refine dat_ok ?_ | dsimp only | fail)
local macro_rules | `(tactic| walk_at "d2") => `(tactic| first | walk_at "d1" | with_reducible refine iteB (fun _ => ?_) (fun _ => ?_))
section
variable {K : Frag}
theorem b__wall (T : MT K) : ∀ args k, F__wall K args k → ExS K (t__wall K) (args ++ List.replicate (1 - args.length) .no) (fnOut args k) := fun _ _ h => h.elim
theorem b_is_whole (T : MT K) : ∀ args k, F_is_whole K args k → ExS K (t_is_whole K) (args ++ List.replicate (1 - args.length) .no) (fnOut args k) := by
  rintro args k ⟨d, h⟩
  refine bodyD (Γ := [.dat d]) h rfl ?_
  unfold t_is_whole
  repeat' walk_at "d2"
  all_goals (congr 1; simp [isWholeD, *])
theorem u_is_whole {d : PyData} {k : Sl → List Sl → Prop} (h : k (.dat (.bool (isWholeD d))) [.dat d]) : F_is_whole K [.dat d] k := ⟨d, rfl, h⟩
local macro_rules | `(tactic| walk_at "d1") => `(tactic| with_reducible refine u_is_whole ?_)
theorem b_is_from (T : MT K) : ∀ args k, F_is_from K args k → ExS K (t_is_from K) (args ++ List.replicate (3 - args.length) .no) (fnOut args k) := by
  rintro args k ⟨d, lo, hi, h⟩
  refine bodyD (Γ := [.dat d, .dat (.int lo), .dat (.int hi)]) h rfl ?_
  unfold t_is_from
  cases d
  all_goals repeat' walk_at "d2"
  all_goals first | rfl | (congr 1; simp [isFromD, *])
theorem u_is_from {d : PyData} {lo hi : Int} {k : Sl → List Sl → Prop} (h : k (.dat (.bool (isFromD d lo hi))) [.dat d, .dat (.int lo), .dat (.int hi)]) : F_is_from K [.dat d, .dat (.int lo), .dat (.int hi)] k := ⟨d, lo, hi, rfl, h⟩
local macro_rules | `(tactic| walk_at "d1") => `(tactic| with_reducible refine u_is_from ?_)
theorem fm_true {n lo hi : Int} (h1 : lo ≤ n) (h2 : n ≤ hi) : isFromD (.int n) lo hi = true := by simp [isFromD, h1, h2]
theorem e_allok {i : Nat} {tl : TE} {tt : TT} {k : Sl → List Sl → Prop} {Γ : List Sl} (h : EvP K tl Γ fun r Γ1 => ∃ d ds, r = .dat d ∧ seqD d = some ds ∧
    (∀ x ∈ ds, EvB K tt ((Γ1.set i .no).set i (.dat x)) fun b Γ2 => b = false ∧ Γ2.set i .no = Γ1.set i .no) ∧ k (.dat (.bool true)) (Γ1.set i .no)) : EvP K (tOp (uEq K) (tLc (iSq K tl) (gName i) tt (tVar i) [i]) (tLst tNil)) Γ k := by
  refine e_op (e_lc1 (fun _ => false) id (h.mono fun r Γ1 ⟨d, ds, e1, e2, h1, h2⟩ => ⟨d, ds, e1, e2, fun x hx => (h1 x hx).mono fun b Γ2 ⟨q1, q2⟩ => ⟨q1, ?_⟩, ?_⟩))
  · rw [if_neg (by decide)]
    exact q2
  · refine e_lst (a_nil ⟨[], rfl, by decide, ?_⟩)
    rw [show (ds.filter fun _ => false) = [] by simp]
    exact op_eq_d (by decide +kernel) (by decide +kernel) h2
theorem e_allokN {i : Nat} {tl : TE} {tt : TT} {k : Sl → List Sl → Prop} {Γ : List Sl} (h : EvP K tl Γ fun r Γ1 => ∃ d ds, r = .dat d ∧ seqD d = some ds ∧
    (∀ x ∈ ds, EvB K tt ((Γ1.set i .no).set i (.dat x)) fun b Γ2 => b = false ∧ Γ2.set i .no = Γ1.set i .no) ∧ k (.dat (.bool false)) (Γ1.set i .no)) : EvP K (tOp (uNe K) (tLc (iSq K tl) (gName i) tt (tVar i) [i]) (tLst tNil)) Γ k := by
  refine e_op (e_lc1 (fun _ => false) id (h.mono fun r Γ1 ⟨d, ds, e1, e2, h1, h2⟩ => ⟨d, ds, e1, e2, fun x hx => (h1 x hx).mono fun b Γ2 ⟨q1, q2⟩ => ⟨q1, ?_⟩, ?_⟩))
  · rw [if_neg (by decide)]
    exact q2
  · refine e_lst (a_nil ⟨[], rfl, by decide, ?_⟩)
    rw [show (ds.filter fun _ => false) = [] by simp]
    exact op_ne_d (by decide +kernel) (by decide +kernel) h2
local macro_rules | `(tactic| walk_at "d1") => `(tactic| with_reducible refine e_allok ?_)
local macro_rules | `(tactic| walk_at "d1") => `(tactic| with_reducible refine e_allokN ?_)
theorem b_are_inputs (T : MT K) : ∀ args k, F_are_inputs K args k → ExS K (t_are_inputs K) (args ++ List.replicate (2 - args.length) .no) (fnOut args k) := by
  rintro args k ⟨ns, d, ⟨hl, hn⟩, hd, h⟩
  have core : ∀ x ∈ iL ns, EvB K (tNot (tTru' K (tCall (spOf K (F_is_from K)) [] E0 (tCons (tVar 1) (tCons (tC (.int 0)) (tCons (tC (.int 9999)) tNil)))))) [.dat d, .dat x] fun b Γ2 => b = false ∧ Γ2.set 1 .no = [.dat d, .no] := fun x hx => by
    obtain ⟨n, hm, rfl⟩ := List.mem_map.mp hx
    repeat' walk_at "d1"
    exact ⟨by rw [fm_true (hn n hm).1 (hn n hm).2]; rfl, rfl⟩
  have hlen : (iL ns).length = ns.length := iL_len
  rcases hd with rfl | rfl
  · refine bodyD (Γ := [.dat (.list (iL ns)), .no]) h rfl ?_
    unfold t_are_inputs
    repeat' walk_at "d1"
    exact ⟨core, rfl⟩
  · refine bodyD (Γ := [.dat (.tuple (iL ns)), .no]) h rfl ?_
    unfold t_are_inputs
    repeat' walk_at "d1"
    exact ⟨core, rfl⟩
theorem u_are_inputs {ns : List Int} {d : PyData} {k : Sl → List Sl → Prop} (hl : ns.length ≤ 400 ∧ ∀ n ∈ ns, insOkR n) (hd : seqOf d (iL ns)) (h : k (.dat (.bool true)) [.dat d]) : F_are_inputs K [.dat d] k := ⟨ns, d, hl, hd, rfl, h⟩
local macro_rules | `(tactic| walk_at "d1") => `(tactic| with_reducible refine u_are_inputs (by assumption) (by assumption) ?_)
theorem b_is_votes (T : MT K) : ∀ args k, F_is_votes K args k → ExS K (t_is_votes K) (args ++ List.replicate (3 - args.length) .no) (fnOut args k) := by
  rintro args k ⟨vs, ⟨h1, h5, hv⟩, h⟩
  refine bodyD (Γ := [.dat (.tuple (iL vs)), .no, .no]) h rfl ?_
  unfold t_is_votes
  have hl : (iL vs).length = vs.length := List.length_map ..
  repeat' walk_at "d1"
  refine x_for (i_enumS ?_)
  repeat' walk_at "d1"
  refine ⟨_, _, _, rfl, by decide, by decide, rfl, fun _ => ?_⟩
  refine ⟨fun i Γ => ∃ x y, Γ = [.dat (.tuple (iL vs)), x, y], ⟨_, _, rfl⟩, fun _ _ _ _ => trivial, fun i Γ hi ⟨x, y, e⟩ => ?_, fun Γ ⟨x, y, e⟩ => ?_⟩
  · subst e
    rw [hl] at hi
    obtain ⟨v, hvi⟩ : ∃ v, vs[i]? = some v := ⟨_, List.getElem?_eq_getElem hi⟩
    have hd : (iL vs).getD i .none = .int v := by
      rw [List.getD_eq_getElem?_getD, iL, List.getElem?_map, hvi]; rfl
    show EvG K _ (.dat (.tuple [.int (1 + (i : Int)), (iL vs).getD i .none])) _ _
    rw [hd]
    refine g_tup rfl (gs_cons (g_name (gs_cons (g_name (gs_nil ?_)))))
    have q := hv i v hvi
    repeat' walk_at "d1"
    exact ⟨_, _, rfl⟩
  · subst e
    repeat' walk_at "d1"
theorem u_is_votes {vs : List Int} {k : Sl → List Sl → Prop} (hv : votesOk vs) (h : k (.dat (.bool true)) [.dat (.tuple (iL vs))]) : F_is_votes K [.dat (.tuple (iL vs))] k := ⟨vs, hv, rfl, h⟩
local macro_rules | `(tactic| walk_at "d1") => `(tactic| with_reducible refine u_is_votes (by assumption) ?_)
theorem b_are_registers (T : MT K) : ∀ args k, F_are_registers K args k → ExS K (t_are_registers K) (args ++ List.replicate (2 - args.length) .no) (fnOut args k) := by
  rintro args k ⟨ns, hn, h⟩
  refine bodyD (Γ := [.dat (.tuple (iL ns)), .no]) h rfl ?_
  unfold t_are_registers
  repeat' walk_at "d1"
  refine ⟨fun x hx => ?_, rfl⟩
  obtain ⟨n, hm, rfl⟩ := List.mem_map.mp hx
  repeat' walk_at "d1"
  exact ⟨by show (!isFromD (.int n) 0 7) = false; rw [fm_true (hn n hm).1 (hn n hm).2]; rfl, rfl⟩
theorem u_are_registers {ns : List Int} {d : PyData} {k : Sl → List Sl → Prop} (e : d = .tuple (iL ns)) (hv : ∀ n ∈ ns, regOk n) (h : k (.dat (.bool true)) [.dat d]) : F_are_registers K [.dat d] k := by
  subst e
  exact ⟨ns, hv, rfl, h⟩
theorem u_reg1 {g : Int} {k : Sl → List Sl → Prop} (hv : regOk g) (h : k (.dat (.bool true)) [.dat (.tuple [.int g])]) : F_are_registers K [.dat (.tuple [.int g])] k := u_are_registers (ns := [g]) rfl (fun n hn => by simp at hn; rw [hn]; exact hv) h
theorem u_reg2 {g c : Int} {k : Sl → List Sl → Prop} (h1 : regOk g) (h2 : regOk c) (h : k (.dat (.bool true)) [.dat (.tuple [.int g, .int c])]) : F_are_registers K [.dat (.tuple [.int g, .int c])] k := u_are_registers (ns := [g, c]) rfl (fun n hn => by simp at hn; rcases hn with rfl | rfl <;> assumption) h
theorem u_reg3 {g c e : Int} {k : Sl → List Sl → Prop} (h1 : regOk g) (h2 : regOk c) (h3 : regOk e) (h : k (.dat (.bool true)) [.dat (.tuple [.int g, .int c, .int e])]) : F_are_registers K [.dat (.tuple [.int g, .int c, .int e])] k := u_are_registers (ns := [g, c, e]) rfl (fun n hn => by simp at hn; rcases hn with rfl | rfl | rfl <;> assumption) h
local macro_rules | `(tactic| walk_at "d1") => `(tactic| first | refine u_reg1 (by assumption) ?_ | refine u_reg2 (by assumption) (by assumption) ?_ | refine u_reg3 (by assumption) (by assumption) (by assumption) ?_)
local macro_rules | `(tactic| walk_at "d1") => `(tactic| with_reducible refine e_cd (MT.twosD (by assumption)) ?_)
theorem b_instruction_fits (T : MT K) : ∀ args k, F_instruction_fits K args k → ExS K (t_instruction_fits K) (args ++ List.replicate (5 - args.length) .no) (fnOut args k) := by
  rintro args k ⟨i, h, size, many, hi, hh⟩
  cases i with
  | set g v =>
    obtain ⟨hg, v0, v1⟩ := hi
    refine bodyD (Γ := [.dat (.tuple [.int h, .str (PySem.Str.ofString "set"), .int g, .int v]), .dat (.int h), .dat (.int size), .dat (.int many), .no]) hh rfl ?_
    unfold t_instruction_fits
    repeat' walk_at "d1"
    rw [fm_true v0 v1]
  | offer r =>
    have hr : regOk r := hi
    refine bodyD (Γ := [.dat (.tuple [.int h, .str (PySem.Str.ofString "offer"), .int r]), .dat (.int h), .dat (.int size), .dat (.int many), .no]) hh rfl ?_
    unfold t_instruction_fits
    repeat' walk_at "d1"
  | get g c b l =>
    obtain ⟨hg, hc, b0, b1, l0, l1⟩ := hi
    refine bodyD (Γ := [.dat (.tuple [.int h, .str (PySem.Str.ofString "get"), .int g, .int c, .int b, .int l]), .dat (.int h), .dat (.int size), .dat (.int many), .no]) hh rfl ?_
    unfold t_instruction_fits
    repeat' walk_at "d1"
    rw [fm_true l0 l1]
  | put g c b l =>
    obtain ⟨hg, hc, b0, b1, l0, l1⟩ := hi
    refine bodyD (Γ := [.dat (.tuple [.int h, .str (PySem.Str.ofString "put"), .int g, .int c, .int b, .int l]), .dat (.int h), .dat (.int size), .dat (.int many), .no]) hh rfl ?_
    unfold t_instruction_fits
    repeat' walk_at "d1"
    rw [fm_true l0 l1]
  | two w g a b =>
    obtain ⟨hw, hg, ha, hb⟩ := hi
    simp only [twos, List.mem_cons, List.not_mem_nil, or_false] at hw
    rcases hw with rfl | rfl | rfl | rfl | rfl | rfl
    · refine bodyD (Γ := [.dat (.tuple [.int h, .str (PySem.Str.ofString "plus"), .int g, .int a, .int b]), .dat (.int h), .dat (.int size), .dat (.int many), .no]) hh rfl ?_
      unfold t_instruction_fits
      repeat' walk_at "d1"
      refine op_in_strs (ws := twos) rfl ⟨true, by congr 2, ?_⟩
      repeat' walk_at "d1"
    · refine bodyD (Γ := [.dat (.tuple [.int h, .str (PySem.Str.ofString "minus"), .int g, .int a, .int b]), .dat (.int h), .dat (.int size), .dat (.int many), .no]) hh rfl ?_
      unfold t_instruction_fits
      repeat' walk_at "d1"
      refine op_in_strs (ws := twos) rfl ⟨true, by congr 2, ?_⟩
      repeat' walk_at "d1"
    · refine bodyD (Γ := [.dat (.tuple [.int h, .str (PySem.Str.ofString "times"), .int g, .int a, .int b]), .dat (.int h), .dat (.int size), .dat (.int many), .no]) hh rfl ?_
      unfold t_instruction_fits
      repeat' walk_at "d1"
      refine op_in_strs (ws := twos) rfl ⟨true, by congr 2, ?_⟩
      repeat' walk_at "d1"
    · refine bodyD (Γ := [.dat (.tuple [.int h, .str (PySem.Str.ofString "rest"), .int g, .int a, .int b]), .dat (.int h), .dat (.int size), .dat (.int many), .no]) hh rfl ?_
      unfold t_instruction_fits
      repeat' walk_at "d1"
      refine op_in_strs (ws := twos) rfl ⟨true, by congr 2, ?_⟩
      repeat' walk_at "d1"
    · refine bodyD (Γ := [.dat (.tuple [.int h, .str (PySem.Str.ofString "less"), .int g, .int a, .int b]), .dat (.int h), .dat (.int size), .dat (.int many), .no]) hh rfl ?_
      unfold t_instruction_fits
      repeat' walk_at "d1"
      refine op_in_strs (ws := twos) rfl ⟨true, by congr 2, ?_⟩
      repeat' walk_at "d1"
    · refine bodyD (Γ := [.dat (.tuple [.int h, .str (PySem.Str.ofString "same"), .int g, .int a, .int b]), .dat (.int h), .dat (.int size), .dat (.int many), .no]) hh rfl ?_
      unfold t_instruction_fits
      repeat' walk_at "d1"
      refine op_in_strs (ws := twos) rfl ⟨true, by congr 2, ?_⟩
      repeat' walk_at "d1"
theorem u_instruction_fits {i : Ins} {h size many : Int} {k : Sl → List Sl → Prop} (hi : insOk size many i) (hk : k (.dat (.bool true)) [.dat (insD h i), .dat (.int h), .dat (.int size), .dat (.int many)]) : F_instruction_fits K [.dat (insD h i), .dat (.int h), .dat (.int size), .dat (.int many)] k := ⟨i, h, size, many, hi, rfl, hk⟩
end
end Hw
namespace Hw
open PySem PySem.Spec PyProof.Rows L2 Dl
local macro_rules | `(tactic| walk_at "dbt") => `(tactic| first | assumption | rfl | (decide +kernel) | (simp [isFromD, *]; done) | (simp [isFromD, *]; omega))
local macro_rules | `(tactic| walk_at "d1") => `(tactic| first
  | with_reducible refine x_seq ?_ | with_reducible refine x_if' ?_ | with_reducible refine x_ret ?_ | with_reducible refine x_asg ?_ | with_reducible refine x_next ?_ | with_reducible refine x_expr ?_
  | with_reducible refine e_isi2 (by decide) (by decide) ?_
  | with_reducible refine e_dat rfl ?_ | with_reducible refine e_int ?_ | with_reducible refine e_str ?_ | with_reducible refine e_bl ?_ | with_reducible refine e_non ?_ | with_reducible refine e_op ?_ | with_reducible refine e_cb ?_ | with_reducible refine e_call ?_
  | with_reducible refine a_cons ?_ | with_reducible refine a_nil ?_
  | with_reducible refine b_test ?_ | with_reducible refine b_not ?_ | with_reducible refine b_and' ?_ | with_reducible refine b_or' ?_ | with_reducible refine b_tru ?_
  | with_reducible refine e_andV' ?_ | with_reducible refine e_orV' ?_ | with_reducible refine e_notV ?_ | with_reducible refine e_chain' ?_ | with_reducible refine e_if' ?_ | with_reducible refine e_c ?_ | with_reducible refine e_sl ?_ | with_reducible refine o_no ?_ | with_reducible refine o_some ?_ | with_reducible refine e_neg ?_
  | with_reducible refine e_raw rfl ?_ | with_reducible refine e_res rfl ?_ | with_reducible refine g_name ?_
  | with_reducible refine op_add_i ?_ | with_reducible refine op_sub_i ?_ | with_reducible refine op_lt_i ?_ | with_reducible refine op_le_i ?_ | with_reducible refine op_gt_i ?_ | with_reducible refine op_ge_i ?_ | with_reducible refine op_isnone ?_ | with_reducible refine op_notnone ?_
  | with_reducible refine cb_isi (by decide) ?_ | with_reducible refine cb_max2 ?_ | with_reducible refine cb_min2 ?_ | with_reducible refine cb_abs ?_ | with_reducible refine cb_int ?_ | with_reducible refine cb_len rfl ?_
  | with_reducible refine iteT ?_ | with_reducible refine iteF ?_ | ((with_reducible refine iT ?_ ?_); focus (walk_at "dbt"; done)) | ((with_reducible refine iF ?_ ?_); focus (walk_at "dbt"; done))
  | ((with_reducible refine g_tup ?_ ?_); (focus rfl)) | with_reducible refine gs_cons ?_ | with_reducible refine gs_nil ?_
  | with_reducible refine e_tup' ?_ | with_reducible refine e_lst' ?_ | with_reducible refine op_in2 ?_ | with_reducible refine op_ni3 ?_
  | with_reducible refine op_eq_ii ?_ | with_reducible refine op_ne_ii ?_ | ((with_reducible refine op_eq_ss ?_ ?_ ?_); (focus (decide +kernel)); (focus (decide +kernel))) | ((with_reducible refine op_ne_ss ?_ ?_ ?_); (focus (decide +kernel)); (focus (decide +kernel)))
  | ((with_reducible refine op_eq_d ?_ ?_ ?_); (focus (walk_at "dbt")); (focus (walk_at "dbt")))
  | ((with_reducible refine op_ne_d ?_ ?_ ?_); (focus (walk_at "dbt")); (focus (walk_at "dbt")))
  | ((with_reducible refine op_ix' ?_); refine Exists.intro _ (Exists.intro _ (And.intro rfl (And.intro rfl ?_))))
  | ((with_reducible refine op_mul_il ?_ ?_); (focus (decide +kernel))) | ((with_reducible refine op_mul_ir ?_ ?_); (focus (decide +kernel)))
  | ((with_reducible refine And.intro (a := smallL _ = true) ?_ ?_); (focus rfl)) | ((with_reducible refine And.intro (a := Pers _) ?_ ?_); (focus trivial)) | with_reducible refine d_cons ?_ | with_reducible refine d_nil ?_
  | (with_reducible refine Exists.intro _ (And.intro rfl ?_)) | (with_reducible refine Exists.intro _ (Exists.intro _ (And.intro rfl (And.intro rfl ?_)))) | refine Exists.intro _ (And.intro rfl (And.intro (by rfl) ?_)) | refine Exists.intro _ (Exists.intro _ (And.intro rfl (And.intro rfl ?_))) | with_reducible refine dat_ok ?_ | dsimp only | fail)
local macro_rules | `(tactic| walk_at "d2") => `(tactic| first | walk_at "d1" | with_reducible refine iteB (fun _ => ?_) (fun _ => ?_))
local macro_rules | `(tactic| walk_at "d1") => `(tactic| first | with_reducible refine u_is_whole ?_ | with_reducible refine u_is_from ?_ | with_reducible refine e_allok ?_ | with_reducible refine e_allokN ?_ | with_reducible refine u_are_inputs (by assumption) (by assumption) ?_ | with_reducible refine u_is_votes (by assumption) ?_ | with_reducible refine u_instruction_fits (by assumption) ?_)
section
variable {K : Frag}
theorem b_settle_fits (T : MT K) : ∀ args k, F_settle_fits K args k → ExS K (t_settle_fits K) (args ++ List.replicate (5 - args.length) .no) (fnOut args k) := by
  rintro args k ⟨c, hues, many, ⟨⟨size, bank, hc⟩, hno⟩, hh⟩
  cases c with
  | ins h i => exact absurd rfl (hno h i)
  | shw p w =>
    refine bodyD (Γ := [.dat (.tuple [.str (PySem.Str.ofString "show"), .int p, .int w]), .dat (.int hues), .dat (.int many), .no, .no]) hh rfl ?_
    unfold t_settle_fits
    obtain ⟨⟨h0, h7⟩, w1, w2⟩ := hc
    repeat' walk_at "d1"
    refine e_dgetT 0 (e_disp ?_)
    repeat' walk_at "d1"
    refine ⟨by decide, by decide, fun p => ⟨_, _, _, rfl, ?_⟩⟩
    repeat' walk_at "d1"
    refine ⟨_, _, rfl, rfl, rfl, ?_⟩
    repeat' walk_at "d1"
    rw [fm_true h0 (by omega)]
  | turn p w =>
    refine bodyD (Γ := [.dat (.tuple [.str (PySem.Str.ofString "turn"), .int p, .int w]), .dat (.int hues), .dat (.int many), .no, .no]) hh rfl ?_
    unfold t_settle_fits
    obtain ⟨⟨h0, h7⟩, w1, w2⟩ := hc
    repeat' walk_at "d1"
    refine e_dgetT 1 (e_disp ?_)
    repeat' walk_at "d1"
    refine ⟨by decide, by decide, fun p => ⟨_, _, _, rfl, ?_⟩⟩
    repeat' walk_at "d1"
    refine ⟨_, _, rfl, rfl, rfl, ?_⟩
    repeat' walk_at "d1"
    rw [fm_true h0 (by omega)]
  | take p w =>
    refine bodyD (Γ := [.dat (.tuple [.str (PySem.Str.ofString "take"), .int p, .int w]), .dat (.int hues), .dat (.int many), .no, .no]) hh rfl ?_
    unfold t_settle_fits
    obtain ⟨⟨h0, h7⟩, w1, w2⟩ := hc
    repeat' walk_at "d1"
    refine e_dgetT 2 (e_disp ?_)
    repeat' walk_at "d1"
    refine ⟨by decide, by decide, fun p => ⟨_, _, _, rfl, ?_⟩⟩
    repeat' walk_at "d1"
    refine ⟨_, _, rfl, rfl, rfl, ?_⟩
    repeat' walk_at "d1"
    rw [fm_true h0 (by omega)]
  | goto g =>
    obtain ⟨h0, h1⟩ := hc
    refine bodyD (Γ := [.dat (.tuple [.str (PySem.Str.ofString "goto"), .int g]), .dat (.int hues), .dat (.int many), .no, .no]) hh rfl ?_
    unfold t_settle_fits
    repeat' walk_at "d1"
    rw [fm_true h0 h1]
  | mark =>
    refine bodyD (Γ := [.dat (.tuple [.str (PySem.Str.ofString "mark")]), .dat (.int hues), .dat (.int many), .no, .no]) hh rfl ?_
    unfold t_settle_fits
    repeat' walk_at "d1"
    rfl
  | stop =>
    refine bodyD (Γ := [.dat (.tuple [.str (PySem.Str.ofString "stop")]), .dat (.int hues), .dat (.int many), .no, .no]) hh rfl ?_
    unfold t_settle_fits
    repeat' walk_at "d1"
    rfl
theorem u_settle_fits {c : CellT} {hues many : Int} {k : Sl → List Sl → Prop} (hc : ∃ size bank, cellOk hues size many bank c) (hno : ∀ h i, c ≠ .ins h i) (hk : k (.dat (.bool true)) [.dat (cellD c), .dat (.int hues), .dat (.int many)]) : F_settle_fits K [.dat (cellD c), .dat (.int hues), .dat (.int many)] k := ⟨c, hues, many, ⟨hc, hno⟩, rfl, hk⟩
theorem b_is_settle (T : MT K) : ∀ args k, F_is_settle K args k → ExS K (t_is_settle K) (args ++ List.replicate (1 - args.length) .no) (fnOut args k) := by
  rintro args k ⟨d, ds, h⟩
  refine bodyD (Γ := [.dat (.tuple (d :: ds))]) h rfl ?_
  unfold t_is_settle
  repeat' walk_at "d1"
  refine op_ix_d (d' := d) rfl (by simp [atI, ixN]) ?_
  repeat' walk_at "d1"
theorem u_is_settle {d : PyData} {ds : List PyData} {k : Sl → List Sl → Prop} (hk : k (.dat (.bool (isT "str" d))) [.dat (.tuple (d :: ds))]) : F_is_settle K [.dat (.tuple (d :: ds))] k := ⟨d, ds, rfl, hk⟩
local macro_rules | `(tactic| walk_at "d1") => `(tactic| with_reducible refine u_is_settle ?_)
theorem atI_zero {α : Type} {x : α} {l : List α} : atI (x :: l) 0 = some x := by simp [atI, ixN]
theorem b_cell_fits (T : MT K) : ∀ args k, F_cell_fits K args k → ExS K (t_cell_fits K) (args ++ List.replicate (5 - args.length) .no) (fnOut args k) := by
  rintro args k ⟨c, hues, size, many, bank, hc, hh⟩
  have hsf : (∀ h i, c ≠ .ins h i) → F_settle_fits K [.dat (cellD c), .dat (.int hues), .dat (.int many)] fun r _ => r = .dat (.bool true) := fun hno => u_settle_fits ⟨size, bank, hc⟩ hno rfl
  cases c with
  | ins h i =>
    obtain ⟨⟨h0, h1⟩, hi⟩ := hc
    refine bodyD (Γ := [.dat (.tuple (.int h :: insL i)), .dat (.int hues), .dat (.int size), .dat (.int many), .dat (.int bank)]) hh rfl ?_
    unfold t_cell_fits
    repeat' walk_at "d1"
    refine op_ix_d (d' := .int h) rfl atI_zero ?_
    repeat' walk_at "d1"
    refine op_ix_d (d' := .int h) rfl atI_zero ?_
    repeat' walk_at "d1"
    exact u_instruction_fits hi rfl
  | shw p w =>
    refine bodyD (Γ := [.dat (.tuple [.str (PySem.Str.ofString "show"), .int p, .int w]), .dat (.int hues), .dat (.int size), .dat (.int many), .dat (.int bank)]) hh rfl ?_
    unfold t_cell_fits
    repeat' walk_at "d1"
    exact hsf (fun h i e => by cases e)
  | turn p w =>
    refine bodyD (Γ := [.dat (.tuple [.str (PySem.Str.ofString "turn"), .int p, .int w]), .dat (.int hues), .dat (.int size), .dat (.int many), .dat (.int bank)]) hh rfl ?_
    unfold t_cell_fits
    repeat' walk_at "d1"
    exact hsf (fun h i e => by cases e)
  | take p w =>
    refine bodyD (Γ := [.dat (.tuple [.str (PySem.Str.ofString "take"), .int p, .int w]), .dat (.int hues), .dat (.int size), .dat (.int many), .dat (.int bank)]) hh rfl ?_
    unfold t_cell_fits
    repeat' walk_at "d1"
    exact hsf (fun h i e => by cases e)
  | goto g =>
    refine bodyD (Γ := [.dat (.tuple [.str (PySem.Str.ofString "goto"), .int g]), .dat (.int hues), .dat (.int size), .dat (.int many), .dat (.int bank)]) hh rfl ?_
    unfold t_cell_fits
    repeat' walk_at "d1"
    exact hsf (fun h i e => by cases e)
  | mark =>
    refine bodyD (Γ := [.dat (.tuple [.str (PySem.Str.ofString "mark")]), .dat (.int hues), .dat (.int size), .dat (.int many), .dat (.int bank)]) hh rfl ?_
    unfold t_cell_fits
    repeat' walk_at "d1"
    exact hsf (fun h i e => by cases e)
  | stop =>
    refine bodyD (Γ := [.dat (.tuple [.str (PySem.Str.ofString "stop")]), .dat (.int hues), .dat (.int size), .dat (.int many), .dat (.int bank)]) hh rfl ?_
    unfold t_cell_fits
    repeat' walk_at "d1"
    exact hsf (fun h i e => by cases e)
theorem u_cell_fits {c : CellT} {hues size many bank : Int} {k : Sl → List Sl → Prop} (hc : cellOk hues size many bank c) (hk : k (.dat (.bool true)) [.dat (cellD c), .dat (.int hues), .dat (.int size), .dat (.int many), .dat (.int bank)]) : F_cell_fits K [.dat (cellD c), .dat (.int hues), .dat (.int size), .dat (.int many), .dat (.int bank)] k := ⟨c, hues, size, many, bank, hc, rfl, hk⟩
local macro_rules | `(tactic| walk_at "d1") => `(tactic| with_reducible refine u_cell_fits (by assumption) ?_)
theorem b_is_code (T : MT K) : ∀ args k, F_is_code K args k → ExS K (t_is_code K) (args ++ List.replicate (8 - args.length) .no) (fnOut args k) := by
  rintro args k ⟨c, ⟨hv, ⟨hs1, hs2⟩, ⟨hc1, hc2, hc3⟩, ⟨hb1, hb2⟩⟩, h⟩
  refine bodyD (Γ := [.dat (.tuple [.tuple (iL c.votes), .int c.size, .tuple (c.cells.map cellD), .tuple (iL c.bank)]), .no, .no, .no, .no, .no, .no, .no]) h rfl ?_
  unfold t_is_code
  have l0 : (iL c.votes).length = c.votes.length := List.length_map ..
  have l1 : (iL c.bank).length = c.bank.length := List.length_map ..
  have l2 : (c.cells.map cellD).length = c.cells.length := List.length_map ..
  repeat' walk_at "d1"
  refine ⟨fun x hx => ?_, ?_⟩
  · obtain ⟨n, hm, rfl⟩ := List.mem_map.mp hx
    repeat' walk_at "d1"
    exact ⟨by rw [fm_true (hb2 n hm).1 (hb2 n hm).2]; rfl, rfl⟩
  repeat' walk_at "d1"
  refine ⟨fun x hx => ?_, rfl⟩
  obtain ⟨n, hm, rfl⟩ := List.mem_map.mp hx
  have hok := hc3 n hm
  rw [← l0, ← l1, ← l2] at hok
  repeat' walk_at "d1"
  exact ⟨rfl, rfl⟩
theorem u_is_code {c : Code} {k : Sl → List Sl → Prop} (hc : c.Ok) (hk : k (.dat (.bool true)) [.dat c.d]) : F_is_code K [.dat c.d] k := ⟨c, hc, rfl, hk⟩
local macro_rules | `(tactic| walk_at "d1") => `(tactic| with_reducible refine u_is_code (by assumption) ?_)
theorem b_need_code (T : MT K) : ∀ args k, F_need_code K args k → ExS K (t_need_code K) (args ++ List.replicate (1 - args.length) .no) (fnOut args k) := by
  rintro args k ⟨c, hc, h⟩
  refine bodyD (Γ := [.dat c.d]) h rfl ?_
  unfold t_need_code
  repeat' walk_at "d1"
  all_goals rfl
theorem u_need_code {c : Code} {k : Sl → List Sl → Prop} (hc : c.Ok) (hk : k (.dat .none) [.dat c.d]) : F_need_code K [.dat c.d] k := ⟨c, hc, rfl, hk⟩
theorem b_need_hue (T : MT K) : ∀ args k, F_need_hue K args k → ExS K (t_need_hue K) (args ++ List.replicate (2 - args.length) .no) (fnOut args k) := by
  rintro args k ⟨c, hu, ⟨h0, h1⟩, h⟩
  refine bodyD (Γ := [.dat (.tuple [.tuple (iL c.votes), .int c.size, .tuple (c.cells.map cellD), .tuple (iL c.bank)]), .dat (.int hu)]) h rfl ?_
  unfold t_need_hue
  have l0 : (iL c.votes).length = c.votes.length := List.length_map ..
  repeat' walk_at "d1"
  all_goals rfl
theorem u_need_hue {c : Code} {hu : Int} {k : Sl → List Sl → Prop} (hh : 0 ≤ hu ∧ hu ≤ c.votes.length - 1) (hk : k (.dat .none) [.dat c.d, .dat (.int hu)]) : F_need_hue K [.dat c.d, .dat (.int hu)] k := ⟨c, hu, hh, rfl, hk⟩
theorem b_need_inputs (T : MT K) : ∀ args k, F_need_inputs K args k → ExS K (t_need_inputs K) (args ++ List.replicate (1 - args.length) .no) (fnOut args k) := by
  rintro args k ⟨ns, d, hn, hd, h⟩
  refine bodyD (Γ := [.dat d]) h rfl ?_
  unfold t_need_inputs
  repeat' walk_at "d1"
  all_goals rfl
theorem u_need_inputs {ns : List Int} {d : PyData} {k : Sl → List Sl → Prop} (hn : ns.length ≤ 400 ∧ ∀ n ∈ ns, insOkR n) (hd : seqOf d (iL ns)) (hk : k (.dat .none) [.dat d]) : F_need_inputs K [.dat d] k := ⟨ns, d, hn, hd, rfl, hk⟩
theorem b_need_steps (T : MT K) : ∀ args k, F_need_steps K args k → ExS K (t_need_steps K) (args ++ List.replicate (1 - args.length) .no) (fnOut args k) := by
  rintro args k ⟨n, ⟨h0, h1⟩, h⟩
  refine bodyD (Γ := [.dat (.int n)]) h rfl ?_
  unfold t_need_steps
  repeat' walk_at "d1"
  all_goals rfl
theorem u_need_steps {n : Int} {k : Sl → List Sl → Prop} (hn : 0 ≤ n ∧ n ≤ 1000000) (hk : k (.dat .none) [.dat (.int n)]) : F_need_steps K [.dat (.int n)] k := ⟨n, hn, rfl, hk⟩
end
end Hw
namespace Hw
open PySem PySem.Spec PyProof.Rows L2 Dl
local macro_rules | `(tactic| walk_at "dbt") => `(tactic| first | assumption | rfl | (decide +kernel) | (simp [isFromD, *]; done) | (simp [isFromD, *]; omega))
local macro_rules | `(tactic| walk_at "d1") => `(tactic| first
  | with_reducible refine x_seq ?_ | with_reducible refine x_if' ?_ | with_reducible refine x_ret ?_ | with_reducible refine x_asg ?_ | with_reducible refine x_next ?_ | with_reducible refine x_expr ?_
  | with_reducible refine e_isi2 (by decide) (by decide) ?_
  | with_reducible refine e_dat rfl ?_ | with_reducible refine e_int ?_ | with_reducible refine e_str ?_ | with_reducible refine e_bl ?_ | with_reducible refine e_non ?_ | with_reducible refine e_op ?_ | with_reducible refine e_cb ?_ | with_reducible refine e_call ?_
  | with_reducible refine a_cons ?_ | with_reducible refine a_nil ?_
  | with_reducible refine b_test ?_ | with_reducible refine b_not ?_ | with_reducible refine b_and' ?_ | with_reducible refine b_or' ?_ | with_reducible refine b_tru ?_
  | with_reducible refine e_andV' ?_ | with_reducible refine e_orV' ?_ | with_reducible refine e_notV ?_ | with_reducible refine e_chain' ?_ | with_reducible refine e_if' ?_ | with_reducible refine e_c ?_ | with_reducible refine e_sl ?_ | with_reducible refine o_no ?_ | with_reducible refine o_some ?_ | with_reducible refine e_neg ?_
  | with_reducible refine e_raw rfl ?_ | with_reducible refine e_res rfl ?_ | with_reducible refine g_name ?_
  | with_reducible refine op_add_i ?_ | with_reducible refine op_sub_i ?_ | with_reducible refine op_lt_i ?_ | with_reducible refine op_le_i ?_ | with_reducible refine op_gt_i ?_ | with_reducible refine op_ge_i ?_ | with_reducible refine op_isnone ?_ | with_reducible refine op_notnone ?_
  | with_reducible refine cb_isi (by decide) ?_ | with_reducible refine cb_max2 ?_ | with_reducible refine cb_min2 ?_ | with_reducible refine cb_abs ?_ | with_reducible refine cb_int ?_ | with_reducible refine cb_len rfl ?_
  | with_reducible refine iteT ?_ | with_reducible refine iteF ?_ | ((with_reducible refine iT ?_ ?_); focus (walk_at "dbt"; done)) | ((with_reducible refine iF ?_ ?_); focus (walk_at "dbt"; done))
  | ((with_reducible refine g_tup ?_ ?_); (focus rfl)) | with_reducible refine gs_cons ?_ | with_reducible refine gs_nil ?_
  | with_reducible refine e_tup' ?_ | with_reducible refine e_lst' ?_ | with_reducible refine op_in2 ?_ | with_reducible refine op_ni3 ?_
  | with_reducible refine op_eq_ii ?_ | with_reducible refine op_ne_ii ?_ | ((with_reducible refine op_eq_ss ?_ ?_ ?_); (focus (decide +kernel)); (focus (decide +kernel))) | ((with_reducible refine op_ne_ss ?_ ?_ ?_); (focus (decide +kernel)); (focus (decide +kernel)))
  | ((with_reducible refine op_eq_d ?_ ?_ ?_); (focus (walk_at "dbt")); (focus (walk_at "dbt")))
  | ((with_reducible refine op_ne_d ?_ ?_ ?_); (focus (walk_at "dbt")); (focus (walk_at "dbt")))
  | ((with_reducible refine op_ix' ?_); refine Exists.intro _ (Exists.intro _ (And.intro rfl (And.intro rfl ?_))))
  | ((with_reducible refine op_mul_il ?_ ?_); (focus (decide +kernel))) | ((with_reducible refine op_mul_ir ?_ ?_); (focus (decide +kernel)))
  | ((with_reducible refine And.intro (a := smallL _ = true) ?_ ?_); (focus rfl)) | ((with_reducible refine And.intro (a := Pers _) ?_ ?_); (focus trivial)) | with_reducible refine d_cons ?_ | with_reducible refine d_nil ?_
  | (with_reducible refine Exists.intro _ (And.intro rfl ?_)) | (with_reducible refine Exists.intro _ (Exists.intro _ (And.intro rfl (And.intro rfl ?_)))) | refine Exists.intro _ (And.intro rfl (And.intro (by rfl) ?_)) | refine Exists.intro _ (Exists.intro _ (And.intro rfl (And.intro rfl ?_))) | with_reducible refine dat_ok ?_ | dsimp only | fail)
local macro_rules | `(tactic| walk_at "d2") => `(tactic| first | walk_at "d1" | with_reducible refine iteB (fun _ => ?_) (fun _ => ?_))
local macro_rules | `(tactic| walk_at "d1") => `(tactic| first | with_reducible refine u_is_whole ?_ | with_reducible refine u_is_from ?_ | with_reducible refine u_is_settle ?_)
section
variable {K : Frag}
theorem eqvAll_ints : ∀ {a b : List Int}, PyData.eqvAll (iL a) (iL b) = decide (a = b)
  | [], [] => by simp [iL, PyData.eqvAll]
  | x :: a, y :: b => by
    have := eqvAll_ints (a := a) (b := b)
    unfold iL at this
    simp only [iL, List.map_cons, PyData.eqvAll, eqv_int, this]
    by_cases e : x = y
    · by_cases e2 : a = b <;> simp [e, e2]
    · simp [e]
  | [], _ :: _ => by simp [iL, PyData.eqvAll]
  | _ :: _, [] => by simp [iL, PyData.eqvAll]
def pairD (p : Pair) : PyData := .tuple [.list (iL p.1), .list (iL p.2)]
theorem eqv_pair {p q : Pair} : PyData.eqv (pairD p) (pairD q) = decide (p = q) := by
  obtain ⟨a, b⟩ := p
  obtain ⟨c, d⟩ := q
  simp only [pairD, PyData.eqv, PyData.eqvAll, eqvAll_ints, Bool.and_true]
  by_cases e : a = c
  · by_cases e2 : b = d <;> simp [e, e2]
  · simp [e]
theorem cnt_pairs {ps : List Pair} {q : Pair} : ((ps.map pairD).countP fun e => PyData.eqv e (pairD q)) = ps.count q := by
  induction ps with
  | nil => rfl
  | cons x xs ih =>
    rw [List.map_cons, List.countP_cons, List.count_cons, ih, eqv_pair]
    by_cases e : x = q <;> simp [e]
theorem shp_pair {p : Pair} {n : Nat} : Shp (n + 2) (pairD p) := .tuple fun x hx => by
  simp only [List.mem_cons, List.not_mem_nil, or_false] at hx
  rcases hx with rfl | rfl
  · exact .list shp_ints
  · exact .list shp_ints
theorem find_hit {α : Type} {p : α → Bool} {l : List α} {i : Nat} {v : α} (e : l[i]? = some v) (hp : p v = true) (hno : ∀ u ∈ l.take i, p u = false) : l.find? p = some v := by
  have hl : i < l.length := (List.getElem?_eq_some_iff.mp e).1
  have e1 : l.take (i + 1) = l.take i ++ [v] := by
    rw [List.take_succ_eq_append_getElem hl, (List.getElem?_eq_some_iff.mp e).2]
  rw [← List.take_append_drop (i + 1) l, e1, List.append_assoc, List.find?_append, List.find?_eq_none.mpr fun u hu => by rw [hno u hu]; decide]
  simp [hp]
theorem find_miss {α : Type} {p : α → Bool} {l : List α} (hno : ∀ u ∈ l, p u = false) : l.find? p = none := List.find?_eq_none.mpr fun u hu => by rw [hno u hu]; decide
theorem cutG_1 {α : Type} {x : α} {l : List α} : cutG (x :: l) (some 1) none = l := by
  unfold cutG
  have h1 : HT.sIx (x :: l).length 0 (some 1) = 1 := by
    show (if (1 : Int) < 0 then ((1 : Int) + ((x :: l).length : Int)).toNat else min (1 : Int).toNat (x :: l).length) = 1
    rw [if_neg (by decide)]
    show min 1 (l.length + 1) = 1
    omega
  have h2 : HT.sIx (x :: l).length (x :: l).length none = (x :: l).length := rfl
  rw [h1, h2]
  simp
def enI (ns : List Int) (need : Int) (v : Int) : Bool := decide (need ≤ ((ns.count v : Nat) : Int))
theorem b_most_ints {ns : List Int} {need : Int} {args : List Sl} {k : Sl → List Sl → Prop} (h0 : ns ≠ []) (h : pD args k [.list (iL ns), .int need] (optD (agreedI ns need))) : ExS K (t_most_agreed K) (args ++ List.replicate (4 - args.length) .no) (fnOut args k) := by
  obtain ⟨n, ms, rfl⟩ : ∃ n ms, ns = n :: ms := by
    cases ns with
    | nil => exact absurd rfl h0
    | cons n ms => exact ⟨n, ms, rfl⟩
  have hr : iL (n :: ms) = .int n :: iL ms := rfl
  refine bodyD (Γ := [.dat (.list (iL (n :: ms))), .dat (.int need), .no, .no]) h rfl ?_
  unfold t_most_agreed
  refine x_seq (x_asg (e_op (e_dat rfl (e_int (op_ix_d (d' := .int n) rfl atI_zero (g_name ?_))))))
  refine x_seq (x_if' (b_test (e_op (e_cntI ?_))))
  repeat' walk_at "d1"
  refine iteB (fun hb => ?_) (fun hb => ?_)
  · repeat' walk_at "d1"
    have : agreedI (n :: ms) need = some n := by
      unfold agreedI
      exact find_hit (i := 0) rfl hb (fun u hu => by cases hu)
    rw [this]
    rfl
  repeat' walk_at "d1"
  refine x_for (i_sq (e_sl ?_))
  repeat' walk_at "d1"
  rw [hr, cutG_1]
  refine fun _ => ⟨fun i Γ => (∃ x, Γ = [.dat (.list (iL (n :: ms))), .dat (.int need), .dat (.int n), x]) ∧ ∀ u ∈ ms.take i, enI (n :: ms) need u = false, ⟨⟨_, rfl⟩, fun u hu => by simp at hu⟩, fun _ _ _ _ => trivial, ?_, ?_⟩
  · rintro i Γ hi ⟨⟨x, rfl⟩, hno⟩
    rw [iL_len] at hi
    obtain ⟨v, hv⟩ : ∃ v, ms[i]? = some v := ⟨_, List.getElem?_eq_getElem hi⟩
    have hd : (iL ms).getD i .none = .int v := by
      rw [List.getD_eq_getElem?_getD, iL, List.getElem?_map, hv]; rfl
    show EvG K _ (.dat ((iL ms).getD i .none)) _ _
    rw [hd]
    refine g_name (x_if' (b_test (e_op (e_cntI ?_))))
    repeat' walk_at "d1"
    refine iteB (fun hb2 => ?_) (fun hb2 => ?_)
    · repeat' walk_at "d1"
      have : agreedI (n :: ms) need = some v := by
        unfold agreedI
        refine find_hit (i := i + 1) (by simpa using hv) hb2 (fun u hu => ?_)
        rw [List.take_succ_cons] at hu
        rcases List.mem_cons.mp hu with rfl | q
        · exact hb
        · exact hno u q
      rw [this]
      rfl
    · repeat' walk_at "d1"
      refine ⟨⟨_, rfl⟩, fun u hu => ?_⟩
      rw [List.take_succ_eq_append_getElem hi, (List.getElem?_eq_some_iff.mp hv).2] at hu
      rcases List.mem_append.mp hu with q | q
      · exact hno u q
      · simp only [List.mem_singleton] at q
        rw [q]
        exact hb2
  · rintro Γ ⟨⟨x, rfl⟩, hno⟩
    rw [iL_len, List.take_length] at hno
    show ExS K (tRet (tC .non)) _ _
    repeat' walk_at "d1"
    have : agreedI (n :: ms) need = none := by
      unfold agreedI
      refine find_miss fun u hu => ?_
      rcases List.mem_cons.mp hu with rfl | q
      · exact hb
      · exact hno u q
    rw [this]
    rfl
theorem pairIn_val {Θ : List (Addr × Cell)} {j : Nat} {v : V} {t : Addr} {p : Pair} {Γ : List Sl} (hj : Γ[j]? = some (.res (star v Θ))) (h : pairIn Θ t p) : ValD K Γ (.raw (.ref t)) (pairD p) := by
  obtain ⟨r, b, n1, n2, n3, h1, h2, h3⟩ := h
  exact valD_tup (.s j n1 hj h1) (.cons (valD_lst (.s j n2 hj h2) valDs_dats) (.cons (valD_lst (.s j n3 hj h3) valDs_dats) .nil))
theorem pairs_val {Θ : List (Addr × Cell)} {j : Nat} {v : V} {Γ : List Sl} (hj : Γ[j]? = some (.res (star v Θ))) : ∀ {tp : List (Addr × Pair)}, (∀ q ∈ tp, pairIn Θ q.1 q.2) → ValDs K Γ (tp.map fun q => .raw (.ref q.1)) ((tp.map (·.2)).map pairD)
  | [], _ => .nil
  | q :: tp, h => .cons (pairIn_val hj (h q (List.mem_cons_self ..))) (pairs_val hj fun q hq => h q (List.mem_cons_of_mem _ hq))
def enP (ps : List Pair) (need : Int) (v : Pair) : Bool := decide (need ≤ ((ps.count v : Nat) : Int))
theorem b_most_pairs {D : Addr} {Θ : List (Addr × Cell)} {n0 : Nat} {tp : List (Addr × Pair)} {need : Int} {args : List Sl} {k : Sl → List Sl → Prop} (h0 : tp ≠ []) (h5 : tp.length ≤ 5) (hD : Θ[n0]? = some (D, .lst (tp.map fun q => .raw (.ref q.1)))) (hp : ∀ q ∈ tp, pairIn Θ q.1 q.2) (ea : args = [.res (star (.ref D) Θ), .dat (.int need)])
    (h1 : agreedP (tp.map (·.2)) need = none → k (.dat .none) args) (h2 : ∀ q ∈ tp, agreedP (tp.map (·.2)) need = some q.2 → k (.raw (.ref q.1)) args) : ExS K (t_most_agreed K) (args ++ List.replicate (4 - args.length) .no) (fnOut args k) := by
  subst ea
  obtain ⟨q0, tq, rfl⟩ : ∃ q0 tq, tp = q0 :: tq := by
    cases tp with
    | nil => exact absurd rfl h0
    | cons q tq => exact ⟨q, tq, rfl⟩
  have hcnt : ∀ (Γ : List Sl), Γ[0]? = some (.res (star (.ref D) Θ)) → ∀ (i : Nat) (t : Addr) (p : Pair), Γ[i]? = some (.raw (.ref t)) → pairIn Θ t p → ∀ k' : Sl → List Sl → Prop, k' (.dat (.int ((((q0 :: tq).map (·.2)).count p : Nat) : Int))) Γ →
      EvP K (tBM K "list" (rCntD K) (tVar 0) (tCons (tVar i) tNil)) Γ k' := fun Γ hj i t p hi hpi k' hk => by
    refine e_cnt (e_res hj ⟨((q0 :: tq).map (·.2)).map pairD, trivial, valD_lst (.s 0 n0 hj hD) (pairs_val hj hp), a_cons (e_raw hi (a_nil ⟨_, pairD p, rfl, trivial, valD_lst (.s 0 n0 hj hD) (pairs_val hj hp), pairIn_val hj hpi, ?_, ?_, ?_⟩))⟩)
    · refine (Shp.list (n := 4) fun x hx => ?_).shaped
      obtain ⟨p, _, rfl⟩ := List.mem_map.mp hx
      exact shp_pair (n := 2)
    · exact (shp_pair (n := 0)).shaped
    · rw [cnt_pairs]
      exact hk
  have hq0 := hp q0 (List.mem_cons_self ..)
  show ExS K _ [.res (star (.ref D) Θ), .dat (.int need), .no, .no] _
  unfold t_most_agreed
  refine x_seq (x_asg (e_op (e_res rfl (e_int (op_ixL (u := .raw (.ref q0.1)) (.s 0 n0 rfl hD) atI_zero (g_name ?_))))))
  refine x_seq (x_if' (b_test (e_op (hcnt _ rfl 2 q0.1 q0.2 rfl hq0 _ ?_))))
  repeat' walk_at "d1"
  refine iteB (fun hb => ?_) (fun hb => ?_)
  · repeat' walk_at "d1"
    refine ⟨_, h2 q0 (List.mem_cons_self ..) ?_, .res rfl (.dat .nil)⟩
    unfold agreedP
    exact find_hit (i := 0) rfl hb (fun u hu => by cases hu)
  repeat' walk_at "d1"
  refine x_for (i_slC ?_)
  repeat' walk_at "d1"
  refine ⟨D, _, rfl, .s 0 n0 rfl hD, ?_⟩
  rw [List.map_cons, cutG_1]
  refine ⟨fun i Γ => (∃ x, Γ = [.res (star (.ref D) Θ), .dat (.int need), .raw (.ref q0.1), x]) ∧ ∀ u ∈ (tq.map (·.2)).take i, enP ((q0 :: tq).map (·.2)) need u = false, ⟨⟨_, rfl⟩, fun u hu => by simp at hu⟩, fun _ _ _ _ => trivial, ?_, ?_⟩
  · rintro i Γ hi ⟨⟨x, rfl⟩, hno⟩
    rw [List.length_map] at hi
    obtain ⟨q, hq⟩ : ∃ q, tq[i]? = some q := ⟨_, List.getElem?_eq_getElem hi⟩
    have hqm : q ∈ q0 :: tq := List.mem_cons_of_mem _ (List.mem_of_getElem? hq)
    have hd : (tq.map fun q => Sl.raw (.ref q.1)).getD i .no = .raw (.ref q.1) := by
      rw [List.getD_eq_getElem?_getD, List.getElem?_map, hq]; rfl
    show EvG K _ ((tq.map fun q => Sl.raw (.ref q.1)).getD i .no) _ _
    rw [hd]
    refine g_name (x_if' (b_test (e_op (hcnt _ rfl 3 q.1 q.2 rfl (hp q hqm) _ ?_))))
    repeat' walk_at "d1"
    have hq2 : (tq.map (·.2))[i]? = some q.2 := by rw [List.getElem?_map, hq]; rfl
    refine iteB (fun hb2 => ?_) (fun hb2 => ?_)
    · repeat' walk_at "d1"
      refine ⟨_, h2 q hqm ?_, .res rfl (.dat .nil)⟩
      unfold agreedP
      refine find_hit (i := i + 1) (by simpa using hq2) hb2 (fun u hu => ?_)
      rw [List.map_cons, List.take_succ_cons] at hu
      rcases List.mem_cons.mp hu with rfl | z
      · exact hb
      · exact hno u z
    · repeat' walk_at "d1"
      refine ⟨⟨_, rfl⟩, fun u hu => ?_⟩
      have hi2 : i < (tq.map (·.2)).length := by rw [List.length_map]; exact hi
      rw [List.take_succ_eq_append_getElem hi2, (List.getElem?_eq_some_iff.mp hq2).2] at hu
      rcases List.mem_append.mp hu with z | z
      · exact hno u z
      · simp only [List.mem_singleton] at z
        rw [z]
        exact hb2
  · rintro Γ ⟨⟨x, rfl⟩, hno⟩
    have hl : (tq.map fun q => Sl.raw (.ref q.1)).length = (tq.map (·.2)).length := by rw [List.length_map, List.length_map]
    rw [hl, List.take_length] at hno
    show ExS K (tRet (tC .non)) _ _
    repeat' walk_at "d1"
    refine ⟨_, h1 ?_, .res rfl (.dat .nil)⟩
    unfold agreedP
    refine find_miss fun u hu => ?_
    rw [List.map_cons] at hu
    rcases List.mem_cons.mp hu with rfl | z
    · exact hb
    · exact hno u z
theorem b_most_agreed (T : MT K) : ∀ args k, F_most_agreed K args k → ExS K (t_most_agreed K) (args ++ List.replicate (4 - args.length) .no) (fnOut args k) := by
  rintro args k (⟨ns, need, h0, h⟩ | ⟨D, Θ, n0, tp, need, h0, h5, hD, hp, ea, h1, h2⟩)
  · exact b_most_ints h0 h
  · exact b_most_pairs h0 h5 hD hp ea h1 h2
theorem u_most_ints {ns : List Int} {need : Int} {k : Sl → List Sl → Prop} (h0 : ns ≠ []) (hk : k (.dat (optD (agreedI ns need))) [.dat (.list (iL ns)), .dat (.int need)]) : F_most_agreed K [.dat (.list (iL ns)), .dat (.int need)] k := .inl ⟨ns, need, h0, rfl, hk⟩
end
end Hw
namespace Hw
open PySem PySem.Spec PyProof.Rows L2 Dl
local macro_rules | `(tactic| walk_at "dbt") => `(tactic| first | assumption | rfl | (decide +kernel) | (simp [isFromD, *]; done) | (simp [isFromD, *]; omega))
local macro_rules | `(tactic| walk_at "d1") => `(tactic| first
  | with_reducible refine x_seq ?_ | with_reducible refine x_if' ?_ | with_reducible refine x_ret ?_ | with_reducible refine x_asg ?_ | with_reducible refine x_next ?_ | with_reducible refine x_expr ?_
  | with_reducible refine e_isi2 (by decide) (by decide) ?_
  | with_reducible refine e_dat rfl ?_ | with_reducible refine e_int ?_ | with_reducible refine e_str ?_ | with_reducible refine e_bl ?_ | with_reducible refine e_non ?_ | with_reducible refine e_op ?_ | with_reducible refine e_cb ?_ | with_reducible refine e_call ?_
  | with_reducible refine a_cons ?_ | with_reducible refine a_nil ?_
  | with_reducible refine b_test ?_ | with_reducible refine b_not ?_ | with_reducible refine b_and' ?_ | with_reducible refine b_or' ?_ | with_reducible refine b_tru ?_
  | with_reducible refine e_andV' ?_ | with_reducible refine e_orV' ?_ | with_reducible refine e_notV ?_ | with_reducible refine e_chain' ?_ | with_reducible refine e_if' ?_ | with_reducible refine e_c ?_ | with_reducible refine e_sl ?_ | with_reducible refine o_no ?_ | with_reducible refine o_some ?_ | with_reducible refine e_neg ?_
  | with_reducible refine e_raw rfl ?_ | with_reducible refine e_res rfl ?_ | with_reducible refine g_name ?_
  | with_reducible refine op_add_i ?_ | with_reducible refine op_sub_i ?_ | with_reducible refine op_lt_i ?_ | with_reducible refine op_le_i ?_ | with_reducible refine op_gt_i ?_ | with_reducible refine op_ge_i ?_ | with_reducible refine op_isnone ?_ | with_reducible refine op_notnone ?_
  | with_reducible refine cb_isi (by decide) ?_ | with_reducible refine cb_max2 ?_ | with_reducible refine cb_min2 ?_ | with_reducible refine cb_abs ?_ | with_reducible refine cb_int ?_ | with_reducible refine cb_len rfl ?_
  | with_reducible refine iteT ?_ | with_reducible refine iteF ?_ | ((with_reducible refine iT ?_ ?_); focus (walk_at "dbt"; done)) | ((with_reducible refine iF ?_ ?_); focus (walk_at "dbt"; done))
  | ((with_reducible refine g_tup ?_ ?_); (focus rfl)) | with_reducible refine gs_cons ?_ | with_reducible refine gs_nil ?_
  | with_reducible refine e_tup' ?_ | with_reducible refine e_lst' ?_ | with_reducible refine op_in2 ?_ | with_reducible refine op_ni3 ?_
  | with_reducible refine op_eq_ii ?_ | with_reducible refine op_ne_ii ?_ | ((with_reducible refine op_eq_ss ?_ ?_ ?_); (focus (decide +kernel)); (focus (decide +kernel))) | ((with_reducible refine op_ne_ss ?_ ?_ ?_); (focus (decide +kernel)); (focus (decide +kernel)))
  | ((with_reducible refine op_eq_d ?_ ?_ ?_); (focus (walk_at "dbt")); (focus (walk_at "dbt")))
  | ((with_reducible refine op_ne_d ?_ ?_ ?_); (focus (walk_at "dbt")); (focus (walk_at "dbt")))
  | ((with_reducible refine op_ix' ?_); refine Exists.intro _ (Exists.intro _ (And.intro rfl (And.intro rfl ?_))))
  | ((with_reducible refine op_mul_il ?_ ?_); (focus (decide +kernel))) | ((with_reducible refine op_mul_ir ?_ ?_); (focus (decide +kernel)))
  | ((with_reducible refine And.intro (a := smallL _ = true) ?_ ?_); (focus rfl)) | ((with_reducible refine And.intro (a := Pers _) ?_ ?_); (focus trivial)) | with_reducible refine d_cons ?_ | with_reducible refine d_nil ?_
  | (with_reducible refine Exists.intro _ (And.intro rfl ?_)) | (with_reducible refine Exists.intro _ (Exists.intro _ (And.intro rfl (And.intro rfl ?_)))) | refine Exists.intro _ (And.intro rfl (And.intro (by rfl) ?_)) | refine Exists.intro _ (Exists.intro _ (And.intro rfl (And.intro rfl ?_))) | with_reducible refine dat_ok ?_ | dsimp only | fail)
local macro_rules | `(tactic| walk_at "d2") => `(tactic| first | walk_at "d1" | with_reducible refine iteB (fun _ => ?_) (fun _ => ?_))
local macro_rules | `(tactic| walk_at "d1") => `(tactic| first | with_reducible refine u_is_whole ?_ | with_reducible refine u_is_from ?_ | with_reducible refine u_is_settle ?_)
section
variable {K : Frag}
theorem b_worked_out (T : MT K) : ∀ args k, F_worked_out K args k → ExS K (t_worked_out K) (args ++ List.replicate (4 - args.length) .no) (fnOut args k) := by
  rintro args k ⟨w, x, y, size, hw, ⟨hx0, hx1⟩, ⟨hy0, hy1⟩, hs, h⟩
  simp only [twos, List.mem_cons, List.not_mem_nil, or_false] at hw
  rcases hw with rfl | rfl | rfl | rfl | rfl | rfl
  · refine bodyD (Γ := [.dat (.str (PySem.Str.ofString "plus")), .dat (.int x), .dat (.int y), .dat (.int size)]) h rfl ?_
    unfold t_worked_out
    repeat' walk_at "d1"
    refine op_mod_i hs ?_
    repeat' walk_at "d1"
    rfl
  · refine bodyD (Γ := [.dat (.str (PySem.Str.ofString "minus")), .dat (.int x), .dat (.int y), .dat (.int size)]) h rfl ?_
    unfold t_worked_out
    repeat' walk_at "d1"
    refine op_mod_i hs ?_
    repeat' walk_at "d1"
    rfl
  · refine bodyD (Γ := [.dat (.str (PySem.Str.ofString "times")), .dat (.int x), .dat (.int y), .dat (.int size)]) h rfl ?_
    unfold t_worked_out
    repeat' walk_at "d1"
    refine op_mul_i (.inl ⟨by omega, by omega⟩) ?_
    repeat' walk_at "d1"
    refine op_mod_i hs ?_
    repeat' walk_at "d1"
    rfl
  · refine bodyD (Γ := [.dat (.str (PySem.Str.ofString "rest")), .dat (.int x), .dat (.int y), .dat (.int size)]) h rfl ?_
    unfold t_worked_out
    repeat' walk_at "d1"
    refine iteB (fun hb => ?_) (fun hb => ?_)
    · have hne : y ≠ 0 := by simpa using hb
      repeat' walk_at "d1"
      refine op_mod_i (by omega) ?_
      repeat' walk_at "d1"
      show PyData.int (x % y) = .int (if y ≠ 0 then x % y else 0)
      rw [if_pos hne]
    · have hne : ¬ y ≠ 0 := by simpa using hb
      repeat' walk_at "d1"
      show PyData.int 0 = .int (if y ≠ 0 then x % y else 0)
      rw [if_neg hne]
  · refine bodyD (Γ := [.dat (.str (PySem.Str.ofString "less")), .dat (.int x), .dat (.int y), .dat (.int size)]) h rfl ?_
    unfold t_worked_out
    repeat' walk_at "d1"
    refine iteB (fun hb => ?_) (fun hb => ?_)
    · have hne : x < y := by simpa using hb
      repeat' walk_at "d1"
      show PyData.int 1 = .int (if x < y then 1 else 0)
      rw [if_pos hne]
    · have hne : ¬ x < y := by simpa using hb
      repeat' walk_at "d1"
      show PyData.int 0 = .int (if x < y then 1 else 0)
      rw [if_neg hne]
  · refine bodyD (Γ := [.dat (.str (PySem.Str.ofString "same")), .dat (.int x), .dat (.int y), .dat (.int size)]) h rfl ?_
    unfold t_worked_out
    repeat' walk_at "d1"
    refine iteB (fun hb => ?_) (fun hb => ?_)
    · have hne : x = y := by simpa using hb
      repeat' walk_at "d1"
      show PyData.int 1 = .int (if x = y then 1 else 0)
      rw [if_pos hne]
    · have hne : ¬ x = y := by simpa using hb
      repeat' walk_at "d1"
      show PyData.int 0 = .int (if x = y then 1 else 0)
      rw [if_neg hne]
theorem u_worked_out {w : Str} {x y size : Int} {k : Sl → List Sl → Prop} (hw : w ∈ twos) (hx : 0 ≤ x ∧ x ≤ 10000) (hy : 0 ≤ y ∧ y ≤ 10000) (hs : 0 < size) (hk : k (.dat (.int (worth w x y size))) [.dat (.str w), .dat (.int x), .dat (.int y), .dat (.int size)]) : F_worked_out K [.dat (.str w), .dat (.int x), .dat (.int y), .dat (.int size)] k := ⟨w, x, y, size, hw, hx, hy, hs, rfl, hk⟩
theorem atI_map {α β : Type} {f : α → β} {l : List α} {i : Int} {x : α} (h0 : 0 ≤ i) (h : l[i.toNat]? = some x) : atI (l.map f) i = some (f x) := by
  have hl : i.toNat < l.length := (List.getElem?_eq_some_iff.mp h).1
  unfold atI ixN
  rw [List.length_map, if_pos h0, if_pos (by omega)]
  show (l.map f)[i.toNat]? = _
  rw [List.getElem?_map, h]
  rfl
abbrev codeL (c : Code) : PyData := .tuple [.tuple (iL c.votes), .int c.size, .tuple (c.cells.map cellD), .tuple (iL c.bank)]
theorem b_place_fits (T : MT K) : ∀ args k, F_place_fits K args k → ExS K (t_place_fits K) (args ++ List.replicate (4 - args.length) .no) (fnOut args k) := by
  rintro args k ⟨c, h, t, ht, hh⟩
  have l1 : (iL c.bank).length = c.bank.length := iL_len
  have l2 : (c.cells.map cellD).length = c.cells.length := List.length_map ..
  cases t with
  | reg r n =>
    obtain ⟨⟨h0, h1⟩, _⟩ := ht
    refine bodyD (Γ := [.dat (codeL c), .dat (.int h), .dat (.tuple [.str (PySem.Str.ofString "register"), .int r]), .no]) hh rfl ?_
    unfold t_place_fits
    repeat' walk_at "d1"
    rw [fm_true h0 (by omega)]
  | cell a n =>
    obtain ⟨⟨h0, h1⟩, _⟩ := ht
    refine bodyD (Γ := [.dat (codeL c), .dat (.int h), .dat (.tuple [.str (PySem.Str.ofString "cell"), .int a]), .no]) hh rfl ?_
    unfold t_place_fits
    repeat' walk_at "d1"
    rw [fm_true h0 (by omega)]
  | pointer n =>
    refine bodyD (Γ := [.dat (codeL c), .dat (.int h), .dat (.tuple [.str (PySem.Str.ofString "pointer")]), .no]) hh rfl ?_
    unfold t_place_fits
    repeat' walk_at "d1"
    rfl
  | slot n =>
    refine bodyD (Γ := [.dat (codeL c), .dat (.int h), .dat (.tuple [.str (PySem.Str.ofString "slot")]), .no]) hh rfl ?_
    unfold t_place_fits
    repeat' walk_at "d1"
    rfl
  | code a h' i =>
    obtain ⟨⟨h0, h1⟩, rfl, ⟨j, hj⟩, _⟩ := ht
    refine bodyD (Γ := [.dat (codeL c), .dat (.int h'), .dat (.tuple [.str (PySem.Str.ofString "code"), .int a]), .no]) hh rfl ?_
    unfold t_place_fits
    repeat' walk_at "d1"
    refine op_ix_d rfl (atI_map h0 hj) ?_
    show EvG K (gName 3) (.dat (.tuple (.int h' :: insL j))) _ _
    repeat' walk_at "d1"
    refine op_ix_d (d' := .int h') rfl atI_zero ?_
    repeat' walk_at "d1"
    simp
theorem u_place_fits {c : Code} {h : Int} {t : Thing} {k : Sl → List Sl → Prop} (ht : thingOk c h t) (hk : k (.dat (.bool true)) [.dat c.d, .dat (.int h), .dat (placeD t)]) : F_place_fits K [.dat c.d, .dat (.int h), .dat (placeD t)] k := ⟨c, h, t, ht, rfl, hk⟩
theorem b_new_fits (T : MT K) : ∀ args k, F_new_fits K args k → ExS K (t_new_fits K) (args ++ List.replicate (4 - args.length) .no) (fnOut args k) := by
  rintro args k ⟨c, h, t, ht, hh⟩
  have l1 : (iL c.bank).length = c.bank.length := iL_len
  cases t with
  | reg r n =>
    obtain ⟨_, h0, h1⟩ := ht
    refine bodyD (Γ := [.dat (codeL c), .dat (.int h), .dat (.tuple [.str (PySem.Str.ofString "register"), .int r]), .dat (.int n)]) hh rfl ?_
    unfold t_new_fits
    repeat' walk_at "d1"
  | cell a n =>
    obtain ⟨_, h0, h1⟩ := ht
    refine bodyD (Γ := [.dat (codeL c), .dat (.int h), .dat (.tuple [.str (PySem.Str.ofString "cell"), .int a]), .dat (.int n)]) hh rfl ?_
    unfold t_new_fits
    repeat' walk_at "d1"
  | pointer n =>
    obtain ⟨h0, h1⟩ := ht
    refine bodyD (Γ := [.dat (codeL c), .dat (.int h), .dat (.tuple [.str (PySem.Str.ofString "pointer")]), .dat (.int n)]) hh rfl ?_
    unfold t_new_fits
    repeat' walk_at "d1"
    rw [fm_true h0 h1]
  | slot n =>
    cases n with
    | none =>
      refine bodyD (Γ := [.dat (codeL c), .dat (.int h), .dat (.tuple [.str (PySem.Str.ofString "slot")]), .dat .none]) hh rfl ?_
      unfold t_new_fits
      repeat' walk_at "d1"
      rfl
    | some n =>
      obtain ⟨h0, h1⟩ := ht n rfl
      refine bodyD (Γ := [.dat (codeL c), .dat (.int h), .dat (.tuple [.str (PySem.Str.ofString "slot")]), .dat (.int n)]) hh rfl ?_
      unfold t_new_fits
      repeat' walk_at "d1"
  | code a h' i =>
    obtain ⟨⟨h0, h1⟩, rfl, ⟨j, hj⟩, hi⟩ := ht
    rw [← l1] at hi
    refine bodyD (Γ := [.dat (codeL c), .dat (.int h'), .dat (.tuple [.str (PySem.Str.ofString "code"), .int a]), .dat (insD h' i)]) hh rfl ?_
    unfold t_new_fits
    repeat' walk_at "d1"
    exact u_instruction_fits hi rfl
theorem u_new_fits {c : Code} {h : Int} {t : Thing} {k : Sl → List Sl → Prop} (ht : thingOk c h t) (hk : k (.dat (.bool true)) [.dat c.d, .dat (.int h), .dat (placeD t), .dat (newD t)]) : F_new_fits K [.dat c.d, .dat (.int h), .dat (placeD t), .dat (newD t)] k := ⟨c, h, t, ht, rfl, hk⟩
theorem b_strike_fits (T : MT K) : ∀ args k, F_strike_fits K args k → ExS K (t_strike_fits K) (args ++ List.replicate (2 - args.length) .no) (fnOut args k) := by
  rintro args k ⟨c, ⟨st, hu, th⟩, ⟨⟨h0, h1⟩, ⟨h2, h3⟩, ht⟩, hh⟩
  have l0 : (iL c.votes).length = c.votes.length := iL_len
  have ht : thingOk c hu th := ht
  refine bodyD (Γ := [.dat (codeL c), .dat (.tuple [.int st, .int hu, placeD th, newD th])]) hh rfl ?_
  unfold t_strike_fits
  repeat' walk_at "d1"
  refine u_place_fits ht ⟨_, _, rfl, rfl, ?_⟩
  repeat' walk_at "d1"
  exact u_new_fits ht rfl
theorem u_strike_fits {c : Code} {s : Strike} {k : Sl → List Sl → Prop} (hs : strikeOk c s) (hk : k (.dat (.bool true)) [.dat c.d, .dat s.d]) : F_strike_fits K [.dat c.d, .dat s.d] k := ⟨c, s, hs, rfl, hk⟩
theorem seqOf.seqD {d : PyData} {ds : List PyData} (h : seqOf d ds) : Dl.seqD d = some ds := by
  rcases h with rfl | rfl <;> rfl
theorem b_first_misfit (T : MT K) : ∀ args k, F_first_misfit K args k → ExS K (t_first_misfit K) (args ++ List.replicate (5 - args.length) .no) (fnOut args k) := by
  rintro args k ⟨c, ss, d, ⟨hl, hall, hp⟩, hd, h⟩
  refine bodyD (Γ := [.dat c.d, .dat d, .no, .no, .no]) h rfl ?_
  unfold t_first_misfit
  repeat' walk_at "d1"
  refine x_for (i_enumU ?_)
  repeat' walk_at "d1"
  refine ⟨_, _, rfl, hd.seqD, fun _ => ?_⟩
  refine ⟨fun i Γ => ∃ last x y, Γ = [.dat c.d, .dat d, .dat (.int last), x, y] ∧ ∀ s ∈ ss.drop i, last ≤ s.step, ⟨0, _, _, rfl, fun s hs => (hall s (List.mem_of_mem_drop hs)).1.1⟩, fun _ _ _ _ => trivial, ?_, ?_⟩
  · rintro i Γ hi ⟨last, x, y, rfl, hlast⟩
    rw [List.length_map] at hi
    obtain ⟨s, hs⟩ : ∃ s, ss[i]? = some s := ⟨_, List.getElem?_eq_getElem hi⟩
    have hgd : (ss.map Strike.d).getD i .none = s.d := by rw [List.getD_eq_getElem?_getD, List.getElem?_map, hs]; rfl
    have hsm : s ∈ ss := List.mem_of_getElem? hs
    have hdr : ss.drop i = s :: ss.drop (i + 1) := by rw [List.drop_eq_getElem_cons hi, (List.getElem?_eq_some_iff.mp hs).2]
    have hle : last ≤ s.step := hlast s (by rw [hdr]; exact List.mem_cons_self ..)
    have hnext : ∀ s2 ∈ ss.drop (i + 1), s.step ≤ s2.step := fun s2 h2 => by
      have hp2 : (ss.drop i).Pairwise fun a b => a.step ≤ b.step := hp.sublist (List.drop_sublist ..)
      rw [hdr] at hp2
      exact (List.pairwise_cons.mp hp2).1 s2 h2
    show EvG K _ (.dat (.tuple [.int (i : Int), (ss.map Strike.d).getD i .none])) _ _
    rw [hgd]
    refine g_tup rfl (gs_cons (g_name (gs_cons (g_name (gs_nil ?_)))))
    repeat' walk_at "d1"
    refine u_strike_fits (hall s hsm) ⟨_, _, rfl, rfl, ?_⟩
    unfold Strike.d
    repeat' walk_at "d1"
    exact ⟨_, _, _, rfl, hnext⟩
  · rintro Γ ⟨last, x, y, rfl, hlast⟩
    show ExS K (tRet (tC .non)) _ _
    repeat' walk_at "d1"
theorem u_first_misfit {c : Code} {ss : List Strike} {d : PyData} {k : Sl → List Sl → Prop} (hs : strikesOk c ss) (hd : seqOf d (ss.map Strike.d)) (hk : k (.dat .none) [.dat c.d, .dat d]) : F_first_misfit K [.dat c.d, .dat d] k := ⟨c, ss, d, hs, hd, rfl, hk⟩
theorem b_is_strike_list (T : MT K) : ∀ args k, F_is_strike_list K args k → ExS K (t_is_strike_list K) (args ++ List.replicate (1 - args.length) .no) (fnOut args k) := by
  rintro args k ⟨ds, d, hl, hd, h⟩
  rcases hd with rfl | rfl
  · refine bodyD (Γ := [.dat (.list ds)]) h rfl ?_
    unfold t_is_strike_list
    repeat' walk_at "d1"
    simp
    omega
  · refine bodyD (Γ := [.dat (.tuple ds)]) h rfl ?_
    unfold t_is_strike_list
    repeat' walk_at "d1"
    simp
    omega
theorem u_is_strike_list {ds : List PyData} {d : PyData} {k : Sl → List Sl → Prop} (hl : ds.length ≤ 400) (hd : seqOf d ds) (hk : k (.dat (.bool true)) [.dat d]) : F_is_strike_list K [.dat d] k := ⟨ds, d, hl, hd, rfl, hk⟩
theorem b_need_strikes (T : MT K) : ∀ args k, F_need_strikes K args k → ExS K (t_need_strikes K) (args ++ List.replicate (3 - args.length) .no) (fnOut args k) := by
  rintro args k ⟨c, ss, d, hs, hd, h⟩
  refine bodyD (Γ := [.dat c.d, .dat d, .no]) h rfl ?_
  unfold t_need_strikes
  repeat' walk_at "d1"
  refine u_is_strike_list (by rw [List.length_map]; exact hs.1) hd ⟨_, _, rfl, rfl, ?_⟩
  repeat' walk_at "d1"
  refine u_first_misfit hs hd ?_
  repeat' walk_at "d1"
  all_goals rfl
theorem u_need_strikes {c : Code} {ss : List Strike} {d : PyData} {k : Sl → List Sl → Prop} (hs : strikesOk c ss) (hd : seqOf d (ss.map Strike.d)) (hk : k (.dat .none) [.dat c.d, .dat d]) : F_need_strikes K [.dat c.d, .dat d] k := ⟨c, ss, d, hs, hd, rfl, hk⟩
end
end Hw
namespace Hw
open PySem PySem.Spec PyProof.Rows L2 Dl
theorem HueOk.point {c : Code} {h : HueD} {p : Int} (k : HueOk c h) (hp : 0 ≤ p) : HueOk c (pointH p h) := ⟨k.rl, k.rn, k.bl, k.bn, hp, k.s, k.c, k.nd⟩
theorem HueOk.empty {c : Code} {h : HueD} (k : HueOk c h) : HueOk c (emptyH h) := ⟨k.rl, k.rn, k.bl, k.bn, k.p, (fun n e => by cases e), k.c, k.nd⟩
theorem mem_set_or {α : Type} {l : List α} {i : Nat} {x y : α} (h : y ∈ l.set i x) : y ∈ l ∨ y = x := List.mem_or_eq_of_mem_set h
theorem HueOk.setReg {c : Code} {h : HueD} {r n : Int} (k : HueOk c h) (hn : 0 ≤ n ∧ n ≤ c.size - 1) : HueOk c (h.setReg r n) :=
  ⟨by show (h.regs.set _ _).length = 8; rw [List.length_set]; exact k.rl, fun x hx => by
    rcases mem_set_or (show x ∈ h.regs.set r.toNat n from hx) with q | q
    · exact k.rn x q
    · rw [q]; exact hn, k.bl, k.bn, k.p, k.s, k.c, k.nd⟩
theorem HueOk.setBank {c : Code} {h : HueD} {i : Nat} {n : Int} (k : HueOk c h) (hn : 0 ≤ n ∧ n ≤ c.size - 1) : HueOk c { h with bank := h.bank.set i n } :=
  ⟨k.rl, k.rn, by show (h.bank.set _ _).length = _; rw [List.length_set]; exact k.bl, fun x hx => by
    rcases mem_set_or (show x ∈ h.bank.set i n from hx) with q | q
    · exact k.bn x q
    · rw [q]; exact hn, k.p, k.s, k.c, k.nd⟩
theorem HueOk.setSlot {c : Code} {h : HueD} {n : Option Int} (k : HueOk c h) (hn : ∀ x, n = some x → 0 ≤ x ∧ x ≤ c.size - 1) : HueOk c { h with slot := n } := ⟨k.rl, k.rn, k.bl, k.bn, k.p, hn, k.c, k.nd⟩
theorem putC_keys {l : List (Int × CellT)} {a : Int} {c : CellT} : (putC l a c).map (·.1) = if (l.any fun p => decide (p.1 = a)) = true then l.map (·.1) else l.map (·.1) ++ [a] := by
  unfold putC
  by_cases q : (l.any fun p => decide (p.1 = a)) = true
  · rw [if_pos q, if_pos q, List.map_map]
    refine List.map_congr_left fun p _ => ?_
    show (if p.1 = a then (p.1, c) else p).1 = p.1
    by_cases e : p.1 = a
    · rw [if_pos e]
    · rw [if_neg e]
  · rw [if_neg q, if_neg q, List.map_append]
    rfl
theorem putC_mem {l : List (Int × CellT)} {a : Int} {c : CellT} {q : Int × CellT} (h : q ∈ putC l a c) : q ∈ l ∨ q = (a, c) := by
  unfold putC at h
  by_cases e : (l.any fun p => decide (p.1 = a)) = true
  · rw [if_pos e] at h
    obtain ⟨p, hp, e2⟩ := List.mem_map.mp h
    by_cases e3 : p.1 = a
    · rw [if_pos e3] at e2
      rw [← e2, e3]
      exact .inr rfl
    · rw [if_neg e3] at e2
      rw [← e2]
      exact .inl hp
  · rw [if_neg e] at h
    rcases List.mem_append.mp h with z | z
    · exact .inl z
    · exact .inr (List.mem_singleton.mp z)
theorem HueOk.put {c : Code} {h : HueD} {a hu : Int} {i : Ins} (k : HueOk c h) (ha : 0 ≤ a ∧ a ≤ c.cells.length - 1) (hi : insOk c.size c.bank.length i) : HueOk c { h with chg := putC h.chg a (.ins hu i) } :=
  ⟨k.rl, k.rn, k.bl, k.bn, k.p, k.s, fun q hq => by
    rcases putC_mem hq with z | z
    · exact k.c q z
    · rw [z]; exact ⟨ha, hu, i, rfl, hi⟩, by
    show ((putC h.chg a (.ins hu i)).map (·.1)).Nodup
    rw [putC_keys]
    by_cases e : (h.chg.any fun p => decide (p.1 = a)) = true
    · rw [if_pos e]; exact k.nd
    · rw [if_neg e]
      refine List.nodup_append.mpr ⟨k.nd, by simp, fun x hx y hy => ?_⟩
      rw [List.mem_singleton.mp hy]
      intro z
      obtain ⟨p, hp, e2⟩ := List.mem_map.mp hx
      exact e (List.any_eq_true.mpr ⟨p, hp, by simp [e2, z]⟩)⟩
theorem regD_in {c : Code} {h : HueD} {r : Int} (k : HueOk c h) (hr : regOk r) : 0 ≤ h.reg r ∧ h.reg r ≤ c.size - 1 := by
  obtain ⟨r0, r7⟩ := hr
  have hl := k.rl
  have e : h.regs[r.toNat]? = some (h.reg r) := by
    unfold HueD.reg
    rw [List.getD_eq_getElem?_getD, List.getElem?_eq_getElem (by omega)]
    rfl
  exact k.rn _ (List.mem_of_getElem? e)
theorem worth_in {w : Str} {x y size : Int} (hs : 2 ≤ size) (hx : 0 ≤ x ∧ x ≤ size - 1) (hy : 0 ≤ y) : 0 ≤ worth w x y size ∧ worth w x y size ≤ size - 1 := by
  have m : ∀ z : Int, 0 ≤ z % size ∧ z % size ≤ size - 1 := fun z => ⟨Int.emod_nonneg _ (by omega), by have := Int.emod_lt_of_pos z (show 0 < size by omega); omega⟩
  unfold worth
  split
  · exact m _
  split
  · exact m _
  split
  · exact m _
  split
  · split
    · have h1 := Int.emod_nonneg x (show y ≠ 0 by assumption)
      have h2 : x % y ≤ x := by
        have := Int.mul_ediv_add_emod x y
        have h3 : 0 ≤ y * (x / y) := Int.mul_nonneg hy (Int.ediv_nonneg hx.1 hy)
        omega
      omega
    · omega
  split
  · split <;> omega
  · split <;> omega
theorem runIns_ok {c : Code} {h : HueD} {i : Ins} (hc : c.Ok) (k : HueOk c h) (hi : insOk c.size c.bank.length i) : HueOk c (runIns c.size h i) := by
  have hs := hc.size
  cases i with
  | set g v => exact k.setReg hi.2
  | offer r => exact k.setSlot fun x e => by cases e; exact regD_in k hi
  | get g cc b l =>
    obtain ⟨hg, hcc, b0, b1, l0, l1⟩ := hi
    have x0 := regD_in k hcc
    have m0 : 0 ≤ h.reg cc % l := Int.emod_nonneg _ (by omega)
    have m1 : h.reg cc % l < l := Int.emod_lt_of_pos _ (by omega)
    have hbl := k.bl
    refine k.setReg (k.bn _ (List.mem_of_getElem? (i := (b + h.reg cc % l).toNat) ?_))
    rw [List.getD_eq_getElem?_getD, List.getElem?_eq_getElem (by omega)]
    rfl
  | put g cc b l => exact k.setBank (regD_in k hi.1)
  | two w g a b => exact k.setReg (worth_in hs.1 (regD_in k hi.2.2.1) (regD_in k hi.2.2.2).1)
theorem getC_mem {l : List (Int × CellT)} {a : Int} {x : CellT} (h : getC l a = some x) : ∃ q ∈ l, q.2 = x ∧ q.1 = a := by
  unfold getC at h
  cases e : l.find? fun p => decide (p.1 = a) with
  | none => rw [e] at h; cases h
  | some q =>
    rw [e] at h
    have hp := List.find?_some e
    exact ⟨q, List.mem_of_find?_eq_some e, Option.some.inj h, of_decide_eq_true hp⟩
theorem chgGet_ok {c : Code} {h : HueD} {a hu : Int} {i : Ins} (k : HueOk c h) (hi : insOk c.size c.bank.length i) : ∃ hu' i', (getC h.chg a).getD (.ins hu i) = .ins hu' i' ∧ insOk c.size c.bank.length i' := by
  cases e : getC h.chg a with
  | none => exact ⟨hu, i, rfl, hi⟩
  | some x =>
    obtain ⟨q, hq, e1, e2⟩ := getC_mem e
    obtain ⟨_, hu', i', e3, h3⟩ := k.c q hq
    exact ⟨hu', i', by show x = _; rw [← e1, e3], h3⟩
theorem mem_modifyD {α : Type} {hs : List α} {i : Nat} {f : α → α} {h : α} (hm : h ∈ hs.modify i f) : h ∈ hs ∨ ∃ g, hs[i]? = some g ∧ h = f g := by
  obtain ⟨n, hn⟩ := List.getElem?_of_mem hm
  rw [List.getElem?_modify] at hn
  cases q : hs[n]? with
  | none => rw [q] at hn; cases hn
  | some g =>
    rw [q] at hn
    by_cases e : i = n
    · subst e
      have hn : some (if i = i then f g else g) = some h := hn
      rw [if_pos rfl] at hn
      exact .inr ⟨g, q, (Option.some.inj hn).symm⟩
    · have hn : some (if i = n then f g else g) = some h := hn
      rw [if_neg e] at hn
      rw [← Option.some.inj hn]
      exact .inl (List.mem_of_getElem? q)
theorem MD.Ok.onHue {d : MD} {i : Nat} {f : HueD → HueD} (k : d.Ok) (hf : ∀ h, d.hues[i]? = some h → HueOk d.code (f h)) : (d.onHue i f).Ok :=
  ⟨k.code, by show (d.hues.modify i f).length = _; rw [List.length_modify]; exact k.len, fun h hh => by
    rcases mem_modifyD (show h ∈ d.hues.modify i f from hh) with q | ⟨g, q, e⟩
    · exact k.hues h q
    · rw [e]; exact hf g q, k.strikes, k.row, k.steps⟩
theorem MD.Ok.map {d : MD} {f : HueD → HueD} (k : d.Ok) (hf : ∀ h ∈ d.hues, HueOk d.code (f h)) : ({ d with hues := d.hues.map f } : MD).Ok :=
  ⟨k.code, by show (d.hues.map f).length = _; rw [List.length_map]; exact k.len, fun h hh => by
    obtain ⟨g, hg, rfl⟩ := List.mem_map.mp (show h ∈ d.hues.map f from hh)
    exact hf g hg, k.strikes, k.row, k.steps⟩
theorem MD.Ok.point {d : MD} {p : Int} (k : d.Ok) (hp : 0 ≤ p) : (d.point p).Ok := k.map fun h hh => (k.hues h hh).point hp
theorem MD.Ok.empty {d : MD} (k : d.Ok) : d.empty.Ok := k.map fun h hh => (k.hues h hh).empty
theorem MD.Ok.st {d : MD} {s : St} (k : d.Ok) : ({ d with state := s } : MD).Ok := ⟨k.code, k.len, k.hues, k.strikes, k.row, k.steps⟩
theorem MD.Ok.addrTo {d : MD} {s : Option Int} (k : d.Ok) : ({ d with addr := s } : MD).Ok := ⟨k.code, k.len, k.hues, k.strikes, k.row, k.steps⟩
theorem MD.Ok.next1 {d : MD} (k : d.Ok) : ({ d with steps := d.steps + 1 } : MD).Ok := ⟨k.code, k.len, k.hues, k.strikes, by show d.row.length ≤ (d.steps + 1).toNat; have := k.row; have := k.steps; omega, by show 0 ≤ d.steps + 1; have := k.steps; omega⟩
theorem MD.Ok.rowTo {d : MD} {x : Item} (k : d.Ok) (hr : d.row.length + 1 ≤ d.steps.toNat) : ({ d with row := d.row ++ [x] } : MD).Ok := ⟨k.code, k.len, k.hues, k.strikes, by show (d.row ++ [x]).length ≤ _; rw [List.length_append]; exact hr, k.steps⟩
theorem agreedI_mem {ns : List Int} {need v : Int} (h : agreedI ns need = some v) : v ∈ ns := List.mem_of_find?_eq_some h
theorem agreedP_mem {ns : List Pair} {need : Int} {v : Pair} (h : agreedP ns need = some v) : v ∈ ns := List.mem_of_find?_eq_some h
theorem fetch_in {d : MD} (k : d.Ok) {p : Int} (h : d.fetch = some p) : 0 ≤ p ∧ p < d.code.cells.length := by
  unfold MD.fetch at h
  split at h
  · rename_i q hq
    split at h
    · cases h
      obtain ⟨g, hg, e⟩ := List.mem_map.mp (agreedI_mem hq)
      refine ⟨?_, by assumption⟩
      rw [← e]
      exact (k.hues g hg).p
    · cases h
  · cases h
theorem settle_ok {d : MD} {p : Int} {c : CellT} (k : d.Ok) (hp : 0 ≤ p) (hr : d.row.length + 1 ≤ d.steps.toNat) (hc : cellOk d.code.votes.length d.code.size d.code.cells.length d.code.bank.length c) : (d.settle p c).Ok := by
  have hs := k.code.size
  cases c with
  | ins h i => exact k
  | shw q w =>
    simp only [MD.settle]
    split
    · exact k.st
    · exact MD.Ok.rowTo (d := (d.point (p + 1)).empty) (k.point (p := p + 1) (by omega)).empty hr
  | turn g w =>
    obtain ⟨⟨g0, g1⟩, _⟩ := hc
    simp only [MD.settle]
    split
    · exact k.st
    · exact (k.point (by split <;> omega)).empty
  | take r w =>
    have hn : 0 ≤ d.takeNo ∧ d.takeNo ≤ d.code.size - 1 := ⟨Int.emod_nonneg _ (by omega), by
      have := Int.emod_lt_of_pos (d.left.headD 0) (show 0 < d.code.size by omega)
      unfold MD.takeNo
      omega⟩
    have k1 := k.point (p := p + 1) (by omega)
    refine ⟨k.code, ?_, fun h hh => ?_, k.strikes, ?_, k.steps⟩
    · show (upToL _ w.toNat (d.hues.map (pointH (p + 1)))).length = d.code.votes.length
      have := k.len
      unfold upToL
      simp
      omega
    · rcases List.mem_append.mp (show h ∈ upToL _ w.toNat (d.hues.map (pointH (p + 1))) from hh) with q | q
      · obtain ⟨g, hg, rfl⟩ := List.mem_map.mp q
        exact (k1.hues g (List.mem_of_mem_take hg)).setReg hn
      · exact k1.hues h (List.mem_of_mem_drop q)
    · show (d.row ++ [_]).length ≤ _
      rw [List.length_append]
      exact hr
  | goto g => exact k.point hc.1
  | mark =>
    simp only [MD.settle]
    split
    · exact k.st
    · rename_i q e
      obtain ⟨g, hg, eq⟩ := List.mem_map.mp (agreedP_mem e)
      have kg := k.hues g hg
      have k1 : ({ d with hues := d.hues.map (markH q) } : MD).Ok := k.map fun h hh => by
        have kh := k.hues h hh
        refine ⟨?_, ?_, ?_, ?_, kh.p, kh.s, (fun q hq => by cases hq), List.nodup_nil⟩
        all_goals (rw [← eq]; first | exact kg.rl | exact kg.rn | exact kg.bl | exact kg.bn)
      exact (k1.point (p := p + 1) (by omega)).empty
  | stop => exact ((k.point (p := p + 1) (by omega)).rowTo hr).st
theorem at_ok {d : MD} {p : Int} {c : CellT} (k : d.Ok) (hp : 0 ≤ p) (hr : d.row.length + 1 ≤ d.steps.toNat) (hc : cellOk d.code.votes.length d.code.size d.code.cells.length d.code.bank.length c) : (d.at p c).Ok := by
  cases c with
  | ins h i =>
    refine (k.point (p := p + 1) (by omega)).onHue fun g hg => ?_
    have kg : HueOk d.code g := (k.point (p := p + 1) (by omega)).hues g (List.mem_of_getElem? hg)
    obtain ⟨hu', i', e, hi'⟩ := chgGet_ok (a := p) (hu := h) kg hc.2
    show HueOk d.code (runCell d.code.size g _)
    rw [e]
    exact runIns_ok k.code kg hi'
  | shw q w => exact settle_ok k hp hr hc
  | turn q w => exact settle_ok k hp hr hc
  | take q w => exact settle_ok k hp hr hc
  | goto q => exact settle_ok k hp hr hc
  | mark => exact settle_ok k hp hr hc
  | stop => exact settle_ok k hp hr hc
theorem step_none {d : MD} (e : d.fetch = none) : d.step = { d with steps := d.steps + 1, state := .caught } := by simp only [MD.step, e]
theorem step_some {d : MD} {p : Int} {c : CellT} (e : d.fetch = some p) (e2 : d.code.cells[p.toNat]? = some c) : d.step = ({ d with steps := d.steps + 1 } : MD).at p c := by simp only [MD.step, e, e2]
theorem step_out {d : MD} {p : Int} (e : d.fetch = some p) (e2 : d.code.cells[p.toNat]? = none) : d.step = ({ d with steps := d.steps + 1 } : MD) := by simp only [MD.step, e, e2]
theorem step_ok {d : MD} (k : d.Ok) : d.step.Ok := by
  have k1 := k.next1
  cases e : d.fetch with
  | none =>
    rw [step_none e]
    exact k1.st
  | some p =>
    obtain ⟨p0, p1⟩ := fetch_in k e
    cases e2 : d.code.cells[p.toNat]? with
    | none => rw [step_out e e2]; exact k1
    | some c =>
      rw [step_some e e2]
      exact at_ok k1 p0 (by show d.row.length + 1 ≤ (d.steps + 1).toNat; have := k.row; have := k.steps; omega) (k.code.cells.2.2 c (List.mem_of_getElem? e2))
theorem settle_code {d : MD} {p : Int} {c : CellT} : (d.settle p c).code = d.code ∧ (d.settle p c).steps = d.steps ∧ (d.settle p c).strikes = d.strikes := by
  cases c <;> simp only [MD.settle]
  all_goals first
    | exact ⟨rfl, rfl, rfl⟩
    | exact ⟨trivial, trivial, trivial⟩
    | (split <;> exact ⟨rfl, rfl, rfl⟩)
theorem at_code {d : MD} {p : Int} {c : CellT} : (d.at p c).code = d.code ∧ (d.at p c).steps = d.steps ∧ (d.at p c).strikes = d.strikes := by
  cases c with
  | ins h i => exact ⟨rfl, rfl, rfl⟩
  | shw q w => exact settle_code
  | turn q w => exact settle_code
  | take q w => exact settle_code
  | goto q => exact settle_code
  | mark => exact settle_code
  | stop => exact settle_code
theorem step_code {d : MD} : d.step.code = d.code ∧ d.step.steps = d.steps + 1 ∧ d.step.strikes = d.strikes := by
  cases e : d.fetch with
  | none => rw [step_none e]; exact ⟨rfl, rfl, rfl⟩
  | some p =>
    cases e2 : d.code.cells[p.toNat]? with
    | none => rw [step_out e e2]; exact ⟨rfl, rfl, rfl⟩
    | some c =>
      rw [step_some e e2]
      exact at_code (d := { d with steps := d.steps + 1 }) (p := p) (c := c)
theorem strikeH_ok {c : Code} {h : HueD} {hu : Int} {t : Thing} (k : HueOk c h) (ht : thingOk c hu t) : HueOk c (strikeH t h) := by
  cases t with
  | reg r n => exact k.setReg ht.2
  | cell a n => exact k.setBank ht.2
  | pointer n => exact ⟨k.rl, k.rn, k.bl, k.bn, ht.1, k.s, k.c, k.nd⟩
  | slot n => exact k.setSlot ht
  | code a h' i => exact k.put ht.1 ht.2.2.2
theorem dueL_ok {c : Code} {n : Int} : ∀ {ss : List Strike} {hs : List HueD}, (∀ s ∈ ss, strikeOk c s) → (∀ h ∈ hs, HueOk c h) → (∀ s ∈ (dueL n ss hs).1, strikeOk c s) ∧ (∀ h ∈ (dueL n ss hs).2, HueOk c h) ∧ (dueL n ss hs).2.length = hs.length
  | [], hs, h1, h2 => ⟨h1, h2, rfl⟩
  | s :: ss, hs, h1, h2 => by
    unfold dueL
    by_cases e : s.step ≤ n
    · rw [if_pos e]
      have := dueL_ok (n := n) (ss := ss) (hs := hs.modify s.hue.toNat (strikeH s.th)) (fun x hx => h1 x (List.mem_cons_of_mem _ hx)) fun h hh => by
        rcases mem_modifyD hh with q | ⟨g, q, e⟩
        · exact h2 h q
        · rw [e]; exact strikeH_ok (h2 g (List.mem_of_getElem? q)) (h1 s (List.mem_cons_self ..)).2.2
      rw [List.length_modify] at this
      exact this
    · rw [if_neg e]
      exact ⟨h1, h2, rfl⟩
theorem due_ok {d : MD} (k : d.Ok) : d.due.Ok := by
  obtain ⟨h1, h2, h3⟩ := dueL_ok (n := d.steps) k.strikes k.hues
  exact ⟨k.code, h3.trans k.len, h2, h1, k.row, k.steps⟩
theorem run_ok : ∀ {n : Nat} {d : MD}, d.Ok → (MD.run n d).Ok ∧ (MD.run n d).code = d.code ∧ d.steps ≤ (MD.run n d).steps ∧ (MD.run n d).steps ≤ d.steps + n
  | 0, d, k => ⟨k, rfl, Int.le_refl _, by show d.steps ≤ d.steps + ((0 : Nat) : Int); omega⟩
  | n + 1, d, k => by
    unfold MD.run
    by_cases e : d.state = .running
    · rw [if_pos e]
      obtain ⟨h1, h2, h3, h4⟩ := run_ok (n := n) (step_ok (due_ok k))
      have q1 : d.due.step.code = d.due.code := step_code.1
      have q2 : d.due.step.steps = d.steps + 1 := step_code.2.1
      exact ⟨h1, h2.trans q1, by omega, by push_cast; omega⟩
    · rw [if_neg e]
      exact ⟨k, rfl, Int.le_refl _, by omega⟩
theorem go_ok {n : Nat} {d : MD} (k : d.Ok) : (d.go n).Ok := (run_ok k).1.addrTo
theorem go_code {n : Nat} {d : MD} (k : d.Ok) : (d.go n).code = d.code := (run_ok k).2.1
theorem go_steps {n : Nat} {d : MD} (k : d.Ok) : d.steps ≤ (d.go n).steps ∧ (d.go n).steps ≤ d.steps + n := (run_ok k).2.2
theorem strike_ok {d : MD} {i : Nat} {t : Thing} (k : d.Ok) (ht : thingOk d.code i t) : (d.strike i t).Ok := (k.onHue fun h hh => strikeH_ok (k.hues h (List.mem_of_getElem? hh)) ht).addrTo
theorem fresh_ok {c : Code} (hc : c.Ok) : HueOk c (freshH c.bank) := by
  have hs := hc.size
  refine ⟨rfl, fun n hn => ?_, rfl, hc.bank.2, Int.le_refl _, (fun n e => by cases e), (fun q hq => by cases hq), List.nodup_nil⟩
  rw [List.eq_of_mem_replicate hn]
  omega
theorem new_ok {c : Code} {left : List Int} {ss : List Strike} (hc : c.Ok) (hs : ∀ s ∈ ss, strikeOk c s) : (MD.new c left ss).Ok :=
  ⟨hc, List.length_map .., fun h hh => by
    obtain ⟨_, _, rfl⟩ := List.mem_map.mp hh
    exact fresh_ok hc, hs, Nat.le_refl _, Int.le_refl _⟩
end Hw
namespace Hw
open PySem PySem.Spec PyProof.Rows L2 Dl
section
variable {K : Frag} {Γ : List Sl} {k : Sl → List Sl → Prop} {O : Out}
theorem b_yes {kb : Bool → List Sl → Prop} (h : kb true Γ) : EvB K tYes Γ kb := fun σ S H fs Q w P => P true Γ S H fs h w Step.refl
theorem ls_len {h : Hue} : h.ls.length = 3 := rfl
theorem ls_get : ∀ {hs : List Hue} {i q : Nat} {h : Hue}, hs[i]? = some h → q < 3 → (hs.flatMap Hue.ls)[3 * i + q]? = h.ls[q]?
  | [], _, _, _, e, _ => by simp at e
  | x :: hs, 0, q, h, e, hq => by
    simp at e
    subst e
    rw [List.flatMap_cons, List.getElem?_append_left (by rw [ls_len]; omega)]
    simp
  | x :: hs, i + 1, q, h, e, hq => by
    rw [List.flatMap_cons, List.getElem?_append_right (by rw [ls_len]; omega), ls_len, show 3 * (i + 1) + q - 3 = 3 * i + q by omega]
    exact ls_get (by simpa using e) hq
theorem ls_set {h' : Hue} : ∀ {hs : List Hue} {i q : Nat} {h : Hue} {c : Addr × Cell}, hs[i]? = some h → q < 3 → h.ls.set q c = h'.ls → (hs.flatMap Hue.ls).set (3 * i + q) c = (hs.set i h').flatMap Hue.ls
  | [], _, _, _, _, e, _, _ => by simp at e
  | x :: hs, 0, q, h, c, e, hq, hc => by
    simp at e
    subst e
    rw [List.flatMap_cons, List.set_append_left _ _ (by rw [ls_len]; omega), List.set_cons_zero, List.flatMap_cons, ← hc]
    simp
  | x :: hs, i + 1, q, h, c, e, hq, hc => by
    rw [List.flatMap_cons, List.set_append_right _ _ (by rw [ls_len]; omega), ls_len, show 3 * (i + 1) + q - 3 = 3 * i + q by omega, List.set_cons_succ, List.flatMap_cons]
    rw [ls_set (by simpa using e) hq hc]
theorem ls_same {h' : Hue} : ∀ {hs : List Hue} {i : Nat} {h : Hue}, hs[i]? = some h → h'.ls = h.ls → (hs.set i h').flatMap Hue.ls = hs.flatMap Hue.ls
  | [], _, _, e, _ => by simp at e
  | x :: hs, 0, h, e, hc => by
    simp at e
    subst e
    rw [List.set_cons_zero, List.flatMap_cons, List.flatMap_cons, hc]
  | x :: hs, i + 1, h, e, hc => by
    rw [List.set_cons_succ, List.flatMap_cons, List.flatMap_cons, ls_same (by simpa using e) hc]
def lsAt (m : Mach) (i q : Nat) : Nat := 5 + (m.hues.length + (3 * i + q))
theorem cs_top {m : Mach} {q : Nat} (h : q < 5) : (m.cs K)[q]? = (m.top K)[q]? := by
  unfold Mach.cs
  rw [List.getElem?_append_left (by show q < 5; exact h)]
theorem cs_ic {m : Mach} {i : Nat} {h : Hue} (e : m.hues[i]? = some h) : (m.cs K)[5 + i]? = some (h.ic K) := by
  have hl : i < m.hues.length := (List.getElem?_eq_some_iff.mp e).1
  unfold Mach.cs
  rw [List.getElem?_append_right (by show 5 ≤ _; omega), show 5 + i - (m.top K).length = i by show 5 + i - 5 = i; omega, List.getElem?_append_left (by rw [List.length_map]; exact hl), List.getElem?_map, e]
  rfl
theorem cs_ls {m : Mach} {i q : Nat} {h : Hue} (e : m.hues[i]? = some h) (hq : q < 3) : (m.cs K)[lsAt m i q]? = h.ls[q]? := by
  unfold Mach.cs lsAt
  rw [List.getElem?_append_right (by show 5 ≤ _; omega), show 5 + (m.hues.length + (3 * i + q)) - (m.top K).length = m.hues.length + (3 * i + q) by show _ - 5 = _; omega, List.getElem?_append_right (by rw [List.length_map]; omega), List.length_map, Nat.add_sub_cancel_left]
  exact ls_get e hq
theorem top_same {m : Mach} {i : Nat} {h h' : Hue} (e : m.hues[i]? = some h) (hx : h'.x = h.x) : ({ m with hues := m.hues.set i h' } : Mach).top K = m.top K := by
  unfold Mach.top
  have : ((m.hues.set i h').map fun h => Sl.raw (.ref h.x)) = (m.hues.map fun h => Sl.raw (.ref h.x)) := by
    rw [List.map_set, hx]
    exact setSame (by rw [List.getElem?_map, e]; rfl)
  simp only [this]
  rfl
theorem cs_set_ic {m : Mach} {i : Nat} {h h' : Hue} (e : m.hues[i]? = some h) (hx : h'.x = h.x) (hl : h'.ls = h.ls) : (m.cs K).set (5 + i) (h'.ic K) = ({ m with hues := m.hues.set i h' } : Mach).cs K := by
  have hlt : i < m.hues.length := (List.getElem?_eq_some_iff.mp e).1
  have hT := top_same (K := K) e hx
  unfold Mach.cs
  rw [hT, List.set_append_right _ _ (by show 5 ≤ _; omega), show 5 + i - (m.top K).length = i by show 5 + i - 5 = i; omega, List.set_append_left _ _ (by rw [List.length_map]; exact hlt)]
  show _ = m.top K ++ ((m.hues.set i h').map (Hue.ic K) ++ (m.hues.set i h').flatMap Hue.ls)
  rw [List.map_set, ls_same e hl]
theorem cs_set_ls {m : Mach} {i q : Nat} {h h' : Hue} {c : Addr × Cell} (e : m.hues[i]? = some h) (hq : q < 3) (hx : h'.ic K = h.ic K) (hl : h.ls.set q c = h'.ls) : (m.cs K).set (lsAt m i q) c = ({ m with hues := m.hues.set i h' } : Mach).cs K := by
  have hT := top_same (K := K) e (show h'.x = h.x from congrArg Prod.fst hx)
  unfold Mach.cs lsAt
  rw [hT, List.set_append_right _ _ (by show 5 ≤ _; omega), show 5 + (m.hues.length + (3 * i + q)) - (m.top K).length = m.hues.length + (3 * i + q) by show _ - 5 = _; omega, List.set_append_right _ _ (by rw [List.length_map]; omega), List.length_map, Nat.add_sub_cancel_left]
  show _ = m.top K ++ ((m.hues.set i h').map (Hue.ic K) ++ (m.hues.set i h').flatMap Hue.ls)
  rw [ls_set e hq hl, List.map_set, hx]
  congr 2
  exact (setSame (by rw [List.getElem?_map, e]; rfl)).symm
theorem modify_set {α : Type} {l : List α} {i : Nat} {x : α} {f : α → α} (h : l[i]? = some x) : l.modify i f = l.set i (f x) := by
  apply List.ext_getElem?
  intro n
  rw [List.getElem?_modify]
  by_cases e : i = n
  · subst e
    rw [h, List.getElem?_set_self (List.getElem?_eq_some_iff.mp h).1]
    simp
  · rw [List.getElem?_set_ne e]
    cases l[n]? <;> simp [e]
theorem onHue_eq {m : Mach} {i : Nat} {h : Hue} {f : HueD → HueD} (e : m.hues[i]? = some h) : m.onHue i f = { m with hues := m.hues.set i (mapH f h) } := by
  unfold Mach.onHue
  rw [modify_set e]
theorem m_field (T : MT K) {j q : Nat} {m : Mach} {f : Str} {u : Sl} (hj : Γ[j]? = some (.res (m.R K))) (hn : NoAttr K (He.ga K "Machine") f) (h1 : mN[q]? = some f) (h2 : m.fs[q]? = some u) (hk : k u Γ) : EvP K (tFld K (tVar j) f) Γ k :=
  e_fld j 0 q (e_res hj ⟨_, _, _, _, _, _, u, rfl, hj, rfl, T.k_Machine, hn, h1, h2, hk⟩)
theorem f_code (T : MT K) {j : Nat} {m : Mach} (hj : Γ[j]? = some (.res (m.R K))) (hk : k (.dat m.code.d) Γ) : EvP K (tFld K (tVar j) "m_code") Γ k := m_field T (q := 0) hj T.na_Machine_m_code rfl rfl hk
theorem f_hues (T : MT K) {j : Nat} {m : Mach} (hj : Γ[j]? = some (.res (m.R K))) (hk : k (.raw (.ref m.ah)) Γ) : EvP K (tFld K (tVar j) "m_hues") Γ k := m_field T (q := 1) hj T.na_Machine_m_hues rfl rfl hk
theorem f_left (T : MT K) {j : Nat} {m : Mach} (hj : Γ[j]? = some (.res (m.R K))) (hk : k (.raw (.ref m.al)) Γ) : EvP K (tFld K (tVar j) "m_left") Γ k := m_field T (q := 2) hj T.na_Machine_m_left rfl rfl hk
theorem f_strikes (T : MT K) {j : Nat} {m : Mach} (hj : Γ[j]? = some (.res (m.R K))) (hk : k (.raw (.ref m.as_)) Γ) : EvP K (tFld K (tVar j) "m_strikes") Γ k := m_field T (q := 3) hj T.na_Machine_m_strikes rfl rfl hk
theorem f_row (T : MT K) {j : Nat} {m : Mach} (hj : Γ[j]? = some (.res (m.R K))) (hk : k (.raw (.ref m.ar)) Γ) : EvP K (tFld K (tVar j) "m_row") Γ k := m_field T (q := 4) hj T.na_Machine_m_row rfl rfl hk
theorem f_steps (T : MT K) {j : Nat} {m : Mach} (hj : Γ[j]? = some (.res (m.R K))) (hk : k (.dat (.int m.steps)) Γ) : EvP K (tFld K (tVar j) "m_steps") Γ k := m_field T (q := 5) hj T.na_Machine_m_steps rfl rfl hk
theorem f_state (T : MT K) {j : Nat} {m : Mach} (hj : Γ[j]? = some (.res (m.R K))) (hk : k (.dat (.str (stS m.state))) Γ) : EvP K (tFld K (tVar j) "m_state") Γ k := m_field T (q := 6) hj T.na_Machine_m_state rfl rfl hk
theorem f_addr (T : MT K) {j : Nat} {m : Mach} (hj : Γ[j]? = some (.res (m.R K))) (hk : k (.dat (optD m.addr)) Γ) : EvP K (tFld K (tVar j) "address") Γ k := m_field T (q := 7) hj T.na_Machine_address rfl rfl hk
theorem x_steps (T : MT K) {j : Nat} {te : TE} (h : EvP K te Γ fun s Γ1 => ∃ (m : Mach) (n : Int), s = .dat (.int n) ∧ Γ1[j]? = some (.res (m.R K)) ∧ O.nx (Γ1.set j (.res (({ m with steps := n } : Mach).R K)))) : ExS K (sFld K (tVar j) te "m_steps") Γ O :=
  x_fld j 0 5 (h.mono fun s Γ1 ⟨m, n, e, hj, ho⟩ => ⟨by rw [e]; trivial, e_res hj ⟨_, _, _, _, _, _, rfl, hj, rfl, T.k_Machine, T.na_Machine_m_steps, rfl, by decide, by subst e; exact ho⟩⟩)
theorem x_state (T : MT K) {j : Nat} {te : TE} (st : St) (h : EvP K te Γ fun s Γ1 => ∃ m : Mach, s = .dat (.str (stS st)) ∧ Γ1[j]? = some (.res (m.R K)) ∧ O.nx (Γ1.set j (.res (({ m with state := st } : Mach).R K)))) : ExS K (sFld K (tVar j) te "m_state") Γ O :=
  x_fld j 0 6 (h.mono fun s Γ1 ⟨m, e, hj, ho⟩ => ⟨by rw [e]; trivial, e_res hj ⟨_, _, _, _, _, _, rfl, hj, rfl, T.k_Machine, T.na_Machine_m_state, rfl, by decide, by subst e; exact ho⟩⟩)
theorem x_addr (T : MT K) {j : Nat} {te : TE} (h : EvP K te Γ fun s Γ1 => ∃ (m : Mach) (d : Option Int), s = .dat (optD d) ∧ Γ1[j]? = some (.res (m.R K)) ∧ O.nx (Γ1.set j (.res (({ m with addr := d } : Mach).R K)))) : ExS K (sFld K (tVar j) te "address") Γ O :=
  x_fld j 0 7 (h.mono fun s Γ1 ⟨m, n, e, hj, ho⟩ => ⟨by rw [e]; trivial, e_res hj ⟨_, _, _, _, _, _, rfl, hj, rfl, T.k_Machine, T.na_Machine_address, rfl, by decide, by subst e; exact ho⟩⟩)
theorem has_hues {j : Nat} {m : Mach} (hj : Γ[j]? = some (.res (m.R K))) : HasL Γ m.ah (m.hues.map fun h => .raw (.ref h.x)) := .s j 1 hj rfl
theorem has_left {j : Nat} {m : Mach} (hj : Γ[j]? = some (.res (m.R K))) : HasL Γ m.al ((iL m.left).map .dat) := .s j 2 hj rfl
theorem has_strikes {j : Nat} {m : Mach} (hj : Γ[j]? = some (.res (m.R K))) : HasL Γ m.as_ ((m.strikes.map Strike.d).map .dat) := .s j 3 hj rfl
theorem has_row {j : Nat} {m : Mach} (hj : Γ[j]? = some (.res (m.R K))) : HasL Γ m.ar ((m.row.map itemD).map .dat) := .s j 4 hj rfl
theorem h_field (T : MT K) {j i v q : Nat} {m : Mach} {h : Hue} {f : Str} {u : Sl} (hj : Γ[j]? = some (.res (m.R K))) (hi : m.hues[i]? = some h) (hv : Γ[v]? = some (.raw (.ref h.x))) (hn : NoAttr K (He.ga K "HueState") f) (h1 : hN[q]? = some f) (h2 : h.fs[q]? = some u) (hk : k u Γ) : EvP K (tFld K (tVar v) f) Γ k :=
  e_fld j (5 + i) q (e_raw hv ⟨_, _, _, _, _, _, u, rfl, hj, cs_ic hi, T.k_HueState, hn, h1, h2, hk⟩)
theorem h_fieldE (T : MT K) (j i q : Nat) {te : TE} {f : Str} (hn : NoAttr K (He.ga K "HueState") f) (h1 : hN[q]? = some f) (hh : EvP K te Γ fun s Γ1 => ∃ (m : Mach) (h : Hue) (u : Sl), s = .raw (.ref h.x) ∧ Γ1[j]? = some (.res (m.R K)) ∧ m.hues[i]? = some h ∧ h.fs[q]? = some u ∧ k u Γ1) : EvP K (tFld K te f) Γ k :=
  e_fld j (5 + i) q (hh.mono fun s Γ1 ⟨m, h, u, e, hj, hi, h2, hk⟩ => ⟨_, _, _, _, _, _, u, e, hj, cs_ic hi, T.k_HueState, hn, h1, h2, hk⟩)
theorem x_ptr (T : MT K) {j i v : Nat} {te : TE} (h : EvP K te Γ fun s Γ1 => ∃ (m : Mach) (h : Hue) (n : Int), s = .dat (.int n) ∧ Γ1[j]? = some (.res (m.R K)) ∧ m.hues[i]? = some h ∧ Γ1[v]? = some (.raw (.ref h.x)) ∧ O.nx (Γ1.set j (.res ((m.onHue i (pointH n)).R K)))) : ExS K (sFld K (tVar v) te "m_pointer") Γ O :=
  x_fld j (5 + i) 2 (h.mono fun s Γ1 ⟨m, h, n, e, hj, hi, hv, ho⟩ => ⟨by rw [e]; trivial, e_raw hv ⟨_, _, _, _, _, _, rfl, hj, cs_ic hi, T.k_HueState, T.na_HueState_m_pointer, rfl, by decide, by
    subst e
    rw [onHue_eq hi] at ho
    have e := cs_set_ic (K := K) (h' := mapH (pointH n) h) hi rfl rfl
    unfold Mach.R at ho
    rw [← e] at ho
    exact ho⟩⟩)
theorem x_slot (T : MT K) {j i v : Nat} {te : TE} (h : EvP K te Γ fun s Γ1 => ∃ (m : Mach) (h : Hue) (n : Option Int), s = .dat (optD n) ∧ Γ1[j]? = some (.res (m.R K)) ∧ m.hues[i]? = some h ∧ Γ1[v]? = some (.raw (.ref h.x)) ∧ O.nx (Γ1.set j (.res ((m.onHue i fun g => { g with slot := n }).R K)))) : ExS K (sFld K (tVar v) te "m_slot") Γ O :=
  x_fld j (5 + i) 3 (h.mono fun s Γ1 ⟨m, h, n, e, hj, hi, hv, ho⟩ => ⟨by rw [e]; trivial, e_raw hv ⟨_, _, _, _, _, _, rfl, hj, cs_ic hi, T.k_HueState, T.na_HueState_m_slot, rfl, by decide, by
    subst e
    rw [onHue_eq hi] at ho
    have e := cs_set_ic (K := K) (h' := mapH (fun g => { g with slot := n }) h) hi rfl rfl
    unfold Mach.R at ho
    rw [← e] at ho
    exact ho⟩⟩)
theorem has_regs {j i : Nat} {m : Mach} {h : Hue} (hj : Γ[j]? = some (.res (m.R K))) (hi : m.hues[i]? = some h) : HasL Γ h.r ((iL h.d.regs).map .dat) := .s j (lsAt m i 0) hj ((cs_ls hi (by decide)).trans rfl)
theorem has_bank {j i : Nat} {m : Mach} {h : Hue} (hj : Γ[j]? = some (.res (m.R K))) (hi : m.hues[i]? = some h) : HasL Γ h.b ((iL h.d.bank).map .dat) := .s j (lsAt m i 1) hj ((cs_ls hi (by decide)).trans rfl)
theorem at_chg {i : Nat} {m : Mach} {h : Hue} (hi : m.hues[i]? = some h) : (m.cs K)[lsAt m i 2]? = some (h.c, .dI (chgD h.d.chg)) := (cs_ls hi (by decide)).trans rfl
def upTo (f : Hue → Hue) (i : Nat) (hs : List Hue) : List Hue := (hs.take i).map f ++ hs.drop i
theorem upTo_zero {f : Hue → Hue} {hs : List Hue} : upTo f 0 hs = hs := by simp [upTo]
theorem upTo_all {f : Hue → Hue} {hs : List Hue} : upTo f hs.length hs = hs.map f := by simp [upTo]
theorem upTo_len {f : Hue → Hue} {hs : List Hue} {i : Nat} : (upTo f i hs).length = hs.length := by simp [upTo]; omega
theorem upTo_get {f : Hue → Hue} {hs : List Hue} {i : Nat} {h : Hue} (e : hs[i]? = some h) : (upTo f i hs)[i]? = some h := by
  have hl : i < hs.length := (List.getElem?_eq_some_iff.mp e).1
  have h1 : ((hs.take i).map f).length = i := by simp; omega
  unfold upTo
  rw [List.getElem?_append_right (by omega), h1, Nat.sub_self, List.getElem?_drop]
  exact e
theorem upTo_set {f : Hue → Hue} {hs : List Hue} {i : Nat} {h : Hue} (e : hs[i]? = some h) : (upTo f i hs).set i (f h) = upTo f (i + 1) hs := by
  have hl : i < hs.length := (List.getElem?_eq_some_iff.mp e).1
  have h1 : ((hs.take i).map f).length = i := by simp; omega
  have h2 : hs[i] = h := (List.getElem?_eq_some_iff.mp e).2
  unfold upTo
  rw [List.set_append_right _ _ (by omega), h1, Nat.sub_self, List.drop_eq_getElem_cons hl, List.set_cons_zero, List.take_succ_eq_append_getElem hl, h2]
  simp
theorem upTo_mod {f : HueD → HueD} {m : Mach} {i : Nat} {h : Hue} (e : m.hues[i]? = some h) : ({ m with hues := upTo (mapH f) i m.hues } : Mach).onHue i f = { m with hues := upTo (mapH f) (i + 1) m.hues } := by
  rw [onHue_eq (h := h) (upTo_get e), upTo_set e]
theorem upTo_x {f : Hue → Hue} (hf : ∀ h, (f h).x = h.x) {hs : List Hue} {i : Nat} : ((upTo f i hs).map fun h => Sl.raw (.ref h.x)) = hs.map fun h => Sl.raw (.ref h.x) := by
  unfold upTo
  rw [List.map_append, List.map_map]
  have : ((fun h : Hue => Sl.raw (.ref h.x)) ∘ f) = fun h : Hue => Sl.raw (.ref h.x) := funext fun h => by simp [hf]
  rw [this, ← List.map_append, List.take_append_drop]
theorem has_huesU {f : Hue → Hue} (hf : ∀ h, (f h).x = h.x) {j i : Nat} {m : Mach} (hj : Γ[j]? = some (.res (({ m with hues := upTo f i m.hues } : Mach).R K))) : HasL Γ m.ah (m.hues.map fun h => .raw (.ref h.x)) := by
  have q := has_hues hj
  rw [show ({ m with hues := upTo f i m.hues } : Mach).hues = upTo f i m.hues from rfl, upTo_x hf] at q
  exact q
theorem hue_sl {hs : List Hue} {i : Nat} {h : Hue} (e : hs[i]? = some h) : (hs.map fun h => Sl.raw (.ref h.x)).getD i .no = .raw (.ref h.x) := by
  rw [List.getD_eq_getElem?_getD, List.getElem?_map, e]; rfl
theorem hue_at {hs : List Hue} {i : Nat} (h : i < hs.length) : ∃ x, hs[i]? = some x := ⟨_, List.getElem?_eq_getElem h⟩
theorem atI_hueI {hs : List Hue} {i : Int} {h : Hue} (h0 : 0 ≤ i) (e : hs[i.toNat]? = some h) : atI (hs.map fun h => Sl.raw (.ref h.x)) i = some (.raw (.ref h.x)) := atI_map (f := fun h : Hue => Sl.raw (.ref h.x)) h0 e
theorem atI_hue {hs : List Hue} {i : Nat} {h : Hue} (e : hs[i]? = some h) : atI (hs.map fun h => Sl.raw (.ref h.x)) (i : Int) = some (.raw (.ref h.x)) := atI_hueI (by omega) (by rw [Int.toNat_natCast]; exact e)
theorem atI_int {ns : List Int} {i n : Int} (h0 : 0 ≤ i) (e : ns[i.toNat]? = some n) : atI ((iL ns).map Sl.dat) i = some (.dat (.int n)) := by
  have : (iL ns).map Sl.dat = ns.map fun n => Sl.dat (.int n) := by unfold iL; rw [List.map_map]; rfl
  rw [this]
  exact atI_map (f := fun n : Int => Sl.dat (.int n)) h0 e
theorem e_lcH (T : MT K) {j v : Nat} {m : Mach} {f : Str} {g : Hue → PyData} (hj : Γ[j]? = some (.res (m.R K))) (hjv : v ≠ j) (hv : v < Γ.length)
    (hf : ∀ (Γ' : List Sl) (i : Nat) (h : Hue) (k' : Sl → List Sl → Prop), Γ'[j]? = some (.res (m.R K)) → m.hues[i]? = some h → Γ'[v]? = some (.raw (.ref h.x)) → k' (.dat (g h)) Γ' → EvP K (tFld K (tVar v) f) Γ' k')
    (hk : k (.dat (.list (m.hues.map g))) (Γ.set v .no)) : EvP K (tLc (iSq K (tFld K (tVar j) "m_hues")) (gName v) tYes (tFld K (tVar v) f) [v]) Γ k := by
  have hj2 : (Γ.set v .no)[j]? = some (.res (m.R K)) := by rw [List.getElem?_set_ne hjv]; exact hj
  refine e_lc (sets_name (by simp)) gm_name (i_sqC (f_hues T hj ⟨_, _, rfl, has_hues hj, fun hz => ?_⟩))
  refine ⟨fun i acc Γ' => acc = (m.hues.take i).map g ∧ Γ' = Γ.set v .no, by simpa using hz, ⟨by simp, rfl⟩, fun i acc Γ' hi ⟨_, e⟩ => ?_, fun i acc Γ' hi hl ⟨ea, e⟩ => ?_, fun acc Γ' hl ⟨ea, e⟩ => ?_⟩
  · rw [e]
    exact has_hues hj2
  · rw [List.length_map] at hi
    obtain ⟨h, hh⟩ := hue_at hi
    rw [e]
    show EvG K (gName v) ((m.hues.map fun h => Sl.raw (.ref h.x)).getD i .no) _ _
    rw [hue_sl hh]
    refine g_name (b_yes ⟨fun _ => ?_, fun z => by cases z⟩)
    rw [List.set_set]
    refine hf _ i h _ (by rw [List.getElem?_set_ne hjv]; exact hj) hh (List.getElem?_set_self hv) ⟨_, rfl, ?_, ?_⟩
    · rw [ea, List.take_succ_eq_append_getElem hi, List.map_append, (List.getElem?_eq_some_iff.mp hh).2]
      rfl
    · show (Γ.set v (.raw (.ref h.x))).set v .no = Γ.set v .no
      rw [List.set_set]
  · rw [List.length_map, List.take_length] at ea
    rw [ea, e]
    exact hk
theorem e_lcPtr (T : MT K) {j v : Nat} {m : Mach} (hj : Γ[j]? = some (.res (m.R K))) (hjv : v ≠ j) (hv : v < Γ.length) (hk : k (.dat (.list (iL (m.hues.map (·.d.ptr))))) (Γ.set v .no)) :
    EvP K (tLc (iSq K (tFld K (tVar j) "m_hues")) (gName v) tYes (tFld K (tVar v) "m_pointer") [v]) Γ k :=
  e_lcH T (g := fun h => .int h.d.ptr) hj hjv hv (fun Γ' i h k' h1 h2 h3 h4 => h_field T (q := 2) h1 h2 h3 T.na_HueState_m_pointer rfl rfl h4) (by
    unfold iL at hk
    rw [List.map_map] at hk
    exact hk)
theorem e_lcSlot (T : MT K) {j v : Nat} {m : Mach} (hj : Γ[j]? = some (.res (m.R K))) (hjv : v ≠ j) (hv : v < Γ.length) (hk : k (.dat (.list (m.hues.map fun h => optD h.d.slot))) (Γ.set v .no)) :
    EvP K (tLc (iSq K (tFld K (tVar j) "m_hues")) (gName v) tYes (tFld K (tVar v) "m_slot") [v]) Γ k :=
  e_lcH T hj hjv hv (fun Γ' i h k' h1 h2 h3 h4 => h_field T (q := 3) h1 h2 h3 T.na_HueState_m_slot rfl rfl h4) hk
end
end Hw
namespace Hw
open PySem PySem.Spec PyProof.Rows L2 Dl
local macro_rules | `(tactic| walk_at "dbt") => `(tactic| first | assumption | rfl | (decide +kernel) | (simp [isFromD, *]; done) | (simp [isFromD, *]; omega))
local macro_rules | `(tactic| walk_at "d1") => `(tactic| first
  | with_reducible refine x_seq ?_ | with_reducible refine x_if' ?_ | with_reducible refine x_ret ?_ | with_reducible refine x_asg ?_ | with_reducible refine x_next ?_ | with_reducible refine x_expr ?_
  | with_reducible refine e_isi2 (by decide) (by decide) ?_
  | with_reducible refine e_dat rfl ?_ | with_reducible refine e_int ?_ | with_reducible refine e_str ?_ | with_reducible refine e_bl ?_ | with_reducible refine e_non ?_ | with_reducible refine e_op ?_ | with_reducible refine e_cb ?_ | with_reducible refine e_call ?_
  | with_reducible refine a_cons ?_ | with_reducible refine a_nil ?_
  | with_reducible refine b_test ?_ | with_reducible refine b_not ?_ | with_reducible refine b_and' ?_ | with_reducible refine b_or' ?_ | with_reducible refine b_tru ?_
  | with_reducible refine e_andV' ?_ | with_reducible refine e_orV' ?_ | with_reducible refine e_notV ?_ | with_reducible refine e_chain' ?_ | with_reducible refine e_if' ?_ | with_reducible refine e_c ?_ | with_reducible refine e_sl ?_ | with_reducible refine o_no ?_ | with_reducible refine o_some ?_ | with_reducible refine e_neg ?_
  | with_reducible refine e_raw rfl ?_ | with_reducible refine e_res rfl ?_ | with_reducible refine g_name ?_
  | with_reducible refine op_add_i ?_ | with_reducible refine op_sub_i ?_ | with_reducible refine op_lt_i ?_ | with_reducible refine op_le_i ?_ | with_reducible refine op_gt_i ?_ | with_reducible refine op_ge_i ?_ | with_reducible refine op_isnone ?_ | with_reducible refine op_notnone ?_
  | with_reducible refine cb_isi (by decide) ?_ | with_reducible refine cb_max2 ?_ | with_reducible refine cb_min2 ?_ | with_reducible refine cb_abs ?_ | with_reducible refine cb_int ?_ | with_reducible refine cb_len rfl ?_
  | with_reducible refine iteT ?_ | with_reducible refine iteF ?_ | ((with_reducible refine iT ?_ ?_); focus (walk_at "dbt"; done)) | ((with_reducible refine iF ?_ ?_); focus (walk_at "dbt"; done))
  | ((with_reducible refine g_tup ?_ ?_); (focus rfl)) | with_reducible refine gs_cons ?_ | with_reducible refine gs_nil ?_
  | with_reducible refine e_tup' ?_ | with_reducible refine e_lst' ?_ | with_reducible refine op_in2 ?_ | with_reducible refine op_ni3 ?_
  | with_reducible refine op_eq_ii ?_ | with_reducible refine op_ne_ii ?_ | ((with_reducible refine op_eq_ss ?_ ?_ ?_); (focus (decide +kernel)); (focus (decide +kernel))) | ((with_reducible refine op_ne_ss ?_ ?_ ?_); (focus (decide +kernel)); (focus (decide +kernel)))
  | ((with_reducible refine op_eq_d ?_ ?_ ?_); (focus (walk_at "dbt")); (focus (walk_at "dbt")))
  | ((with_reducible refine op_ne_d ?_ ?_ ?_); (focus (walk_at "dbt")); (focus (walk_at "dbt")))
  | ((with_reducible refine op_ix' ?_); refine Exists.intro _ (Exists.intro _ (And.intro rfl (And.intro rfl ?_))))
  | ((with_reducible refine op_mul_il ?_ ?_); (focus (decide +kernel))) | ((with_reducible refine op_mul_ir ?_ ?_); (focus (decide +kernel)))
  | ((with_reducible refine And.intro (a := smallL _ = true) ?_ ?_); (focus rfl)) | ((with_reducible refine And.intro (a := Pers _) ?_ ?_); (focus trivial)) | with_reducible refine d_cons ?_ | with_reducible refine d_nil ?_
  | (with_reducible refine Exists.intro _ (And.intro rfl ?_)) | (with_reducible refine Exists.intro _ (Exists.intro _ (And.intro rfl (And.intro rfl ?_)))) | refine Exists.intro _ (And.intro rfl (And.intro (by rfl) ?_)) | refine Exists.intro _ (Exists.intro _ (And.intro rfl (And.intro rfl ?_))) | with_reducible refine dat_ok ?_ | dsimp only | fail)
local macro_rules | `(tactic| walk_at "d1") => `(tactic| with_reducible refine e_callR ?_)
section
variable {K : Frag} {Γ : List Sl} {k : Sl → List Sl → Prop} {O : Out}
theorem sf_hue (T : MT K) {i q : Nat} {m : Mach} {h : Hue} {f : Str} {u : Sl} (hj : Γ[0]? = some (.res (star (.ref h.x) (m.cs K)))) (hi : m.hues[i]? = some h) (hn : NoAttr K (He.ga K "HueState") f) (h1 : hN[q]? = some f) (h2 : h.fs[q]? = some u) (hk : k u Γ) : EvP K (tFld K (tVar 0) f) Γ k :=
  e_fld 0 (5 + i) q (e_res hj ⟨_, _, _, _, _, _, u, rfl, hj, cs_ic hi, T.k_HueState, hn, h1, h2, hk⟩)
theorem hasV_regs {v : V} {j i : Nat} {m : Mach} {h : Hue} (hj : Γ[j]? = some (.res (star v (m.cs K)))) (hi : m.hues[i]? = some h) : HasL Γ h.r ((iL h.d.regs).map .dat) := .s j (lsAt m i 0) hj ((cs_ls hi (by decide)).trans rfl)
theorem hasV_bank {v : V} {j i : Nat} {m : Mach} {h : Hue} (hj : Γ[j]? = some (.res (star v (m.cs K)))) (hi : m.hues[i]? = some h) : HasL Γ h.b ((iL h.d.bank).map .dat) := .s j (lsAt m i 1) hj ((cs_ls hi (by decide)).trans rfl)
theorem set_dats {ns : List Int} {i : Nat} {n : Int} : ((iL ns).map Sl.dat).set i (.dat (.int n)) = (iL (ns.set i n)).map .dat := by
  unfold iL
  simp only [List.map_set]
theorem g_reg {v : V} {j i w : Nat} {m : Mach} {h : Hue} {ti : TE} {n : Int} {kn : List Sl → Prop} (hw : Γ[w]? = some (.raw (.ref h.r))) (hh : EvP K ti Γ fun s Γ1 => ∃ r, s = .dat (.int r) ∧ Γ1[j]? = some (.res (star v (m.cs K))) ∧ m.hues[i]? = some h ∧ regOk r ∧ h.d.regs.length = 8 ∧ kn (Γ1.set j (.res (star v ((m.onHue i fun g => g.setReg r n).cs K))))) :
    EvG K (gSub (tVar w) ti rSetL) (.dat (.int n)) Γ kn := by
  refine g_subC j (lsAt m i 0) trivial (e_raw hw (hh.mono fun s Γ1 ⟨r, e, hj, hi, ⟨r0, r7⟩, hl, hk⟩ => ⟨_, _, _, _, r, r.toNat, rfl, e, hj, (cs_ls hi (by decide)).trans rfl, ?_, ?_⟩))
  · unfold ixN
    rw [List.length_map, iL_len, hl, if_pos r0, if_pos (by omega)]
  · rw [onHue_eq hi, ← cs_set_ls (q := 0) (c := (h.r, .lst (((iL h.d.regs).map Sl.dat).set r.toNat (.dat (.int n))))) (h' := mapH (fun g => g.setReg r n) h) hi (by decide) rfl (by rw [set_dats]; rfl)] at hk
    exact hk
theorem g_bank {v : V} {j i w : Nat} {m : Mach} {h : Hue} {ti : TE} {n : Int} {kn : List Sl → Prop} (hw : Γ[w]? = some (.raw (.ref h.b))) (hh : EvP K ti Γ fun s Γ1 => ∃ r, s = .dat (.int r) ∧ Γ1[j]? = some (.res (star v (m.cs K))) ∧ m.hues[i]? = some h ∧ (0 ≤ r ∧ r.toNat < h.d.bank.length) ∧ kn (Γ1.set j (.res (star v ((m.onHue i fun g => { g with bank := g.bank.set r.toNat n }).cs K))))) :
    EvG K (gSub (tVar w) ti rSetL) (.dat (.int n)) Γ kn := by
  refine g_subC j (lsAt m i 1) trivial (e_raw hw (hh.mono fun s Γ1 ⟨r, e, hj, hi, ⟨r0, r7⟩, hk⟩ => ⟨_, _, _, _, r, r.toNat, rfl, e, hj, (cs_ls hi (by decide)).trans rfl, ?_, ?_⟩))
  · unfold ixN
    rw [List.length_map, iL_len, if_pos r0, if_pos (by omega)]
  · rw [onHue_eq hi, ← cs_set_ls (q := 1) (c := (h.b, .lst (((iL h.d.bank).map Sl.dat).set r.toNat (.dat (.int n))))) (h' := mapH (fun g => { g with bank := g.bank.set r.toNat n }) h) hi (by decide) rfl (by rw [set_dats]; rfl)] at hk
    exact hk
theorem xs_slot (T : MT K) {i : Nat} {m : Mach} {h : Hue} {te : TE} (hh : EvP K te Γ fun s Γ1 => ∃ n : Option Int, s = .dat (optD n) ∧ Γ1[0]? = some (.res (star (.ref h.x) (m.cs K))) ∧ m.hues[i]? = some h ∧ O.nx (Γ1.set 0 (.res (star (.ref h.x) ((m.onHue i fun g => { g with slot := n }).cs K))))) : ExS K (sFld K (tVar 0) te "m_slot") Γ O :=
  x_fld 0 (5 + i) 3 (hh.mono fun s Γ1 ⟨n, e, hj, hi, ho⟩ => ⟨by rw [e]; trivial, e_res hj ⟨_, _, _, _, _, _, rfl, hj, cs_ic hi, T.k_HueState, T.na_HueState_m_slot, rfl, by decide, by
    subst e
    rw [onHue_eq hi] at ho
    have e := cs_set_ic (K := K) (h' := mapH (fun g => { g with slot := n }) h) hi rfl rfl
    rw [← e] at ho
    exact ho⟩⟩)
theorem xs_ptr (T : MT K) {i : Nat} {m : Mach} {h : Hue} {te : TE} (hh : EvP K te Γ fun s Γ1 => ∃ n : Int, s = .dat (.int n) ∧ Γ1[0]? = some (.res (star (.ref h.x) (m.cs K))) ∧ m.hues[i]? = some h ∧ O.nx (Γ1.set 0 (.res (star (.ref h.x) ((m.onHue i fun g => { g with ptr := n }).cs K))))) : ExS K (sFld K (tVar 0) te "m_pointer") Γ O :=
  x_fld 0 (5 + i) 2 (hh.mono fun s Γ1 ⟨n, e, hj, hi, ho⟩ => ⟨by rw [e]; trivial, e_res hj ⟨_, _, _, _, _, _, rfl, hj, cs_ic hi, T.k_HueState, T.na_HueState_m_pointer, rfl, by decide, by
    subst e
    rw [onHue_eq hi] at ho
    have e := cs_set_ic (K := K) (h' := mapH (fun g => { g with ptr := n }) h) hi rfl rfl
    rw [← e] at ho
    exact ho⟩⟩)
theorem reg_at {h : HueD} {r : Int} (hl : h.regs.length = 8) (hr : regOk r) : h.regs[r.toNat]? = some (h.reg r) := by
  obtain ⟨r0, r7⟩ := hr
  unfold HueD.reg
  rw [List.getD_eq_getElem?_getD, List.getElem?_eq_getElem (by omega)]
  rfl
theorem reg_in {c : Code} {h : HueD} {r : Int} (hk : HueOk c h) (hr : regOk r) : 0 ≤ h.reg r ∧ h.reg r ≤ c.size - 1 := hk.rn _ (List.mem_of_getElem? (reg_at hk.rl hr))
theorem b_HueState_instructed (T : MT K) : ∀ args k, F_HueState_instructed K args k → ExS K (t_HueState_instructed K) (args ++ List.replicate (7 - args.length) .no) (fnOut args k) := by
  rintro args k ⟨m, j, h, hh, i, hj, hk, hc, hi, rfl, hkk⟩
  have hsz := hc.size
  have rA : ∀ r, regOk r → atI ((iL h.d.regs).map Sl.dat) r = some (.dat (.int (h.d.reg r))) := fun r hr => atI_int hr.1 (reg_at hk.rl hr)
  cases i with
  | set g v =>
    obtain ⟨hg, v0, v1⟩ := hi
    show ExS K _ [.res (star (.ref h.x) (m.cs K)), .dat (.tuple [.int hh, .str (PySem.Str.ofString "set"), .int g, .int v]), .dat (.int m.code.size), .no, .no, .no, .no] _
    unfold t_HueState_instructed
    refine x_seq (x_par3 (a_cons (sf_hue T (q := 0) rfl hj T.na_HueState_m_registers rfl rfl ?_)))
    repeat' walk_at "d1"
    refine ⟨_, _, _, rfl, ?_⟩
    repeat' walk_at "d1"
    refine g_reg (j := 0) (i := j) (m := m) (v := .ref h.x) (h := h) rfl ?_
    repeat' walk_at "d1"
    exact ⟨rfl, hj, hg, hk.rl, _, hkk, .res rfl (.dat (.dat .nil))⟩
  | offer r =>
    have hr : regOk r := hi
    show ExS K _ [.res (star (.ref h.x) (m.cs K)), .dat (.tuple [.int hh, .str (PySem.Str.ofString "offer"), .int r]), .dat (.int m.code.size), .no, .no, .no, .no] _
    unfold t_HueState_instructed
    refine x_seq (x_par3 (a_cons (sf_hue T (q := 0) rfl hj T.na_HueState_m_registers rfl rfl ?_)))
    repeat' walk_at "d1"
    refine ⟨_, _, _, rfl, ?_⟩
    repeat' walk_at "d1"
    refine xs_slot T (i := j) (m := m) (h := h) ?_
    repeat' walk_at "d1"
    refine op_ixL (hasV_regs (v := .ref h.x) (j := 0) rfl hj) (rA r hr) ?_
    exact ⟨some (h.d.reg r), rfl, rfl, hj, _, by
      have e : (m.onHue j fun g => runIns m.code.size g (.offer r)) = m.onHue j fun g => { g with slot := some (h.d.reg r) } := by
        rw [onHue_eq hj, onHue_eq hj]
        rfl
      rw [e] at hkk
      exact hkk, .res rfl (.dat (.dat .nil))⟩
  | get g c b l =>
    obtain ⟨hg, hcc, b0, b1, l0, l1⟩ := hi
    obtain ⟨x0, x1⟩ := reg_in hk hcc
    have m0 : 0 ≤ h.d.reg c % l := Int.emod_nonneg _ (by omega)
    have m1 : h.d.reg c % l < l := Int.emod_lt_of_pos _ (by omega)
    have hbl := hk.bl
    have hlt : (b + h.d.reg c % l).toNat < h.d.bank.length := by omega
    have hb : h.d.bank[(b + h.d.reg c % l).toNat]? = some (h.d.bank.getD (b + h.d.reg c % l).toNat 0) := by
      rw [List.getD_eq_getElem?_getD, List.getElem?_eq_getElem hlt]
      rfl
    show ExS K _ [.res (star (.ref h.x) (m.cs K)), .dat (.tuple [.int hh, .str (PySem.Str.ofString "get"), .int g, .int c, .int b, .int l]), .dat (.int m.code.size), .no, .no, .no, .no] _
    unfold t_HueState_instructed
    refine x_seq (x_par3 (a_cons (sf_hue T (q := 0) rfl hj T.na_HueState_m_registers rfl rfl ?_)))
    repeat' walk_at "d1"
    refine ⟨_, _, _, rfl, ?_⟩
    repeat' walk_at "d1"
    refine sf_hue T (q := 1) rfl hj T.na_HueState_m_bank rfl rfl ?_
    repeat' walk_at "d1"
    refine op_ixL (hasV_regs (v := .ref h.x) (j := 0) rfl hj) (rA c hcc) ?_
    repeat' walk_at "d1"
    refine op_mod_i (by omega) ?_
    repeat' walk_at "d1"
    refine op_ixL (hasV_bank (v := .ref h.x) (j := 0) rfl hj) (atI_int (by omega) hb) ?_
    refine g_reg (j := 0) (i := j) (m := m) (v := .ref h.x) (h := h) rfl ?_
    repeat' walk_at "d1"
    exact ⟨rfl, hj, hg, hk.rl, _, by
      have e : (m.onHue j fun q => runIns m.code.size q (.get g c b l)) = m.onHue j fun q => q.setReg g (h.d.bank.getD (b + h.d.reg c % l).toNat 0) := by
        rw [onHue_eq hj, onHue_eq hj]
        rfl
      rw [e] at hkk
      exact hkk, .res rfl (.dat (.dat .nil))⟩
  | put g c b l =>
    obtain ⟨hg, hcc, b0, b1, l0, l1⟩ := hi
    obtain ⟨x0, x1⟩ := reg_in hk hcc
    have m0 : 0 ≤ h.d.reg c % l := Int.emod_nonneg _ (by omega)
    have m1 : h.d.reg c % l < l := Int.emod_lt_of_pos _ (by omega)
    have hbl := hk.bl
    have hlt : (b + h.d.reg c % l).toNat < h.d.bank.length := by omega
    show ExS K _ [.res (star (.ref h.x) (m.cs K)), .dat (.tuple [.int hh, .str (PySem.Str.ofString "put"), .int g, .int c, .int b, .int l]), .dat (.int m.code.size), .no, .no, .no, .no] _
    unfold t_HueState_instructed
    refine x_seq (x_par3 (a_cons (sf_hue T (q := 0) rfl hj T.na_HueState_m_registers rfl rfl ?_)))
    repeat' walk_at "d1"
    refine ⟨_, _, _, rfl, ?_⟩
    repeat' walk_at "d1"
    refine sf_hue T (q := 1) rfl hj T.na_HueState_m_bank rfl rfl ?_
    repeat' walk_at "d1"
    refine op_ixL (hasV_regs (v := .ref h.x) (j := 0) rfl hj) (rA g hg) ?_
    refine g_bank (j := 0) (i := j) (m := m) (v := .ref h.x) (h := h) rfl ?_
    repeat' walk_at "d1"
    refine op_ixL (hasV_regs (v := .ref h.x) (j := 0) rfl hj) (rA c hcc) ?_
    repeat' walk_at "d1"
    refine op_mod_i (by omega) ?_
    repeat' walk_at "d1"
    exact ⟨rfl, hj, ⟨by omega, hlt⟩, _, by
      have e : (m.onHue j fun q => runIns m.code.size q (.put g c b l)) = m.onHue j fun q => { q with bank := q.bank.set (b + h.d.reg c % l).toNat (h.d.reg g) } := by
        rw [onHue_eq hj, onHue_eq hj]
        rfl
      rw [e] at hkk
      exact hkk, .res rfl (.dat (.dat .nil))⟩
  | two w g a b =>
    obtain ⟨hw, hg, ha, hb⟩ := hi
    have hwo : PyData.strOk w = true ∧ (w == PySem.Str.ofString "set") = false ∧ (w == PySem.Str.ofString "offer") = false ∧ (w == PySem.Str.ofString "get") = false ∧ (w == PySem.Str.ofString "put") = false := by
      simp only [twos, List.mem_cons, List.not_mem_nil, or_false] at hw
      rcases hw with rfl | rfl | rfl | rfl | rfl | rfl <;> decide +kernel
    obtain ⟨q0, q1, q2, q3, q4⟩ := hwo
    obtain ⟨x0, x1⟩ := reg_in hk ha
    obtain ⟨y0, y1⟩ := reg_in hk hb
    show ExS K _ [.res (star (.ref h.x) (m.cs K)), .dat (.tuple [.int hh, .str w, .int g, .int a, .int b]), .dat (.int m.code.size), .no, .no, .no, .no] _
    unfold t_HueState_instructed
    refine x_seq (x_par3 (a_cons (sf_hue T (q := 0) rfl hj T.na_HueState_m_registers rfl rfl ?_)))
    repeat' walk_at "d1"
    refine ⟨_, _, _, rfl, ?_⟩
    refine x_if' (b_test (e_op (e_dat rfl (e_str (op_eq_ss q0 (by decide +kernel) ⟨_, rfl, ?_⟩)))))
    rw [q1]
    refine iteF (x_if' (b_test (e_op (e_dat rfl (e_str (op_eq_ss q0 (by decide +kernel) ⟨_, rfl, ?_⟩))))))
    rw [q2]
    refine iteF (x_if' (b_test (e_op (e_dat rfl (e_str (op_eq_ss q0 (by decide +kernel) ⟨_, rfl, ?_⟩))))))
    rw [q3]
    refine iteF (x_if' (b_test (e_op (e_dat rfl (e_str (op_eq_ss q0 (by decide +kernel) ⟨_, rfl, ?_⟩))))))
    rw [q4]
    refine iteF ?_
    repeat' walk_at "d1"
    refine op_ixL (hasV_regs (v := .ref h.x) (j := 0) rfl hj) (rA a ha) ?_
    repeat' walk_at "d1"
    refine op_ixL (hasV_regs (v := .ref h.x) (j := 0) rfl hj) (rA b hb) ?_
    repeat' walk_at "d1"
    refine u_worked_out hw ⟨x0, by omega⟩ ⟨y0, by omega⟩ (by omega) ?_
    refine g_reg (j := 0) (i := j) (m := m) (v := .ref h.x) (h := h) rfl ?_
    repeat' walk_at "d1"
    exact ⟨rfl, hj, hg, hk.rl, _, by
      have e : (m.onHue j fun q => runIns m.code.size q (.two w g a b)) = m.onHue j fun q => q.setReg g (worth w (h.d.reg a) (h.d.reg b) m.code.size) := by
        rw [onHue_eq hj, onHue_eq hj]
        rfl
      rw [e] at hkk
      exact hkk, .res rfl (.dat (.dat .nil))⟩
theorem chg_put {l : List (Int × CellT)} {a : Int} {c : CellT} : putI (chgD l) a (cellD c) = chgD (putC l a c) := by
  have e1 : ((chgD l).any fun p => decide (p.1 = a)) = l.any fun p => decide (p.1 = a) := by
    unfold chgD
    rw [List.any_map]
    rfl
  unfold putI putC
  rw [e1]
  by_cases q : (l.any fun p => decide (p.1 = a)) = true
  · rw [if_pos q, if_pos q]
    unfold chgD
    rw [List.map_map, List.map_map]
    refine List.map_congr_left fun p _ => ?_
    show (if p.1 = a then (p.1, cellD c) else (p.1, cellD p.2)) = ((if p.1 = a then (p.1, c) else p).1, cellD (if p.1 = a then (p.1, c) else p).2)
    by_cases e : p.1 = a
    · rw [if_pos e, if_pos e]
    · rw [if_neg e, if_neg e]
  · rw [if_neg q, if_neg q]
    unfold chgD
    rw [List.map_append]
    rfl
theorem chg_get {l : List (Int × CellT)} {a : Int} {c : CellT} : (getI (chgD l) a).getD (cellD c) = cellD ((getC l a).getD c) := by
  unfold getI getC chgD
  rw [List.find?_map]
  show (((((l.find? fun p => decide (p.1 = a)).map fun p => (p.1, cellD p.2)).map (·.2)).getD (cellD c))) = cellD ((((l.find? fun p => decide (p.1 = a)).map (·.2))).getD c)
  cases l.find? fun p => decide (p.1 = a) <;> rfl
theorem nodup_le : ∀ (n : Nat) (l : List Int), l.Nodup → (∀ x ∈ l, 0 ≤ x ∧ x < n) → l.length ≤ n
  | 0, l, _, h => by
    cases l with
    | nil => exact Nat.le_refl _
    | cons x l =>
      have := h x (List.mem_cons_self ..)
      omega
  | n + 1, l, nd, h => by
    have h1 := nodup_le n (l.filter fun x => decide (x ≠ (n : Int))) (nd.sublist List.filter_sublist) fun x hx => by
      obtain ⟨q1, q2⟩ := List.mem_filter.mp hx
      have := h x q1
      have q3 : x ≠ (n : Int) := of_decide_eq_true q2
      exact ⟨this.1, by omega⟩
    have h2 : (l.filter fun x => !decide (x ≠ (n : Int))).length ≤ 1 := by
      have nd2 : (l.filter fun x => !decide (x ≠ (n : Int))).Nodup := nd.sublist List.filter_sublist
      have hall : ∀ x ∈ l.filter fun x => !decide (x ≠ (n : Int)), x = (n : Int) := fun x hx => by
        have := (List.mem_filter.mp hx).2
        simpa using this
      generalize (l.filter fun x => !decide (x ≠ (n : Int))) = z at nd2 hall
      match z, nd2, hall with
      | [], _, _ => exact Nat.zero_le _
      | [_], _, _ => exact Nat.le_refl _
      | a :: b :: z, nd2, hall =>
        have e1 := hall a (by simp)
        have e2 := hall b (by simp)
        rw [e1, e2] at nd2
        simp at nd2
    have h3 : ∀ l : List Int, l.length = (l.filter fun x => decide (x ≠ (n : Int))).length + (l.filter fun x => !decide (x ≠ (n : Int))).length := fun l => by
      induction l with
      | nil => rfl
      | cons x l ih =>
        rw [List.filter_cons, List.filter_cons]
        by_cases e : x = (n : Int)
        · simp [e] at ih ⊢
          omega
        · simp [e] at ih ⊢
          omega
    have := h3 l
    omega
theorem chg_few {c : Code} {h : HueD} (hc : c.Ok) (hk : HueOk c h) : (chgD h.chg).length ≤ 4000 := by
  have h1 := hc.cells
  have := nodup_le c.cells.length (h.chg.map (·.1)) hk.nd fun x hx => by
    obtain ⟨q, hq, rfl⟩ := List.mem_map.mp hx
    have := (hk.c q hq).1
    omega
  rw [List.length_map] at this
  unfold chgD
  rw [List.length_map]
  omega
theorem b_HueState_struck_at (T : MT K) : ∀ args k, F_HueState_struck_at K args k → ExS K (t_HueState_struck_at K) (args ++ List.replicate (6 - args.length) .no) (fnOut args k) := by
  rintro args k ⟨m, j, h, t, hu, hj, hk, hc, ht, rfl, hkk⟩
  cases t with
  | reg r n =>
    obtain ⟨hr, _⟩ := ht
    show ExS K _ [.res (star (.ref h.x) (m.cs K)), .dat (.tuple [.str (PySem.Str.ofString "register"), .int r]), .dat (.int n), .no, .no, .no] _
    unfold t_HueState_struck_at
    repeat' walk_at "d1"
    refine sf_hue T (q := 0) rfl hj T.na_HueState_m_registers rfl rfl ?_
    repeat' walk_at "d1"
    refine g_reg (j := 0) (i := j) (m := m) (v := .ref h.x) (h := h) rfl ?_
    repeat' walk_at "d1"
    exact ⟨rfl, hj, hr, hk.rl, _, hkk, .res rfl (.dat (.dat .nil))⟩
  | cell a n =>
    obtain ⟨⟨a0, a1⟩, _⟩ := ht
    have hbl := hk.bl
    show ExS K _ [.res (star (.ref h.x) (m.cs K)), .dat (.tuple [.str (PySem.Str.ofString "cell"), .int a]), .dat (.int n), .no, .no, .no] _
    unfold t_HueState_struck_at
    repeat' walk_at "d1"
    refine sf_hue T (q := 1) rfl hj T.na_HueState_m_bank rfl rfl ?_
    repeat' walk_at "d1"
    refine g_bank (j := 0) (i := j) (m := m) (v := .ref h.x) (h := h) rfl ?_
    repeat' walk_at "d1"
    exact ⟨rfl, hj, ⟨a0, by omega⟩, _, hkk, .res rfl (.dat (.dat .nil))⟩
  | pointer n =>
    show ExS K _ [.res (star (.ref h.x) (m.cs K)), .dat (.tuple [.str (PySem.Str.ofString "pointer")]), .dat (.int n), .no, .no, .no] _
    unfold t_HueState_struck_at
    repeat' walk_at "d1"
    refine xs_ptr T (i := j) (m := m) (h := h) ?_
    repeat' walk_at "d1"
    exact ⟨rfl, hj, _, hkk, .res rfl (.dat (.dat .nil))⟩
  | slot n =>
    show ExS K _ [.res (star (.ref h.x) (m.cs K)), .dat (.tuple [.str (PySem.Str.ofString "slot")]), .dat (optD n), .no, .no, .no] _
    unfold t_HueState_struck_at
    repeat' walk_at "d1"
    refine xs_slot T (i := j) (m := m) (h := h) ?_
    repeat' walk_at "d1"
    exact ⟨rfl, hj, _, hkk, .res rfl (.dat (.dat .nil))⟩
  | code a h' i =>
    show ExS K _ [.res (star (.ref h.x) (m.cs K)), .dat (.tuple [.str (PySem.Str.ofString "code"), .int a]), .dat (cellD (.ins h' i)), .no, .no, .no] _
    unfold t_HueState_struck_at
    repeat' walk_at "d1"
    refine sf_hue T (q := 4) rfl hj T.na_HueState_m_changed rfl rfl ?_
    repeat' walk_at "d1"
    refine x_dputI 0 (lsAt m j 2) (e_dat rfl ⟨_, rfl, e_raw rfl ?_⟩)
    repeat' walk_at "d1"
    refine ⟨_, _, _, _, _, rfl, rfl, rfl, at_chg hj, Nat.lt_of_le_of_lt (chg_few hc hk) (by decide), _, hkk, ?_⟩
    have e : (m.cs K).set (lsAt m j 2) (h.c, .dI (putI (chgD h.d.chg) a (cellD (.ins h' i)))) = (m.onHue j (strikeH (.code a h' i))).cs K := by
      rw [onHue_eq hj, chg_put]
      exact cs_set_ls (q := 2) (h' := mapH (strikeH (.code a h' i)) h) hj (by decide) rfl rfl
    show Keep _ _ [.res (star (.ref h.x) ((m.cs K).set (lsAt m j 2) (h.c, .dI (putI (chgD h.d.chg) a (cellD (.ins h' i)))))), _, _, _, _, _]
    rw [e]
    exact .res rfl (.dat (.dat .nil))
theorem b_HueState___init__ (T : MT K) : ∀ args k, F_HueState___init__ K args k → ExS K (t_HueState___init__ K) (args ++ List.replicate (2 - args.length) .no) (fnOut args k) := by
  rintro args k ⟨x, bank, rfl, hk⟩
  show ExS K _ [.res (star (.ref x) [(x, .ins (He.ga K "HueState") [] [])]), .dat (.tuple (iL bank))] _
  unfold t_HueState___init__
  refine x_seq (x_selfL (e_op (e_lstO' ?_)))
  repeat' walk_at "d1"
  intro a0
  repeat' walk_at "d1"
  refine op_repO (by decide) (by decide) (by decide) fun r => ⟨_, _, _, _, _, _, _, rfl, cells_own, rfl, T.k_HueState, T.na_HueState_m_registers, by decide, by decide, ?_⟩
  refine x_seq (x_selfL (e_cb ?_))
  repeat' walk_at "d1"
  refine cb_listO rfl fun b => ⟨_, _, _, _, _, _, _, rfl, cells_own, rfl, T.k_HueState, T.na_HueState_m_bank, by decide, by decide, ?_⟩
  refine x_seq (x_selfD (e_int ⟨_, _, _, _, _, trivial, rfl, T.k_HueState, T.na_HueState_m_pointer, by decide, by decide, ?_⟩))
  refine x_seq (x_selfD (e_non ⟨_, _, _, _, _, trivial, rfl, T.k_HueState, T.na_HueState_m_slot, by decide, by decide, ?_⟩))
  refine x_selfL (e_dnewI fun c => ⟨_, _, _, _, _, _, _, rfl, cells_star, rfl, T.k_HueState, T.na_HueState_m_changed, by decide, by decide, ?_⟩)
  exact ⟨_, hk r b c, .res rfl (.dat .nil)⟩
theorem b_point_all (T : MT K) : ∀ args k, F_point_all K args k → ExS K (t_point_all K) (args ++ List.replicate (3 - args.length) .no) (fnOut args k) := by
  rintro args k ⟨m, p, rfl, hk⟩
  show ExS K _ [.res (m.R K), .dat (.int p), .no] _
  unfold t_point_all
  refine x_for (i_sqC (f_hues T (j := 0) rfl ⟨_, _, rfl, has_hues (j := 0) rfl, fun hz => ?_⟩))
  refine ⟨fun i Γ => ∃ x, Γ = [.res (({ m with hues := upTo (mapH (pointH p)) i m.hues } : Mach).R K), .dat (.int p), x], ⟨_, by rw [upTo_zero]⟩, ?_, ?_, ?_⟩
  · rintro i Γ hi ⟨x, rfl⟩
    exact has_huesU (f := mapH (pointH p)) (i := i) (m := m) (fun _ => rfl) (j := 0) rfl
  · rintro i Γ hi ⟨x, rfl⟩
    rw [List.length_map] at hi
    obtain ⟨h, hh⟩ := hue_at hi
    show EvG K (gName 2) ((m.hues.map fun h => Sl.raw (.ref h.x)).getD i .no) _ _
    rw [hue_sl hh]
    refine g_name (x_ptr T (j := 0) (i := i) (e_dat rfl ?_))
    refine ⟨({ m with hues := upTo (mapH (pointH p)) i m.hues } : Mach), h, p, rfl, rfl, upTo_get hh, rfl, .raw (.ref h.x), ?_⟩
    rw [← upTo_mod hh]
    rfl
  · rintro Γ ⟨x, rfl⟩
    rw [List.length_map]
    refine ⟨_, hk, ?_⟩
    rw [upTo_all]
    exact .res rfl (.dat .nil)
theorem u_point_all {m : Mach} {p : Int} {k : Sl → List Sl → Prop} (hk : k (.dat .none) [.res ((m.point p).R K), .dat (.int p)]) : F_point_all K [.res (m.R K), .dat (.int p)] k := ⟨m, p, rfl, hk⟩
theorem b_empty_slots (T : MT K) : ∀ args k, F_empty_slots K args k → ExS K (t_empty_slots K) (args ++ List.replicate (2 - args.length) .no) (fnOut args k) := by
  rintro args k ⟨m, rfl, hk⟩
  show ExS K _ [.res (m.R K), .no] _
  unfold t_empty_slots
  refine x_for (i_sqC (f_hues T (j := 0) rfl ⟨_, _, rfl, has_hues (j := 0) rfl, fun hz => ?_⟩))
  refine ⟨fun i Γ => ∃ x, Γ = [.res (({ m with hues := upTo (mapH emptyH) i m.hues } : Mach).R K), x], ⟨_, by rw [upTo_zero]⟩, ?_, ?_, ?_⟩
  · rintro i Γ hi ⟨x, rfl⟩
    exact has_huesU (f := mapH emptyH) (i := i) (m := m) (fun _ => rfl) (j := 0) rfl
  · rintro i Γ hi ⟨x, rfl⟩
    rw [List.length_map] at hi
    obtain ⟨h, hh⟩ := hue_at hi
    show EvG K (gName 1) ((m.hues.map fun h => Sl.raw (.ref h.x)).getD i .no) _ _
    rw [hue_sl hh]
    refine g_name (x_slot T (j := 0) (i := i) (e_non ?_))
    refine ⟨({ m with hues := upTo (mapH emptyH) i m.hues } : Mach), h, none, rfl, rfl, upTo_get hh, rfl, .raw (.ref h.x), ?_⟩
    rw [← upTo_mod hh]
    rfl
  · rintro Γ ⟨x, rfl⟩
    rw [List.length_map]
    refine ⟨_, hk, ?_⟩
    rw [upTo_all]
    exact .res rfl .nil
theorem u_empty_slots {m : Mach} {k : Sl → List Sl → Prop} (hk : k (.dat .none) [.res (m.empty.R K)]) : F_empty_slots K [.res (m.R K)] k := ⟨m, rfl, hk⟩
end
end Hw
namespace Hw
open PySem PySem.Spec PyProof.Rows L2 Dl
local macro_rules | `(tactic| walk_at "dbt") => `(tactic| first | assumption | rfl | (decide +kernel) | (simp [isFromD, *]; done) | (simp [isFromD, *]; omega))
local macro_rules | `(tactic| walk_at "d1") => `(tactic| first
  | with_reducible refine x_seq ?_ | with_reducible refine x_if' ?_ | with_reducible refine x_ret ?_ | with_reducible refine x_asg ?_ | with_reducible refine x_next ?_ | with_reducible refine x_expr ?_
  | with_reducible refine e_isi2 (by decide) (by decide) ?_
  | with_reducible refine e_dat rfl ?_ | with_reducible refine e_int ?_ | with_reducible refine e_str ?_ | with_reducible refine e_bl ?_ | with_reducible refine e_non ?_ | with_reducible refine e_op ?_ | with_reducible refine e_cb ?_ | with_reducible refine e_call ?_
  | with_reducible refine a_cons ?_ | with_reducible refine a_nil ?_
  | with_reducible refine b_test ?_ | with_reducible refine b_not ?_ | with_reducible refine b_and' ?_ | with_reducible refine b_or' ?_ | with_reducible refine b_tru ?_
  | with_reducible refine e_andV' ?_ | with_reducible refine e_orV' ?_ | with_reducible refine e_notV ?_ | with_reducible refine e_chain' ?_ | with_reducible refine e_if' ?_ | with_reducible refine e_c ?_ | with_reducible refine e_sl ?_ | with_reducible refine o_no ?_ | with_reducible refine o_some ?_ | with_reducible refine e_neg ?_
  | with_reducible refine e_raw rfl ?_ | with_reducible refine e_res rfl ?_ | with_reducible refine g_name ?_
  | with_reducible refine op_add_i ?_ | with_reducible refine op_sub_i ?_ | with_reducible refine op_lt_i ?_ | with_reducible refine op_le_i ?_ | with_reducible refine op_gt_i ?_ | with_reducible refine op_ge_i ?_ | with_reducible refine op_isnone ?_ | with_reducible refine op_notnone ?_
  | with_reducible refine cb_isi (by decide) ?_ | with_reducible refine cb_max2 ?_ | with_reducible refine cb_min2 ?_ | with_reducible refine cb_abs ?_ | with_reducible refine cb_int ?_ | with_reducible refine cb_len rfl ?_
  | with_reducible refine iteT ?_ | with_reducible refine iteF ?_ | ((with_reducible refine iT ?_ ?_); focus (walk_at "dbt"; done)) | ((with_reducible refine iF ?_ ?_); focus (walk_at "dbt"; done))
  | ((with_reducible refine g_tup ?_ ?_); (focus rfl)) | with_reducible refine gs_cons ?_ | with_reducible refine gs_nil ?_
  | with_reducible refine e_tup' ?_ | with_reducible refine e_lst' ?_ | with_reducible refine op_in2 ?_ | with_reducible refine op_ni3 ?_
  | with_reducible refine op_eq_ii ?_ | with_reducible refine op_ne_ii ?_ | ((with_reducible refine op_eq_ss ?_ ?_ ?_); (focus (decide +kernel)); (focus (decide +kernel))) | ((with_reducible refine op_ne_ss ?_ ?_ ?_); (focus (decide +kernel)); (focus (decide +kernel)))
  | ((with_reducible refine op_eq_d ?_ ?_ ?_); (focus (walk_at "dbt")); (focus (walk_at "dbt")))
  | ((with_reducible refine op_ne_d ?_ ?_ ?_); (focus (walk_at "dbt")); (focus (walk_at "dbt")))
  | ((with_reducible refine op_ix' ?_); refine Exists.intro _ (Exists.intro _ (And.intro rfl (And.intro rfl ?_))))
  | ((with_reducible refine op_mul_il ?_ ?_); (focus (decide +kernel))) | ((with_reducible refine op_mul_ir ?_ ?_); (focus (decide +kernel)))
  | ((with_reducible refine And.intro (a := smallL _ = true) ?_ ?_); (focus rfl)) | ((with_reducible refine And.intro (a := Pers _) ?_ ?_); (focus trivial)) | with_reducible refine d_cons ?_ | with_reducible refine d_nil ?_
  | (with_reducible refine Exists.intro _ (And.intro rfl ?_)) | (with_reducible refine Exists.intro _ (Exists.intro _ (And.intro rfl (And.intro rfl ?_)))) | refine Exists.intro _ (And.intro rfl (And.intro (by rfl) ?_)) | refine Exists.intro _ (Exists.intro _ (And.intro rfl (And.intro rfl ?_))) | with_reducible refine dat_ok ?_ | dsimp only | fail)
local macro_rules | `(tactic| walk_at "d1") => `(tactic| first | with_reducible refine f_code (by assumption) rfl ?_ | with_reducible refine f_hues (by assumption) rfl ?_ | with_reducible refine f_left (by assumption) rfl ?_ | with_reducible refine f_strikes (by assumption) rfl ?_ | with_reducible refine f_row (by assumption) rfl ?_ | with_reducible refine f_steps (by assumption) rfl ?_ | with_reducible refine f_state (by assumption) rfl ?_ | with_reducible refine e_callR ?_)
section
variable {K : Frag} {Γ : List Sl} {k : Sl → List Sl → Prop} {O : Out}
theorem b_Machine_row (T : MT K) : ∀ args k, F_Machine_row K args k → ExS K (t_Machine_row K) (args ++ List.replicate (1 - args.length) .no) (fnOut args k) := by
  rintro args k ⟨m, rfl, h⟩
  show ExS K _ [.res (m.R K)] _
  unfold t_Machine_row
  repeat' walk_at "d1"
  exact cb_listC (has_row (j := 0) rfl) ⟨_, h, .res rfl .nil⟩
theorem b_Machine_left (T : MT K) : ∀ args k, F_Machine_left K args k → ExS K (t_Machine_left K) (args ++ List.replicate (1 - args.length) .no) (fnOut args k) := by
  rintro args k ⟨m, rfl, h⟩
  show ExS K _ [.res (m.R K)] _
  unfold t_Machine_left
  repeat' walk_at "d1"
  exact cb_listC (has_left (j := 0) rfl) ⟨_, h, .res rfl .nil⟩
theorem b_Machine_state (T : MT K) : ∀ args k, F_Machine_state K args k → ExS K (t_Machine_state K) (args ++ List.replicate (1 - args.length) .no) (fnOut args k) := by
  rintro args k ⟨m, rfl, h⟩
  show ExS K _ [.res (m.R K)] _
  unfold t_Machine_state
  repeat' walk_at "d1"
  exact ⟨_, h, .res rfl .nil⟩
theorem b_Machine_steps (T : MT K) : ∀ args k, F_Machine_steps K args k → ExS K (t_Machine_steps K) (args ++ List.replicate (1 - args.length) .no) (fnOut args k) := by
  rintro args k ⟨m, rfl, h⟩
  show ExS K _ [.res (m.R K)] _
  unfold t_Machine_steps
  repeat' walk_at "d1"
  exact ⟨_, h, .res rfl .nil⟩
theorem b_Machine_slots (T : MT K) : ∀ args k, F_Machine_slots K args k → ExS K (t_Machine_slots K) (args ++ List.replicate (2 - args.length) .no) (fnOut args k) := by
  rintro args k ⟨m, rfl, h⟩
  show ExS K _ [.res (m.R K), .no] _
  unfold t_Machine_slots
  repeat' walk_at "d1"
  refine e_lcSlot T (j := 0) rfl (by decide) (by simp) ?_
  repeat' walk_at "d1"
  exact cb_tuple rfl ⟨_, h, .res rfl .nil⟩
theorem b_Machine_pointers (T : MT K) : ∀ args k, F_Machine_pointers K args k → ExS K (t_Machine_pointers K) (args ++ List.replicate (2 - args.length) .no) (fnOut args k) := by
  rintro args k ⟨m, rfl, h⟩
  show ExS K _ [.res (m.R K), .no] _
  unfold t_Machine_pointers
  repeat' walk_at "d1"
  refine e_lcPtr T (j := 0) rfl (by decide) (by simp) ?_
  repeat' walk_at "d1"
  exact cb_tuple rfl ⟨_, h, .res rfl .nil⟩
theorem b_Machine_registers (T : MT K) : ∀ args k, F_Machine_registers K args k → ExS K (t_Machine_registers K) (args ++ List.replicate (2 - args.length) .no) (fnOut args k) := by
  rintro args k ⟨m, i, h, hi, hl, rfl, hk⟩
  show ExS K _ [.res (m.R K), .dat (.int i)] _
  unfold t_Machine_registers
  have hlt : i < m.hues.length := (List.getElem?_eq_some_iff.mp hi).1
  repeat' walk_at "d1"
  refine u_need_hue ⟨by omega, by omega⟩ ?_
  repeat' walk_at "d1"
  refine h_fieldE T 0 i 0 T.na_HueState_m_registers rfl ?_
  repeat' walk_at "d1"
  refine op_ixL (has_hues (j := 0) rfl) (u := .raw (.ref h.x)) (atI_hue hi) ⟨_, _, _, rfl, rfl, hi, rfl, ?_⟩
  repeat' walk_at "d1"
  exact cb_tupleC (has_regs (j := 0) rfl hi) ⟨_, hk, .res rfl (.dat .nil)⟩
theorem b_Machine_cells (T : MT K) : ∀ args k, F_Machine_cells K args k → ExS K (t_Machine_cells K) (args ++ List.replicate (2 - args.length) .no) (fnOut args k) := by
  rintro args k ⟨m, i, h, hi, hl, rfl, hk⟩
  show ExS K _ [.res (m.R K), .dat (.int i)] _
  unfold t_Machine_cells
  have hlt : i < m.hues.length := (List.getElem?_eq_some_iff.mp hi).1
  repeat' walk_at "d1"
  refine u_need_hue ⟨by omega, by omega⟩ ?_
  repeat' walk_at "d1"
  refine h_fieldE T 0 i 1 T.na_HueState_m_bank rfl ?_
  repeat' walk_at "d1"
  refine op_ixL (has_hues (j := 0) rfl) (u := .raw (.ref h.x)) (atI_hue hi) ⟨_, _, _, rfl, rfl, hi, rfl, ?_⟩
  repeat' walk_at "d1"
  exact cb_tupleC (has_bank (j := 0) rfl hi) ⟨_, hk, .res rfl (.dat .nil)⟩
theorem votes_at {c : Code} (hc : c.Ok) {w : Int} (h1 : 1 ≤ w) (h2 : w ≤ c.votes.length) : atI (iL c.votes) (w - 1) = some (.int (needAt c w.toNat)) := by
  have e : c.votes[(w - 1).toNat]? = some (needAt c w.toNat) := by
    unfold needAt
    rw [List.getD_eq_getElem?_getD, show w.toNat - 1 = (w - 1).toNat by omega, List.getElem?_eq_getElem (by omega)]
    rfl
  exact atI_map (f := PyData.int) (by omega) e
theorem m_code (m : Mach) : m.D.code = m.code := rfl
theorem m_len {m : Mach} (k : m.D.Ok) : m.hues.length = m.code.votes.length := by
  have := k.len
  unfold Mach.D at this
  rw [List.length_map] at this
  exact this
theorem m_ptrs (m : Mach) : m.D.hues.map (·.ptr) = m.hues.map (·.d.ptr) := by
  show (m.hues.map (·.d)).map (·.ptr) = _
  rw [List.map_map]
  rfl
theorem b_machine_address (T : MT K) : ∀ args k, F_machine_address K args k → ExS K (t_machine_address K) (args ++ List.replicate (5 - args.length) .no) (fnOut args k) := by
  rintro args k ⟨m, hk, rfl, h⟩
  have hl := m_len hk
  have hv : votesOk m.code.votes := hk.code.votes
  have l0 : (iL m.code.votes).length = m.code.votes.length := iL_len
  show ExS K _ [.res (m.R K), .no, .no, .no, .no] _
  unfold t_machine_address
  refine x_seq (x_par (by decide) ?_)
  repeat' walk_at "d1"
  refine ⟨_, _, rfl, ?_⟩
  repeat' walk_at "d1"
  refine e_lcPtr T (j := 0) rfl (by decide) (by simp) ?_
  repeat' walk_at "d1"
  rw [l0]
  refine op_ix_d rfl (votes_at (c := m.code) hk.code (w := (m.code.votes.length : Int)) (by have := hv.1; omega) (by omega)) ?_
  repeat' walk_at "d1"
  refine u_most_ints (fun e => by
    have : (m.hues.map (·.d.ptr)).length = 0 := by rw [e]; rfl
    rw [List.length_map] at this
    have := hv.1
    omega) ?_
  repeat' walk_at "d1"
  have ef : m.D.fetch = match agreedI (m.hues.map (·.d.ptr)) (needAt m.code m.code.votes.length) with
      | some p => if p < m.code.cells.length then some p else none
      | none => none := by
    unfold MD.fetch
    rw [m_ptrs]
    rfl
  rw [Int.toNat_natCast]
  cases e : agreedI (m.hues.map (·.d.ptr)) (needAt m.code m.code.votes.length) with
  | none =>
    rw [e] at ef
    repeat' walk_at "d1"
    rw [ef] at h
    exact ⟨_, h, .res rfl .nil⟩
  | some p =>
    rw [e] at ef
    have l1 : (m.code.cells.map cellD).length = m.code.cells.length := List.length_map ..
    show EvB K (tTest _) _ _
    refine b_test (e_op (e_dat rfl (e_cb (a_cons (e_dat rfl (a_nil (cb_len (n := m.code.cells.length) (by show some _ = _; rw [l1]) (op_lt_i ⟨_, rfl, ?_⟩))))))))
    refine iteB (fun hb => ?_) (fun hb => ?_)
    · have hlt : p < m.code.cells.length := by simpa using hb
      have ef : m.D.fetch = some p := by rw [ef]; exact if_pos hlt
      rw [ef] at h
      exact e_dat rfl ⟨_, h, .res rfl .nil⟩
    · have hlt : ¬ p < m.code.cells.length := by simpa using hb
      have ef : m.D.fetch = none := by rw [ef]; exact if_neg hlt
      rw [ef] at h
      exact e_non ⟨_, h, .res rfl .nil⟩
theorem u_machine_address {m : Mach} {k : Sl → List Sl → Prop} (hk : m.D.Ok) (h : k (.dat (optD m.D.fetch)) [.res (m.R K)]) : F_machine_address K [.res (m.R K)] k := ⟨m, hk, rfl, h⟩
theorem st_eq {s : St} : (stS s == PySem.Str.ofString "running") = decide (s = .running) := by
  cases s <;> decide +kernel
theorem st_ok {s : St} : PyData.strOk (stS s) = true := by
  cases s <;> decide +kernel
theorem b_next_address (T : MT K) : ∀ args k, F_next_address K args k → ExS K (t_next_address K) (args ++ List.replicate (1 - args.length) .no) (fnOut args k) := by
  rintro args k ⟨m, hk, rfl, h⟩
  show ExS K _ [.res (m.R K)] _
  unfold t_next_address
  refine x_ret (e_if' (b_test (e_op (f_state T rfl (e_str (op_eq_ss st_ok (by decide +kernel) ⟨_, rfl, ?_⟩))))))
  rw [st_eq]
  refine iteB (fun hb => ?_) (fun hb => ?_)
  · have hs : m.state = .running := of_decide_eq_true hb
    have en : m.D.next = m.D.fetch := if_pos hs
    rw [en] at h
    repeat' walk_at "d1"
    exact u_machine_address hk ⟨_, rfl, rfl, rfl, _, h, .res rfl .nil⟩
  · have hs : ¬ m.state = .running := of_decide_eq_false hb
    have en : m.D.next = none := if_neg hs
    rw [en] at h
    exact e_non ⟨_, h, .res rfl .nil⟩
theorem u_next_address {m : Mach} {k : Sl → List Sl → Prop} (hk : m.D.Ok) (h : k (.dat (optD m.D.next)) [.res (m.R K)]) : F_next_address K [.res (m.R K)] k := ⟨m, hk, rfl, h⟩
end
end Hw
namespace Hw
open PySem PySem.Spec PyProof.Rows L2 Dl
local macro_rules | `(tactic| walk_at "dbt") => `(tactic| first | assumption | rfl | (decide +kernel) | (simp [isFromD, *]; done) | (simp [isFromD, *]; omega))
local macro_rules | `(tactic| walk_at "d1") => `(tactic| first
  | with_reducible refine x_seq ?_ | with_reducible refine x_if' ?_ | with_reducible refine x_ret ?_ | with_reducible refine x_asg ?_ | with_reducible refine x_next ?_ | with_reducible refine x_expr ?_
  | with_reducible refine e_isi2 (by decide) (by decide) ?_
  | with_reducible refine e_dat rfl ?_ | with_reducible refine e_int ?_ | with_reducible refine e_str ?_ | with_reducible refine e_bl ?_ | with_reducible refine e_non ?_ | with_reducible refine e_op ?_ | with_reducible refine e_cb ?_ | with_reducible refine e_call ?_
  | with_reducible refine a_cons ?_ | with_reducible refine a_nil ?_
  | with_reducible refine b_test ?_ | with_reducible refine b_not ?_ | with_reducible refine b_and' ?_ | with_reducible refine b_or' ?_ | with_reducible refine b_tru ?_
  | with_reducible refine e_andV' ?_ | with_reducible refine e_orV' ?_ | with_reducible refine e_notV ?_ | with_reducible refine e_chain' ?_ | with_reducible refine e_if' ?_ | with_reducible refine e_c ?_ | with_reducible refine e_sl ?_ | with_reducible refine o_no ?_ | with_reducible refine o_some ?_ | with_reducible refine e_neg ?_
  | with_reducible refine e_raw rfl ?_ | with_reducible refine e_res rfl ?_ | with_reducible refine g_name ?_
  | with_reducible refine op_add_i ?_ | with_reducible refine op_sub_i ?_ | with_reducible refine op_lt_i ?_ | with_reducible refine op_le_i ?_ | with_reducible refine op_gt_i ?_ | with_reducible refine op_ge_i ?_ | with_reducible refine op_isnone ?_ | with_reducible refine op_notnone ?_
  | with_reducible refine cb_isi (by decide) ?_ | with_reducible refine cb_max2 ?_ | with_reducible refine cb_min2 ?_ | with_reducible refine cb_abs ?_ | with_reducible refine cb_int ?_ | with_reducible refine cb_len rfl ?_
  | with_reducible refine iteT ?_ | with_reducible refine iteF ?_ | ((with_reducible refine iT ?_ ?_); focus (walk_at "dbt"; done)) | ((with_reducible refine iF ?_ ?_); focus (walk_at "dbt"; done))
  | ((with_reducible refine g_tup ?_ ?_); (focus rfl)) | with_reducible refine gs_cons ?_ | with_reducible refine gs_nil ?_
  | with_reducible refine e_tup' ?_ | with_reducible refine e_lst' ?_ | with_reducible refine op_in2 ?_ | with_reducible refine op_ni3 ?_
  | with_reducible refine op_eq_ii ?_ | with_reducible refine op_ne_ii ?_ | ((with_reducible refine op_eq_ss ?_ ?_ ?_); (focus (decide +kernel)); (focus (decide +kernel))) | ((with_reducible refine op_ne_ss ?_ ?_ ?_); (focus (decide +kernel)); (focus (decide +kernel)))
  | ((with_reducible refine op_eq_d ?_ ?_ ?_); (focus (walk_at "dbt")); (focus (walk_at "dbt")))
  | ((with_reducible refine op_ne_d ?_ ?_ ?_); (focus (walk_at "dbt")); (focus (walk_at "dbt")))
  | ((with_reducible refine op_ix' ?_); refine Exists.intro _ (Exists.intro _ (And.intro rfl (And.intro rfl ?_))))
  | ((with_reducible refine op_mul_il ?_ ?_); (focus (decide +kernel))) | ((with_reducible refine op_mul_ir ?_ ?_); (focus (decide +kernel)))
  | ((with_reducible refine And.intro (a := smallL _ = true) ?_ ?_); (focus rfl)) | ((with_reducible refine And.intro (a := Pers _) ?_ ?_); (focus trivial)) | with_reducible refine d_cons ?_ | with_reducible refine d_nil ?_
  | (with_reducible refine Exists.intro _ (And.intro rfl ?_)) | (with_reducible refine Exists.intro _ (Exists.intro _ (And.intro rfl (And.intro rfl ?_)))) | refine Exists.intro _ (And.intro rfl (And.intro (by rfl) ?_)) | refine Exists.intro _ (Exists.intro _ (And.intro rfl (And.intro rfl ?_))) | with_reducible refine dat_ok ?_ | dsimp only | fail)
local macro_rules | `(tactic| walk_at "d1") => `(tactic| first | with_reducible refine f_code (by assumption) rfl ?_ | with_reducible refine f_hues (by assumption) rfl ?_ | with_reducible refine f_left (by assumption) rfl ?_ | with_reducible refine f_strikes (by assumption) rfl ?_ | with_reducible refine f_row (by assumption) rfl ?_ | with_reducible refine f_steps (by assumption) rfl ?_ | with_reducible refine f_state (by assumption) rfl ?_ | with_reducible refine e_callR ?_)
section
variable {K : Frag} {Γ : List Sl} {k : Sl → List Sl → Prop} {O : Out}
theorem shp_word {n : Nat} {w : Str} (hw : w ∈ twos) : Shp n (.str w) := .str (by
  simp only [twos, List.mem_cons, List.not_mem_nil, or_false] at hw
  rcases hw with rfl | rfl | rfl | rfl | rfl | rfl <;> decide +kernel)
theorem shp_ins {h size bank : Int} {i : Ins} {n : Nat} (hi : insOk size bank i) : Shp (n + 1) (insD h i) := .tuple fun x hx => by
  rcases List.mem_cons.mp hx with rfl | q
  · exact .int
  · cases i with
    | two w g a b =>
      simp only [insL, List.mem_cons, List.not_mem_nil, or_false] at q
      rcases q with rfl | rfl | rfl | rfl
      · exact shp_word hi.1
      all_goals exact .int
    | _ =>
      simp only [insL, List.mem_cons, List.not_mem_nil, or_false] at q
      rcases q with rfl | q
      · exact .str (by decide +kernel)
      · first
          | (rcases q with rfl | rfl | rfl | rfl <;> exact .int)
          | (rcases q with rfl | rfl <;> exact .int)
          | (rcases q with rfl; exact .int)
theorem shp_place {t : Thing} {n : Nat} : Shp (n + 1) (placeD t) := by
  cases t <;> refine .tuple fun x hx => ?_
  all_goals simp only [List.mem_cons, List.not_mem_nil, or_false] at hx
  all_goals first
    | (rcases hx with rfl | rfl
       · exact .str (by decide +kernel)
       · exact .int)
    | (rw [hx]; exact .str (by decide +kernel))
theorem shp_opt {o : Option Int} {n : Nat} : Shp n (optD o) := by
  cases o with
  | none => exact .none
  | some n => exact .int
theorem shp_new {c : Code} {h : Int} {t : Thing} {n : Nat} (ht : thingOk c h t) : Shp (n + 1) (newD t) := by
  cases t with
  | reg r n => exact .int
  | cell r n => exact .int
  | pointer n => exact .int
  | slot n => exact shp_opt
  | code a h' i => exact shp_ins ht.2.2.2
theorem shp_strike {c : Code} {s : Strike} {n : Nat} (hs : strikeOk c s) : Shp (n + 2) s.d := .tuple fun x hx => by
  simp only [List.mem_cons, List.not_mem_nil, or_false] at hx
  rcases hx with rfl | rfl | rfl | rfl
  · exact .int
  · exact .int
  · exact shp_place
  · exact shp_new hs.2.2
theorem eqv_nil {ds : List PyData} : PyData.eqv (.list ds) (.list []) = ds.isEmpty := by
  cases ds <;> simp [PyData.eqv, PyData.eqvAll]
theorem onHue_D {m : Mach} {i : Nat} {f : HueD → HueD} : (m.onHue i f).D = m.D.onHue i f := by
  unfold Mach.onHue Mach.D MD.onHue
  congr 1
  show (m.hues.modify i (mapH f)).map (·.d) = (m.hues.map (·.d)).modify i f
  apply List.ext_getElem?
  intro n
  rw [List.getElem?_map, List.getElem?_modify, List.getElem?_modify, List.getElem?_map]
  cases m.hues[n]? with
  | none => rfl
  | some h =>
    by_cases e : i = n <;> simp [e, mapH]
theorem m_hue_ok {m : Mach} {i : Nat} {h : Hue} (k : m.D.Ok) (hi : m.hues[i]? = some h) : HueOk m.code h.d := k.hues h.d (List.mem_map.mpr ⟨h, List.mem_of_getElem? hi, rfl⟩)
theorem e_strike (T : MT K) {to : TE} {ta : TA} (i : Nat) (h : EvP K to Γ fun s Γ1 => ∃ (m : Mach) (g : Hue), s = .raw (.ref g.x) ∧ Γ1[0]? = some (.res (m.R K)) ∧ m.hues[i]? = some g ∧ EvA K ta Γ1 fun rs Γ2 => ∃ (t : Thing) (hu : Int), rs = [.dat (placeD t), .dat (newD t)] ∧ Γ2[0]? = some (.res (m.R K)) ∧ m.D.Ok ∧ thingOk m.code hu t ∧ k (.dat .none) (Γ2.set 0 (.res ((m.onHue i (strikeH t)).R K)))) :
    EvP K (tMeth (He.ga K "HueState") "struck_at" (spOf K (F_HueState_struck_at K)) [] E0 to ta) Γ k :=
  e_methP 0 (5 + i) (h.mono fun s Γ1 ⟨m, g, e, hj, hi, hA⟩ => ⟨g.x, _, _, _, _, e, hj, cs_ic hi, by decide, hA.mono fun rs Γ2 ⟨t, hu, e2, hj2, hk, ht, ho⟩ => ⟨_, hj2, m, i, g, t, hu, hi, m_hue_ok hk hi, hk.code, ht, by rw [e2], _, rfl, by rw [e2]; rfl, ho⟩⟩)
theorem due_pop {d : MD} {s : Strike} {ss : List Strike} (e : d.strikes = s :: ss) (h : s.step ≤ d.steps) : (({ d with strikes := ss } : MD).onHue s.hue.toNat (strikeH s.th)).due = d.due := by
  unfold MD.due
  have q : dueL d.steps d.strikes d.hues = dueL d.steps ss (d.hues.modify s.hue.toNat (strikeH s.th)) := by
    rw [e]
    show (if s.step ≤ d.steps then _ else _) = _
    rw [if_pos h]
  rw [q]
  rfl
theorem due_stay {d : MD} {s : Strike} {ss : List Strike} (e : d.strikes = s :: ss) (h : ¬ s.step ≤ d.steps) : d.due = d := by
  unfold MD.due
  have q : dueL d.steps d.strikes d.hues = (d.strikes, d.hues) := by
    rw [e]
    show (if s.step ≤ d.steps then _ else _) = _
    rw [if_neg h]
  rw [q]
theorem due_none {d : MD} (e : d.strikes = []) : d.due = d := by
  unfold MD.due
  have q : dueL d.steps d.strikes d.hues = (d.strikes, d.hues) := by rw [e]; rfl
  rw [q]
theorem b_strikes_due (T : MT K) : ∀ args k, F_strikes_due K args k → ExS K (t_strikes_due K) (args ++ List.replicate (6 - args.length) .no) (fnOut args k) := by
  rintro args k ⟨m, hk, rfl, h⟩
  show ExS K _ [.res (m.R K), .no, .no, .no, .no, .no] _
  unfold t_strikes_due
  repeat' walk_at "d1"
  refine x_while (fun n Γ => ∃ (mm : Mach) (x2 x3 x4 x5 : Sl), mm.strikes.length = n ∧ mm.a = m.a ∧ mm.D.due = m.D.due ∧ mm.D.Ok ∧ Γ = [.res (mm.R K), .raw (.ref mm.as_), x2, x3, x4, x5]) ⟨_, m, _, _, _, _, rfl, rfl, rfl, hk, rfl⟩ ?_
  rintro n Γ ⟨mm, x2, x3, x4, x5, hn, ha, hd, hok, rfl⟩
  have hsh : SeqAt.shaped (.list (mm.strikes.map Strike.d)) = true := (Shp.list (n := 4) fun x hx => by
    obtain ⟨s, hs, rfl⟩ := List.mem_map.mp hx
    exact shp_strike (n := 2) (hok.strikes s hs)).shaped
  refine b_and' (b_test (e_op (e_raw rfl (e_lst (a_nil ⟨[], rfl, by decide, op_neC (has_strikes (j := 0) rfl) hsh (by decide +kernel) ⟨_, rfl, ?_⟩⟩)))))
  rw [eqv_nil]
  cases hs : mm.strikes with
  | nil =>
    refine iteF ⟨(fun z => by cases z), fun _ => ?_⟩
    exact ⟨_, h mm ha (by rw [← hd]; exact (due_none hs).symm), .res (congrArg V.ref ha) .nil⟩
  | cons s ss =>
    have hsok : strikeOk mm.code s := hok.strikes s (by show s ∈ mm.strikes; rw [hs]; exact List.mem_cons_self ..)
    have hL : HasL [.res (mm.R K), .raw (.ref mm.as_), x2, x3, x4, x5] mm.as_ (((s :: ss).map Strike.d).map .dat) := by rw [← hs]; exact has_strikes (j := 0) rfl
    refine iteT (b_test (e_op (e_op (e_op (e_raw rfl (e_int (op_ixL (u := .dat s.d) hL atI_zero ?_)))))))
    unfold Strike.d
    repeat' walk_at "d1"
    refine ⟨fun hb => ?_, fun hb => ?_⟩
    · have hle : s.step ≤ mm.steps := of_decide_eq_true hb
      refine x_seq (x_asg (e_pop0C 0 3 (e_raw rfl ⟨_, rfl, ⟨_, _, _, rfl, rfl⟩, a_cons (e_int (a_nil ⟨_, _, .dat s.d, ((ss.map Strike.d).map .dat), rfl, ?_, rfl, ?_⟩))⟩)))
      · show some (mm.as_, Cell.lst ((mm.strikes.map Strike.d).map .dat)) = _
        rw [hs]
        rfl
      have hpop : (mm.cs K).set 3 (mm.as_, .lst ((ss.map Strike.d).map .dat)) = ({ mm with strikes := ss } : Mach).cs K := rfl
      show EvG K _ (.dat s.d) [.res (star (.ref mm.a) ((mm.cs K).set 3 (mm.as_, .lst ((ss.map Strike.d).map .dat)))), .raw (.ref mm.as_), x2, x3, x4, x5] _
      rw [hpop]
      unfold Strike.d
      repeat' walk_at "d1"
      obtain ⟨hs1, ⟨hu0, hu1⟩, hth⟩ := hsok
      have hlen := m_len hok
      obtain ⟨g, hg⟩ := hue_at (hs := mm.hues) (i := s.hue.toNat) (by omega)
      have hok2 : ({ mm with strikes := ss } : Mach).D.Ok := ⟨hok.code, hok.len, hok.hues, fun s2 h2 => hok.strikes s2 (by show s2 ∈ mm.strikes; rw [hs]; exact List.mem_cons_of_mem _ h2), hok.row, hok.steps⟩
      refine e_strike T s.hue.toNat (e_op (f_hues T (m := { mm with strikes := ss }) (j := 0) rfl (e_dat rfl (op_ixL (has_hues (m := { mm with strikes := ss }) (j := 0) rfl) (atI_hueI hu0 hg) ?_))))
      refine ⟨({ mm with strikes := ss } : Mach), g, rfl, rfl, hg, ?_⟩
      repeat' walk_at "d1"
      refine ⟨s.th, s.hue, rfl, rfl, hok2, hth, ss.length, ?_, (({ mm with strikes := ss } : Mach).onHue s.hue.toNat (strikeH s.th)), _, _, _, _, rfl, ha, ?_, ?_, rfl⟩
      · rw [← hn, hs]
        exact Nat.lt_succ_self _
      · rw [onHue_D, ← hd]
        exact due_pop (d := mm.D) hs hle
      · rw [onHue_D]
        exact hok2.onHue fun h hh => strikeH_ok (hok2.hues h (List.mem_of_getElem? hh)) hth
    · have hle : ¬ s.step ≤ mm.steps := of_decide_eq_false hb
      exact ⟨_, h mm ha (by rw [← hd]; exact (due_stay (d := mm.D) hs hle).symm), .res (congrArg V.ref ha) .nil⟩
theorem u_strikes_due {m : Mach} {k : Sl → List Sl → Prop} (hk : m.D.Ok) (h : ∀ m' : Mach, m'.a = m.a → m'.D = m.D.due → k (.dat .none) [.res (m'.R K)]) : F_strikes_due K [.res (m.R K)] k := ⟨m, hk, rfl, h⟩
end
end Hw
namespace Hw
open PySem PySem.Spec PyProof.Rows L2 Dl
local macro_rules | `(tactic| walk_at "dbt") => `(tactic| first | assumption | rfl | (decide +kernel) | (simp [isFromD, *]; done) | (simp [isFromD, *]; omega))
local macro_rules | `(tactic| walk_at "d1") => `(tactic| first
  | with_reducible refine x_seq ?_ | with_reducible refine x_if' ?_ | with_reducible refine x_ret ?_ | with_reducible refine x_asg ?_ | with_reducible refine x_next ?_ | with_reducible refine x_expr ?_
  | with_reducible refine e_isi2 (by decide) (by decide) ?_
  | with_reducible refine e_dat rfl ?_ | with_reducible refine e_int ?_ | with_reducible refine e_str ?_ | with_reducible refine e_bl ?_ | with_reducible refine e_non ?_ | with_reducible refine e_op ?_ | with_reducible refine e_cb ?_ | with_reducible refine e_call ?_
  | with_reducible refine a_cons ?_ | with_reducible refine a_nil ?_
  | with_reducible refine b_test ?_ | with_reducible refine b_not ?_ | with_reducible refine b_and' ?_ | with_reducible refine b_or' ?_ | with_reducible refine b_tru ?_
  | with_reducible refine e_andV' ?_ | with_reducible refine e_orV' ?_ | with_reducible refine e_notV ?_ | with_reducible refine e_chain' ?_ | with_reducible refine e_if' ?_ | with_reducible refine e_c ?_ | with_reducible refine e_sl ?_ | with_reducible refine o_no ?_ | with_reducible refine o_some ?_ | with_reducible refine e_neg ?_
  | with_reducible refine e_raw rfl ?_ | with_reducible refine e_res rfl ?_ | with_reducible refine g_name ?_
  | with_reducible refine op_add_i ?_ | with_reducible refine op_sub_i ?_ | with_reducible refine op_lt_i ?_ | with_reducible refine op_le_i ?_ | with_reducible refine op_gt_i ?_ | with_reducible refine op_ge_i ?_ | with_reducible refine op_isnone ?_ | with_reducible refine op_notnone ?_
  | with_reducible refine cb_isi (by decide) ?_ | with_reducible refine cb_max2 ?_ | with_reducible refine cb_min2 ?_ | with_reducible refine cb_abs ?_ | with_reducible refine cb_int ?_ | with_reducible refine cb_len rfl ?_
  | with_reducible refine iteT ?_ | with_reducible refine iteF ?_ | ((with_reducible refine iT ?_ ?_); focus (walk_at "dbt"; done)) | ((with_reducible refine iF ?_ ?_); focus (walk_at "dbt"; done))
  | ((with_reducible refine g_tup ?_ ?_); (focus rfl)) | with_reducible refine gs_cons ?_ | with_reducible refine gs_nil ?_
  | with_reducible refine e_tup' ?_ | with_reducible refine e_lst' ?_ | with_reducible refine op_in2 ?_ | with_reducible refine op_ni3 ?_
  | with_reducible refine op_eq_ii ?_ | with_reducible refine op_ne_ii ?_ | ((with_reducible refine op_eq_ss ?_ ?_ ?_); (focus (decide +kernel)); (focus (decide +kernel))) | ((with_reducible refine op_ne_ss ?_ ?_ ?_); (focus (decide +kernel)); (focus (decide +kernel)))
  | ((with_reducible refine op_eq_d ?_ ?_ ?_); (focus (walk_at "dbt")); (focus (walk_at "dbt")))
  | ((with_reducible refine op_ne_d ?_ ?_ ?_); (focus (walk_at "dbt")); (focus (walk_at "dbt")))
  | ((with_reducible refine op_ix' ?_); refine Exists.intro _ (Exists.intro _ (And.intro rfl (And.intro rfl ?_))))
  | ((with_reducible refine op_mul_il ?_ ?_); (focus (decide +kernel))) | ((with_reducible refine op_mul_ir ?_ ?_); (focus (decide +kernel)))
  | ((with_reducible refine And.intro (a := smallL _ = true) ?_ ?_); (focus rfl)) | ((with_reducible refine And.intro (a := Pers _) ?_ ?_); (focus trivial)) | with_reducible refine d_cons ?_ | with_reducible refine d_nil ?_
  | (with_reducible refine Exists.intro _ (And.intro rfl ?_)) | (with_reducible refine Exists.intro _ (Exists.intro _ (And.intro rfl (And.intro rfl ?_)))) | refine Exists.intro _ (And.intro rfl (And.intro (by rfl) ?_)) | refine Exists.intro _ (Exists.intro _ (And.intro rfl (And.intro rfl ?_))) | with_reducible refine dat_ok ?_ | dsimp only | fail)
local macro_rules | `(tactic| walk_at "d1") => `(tactic| first | with_reducible refine f_code (by assumption) rfl ?_ | with_reducible refine f_hues (by assumption) rfl ?_ | with_reducible refine f_left (by assumption) rfl ?_ | with_reducible refine f_strikes (by assumption) rfl ?_ | with_reducible refine f_row (by assumption) rfl ?_ | with_reducible refine f_steps (by assumption) rfl ?_ | with_reducible refine f_state (by assumption) rfl ?_ | with_reducible refine e_callR ?_)
section
variable {K : Frag} {Γ : List Sl} {k : Sl → List Sl → Prop} {O : Out}
theorem cut_take {α : Type} {ss : List α} {w : Int} (h0 : 0 ≤ w) (h1 : w ≤ ss.length) : cutG ss none (some w) = ss.take w.toNat := by
  unfold cutG
  show (ss.drop 0).take ((if w < 0 then (w + (ss.length : Int)).toNat else min w.toNat ss.length) - 0) = _
  rw [if_neg (by omega), Nat.min_eq_left (by omega)]
  simp
theorem take_sl {hs : List Hue} {i w : Nat} {h : Hue} (hw : i < w) (e : hs[i]? = some h) : ((hs.map fun h => Sl.raw (.ref h.x)).take w).getD i .no = .raw (.ref h.x) := by
  rw [List.getD_eq_getElem?_getD, List.getElem?_take_of_lt hw, List.getElem?_map, e]
  rfl
theorem e_row {j v : Nat} {m : Mach} {ta : TA} (hv : Γ[v]? = some (.raw (.ref m.ar))) (hj0 : Γ[j]? = some (.res (m.R K))) (h : EvA K ta Γ fun rs Γ2 => ∃ it : Item, rs = [.dat (itemD it)] ∧ Γ2[j]? = some (.res (m.R K)) ∧ m.row.length < sizeLine ∧ k (.dat .none) (Γ2.set j (.res (({ m with row := m.row ++ [it] } : Mach).R K)))) :
    EvP K (tBM K "list" rAppend (tVar v) ta) Γ k :=
  e_appC j 4 (e_raw hv ⟨_, rfl, ⟨_, _, _, hj0, rfl⟩, h.mono fun rs Γ2 ⟨it, e, hj, hl, hk⟩ => ⟨_, _, _, .dat (itemD it), trivial, hj, rfl, e, by rw [List.length_map, List.length_map]; exact hl, by
    have q : (m.cs K).set 4 (m.ar, .lst (((m.row.map itemD).map Sl.dat) ++ [.dat (itemD it)])) = ({ m with row := m.row ++ [it] } : Mach).cs K := by
      unfold Mach.cs Mach.top
      simp only [List.map_append]
      rfl
    show k _ (Γ2.set j (.res (star (.ref m.a) ((m.cs K).set 4 (m.ar, .lst (((m.row.map itemD).map Sl.dat) ++ [.dat (itemD it)]))))))
    rw [q]
    exact hk⟩⟩)
theorem e_vote (T : MT K) {m : Mach} {d0 d1 : PyData} {w : Int} {s2 s3 s4 s5 s6 s7 s8 s9 s10 : Sl} (hw : 0 ≤ w ∧ w ≤ m.hues.length) (h5 : m.hues.length ≤ 5)
    (hk : k (.dat (.list (iL (m.D.slots w)))) [.res (m.R K), .dat (.tuple [d0, d1, .int w]), s2, s3, s4, s5, s6, s7, s8, .no, s10]) :
    EvP K (tLc (iSq K (tSl (rSlU K) (tFld K (tVar 0) (PySem.Str.ofString "m_hues")) tNoPart (tPart (tOp (uIx K) (tVar 1) (tC (.int 2)))))) (gName 9) (tTest (tOp (uIsNot K) (tFld K (tVar 9) (PySem.Str.ofString "m_slot")) (tC .non))) (tFld K (tVar 9) (PySem.Str.ofString "m_slot")) [9])
      [.res (m.R K), .dat (.tuple [d0, d1, .int w]), s2, s3, s4, s5, s6, s7, s8, s9, s10] k := by
  have hl : (m.hues.map fun h => Sl.raw (.ref h.x)).length = m.hues.length := List.length_map ..
  have hl2 : ((m.hues.map fun h => Sl.raw (.ref h.x)).take w.toNat).length = w.toNat := by rw [List.length_take, hl]; omega
  refine e_lc (sets_name (by simp)) gm_name (i_slC ?_)
  repeat' walk_at "d1"
  refine ⟨_, _, rfl, has_hues (j := 0) rfl, ?_⟩
  rw [cut_take hw.1 (by rw [hl]; exact hw.2), hl2]
  refine ⟨fun i acc Γ => acc = iL ((m.hues.take i).filterMap (·.d.slot)) ∧ Γ = [.res (m.R K), .dat (.tuple [d0, d1, .int w]), s2, s3, s4, s5, s6, s7, s8, .no, s10], Nat.le_trans (by omega : w.toNat ≤ 5) (by decide), ⟨rfl, rfl⟩, fun _ _ _ _ _ => trivial, ?_, ?_⟩
  · rintro i acc Γ hi hal ⟨rfl, hΓ⟩
    rw [hΓ]
    obtain ⟨h, hh⟩ := hue_at (hs := m.hues) (i := i) (by omega)
    show EvG K (gName 9) (((m.hues.map fun h => Sl.raw (.ref h.x)).take w.toNat).getD i .no) _ _
    rw [take_sl hi hh]
    have ht : m.hues.take (i + 1) = m.hues.take i ++ [h] := by
      rw [List.take_succ_eq_append_getElem (by omega), (List.getElem?_eq_some_iff.mp hh).2]
    refine g_name (b_test (e_op (h_field T (j := 0) (i := i) (v := 9) (h := h) (q := 3) rfl hh rfl T.na_HueState_m_slot rfl rfl (e_non (op_notnone ⟨_, rfl, ?_⟩)))))
    cases hs : h.d.slot with
    | none =>
      refine ⟨(fun z => by cases z), fun _ => ⟨?_, rfl⟩⟩
      rw [ht, List.filterMap_append]
      simp [hs]
    | some n =>
      refine ⟨fun _ => h_field T (j := 0) (i := i) (v := 9) (h := h) (q := 3) rfl hh rfl T.na_HueState_m_slot rfl rfl ⟨.int n, by rw [hs]; rfl, ?_, rfl⟩, (fun z => by cases z)⟩
      rw [ht, List.filterMap_append]
      unfold iL
      rw [List.map_append]
      simp [hs]
  · rintro acc Γ hal ⟨rfl, hΓ⟩
    rw [hΓ]
    have e : m.D.slots w = (m.hues.take w.toNat).filterMap (·.d.slot) := by
      unfold MD.slots
      show ((m.hues.map (·.d)).take w.toNat).filterMap (·.slot) = _
      rw [← List.map_take, List.filterMap_map]
      rfl
    rw [e] at hk
    exact hk
theorem take_loop (T : MT K) {O : Out} {m : Mach} {c d : PyData} {s4 : V} {r w n : Int} (hw : 0 ≤ w ∧ w ≤ m.hues.length) (hr : regOk r) (h8 : ∀ h ∈ m.hues, h.d.regs.length = 8) (hc : ∃ ds, c = .tuple [ds, .int r, .int w])
    (h : ∀ x y, O.nx [.res (({ m with hues := upTo (mapH fun g => g.setReg r n) w.toNat m.hues } : Mach).R K), .dat c, .dat d, .dat (.str (PySem.Str.ofString "take")), .raw s4, .no, .no, .no, .dat (.int n), x, y]) :
    ExS K (tFor (iSq K (tSl (rSlU K) (tFld K (tVar 0) (PySem.Str.ofString "m_hues")) tNoPart (tPart (tOp (uIx K) (tVar 1) (tC (.int 2)))))) (gName 9) (tSeq (tAsg (tFld K (tVar 9) (PySem.Str.ofString "m_registers")) (gName 10)) (tAsg (tVar 8) (gSub (tVar 10) (tOp (uIx K) (tVar 1) (tC (.int 1))) rSetL))))
      [.res (m.R K), .dat c, .dat d, .dat (.str (PySem.Str.ofString "take")), .raw s4, .no, .no, .no, .dat (.int n), .no, .no] O := by
  obtain ⟨ds, rfl⟩ := hc
  refine x_for (i_slC ?_)
  repeat' walk_at "d1"
  refine ⟨_, _, rfl, has_hues (j := 0) rfl, ?_⟩
  have hl : (m.hues.map fun h => Sl.raw (.ref h.x)).length = m.hues.length := List.length_map ..
  rw [cut_take hw.1 (by rw [hl]; exact hw.2)]
  have hl2 : ((m.hues.map fun h => Sl.raw (.ref h.x)).take w.toNat).length = w.toNat := by rw [List.length_take, hl]; omega
  refine ⟨fun i Γ => ∃ x y, Γ = [.res (({ m with hues := upTo (mapH fun g => g.setReg r n) i m.hues } : Mach).R K), .dat (.tuple [ds, .int r, .int w]), .dat d, .dat (.str (PySem.Str.ofString "take")), .raw s4, .no, .no, .no, .dat (.int n), x, y], ⟨_, _, by rw [upTo_zero]⟩, fun _ _ _ _ => trivial, ?_, ?_⟩
  · rintro i Γ hi ⟨x, y, rfl⟩
    rw [hl2] at hi
    obtain ⟨h, hh⟩ := hue_at (hs := m.hues) (i := i) (by omega)
    show EvG K (gName 9) (((m.hues.map fun h => Sl.raw (.ref h.x)).take w.toNat).getD i .no) _ _
    rw [take_sl hi hh]
    refine g_name (x_seq (x_asg ?_))
    refine h_field T (j := 0) (i := i) (v := 9) (h := h) (q := 0) rfl (upTo_get hh) rfl T.na_HueState_m_registers rfl rfl ?_
    repeat' walk_at "d1"
    refine g_reg (v := .ref m.a) (m := { m with hues := upTo (mapH fun g => g.setReg r n) i m.hues }) (j := 0) (i := i) (w := 10) (h := h) rfl ?_
    repeat' walk_at "d1"
    refine ⟨rfl, upTo_get hh, hr, h8 h (List.mem_of_getElem? hh), .raw (.ref h.x), .raw (.ref h.r), ?_⟩
    rw [← upTo_mod hh]
    rfl
  · rintro Γ ⟨x, y, rfl⟩
    rw [hl2]
    exact h x y
theorem e_popL (T : MT K) {m : Mach} {n : Int} {rest : List Int} (hj : Γ[0]? = some (.res (m.R K))) (hl : m.left = n :: rest) (hk : k (.dat (.int n)) (Γ.set 0 (.res (({ m with left := rest } : Mach).R K)))) : EvP K (tBM K "list" rPopAt (tFld K (tVar 0) (PySem.Str.ofString "m_left")) (tCons (tC (.int 0)) tNil)) Γ k := by
  refine e_pop0C 0 2 (f_left T hj ⟨_, rfl, ⟨_, _, _, hj, rfl⟩, a_cons (e_int (a_nil ⟨_, _, .dat (.int n), (iL rest).map .dat, hj, ?_, rfl, hk⟩))⟩)
  show some (m.al, Cell.lst ((iL m.left).map .dat)) = _
  rw [hl]
  rfl
theorem point_D {m : Mach} {p : Int} : (m.point p).D = m.D.point p := by
  unfold Mach.point Mach.D MD.point
  simp only [List.map_map]
  rfl
theorem empty_D {m : Mach} : m.empty.D = m.D.empty := by
  unfold Mach.empty Mach.D MD.empty
  simp only [List.map_map]
  rfl
theorem upTo_D {f : HueD → HueD} {i : Nat} {hs : List Hue} : (upTo (mapH f) i hs).map (·.d) = upToL f i (hs.map (·.d)) := by
  unfold upTo upToL
  simp only [List.map_append, List.map_map, List.map_take, List.map_drop]
  rfl
theorem u_mark_done {m : Mach} {p : Int} {k : Sl → List Sl → Prop} (hk : m.D.Ok) (h : ∀ m' : Mach, m'.a = m.a → m'.D = m.D.settle p .mark → k (.dat .none) [.res (m'.R K), .dat (.int (p + 1))]) : F_mark_done K [.res (m.R K), .dat (.int (p + 1))] k := ⟨m, p, hk, rfl, h⟩
end
end Hw
namespace Hw
open PySem PySem.Spec PyProof.Rows L2 Dl
local macro_rules | `(tactic| walk_at "dbt") => `(tactic| first | assumption | rfl | (decide +kernel) | (simp [isFromD, *]; done) | (simp [isFromD, *]; omega))
local macro_rules | `(tactic| walk_at "d1") => `(tactic| first
  | with_reducible refine x_seq ?_ | with_reducible refine x_if' ?_ | with_reducible refine x_ret ?_ | with_reducible refine x_asg ?_ | with_reducible refine x_next ?_ | with_reducible refine x_expr ?_
  | with_reducible refine e_isi2 (by decide) (by decide) ?_
  | with_reducible refine e_dat rfl ?_ | with_reducible refine e_int ?_ | with_reducible refine e_str ?_ | with_reducible refine e_bl ?_ | with_reducible refine e_non ?_ | with_reducible refine e_op ?_ | with_reducible refine e_cb ?_ | with_reducible refine e_call ?_
  | with_reducible refine a_cons ?_ | with_reducible refine a_nil ?_
  | with_reducible refine b_test ?_ | with_reducible refine b_not ?_ | with_reducible refine b_and' ?_ | with_reducible refine b_or' ?_ | with_reducible refine b_tru ?_
  | with_reducible refine e_andV' ?_ | with_reducible refine e_orV' ?_ | with_reducible refine e_notV ?_ | with_reducible refine e_chain' ?_ | with_reducible refine e_if' ?_ | with_reducible refine e_c ?_ | with_reducible refine e_sl ?_ | with_reducible refine o_no ?_ | with_reducible refine o_some ?_ | with_reducible refine e_neg ?_
  | with_reducible refine e_raw rfl ?_ | with_reducible refine e_res rfl ?_ | with_reducible refine g_name ?_
  | with_reducible refine op_add_i ?_ | with_reducible refine op_sub_i ?_ | with_reducible refine op_lt_i ?_ | with_reducible refine op_le_i ?_ | with_reducible refine op_gt_i ?_ | with_reducible refine op_ge_i ?_ | with_reducible refine op_isnone ?_ | with_reducible refine op_notnone ?_
  | with_reducible refine cb_isi (by decide) ?_ | with_reducible refine cb_max2 ?_ | with_reducible refine cb_min2 ?_ | with_reducible refine cb_abs ?_ | with_reducible refine cb_int ?_ | with_reducible refine cb_len rfl ?_
  | with_reducible refine iteT ?_ | with_reducible refine iteF ?_ | ((with_reducible refine iT ?_ ?_); focus (walk_at "dbt"; done)) | ((with_reducible refine iF ?_ ?_); focus (walk_at "dbt"; done))
  | ((with_reducible refine g_tup ?_ ?_); (focus rfl)) | with_reducible refine gs_cons ?_ | with_reducible refine gs_nil ?_
  | with_reducible refine e_tup' ?_ | with_reducible refine e_lst' ?_ | with_reducible refine op_in2 ?_ | with_reducible refine op_ni3 ?_
  | with_reducible refine op_eq_ii ?_ | with_reducible refine op_ne_ii ?_ | ((with_reducible refine op_eq_ss ?_ ?_ ?_); (focus (decide +kernel)); (focus (decide +kernel))) | ((with_reducible refine op_ne_ss ?_ ?_ ?_); (focus (decide +kernel)); (focus (decide +kernel)))
  | ((with_reducible refine op_eq_d ?_ ?_ ?_); (focus (walk_at "dbt")); (focus (walk_at "dbt")))
  | ((with_reducible refine op_ne_d ?_ ?_ ?_); (focus (walk_at "dbt")); (focus (walk_at "dbt")))
  | ((with_reducible refine op_ix' ?_); refine Exists.intro _ (Exists.intro _ (And.intro rfl (And.intro rfl ?_))))
  | ((with_reducible refine op_mul_il ?_ ?_); (focus (decide +kernel))) | ((with_reducible refine op_mul_ir ?_ ?_); (focus (decide +kernel)))
  | ((with_reducible refine And.intro (a := smallL _ = true) ?_ ?_); (focus rfl)) | ((with_reducible refine And.intro (a := Pers _) ?_ ?_); (focus trivial)) | with_reducible refine d_cons ?_ | with_reducible refine d_nil ?_
  | (with_reducible refine Exists.intro _ (And.intro rfl ?_)) | (with_reducible refine Exists.intro _ (Exists.intro _ (And.intro rfl (And.intro rfl ?_)))) | refine Exists.intro _ (And.intro rfl (And.intro (by rfl) ?_)) | refine Exists.intro _ (Exists.intro _ (And.intro rfl (And.intro rfl ?_))) | with_reducible refine dat_ok ?_ | dsimp only | fail)
local macro_rules | `(tactic| walk_at "d1") => `(tactic| first | with_reducible refine f_code (by assumption) rfl ?_ | with_reducible refine f_hues (by assumption) rfl ?_ | with_reducible refine f_left (by assumption) rfl ?_ | with_reducible refine f_strikes (by assumption) rfl ?_ | with_reducible refine f_row (by assumption) rfl ?_ | with_reducible refine f_steps (by assumption) rfl ?_ | with_reducible refine f_state (by assumption) rfl ?_ | with_reducible refine e_callR ?_)
section
variable {K : Frag} {Γ : List Sl} {k : Sl → List Sl → Prop} {O : Out}
theorem row_lt {m : Mach} (hk : m.D.Ok) (hn : stepN m.D) : m.row.length < sizeLine := by
  have h1 : m.row.length ≤ m.steps.toNat := hk.row
  have h2 : m.steps ≤ 10000000 := hn
  exact Nat.lt_of_le_of_lt (by omega : m.row.length ≤ 10000000) (by decide)
theorem slots_none {m : Mach} {w : Int} (e : m.D.slots w = []) (need : Int) : agreedI (m.D.slots w) need = none := by rw [e]; rfl
theorem b_settle_vote (T : MT K) {m : Mach} {p : Int} {args : List Sl} {k : Sl → List Sl → Prop} {wd : Str} {q w : Int} {c : CellT} (hk : m.D.Ok) (hn : stepN m.D) (hw : 1 ≤ w ∧ w ≤ m.code.votes.length)
    (hwd : (wd = PySem.Str.ofString "show" ∧ c = .shw q w) ∨ (wd = PySem.Str.ofString "turn" ∧ c = .turn q w)) (hc : cellD c = .tuple [.str wd, .int q, .int w])
    (ea : args = [.res (m.R K), .dat (cellD c), .dat (.int (p + 1))]) (h : ∀ m' : Mach, m'.a = m.a → m'.D = m.D.settle p c → k (.dat .none) [.res (m'.R K), .dat (cellD c), .dat (.int (p + 1))]) :
    ExS K (t_settle_done K) (args ++ List.replicate (11 - args.length) .no) (fnOut args k) := by
  subst ea
  rw [hc] at h ⊢
  have hl := m_len hk
  have hv : votesOk m.code.votes := hk.code.votes
  show ExS K _ [.res (m.R K), .dat (.tuple [.str wd, .int q, .int w]), .dat (.int (p + 1)), .no, .no, .no, .no, .no, .no, .no, .no] _
  have hin : decide (wd ∈ [PySem.Str.ofString "show", PySem.Str.ofString "turn"]) = true := by
    rcases hwd with ⟨rfl, _⟩ | ⟨rfl, _⟩ <;> decide +kernel
  have hso : PyData.strOk wd = true := by
    rcases hwd with ⟨rfl, _⟩ | ⟨rfl, _⟩ <;> decide +kernel
  unfold t_settle_done
  refine x_seq (x_par (by decide) ?_)
  repeat' walk_at "d1"
  refine ⟨_, _, rfl, g_name (g_name ?_)⟩
  refine x_if' (b_test (e_op (e_dat rfl ?_)))
  repeat' walk_at "d1"
  refine e_vote T ⟨by omega, by omega⟩ (by have := hv.2.1; omega) ?_
  repeat' walk_at "d1"
  refine op_ne_d (shaped_list shp_ints) (by decide +kernel) ⟨_, rfl, ?_⟩
  rw [eqv_nil]
  have fin : ∀ a : Option Int, agreedI (m.D.slots w) (needAt m.code w.toNat) = a → ∀ s6 : Sl, ExS K (tSeq (tIfS (tTest (tOp (uIs K) (tVar 7) (tC .non))) (tSeq (sFld K (tVar 0) (tC (.str (PySem.Str.ofString "caught"))) (PySem.Str.ofString "m_state")) (tRetN)) tNext) (tSeq (tDrop (tCallR 0 (spOf K (F_point_all K)) E0 (tCons (tVar 0) (tCons (tIf ((tAnd (tTest (tOp (uEq K) (tVar 3) (tC (.str (PySem.Str.ofString "turn"))))) (tTest (tOp (uNe K) (tVar 7) (tC (.int 0)))))) (tOp (uIx K) (tVar 1) (tC (.int 1))) (tVar 2)) tNil)))) (tSeq (tDrop (tCallR 0 (spOf K (F_empty_slots K)) E0 (tCons (tVar 0) tNil))) (tIfS (tTest (tOp (uEq K) (tVar 3) (tC (.str (PySem.Str.ofString "show"))))) (tDrop (tBM K "list" rAppend (tVar 4) (tCons (tTup (tCons (tC (.str (PySem.Str.ofString "show"))) (tCons (tOp (uIx K) (tVar 1) (tC (.int 1))) (tCons (tVar 7) tNil)))) tNil))) tNext))))
      [.res (m.R K), .dat (.tuple [.str wd, .int q, .int w]), .dat (.int (p + 1)), .dat (.str wd), .raw (.ref m.ar), .dat (.tuple (iL m.code.votes)), s6, .dat (optD a), .no, .no, .no] (fnOut [.res (m.R K), .dat (.tuple [.str wd, .int q, .int w]), .dat (.int (p + 1))] k) := by
    intro a ha s6
    cases a with
    | none =>
      repeat' walk_at "d1"
      refine x_state T (j := 0) .caught ?_
      repeat' walk_at "d1"
      refine x_retN ⟨_, h ({ m with state := .caught } : Mach) rfl ?_, .res rfl (.dat (.dat .nil))⟩
      rcases hwd with ⟨_, rfl⟩ | ⟨_, rfl⟩
      · simp only [MD.settle]
        rw [show m.D.code = m.code from rfl, ha]
        rfl
      · simp only [MD.settle]
        rw [show m.D.code = m.code from rfl, ha]
        rfl
    | some n =>
      rcases hwd with ⟨rfl, rfl⟩ | ⟨rfl, rfl⟩
      · have e : m.D.settle p (.shw q w) = { (m.D.point (p + 1)).empty with row := m.D.row ++ [.shw q n] } := by
          simp only [MD.settle]
          rw [show m.D.code = m.code from rfl, ha]
        repeat' walk_at "d1"
        refine u_point_all ⟨_, rfl, rfl, rfl, ?_⟩
        repeat' walk_at "d1"
        refine u_empty_slots ⟨_, rfl, rfl, rfl, ?_⟩
        repeat' walk_at "d1"
        refine e_row (j := 0) (v := 4) (m := (m.point (p + 1)).empty) rfl rfl ?_
        repeat' walk_at "d1"
        refine ⟨.shw q n, rfl, rfl, row_lt (m := m) hk hn, _, h ({ (m.point (p + 1)).empty with row := m.row ++ [.shw q n] } : Mach) rfl ?_, .res rfl (.dat (.dat .nil))⟩
        rw [e, ← point_D, ← empty_D]
        rfl
      · have e : m.D.settle p (.turn q w) = (m.D.point (if n ≠ 0 then q else p + 1)).empty := by
          simp only [MD.settle]
          rw [show m.D.code = m.code from rfl, ha]
        have tail : ∀ g, g = (if n ≠ 0 then q else p + 1) → k (.dat .none) [.res ((m.point g).empty.R K), .dat (.tuple [.str (PySem.Str.ofString "turn"), .int q, .int w]), .dat (.int (p + 1))] := fun g hg => h (m.point g).empty rfl (by rw [e, ← hg, ← point_D, ← empty_D])
        repeat' walk_at "d1"
        refine iteB (fun hb => ?_) (fun hb => ?_)
        · have hne : n ≠ 0 := by
            have hb2 : (!(PyData.eqv (.int n) (.int 0))) = true := hb
            rw [eqv_int] at hb2
            simpa using hb2
          repeat' walk_at "d1"
          refine u_point_all ⟨_, rfl, rfl, rfl, ?_⟩
          repeat' walk_at "d1"
          refine u_empty_slots ⟨_, rfl, rfl, rfl, ?_⟩
          repeat' walk_at "d1"
          exact ⟨_, tail q (by rw [if_pos hne]), .res rfl (.dat (.dat .nil))⟩
        · have hne : ¬ n ≠ 0 := by
            have hb2 : (!(PyData.eqv (.int n) (.int 0))) = false := hb
            rw [eqv_int] at hb2
            simpa using hb2
          repeat' walk_at "d1"
          refine u_point_all ⟨_, rfl, rfl, rfl, ?_⟩
          repeat' walk_at "d1"
          refine u_empty_slots ⟨_, rfl, rfl, rfl, ?_⟩
          repeat' walk_at "d1"
          exact ⟨_, tail (p + 1) (by rw [if_neg hne]), .res rfl (.dat (.dat .nil))⟩
  cases hs : m.D.slots w with
  | nil =>
    rw [hs] at fin
    exact iF rfl (e_non (g_name (fin none rfl _)))
  | cons x xs =>
    rw [hs] at fin
    repeat' walk_at "d1"
    refine op_ix_d rfl (votes_at (c := m.code) hk.code hw.1 hw.2) ?_
    repeat' walk_at "d1"
    exact u_most_ints (by simp) (g_name (fin _ rfl _))
theorem b_settle_done (T : MT K) : ∀ args k, F_settle_done K args k → ExS K (t_settle_done K) (args ++ List.replicate (11 - args.length) .no) (fnOut args k) := by
  rintro args k ⟨m, c, p, hk, hn, ⟨hc, hno⟩, rfl, h⟩
  have hl := m_len hk
  cases c with
  | ins h0 i => exact absurd rfl (hno h0 i)
  | shw q w => exact b_settle_vote T hk hn hc.2 (.inl ⟨rfl, rfl⟩) rfl rfl h
  | turn q w => exact b_settle_vote T hk hn hc.2 (.inr ⟨rfl, rfl⟩) rfl rfl h
  | take r w =>
    obtain ⟨⟨h0, h7⟩, w1, w2⟩ := hc
    have h8 : ∀ h ∈ (m.point (p + 1)).hues, h.d.regs.length = 8 := fun h hh => by
      obtain ⟨h', hm, rfl⟩ := List.mem_map.mp (show h ∈ m.hues.map (mapH (pointH (p + 1))) from hh)
      exact (hk.hues h'.d (List.mem_map.mpr ⟨h', hm, rfl⟩)).rl
    have hlen : (m.point (p + 1)).hues.length = m.code.votes.length := by
      rw [← hl]
      exact List.length_map ..
    have hsz : 2 ≤ m.code.size ∧ m.code.size ≤ 10000 := hk.code.size
    show ExS K _ [.res (m.R K), .dat (.tuple [.str (PySem.Str.ofString "take"), .int r, .int w]), .dat (.int (p + 1)), .no, .no, .no, .no, .no, .no, .no, .no] _
    unfold t_settle_done
    refine x_seq (x_par (by decide) ?_)
    repeat' walk_at "d1"
    refine ⟨_, _, rfl, ?_⟩
    repeat' walk_at "d1"
    refine op_neC (has_left (j := 0) rfl) (shaped_list shp_ints) (by decide +kernel) ⟨_, rfl, ?_⟩
    rw [eqv_nil]
    cases hlf : m.left with
    | nil =>
      repeat' walk_at "d1"
      refine u_point_all ⟨_, rfl, rfl, rfl, ?_⟩
      repeat' walk_at "d1"
      refine e_row (j := 0) (v := 4) (m := m.point (p + 1)) rfl rfl ?_
      repeat' walk_at "d1"
      refine ⟨.take 0, rfl, rfl, row_lt (m := m) hk hn, ?_⟩
      refine take_loop T (m := { m.point (p + 1) with row := m.row ++ [.take 0] }) ⟨by omega, by rw [hlen]; exact w2⟩ ⟨h0, h7⟩ h8 ⟨_, rfl⟩ fun x y => ⟨_, h ({ ({ m.point (p + 1) with row := m.row ++ [.take 0] } : Mach) with hues := upTo (mapH fun g => g.setReg r 0) w.toNat (m.point (p + 1)).hues } : Mach) rfl ?_, .res rfl (.dat (.dat .nil))⟩
      have en : m.D.takeNo = 0 := by
        show m.left.headD 0 % m.code.size = 0
        rw [hlf]
        exact Int.zero_emod _
      show Mach.D _ = ({ m.D with left := m.D.left.tail, row := m.D.row ++ [.take m.D.takeNo], hues := upToL (fun h => h.setReg r m.D.takeNo) w.toNat (m.D.hues.map (pointH (p + 1))) } : MD)
      have er : m.D.left.tail = m.left := by
        show m.left.tail = m.left
        rw [hlf]
        rfl
      rw [en, er, ← show (m.point (p + 1)).hues.map (·.d) = m.D.hues.map (pointH (p + 1)) by
        show (m.hues.map _).map _ = (m.hues.map _).map _
        rw [List.map_map, List.map_map]
        rfl, ← upTo_D]
      rfl
    | cons n rest =>
      repeat' walk_at "d1"
      refine e_popL T rfl hlf ?_
      repeat' walk_at "d1"
      refine op_mod_i (by omega) ?_
      repeat' walk_at "d1"
      refine u_point_all (m := { m with left := rest }) ⟨_, rfl, rfl, rfl, ?_⟩
      repeat' walk_at "d1"
      refine e_row (j := 0) (v := 4) (m := ({ m with left := rest } : Mach).point (p + 1)) rfl rfl ?_
      repeat' walk_at "d1"
      refine ⟨.take (n % m.code.size), rfl, rfl, row_lt (m := m) hk hn, ?_⟩
      refine take_loop T (m := { ({ m with left := rest } : Mach).point (p + 1) with row := m.row ++ [.take (n % m.code.size)] }) ⟨by omega, by
        have : ({ ({ m with left := rest } : Mach).point (p + 1) with row := m.row ++ [.take (n % m.code.size)] } : Mach).hues.length = m.code.votes.length := hlen
        rw [this]; exact w2⟩ ⟨h0, h7⟩ h8 ⟨_, rfl⟩ fun x y => ⟨_, h ({ ({ ({ m with left := rest } : Mach).point (p + 1) with row := m.row ++ [.take (n % m.code.size)] } : Mach) with hues := upTo (mapH fun g => g.setReg r (n % m.code.size)) w.toNat (m.point (p + 1)).hues } : Mach) rfl ?_, .res rfl (.dat (.dat .nil))⟩
      have en : m.D.takeNo = n % m.code.size := by
        show m.left.headD 0 % m.code.size = _
        rw [hlf]
        rfl
      have er : m.D.left.tail = rest := by
        show m.left.tail = _
        rw [hlf]
        rfl
      show Mach.D _ = ({ m.D with left := m.D.left.tail, row := m.D.row ++ [.take m.D.takeNo], hues := upToL (fun h => h.setReg r m.D.takeNo) w.toNat (m.D.hues.map (pointH (p + 1))) } : MD)
      rw [en, er, ← show (m.point (p + 1)).hues.map (·.d) = m.D.hues.map (pointH (p + 1)) by
        show (m.hues.map _).map _ = (m.hues.map _).map _
        rw [List.map_map, List.map_map]
        rfl, ← upTo_D]
      rfl
  | goto g =>
    show ExS K _ [.res (m.R K), .dat (.tuple [.str (PySem.Str.ofString "goto"), .int g]), .dat (.int (p + 1)), .no, .no, .no, .no, .no, .no, .no, .no] _
    unfold t_settle_done
    refine x_seq (x_par (by decide) ?_)
    repeat' walk_at "d1"
    refine ⟨_, _, rfl, ?_⟩
    repeat' walk_at "d1"
    refine u_point_all ⟨_, rfl, rfl, rfl, ?_⟩
    repeat' walk_at "d1"
    exact ⟨_, h (m.point g) rfl point_D, .res rfl (.dat (.dat .nil))⟩
  | mark =>
    show ExS K _ [.res (m.R K), .dat (.tuple [.str (PySem.Str.ofString "mark")]), .dat (.int (p + 1)), .no, .no, .no, .no, .no, .no, .no, .no] _
    unfold t_settle_done
    refine x_seq (x_par (by decide) ?_)
    repeat' walk_at "d1"
    refine ⟨_, _, rfl, ?_⟩
    repeat' walk_at "d1"
    refine u_mark_done hk fun m' ha hd => ⟨_, rfl, congrArg V.ref ha, rfl, _, h m' ha hd, .res (congrArg V.ref ha) (.dat (.dat .nil))⟩
  | stop =>
    show ExS K _ [.res (m.R K), .dat (.tuple [.str (PySem.Str.ofString "stop")]), .dat (.int (p + 1)), .no, .no, .no, .no, .no, .no, .no, .no] _
    unfold t_settle_done
    refine x_seq (x_par (by decide) ?_)
    repeat' walk_at "d1"
    refine ⟨_, _, rfl, ?_⟩
    repeat' walk_at "d1"
    refine u_point_all ⟨_, rfl, rfl, rfl, ?_⟩
    repeat' walk_at "d1"
    refine e_row (j := 0) (v := 4) (m := m.point (p + 1)) rfl rfl ?_
    repeat' walk_at "d1"
    refine ⟨.stop, rfl, rfl, row_lt (m := m) hk hn, x_state T (j := 0) .stopped ?_⟩
    repeat' walk_at "d1"
    refine ⟨_, h ({ m.point (p + 1) with row := m.row ++ [.stop], state := .stopped } : Mach) rfl ?_, .res rfl (.dat (.dat .nil))⟩
    show _ = ({ m.D.point (p + 1) with row := m.D.row ++ [.stop], state := .stopped } : MD)
    rw [← point_D]
    rfl
theorem u_settle_done {m : Mach} {c : CellT} {p : Int} {k : Sl → List Sl → Prop} (hk : m.D.Ok) (hn : stepN m.D) (hc : cellOk m.code.votes.length m.code.size m.code.cells.length m.code.bank.length c ∧ ∀ h i, c ≠ .ins h i) (h : ∀ m' : Mach, m'.a = m.a → m'.D = m.D.settle p c → k (.dat .none) [.res (m'.R K), .dat (cellD c), .dat (.int (p + 1))]) : F_settle_done K [.res (m.R K), .dat (cellD c), .dat (.int (p + 1))] k := ⟨m, c, p, hk, hn, hc, rfl, h⟩
end
end Hw
namespace Hw
open PySem PySem.Spec PyProof.Rows L2 Dl
local macro_rules | `(tactic| walk_at "dbt") => `(tactic| first | assumption | rfl | (decide +kernel) | (simp [isFromD, *]; done) | (simp [isFromD, *]; omega))
local macro_rules | `(tactic| walk_at "d1") => `(tactic| first
  | with_reducible refine x_seq ?_ | with_reducible refine x_if' ?_ | with_reducible refine x_ret ?_ | with_reducible refine x_asg ?_ | with_reducible refine x_next ?_ | with_reducible refine x_expr ?_
  | with_reducible refine e_isi2 (by decide) (by decide) ?_
  | with_reducible refine e_dat rfl ?_ | with_reducible refine e_int ?_ | with_reducible refine e_str ?_ | with_reducible refine e_bl ?_ | with_reducible refine e_non ?_ | with_reducible refine e_op ?_ | with_reducible refine e_cb ?_ | with_reducible refine e_call ?_
  | with_reducible refine a_cons ?_ | with_reducible refine a_nil ?_
  | with_reducible refine b_test ?_ | with_reducible refine b_not ?_ | with_reducible refine b_and' ?_ | with_reducible refine b_or' ?_ | with_reducible refine b_tru ?_
  | with_reducible refine e_andV' ?_ | with_reducible refine e_orV' ?_ | with_reducible refine e_notV ?_ | with_reducible refine e_chain' ?_ | with_reducible refine e_if' ?_ | with_reducible refine e_c ?_ | with_reducible refine e_sl ?_ | with_reducible refine o_no ?_ | with_reducible refine o_some ?_ | with_reducible refine e_neg ?_
  | with_reducible refine e_raw rfl ?_ | with_reducible refine e_res rfl ?_ | with_reducible refine g_name ?_
  | with_reducible refine op_add_i ?_ | with_reducible refine op_sub_i ?_ | with_reducible refine op_lt_i ?_ | with_reducible refine op_le_i ?_ | with_reducible refine op_gt_i ?_ | with_reducible refine op_ge_i ?_ | with_reducible refine op_isnone ?_ | with_reducible refine op_notnone ?_
  | with_reducible refine cb_isi (by decide) ?_ | with_reducible refine cb_max2 ?_ | with_reducible refine cb_min2 ?_ | with_reducible refine cb_abs ?_ | with_reducible refine cb_int ?_ | with_reducible refine cb_len rfl ?_
  | with_reducible refine iteT ?_ | with_reducible refine iteF ?_ | ((with_reducible refine iT ?_ ?_); focus (walk_at "dbt"; done)) | ((with_reducible refine iF ?_ ?_); focus (walk_at "dbt"; done))
  | ((with_reducible refine g_tup ?_ ?_); (focus rfl)) | with_reducible refine gs_cons ?_ | with_reducible refine gs_nil ?_
  | with_reducible refine e_tup' ?_ | with_reducible refine e_lst' ?_ | with_reducible refine op_in2 ?_ | with_reducible refine op_ni3 ?_
  | with_reducible refine op_eq_ii ?_ | with_reducible refine op_ne_ii ?_ | ((with_reducible refine op_eq_ss ?_ ?_ ?_); (focus (decide +kernel)); (focus (decide +kernel))) | ((with_reducible refine op_ne_ss ?_ ?_ ?_); (focus (decide +kernel)); (focus (decide +kernel)))
  | ((with_reducible refine op_eq_d ?_ ?_ ?_); (focus (walk_at "dbt")); (focus (walk_at "dbt")))
  | ((with_reducible refine op_ne_d ?_ ?_ ?_); (focus (walk_at "dbt")); (focus (walk_at "dbt")))
  | ((with_reducible refine op_ix' ?_); refine Exists.intro _ (Exists.intro _ (And.intro rfl (And.intro rfl ?_))))
  | ((with_reducible refine op_mul_il ?_ ?_); (focus (decide +kernel))) | ((with_reducible refine op_mul_ir ?_ ?_); (focus (decide +kernel)))
  | ((with_reducible refine And.intro (a := smallL _ = true) ?_ ?_); (focus rfl)) | ((with_reducible refine And.intro (a := Pers _) ?_ ?_); (focus trivial)) | with_reducible refine d_cons ?_ | with_reducible refine d_nil ?_
  | (with_reducible refine Exists.intro _ (And.intro rfl ?_)) | (with_reducible refine Exists.intro _ (Exists.intro _ (And.intro rfl (And.intro rfl ?_)))) | refine Exists.intro _ (And.intro rfl (And.intro (by rfl) ?_)) | refine Exists.intro _ (Exists.intro _ (And.intro rfl (And.intro rfl ?_))) | with_reducible refine dat_ok ?_ | dsimp only | fail)
local macro_rules | `(tactic| walk_at "d1") => `(tactic| first | with_reducible refine f_code (by assumption) rfl ?_ | with_reducible refine f_hues (by assumption) rfl ?_ | with_reducible refine f_left (by assumption) rfl ?_ | with_reducible refine f_strikes (by assumption) rfl ?_ | with_reducible refine f_row (by assumption) rfl ?_ | with_reducible refine f_steps (by assumption) rfl ?_ | with_reducible refine f_state (by assumption) rfl ?_ | with_reducible refine e_callR ?_)
section
variable {K : Frag} {Γ : List Sl} {k : Sl → List Sl → Prop} {O : Out}
theorem cells_at {c : Code} {p : Int} {x : CellT} (h0 : 0 ≤ p) (e : c.cells[p.toNat]? = some x) : atI (c.cells.map cellD) p = some (cellD x) := atI_map h0 e
theorem at_settle {d : MD} {p : Int} {c : CellT} (h : ∀ h i, c ≠ .ins h i) : d.at p c = d.settle p c := by
  cases c with
  | ins h0 i => exact absurd rfl (h h0 i)
  | _ => rfl
theorem cell_word {c : CellT} (h : ∀ h i, c ≠ .ins h i) : ∃ w ds, cellD c = .tuple (.str w :: ds) := by
  cases c with
  | ins h0 i => exact absurd rfl (h h0 i)
  | _ => exact ⟨_, _, rfl⟩
theorem b_machine_step (T : MT K) : ∀ args k, F_machine_step K args k → ExS K (t_machine_step K) (args ++ List.replicate (5 - args.length) .no) (fnOut args k) := by
  rintro args k ⟨m, hk, hn, rfl, h⟩
  have hl := m_len hk
  show ExS K _ [.res (m.R K), .no, .no, .no, .no] _
  unfold t_machine_step
  refine x_seq (x_par (by decide) ?_)
  repeat' walk_at "d1"
  refine u_machine_address hk ⟨_, rfl, rfl, rfl, ?_⟩
  repeat' walk_at "d1"
  refine ⟨_, _, rfl, ?_⟩
  repeat' walk_at "d1"
  refine x_steps T (j := 0) ?_
  repeat' walk_at "d1"
  have hk1 : ({ m with steps := m.steps + 1 } : Mach).D.Ok := hk.next1
  cases ef : m.D.fetch with
  | none =>
    repeat' walk_at "d1"
    refine x_state T (j := 0) .caught ?_
    repeat' walk_at "d1"
    refine x_retN ⟨_, h ({ m with steps := m.steps + 1, state := .caught } : Mach) rfl ?_, .res rfl .nil⟩
    rw [step_none ef]
    rfl
  | some p =>
    obtain ⟨p0, p1⟩ := fetch_in hk ef
    have p1 : p < m.code.cells.length := p1
    obtain ⟨c, hc⟩ : ∃ c, m.code.cells[p.toNat]? = some c := ⟨_, List.getElem?_eq_getElem (by omega)⟩
    have hok := hk.code.cells.2.2 c (List.mem_of_getElem? hc)
    have es : m.D.step = ({ m.D with steps := m.D.steps + 1 } : MD).at p c := step_some ef hc
    rw [show optD (some p) = PyData.int p from rfl]
    repeat' walk_at "d1"
    refine op_ix_d (i := p) rfl (cells_at p0 hc) ?_
    by_cases hq : ∃ h i, c = .ins h i
    · obtain ⟨h0, i, rfl⟩ := hq
      obtain ⟨⟨hh0, hh1⟩, hi⟩ := hok
      have hh1 : h0 ≤ m.code.votes.length - 1 := hh1
      obtain ⟨q, hqq⟩ := hue_at (hs := m.hues) (i := h0.toNat) (by omega)
      have hq1 : (({ m with steps := m.steps + 1 } : Mach).point (p + 1)).hues[h0.toNat]? = some (mapH (pointH (p + 1)) q) := by
        show (m.hues.map _)[h0.toNat]? = _
        rw [List.getElem?_map, hqq]
        rfl
      have hkq : HueOk m.code (pointH (p + 1) q.d) := (m_hue_ok hk hqq).point (by omega)
      show EvG K (gName 1) (.dat (.tuple (.int h0 :: insL i))) _ _
      refine g_name ?_
      repeat' walk_at "d1"
      refine u_is_settle ?_
      repeat' walk_at "d1"
      refine u_point_all (m := { m with steps := m.steps + 1 }) ⟨_, rfl, rfl, rfl, ?_⟩
      repeat' walk_at "d1"
      refine op_ix_d (d' := .int h0) rfl atI_zero ?_
      refine op_ixL (has_hues (m := ({ m with steps := m.steps + 1 } : Mach).point (p + 1)) (j := 0) rfl) (u := .raw (.ref (mapH (pointH (p + 1)) q).x)) (atI_hueI hh0 hq1) ?_
      repeat' walk_at "d1"
      refine e_methP 0 (5 + h0.toNat) ?_
      repeat' walk_at "d1"
      refine ⟨_, _, _, _, _, rfl, rfl, cs_ic hq1, by decide, ?_⟩
      refine a_cons (e_dget2I 0 (lsAt (({ m with steps := m.steps + 1 } : Mach).point (p + 1)) h0.toNat 2) (h_field T (m := ({ m with steps := m.steps + 1 } : Mach).point (p + 1)) (j := 0) (i := h0.toNat) (v := 2) (q := 4) rfl hq1 rfl T.na_HueState_m_changed rfl rfl ?_))
      refine ⟨_, rfl, ⟨_, _, _, rfl, at_chg hq1⟩, e_dat rfl ⟨p, rfl, e_dat rfl ⟨_, _, _, cellD (.ins h0 i), rfl, at_chg hq1, rfl, ?_⟩⟩⟩
      rw [chg_get]
      obtain ⟨hu', i', e1, hi'⟩ := chgGet_ok (a := p) (hu := h0) (m_hue_ok hk hqq) hi
      have e1' : (getC (mapH (pointH (p + 1)) q).d.chg p).getD (.ins h0 i) = .ins hu' i' := e1
      rw [e1']
      repeat' walk_at "d1"
      refine ⟨(({ m with steps := m.steps + 1 } : Mach).point (p + 1)), h0.toNat, mapH (pointH (p + 1)) q, hu', i', hq1, hkq, hk.code, hi', rfl, ⟨_, rfl, rfl, _, h ((({ m with steps := m.steps + 1 } : Mach).point (p + 1)).onHue h0.toNat fun g => runIns m.code.size g i') rfl ?_, .res rfl .nil⟩⟩
      rw [es, onHue_D, point_D]
      show (MD.point _ _).onHue _ _ = (MD.point _ _).onHue _ _
      unfold MD.onHue
      congr 1
      have hg : ((({ m with steps := m.steps + 1 } : Mach).D).point (p + 1)).hues[h0.toNat]? = some (pointH (p + 1) q.d) := by
        show ((m.hues.map (·.d)).map _)[h0.toNat]? = _
        rw [List.getElem?_map, List.getElem?_map, hqq]
        rfl
      have hg2 : ((({ m.D with steps := m.D.steps + 1 } : MD)).point (p + 1)).hues[h0.toNat]? = some (pointH (p + 1) q.d) := hg
      rw [modify_set hg, modify_set hg2]
      show List.set _ _ (runIns m.code.size (pointH (p + 1) q.d) i') = List.set _ _ (runCell m.code.size (pointH (p + 1) q.d) ((getC (pointH (p + 1) q.d).chg p).getD (.ins h0 i)))
      have e1'' : (getC (pointH (p + 1) q.d).chg p).getD (.ins h0 i) = .ins hu' i' := e1
      rw [e1'']
      rfl
    · have hno : ∀ h i, c ≠ .ins h i := fun h i e => hq ⟨h, i, e⟩
      obtain ⟨w, ds, ew⟩ := cell_word hno
      refine g_name ?_
      refine x_seq (x_if' (b_tru (e_call (a_cons (e_dat rfl (a_nil ?_))))))
      rw [ew]
      refine u_is_settle ⟨_, _, rfl, rfl, ?_⟩
      rw [← ew]
      repeat' walk_at "d1"
      refine u_settle_done (m := { m with steps := m.steps + 1 }) (p := p) hk1 (by show m.steps + 1 ≤ 10000000; omega) ⟨hok, hno⟩ fun m' ha hd => ⟨_, rfl, congrArg V.ref ha, rfl, ?_⟩
      refine x_retN ⟨_, h m' ha ?_, .res (congrArg V.ref ha) .nil⟩
      rw [es, at_settle hno, hd]
      rfl
end
end Hw
namespace Hw
open PySem PySem.Spec PyProof.Rows L2 Dl
local macro_rules | `(tactic| walk_at "dbt") => `(tactic| first | assumption | rfl | (decide +kernel) | (simp [isFromD, *]; done) | (simp [isFromD, *]; omega))
local macro_rules | `(tactic| walk_at "d1") => `(tactic| first
  | with_reducible refine x_seq ?_ | with_reducible refine x_if' ?_ | with_reducible refine x_ret ?_ | with_reducible refine x_asg ?_ | with_reducible refine x_next ?_ | with_reducible refine x_expr ?_
  | with_reducible refine e_isi2 (by decide) (by decide) ?_
  | with_reducible refine e_dat rfl ?_ | with_reducible refine e_int ?_ | with_reducible refine e_str ?_ | with_reducible refine e_bl ?_ | with_reducible refine e_non ?_ | with_reducible refine e_op ?_ | with_reducible refine e_cb ?_ | with_reducible refine e_call ?_
  | with_reducible refine a_cons ?_ | with_reducible refine a_nil ?_
  | with_reducible refine b_test ?_ | with_reducible refine b_not ?_ | with_reducible refine b_and' ?_ | with_reducible refine b_or' ?_ | with_reducible refine b_tru ?_
  | with_reducible refine e_andV' ?_ | with_reducible refine e_orV' ?_ | with_reducible refine e_notV ?_ | with_reducible refine e_chain' ?_ | with_reducible refine e_if' ?_ | with_reducible refine e_c ?_ | with_reducible refine e_sl ?_ | with_reducible refine o_no ?_ | with_reducible refine o_some ?_ | with_reducible refine e_neg ?_
  | with_reducible refine e_raw rfl ?_ | with_reducible refine e_res rfl ?_ | with_reducible refine g_name ?_
  | with_reducible refine op_add_i ?_ | with_reducible refine op_sub_i ?_ | with_reducible refine op_lt_i ?_ | with_reducible refine op_le_i ?_ | with_reducible refine op_gt_i ?_ | with_reducible refine op_ge_i ?_ | with_reducible refine op_isnone ?_ | with_reducible refine op_notnone ?_
  | with_reducible refine cb_isi (by decide) ?_ | with_reducible refine cb_max2 ?_ | with_reducible refine cb_min2 ?_ | with_reducible refine cb_abs ?_ | with_reducible refine cb_int ?_ | with_reducible refine cb_len rfl ?_
  | with_reducible refine iteT ?_ | with_reducible refine iteF ?_ | ((with_reducible refine iT ?_ ?_); focus (walk_at "dbt"; done)) | ((with_reducible refine iF ?_ ?_); focus (walk_at "dbt"; done))
  | ((with_reducible refine g_tup ?_ ?_); (focus rfl)) | with_reducible refine gs_cons ?_ | with_reducible refine gs_nil ?_
  | with_reducible refine e_tup' ?_ | with_reducible refine e_lst' ?_ | with_reducible refine op_in2 ?_ | with_reducible refine op_ni3 ?_
  | with_reducible refine op_eq_ii ?_ | with_reducible refine op_ne_ii ?_ | ((with_reducible refine op_eq_ss ?_ ?_ ?_); (focus (decide +kernel)); (focus (decide +kernel))) | ((with_reducible refine op_ne_ss ?_ ?_ ?_); (focus (decide +kernel)); (focus (decide +kernel)))
  | ((with_reducible refine op_eq_d ?_ ?_ ?_); (focus (walk_at "dbt")); (focus (walk_at "dbt")))
  | ((with_reducible refine op_ne_d ?_ ?_ ?_); (focus (walk_at "dbt")); (focus (walk_at "dbt")))
  | ((with_reducible refine op_ix' ?_); refine Exists.intro _ (Exists.intro _ (And.intro rfl (And.intro rfl ?_))))
  | ((with_reducible refine op_mul_il ?_ ?_); (focus (decide +kernel))) | ((with_reducible refine op_mul_ir ?_ ?_); (focus (decide +kernel)))
  | ((with_reducible refine And.intro (a := smallL _ = true) ?_ ?_); (focus rfl)) | ((with_reducible refine And.intro (a := Pers _) ?_ ?_); (focus trivial)) | with_reducible refine d_cons ?_ | with_reducible refine d_nil ?_
  | (with_reducible refine Exists.intro _ (And.intro rfl ?_)) | (with_reducible refine Exists.intro _ (Exists.intro _ (And.intro rfl (And.intro rfl ?_)))) | refine Exists.intro _ (And.intro rfl (And.intro (by rfl) ?_)) | refine Exists.intro _ (Exists.intro _ (And.intro rfl (And.intro rfl ?_))) | with_reducible refine dat_ok ?_ | dsimp only | fail)
local macro_rules | `(tactic| walk_at "d1") => `(tactic| first | with_reducible refine f_code (by assumption) rfl ?_ | with_reducible refine f_hues (by assumption) rfl ?_ | with_reducible refine f_left (by assumption) rfl ?_ | with_reducible refine f_strikes (by assumption) rfl ?_ | with_reducible refine f_row (by assumption) rfl ?_ | with_reducible refine f_steps (by assumption) rfl ?_ | with_reducible refine f_state (by assumption) rfl ?_ | with_reducible refine e_callR ?_)
section
variable {K : Frag} {Γ : List Sl} {k : Sl → List Sl → Prop} {O : Out}
theorem u_machine_step {m : Mach} {k : Sl → List Sl → Prop} (hk : m.D.Ok) (hn : m.steps < 10000000) (h : ∀ m' : Mach, m'.a = m.a → m'.D = m.D.step → k (.dat .none) [.res (m'.R K)]) : F_machine_step K [.res (m.R K)] k := ⟨m, hk, hn, rfl, h⟩
theorem b_Machine_go (T : MT K) : ∀ args k, F_Machine_go K args k → ExS K (t_Machine_go K) (args ++ List.replicate (3 - args.length) .no) (fnOut args k) := by
  rintro args k ⟨m, n, hk, hn, hs, rfl, h⟩
  show ExS K _ [.res (m.R K), .dat (.int n), .no] _
  unfold t_Machine_go
  repeat' walk_at "d1"
  refine u_need_steps ⟨by omega, by omega⟩ ?_
  repeat' walk_at "d1"
  refine x_while (fun t Γ => ∃ mm : Mach, mm.a = m.a ∧ mm.D.Ok ∧ MD.run t mm.D = MD.run n m.D ∧ mm.steps + t ≤ 10000000 ∧ Γ = [.res (mm.R K), .dat (.int n), .dat (.int t)]) ⟨n, m, rfl, hk, rfl, hs, rfl⟩ ?_
  rintro t Γ ⟨mm, ha, hok, hr, hst, rfl⟩
  have fin : MD.run t mm.D = mm.D → ExS K (sFld K (tVar 0) (tCallR 0 (spOf K (F_next_address K)) E0 (tCons (tVar 0) tNil)) (PySem.Str.ofString "address")) [.res (mm.R K), .dat (.int n), .dat (.int t)] (fnOut [.res (m.R K), .dat (.int n)] k) := by
    intro e
    refine x_addr T (j := 0) ?_
    repeat' walk_at "d1"
    refine u_next_address hok ⟨_, rfl, rfl, rfl, ?_⟩
    repeat' walk_at "d1"
    refine ⟨_, h ({ mm with addr := mm.D.next } : Mach) ha ?_, .res (congrArg V.ref ha) (.dat .nil)⟩
    unfold MD.go
    rw [← hr, e]
    rfl
  refine b_and' (b_test (e_op (e_dat rfl (e_int (op_gt_i ⟨_, rfl, ?_⟩)))))
  cases t with
  | zero =>
    refine iF (by simp) ?_
    exact ⟨(fun z => by cases z), fun _ => fin rfl⟩
  | succ t =>
    refine iT (by simp) ?_
    refine b_test (e_op (f_state T rfl (e_str (op_eq_ss st_ok (by decide +kernel) ⟨_, rfl, ?_⟩))))
    rw [st_eq]
    refine ⟨fun hb => ?_, fun hb => ?_⟩
    · have hs1 : mm.state = .running := of_decide_eq_true hb
      repeat' walk_at "d1"
      refine u_strikes_due hok fun m1 ha1 hd1 => ⟨_, rfl, congrArg V.ref ha1, rfl, ?_⟩
      have hok1 : m1.D.Ok := by rw [hd1]; exact due_ok hok
      have hst1 : m1.steps = mm.steps := congrArg MD.steps hd1
      repeat' walk_at "d1"
      refine u_machine_step hok1 (by omega) fun m2 ha2 hd2 => ⟨_, rfl, congrArg V.ref ha2, rfl, ?_⟩
      have hst2 : m2.steps = m1.steps + 1 := by
        have := congrArg MD.steps hd2
        rw [step_code.2.1] at this
        exact this
      refine ⟨t, Nat.lt_succ_self _, m2, ha2.trans (ha1.trans ha), by rw [hd2]; exact step_ok hok1, ?_, by push_cast at hst; omega, ?_⟩
      · rw [← hr, hd2, hd1]
        show _ = if mm.D.state = .running then MD.run t mm.D.due.step else mm.D
        rw [if_pos (show mm.D.state = .running from hs1)]
      · show [_, _, Sl.dat (.int (((t + 1 : Nat) : Int) - 1))] = _
        rw [show (((t + 1 : Nat) : Int) - 1) = (t : Int) by push_cast; omega]
    · have hs1 : ¬ mm.state = .running := of_decide_eq_false hb
      refine fin ?_
      unfold MD.run
      rw [if_neg (show ¬ mm.D.state = .running from hs1)]
theorem u_Machine_go {m : Mach} {n : Nat} {k : Sl → List Sl → Prop} (hk : m.D.Ok) (hn : n ≤ 1000000) (hs : m.steps + n ≤ 10000000) (h : ∀ m' : Mach, m'.a = m.a → m'.D = m.D.go n → k (.dat .none) [.res (m'.R K), .dat (.int n)]) : F_Machine_go K [.res (m.R K), .dat (.int n)] k := ⟨m, n, hk, hn, hs, rfl, h⟩
theorem b_Machine_strike (T : MT K) : ∀ args k, F_Machine_strike K args k → ExS K (t_Machine_strike K) (args ++ List.replicate (4 - args.length) .no) (fnOut args k) := by
  rintro args k ⟨m, i, t, hk, hi, ht, rfl, h⟩
  have hl := m_len hk
  obtain ⟨g, hg⟩ := hue_at hi
  show ExS K _ [.res (m.R K), .dat (.int i), .dat (placeD t), .dat (newD t)] _
  unfold t_Machine_strike
  repeat' walk_at "d1"
  refine u_need_hue ⟨by omega, by omega⟩ ?_
  repeat' walk_at "d1"
  refine u_place_fits ht ⟨_, _, rfl, rfl, ?_⟩
  repeat' walk_at "d1"
  refine u_new_fits ht ⟨_, _, rfl, rfl, ?_⟩
  repeat' walk_at "d1"
  refine e_strike T i (e_op (f_hues T (m := m) (j := 0) rfl (e_dat rfl (op_ixL (has_hues (m := m) (j := 0) rfl) (atI_hue hg) ?_))))
  refine ⟨m, g, rfl, rfl, hg, ?_⟩
  repeat' walk_at "d1"
  refine ⟨t, i, rfl, rfl, hk, ht, x_addr T (j := 0) ?_⟩
  have hk1 : (m.onHue i (strikeH t)).D.Ok := by
    rw [onHue_D]
    exact hk.onHue fun h hh => strikeH_ok (hk.hues h (List.mem_of_getElem? hh)) ht
  repeat' walk_at "d1"
  refine u_next_address hk1 ⟨_, rfl, rfl, rfl, ?_⟩
  repeat' walk_at "d1"
  refine ⟨_, h ({ m.onHue i (strikeH t) with addr := (m.onHue i (strikeH t)).D.next } : Mach) rfl ?_, .res rfl (.dat (.dat (.dat .nil)))⟩
  unfold MD.strike
  rw [← onHue_D]
  rfl
theorem u_Machine_strike {m : Mach} {i : Nat} {t : Thing} {k : Sl → List Sl → Prop} (hk : m.D.Ok) (hi : i < m.hues.length) (ht : thingOk m.code i t) (h : ∀ m' : Mach, m'.a = m.a → m'.D = m.D.strike i t → k (.dat .none) [.res (m'.R K), .dat (.int i), .dat (placeD t), .dat (newD t)]) : F_Machine_strike K [.res (m.R K), .dat (.int i), .dat (placeD t), .dat (newD t)] k := ⟨m, i, t, hk, hi, ht, rfl, h⟩
def Hue.all (K : Frag) (h : Hue) : List (Addr × Cell) := h.ic K :: h.ls
theorem all_perm : ∀ (hs : List Hue), (hs.flatMap (Hue.all K)).Perm (hs.map (Hue.ic K) ++ hs.flatMap Hue.ls)
  | [] => List.Perm.refl _
  | h :: hs => by
    rw [List.flatMap_cons, List.map_cons, List.flatMap_cons]
    show ((h.ic K :: h.ls) ++ hs.flatMap (Hue.all K)).Perm _
    rw [List.cons_append, List.cons_append]
    refine List.Perm.cons _ ?_
    refine ((all_perm hs).append_left _).trans ?_
    rw [← List.append_assoc, ← List.append_assoc]
    exact (List.perm_append_comm).append_right _
theorem b_Machine___init__ (T : MT K) : ∀ args k, F_Machine___init__ K args k → ExS K (t_Machine___init__ K) (args ++ List.replicate (5 - args.length) .no) (fnOut args k) := by
  rintro args k ⟨x, c, ns, d, ss, e, hc, hn, hd, hss, he, rfl, hk⟩
  show ExS K _ [.res (star (.ref x) [(x, .ins (He.ga K "Machine") [] [])]), .dat c.d, .dat d, .dat e, .no] _
  unfold t_Machine___init__
  refine x_seq (x_expr (e_call (a_cons (e_dat rfl (a_nil (u_need_code hc ?_))))))
  refine x_seq (x_expr (e_call (a_cons (e_dat rfl (a_nil (u_need_inputs hn hd ?_))))))
  refine x_seq (x_expr (e_call (a_cons (e_dat rfl (a_cons (e_dat rfl (a_nil (u_need_strikes hss he ?_))))))))
  refine x_seq (x_selfD (e_dat rfl ⟨_, _, _, _, _, trivial, rfl, T.k_Machine, T.na_Machine_m_code, by decide, by decide, ?_⟩))
  refine x_seq (x_selfL (e_lcS (sets_name (by simp)) gm_name (i_sq ?_)))
  repeat' walk_at "d1"
  intro hz
  refine ⟨fun i acc Γ => ∃ hs : List Hue, hs.length = i ∧ (∀ h ∈ hs, h.d = freshH c.bank) ∧ acc = hs.map (fun h => .raw (.ref h.x)) ∧ Γ = [.res (star (.ref x) ((x, .ins (He.ga K "Machine") ["m_code"] [.dat c.d]) :: hs.flatMap (Hue.all K))), .dat c.d, .dat d, .dat e, .no], hz, ⟨[], rfl, (fun h z => by cases z), rfl, rfl⟩, fun _ _ _ _ _ => trivial, ?_, ?_⟩
  · rintro i acc Γ hi hl ⟨hs, hlen, hall, rfl, hΓ⟩
    rw [hΓ]
    refine g_name (b_yes ⟨fun _ => ?_, (fun z => by cases z)⟩)
    refine e_absorb 0 (e_make (dvs := []) (dss := []) (fun _ => .nil) ?_)
    repeat' walk_at "d1"
    intro y
    refine ⟨y, c.bank, rfl, fun r b d2 => ⟨rfl, _, rfl, rfl, _, _, _, _, rfl, cells_star, rfl, trivial, hs ++ [newHue y r b d2 c.bank], ?_, ?_, ?_, ?_⟩⟩
    · rw [List.length_append, hlen]; rfl
    · intro h hh
      rcases List.mem_append.mp hh with q | q
      · exact hall h q
      · rw [List.mem_singleton.mp q]
        rfl
    · rw [List.map_append]; rfl
    · rw [List.flatMap_append]
      simp [wipeA, Hue.all]
  · rintro acc Γ hl ⟨hs, hlen, hall, rfl, hΓ⟩ D
    rw [hΓ]
    refine ⟨_, _, _, _, _, _, _, rfl, cells_star, rfl, T.k_Machine, T.na_Machine_m_hues, by decide, by decide, ?_⟩
    refine x_seq (x_selfL (e_cb (a_cons (e_dat rfl (a_nil (cb_listO hd.seqD fun al => ?_))))))
    refine ⟨_, _, _, _, _, _, _, rfl, cells_own, rfl, T.k_Machine, T.na_Machine_m_left, by decide, by decide, ?_⟩
    refine x_seq (x_selfL (e_cb (a_cons (e_dat rfl (a_nil (cb_listO he.seqD fun as_ => ?_))))))
    refine ⟨_, _, _, _, _, _, _, rfl, cells_own, rfl, T.k_Machine, T.na_Machine_m_strikes, by decide, by decide, ?_⟩
    refine x_seq (x_selfL (e_lstO' (a_nil ⟨[], rfl, rfl, fun ar => ⟨_, _, _, _, _, _, _, rfl, cells_own, rfl, T.k_Machine, T.na_Machine_m_row, by decide, by decide, ?_⟩⟩)))
    refine x_seq (x_selfD (e_int ⟨_, _, _, _, _, trivial, rfl, T.k_Machine, T.na_Machine_m_steps, by decide, by decide, ?_⟩))
    refine x_seq (x_selfD (e_str ⟨_, _, _, _, _, trivial, rfl, T.k_Machine, T.na_Machine_m_state, by decide, by decide, ?_⟩))
    refine x_sub 0 (Θ' := (x, .ins (He.ga K "Machine") ["m_code", "m_hues", "m_left", "m_strikes", "m_row", "m_steps", "m_state"] [.dat c.d, .raw (.ref D), .raw (.ref al), .raw (.ref as_), .raw (.ref ar), .dat (.int 0), .dat (.str (PySem.Str.ofString "running"))]) ::
      (D, .lst (hs.map fun h => .raw (.ref h.x))) :: (al, .lst ((iL ns).map .dat)) :: (as_, .lst ((ss.map Strike.d).map .dat)) :: (ar, .lst []) :: (hs.map (Hue.ic K) ++ hs.flatMap Hue.ls)) (Z := []) rfl ?_ ?_
    · rw [List.append_nil]
      refine List.Perm.cons _ ?_
      show ((((hs.flatMap (Hue.all K) ++ [(D, Cell.lst (hs.map fun h => .raw (.ref h.x)))]) ++ [(al, Cell.lst ((iL ns).map .dat))]) ++ [(as_, Cell.lst ((ss.map Strike.d).map .dat))]) ++ [(ar, Cell.lst [])]).Perm ([(D, Cell.lst (hs.map fun h => .raw (.ref h.x))), (al, .lst ((iL ns).map .dat)), (as_, .lst ((ss.map Strike.d).map .dat)), (ar, .lst [])] ++ (hs.map (Hue.ic K) ++ hs.flatMap Hue.ls))
      rw [List.append_assoc, List.append_assoc, List.append_assoc]
      exact (List.perm_append_comm).trans ((all_perm hs).append_left _)
    refine x_selfD (e_int ⟨_, _, _, _, _, trivial, rfl, T.k_Machine, T.na_Machine_address, by decide, by decide, ?_⟩)
    refine ⟨_, hk ⟨x, D, al, as_, ar, c, ns, ss, [], 0, .running, some 0, hs⟩ rfl ?_, .res rfl (.dat (.dat (.dat .nil)))⟩
    unfold Mach.D MD.new
    congr 1
    have e1 : (hs.map (·.d)) = List.replicate hs.length (freshH c.bank) := by
      refine List.eq_replicate_iff.mpr ⟨List.length_map .., fun b hb => ?_⟩
      obtain ⟨h, hh, rfl⟩ := List.mem_map.mp hb
      exact hall h hh
    have e2 : (c.votes.map fun _ => freshH c.bank) = List.replicate c.votes.length (freshH c.bank) := by
      refine List.eq_replicate_iff.mpr ⟨List.length_map .., fun b hb => ?_⟩
      obtain ⟨h, hh, rfl⟩ := List.mem_map.mp hb
      rfl
    show hs.map (·.d) = _
    rw [e1, e2, hlen, iL_len]
theorem u_Machine___init__ {x : Addr} {c : Code} {ns : List Int} {d : PyData} {ss : List Strike} {e : PyData} {k : Sl → List Sl → Prop} (hc : c.Ok) (hn : ns.length ≤ 400 ∧ ∀ n ∈ ns, insOkR n) (hd : seqOf d (iL ns)) (hss : strikesOk c ss) (he : seqOf e (ss.map Strike.d))
    (hk : ∀ m : Mach, m.a = x → m.D = MD.new c ns ss → k (.dat .none) [.res (m.R K), .dat c.d, .dat d, .dat e]) : F_Machine___init__ K [.res (star (.ref x) [(x, .ins (He.ga K "Machine") [] [])]), .dat c.d, .dat d, .dat e] k := ⟨x, c, ns, d, ss, e, hc, hn, hd, hss, he, rfl, hk⟩
theorem b_struck (T : MT K) : ∀ args k, F_struck K args k → ExS K (t_struck K) (args ++ List.replicate (5 - args.length) .no) (fnOut args k) := by
  rintro args k ⟨c, ns, d, ss, e, n, hc, hn, hd, hss, he, hn6, rfl, hk⟩
  show ExS K _ [.dat c.d, .dat d, .dat e, .dat (.int n), .no] _
  unfold t_struck
  refine x_seq (x_asg (e_make (dvs := []) (dss := []) (fun _ => .nil) ?_))
  repeat' walk_at "d1"
  intro x
  refine u_Machine___init__ hc hn hd hss he fun m ha hD => ⟨rfl, m.R K, rfl, congrArg V.ref ha, g_name ?_⟩
  have hok : m.D.Ok := by rw [hD]; exact new_ok hc hss.2.1
  have hst : m.steps = 0 := congrArg MD.steps hD
  refine x_seq (x_expr (e_methR (r := m.R K) rfl (isIns_star (n := 0) rfl (by decide)) ?_))
  repeat' walk_at "d1"
  refine ⟨rfl, u_Machine_go hok hn6 (by omega) fun m2 ha2 hD2 => ⟨_, rfl, congrArg V.ref ha2, rfl, ?_⟩⟩
  refine x_ret (e_move (i := 4) (r := m2.R K) rfl ⟨_, hk m2 (by rw [hD2, hD]), .dat (.dat (.dat (.dat .nil)))⟩)
theorem u_struck {c : Code} {ns : List Int} {d : PyData} {ss : List Strike} {e : PyData} {n : Nat} {k : Sl → List Sl → Prop} (hc : c.Ok) (hn : ns.length ≤ 400 ∧ ∀ n ∈ ns, insOkR n) (hd : seqOf d (iL ns)) (hss : strikesOk c ss) (he : seqOf e (ss.map Strike.d)) (hn6 : n ≤ 1000000)
    (hk : ∀ m : Mach, m.D = (MD.new c ns ss).go n → k (.res (m.R K)) [.dat c.d, .dat d, .dat e, .dat (.int n)]) : F_struck K [.dat c.d, .dat d, .dat e, .dat (.int n)] k := ⟨c, ns, d, ss, e, n, hc, hn, hd, hss, he, hn6, rfl, hk⟩
def ownP (h : Int) (p : CellT × Nat) : Option PyData := match p.1 with
  | .ins g i => if g = h then some (.tuple [.int p.2, insD g i]) else none
  | _ => none
theorem b_own_cells (T : MT K) : ∀ args k, F_own_cells K args k → ExS K (t_own_cells K) (args ++ List.replicate (4 - args.length) .no) (fnOut args k) := by
  rintro args k ⟨c, h, hc, hh⟩
  have hh : pD args k [c.d, .int h] (.list (c.cells.zipIdx.filterMap (ownP h))) := by
    have e : (fun p : CellT × Nat => match p.1 with | .ins g i => if g = h then some (PyData.tuple [.int p.2, insD g i]) else none | _ => none) = ownP h := by
      funext p
      obtain ⟨x, n⟩ := p
      cases x <;> rfl
    have hh2 := hh
    unfold pD at hh2 ⊢
    refine ⟨hh2.1, ?_⟩
    rw [← e]
    exact hh2.2
  refine bodyD (Γ := [.dat (codeL c), .dat (.int h), .no, .no]) hh rfl ?_
  unfold t_own_cells
  refine x_ret (e_lc (sets_tup (setsL_cons gm_name (sets_name (by simp)) (setsL_cons gm_name (sets_name (by simp)) setsL_nil))) (gm_tup (gm_cons gm_name (gm_cons gm_name gm_nil))) (i_enumU ?_))
  repeat' walk_at "d1"
  intro hz
  have l2 : (c.cells.map cellD).length = c.cells.length := List.length_map ..
  refine ⟨fun i acc Γ => acc = (c.cells.zipIdx.take i).filterMap (ownP h) ∧ Γ = [.dat (codeL c), .dat (.int h), .no, .no], hz, ⟨rfl, rfl⟩, fun _ _ _ _ _ => trivial, ?_, ?_⟩
  · rintro i acc Γ hi hal ⟨rfl, hΓ⟩
    rw [hΓ]
    rw [l2] at hi
    obtain ⟨x, hx⟩ : ∃ x, c.cells[i]? = some x := ⟨_, List.getElem?_eq_getElem hi⟩
    have hgd : (c.cells.map cellD).getD i .none = cellD x := by rw [List.getD_eq_getElem?_getD, List.getElem?_map, hx]; rfl
    have hzi : c.cells.zipIdx[i]? = some (x, i) := by
      rw [List.getElem?_zipIdx, hx]
      simp
    have hzl : i < c.cells.zipIdx.length := (List.getElem?_eq_some_iff.mp hzi).1
    have ht : (c.cells.zipIdx.take (i + 1)).filterMap (ownP h) = (c.cells.zipIdx.take i).filterMap (ownP h) ++ (ownP h (x, i)).toList := by
      rw [List.take_succ_eq_append_getElem hzl, List.filterMap_append, (List.getElem?_eq_some_iff.mp hzi).2]
      congr 1
    show EvG K _ (.dat (.tuple [.int (i : Int), (c.cells.map cellD).getD i .none])) _ _
    rw [hgd]
    refine g_tup rfl (gs_cons (g_name (gs_cons (g_name (gs_nil ?_)))))
    by_cases hq : ∃ g j, x = .ins g j
    · obtain ⟨g, j, rfl⟩ := hq
      refine b_and' (b_not (b_tru (e_call (a_cons (e_dat rfl (a_nil ?_))))))
      show F_is_settle K [.dat (.tuple (.int g :: insL j))] _
      refine u_is_settle ⟨_, _, rfl, rfl, iteT (b_test (e_op (e_op (e_dat rfl (e_int (op_ix_d (d' := .int g) rfl atI_zero (e_dat rfl (op_eq_ii ⟨_, rfl, ?_⟩))))))))⟩
      by_cases e : g = h
      · have eo : ownP h (.ins g j, i) = some (.tuple [.int (i : Int), insD g j]) := by simp [ownP, e]
        refine ⟨fun _ => e_tup' (a_cons (e_dat rfl (a_cons (e_dat rfl (a_nil ⟨[.int (i : Int), insD g j], rfl, rfl, _, rfl, ?_, rfl⟩))))), (fun z => by rw [decide_eq_true e] at z; cases z)⟩
        rw [ht, eo]
        rfl
      · have eo : ownP h (.ins g j, i) = none := by simp [ownP, e]
        refine ⟨(fun z => by rw [decide_eq_false e] at z; cases z), fun _ => ⟨?_, rfl⟩⟩
        rw [ht, eo]
        simp
    · have hno : ∀ g j, x ≠ .ins g j := fun g j e => hq ⟨g, j, e⟩
      obtain ⟨w, ds, ew⟩ := cell_word hno
      have eo : ownP h (x, i) = none := by
        cases x with
        | ins g j => exact absurd rfl (hno g j)
        | _ => rfl
      refine b_and' (b_not (b_tru (e_call (a_cons (e_dat rfl (a_nil ?_))))))
      rw [ew]
      refine u_is_settle ⟨_, _, rfl, rfl, iteF ⟨(fun z => by cases z), fun _ => ⟨?_, rfl⟩⟩⟩
      rw [ht, eo]
      simp
  · rintro acc Γ hal ⟨rfl, hΓ⟩
    have hzl : c.cells.zipIdx.length = c.cells.length := List.length_zipIdx ..
    rw [l2, ← hzl, List.take_length]
    rfl
theorem u_own_cells {c : Code} {h : Int} {k : Sl → List Sl → Prop} (hc : c.Ok) (hk : k (.dat (.list (c.cells.zipIdx.filterMap (ownP h)))) [.dat c.d, .dat (.int h)]) : F_own_cells K [.dat c.d, .dat (.int h)] k := ⟨c, h, hc, rfl, hk⟩
end
end Hw
namespace Hw
open PySem PySem.Spec PyProof.Rows L2 Dl
local macro_rules | `(tactic| walk_at "dbt") => `(tactic| first | assumption | rfl | (decide +kernel) | (simp [isFromD, *]; done) | (simp [isFromD, *]; omega))
local macro_rules | `(tactic| walk_at "d1") => `(tactic| first
  | with_reducible refine x_seq ?_ | with_reducible refine x_if' ?_ | with_reducible refine x_ret ?_ | with_reducible refine x_asg ?_ | with_reducible refine x_next ?_ | with_reducible refine x_expr ?_
  | with_reducible refine e_isi2 (by decide) (by decide) ?_
  | with_reducible refine e_dat rfl ?_ | with_reducible refine e_int ?_ | with_reducible refine e_str ?_ | with_reducible refine e_bl ?_ | with_reducible refine e_non ?_ | with_reducible refine e_op ?_ | with_reducible refine e_cb ?_ | with_reducible refine e_call ?_
  | with_reducible refine a_cons ?_ | with_reducible refine a_nil ?_
  | with_reducible refine b_test ?_ | with_reducible refine b_not ?_ | with_reducible refine b_and' ?_ | with_reducible refine b_or' ?_ | with_reducible refine b_tru ?_
  | with_reducible refine e_andV' ?_ | with_reducible refine e_orV' ?_ | with_reducible refine e_notV ?_ | with_reducible refine e_chain' ?_ | with_reducible refine e_if' ?_ | with_reducible refine e_c ?_ | with_reducible refine e_sl ?_ | with_reducible refine o_no ?_ | with_reducible refine o_some ?_ | with_reducible refine e_neg ?_
  | with_reducible refine e_raw rfl ?_ | with_reducible refine e_res rfl ?_ | with_reducible refine g_name ?_
  | with_reducible refine op_add_i ?_ | with_reducible refine op_sub_i ?_ | with_reducible refine op_lt_i ?_ | with_reducible refine op_le_i ?_ | with_reducible refine op_gt_i ?_ | with_reducible refine op_ge_i ?_ | with_reducible refine op_isnone ?_ | with_reducible refine op_notnone ?_
  | with_reducible refine cb_isi (by decide) ?_ | with_reducible refine cb_max2 ?_ | with_reducible refine cb_min2 ?_ | with_reducible refine cb_abs ?_ | with_reducible refine cb_int ?_ | with_reducible refine cb_len rfl ?_
  | with_reducible refine iteT ?_ | with_reducible refine iteF ?_ | ((with_reducible refine iT ?_ ?_); focus (walk_at "dbt"; done)) | ((with_reducible refine iF ?_ ?_); focus (walk_at "dbt"; done))
  | ((with_reducible refine g_tup ?_ ?_); (focus rfl)) | with_reducible refine gs_cons ?_ | with_reducible refine gs_nil ?_
  | with_reducible refine e_tup' ?_ | with_reducible refine e_lst' ?_ | with_reducible refine op_in2 ?_ | with_reducible refine op_ni3 ?_
  | with_reducible refine op_eq_ii ?_ | with_reducible refine op_ne_ii ?_ | ((with_reducible refine op_eq_ss ?_ ?_ ?_); (focus (decide +kernel)); (focus (decide +kernel))) | ((with_reducible refine op_ne_ss ?_ ?_ ?_); (focus (decide +kernel)); (focus (decide +kernel)))
  | ((with_reducible refine op_eq_d ?_ ?_ ?_); (focus (walk_at "dbt")); (focus (walk_at "dbt")))
  | ((with_reducible refine op_ne_d ?_ ?_ ?_); (focus (walk_at "dbt")); (focus (walk_at "dbt")))
  | ((with_reducible refine op_ix' ?_); refine Exists.intro _ (Exists.intro _ (And.intro rfl (And.intro rfl ?_))))
  | ((with_reducible refine op_mul_il ?_ ?_); (focus (decide +kernel))) | ((with_reducible refine op_mul_ir ?_ ?_); (focus (decide +kernel)))
  | ((with_reducible refine And.intro (a := smallL _ = true) ?_ ?_); (focus rfl)) | ((with_reducible refine And.intro (a := Pers _) ?_ ?_); (focus trivial)) | with_reducible refine d_cons ?_ | with_reducible refine d_nil ?_
  | (with_reducible refine Exists.intro _ (And.intro rfl ?_)) | (with_reducible refine Exists.intro _ (Exists.intro _ (And.intro rfl (And.intro rfl ?_)))) | refine Exists.intro _ (And.intro rfl (And.intro (by rfl) ?_)) | refine Exists.intro _ (Exists.intro _ (And.intro rfl (And.intro rfl ?_))) | with_reducible refine dat_ok ?_ | dsimp only | fail)
local macro_rules | `(tactic| walk_at "d1") => `(tactic| first | with_reducible refine f_code (by assumption) rfl ?_ | with_reducible refine f_hues (by assumption) rfl ?_ | with_reducible refine f_left (by assumption) rfl ?_ | with_reducible refine f_strikes (by assumption) rfl ?_ | with_reducible refine f_row (by assumption) rfl ?_ | with_reducible refine f_steps (by assumption) rfl ?_ | with_reducible refine f_state (by assumption) rfl ?_ | with_reducible refine e_callR ?_)
section
variable {K : Frag} {Γ : List Sl} {k : Sl → List Sl → Prop} {O : Out}
theorem b_Machine_own (T : MT K) : ∀ args k, F_Machine_own K args k → ExS K (t_Machine_own K) (args ++ List.replicate (3 - args.length) .no) (fnOut args k) := by
  rintro args k ⟨m, i, p, h, j, hi, hk, hc, rfl, hh⟩
  have hl := m_len hk
  have hlt : i < m.hues.length := (List.getElem?_eq_some_iff.mp hi).1
  have hpl : p < m.code.cells.length := (List.getElem?_eq_some_iff.mp hc).1
  have hok : cellOk m.code.votes.length m.code.size m.code.cells.length m.code.bank.length (.ins i j) := hk.code.cells.2.2 _ (List.mem_of_getElem? hc)
  have ht : thingOk m.code i (.code p i j) := ⟨⟨by omega, by omega⟩, rfl, ⟨j, by rw [Int.toNat_natCast]; exact hc⟩, hok.2⟩
  show ExS K _ [.res (m.R K), .dat (.int i), .dat (.int p)] _
  unfold t_Machine_own
  repeat' walk_at "d1"
  refine u_need_hue ⟨by omega, by omega⟩ ?_
  repeat' walk_at "d1"
  refine u_place_fits (t := .code p i j) ht ⟨_, _, rfl, rfl, ?_⟩
  repeat' walk_at "d1"
  refine e_dget2I 0 (lsAt m i 2) (h_fieldE T 0 i 4 T.na_HueState_m_changed rfl ?_)
  repeat' walk_at "d1"
  refine op_ixL (has_hues (j := 0) rfl) (u := .raw (.ref h.x)) (atI_hue hi) ⟨_, _, _, rfl, rfl, hi, rfl, ?_⟩
  refine ⟨_, rfl, ⟨_, _, _, rfl, at_chg hi⟩, e_dat rfl ⟨p, rfl, ?_⟩⟩
  repeat' walk_at "d1"
  refine op_ix_d (i := (p : Int)) rfl (cells_at (by omega) (by rw [Int.toNat_natCast]; exact hc)) ?_
  refine ⟨_, _, _, cellD (.ins i j), rfl, at_chg hi, rfl, ?_⟩
  rw [chg_get]
  exact ⟨_, hh, .res rfl (.dat (.dat .nil))⟩
theorem u_Machine_own {m : Mach} {i p : Nat} {h : Hue} {j : Ins} {k : Sl → List Sl → Prop} (hi : m.hues[i]? = some h) (hk : m.D.Ok) (hc : m.code.cells[p]? = some (.ins i j)) (hh : k (.dat (cellD ((getC h.d.chg p).getD (.ins i j)))) [.res (m.R K), .dat (.int i), .dat (.int p)]) : F_Machine_own K [.res (m.R K), .dat (.int i), .dat (.int p)] k := ⟨m, i, p, h, j, hi, hk, hc, rfl, hh⟩
def owG (l : List (Int × CellT)) : PyData → PyData
  | .tuple [.int a, d] => (getI (chgD l) a).getD d
  | d => d
theorem owns_eq {c : Code} {i : Nat} {h : HueD} : (c.cells.zipIdx.filterMap (ownP (i : Int))).map (owG h.chg) = ownsD c i h := by
  unfold ownsD
  rw [List.map_filterMap]
  congr 1
  funext p
  obtain ⟨x, n⟩ := p
  cases x with
  | ins g j =>
    by_cases e : g = (i : Int)
    · have e1 : ownP (i : Int) (.ins g j, n) = some (.tuple [.int (n : Int), insD g j]) := by simp [ownP, e]
      rw [e1]
      show some ((getI (chgD h.chg) (n : Int)).getD (cellD (.ins g j))) = if g = (i : Int) then some (cellD ((getC h.chg (n : Int)).getD (.ins g j))) else none
      rw [if_pos e, chg_get]
    · have e1 : ownP (i : Int) (.ins g j, n) = none := by simp [ownP, e]
      rw [e1]
      show none = if g = (i : Int) then some (cellD ((getC h.chg (n : Int)).getD (.ins g j))) else none
      rw [if_neg e]
  | _ => rfl
theorem b_Machine_moment (T : MT K) : ∀ args k, F_Machine_moment K args k → ExS K (t_Machine_moment K) (args ++ List.replicate (7 - args.length) .no) (fnOut args k) := by
  rintro args k ⟨m, hk, rfl, hh⟩
  have hl := m_len hk
  have hv : votesOk m.code.votes := hk.code.votes
  show ExS K _ [.res (m.R K), .no, .no, .no, .no, .no, .no] _
  unfold t_Machine_moment
  refine x_seq (x_asg (e_lstO' (a_nil ⟨[], rfl, rfl, fun a => g_name ?_⟩)))
  have hzl : m.D.hues.zipIdx.length = m.hues.length := by
    rw [List.length_zipIdx]
    exact List.length_map ..
  refine x_seq (x_forE (f_hues T (j := 0) rfl ⟨_, _, rfl, has_hues (j := 0) rfl, ?_⟩))
  refine ⟨fun i Γ => ∃ x2 x3 x4, Γ = [.res (m.R K), .res (ownL a ((m.D.hues.zipIdx.take i).map fun p => hueMD m.code p.2 p.1)), x2, x3, x4, .no, .no], ⟨_, _, _, rfl⟩, ?_, ?_, ?_⟩
  · rintro i Γ hi ⟨x2, x3, x4, rfl⟩
    exact has_hues (j := 0) rfl
  · rintro i Γ s hs ⟨x2, x3, x4, rfl⟩
    have hi : i < m.hues.length := by
      have := (List.getElem?_eq_some_iff.mp hs).1
      rwa [List.length_map] at this
    obtain ⟨h, hhu⟩ := hue_at hi
    have e : s = .raw (.ref h.x) := by
      rw [List.getElem?_map, hhu] at hs
      exact (Option.some.inj hs).symm
    subst e
    have hzi : m.D.hues.zipIdx[i]? = some (h.d, i) := by
      rw [List.getElem?_zipIdx]
      show ((m.hues.map (·.d))[i]?).map _ = _
      rw [List.getElem?_map, hhu]
      simp
    have htk : m.D.hues.zipIdx.take (i + 1) = m.D.hues.zipIdx.take i ++ [(h.d, i)] := by
      rw [List.take_succ_eq_append_getElem (by rw [hzl]; exact hi), (List.getElem?_eq_some_iff.mp hzi).2]
    show ExS K _ [.res (m.R K), .res (ownL a ((m.D.hues.zipIdx.take i).map fun p => hueMD m.code p.2 p.1)), .dat (.int (i : Nat)), .raw (.ref h.x), x4, .no, .no] _
    refine x_seq (x_asg (e_cb (a_cons (e_lc (sets_tup (setsL_cons gm_name (sets_name (by simp)) (setsL_cons gm_name (sets_name (by simp)) setsL_nil))) (gm_tup (gm_cons gm_name (gm_cons gm_name gm_nil))) (i_sq (e_call ?_))))))
    repeat' walk_at "d1"
    refine u_own_cells hk.code ⟨_, _, rfl, rfl, fun hz => ?_⟩
    generalize hds : m.code.cells.zipIdx.filterMap (ownP (i : Int)) = ds at hz
    refine ⟨fun n acc Γ => acc = (ds.take n).map (owG h.d.chg) ∧ Γ = [.res (m.R K), .res (ownL a ((m.D.hues.zipIdx.take i).map fun p => hueMD m.code p.2 p.1)), .dat (.int (i : Nat)), .raw (.ref h.x), x4, .no, .no], hz, ⟨rfl, rfl⟩, fun _ _ _ _ _ => trivial, ?_, ?_⟩
    · rintro n acc Γ hn hal ⟨rfl, hΓ⟩
      rw [hΓ]
      obtain ⟨d, hd⟩ : ∃ d, ds[n]? = some d := ⟨_, List.getElem?_eq_getElem hn⟩
      have hgd : ds.getD n .none = d := by rw [List.getD_eq_getElem?_getD, hd]; rfl
      obtain ⟨at_, g, j, rfl⟩ : ∃ (at_ : Nat) (g : Int) (j : Ins), d = .tuple [.int at_, insD g j] := by
        have hm := List.mem_of_getElem? hd
        rw [← hds] at hm
        obtain ⟨p, _, hp⟩ := List.mem_filterMap.mp hm
        obtain ⟨x, q⟩ := p
        cases x with
        | ins g j =>
          by_cases e : g = (i : Int)
          · simp [ownP, e] at hp
            exact ⟨q, (i : Int), j, hp.symm⟩
          · simp [ownP, e] at hp
        | _ => simp [ownP] at hp
      have ht2 : ds.take (n + 1) = ds.take n ++ [.tuple [.int at_, insD g j]] := by
        rw [List.take_succ_eq_append_getElem hn, (List.getElem?_eq_some_iff.mp hd).2]
      show EvG K _ (.dat (ds.getD n .none)) _ _
      rw [hgd]
      refine g_tup rfl (gs_cons (g_name (gs_cons (g_name (gs_nil (b_yes ⟨fun _ => ?_, (fun z => by cases z)⟩))))))
      refine e_dget2I 0 (lsAt m i 2) (h_field T (j := 0) (i := i) (v := 3) (q := 4) rfl hhu rfl T.na_HueState_m_changed rfl rfl ?_)
      refine ⟨_, rfl, ⟨_, _, _, rfl, at_chg hhu⟩, e_dat rfl ⟨at_, rfl, e_dat rfl ⟨_, _, _, insD g j, rfl, at_chg hhu, rfl, _, rfl, ?_, rfl⟩⟩⟩
      rw [ht2, List.map_append]
      rfl
    · rintro acc Γ hal ⟨rfl, hΓ⟩
      rw [hΓ, List.take_length]
      refine a_nil (cb_tuple rfl (g_name ?_))
      rw [← hds, owns_eq]
      refine x_expr (e_append 1 (e_res rfl ⟨a, rfl, ⟨_, rfl⟩, ?_⟩))
      refine EvA.one (e_tup ?_)
      refine a_cons (e_cb (a_cons (h_field T (j := 0) (i := i) (v := 3) (q := 0) rfl hhu rfl T.na_HueState_m_registers rfl rfl (a_nil (cb_tupleC (has_regs (j := 0) rfl hhu) ?_)))))
      refine a_cons (e_cb (a_cons (h_field T (j := 0) (i := i) (v := 3) (q := 1) rfl hhu rfl T.na_HueState_m_bank rfl rfl (a_nil (cb_tupleC (has_bank (j := 0) rfl hhu) ?_)))))
      refine a_cons (h_field T (j := 0) (i := i) (v := 3) (q := 2) rfl hhu rfl T.na_HueState_m_pointer rfl rfl ?_)
      refine a_cons (h_field T (j := 0) (i := i) (v := 3) (q := 3) rfl hhu rfl T.na_HueState_m_slot rfl rfl ?_)
      refine a_cons (e_dat rfl (a_nil ⟨[.tuple (iL h.d.regs), .tuple (iL h.d.bank), .int h.d.ptr, optD h.d.slot, .tuple (ownsD m.code i h.d)], rfl, by show 5 ≤ sizeLine; decide, ?_⟩))
      refine ⟨_, _, rfl, rfl, ?_, .dat (.int (i : Nat)), .raw (.ref h.x), .dat (.tuple (ownsD m.code i h.d)), ?_⟩
      · rw [List.length_map, List.length_take]
        exact Nat.lt_of_le_of_lt (Nat.min_le_right _ _) (by rw [hzl, hl]; exact Nat.lt_of_le_of_lt hv.2.1 (by decide))
      · rw [htk, List.map_append]
        rfl
  · rintro Γ ⟨x2, x3, x4, rfl⟩
    rw [List.length_map, ← hzl, List.take_length]
    show ExS K (tRet _) _ _
    refine x_ret (e_tup ?_)
    refine a_cons (e_cb (a_cons (e_res rfl (a_nil (cb_tupleC (HasL.o 1 rfl) ?_)))))
    refine a_cons (e_tup ?_)
    refine a_cons (f_state T (j := 0) rfl ?_)
    refine a_cons (e_cb (a_cons (f_left T (j := 0) rfl (a_nil (cb_tupleC (has_left (j := 0) rfl) ?_)))))
    refine a_nil ⟨[.str (stS m.state), .tuple (iL m.left)], rfl, by show 2 ≤ sizeLine; decide, ?_⟩
    refine a_nil ⟨[.tuple (m.D.hues.zipIdx.map fun p => hueMD m.code p.2 p.1), .tuple [.str (stS m.state), .tuple (iL m.left)]], rfl, by show 2 ≤ sizeLine; decide, ?_⟩
    exact ⟨_, hh, .res rfl .nil⟩
theorem u_Machine_moment {m : Mach} {k : Sl → List Sl → Prop} (hk : m.D.Ok) (hh : k (.dat m.D.moment) [.res (m.R K)]) : F_Machine_moment K [.res (m.R K)] k := ⟨m, hk, rfl, hh⟩
end
end Hw
namespace Hw
open PySem PySem.Spec PyProof.Rows L2 Dl
local macro_rules | `(tactic| walk_at "dbt") => `(tactic| first | assumption | rfl | (decide +kernel) | (simp [isFromD, *]; done) | (simp [isFromD, *]; omega))
local macro_rules | `(tactic| walk_at "d1") => `(tactic| first
  | with_reducible refine x_seq ?_ | with_reducible refine x_if' ?_ | with_reducible refine x_ret ?_ | with_reducible refine x_asg ?_ | with_reducible refine x_next ?_ | with_reducible refine x_expr ?_
  | with_reducible refine e_isi2 (by decide) (by decide) ?_
  | with_reducible refine e_dat rfl ?_ | with_reducible refine e_int ?_ | with_reducible refine e_str ?_ | with_reducible refine e_bl ?_ | with_reducible refine e_non ?_ | with_reducible refine e_op ?_ | with_reducible refine e_cb ?_ | with_reducible refine e_call ?_
  | with_reducible refine a_cons ?_ | with_reducible refine a_nil ?_
  | with_reducible refine b_test ?_ | with_reducible refine b_not ?_ | with_reducible refine b_and' ?_ | with_reducible refine b_or' ?_ | with_reducible refine b_tru ?_
  | with_reducible refine e_andV' ?_ | with_reducible refine e_orV' ?_ | with_reducible refine e_notV ?_ | with_reducible refine e_chain' ?_ | with_reducible refine e_if' ?_ | with_reducible refine e_c ?_ | with_reducible refine e_sl ?_ | with_reducible refine o_no ?_ | with_reducible refine o_some ?_ | with_reducible refine e_neg ?_
  | with_reducible refine e_raw rfl ?_ | with_reducible refine e_res rfl ?_ | with_reducible refine g_name ?_
  | with_reducible refine op_add_i ?_ | with_reducible refine op_sub_i ?_ | with_reducible refine op_lt_i ?_ | with_reducible refine op_le_i ?_ | with_reducible refine op_gt_i ?_ | with_reducible refine op_ge_i ?_ | with_reducible refine op_isnone ?_ | with_reducible refine op_notnone ?_
  | with_reducible refine cb_isi (by decide) ?_ | with_reducible refine cb_max2 ?_ | with_reducible refine cb_min2 ?_ | with_reducible refine cb_abs ?_ | with_reducible refine cb_int ?_ | with_reducible refine cb_len rfl ?_
  | with_reducible refine iteT ?_ | with_reducible refine iteF ?_ | ((with_reducible refine iT ?_ ?_); focus (walk_at "dbt"; done)) | ((with_reducible refine iF ?_ ?_); focus (walk_at "dbt"; done))
  | ((with_reducible refine g_tup ?_ ?_); (focus rfl)) | with_reducible refine gs_cons ?_ | with_reducible refine gs_nil ?_
  | with_reducible refine e_tup' ?_ | with_reducible refine e_lst' ?_ | with_reducible refine op_in2 ?_ | with_reducible refine op_ni3 ?_
  | with_reducible refine op_eq_ii ?_ | with_reducible refine op_ne_ii ?_ | ((with_reducible refine op_eq_ss ?_ ?_ ?_); (focus (decide +kernel)); (focus (decide +kernel))) | ((with_reducible refine op_ne_ss ?_ ?_ ?_); (focus (decide +kernel)); (focus (decide +kernel)))
  | ((with_reducible refine op_eq_d ?_ ?_ ?_); (focus (walk_at "dbt")); (focus (walk_at "dbt")))
  | ((with_reducible refine op_ne_d ?_ ?_ ?_); (focus (walk_at "dbt")); (focus (walk_at "dbt")))
  | ((with_reducible refine op_ix' ?_); refine Exists.intro _ (Exists.intro _ (And.intro rfl (And.intro rfl ?_))))
  | ((with_reducible refine op_mul_il ?_ ?_); (focus (decide +kernel))) | ((with_reducible refine op_mul_ir ?_ ?_); (focus (decide +kernel)))
  | ((with_reducible refine And.intro (a := smallL _ = true) ?_ ?_); (focus rfl)) | ((with_reducible refine And.intro (a := Pers _) ?_ ?_); (focus trivial)) | with_reducible refine d_cons ?_ | with_reducible refine d_nil ?_
  | (with_reducible refine Exists.intro _ (And.intro rfl ?_)) | (with_reducible refine Exists.intro _ (Exists.intro _ (And.intro rfl (And.intro rfl ?_)))) | refine Exists.intro _ (And.intro rfl (And.intro (by rfl) ?_)) | refine Exists.intro _ (Exists.intro _ (And.intro rfl (And.intro rfl ?_))) | with_reducible refine dat_ok ?_ | dsimp only | fail)
local macro_rules | `(tactic| walk_at "d1") => `(tactic| first | with_reducible refine f_code (by assumption) rfl ?_ | with_reducible refine f_hues (by assumption) rfl ?_ | with_reducible refine e_callR ?_)
section
variable {K : Frag} {Γ : List Sl} {k : Sl → List Sl → Prop} {O : Out}
theorem op_isnoneR {a : Addr} (hk : k (.dat (.bool false)) Γ) : OpK K (uIs K) (.raw (.ref a)) (.dat .none) Γ k := by
  intro σ S H f1 f2 fs x y Q w P
  obtain ⟨e0, e1⟩ := w.hd
  obtain ⟨e2, y', e3, hy⟩ := w.tl.hd
  subst e0 e2
  cases e1; cases e3; cases hy
  exact .inl ⟨rfl, (Post.drop2 P).dat w.tl.tl hk (.bl _)⟩
def tupC (tp : List (Addr × Hue)) : List (Addr × Cell) := tp.map fun q => (q.1, .tup [.raw (.ref q.2.r), .raw (.ref q.2.b)])
theorem markE (T : MT K) {m : Mach} {p : Int} {s2 : Sl} {O : Out} {t : TS} (hk : m.D.Ok)
    (h : ∀ (D : Addr) (tp : List (Addr × Hue)), tp.map (·.2) = m.hues → ExS K t [.res (star (.ref m.a) ((m.cs K ++ tupC tp) ++ [(D, .lst (tp.map fun q => .raw (.ref q.1)))])), .dat (.int p), s2, .raw (.ref D), .no, .no, .no, .no] O) :
    ExS K (tSeq (tAsg (tLc (iSq K (tFld K (tVar 0) (PySem.Str.ofString "m_hues"))) (gName 5) tYes (tTup (tCons (tFld K (tVar 5) (PySem.Str.ofString "m_registers")) (tCons (tFld K (tVar 5) (PySem.Str.ofString "m_bank")) tNil))) [5]) (gName 3)) t)
      [.res (m.R K), .dat (.int p), s2, .no, .no, .no, .no, .no] O := by
  have hl := m_len hk
  have hv : votesOk m.code.votes := hk.code.votes
  refine x_seq (x_asg (e_absorb 0 (e_lcS (sets_name (by simp)) gm_name (i_sqC (f_hues T (j := 0) rfl ⟨_, _, rfl, has_hues (j := 0) rfl, fun hz => ?_⟩)))))
  rw [List.length_map]
  refine ⟨fun i acc Γ => ∃ tp : List (Addr × Hue), tp.map (·.2) = m.hues.take i ∧ acc = tp.map (fun q => .raw (.ref q.1)) ∧ Γ = [.res (star (.ref m.a) (m.cs K ++ tupC tp)), .dat (.int p), s2, .no, .no, .no, .no, .no], Nat.le_trans (by rw [hl]; exact hv.2.1 : m.hues.length ≤ 5) (by decide), ⟨[], rfl, rfl, by simp [tupC, Mach.R, wipeA]⟩, ?_, ?_, ?_⟩
  · rintro i acc Γ hi ⟨tp, _, _, hΓ⟩
    rw [hΓ]
    exact .s 0 1 rfl rfl
  · rintro i acc Γ hi hal ⟨tp, htp, rfl, hΓ⟩
    rw [hΓ]
    obtain ⟨g, hg⟩ := hue_at hi
    have hci : (m.cs K ++ tupC tp)[5 + i]? = some (g.ic K) := by
      have := cs_ic (K := K) hg
      rw [List.getElem?_append_left (List.getElem?_eq_some_iff.mp this).1]
      exact this
    show EvG K (gName 5) ((m.hues.map fun h => Sl.raw (.ref h.x)).getD i .no) _ _
    rw [hue_sl hg]
    refine g_name (b_yes ⟨fun _ => ?_, (fun z => by cases z)⟩)
    refine e_absorb 0 (e_tupS ?_)
    refine a_cons (e_fld 0 (5 + i) 0 (e_raw rfl ⟨g.x, _, _, _, _, _, _, rfl, rfl, hci, T.k_HueState, T.na_HueState_m_registers, rfl, rfl, ?_⟩))
    refine a_cons (e_fld 0 (5 + i) 1 (e_raw rfl ⟨g.x, _, _, _, _, _, _, rfl, rfl, hci, T.k_HueState, T.na_HueState_m_bank, rfl, rfl, ?_⟩))
    refine a_nil ⟨?_, by show 2 ≤ sizeLine; decide, fun q => ?_⟩
    · intro s hs
      simp only [List.mem_cons, List.not_mem_nil, or_false] at hs
      rcases hs with rfl | rfl <;> trivial
    refine ⟨_, _, _, _, rfl, cells_star, rfl, trivial, tp ++ [(q, g)], ?_, ?_, ?_⟩
    · rw [List.map_append, htp, List.take_succ_eq_append_getElem hi, (List.getElem?_eq_some_iff.mp hg).2]
      rfl
    · rw [List.map_append]
      rfl
    · simp only [tupC, List.map_append, List.append_assoc]
      rfl
  · rintro acc Γ hal ⟨tp, htp, rfl, hΓ⟩ D
    rw [hΓ]
    rw [List.take_length] at htp
    exact ⟨_, _, _, _, rfl, cells_star, rfl, g_name (h D tp htp)⟩
def mixC (K : Frag) (m : Mach) (hs : List Hue) : List (Addr × Cell) := (m.top K ++ ((hs.map (Hue.ic K) ++ (m.hues.drop hs.length).map (Hue.ic K)) ++ m.hues.flatMap Hue.ls)) ++ hs.flatMap Hue.ls
theorem mix_ic {m : Mach} {hs : List Hue} {g : Hue} (e : m.hues[hs.length]? = some g) : (mixC K m hs)[5 + hs.length]? = some (g.ic K) := by
  have hl : hs.length < m.hues.length := (List.getElem?_eq_some_iff.mp e).1
  unfold mixC
  rw [List.getElem?_append_left (by simp [Mach.top]; omega), List.getElem?_append_right (by show 5 ≤ _; omega), show 5 + hs.length - (m.top K).length = hs.length by show 5 + hs.length - 5 = _; omega]
  rw [List.getElem?_append_left (by simp; omega), List.getElem?_append_right (by simp), List.length_map, Nat.sub_self, List.getElem?_map, List.getElem?_drop, Nat.add_zero, e]
  rfl
theorem mix_set {m : Mach} {hs : List Hue} {g g' : Hue} (e : m.hues[hs.length]? = some g) : ((mixC K m hs ++ g'.ls).set (5 + hs.length) (g'.ic K)) = mixC K m (hs ++ [g']) := by
  have hl : hs.length < m.hues.length := (List.getElem?_eq_some_iff.mp e).1
  unfold mixC
  rw [List.append_assoc, List.set_append_left _ _ (by simp [Mach.top]; omega), List.set_append_right _ _ (by show 5 ≤ _; omega), show 5 + hs.length - (m.top K).length = hs.length by show 5 + hs.length - 5 = _; omega]
  rw [List.set_append_left _ _ (by simp; omega), List.set_append_right _ _ (by simp), List.length_map, Nat.sub_self, List.drop_eq_getElem_cons hl, List.map_cons, List.set_cons_zero, List.flatMap_append, List.map_append, List.length_append]
  simp
def markHu (q : Pair) (h : Hue) (r b c : Addr) : Hue := ⟨h.x, r, b, c, markH q h.d⟩
theorem mark_loop (T : MT K) {m : Mach} {p : Int} {s2 s3 s4 : Sl} {q : Pair} {O : Out} (h5 : m.hues.length ≤ 5)
    (h : ∀ (hs : List Hue) s5, hs.length = m.hues.length → hs.map (·.x) = m.hues.map (·.x) → hs.map (·.d) = m.hues.map (fun g => markH q g.d) → O.nx [.res (star (.ref m.a) (mixC K m hs)), .dat (.int p), s2, s3, s4, s5, .dat (.list (iL q.1)), .dat (.list (iL q.2))]) :
    ExS K (tFor (iSq K (tFld K (tVar 0) (PySem.Str.ofString "m_hues"))) (gName 5) (tAsg (tTup (tCons (tCB (rListU K) (tCons (tVar 6) tNil)) (tCons (tCB (rListU K) (tCons (tVar 7) tNil)) (tCons (tDNewK) tNil)))) (gTup K 3 (gCons (gFld K (tVar 5) (PySem.Str.ofString "m_registers")) (gCons (gFld K (tVar 5) (PySem.Str.ofString "m_bank")) (gCons (gFld K (tVar 5) (PySem.Str.ofString "m_changed")) gNil))))))
      [.res (m.R K), .dat (.int p), s2, s3, s4, .no, .dat (.list (iL q.1)), .dat (.list (iL q.2))] O := by
  refine x_for (i_sqC (f_hues T (j := 0) rfl ⟨_, _, rfl, has_hues (j := 0) rfl, fun hz => ?_⟩))
  rw [List.length_map]
  refine ⟨fun i Γ => ∃ (hs : List Hue) (s5 : Sl), hs.length = i ∧ hs.map (·.x) = (m.hues.take i).map (·.x) ∧ hs.map (·.d) = (m.hues.take i).map (fun g => markH q g.d) ∧ Γ = [.res (star (.ref m.a) (mixC K m hs)), .dat (.int p), s2, s3, s4, s5, .dat (.list (iL q.1)), .dat (.list (iL q.2))],
    ⟨[], .no, rfl, rfl, rfl, by simp [mixC, Mach.R, Mach.cs]⟩, ?_, ?_, ?_⟩
  · rintro i Γ hi ⟨hs, s5, _, _, _, rfl⟩
    exact .s 0 1 rfl rfl
  · rintro i Γ hi ⟨hs, s5, rfl, hx, hd, rfl⟩
    obtain ⟨g, hg⟩ := hue_at hi
    have ht : m.hues.take (hs.length + 1) = m.hues.take hs.length ++ [g] := by
      rw [List.take_succ_eq_append_getElem hi, (List.getElem?_eq_some_iff.mp hg).2]
    show EvG K (gName 5) ((m.hues.map fun h => Sl.raw (.ref h.x)).getD hs.length .no) _ _
    rw [hue_sl hg]
    refine g_name (x_asg (e_tupS ?_))
    refine a_cons (e_absorb 0 (e_cb (a_cons (e_dat rfl (a_nil (cb_listO rfl fun r => ⟨_, _, mixC K m hs, _, rfl, cells_own, rfl, ?_⟩))))))
    refine a_cons (e_absorb 0 (e_cb (a_cons (e_dat rfl (a_nil (cb_listO rfl fun b => ⟨_, _, _, _, rfl, cells_own, rfl, ?_⟩))))))
    refine a_cons (e_absorb 0 (e_dnewI fun c => ⟨_, _, _, _, rfl, cells_star, rfl, ?_⟩))
    refine a_nil ⟨?_, by show 3 ≤ sizeLine; decide, fun tp => ?_⟩
    · intro s hs
      simp only [List.mem_cons, List.not_mem_nil, or_false] at hs
      rcases hs with rfl | rfl | rfl <;> trivial
    have hic : (((mixC K m hs ++ [(r, Cell.lst ((iL q.1).map .dat))]) ++ [(b, Cell.lst ((iL q.2).map .dat))]) ++ [(c, Cell.dI [])])[5 + hs.length]? = some (g.ic K) := by
      have e := mix_ic (K := K) hg
      have hl := (List.getElem?_eq_some_iff.mp e).1
      rw [List.append_assoc, List.append_assoc, List.getElem?_append_left hl]
      exact e
    have hlt := (List.getElem?_eq_some_iff.mp hic).1
    refine g_tupS rfl (gt_cons (g_fldC 0 (5 + hs.length) 0 trivial (e_raw rfl ⟨g.x, _, _, _, _, g.fs, rfl, rfl, hic, T.k_HueState, T.na_HueState_m_registers, rfl, by decide, ?_⟩)))
    refine gt_cons (g_fldC 0 (5 + hs.length) 1 trivial (e_raw rfl ⟨g.x, _, _, _, _, _, rfl, rfl, List.getElem?_set_self hlt, T.k_HueState, T.na_HueState_m_bank, rfl, by decide, ?_⟩))
    refine gt_cons (g_fldC 0 (5 + hs.length) 4 trivial (e_raw rfl ⟨g.x, _, _, _, _, _, rfl, rfl, List.getElem?_set_self (by rw [List.length_set]; exact hlt), T.k_HueState, T.na_HueState_m_changed, rfl, by decide, ?_⟩))
    refine gt_nil ⟨hs ++ [markHu q g r b c], .raw (.ref g.x), by simp, ?_, ?_, ?_⟩
    · rw [ht, List.map_append, List.map_append, hx]
      rfl
    · rw [ht, List.map_append, List.map_append, hd]
      rfl
    · rw [← mix_set (g' := markHu q g r b c) hg]
      simp only [List.set_set, List.set_cons_zero, List.append_assoc]
      rfl
  · rintro Γ ⟨hs, s5, hlen, hx, hd, rfl⟩
    rw [List.take_length] at hx hd
    exact h hs s5 hlen hx hd
theorem mix_perm {m : Mach} {hs : List Hue} (hl : hs.length = m.hues.length) (hx : hs.map (·.x) = m.hues.map (·.x)) : (mixC K m hs).Perm (({ m with hues := hs } : Mach).cs K ++ m.hues.flatMap Hue.ls) := by
  have et : ({ m with hues := hs } : Mach).top K = m.top K := by
    have ex : (hs.map fun h => Sl.raw (.ref h.x)) = m.hues.map fun h => Sl.raw (.ref h.x) := by
      have := congrArg (List.map fun x => Sl.raw (.ref x)) hx
      rw [List.map_map, List.map_map] at this
      exact this
    unfold Mach.top
    simp only [ex]
    rfl
  unfold mixC Mach.cs
  rw [et, hl, List.drop_length, List.map_nil, List.append_nil]
  show (m.top K ++ (hs.map (Hue.ic K) ++ m.hues.flatMap Hue.ls) ++ hs.flatMap Hue.ls).Perm ((m.top K ++ (hs.map (Hue.ic K) ++ hs.flatMap Hue.ls)) ++ m.hues.flatMap Hue.ls)
  rw [List.append_assoc (m.top K), List.append_assoc (m.top K)]
  refine List.Perm.append_left _ ?_
  rw [List.append_assoc (hs.map _), List.append_assoc (hs.map _)]
  exact List.Perm.append_left _ List.perm_append_comm
theorem b_mark_done (T : MT K) : ∀ args k, F_mark_done K args k → ExS K (t_mark_done K) (args ++ List.replicate (8 - args.length) .no) (fnOut args k) := by
  rintro args k ⟨m, p, hk, rfl, h⟩
  have hl := m_len hk
  have hv : votesOk m.code.votes := hk.code.votes
  have l0 : (iL m.code.votes).length = m.code.votes.length := iL_len
  show ExS K _ [.res (m.R K), .dat (.int (p + 1)), .no, .no, .no, .no, .no, .no] _
  unfold t_mark_done
  refine x_seq (x_asg (e_op (f_code T (j := 0) rfl (e_int (op_ix_d (d' := .tuple (iL m.code.votes)) rfl atI_zero (g_name ?_))))))
  refine markE T hk fun D tp htp => ?_
  generalize hΘ : (m.cs K ++ tupC tp) ++ [(D, Cell.lst (tp.map fun q => .raw (.ref q.1)))] = Θ
  have htl : tp.length = m.hues.length := by rw [← htp, List.length_map]
  have hprs : (tp.map fun q => (q.1, ((q.2.d.regs, q.2.d.bank) : Pair))).map (·.2) = m.D.hues.map fun h => (h.regs, h.bank) := by
    show _ = (m.hues.map (·.d)).map _
    rw [← htp, List.map_map, List.map_map, List.map_map]
    rfl
  have hD0 : Θ[(m.cs K ++ tupC tp).length]? = some (D, .lst ((tp.map fun q => (q.1, ((q.2.d.regs, q.2.d.bank) : Pair))).map fun q => .raw (.ref q.1))) := by
    rw [← hΘ, List.getElem?_append_right (Nat.le_refl _), Nat.sub_self, List.map_map]
    rfl
  have hpi : ∀ (i : Nat) (q : Addr × Hue), tp[i]? = some q → ∃ n1 n2 n3 : Nat, Θ[n1]? = some (q.1, Cell.tup [.raw (.ref q.2.r), .raw (.ref q.2.b)]) ∧ Θ[n2]? = some (q.2.r, Cell.lst ((iL q.2.d.regs).map .dat)) ∧ Θ[n3]? = some (q.2.b, Cell.lst ((iL q.2.d.bank).map .dat)) := fun i q hq => by
    have hg : m.hues[i]? = some q.2 := by rw [← htp, List.getElem?_map, hq]; rfl
    have c1 := cs_ls (K := K) (q := 0) hg (by decide)
    have c2 := cs_ls (K := K) (q := 1) hg (by decide)
    have c0 : (tupC tp)[i]? = some (q.1, .tup [.raw (.ref q.2.r), .raw (.ref q.2.b)]) := by
      unfold tupC
      rw [List.getElem?_map, hq]
      rfl
    have c1 : (m.cs K)[lsAt m i 0]? = some (q.2.r, .lst ((iL q.2.d.regs).map .dat)) := c1
    have c2 : (m.cs K)[lsAt m i 1]? = some (q.2.b, .lst ((iL q.2.d.bank).map .dat)) := c2
    refine ⟨(m.cs K).length + i, lsAt m i 0, lsAt m i 1, ?_, ?_, ?_⟩
    · rw [← hΘ, List.append_assoc, List.getElem?_append_right (by omega), Nat.add_sub_cancel_left, List.getElem?_append_left (List.getElem?_eq_some_iff.mp c0).1]
      exact c0
    · rw [← hΘ, List.append_assoc, List.getElem?_append_left (List.getElem?_eq_some_iff.mp c1).1]
      exact c1
    · rw [← hΘ, List.append_assoc, List.getElem?_append_left (List.getElem?_eq_some_iff.mp c2).1]
      exact c2
  have hsub : Θ.Perm (m.cs K ++ (tupC tp ++ [(D, Cell.lst (tp.map fun q => .raw (.ref q.1)))])) := by rw [← hΘ, List.append_assoc]
  refine x_seq (x_asg (e_callP 0 0 ?_))
  repeat' walk_at "d1"
  rw [l0]
  refine op_ix_d rfl (votes_at (c := m.code) hk.code (w := (m.code.votes.length : Int)) (by have := hv.1; omega) (by omega)) (a_nil ⟨star (.ref m.a) Θ, .ref D, rfl, rfl, .inr ⟨D, Θ, _, _, _, ?_, ?_, hD0, ?_, rfl, ?_, ?_⟩⟩)
  · intro e
    have : tp.length = 0 := by
      have := congrArg List.length e
      simpa using this
    have := hv.1
    omega
  · rw [List.length_map, htl, hl]
    exact hv.2.1
  · intro q hq
    obtain ⟨z, hz, rfl⟩ := List.mem_map.mp hq
    obtain ⟨i, hi⟩ := List.getElem?_of_mem hz
    obtain ⟨n1, n2, n3, e1, e2, e3⟩ := hpi i z hi
    exact ⟨_, _, n1, n2, n3, e1, e2, e3⟩
  · intro hno
    rw [hprs, Int.toNat_natCast] at hno
    refine ⟨star (.ref D) Θ, rfl, rfl, g_name ?_⟩
    refine x_seq (x_if' (b_test (e_op (e_dat rfl (e_non (op_isnone ⟨_, rfl, iteT ?_⟩))))))
    show ExS K _ [.res (star (.ref m.a) Θ), .dat (.int (p + 1)), .dat (.tuple (iL m.code.votes)), .raw (.ref D), .dat .none, .no, .no, .no] _
    refine x_sub 0 rfl hsub ?_
    refine x_seq (x_state T (j := 0) .caught (e_str ⟨m, rfl, rfl, x_retN ⟨_, h ({ m with state := .caught } : Mach) rfl ?_, .res rfl (.dat .nil)⟩⟩))
    have e : agreedP (m.D.hues.map fun h => (h.regs, h.bank)) m.D.need = none := hno
    simp only [MD.settle, e]
    rfl
  · intro q hq hyes
    rw [hprs, Int.toNat_natCast] at hyes
    obtain ⟨z, hz, rfl⟩ := List.mem_map.mp hq
    obtain ⟨i, hi⟩ := List.getElem?_of_mem hz
    obtain ⟨n1, n2, n3, e1, e2, e3⟩ := hpi i z hi
    refine ⟨star (.ref D) Θ, rfl, rfl, g_name ?_⟩
    refine x_seq (x_if' (b_test (e_op (e_raw rfl (e_non (op_isnoneR ⟨_, rfl, iteF (x_next ?_)⟩))))))
    show ExS K _ [.res (star (.ref m.a) Θ), .dat (.int (p + 1)), .dat (.tuple (iL m.code.votes)), .raw (.ref D), .raw (.ref z.1), .no, .no, .no] _
    refine x_seq (x_par (by decide) ?_)
    refine a_cons (e_cb (a_cons (e_op (e_raw rfl (e_int (op_ixT (u := .raw (.ref z.2.r)) (.s 0 n1 rfl e1) atI_zero (a_nil (cb_listC (.s 0 n2 rfl e2) ?_))))))))
    refine a_cons (e_cb (a_cons (e_op (e_raw rfl (e_int (op_ixT (u := .raw (.ref z.2.b)) (.s 0 n1 rfl e1) rfl (a_nil (cb_listC (.s 0 n3 rfl e3) ?_))))))))
    refine a_nil ⟨_, _, rfl, g_name (g_name ?_)⟩
    show ExS K _ [.res (star (.ref m.a) Θ), .dat (.int (p + 1)), .dat (.tuple (iL m.code.votes)), .raw (.ref D), .raw (.ref z.1), .no, .dat (.list (iL z.2.d.regs)), .dat (.list (iL z.2.d.bank))] _
    refine x_sub 0 rfl hsub ?_
    refine x_seq (mark_loop T (q := (z.2.d.regs, z.2.d.bank)) (by rw [hl]; exact hv.2.1) fun hs s5 hsl hsx hsd => ?_)
    show ExS K _ [.res (star (.ref m.a) (mixC K m hs)), .dat (.int (p + 1)), .dat (.tuple (iL m.code.votes)), .raw (.ref D), .raw (.ref z.1), s5, .dat (.list (iL z.2.d.regs)), .dat (.list (iL z.2.d.bank))] _
    refine x_sub 0 rfl (mix_perm hsl hsx) ?_
    show ExS K _ [.res (({ m with hues := hs } : Mach).R K), .dat (.int (p + 1)), .dat (.tuple (iL m.code.votes)), .raw (.ref D), .raw (.ref z.1), s5, .dat (.list (iL z.2.d.regs)), .dat (.list (iL z.2.d.bank))] _
    repeat' walk_at "d1"
    refine u_point_all (m := { m with hues := hs }) ⟨_, rfl, rfl, rfl, ?_⟩
    repeat' walk_at "d1"
    refine u_empty_slots ⟨_, rfl, rfl, rfl, ?_⟩
    refine ⟨_, h (({ m with hues := hs } : Mach).point (p + 1)).empty rfl ?_, .res rfl (.dat .nil)⟩
    have e : agreedP (m.D.hues.map fun h => (h.regs, h.bank)) m.D.need = some (z.2.d.regs, z.2.d.bank) := hyes
    simp only [MD.settle, e]
    rw [empty_D, point_D]
    congr 2
    unfold Mach.D
    congr 1
    show hs.map (·.d) = (m.hues.map (·.d)).map _
    rw [hsd, List.map_map]
    rfl
end
end Hw
namespace Hw
open PySem PySem.Spec PyProof.Rows L2 Dl
def lN : List Str := ["great", "cells", "rest", "turn"]
def pst (a g : Addr) (gr cs : List Int) (rest turn : Int) : Res := star (.ref a) [(g, .lst ((iL gr).map .dat)), (a, .dS lN [.raw (.ref g), .dat (.list (iL cs)), .dat (.int rest), .dat (.int turn)])]
def PS (t : Nat) (r : Res) : Prop := ∃ a g gr cs rest turn, r = pst a g gr cs rest turn ∧ 0 ≤ turn ∧ turn ≤ t ∧ cs.length ≤ 63
def F__law_begun (K : Frag) : FSpec := fun args k => ∃ (ns : List Int) (s : Sl), ns.length ≤ 63 ∧ Scr K ns s ∧ args = [s] ∧ ∀ r, PS 0 r → k (.res r) args
def F__law_mixed (_ : Frag) : FSpec := fun args k => ∃ a g gr cs rest turn, (0 ≤ turn ∧ turn < 2000000) ∧ args = [.res (pst a g gr cs rest turn)] ∧ ∀ n : Int, k (.dat (.int n)) [.res (pst a g gr cs rest (turn + 1))]
def F__law_draw (_ : Frag) : FSpec := fun args k => ∃ (r : Res) (t : Nat) (room : Int), PS t r ∧ t < 1000000 ∧ (0 < room ∧ room < 1073741824) ∧ args = [.res r, .dat (.int room)] ∧ ∀ (n : Int) r', r'.v = r.v → PS (t + 1) r' → 0 ≤ n → n < room → k (.dat (.int n)) [.res r', .dat (.int room)]
def F__law_pick (_ : Frag) : FSpec := fun args k => ∃ (r : Res) (t : Nat) (ds : List PyData), PS t r ∧ t < 1000000 ∧ (0 < ds.length ∧ ds.length < 1000) ∧ args = [.res r, .dat (.list ds)] ∧ ∀ d r', r'.v = r.v → PS (t + 1) r' → d ∈ ds → k (.dat d) [.res r', .dat (.list ds)]
def F__law_size (_ : Frag) : FSpec := fun args k => ∃ (r : Res) (t : Nat), PS t r ∧ t < 1000000 ∧ args = [.res r] ∧ ∀ (n : Int) r', r'.v = r.v → PS (t + 1) r' → 2 ≤ n → n ≤ 10000 → k (.dat (.int n)) [.res r']
def F__law_inputs (_ : Frag) : FSpec := fun args k => ∃ (r : Res) (t : Nat), PS t r ∧ t < 900000 ∧ args = [.res r] ∧ ∀ (ns : List Int) r', r'.v = r.v → PS (t + 10) r' → ns.length ≤ 6 → (∀ n ∈ ns, 0 ≤ n ∧ n ≤ 9999) → k (.dat (.list (iL ns))) [.res r']
def F__law_votes (_ : Frag) : FSpec := fun args k => ∃ (r : Res) (t : Nat), PS t r ∧ t < 900000 ∧ args = [.res r] ∧ ∀ (vs : List Int) r', r'.v = r.v → PS (t + 20) r' → votesOk vs → k (.dat (.tuple (iL vs))) [.res r']
def F__law_number (_ : Frag) : FSpec := fun args k => ∃ (r : Res) (t : Nat) (size : Int), PS t r ∧ t < 900000 ∧ (2 ≤ size ∧ size ≤ 10000) ∧ args = [.res r, .dat (.int size)] ∧ ∀ (n : Int) r', r'.v = r.v → PS (t + 2) r' → 0 ≤ n → n ≤ size - 1 → k (.dat (.int n)) [.res r', .dat (.int size)]
theorem b_yesD {K : Frag} {Γ : List Sl} {kb : Bool → List Sl → Prop} (h : kb true Γ) : EvB K tYes Γ kb := fun σ S H fs Q w P => P true Γ S H fs h w Step.refl
end Hw
namespace Hw
open PySem PySem.Spec PyProof.Rows L2 Dl
def t__law_begun (K : Frag) : TS := (tSeq (tAsg (tLc (iSq K (tVar 0)) (gName 2) (tTest (tOp (uGe K) (tCB (rAbs K) (tCons (tVar 2) tNil)) (tOp (uPow K) (tC (.int 10)) (tC (.int 18))))) (tOp (uSub K) (tCB (rAbs K) (tCons (tVar 2) tNil)) (tOp (uPow K) (tC (.int 10)) (tC (.int 18)))) [2]) (gName 1)) (tRet (tDisp (((tC (.str (PySem.Str.ofString "great"))), (tVar 1)) :: (((tC (.str (PySem.Str.ofString "cells"))), (tLc (iSq K (tVar 0)) (gName 2) tYes (tCB (rAbs K) (tCons (tVar 2) tNil)) [2])) :: (((tC (.str (PySem.Str.ofString "rest"))), (tC (.int 0))) :: (((tC (.str (PySem.Str.ofString "turn"))), (tC (.int 0))) :: [])))))))
theorem n__law_begun {K : Frag} : ∀ args k, F__law_begun K args k → args.length = 1 := by
  intro args k h
  simp only [F__law_begun, pD] at h
  all_goals first
    | (exact False.elim h)
    | (repeat (obtain ⟨_, h⟩ := h)
       subst_vars
       rfl)
def t__law_mixed (K : Frag) : TS := (tSeq (tPar 2 3 (tCons (tOp (uAdd K) (tDGet (tVar 0) (tC (.str (PySem.Str.ofString "turn")))) (tC (.int 1))) (tCons (tC (.int 0)) tNil))) (tSeq (sDPut (tVar 0) (tC (.str (PySem.Str.ofString "turn"))) (tVar 2)) (tSeq (tFor (iSq K (tLst (tCons (tC (.int 2147483629)) (tCons (tC (.int 2147483647)) (tCons (tC (.int 2147483563)) (tCons (tC (.int 2147483587)) tNil)))))) (gName 1) (tSeq (tAsg (tOp (uAdd K) (tOp (uMul K) (tC (.int 69621)) (tVar 2)) (tOp (uFDiv K) (tVar 1) (tC (.int 41)))) (gName 4)) (tSeq (tFor (iSq K (tDGet (tVar 0) (tC (.str (PySem.Str.ofString "cells"))))) (gName 5) (tAsg (tOp (uMod K) (tCB (rInt1 K) (tCons (tOp (uAdd K) (tOp (uAdd K) (tOp (uMul K) (tVar 4) (tC (.int 48271))) (tVar 5)) (tVar 2)) tNil)) (tVar 1)) (gName 4))) (tAsg (tOp (uAdd K) (tOp (uMul K) (tVar 3) (tC (.int 2147483659))) (tOp (uMod K) (tCB (rInt1 K) (tCons (tOp (uPow K) (tVar 4) (tC (.int 5))) tNil)) (tVar 1))) (gName 3))))) (tRet (tVar 3)))))
theorem n__law_mixed {K : Frag} : ∀ args k, F__law_mixed K args k → args.length = 1 := by
  intro args k h
  simp only [F__law_mixed, pD] at h
  all_goals first
    | (exact False.elim h)
    | (repeat (obtain ⟨_, h⟩ := h)
       subst_vars
       rfl)
def t__law_draw (K : Frag) : TS := (tSeq (tIfS (tTest (tOp (uEq K) (tDGet (tVar 0) (tC (.str (PySem.Str.ofString "rest")))) (tC (.int 0)))) (sDPut (tVar 0) (tC (.str (PySem.Str.ofString "rest"))) (tIf (tTest (tOp (uNe K) (tDGet (tVar 0) (tC (.str (PySem.Str.ofString "great")))) (tLst tNil))) (tBM K "list" rPopAt (tDGet (tVar 0) (tC (.str (PySem.Str.ofString "great")))) (tCons (tC (.int 0)) tNil)) (tCallR 0 (spOf K (F__law_mixed K)) E0 (tCons (tVar 0) tNil)))) tNext) (tSeq (tAsg (tOp (uMod K) (tCB (rInt1 K) (tCons (tDGet (tVar 0) (tC (.str (PySem.Str.ofString "rest")))) tNil)) (tVar 1)) (gName 2)) (tSeq (sDPut (tVar 0) (tC (.str (PySem.Str.ofString "rest"))) (tOp (uFDiv K) (tDGet (tVar 0) (tC (.str (PySem.Str.ofString "rest")))) (tVar 1))) (tRet (tVar 2)))))
theorem n__law_draw {K : Frag} : ∀ args k, F__law_draw K args k → args.length = 2 := by
  intro args k h
  simp only [F__law_draw, pD] at h
  all_goals first
    | (exact False.elim h)
    | (repeat (obtain ⟨_, h⟩ := h)
       subst_vars
       rfl)
def t__law_pick (K : Frag) : TS := (tRet (tOp (uIx K) (tVar 1) (tCallR 0 (spOf K (F__law_draw K)) E0 (tCons (tVar 0) (tCons (tCB (Dl.rLen K) (tCons (tVar 1) tNil)) tNil)))))
theorem n__law_pick {K : Frag} : ∀ args k, F__law_pick K args k → args.length = 2 := by
  intro args k h
  simp only [F__law_pick, pD] at h
  all_goals first
    | (exact False.elim h)
    | (repeat (obtain ⟨_, h⟩ := h)
       subst_vars
       rfl)
def t__law_size (K : Frag) : TS := (tRet (tCallR 0 (spOf K (F__law_pick K)) E0 (tCons (tVar 0) (tCons (tLst (tCons (tC (.int 10)) (tCons (tC (.int 10000)) (tCons (tC (.int 7)) (tCons (tC (.int 2)) (tCons (tC (.int 100)) (tCons (tC (.int 16)) (tCons (tC (.int 3)) (tCons (tC (.int 255)) tNil))))))))) tNil))))
theorem n__law_size {K : Frag} : ∀ args k, F__law_size K args k → args.length = 1 := by
  intro args k h
  simp only [F__law_size, pD] at h
  all_goals first
    | (exact False.elim h)
    | (repeat (obtain ⟨_, h⟩ := h)
       subst_vars
       rfl)
def t__law_inputs (K : Frag) : TS := (tSeq (tAsg (tLst (tCons (tC (.int 0)) (tCons (tC (.int 1)) (tCons (tC (.int 2)) (tCons (tC (.int 3)) (tCons (tC (.int 5)) (tCons (tC (.int 9)) (tCons (tC (.int 9999)) (tCons (tC (.int 100)) (tCons (tC (.int 17)) (tCons (tC (.int 6)) tNil))))))))))) (gName 1)) (tRet (tLc (iRng1 (tCons (tCallR 0 (spOf K (F__law_pick K)) E0 (tCons (tVar 0) (tCons (tLst (tCons (tC (.int 3)) (tCons (tC (.int 0)) (tCons (tC (.int 1)) (tCons (tC (.int 6)) (tCons (tC (.int 4)) tNil)))))) tNil))) tNil)) (gName 2) tYes (tCallR 0 (spOf K (F__law_pick K)) E0 (tCons (tVar 0) (tCons (tVar 1) tNil))) [2])))
theorem n__law_inputs {K : Frag} : ∀ args k, F__law_inputs K args k → args.length = 1 := by
  intro args k h
  simp only [F__law_inputs, pD] at h
  all_goals first
    | (exact False.elim h)
    | (repeat (obtain ⟨_, h⟩ := h)
       subst_vars
       rfl)
def t__law_votes (K : Frag) : TS := (tSeq (tPar 2 3 (tCons (tCallR 0 (spOf K (F__law_pick K)) E0 (tCons (tVar 0) (tCons (tLst (tCons (tC (.int 3)) (tCons (tC (.int 2)) (tCons (tC (.int 3)) (tCons (tC (.int 1)) (tCons (tC (.int 5)) (tCons (tC (.int 4)) (tCons (tC (.int 2)) tNil)))))))) tNil))) (tCons (tLst tNil) tNil))) (tSeq (tFor (iRng2 (tCons (tC (.int 1)) (tCons (tOp (uAdd K) (tVar 2) (tC (.int 1))) tNil))) (gName 1) (tSeq (tAsg (tOp (uAdd K) (tOp (uFDiv K) (tVar 1) (tC (.int 2))) (tC (.int 1))) (gName 4)) (tDrop (tBM K "list" rAppend (tVar 3) (tCons (tCallR 0 (spOf K (F__law_pick K)) E0 (tCons (tVar 0) (tCons (tLst (tCons (tVar 4) (tCons (tVar 1) (tCons (tOp (uAdd K) (tVar 4) (tCallR 0 (spOf K (F__law_draw K)) E0 (tCons (tVar 0) (tCons (tOp (uSub K) (tVar 1) (tOp (uFDiv K) (tVar 1) (tC (.int 2)))) tNil)))) tNil)))) tNil))) tNil))))) (tRet (tCB (rTupU K) (tCons (tVar 3) tNil)))))
theorem n__law_votes {K : Frag} : ∀ args k, F__law_votes K args k → args.length = 1 := by
  intro args k h
  simp only [F__law_votes, pD] at h
  all_goals first
    | (exact False.elim h)
    | (repeat (obtain ⟨_, h⟩ := h)
       subst_vars
       rfl)
def t__law_number (K : Frag) : TS := (tRet (tOp (uMod K) (tCallR 0 (spOf K (F__law_pick K)) E0 (tCons (tVar 0) (tCons (tLst (tCons (tC (.int 0)) (tCons (tC (.int 1)) (tCons (tC (.int 1)) (tCons (tC (.int 0)) (tCons (tC (.int 2)) (tCons (tC (.int 3)) (tCons (tOp (uSub K) (tVar 1) (tC (.int 1))) (tCons (tC (.int 4)) (tCons (tCallR 0 (spOf K (F__law_draw K)) E0 (tCons (tVar 0) (tCons (tVar 1) tNil))) tNil)))))))))) tNil))) (tVar 1)))
theorem n__law_number {K : Frag} : ∀ args k, F__law_number K args k → args.length = 2 := by
  intro args k h
  simp only [F__law_number, pD] at h
  all_goals first
    | (exact False.elim h)
    | (repeat (obtain ⟨_, h⟩ := h)
       subst_vars
       rfl)
end Hw
namespace Hw
open PySem PySem.Spec PyProof.Rows L2 Dl
local macro_rules | `(tactic| walk_at "dbt") => `(tactic| first | assumption | rfl | (decide +kernel) | (simp [isFromD, *]; done) | (simp [isFromD, *]; omega))
local macro_rules | `(tactic| walk_at "d1") => `(tactic| first
  | with_reducible refine x_seq ?_ | with_reducible refine x_if' ?_ | with_reducible refine x_ret ?_ | with_reducible refine x_asg ?_ | with_reducible refine x_next ?_ | with_reducible refine x_expr ?_
  | with_reducible refine e_isi2 (by decide) (by decide) ?_
  | with_reducible refine e_dat rfl ?_ | with_reducible refine e_int ?_ | with_reducible refine e_str ?_ | with_reducible refine e_bl ?_ | with_reducible refine e_non ?_ | with_reducible refine e_op ?_ | with_reducible refine e_cb ?_ | with_reducible refine e_call ?_
  | with_reducible refine a_cons ?_ | with_reducible refine a_nil ?_
  | with_reducible refine b_test ?_ | with_reducible refine b_not ?_ | with_reducible refine b_and' ?_ | with_reducible refine b_or' ?_ | with_reducible refine b_tru ?_
  | with_reducible refine e_andV' ?_ | with_reducible refine e_orV' ?_ | with_reducible refine e_notV ?_ | with_reducible refine e_chain' ?_ | with_reducible refine e_if' ?_ | with_reducible refine e_c ?_ | with_reducible refine e_sl ?_ | with_reducible refine o_no ?_ | with_reducible refine o_some ?_ | with_reducible refine e_neg ?_
  | with_reducible refine e_raw rfl ?_ | with_reducible refine e_res rfl ?_ | with_reducible refine g_name ?_
  | with_reducible refine op_add_i ?_ | with_reducible refine op_sub_i ?_ | with_reducible refine op_lt_i ?_ | with_reducible refine op_le_i ?_ | with_reducible refine op_gt_i ?_ | with_reducible refine op_ge_i ?_ | with_reducible refine op_isnone ?_ | with_reducible refine op_notnone ?_
  | with_reducible refine cb_isi (by decide) ?_ | with_reducible refine cb_max2 ?_ | with_reducible refine cb_min2 ?_ | with_reducible refine cb_abs ?_ | with_reducible refine cb_int ?_ | with_reducible refine cb_len rfl ?_
  | with_reducible refine iteT ?_ | with_reducible refine iteF ?_ | ((with_reducible refine iT ?_ ?_); focus (walk_at "dbt"; done)) | ((with_reducible refine iF ?_ ?_); focus (walk_at "dbt"; done))
  | ((with_reducible refine g_tup ?_ ?_); (focus rfl)) | with_reducible refine gs_cons ?_ | with_reducible refine gs_nil ?_
  | with_reducible refine e_tup' ?_ | with_reducible refine e_lst' ?_ | with_reducible refine op_in2 ?_ | with_reducible refine op_ni3 ?_
  | with_reducible refine op_eq_ii ?_ | with_reducible refine op_ne_ii ?_ | ((with_reducible refine op_eq_ss ?_ ?_ ?_); (focus (decide +kernel)); (focus (decide +kernel))) | ((with_reducible refine op_ne_ss ?_ ?_ ?_); (focus (decide +kernel)); (focus (decide +kernel)))
  | ((with_reducible refine op_eq_d ?_ ?_ ?_); (focus (walk_at "dbt")); (focus (walk_at "dbt")))
  | ((with_reducible refine op_ne_d ?_ ?_ ?_); (focus (walk_at "dbt")); (focus (walk_at "dbt")))
  | ((with_reducible refine op_ix' ?_); refine Exists.intro _ (Exists.intro _ (And.intro rfl (And.intro rfl ?_))))
  | ((with_reducible refine op_mul_il ?_ ?_); (focus (decide +kernel))) | ((with_reducible refine op_mul_ir ?_ ?_); (focus (decide +kernel)))
  | ((with_reducible refine And.intro (a := smallL _ = true) ?_ ?_); (focus rfl)) | ((with_reducible refine And.intro (a := Pers _) ?_ ?_); (focus trivial)) | with_reducible refine d_cons ?_ | with_reducible refine d_nil ?_
  | (with_reducible refine Exists.intro _ (And.intro rfl ?_)) | (with_reducible refine Exists.intro _ (Exists.intro _ (And.intro rfl (And.intro rfl ?_)))) | refine Exists.intro _ (And.intro rfl (And.intro (by rfl) ?_)) | refine Exists.intro _ (Exists.intro _ (And.intro rfl (And.intro rfl ?_))) | with_reducible refine dat_ok ?_ | dsimp only | fail)
section
variable {K : Frag} {Γ : List Sl} {k : Sl → List Sl → Prop} {O : Out}
theorem PS.mono {t t' : Nat} {r : Res} (h : PS t r) (l : t ≤ t') : PS t' r := by
  obtain ⟨a, g, gr, cs, rest, turn, h1, h2, h3, h4⟩ := h
  exact ⟨a, g, gr, cs, rest, turn, h1, h2, by omega, h4⟩
theorem st_get {j q : Nat} {a g : Addr} {gr cs : List Int} {rest turn : Int} {f : Str} {u : Sl} (hj : Γ[j]? = some (.res (pst a g gr cs rest turn))) (h1 : lN[q]? = some f)
    (h2 : ([.raw (.ref g), .dat (.list (iL cs)), .dat (.int rest), .dat (.int turn)] : List Sl)[q]? = some u) (hk : k u Γ) : EvP K (tDGet (tVar j) (tC (.str f))) Γ k :=
  e_dgetC j 1 q (e_res hj (e_str ⟨_, _, _, _, _, _, u, rfl, rfl, hj, rfl, h1, h2, hk⟩))
theorem st_great {j : Nat} {a g : Addr} {gr cs : List Int} {rest turn : Int} (hj : Γ[j]? = some (.res (pst a g gr cs rest turn))) (hk : k (.raw (.ref g)) Γ) : EvP K (tDGet (tVar j) (tC (.str "great"))) Γ k := st_get (q := 0) hj rfl rfl hk
theorem st_cells {j : Nat} {a g : Addr} {gr cs : List Int} {rest turn : Int} (hj : Γ[j]? = some (.res (pst a g gr cs rest turn))) (hk : k (.dat (.list (iL cs))) Γ) : EvP K (tDGet (tVar j) (tC (.str "cells"))) Γ k := st_get (q := 1) hj rfl rfl hk
theorem st_rest {j : Nat} {a g : Addr} {gr cs : List Int} {rest turn : Int} (hj : Γ[j]? = some (.res (pst a g gr cs rest turn))) (hk : k (.dat (.int rest)) Γ) : EvP K (tDGet (tVar j) (tC (.str "rest"))) Γ k := st_get (q := 2) hj rfl rfl hk
theorem st_turn {j : Nat} {a g : Addr} {gr cs : List Int} {rest turn : Int} (hj : Γ[j]? = some (.res (pst a g gr cs rest turn))) (hk : k (.dat (.int turn)) Γ) : EvP K (tDGet (tVar j) (tC (.str "turn"))) Γ k := st_get (q := 3) hj rfl rfl hk
theorem st_setTurn {j : Nat} {te : TE} (h : EvP K te Γ fun s Γ1 => ∃ a g gr cs rest turn n, s = .dat (.int n) ∧ Γ1[j]? = some (.res (pst a g gr cs rest turn)) ∧ O.nx (Γ1.set j (.res (pst a g gr cs rest n)))) : ExS K (sDPut (tVar j) (tC (.str "turn")) te) Γ O :=
  x_dputC j 1 3 (h.mono fun s Γ1 ⟨a, g, gr, cs, rest, turn, n, e, hj, ho⟩ => ⟨by rw [e]; trivial, e_res hj (e_str ⟨_, _, _, _, _, _, rfl, rfl, hj, rfl, rfl, by decide, by subst e; exact ho⟩)⟩)
theorem st_setRest {j : Nat} {te : TE} (h : EvP K te Γ fun s Γ1 => ∃ a g gr cs rest turn n, s = .dat (.int n) ∧ Γ1[j]? = some (.res (pst a g gr cs rest turn)) ∧ O.nx (Γ1.set j (.res (pst a g gr cs n turn)))) : ExS K (sDPut (tVar j) (tC (.str "rest")) te) Γ O :=
  x_dputC j 1 2 (h.mono fun s Γ1 ⟨a, g, gr, cs, rest, turn, n, e, hj, ho⟩ => ⟨by rw [e]; trivial, e_res hj (e_str ⟨_, _, _, _, _, _, rfl, rfl, hj, rfl, rfl, by decide, by subst e; exact ho⟩)⟩)
local macro_rules | `(tactic| walk_at "d1") => `(tactic| first | with_reducible refine e_callR ?_ | with_reducible refine st_great rfl ?_ | with_reducible refine st_cells rfl ?_ | with_reducible refine st_rest rfl ?_ | with_reducible refine st_turn rfl ?_ | ((with_reducible refine op_pow_i ?_ ?_); (focus (exact ⟨by decide, by decide, by decide⟩))) | with_reducible refine op_mod_i (by omega) ?_ | with_reducible refine op_fdiv_i (by omega) ?_)
theorem b__law_begun : ∀ args k, F__law_begun K args k → ExS K (t__law_begun K) (args ++ List.replicate (3 - args.length) .no) (fnOut args k) := by
  rintro args k ⟨ns, s0, hl0, hs0, rfl, hk⟩
  show ExS K _ [s0, .no, .no] _
  unfold t__law_begun
  refine x_seq (x_asg (e_lcS (sets_name (by simp)) gm_name (i_scr (ns := ns) (e_scr hs0 rfl ⟨hs0, fun hz ff hff => ?_⟩))))
  refine ⟨fun i acc Γ => ∃ gs : List Int, acc = (iL gs).map .dat ∧ Γ = [s0, .no, .no], hz, ⟨[], rfl, rfl⟩, fun _ _ _ _ _ => trivial, ?_, ?_⟩
  · rintro i acc Γ hi hl ⟨gs, rfl, hΓ⟩
    rw [hΓ, hff i hi]
    generalize ns.getD i 0 = v
    refine g_name ?_
    repeat' walk_at "d1"
    refine ⟨fun _ => ?_, fun _ => ⟨gs, rfl, rfl⟩⟩
    repeat' walk_at "d1"
    refine ⟨gs ++ [((if v < 0 then -v else v) - 10 ^ Int.toNat 18)], ?_, rfl⟩
    unfold iL
    rw [List.map_append, List.map_append]
    rfl
  · rintro acc Γ hl ⟨gs, rfl, hΓ⟩ D
    rw [hΓ]
    refine g_name (x_ret (e_moveP 1 (e_absorb 1 (e_disp ?_))))
    repeat' walk_at "d1"
    refine e_lcScr (ns := ns) (fun _ => true) (fun v => .int (if v < 0 then -v else v)) (e_scr hs0 rfl ⟨hs0, ?_⟩)
    refine ⟨fun x hx => ?_, ?_⟩
    · refine b_yesD ⟨rfl, ?_⟩
      rw [if_pos rfl]
      repeat' walk_at "d1"
      exact ⟨rfl, rfl⟩
    repeat' walk_at "d1"
    refine ⟨by decide, by decide, fun p => ?_⟩
    have ec : (ns.filter fun _ => true).map (fun v => PyData.int (if v < 0 then -v else v)) = iL (ns.map fun v => if v < 0 then -v else v) := by
      rw [List.filter_eq_self.mpr (fun _ _ => rfl)]
      unfold iL
      rw [List.map_map]
      rfl
    rw [ec]
    refine ⟨_, _, _, _, rfl, cells_star, rfl, _, _, rfl, rfl, _, hk _ ⟨p, D, gs, _, 0, 0, rfl, by decide, by decide, ?_⟩, keep_scr hs0⟩
    rw [List.length_map]
    exact hl0
theorem b__law_mixed : ∀ args k, F__law_mixed K args k → ExS K (t__law_mixed K) (args ++ List.replicate (6 - args.length) .no) (fnOut args k) := by
  rintro args k ⟨a, g, gr, cs, rest, turn, ⟨ht0, ht1⟩, rfl, hk⟩
  show ExS K _ [.res (pst a g gr cs rest turn), .no, .no, .no, .no, .no] _
  unfold t__law_mixed
  refine x_seq (x_par (by decide) ?_)
  repeat' walk_at "d1"
  refine ⟨_, _, rfl, ?_⟩
  repeat' walk_at "d1"
  refine st_setTurn ?_
  repeat' walk_at "d1"
  refine ⟨_, _, _, _, _, _, _, rfl, rfl, ?_⟩
  refine x_seq (x_for (i_sq ?_))
  repeat' walk_at "d1"
  intro hz
  refine ⟨fun i Γ => ∃ (x : Sl) (f : Int) (y z : Sl), Γ = [.res (pst a g gr cs rest (turn + 1)), x, .dat (.int (turn + 1)), .dat (.int f), y, z], ⟨_, _, _, _, rfl⟩, fun _ _ _ _ => trivial, ?_, ?_⟩
  · rintro i Γ hi ⟨x, f, y, z, rfl⟩
    obtain ⟨pr, hpr, hp0, hp1⟩ : ∃ pr : Int, ([PyData.int 2147483629, .int 2147483647, .int 2147483563, .int 2147483587].getD i .none) = .int pr ∧ 0 < pr ∧ pr < 2147483648 := by
      match i, hi with
      | 0, _ => exact ⟨_, rfl, by decide, by decide⟩
      | 1, _ => exact ⟨_, rfl, by decide, by decide⟩
      | 2, _ => exact ⟨_, rfl, by decide, by decide⟩
      | 3, _ => exact ⟨_, rfl, by decide, by decide⟩
      | n + 4, h => exact absurd h (by simp)
    show EvG K (gName 1) (.dat ([PyData.int 2147483629, .int 2147483647, .int 2147483563, .int 2147483587].getD i .none)) _ _
    rw [hpr]
    refine g_name ?_
    repeat' walk_at "d1"
    refine x_for (i_sq ?_)
    repeat' walk_at "d1"
    intro hz2
    refine ⟨fun i Γ => ∃ (bl : Int) (z : Sl), (-10000000000000 < bl ∧ bl < 10000000000000) ∧ Γ = [.res (pst a g gr cs rest (turn + 1)), .dat (.int pr), .dat (.int (turn + 1)), .dat (.int f), .dat (.int bl), z], ⟨_, _, ?_, rfl⟩, fun _ _ _ _ => trivial, ?_, ?_⟩
    · constructor <;> omega
    · rintro j Γ hj ⟨bl, z, hb, rfl⟩
      have hln : (iL cs).length = cs.length := List.length_map ..
      obtain ⟨c, hc⟩ : ∃ c, cs[j]? = some c := ⟨_, List.getElem?_eq_getElem (by omega)⟩
      have hd : (iL cs).getD j .none = .int c := by
        rw [List.getD_eq_getElem?_getD, iL, List.getElem?_map, hc]; rfl
      show EvG K (gName 5) (.dat ((iL cs).getD j .none)) _ _
      rw [hd]
      refine g_name ?_
      repeat' walk_at "d1"
      refine ⟨_, _, ?_, rfl⟩
      have e0 := Int.emod_nonneg (bl * 48271 + c + (turn + 1)) (b := pr) (by omega)
      have e1 := Int.emod_lt_of_pos (bl * 48271 + c + (turn + 1)) hp0
      constructor <;> omega
    · rintro Γ ⟨bl, z, hb, rfl⟩
      repeat' walk_at "d1"
      refine op_pow_i ⟨by decide, by decide, by omega⟩ ?_
      repeat' walk_at "d1"
      exact ⟨_, _, _, _, rfl⟩
  · rintro Γ ⟨x, f, y, z, rfl⟩
    repeat' walk_at "d1"
    exact ⟨_, hk f, .res rfl .nil⟩
theorem u__law_mixed {a g : Addr} {gr cs : List Int} {rest turn : Int} {k : Sl → List Sl → Prop} (ht : 0 ≤ turn ∧ turn < 2000000) (hk : ∀ n : Int, k (.dat (.int n)) [.res (pst a g gr cs rest (turn + 1))]) : F__law_mixed K [.res (pst a g gr cs rest turn)] k := ⟨a, g, gr, cs, rest, turn, ht, rfl, hk⟩
theorem b__law_draw : ∀ args k, F__law_draw K args k → ExS K (t__law_draw K) (args ++ List.replicate (3 - args.length) .no) (fnOut args k) := by
  rintro args k ⟨r, t, room, ⟨a, g, gr, cs, rest, turn, rfl, ht0, ht1, hcs⟩, ht, ⟨hr0, hr1⟩, rfl, hk⟩
  show ExS K _ [.res (pst a g gr cs rest turn), .dat (.int room), .no] _
  unfold t__law_draw
  refine x_seq ?_
  have fin : ∀ gr' rest' turn', 0 ≤ turn' → turn' ≤ ((t + 1 : Nat) : Int) → ExS K (tSeq (tAsg (tOp (uMod K) (tCB (rInt1 K) (tCons (tDGet (tVar 0) (tC (.str (PySem.Str.ofString "rest")))) tNil)) (tVar 1)) (gName 2)) (tSeq (sDPut (tVar 0) (tC (.str (PySem.Str.ofString "rest"))) (tOp (uFDiv K) (tDGet (tVar 0) (tC (.str (PySem.Str.ofString "rest")))) (tVar 1))) (tRet (tVar 2)))) [.res (pst a g gr' cs rest' turn'), .dat (.int room), .no] (fnOut [.res (pst a g gr cs rest turn), .dat (.int room)] k) := by
    intro gr' rest' turn' h0 h1
    repeat' walk_at "d1"
    refine st_setRest ?_
    repeat' walk_at "d1"
    refine ⟨_, _, _, _, _, _, _, rfl, rfl, ?_⟩
    repeat' walk_at "d1"
    exact ⟨_, hk (rest' % room) (pst a g gr' cs (rest' / room) turn') rfl ⟨a, g, gr', cs, _, turn', rfl, h0, h1, hcs⟩ (Int.emod_nonneg _ (by omega)) (Int.emod_lt_of_pos _ hr0), .res rfl (.dat .nil)⟩
  refine x_if' ?_
  repeat' walk_at "d1"
  refine iteB (fun _ => ?_) (fun _ => x_next (fin gr rest turn ht0 (by omega)))
  refine st_setRest ?_
  repeat' walk_at "d1"
  refine op_neC (ds := iL gr) (.s 0 0 rfl rfl) (shaped_list shp_ints) (by decide +kernel) ?_
  cases gr with
  | nil =>
    refine ⟨false, rfl, ?_⟩
    repeat' walk_at "d1"
    refine u__law_mixed ⟨ht0, by omega⟩ fun n => ⟨_, rfl, rfl, rfl, ?_⟩
    repeat' walk_at "d1"
    exact ⟨_, _, _, _, _, _, _, rfl, rfl, fin [] n (turn + 1) (by omega) (by omega)⟩
  | cons n rs =>
    refine ⟨true, rfl, ?_⟩
    repeat' walk_at "d1"
    refine e_pop0C 0 0 (st_great rfl ⟨_, rfl, ⟨_, _, _, rfl, rfl⟩, ?_⟩)
    repeat' walk_at "d1"
    exact ⟨_, _, .dat (.int n), (iL rs).map .dat, rfl, rfl, rfl, _, _, _, _, _, _, _, rfl, rfl, fin rs n turn ht0 (by omega)⟩
theorem u__law_draw {r : Res} {t : Nat} {room : Int} {k : Sl → List Sl → Prop} (h : PS t r) (ht : t < 1000000) (hr : 0 < room ∧ room < 1073741824) (hk : ∀ (n : Int) r', r'.v = r.v → PS (t + 1) r' → 0 ≤ n → n < room → k (.dat (.int n)) [.res r', .dat (.int room)]) : F__law_draw K [.res r, .dat (.int room)] k := ⟨r, t, room, h, ht, hr, rfl, hk⟩
theorem b__law_pick : ∀ args k, F__law_pick K args k → ExS K (t__law_pick K) (args ++ List.replicate (2 - args.length) .no) (fnOut args k) := by
  rintro args k ⟨r, t, ds, h, ht, ⟨hd0, hd1⟩, rfl, hk⟩
  show ExS K _ [.res r, .dat (.list ds)] _
  unfold t__law_pick
  repeat' walk_at "d1"
  refine u__law_draw h ht ⟨by omega, by omega⟩ fun n r' hv hp h0 h1 => ⟨_, rfl, hv, rfl, ?_⟩
  have hlt : n.toNat < ds.length := by omega
  repeat' walk_at "d1"
  refine op_ix_d (d' := ds[n.toNat]'hlt) rfl ?_ ?_
  · unfold atI ixN
    rw [if_pos h0, if_pos h1]
    exact List.getElem?_eq_getElem hlt
  · exact ⟨_, hk _ r' hv hp (List.getElem_mem hlt), .res hv (.dat .nil)⟩
theorem u__law_pick {r : Res} {t : Nat} {ds : List PyData} {k : Sl → List Sl → Prop} (h : PS t r) (ht : t < 1000000) (hd : 0 < ds.length ∧ ds.length < 1000) (hk : ∀ d r', r'.v = r.v → PS (t + 1) r' → d ∈ ds → k (.dat d) [.res r', .dat (.list ds)]) : F__law_pick K [.res r, .dat (.list ds)] k := ⟨r, t, ds, h, ht, hd, rfl, hk⟩
theorem b__law_size : ∀ args k, F__law_size K args k → ExS K (t__law_size K) (args ++ List.replicate (1 - args.length) .no) (fnOut args k) := by
  rintro args k ⟨r, t, h, ht, rfl, hk⟩
  show ExS K _ [.res r] _
  unfold t__law_size
  repeat' walk_at "d1"
  refine u__law_pick h ht ⟨by decide, by decide⟩ fun d r' hv hp hd => ⟨_, rfl, hv, rfl, ?_⟩
  simp only [List.mem_cons, List.not_mem_nil, or_false] at hd
  rcases hd with rfl | rfl | rfl | rfl | rfl | rfl | rfl | rfl <;> exact ⟨_, hk _ r' hv hp (by decide) (by decide), .res hv .nil⟩
theorem b__law_inputs : ∀ args k, F__law_inputs K args k → ExS K (t__law_inputs K) (args ++ List.replicate (3 - args.length) .no) (fnOut args k) := by
  rintro args k ⟨r, t, h, ht, rfl, hk⟩
  show ExS K _ [.res r, .no, .no] _
  unfold t__law_inputs
  repeat' walk_at "d1"
  refine e_lc (sets_name (by simp)) gm_name (i_rng1 ?_)
  repeat' walk_at "d1"
  refine u__law_pick h (by omega) ⟨by decide, by decide⟩ fun d r' hv hp hd => ⟨_, rfl, hv, rfl, ?_⟩
  repeat' walk_at "d1"
  obtain ⟨j, rfl, hj0, hj1⟩ : ∃ j : Int, d = .int j ∧ 0 ≤ j ∧ j ≤ 6 := by
    simp only [List.mem_cons, List.not_mem_nil, or_false] at hd
    rcases hd with rfl | rfl | rfl | rfl | rfl <;> exact ⟨_, rfl, by decide, by decide⟩
  refine ⟨j, rfl, by omega, by omega, fun i acc Γ => ∃ (ns : List Int) (r2 : Res), acc = iL ns ∧ (∀ n ∈ ns, 0 ≤ n ∧ n ≤ 9999) ∧ r2.v = r.v ∧ PS (t + 1 + i) r2 ∧ Γ = [.res r2, .dat (.list [PyData.int 0, .int 1, .int 2, .int 3, .int 5, .int 9, .int 9999, .int 100, .int 17, .int 6]), .no], Nat.le_trans (by omega : j.toNat ≤ 6) (by decide), ⟨[], r', rfl, (fun n h => by cases h), hv, hp, rfl⟩, fun _ _ _ _ _ => trivial, ?_, ?_⟩
  · rintro i acc Γ hi hl ⟨ns, r2, rfl, hns, hv2, hp2, hΓ⟩
    rw [hΓ]
    refine g_name (b_yesD ⟨fun _ => ?_, fun z => by cases z⟩)
    repeat' walk_at "d1"
    refine u__law_pick hp2 (by omega) ⟨by decide, by decide⟩ fun d r3 hv3 hp3 hd => ⟨_, rfl, hv3, rfl, ?_⟩
    obtain ⟨n, rfl, hn⟩ : ∃ n : Int, d = .int n ∧ 0 ≤ n ∧ n ≤ 9999 := by
      simp only [List.mem_cons, List.not_mem_nil, or_false] at hd
      rcases hd with rfl | rfl | rfl | rfl | rfl | rfl | rfl | rfl | rfl | rfl <;> exact ⟨_, rfl, by decide, by decide⟩
    refine ⟨_, rfl, ns ++ [n], r3, ?_, ?_, hv3.trans hv2, hp3.mono (by omega), rfl⟩
    · unfold iL
      rw [List.map_append]
      rfl
    · intro x hx
      rcases List.mem_append.mp hx with q | q
      · exact hns x q
      · simp only [List.mem_singleton] at q
        rw [q]
        exact hn
  · rintro acc Γ hl ⟨ns, r2, rfl, hns, hv2, hp2, hΓ⟩
    rw [hΓ]
    have hln : (iL ns).length = ns.length := List.length_map ..
    exact ⟨_, hk ns r2 hv2 (hp2.mono (by omega)) (by omega) hns, .res hv2 .nil⟩
theorem b__law_votes : ∀ args k, F__law_votes K args k → ExS K (t__law_votes K) (args ++ List.replicate (5 - args.length) .no) (fnOut args k) := by
  rintro args k ⟨r, t, h, ht, rfl, hk⟩
  show ExS K _ [.res r, .no, .no, .no, .no] _
  unfold t__law_votes
  refine x_seq (x_par (by decide) ?_)
  repeat' walk_at "d1"
  refine u__law_pick h (by omega) ⟨by decide, by decide⟩ fun d r' hv hp hd => ⟨_, rfl, hv, rfl, ?_⟩
  obtain ⟨hu, rfl, hu0, hu1⟩ : ∃ j : Int, d = .int j ∧ 1 ≤ j ∧ j ≤ 5 := by
    simp only [List.mem_cons, List.not_mem_nil, or_false] at hd
    rcases hd with rfl | rfl | rfl | rfl | rfl | rfl | rfl <;> exact ⟨_, rfl, by decide, by decide⟩
  refine a_cons (e_lstO' (a_nil ⟨[], rfl, rfl, fun a => a_nil ⟨_, _, rfl, ?_⟩⟩))
  refine g_name (g_name ?_)
  refine x_seq (x_for (i_rng2 ?_))
  repeat' walk_at "d1"
  refine ⟨1, hu + 1, rfl, ⟨by decide, by decide, by omega, by omega⟩, fun i Γ => ∃ (vs : List Int) (r2 : Res) (x y : Sl), vs.length = i ∧ (∀ (j : Nat) (v : Int), vs[j]? = some v → (j : Int) + 1 < 2 * v ∧ 2 * v ≤ 2 * ((j : Int) + 1)) ∧ r2.v = r.v ∧ PS (t + 1 + 2 * i) r2 ∧ Γ = [.res r2, x, .dat (.int hu), .res (ownL a (iL vs)), y], ⟨[], r', _, _, rfl, (fun j v h => by simp at h), hv, hp, rfl⟩, fun _ _ _ _ => trivial, ?_, ?_⟩
  · rintro i Γ hi ⟨vs, r2, x, y, hl, hvs, hv2, hp2, rfl⟩
    have hi5 : i < 5 := by omega
    refine g_name ?_
    repeat' walk_at "d1"
    refine e_append 3 (e_res rfl ⟨a, rfl, ⟨iL vs, rfl⟩, ?_⟩)
    repeat' walk_at "d1"
    refine u__law_draw hp2 (by omega) ⟨by omega, by omega⟩ fun n r3 hv3 hp3 h0 h1 => ⟨_, rfl, hv3, rfl, ?_⟩
    repeat' walk_at "d1"
    refine ⟨r3, _, congrArg (fun v => Sl.raw v :: [_]) hv3.symm, rfl, ?_⟩
    refine u__law_pick hp3 (by omega) ⟨by show 0 < 3; decide, by show 3 < 1000; decide⟩ fun d r4 hv4 hp4 hd => ⟨_, rfl, hv4, rfl, ?_⟩
    obtain ⟨v, rfl, hv0, hv1⟩ : ∃ v : Int, d = .int v ∧ (i : Int) + 1 < 2 * v ∧ 2 * v ≤ 2 * ((i : Int) + 1) := by
      simp only [List.mem_cons, List.not_mem_nil, or_false] at hd
      rcases hd with rfl | rfl | rfl <;> exact ⟨_, rfl, by omega, by omega⟩
    have hln : (iL vs).length = vs.length := List.length_map ..
    refine a_nil ⟨iL vs, .int v, rfl, rfl, by rw [hln]; exact Nat.lt_of_lt_of_le (by omega : vs.length < 5) (by decide), ?_⟩
    refine ⟨vs ++ [v], r4, .dat (.int (1 + (i : Int))), .dat (.int ((1 + (i : Int)) / 2 + 1)), by simp [hl], ?_, hv4.trans (hv3.trans hv2), hp4.mono (by omega), ?_⟩
    · intro j z hz
      by_cases hj : j < vs.length
      · rw [List.getElem?_append_left hj] at hz
        exact hvs j z hz
      · rw [List.getElem?_append_right (by omega)] at hz
        have hj2 : j - vs.length = 0 := by
          cases q : j - vs.length with
          | zero => rfl
          | succ n => rw [q] at hz; simp at hz
        rw [hj2] at hz
        simp at hz
        subst hz
        have : j = i := by omega
        subst this
        exact ⟨hv0, hv1⟩
    · unfold iL
      rw [List.map_append]
      rfl
  · rintro Γ ⟨vs, r2, x, y, hl, hvs, hv2, hp2, rfl⟩
    repeat' walk_at "d1"
    refine cb_tupleC (HasL.o 3 rfl) ⟨_, hk vs r2 hv2 (hp2.mono (by omega)) ⟨by omega, by omega, hvs⟩, .res hv2 .nil⟩
theorem u__law_begun {ns : List Int} {s : Sl} {k : Sl → List Sl → Prop} (hl : ns.length ≤ 63) (hs : Scr K ns s) (hk : ∀ r, PS 0 r → k (.res r) [s]) : F__law_begun K [s] k := ⟨ns, s, hl, hs, rfl, hk⟩
theorem u__law_size {r : Res} {t : Nat} {k : Sl → List Sl → Prop} (h : PS t r) (ht : t < 1000000) (hk : ∀ (n : Int) r', r'.v = r.v → PS (t + 1) r' → 2 ≤ n → n ≤ 10000 → k (.dat (.int n)) [.res r']) : F__law_size K [.res r] k := ⟨r, t, h, ht, rfl, hk⟩
theorem u__law_inputs {r : Res} {t : Nat} {k : Sl → List Sl → Prop} (h : PS t r) (ht : t < 900000) (hk : ∀ (ns : List Int) r', r'.v = r.v → PS (t + 10) r' → ns.length ≤ 6 → (∀ n ∈ ns, 0 ≤ n ∧ n ≤ 9999) → k (.dat (.list (iL ns))) [.res r']) : F__law_inputs K [.res r] k := ⟨r, t, h, ht, rfl, hk⟩
theorem u__law_votes {r : Res} {t : Nat} {k : Sl → List Sl → Prop} (h : PS t r) (ht : t < 900000) (hk : ∀ (vs : List Int) r', r'.v = r.v → PS (t + 20) r' → votesOk vs → k (.dat (.tuple (iL vs))) [.res r']) : F__law_votes K [.res r] k := ⟨r, t, h, ht, rfl, hk⟩
theorem u__law_number {r : Res} {t : Nat} {size : Int} {k : Sl → List Sl → Prop} (h : PS t r) (ht : t < 900000) (hs : 2 ≤ size ∧ size ≤ 10000) (hk : ∀ (n : Int) r', r'.v = r.v → PS (t + 2) r' → 0 ≤ n → n ≤ size - 1 → k (.dat (.int n)) [.res r', .dat (.int size)]) : F__law_number K [.res r, .dat (.int size)] k := ⟨r, t, size, h, ht, hs, rfl, hk⟩
theorem b__law_number : ∀ args k, F__law_number K args k → ExS K (t__law_number K) (args ++ List.replicate (2 - args.length) .no) (fnOut args k) := by
  rintro args k ⟨r, t, size, h, ht, ⟨s0, s1⟩, rfl, hk⟩
  show ExS K _ [.res r, .dat (.int size)] _
  unfold t__law_number
  refine x_ret (e_op (e_callR ?_))
  repeat' walk_at "d1"
  refine u__law_draw h (by omega) ⟨by omega, by omega⟩ fun n r' hv hp h0 h1 => ⟨_, rfl, hv, rfl, ?_⟩
  repeat' walk_at "d1"
  refine ⟨r', _, congrArg (fun v => Sl.raw v :: [_]) hv.symm, rfl, ?_⟩
  refine u__law_pick hp (by omega) ⟨by show 0 < 9; decide, by show 9 < 1000; decide⟩ fun d r2 hv2 hp2 hd => ⟨_, rfl, hv2, rfl, ?_⟩
  obtain ⟨j, rfl⟩ : ∃ j : Int, d = .int j := by
    simp only [List.mem_cons, List.not_mem_nil, or_false] at hd
    rcases hd with rfl | rfl | rfl | rfl | rfl | rfl | rfl | rfl | rfl <;> exact ⟨_, rfl⟩
  repeat' walk_at "d1"
  have m1 := Int.emod_lt_of_pos j (show 0 < size by omega)
  exact ⟨_, hk (j % size) r2 (hv2.trans hv) hp2 (Int.emod_nonneg _ (by omega)) (by omega), .res (hv2.trans hv) (.dat .nil)⟩
end
end Hw
namespace Hw
open PySem PySem.Spec PyProof.Rows L2 Dl
def manyD (ds : List PyData) (need : Int) (d : PyData) : Bool := decide (need ≤ (((ds.filter fun e => PyData.eqv e d).length : Nat) : Int))
def mkAgrD (ds : List PyData) (need : Int) : List PyData := (ds.filter (manyD ds need)).take 1
def F__law_mk_agreed (_ : Frag) : FSpec := fun args k => ∃ (ds : List PyData) (need : Int), (∀ d ∈ ds, Shp 59 d) ∧ pD args k [.list ds, .int need] (.list (mkAgrD ds need))
def F__law_mk_slots_right (_ : Frag) : FSpec := fun args k => ∃ (r : Res) (t : Nat) (vs : List Int) (size : Int), PS t r ∧ t < 800000 ∧ votesOk vs ∧ (2 ≤ size ∧ size ≤ 10000) ∧ args = [.res r, .dat (.tuple (iL vs)), .dat (.int size)] ∧ ∀ r', r'.v = r.v → PS (t + 50) r' → k (.dat (.bool true)) [.res r', .dat (.tuple (iL vs)), .dat (.int size)]
def F__law_mk_mark_right (_ : Frag) : FSpec := fun args k => ∃ (r : Res) (t : Nat) (vs : List Int) (size : Int), PS t r ∧ t < 800000 ∧ votesOk vs ∧ (2 ≤ size ∧ size ≤ 10000) ∧ args = [.res r, .dat (.tuple (iL vs)), .dat (.int size)] ∧ ∀ r', r'.v = r.v → PS (t + 50) r' → k (.dat (.bool true)) [.res r', .dat (.tuple (iL vs)), .dat (.int size)]
def F_law (K : Frag) : FSpec := fun args k => ∃ (ns : List Int) (s : Sl), ns.length ≤ 63 ∧ Scr K ns s ∧ args = [s] ∧ k (.dat (.bool true)) args
end Hw
namespace Hw
open PySem PySem.Spec PyProof.Rows L2 Dl
def t__law_mk_agreed (K : Frag) : TS := (tSeq (tAsg (tLc (iSq K (tVar 0)) (gName 3) (tTest (tOp (uGe K) (tCB (Dl.rLen K) (tCons (tLc (iSq K (tVar 0)) (gName 4) (tTest (tOp (uEq K) (tVar 4) (tVar 3))) (tVar 4) [4]) tNil)) (tVar 1))) (tVar 3) [3]) (gName 2)) (tRet (tSl (rSlU K) (tVar 2) tNoPart (tPart (tC (.int 1))))))
theorem n__law_mk_agreed {K : Frag} : ∀ args k, F__law_mk_agreed K args k → args.length = 2 := by
  intro args k h
  simp only [F__law_mk_agreed, pD] at h
  all_goals first
    | (exact False.elim h)
    | (repeat (obtain ⟨_, h⟩ := h)
       subst_vars
       rfl)
def t__law_mk_slots_right (K : Frag) : TS := (tSeq (tPar 10 11 (tCons (tOp (uAdd K) (tC (.int 1)) (tCallR 0 (spOf K (F__law_draw K)) E0 (tCons (tVar 0) (tCons (tCB (Dl.rLen K) (tCons (tVar 1) tNil)) tNil)))) (tCons (tCallR 0 (spOf K (F__law_pick K)) E0 (tCons (tVar 0) (tCons (tLst (tCons (tC (.str (PySem.Str.ofString "show"))) (tCons (tC (.str (PySem.Str.ofString "turn"))) tNil))) tNil))) tNil))) (tSeq (tAsg (tLst (tCons (tCallR 0 (spOf K (F__law_number K)) E0 (tCons (tVar 0) (tCons (tVar 2) tNil))) (tCons (tCallR 0 (spOf K (F__law_number K)) E0 (tCons (tVar 0) (tCons (tVar 2) tNil))) (tCons (tC (.int 0)) tNil)))) (gName 3)) (tSeq (tAsg (tLc (iSq K (tVar 1)) (gName 13) tYes (tCallR 0 (spOf K (F__law_pick K)) E0 (tCons (tVar 0) (tCons (tOp (uAdd K) (tVar 3) (tLst (tCons (tC .non) tNil))) tNil))) [13]) (gName 4)) (tSeq (tAsg (tTup (tCons (tVar 1) (tCons (tVar 2) (tCons (tTup (tCons (tTup (tCons (tVar 11) (tCons (tC (.int 2)) (tCons (tVar 10) tNil)))) (tCons (tTup (tCons (tC (.str (PySem.Str.ofString "stop"))) tNil)) (tCons (tTup (tCons (tC (.str (PySem.Str.ofString "goto"))) (tCons (tC (.int 0)) tNil))) tNil)))) (tCons (tTup tNil) tNil))))) (gName 5)) (tSeq (tAsg (tLc (iEnumU K (tCons (tVar 4) tNil)) (gTup K 2 (gCons (gName 13) (gCons (gName 14) gNil))) (tTest (tOp (uIsNot K) (tVar 14) (tC .non))) (tTup (tCons (tC (.int 0)) (tCons (tVar 13) (tCons (tTup (tCons (tC (.str (PySem.Str.ofString "slot"))) tNil)) (tCons (tVar 14) tNil))))) [13, 14]) (gName 6)) (tSeq (tAsg (tCall (spOf K (F_struck K)) [] E0 (tCons (tVar 5) (tCons (tLst tNil) (tCons (tVar 6) (tCons (tC (.int 1)) tNil))))) (gName 7)) (tSeq (tAsg (tCall (spOf K (F__law_mk_agreed K)) [] E0 (tCons (tLc (iSq K (tSl (rSlU K) (tVar 4) tNoPart (tPart (tVar 10)))) (gName 14) (tTest (tOp (uIsNot K) (tVar 14) (tC .non))) (tVar 14) [14]) (tCons (tOp (uIx K) (tVar 1) (tOp (uSub K) (tVar 10) (tC (.int 1)))) tNil))) (gName 8)) (tSeq (tIfS (tTest (tOp (uEq K) (tVar 8) (tLst tNil))) (tSeq (tAsg ((tAndV (tOp (uEq K) (tPropR 7 (He.ga K "Machine") (spOf K (F_Machine_slots K)) E0 (tVar 7)) (tCB (rTupU K) (tCons (tVar 4) tNil))) (tOp (uEq K) (tPropR 7 (He.ga K "Machine") (spOf K (F_Machine_pointers K)) E0 (tVar 7)) (tOp (uMulT K) (tTup (tCons (tC (.int 0)) tNil)) (tCB (Dl.rLen K) (tCons (tVar 1) tNil)))))) (gName 12)) (tRet ((tAndV (tVar 12) (tAndV (tOp (uEq K) (tPropR 7 (He.ga K "Machine") (spOf K (F_Machine_state K)) E0 (tVar 7)) (tC (.str (PySem.Str.ofString "caught")))) (tAndV (tOp (uEq K) (tPropR 7 (He.ga K "Machine") (spOf K (F_Machine_row K)) E0 (tVar 7)) (tLst tNil)) (tOp (uEq K) (tPropR 7 (He.ga K "Machine") (spOf K (F_Machine_steps K)) E0 (tVar 7)) (tC (.int 1))))))))) tNext) (tSeq (tAsg (tIf ((tAnd (tTest (tOp (uEq K) (tVar 11) (tC (.str (PySem.Str.ofString "turn"))))) (tTest (tOp (uNe K) (tOp (uIx K) (tVar 8) (tC (.int 0))) (tC (.int 0)))))) (tC (.int 2)) (tC (.int 1))) (gName 9)) (tSeq (tIfS ((tOr (tTest (tOp (uNe K) (tPropR 7 (He.ga K "Machine") (spOf K (F_Machine_pointers K)) E0 (tVar 7)) (tOp (uMulT K) (tTup (tCons (tVar 9) tNil)) (tCB (Dl.rLen K) (tCons (tVar 1) tNil))))) (tTest (tOp (uNe K) (tPropR 7 (He.ga K "Machine") (spOf K (F_Machine_slots K)) E0 (tVar 7)) (tOp (uMulT K) (tTup (tCons (tC .non) tNil)) (tCB (Dl.rLen K) (tCons (tVar 1) tNil))))))) (tRet (tC (.bl false))) tNext) (tSeq (tIfS (tTest (tOp (uNe K) (tPropR 7 (He.ga K "Machine") (spOf K (F_Machine_state K)) E0 (tVar 7)) (tC (.str (PySem.Str.ofString "running"))))) (tRet (tC (.bl false))) tNext) (tRet (tOp (uEq K) (tPropR 7 (He.ga K "Machine") (spOf K (F_Machine_row K)) E0 (tVar 7)) (tIf (tTest (tOp (uEq K) (tVar 11) (tC (.str (PySem.Str.ofString "show"))))) (tLst (tCons (tTup (tCons (tC (.str (PySem.Str.ofString "show"))) (tCons (tC (.int 2)) (tCons (tOp (uIx K) (tVar 8) (tC (.int 0))) tNil)))) tNil)) (tLst tNil)))))))))))))))
theorem n__law_mk_slots_right {K : Frag} : ∀ args k, F__law_mk_slots_right K args k → args.length = 3 := by
  intro args k h
  simp only [F__law_mk_slots_right, pD] at h
  all_goals first
    | (exact False.elim h)
    | (repeat (obtain ⟨_, h⟩ := h)
       subst_vars
       rfl)
def t__law_mk_mark_right (K : Frag) : TS := (tSeq (tAsg (tCB (Dl.rLen K) (tCons (tVar 1) tNil)) (gName 3)) (tSeq (tAsg (tOp (uAdd K) (tTup (tCons (tTup (tCons (tC (.int 0)) (tCons (tC (.str (PySem.Str.ofString "set"))) (tCons (tC (.int 7)) (tCons (tC (.int 1)) tNil))))) (tCons (tTup (tCons (tC (.str (PySem.Str.ofString "mark"))) tNil)) (tCons (tTup (tCons (tC (.str (PySem.Str.ofString "stop"))) tNil)) tNil)))) (tCB (rTupU K) (tCons (tLc (iRng1 (tCons (tVar 3) tNil)) (gName 6) tYes (tTup (tCons (tVar 6) (tCons (tC (.str (PySem.Str.ofString "set"))) (tCons (tC (.int 1)) (tCons (tC (.int 0)) tNil))))) [6]) tNil))) (gName 4)) (tSeq (tAsg (tTup (tCons (tVar 1) (tCons (tVar 2) (tCons (tVar 4) (tCons (tTup (tCons (tC (.int 0)) (tCons (tC (.int 1)) tNil))) tNil))))) (gName 5)) (tSeq (tPar 9 10 (tCons (tLst tNil) (tCons (tLst tNil) tNil))) (tSeq (tFor (iRng1 (tCons (tVar 3) tNil)) (gName 6) (tSeq (tPar 14 15 (tCons (tCallR 0 (spOf K (F__law_draw K)) E0 (tCons (tVar 0) (tCons (tC (.int 2)) tNil))) (tCons (tOp (uFDiv K) (tCallR 0 (spOf K (F__law_draw K)) E0 (tCons (tVar 0) (tCons (tC (.int 3)) tNil))) (tC (.int 2))) tNil))) (tSeq (tAsg (tTup (tCons (tC (.int 0)) (tCons (tC (.int 0)) (tCons (tVar 14) (tCons (tC (.int 0)) (tCons (tC (.int 0)) (tCons (tC (.int 0)) (tCons (tC (.int 0)) (tCons (tCB (rInt1 K) (tCons (tOp (uEq K) (tVar 6) (tC (.int 0))) tNil)) tNil))))))))) (gName 11)) (tSeq (tAsg (tOp (uAdd K) (tVar 9) (tLst (tCons (tTup (tCons (tC (.int 1)) (tCons (tVar 6) (tCons (tTup (tCons (tC (.str (PySem.Str.ofString "register"))) (tCons (tC (.int 2)) tNil))) (tCons (tVar 14) tNil))))) (tCons (tTup (tCons (tC (.int 1)) (tCons (tVar 6) (tCons (tTup (tCons (tC (.str (PySem.Str.ofString "cell"))) (tCons (tC (.int 0)) tNil))) (tCons (tVar 15) tNil))))) tNil)))) (gName 9)) (tSeq (tAsg (tOp (uAdd K) (tVar 9) (tLst (tCons (tTup (tCons (tC (.int 1)) (tCons (tVar 6) (tCons (tTup (tCons (tC (.str (PySem.Str.ofString "code"))) (tCons (tOp (uAdd K) (tC (.int 3)) (tVar 6)) tNil))) (tCons (tTup (tCons (tVar 6) (tCons (tC (.str (PySem.Str.ofString "offer"))) (tCons (tC (.int 4)) tNil)))) tNil))))) (tCons (tTup (tCons (tC (.int 1)) (tCons (tVar 6) (tCons (tTup (tCons (tC (.str (PySem.Str.ofString "slot"))) tNil)) (tCons (tC (.int 1)) tNil))))) tNil)))) (gName 9)) (tSeq (tIfS ((tAnd (tTest (tOp (uEq K) (tVar 6) (tC (.int 0)))) (tTest (tOp (uEq K) (tCallR 0 (spOf K (F__law_draw K)) E0 (tCons (tVar 0) (tCons (tC (.int 2)) tNil))) (tC (.int 0)))))) (tSeq (tDrop (tBM K "list" rAppend (tVar 9) (tCons (tTup (tCons (tC (.int 1)) (tCons (tC (.int 0)) (tCons (tTup (tCons (tC (.str (PySem.Str.ofString "register"))) (tCons (tC (.int 7)) tNil))) (tCons (tC (.int 0)) tNil))))) tNil))) (tAsg (tOp (uAdd K) (tSl (rSlU K) (tVar 11) tNoPart (tPart (tC (.int 7)))) (tTup (tCons (tC (.int 0)) tNil))) (gName 11))) tNext) (tDrop (tBM K "list" rAppend (tVar 10) (tCons (tTup (tCons (tVar 11) (tCons (tTup (tCons (tVar 15) (tCons (tC (.int 1)) tNil))) tNil))) tNil))))))))) (tSeq (tAsg (tCall (spOf K (F_struck K)) [] E0 (tCons (tVar 5) (tCons (tLst tNil) (tCons (tVar 9) (tCons (tC (.int 1)) tNil))))) (gName 7)) (tSeq (tDrop (tMethR 7 (He.ga K "Machine") "go" (spOf K (F_Machine_go K)) E0 (tVar 7) (tCons (tC (.int 1)) tNil))) (tSeq (tAsg (tCall (spOf K (F__law_mk_agreed K)) [] E0 (tCons (tVar 10) (tCons (tOp (uIx K) (tVar 1) (tOp (uSub K) (tVar 3) (tC (.int 1)))) tNil))) (gName 8)) (tSeq (tFor (iRng1 (tCons (tVar 3) tNil)) (gName 6) (tSeq (tAsg (tIf (tTest (tOp (uEq K) (tVar 8) (tLst tNil))) (tOp (uIx K) (tVar 10) (tVar 6)) (tOp (uIx K) (tVar 8) (tC (.int 0)))) (gName 12)) (tSeq (tIfS (tTest (tOp (uNe K) (tTup (tCons (tMethR 7 (He.ga K "Machine") "registers" (spOf K (F_Machine_registers K)) E0 (tVar 7) (tCons (tVar 6) tNil)) (tCons (tMethR 7 (He.ga K "Machine") "cells" (spOf K (F_Machine_cells K)) E0 (tVar 7) (tCons (tVar 6) tNil)) tNil))) (tVar 12))) (tRet (tC (.bl false))) tNext) (tSeq (tAsg (tIf (tTest (tOp (uEq K) (tVar 8) (tLst tNil))) (tTup (tCons (tVar 6) (tCons (tC (.str (PySem.Str.ofString "offer"))) (tCons (tC (.int 4)) tNil)))) (tTup (tCons (tVar 6) (tCons (tC (.str (PySem.Str.ofString "set"))) (tCons (tC (.int 1)) (tCons (tC (.int 0)) tNil)))))) (gName 13)) (tIfS (tTest (tOp (uNe K) (tMethR 7 (He.ga K "Machine") "own" (spOf K (F_Machine_own K)) E0 (tVar 7) (tCons (tVar 6) (tCons (tOp (uAdd K) (tC (.int 3)) (tVar 6)) tNil))) (tVar 13))) (tRet (tC (.bl false))) tNext))))) (tSeq (tIfS (tTest (tOp (uEq K) (tVar 8) (tLst tNil))) (tRet ((tAndV (tOp (uEq K) (tPropR 7 (He.ga K "Machine") (spOf K (F_Machine_state K)) E0 (tVar 7)) (tC (.str (PySem.Str.ofString "caught")))) (tOp (uEq K) (tPropR 7 (He.ga K "Machine") (spOf K (F_Machine_slots K)) E0 (tVar 7)) (tOp (uMulT K) (tTup (tCons (tC (.int 1)) tNil)) (tVar 3)))))) tNext) (tRet ((tAndV (tOp (uEq K) (tPropR 7 (He.ga K "Machine") (spOf K (F_Machine_state K)) E0 (tVar 7)) (tC (.str (PySem.Str.ofString "running")))) (tAndV (tOp (uEq K) (tPropR 7 (He.ga K "Machine") (spOf K (F_Machine_slots K)) E0 (tVar 7)) (tOp (uMulT K) (tTup (tCons (tC .non) tNil)) (tVar 3))) (tOp (uEq K) (tPropR 7 (He.ga K "Machine") (spOf K (F_Machine_pointers K)) E0 (tVar 7)) (tOp (uMulT K) (tTup (tCons (tC (.int 2)) tNil)) (tVar 3)))))))))))))))))
theorem n__law_mk_mark_right {K : Frag} : ∀ args k, F__law_mk_mark_right K args k → args.length = 3 := by
  intro args k h
  simp only [F__law_mk_mark_right, pD] at h
  all_goals first
    | (exact False.elim h)
    | (repeat (obtain ⟨_, h⟩ := h)
       subst_vars
       rfl)
def t_law (K : Frag) : TS := (tSeq (tAsg (tCall (spOf K (F__law_begun K)) [] E0 (tCons (tVar 0) tNil)) (gName 1)) (tSeq (tFor (iRng1 (tCons (tC (.int 6)) tNil)) (gName 2) (tSeq (tPar 3 4 (tCons (tCallR 1 (spOf K (F__law_votes K)) E0 (tCons (tVar 1) tNil)) (tCons (tCallR 1 (spOf K (F__law_size K)) E0 (tCons (tVar 1) tNil)) tNil))) (tIfS ((tOr (tNot (tTru' K (tCallR 1 (spOf K (F__law_mk_slots_right K)) E0 (tCons (tVar 1) (tCons (tVar 3) (tCons (tVar 4) tNil)))))) (tNot (tTru' K (tCallR 1 (spOf K (F__law_mk_mark_right K)) E0 (tCons (tVar 1) (tCons (tVar 3) (tCons (tVar 4) tNil)))))))) (tRet (tC (.bl false))) tNext))) (tRet (tOp (uEq K) (tProp (He.ga K "Machine") (spOf K (F_Machine_slots K)) [] E0 (tMake (He.ga K "Machine") (spOf K (F_Machine___init__ K)) (dv_Machine K) E0 (tCons (tTup (tCons (tTup (tCons (tC (.int 1)) tNil)) (tCons (tC (.int 2)) (tCons (tTup (tCons (tTup (tCons (tC (.str (PySem.Str.ofString "stop"))) tNil)) tNil)) (tCons (tTup tNil) tNil))))) (tCons (tLst tNil) tNil)))) (tTup (tCons (tC .non) tNil))))))
theorem n_law {K : Frag} : ∀ args k, F_law K args k → args.length = 1 := by
  intro args k h
  simp only [F_law, pD] at h
  all_goals first
    | (exact False.elim h)
    | (repeat (obtain ⟨_, h⟩ := h)
       subst_vars
       rfl)
end Hw
namespace Hw
open PySem PySem.Spec PyProof.Rows L2 Dl
def runS (ss : List Strike) (hs : List HueD) : List HueD := ss.foldl (fun hs s => hs.modify s.hue.toNat (strikeH s.th)) hs
theorem runS_app {a b : List Strike} {hs : List HueD} : runS (a ++ b) hs = runS b (runS a hs) := List.foldl_append ..
theorem due_all {n : Int} : ∀ {ss : List Strike} {hs : List HueD}, (∀ s ∈ ss, s.step ≤ n) → dueL n ss hs = ([], runS ss hs)
  | [], hs, _ => rfl
  | s :: ss, hs, h => by
    show (if s.step ≤ n then dueL n ss (hs.modify s.hue.toNat (strikeH s.th)) else _) = _
    rw [if_pos (h s (by simp)), due_all fun x hx => h x (by simp [hx])]
    rfl
theorem due_later {n : Int} {ss : List Strike} {hs : List HueD} (h : ∀ s ∈ ss, n < s.step) : dueL n ss hs = (ss, hs) := by
  cases ss with
  | nil => rfl
  | cons s ss =>
    show (if s.step ≤ n then _ else _) = _
    rw [if_neg (by have := h s (by simp); omega)]
theorem modify_get {α : Type} {f : α → α} {l : List α} {i j : Nat} : (l.modify i f)[j]? = if i = j then l[j]?.map f else l[j]? := by
  rw [List.getElem?_modify]
  cases l[j]? with
  | none => by_cases h : i = j <;> simp [h]
  | some x => by_cases h : i = j <;> simp [h]
theorem runS_one {i : Nat} : ∀ {b : List Strike} {hs : List HueD}, (∀ s ∈ b, s.hue = (i : Int)) → runS b hs = hs.modify i fun h => b.foldl (fun h s => strikeH s.th h) h
  | [], hs, _ => by
    apply List.ext_getElem?
    intro j
    rw [modify_get]
    by_cases h : i = j
    · rw [if_pos h]
      show hs[j]? = _
      cases hs[j]? <;> rfl
    · rw [if_neg h]
      rfl
  | s :: b, hs, h => by
    show runS b (hs.modify s.hue.toNat (strikeH s.th)) = _
    rw [h s (by simp), Int.toNat_natCast, runS_one fun x hx => h x (by simp [hx])]
    apply List.ext_getElem?
    intro j
    rw [modify_get, modify_get, modify_get]
    by_cases e : i = j
    · rw [if_pos e, if_pos e, if_pos e, Option.map_map]
      rfl
    · rw [if_neg e, if_neg e, if_neg e]
theorem agreed_all {ns : List Int} {p need : Int} (h0 : ns ≠ []) (ha : ∀ n ∈ ns, n = p) (hn : need ≤ ns.length) : agreedI ns need = some p := by
  have e : ns = List.replicate ns.length p := List.eq_replicate_iff.mpr ⟨rfl, ha⟩
  cases ns with
  | nil => exact absurd rfl h0
  | cons x xs =>
    have hx := ha x (by simp)
    subst hx
    unfold agreedI
    rw [List.find?_cons_of_pos]
    rw [e, List.count_replicate_self]
    exact decide_eq_true (by simpa using hn)
theorem need_le {d : MD} (k : d.Ok) : d.need ≤ d.hues.length ∧ 1 ≤ d.hues.length := by
  obtain ⟨h1, h2, h3⟩ := k.code.votes
  rw [k.len]
  refine ⟨?_, h1⟩
  unfold MD.need needAt
  have hl : d.code.votes.length - 1 < d.code.votes.length := by omega
  have e := h3 _ _ (List.getElem?_eq_getElem hl)
  rw [List.getD_eq_getElem?_getD, List.getElem?_eq_getElem hl]
  show d.code.votes[d.code.votes.length - 1] ≤ _
  omega
theorem fetch_all {d : MD} {i : Nat} (k : d.Ok) (hp : ∀ h ∈ d.hues, h.ptr = (i : Int)) (hi : i < d.code.cells.length) : d.fetch = some (i : Int) := by
  obtain ⟨n1, n2⟩ := need_le k
  unfold MD.fetch
  rw [agreed_all (p := (i : Int)) (by simpa using (by intro e; rw [e] at n2; simp at n2 : d.hues ≠ [])) (fun n hn => by obtain ⟨h, hh, rfl⟩ := List.mem_map.mp hn; exact hp h hh) (by simpa using n1)]
  show (if (i : Int) < _ then _ else _) = _
  rw [if_pos (by omega)]
theorem go_one {d : MD} (k : d.state = .running) : d.go 1 = { d.due.step with addr := d.due.step.next } := by
  have e : MD.run 1 d = d.due.step := by
    show (if d.state = .running then MD.run 0 d.due.step else d) = _
    rw [if_pos k]
    rfl
  unfold MD.go
  rw [e]
def slotB (i : Nat) (o : Option Int) : List Strike := match o with
  | some v => [⟨0, (i : Int), .slot (some v)⟩]
  | none => []
def slotSs (os : List (Option Int)) : List Strike := os.zipIdx.flatMap fun p => slotB p.2 p.1
theorem slotSs_app {os : List (Option Int)} {o : Option Int} : slotSs (os ++ [o]) = slotSs os ++ slotB os.length o := by
  unfold slotSs
  rw [List.zipIdx_append, List.flatMap_append]
  simp
theorem slotSs_in {os : List (Option Int)} {s : Strike} (h : s ∈ slotSs os) : ∃ (i : Nat) (v : Int), os[i]? = some (some v) ∧ s = ⟨0, (i : Int), .slot (some v)⟩ := by
  obtain ⟨⟨o, i⟩, hm, hs⟩ := List.mem_flatMap.mp h
  have e := List.mem_zipIdx hm
  cases o with
  | none => cases hs
  | some v =>
    have hs : s ∈ [(⟨0, (i : Int), .slot (some v)⟩ : Strike)] := hs
    rw [List.mem_singleton] at hs
    refine ⟨i, v, ?_, hs⟩
    rw [List.getElem?_eq_getElem (by omega)]
    congr 1
    have := e.2.2
    simpa using this.symm
def slotTo (o : Option Int) (h : HueD) : HueD := { h with slot := o }
theorem slotSs_run {hs : List HueD} (h0 : ∀ h ∈ hs, h.slot = none) : ∀ (n : Nat) {os : List (Option Int)}, os.length = n → ∀ (i : Nat), (runS (slotSs os) hs)[i]? = hs[i]?.map (slotTo ((os[i]?).getD none)) := by
  intro n
  induction n with
  | zero =>
    intro os e i
    rw [List.eq_nil_of_length_eq_zero e]
    show hs[i]? = _
    cases e : hs[i]? with
    | none => rfl
    | some h =>
      have := h0 h (List.mem_of_getElem? e)
      show some h = some (slotTo none h)
      cases h
      simp only at this
      rw [this]
      rfl
  | succ n ih =>
    intro os e i
    obtain ⟨o2, o, rfl⟩ : ∃ o2 o, os = o2 ++ [o] := ⟨os.dropLast, os.getLast (by intro z; rw [z] at e; cases e), (List.dropLast_concat_getLast _).symm⟩
    have l2 : o2.length = n := by simpa using e
    rw [slotSs_app, runS_app, runS_one (i := o2.length) (fun s hs => by cases o with | none => cases hs | some v => simp [slotB] at hs; rw [hs]), modify_get, ih l2 i]
    by_cases hi : o2.length = i
    · subst hi
      rw [if_pos rfl, Option.map_map]
      cases hs[o2.length]? with
      | none => rfl
      | some h =>
        cases o with
        | none => simp [slotB, slotTo]
        | some v => simp [slotB, strikeH, slotTo]
    · rw [if_neg hi]
      by_cases h : i < o2.length
      · rw [List.getElem?_append_left h]
      · have a : o2[i]? = none := List.getElem?_eq_none (by omega)
        have b : (o2 ++ [o])[i]? = none := List.getElem?_eq_none (by simp; omega)
        rw [a, b]
def scell (b : Bool) (w : Int) : CellT := if b then .shw 2 w else .turn 2 w
def scod (vs : List Int) (size : Int) (b : Bool) (w : Int) : Code := ⟨vs, size, [scell b w, .stop, .goto 0], []⟩
theorem scod_ok {vs : List Int} {size w : Int} {b : Bool} (hv : votesOk vs) (hs : 2 ≤ size ∧ size ≤ 10000) (hw : 1 ≤ w ∧ w ≤ vs.length) : (scod vs size b w).Ok := by
  refine ⟨hv, hs, ⟨(by decide : 1 ≤ 3), (by decide : 3 ≤ 4000), fun x hx => ?_⟩, ⟨Nat.zero_le _, fun n hn => by cases hn⟩⟩
  have hx : x ∈ [scell b w, .stop, .goto 0] := hx
  simp only [List.mem_cons, List.not_mem_nil, or_false] at hx
  rcases hx with rfl | rfl | rfl
  · cases b
    · exact ⟨⟨by decide, (by decide : (2 : Int) ≤ 3 - 1)⟩, hw⟩
    · exact ⟨⟨by decide, by decide⟩, hw⟩
  · trivial
  · exact ⟨by decide, (by decide : (0 : Int) ≤ 3 - 1)⟩
theorem map_get_ext {α : Type} {l : List HueD} {f : HueD → α} {os : List α} (h : ∀ i : Nat, (l[i]?).map f = os[i]?) : l.map f = os := by
  apply List.ext_getElem?
  intro i
  rw [List.getElem?_map]
  exact h i
structure SlotEnd (vs : List Int) (b : Bool) (os : List (Option Int)) (o : Option Int) (d : MD) : Prop where
  ok : d.Ok
  len : d.hues.length = vs.length
  steps : d.steps = 1
  none_ : o = none → d.hues.map (·.slot) = os ∧ (∀ h ∈ d.hues, h.ptr = 0) ∧ d.state = .caught ∧ d.row = []
  some_ : ∀ n, o = some n → (∀ h ∈ d.hues, h.ptr = if b = false ∧ n ≠ 0 then 2 else 1) ∧ (∀ h ∈ d.hues, h.slot = none) ∧ d.state = .running ∧ d.row = if b = true then [.shw 2 n] else []
theorem slot_strikes {c : Code} {os : List (Option Int)} (hl : os.length = c.votes.length) (hv : c.votes.length ≤ 5) (ho : ∀ (i : Nat) (v : Int), os[i]? = some (some v) → 0 ≤ v ∧ v ≤ c.size - 1) : strikesOk c (slotSs os) := by
  have hall : ∀ s ∈ slotSs os, strikeOk c s ∧ s.step = 0 := fun s hs => by
    obtain ⟨i, v, e, rfl⟩ := slotSs_in hs
    have hi := (List.getElem?_eq_some_iff.mp e).1
    refine ⟨⟨⟨(by decide : (0 : Int) ≤ 0), (by decide : (0 : Int) ≤ 1000000)⟩, ⟨by show (0 : Int) ≤ i; omega, by show (i : Int) ≤ _; omega⟩, fun x hx => ?_⟩, rfl⟩
    cases hx
    exact ho i v e
  refine ⟨?_, fun s hs => (hall s hs).1, ?_⟩
  · have hb : ∀ (os : List (Option Int)) (n : Nat), os.length ≤ n → (slotSs os).length ≤ n := by
      intro os n h
      unfold slotSs
      rw [List.length_flatMap]
      have : ∀ (l : List (Option Int × Nat)), (l.map fun p => (slotB p.2 p.1).length).sum ≤ l.length := by
        intro l
        induction l with
        | nil => exact Nat.le_refl _
        | cons x xs ih =>
          obtain ⟨o, i⟩ := x
          rw [List.map_cons, List.sum_cons, List.length_cons]
          have : (slotB i o).length ≤ 1 := by cases o <;> simp [slotB]
          simp only at ih ⊢
          omega
      have := this os.zipIdx
      rw [List.length_zipIdx] at this
      omega
    exact Nat.le_trans (hb os 400 (by omega)) (Nat.le_refl _)
  · exact List.pairwise_of_forall_mem_list fun a ha b hb => by rw [(hall a ha).2, (hall b hb).2]; exact Int.le_refl _
theorem slots_end {vs : List Int} {size w : Int} {b : Bool} {os : List (Option Int)} (hv : votesOk vs) (hs : 2 ≤ size ∧ size ≤ 10000) (hw : 1 ≤ w ∧ w ≤ vs.length) (hl : os.length = vs.length) (ho : ∀ (i : Nat) (v : Int), os[i]? = some (some v) → 0 ≤ v ∧ v ≤ size - 1) :
    SlotEnd vs b os (agreedI ((os.take w.toNat).filterMap id) (needAt (scod vs size b w) w.toNat)) ((MD.new (scod vs size b w) [] (slotSs os)).go 1) := by
  have hc := scod_ok (b := b) hv hs hw
  have hss := slot_strikes (c := scod vs size b w) hl hv.2.1 ho
  have k0 := new_ok (left := []) hc hss.2.1
  have kg := go_ok (n := 1) k0
  rw [go_one rfl] at kg ⊢
  have kd := due_ok k0
  generalize hd : (MD.new (scod vs size b w) [] (slotSs os)).due = d at kg kd ⊢
  have e0 := due_all (n := 0) (ss := slotSs os) (hs := (MD.new (scod vs size b w) [] (slotSs os)).hues) (fun s hs => by obtain ⟨i, v, _, rfl⟩ := slotSs_in hs; exact Int.le_refl _)
  have hh : d.hues = runS (slotSs os) (vs.map fun _ => freshH []) := by rw [← hd]; exact congrArg Prod.snd e0
  have hcode : d.code = scod vs size b w := by rw [← hd]; rfl
  have hst : d.steps = 0 ∧ d.state = .running ∧ d.row = [] := by rw [← hd]; exact ⟨rfl, rfl, rfl⟩
  have hget : ∀ i : Nat, d.hues[i]? = ((vs.map fun _ => freshH [])[i]?).map (slotTo ((os[i]?).getD none)) := fun i => by
    rw [hh]
    exact slotSs_run (fun h hh => by obtain ⟨_, _, rfl⟩ := List.mem_map.mp hh; rfl) _ rfl i
  have hsl : d.hues.map (·.slot) = os := map_get_ext fun i => by
    rw [hget i, List.getElem?_map]
    by_cases hi : i < vs.length
    · rw [List.getElem?_eq_getElem hi, List.getElem?_eq_getElem (by omega : i < os.length)]
      rfl
    · have a : vs[i]? = none := List.getElem?_eq_none (by omega)
      have b : os[i]? = none := List.getElem?_eq_none (by omega)
      rw [a, b]
      rfl
  have hp0 : ∀ h ∈ d.hues, h.ptr = 0 := fun h hm => by
    obtain ⟨i, hi⟩ := List.getElem?_of_mem hm
    rw [hget i, List.getElem?_map] at hi
    cases e : vs[i]? with
    | none => rw [e] at hi; cases hi
    | some x => rw [e] at hi; cases hi; rfl
  have hlen : d.hues.length = vs.length := by rw [kd.len, hcode]; rfl
  have hf := fetch_all (i := 0) kd hp0 (by rw [hcode]; exact Nat.zero_lt_succ _)
  have hcell : d.code.cells[((0 : Nat) : Int).toNat]? = some (scell b w) := by rw [hcode]; rfl
  have hslots : (({ d with steps := d.steps + 1 } : MD)).slots w = (os.take w.toNat).filterMap id := by
    show (d.hues.take w.toNat).filterMap (·.slot) = _
    rw [← hsl, ← List.map_take, List.filterMap_map]
    rfl
  rw [step_some hf hcell] at kg ⊢
  have hat : (({ d with steps := d.steps + 1 } : MD)).at ((0 : Nat) : Int) (scell b w) = (({ d with steps := d.steps + 1 } : MD)).settle 0 (scell b w) := by cases b <;> rfl
  rw [hat] at kg ⊢
  have hneed : needAt (({ d with steps := d.steps + 1 } : MD)).code w.toNat = needAt (scod vs size b w) w.toNat := by show needAt d.code _ = _; rw [hcode]
  have hs1 : (0 : Int) + 1 = 1 := rfl
  cases b with
  | true =>
    have hset : (({ d with steps := d.steps + 1 } : MD)).settle 0 (.shw 2 w) = match agreedI ((({ d with steps := d.steps + 1 } : MD)).slots w) (needAt (({ d with steps := d.steps + 1 } : MD)).code w.toNat) with
      | none => { ({ d with steps := d.steps + 1 } : MD) with state := .caught }
      | some n => { ((({ d with steps := d.steps + 1 } : MD)).point (0 + 1)).empty with row := d.row ++ [.shw 2 n] } := rfl
    rw [hslots, hneed] at hset
    have hset2 : (({ d with steps := d.steps + 1 } : MD)).settle 0 (scell true w) = _ := hset
    rw [hset2] at kg ⊢
    cases ha : agreedI ((os.take w.toNat).filterMap id) (needAt (scod vs size true w) w.toNat) with
    | none =>
      rw [ha] at kg
      exact ⟨kg, hlen, by show d.steps + 1 = 1; rw [hst.1]; rfl, fun _ => ⟨hsl, hp0, rfl, hst.2.2⟩, fun n e => by cases e⟩
    | some n =>
      rw [ha] at kg
      refine ⟨kg, by show ((d.hues.map _).map _).length = _; rw [List.length_map, List.length_map]; exact hlen, by show d.steps + 1 = 1; rw [hst.1]; rfl, (fun e => by cases e), fun n' e => ?_⟩
      cases e
      refine ⟨fun h hm => ?_, fun h hm => ?_, hst.2.1, by show d.row ++ [.shw 2 n] = _; rw [hst.2.2]; rfl⟩
      · obtain ⟨x, hx, rfl⟩ := List.mem_map.mp hm
        obtain ⟨y, hy, rfl⟩ := List.mem_map.mp hx
        simp [emptyH, pointH]
      · obtain ⟨x, hx, rfl⟩ := List.mem_map.mp hm
        rfl
  | false =>
    have hset : (({ d with steps := d.steps + 1 } : MD)).settle 0 (.turn 2 w) = match agreedI ((({ d with steps := d.steps + 1 } : MD)).slots w) (needAt (({ d with steps := d.steps + 1 } : MD)).code w.toNat) with
      | none => { ({ d with steps := d.steps + 1 } : MD) with state := .caught }
      | some n => ((({ d with steps := d.steps + 1 } : MD)).point (if n ≠ 0 then 2 else 0 + 1)).empty := rfl
    rw [hslots, hneed] at hset
    have hset2 : (({ d with steps := d.steps + 1 } : MD)).settle 0 (scell false w) = _ := hset
    rw [hset2] at kg ⊢
    cases ha : agreedI ((os.take w.toNat).filterMap id) (needAt (scod vs size false w) w.toNat) with
    | none =>
      rw [ha] at kg
      exact ⟨kg, hlen, by show d.steps + 1 = 1; rw [hst.1]; rfl, fun _ => ⟨hsl, hp0, rfl, hst.2.2⟩, fun n e => by cases e⟩
    | some n =>
      rw [ha] at kg
      refine ⟨kg, by show ((d.hues.map _).map _).length = _; rw [List.length_map, List.length_map]; exact hlen, by show d.steps + 1 = 1; rw [hst.1]; rfl, (fun e => by cases e), fun n' e => ?_⟩
      cases e
      refine ⟨fun h hm => ?_, fun h hm => ?_, hst.2.1, by show d.row = _; rw [hst.2.2]; rfl⟩
      · obtain ⟨x, hx, rfl⟩ := List.mem_map.mp hm
        obtain ⟨y, hy, rfl⟩ := List.mem_map.mp hx
        simp [emptyH, pointH]
      · obtain ⟨x, hx, rfl⟩ := List.mem_map.mp hm
        rfl
end Hw
namespace Hw
open PySem PySem.Spec PyProof.Rows L2 Dl
def pairT (p : Pair) : PyData := .tuple [.tuple (iL p.1), .tuple (iL p.2)]
theorem eqv_pairT {p q : Pair} : PyData.eqv (pairT p) (pairT q) = decide (p = q) := by
  obtain ⟨a, b⟩ := p
  obtain ⟨c, d⟩ := q
  simp only [pairT, PyData.eqv, PyData.eqvAll, eqvAll_ints, Bool.and_true]
  by_cases h1 : a = c <;> by_cases h2 : b = d <;> simp [h1, h2]
theorem shp_pairT {p : Pair} {n : Nat} : Shp (n + 2) (pairT p) := .tuple fun x hx => by
  simp only [List.mem_cons, List.not_mem_nil, or_false] at hx
  rcases hx with rfl | rfl <;> exact .tuple shp_ints
theorem filter_pairs {ps : List Pair} {q : Pair} : ((ps.map pairT).filter fun e => PyData.eqv e (pairT q)).length = ps.count q := by
  induction ps with
  | nil => rfl
  | cons x xs ih =>
    rw [List.map_cons, List.count_cons]
    by_cases h : x = q
    · rw [List.filter_cons_of_pos (by rw [eqv_pairT, decide_eq_true h]), List.length_cons, ih, if_pos (by simp [h])]
    · rw [List.filter_cons_of_neg (by rw [eqv_pairT, decide_eq_false h]; decide), ih, if_neg (by simp [h])]
      rfl
theorem mkAgrD_pairs {ps : List Pair} {need : Int} : mkAgrD (ps.map pairT) need = (agreedP ps need).toList.map pairT := by
  unfold mkAgrD agreedP
  have e : (ps.map pairT).filter (manyD (ps.map pairT) need) = (ps.filter fun v => decide (need ≤ ((ps.count v : Nat) : Int))).map pairT := by
    rw [List.filter_map]
    congr 1
    apply List.filter_congr
    intro x _
    show decide (need ≤ (((((ps.map pairT).filter fun e => PyData.eqv e (pairT x)).length : Nat) : Int))) = _
    rw [filter_pairs]
  rw [e, ← List.head?_filter]
  cases ps.filter _ <;> rfl
theorem filter_ints {ns : List Int} {v : Int} : (((iL ns).filter fun e => PyData.eqv e (.int v)).length) = ns.count v := by
  unfold iL
  induction ns with
  | nil => rfl
  | cons x xs ih =>
    have he : PyData.eqv (.int x) (.int v) = decide (x = v) := by simp only [PyData.eqv]; by_cases h : x = v <;> simp [h]
    rw [List.map_cons, List.count_cons]
    by_cases h : x = v
    · rw [List.filter_cons_of_pos (by rw [he, decide_eq_true h]), List.length_cons, ih, if_pos (by simp [h])]
    · rw [List.filter_cons_of_neg (by rw [he, decide_eq_false h]; decide), ih, if_neg (by simp [h])]
      rfl
theorem mkAgrD_ints {ns : List Int} {need : Int} : mkAgrD (iL ns) need = iL (agreedI ns need).toList := by
  unfold mkAgrD agreedI
  have e : (iL ns).filter (manyD (iL ns) need) = iL (ns.filter fun v => decide (need ≤ ((ns.count v : Nat) : Int))) := by
    conv => lhs; arg 2; unfold iL
    unfold iL
    rw [List.filter_map]
    congr 1
    apply List.filter_congr
    intro x _
    show decide (need ≤ (((((iL ns).filter fun e => PyData.eqv e (.int x)).length : Nat) : Int))) = _
    rw [filter_ints]
  rw [e, ← List.head?_filter]
  cases ns.filter _ <;> rfl
structure Row where
  num : Int
  oth : Int
  drop : Bool
def mcells (n : Nat) : List CellT := [.ins 0 (.set 7 1), .mark, .stop] ++ (List.range n).map fun (i : Nat) => .ins (i : Int) (.set 1 0)
def mcod (vs : List Int) (size : Int) : Code := ⟨vs, size, mcells vs.length, [0, 1]⟩
def blk (i : Nat) (t : Row) : List Strike := [⟨1, i, .reg 2 t.num⟩, ⟨1, i, .cell 0 t.oth⟩, ⟨1, i, .code (3 + i) i (.offer 4)⟩, ⟨1, i, .slot (some 1)⟩] ++ (if t.drop = true then [⟨1, i, .reg 7 0⟩] else [])
def mSs (ts : List Row) : List Strike := ts.zipIdx.flatMap fun p => blk p.2 p.1
theorem mSs_app {ts : List Row} {t : Row} : mSs (ts ++ [t]) = mSs ts ++ blk ts.length t := by
  unfold mSs
  rw [List.zipIdx_append, List.flatMap_append]
  simp
def hit (i : Nat) (o : Option Row) (h : HueD) : HueD := match o with
  | some t => (blk i t).foldl (fun h s => strikeH s.th h) h
  | none => h
theorem blk_hue {i : Nat} {t : Row} {s : Strike} (h : s ∈ blk i t) : s.hue = (i : Int) ∧ s.step = 1 := by
  unfold blk at h
  cases hd : t.drop <;> simp [hd] at h
  · rcases h with rfl | rfl | rfl | rfl <;> exact ⟨rfl, rfl⟩
  · rcases h with rfl | rfl | rfl | rfl | rfl <;> exact ⟨rfl, rfl⟩
theorem mSs_run {hs : List HueD} : ∀ (n : Nat) {ts : List Row}, ts.length = n → ∀ (i : Nat), (runS (mSs ts) hs)[i]? = hs[i]?.map (hit i ts[i]?) := by
  intro n
  induction n with
  | zero =>
    intro ts e i
    rw [List.eq_nil_of_length_eq_zero e]
    show hs[i]? = _
    cases e : hs[i]? with
    | none => rfl
    | some h => rfl
  | succ n ih =>
    intro ts e i
    obtain ⟨o2, o, rfl⟩ : ∃ o2 o, ts = o2 ++ [o] := ⟨ts.dropLast, ts.getLast (by intro z; rw [z] at e; cases e), (List.dropLast_concat_getLast _).symm⟩
    have l2 : o2.length = n := by simpa using e
    rw [mSs_app, runS_app, runS_one (i := o2.length) (fun s hs => (blk_hue hs).1), modify_get, ih l2 i]
    by_cases hi : o2.length = i
    · subst hi
      rw [if_pos rfl, Option.map_map]
      cases hs[o2.length]? with
      | none => rfl
      | some h => simp [hit]
    · rw [if_neg hi]
      by_cases h : i < o2.length
      · rw [List.getElem?_append_left h]
      · have a : o2[i]? = none := List.getElem?_eq_none (by omega)
        have b : (o2 ++ [o])[i]? = none := List.getElem?_eq_none (by simp; omega)
        rw [a, b]
def rg (i : Nat) (t : Row) : List Int := [0, 0, t.num, 0, 0, 0, 0, if i = 0 then (if t.drop = true then 0 else 1) else 0]
def pairOf (p : Row × Nat) : Pair := (rg p.2 p.1, [p.1.oth, 1])
def hueM (i : Nat) (t : Row) : HueD := ⟨rg i t, [t.oth, 1], 1, some 1, [(3 + (i : Int), .ins i (.offer 4))]⟩
def rowsOk (ts : List Row) : Prop := ∀ (i : Nat) (t : Row), ts[i]? = some t → (0 ≤ t.num ∧ t.num ≤ 1) ∧ (0 ≤ t.oth ∧ t.oth ≤ 1) ∧ (t.drop = true → i = 0)
theorem mcell_len {n : Nat} : (mcells n).length = 3 + n := by simp [mcells]; omega
theorem mcell_get {n i : Nat} (h : i < n) : (mcells n)[3 + i]? = some (.ins (i : Int) (.set 1 0)) := by
  unfold mcells
  rw [List.getElem?_append_right (by simp), List.getElem?_map]
  have e : 3 + i - [CellT.ins 0 (.set 7 1), .mark, .stop].length = i := by show 3 + i - 3 = i; omega
  rw [e, List.getElem?_range h]
  rfl
theorem mcod_ok {vs : List Int} {size : Int} (hv : votesOk vs) (hs : 2 ≤ size ∧ size ≤ 10000) : (mcod vs size).Ok := by
  have h1 := hv.1
  have h5 := hv.2.1
  refine ⟨hv, hs, ⟨by show 1 ≤ (mcells _).length; rw [mcell_len]; omega, by show (mcells _).length ≤ _; rw [mcell_len]; omega, fun x hx => ?_⟩, ⟨(by decide : 2 ≤ 600), fun n hn => ?_⟩⟩
  · have hx : x ∈ [CellT.ins 0 (.set 7 1), .mark, .stop] ++ (List.range vs.length).map fun (i : Nat) => CellT.ins (i : Int) (.set 1 0) := hx
    rcases List.mem_append.mp hx with hx | hx
    · simp only [List.mem_cons, List.not_mem_nil, or_false] at hx
      rcases hx with rfl | rfl | rfl
      · exact ⟨⟨by omega, by show (0 : Int) ≤ (vs.length : Int) - 1; omega⟩, ⟨by decide, by decide⟩, by omega, by show (1 : Int) ≤ size - 1; omega⟩
      · trivial
      · trivial
    · obtain ⟨i, hi, rfl⟩ := List.mem_map.mp hx
      have := List.mem_range.mp hi
      exact ⟨⟨by omega, by show (i : Int) ≤ (vs.length : Int) - 1; omega⟩, ⟨by decide, by decide⟩, by omega, by show (0 : Int) ≤ size - 1; omega⟩
  · have hn : n ∈ [(0 : Int), 1] := hn
    simp only [List.mem_cons, List.not_mem_nil, or_false] at hn
    show 0 ≤ n ∧ n ≤ size - 1
    rcases hn with rfl | rfl <;> omega
theorem mark_strikes {vs : List Int} {size : Int} {ts : List Row} (hv : votesOk vs) (hs : 2 ≤ size ∧ size ≤ 10000) (hl : ts.length = vs.length) (hr : rowsOk ts) : strikesOk (mcod vs size) (mSs ts) := by
  have hall : ∀ s ∈ mSs ts, strikeOk (mcod vs size) s ∧ s.step = 1 := fun s h => by
    obtain ⟨⟨t, i⟩, hm, hb⟩ := List.mem_flatMap.mp h
    have e := List.mem_zipIdx hm
    have hi : i < ts.length := by omega
    have ht : ts[i]? = some t := by
      rw [List.getElem?_eq_getElem hi]
      have := e.2.2
      simpa using this.symm
    obtain ⟨r1, r2, r3⟩ := hr i t ht
    have hb : s ∈ blk i t := hb
    refine ⟨⟨by rw [(blk_hue hb).2]; exact ⟨by decide, by decide⟩, by rw [(blk_hue hb).1]; exact ⟨by omega, by show (i : Int) ≤ (vs.length : Int) - 1; omega⟩, ?_⟩, (blk_hue hb).2⟩
    rw [(blk_hue hb).1]
    unfold blk at hb
    rcases List.mem_append.mp hb with hb | hb
    · simp only [List.mem_cons, List.not_mem_nil, or_false] at hb
      rcases hb with rfl | rfl | rfl | rfl
      · exact ⟨⟨by decide, by decide⟩, r1.1, by show t.num ≤ size - 1; omega⟩
      · exact ⟨⟨by decide, (by decide : (0 : Int) ≤ 2 - 1)⟩, r2.1, by show t.oth ≤ size - 1; omega⟩
      · refine ⟨⟨by omega, by show 3 + (i : Int) ≤ ((mcells vs.length).length : Int) - 1; rw [mcell_len]; omega⟩, rfl, ⟨.set 1 0, ?_⟩, ⟨by decide, by decide⟩⟩
        have z : (3 + (i : Int)).toNat = 3 + i := by omega
        rw [z]
        exact mcell_get (by omega)
      · intro x hx
        cases hx
        exact ⟨by decide, by show (1 : Int) ≤ size - 1; omega⟩
    · split at hb
      · rw [List.mem_singleton] at hb
        rw [hb]
        exact ⟨⟨by decide, by decide⟩, by decide, by show (0 : Int) ≤ size - 1; omega⟩
      · cases hb
  refine ⟨?_, fun s hs => (hall s hs).1, List.pairwise_of_forall_mem_list fun a ha b hb => by rw [(hall a ha).2, (hall b hb).2]; exact Int.le_refl _⟩
  have hb : ∀ (l : List (Row × Nat)), (l.map fun p => (blk p.2 p.1).length).sum ≤ 5 * l.length := by
    intro l
    induction l with
    | nil => exact Nat.le_refl _
    | cons x xs ih =>
      obtain ⟨o, i⟩ := x
      rw [List.map_cons, List.sum_cons, List.length_cons]
      have : (blk i o).length ≤ 5 := by unfold blk; cases o.drop <;> simp
      simp only at ih ⊢
      omega
  unfold mSs
  rw [List.length_flatMap]
  have := hb ts.zipIdx
  rw [List.length_zipIdx] at this
  have := hv.2.1
  omega
end Hw
namespace Hw
open PySem PySem.Spec PyProof.Rows L2 Dl
def h1 (i : Nat) : HueD := ⟨if i = 0 then [0, 0, 0, 0, 0, 0, 0, 1] else [0, 0, 0, 0, 0, 0, 0, 0], [0, 1], 1, none, []⟩
structure M1 (vs : List Int) (size : Int) (ts : List Row) (d : MD) : Prop where
  ok : d.Ok
  code : d.code = mcod vs size
  strikes : d.strikes = mSs ts
  row : d.row = []
  steps : d.steps = 1
  state : d.state = .running
  hues : ∀ i : Nat, d.hues[i]? = if i < vs.length then some (h1 i) else none
theorem mstep {a : Nat} : a ≤ a := Nat.le_refl _
theorem mSs_step {ts : List Row} {s : Strike} (h : s ∈ mSs ts) : s.step = 1 := by
  obtain ⟨⟨t, i⟩, hm, hb⟩ := List.mem_flatMap.mp h
  exact (blk_hue hb).2
theorem mark_first {vs : List Int} {size : Int} {ts : List Row} (hv : votesOk vs) (hs : 2 ≤ size ∧ size ≤ 10000) (hl : ts.length = vs.length) (hr : rowsOk ts) : M1 vs size ts ((MD.new (mcod vs size) [] (mSs ts)).go 1) := by
  have hc := mcod_ok hv hs
  have hss := mark_strikes hv hs hl hr
  have k0 := new_ok (left := []) hc hss.2.1
  have kg := go_ok (n := 1) k0
  have hd : (MD.new (mcod vs size) [] (mSs ts)).due = MD.new (mcod vs size) [] (mSs ts) := by
    have e := due_later (n := 0) (ss := mSs ts) (hs := (MD.new (mcod vs size) [] (mSs ts)).hues) (fun s h => by rw [mSs_step h]; decide)
    unfold MD.due
    have e2 : dueL (MD.new (mcod vs size) [] (mSs ts)).steps (MD.new (mcod vs size) [] (mSs ts)).strikes (MD.new (mcod vs size) [] (mSs ts)).hues = (mSs ts, (MD.new (mcod vs size) [] (mSs ts)).hues) := e
    rw [e2]
    rfl
  rw [go_one rfl, hd] at kg ⊢
  have hf := fetch_all (i := 0) k0 (fun h hm => by obtain ⟨_, _, rfl⟩ := List.mem_map.mp hm; rfl) (by show 0 < (mcells vs.length).length; rw [mcell_len]; omega)
  have hcell : (MD.new (mcod vs size) [] (mSs ts)).code.cells[((0 : Nat) : Int).toNat]? = some (.ins 0 (.set 7 1)) := rfl
  rw [step_some hf hcell] at kg ⊢
  refine ⟨kg, rfl, rfl, rfl, rfl, rfl, fun i => ?_⟩
  show (((vs.map fun _ => freshH [0, 1]).map (pointH (((0 : Nat) : Int) + 1))).modify (0 : Int).toNat _)[i]? = _
  rw [show (0 : Int).toNat = 0 from rfl, modify_get, List.getElem?_map, List.getElem?_map]
  by_cases hi : i < vs.length
  · rw [if_pos hi, List.getElem?_eq_getElem hi]
    by_cases h : 0 = i
    · subst h
      rfl
    · rw [if_neg h]
      show some _ = some (h1 i)
      unfold h1
      rw [if_neg (fun z => h z.symm)]
      rfl
  · rw [if_neg hi, List.getElem?_eq_none (by omega)]
    by_cases h : 0 = i
    · rw [if_pos h]
      rfl
    · rw [if_neg h]
      rfl
theorem hit_h1 {i : Nat} {t : Row} (hd : t.drop = true → i = 0) : hit i (some t) (h1 i) = hueM i t := by
  obtain ⟨n, o, b⟩ := t
  cases b with
  | true =>
    have := hd rfl
    subst this
    rfl
  | false =>
    by_cases h : i = 0
    · subst h
      rfl
    · unfold h1 hueM rg
      rw [if_neg h, if_neg h]
      rfl
structure MarkEnd (vs : List Int) (size : Int) (ts : List Row) (o : Option Pair) (d : MD) : Prop where
  ok : d.Ok
  code : d.code = mcod vs size
  len : d.hues.length = vs.length
  none_ : o = none → d.state = .caught ∧ ∀ (i : Nat) (t : Row), ts[i]? = some t → d.hues[i]? = some (hueM i t)
  some_ : ∀ q, o = some q → d.state = .running ∧ ∀ (i : Nat) (t : Row), ts[i]? = some t → d.hues[i]? = some ⟨q.1, q.2, 2, none, []⟩
theorem mark_end {vs : List Int} {size : Int} {ts : List Row} {d0 : MD} (hl : ts.length = vs.length) (hr : rowsOk ts) (k : M1 vs size ts d0) :
    MarkEnd vs size ts (agreedP (ts.zipIdx.map pairOf) (needAt (mcod vs size) vs.length)) (d0.go 1) := by
  have kg := go_ok (n := 1) k.ok
  have kd := due_ok k.ok
  rw [go_one k.state] at kg ⊢
  generalize hd : d0.due = d at kg kd ⊢
  have e0 := due_all (n := d0.steps) (ss := d0.strikes) (hs := d0.hues) (fun s hs => by rw [k.strikes] at hs; rw [mSs_step hs, k.steps]; exact Int.le_refl _)
  have hh : d.hues = runS (mSs ts) d0.hues := by rw [← hd, ← k.strikes]; exact congrArg Prod.snd e0
  have hcode : d.code = mcod vs size := by rw [← hd]; exact k.code
  have hst : d.state = .running := by rw [← hd]; exact k.state
  have hget : ∀ (i : Nat) (t : Row), ts[i]? = some t → d.hues[i]? = some (hueM i t) := fun i t e => by
    have hi := (List.getElem?_eq_some_iff.mp e).1
    rw [hh, mSs_run _ rfl i, k.hues i, if_pos (by omega), e]
    exact congrArg some (hit_h1 (hr i t e).2.2)
  have hlen : d.hues.length = vs.length := by rw [kd.len, hcode]; rfl
  have hall : ∀ h ∈ d.hues, h.ptr = ((1 : Nat) : Int) := fun h hm => by
    obtain ⟨i, hi⟩ := List.getElem?_of_mem hm
    have hil := (List.getElem?_eq_some_iff.mp hi).1
    rw [hget i _ (List.getElem?_eq_getElem (by omega))] at hi
    cases hi
    rfl
  have hf := fetch_all (i := 1) kd hall (by rw [hcode]; show 1 < (mcells vs.length).length; rw [mcell_len]; omega)
  have hcell : d.code.cells[((1 : Nat) : Int).toNat]? = some .mark := by rw [hcode]; rfl
  have hpairs : d.hues.map (fun h => ((h.regs, h.bank) : Pair)) = ts.zipIdx.map pairOf := by
    apply List.ext_getElem?
    intro i
    rw [List.getElem?_map, List.getElem?_map, List.getElem?_zipIdx]
    cases e : ts[i]? with
    | none =>
      rw [List.getElem?_eq_none (by have := List.getElem?_eq_none_iff.mp e; omega)]
      rfl
    | some t =>
      rw [hget i t e]
      simp [pairOf, hueM]
  have hneed : ({ d with steps := d.steps + 1 } : MD).need = needAt (mcod vs size) vs.length := by
    show needAt d.code d.code.votes.length = _
    rw [hcode]
    rfl
  rw [step_some hf hcell] at kg ⊢
  have hset : ({ d with steps := d.steps + 1 } : MD).at ((1 : Nat) : Int) .mark = match agreedP (d.hues.map fun h => (h.regs, h.bank)) ({ d with steps := d.steps + 1 } : MD).need with
    | none => { ({ d with steps := d.steps + 1 } : MD) with state := .caught }
    | some q => (({ ({ d with steps := d.steps + 1 } : MD) with hues := d.hues.map (markH q) } : MD).point (((1 : Nat) : Int) + 1)).empty := rfl
  rw [hpairs, hneed] at hset
  rw [hset] at kg ⊢
  cases ha : agreedP (ts.zipIdx.map pairOf) (needAt (mcod vs size) vs.length) with
  | none =>
    rw [ha] at kg
    exact ⟨kg, hcode, hlen, fun _ => ⟨rfl, hget⟩, fun q e => by cases e⟩
  | some q =>
    rw [ha] at kg
    refine ⟨kg, hcode, by show (((d.hues.map _).map _).map _).length = _; rw [List.length_map, List.length_map, List.length_map]; exact hlen, (fun e => by cases e), fun q' e => ?_⟩
    cases e
    refine ⟨hst, fun i t e => ?_⟩
    show (((d.hues.map _).map _).map _)[i]? = _
    rw [List.getElem?_map, List.getElem?_map, List.getElem?_map, hget i t e]
    rfl
end Hw
namespace Hw
open PySem PySem.Spec PyProof.Rows L2 Dl
local macro_rules | `(tactic| walk_at "dbt") => `(tactic| first | assumption | rfl | (decide +kernel) | (simp [isFromD, *]; done) | (simp [isFromD, *]; omega))
local macro_rules | `(tactic| walk_at "d1") => `(tactic| first
  | with_reducible refine x_seq ?_ | with_reducible refine x_if' ?_ | with_reducible refine x_ret ?_ | with_reducible refine x_asg ?_ | with_reducible refine x_next ?_ | with_reducible refine x_expr ?_
  | with_reducible refine e_isi2 (by decide) (by decide) ?_
  | with_reducible refine e_dat rfl ?_ | with_reducible refine e_int ?_ | with_reducible refine e_str ?_ | with_reducible refine e_bl ?_ | with_reducible refine e_non ?_ | with_reducible refine e_op ?_ | with_reducible refine e_cb ?_ | with_reducible refine e_call ?_
  | with_reducible refine a_cons ?_ | with_reducible refine a_nil ?_
  | with_reducible refine b_test ?_ | with_reducible refine b_not ?_ | with_reducible refine b_and' ?_ | with_reducible refine b_or' ?_ | with_reducible refine b_tru ?_
  | with_reducible refine e_andV' ?_ | with_reducible refine e_orV' ?_ | with_reducible refine e_notV ?_ | with_reducible refine e_chain' ?_ | with_reducible refine e_if' ?_ | with_reducible refine e_c ?_ | with_reducible refine e_sl ?_ | with_reducible refine o_no ?_ | with_reducible refine o_some ?_ | with_reducible refine e_neg ?_
  | with_reducible refine e_raw rfl ?_ | with_reducible refine e_res rfl ?_ | with_reducible refine g_name ?_
  | with_reducible refine op_add_i ?_ | with_reducible refine op_sub_i ?_ | with_reducible refine op_lt_i ?_ | with_reducible refine op_le_i ?_ | with_reducible refine op_gt_i ?_ | with_reducible refine op_ge_i ?_ | with_reducible refine op_isnone ?_ | with_reducible refine op_notnone ?_
  | with_reducible refine cb_isi (by decide) ?_ | with_reducible refine cb_max2 ?_ | with_reducible refine cb_min2 ?_ | with_reducible refine cb_abs ?_ | with_reducible refine cb_int ?_ | with_reducible refine cb_len rfl ?_
  | with_reducible refine iteT ?_ | with_reducible refine iteF ?_ | ((with_reducible refine iT ?_ ?_); focus (walk_at "dbt"; done)) | ((with_reducible refine iF ?_ ?_); focus (walk_at "dbt"; done))
  | ((with_reducible refine g_tup ?_ ?_); (focus rfl)) | with_reducible refine gs_cons ?_ | with_reducible refine gs_nil ?_
  | with_reducible refine e_tup' ?_ | with_reducible refine e_lst' ?_ | with_reducible refine op_in2 ?_ | with_reducible refine op_ni3 ?_
  | with_reducible refine op_eq_ii ?_ | with_reducible refine op_ne_ii ?_ | ((with_reducible refine op_eq_ss ?_ ?_ ?_); (focus (decide +kernel)); (focus (decide +kernel))) | ((with_reducible refine op_ne_ss ?_ ?_ ?_); (focus (decide +kernel)); (focus (decide +kernel)))
  | ((with_reducible refine op_eq_d ?_ ?_ ?_); (focus (walk_at "dbt")); (focus (walk_at "dbt")))
  | ((with_reducible refine op_ne_d ?_ ?_ ?_); (focus (walk_at "dbt")); (focus (walk_at "dbt")))
  | ((with_reducible refine op_ix' ?_); refine Exists.intro _ (Exists.intro _ (And.intro rfl (And.intro rfl ?_))))
  | ((with_reducible refine op_mul_il ?_ ?_); (focus (decide +kernel))) | ((with_reducible refine op_mul_ir ?_ ?_); (focus (decide +kernel)))
  | ((with_reducible refine And.intro (a := smallL _ = true) ?_ ?_); (focus rfl)) | ((with_reducible refine And.intro (a := Pers _) ?_ ?_); (focus trivial)) | with_reducible refine d_cons ?_ | with_reducible refine d_nil ?_
  | (with_reducible refine Exists.intro _ (And.intro rfl ?_)) | (with_reducible refine Exists.intro _ (Exists.intro _ (And.intro rfl (And.intro rfl ?_)))) | refine Exists.intro _ (And.intro rfl (And.intro (by rfl) ?_)) | refine Exists.intro _ (Exists.intro _ (And.intro rfl (And.intro rfl ?_))) | with_reducible refine dat_ok ?_ | dsimp only | fail)
section
variable {K : Frag} {Γ : List Sl} {k : Sl → List Sl → Prop} {O : Out}
theorem op_eq_same {d : PyData} (h : Shp 60 d) (hk : k (.dat (.bool true)) Γ) : OpK K (uEq K) (.dat d) (.dat d) Γ k := op_eq_d (h.shaped) (h.shaped) (by
  rw [SeqAt.eqv_refl d h.lay]
  exact hk)
theorem b__law_mk_agreed {mg : Str → Option Value} (T : TX K mg) : ∀ args k, F__law_mk_agreed K args k → ExS K (t__law_mk_agreed K) (args ++ List.replicate (5 - args.length) .no) (fnOut args k) := by
  rintro args k ⟨ds, need, hsh, h⟩
  refine bodyD h rfl ?_
  show ExS K _ [.dat (.list ds), .dat (.int need), .no, .no, .no] _
  unfold t__law_mk_agreed
  refine x_seq (x_asg (e_lc1 (manyD ds need) id (e_dat rfl ⟨_, _, rfl, rfl, fun x hx => ?_, ?_⟩)))
  · refine b_test (e_op (e_cb (a_cons (e_lc1 (fun y => PyData.eqv y x) id (e_dat rfl ⟨_, _, rfl, rfl, fun y hy => ?_, ?_⟩)))))
    · refine b_test (e_op (e_dat rfl (e_dat rfl (op_eq_d ((hsh y hy).shaped) ((hsh x hx).shaped) ⟨_, rfl, rfl, ?_⟩))))
      split
      · repeat' walk_at "d1"
        exact ⟨rfl, rfl⟩
      · rfl
    · refine a_nil (cb_len rfl ?_)
      rw [List.map_id]
      repeat' walk_at "d1"
      refine ⟨rfl, ?_⟩
      split
      · repeat' walk_at "d1"
        exact ⟨rfl, rfl⟩
      · rfl
  · rw [List.map_id]
    repeat' walk_at "d1"
    · unfold mkAgrD cutG
      generalize List.filter _ ds = l
      cases l with
      | nil => rfl
      | cons x xs =>
        have e : HT.sIx (x :: xs).length (x :: xs).length (some 1) = 1 := by
          simp [HT.sIx]
        have e0 : HT.sIx (x :: xs).length 0 none = 0 := rfl
        rw [e, e0]
        rfl
theorem u__law_mk_agreed {ds : List PyData} {need : Int} {k : Sl → List Sl → Prop} (hs : ∀ d ∈ ds, Shp 59 d) (h : k (.dat (.list (mkAgrD ds need))) [.dat (.list ds), .dat (.int need)]) : F__law_mk_agreed K [.dat (.list ds), .dat (.int need)] k := ⟨ds, need, hs, rfl, h⟩
theorem e_p7 {m : Mach} {F : Frag → FSpec} (hj : Γ[7]? = some (.res (m.R K))) (h : F K [.res (m.R K)] fun r0 as' => ∃ r' : Res, as'[0]? = some (.res r') ∧ r'.v = (m.R K).v ∧ as'.length = 1 ∧ k r0 (Γ.set 7 (.res r'))) :
    EvP K (tPropR 7 (He.ga K "Machine") (spOf K (F K)) E0 (tVar 7)) Γ k := e_propR hj (isIns_star (n := 0) rfl (by decide)) h
end
end Hw
namespace Hw
open PySem PySem.Spec PyProof.Rows L2 Dl
local macro_rules | `(tactic| walk_at "dbt") => `(tactic| first | assumption | rfl | (decide +kernel) | (simp [isFromD, *]; done) | (simp [isFromD, *]; omega))
local macro_rules | `(tactic| walk_at "d1") => `(tactic| first
  | with_reducible refine x_seq ?_ | with_reducible refine x_if' ?_ | with_reducible refine x_ret ?_ | with_reducible refine x_asg ?_ | with_reducible refine x_next ?_ | with_reducible refine x_expr ?_
  | with_reducible refine e_isi2 (by decide) (by decide) ?_
  | with_reducible refine e_dat rfl ?_ | with_reducible refine e_int ?_ | with_reducible refine e_str ?_ | with_reducible refine e_bl ?_ | with_reducible refine e_non ?_ | with_reducible refine e_op ?_ | with_reducible refine e_cb ?_ | with_reducible refine e_call ?_
  | with_reducible refine a_cons ?_ | with_reducible refine a_nil ?_
  | with_reducible refine b_test ?_ | with_reducible refine b_not ?_ | with_reducible refine b_and' ?_ | with_reducible refine b_or' ?_ | with_reducible refine b_tru ?_
  | with_reducible refine e_andV' ?_ | with_reducible refine e_orV' ?_ | with_reducible refine e_notV ?_ | with_reducible refine e_chain' ?_ | with_reducible refine e_if' ?_ | with_reducible refine e_c ?_ | with_reducible refine e_sl ?_ | with_reducible refine o_no ?_ | with_reducible refine o_some ?_ | with_reducible refine e_neg ?_
  | with_reducible refine e_raw rfl ?_ | with_reducible refine e_res rfl ?_ | with_reducible refine g_name ?_
  | with_reducible refine op_add_i ?_ | with_reducible refine op_sub_i ?_ | with_reducible refine op_lt_i ?_ | with_reducible refine op_le_i ?_ | with_reducible refine op_gt_i ?_ | with_reducible refine op_ge_i ?_ | with_reducible refine op_isnone ?_ | with_reducible refine op_notnone ?_
  | with_reducible refine cb_isi (by decide) ?_ | with_reducible refine cb_max2 ?_ | with_reducible refine cb_min2 ?_ | with_reducible refine cb_abs ?_ | with_reducible refine cb_int ?_ | with_reducible refine cb_len rfl ?_
  | with_reducible refine iteT ?_ | with_reducible refine iteF ?_ | ((with_reducible refine iT ?_ ?_); focus (walk_at "dbt"; done)) | ((with_reducible refine iF ?_ ?_); focus (walk_at "dbt"; done))
  | ((with_reducible refine g_tup ?_ ?_); (focus rfl)) | with_reducible refine gs_cons ?_ | with_reducible refine gs_nil ?_
  | with_reducible refine e_tup' ?_ | with_reducible refine e_lst' ?_ | with_reducible refine op_in2 ?_ | with_reducible refine op_ni3 ?_
  | with_reducible refine op_eq_ii ?_ | with_reducible refine op_ne_ii ?_ | ((with_reducible refine op_eq_ss ?_ ?_ ?_); (focus (decide +kernel)); (focus (decide +kernel))) | ((with_reducible refine op_ne_ss ?_ ?_ ?_); (focus (decide +kernel)); (focus (decide +kernel)))
  | ((with_reducible refine op_eq_d ?_ ?_ ?_); (focus (walk_at "dbt")); (focus (walk_at "dbt")))
  | ((with_reducible refine op_ne_d ?_ ?_ ?_); (focus (walk_at "dbt")); (focus (walk_at "dbt")))
  | ((with_reducible refine op_ix' ?_); refine Exists.intro _ (Exists.intro _ (And.intro rfl (And.intro rfl ?_))))
  | ((with_reducible refine op_mul_il ?_ ?_); (focus (decide +kernel))) | ((with_reducible refine op_mul_ir ?_ ?_); (focus (decide +kernel)))
  | ((with_reducible refine And.intro (a := smallL _ = true) ?_ ?_); (focus rfl)) | ((with_reducible refine And.intro (a := Pers _) ?_ ?_); (focus trivial)) | with_reducible refine d_cons ?_ | with_reducible refine d_nil ?_
  | (with_reducible refine Exists.intro _ (And.intro rfl ?_)) | (with_reducible refine Exists.intro _ (Exists.intro _ (And.intro rfl (And.intro rfl ?_)))) | refine Exists.intro _ (And.intro rfl (And.intro (by rfl) ?_)) | refine Exists.intro _ (Exists.intro _ (And.intro rfl (And.intro rfl ?_))) | with_reducible refine dat_ok ?_ | dsimp only | fail)
local macro_rules | `(tactic| walk_at "d1") => `(tactic| first | with_reducible refine e_callR ?_)
section
variable {K : Frag} {mg : Str → Option Value} {Γ : List Sl} {k : Sl → List Sl → Prop} {O : Out}
def t_k12S (K : Frag) : TS := (tSeq (tAsg (tCall (spOf K (F__law_mk_agreed K)) [] E0 (tCons (tLc (iSq K (tSl (rSlU K) (tVar 4) tNoPart (tPart (tVar 10)))) (gName 14) (tTest (tOp (uIsNot K) (tVar 14) (tC .non))) (tVar 14) [14]) (tCons (tOp (uIx K) (tVar 1) (tOp (uSub K) (tVar 10) (tC (.int 1)))) tNil))) (gName 8)) (tSeq (tIfS (tTest (tOp (uEq K) (tVar 8) (tLst tNil))) (tSeq (tAsg ((tAndV (tOp (uEq K) (tPropR 7 (He.ga K "Machine") (spOf K (F_Machine_slots K)) E0 (tVar 7)) (tCB (rTupU K) (tCons (tVar 4) tNil))) (tOp (uEq K) (tPropR 7 (He.ga K "Machine") (spOf K (F_Machine_pointers K)) E0 (tVar 7)) (tOp (uMulT K) (tTup (tCons (tC (.int 0)) tNil)) (tCB (Dl.rLen K) (tCons (tVar 1) tNil)))))) (gName 12)) (tRet ((tAndV (tVar 12) (tAndV (tOp (uEq K) (tPropR 7 (He.ga K "Machine") (spOf K (F_Machine_state K)) E0 (tVar 7)) (tC (.str (PySem.Str.ofString "caught")))) (tAndV (tOp (uEq K) (tPropR 7 (He.ga K "Machine") (spOf K (F_Machine_row K)) E0 (tVar 7)) (tLst tNil)) (tOp (uEq K) (tPropR 7 (He.ga K "Machine") (spOf K (F_Machine_steps K)) E0 (tVar 7)) (tC (.int 1))))))))) tNext) (tSeq (tAsg (tIf ((tAnd (tTest (tOp (uEq K) (tVar 11) (tC (.str (PySem.Str.ofString "turn"))))) (tTest (tOp (uNe K) (tOp (uIx K) (tVar 8) (tC (.int 0))) (tC (.int 0)))))) (tC (.int 2)) (tC (.int 1))) (gName 9)) (tSeq (tIfS ((tOr (tTest (tOp (uNe K) (tPropR 7 (He.ga K "Machine") (spOf K (F_Machine_pointers K)) E0 (tVar 7)) (tOp (uMulT K) (tTup (tCons (tVar 9) tNil)) (tCB (Dl.rLen K) (tCons (tVar 1) tNil))))) (tTest (tOp (uNe K) (tPropR 7 (He.ga K "Machine") (spOf K (F_Machine_slots K)) E0 (tVar 7)) (tOp (uMulT K) (tTup (tCons (tC .non) tNil)) (tCB (Dl.rLen K) (tCons (tVar 1) tNil))))))) (tRet (tC (.bl false))) tNext) (tSeq (tIfS (tTest (tOp (uNe K) (tPropR 7 (He.ga K "Machine") (spOf K (F_Machine_state K)) E0 (tVar 7)) (tC (.str (PySem.Str.ofString "running"))))) (tRet (tC (.bl false))) tNext) (tRet (tOp (uEq K) (tPropR 7 (He.ga K "Machine") (spOf K (F_Machine_row K)) E0 (tVar 7)) (tIf (tTest (tOp (uEq K) (tVar 11) (tC (.str (PySem.Str.ofString "show"))))) (tLst (tCons (tTup (tCons (tC (.str (PySem.Str.ofString "show"))) (tCons (tC (.int 2)) (tCons (tOp (uIx K) (tVar 8) (tC (.int 0))) tNil)))) tNil)) (tLst tNil)))))))))
theorem cut_os {os : List (Option Int)} {w : Int} (hw : 1 ≤ w ∧ w ≤ os.length) : cutG (os.map optD) none (some w) = (os.take w.toNat).map optD := by
  unfold cutG
  have e0 : HT.sIx (os.map optD).length 0 none = 0 := rfl
  have e1 : HT.sIx (os.map optD).length (os.map optD).length (some w) = w.toNat := by
    show (if w < 0 then _ else min w.toNat (os.map optD).length) = _
    rw [if_neg (by omega), List.length_map]
    omega
  rw [e0, e1, List.drop_zero, Nat.sub_zero, List.map_take]
theorem flt_os {os : List (Option Int)} : ((os.map optD).filter fun d => !isNoneD d).map id = iL (os.filterMap id) := by
  rw [List.map_id]
  unfold iL
  induction os with
  | nil => rfl
  | cons o os ih =>
    cases o with
    | none => rw [List.map_cons, List.filter_cons_of_neg (by simp [optD, isNoneD]), ih]; rfl
    | some v => rw [List.map_cons, List.filter_cons_of_pos (by simp [optD, isNoneD]), ih]; rfl
theorem shp_ints59 {ns : List Int} : ∀ d ∈ iL ns, Shp 59 d := shp_ints
theorem shp_os {os : List (Option Int)} {n : Nat} : Shp (n + 1) (.tuple (os.map optD)) := .tuple fun x hx => by
  obtain ⟨o, _, rfl⟩ := List.mem_map.mp hx
  exact shp_opt
theorem all_eq_rep {α : Type} {l : List Hue} {f : HueD → α} {x : α} {n : Nat} (hl : l.length = n) (h : ∀ y ∈ l.map (·.d), f y = x) : l.map (fun y => f y.d) = List.replicate n x :=
  List.eq_replicate_iff.mpr ⟨by rw [List.length_map]; exact hl, fun y hy => by obtain ⟨z, hz, rfl⟩ := List.mem_map.mp hy; exact h _ (List.mem_map.mpr ⟨z, hz, rfl⟩)⟩
theorem shp_rep {d : PyData} {n m : Nat} (h : Shp m d) : Shp (m + 1) (.tuple (List.replicate n d)) := .tuple fun x hx => by rw [List.eq_of_mem_replicate hx]; exact h
theorem iL_rep {n : Nat} {x : Int} : iL (List.replicate n x) = List.replicate n (.int x) := by unfold iL; rw [List.map_replicate]
theorem k12_slots (T : TX K mg) {vs : List Int} {size w : Int} {b : Bool} {os : List (Option Int)} {wd : Str} (hwd : wd = if b = true then PySem.Str.ofString "show" else PySem.Str.ofString "turn") {m : Mach} {s0 s3 s5 s6 s8 s9 s12 s13 : Sl} (hvs : votesOk vs) (hwb : 1 ≤ w ∧ w ≤ vs.length) (hol : os.length = vs.length)
    (SE : SlotEnd vs b os (agreedI ((os.take w.toNat).filterMap id) (needAt (scod vs size b w) w.toNat)) m.D)
    (hk : ∀ y6 y8 y9 y12 y13 y14 (y7 : Sl), O.rt (.dat (.bool true)) [s0, .dat (.tuple (iL vs)), .dat (.int size), s3, .dat (.list (os.map optD)), s5, y6, y7, y8, y9, .dat (.int w), .dat (.str wd), y12, y13, y14]) :
    ExS K (t_k12S K) [s0, .dat (.tuple (iL vs)), .dat (.int size), s3, .dat (.list (os.map optD)), s5, s6, .res (m.R K), s8, s9, .dat (.int w), .dat (.str wd), s12, s13, .no] O := by
  have hlv : (iL vs).length = vs.length := List.length_map ..
  have hn5 := hvs.2.1
  have hn1 := hvs.1
  have hml : m.hues.length = vs.length := by rw [← SE.len]; exact (List.length_map ..).symm
  unfold t_k12S
  refine x_seq (x_asg (e_call (a_cons (e_lc1 (fun d => !isNoneD d) id (e_sl (e_dat rfl (o_no (o_some (e_dat rfl ⟨_, rfl, ?_⟩)))))))))
  have hpt : ∀ G : Int, (∀ h ∈ m.D.hues, h.ptr = G) → iL (m.hues.map (·.d.ptr)) = List.replicate vs.length (.int G) := fun G hG => by
    rw [all_eq_rep (f := fun h => h.ptr) hml hG, iL_rep]
  refine ⟨_, _, rfl, rfl, _, _, rfl, rfl, fun x hx => ?_, ?_⟩
  · rw [cut_os (by omega)] at hx
    obtain ⟨o, _, rfl⟩ := List.mem_map.mp hx
    refine b_test (e_op (e_dat rfl (e_non (op_notnone ⟨_, rfl, ?_⟩))))
    cases o with
    | none => exact ⟨rfl, by rw [if_neg (by decide)]; rfl⟩
    | some v =>
      refine ⟨rfl, ?_⟩
      split
      · exact e_dat rfl ⟨rfl, rfl⟩
      · rename_i h
        exact absurd rfl h
  rw [cut_os (by omega), flt_os]
  have hneed : atI (iL vs) (w - 1) = some (.int (needAt (scod vs size b w) w.toNat)) := by
    have e : w - 1 = ((w.toNat - 1 : Nat) : Int) := by omega
    rw [e]
    refine atI_nat ?_
    unfold needAt iL
    have hl : w.toNat - 1 < vs.length := by omega
    rw [List.getElem?_map, List.getElem?_eq_getElem hl]
    show some (PyData.int _) = some (PyData.int (vs.getD (w.toNat - 1) 0))
    rw [List.getD_eq_getElem?_getD, List.getElem?_eq_getElem hl]
    rfl
  refine a_cons (e_op (e_dat rfl (e_op (e_dat rfl (e_int (op_sub_i (op_ix_d rfl hneed (a_nil ?_))))))))
  refine u__law_mk_agreed shp_ints59 (g_name ?_)
  rw [mkAgrD_ints]
  generalize agreedI ((os.take w.toNat).filterMap id) (needAt (scod vs size b w) w.toNat) = o at SE ⊢
  have hsl7 : m.hues.map (fun h => optD h.d.slot) = (m.D.hues.map (·.slot)).map optD := by
    show _ = ((m.hues.map (·.d)).map _).map _
    rw [List.map_map, List.map_map]
    rfl
  cases o with
  | none =>
    obtain ⟨a1, a2, a3, a4⟩ := SE.none_ rfl
    refine x_seq (x_if' (b_test (e_op (e_dat rfl (e_lst' (a_nil ⟨[], rfl, rfl, op_eq_same (Shp.list (n := 59) fun x hx => by cases hx) ⟨_, rfl, iteT ?_⟩⟩))))))
    refine x_seq (x_asg (e_andV' (e_op (e_p7 (m := m) (F := F_Machine_slots) rfl ⟨m, rfl, ⟨_, rfl, rfl, rfl, ?_⟩⟩))))
    rw [hsl7, a1]
    refine e_cb (a_cons (e_dat rfl (a_nil (cb_tuple rfl (op_eq_same (shp_os (n := 59)) ⟨_, rfl, iteT ?_⟩)))))
    refine e_op (e_p7 (m := m) (F := F_Machine_pointers) rfl ⟨m, rfl, ⟨_, rfl, rfl, rfl, ?_⟩⟩)
    rw [hpt 0 a2]
    refine e_op (e_tup' (a_cons (e_int (a_nil ⟨[.int 0], rfl, rfl, e_cb (a_cons (e_dat rfl (a_nil (cb_len rfl ?_))))⟩))))
    rw [hlv]
    refine op_mulT (by omega) (by omega) ?_
    rw [Int.toNat_natCast]
    refine op_eq_same (shp_rep (m := 59) .int) (g_name ?_)
    refine x_ret (e_andV' (e_dat rfl ⟨_, rfl, iteT (e_andV' (e_op (e_p7 (m := m) (F := F_Machine_state) rfl ⟨m, rfl, ⟨_, rfl, rfl, rfl, ?_⟩⟩)))⟩))
    rw [show m.state = .caught from a3]
    refine e_str (op_eq_same (d := .str (stS .caught)) (Shp.str (by decide +kernel)) ⟨_, rfl, iteT (e_andV' ?_)⟩)
    refine e_op (e_p7 (m := m) (F := F_Machine_row) rfl ⟨m, rfl, ⟨_, rfl, rfl, rfl, ?_⟩⟩)
    rw [show m.row = [] from a4]
    refine e_lst' (a_nil ⟨[], rfl, rfl, op_eq_same (Shp.list (n := 59) fun x hx => by cases hx) ⟨_, rfl, iteT ?_⟩⟩)
    refine e_op (e_p7 (m := m) (F := F_Machine_steps) rfl ⟨m, rfl, ⟨_, rfl, rfl, rfl, ?_⟩⟩)
    rw [show m.steps = 1 from SE.steps]
    refine e_int (op_eq_same .int ?_)
    exact hk _ _ _ _ _ _ _
  | some n =>
    obtain ⟨a1, a2, a3, a4⟩ := SE.some_ n rfl
    refine x_seq (x_if' (b_test (e_op (e_dat rfl (e_lst' (a_nil ⟨[], rfl, rfl, op_eq_d (d := .list [.int n]) (e := .list []) rfl rfl ⟨_, rfl, iteF (x_next ?_)⟩⟩))))))
    have hok : PyData.strOk wd = true := by rw [hwd]; cases b <;> decide +kernel
    have ht : (wd == PySem.Str.ofString "turn") = !b := by rw [hwd]; cases b <;> decide +kernel
    have hsh : (wd == PySem.Str.ofString "show") = b := by rw [hwd]; cases b <;> decide +kernel
    obtain ⟨G, hG⟩ : ∃ G : Int, G = if b = false ∧ n ≠ 0 then 2 else 1 := ⟨_, rfl⟩
    rw [← hG] at a1
    have goal : ∀ (Γ : List Sl) (k : Sl → List Sl → Prop), Γ[11]? = some (.dat (.str wd)) → Γ[8]? = some (.dat (.list (iL (some n).toList))) → k (.dat (.int G)) Γ →
        EvP K (tIf ((tAnd (tTest (tOp (uEq K) (tVar 11) (tC (.str (PySem.Str.ofString "turn"))))) (tTest (tOp (uNe K) (tOp (uIx K) (tVar 8) (tC (.int 0))) (tC (.int 0)))))) (tC (.int 2)) (tC (.int 1))) Γ k := by
      intro Γ k h11 h8 hk
      refine e_if' (b_and' (b_test (e_op (e_dat h11 (e_str (op_eq_ss hok (by decide +kernel) ?_))))))
      rw [ht]
      cases b with
      | true =>
        have : G = 1 := by rw [hG, if_neg (by simp)]
        rw [this] at hk
        exact ⟨_, rfl, iteF (e_int hk)⟩
      | false =>
        refine ⟨_, rfl, iteT (b_test (e_op (e_op (e_dat h8 (e_int (op_ix_d (d' := .int n) rfl atI_zero (e_int (op_ne_ii ?_))))))))⟩
        by_cases hn : n = 0
        · have : G = 1 := by rw [hG, if_neg (by simp [hn])]
          rw [this] at hk
          rw [decide_eq_true hn]
          exact ⟨_, rfl, iteF (e_int hk)⟩
        · have : G = 2 := by rw [hG, if_pos ⟨rfl, hn⟩]
          rw [this] at hk
          rw [decide_eq_false hn]
          exact ⟨_, rfl, iteT (e_int hk)⟩
    refine x_seq (x_asg (goal _ _ rfl rfl (g_name ?_)))
    refine x_seq (x_if' (b_or' (b_test (e_op (e_p7 (m := m) (F := F_Machine_pointers) rfl ⟨m, rfl, ⟨_, rfl, rfl, rfl, ?_⟩⟩)))))
    rw [hpt G a1]
    refine e_op (e_tup' (a_cons (e_dat rfl (a_nil ⟨[.int G], rfl, rfl, e_cb (a_cons (e_dat rfl (a_nil (cb_len rfl ?_))))⟩))))
    rw [hlv]
    refine op_mulT (by omega) (by omega) ?_
    rw [Int.toNat_natCast]
    refine op_ne_same (shp_rep (m := 59) .int) ⟨_, rfl, iteF (b_test ?_)⟩
    refine e_op (e_p7 (m := m) (F := F_Machine_slots) rfl ⟨m, rfl, ⟨_, rfl, rfl, rfl, ?_⟩⟩)
    have hsn : m.hues.map (fun h => optD h.d.slot) = List.replicate vs.length .none := all_eq_rep (f := fun h => optD h.slot) hml fun y hy => by
      rw [a2 y hy]
      rfl
    rw [hsn]
    refine e_op (e_tup' (a_cons (e_non (a_nil ⟨[.none], rfl, rfl, e_cb (a_cons (e_dat rfl (a_nil (cb_len rfl ?_))))⟩))))
    rw [hlv]
    refine op_mulT (by omega) (by omega) ?_
    rw [Int.toNat_natCast]
    refine op_ne_same (shp_rep (m := 59) .none) ⟨_, rfl, iteF (x_next ?_)⟩
    refine x_seq (x_if' (b_test (e_op (e_p7 (m := m) (F := F_Machine_state) rfl ⟨m, rfl, ⟨_, rfl, rfl, rfl, ?_⟩⟩))))
    rw [show m.state = .running from a3]
    refine e_str (op_ne_same (d := .str (stS .running)) (Shp.str (by decide +kernel)) ⟨_, rfl, iteF (x_next ?_)⟩)
    refine x_ret (e_op (e_p7 (m := m) (F := F_Machine_row) rfl ⟨m, rfl, ⟨_, rfl, rfl, rfl, ?_⟩⟩))
    rw [show m.row = (if b = true then [.shw 2 n] else []) from a4]
    refine e_if' (b_test (e_op (e_dat rfl (e_str (op_eq_ss hok (by decide +kernel) ?_)))))
    rw [hsh]
    cases b with
    | true =>
      refine ⟨_, rfl, iteT (e_lst' (a_cons (e_tup' ?_)))⟩
      refine a_cons (e_str (a_cons (e_int (a_cons (e_op (e_dat rfl (e_int (op_ix_d (d' := .int n) rfl atI_zero ?_))))))))
      refine a_nil ⟨_, rfl, rfl, a_nil ⟨_, rfl, rfl, ?_⟩⟩
      refine op_eq_same (d := .list [itemD (.shw 2 n)]) (Shp.list (n := 59) fun x hx => ?_) ?_
      · rw [List.mem_singleton] at hx
        rw [hx]
        refine .tuple (n := 58) fun y hy => ?_
        simp only [List.mem_cons, List.not_mem_nil, or_false] at hy
        rcases hy with rfl | rfl | rfl
        · exact .str (by decide +kernel)
        · exact .int
        · exact .int
      · exact hk _ _ _ _ _ _ _
    | false =>
      refine ⟨_, rfl, iteF (e_lst' (a_nil ⟨[], rfl, rfl, op_eq_same (Shp.list (n := 59) fun x hx => by cases hx) ?_⟩))⟩
      exact hk _ _ _ _ _ _ _
end
end Hw
namespace Hw
open PySem PySem.Spec PyProof.Rows L2 Dl
local macro_rules | `(tactic| walk_at "dbt") => `(tactic| first | assumption | rfl | (decide +kernel) | (simp [isFromD, *]; done) | (simp [isFromD, *]; omega))
local macro_rules | `(tactic| walk_at "d1") => `(tactic| first
  | with_reducible refine x_seq ?_ | with_reducible refine x_if' ?_ | with_reducible refine x_ret ?_ | with_reducible refine x_asg ?_ | with_reducible refine x_next ?_ | with_reducible refine x_expr ?_
  | with_reducible refine e_isi2 (by decide) (by decide) ?_
  | with_reducible refine e_dat rfl ?_ | with_reducible refine e_int ?_ | with_reducible refine e_str ?_ | with_reducible refine e_bl ?_ | with_reducible refine e_non ?_ | with_reducible refine e_op ?_ | with_reducible refine e_cb ?_ | with_reducible refine e_call ?_
  | with_reducible refine a_cons ?_ | with_reducible refine a_nil ?_
  | with_reducible refine b_test ?_ | with_reducible refine b_not ?_ | with_reducible refine b_and' ?_ | with_reducible refine b_or' ?_ | with_reducible refine b_tru ?_
  | with_reducible refine e_andV' ?_ | with_reducible refine e_orV' ?_ | with_reducible refine e_notV ?_ | with_reducible refine e_chain' ?_ | with_reducible refine e_if' ?_ | with_reducible refine e_c ?_ | with_reducible refine e_sl ?_ | with_reducible refine o_no ?_ | with_reducible refine o_some ?_ | with_reducible refine e_neg ?_
  | with_reducible refine e_raw rfl ?_ | with_reducible refine e_res rfl ?_ | with_reducible refine g_name ?_
  | with_reducible refine op_add_i ?_ | with_reducible refine op_sub_i ?_ | with_reducible refine op_lt_i ?_ | with_reducible refine op_le_i ?_ | with_reducible refine op_gt_i ?_ | with_reducible refine op_ge_i ?_ | with_reducible refine op_isnone ?_ | with_reducible refine op_notnone ?_
  | with_reducible refine cb_isi (by decide) ?_ | with_reducible refine cb_max2 ?_ | with_reducible refine cb_min2 ?_ | with_reducible refine cb_abs ?_ | with_reducible refine cb_int ?_ | with_reducible refine cb_len rfl ?_
  | with_reducible refine iteT ?_ | with_reducible refine iteF ?_ | ((with_reducible refine iT ?_ ?_); focus (walk_at "dbt"; done)) | ((with_reducible refine iF ?_ ?_); focus (walk_at "dbt"; done))
  | ((with_reducible refine g_tup ?_ ?_); (focus rfl)) | with_reducible refine gs_cons ?_ | with_reducible refine gs_nil ?_
  | with_reducible refine e_tup' ?_ | with_reducible refine e_lst' ?_ | with_reducible refine op_in2 ?_ | with_reducible refine op_ni3 ?_
  | with_reducible refine op_eq_ii ?_ | with_reducible refine op_ne_ii ?_ | ((with_reducible refine op_eq_ss ?_ ?_ ?_); (focus (decide +kernel)); (focus (decide +kernel))) | ((with_reducible refine op_ne_ss ?_ ?_ ?_); (focus (decide +kernel)); (focus (decide +kernel)))
  | ((with_reducible refine op_eq_d ?_ ?_ ?_); (focus (walk_at "dbt")); (focus (walk_at "dbt")))
  | ((with_reducible refine op_ne_d ?_ ?_ ?_); (focus (walk_at "dbt")); (focus (walk_at "dbt")))
  | ((with_reducible refine op_ix' ?_); refine Exists.intro _ (Exists.intro _ (And.intro rfl (And.intro rfl ?_))))
  | ((with_reducible refine op_mul_il ?_ ?_); (focus (decide +kernel))) | ((with_reducible refine op_mul_ir ?_ ?_); (focus (decide +kernel)))
  | ((with_reducible refine And.intro (a := smallL _ = true) ?_ ?_); (focus rfl)) | ((with_reducible refine And.intro (a := Pers _) ?_ ?_); (focus trivial)) | with_reducible refine d_cons ?_ | with_reducible refine d_nil ?_
  | (with_reducible refine Exists.intro _ (And.intro rfl ?_)) | (with_reducible refine Exists.intro _ (Exists.intro _ (And.intro rfl (And.intro rfl ?_)))) | refine Exists.intro _ (And.intro rfl (And.intro (by rfl) ?_)) | refine Exists.intro _ (Exists.intro _ (And.intro rfl (And.intro rfl ?_))) | with_reducible refine dat_ok ?_ | dsimp only | fail)
local macro_rules | `(tactic| walk_at "d1") => `(tactic| first | with_reducible refine e_callR ?_)
section
variable {K : Frag} {mg : Str → Option Value} {Γ : List Sl} {k : Sl → List Sl → Prop} {O : Out}
theorem b__law_mk_slots_right (T : TX K mg) : ∀ args k, F__law_mk_slots_right K args k → ExS K (t__law_mk_slots_right K) (args ++ List.replicate (15 - args.length) .no) (fnOut args k) := by
  rintro args k ⟨r, t, vs, size, h, ht, hvs, hsz, rfl, hk⟩
  show ExS K _ [.res r, .dat (.tuple (iL vs)), .dat (.int size), .no, .no, .no, .no, .no, .no, .no, .no, .no, .no, .no, .no] _
  have hlv : (iL vs).length = vs.length := List.length_map ..
  have hn5 := hvs.2.1
  have hn1 := hvs.1
  unfold t__law_mk_slots_right
  refine x_seq (x_par (by decide) ?_)
  repeat' walk_at "d1"
  rw [hlv]
  refine u__law_draw h (by omega) ⟨by omega, by omega⟩ fun w0 r1 hv1 hp1 hw0 hw1 => ⟨_, rfl, hv1, rfl, ?_⟩
  repeat' walk_at "d1"
  refine u__law_pick hp1 (by omega) ⟨by decide, by decide⟩ fun wd r2 hv2 hp2 hwd => ⟨_, rfl, hv2, rfl, ?_⟩
  obtain ⟨b, rfl⟩ : ∃ b : Bool, wd = .str (if b = true then PySem.Str.ofString "show" else PySem.Str.ofString "turn") := by
    simp only [List.mem_cons, List.not_mem_nil, or_false] at hwd
    rcases hwd with rfl | rfl
    · exact ⟨true, rfl⟩
    · exact ⟨false, rfl⟩
  repeat' walk_at "d1"
  refine ⟨_, _, rfl, g_name (g_name ?_)⟩
  obtain ⟨w, hw⟩ : ∃ w : Int, w = 1 + w0 := ⟨_, rfl⟩
  rw [← hw]
  have hwb : 1 ≤ w ∧ w ≤ vs.length := by omega
  repeat' walk_at "d1"
  refine u__law_number hp2 (by omega) hsz fun n1 r3 hv3 hp3 hn10 hn11 => ⟨_, rfl, hv3, rfl, ?_⟩
  repeat' walk_at "d1"
  refine u__law_number hp3 (by omega) hsz fun n2 r4 hv4 hp4 hn20 hn21 => ⟨_, rfl, hv4, rfl, ?_⟩
  repeat' walk_at "d1"
  refine e_lc (sets_name (by simp)) gm_name (i_sq (e_dat rfl ⟨_, _, rfl, rfl, fun hz => ?_⟩))
  refine ⟨fun j acc Γ => ∃ (os : List (Option Int)) (r2 : Res), os.length = j ∧ acc = os.map optD ∧ (∀ (i : Nat) (v : Int), os[i]? = some (some v) → 0 ≤ v ∧ v ≤ size - 1) ∧ r2.v = r.v ∧ PS (t + 6 + j) r2 ∧
    Γ = [.res r2, .dat (.tuple (iL vs)), .dat (.int size), .dat (.list [.int n1, .int n2, .int 0]), .no, .no, .no, .no, .no, .no, .dat (.int w), .dat (.str (if b = true then PySem.Str.ofString "show" else PySem.Str.ofString "turn")), .no, .no, .no],
    hz, ⟨[], r4, rfl, rfl, (fun i v z => by cases z), hv4.trans (hv3.trans (hv2.trans hv1)), hp4.mono (by omega), rfl⟩, fun _ _ _ _ _ => trivial, ?_, ?_⟩
  · rintro j acc Γ hj hal ⟨os, r5, hlen, rfl, hos, hv5, hp5, hΓ⟩
    rw [hΓ]
    have hj5 : j < 5 := by omega
    refine g_name (b_yesD ⟨fun _ => ?_, fun z => by cases z⟩)
    repeat' walk_at "d1"
    refine op_add_l (by rw [sizeLine_eq]; simp) (a_nil ?_)
    repeat' walk_at "d1"
    refine u__law_pick hp5 (by omega) ⟨by simp, by simp⟩ fun d r6 hv6 hp6 hd => ⟨_, rfl, hv6, rfl, ?_⟩
    obtain ⟨o, rfl, hob⟩ : ∃ o : Option Int, d = optD o ∧ ∀ v, o = some v → 0 ≤ v ∧ v ≤ size - 1 := by
      simp only [List.mem_append, List.mem_cons, List.not_mem_nil, or_false] at hd
      rcases hd with (rfl | rfl | rfl) | rfl
      · exact ⟨some n1, rfl, fun v e => by cases e; exact ⟨hn10, hn11⟩⟩
      · exact ⟨some n2, rfl, fun v e => by cases e; exact ⟨hn20, hn21⟩⟩
      · exact ⟨some 0, rfl, fun v e => by cases e; omega⟩
      · exact ⟨none, rfl, fun v e => by cases e⟩
    refine ⟨_, rfl, os ++ [o], r6, by rw [List.length_append, hlen]; rfl, by rw [List.map_append]; rfl, fun i v e => ?_, hv6.trans hv5, hp6.mono (by omega), rfl⟩
    by_cases hi : i < os.length
    · rw [List.getElem?_append_left hi] at e
      exact hos i v e
    · rw [List.getElem?_append_right (by omega)] at e
      have : i - os.length = 0 := by
        have z := (List.getElem?_eq_some_iff.mp e).1
        simp at z
        omega
      rw [this] at e
      exact hob v (Option.some.inj e)
  rintro acc Γ hal ⟨os, r5, hlen, rfl, hos, hv5, hp5, hΓ⟩
  rw [hΓ]
  have hol : os.length = vs.length := by omega
  refine g_name ?_
  repeat' walk_at "d1"
  have hcd : (scod vs size b w).d = .tuple [.tuple (iL vs), .int size, .tuple [.tuple [.str (if b = true then PySem.Str.ofString "show" else PySem.Str.ofString "turn"), .int 2, .int w], .tuple [.str (PySem.Str.ofString "stop")], .tuple [.str (PySem.Str.ofString "goto"), .int 0]], .tuple []] := by cases b <;> rfl
  rw [← hcd]
  refine e_lc (sets_tup (setsL_cons gm_name (sets_name (by simp)) (setsL_cons gm_name (sets_name (by simp)) setsL_nil))) (gm_tup (gm_cons gm_name (gm_cons gm_name gm_nil))) (i_enumU ?_)
  repeat' walk_at "d1"
  intro hz2
  refine ⟨fun i acc Γ => acc = (slotSs (os.take i)).map Strike.d ∧ Γ = [.res r5, .dat (.tuple (iL vs)), .dat (.int size), .dat (.list [.int n1, .int n2, .int 0]), .dat (.list (os.map optD)), .dat (scod vs size b w).d, .no, .no, .no, .no, .dat (.int w), .dat (.str (if b = true then PySem.Str.ofString "show" else PySem.Str.ofString "turn")), .no, .no, .no],
    hz2, ⟨rfl, rfl⟩, fun _ _ _ _ _ => trivial, ?_, ?_⟩
  · rintro i acc Γ hi hal2 ⟨rfl, hΓ⟩
    rw [hΓ]
    rw [List.length_map] at hi
    obtain ⟨o, ho⟩ : ∃ o, os[i]? = some o := ⟨_, List.getElem?_eq_getElem hi⟩
    have hgd : (os.map optD).getD i .none = optD o := by rw [List.getD_eq_getElem?_getD, List.getElem?_map, ho]; rfl
    have htk : slotSs (os.take (i + 1)) = slotSs (os.take i) ++ slotB i o := by
      rw [List.take_add_one, ho]
      show slotSs (os.take i ++ [o]) = _
      rw [slotSs_app, List.length_take, Nat.min_eq_left (by omega)]
    show EvG K _ (.dat (.tuple [.int (i : Int), (os.map optD).getD i .none])) _ _
    rw [hgd]
    refine g_tup rfl (gs_cons (g_name (gs_cons (g_name (gs_nil ?_)))))
    cases o with
    | none =>
      refine b_test (e_op (e_dat rfl (e_non (op_notnone ⟨_, rfl, ?_⟩))))
      exact ⟨(fun z => by cases z), fun _ => ⟨by rw [htk]; simp [slotB], rfl⟩⟩
    | some v =>
      refine b_test (e_op (e_dat rfl (e_non (op_notnone ⟨_, rfl, ?_⟩))))
      refine ⟨fun _ => ?_, fun z => by cases z⟩
      repeat' walk_at "d1"
      exact ⟨by rw [htk, List.map_append]; rfl, rfl⟩
  rintro acc Γ hal2 ⟨rfl, hΓ⟩
  rw [hΓ]
  rw [List.length_map, List.take_length]
  refine g_name (x_seq (x_asg (e_call ?_)))
  have hss := slot_strikes (c := scod vs size b w) hol hn5 hos
  repeat' walk_at "d1"
  refine u_struck (n := 1) (ns := []) (ss := slotSs os) (scod_ok hvs hsz hwb) ⟨by decide, fun n z => by cases z⟩ (.inl rfl) hss (.inl rfl) (by decide) fun m hm => g_name ?_
  have SE := slots_end (b := b) hvs hsz hwb hol hos
  rw [← hm] at SE
  refine k12_slots T rfl hvs hwb hol SE fun y6 y8 y9 y12 y13 y14 m3 => ?_
  have hlv2 : r5.v = r.v := hv5
  exact ⟨_, hk r5 hv5 (hp5.mono (by omega)), .res hv5 (.dat (.dat .nil))⟩
end
end Hw
namespace Hw
open PySem PySem.Spec PyProof.Rows L2 Dl
local macro_rules | `(tactic| walk_at "dbt") => `(tactic| first | assumption | rfl | (decide +kernel) | (simp [isFromD, *]; done) | (simp [isFromD, *]; omega))
local macro_rules | `(tactic| walk_at "d1") => `(tactic| first
  | with_reducible refine x_seq ?_ | with_reducible refine x_if' ?_ | with_reducible refine x_ret ?_ | with_reducible refine x_asg ?_ | with_reducible refine x_next ?_ | with_reducible refine x_expr ?_
  | with_reducible refine e_isi2 (by decide) (by decide) ?_
  | with_reducible refine e_dat rfl ?_ | with_reducible refine e_int ?_ | with_reducible refine e_str ?_ | with_reducible refine e_bl ?_ | with_reducible refine e_non ?_ | with_reducible refine e_op ?_ | with_reducible refine e_cb ?_ | with_reducible refine e_call ?_
  | with_reducible refine a_cons ?_ | with_reducible refine a_nil ?_
  | with_reducible refine b_test ?_ | with_reducible refine b_not ?_ | with_reducible refine b_and' ?_ | with_reducible refine b_or' ?_ | with_reducible refine b_tru ?_
  | with_reducible refine e_andV' ?_ | with_reducible refine e_orV' ?_ | with_reducible refine e_notV ?_ | with_reducible refine e_chain' ?_ | with_reducible refine e_if' ?_ | with_reducible refine e_c ?_ | with_reducible refine e_sl ?_ | with_reducible refine o_no ?_ | with_reducible refine o_some ?_ | with_reducible refine e_neg ?_
  | with_reducible refine e_raw rfl ?_ | with_reducible refine e_res rfl ?_ | with_reducible refine g_name ?_
  | with_reducible refine op_add_i ?_ | with_reducible refine op_sub_i ?_ | with_reducible refine op_lt_i ?_ | with_reducible refine op_le_i ?_ | with_reducible refine op_gt_i ?_ | with_reducible refine op_ge_i ?_ | with_reducible refine op_isnone ?_ | with_reducible refine op_notnone ?_
  | with_reducible refine cb_isi (by decide) ?_ | with_reducible refine cb_max2 ?_ | with_reducible refine cb_min2 ?_ | with_reducible refine cb_abs ?_ | with_reducible refine cb_int ?_ | with_reducible refine cb_len rfl ?_
  | with_reducible refine iteT ?_ | with_reducible refine iteF ?_ | ((with_reducible refine iT ?_ ?_); focus (walk_at "dbt"; done)) | ((with_reducible refine iF ?_ ?_); focus (walk_at "dbt"; done))
  | ((with_reducible refine g_tup ?_ ?_); (focus rfl)) | with_reducible refine gs_cons ?_ | with_reducible refine gs_nil ?_
  | with_reducible refine e_tup' ?_ | with_reducible refine e_lst' ?_ | with_reducible refine op_in2 ?_ | with_reducible refine op_ni3 ?_
  | with_reducible refine op_eq_ii ?_ | with_reducible refine op_ne_ii ?_ | ((with_reducible refine op_eq_ss ?_ ?_ ?_); (focus (decide +kernel)); (focus (decide +kernel))) | ((with_reducible refine op_ne_ss ?_ ?_ ?_); (focus (decide +kernel)); (focus (decide +kernel)))
  | ((with_reducible refine op_eq_d ?_ ?_ ?_); (focus (walk_at "dbt")); (focus (walk_at "dbt")))
  | ((with_reducible refine op_ne_d ?_ ?_ ?_); (focus (walk_at "dbt")); (focus (walk_at "dbt")))
  | ((with_reducible refine op_ix' ?_); refine Exists.intro _ (Exists.intro _ (And.intro rfl (And.intro rfl ?_))))
  | ((with_reducible refine op_mul_il ?_ ?_); (focus (decide +kernel))) | ((with_reducible refine op_mul_ir ?_ ?_); (focus (decide +kernel)))
  | ((with_reducible refine And.intro (a := smallL _ = true) ?_ ?_); (focus rfl)) | ((with_reducible refine And.intro (a := Pers _) ?_ ?_); (focus trivial)) | with_reducible refine d_cons ?_ | with_reducible refine d_nil ?_
  | (with_reducible refine Exists.intro _ (And.intro rfl ?_)) | (with_reducible refine Exists.intro _ (Exists.intro _ (And.intro rfl (And.intro rfl ?_)))) | refine Exists.intro _ (And.intro rfl (And.intro (by rfl) ?_)) | refine Exists.intro _ (Exists.intro _ (And.intro rfl (And.intro rfl ?_))) | with_reducible refine dat_ok ?_ | dsimp only | fail)
local macro_rules | `(tactic| walk_at "d1") => `(tactic| first | with_reducible refine e_callR ?_)
section
variable {K : Frag} {mg : Str → Option Value} {Γ : List Sl} {k : Sl → List Sl → Prop} {O : Out}
def t_k12M (K : Frag) : TS := (tSeq (tDrop (tMethR 7 (He.ga K "Machine") "go" (spOf K (F_Machine_go K)) E0 (tVar 7) (tCons (tC (.int 1)) tNil))) (tSeq (tAsg (tCall (spOf K (F__law_mk_agreed K)) [] E0 (tCons (tVar 10) (tCons (tOp (uIx K) (tVar 1) (tOp (uSub K) (tVar 3) (tC (.int 1)))) tNil))) (gName 8)) (tSeq (tFor (iRng1 (tCons (tVar 3) tNil)) (gName 6) (tSeq (tAsg (tIf (tTest (tOp (uEq K) (tVar 8) (tLst tNil))) (tOp (uIx K) (tVar 10) (tVar 6)) (tOp (uIx K) (tVar 8) (tC (.int 0)))) (gName 12)) (tSeq (tIfS (tTest (tOp (uNe K) (tTup (tCons (tMethR 7 (He.ga K "Machine") "registers" (spOf K (F_Machine_registers K)) E0 (tVar 7) (tCons (tVar 6) tNil)) (tCons (tMethR 7 (He.ga K "Machine") "cells" (spOf K (F_Machine_cells K)) E0 (tVar 7) (tCons (tVar 6) tNil)) tNil))) (tVar 12))) (tRet (tC (.bl false))) tNext) (tSeq (tAsg (tIf (tTest (tOp (uEq K) (tVar 8) (tLst tNil))) (tTup (tCons (tVar 6) (tCons (tC (.str (PySem.Str.ofString "offer"))) (tCons (tC (.int 4)) tNil)))) (tTup (tCons (tVar 6) (tCons (tC (.str (PySem.Str.ofString "set"))) (tCons (tC (.int 1)) (tCons (tC (.int 0)) tNil)))))) (gName 13)) (tIfS (tTest (tOp (uNe K) (tMethR 7 (He.ga K "Machine") "own" (spOf K (F_Machine_own K)) E0 (tVar 7) (tCons (tVar 6) (tCons (tOp (uAdd K) (tC (.int 3)) (tVar 6)) tNil))) (tVar 13))) (tRet (tC (.bl false))) tNext))))) (tSeq (tIfS (tTest (tOp (uEq K) (tVar 8) (tLst tNil))) (tRet ((tAndV (tOp (uEq K) (tPropR 7 (He.ga K "Machine") (spOf K (F_Machine_state K)) E0 (tVar 7)) (tC (.str (PySem.Str.ofString "caught")))) (tOp (uEq K) (tPropR 7 (He.ga K "Machine") (spOf K (F_Machine_slots K)) E0 (tVar 7)) (tOp (uMulT K) (tTup (tCons (tC (.int 1)) tNil)) (tVar 3)))))) tNext) (tRet ((tAndV (tOp (uEq K) (tPropR 7 (He.ga K "Machine") (spOf K (F_Machine_state K)) E0 (tVar 7)) (tC (.str (PySem.Str.ofString "running")))) (tAndV (tOp (uEq K) (tPropR 7 (He.ga K "Machine") (spOf K (F_Machine_slots K)) E0 (tVar 7)) (tOp (uMulT K) (tTup (tCons (tC .non) tNil)) (tVar 3))) (tOp (uEq K) (tPropR 7 (He.ga K "Machine") (spOf K (F_Machine_pointers K)) E0 (tVar 7)) (tOp (uMulT K) (tTup (tCons (tC (.int 2)) tNil)) (tVar 3)))))))))))
theorem rows_get {ts : List Row} {i : Nat} {t : Row} (h : ts[i]? = some t) : (ts.zipIdx.map pairOf)[i]? = some (pairOf (t, i)) := by
  rw [List.getElem?_map, List.getElem?_zipIdx, h]
  simp
theorem shp_pairs {ps : List Pair} : ∀ d ∈ ps.map pairT, Shp 59 d := fun d hd => by
  obtain ⟨p, _, rfl⟩ := List.mem_map.mp hd
  exact shp_pairT (n := 57)
theorem own_hit {x : Hue} {j : Nat} {t : Row} (h : x.d = hueM j t) : cellD ((getC x.d.chg ((3 + j : Nat) : Int)).getD (.ins (j : Int) (.set 1 0))) = .tuple [.int j, .str (PySem.Str.ofString "offer"), .int 4] := by
  rw [h]
  have e : decide (3 + (j : Int) = ((3 + j : Nat) : Int)) = true := decide_eq_true (by omega)
  have e2 : getC (hueM j t).chg ((3 + j : Nat) : Int) = some (.ins (j : Int) (.offer 4)) := by
    show ((([((3 : Int) + (j : Int), CellT.ins (j : Int) (.offer 4))] : List (Int × CellT)).find? fun p => decide (p.1 = ((3 + j : Nat) : Int))).map (·.2)) = _
    rw [List.find?_cons_of_pos (p := fun (p : Int × CellT) => decide (p.1 = ((3 + j : Nat) : Int))) e]
    rfl
  rw [e2]
  rfl
theorem own_set {x : Hue} {j : Nat} {q : Pair} (h : x.d = ⟨q.1, q.2, 2, none, []⟩) : cellD ((getC x.d.chg ((3 + j : Nat) : Int)).getD (.ins (j : Int) (.set 1 0))) = .tuple [.int j, .str (PySem.Str.ofString "set"), .int 1, .int 0] := by
  rw [h]
  rfl
theorem shp_off {j : Nat} : Shp 60 (.tuple [.int j, .str (PySem.Str.ofString "offer"), .int 4]) := .tuple (n := 59) fun x hx => by
  simp only [List.mem_cons, List.not_mem_nil, or_false] at hx
  rcases hx with rfl | rfl | rfl
  · exact .int
  · exact .str (by decide +kernel)
  · exact .int
theorem shp_set {j : Nat} : Shp 60 (.tuple [.int j, .str (PySem.Str.ofString "set"), .int 1, .int 0]) := .tuple (n := 59) fun x hx => by
  simp only [List.mem_cons, List.not_mem_nil, or_false] at hx
  rcases hx with rfl | rfl | rfl | rfl
  · exact .int
  · exact .str (by decide +kernel)
  · exact .int
  · exact .int
theorem k12_mark (T : TX K mg) {vs : List Int} {size : Int} {ts : List Row} {m : Mach} {s0 s4 s5 s6 s8 s9 s11 s12 s13 s14 s15 : Sl} (hvs : votesOk vs) (hl : ts.length = vs.length) (hr : rowsOk ts) (I : M1 vs size ts m.D)
    (hk : ∀ y6 y7 y8 y12 y13, O.rt (.dat (.bool true)) [s0, .dat (.tuple (iL vs)), .dat (.int size), .dat (.int vs.length), s4, s5, y6, y7, y8, s9, .dat (.list ((ts.zipIdx.map pairOf).map pairT)), s11, y12, y13, s14, s15]) :
    ExS K (t_k12M K) [s0, .dat (.tuple (iL vs)), .dat (.int size), .dat (.int vs.length), s4, s5, s6, .res (m.R K), s8, s9, .dat (.list ((ts.zipIdx.map pairOf).map pairT)), s11, s12, s13, s14, s15] O := by
  have hn5 := hvs.2.1
  have hn1 := hvs.1
  unfold t_k12M
  refine x_seq (x_expr (e_methR (r := m.R K) rfl (isIns_star (n := 0) rfl (by decide)) ?_))
  repeat' walk_at "d1"
  refine ⟨rfl, u_Machine_go (n := 1) I.ok (by omega) (by rw [show m.steps = 1 from I.steps]; omega) fun m3 ha3 hD3 => ⟨_, rfl, congrArg V.ref ha3, rfl, ?_⟩⟩
  have ME := mark_end hl hr I
  rw [← hD3] at ME
  have hml : m3.hues.length = vs.length := by rw [← ME.len]; exact (List.length_map ..).symm
  have hmc : m3.hues.length = m3.code.votes.length := by rw [hml, show m3.code = _ from ME.code]; rfl
  have hneed : atI (iL vs) (((vs.length : Nat) : Int) - 1) = some (.int (needAt (mcod vs size) vs.length)) := by
    have e : ((vs.length : Nat) : Int) - 1 = ((vs.length - 1 : Nat) : Int) := by omega
    rw [e]
    refine atI_nat ?_
    unfold needAt iL
    have hl : vs.length - 1 < vs.length := by omega
    rw [List.getElem?_map, List.getElem?_eq_getElem hl]
    show some (PyData.int _) = some (PyData.int (vs.getD (vs.length - 1) 0))
    rw [List.getD_eq_getElem?_getD, List.getElem?_eq_getElem hl]
    rfl
  refine x_seq (x_asg (e_call (a_cons (e_dat rfl (a_cons (e_op (e_dat rfl (e_op (e_dat rfl (e_int (op_sub_i (op_ix_d rfl hneed (a_nil ?_)))))))))))))
  refine u__law_mk_agreed shp_pairs (g_name ?_)
  rw [mkAgrD_pairs]
  generalize agreedP (ts.zipIdx.map pairOf) (needAt (mcod vs size) vs.length) = o at ME ⊢
  have hgetm : ∀ (i : Nat) (h : HueD), m3.D.hues[i]? = some h → ∃ x : Hue, m3.hues[i]? = some x ∧ x.d = h := fun i h e => by
    have e : (m3.hues.map (·.d))[i]? = some h := e
    rw [List.getElem?_map] at e
    cases e2 : m3.hues[i]? with
    | none => rw [e2] at e; cases e
    | some x => rw [e2] at e; exact ⟨x, rfl, Option.some.inj e⟩
  have hcell : ∀ i : Nat, i < vs.length → m3.code.cells[3 + i]? = some (.ins (i : Int) (.set 1 0)) := fun i hi => by
    rw [show m3.code = _ from ME.code]
    exact mcell_get hi
  cases o with
  | none =>
    obtain ⟨a1, a2⟩ := ME.none_ rfl
    refine x_seq (x_for (i_rng1 (a_cons (e_dat rfl (a_nil ⟨_, rfl, by omega, by omega, ?_⟩)))))
    refine ⟨fun j Γ => ∃ y6 y12 y13, Γ = [s0, .dat (.tuple (iL vs)), .dat (.int size), .dat (.int vs.length), s4, s5, y6, .res (m3.R K), .dat (.list []), s9, .dat (.list ((ts.zipIdx.map pairOf).map pairT)), s11, y12, y13, s14, s15], ⟨_, _, _, rfl⟩, fun _ _ _ _ => trivial, ?_, ?_⟩
    · rintro j Γ hj ⟨y6, y12, y13, rfl⟩
      rw [Int.toNat_natCast] at hj
      obtain ⟨t, ht⟩ : ∃ t, ts[j]? = some t := ⟨_, List.getElem?_eq_getElem (by omega)⟩
      obtain ⟨x, hx, hxd⟩ := hgetm j _ (a2 j t ht)
      have hst : atI ((ts.zipIdx.map pairOf).map pairT) (j : Int) = some (pairT (pairOf (t, j))) := by
        refine atI_nat ?_
        rw [List.getElem?_map, rows_get ht]
        rfl
      refine g_name (x_seq (x_asg (e_if' (b_test (e_op (e_dat rfl (e_lst' (a_nil ⟨[], rfl, rfl, op_eq_same (Shp.list (n := 59) fun x hx => by cases hx) ⟨_, rfl, iteT ?_⟩⟩))))))))
      refine e_op (e_dat rfl (e_dat rfl (op_ix_d rfl hst (g_name ?_))))
      refine x_seq (x_if' (b_test (e_op (e_tup' (a_cons (e_methR (r := m3.R K) rfl (isIns_star (n := 0) rfl (by decide)) (a_cons (e_dat rfl (a_nil ?_)))))))))
      refine ⟨_, rfl, rfl, ⟨m3, j, x, hx, hmc, rfl, ⟨_, rfl, rfl, rfl, ?_⟩⟩⟩
      refine a_cons (e_methR (r := m3.R K) rfl (isIns_star (n := 0) rfl (by decide)) (a_cons (e_dat rfl (a_nil ?_))))
      refine ⟨_, rfl, rfl, ⟨m3, j, x, hx, hmc, rfl, ⟨_, rfl, rfl, rfl, ?_⟩⟩⟩
      refine a_nil ⟨_, rfl, rfl, e_dat rfl ?_⟩
      rw [hxd]
      refine op_ne_same (d := pairT (pairOf (t, j))) (shp_pairT (n := 58)) ⟨_, rfl, iteF (x_next ?_)⟩
      refine x_seq (x_asg (e_if' (b_test (e_op (e_dat rfl (e_lst' (a_nil ⟨[], rfl, rfl, op_eq_same (Shp.list (n := 59) fun x hx => by cases hx) ⟨_, rfl, iteT ?_⟩⟩)))))))
      repeat' walk_at "d1"
      refine e_methR (r := m3.R K) rfl (isIns_star (n := 0) rfl (by decide)) ?_
      repeat' walk_at "d1"
      refine ⟨rfl, ?_⟩
      rw [show (3 + (j : Int)) = ((3 + j : Nat) : Int) by omega]
      refine ⟨m3, j, 3 + j, x, .set 1 0, hx, ME.ok, hcell j hj, rfl, ⟨_, rfl, rfl, rfl, ?_⟩⟩
      rw [own_hit hxd]
      refine e_dat rfl (op_ne_same (shp_off) ⟨_, rfl, iteF (x_next ⟨_, _, _, rfl⟩)⟩)
    rintro Γ ⟨y6, y12, y13, rfl⟩
    have hall : ∀ y ∈ m3.D.hues, ∃ i t, y = hueM i t := fun y hy => by
      obtain ⟨i, hi⟩ := List.getElem?_of_mem hy
      have hil := (List.getElem?_eq_some_iff.mp hi).1
      have := ME.len
      obtain ⟨t, ht⟩ : ∃ t, ts[i]? = some t := ⟨_, List.getElem?_eq_getElem (by omega)⟩
      rw [a2 i t ht] at hi
      exact ⟨i, t, (Option.some.inj hi).symm⟩
    have hsn : m3.hues.map (fun h => optD h.d.slot) = List.replicate vs.length (.int 1) := all_eq_rep (f := fun h => optD h.slot) hml fun y hy => by
      obtain ⟨i, t, rfl⟩ := hall y hy
      rfl
    refine x_seq (x_if' (b_test (e_op (e_dat rfl (e_lst' (a_nil ⟨[], rfl, rfl, op_eq_same (Shp.list (n := 59) fun x hx => by cases hx) ⟨_, rfl, iteT ?_⟩⟩))))))
    refine x_ret (e_andV' (e_op (e_p7 (m := m3) (F := F_Machine_state) rfl ⟨m3, rfl, ⟨_, rfl, rfl, rfl, ?_⟩⟩)))
    rw [show m3.state = .caught from a1]
    refine e_str (op_eq_same (d := .str (stS .caught)) (Shp.str (by decide +kernel)) ⟨_, rfl, iteT ?_⟩)
    refine e_op (e_p7 (m := m3) (F := F_Machine_slots) rfl ⟨m3, rfl, ⟨_, rfl, rfl, rfl, ?_⟩⟩)
    rw [hsn]
    refine e_op (e_tup' (a_cons (e_int (a_nil ⟨[.int 1], rfl, rfl, e_dat rfl ?_⟩))))
    refine op_mulT (by omega) (by omega) ?_
    rw [Int.toNat_natCast]
    refine op_eq_same (shp_rep (m := 59) .int) ?_
    exact hk _ _ _ _ _
  | some q =>
    obtain ⟨a1, a2⟩ := ME.some_ q rfl
    refine x_seq (x_for (i_rng1 (a_cons (e_dat rfl (a_nil ⟨_, rfl, by omega, by omega, ?_⟩)))))
    refine ⟨fun j Γ => ∃ y6 y12 y13, Γ = [s0, .dat (.tuple (iL vs)), .dat (.int size), .dat (.int vs.length), s4, s5, y6, .res (m3.R K), .dat (.list [pairT q]), s9, .dat (.list ((ts.zipIdx.map pairOf).map pairT)), s11, y12, y13, s14, s15], ⟨_, _, _, rfl⟩, fun _ _ _ _ => trivial, ?_, ?_⟩
    · rintro j Γ hj ⟨y6, y12, y13, rfl⟩
      rw [Int.toNat_natCast] at hj
      obtain ⟨t, ht⟩ : ∃ t, ts[j]? = some t := ⟨_, List.getElem?_eq_getElem (by omega)⟩
      obtain ⟨x, hx, hxd⟩ := hgetm j _ (a2 j t ht)
      have hst : atI ((ts.zipIdx.map pairOf).map pairT) (j : Int) = some (pairT (pairOf (t, j))) := by
        refine atI_nat ?_
        rw [List.getElem?_map, rows_get ht]
        rfl
      refine g_name (x_seq (x_asg (e_if' (b_test (e_op (e_dat rfl (e_lst' (a_nil ⟨[], rfl, rfl, op_eq_d (d := .list [pairT q]) (e := .list []) (Shp.list (n := 59) fun x hx => by rw [List.mem_singleton] at hx; rw [hx]; exact shp_pairT (n := 57)).shaped rfl ⟨_, rfl, iteF ?_⟩⟩))))))))
      refine e_op (e_dat rfl (e_int (op_ix_d (d' := pairT q) rfl atI_zero (g_name ?_))))
      refine x_seq (x_if' (b_test (e_op (e_tup' (a_cons (e_methR (r := m3.R K) rfl (isIns_star (n := 0) rfl (by decide)) (a_cons (e_dat rfl (a_nil ?_)))))))))
      refine ⟨_, rfl, rfl, ⟨m3, j, x, hx, hmc, rfl, ⟨_, rfl, rfl, rfl, ?_⟩⟩⟩
      refine a_cons (e_methR (r := m3.R K) rfl (isIns_star (n := 0) rfl (by decide)) (a_cons (e_dat rfl (a_nil ?_))))
      refine ⟨_, rfl, rfl, ⟨m3, j, x, hx, hmc, rfl, ⟨_, rfl, rfl, rfl, ?_⟩⟩⟩
      refine a_nil ⟨_, rfl, rfl, e_dat rfl ?_⟩
      rw [hxd]
      refine op_ne_same (d := pairT q) (shp_pairT (n := 58)) ⟨_, rfl, iteF (x_next ?_)⟩
      refine x_seq (x_asg (e_if' (b_test (e_op (e_dat rfl (e_lst' (a_nil ⟨[], rfl, rfl, op_eq_d (d := .list [pairT q]) (e := .list []) (Shp.list (n := 59) fun x hx => by rw [List.mem_singleton] at hx; rw [hx]; exact shp_pairT (n := 57)).shaped rfl ⟨_, rfl, iteF ?_⟩⟩)))))))
      repeat' walk_at "d1"
      refine e_methR (r := m3.R K) rfl (isIns_star (n := 0) rfl (by decide)) ?_
      repeat' walk_at "d1"
      refine ⟨rfl, ?_⟩
      rw [show (3 + (j : Int)) = ((3 + j : Nat) : Int) by omega]
      refine ⟨m3, j, 3 + j, x, .set 1 0, hx, ME.ok, hcell j hj, rfl, ⟨_, rfl, rfl, rfl, ?_⟩⟩
      rw [own_set hxd]
      refine e_dat rfl (op_ne_same (shp_set) ⟨_, rfl, iteF (x_next ⟨_, _, _, rfl⟩)⟩)
    rintro Γ ⟨y6, y12, y13, rfl⟩
    have hall : ∀ y ∈ m3.D.hues, y = ⟨q.1, q.2, 2, none, []⟩ := fun y hy => by
      obtain ⟨i, hi⟩ := List.getElem?_of_mem hy
      have hil := (List.getElem?_eq_some_iff.mp hi).1
      have := ME.len
      obtain ⟨t, ht⟩ : ∃ t, ts[i]? = some t := ⟨_, List.getElem?_eq_getElem (by omega)⟩
      rw [a2 i t ht] at hi
      exact (Option.some.inj hi).symm
    have hsn : m3.hues.map (fun h => optD h.d.slot) = List.replicate vs.length .none := all_eq_rep (f := fun h => optD h.slot) hml fun y hy => by
      rw [hall y hy]
      rfl
    have hpn : iL (m3.hues.map (·.d.ptr)) = List.replicate vs.length (.int 2) := by
      rw [all_eq_rep (f := fun h => h.ptr) (x := 2) hml fun y hy => by rw [hall y hy], iL_rep]
    refine x_seq (x_if' (b_test (e_op (e_dat rfl (e_lst' (a_nil ⟨[], rfl, rfl, op_eq_d (d := .list [pairT q]) (e := .list []) (Shp.list (n := 59) fun x hx => by rw [List.mem_singleton] at hx; rw [hx]; exact shp_pairT (n := 57)).shaped rfl ⟨_, rfl, iteF (x_next ?_)⟩⟩))))))
    refine x_ret (e_andV' (e_op (e_p7 (m := m3) (F := F_Machine_state) rfl ⟨m3, rfl, ⟨_, rfl, rfl, rfl, ?_⟩⟩)))
    rw [show m3.state = .running from a1]
    refine e_str (op_eq_same (d := .str (stS .running)) (Shp.str (by decide +kernel)) ⟨_, rfl, iteT (e_andV' ?_)⟩)
    refine e_op (e_p7 (m := m3) (F := F_Machine_slots) rfl ⟨m3, rfl, ⟨_, rfl, rfl, rfl, ?_⟩⟩)
    rw [hsn]
    refine e_op (e_tup' (a_cons (e_non (a_nil ⟨[.none], rfl, rfl, e_dat rfl ?_⟩))))
    refine op_mulT (by omega) (by omega) ?_
    rw [Int.toNat_natCast]
    refine op_eq_same (shp_rep (m := 59) .none) ⟨_, rfl, iteT ?_⟩
    refine e_op (e_p7 (m := m3) (F := F_Machine_pointers) rfl ⟨m3, rfl, ⟨_, rfl, rfl, rfl, ?_⟩⟩)
    rw [hpn]
    refine e_op (e_tup' (a_cons (e_int (a_nil ⟨[.int 2], rfl, rfl, e_dat rfl ?_⟩))))
    refine op_mulT (by omega) (by omega) ?_
    rw [Int.toNat_natCast]
    refine op_eq_same (shp_rep (m := 59) .int) ?_
    exact hk _ _ _ _ _
end
end Hw
namespace Hw
open PySem PySem.Spec PyProof.Rows L2 Dl
local macro_rules | `(tactic| walk_at "dbt") => `(tactic| first | assumption | rfl | (decide +kernel) | (simp [isFromD, *]; done) | (simp [isFromD, *]; omega))
local macro_rules | `(tactic| walk_at "d1") => `(tactic| first
  | with_reducible refine x_seq ?_ | with_reducible refine x_if' ?_ | with_reducible refine x_ret ?_ | with_reducible refine x_asg ?_ | with_reducible refine x_next ?_ | with_reducible refine x_expr ?_
  | with_reducible refine e_isi2 (by decide) (by decide) ?_
  | with_reducible refine e_dat rfl ?_ | with_reducible refine e_int ?_ | with_reducible refine e_str ?_ | with_reducible refine e_bl ?_ | with_reducible refine e_non ?_ | with_reducible refine e_op ?_ | with_reducible refine e_cb ?_ | with_reducible refine e_call ?_
  | with_reducible refine a_cons ?_ | with_reducible refine a_nil ?_
  | with_reducible refine b_test ?_ | with_reducible refine b_not ?_ | with_reducible refine b_and' ?_ | with_reducible refine b_or' ?_ | with_reducible refine b_tru ?_
  | with_reducible refine e_andV' ?_ | with_reducible refine e_orV' ?_ | with_reducible refine e_notV ?_ | with_reducible refine e_chain' ?_ | with_reducible refine e_if' ?_ | with_reducible refine e_c ?_ | with_reducible refine e_sl ?_ | with_reducible refine o_no ?_ | with_reducible refine o_some ?_ | with_reducible refine e_neg ?_
  | with_reducible refine e_raw rfl ?_ | with_reducible refine e_res rfl ?_ | with_reducible refine g_name ?_
  | with_reducible refine op_add_i ?_ | with_reducible refine op_sub_i ?_ | with_reducible refine op_lt_i ?_ | with_reducible refine op_le_i ?_ | with_reducible refine op_gt_i ?_ | with_reducible refine op_ge_i ?_ | with_reducible refine op_isnone ?_ | with_reducible refine op_notnone ?_
  | with_reducible refine cb_isi (by decide) ?_ | with_reducible refine cb_max2 ?_ | with_reducible refine cb_min2 ?_ | with_reducible refine cb_abs ?_ | with_reducible refine cb_int ?_ | with_reducible refine cb_len rfl ?_
  | with_reducible refine iteT ?_ | with_reducible refine iteF ?_ | ((with_reducible refine iT ?_ ?_); focus (walk_at "dbt"; done)) | ((with_reducible refine iF ?_ ?_); focus (walk_at "dbt"; done))
  | ((with_reducible refine g_tup ?_ ?_); (focus rfl)) | with_reducible refine gs_cons ?_ | with_reducible refine gs_nil ?_
  | with_reducible refine e_tup' ?_ | with_reducible refine e_lst' ?_ | with_reducible refine op_in2 ?_ | with_reducible refine op_ni3 ?_
  | with_reducible refine op_eq_ii ?_ | with_reducible refine op_ne_ii ?_ | ((with_reducible refine op_eq_ss ?_ ?_ ?_); (focus (decide +kernel)); (focus (decide +kernel))) | ((with_reducible refine op_ne_ss ?_ ?_ ?_); (focus (decide +kernel)); (focus (decide +kernel)))
  | ((with_reducible refine op_eq_d ?_ ?_ ?_); (focus (walk_at "dbt")); (focus (walk_at "dbt")))
  | ((with_reducible refine op_ne_d ?_ ?_ ?_); (focus (walk_at "dbt")); (focus (walk_at "dbt")))
  | ((with_reducible refine op_ix' ?_); refine Exists.intro _ (Exists.intro _ (And.intro rfl (And.intro rfl ?_))))
  | ((with_reducible refine op_mul_il ?_ ?_); (focus (decide +kernel))) | ((with_reducible refine op_mul_ir ?_ ?_); (focus (decide +kernel)))
  | ((with_reducible refine And.intro (a := smallL _ = true) ?_ ?_); (focus rfl)) | ((with_reducible refine And.intro (a := Pers _) ?_ ?_); (focus trivial)) | with_reducible refine d_cons ?_ | with_reducible refine d_nil ?_
  | (with_reducible refine Exists.intro _ (And.intro rfl ?_)) | (with_reducible refine Exists.intro _ (Exists.intro _ (And.intro rfl (And.intro rfl ?_)))) | refine Exists.intro _ (And.intro rfl (And.intro (by rfl) ?_)) | refine Exists.intro _ (Exists.intro _ (And.intro rfl (And.intro rfl ?_))) | with_reducible refine dat_ok ?_ | dsimp only | fail)
local macro_rules | `(tactic| walk_at "d1") => `(tactic| first | with_reducible refine e_callR ?_)
section
variable {K : Frag} {mg : Str → Option Value} {Γ : List Sl} {k : Sl → List Sl → Prop} {O : Out}
theorem blk_d {j : Nat} {n o : Int} {b : Bool} : (blk j ⟨n, o, b⟩).map Strike.d = [.tuple [.int 1, .int j, .tuple [.str (PySem.Str.ofString "register"), .int 2], .int n], .tuple [.int 1, .int j, .tuple [.str (PySem.Str.ofString "cell"), .int 0], .int o]] ++
    ([.tuple [.int 1, .int j, .tuple [.str (PySem.Str.ofString "code"), .int (3 + (j : Int))], .tuple [.int j, .str (PySem.Str.ofString "offer"), .int 4]], .tuple [.int 1, .int j, .tuple [.str (PySem.Str.ofString "slot")], .int 1]] ++
    (if b = true then [.tuple [.int 1, .int j, .tuple [.str (PySem.Str.ofString "register"), .int 7], .int 0]] else [])) := by
  cases b <;> rfl
theorem mSs_len {ts : List Row} : (mSs ts).length ≤ 5 * ts.length := by
  have hb : ∀ (l : List (Row × Nat)), (l.map fun p => (blk p.2 p.1).length).sum ≤ 5 * l.length := by
    intro l
    induction l with
    | nil => exact Nat.le_refl _
    | cons x xs ih =>
      obtain ⟨o, i⟩ := x
      rw [List.map_cons, List.sum_cons, List.length_cons]
      have : (blk i o).length ≤ 5 := by unfold blk; cases o.drop <;> simp
      simp only at ih ⊢
      omega
  unfold mSs
  rw [List.length_flatMap]
  have := hb ts.zipIdx
  rw [List.length_zipIdx] at this
  exact this
theorem k12_app {s0 s1 s2 s3 s4 s5 s6 s7 s8 s9 s12 s13 s14 : Sl} {a10 : Addr} {ts : List Row} {num oth : Int} {b : Bool} (hl : ts.length ≤ 5)
    (hk : O.nx [s0, s1, s2, s3, s4, s5, s6, s7, s8, s9, .res (ownL a10 (((ts ++ [(⟨num, oth, b⟩ : Row)]).zipIdx.map pairOf).map pairT)), .dat (.tuple (iL (rg ts.length ⟨num, oth, b⟩))), s12, s13, s14, .dat (.int oth)]) :
    ExS K (tDrop (tBM K "list" rAppend (tVar 10) (tCons (tTup (tCons (tVar 11) (tCons (tTup (tCons (tVar 15) (tCons (tC (.int 1)) tNil))) tNil))) tNil)))
      [s0, s1, s2, s3, s4, s5, s6, s7, s8, s9, .res (ownL a10 ((ts.zipIdx.map pairOf).map pairT)), .dat (.tuple (iL (rg ts.length ⟨num, oth, b⟩))), s12, s13, s14, .dat (.int oth)] O := by
  refine x_expr (e_append 10 (e_res rfl ⟨a10, rfl, ⟨_, rfl⟩, a_cons (e_tup' ?_)⟩))
  repeat' walk_at "d1"
  refine ⟨by rw [sizeLine_eq]; simp; omega, ?_⟩
  have e : ((ts ++ [(⟨num, oth, b⟩ : Row)]).zipIdx.map pairOf).map pairT = (ts.zipIdx.map pairOf).map pairT ++ [pairT (rg ts.length ⟨num, oth, b⟩, [oth, 1])] := by
    rw [List.zipIdx_append, List.map_append, List.map_append]
    simp [pairOf]
  rw [e] at hk
  exact hk
theorem b__law_mk_mark_right (T : TX K mg) : ∀ args k, F__law_mk_mark_right K args k → ExS K (t__law_mk_mark_right K) (args ++ List.replicate (16 - args.length) .no) (fnOut args k) := by
  rintro args k ⟨r, t, vs, size, h, ht, hvs, hsz, rfl, hk⟩
  show ExS K _ [.res r, .dat (.tuple (iL vs)), .dat (.int size), .no, .no, .no, .no, .no, .no, .no, .no, .no, .no, .no, .no, .no] _
  have hlv : (iL vs).length = vs.length := List.length_map ..
  have hn5 := hvs.2.1
  have hn1 := hvs.1
  unfold t__law_mk_mark_right
  refine x_seq (x_asg (e_cb (a_cons (e_dat rfl (a_nil (cb_len rfl (g_name ?_)))))))
  rw [hlv]
  repeat' walk_at "d1"
  refine e_lc (sets_name (by simp)) gm_name (i_rng1 (a_cons (e_dat rfl (a_nil ⟨_, rfl, by omega, by omega, ?_⟩))))
  refine ⟨fun j acc Γ => acc = ((List.range j).map fun (i : Nat) => CellT.ins (i : Int) (.set 1 0)).map cellD ∧
    Γ = [.res r, .dat (.tuple (iL vs)), .dat (.int size), .dat (.int vs.length), .no, .no, .no, .no, .no, .no, .no, .no, .no, .no, .no, .no], Nat.le_trans (by omega : (vs.length : Int).toNat ≤ 5) (by decide), ⟨rfl, rfl⟩, fun _ _ _ _ _ => trivial, ?_, ?_⟩
  · rintro j acc Γ hj hal ⟨rfl, hΓ⟩
    rw [hΓ]
    refine g_name (b_yesD ⟨fun _ => ?_, fun z => by cases z⟩)
    repeat' walk_at "d1"
    exact ⟨by rw [List.range_succ, List.map_append, List.map_append]; rfl, rfl⟩
  rintro acc Γ hal ⟨rfl, hΓ⟩
  rw [hΓ, Int.toNat_natCast]
  refine a_nil (cb_tuple rfl (op_add_t (by rw [sizeLine_eq]; simp; omega) (g_name ?_)))
  repeat' walk_at "d1"
  have hcd : (mcod vs size).d = .tuple [.tuple (iL vs), .int size, .tuple ([.tuple [.int 0, .str (PySem.Str.ofString "set"), .int 7, .int 1], .tuple [.str (PySem.Str.ofString "mark")], .tuple [.str (PySem.Str.ofString "stop")]] ++ ((List.range vs.length).map fun (i : Nat) => CellT.ins (i : Int) (.set 1 0)).map cellD), .tuple [.int 0, .int 1]] := by
    show PyData.tuple [_, _, .tuple ((mcells vs.length).map cellD), _] = _
    unfold mcells
    rw [List.map_append]
    rfl
  rw [← hcd]
  refine x_par (by decide) (a_cons (e_lstO' (a_nil ⟨[], rfl, rfl, fun a9 => a_cons (e_lstO' (a_nil ⟨[], rfl, rfl, fun a10 => a_nil ⟨_, _, rfl, g_name (g_name ?_)⟩⟩))⟩)))
  repeat' walk_at "d1"
  refine x_for (i_rng1 ?_)
  repeat' walk_at "d1"
  refine ⟨by omega, by omega, fun j Γ => ∃ (ts : List Row) (r2 : Res) (a9 a10 : Addr) (y6 y11 y14 y15 : Sl), ts.length = j ∧ rowsOk ts ∧ r2.v = r.v ∧ PS (t + 5 * j) r2 ∧
    Γ = [.res r2, .dat (.tuple (iL vs)), .dat (.int size), .dat (.int vs.length), .dat (.tuple ([.tuple [.int 0, .str (PySem.Str.ofString "set"), .int 7, .int 1], .tuple [.str (PySem.Str.ofString "mark")], .tuple [.str (PySem.Str.ofString "stop")]] ++ ((List.range vs.length).map fun (i : Nat) => CellT.ins (i : Int) (.set 1 0)).map cellD)), .dat (mcod vs size).d, y6, .no, .no, .res (ownL a9 ((mSs ts).map Strike.d)), .res (ownL a10 ((ts.zipIdx.map pairOf).map pairT)), y11, .no, .no, y14, y15],
    ⟨[], r, a9, a10, _, _, _, _, rfl, (fun i t z => by cases z), rfl, h.mono (by omega), rfl⟩, fun _ _ _ _ => trivial, ?_, ?_⟩
  · rintro j Γ hj ⟨ts, r2, a9, a10, y6, y11, y14, y15, hlen, hro, hv2, hp2, rfl⟩
    rw [Int.toNat_natCast] at hj
    refine g_name (x_seq (x_par (by decide) ?_))
    repeat' walk_at "d1"
    refine u__law_draw hp2 (by omega) ⟨by decide, by decide⟩ fun num r3 hv3 hp3 hnum0 hnum1 => ⟨_, rfl, hv3, rfl, ?_⟩
    repeat' walk_at "d1"
    refine u__law_draw hp3 (by omega) ⟨by decide, by decide⟩ fun od r4 hv4 hp4 hod0 hod1 => ⟨_, rfl, hv4, rfl, ?_⟩
    refine e_int (op_fdiv_i (by omega) (a_nil ⟨_, _, rfl, g_name (g_name ?_)⟩))
    obtain ⟨oth, ho⟩ : ∃ o : Int, o = od / 2 := ⟨_, rfl⟩
    rw [← ho]
    have ho0 : 0 ≤ oth ∧ oth ≤ 1 := by omega
    repeat' walk_at "d1"
    refine cb_intB ?_
    have hrgF : PyData.tuple [.int 0, .int 0, .int num, .int 0, .int 0, .int 0, .int 0, .int (if decide ((j : Int) = 0) = true then 1 else 0)] = PyData.tuple (iL (rg ts.length ⟨num, oth, false⟩)) := by
      have e : rg ts.length ⟨num, oth, false⟩ = [0, 0, num, 0, 0, 0, 0, if decide ((j : Int) = 0) = true then 1 else 0] := by
        unfold rg
        rw [hlen]
        by_cases hj0 : j = 0
        · subst hj0; rfl
        · rw [if_neg hj0]
          simp [hj0]
      rw [e]
      rfl
    have hrgT : j = 0 → PyData.tuple [.int 0, .int 0, .int num, .int 0, .int 0, .int 0, .int 0, .int 0] = PyData.tuple (iL (rg ts.length ⟨num, oth, true⟩)) := fun hj0 => by
      subst hj0
      unfold rg
      rw [hlen]
      rfl
    have hsl : ((mSs ts).map Strike.d).length ≤ 25 := by rw [List.length_map]; have := mSs_len (ts := ts); omega
    repeat' walk_at "d1"
    refine op_addO (HasL.o 9 rfl) (Nat.le_trans (by simp at hsl ⊢; omega : _ ≤ 100) (by rw [sizeLine_eq]; decide)) fun b9 => g_name ?_
    repeat' walk_at "d1"
    refine op_addO (HasL.o 9 rfl) (Nat.le_trans (by simp at hsl ⊢; omega : _ ≤ 100) (by rw [sizeLine_eq]; decide)) fun c9 => g_name ?_
    rw [hrgF]
    have hfinF : (mSs ts).map Strike.d ++ [.tuple [.int 1, .int j, .tuple [.str (PySem.Str.ofString "register"), .int 2], .int num], .tuple [.int 1, .int j, .tuple [.str (PySem.Str.ofString "cell"), .int 0], .int oth]] ++
      [.tuple [.int 1, .int j, .tuple [.str (PySem.Str.ofString "code"), .int (3 + (j : Int))], .tuple [.int j, .str (PySem.Str.ofString "offer"), .int 4]], .tuple [.int 1, .int j, .tuple [.str (PySem.Str.ofString "slot")], .int 1]] = (mSs (ts ++ [(⟨num, oth, false⟩ : Row)])).map Strike.d := by
      rw [mSs_app, List.map_append, hlen, blk_d]
      simp
    refine x_seq (x_if' (b_and' (b_test (e_op (e_dat rfl (e_int (op_eq_ii ⟨_, rfl, ?_⟩)))))))
    have hfin : ∀ b : Bool, (mSs (ts ++ [⟨num, oth, b⟩])).map Strike.d = (mSs ts).map Strike.d ++ (blk j ⟨num, oth, b⟩).map Strike.d := fun b => by rw [mSs_app, List.map_append, hlen]
    have hro2 : ∀ b : Bool, (b = true → j = 0) → rowsOk (ts ++ [⟨num, oth, b⟩]) := fun b hb i t e => by
      by_cases hi : i < ts.length
      · rw [List.getElem?_append_left hi] at e
        exact hro i t e
      · rw [List.getElem?_append_right (by omega)] at e
        have z : i - ts.length < 1 := (List.getElem?_eq_some_iff.mp e).1
        have z1 : i = ts.length := by omega
        rw [z1, Nat.sub_self] at e
        cases e
        exact ⟨⟨hnum0, by show num ≤ 1; omega⟩, ho0, fun h => by rw [z1, hlen]; exact hb h⟩
    by_cases hj0 : j = 0
    · rw [decide_eq_true (by omega : (j : Int) = 0)]
      refine iteT (b_test ?_)
      repeat' walk_at "d1"
      refine u__law_draw hp4 (by omega) ⟨by decide, by decide⟩ fun dd r5 hv5 hp5 hdd0 hdd1 => ⟨_, rfl, hv5, rfl, ?_⟩
      repeat' walk_at "d1"
      by_cases hdd : dd = 0
      · rw [decide_eq_true hdd]
        refine iteT (x_seq (x_expr (e_append 9 (e_res rfl ⟨c9, rfl, ⟨_, rfl⟩, ?_⟩))))
        repeat' walk_at "d1"
        refine ⟨Nat.lt_of_le_of_lt (by simp at hsl ⊢; omega : _ ≤ 100) (by rw [sizeLine_eq]; decide), ?_⟩
        repeat' walk_at "d1"
        have hcl : cutG (iL (rg ts.length ⟨num, oth, false⟩)) none (some 7) = iL [0, 0, num, 0, 0, 0, 0] := rfl
        rw [hcl]
        refine op_add_t (by rw [sizeLine_eq]; simp [iL]) (g_name ?_)
        have hrT : iL [0, 0, num, 0, 0, 0, 0] ++ [PyData.int 0] = iL (rg ts.length ⟨num, oth, true⟩) := by
          unfold rg
          rw [hlen, hj0]
          rfl
        rw [hrT]
        have hfinT : (mSs ts).map Strike.d ++ [.tuple [.int 1, .int j, .tuple [.str (PySem.Str.ofString "register"), .int 2], .int num], .tuple [.int 1, .int j, .tuple [.str (PySem.Str.ofString "cell"), .int 0], .int oth]] ++
          [.tuple [.int 1, .int j, .tuple [.str (PySem.Str.ofString "code"), .int (3 + (j : Int))], .tuple [.int j, .str (PySem.Str.ofString "offer"), .int 4]], .tuple [.int 1, .int j, .tuple [.str (PySem.Str.ofString "slot")], .int 1]] ++
          [.tuple [.int 1, .int 0, .tuple [.str (PySem.Str.ofString "register"), .int 7], .int 0]] = (mSs (ts ++ [(⟨num, oth, true⟩ : Row)])).map Strike.d := by
          rw [mSs_app, List.map_append, hlen, blk_d, hj0]
          simp
        rw [hfinT]
        exact k12_app (by omega) ⟨ts ++ [⟨num, oth, true⟩], r5, c9, a10, _, _, _, _, by rw [List.length_append, hlen]; rfl, hro2 true (fun _ => hj0), hv5.trans (hv4.trans (hv3.trans hv2)), hp5.mono (by omega), rfl⟩
      · rw [decide_eq_false hdd]
        refine iteF (x_next ?_)
        rw [hfinF]
        exact k12_app (by omega) ⟨ts ++ [⟨num, oth, false⟩], r5, c9, a10, _, _, _, _, by rw [List.length_append, hlen]; rfl, hro2 false (fun z => by cases z), hv5.trans (hv4.trans (hv3.trans hv2)), hp5.mono (by omega), rfl⟩
    · rw [decide_eq_false (by omega : ¬(j : Int) = 0)]
      refine iteF (x_next ?_)
      rw [hfinF]
      exact k12_app (by omega) ⟨ts ++ [⟨num, oth, false⟩], r4, c9, a10, _, _, _, _, by rw [List.length_append, hlen]; rfl, hro2 false (fun z => by cases z), hv4.trans (hv3.trans hv2), hp4.mono (by omega), rfl⟩
  rintro Γ ⟨ts, r2, a9, a10, y6, y11, y14, y15, hlen, hro, hv2, hp2, rfl⟩
  rw [Int.toNat_natCast] at hlen hp2
  refine x_seq (x_frz 9 rfl (x_frz 10 rfl (x_asg (e_call ?_))))
  have hss := mark_strikes hvs hsz hlen hro
  repeat' walk_at "d1"
  refine u_struck (n := 1) (ns := []) (ss := mSs ts) (mcod_ok hvs hsz) ⟨by decide, fun n z => by cases z⟩ (.inl rfl) hss (.inl rfl) (by decide) fun m hm => g_name ?_
  have I1 := mark_first hvs hsz hlen hro
  rw [← hm] at I1
  refine k12_mark T hvs hlen hro I1 fun z6 z7 z8 z12 z13 => ?_
  exact ⟨_, hk r2 hv2 (hp2.mono (by omega)), .res hv2 (.dat (.dat .nil))⟩
end
end Hw
namespace Hw
open PySem PySem.Spec PyProof.Rows L2 Dl
local macro_rules | `(tactic| walk_at "dbt") => `(tactic| first | assumption | rfl | (decide +kernel) | (simp [isFromD, *]; done) | (simp [isFromD, *]; omega))
local macro_rules | `(tactic| walk_at "d1") => `(tactic| first
  | with_reducible refine x_seq ?_ | with_reducible refine x_if' ?_ | with_reducible refine x_ret ?_ | with_reducible refine x_asg ?_ | with_reducible refine x_next ?_ | with_reducible refine x_expr ?_
  | with_reducible refine e_isi2 (by decide) (by decide) ?_
  | with_reducible refine e_dat rfl ?_ | with_reducible refine e_int ?_ | with_reducible refine e_str ?_ | with_reducible refine e_bl ?_ | with_reducible refine e_non ?_ | with_reducible refine e_op ?_ | with_reducible refine e_cb ?_ | with_reducible refine e_call ?_
  | with_reducible refine a_cons ?_ | with_reducible refine a_nil ?_
  | with_reducible refine b_test ?_ | with_reducible refine b_not ?_ | with_reducible refine b_and' ?_ | with_reducible refine b_or' ?_ | with_reducible refine b_tru ?_
  | with_reducible refine e_andV' ?_ | with_reducible refine e_orV' ?_ | with_reducible refine e_notV ?_ | with_reducible refine e_chain' ?_ | with_reducible refine e_if' ?_ | with_reducible refine e_c ?_ | with_reducible refine e_sl ?_ | with_reducible refine o_no ?_ | with_reducible refine o_some ?_ | with_reducible refine e_neg ?_
  | with_reducible refine e_raw rfl ?_ | with_reducible refine e_res rfl ?_ | with_reducible refine g_name ?_
  | with_reducible refine op_add_i ?_ | with_reducible refine op_sub_i ?_ | with_reducible refine op_lt_i ?_ | with_reducible refine op_le_i ?_ | with_reducible refine op_gt_i ?_ | with_reducible refine op_ge_i ?_ | with_reducible refine op_isnone ?_ | with_reducible refine op_notnone ?_
  | with_reducible refine cb_isi (by decide) ?_ | with_reducible refine cb_max2 ?_ | with_reducible refine cb_min2 ?_ | with_reducible refine cb_abs ?_ | with_reducible refine cb_int ?_ | with_reducible refine cb_len rfl ?_
  | with_reducible refine iteT ?_ | with_reducible refine iteF ?_ | ((with_reducible refine iT ?_ ?_); focus (walk_at "dbt"; done)) | ((with_reducible refine iF ?_ ?_); focus (walk_at "dbt"; done))
  | ((with_reducible refine g_tup ?_ ?_); (focus rfl)) | with_reducible refine gs_cons ?_ | with_reducible refine gs_nil ?_
  | with_reducible refine e_tup' ?_ | with_reducible refine e_lst' ?_ | with_reducible refine op_in2 ?_ | with_reducible refine op_ni3 ?_
  | with_reducible refine op_eq_ii ?_ | with_reducible refine op_ne_ii ?_ | ((with_reducible refine op_eq_ss ?_ ?_ ?_); (focus (decide +kernel)); (focus (decide +kernel))) | ((with_reducible refine op_ne_ss ?_ ?_ ?_); (focus (decide +kernel)); (focus (decide +kernel)))
  | ((with_reducible refine op_eq_d ?_ ?_ ?_); (focus (walk_at "dbt")); (focus (walk_at "dbt")))
  | ((with_reducible refine op_ne_d ?_ ?_ ?_); (focus (walk_at "dbt")); (focus (walk_at "dbt")))
  | ((with_reducible refine op_ix' ?_); refine Exists.intro _ (Exists.intro _ (And.intro rfl (And.intro rfl ?_))))
  | ((with_reducible refine op_mul_il ?_ ?_); (focus (decide +kernel))) | ((with_reducible refine op_mul_ir ?_ ?_); (focus (decide +kernel)))
  | ((with_reducible refine And.intro (a := smallL _ = true) ?_ ?_); (focus rfl)) | ((with_reducible refine And.intro (a := Pers _) ?_ ?_); (focus trivial)) | with_reducible refine d_cons ?_ | with_reducible refine d_nil ?_
  | (with_reducible refine Exists.intro _ (And.intro rfl ?_)) | (with_reducible refine Exists.intro _ (Exists.intro _ (And.intro rfl (And.intro rfl ?_)))) | refine Exists.intro _ (And.intro rfl (And.intro (by rfl) ?_)) | refine Exists.intro _ (Exists.intro _ (And.intro rfl (And.intro rfl ?_))) | with_reducible refine dat_ok ?_ | dsimp only | fail)
local macro_rules | `(tactic| walk_at "d1") => `(tactic| first | with_reducible refine e_callR ?_)
section
variable {K : Frag} {mg : Str → Option Value} {Γ : List Sl} {k : Sl → List Sl → Prop} {O : Out}
def cod0 : Code := ⟨[1], 2, [.stop], []⟩
theorem cod0_ok : cod0.Ok := by
  refine ⟨⟨by decide, by decide, fun i v h => ?_⟩, ⟨by decide, by decide⟩, ⟨by decide, by decide, fun x hx => ?_⟩, ⟨by decide, fun n hn => by cases hn⟩⟩
  · cases i with
    | zero => cases h; exact ⟨by decide, by decide⟩
    | succ i => cases h
  · have hx : x ∈ [CellT.stop] := hx
    rw [List.mem_singleton] at hx
    rw [hx]
    trivial
theorem b_law (T : TX K mg) : ∀ args k, F_law K args k → ExS K (t_law K) (args ++ List.replicate (5 - args.length) .no) (fnOut args k) := by
  rintro args k ⟨ns, s0, hl, hs0, rfl, hk⟩
  show ExS K _ [s0, .no, .no, .no, .no] _
  unfold t_law
  refine x_seq (x_asg (e_call (a_cons (e_scr hs0 rfl (a_nil (u__law_begun hl hs0 fun r0 hr0 => ?_))))))
  repeat' walk_at "d1"
  refine x_for (i_rng1 ?_)
  repeat' walk_at "d1"
  refine ⟨by decide, by decide, fun i Γ => ∃ r x2 x3 x4, PS (200 * i) r ∧ Γ = [s0, .res r, x2, x3, x4], ⟨r0, _, _, _, hr0, rfl⟩, fun _ _ _ _ => trivial, ?_, ?_⟩
  · rintro turn Γ ht ⟨r, x2, x3, x4, hr, rfl⟩
    have ht6 : turn < 6 := ht
    refine g_name (x_seq (x_par (by decide) ?_))
    repeat' walk_at "d1"
    refine u__law_votes hr (by omega) fun vs r1 hv1 hp1 hvs => ⟨_, rfl, hv1, rfl, ?_⟩
    repeat' walk_at "d1"
    refine u__law_size hp1 (by omega) fun size r2 hv2 hp2 hs2 hs3 => ⟨_, rfl, hv2, rfl, ?_⟩
    refine a_nil ⟨_, _, rfl, g_name (g_name ?_)⟩
    refine x_if' (b_or' (b_not (b_tru ?_)))
    repeat' walk_at "d1"
    refine ⟨r2, _, vs, size, hp2, by omega, hvs, ⟨hs2, hs3⟩, rfl, fun r3 hv3 hp3 => ⟨_, rfl, hv3, rfl, ?_⟩⟩
    refine ⟨_, true, rfl, rfl, iteF (b_not (b_tru ?_))⟩
    repeat' walk_at "d1"
    refine ⟨r3, _, vs, size, hp3, by omega, hvs, ⟨hs2, hs3⟩, rfl, fun r4 hv4 hp4 => ⟨_, rfl, hv4, rfl, ?_⟩⟩
    refine ⟨_, true, rfl, rfl, iteF ?_⟩
    exact x_next ⟨r4, _, _, _, hp4.mono (by omega), rfl⟩
  · rintro Γ ⟨r, x2, x3, x4, hr, rfl⟩
    refine x_ret (e_op (e_propT ?_))
    refine e_make (dvs := dv_Machine K) (dss := [.dat (.tuple [])]) (fun S => .cons (T.mt.dflt S) .nil) ?_
    repeat' walk_at "d1"
    intro xm
    refine u_Machine___init__ (c := cod0) (ns := []) (ss := []) cod0_ok ⟨by decide, fun n hn => by cases hn⟩ (.inl rfl) ⟨by decide, (fun s z => by cases z), .nil⟩ (.inr rfl) fun m hma hmD => ⟨rfl, m.R K, rfl, congrArg V.ref hma, ⟨_, rfl, isIns_star (n := 0) rfl (by decide), ⟨m, rfl, ⟨_, rfl, ?_⟩⟩⟩⟩
    have hsl : m.hues.map (fun h => optD h.d.slot) = [PyData.none] := by
      have e : m.hues.map (fun h => optD h.d.slot) = (m.D.hues.map (·.slot)).map optD := by
        show _ = ((m.hues.map (·.d)).map _).map _
        rw [List.map_map, List.map_map]
        rfl
      rw [e, hmD]
      rfl
    rw [hsl]
    refine e_tup' (a_cons (e_non (a_nil ⟨[.none], rfl, rfl, op_eq_same (Shp.tuple (n := 59) fun x hx => by rw [List.mem_singleton] at hx; rw [hx]; exact .none) ?_⟩)))
    exact ⟨_, hk, keep_scr hs0⟩
end
end Hw
namespace Hw
open PySem PySem.Spec PyProof.Rows L2 Dl
section
variable {P : Program} {w : World} {K : Frag} {mg : Str → Option Value} {base : Heap}
theorem ok__wall (T : TX K mg)  : Callee P w K mg base "_wall" 1 ["k"] (spOf K (F__wall K)) := by
  refine callee_mk T.f__wall sc__wall (by intro kV doc pm an cdv ct us hl; exact match us, hl with | [_], _ => rfl) T.g__wall n__wall (t__wall K) (b__wall T.mt) ?_
  intro cdv A outer s H E hr
  exact (pss_one (ps_while PassesOwn.never (pt_truth (pe_bl) (fun _ => rfl)) (pss_one (ps_pass))))
theorem ok_is_whole (T : TX K mg)  : Callee P w K mg base "is_whole" 1 ["value"] (spOf K (F_is_whole K)) := by
  refine callee_mk T.f_is_whole sc_is_whole (by intro kV doc pm an cdv ct us hl; exact match us, hl with | [_], _ => rfl) T.g_is_whole n_is_whole (t_is_whole K) (b_is_whole T.mt) ?_
  intro cdv A outer s H E hr
  exact (pss_one (ps_ret ((pe_and (pe_callB cIsi (by rfl) T.n_isinstance (by decide +kernel) (pa_cons (pv 0) (pa_cons (pe_bltn (v := .ty "int") (by rfl) T.n_int (by decide +kernel) rfl) pa_nil))) (pe_one (pe_not (pe_callB cIsi (by rfl) T.n_isinstance (by decide +kernel) (pa_cons (pv 0) (pa_cons (pe_bltn (v := .ty "bool") (by rfl) T.n_bool (by decide +kernel) rfl) pa_nil)))))))))
theorem ok_is_from (T : TX K mg) (C_is_whole : Callee P w K mg base "is_whole" 1 ["value"] (spOf K (F_is_whole K))) : Callee P w K mg base "is_from" 2 ["value", "low", "high"] (spOf K (F_is_from K)) := by
  refine callee_mk T.f_is_from sc_is_from (by intro kV doc pm an cdv ct us hl; exact match us, hl with | [_, _, _], _ => rfl) T.g_is_from n_is_from (t_is_from K) (b_is_from T.mt) ?_
  intro cdv A outer s H E hr
  exact (pss_one (ps_ret ((pe_and (pe_u C_is_whole hr (by decide) (by rfl) (pa_cons (pv 0) pa_nil)) (pe_one (pe_chain (opLe hr) (opLe hr) (pv 1) (pv 0) (pv 2)))))))
theorem ok_are_inputs (T : TX K mg) (C_is_from : Callee P w K mg base "is_from" 2 ["value", "low", "high"] (spOf K (F_is_from K))) : Callee P w K mg base "are_inputs" 3 ["value"] (spOf K (F_are_inputs K)) := by
  refine callee_mk T.f_are_inputs sc_are_inputs (by intro kV doc pm an cdv ct us hl; exact match us, hl with | [_], _ => rfl) T.g_are_inputs n_are_inputs (t_are_inputs K) (b_are_inputs T.mt) ?_
  intro cdv A outer s H E hr
  exact (pss_cons (ps_if (PW.pt (pw_or (pt_not (pt_truth (pe_callB cIsi (by rfl) T.n_isinstance (by decide +kernel) (pa_cons (pv 0) (pa_cons (pe_tup (pa_cons (pe_bltn (v := .ty "list") (by rfl) T.n_list (by decide +kernel) rfl) (pa_cons (pe_bltn (v := .ty "tuple") (by rfl) T.n_tuple (by decide +kernel) rfl) pa_nil))) pa_nil))) (fun _ => rfl))) (pw_or1 (pt_cmpR (opGt hr) (pe_callB call_len (by rfl) T.n_len (by decide +kernel) (pa_cons (pv 0) pa_nil)) (pe_gc (by rfl) T.c_MOST_INPUTS) (nomark _))))) (pss_one (ps_ret (pe_bl))) pss_nil) (pss_one (ps_ret (pe_cmpR (opEq hr) (pe_lc (own := [("one", 1)]) (g := gName 1) (tt := (tNot (tTru' K (tCall (spOf K (F_is_from K)) [] E0 (tCons (tVar 1) (tCons (tC (.int 0)) (tCons (tC (.int 9999)) tNil))))))) (by rfl) sc_are_inputs.nd (pi_sq (pv 0)) (blkOk_by (own := [("one", 1)]) (N := ["value", "one"]) (sc := defScope s_are_inputs) (by decide +kernel)) (fun _ _ _ _ _ => pg_name (i := 1) sc_are_inputs.nd rfl (by first | exact Or.inl rfl | exact Or.inr rfl)) (fun _ _ _ _ _ => (pts_one (pt_not (pt_truth (pe_u C_is_from hr (by decide) (by rfl) (pa_cons (pv 1) (pa_cons (pe_int) (pa_cons (pe_gc (by rfl) T.c_MOST_INPUT) pa_nil)))) (fun _ => rfl))))) (fun _ _ _ _ _ => (pv 1))) (pe_lst pa_nil) (nomark _)))))
theorem ok_is_votes (T : TX K mg) (C_is_whole : Callee P w K mg base "is_whole" 1 ["value"] (spOf K (F_is_whole K))) : Callee P w K mg base "is_votes" 2 ["value"] (spOf K (F_is_votes K)) := by
  refine callee_mk T.f_is_votes sc_is_votes (by intro kV doc pm an cdv ct us hl; exact match us, hl with | [_], _ => rfl) T.g_is_votes n_is_votes (t_is_votes K) (b_is_votes T.mt) ?_
  intro cdv A outer s H E hr
  exact (pss_cons (ps_if (PW.pt (pw_or (pt_not (pt_truth (pe_callB cIsi (by rfl) T.n_isinstance (by decide +kernel) (pa_cons (pv 0) (pa_cons (pe_bltn (v := .ty "tuple") (by rfl) T.n_tuple (by decide +kernel) rfl) pa_nil))) (fun _ => rfl))) (pw_or1 (pt_not (pt_chain (opLe hr) (opLe hr) (pe_int) (pe_callB call_len (by rfl) T.n_len (by decide +kernel) (pa_cons (pv 0) pa_nil)) (pe_gc (by rfl) T.c_MOST_HUES)))))) (pss_one (ps_ret (pe_bl))) pss_nil) (pss_cons (ps_for PassesOwn.never (by rfl) (pi_enumS (by rfl) T.n_enumerate (pa_cons (pv 0) (pa_cons (pe_int) pa_nil))) (pg_tup (by rfl) (pgs_cons (pg_name (i := 1) sc_is_votes.nd rfl (by first | exact Or.inl rfl | exact Or.inr rfl)) (pgs_cons (pg_name (i := 2) sc_is_votes.nd rfl (by first | exact Or.inl rfl | exact Or.inr rfl)) pgs_nil))) (pss_one (ps_if (PW.pt (pw_or (pt_not (pt_truth (pe_u C_is_whole hr (by decide) (by rfl) (pa_cons (pv 2) pa_nil)) (fun _ => rfl))) (pw_or1 (pt_not (pt_chain (opLt hr) (opLe hr) (pv 1) (pe_op opMul (pe_int) (pv 2)) (pe_op opMul (pe_int) (pv 1))))))) (pss_one (ps_ret (pe_bl))) pss_nil))) (pss_one (ps_ret (pe_bl)))))
theorem ok_are_registers (T : TX K mg) (C_is_from : Callee P w K mg base "is_from" 2 ["value", "low", "high"] (spOf K (F_is_from K))) : Callee P w K mg base "are_registers" 3 ["values"] (spOf K (F_are_registers K)) := by
  refine callee_mk T.f_are_registers sc_are_registers (by intro kV doc pm an cdv ct us hl; exact match us, hl with | [_], _ => rfl) T.g_are_registers n_are_registers (t_are_registers K) (b_are_registers T.mt) ?_
  intro cdv A outer s H E hr
  exact (pss_one (ps_ret (pe_cmpR (opEq hr) (pe_lc (own := [("one", 1)]) (g := gName 1) (tt := (tNot (tTru' K (tCall (spOf K (F_is_from K)) [] E0 (tCons (tVar 1) (tCons (tC (.int 0)) (tCons (tOp (uSub K) (tC (.int 8)) (tC (.int 1))) tNil))))))) (by rfl) sc_are_registers.nd (pi_sq (pv 0)) (blkOk_by (own := [("one", 1)]) (N := ["values", "one"]) (sc := defScope s_are_registers) (by decide +kernel)) (fun _ _ _ _ _ => pg_name (i := 1) sc_are_registers.nd rfl (by first | exact Or.inl rfl | exact Or.inr rfl)) (fun _ _ _ _ _ => (pts_one (pt_not (pt_truth (pe_u C_is_from hr (by decide) (by rfl) (pa_cons (pv 1) (pa_cons (pe_int) (pa_cons (pe_op opSub (pe_gc (by rfl) T.c_MANY_REGISTERS) (pe_int)) pa_nil)))) (fun _ => rfl))))) (fun _ _ _ _ _ => (pv 1))) (pe_lst pa_nil) (nomark _))))
theorem ok_instruction_fits (T : TX K mg) (C_is_from : Callee P w K mg base "is_from" 2 ["value", "low", "high"] (spOf K (F_is_from K))) (C_are_registers : Callee P w K mg base "are_registers" 3 ["values"] (spOf K (F_are_registers K))) : Callee P w K mg base "instruction_fits" 4 ["value", "hue", "size", "many"] (spOf K (F_instruction_fits K)) := by
  refine callee_mk T.f_instruction_fits sc_instruction_fits (by intro kV doc pm an cdv ct us hl; exact match us, hl with | [_, _, _, _], _ => rfl) T.g_instruction_fits n_instruction_fits (t_instruction_fits K) (b_instruction_fits T.mt) ?_
  intro cdv A outer s H E hr
  exact (pss_cons (ps_if (PW.pt (pw_or (pt_not (pt_truth (pe_callB cIsi (by rfl) T.n_isinstance (by decide +kernel) (pa_cons (pv 0) (pa_cons (pe_bltn (v := .ty "tuple") (by rfl) T.n_tuple (by decide +kernel) rfl) pa_nil))) (fun _ => rfl))) (pw_or (pt_cmpR (opLt hr) (pe_callB call_len (by rfl) T.n_len (by decide +kernel) (pa_cons (pv 0) pa_nil)) (pe_int) (nomark _)) (pw_or1 (pt_not (pt_truth (pe_u C_is_from hr (by decide) (by rfl) (pa_cons (pe_ix ixU (pv 0) (pe_int) (fun _ _ => rfl)) (pa_cons (pv 1) (pa_cons (pv 1) pa_nil)))) (fun _ => rfl))))))) (pss_one (ps_ret (pe_bl))) pss_nil) (pss_cons (ps_if (pt_not (pt_truth (pe_callB cIsi (by rfl) T.n_isinstance (by decide +kernel) (pa_cons (pe_ix ixU (pv 0) (pe_int) (fun _ _ => rfl)) (pa_cons (pe_bltn (v := .ty "str") (by rfl) T.n_str (by decide +kernel) rfl) pa_nil))) (fun _ => rfl))) (pss_one (ps_ret (pe_bl))) pss_nil) (pss_cons (ps_set (i := 4) sc_instruction_fits.nd rfl (by first | exact Or.inl rfl | exact Or.inr rfl) (pe_ix ixU (pv 0) (pe_int) (fun _ _ => rfl))) (pss_cons (ps_if (pt_cmpR (opEq hr) (pv 4) (pe_str) (nomark _)) (pss_one (ps_ret ((pe_and (pe_cmpR (opEq hr) (pe_callB call_len (by rfl) T.n_len (by decide +kernel) (pa_cons (pv 0) pa_nil)) (pe_int) (nomark _)) (pe_and (pe_u C_are_registers hr (by decide) (by rfl) (pa_cons (pe_slice slU (pv 0) (po_some (pe_int)) (po_some (pe_int))) pa_nil)) (pe_one (pe_u C_is_from hr (by decide) (by rfl) (pa_cons (pe_ix ixU (pv 0) (pe_int) (fun _ _ => rfl)) (pa_cons (pe_int) (pa_cons (pe_op opSub (pv 2) (pe_int)) pa_nil)))))))))) pss_nil) (pss_cons (ps_if (pt_cmpR (opEq hr) (pv 4) (pe_str) (nomark _)) (pss_one (ps_ret ((pe_and (pe_cmpR (opEq hr) (pe_callB call_len (by rfl) T.n_len (by decide +kernel) (pa_cons (pv 0) pa_nil)) (pe_int) (nomark _)) (pe_one (pe_u C_are_registers hr (by decide) (by rfl) (pa_cons (pe_slice slU (pv 0) (po_some (pe_int)) po_none) pa_nil))))))) pss_nil) (pss_cons (ps_if (pt_cmpR (opIn hr) (pv 4) (pe_tup (pa_cons (pe_str) (pa_cons (pe_str) pa_nil))) (by rfl)) (pss_cons (ps_if (PW.pt (pw_or (pt_cmpR (opNe hr) (pe_callB call_len (by rfl) T.n_len (by decide +kernel) (pa_cons (pv 0) pa_nil)) (pe_int) (nomark _)) (pw_or1 (pt_not (pt_truth (pe_u C_are_registers hr (by decide) (by rfl) (pa_cons (pe_slice slU (pv 0) (po_some (pe_int)) (po_some (pe_int))) pa_nil)) (fun _ => rfl)))))) (pss_one (ps_ret (pe_bl))) pss_nil) (pss_one (ps_ret ((pe_and (pe_u C_is_from hr (by decide) (by rfl) (pa_cons (pe_ix ixU (pv 0) (pe_int) (fun _ _ => rfl)) (pa_cons (pe_int) (pa_cons (pv 3) pa_nil)))) (pe_one (pe_u C_is_from hr (by decide) (by rfl) (pa_cons (pe_ix ixU (pv 0) (pe_int) (fun _ _ => rfl)) (pa_cons (pe_int) (pa_cons (pe_op opSub (pv 3) (pe_ix ixU (pv 0) (pe_int) (fun _ _ => rfl))) pa_nil)))))))))) pss_nil) (pss_one (ps_ret ((pe_and (pe_cmpR (opIn hr) (pv 4) (pe_gc (by rfl) T.c_TWOS) (by rfl)) (pe_and (pe_cmpR (opEq hr) (pe_callB call_len (by rfl) T.n_len (by decide +kernel) (pa_cons (pv 0) pa_nil)) (pe_int) (nomark _)) (pe_one (pe_u C_are_registers hr (by decide) (by rfl) (pa_cons (pe_slice slU (pv 0) (po_some (pe_int)) po_none) pa_nil))))))))))))))
theorem ok_settle_fits (T : TX K mg) (C_is_from : Callee P w K mg base "is_from" 2 ["value", "low", "high"] (spOf K (F_is_from K))) : Callee P w K mg base "settle_fits" 3 ["value", "hues", "many"] (spOf K (F_settle_fits K)) := by
  refine callee_mk T.f_settle_fits sc_settle_fits (by intro kV doc pm an cdv ct us hl; exact match us, hl with | [_, _, _], _ => rfl) T.g_settle_fits n_settle_fits (t_settle_fits K) (b_settle_fits T.mt) ?_
  intro cdv A outer s H E hr
  exact (pss_cons (ps_if (PW.pt (pw_or (pt_not (pt_truth (pe_callB cIsi (by rfl) T.n_isinstance (by decide +kernel) (pa_cons (pv 0) (pa_cons (pe_bltn (v := .ty "tuple") (by rfl) T.n_tuple (by decide +kernel) rfl) pa_nil))) (fun _ => rfl))) (pw_or (pt_cmpR (opEq hr) (pe_callB call_len (by rfl) T.n_len (by decide +kernel) (pa_cons (pv 0) pa_nil)) (pe_int) (nomark _)) (pw_or1 (pt_not (pt_truth (pe_callB cIsi (by rfl) T.n_isinstance (by decide +kernel) (pa_cons (pe_ix ixU (pv 0) (pe_int) (fun _ _ => rfl)) (pa_cons (pe_bltn (v := .ty "str") (by rfl) T.n_str (by decide +kernel) rfl) pa_nil))) (fun _ => rfl))))))) (pss_one (ps_ret (pe_bl))) pss_nil) (pss_cons (ps_set (i := 3) sc_settle_fits.nd rfl (by first | exact Or.inl rfl | exact Or.inr rfl) (pe_ix ixU (pv 0) (pe_int) (fun _ _ => rfl))) (pss_cons (ps_if (pt_cmpR (opIn hr) (pv 3) (pe_tup (pa_cons (pe_str) (pa_cons (pe_str) pa_nil))) (by rfl)) (pss_one (ps_ret (pe_cmpR (opEq hr) (pe_callB call_len (by rfl) T.n_len (by decide +kernel) (pa_cons (pv 0) pa_nil)) (pe_int) (nomark _)))) pss_nil) (pss_cons (ps_if (pt_cmpR (opEq hr) (pv 3) (pe_str) (nomark _)) (pss_one (ps_ret ((pe_and (pe_cmpR (opEq hr) (pe_callB call_len (by rfl) T.n_len (by decide +kernel) (pa_cons (pv 0) pa_nil)) (pe_int) (nomark _)) (pe_one (pe_u C_is_from hr (by decide) (by rfl) (pa_cons (pe_ix ixU (pv 0) (pe_int) (fun _ _ => rfl)) (pa_cons (pe_int) (pa_cons (pe_op opSub (pv 2) (pe_int)) pa_nil))))))))) pss_nil) (pss_cons (ps_if (PW.pt (pw_or (pt_cmpR (opNotIn hr) (pv 3) (pe_tup (pa_cons (pe_str) (pa_cons (pe_str) (pa_cons (pe_str) pa_nil)))) (by rfl)) (pw_or (pt_cmpR (opNe hr) (pe_callB call_len (by rfl) T.n_len (by decide +kernel) (pa_cons (pv 0) pa_nil)) (pe_int) (nomark _)) (pw_or1 (pt_not (pt_truth (pe_u C_is_from hr (by decide) (by rfl) (pa_cons (pe_ix ixU (pv 0) (pe_int) (fun _ _ => rfl)) (pa_cons (pe_int) (pa_cons (pv 1) pa_nil)))) (fun _ => rfl))))))) (pss_one (ps_ret (pe_bl))) pss_nil) (pss_cons (ps_set (i := 4) sc_settle_fits.nd rfl (by first | exact Or.inl rfl | exact Or.inr rfl) (pe_dget (hu_of hr) (pe_disp (pps_cons (pe_str) (pe_gc (by rfl) T.c_MOST_PORT) (pps_cons (pe_str) (pe_op opSub (pv 2) (pe_int)) (pps_cons (pe_str) (pe_op opSub (pe_gc (by rfl) T.c_MANY_REGISTERS) (pe_int)) pps_nil))) (by rfl) (by rfl) (fun z => by cases z) (by decide)) (pv 3) (fun _ _ => rfl))) (pss_one (ps_ret (pe_u C_is_from hr (by decide) (by rfl) (pa_cons (pe_ix ixU (pv 0) (pe_int) (fun _ _ => rfl)) (pa_cons (pe_int) (pa_cons (pv 4) pa_nil))))))))))))
theorem ok_is_settle (T : TX K mg)  : Callee P w K mg base "is_settle" 1 ["cell"] (spOf K (F_is_settle K)) := by
  refine callee_mk T.f_is_settle sc_is_settle (by intro kV doc pm an cdv ct us hl; exact match us, hl with | [_], _ => rfl) T.g_is_settle n_is_settle (t_is_settle K) (b_is_settle T.mt) ?_
  intro cdv A outer s H E hr
  exact (pss_one (ps_ret (pe_callB cIsi (by rfl) T.n_isinstance (by decide +kernel) (pa_cons (pe_ix ixU (pv 0) (pe_int) (fun _ _ => rfl)) (pa_cons (pe_bltn (v := .ty "str") (by rfl) T.n_str (by decide +kernel) rfl) pa_nil)))))
theorem ok_cell_fits (T : TX K mg) (C_is_from : Callee P w K mg base "is_from" 2 ["value", "low", "high"] (spOf K (F_is_from K))) (C_instruction_fits : Callee P w K mg base "instruction_fits" 4 ["value", "hue", "size", "many"] (spOf K (F_instruction_fits K))) (C_settle_fits : Callee P w K mg base "settle_fits" 3 ["value", "hues", "many"] (spOf K (F_settle_fits K))) : Callee P w K mg base "cell_fits" 5 ["value", "hues", "size", "many", "bank"] (spOf K (F_cell_fits K)) := by
  refine callee_mk T.f_cell_fits sc_cell_fits (by intro kV doc pm an cdv ct us hl; exact match us, hl with | [_, _, _, _, _], _ => rfl) T.g_cell_fits n_cell_fits (t_cell_fits K) (b_cell_fits T.mt) ?_
  intro cdv A outer s H E hr
  exact (pss_cons (ps_if (PW.pt (pw_or (pt_not (pt_truth (pe_callB cIsi (by rfl) T.n_isinstance (by decide +kernel) (pa_cons (pv 0) (pa_cons (pe_bltn (v := .ty "tuple") (by rfl) T.n_tuple (by decide +kernel) rfl) pa_nil))) (fun _ => rfl))) (pw_or1 (pt_cmpR (opEq hr) (pe_callB call_len (by rfl) T.n_len (by decide +kernel) (pa_cons (pv 0) pa_nil)) (pe_int) (nomark _))))) (pss_one (ps_ret (pe_bl))) pss_nil) (pss_cons (ps_if (pt_truth (pe_u C_is_from hr (by decide) (by rfl) (pa_cons (pe_ix ixU (pv 0) (pe_int) (fun _ _ => rfl)) (pa_cons (pe_int) (pa_cons (pe_op opSub (pv 1) (pe_int)) pa_nil)))) (fun _ => rfl)) (pss_one (ps_ret (pe_u C_instruction_fits hr (by decide) (by rfl) (pa_cons (pv 0) (pa_cons (pe_ix ixU (pv 0) (pe_int) (fun _ _ => rfl)) (pa_cons (pv 2) (pa_cons (pv 4) pa_nil))))))) pss_nil) (pss_one (ps_ret (pe_u C_settle_fits hr (by decide) (by rfl) (pa_cons (pv 0) (pa_cons (pv 1) (pa_cons (pv 3) pa_nil))))))))
theorem ok_is_code (T : TX K mg) (C_is_votes : Callee P w K mg base "is_votes" 2 ["value"] (spOf K (F_is_votes K))) (C_is_from : Callee P w K mg base "is_from" 2 ["value", "low", "high"] (spOf K (F_is_from K))) (C_cell_fits : Callee P w K mg base "cell_fits" 5 ["value", "hues", "size", "many", "bank"] (spOf K (F_cell_fits K))) : Callee P w K mg base "is_code" 6 ["value"] (spOf K (F_is_code K)) := by
  refine callee_mk T.f_is_code sc_is_code (by intro kV doc pm an cdv ct us hl; exact match us, hl with | [_], _ => rfl) T.g_is_code n_is_code (t_is_code K) (b_is_code T.mt) ?_
  intro cdv A outer s H E hr
  exact (pss_cons (ps_if (PW.pt (pw_or (pt_not (pt_truth (pe_callB cIsi (by rfl) T.n_isinstance (by decide +kernel) (pa_cons (pv 0) (pa_cons (pe_bltn (v := .ty "tuple") (by rfl) T.n_tuple (by decide +kernel) rfl) pa_nil))) (fun _ => rfl))) (pw_or (pt_cmpR (opNe hr) (pe_callB call_len (by rfl) T.n_len (by decide +kernel) (pa_cons (pv 0) pa_nil)) (pe_int) (nomark _)) (pw_or1 (pt_not (pt_truth (pe_u C_is_votes hr (by decide) (by rfl) (pa_cons (pe_ix ixU (pv 0) (pe_int) (fun _ _ => rfl)) pa_nil)) (fun _ => rfl))))))) (pss_one (ps_ret (pe_bl))) pss_nil) (pss_cons (ps_asg (pv 0) (pg_tup (by rfl) (pgs_cons (pg_name (i := 2) sc_is_code.nd rfl (by first | exact Or.inl rfl | exact Or.inr rfl)) (pgs_cons (pg_name (i := 3) sc_is_code.nd rfl (by first | exact Or.inl rfl | exact Or.inr rfl)) (pgs_cons (pg_name (i := 4) sc_is_code.nd rfl (by first | exact Or.inl rfl | exact Or.inr rfl)) (pgs_cons (pg_name (i := 5) sc_is_code.nd rfl (by first | exact Or.inl rfl | exact Or.inr rfl)) pgs_nil)))))) (pss_cons (ps_if (PW.pt (pw_or (pt_not (pt_truth (pe_u C_is_from hr (by decide) (by rfl) (pa_cons (pv 3) (pa_cons (pe_gc (by rfl) T.c_LEAST_SIZE) (pa_cons (pe_gc (by rfl) T.c_MOST_SIZE) pa_nil)))) (fun _ => rfl))) (pw_or (pt_not (pt_truth (pe_callB cIsi (by rfl) T.n_isinstance (by decide +kernel) (pa_cons (pv 5) (pa_cons (pe_bltn (v := .ty "tuple") (by rfl) T.n_tuple (by decide +kernel) rfl) pa_nil))) (fun _ => rfl))) (pw_or1 (pt_cmpR (opGt hr) (pe_callB call_len (by rfl) T.n_len (by decide +kernel) (pa_cons (pv 5) pa_nil)) (pe_gc (by rfl) T.c_MOST_BANK) (nomark _)))))) (pss_one (ps_ret (pe_bl))) pss_nil) (pss_cons (ps_if (pt_cmpR (opNe hr) (pe_lc (own := [("one", 6)]) (g := gName 6) (tt := (tNot (tTru' K (tCall (spOf K (F_is_from K)) [] E0 (tCons (tVar 6) (tCons (tC (.int 0)) (tCons (tOp (uSub K) (tVar 3) (tC (.int 1))) tNil))))))) (by rfl) sc_is_code.nd (pi_sq (pv 5)) (blkOk_by (own := [("one", 6)]) (N := ["value", "many", "votes", "size", "cells", "bank", "one", "cell"]) (sc := defScope s_is_code) (by decide +kernel)) (fun _ _ _ _ _ => pg_name (i := 6) sc_is_code.nd rfl (by first | exact Or.inl rfl | exact Or.inr rfl)) (fun _ _ _ _ _ => (pts_one (pt_not (pt_truth (pe_u C_is_from hr (by decide) (by rfl) (pa_cons (pv 6) (pa_cons (pe_int) (pa_cons (pe_op opSub (pv 3) (pe_int)) pa_nil)))) (fun _ => rfl))))) (fun _ _ _ _ _ => (pv 6))) (pe_lst pa_nil) (nomark _)) (pss_one (ps_ret (pe_bl))) pss_nil) (pss_cons (ps_if (PW.pt (pw_or (pt_not (pt_truth (pe_callB cIsi (by rfl) T.n_isinstance (by decide +kernel) (pa_cons (pv 4) (pa_cons (pe_bltn (v := .ty "tuple") (by rfl) T.n_tuple (by decide +kernel) rfl) pa_nil))) (fun _ => rfl))) (pw_or1 (pt_not (pt_chain (opLe hr) (opLe hr) (pe_int) (pe_callB call_len (by rfl) T.n_len (by decide +kernel) (pa_cons (pv 4) pa_nil)) (pe_gc (by rfl) T.c_MOST_CELLS)))))) (pss_one (ps_ret (pe_bl))) pss_nil) (pss_cons (ps_set (i := 1) sc_is_code.nd rfl (by first | exact Or.inl rfl | exact Or.inr rfl) (pe_callB call_len (by rfl) T.n_len (by decide +kernel) (pa_cons (pv 4) pa_nil))) (pss_one (ps_ret (pe_cmpR (opEq hr) (pe_lc (own := [("cell", 7)]) (g := gName 7) (tt := (tNot (tTru' K (tCall (spOf K (F_cell_fits K)) [] E0 (tCons (tVar 7) (tCons (tCB (Dl.rLen K) (tCons (tVar 2) tNil)) (tCons (tVar 3) (tCons (tVar 1) (tCons (tCB (Dl.rLen K) (tCons (tVar 5) tNil)) tNil))))))))) (by rfl) sc_is_code.nd (pi_sq (pv 4)) (blkOk_by (own := [("cell", 7)]) (N := ["value", "many", "votes", "size", "cells", "bank", "one", "cell"]) (sc := defScope s_is_code) (by decide +kernel)) (fun _ _ _ _ _ => pg_name (i := 7) sc_is_code.nd rfl (by first | exact Or.inl rfl | exact Or.inr rfl)) (fun _ _ _ _ _ => (pts_one (pt_not (pt_truth (pe_u C_cell_fits hr (by decide) (by rfl) (pa_cons (pv 7) (pa_cons (pe_callB call_len (by rfl) T.n_len (by decide +kernel) (pa_cons (pv 2) pa_nil)) (pa_cons (pv 3) (pa_cons (pv 1) (pa_cons (pe_callB call_len (by rfl) T.n_len (by decide +kernel) (pa_cons (pv 5) pa_nil)) pa_nil)))))) (fun _ => rfl))))) (fun _ _ _ _ _ => (pv 7))) (pe_lst pa_nil) (nomark _))))))))))
theorem ok_need_code (T : TX K mg) (C_is_code : Callee P w K mg base "is_code" 6 ["value"] (spOf K (F_is_code K))) : Callee P w K mg base "need_code" 7 ["code"] (spOf K (F_need_code K)) := by
  refine callee_mk T.f_need_code sc_need_code (by intro kV doc pm an cdv ct us hl; exact match us, hl with | [_], _ => rfl) T.g_need_code n_need_code (t_need_code K) (b_need_code T.mt) ?_
  intro cdv A outer s H E hr
  exact (pss_one (ps_if (pt_not (pt_truth (pe_u C_is_code hr (by decide) (by rfl) (pa_cons (pv 0) pa_nil)) (fun _ => rfl))) (pss_one (ps_never)) pss_nil))
theorem ok_need_hue (T : TX K mg) (C_is_from : Callee P w K mg base "is_from" 2 ["value", "low", "high"] (spOf K (F_is_from K))) : Callee P w K mg base "need_hue" 3 ["code", "hue"] (spOf K (F_need_hue K)) := by
  refine callee_mk T.f_need_hue sc_need_hue (by intro kV doc pm an cdv ct us hl; exact match us, hl with | [_, _], _ => rfl) T.g_need_hue n_need_hue (t_need_hue K) (b_need_hue T.mt) ?_
  intro cdv A outer s H E hr
  exact (pss_one (ps_if (pt_not (pt_truth (pe_u C_is_from hr (by decide) (by rfl) (pa_cons (pv 1) (pa_cons (pe_int) (pa_cons (pe_op opSub (pe_callB call_len (by rfl) T.n_len (by decide +kernel) (pa_cons (pe_ix ixU (pv 0) (pe_int) (fun _ _ => rfl)) pa_nil)) (pe_int)) pa_nil)))) (fun _ => rfl))) (pss_one (ps_never)) pss_nil))
theorem ok_place_fits (T : TX K mg) (C_is_from : Callee P w K mg base "is_from" 2 ["value", "low", "high"] (spOf K (F_is_from K))) (C_is_settle : Callee P w K mg base "is_settle" 1 ["cell"] (spOf K (F_is_settle K))) : Callee P w K mg base "place_fits" 3 ["code", "hue", "place"] (spOf K (F_place_fits K)) := by
  refine callee_mk T.f_place_fits sc_place_fits (by intro kV doc pm an cdv ct us hl; exact match us, hl with | [_, _, _], _ => rfl) T.g_place_fits n_place_fits (t_place_fits K) (b_place_fits T.mt) ?_
  intro cdv A outer s H E hr
  exact (pss_cons (ps_if (PW.pt (pw_or (pt_not (pt_truth (pe_callB cIsi (by rfl) T.n_isinstance (by decide +kernel) (pa_cons (pv 2) (pa_cons (pe_bltn (v := .ty "tuple") (by rfl) T.n_tuple (by decide +kernel) rfl) pa_nil))) (fun _ => rfl))) (pw_or (pt_cmpR (opEq hr) (pe_callB call_len (by rfl) T.n_len (by decide +kernel) (pa_cons (pv 2) pa_nil)) (pe_int) (nomark _)) (pw_or1 (pt_not (pt_truth (pe_callB cIsi (by rfl) T.n_isinstance (by decide +kernel) (pa_cons (pe_ix ixU (pv 2) (pe_int) (fun _ _ => rfl)) (pa_cons (pe_bltn (v := .ty "str") (by rfl) T.n_str (by decide +kernel) rfl) pa_nil))) (fun _ => rfl))))))) (pss_one (ps_ret (pe_bl))) pss_nil) (pss_cons (ps_if (pt_cmpR (opIn hr) (pe_ix ixU (pv 2) (pe_int) (fun _ _ => rfl)) (pe_tup (pa_cons (pe_str) (pa_cons (pe_str) pa_nil))) (by rfl)) (pss_one (ps_ret (pe_cmpR (opEq hr) (pe_callB call_len (by rfl) T.n_len (by decide +kernel) (pa_cons (pv 2) pa_nil)) (pe_int) (nomark _)))) pss_nil) (pss_cons (ps_if (pt_cmpR (opNe hr) (pe_callB call_len (by rfl) T.n_len (by decide +kernel) (pa_cons (pv 2) pa_nil)) (pe_int) (nomark _)) (pss_one (ps_ret (pe_bl))) pss_nil) (pss_cons (ps_if (pt_cmpR (opEq hr) (pe_ix ixU (pv 2) (pe_int) (fun _ _ => rfl)) (pe_str) (nomark _)) (pss_one (ps_ret (pe_u C_is_from hr (by decide) (by rfl) (pa_cons (pe_ix ixU (pv 2) (pe_int) (fun _ _ => rfl)) (pa_cons (pe_int) (pa_cons (pe_op opSub (pe_gc (by rfl) T.c_MANY_REGISTERS) (pe_int)) pa_nil)))))) pss_nil) (pss_cons (ps_if (pt_cmpR (opEq hr) (pe_ix ixU (pv 2) (pe_int) (fun _ _ => rfl)) (pe_str) (nomark _)) (pss_one (ps_ret (pe_u C_is_from hr (by decide) (by rfl) (pa_cons (pe_ix ixU (pv 2) (pe_int) (fun _ _ => rfl)) (pa_cons (pe_int) (pa_cons (pe_op opSub (pe_callB call_len (by rfl) T.n_len (by decide +kernel) (pa_cons (pe_ix ixU (pv 0) (pe_int) (fun _ _ => rfl)) pa_nil)) (pe_int)) pa_nil)))))) pss_nil) (pss_cons (ps_if (PW.pt (pw_or (pt_cmpR (opNe hr) (pe_ix ixU (pv 2) (pe_int) (fun _ _ => rfl)) (pe_str) (nomark _)) (pw_or1 (pt_not (pt_truth (pe_u C_is_from hr (by decide) (by rfl) (pa_cons (pe_ix ixU (pv 2) (pe_int) (fun _ _ => rfl)) (pa_cons (pe_int) (pa_cons (pe_op opSub (pe_callB call_len (by rfl) T.n_len (by decide +kernel) (pa_cons (pe_ix ixU (pv 0) (pe_int) (fun _ _ => rfl)) pa_nil)) (pe_int)) pa_nil)))) (fun _ => rfl)))))) (pss_one (ps_ret (pe_bl))) pss_nil) (pss_cons (ps_set (i := 3) sc_place_fits.nd rfl (by first | exact Or.inl rfl | exact Or.inr rfl) (pe_ix ixU (pe_ix ixU (pv 0) (pe_int) (fun _ _ => rfl)) (pe_ix ixU (pv 2) (pe_int) (fun _ _ => rfl)) (fun _ _ => rfl))) (pss_one (ps_ret ((pe_and (pe_not (pe_u C_is_settle hr (by decide) (by rfl) (pa_cons (pv 3) pa_nil))) (pe_one (pe_cmpR (opEq hr) (pe_ix ixU (pv 3) (pe_int) (fun _ _ => rfl)) (pv 1) (nomark _))))))))))))))
theorem ok_new_fits (T : TX K mg) (C_instruction_fits : Callee P w K mg base "instruction_fits" 4 ["value", "hue", "size", "many"] (spOf K (F_instruction_fits K))) (C_is_from : Callee P w K mg base "is_from" 2 ["value", "low", "high"] (spOf K (F_is_from K))) : Callee P w K mg base "new_fits" 5 ["code", "hue", "place", "new"] (spOf K (F_new_fits K)) := by
  refine callee_mk T.f_new_fits sc_new_fits (by intro kV doc pm an cdv ct us hl; exact match us, hl with | [_, _, _, _], _ => rfl) T.g_new_fits n_new_fits (t_new_fits K) (b_new_fits T.mt) ?_
  intro cdv A outer s H E hr
  exact (pss_cons (ps_if (pt_cmpR (opEq hr) (pe_ix ixU (pv 2) (pe_int) (fun _ _ => rfl)) (pe_str) (nomark _)) (pss_one (ps_ret (pe_u C_instruction_fits hr (by decide) (by rfl) (pa_cons (pv 3) (pa_cons (pv 1) (pa_cons (pe_ix ixU (pv 0) (pe_int) (fun _ _ => rfl)) (pa_cons (pe_callB call_len (by rfl) T.n_len (by decide +kernel) (pa_cons (pe_ix ixU (pv 0) (pe_int) (fun _ _ => rfl)) pa_nil)) pa_nil))))))) pss_nil) (pss_cons (ps_if (pt_cmpR (opEq hr) (pe_ix ixU (pv 2) (pe_int) (fun _ _ => rfl)) (pe_str) (nomark _)) (pss_one (ps_ret (pe_u C_is_from hr (by decide) (by rfl) (pa_cons (pv 3) (pa_cons (pe_int) (pa_cons (pe_gc (by rfl) T.c_MOST_POINTER) pa_nil)))))) pss_nil) (pss_one (ps_ret ((pe_or (pe_u C_is_from hr (by decide) (by rfl) (pa_cons (pv 3) (pa_cons (pe_int) (pa_cons (pe_op opSub (pe_ix ixU (pv 0) (pe_int) (fun _ _ => rfl)) (pe_int)) pa_nil)))) (pe_one ((pe_and (pe_cmpR (opEq hr) (pe_ix ixU (pv 2) (pe_int) (fun _ _ => rfl)) (pe_str) (nomark _)) (pe_one (pe_cmpR (opIs hr) (pv 3) (pe_non) (nomark _))))))))))))
theorem ok_strike_fits (T : TX K mg) (C_is_from : Callee P w K mg base "is_from" 2 ["value", "low", "high"] (spOf K (F_is_from K))) (C_place_fits : Callee P w K mg base "place_fits" 3 ["code", "hue", "place"] (spOf K (F_place_fits K))) (C_new_fits : Callee P w K mg base "new_fits" 5 ["code", "hue", "place", "new"] (spOf K (F_new_fits K))) : Callee P w K mg base "strike_fits" 6 ["code", "value"] (spOf K (F_strike_fits K)) := by
  refine callee_mk T.f_strike_fits sc_strike_fits (by intro kV doc pm an cdv ct us hl; exact match us, hl with | [_, _], _ => rfl) T.g_strike_fits n_strike_fits (t_strike_fits K) (b_strike_fits T.mt) ?_
  intro cdv A outer s H E hr
  exact (pss_cons (ps_if (PW.pt (pw_or (pt_not (pt_truth (pe_callB cIsi (by rfl) T.n_isinstance (by decide +kernel) (pa_cons (pv 1) (pa_cons (pe_bltn (v := .ty "tuple") (by rfl) T.n_tuple (by decide +kernel) rfl) pa_nil))) (fun _ => rfl))) (pw_or (pt_cmpR (opNe hr) (pe_callB call_len (by rfl) T.n_len (by decide +kernel) (pa_cons (pv 1) pa_nil)) (pe_int) (nomark _)) (pw_or1 (pt_not (pt_truth (pe_u C_is_from hr (by decide) (by rfl) (pa_cons (pe_ix ixU (pv 1) (pe_int) (fun _ _ => rfl)) (pa_cons (pe_int) (pa_cons (pe_gc (by rfl) T.c_MOST_STEPS) pa_nil)))) (fun _ => rfl))))))) (pss_one (ps_ret (pe_bl))) pss_nil) (pss_cons (ps_if (PW.pt (pw_or (pt_not (pt_truth (pe_u C_is_from hr (by decide) (by rfl) (pa_cons (pe_ix ixU (pv 1) (pe_int) (fun _ _ => rfl)) (pa_cons (pe_int) (pa_cons (pe_op opSub (pe_callB call_len (by rfl) T.n_len (by decide +kernel) (pa_cons (pe_ix ixU (pv 0) (pe_int) (fun _ _ => rfl)) pa_nil)) (pe_int)) pa_nil)))) (fun _ => rfl))) (pw_or1 (pt_not (pt_truth (pe_u C_place_fits hr (by decide) (by rfl) (pa_cons (pv 0) (pa_cons (pe_ix ixU (pv 1) (pe_int) (fun _ _ => rfl)) (pa_cons (pe_ix ixU (pv 1) (pe_int) (fun _ _ => rfl)) pa_nil)))) (fun _ => rfl)))))) (pss_one (ps_ret (pe_bl))) pss_nil) (pss_one (ps_ret (pe_u C_new_fits hr (by decide) (by rfl) (pa_cons (pv 0) (pa_cons (pe_ix ixU (pv 1) (pe_int) (fun _ _ => rfl)) (pa_cons (pe_ix ixU (pv 1) (pe_int) (fun _ _ => rfl)) (pa_cons (pe_ix ixU (pv 1) (pe_int) (fun _ _ => rfl)) pa_nil)))))))))
theorem ok_first_misfit (T : TX K mg) (C_strike_fits : Callee P w K mg base "strike_fits" 6 ["code", "value"] (spOf K (F_strike_fits K))) : Callee P w K mg base "first_misfit" 7 ["code", "strikes"] (spOf K (F_first_misfit K)) := by
  refine callee_mk T.f_first_misfit sc_first_misfit (by intro kV doc pm an cdv ct us hl; exact match us, hl with | [_, _], _ => rfl) T.g_first_misfit n_first_misfit (t_first_misfit K) (b_first_misfit T.mt) ?_
  intro cdv A outer s H E hr
  exact (pss_cons (ps_set (i := 2) sc_first_misfit.nd rfl (by first | exact Or.inl rfl | exact Or.inr rfl) (pe_int)) (pss_cons (ps_for PassesOwn.never (by rfl) (pi_enumU (by rfl) T.n_enumerate (pa_cons (pv 1) pa_nil)) (pg_tup (by rfl) (pgs_cons (pg_name (i := 3) sc_first_misfit.nd rfl (by first | exact Or.inl rfl | exact Or.inr rfl)) (pgs_cons (pg_name (i := 4) sc_first_misfit.nd rfl (by first | exact Or.inl rfl | exact Or.inr rfl)) pgs_nil))) (pss_cons (ps_if (PW.pt (pw_or (pt_not (pt_truth (pe_u C_strike_fits hr (by decide) (by rfl) (pa_cons (pv 0) (pa_cons (pv 4) pa_nil))) (fun _ => rfl))) (pw_or1 (pt_cmpR (opLt hr) (pe_ix ixU (pv 4) (pe_int) (fun _ _ => rfl)) (pv 2) (nomark _))))) (pss_one (ps_ret (pv 3))) pss_nil) (pss_one (ps_set (i := 2) sc_first_misfit.nd rfl (by first | exact Or.inl rfl | exact Or.inr rfl) (pe_ix ixU (pv 4) (pe_int) (fun _ _ => rfl)))))) (pss_one (ps_ret (pe_non)))))
theorem ok_is_strike_list (T : TX K mg)  : Callee P w K mg base "is_strike_list" 1 ["value"] (spOf K (F_is_strike_list K)) := by
  refine callee_mk T.f_is_strike_list sc_is_strike_list (by intro kV doc pm an cdv ct us hl; exact match us, hl with | [_], _ => rfl) T.g_is_strike_list n_is_strike_list (t_is_strike_list K) (b_is_strike_list T.mt) ?_
  intro cdv A outer s H E hr
  exact (pss_one (ps_ret ((pe_and (pe_callB cIsi (by rfl) T.n_isinstance (by decide +kernel) (pa_cons (pv 0) (pa_cons (pe_tup (pa_cons (pe_bltn (v := .ty "list") (by rfl) T.n_list (by decide +kernel) rfl) (pa_cons (pe_bltn (v := .ty "tuple") (by rfl) T.n_tuple (by decide +kernel) rfl) pa_nil))) pa_nil))) (pe_one (pe_cmpR (opLe hr) (pe_callB call_len (by rfl) T.n_len (by decide +kernel) (pa_cons (pv 0) pa_nil)) (pe_gc (by rfl) T.c_MOST_STRIKES) (nomark _)))))))
theorem ok_need_strikes (T : TX K mg) (C_is_strike_list : Callee P w K mg base "is_strike_list" 1 ["value"] (spOf K (F_is_strike_list K))) (C_first_misfit : Callee P w K mg base "first_misfit" 7 ["code", "strikes"] (spOf K (F_first_misfit K))) : Callee P w K mg base "need_strikes" 8 ["code", "strikes"] (spOf K (F_need_strikes K)) := by
  refine callee_mk T.f_need_strikes sc_need_strikes (by intro kV doc pm an cdv ct us hl; exact match us, hl with | [_, _], _ => rfl) T.g_need_strikes n_need_strikes (t_need_strikes K) (b_need_strikes T.mt) ?_
  intro cdv A outer s H E hr
  exact (pss_cons (ps_if (pt_not (pt_truth (pe_u C_is_strike_list hr (by decide) (by rfl) (pa_cons (pv 1) pa_nil)) (fun _ => rfl))) (pss_one (ps_never)) pss_nil) (pss_cons (ps_set (i := 2) sc_need_strikes.nd rfl (by first | exact Or.inl rfl | exact Or.inr rfl) (pe_u C_first_misfit hr (by decide) (by rfl) (pa_cons (pv 0) (pa_cons (pv 1) pa_nil)))) (pss_one (ps_if (pt_cmpR (opIsNot hr) (pv 2) (pe_non) (nomark _)) (pss_one (ps_never)) pss_nil))))
theorem ok_need_inputs (T : TX K mg) (C_are_inputs : Callee P w K mg base "are_inputs" 3 ["value"] (spOf K (F_are_inputs K))) : Callee P w K mg base "need_inputs" 4 ["inputs"] (spOf K (F_need_inputs K)) := by
  refine callee_mk T.f_need_inputs sc_need_inputs (by intro kV doc pm an cdv ct us hl; exact match us, hl with | [_], _ => rfl) T.g_need_inputs n_need_inputs (t_need_inputs K) (b_need_inputs T.mt) ?_
  intro cdv A outer s H E hr
  exact (pss_one (ps_if (pt_not (pt_truth (pe_u C_are_inputs hr (by decide) (by rfl) (pa_cons (pv 0) pa_nil)) (fun _ => rfl))) (pss_one (ps_never)) pss_nil))
theorem ok_need_steps (T : TX K mg) (C_is_from : Callee P w K mg base "is_from" 2 ["value", "low", "high"] (spOf K (F_is_from K))) : Callee P w K mg base "need_steps" 3 ["steps"] (spOf K (F_need_steps K)) := by
  refine callee_mk T.f_need_steps sc_need_steps (by intro kV doc pm an cdv ct us hl; exact match us, hl with | [_], _ => rfl) T.g_need_steps n_need_steps (t_need_steps K) (b_need_steps T.mt) ?_
  intro cdv A outer s H E hr
  exact (pss_one (ps_if (pt_not (pt_truth (pe_u C_is_from hr (by decide) (by rfl) (pa_cons (pv 0) (pa_cons (pe_int) (pa_cons (pe_gc (by rfl) T.c_MOST_TRIES) pa_nil)))) (fun _ => rfl))) (pss_one (ps_never)) pss_nil))
theorem ok_most_agreed (T : TX K mg)  : Callee P w K mg base "most_agreed" 1 ["values", "need"] (spOf K (F_most_agreed K)) := by
  refine callee_mk T.f_most_agreed sc_most_agreed (by intro kV doc pm an cdv ct us hl; exact match us, hl with | [_, _], _ => rfl) T.g_most_agreed n_most_agreed (t_most_agreed K) (b_most_agreed T.mt) ?_
  intro cdv A outer s H E hr
  exact (pss_cons (ps_set (i := 2) sc_most_agreed.nd rfl (by first | exact Or.inl rfl | exact Or.inr rfl) (pe_ix ixU (pv 0) (pe_int) (fun _ _ => rfl))) (pss_cons (ps_if (pt_cmpR (opGe hr) (pe_bm PySem.F.plainAttrs_list PySem.F.slot_list_count PySem.F.type_list_count (mt_cntD hr) (pv 0) (pa_cons (pv 2) pa_nil)) (pv 1) (nomark _)) (pss_one (ps_ret (pv 2))) pss_nil) (pss_cons (ps_for PassesOwn.never (by rfl) (pi_sq (pe_slice slU (pv 0) (po_some (pe_int)) po_none)) (pg_name (i := 3) sc_most_agreed.nd rfl (by first | exact Or.inl rfl | exact Or.inr rfl)) (pss_one (ps_if (pt_cmpR (opGe hr) (pe_bm PySem.F.plainAttrs_list PySem.F.slot_list_count PySem.F.type_list_count (mt_cntD hr) (pv 0) (pa_cons (pv 3) pa_nil)) (pv 1) (nomark _)) (pss_one (ps_ret (pv 3))) pss_nil))) (pss_one (ps_ret (pe_non))))))
theorem ok_worked_out (T : TX K mg)  : Callee P w K mg base "worked_out" 1 ["word", "one", "other", "size"] (spOf K (F_worked_out K)) := by
  refine callee_mk T.f_worked_out sc_worked_out (by intro kV doc pm an cdv ct us hl; exact match us, hl with | [_, _, _, _], _ => rfl) T.g_worked_out n_worked_out (t_worked_out K) (b_worked_out T.mt) ?_
  intro cdv A outer s H E hr
  exact (pss_cons (ps_if (pt_cmpR (opEq hr) (pv 0) (pe_str) (nomark _)) (pss_one (ps_ret (pe_op opMod (pe_op opAdd (pv 1) (pv 2)) (pv 3)))) pss_nil) (pss_cons (ps_if (pt_cmpR (opEq hr) (pv 0) (pe_str) (nomark _)) (pss_one (ps_ret (pe_op opMod (pe_op opSub (pv 1) (pv 2)) (pv 3)))) pss_nil) (pss_cons (ps_if (pt_cmpR (opEq hr) (pv 0) (pe_str) (nomark _)) (pss_one (ps_ret (pe_op opMod (pe_op opMul (pv 1) (pv 2)) (pv 3)))) pss_nil) (pss_cons (ps_if (pt_cmpR (opEq hr) (pv 0) (pe_str) (nomark _)) (pss_one (ps_ret (pe_ifExp (pt_cmpR (opNe hr) (pv 2) (pe_int) (nomark _)) (pe_op opMod (pv 1) (pv 2)) (pe_int)))) pss_nil) (pss_cons (ps_if (pt_cmpR (opEq hr) (pv 0) (pe_str) (nomark _)) (pss_one (ps_ret (pe_ifExp (pt_cmpR (opLt hr) (pv 1) (pv 2) (nomark _)) (pe_int) (pe_int)))) pss_nil) (pss_one (ps_ret (pe_ifExp (pt_cmpR (opEq hr) (pv 1) (pv 2) (nomark _)) (pe_int) (pe_int)))))))))
theorem ok_HueState___init__ (T : TX K mg)  : CalleeJ P w K mg base "HueState" (He.ga K "HueState") 1 ["self", "bank"] (dv_HueState K) (spOf K (F_HueState___init__ K)) := by
  refine calleeJ_mk T.g_HueState T.m_HueState___init__ T.f_HueState___init__ sc_HueState___init__ (fun fd FD => ⟨[], .nil, FD.bindsN (by intro kV doc pm an cdv ct us hl; exact match us, hl with | [_, _], _ => rfl)⟩) n_HueState___init__ (t_HueState___init__ K) (b_HueState___init__ T.mt) ?_
  intro cdv A outer s H E hr
  exact (pss_cons (ps_fld (pv 0) (pe_op opMul (pe_lst (pa_cons (pe_int) pa_nil)) (pe_gc (by rfl) T.c_MANY_REGISTERS)) rfl) (pss_cons (ps_fld (pv 0) (pe_callTy cList (by rfl) T.n_list (by decide +kernel) (pa_cons (pv 1) pa_nil)) rfl) (pss_cons (ps_fld (pv 0) (pe_int) rfl) (pss_cons (ps_fld (pv 0) (pe_non) rfl) (pss_one (ps_fld (pv 0) (pe_dnewK) rfl))))))
theorem ok_HueState_instructed (T : TX K mg) (C_worked_out : Callee P w K mg base "worked_out" 1 ["word", "one", "other", "size"] (spOf K (F_worked_out K))) : CalleeM P w K mg base (He.ga K "HueState") "instructed" 2 ["self", "cell", "size"] (spOf K (F_HueState_instructed K)) := by
  refine calleeM_mk T.m_HueState_instructed T.f_HueState_instructed sc_HueState_instructed (by intro kV doc pm an cdv ct us hl; exact match us, hl with | [_, _, _], _ => rfl) n_HueState_instructed (t_HueState_instructed K) (b_HueState_instructed T.mt) ?_
  intro cdv A outer s H E hr
  exact (pss_cons (ps_par3 (i := 3) (j := 4) (l := 5) (by rfl) sc_HueState_instructed.nd rfl rfl rfl (by decide) (by decide) (by decide) rfl rfl rfl (pa_cons (pe_fld (pv 0) rfl) (pa_cons (pe_ix ixU (pv 1) (pe_int) (fun _ _ => rfl)) (pa_cons (pe_ix ixU (pv 1) (pe_int) (fun _ _ => rfl)) pa_nil))) (by rfl)) (pss_one (ps_if (pt_cmpR (opEq hr) (pv 4) (pe_str) (nomark _)) (pss_one (ps_asg (pe_ix ixU (pv 1) (pe_int) (fun _ _ => rfl)) (pg_sub (pv 3) (pv 5) set_list))) (pss_one (ps_if (pt_cmpR (opEq hr) (pv 4) (pe_str) (nomark _)) (pss_one (ps_fld (pv 0) (pe_ix ixU (pv 3) (pv 5) (fun _ _ => rfl)) rfl)) (pss_one (ps_if (pt_cmpR (opEq hr) (pv 4) (pe_str) (nomark _)) (pss_one (ps_asg (pe_ix ixU (pe_fld (pv 0) rfl) (pe_op opAdd (pe_ix ixU (pv 1) (pe_int) (fun _ _ => rfl)) (pe_op opMod (pe_ix ixU (pv 3) (pe_ix ixU (pv 1) (pe_int) (fun _ _ => rfl)) (fun _ _ => rfl)) (pe_ix ixU (pv 1) (pe_int) (fun _ _ => rfl)))) (fun _ _ => rfl)) (pg_sub (pv 3) (pv 5) set_list))) (pss_one (ps_if (pt_cmpR (opEq hr) (pv 4) (pe_str) (nomark _)) (pss_cons (ps_set (i := 6) sc_HueState_instructed.nd rfl (by first | exact Or.inl rfl | exact Or.inr rfl) (pe_fld (pv 0) rfl)) (pss_one (ps_asg (pe_ix ixU (pv 3) (pv 5) (fun _ _ => rfl)) (pg_sub (pv 6) (pe_op opAdd (pe_ix ixU (pv 1) (pe_int) (fun _ _ => rfl)) (pe_op opMod (pe_ix ixU (pv 3) (pe_ix ixU (pv 1) (pe_int) (fun _ _ => rfl)) (fun _ _ => rfl)) (pe_ix ixU (pv 1) (pe_int) (fun _ _ => rfl)))) set_list)))) (pss_one (ps_asg (pe_u C_worked_out hr (by decide) (by rfl) (pa_cons (pv 4) (pa_cons (pe_ix ixU (pv 3) (pe_ix ixU (pv 1) (pe_int) (fun _ _ => rfl)) (fun _ _ => rfl)) (pa_cons (pe_ix ixU (pv 3) (pe_ix ixU (pv 1) (pe_int) (fun _ _ => rfl)) (fun _ _ => rfl)) (pa_cons (pv 2) pa_nil))))) (pg_sub (pv 3) (pv 5) set_list))))))))))))
theorem ok_HueState_struck_at (T : TX K mg)  : CalleeM P w K mg base (He.ga K "HueState") "struck_at" 1 ["self", "place", "new"] (spOf K (F_HueState_struck_at K)) := by
  refine calleeM_mk T.m_HueState_struck_at T.f_HueState_struck_at sc_HueState_struck_at (by intro kV doc pm an cdv ct us hl; exact match us, hl with | [_, _, _], _ => rfl) n_HueState_struck_at (t_HueState_struck_at K) (b_HueState_struck_at T.mt) ?_
  intro cdv A outer s H E hr
  exact (pss_one (ps_if (pt_cmpR (opEq hr) (pe_ix ixU (pv 1) (pe_int) (fun _ _ => rfl)) (pe_str) (nomark _)) (pss_cons (ps_set (i := 3) sc_HueState_struck_at.nd rfl (by first | exact Or.inl rfl | exact Or.inr rfl) (pe_fld (pv 0) rfl)) (pss_one (ps_asg (pv 2) (pg_sub (pv 3) (pe_ix ixU (pv 1) (pe_int) (fun _ _ => rfl)) set_list)))) (pss_one (ps_if (pt_cmpR (opEq hr) (pe_ix ixU (pv 1) (pe_int) (fun _ _ => rfl)) (pe_str) (nomark _)) (pss_cons (ps_set (i := 4) sc_HueState_struck_at.nd rfl (by first | exact Or.inl rfl | exact Or.inr rfl) (pe_fld (pv 0) rfl)) (pss_one (ps_asg (pv 2) (pg_sub (pv 4) (pe_ix ixU (pv 1) (pe_int) (fun _ _ => rfl)) set_list)))) (pss_one (ps_if (pt_cmpR (opEq hr) (pe_ix ixU (pv 1) (pe_int) (fun _ _ => rfl)) (pe_str) (nomark _)) (pss_one (ps_fld (pv 0) (pv 2) rfl)) (pss_one (ps_if (pt_cmpR (opEq hr) (pe_ix ixU (pv 1) (pe_int) (fun _ _ => rfl)) (pe_str) (nomark _)) (pss_one (ps_fld (pv 0) (pv 2) rfl)) (pss_cons (ps_set (i := 5) sc_HueState_struck_at.nd rfl (by first | exact Or.inl rfl | exact Or.inr rfl) (pe_fld (pv 0) rfl)) (pss_one (ps_dput (hu_of hr) (pv 5) (pe_ix ixU (pv 1) (pe_int) (fun _ _ => rfl)) (pv 2) rfl)))))))))))
theorem ok_Machine___init__ (T : TX K mg) (C_need_code : Callee P w K mg base "need_code" 7 ["code"] (spOf K (F_need_code K))) (C_need_inputs : Callee P w K mg base "need_inputs" 4 ["inputs"] (spOf K (F_need_inputs K))) (C_need_strikes : Callee P w K mg base "need_strikes" 8 ["code", "strikes"] (spOf K (F_need_strikes K))) (C_HueState___init__ : CalleeJ P w K mg base "HueState" (He.ga K "HueState") 1 ["self", "bank"] (dv_HueState K) (spOf K (F_HueState___init__ K))) : CalleeJ P w K mg base "Machine" (He.ga K "Machine") 9 ["self", "code", "inputs", "strikes"] (dv_Machine K) (spOf K (F_Machine___init__ K)) := by
  refine calleeJ_mk T.g_Machine T.m_Machine___init__ T.f_Machine___init__ sc_Machine___init__ (fun fd FD => FunD.binds1 (ps := ["self", "code", "inputs", "strikes"]) FD 3 0 (by simp [dv_Machine]) rfl (fun T kV doc pm an cdv ct us its hu hi => match us, hu, its, hi with | [_, _, _], _, [_], _ => ⟨_, rfl, rfl⟩)) n_Machine___init__ (t_Machine___init__ K) (b_Machine___init__ T.mt) ?_
  intro cdv A outer s H E hr
  exact (pss_cons (ps_expr (pe_u C_need_code hr (by decide) (by rfl) (pa_cons (pv 1) pa_nil))) (pss_cons (ps_expr (pe_u C_need_inputs hr (by decide) (by rfl) (pa_cons (pv 2) pa_nil))) (pss_cons (ps_expr (pe_u C_need_strikes hr (by decide) (by rfl) (pa_cons (pv 1) (pa_cons (pv 3) pa_nil)))) (pss_cons (ps_fld (pv 0) (pv 1) rfl) (pss_cons (ps_fld (pv 0) (pe_lc (own := [("need", 4)]) (g := gName 4) (tt := tYes) (by rfl) sc_Machine___init__.nd (pi_sq (pe_ix ixU (pv 1) (pe_int) (fun _ _ => rfl))) (blkOk_by (own := [("need", 4)]) (N := ["self", "code", "inputs", "strikes", "need"]) (sc := defScope s_Machine___init__) (by decide +kernel)) (fun _ _ _ _ _ => pg_name (i := 4) sc_Machine___init__.nd rfl (by first | exact Or.inl rfl | exact Or.inr rfl)) (fun _ _ _ _ _ => pts_nil) (fun _ _ _ _ _ => (pe_mkj C_HueState___init__ hr (by decide) (by rfl) (pa_cons (pe_ix ixU (pv 1) (pe_int) (fun _ _ => rfl)) pa_nil)))) rfl) (pss_cons (ps_fld (pv 0) (pe_callTy cList (by rfl) T.n_list (by decide +kernel) (pa_cons (pv 2) pa_nil)) rfl) (pss_cons (ps_fld (pv 0) (pe_callTy cList (by rfl) T.n_list (by decide +kernel) (pa_cons (pv 3) pa_nil)) rfl) (pss_cons (ps_fld (pv 0) (pe_lst pa_nil) rfl) (pss_cons (ps_fld (pv 0) (pe_int) rfl) (pss_cons (ps_fld (pv 0) (pe_str) rfl) (pss_one (ps_fld (pv 0) (pe_int) rfl))))))))))))
theorem okF_Machine___init__ (T : TX K mg) (C_need_code : Callee P w K mg base "need_code" 7 ["code"] (spOf K (F_need_code K))) (C_need_inputs : Callee P w K mg base "need_inputs" 4 ["inputs"] (spOf K (F_need_inputs K))) (C_need_strikes : Callee P w K mg base "need_strikes" 8 ["code", "strikes"] (spOf K (F_need_strikes K))) (C_HueState___init__ : CalleeJ P w K mg base "HueState" (He.ga K "HueState") 1 ["self", "bank"] (dv_HueState K) (spOf K (F_HueState___init__ K))) : CalleeJ P w K mg base "Machine" (He.ga K "Machine") 9 ["self", "code", "inputs", "strikes"] [] (spOf K (F_Machine___init__ K)) := by
  refine calleeJ_mk2 T.g_Machine T.m_Machine___init__ T.f_Machine___init__ sc_Machine___init__ (fun fd FD => FunD.binds1 (ps := ["self","code","inputs","strikes"]) FD 4 1 (by simp [dv_Machine]) rfl (fun T kV doc pm an cdv ct us its hu hi => match us, hu, its, hi with | [_,_,_,_], _, [_], _ => ⟨_, rfl, rfl⟩)) n_Machine___init__ (t_Machine___init__ K) (b_Machine___init__ T.mt) ?_
  intro cdv A outer s H E hr
  exact (pss_cons (ps_expr (pe_u C_need_code hr (by decide) (by rfl) (pa_cons (pv 1) pa_nil))) (pss_cons (ps_expr (pe_u C_need_inputs hr (by decide) (by rfl) (pa_cons (pv 2) pa_nil))) (pss_cons (ps_expr (pe_u C_need_strikes hr (by decide) (by rfl) (pa_cons (pv 1) (pa_cons (pv 3) pa_nil)))) (pss_cons (ps_fld (pv 0) (pv 1) rfl) (pss_cons (ps_fld (pv 0) (pe_lc (own := [("need", 4)]) (g := gName 4) (tt := tYes) (by rfl) sc_Machine___init__.nd (pi_sq (pe_ix ixU (pv 1) (pe_int) (fun _ _ => rfl))) (blkOk_by (own := [("need", 4)]) (N := ["self", "code", "inputs", "strikes", "need"]) (sc := defScope s_Machine___init__) (by decide +kernel)) (fun _ _ _ _ _ => pg_name (i := 4) sc_Machine___init__.nd rfl (by first | exact Or.inl rfl | exact Or.inr rfl)) (fun _ _ _ _ _ => pts_nil) (fun _ _ _ _ _ => (pe_mkj C_HueState___init__ hr (by decide) (by rfl) (pa_cons (pe_ix ixU (pv 1) (pe_int) (fun _ _ => rfl)) pa_nil)))) rfl) (pss_cons (ps_fld (pv 0) (pe_callTy cList (by rfl) T.n_list (by decide +kernel) (pa_cons (pv 2) pa_nil)) rfl) (pss_cons (ps_fld (pv 0) (pe_callTy cList (by rfl) T.n_list (by decide +kernel) (pa_cons (pv 3) pa_nil)) rfl) (pss_cons (ps_fld (pv 0) (pe_lst pa_nil) rfl) (pss_cons (ps_fld (pv 0) (pe_int) rfl) (pss_cons (ps_fld (pv 0) (pe_str) rfl) (pss_one (ps_fld (pv 0) (pe_int) rfl))))))))))))
theorem ok_Machine_row (T : TX K mg)  : CalleeP P w K mg base (He.ga K "Machine") "row" 1 ["self"] (spOf K (F_Machine_row K)) := by
  refine calleeP_mk T.m_Machine_row T.f_Machine_row sc_Machine_row (by intro kV doc pm an cdv ct us hl; exact match us, hl with | [_], _ => rfl) n_Machine_row (t_Machine_row K) (b_Machine_row T.mt) ?_
  intro cdv A outer s H E hr
  exact (pss_one (ps_ret (pe_callTy cList (by rfl) T.n_list (by decide +kernel) (pa_cons (pe_fld (pv 0) rfl) pa_nil))))
theorem ok_Machine_steps (T : TX K mg)  : CalleeP P w K mg base (He.ga K "Machine") "steps" 1 ["self"] (spOf K (F_Machine_steps K)) := by
  refine calleeP_mk T.m_Machine_steps T.f_Machine_steps sc_Machine_steps (by intro kV doc pm an cdv ct us hl; exact match us, hl with | [_], _ => rfl) n_Machine_steps (t_Machine_steps K) (b_Machine_steps T.mt) ?_
  intro cdv A outer s H E hr
  exact (pss_one (ps_ret (pe_fld (pv 0) rfl)))
theorem ok_Machine_state (T : TX K mg)  : CalleeP P w K mg base (He.ga K "Machine") "state" 1 ["self"] (spOf K (F_Machine_state K)) := by
  refine calleeP_mk T.m_Machine_state T.f_Machine_state sc_Machine_state (by intro kV doc pm an cdv ct us hl; exact match us, hl with | [_], _ => rfl) n_Machine_state (t_Machine_state K) (b_Machine_state T.mt) ?_
  intro cdv A outer s H E hr
  exact (pss_one (ps_ret (pe_fld (pv 0) rfl)))
theorem ok_Machine_left (T : TX K mg)  : CalleeP P w K mg base (He.ga K "Machine") "left" 1 ["self"] (spOf K (F_Machine_left K)) := by
  refine calleeP_mk T.m_Machine_left T.f_Machine_left sc_Machine_left (by intro kV doc pm an cdv ct us hl; exact match us, hl with | [_], _ => rfl) n_Machine_left (t_Machine_left K) (b_Machine_left T.mt) ?_
  intro cdv A outer s H E hr
  exact (pss_one (ps_ret (pe_callTy cList (by rfl) T.n_list (by decide +kernel) (pa_cons (pe_fld (pv 0) rfl) pa_nil))))
theorem ok_Machine_pointers (T : TX K mg)  : CalleeP P w K mg base (He.ga K "Machine") "pointers" 1 ["self"] (spOf K (F_Machine_pointers K)) := by
  refine calleeP_mk T.m_Machine_pointers T.f_Machine_pointers sc_Machine_pointers (by intro kV doc pm an cdv ct us hl; exact match us, hl with | [_], _ => rfl) n_Machine_pointers (t_Machine_pointers K) (b_Machine_pointers T.mt) ?_
  intro cdv A outer s H E hr
  exact (pss_one (ps_ret (pe_callTy cTuple (by rfl) T.n_tuple (by decide +kernel) (pa_cons (pe_lc (own := [("hue", 1)]) (g := gName 1) (tt := tYes) (by rfl) sc_Machine_pointers.nd (pi_sq (pe_fld (pv 0) rfl)) (blkOk_by (own := [("hue", 1)]) (N := ["self", "hue"]) (sc := defScope s_Machine_pointers) (by decide +kernel)) (fun _ _ _ _ _ => pg_name (i := 1) sc_Machine_pointers.nd rfl (by first | exact Or.inl rfl | exact Or.inr rfl)) (fun _ _ _ _ _ => pts_nil) (fun _ _ _ _ _ => (pe_fld (pv 1) rfl))) pa_nil))))
theorem ok_Machine_slots (T : TX K mg)  : CalleeP P w K mg base (He.ga K "Machine") "slots" 1 ["self"] (spOf K (F_Machine_slots K)) := by
  refine calleeP_mk T.m_Machine_slots T.f_Machine_slots sc_Machine_slots (by intro kV doc pm an cdv ct us hl; exact match us, hl with | [_], _ => rfl) n_Machine_slots (t_Machine_slots K) (b_Machine_slots T.mt) ?_
  intro cdv A outer s H E hr
  exact (pss_one (ps_ret (pe_callTy cTuple (by rfl) T.n_tuple (by decide +kernel) (pa_cons (pe_lc (own := [("hue", 1)]) (g := gName 1) (tt := tYes) (by rfl) sc_Machine_slots.nd (pi_sq (pe_fld (pv 0) rfl)) (blkOk_by (own := [("hue", 1)]) (N := ["self", "hue"]) (sc := defScope s_Machine_slots) (by decide +kernel)) (fun _ _ _ _ _ => pg_name (i := 1) sc_Machine_slots.nd rfl (by first | exact Or.inl rfl | exact Or.inr rfl)) (fun _ _ _ _ _ => pts_nil) (fun _ _ _ _ _ => (pe_fld (pv 1) rfl))) pa_nil))))
theorem ok_Machine_registers (T : TX K mg) (C_need_hue : Callee P w K mg base "need_hue" 3 ["code", "hue"] (spOf K (F_need_hue K))) : CalleeM P w K mg base (He.ga K "Machine") "registers" 4 ["self", "hue"] (spOf K (F_Machine_registers K)) := by
  refine calleeM_mk T.m_Machine_registers T.f_Machine_registers sc_Machine_registers (by intro kV doc pm an cdv ct us hl; exact match us, hl with | [_, _], _ => rfl) n_Machine_registers (t_Machine_registers K) (b_Machine_registers T.mt) ?_
  intro cdv A outer s H E hr
  exact (pss_cons (ps_expr (pe_u C_need_hue hr (by decide) (by rfl) (pa_cons (pe_fld (pv 0) rfl) (pa_cons (pv 1) pa_nil)))) (pss_one (ps_ret (pe_callTy cTuple (by rfl) T.n_tuple (by decide +kernel) (pa_cons (pe_fld (pe_ix ixU (pe_fld (pv 0) rfl) (pv 1) (fun _ _ => rfl)) rfl) pa_nil)))))
theorem ok_Machine_cells (T : TX K mg) (C_need_hue : Callee P w K mg base "need_hue" 3 ["code", "hue"] (spOf K (F_need_hue K))) : CalleeM P w K mg base (He.ga K "Machine") "cells" 4 ["self", "hue"] (spOf K (F_Machine_cells K)) := by
  refine calleeM_mk T.m_Machine_cells T.f_Machine_cells sc_Machine_cells (by intro kV doc pm an cdv ct us hl; exact match us, hl with | [_, _], _ => rfl) n_Machine_cells (t_Machine_cells K) (b_Machine_cells T.mt) ?_
  intro cdv A outer s H E hr
  exact (pss_cons (ps_expr (pe_u C_need_hue hr (by decide) (by rfl) (pa_cons (pe_fld (pv 0) rfl) (pa_cons (pv 1) pa_nil)))) (pss_one (ps_ret (pe_callTy cTuple (by rfl) T.n_tuple (by decide +kernel) (pa_cons (pe_fld (pe_ix ixU (pe_fld (pv 0) rfl) (pv 1) (fun _ _ => rfl)) rfl) pa_nil)))))
theorem ok_Machine_own (T : TX K mg) (C_need_hue : Callee P w K mg base "need_hue" 3 ["code", "hue"] (spOf K (F_need_hue K))) (C_place_fits : Callee P w K mg base "place_fits" 3 ["code", "hue", "place"] (spOf K (F_place_fits K))) : CalleeM P w K mg base (He.ga K "Machine") "own" 4 ["self", "hue", "address"] (spOf K (F_Machine_own K)) := by
  refine calleeM_mk T.m_Machine_own T.f_Machine_own sc_Machine_own (by intro kV doc pm an cdv ct us hl; exact match us, hl with | [_, _, _], _ => rfl) n_Machine_own (t_Machine_own K) (b_Machine_own T.mt) ?_
  intro cdv A outer s H E hr
  exact (pss_cons (ps_expr (pe_u C_need_hue hr (by decide) (by rfl) (pa_cons (pe_fld (pv 0) rfl) (pa_cons (pv 1) pa_nil)))) (pss_cons (ps_if (pt_not (pt_truth (pe_u C_place_fits hr (by decide) (by rfl) (pa_cons (pe_fld (pv 0) rfl) (pa_cons (pv 1) (pa_cons (pe_tup (pa_cons (pe_str) (pa_cons (pv 2) pa_nil))) pa_nil)))) (fun _ => rfl))) (pss_one (ps_never)) pss_nil) (pss_one (ps_ret (pe_dget2 (hu_of hr) (pe_fld (pe_ix ixU (pe_fld (pv 0) rfl) (pv 1) (fun _ _ => rfl)) rfl) (pv 2) (pe_ix ixU (pe_ix ixU (pe_fld (pv 0) rfl) (pe_int) (fun _ _ => rfl)) (pv 2) (fun _ _ => rfl)) ⟨rfl, rfl, rfl, rfl⟩)))))
theorem ok_Machine_go (T : TX K mg) (C_need_steps : Callee P w K mg base "need_steps" 3 ["steps"] (spOf K (F_need_steps K))) (C_strikes_due : Callee P w K mg base "strikes_due" 2 ["machine"] (spOf K (F_strikes_due K))) (C_machine_step : Callee P w K mg base "machine_step" 4 ["machine"] (spOf K (F_machine_step K))) (C_next_address : Callee P w K mg base "next_address" 3 ["machine"] (spOf K (F_next_address K))) : CalleeM P w K mg base (He.ga K "Machine") "go" 5 ["self", "steps"] (spOf K (F_Machine_go K)) := by
  refine calleeM_mk T.m_Machine_go T.f_Machine_go sc_Machine_go (by intro kV doc pm an cdv ct us hl; exact match us, hl with | [_, _], _ => rfl) n_Machine_go (t_Machine_go K) (b_Machine_go T.mt) ?_
  intro cdv A outer s H E hr
  exact (pss_cons (ps_expr (pe_u C_need_steps hr (by decide) (by rfl) (pa_cons (pv 1) pa_nil))) (pss_cons (ps_set (i := 2) sc_Machine_go.nd rfl (by first | exact Or.inl rfl | exact Or.inr rfl) (pv 1)) (pss_cons (ps_while PassesOwn.never (PW.pt (pw_and (pt_cmpR (opGt hr) (pv 2) (pe_int) (nomark _)) (pw_and1 (pt_cmpR (opEq hr) (pe_fld (pv 0) rfl) (pe_str) (nomark _))))) (pss_cons (ps_set (i := 2) sc_Machine_go.nd rfl (by first | exact Or.inl rfl | exact Or.inr rfl) (pe_op opSub (pv 2) (pe_int))) (pss_cons (ps_expr (pe_u C_strikes_due hr (by decide) (by rfl) (pa_cons (pv 0) pa_nil))) (pss_one (ps_expr (pe_u C_machine_step hr (by decide) (by rfl) (pa_cons (pv 0) pa_nil))))))) (pss_one (ps_fld (pv 0) (pe_u C_next_address hr (by decide) (by rfl) (pa_cons (pv 0) pa_nil)) rfl)))))
theorem ok_Machine_strike (T : TX K mg) (C_need_hue : Callee P w K mg base "need_hue" 3 ["code", "hue"] (spOf K (F_need_hue K))) (C_place_fits : Callee P w K mg base "place_fits" 3 ["code", "hue", "place"] (spOf K (F_place_fits K))) (C_new_fits : Callee P w K mg base "new_fits" 5 ["code", "hue", "place", "new"] (spOf K (F_new_fits K))) (C_HueState_struck_at : CalleeM P w K mg base (He.ga K "HueState") "struck_at" 1 ["self", "place", "new"] (spOf K (F_HueState_struck_at K))) (C_next_address : Callee P w K mg base "next_address" 3 ["machine"] (spOf K (F_next_address K))) : CalleeM P w K mg base (He.ga K "Machine") "strike" 6 ["self", "hue", "place", "new"] (spOf K (F_Machine_strike K)) := by
  refine calleeM_mk T.m_Machine_strike T.f_Machine_strike sc_Machine_strike (by intro kV doc pm an cdv ct us hl; exact match us, hl with | [_, _, _, _], _ => rfl) n_Machine_strike (t_Machine_strike K) (b_Machine_strike T.mt) ?_
  intro cdv A outer s H E hr
  exact (pss_cons (ps_expr (pe_u C_need_hue hr (by decide) (by rfl) (pa_cons (pe_fld (pv 0) rfl) (pa_cons (pv 1) pa_nil)))) (pss_cons (ps_if (pt_not (pt_truth (pe_u C_place_fits hr (by decide) (by rfl) (pa_cons (pe_fld (pv 0) rfl) (pa_cons (pv 1) (pa_cons (pv 2) pa_nil)))) (fun _ => rfl))) (pss_one (ps_never)) pss_nil) (pss_cons (ps_if (pt_not (pt_truth (pe_u C_new_fits hr (by decide) (by rfl) (pa_cons (pe_fld (pv 0) rfl) (pa_cons (pv 1) (pa_cons (pv 2) (pa_cons (pv 3) pa_nil))))) (fun _ => rfl))) (pss_one (ps_never)) pss_nil) (pss_cons (ps_expr (pe_um (pe_ix ixU (pe_fld (pv 0) rfl) (pv 1) (fun _ _ => rfl)) T.k_HueState C_HueState_struck_at hr (by decide) (pa_cons (pv 2) (pa_cons (pv 3) pa_nil)))) (pss_one (ps_fld (pv 0) (pe_u C_next_address hr (by decide) (by rfl) (pa_cons (pv 0) pa_nil)) rfl))))))
theorem ok_machine_address (T : TX K mg) (C_most_agreed : Callee P w K mg base "most_agreed" 1 ["values", "need"] (spOf K (F_most_agreed K))) : Callee P w K mg base "machine_address" 2 ["machine"] (spOf K (F_machine_address K)) := by
  refine callee_mk T.f_machine_address sc_machine_address (by intro kV doc pm an cdv ct us hl; exact match us, hl with | [_], _ => rfl) T.g_machine_address n_machine_address (t_machine_address K) (b_machine_address T.mt) ?_
  intro cdv A outer s H E hr
  exact (pss_cons (ps_par (i := 2) (j := 3) (by rfl) sc_machine_address.nd rfl rfl (by decide) rfl rfl (pa_cons (pe_ix ixU (pe_fld (pv 0) rfl) (pe_int) (fun _ _ => rfl)) (pa_cons (pe_ix ixU (pe_fld (pv 0) rfl) (pe_int) (fun _ _ => rfl)) pa_nil)) (by rfl)) (pss_cons (ps_set (i := 1) sc_machine_address.nd rfl (by first | exact Or.inl rfl | exact Or.inr rfl) (pe_u C_most_agreed hr (by decide) (by rfl) (pa_cons (pe_lc (own := [("hue", 4)]) (g := gName 4) (tt := tYes) (by rfl) sc_machine_address.nd (pi_sq (pe_fld (pv 0) rfl)) (blkOk_by (own := [("hue", 4)]) (N := ["machine", "found", "votes", "cells", "hue"]) (sc := defScope s_machine_address) (by decide +kernel)) (fun _ _ _ _ _ => pg_name (i := 4) sc_machine_address.nd rfl (by first | exact Or.inl rfl | exact Or.inr rfl)) (fun _ _ _ _ _ => pts_nil) (fun _ _ _ _ _ => (pe_fld (pv 4) rfl))) (pa_cons (pe_ix ixU (pv 2) (pe_op opSub (pe_callB call_len (by rfl) T.n_len (by decide +kernel) (pa_cons (pv 2) pa_nil)) (pe_int)) (fun _ _ => rfl)) pa_nil)))) (pss_one (ps_ret (pe_ifExp (PW.pt (pw_and (pt_cmpR (opIsNot hr) (pv 1) (pe_non) (nomark _)) (pw_and1 (pt_cmpR (opLt hr) (pv 1) (pe_callB call_len (by rfl) T.n_len (by decide +kernel) (pa_cons (pv 3) pa_nil)) (nomark _))))) (pv 1) (pe_non))))))
theorem ok_next_address (T : TX K mg) (C_machine_address : Callee P w K mg base "machine_address" 2 ["machine"] (spOf K (F_machine_address K))) : Callee P w K mg base "next_address" 3 ["machine"] (spOf K (F_next_address K)) := by
  refine callee_mk T.f_next_address sc_next_address (by intro kV doc pm an cdv ct us hl; exact match us, hl with | [_], _ => rfl) T.g_next_address n_next_address (t_next_address K) (b_next_address T.mt) ?_
  intro cdv A outer s H E hr
  exact (pss_one (ps_ret (pe_ifExp (pt_cmpR (opEq hr) (pe_fld (pv 0) rfl) (pe_str) (nomark _)) (pe_u C_machine_address hr (by decide) (by rfl) (pa_cons (pv 0) pa_nil)) (pe_non))))
theorem ok_strikes_due (T : TX K mg) (C_HueState_struck_at : CalleeM P w K mg base (He.ga K "HueState") "struck_at" 1 ["self", "place", "new"] (spOf K (F_HueState_struck_at K))) : Callee P w K mg base "strikes_due" 2 ["machine"] (spOf K (F_strikes_due K)) := by
  refine callee_mk T.f_strikes_due sc_strikes_due (by intro kV doc pm an cdv ct us hl; exact match us, hl with | [_], _ => rfl) T.g_strikes_due n_strikes_due (t_strikes_due K) (b_strikes_due T.mt) ?_
  intro cdv A outer s H E hr
  exact (pss_cons (ps_set (i := 1) sc_strikes_due.nd rfl (by first | exact Or.inl rfl | exact Or.inr rfl) (pe_fld (pv 0) rfl)) (pss_one (ps_while PassesOwn.never (PW.pt (pw_and (pt_cmpR (opNe hr) (pv 1) (pe_lst pa_nil) (nomark _)) (pw_and1 (pt_cmpR (opLe hr) (pe_ix ixU (pe_ix ixU (pv 1) (pe_int) (fun _ _ => rfl)) (pe_int) (fun _ _ => rfl)) (pe_fld (pv 0) rfl) (nomark _))))) (pss_cons (ps_asg (pe_bm PySem.F.plainAttrs_list PySem.F.slot_list_pop PySem.F.type_list_pop mt_popAt (pv 1) (pa_cons (pe_int) pa_nil)) (pg_tup (by rfl) (pgs_cons (pg_name (i := 2) sc_strikes_due.nd rfl (by first | exact Or.inl rfl | exact Or.inr rfl)) (pgs_cons (pg_name (i := 3) sc_strikes_due.nd rfl (by first | exact Or.inl rfl | exact Or.inr rfl)) (pgs_cons (pg_name (i := 4) sc_strikes_due.nd rfl (by first | exact Or.inl rfl | exact Or.inr rfl)) (pgs_cons (pg_name (i := 5) sc_strikes_due.nd rfl (by first | exact Or.inl rfl | exact Or.inr rfl)) pgs_nil)))))) (pss_one (ps_expr (pe_um (pe_ix ixU (pe_fld (pv 0) rfl) (pv 3) (fun _ _ => rfl)) T.k_HueState C_HueState_struck_at hr (by decide) (pa_cons (pv 4) (pa_cons (pv 5) pa_nil)))))))))
theorem ok_machine_step (T : TX K mg) (C_machine_address : Callee P w K mg base "machine_address" 2 ["machine"] (spOf K (F_machine_address K))) (C_is_settle : Callee P w K mg base "is_settle" 1 ["cell"] (spOf K (F_is_settle K))) (C_settle_done : Callee P w K mg base "settle_done" 3 ["machine", "cell", "behind"] (spOf K (F_settle_done K))) (C_point_all : Callee P w K mg base "point_all" 1 ["machine", "address"] (spOf K (F_point_all K))) (C_HueState_instructed : CalleeM P w K mg base (He.ga K "HueState") "instructed" 2 ["self", "cell", "size"] (spOf K (F_HueState_instructed K))) : Callee P w K mg base "machine_step" 4 ["machine"] (spOf K (F_machine_step K)) := by
  refine callee_mk T.f_machine_step sc_machine_step (by intro kV doc pm an cdv ct us hl; exact match us, hl with | [_], _ => rfl) T.g_machine_step n_machine_step (t_machine_step K) (b_machine_step T.mt) ?_
  intro cdv A outer s H E hr
  exact (pss_cons (ps_par (i := 3) (j := 4) (by rfl) sc_machine_step.nd rfl rfl (by decide) rfl rfl (pa_cons (pe_fld (pv 0) rfl) (pa_cons (pe_u C_machine_address hr (by decide) (by rfl) (pa_cons (pv 0) pa_nil)) pa_nil)) (by rfl)) (pss_cons (ps_fld (pv 0) (pe_op opAdd (pe_fld (pv 0) rfl) (pe_int)) rfl) (pss_cons (ps_if (pt_cmpR (opIs hr) (pv 4) (pe_non) (nomark _)) (pss_cons (ps_fld (pv 0) (pe_str) rfl) (pss_one (ps_retN))) pss_nil) (pss_cons (ps_set (i := 1) sc_machine_step.nd rfl (by first | exact Or.inl rfl | exact Or.inr rfl) (pe_ix ixU (pe_ix ixU (pv 3) (pe_int) (fun _ _ => rfl)) (pv 4) (fun _ _ => rfl))) (pss_cons (ps_if (pt_truth (pe_u C_is_settle hr (by decide) (by rfl) (pa_cons (pv 1) pa_nil)) (fun _ => rfl)) (pss_cons (ps_expr (pe_u C_settle_done hr (by decide) (by rfl) (pa_cons (pv 0) (pa_cons (pv 1) (pa_cons (pe_op opAdd (pv 4) (pe_int)) pa_nil))))) (pss_one (ps_retN))) pss_nil) (pss_cons (ps_expr (pe_u C_point_all hr (by decide) (by rfl) (pa_cons (pv 0) (pa_cons (pe_op opAdd (pv 4) (pe_int)) pa_nil)))) (pss_cons (ps_set (i := 2) sc_machine_step.nd rfl (by first | exact Or.inl rfl | exact Or.inr rfl) (pe_ix ixU (pe_fld (pv 0) rfl) (pe_ix ixU (pv 1) (pe_int) (fun _ _ => rfl)) (fun _ _ => rfl))) (pss_one (ps_expr (pe_um (pv 2) T.k_HueState C_HueState_instructed hr (by decide) (pa_cons (pe_dget2 (hu_of hr) (pe_fld (pv 2) rfl) (pv 4) (pv 1) ⟨rfl, rfl, rfl, rfl⟩) (pa_cons (pe_ix ixU (pv 3) (pe_int) (fun _ _ => rfl)) pa_nil))))))))))))
theorem ok_point_all (T : TX K mg)  : Callee P w K mg base "point_all" 1 ["machine", "address"] (spOf K (F_point_all K)) := by
  refine callee_mk T.f_point_all sc_point_all (by intro kV doc pm an cdv ct us hl; exact match us, hl with | [_, _], _ => rfl) T.g_point_all n_point_all (t_point_all K) (b_point_all T.mt) ?_
  intro cdv A outer s H E hr
  exact (pss_one (ps_for PassesOwn.never (by rfl) (pi_sq (pe_fld (pv 0) rfl)) (pg_name (i := 2) sc_point_all.nd rfl (by first | exact Or.inl rfl | exact Or.inr rfl)) (pss_one (ps_fld (pv 2) (pv 1) rfl))))
theorem ok_empty_slots (T : TX K mg)  : Callee P w K mg base "empty_slots" 1 ["machine"] (spOf K (F_empty_slots K)) := by
  refine callee_mk T.f_empty_slots sc_empty_slots (by intro kV doc pm an cdv ct us hl; exact match us, hl with | [_], _ => rfl) T.g_empty_slots n_empty_slots (t_empty_slots K) (b_empty_slots T.mt) ?_
  intro cdv A outer s H E hr
  exact (pss_one (ps_for PassesOwn.never (by rfl) (pi_sq (pe_fld (pv 0) rfl)) (pg_name (i := 1) sc_empty_slots.nd rfl (by first | exact Or.inl rfl | exact Or.inr rfl)) (pss_one (ps_fld (pv 1) (pe_non) rfl))))
theorem ok_settle_done (T : TX K mg) (C_most_agreed : Callee P w K mg base "most_agreed" 1 ["values", "need"] (spOf K (F_most_agreed K))) (C_point_all : Callee P w K mg base "point_all" 1 ["machine", "address"] (spOf K (F_point_all K))) (C_empty_slots : Callee P w K mg base "empty_slots" 1 ["machine"] (spOf K (F_empty_slots K))) (C_mark_done : Callee P w K mg base "mark_done" 2 ["machine", "behind"] (spOf K (F_mark_done K))) : Callee P w K mg base "settle_done" 3 ["machine", "cell", "behind"] (spOf K (F_settle_done K)) := by
  refine callee_mk T.f_settle_done sc_settle_done (by intro kV doc pm an cdv ct us hl; exact match us, hl with | [_, _, _], _ => rfl) T.g_settle_done n_settle_done (t_settle_done K) (b_settle_done T.mt) ?_
  intro cdv A outer s H E hr
  exact (pss_cons (ps_par (i := 3) (j := 4) (by rfl) sc_settle_done.nd rfl rfl (by decide) rfl rfl (pa_cons (pe_ix ixU (pv 1) (pe_int) (fun _ _ => rfl)) (pa_cons (pe_fld (pv 0) rfl) pa_nil)) (by rfl)) (pss_one (ps_if (pt_cmpR (opIn hr) (pv 3) (pe_tup (pa_cons (pe_str) (pa_cons (pe_str) pa_nil))) (by rfl)) (pss_cons (ps_set (i := 5) sc_settle_done.nd rfl (by first | exact Or.inl rfl | exact Or.inr rfl) (pe_ix ixU (pe_fld (pv 0) rfl) (pe_int) (fun _ _ => rfl))) (pss_cons (ps_setLc (i := 6) (own := [("hue", 9)]) (g := gName 9) (tt := (tTest (tOp (uIsNot K) (tFld K (tVar 9) (PySem.Str.ofString "m_slot")) (tC .non)))) (by rfl) sc_settle_done.nd rfl rfl (sw_true rfl rfl rfl (by decide +kernel)) (pi_sq (pe_slice slU (pe_fld (pv 0) rfl) po_none (po_some (pe_ix ixU (pv 1) (pe_int) (fun _ _ => rfl))))) (blkOk_by (own := [("hue", 9)]) (N := ["machine", "cell", "behind", "word", "row", "votes", "slots", "agreed", "number", "hue", "registers"]) (sc := defScope s_settle_done) (by decide +kernel)) (fun _ _ _ _ _ => pg_name (i := 9) sc_settle_done.nd rfl (by first | exact Or.inl rfl | exact Or.inr rfl)) (fun _ _ _ _ _ => (pts_one (pt_cmpR (opIsNot hr) (pe_fld (pv 9) rfl) (pe_non) (nomark _)))) (fun _ _ _ _ _ => (pe_fld (pv 9) rfl))) (pss_cons (ps_set (i := 7) sc_settle_done.nd rfl (by first | exact Or.inl rfl | exact Or.inr rfl) (pe_ifExp (pt_cmpR (opNe hr) (pv 6) (pe_lst pa_nil) (nomark _)) (pe_u C_most_agreed hr (by decide) (by rfl) (pa_cons (pv 6) (pa_cons (pe_ix ixU (pv 5) (pe_op opSub (pe_ix ixU (pv 1) (pe_int) (fun _ _ => rfl)) (pe_int)) (fun _ _ => rfl)) pa_nil))) (pe_non))) (pss_cons (ps_if (pt_cmpR (opIs hr) (pv 7) (pe_non) (nomark _)) (pss_cons (ps_fld (pv 0) (pe_str) rfl) (pss_one (ps_retN))) pss_nil) (pss_cons (ps_expr (pe_u C_point_all hr (by decide) (by rfl) (pa_cons (pv 0) (pa_cons (pe_ifExp (PW.pt (pw_and (pt_cmpR (opEq hr) (pv 3) (pe_str) (nomark _)) (pw_and1 (pt_cmpR (opNe hr) (pv 7) (pe_int) (nomark _))))) (pe_ix ixU (pv 1) (pe_int) (fun _ _ => rfl)) (pv 2)) pa_nil)))) (pss_cons (ps_expr (pe_u C_empty_slots hr (by decide) (by rfl) (pa_cons (pv 0) pa_nil))) (pss_one (ps_if (pt_cmpR (opEq hr) (pv 3) (pe_str) (nomark _)) (pss_one (ps_expr (pe_bm PySem.F.plainAttrs_list PySem.F.slot_list_append PySem.F.type_list_append mt_append (pv 4) (pa_cons (pe_tup (pa_cons (pe_str) (pa_cons (pe_ix ixU (pv 1) (pe_int) (fun _ _ => rfl)) (pa_cons (pv 7) pa_nil)))) pa_nil)))) pss_nil)))))))) (pss_one (ps_if (pt_cmpR (opEq hr) (pv 3) (pe_str) (nomark _)) (pss_cons (ps_set (i := 8) sc_settle_done.nd rfl (by first | exact Or.inl rfl | exact Or.inr rfl) (pe_ifExp (pt_cmpR (opNe hr) (pe_fld (pv 0) rfl) (pe_lst pa_nil) (nomark _)) (pe_op opMod (pe_bm PySem.F.plainAttrs_list PySem.F.slot_list_pop PySem.F.type_list_pop mt_popAt (pe_fld (pv 0) rfl) (pa_cons (pe_int) pa_nil)) (pe_ix ixU (pe_fld (pv 0) rfl) (pe_int) (fun _ _ => rfl))) (pe_int))) (pss_cons (ps_expr (pe_u C_point_all hr (by decide) (by rfl) (pa_cons (pv 0) (pa_cons (pv 2) pa_nil)))) (pss_cons (ps_expr (pe_bm PySem.F.plainAttrs_list PySem.F.slot_list_append PySem.F.type_list_append mt_append (pv 4) (pa_cons (pe_tup (pa_cons (pe_str) (pa_cons (pv 8) pa_nil))) pa_nil))) (pss_one (ps_for PassesOwn.never (by rfl) (pi_sq (pe_slice slU (pe_fld (pv 0) rfl) po_none (po_some (pe_ix ixU (pv 1) (pe_int) (fun _ _ => rfl))))) (pg_name (i := 9) sc_settle_done.nd rfl (by first | exact Or.inl rfl | exact Or.inr rfl)) (pss_cons (ps_set (i := 10) sc_settle_done.nd rfl (by first | exact Or.inl rfl | exact Or.inr rfl) (pe_fld (pv 9) rfl)) (pss_one (ps_asg (pv 8) (pg_sub (pv 10) (pe_ix ixU (pv 1) (pe_int) (fun _ _ => rfl)) set_list))))))))) (pss_one (ps_if (pt_cmpR (opEq hr) (pv 3) (pe_str) (nomark _)) (pss_one (ps_expr (pe_u C_mark_done hr (by decide) (by rfl) (pa_cons (pv 0) (pa_cons (pv 2) pa_nil))))) (pss_cons (ps_expr (pe_u C_point_all hr (by decide) (by rfl) (pa_cons (pv 0) (pa_cons (pe_ifExp (pt_cmpR (opEq hr) (pv 3) (pe_str) (nomark _)) (pe_ix ixU (pv 1) (pe_int) (fun _ _ => rfl)) (pv 2)) pa_nil)))) (pss_one (ps_if (pt_cmpR (opEq hr) (pv 3) (pe_str) (nomark _)) (pss_cons (ps_expr (pe_bm PySem.F.plainAttrs_list PySem.F.slot_list_append PySem.F.type_list_append mt_append (pv 4) (pa_cons (pe_tup (pa_cons (pe_str) pa_nil)) pa_nil))) (pss_one (ps_fld (pv 0) (pe_str) rfl))) pss_nil))))))))))
theorem ok_mark_done (T : TX K mg) (C_most_agreed : Callee P w K mg base "most_agreed" 1 ["values", "need"] (spOf K (F_most_agreed K))) (C_point_all : Callee P w K mg base "point_all" 1 ["machine", "address"] (spOf K (F_point_all K))) (C_empty_slots : Callee P w K mg base "empty_slots" 1 ["machine"] (spOf K (F_empty_slots K))) : Callee P w K mg base "mark_done" 2 ["machine", "behind"] (spOf K (F_mark_done K)) := by
  refine callee_mk T.f_mark_done sc_mark_done (by intro kV doc pm an cdv ct us hl; exact match us, hl with | [_, _], _ => rfl) T.g_mark_done n_mark_done (t_mark_done K) (b_mark_done T.mt) ?_
  intro cdv A outer s H E hr
  exact (pss_cons (ps_set (i := 2) sc_mark_done.nd rfl (by first | exact Or.inl rfl | exact Or.inr rfl) (pe_ix ixU (pe_fld (pv 0) rfl) (pe_int) (fun _ _ => rfl))) (pss_cons (ps_setLc (i := 3) (own := [("hue", 5)]) (g := gName 5) (tt := tYes) (by rfl) sc_mark_done.nd rfl rfl (sw_true rfl rfl rfl (by decide +kernel)) (pi_sq (pe_fld (pv 0) rfl)) (blkOk_by (own := [("hue", 5)]) (N := ["machine", "behind", "votes", "states", "agreed", "hue", "registers", "bank"]) (sc := defScope s_mark_done) (by decide +kernel)) (fun _ _ _ _ _ => pg_name (i := 5) sc_mark_done.nd rfl (by first | exact Or.inl rfl | exact Or.inr rfl)) (fun _ _ _ _ _ => pts_nil) (fun _ _ _ _ _ => (pe_tup (pa_cons (pe_fld (pv 5) rfl) (pa_cons (pe_fld (pv 5) rfl) pa_nil))))) (pss_cons (ps_set (i := 4) sc_mark_done.nd rfl (by first | exact Or.inl rfl | exact Or.inr rfl) (pe_u C_most_agreed hr (by decide) (by rfl) (pa_cons (pv 3) (pa_cons (pe_ix ixU (pv 2) (pe_op opSub (pe_callB call_len (by rfl) T.n_len (by decide +kernel) (pa_cons (pv 2) pa_nil)) (pe_int)) (fun _ _ => rfl)) pa_nil)))) (pss_cons (ps_if (pt_cmpR (opIs hr) (pv 4) (pe_non) (nomark _)) (pss_cons (ps_fld (pv 0) (pe_str) rfl) (pss_one (ps_retN))) pss_nil) (pss_cons (ps_par (i := 6) (j := 7) (by rfl) sc_mark_done.nd rfl rfl (by decide) rfl rfl (pa_cons (pe_callTy cList (by rfl) T.n_list (by decide +kernel) (pa_cons (pe_ix ixU (pv 4) (pe_int) (fun _ _ => rfl)) pa_nil)) (pa_cons (pe_callTy cList (by rfl) T.n_list (by decide +kernel) (pa_cons (pe_ix ixU (pv 4) (pe_int) (fun _ _ => rfl)) pa_nil)) pa_nil)) (by rfl)) (pss_cons (ps_for PassesOwn.never (by rfl) (pi_sq (pe_fld (pv 0) rfl)) (pg_name (i := 5) sc_mark_done.nd rfl (by first | exact Or.inl rfl | exact Or.inr rfl)) (pss_one (ps_asg (pe_tup (pa_cons (pe_callTy cList (by rfl) T.n_list (by decide +kernel) (pa_cons (pv 6) pa_nil)) (pa_cons (pe_callTy cList (by rfl) T.n_list (by decide +kernel) (pa_cons (pv 7) pa_nil)) (pa_cons (pe_dnewK) pa_nil)))) (pg_tup (by rfl) (pgs_cons (pg_fld (pv 5)) (pgs_cons (pg_fld (pv 5)) (pgs_cons (pg_fld (pv 5)) pgs_nil))))))) (pss_cons (ps_expr (pe_u C_point_all hr (by decide) (by rfl) (pa_cons (pv 0) (pa_cons (pv 1) pa_nil)))) (pss_one (ps_expr (pe_u C_empty_slots hr (by decide) (by rfl) (pa_cons (pv 0) pa_nil)))))))))))
theorem ok_struck (T : TX K mg) (CF_Machine___init__ : CalleeJ P w K mg base "Machine" (He.ga K "Machine") 9 ["self", "code", "inputs", "strikes"] [] (spOf K (F_Machine___init__ K))) (C_Machine_go : CalleeM P w K mg base (He.ga K "Machine") "go" 5 ["self", "steps"] (spOf K (F_Machine_go K))) : Callee P w K mg base "struck" 11 ["code", "inputs", "strikes", "steps"] (spOf K (F_struck K)) := by
  refine callee_mk T.f_struck sc_struck (by intro kV doc pm an cdv ct us hl; exact match us, hl with | [_, _, _, _], _ => rfl) T.g_struck n_struck (t_struck K) (b_struck T.mt) ?_
  intro cdv A outer s H E hr
  exact (pss_cons (ps_set (i := 4) sc_struck.nd rfl (by first | exact Or.inl rfl | exact Or.inr rfl) (pe_mkj CF_Machine___init__ hr (by decide) (by rfl) (pa_cons (pv 0) (pa_cons (pv 1) (pa_cons (pv 2) pa_nil))))) (pss_cons (ps_expr (pe_um (pv 4) T.k_Machine C_Machine_go hr (by decide) (pa_cons (pv 3) pa_nil))) (pss_one (ps_ret (pv 4)))))
theorem ok__law_begun (T : TX K mg)  : Callee P w K mg base "_law_begun" 1 ["_law_script"] (spOf K (F__law_begun K)) := by
  refine callee_mk T.f__law_begun sc__law_begun (by intro kV doc pm an cdv ct us hl; exact match us, hl with | [_], _ => rfl) T.g__law_begun n__law_begun (t__law_begun K) (b__law_begun ) ?_
  intro cdv A outer s H E hr
  exact (pss_cons (ps_setLc (i := 1) (own := [("_law_cell", 2)]) (g := gName 2) (tt := (tTest (tOp (uGe K) (tCB (rAbs K) (tCons (tVar 2) tNil)) (tOp (uPow K) (tC (.int 10)) (tC (.int 18)))))) (by rfl) sc__law_begun.nd rfl rfl (sw_true rfl rfl rfl (by decide +kernel)) (pi_sq (pv 0)) (blkOk_by (own := [("_law_cell", 2)]) (N := ["_law_script", "_law_great", "_law_cell"]) (sc := defScope s__law_begun) (by decide +kernel)) (fun _ _ _ _ _ => pg_name (i := 2) sc__law_begun.nd rfl (by first | exact Or.inl rfl | exact Or.inr rfl)) (fun _ _ _ _ _ => (pts_one (pt_cmpR (opGe hr) (pe_callB call_abs (by rfl) T.n_abs (by decide +kernel) (pa_cons (pv 2) pa_nil)) (pe_op opPow (pe_int) (pe_int)) (nomark _)))) (fun _ _ _ _ _ => (pe_op opSub (pe_callB call_abs (by rfl) T.n_abs (by decide +kernel) (pa_cons (pv 2) pa_nil)) (pe_op opPow (pe_int) (pe_int))))) (pss_one (ps_ret (pe_disp (pps_cons (pe_str) (pv 1) (pps_cons (pe_str) (pe_lc (own := [("_law_cell", 2)]) (g := gName 2) (tt := tYes) (by rfl) sc__law_begun.nd (pi_sq (pv 0)) (blkOk_by (own := [("_law_cell", 2)]) (N := ["_law_script", "_law_great", "_law_cell"]) (sc := defScope s__law_begun) (by decide +kernel)) (fun _ _ _ _ _ => pg_name (i := 2) sc__law_begun.nd rfl (by first | exact Or.inl rfl | exact Or.inr rfl)) (fun _ _ _ _ _ => pts_nil) (fun _ _ _ _ _ => (pe_callB call_abs (by rfl) T.n_abs (by decide +kernel) (pa_cons (pv 2) pa_nil)))) (pps_cons (pe_str) (pe_int) (pps_cons (pe_str) (pe_int) pps_nil)))) (by rfl) (by rfl) (fun z => by cases z) (by decide)))))
theorem ok__law_mixed (T : TX K mg)  : Callee P w K mg base "_law_mixed" 1 ["_law_state"] (spOf K (F__law_mixed K)) := by
  refine callee_mk T.f__law_mixed sc__law_mixed (by intro kV doc pm an cdv ct us hl; exact match us, hl with | [_], _ => rfl) T.g__law_mixed n__law_mixed (t__law_mixed K) (b__law_mixed ) ?_
  intro cdv A outer s H E hr
  exact (pss_cons (ps_par (i := 2) (j := 3) (by rfl) sc__law_mixed.nd rfl rfl (by decide) rfl rfl (pa_cons (pe_op opAdd (pe_dget (hu_of hr) (pv 0) (pe_str) (fun _ _ => rfl)) (pe_int)) (pa_cons (pe_int) pa_nil)) (by rfl)) (pss_cons (ps_dput (hu_of hr) (pv 0) (pe_str) (pv 2) rfl) (pss_cons (ps_for PassesOwn.never (by rfl) (pi_sq (pe_lst (pa_cons (pe_int) (pa_cons (pe_int) (pa_cons (pe_int) (pa_cons (pe_int) pa_nil)))))) (pg_name (i := 1) sc__law_mixed.nd rfl (by first | exact Or.inl rfl | exact Or.inr rfl)) (pss_cons (ps_set (i := 4) sc__law_mixed.nd rfl (by first | exact Or.inl rfl | exact Or.inr rfl) (pe_op opAdd (pe_op opMul (pe_int) (pv 2)) (pe_op opFDiv (pv 1) (pe_int)))) (pss_cons (ps_for PassesOwn.never (by rfl) (pi_sq (pe_dget (hu_of hr) (pv 0) (pe_str) (fun _ _ => rfl))) (pg_name (i := 5) sc__law_mixed.nd rfl (by first | exact Or.inl rfl | exact Or.inr rfl)) (pss_one (ps_set (i := 4) sc__law_mixed.nd rfl (by first | exact Or.inl rfl | exact Or.inr rfl) (pe_op opMod (pe_callTy call_int1 (by rfl) T.n_int (by decide +kernel) (pa_cons (pe_op opAdd (pe_op opAdd (pe_op opMul (pv 4) (pe_int)) (pv 5)) (pv 2)) pa_nil)) (pv 1))))) (pss_one (ps_set (i := 3) sc__law_mixed.nd rfl (by first | exact Or.inl rfl | exact Or.inr rfl) (pe_op opAdd (pe_op opMul (pv 3) (pe_int)) (pe_op opMod (pe_callTy call_int1 (by rfl) T.n_int (by decide +kernel) (pa_cons (pe_op opPow (pv 4) (pe_int)) pa_nil)) (pv 1)))))))) (pss_one (ps_ret (pv 3))))))
theorem ok__law_draw (T : TX K mg) (C__law_mixed : Callee P w K mg base "_law_mixed" 1 ["_law_state"] (spOf K (F__law_mixed K))) : Callee P w K mg base "_law_draw" 2 ["_law_state", "_law_room"] (spOf K (F__law_draw K)) := by
  refine callee_mk T.f__law_draw sc__law_draw (by intro kV doc pm an cdv ct us hl; exact match us, hl with | [_, _], _ => rfl) T.g__law_draw n__law_draw (t__law_draw K) (b__law_draw ) ?_
  intro cdv A outer s H E hr
  exact (pss_cons (ps_if (pt_cmpR (opEq hr) (pe_dget (hu_of hr) (pv 0) (pe_str) (fun _ _ => rfl)) (pe_int) (nomark _)) (pss_one (ps_dput (hu_of hr) (pv 0) (pe_str) (pe_ifExp (pt_cmpR (opNe hr) (pe_dget (hu_of hr) (pv 0) (pe_str) (fun _ _ => rfl)) (pe_lst pa_nil) (nomark _)) (pe_bm PySem.F.plainAttrs_list PySem.F.slot_list_pop PySem.F.type_list_pop mt_popAt (pe_dget (hu_of hr) (pv 0) (pe_str) (fun _ _ => rfl)) (pa_cons (pe_int) pa_nil)) (pe_u C__law_mixed hr (by decide) (by rfl) (pa_cons (pv 0) pa_nil))) rfl)) pss_nil) (pss_cons (ps_set (i := 2) sc__law_draw.nd rfl (by first | exact Or.inl rfl | exact Or.inr rfl) (pe_op opMod (pe_callTy call_int1 (by rfl) T.n_int (by decide +kernel) (pa_cons (pe_dget (hu_of hr) (pv 0) (pe_str) (fun _ _ => rfl)) pa_nil)) (pv 1))) (pss_cons (ps_dput (hu_of hr) (pv 0) (pe_str) (pe_op opFDiv (pe_dget (hu_of hr) (pv 0) (pe_str) (fun _ _ => rfl)) (pv 1)) rfl) (pss_one (ps_ret (pv 2))))))
theorem ok__law_pick (T : TX K mg) (C__law_draw : Callee P w K mg base "_law_draw" 2 ["_law_state", "_law_room"] (spOf K (F__law_draw K))) : Callee P w K mg base "_law_pick" 3 ["_law_state", "_law_some"] (spOf K (F__law_pick K)) := by
  refine callee_mk T.f__law_pick sc__law_pick (by intro kV doc pm an cdv ct us hl; exact match us, hl with | [_, _], _ => rfl) T.g__law_pick n__law_pick (t__law_pick K) (b__law_pick ) ?_
  intro cdv A outer s H E hr
  exact (pss_one (ps_ret (pe_ix ixU (pv 1) (pe_u C__law_draw hr (by decide) (by rfl) (pa_cons (pv 0) (pa_cons (pe_callB call_len (by rfl) T.n_len (by decide +kernel) (pa_cons (pv 1) pa_nil)) pa_nil))) (fun _ _ => rfl))))
theorem ok__law_number (T : TX K mg) (C__law_pick : Callee P w K mg base "_law_pick" 3 ["_law_state", "_law_some"] (spOf K (F__law_pick K))) (C__law_draw : Callee P w K mg base "_law_draw" 2 ["_law_state", "_law_room"] (spOf K (F__law_draw K))) : Callee P w K mg base "_law_number" 4 ["_law_state", "_law_size_here"] (spOf K (F__law_number K)) := by
  refine callee_mk T.f__law_number sc__law_number (by intro kV doc pm an cdv ct us hl; exact match us, hl with | [_, _], _ => rfl) T.g__law_number n__law_number (t__law_number K) (b__law_number ) ?_
  intro cdv A outer s H E hr
  exact (pss_one (ps_ret (pe_op opMod (pe_u C__law_pick hr (by decide) (by rfl) (pa_cons (pv 0) (pa_cons (pe_lst (pa_cons (pe_int) (pa_cons (pe_int) (pa_cons (pe_int) (pa_cons (pe_int) (pa_cons (pe_int) (pa_cons (pe_int) (pa_cons (pe_op opSub (pv 1) (pe_int)) (pa_cons (pe_int) (pa_cons (pe_u C__law_draw hr (by decide) (by rfl) (pa_cons (pv 0) (pa_cons (pv 1) pa_nil))) pa_nil)))))))))) pa_nil))) (pv 1))))
theorem ok__law_size (T : TX K mg) (C__law_pick : Callee P w K mg base "_law_pick" 3 ["_law_state", "_law_some"] (spOf K (F__law_pick K))) : Callee P w K mg base "_law_size" 4 ["_law_state"] (spOf K (F__law_size K)) := by
  refine callee_mk T.f__law_size sc__law_size (by intro kV doc pm an cdv ct us hl; exact match us, hl with | [_], _ => rfl) T.g__law_size n__law_size (t__law_size K) (b__law_size ) ?_
  intro cdv A outer s H E hr
  exact (pss_one (ps_ret (pe_u C__law_pick hr (by decide) (by rfl) (pa_cons (pv 0) (pa_cons (pe_lst (pa_cons (pe_int) (pa_cons (pe_int) (pa_cons (pe_int) (pa_cons (pe_int) (pa_cons (pe_int) (pa_cons (pe_int) (pa_cons (pe_int) (pa_cons (pe_int) pa_nil))))))))) pa_nil)))))
theorem ok__law_votes (T : TX K mg) (C__law_pick : Callee P w K mg base "_law_pick" 3 ["_law_state", "_law_some"] (spOf K (F__law_pick K))) (C__law_draw : Callee P w K mg base "_law_draw" 2 ["_law_state", "_law_room"] (spOf K (F__law_draw K))) : Callee P w K mg base "_law_votes" 4 ["_law_state"] (spOf K (F__law_votes K)) := by
  refine callee_mk T.f__law_votes sc__law_votes (by intro kV doc pm an cdv ct us hl; exact match us, hl with | [_], _ => rfl) T.g__law_votes n__law_votes (t__law_votes K) (b__law_votes ) ?_
  intro cdv A outer s H E hr
  exact (pss_cons (ps_par (i := 2) (j := 3) (by rfl) sc__law_votes.nd rfl rfl (by decide) rfl rfl (pa_cons (pe_u C__law_pick hr (by decide) (by rfl) (pa_cons (pv 0) (pa_cons (pe_lst (pa_cons (pe_int) (pa_cons (pe_int) (pa_cons (pe_int) (pa_cons (pe_int) (pa_cons (pe_int) (pa_cons (pe_int) (pa_cons (pe_int) pa_nil)))))))) pa_nil))) (pa_cons (pe_lst pa_nil) pa_nil)) (by rfl)) (pss_cons (ps_for PassesOwn.never (by rfl) (pi_range2 (by rfl) T.n_range (pa_cons (pe_int) (pa_cons (pe_op opAdd (pv 2) (pe_int)) pa_nil))) (pg_name (i := 1) sc__law_votes.nd rfl (by first | exact Or.inl rfl | exact Or.inr rfl)) (pss_cons (ps_set (i := 4) sc__law_votes.nd rfl (by first | exact Or.inl rfl | exact Or.inr rfl) (pe_op opAdd (pe_op opFDiv (pv 1) (pe_int)) (pe_int))) (pss_one (ps_expr (pe_bm PySem.F.plainAttrs_list PySem.F.slot_list_append PySem.F.type_list_append mt_append (pv 3) (pa_cons (pe_u C__law_pick hr (by decide) (by rfl) (pa_cons (pv 0) (pa_cons (pe_lst (pa_cons (pv 4) (pa_cons (pv 1) (pa_cons (pe_op opAdd (pv 4) (pe_u C__law_draw hr (by decide) (by rfl) (pa_cons (pv 0) (pa_cons (pe_op opSub (pv 1) (pe_op opFDiv (pv 1) (pe_int))) pa_nil)))) pa_nil)))) pa_nil))) pa_nil)))))) (pss_one (ps_ret (pe_callTy cTuple (by rfl) T.n_tuple (by decide +kernel) (pa_cons (pv 3) pa_nil))))))
theorem ok__law_mk_agreed (T : TX K mg)  : Callee P w K mg base "_law_mk_agreed" 1 ["_law_values", "_law_need"] (spOf K (F__law_mk_agreed K)) := by
  refine callee_mk T.f__law_mk_agreed sc__law_mk_agreed (by intro kV doc pm an cdv ct us hl; exact match us, hl with | [_, _], _ => rfl) T.g__law_mk_agreed n__law_mk_agreed (t__law_mk_agreed K) (b__law_mk_agreed T) ?_
  intro cdv A outer s H E hr
  exact (pss_cons (ps_setLc (i := 2) (own := [("_law_value", 3)]) (g := gName 3) (tt := (tTest (tOp (uGe K) (tCB (Dl.rLen K) (tCons (tLc (iSq K (tVar 0)) (gName 4) (tTest (tOp (uEq K) (tVar 4) (tVar 3))) (tVar 4) [4]) tNil)) (tVar 1)))) (by rfl) sc__law_mk_agreed.nd rfl rfl (sw_true rfl rfl rfl (by decide +kernel)) (pi_sq (pv 0)) (blkOk_by (own := [("_law_value", 3)]) (N := ["_law_values", "_law_need", "_law_found", "_law_value", "_law_other"]) (sc := defScope s__law_mk_agreed) (by decide +kernel)) (fun _ _ _ _ _ => pg_name (i := 3) sc__law_mk_agreed.nd rfl (by first | exact Or.inl rfl | exact Or.inr rfl)) (fun _ _ _ _ _ => (pts_one (pt_cmpR (opGe hr) (pe_callB call_len (by rfl) T.n_len (by decide +kernel) (pa_cons (pe_lc (own := [("_law_other", 4)]) (g := gName 4) (tt := (tTest (tOp (uEq K) (tVar 4) (tVar 3)))) (by rfl) sc__law_mk_agreed.nd (pi_sq (pv 0)) (blkOk_by (own := [("_law_other", 4)]) (N := ["_law_values", "_law_need", "_law_found", "_law_value", "_law_other"]) (by kernel_rfl)) (fun _ _ _ _ _ => pg_name (i := 4) sc__law_mk_agreed.nd rfl (by first | exact Or.inl rfl | exact Or.inr rfl)) (fun _ _ _ _ _ => (pts_one (pt_cmpR (opEq hr) (pv 4) (pv 3) (nomark _)))) (fun _ _ _ _ _ => (pv 4))) pa_nil)) (pv 1) (nomark _)))) (fun _ _ _ _ _ => (pv 3))) (pss_one (ps_ret (pe_slice slU (pv 2) po_none (po_some (pe_int))))))
theorem ok__law_mk_slots_right (T : TX K mg) (C__law_pick : Callee P w K mg base "_law_pick" 3 ["_law_state", "_law_some"] (spOf K (F__law_pick K))) (C__law_draw : Callee P w K mg base "_law_draw" 2 ["_law_state", "_law_room"] (spOf K (F__law_draw K))) (C__law_number : Callee P w K mg base "_law_number" 4 ["_law_state", "_law_size_here"] (spOf K (F__law_number K))) (C_struck : Callee P w K mg base "struck" 11 ["code", "inputs", "strikes", "steps"] (spOf K (F_struck K))) (C__law_mk_agreed : Callee P w K mg base "_law_mk_agreed" 1 ["_law_values", "_law_need"] (spOf K (F__law_mk_agreed K))) (C_Machine_pointers : CalleeP P w K mg base (He.ga K "Machine") "pointers" 1 ["self"] (spOf K (F_Machine_pointers K))) (C_Machine_slots : CalleeP P w K mg base (He.ga K "Machine") "slots" 1 ["self"] (spOf K (F_Machine_slots K))) (C_Machine_steps : CalleeP P w K mg base (He.ga K "Machine") "steps" 1 ["self"] (spOf K (F_Machine_steps K))) (C_Machine_row : CalleeP P w K mg base (He.ga K "Machine") "row" 1 ["self"] (spOf K (F_Machine_row K))) (C_Machine_state : CalleeP P w K mg base (He.ga K "Machine") "state" 1 ["self"] (spOf K (F_Machine_state K))) : Callee P w K mg base "_law_mk_slots_right" 12 ["_law_state", "_law_votes_here", "_law_size_here"] (spOf K (F__law_mk_slots_right K)) := by
  refine callee_mk T.f__law_mk_slots_right sc__law_mk_slots_right (by intro kV doc pm an cdv ct us hl; exact match us, hl with | [_, _, _], _ => rfl) T.g__law_mk_slots_right n__law_mk_slots_right (t__law_mk_slots_right K) (b__law_mk_slots_right T) ?_
  intro cdv A outer s H E hr
  exact (pss_cons (ps_par (i := 10) (j := 11) (by rfl) sc__law_mk_slots_right.nd rfl rfl (by decide) rfl rfl (pa_cons (pe_op opAdd (pe_int) (pe_u C__law_draw hr (by decide) (by rfl) (pa_cons (pv 0) (pa_cons (pe_callB call_len (by rfl) T.n_len (by decide +kernel) (pa_cons (pv 1) pa_nil)) pa_nil)))) (pa_cons (pe_u C__law_pick hr (by decide) (by rfl) (pa_cons (pv 0) (pa_cons (pe_lst (pa_cons (pe_str) (pa_cons (pe_str) pa_nil))) pa_nil))) pa_nil)) (by rfl)) (pss_cons (ps_set (i := 3) sc__law_mk_slots_right.nd rfl (by first | exact Or.inl rfl | exact Or.inr rfl) (pe_lst (pa_cons (pe_u C__law_number hr (by decide) (by rfl) (pa_cons (pv 0) (pa_cons (pv 2) pa_nil))) (pa_cons (pe_u C__law_number hr (by decide) (by rfl) (pa_cons (pv 0) (pa_cons (pv 2) pa_nil))) (pa_cons (pe_int) pa_nil))))) (pss_cons (ps_setLc (i := 4) (own := [("_law_hue", 13)]) (g := gName 13) (tt := tYes) (by rfl) sc__law_mk_slots_right.nd rfl rfl (sw_true rfl rfl rfl (by decide +kernel)) (pi_sq (pv 1)) (blkOk_by (own := [("_law_hue", 13)]) (N := ["_law_state", "_law_votes_here", "_law_size_here", "_law_some", "_law_slots", "_law_code", "_law_strikes", "_law_machine", "_law_agreed", "_law_goal", "_law_width", "_law_word", "_law_kept", "_law_hue", "_law_number_here"]) (sc := defScope s__law_mk_slots_right) (by decide +kernel)) (fun _ _ _ _ _ => pg_name (i := 13) sc__law_mk_slots_right.nd rfl (by first | exact Or.inl rfl | exact Or.inr rfl)) (fun _ _ _ _ _ => pts_nil) (fun _ _ _ _ _ => (pe_u C__law_pick hr (by decide) (by rfl) (pa_cons (pv 0) (pa_cons (pe_op opAdd (pv 3) (pe_lst (pa_cons (pe_non) pa_nil))) pa_nil))))) (pss_cons (ps_set (i := 5) sc__law_mk_slots_right.nd rfl (by first | exact Or.inl rfl | exact Or.inr rfl) (pe_tup (pa_cons (pv 1) (pa_cons (pv 2) (pa_cons (pe_tup (pa_cons (pe_tup (pa_cons (pv 11) (pa_cons (pe_int) (pa_cons (pv 10) pa_nil)))) (pa_cons (pe_tup (pa_cons (pe_str) pa_nil)) (pa_cons (pe_tup (pa_cons (pe_str) (pa_cons (pe_int) pa_nil))) pa_nil)))) (pa_cons (pe_tup pa_nil) pa_nil)))))) (pss_cons (ps_setLc (i := 6) (own := [("_law_hue", 13), ("_law_number_here", 14)]) (g := gTup K 2 (gCons (gName 13) (gCons (gName 14) gNil))) (tt := (tTest (tOp (uIsNot K) (tVar 14) (tC .non)))) (by rfl) sc__law_mk_slots_right.nd rfl rfl (sw_true rfl rfl rfl (by decide +kernel)) (pi_enumU (by rfl) T.n_enumerate (pa_cons (pv 4) pa_nil)) (blkOk_by (own := [("_law_hue", 13), ("_law_number_here", 14)]) (N := ["_law_state", "_law_votes_here", "_law_size_here", "_law_some", "_law_slots", "_law_code", "_law_strikes", "_law_machine", "_law_agreed", "_law_goal", "_law_width", "_law_word", "_law_kept", "_law_hue", "_law_number_here"]) (sc := defScope s__law_mk_slots_right) (by decide +kernel)) (fun _ _ _ _ _ => pg_tup (by rfl) (pgs_cons (pg_name (i := 13) sc__law_mk_slots_right.nd rfl (by first | exact Or.inl rfl | exact Or.inr rfl)) (pgs_cons (pg_name (i := 14) sc__law_mk_slots_right.nd rfl (by first | exact Or.inl rfl | exact Or.inr rfl)) pgs_nil))) (fun _ _ _ _ _ => (pts_one (pt_cmpR (opIsNot hr) (pv 14) (pe_non) (nomark _)))) (fun _ _ _ _ _ => (pe_tup (pa_cons (pe_int) (pa_cons (pv 13) (pa_cons (pe_tup (pa_cons (pe_str) pa_nil)) (pa_cons (pv 14) pa_nil))))))) (pss_cons (ps_set (i := 7) sc__law_mk_slots_right.nd rfl (by first | exact Or.inl rfl | exact Or.inr rfl) (pe_u C_struck hr (by decide) (by rfl) (pa_cons (pv 5) (pa_cons (pe_lst pa_nil) (pa_cons (pv 6) (pa_cons (pe_int) pa_nil)))))) (pss_cons (ps_set (i := 8) sc__law_mk_slots_right.nd rfl (by first | exact Or.inl rfl | exact Or.inr rfl) (pe_u C__law_mk_agreed hr (by decide) (by rfl) (pa_cons (pe_lc (own := [("_law_number_here", 14)]) (g := gName 14) (tt := (tTest (tOp (uIsNot K) (tVar 14) (tC .non)))) (by rfl) sc__law_mk_slots_right.nd (pi_sq (pe_slice slU (pv 4) po_none (po_some (pv 10)))) (blkOk_by (own := [("_law_number_here", 14)]) (N := ["_law_state", "_law_votes_here", "_law_size_here", "_law_some", "_law_slots", "_law_code", "_law_strikes", "_law_machine", "_law_agreed", "_law_goal", "_law_width", "_law_word", "_law_kept", "_law_hue", "_law_number_here"]) (sc := defScope s__law_mk_slots_right) (by decide +kernel)) (fun _ _ _ _ _ => pg_name (i := 14) sc__law_mk_slots_right.nd rfl (by first | exact Or.inl rfl | exact Or.inr rfl)) (fun _ _ _ _ _ => (pts_one (pt_cmpR (opIsNot hr) (pv 14) (pe_non) (nomark _)))) (fun _ _ _ _ _ => (pv 14))) (pa_cons (pe_ix ixU (pv 1) (pe_op opSub (pv 10) (pe_int)) (fun _ _ => rfl)) pa_nil)))) (pss_cons (ps_if (pt_cmpR (opEq hr) (pv 8) (pe_lst pa_nil) (nomark _)) (pss_cons (ps_set (i := 12) sc__law_mk_slots_right.nd rfl (by first | exact Or.inl rfl | exact Or.inr rfl) ((pe_and (pe_cmpR (opEq hr) (pe_up (pv 7) T.k_Machine C_Machine_slots hr (by decide) rfl) (pe_callTy cTuple (by rfl) T.n_tuple (by decide +kernel) (pa_cons (pv 4) pa_nil)) (nomark _)) (pe_one (pe_cmpR (opEq hr) (pe_up (pv 7) T.k_Machine C_Machine_pointers hr (by decide) rfl) (pe_op opMulT (pe_tup (pa_cons (pe_int) pa_nil)) (pe_callB call_len (by rfl) T.n_len (by decide +kernel) (pa_cons (pv 1) pa_nil))) (nomark _)))))) (pss_one (ps_ret ((pe_and (pv 12) (pe_and (pe_cmpR (opEq hr) (pe_up (pv 7) T.k_Machine C_Machine_state hr (by decide) rfl) (pe_str) (nomark _)) (pe_and (pe_cmpR (opEq hr) (pe_up (pv 7) T.k_Machine C_Machine_row hr (by decide) rfl) (pe_lst pa_nil) (nomark _)) (pe_one (pe_cmpR (opEq hr) (pe_up (pv 7) T.k_Machine C_Machine_steps hr (by decide) rfl) (pe_int) (nomark _)))))))))) pss_nil) (pss_cons (ps_set (i := 9) sc__law_mk_slots_right.nd rfl (by first | exact Or.inl rfl | exact Or.inr rfl) (pe_ifExp (PW.pt (pw_and (pt_cmpR (opEq hr) (pv 11) (pe_str) (nomark _)) (pw_and1 (pt_cmpR (opNe hr) (pe_ix ixU (pv 8) (pe_int) (fun _ _ => rfl)) (pe_int) (nomark _))))) (pe_int) (pe_int))) (pss_cons (ps_if (PW.pt (pw_or (pt_cmpR (opNe hr) (pe_up (pv 7) T.k_Machine C_Machine_pointers hr (by decide) rfl) (pe_op opMulT (pe_tup (pa_cons (pv 9) pa_nil)) (pe_callB call_len (by rfl) T.n_len (by decide +kernel) (pa_cons (pv 1) pa_nil))) (nomark _)) (pw_or1 (pt_cmpR (opNe hr) (pe_up (pv 7) T.k_Machine C_Machine_slots hr (by decide) rfl) (pe_op opMulT (pe_tup (pa_cons (pe_non) pa_nil)) (pe_callB call_len (by rfl) T.n_len (by decide +kernel) (pa_cons (pv 1) pa_nil))) (nomark _))))) (pss_one (ps_ret (pe_bl))) pss_nil) (pss_cons (ps_if (pt_cmpR (opNe hr) (pe_up (pv 7) T.k_Machine C_Machine_state hr (by decide) rfl) (pe_str) (nomark _)) (pss_one (ps_ret (pe_bl))) pss_nil) (pss_one (ps_ret (pe_cmpR (opEq hr) (pe_up (pv 7) T.k_Machine C_Machine_row hr (by decide) rfl) (pe_ifExp (pt_cmpR (opEq hr) (pv 11) (pe_str) (nomark _)) (pe_lst (pa_cons (pe_tup (pa_cons (pe_str) (pa_cons (pe_int) (pa_cons (pe_ix ixU (pv 8) (pe_int) (fun _ _ => rfl)) pa_nil)))) pa_nil)) (pe_lst pa_nil)) (nomark _)))))))))))))))
theorem ok__law_mk_mark_right (T : TX K mg) (C__law_draw : Callee P w K mg base "_law_draw" 2 ["_law_state", "_law_room"] (spOf K (F__law_draw K))) (C_struck : Callee P w K mg base "struck" 11 ["code", "inputs", "strikes", "steps"] (spOf K (F_struck K))) (C_Machine_go : CalleeM P w K mg base (He.ga K "Machine") "go" 5 ["self", "steps"] (spOf K (F_Machine_go K))) (C__law_mk_agreed : Callee P w K mg base "_law_mk_agreed" 1 ["_law_values", "_law_need"] (spOf K (F__law_mk_agreed K))) (C_Machine_cells : CalleeM P w K mg base (He.ga K "Machine") "cells" 4 ["self", "hue"] (spOf K (F_Machine_cells K))) (C_Machine_registers : CalleeM P w K mg base (He.ga K "Machine") "registers" 4 ["self", "hue"] (spOf K (F_Machine_registers K))) (C_Machine_own : CalleeM P w K mg base (He.ga K "Machine") "own" 4 ["self", "hue", "address"] (spOf K (F_Machine_own K))) (C_Machine_slots : CalleeP P w K mg base (He.ga K "Machine") "slots" 1 ["self"] (spOf K (F_Machine_slots K))) (C_Machine_state : CalleeP P w K mg base (He.ga K "Machine") "state" 1 ["self"] (spOf K (F_Machine_state K))) (C_Machine_pointers : CalleeP P w K mg base (He.ga K "Machine") "pointers" 1 ["self"] (spOf K (F_Machine_pointers K))) : Callee P w K mg base "_law_mk_mark_right" 12 ["_law_state", "_law_votes_here", "_law_size_here"] (spOf K (F__law_mk_mark_right K)) := by
  refine callee_mk T.f__law_mk_mark_right sc__law_mk_mark_right (by intro kV doc pm an cdv ct us hl; exact match us, hl with | [_, _, _], _ => rfl) T.g__law_mk_mark_right n__law_mk_mark_right (t__law_mk_mark_right K) (b__law_mk_mark_right T) ?_
  intro cdv A outer s H E hr
  exact (pss_cons (ps_set (i := 3) sc__law_mk_mark_right.nd rfl (by first | exact Or.inl rfl | exact Or.inr rfl) (pe_callB call_len (by rfl) T.n_len (by decide +kernel) (pa_cons (pv 1) pa_nil))) (pss_cons (ps_set (i := 4) sc__law_mk_mark_right.nd rfl (by first | exact Or.inl rfl | exact Or.inr rfl) (pe_op opAdd (pe_tup (pa_cons (pe_tup (pa_cons (pe_int) (pa_cons (pe_str) (pa_cons (pe_int) (pa_cons (pe_int) pa_nil))))) (pa_cons (pe_tup (pa_cons (pe_str) pa_nil)) (pa_cons (pe_tup (pa_cons (pe_str) pa_nil)) pa_nil)))) (pe_callTy cTuple (by rfl) T.n_tuple (by decide +kernel) (pa_cons (pe_lc (own := [("_law_hue", 6)]) (g := gName 6) (tt := tYes) (by rfl) sc__law_mk_mark_right.nd (pi_range1 (by rfl) T.n_range (pa_cons (pv 3) pa_nil)) (blkOk_by (own := [("_law_hue", 6)]) (N := ["_law_state", "_law_votes_here", "_law_size_here", "_law_hues", "_law_cells", "_law_code", "_law_hue", "_law_machine", "_law_agreed", "_law_strikes", "_law_states", "_law_registers", "_law_due", "_law_fresh", "_law_number_here", "_law_other"]) (sc := defScope s__law_mk_mark_right) (by decide +kernel)) (fun _ _ _ _ _ => pg_name (i := 6) sc__law_mk_mark_right.nd rfl (by first | exact Or.inl rfl | exact Or.inr rfl)) (fun _ _ _ _ _ => pts_nil) (fun _ _ _ _ _ => (pe_tup (pa_cons (pv 6) (pa_cons (pe_str) (pa_cons (pe_int) (pa_cons (pe_int) pa_nil))))))) pa_nil)))) (pss_cons (ps_set (i := 5) sc__law_mk_mark_right.nd rfl (by first | exact Or.inl rfl | exact Or.inr rfl) (pe_tup (pa_cons (pv 1) (pa_cons (pv 2) (pa_cons (pv 4) (pa_cons (pe_tup (pa_cons (pe_int) (pa_cons (pe_int) pa_nil))) pa_nil)))))) (pss_cons (ps_par (i := 9) (j := 10) (by rfl) sc__law_mk_mark_right.nd rfl rfl (by decide) rfl rfl (pa_cons (pe_lst pa_nil) (pa_cons (pe_lst pa_nil) pa_nil)) (by rfl)) (pss_cons (ps_for PassesOwn.never (by rfl) (pi_range1 (by rfl) T.n_range (pa_cons (pv 3) pa_nil)) (pg_name (i := 6) sc__law_mk_mark_right.nd rfl (by first | exact Or.inl rfl | exact Or.inr rfl)) (pss_cons (ps_par (i := 14) (j := 15) (by rfl) sc__law_mk_mark_right.nd rfl rfl (by decide) rfl rfl (pa_cons (pe_u C__law_draw hr (by decide) (by rfl) (pa_cons (pv 0) (pa_cons (pe_int) pa_nil))) (pa_cons (pe_op opFDiv (pe_u C__law_draw hr (by decide) (by rfl) (pa_cons (pv 0) (pa_cons (pe_int) pa_nil))) (pe_int)) pa_nil)) (by rfl)) (pss_cons (ps_set (i := 11) sc__law_mk_mark_right.nd rfl (by first | exact Or.inl rfl | exact Or.inr rfl) (pe_tup (pa_cons (pe_int) (pa_cons (pe_int) (pa_cons (pv 14) (pa_cons (pe_int) (pa_cons (pe_int) (pa_cons (pe_int) (pa_cons (pe_int) (pa_cons (pe_callTy call_int1 (by rfl) T.n_int (by decide +kernel) (pa_cons (pe_cmpR (opEq hr) (pv 6) (pe_int) (nomark _)) pa_nil)) pa_nil)))))))))) (pss_cons (ps_set (i := 9) sc__law_mk_mark_right.nd rfl (by first | exact Or.inl rfl | exact Or.inr rfl) (pe_op opAdd (pv 9) (pe_lst (pa_cons (pe_tup (pa_cons (pe_int) (pa_cons (pv 6) (pa_cons (pe_tup (pa_cons (pe_str) (pa_cons (pe_int) pa_nil))) (pa_cons (pv 14) pa_nil))))) (pa_cons (pe_tup (pa_cons (pe_int) (pa_cons (pv 6) (pa_cons (pe_tup (pa_cons (pe_str) (pa_cons (pe_int) pa_nil))) (pa_cons (pv 15) pa_nil))))) pa_nil))))) (pss_cons (ps_set (i := 9) sc__law_mk_mark_right.nd rfl (by first | exact Or.inl rfl | exact Or.inr rfl) (pe_op opAdd (pv 9) (pe_lst (pa_cons (pe_tup (pa_cons (pe_int) (pa_cons (pv 6) (pa_cons (pe_tup (pa_cons (pe_str) (pa_cons (pe_op opAdd (pe_int) (pv 6)) pa_nil))) (pa_cons (pe_tup (pa_cons (pv 6) (pa_cons (pe_str) (pa_cons (pe_int) pa_nil)))) pa_nil))))) (pa_cons (pe_tup (pa_cons (pe_int) (pa_cons (pv 6) (pa_cons (pe_tup (pa_cons (pe_str) pa_nil)) (pa_cons (pe_int) pa_nil))))) pa_nil))))) (pss_cons (ps_if (PW.pt (pw_and (pt_cmpR (opEq hr) (pv 6) (pe_int) (nomark _)) (pw_and1 (pt_cmpR (opEq hr) (pe_u C__law_draw hr (by decide) (by rfl) (pa_cons (pv 0) (pa_cons (pe_int) pa_nil))) (pe_int) (nomark _))))) (pss_cons (ps_expr (pe_bm PySem.F.plainAttrs_list PySem.F.slot_list_append PySem.F.type_list_append mt_append (pv 9) (pa_cons (pe_tup (pa_cons (pe_int) (pa_cons (pe_int) (pa_cons (pe_tup (pa_cons (pe_str) (pa_cons (pe_int) pa_nil))) (pa_cons (pe_int) pa_nil))))) pa_nil))) (pss_one (ps_set (i := 11) sc__law_mk_mark_right.nd rfl (by first | exact Or.inl rfl | exact Or.inr rfl) (pe_op opAdd (pe_slice slU (pv 11) po_none (po_some (pe_int))) (pe_tup (pa_cons (pe_int) pa_nil)))))) pss_nil) (pss_one (ps_expr (pe_bm PySem.F.plainAttrs_list PySem.F.slot_list_append PySem.F.type_list_append mt_append (pv 10) (pa_cons (pe_tup (pa_cons (pv 11) (pa_cons (pe_tup (pa_cons (pv 15) (pa_cons (pe_int) pa_nil))) pa_nil))) pa_nil)))))))))) (pss_cons (ps_set (i := 7) sc__law_mk_mark_right.nd rfl (by first | exact Or.inl rfl | exact Or.inr rfl) (pe_u C_struck hr (by decide) (by rfl) (pa_cons (pv 5) (pa_cons (pe_lst pa_nil) (pa_cons (pv 9) (pa_cons (pe_int) pa_nil)))))) (pss_cons (ps_expr (pe_um (pv 7) T.k_Machine C_Machine_go hr (by decide) (pa_cons (pe_int) pa_nil))) (pss_cons (ps_set (i := 8) sc__law_mk_mark_right.nd rfl (by first | exact Or.inl rfl | exact Or.inr rfl) (pe_u C__law_mk_agreed hr (by decide) (by rfl) (pa_cons (pv 10) (pa_cons (pe_ix ixU (pv 1) (pe_op opSub (pv 3) (pe_int)) (fun _ _ => rfl)) pa_nil)))) (pss_cons (ps_for PassesOwn.never (by rfl) (pi_range1 (by rfl) T.n_range (pa_cons (pv 3) pa_nil)) (pg_name (i := 6) sc__law_mk_mark_right.nd rfl (by first | exact Or.inl rfl | exact Or.inr rfl)) (pss_cons (ps_set (i := 12) sc__law_mk_mark_right.nd rfl (by first | exact Or.inl rfl | exact Or.inr rfl) (pe_ifExp (pt_cmpR (opEq hr) (pv 8) (pe_lst pa_nil) (nomark _)) (pe_ix ixU (pv 10) (pv 6) (fun _ _ => rfl)) (pe_ix ixU (pv 8) (pe_int) (fun _ _ => rfl)))) (pss_cons (ps_if (pt_cmpR (opNe hr) (pe_tup (pa_cons (pe_um (pv 7) T.k_Machine C_Machine_registers hr (by decide) (pa_cons (pv 6) pa_nil)) (pa_cons (pe_um (pv 7) T.k_Machine C_Machine_cells hr (by decide) (pa_cons (pv 6) pa_nil)) pa_nil))) (pv 12) (nomark _)) (pss_one (ps_ret (pe_bl))) pss_nil) (pss_cons (ps_set (i := 13) sc__law_mk_mark_right.nd rfl (by first | exact Or.inl rfl | exact Or.inr rfl) (pe_ifExp (pt_cmpR (opEq hr) (pv 8) (pe_lst pa_nil) (nomark _)) (pe_tup (pa_cons (pv 6) (pa_cons (pe_str) (pa_cons (pe_int) pa_nil)))) (pe_tup (pa_cons (pv 6) (pa_cons (pe_str) (pa_cons (pe_int) (pa_cons (pe_int) pa_nil))))))) (pss_one (ps_if (pt_cmpR (opNe hr) (pe_um (pv 7) T.k_Machine C_Machine_own hr (by decide) (pa_cons (pv 6) (pa_cons (pe_op opAdd (pe_int) (pv 6)) pa_nil))) (pv 13) (nomark _)) (pss_one (ps_ret (pe_bl))) pss_nil)))))) (pss_cons (ps_if (pt_cmpR (opEq hr) (pv 8) (pe_lst pa_nil) (nomark _)) (pss_one (ps_ret ((pe_and (pe_cmpR (opEq hr) (pe_up (pv 7) T.k_Machine C_Machine_state hr (by decide) rfl) (pe_str) (nomark _)) (pe_one (pe_cmpR (opEq hr) (pe_up (pv 7) T.k_Machine C_Machine_slots hr (by decide) rfl) (pe_op opMulT (pe_tup (pa_cons (pe_int) pa_nil)) (pv 3)) (nomark _))))))) pss_nil) (pss_one (ps_ret ((pe_and (pe_cmpR (opEq hr) (pe_up (pv 7) T.k_Machine C_Machine_state hr (by decide) rfl) (pe_str) (nomark _)) (pe_and (pe_cmpR (opEq hr) (pe_up (pv 7) T.k_Machine C_Machine_slots hr (by decide) rfl) (pe_op opMulT (pe_tup (pa_cons (pe_non) pa_nil)) (pv 3)) (nomark _)) (pe_one (pe_cmpR (opEq hr) (pe_up (pv 7) T.k_Machine C_Machine_pointers hr (by decide) rfl) (pe_op opMulT (pe_tup (pa_cons (pe_int) pa_nil)) (pv 3)) (nomark _))))))))))))))))))
end
end Hw
namespace Hw
open PySem PySem.Spec PyProof.Rows L2 Dl
theorem ok_law {P : Program} {w : World} {K : Frag} {mg : Str → Option Value} {base : Heap} {f : Addr} {fd : FuncData} (T : TX K mg) (F : FunD K "law" "law" (defArgs s_law) (defBody s_law) (defScope s_law) [] [] f fd) (C__law_begun : Callee P w K mg base "_law_begun" 1 ["_law_script"] (spOf K (F__law_begun K))) (C__law_size : Callee P w K mg base "_law_size" 4 ["_law_state"] (spOf K (F__law_size K))) (C__law_votes : Callee P w K mg base "_law_votes" 4 ["_law_state"] (spOf K (F__law_votes K))) (C__law_mk_mark_right : Callee P w K mg base "_law_mk_mark_right" 12 ["_law_state", "_law_votes_here", "_law_size_here"] (spOf K (F__law_mk_mark_right K))) (C__law_mk_slots_right : Callee P w K mg base "_law_mk_slots_right" 12 ["_law_state", "_law_votes_here", "_law_size_here"] (spOf K (F__law_mk_slots_right K))) (C_Machine___init__ : CalleeJ P w K mg base "Machine" (He.ga K "Machine") 9 ["self", "code", "inputs", "strikes"] (dv_Machine K) (spOf K (F_Machine___init__ K))) (C_Machine_slots : CalleeP P w K mg base (He.ga K "Machine") "slots" 1 ["self"] (spOf K (F_Machine_slots K))) : FnOk P w K mg base CX0 13 f fd ["_law_script"] (spOf K (F_law K)) := by
  refine fn_mk F sc_law n_law (t_law K) (b_law T) ?_
  intro cdv A outer s H E hr
  exact (pss_cons (ps_set (i := 1) sc_law.nd rfl (by first | exact Or.inl rfl | exact Or.inr rfl) (pe_u C__law_begun hr (by decide) (by rfl) (pa_cons (pv 0) pa_nil))) (pss_cons (ps_for PassesOwn.never (by rfl) (pi_range1 (by rfl) T.n_range (pa_cons (pe_int) pa_nil)) (pg_name (i := 2) sc_law.nd rfl (by first | exact Or.inl rfl | exact Or.inr rfl)) (pss_cons (ps_par (i := 3) (j := 4) (by rfl) sc_law.nd rfl rfl (by decide) rfl rfl (pa_cons (pe_u C__law_votes hr (by decide) (by rfl) (pa_cons (pv 1) pa_nil)) (pa_cons (pe_u C__law_size hr (by decide) (by rfl) (pa_cons (pv 1) pa_nil)) pa_nil)) (by rfl)) (pss_one (ps_if (PW.pt (pw_or (pt_not (pt_truth (pe_u C__law_mk_slots_right hr (by decide) (by rfl) (pa_cons (pv 1) (pa_cons (pv 3) (pa_cons (pv 4) pa_nil)))) (fun _ => rfl))) (pw_or1 (pt_not (pt_truth (pe_u C__law_mk_mark_right hr (by decide) (by rfl) (pa_cons (pv 1) (pa_cons (pv 3) (pa_cons (pv 4) pa_nil)))) (fun _ => rfl)))))) (pss_one (ps_ret (pe_bl))) pss_nil)))) (pss_one (ps_ret (pe_cmpR (opEq hr) (pe_up (pe_mkj C_Machine___init__ hr (by decide) (by rfl) (pa_cons (pe_tup (pa_cons (pe_tup (pa_cons (pe_int) pa_nil)) (pa_cons (pe_int) (pa_cons (pe_tup (pa_cons (pe_tup (pa_cons (pe_str) pa_nil)) pa_nil)) (pa_cons (pe_tup pa_nil) pa_nil))))) (pa_cons (pe_lst pa_nil) pa_nil))) T.k_Machine C_Machine_slots hr (by decide) rfl) (pe_tup (pa_cons (pe_non) pa_nil)) (nomark _))))))
theorem facts {P : Program} {w : World} {K : Frag} {h : Heap} {mg : Str → Option Value} {f : Addr} (X : K.In h) (G : h.Ns mainGlobals mg) (hfa : mg ("law" : Str) = some (.ref f)) (c : SaysX fa fn ex K) :
    ∃ fd : FuncData, (∀ (s : Shared) (v : Value), BindsTo s fd ⟨[v], []⟩ [("_law_script", v)]) ∧ ∀ base : Heap, K.In base → base.Ns mainGlobals mg → FnOk P w K mg base CX0 13 f fd ["_law_script"] (spOf K (F_law K)) := by
  have T : TX K mg := tx X G c
  obtain ⟨fd, F⟩ := c.def_ 57 (d := dLaw) rfl
  have e := hfa.symm.trans (He.glo_ok X G (c.fact 92 (f := .glo "law") rfl))
  cases e
  have b := FunD.bindsA (ps := ["_law_script"]) F fun _ _ _ _ _ _ us hl => match us, hl with | [_], _ => rfl
  refine ⟨fd, fun s v => b s [v] rfl, fun base _ _ => ?_⟩
  have C__law_begun : Callee P w K mg base "_law_begun" 1 ["_law_script"] (spOf K (F__law_begun K)) := ok__law_begun T 
  have C__law_mixed : Callee P w K mg base "_law_mixed" 1 ["_law_state"] (spOf K (F__law_mixed K)) := ok__law_mixed T 
  have C__law_draw : Callee P w K mg base "_law_draw" 2 ["_law_state", "_law_room"] (spOf K (F__law_draw K)) := ok__law_draw T C__law_mixed
  have C__law_pick : Callee P w K mg base "_law_pick" 3 ["_law_state", "_law_some"] (spOf K (F__law_pick K)) := ok__law_pick T C__law_draw
  have C__law_size : Callee P w K mg base "_law_size" 4 ["_law_state"] (spOf K (F__law_size K)) := ok__law_size T C__law_pick
  have C__law_votes : Callee P w K mg base "_law_votes" 4 ["_law_state"] (spOf K (F__law_votes K)) := ok__law_votes T C__law_pick C__law_draw
  have C_is_whole : Callee P w K mg base "is_whole" 1 ["value"] (spOf K (F_is_whole K)) := ok_is_whole T 
  have C_is_votes : Callee P w K mg base "is_votes" 2 ["value"] (spOf K (F_is_votes K)) := ok_is_votes T C_is_whole
  have C_is_from : Callee P w K mg base "is_from" 2 ["value", "low", "high"] (spOf K (F_is_from K)) := ok_is_from T C_is_whole
  have C_are_registers : Callee P w K mg base "are_registers" 3 ["values"] (spOf K (F_are_registers K)) := ok_are_registers T C_is_from
  have C_instruction_fits : Callee P w K mg base "instruction_fits" 4 ["value", "hue", "size", "many"] (spOf K (F_instruction_fits K)) := ok_instruction_fits T C_is_from C_are_registers
  have C_settle_fits : Callee P w K mg base "settle_fits" 3 ["value", "hues", "many"] (spOf K (F_settle_fits K)) := ok_settle_fits T C_is_from
  have C_cell_fits : Callee P w K mg base "cell_fits" 5 ["value", "hues", "size", "many", "bank"] (spOf K (F_cell_fits K)) := ok_cell_fits T C_is_from C_instruction_fits C_settle_fits
  have C_is_code : Callee P w K mg base "is_code" 6 ["value"] (spOf K (F_is_code K)) := ok_is_code T C_is_votes C_is_from C_cell_fits
  have C_need_code : Callee P w K mg base "need_code" 7 ["code"] (spOf K (F_need_code K)) := ok_need_code T C_is_code
  have C_are_inputs : Callee P w K mg base "are_inputs" 3 ["value"] (spOf K (F_are_inputs K)) := ok_are_inputs T C_is_from
  have C_need_inputs : Callee P w K mg base "need_inputs" 4 ["inputs"] (spOf K (F_need_inputs K)) := ok_need_inputs T C_are_inputs
  have C_is_strike_list : Callee P w K mg base "is_strike_list" 1 ["value"] (spOf K (F_is_strike_list K)) := ok_is_strike_list T 
  have C_is_settle : Callee P w K mg base "is_settle" 1 ["cell"] (spOf K (F_is_settle K)) := ok_is_settle T 
  have C_place_fits : Callee P w K mg base "place_fits" 3 ["code", "hue", "place"] (spOf K (F_place_fits K)) := ok_place_fits T C_is_from C_is_settle
  have C_new_fits : Callee P w K mg base "new_fits" 5 ["code", "hue", "place", "new"] (spOf K (F_new_fits K)) := ok_new_fits T C_instruction_fits C_is_from
  have C_strike_fits : Callee P w K mg base "strike_fits" 6 ["code", "value"] (spOf K (F_strike_fits K)) := ok_strike_fits T C_is_from C_place_fits C_new_fits
  have C_first_misfit : Callee P w K mg base "first_misfit" 7 ["code", "strikes"] (spOf K (F_first_misfit K)) := ok_first_misfit T C_strike_fits
  have C_need_strikes : Callee P w K mg base "need_strikes" 8 ["code", "strikes"] (spOf K (F_need_strikes K)) := ok_need_strikes T C_is_strike_list C_first_misfit
  have C_HueState___init__ : CalleeJ P w K mg base "HueState" (He.ga K "HueState") 1 ["self", "bank"] (dv_HueState K) (spOf K (F_HueState___init__ K)) := ok_HueState___init__ T 
  have CF_Machine___init__ : CalleeJ P w K mg base "Machine" (He.ga K "Machine") 9 ["self", "code", "inputs", "strikes"] [] (spOf K (F_Machine___init__ K)) := okF_Machine___init__ T C_need_code C_need_inputs C_need_strikes C_HueState___init__
  have C_need_steps : Callee P w K mg base "need_steps" 3 ["steps"] (spOf K (F_need_steps K)) := ok_need_steps T C_is_from
  have C_HueState_struck_at : CalleeM P w K mg base (He.ga K "HueState") "struck_at" 1 ["self", "place", "new"] (spOf K (F_HueState_struck_at K)) := ok_HueState_struck_at T 
  have C_strikes_due : Callee P w K mg base "strikes_due" 2 ["machine"] (spOf K (F_strikes_due K)) := ok_strikes_due T C_HueState_struck_at
  have C_most_agreed : Callee P w K mg base "most_agreed" 1 ["values", "need"] (spOf K (F_most_agreed K)) := ok_most_agreed T 
  have C_machine_address : Callee P w K mg base "machine_address" 2 ["machine"] (spOf K (F_machine_address K)) := ok_machine_address T C_most_agreed
  have C_point_all : Callee P w K mg base "point_all" 1 ["machine", "address"] (spOf K (F_point_all K)) := ok_point_all T 
  have C_empty_slots : Callee P w K mg base "empty_slots" 1 ["machine"] (spOf K (F_empty_slots K)) := ok_empty_slots T 
  have C_mark_done : Callee P w K mg base "mark_done" 2 ["machine", "behind"] (spOf K (F_mark_done K)) := ok_mark_done T C_most_agreed C_point_all C_empty_slots
  have C_settle_done : Callee P w K mg base "settle_done" 3 ["machine", "cell", "behind"] (spOf K (F_settle_done K)) := ok_settle_done T C_most_agreed C_point_all C_empty_slots C_mark_done
  have C_worked_out : Callee P w K mg base "worked_out" 1 ["word", "one", "other", "size"] (spOf K (F_worked_out K)) := ok_worked_out T 
  have C_HueState_instructed : CalleeM P w K mg base (He.ga K "HueState") "instructed" 2 ["self", "cell", "size"] (spOf K (F_HueState_instructed K)) := ok_HueState_instructed T C_worked_out
  have C_machine_step : Callee P w K mg base "machine_step" 4 ["machine"] (spOf K (F_machine_step K)) := ok_machine_step T C_machine_address C_is_settle C_settle_done C_point_all C_HueState_instructed
  have C_next_address : Callee P w K mg base "next_address" 3 ["machine"] (spOf K (F_next_address K)) := ok_next_address T C_machine_address
  have C_Machine_go : CalleeM P w K mg base (He.ga K "Machine") "go" 5 ["self", "steps"] (spOf K (F_Machine_go K)) := ok_Machine_go T C_need_steps C_strikes_due C_machine_step C_next_address
  have C_struck : Callee P w K mg base "struck" 11 ["code", "inputs", "strikes", "steps"] (spOf K (F_struck K)) := ok_struck T CF_Machine___init__ C_Machine_go
  have C__law_mk_agreed : Callee P w K mg base "_law_mk_agreed" 1 ["_law_values", "_law_need"] (spOf K (F__law_mk_agreed K)) := ok__law_mk_agreed T 
  have C_need_hue : Callee P w K mg base "need_hue" 3 ["code", "hue"] (spOf K (F_need_hue K)) := ok_need_hue T C_is_from
  have C_Machine_cells : CalleeM P w K mg base (He.ga K "Machine") "cells" 4 ["self", "hue"] (spOf K (F_Machine_cells K)) := ok_Machine_cells T C_need_hue
  have C_Machine_registers : CalleeM P w K mg base (He.ga K "Machine") "registers" 4 ["self", "hue"] (spOf K (F_Machine_registers K)) := ok_Machine_registers T C_need_hue
  have C_Machine_own : CalleeM P w K mg base (He.ga K "Machine") "own" 4 ["self", "hue", "address"] (spOf K (F_Machine_own K)) := ok_Machine_own T C_need_hue C_place_fits
  have C_Machine_slots : CalleeP P w K mg base (He.ga K "Machine") "slots" 1 ["self"] (spOf K (F_Machine_slots K)) := ok_Machine_slots T 
  have C_Machine_state : CalleeP P w K mg base (He.ga K "Machine") "state" 1 ["self"] (spOf K (F_Machine_state K)) := ok_Machine_state T 
  have C_Machine_pointers : CalleeP P w K mg base (He.ga K "Machine") "pointers" 1 ["self"] (spOf K (F_Machine_pointers K)) := ok_Machine_pointers T 
  have C__law_mk_mark_right : Callee P w K mg base "_law_mk_mark_right" 12 ["_law_state", "_law_votes_here", "_law_size_here"] (spOf K (F__law_mk_mark_right K)) := ok__law_mk_mark_right T C__law_draw C_struck C_Machine_go C__law_mk_agreed C_Machine_cells C_Machine_registers C_Machine_own C_Machine_slots C_Machine_state C_Machine_pointers
  have C__law_number : Callee P w K mg base "_law_number" 4 ["_law_state", "_law_size_here"] (spOf K (F__law_number K)) := ok__law_number T C__law_pick C__law_draw
  have C_Machine_steps : CalleeP P w K mg base (He.ga K "Machine") "steps" 1 ["self"] (spOf K (F_Machine_steps K)) := ok_Machine_steps T 
  have C_Machine_row : CalleeP P w K mg base (He.ga K "Machine") "row" 1 ["self"] (spOf K (F_Machine_row K)) := ok_Machine_row T 
  have C__law_mk_slots_right : Callee P w K mg base "_law_mk_slots_right" 12 ["_law_state", "_law_votes_here", "_law_size_here"] (spOf K (F__law_mk_slots_right K)) := ok__law_mk_slots_right T C__law_pick C__law_draw C__law_number C_struck C__law_mk_agreed C_Machine_pointers C_Machine_slots C_Machine_steps C_Machine_row C_Machine_state
  have C_Machine___init__ : CalleeJ P w K mg base "Machine" (He.ga K "Machine") 9 ["self", "code", "inputs", "strikes"] (dv_Machine K) (spOf K (F_Machine___init__ K)) := ok_Machine___init__ T C_need_code C_need_inputs C_need_strikes C_HueState___init__
  exact ok_law T F C__law_begun C__law_size C__law_votes C__law_mk_mark_right C__law_mk_slots_right C_Machine___init__ C_Machine_slots
end Hw
open PySem PySem.W PySem.Calls PyProof.Rows
theorem PySem.Challenge.cw_hueward_k12_votes_of_slots_holds : PySem.Challenge.rw_hueward_k12_votes_of_slots.Holds := by
  w_on; o_law
  refine HandSHeadRun.head_any (r := OpenLaw.row PySem.Challenge.rw_hueward_k12_votes_of_slots) (q := view (OpenLaw.row PySem.Challenge.rw_hueward_k12_votes_of_slots).prog [73]) (H := Hw.hk) (ob := Hw.ob) (M := 20000) (loose := Hw.loose) (d := HandSHeadRun.topDef (OpenLaw.row PySem.Challenge.rw_hueward_k12_votes_of_slots).prog 73) (kwd := []) Hw.ob_eq
    (by kernel_rfl) (fun s => by kernel_rfl) Hw.run (by kernel_rfl) (by kernel_rfl) (by kernel_rfl) (by rfl) (by first | assumption | decide +kernel) (by decide +kernel) ⟨rfl, rfl, rfl, rfl, rfl, by decide +kernel⟩ ?hw ?hc
  case hw => w_witness2
  case hc =>
    refine L2.walk_ofE (l := PySem.Challenge.rw_hueward_k12_votes_of_slots) (n := 63) (k := 13) (x := "_law_script") (CX := L2.CX0) rfl (by decide) (by kernel_rfl) ⟨rfl, by decide, by decide⟩ ?F (fun _ _ _ _ z => z)
    intro w mg fa h Y G hmg0
    obtain ⟨K, KX, c⟩ := Y
    have hmg : mg ("law" : PySem.Str) = some (.ref fa) := by
      have e : (HandSHeadRun.topDef (OpenLaw.row PySem.Challenge.rw_hueward_k12_votes_of_slots).prog 73).name = ("law" : PySem.Str) := by kernel_rfl
      rw [← e]
      exact hmg0
    obtain ⟨fd, hb, hF⟩ := Hw.facts (P := (PySem.Challenge.rw_hueward_k12_votes_of_slots).prog) (w := w) KX G hmg c
    exact ⟨K, fd, _, KX, hb, fun H a ns hl _ hS => Dl.law_sp hS fun s k hs hk => ⟨ns, s, hl, hs, rfl, hk _⟩, hF⟩
