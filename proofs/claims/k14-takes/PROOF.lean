import PyProof.Rows.All
import Wide.All
import OpenK.AllK
import Wide.FinOn
import HandS.ForMost
import HandS.Flow
import HandS.Style
import HandS.IsInst
import HandS.Defaults
import HandS.Property
import HandS.TupAny
import HandS.Wide
import HandS.Deep
import HandS.HeadHook2
import HandS.Head0
import HandS.Head1
import HandS.Head2
import HandS.HeadEnd
import KE.GoesEnum
import HandS.SetFor
import HandS.HeadHook1
import KE.KStateDown
import PyProof.P3Eq
import PySem.Challenge.RW_hueward_k14_takes_for_all_hues
set_option Elab.async false
set_option linter.all false
set_option maxRecDepth 100000
set_option maxHeartbeats 8000000
namespace Dl
open PySem L2
abbrev Frag := PySem.W.Frag
def Le (H H' : Hp) : Prop := ∀ a o, H a = some o → H' a = some o
theorem Le.refl (H : Hp) : Le H H := fun _ _ h => h
theorem Le.trans {H H1 H2 : Hp} (a : Le H H1) (b : Le H1 H2) : Le H H2 := fun x o h => b x o (a x o h)
theorem Le.none {H H' : Hp} (e : Le H H') {a : Addr} (h : H' a = Option.none) : H a = Option.none := by
  cases q : H a with
  | none => rfl
  | some o => rw [e a o q] at h; cases h
theorem Le.sqL {K : Frag} {H H' : Hp} {a : Addr} {xs : List V} (e : Le H H') (h : SqL K H a xs) : SqL K H' a xs := by
  rcases h with (h | ⟨o, h⟩) | h
  · exact .inl (.inl (e _ _ h))
  · exact .inl (.inr ⟨o, e _ _ h⟩)
  · exact .inr h
theorem Le.sqT {K : Frag} {H H' : Hp} {a : Addr} {xs : List V} (e : Le H H') (h : SqT K H a xs) : SqT K H' a xs := by
  rcases h with (h | ⟨o, h⟩) | h
  · exact .inl (.inl (e _ _ h))
  · exact .inl (.inr ⟨o, e _ _ h⟩)
  · exact .inr h
theorem Le.rd {H H' : Hp} {a : Addr} {u : HO} (e : Le H H') (h : Rd H a u) : Rd H' a u := by
  rcases h with h | ⟨o, h⟩
  · exact .inl (e _ _ h)
  · exact .inr ⟨o, e _ _ h⟩
mutual
inductive Dd (K : Frag) (H : Hp) : V → PyData → Prop
  | non : Dd K H .non .none
  | bl (b : Bool) : Dd K H (.bl b) (.bool b)
  | int (i : Int) : Dd K H (.int i) (.int i)
  | str (x : Str) : Dd K H (.str x) (.str x)
  | lst {a : Addr} {xs : List V} {ds : List PyData} : Rd H a (.lst xs) → DdAll K H xs ds → Dd K H (.ref a) (.list ds)
  | tup {a : Addr} {xs : List V} {ds : List PyData} : SqT K H a xs → DdAll K H xs ds → Dd K H (.ref a) (.tuple ds)
inductive DdAll (K : Frag) (H : Hp) : List V → List PyData → Prop
  | nil : DdAll K H [] []
  | cons {v : V} {vs : List V} {d : PyData} {ds : List PyData} : Dd K H v d → DdAll K H vs ds → DdAll K H (v :: vs) (d :: ds)
end
mutual
theorem Dd.dp {K : Frag} {H : Hp} : ∀ {v : V} {d : PyData}, Dd K H v d → Dp K H v d
  | _, _, .non => .non
  | _, _, .bl b => .bl b
  | _, _, .int i => .int i
  | _, _, .str x => .str x
  | _, _, .lst h hs => .lst (.inl h) (DdAll.dps hs)
  | _, _, .tup h hs => .tup h (DdAll.dps hs)
theorem DdAll.dps {K : Frag} {H : Hp} : ∀ {vs : List V} {ds : List PyData}, DdAll K H vs ds → DpAll K H vs ds
  | _, _, .nil => .nil
  | _, _, .cons h hs => .cons (Dd.dp h) (DdAll.dps hs)
end
mutual
theorem Le.dp {K : Frag} {H H' : Hp} (e : Le H H') : ∀ {v : V} {d : PyData}, Dd K H v d → Dd K H' v d
  | _, _, .non => .non
  | _, _, .bl b => .bl b
  | _, _, .int i => .int i
  | _, _, .str x => .str x
  | _, _, .lst h hs => .lst (e.rd h) (Le.dps e hs)
  | _, _, .tup h hs => .tup (e.sqT h) (Le.dps e hs)
theorem Le.dps {K : Frag} {H H' : Hp} (e : Le H H') : ∀ {vs : List V} {ds : List PyData}, DdAll K H vs ds → DdAll K H' vs ds
  | _, _, .nil => .nil
  | _, _, .cons h hs => .cons (Le.dp e h) (Le.dps e hs)
end
structure Res where
  v : V
  p : Frag → Hp → Hp → List Addr → Prop
  loc : ∀ {K S H fp S' H'}, p K S H fp → Le S S' → (∀ a ∈ fp, H' a = H a) → p K S' H' fp
inductive Sl where
  | no
  | dat (d : PyData)
  | raw (v : V)
  | res (r : Res)
def SlOk (K : Frag) (S H : Hp) (x : Option V) (fp : List Addr) : Sl → Prop
  | .no => fp = []
  | .dat d => fp = [] ∧ ∃ v, x = some v ∧ Dd K S v d
  | .raw v => fp = [] ∧ x = some v
  | .res r => x = some r.v ∧ r.p K S H fp
theorem SlOk.step {K : Frag} {S H S' H' : Hp} {x : Option V} {fp : List Addr} {s : Sl} (h : SlOk K S H x fp s) (e : Le S S') (k : ∀ a ∈ fp, H' a = H a) : SlOk K S' H' x fp s := by
  cases s with
  | no => exact h
  | dat d => obtain ⟨a, v, b, c⟩ := h; exact ⟨a, v, b, e.dp c⟩
  | raw v => exact h
  | res r => exact ⟨h.1, r.loc h.2 e k⟩
inductive SatL (K : Frag) (S H : Hp) : List (Option V) → List Sl → List (List Addr) → Prop
  | nil : SatL K S H [] [] []
  | cons {x : Option V} {s : Sl} {fp : List Addr} {xs : List (Option V)} {ss : List Sl} {fs : List (List Addr)} : SlOk K S H x fp s → SatL K S H xs ss fs → SatL K S H (x :: xs) (s :: ss) (fp :: fs)
theorem SatL.step {K : Frag} {S H S' H' : Hp} (e : Le S S') : ∀ {xs : List (Option V)} {ss : List Sl} {fs : List (List Addr)}, SatL K S H xs ss fs → (∀ a ∈ fs.flatten, H' a = H a) → SatL K S' H' xs ss fs
  | _, _, _, .nil, _ => .nil
  | _, _, _, .cons h hs, k => .cons (h.step e fun a ha => k a (by simp [ha])) (SatL.step e hs fun a ha => k a (by
      rw [List.flatten_cons]; exact List.mem_append_right _ ha))
theorem SatL.append {K : Frag} {S H : Hp} : ∀ {xs : List (Option V)} {ss : List Sl} {fs : List (List Addr)} {ys : List (Option V)} {ts : List Sl} {gs : List (List Addr)},
    SatL K S H xs ss fs → SatL K S H ys ts gs → SatL K S H (xs ++ ys) (ss ++ ts) (fs ++ gs)
  | _, _, _, _, _, _, .nil, h => h
  | _, _, _, _, _, _, .cons a b, h => .cons a (SatL.append b h)
theorem SatL.split {K : Frag} {S H : Hp} : ∀ {xs : List (Option V)} {ss : List Sl} {fs : List (List Addr)} {ys : List (Option V)} {ts : List Sl} {gs : List (List Addr)},
    SatL K S H (xs ++ ys) (ss ++ ts) (fs ++ gs) → xs.length = ss.length → fs.length = ss.length → SatL K S H xs ss fs ∧ SatL K S H ys ts gs
  | [], [], [], _, _, _, h, _, _ => ⟨.nil, h⟩
  | x :: xs, s :: ss, f :: fs, _, _, _, h, h1, h2 => by
    cases h with
    | cons a b =>
      obtain ⟨c, d⟩ := SatL.split (xs := xs) (ss := ss) (fs := fs) b (by simpa using h1) (by simpa using h2)
      exact ⟨.cons a c, d⟩
  | [], _ :: _, _, _, _, _, _, h1, _ => by simp at h1
  | _ :: _, [], _, _, _, _, _, h1, _ => by simp at h1
  | [], [], _ :: _, _, _, _, _, _, h2 => by simp at h2
  | _ :: _, _ :: _, [], _, _, _, _, _, h2 => by simp at h2
theorem SatL.lens {K : Frag} {S H : Hp} : ∀ {xs : List (Option V)} {ss : List Sl} {fs : List (List Addr)}, SatL K S H xs ss fs → xs.length = ss.length ∧ fs.length = ss.length
  | _, _, _, .nil => ⟨rfl, rfl⟩
  | _, _, _, .cons _ h => by obtain ⟨a, b⟩ := h.lens; simp [a, b]
structure Good (S H : Hp) (F : List Addr) : Prop where
  sub : Le S H
  nd : F.Nodup
  dis : ∀ a ∈ F, S a = none
  al : ∀ a ∈ F, H a ≠ none
theorem Good.perm {S H : Hp} {F F' : List Addr} (g : Good S H F) (p : F.Perm F') : Good S H F' :=
  ⟨g.sub, p.nodup_iff.mp g.nd, fun a h => g.dis a (p.mem_iff.mpr h), fun a h => g.al a (p.mem_iff.mpr h)⟩
theorem Good.sublist {S H : Hp} {F F' : List Addr} (g : Good S H F) (p : F'.Sublist F) : Good S H F' :=
  ⟨g.sub, g.nd.sublist p, fun a h => g.dis a (p.subset h), fun a h => g.al a (p.subset h)⟩
theorem Good.right {S H : Hp} {F G : List Addr} (g : Good S H (F ++ G)) : Good S H G := g.sublist (List.sublist_append_right _ _)
theorem Good.left {S H : Hp} {F G : List Addr} (g : Good S H (F ++ G)) : Good S H F := g.sublist (List.sublist_append_left _ _)
structure Step (S H : Hp) (F : List Addr) (S' H' : Hp) (F' : List Addr) : Prop where
  le : Le S S'
  fr : ∀ a o, H a = some o → a ∉ F → H' a = some o
  new : ∀ a, S' a ≠ none → S a ≠ none ∨ H a = none ∨ a ∈ F
  own : ∀ a ∈ F', H a = none ∨ a ∈ F
  al : ∀ a, H a ≠ none → H' a ≠ none
theorem Step.refl {S H : Hp} {F : List Addr} : Step S H F S H F := ⟨Le.refl _, fun _ _ h _ => h, fun _ h => .inl h, fun _ h => .inr h, fun _ h => h⟩
theorem Step.sub {S H S' H' : Hp} {F F' F'' : List Addr} (s : Step S H F S' H' F') (h : ∀ a ∈ F'', a ∈ F') : Step S H F S' H' F'' :=
  ⟨s.le, s.fr, s.new, fun a ha => s.own a (h a ha), s.al⟩
theorem Step.weak {S H S' H' : Hp} {F G F' : List Addr} (s : Step S H F S' H' F') (h : ∀ a ∈ F, a ∈ G) : Step S H G S' H' F' :=
  ⟨s.le, fun a o e n => s.fr a o e fun q => n (h a q), fun a e => (s.new a e).imp id fun q => q.imp id (h a), fun a ha => (s.own a ha).imp id (h a), s.al⟩
theorem Step.trans {S H S1 H1 S2 H2 : Hp} {F F1 F2 : List Addr} (a : Step S H F S1 H1 F1) (b : Step S1 H1 F1 S2 H2 F2) : Step S H F S2 H2 F2 := by
  have back : ∀ x, H1 x = none → H x = none := fun x h => by
    cases q : H x with
    | none => rfl
    | some o => exact absurd h (a.al x (by rw [q]; simp))
  refine ⟨a.le.trans b.le, fun x o h n => b.fr x o (a.fr x o h n) fun q => ?_, fun x h => ?_, fun x h => ?_, fun x h => b.al x (a.al x h)⟩
  · rcases a.own x q with e | e
    · rw [h] at e; cases e
    · exact n e
  · rcases b.new x h with e | e | e
    · exact a.new x e
    · exact .inr (.inl (back x e))
    · exact .inr (a.own x e)
  · rcases b.own x h with e | e
    · exact .inl (back x e)
    · exact a.own x e
structure Wd (K : Frag) (σ : List (Option V)) (Γ : List Sl) (S H : Hp) (fs : List (List Addr)) : Prop where
  good : Good S H fs.flatten
  sat : SatL K S H σ Γ fs
theorem frame {K : Frag} {ts σ σ' : List (Option V)} {Θ Γ Γ' : List Sl} {S H S' H' : Hp} {ft fs fs' : List (List Addr)} (l1 : ts.length = Θ.length) (l2 : ft.length = Θ.length) (w : Wd K (ts ++ σ) (Θ ++ Γ) S H (ft ++ fs))
    (w' : Wd K σ' Γ' S' H' fs') (s : Step S H fs.flatten S' H' fs'.flatten) :
    Wd K (ts ++ σ') (Θ ++ Γ') S' H' (ft ++ fs') ∧ Step S H (ft ++ fs).flatten S' H' (ft ++ fs').flatten := by
  obtain ⟨g, sat⟩ := w
  obtain ⟨s1, s2⟩ := sat.split l1 l2
  rw [List.flatten_append] at g
  have dj : ∀ a ∈ ft.flatten, a ∉ fs.flatten := fun a h1 h2 => (List.nodup_append.mp g.nd).2.2 a h1 a h2 rfl
  have keep : ∀ a ∈ ft.flatten, H' a = H a := fun a ha => by
    cases q : H a with
    | none => exact absurd q (g.al a (List.mem_append_left _ ha))
    | some o => exact s.fr a o q (dj a ha)
  have nF : ∀ a ∈ ft.flatten, a ∉ fs'.flatten := fun a h1 h2 => by
    rcases s.own a h2 with e | e
    · exact g.al a (List.mem_append_left _ h1) e
    · exact dj a h1 e
  refine ⟨⟨?_, (s1.step s.le keep).append w'.sat⟩, ?_⟩
  · rw [List.flatten_append]
    refine ⟨w'.good.sub, List.nodup_append.mpr ⟨g.left.nd, w'.good.nd, fun a h1 b h2 e => nF a h1 (e ▸ h2)⟩, fun a ha => ?_, fun a ha => ?_⟩
    · rcases List.mem_append.mp ha with h | h
      · cases q : S' a with
        | none => rfl
        | some o =>
          rcases s.new a (by rw [q]; simp) with e | e | e
          · exact absurd (g.dis a (List.mem_append_left _ h)) e
          · exact absurd e (g.al a (List.mem_append_left _ h))
          · exact absurd e (dj a h)
      · exact w'.good.dis a h
    · rcases List.mem_append.mp ha with h | h
      · exact s.al a (g.al a (List.mem_append_left _ h))
      · exact w'.good.al a h
  · rw [List.flatten_append, List.flatten_append]
    refine ⟨s.le, fun a o e n => s.fr a o e fun q => n (List.mem_append_right _ q), fun a e => (s.new a e).imp id fun q => q.imp id (List.mem_append_right _), fun a ha => ?_, s.al⟩
    rcases List.mem_append.mp ha with h | h
    · exact .inr (List.mem_append_left _ h)
    · exact (s.own a h).imp id (List.mem_append_right _)
theorem Wd.tail {K : Frag} {ts σ : List (Option V)} {Θ Γ : List Sl} {S H : Hp} {ft fs : List (List Addr)} (l1 : ts.length = Θ.length) (l2 : ft.length = Θ.length) (w : Wd K (ts ++ σ) (Θ ++ Γ) S H (ft ++ fs)) : Wd K σ Γ S H fs := by
  obtain ⟨g, sat⟩ := w
  rw [List.flatten_append] at g
  exact ⟨g.right, (sat.split l1 l2).2⟩
theorem Wd.tl {K : Frag} {x : Option V} {σ : List (Option V)} {s : Sl} {Γ : List Sl} {S H : Hp} {f : List Addr} {fs : List (List Addr)} (w : Wd K (x :: σ) (s :: Γ) S H (f :: fs)) : Wd K σ Γ S H fs :=
  Wd.tail (ts := [x]) (Θ := [s]) (ft := [f]) rfl rfl w
theorem Wd.hd {K : Frag} {x : Option V} {σ : List (Option V)} {s : Sl} {Γ : List Sl} {S H : Hp} {f : List Addr} {fs : List (List Addr)} (w : Wd K (x :: σ) (s :: Γ) S H (f :: fs)) : SlOk K S H x f s := by
  cases w.sat with | cons a _ => exact a
def Post (K : Frag) (σ : List (Option V)) (S H : Hp) (F : List Addr) (k : Sl → List Sl → Prop) (Q : VK) : Prop :=
  ∀ v r Γ' S' H' fr fs', k r Γ' → Wd K (some v :: σ) (r :: Γ') S' H' (fr :: fs') → Step S H F S' H' (fr :: fs').flatten → Q v H'
def EvP (K : Frag) (te : TE) (Γ : List Sl) (k : Sl → List Sl → Prop) : Prop :=
  ∀ σ S H fs Q, Wd K σ Γ S H fs → Post K σ S H fs.flatten k Q → te σ H Q
def EvB (K : Frag) (tt : TT) (Γ : List Sl) (k : Bool → List Sl → Prop) : Prop :=
  ∀ σ S H fs Q, Wd K σ Γ S H fs → (∀ b Γ' S' H' fs', k b Γ' → Wd K σ Γ' S' H' fs' → Step S H fs.flatten S' H' fs'.flatten → Q b H') → tt σ H Q
def EvA (K : Frag) (ta : TA) (Γ : List Sl) (k : List Sl → List Sl → Prop) : Prop :=
  ∀ σ S H fs Q, Wd K σ Γ S H fs → (∀ vs rs Γ' S' H' frs fs', k rs Γ' → vs.length = rs.length → frs.length = rs.length → Wd K (vs.map some ++ σ) (rs ++ Γ') S' H' (frs ++ fs') → Step S H fs.flatten S' H' (frs ++ fs').flatten → Q vs H') → ta σ H Q
structure Out where
  nx : List Sl → Prop
  rt : Sl → List Sl → Prop
  bk : List Sl → Prop := fun _ => False
  ct : List Sl → Prop := fun _ => False
def EndN (K : Frag) (S H : Hp) (F : List Addr) (o : List Sl → Prop) (q : St → Hp → Prop) : Prop := ∀ σ' Γ' S' H' fs', o Γ' → Wd K σ' Γ' S' H' fs' → Step S H F S' H' fs'.flatten → q σ' H'
def EndR (K : Frag) (S H : Hp) (F : List Addr) (o : Sl → List Sl → Prop) (q : VK) : Prop := ∀ v r σ' Γ' S' H' fr fs', o r Γ' → Wd K (some v :: σ') (r :: Γ') S' H' (fr :: fs') → Step S H F S' H' (fr :: fs').flatten → q v H'
structure EndsOk (K : Frag) (S H : Hp) (F : List Addr) (O : Out) (D : Ends) : Prop where
  nx : EndN K S H F O.nx D.nx
  rt : EndR K S H F O.rt D.rt
  bk : EndN K S H F O.bk D.bk
  ct : EndN K S H F O.ct D.ct
def ExS (K : Frag) (t : TS) (Γ : List Sl) (O : Out) : Prop := ∀ σ S H fs D, Wd K σ Γ S H fs → EndsOk K S H fs.flatten O D → t D σ H
theorem EndN.step {K : Frag} {S H S1 H1 : Hp} {F F1 : List Addr} {o : List Sl → Prop} {q : St → Hp → Prop} (e : EndN K S H F o q) (s : Step S H F S1 H1 F1) : EndN K S1 H1 F1 o q := fun σ' Γ' S' H' fs' h w s' => e σ' Γ' S' H' fs' h w (s.trans s')
theorem EndR.step {K : Frag} {S H S1 H1 : Hp} {F F1 : List Addr} {o : Sl → List Sl → Prop} {q : VK} (e : EndR K S H F o q) (s : Step S H F S1 H1 F1) : EndR K S1 H1 F1 o q := fun v r σ' Γ' S' H' fr fs' h w s' => e v r σ' Γ' S' H' fr fs' h w (s.trans s')
theorem EndsOk.step {K : Frag} {S H S1 H1 : Hp} {F F1 : List Addr} {O : Out} {D : Ends} (e : EndsOk K S H F O D) (s : Step S H F S1 H1 F1) : EndsOk K S1 H1 F1 O D := ⟨e.nx.step s, e.rt.step s, e.bk.step s, e.ct.step s⟩
end Dl
namespace Dl
open PySem L2
variable {K : Frag} {Γ : List Sl} {k : Sl → List Sl → Prop}
theorem SatL.get {S H : Hp} : ∀ {xs : List (Option V)} {ss : List Sl} {fs : List (List Addr)} {i : Nat} {s : Sl}, SatL K S H xs ss fs → ss[i]? = some s → ∃ x fp, xs[i]? = some x ∧ fs[i]? = some fp ∧ SlOk K S H x fp s
  | _, _, _, 0, _, .cons a _, h => by
    simp only [List.getElem?_cons_zero, Option.some.injEq] at h
    subst h
    exact ⟨_, _, rfl, rfl, a⟩
  | _, _, _, i + 1, _, .cons _ b, h => by
    simp only [List.getElem?_cons_succ] at h
    obtain ⟨x, fp, h1, h2, h3⟩ := SatL.get b h
    exact ⟨x, fp, by simpa using h1, by simpa using h2, h3⟩
  | _, _, _, _, _, .nil, h => by simp at h
theorem SatL.set {S H : Hp} : ∀ {xs : List (Option V)} {ss : List Sl} {fs : List (List Addr)} {x : Option V} {s : Sl} {fp : List Addr} (i : Nat), SatL K S H xs ss fs → SlOk K S H x fp s → SatL K S H (xs.set i x) (ss.set i s) (fs.set i fp)
  | _, _, _, _, _, _, _, .nil, _ => .nil
  | _, _, _, _, _, _, 0, .cons _ b, h => .cons h b
  | _, _, _, _, _, _, i + 1, .cons a b, h => .cons a (SatL.set i b h)
theorem flat_set : ∀ (fs : List (List Addr)) (i : Nat) (fp : List Addr), (fs.set i []).flatten.Sublist fs.flatten
  | [], _, _ => by simp
  | f :: fs, 0, _ => by simp
  | f :: fs, i + 1, fp => by
    simp only [List.set_cons_succ, List.flatten_cons]
    exact List.Sublist.append (List.Sublist.refl _) (flat_set fs i fp)
theorem flat_take : ∀ (fs : List (List Addr)) (i : Nat) (fp : List Addr), fs[i]? = some fp → fs.flatten.Perm (fp ++ (fs.set i []).flatten)
  | f :: fs, 0, fp, h => by
    simp only [List.getElem?_cons_zero, Option.some.injEq] at h
    subst h
    simp
  | f :: fs, i + 1, fp, h => by
    simp only [List.getElem?_cons_succ] at h
    simp only [List.set_cons_succ, List.flatten_cons]
    have := flat_take fs i fp h
    refine (this.append_left f).trans ?_
    rw [← List.append_assoc, ← List.append_assoc]
    exact (List.perm_append_comm).append_right _
  | [], _, _, h => by simp at h
theorem flat_put : ∀ (fs : List (List Addr)) (i : Nat) (fp : List Addr), fs[i]? = some [] → (fs.set i fp).flatten.Perm (fp ++ fs.flatten)
  | f :: fs, 0, fp, h => by
    simp only [List.getElem?_cons_zero, Option.some.injEq] at h
    subst h
    simp
  | f :: fs, i + 1, fp, h => by
    simp only [List.getElem?_cons_succ] at h
    simp only [List.set_cons_succ, List.flatten_cons]
    have := flat_put fs i fp h
    refine (this.append_left f).trans ?_
    rw [← List.append_assoc, ← List.append_assoc]
    exact (List.perm_append_comm).append_right _
  | [], _, _, h => by simp at h
theorem Wd.put {σ : List (Option V)} {S H : Hp} {fs : List (List Addr)} {v : V} {r : Sl} (w : Wd K σ Γ S H fs) (h : SlOk K S H (some v) [] r) : Wd K (some v :: σ) (r :: Γ) S H ([] :: fs) :=
  ⟨by simpa using w.good, .cons h w.sat⟩
theorem Post.dat {σ : List (Option V)} {S H : Hp} {fs : List (List Addr)} {d : PyData} {v : V} {Q : VK} (P : Post K σ S H fs.flatten k Q) (w : Wd K σ Γ S H fs) (hk : k (.dat d) Γ) (h : Dd K S v d) : Q v H :=
  P v (.dat d) Γ S H [] fs hk (w.put ⟨rfl, v, rfl, h⟩) (by simpa using Step.refl)
theorem Post.raw {σ : List (Option V)} {S H : Hp} {fs : List (List Addr)} {v : V} {Q : VK} (P : Post K σ S H fs.flatten k Q) (w : Wd K σ Γ S H fs) (hk : k (.raw v) Γ) : Q v H :=
  P v (.raw v) Γ S H [] fs hk (w.put ⟨rfl, rfl⟩) (by simpa using Step.refl)
theorem e_dat {i : Nat} {d : PyData} (h : Γ[i]? = some (.dat d)) (hk : k (.dat d) Γ) : EvP K (tVar i) Γ k := by
  intro σ S H fs Q w P
  obtain ⟨x, fp, h1, h2, _, v, rfl, h3⟩ := w.sat.get h
  exact ⟨v, h1, P.dat w hk h3⟩
theorem e_raw {i : Nat} {v : V} (h : Γ[i]? = some (.raw v)) (hk : k (.raw v) Γ) : EvP K (tVar i) Γ k := by
  intro σ S H fs Q w P
  obtain ⟨x, fp, h1, h2, _, rfl⟩ := w.sat.get h
  exact ⟨v, h1, P.raw w hk⟩
theorem e_res {i : Nat} {r : Res} (h : Γ[i]? = some (.res r)) (hk : k (.raw r.v) Γ) : EvP K (tVar i) Γ k := by
  intro σ S H fs Q w P
  obtain ⟨x, fp, h1, h2, rfl, h3⟩ := w.sat.get h
  exact ⟨r.v, h1, P.raw w hk⟩
theorem e_move {i : Nat} {r : Res} (h : Γ[i]? = some (.res r)) (hk : k (.res r) (Γ.set i .no)) : EvP K (tVar i) Γ k := by
  intro σ S H fs Q w P
  obtain ⟨x, fp, h1, h2, rfl, h3⟩ := w.sat.get h
  have pm := flat_take fs i fp h2
  have gs : SatL K S H σ (Γ.set i .no) (fs.set i []) := by
    have q := w.sat.set (x := some r.v) (s := .no) (fp := []) i rfl
    have e : σ.set i (some r.v) = σ := by
      apply List.ext_getElem?
      intro j
      by_cases hj : i = j
      · subst hj
        rw [List.getElem?_set_self (List.getElem?_eq_some_iff.mp h1).1, h1]
      · rw [List.getElem?_set_ne hj]
    rwa [e] at q
  refine ⟨r.v, h1, P r.v (.res r) _ S H fp (fs.set i []) hk ⟨w.good.perm (by simpa using pm), .cons ⟨rfl, h3⟩ gs⟩ ?_⟩
  exact Step.refl.sub fun a ha => pm.mem_iff.mpr (by simpa using ha)
theorem e_int {i : Int} (hk : k (.dat (.int i)) Γ) : EvP K (tC (.int i)) Γ k := fun _ _ _ _ _ w P => P.dat w hk (.int i)
theorem e_str {i : Str} (hk : k (.dat (.str i)) Γ) : EvP K (tC (.str i)) Γ k := fun _ _ _ _ _ w P => P.dat w hk (.str i)
theorem e_bl {i : Bool} (hk : k (.dat (.bool i)) Γ) : EvP K (tC (.bl i)) Γ k := fun _ _ _ _ _ w P => P.dat w hk (.bl i)
theorem e_non (hk : k (.dat .none) Γ) : EvP K (tC .non) Γ k := fun _ _ _ _ _ w P => P.dat w hk .non
theorem e_c {v : V} (hk : k (.raw v) Γ) : EvP K (tC v) Γ k := fun _ _ _ _ _ w P => P.raw w hk
def OpK (K : Frag) (r : R2) (s1 s2 : Sl) (Γ : List Sl) (k : Sl → List Sl → Prop) : Prop :=
  ∀ σ S H f1 f2 fs x y Q, Wd K (some x :: some y :: σ) (s1 :: s2 :: Γ) S H (f1 :: f2 :: fs) → Post K σ S H (f1 :: f2 :: fs).flatten k Q → r x y H Q
theorem Post.trans {σ : List (Option V)} {S H S1 H1 : Hp} {F F1 : List Addr} {Q : VK} (P : Post K σ S H F k Q) (s : Step S H F S1 H1 F1) : Post K σ S1 H1 F1 k Q :=
  fun v r Γ' S' H' fr fs' hk w s' => P v r Γ' S' H' fr fs' hk w (s.trans s')
theorem e_op {r : R2} {ta tb : TE} (h : EvP K ta Γ fun s1 Γ1 => EvP K tb Γ1 fun s2 Γ2 => OpK K r s1 s2 Γ2 k) : EvP K (tOp r ta tb) Γ k := by
  intro σ S H fs Q w P
  refine h σ S H fs _ w fun v r1 Γ1 S1 H1 f1 fs1 hb w1 st1 => ?_
  refine hb σ S1 H1 fs1 _ w1.tl fun u r2 Γ2 S2 H2 f2 fs2 ho w2 st2 => ?_
  obtain ⟨w3, st3⟩ := frame (ts := [some v]) (Θ := [r1]) (ft := [f1]) rfl rfl w1 w2 st2
  exact ho σ S2 H2 f1 f2 fs2 v u Q w3 (P.trans (st1.trans st3))
theorem Post.drop2 {σ : List (Option V)} {S H : Hp} {f1 f2 : List Addr} {fs : List (List Addr)} {Q : VK} (P : Post K σ S H (f1 :: f2 :: fs).flatten k Q) : Post K σ S H fs.flatten k Q :=
  P.trans (Step.refl.sub fun a ha => by simp only [List.flatten_cons]; exact List.mem_append_right _ (List.mem_append_right _ ha))
theorem op_pure {r : R2} {d1 d2 d : PyData} (hr : ∀ S H x y Q, Le S H → Dd K S x d1 → Dd K S y d2 → (∀ v, Dd K S v d → Q v H) → r x y H Q) (hk : k (.dat d) Γ) : OpK K r (.dat d1) (.dat d2) Γ k := by
  intro σ S H f1 f2 fs x y Q w P
  obtain ⟨_, x', e1, h1⟩ := w.hd
  obtain ⟨_, y', e2, h2⟩ := w.tl.hd
  cases e1; cases e2
  exact hr S H x y Q w.good.sub h1 h2 fun v hv => (Post.drop2 P).dat w.tl.tl hk hv
theorem op_I0 {g : Int → Int → V} {i j : Int} {d : PyData} (hd : ∀ S, Dd K S (g i j) d) (hk : k (.dat d) Γ) : OpK K (rI0 g) (.dat (.int i)) (.dat (.int j)) Γ k :=
  op_pure (fun S H x y Q _ h1 h2 q => by cases h1; cases h2; exact ⟨i, j, rfl, rfl, q _ (hd S)⟩) hk
theorem op_I {C : Int → Int → Prop} {g : Int → Int → V} {i j : Int} {d : PyData} (hc : C i j) (hd : ∀ S, Dd K S (g i j) d) (hk : k (.dat d) Γ) : OpK K (rI C g) (.dat (.int i)) (.dat (.int j)) Γ k :=
  op_pure (fun S H x y Q _ h1 h2 q => by cases h1; cases h2; exact ⟨i, j, rfl, rfl, hc, q _ (hd S)⟩) hk
theorem op_or_l {r r' : R2} {s1 s2 : Sl} (h : OpK K r s1 s2 Γ k) : OpK K (fun x y H Q => r x y H Q ∨ r' x y H Q) s1 s2 Γ k := fun σ S H f1 f2 fs x y Q w P => .inl (h σ S H f1 f2 fs x y Q w P)
theorem op_or_r {r r' : R2} {s1 s2 : Sl} (h : OpK K r' s1 s2 Γ k) : OpK K (fun x y H Q => r x y H Q ∨ r' x y H Q) s1 s2 Γ k := fun σ S H f1 f2 fs x y Q w P => .inr (h σ S H f1 f2 fs x y Q w P)
theorem op_eqD' {d e : PyData} (h1 : SeqAt.shaped d = true) (h2 : SeqAt.shaped e = true) (hk : k (.dat (.bool (PyData.eqv d e))) Γ) : OpK K (rEqD K) (.dat d) (.dat e) Γ k :=
  op_pure (fun S H x y Q l a b q => ⟨d, e, (l.dp a).dp, (l.dp b).dp, h1, h2, q _ (.bl _)⟩) hk
theorem op_neD' {d e : PyData} (h1 : SeqAt.shaped d = true) (h2 : SeqAt.shaped e = true) (hk : k (.dat (.bool (!PyData.eqv d e))) Γ) : OpK K (rNeD K) (.dat d) (.dat e) Γ k :=
  op_pure (fun S H x y Q l a b q => ⟨d, e, (l.dp a).dp, (l.dp b).dp, h1, h2, q _ (.bl _)⟩) hk
theorem b_test {te : TE} {kb : Bool → List Sl → Prop} (h : EvP K te Γ fun r Γ1 => ∃ b, r = .dat (.bool b) ∧ kb b Γ1) : EvB K (tTest te) Γ kb := by
  intro σ S H fs Q w P
  refine h σ S H fs _ w fun v r Γ1 S1 H1 f1 fs1 hb w1 st1 => ?_
  obtain ⟨b, rfl, hk⟩ := hb
  obtain ⟨e, v', e1, h1⟩ := w1.hd
  cases e1; cases h1
  exact ⟨b, rfl, P b Γ1 S1 H1 fs1 hk w1.tl (st1.sub fun a ha => List.mem_append_right _ ha)⟩
theorem b_B {te : TE} {kb : Bool → List Sl → Prop} (h : EvP K te Γ fun r Γ1 => ∃ b, r = .dat (.bool b) ∧ kb b Γ1) : EvB K (tB te) Γ kb := b_test h
def truD : PyData → Option Bool
  | .none => some false
  | .bool b => some b
  | .int i => some (i != 0)
  | .str y => if y.length ≤ sizeLine then some ((y.length : Int) != 0) else Option.none
  | .list xs => some (!xs.isEmpty)
  | .tuple xs => some (!xs.isEmpty)
  | .dict _ => Option.none
theorem dps_len {S : Hp} : ∀ {vs : List V} {ds : List PyData}, DdAll K S vs ds → vs.length = ds.length
  | _, _, .nil => rfl
  | _, _, .cons _ h => by simp [dps_len h]
theorem dps_empty {S : Hp} {vs : List V} {ds : List PyData} (h : DdAll K S vs ds) : vs.isEmpty = ds.isEmpty := by cases h <;> rfl
theorem tru_dat {S H : Hp} {v : V} {d : PyData} {b : Bool} (l : Le S H) (h : Dd K S v d) (e : truD d = some b) : TruV K v H b := by
  cases h with
  | non => exact (Option.some.inj e).symm
  | bl b => exact (Option.some.inj e).symm
  | int i => exact (Option.some.inj e).symm
  | str x =>
    have e' : (if x.length ≤ sizeLine then some ((x.length : Int) != 0) else Option.none) = some b := e
    by_cases hx : x.length ≤ sizeLine
    · rw [if_pos hx] at e'
      exact ⟨hx, (Option.some.inj e').symm⟩
    · rw [if_neg hx] at e'
      cases e'
  | lst h hs => exact .inl ⟨_, .inl (l.rd h), by rw [dps_empty hs]; exact (Option.some.inj e).symm⟩
  | tup h hs => exact .inr (.inl ⟨_, l.sqT h, by rw [dps_empty hs]; exact (Option.some.inj e).symm⟩)
def tTru' (K : Frag) (te : TE) : TT := fun σ H Q => te σ H fun x H' => ∃ k, TruV K x H' k ∧ Q k H'
theorem b_tru {te : TE} {kb : Bool → List Sl → Prop} (h : EvP K te Γ fun r Γ1 => ∃ d b, r = .dat d ∧ truD d = some b ∧ kb b Γ1) : EvB K (tTru' K te) Γ kb := by
  intro σ S H fs Q w P
  refine h σ S H fs _ w fun v r Γ1 S1 H1 f1 fs1 hb w1 st1 => ?_
  obtain ⟨d, b, rfl, e, hk⟩ := hb
  obtain ⟨e0, v', e1, h1⟩ := w1.hd
  cases e1
  exact ⟨b, tru_dat w1.good.sub h1 e, P b Γ1 S1 H1 fs1 hk w1.tl (st1.sub fun a ha => List.mem_append_right _ ha)⟩
theorem b_not {tt : TT} {kb : Bool → List Sl → Prop} (h : EvB K tt Γ fun b Γ1 => kb (!b) Γ1) : EvB K (tNot tt) Γ kb := fun σ S H fs Q w P =>
  h σ S H fs _ w fun b Γ1 S1 H1 fs1 hk w1 st1 => P (!b) Γ1 S1 H1 fs1 hk w1 st1
theorem b_and {t u : TT} {kb : Bool → List Sl → Prop} (h : EvB K t Γ fun b Γ1 => (b = true → EvB K u Γ1 kb) ∧ (b = false → kb false Γ1)) : EvB K (tAnd t u) Γ kb := fun σ S H fs Q w P =>
  h σ S H fs _ w fun b Γ1 S1 H1 fs1 hk w1 st1 => by
    cases b with
    | true => exact hk.1 rfl σ S1 H1 fs1 Q w1 fun b' Γ2 S2 H2 fs2 hk2 w2 st2 => P b' Γ2 S2 H2 fs2 hk2 w2 (st1.trans st2)
    | false => exact P false Γ1 S1 H1 fs1 (hk.2 rfl) w1 st1
theorem b_or {t u : TT} {kb : Bool → List Sl → Prop} (h : EvB K t Γ fun b Γ1 => (b = false → EvB K u Γ1 kb) ∧ (b = true → kb true Γ1)) : EvB K (tOr t u) Γ kb := fun σ S H fs Q w P =>
  h σ S H fs _ w fun b Γ1 S1 H1 fs1 hk w1 st1 => by
    cases b with
    | false => exact hk.1 rfl σ S1 H1 fs1 Q w1 fun b' Γ2 S2 H2 fs2 hk2 w2 st2 => P b' Γ2 S2 H2 fs2 hk2 w2 (st1.trans st2)
    | true => exact P true Γ1 S1 H1 fs1 (hk.2 rfl) w1 st1
theorem e_if {tt : TT} {ta tb : TE} (h : EvB K tt Γ fun b Γ1 => (b = true → EvP K ta Γ1 k) ∧ (b = false → EvP K tb Γ1 k)) : EvP K (tIf tt ta tb) Γ k := fun σ S H fs Q w P =>
  h σ S H fs _ w fun b Γ1 S1 H1 fs1 hk w1 st1 => by
    cases b with
    | true => exact hk.1 rfl σ S1 H1 fs1 Q w1 (P.trans st1)
    | false => exact hk.2 rfl σ S1 H1 fs1 Q w1 (P.trans st1)
theorem e_andV {ta tb : TE} (h : EvP K ta Γ fun r Γ1 => ∃ b, r = .dat (.bool b) ∧ (b = true → EvP K tb Γ1 k) ∧ (b = false → k (.dat (.bool false)) Γ1)) : EvP K (tAndV ta tb) Γ k := by
  intro σ S H fs Q w P
  refine h σ S H fs _ w fun v r Γ1 S1 H1 f1 fs1 hb w1 st1 => ?_
  obtain ⟨b, rfl, hk1, hk2⟩ := hb
  obtain ⟨e, v', e1, h1⟩ := w1.hd
  cases e1; cases h1
  have st2 := st1.sub (F'' := fs1.flatten) fun a ha => List.mem_append_right _ ha
  refine ⟨b, rfl, ?_⟩
  cases b with
  | true => exact hk1 rfl σ S1 H1 fs1 Q w1.tl (P.trans st2)
  | false => exact (P.trans st2).dat w1.tl (hk2 rfl) (.bl false)
theorem e_orV {ta tb : TE} (h : EvP K ta Γ fun r Γ1 => ∃ b, r = .dat (.bool b) ∧ (b = false → EvP K tb Γ1 k) ∧ (b = true → k (.dat (.bool true)) Γ1)) : EvP K (tOrV ta tb) Γ k := by
  intro σ S H fs Q w P
  refine h σ S H fs _ w fun v r Γ1 S1 H1 f1 fs1 hb w1 st1 => ?_
  obtain ⟨b, rfl, hk1, hk2⟩ := hb
  obtain ⟨e, v', e1, h1⟩ := w1.hd
  cases e1; cases h1
  have st2 := st1.sub (F'' := fs1.flatten) fun a ha => List.mem_append_right _ ha
  refine ⟨b, rfl, ?_⟩
  cases b with
  | false => exact hk1 rfl σ S1 H1 fs1 Q w1.tl (P.trans st2)
  | true => exact (P.trans st2).dat w1.tl (hk2 rfl) (.bl true)
theorem e_notV {ta : TE} (h : EvP K ta Γ fun r Γ1 => ∃ b, r = .dat (.bool b) ∧ k (.dat (.bool (!b))) Γ1) : EvP K (tNotV ta) Γ k := by
  intro σ S H fs Q w P
  refine h σ S H fs _ w fun v r Γ1 S1 H1 f1 fs1 hb w1 st1 => ?_
  obtain ⟨b, rfl, hk⟩ := hb
  obtain ⟨e, v', e1, h1⟩ := w1.hd
  cases e1; cases h1
  have st2 := st1.sub (F'' := fs1.flatten) fun a ha => List.mem_append_right _ ha
  exact ⟨b, rfl, (P.trans st2).dat w1.tl hk (.bl _)⟩
theorem e_chain {r r' : R2} {ta tb tc : TE} (h : EvP K ta Γ fun s1 Γ1 => EvP K tb Γ1 fun s2 Γ2 => ∃ d1 d2, s1 = .dat d1 ∧ s2 = .dat d2 ∧ OpK K r (.dat d1) (.dat d2) Γ2 fun s3 Γ3 => ∃ b, s3 = .dat (.bool b) ∧ (b = true → EvP K tc Γ3 fun s4 Γ4 => OpK K r' (.dat d2) s4 Γ4 k) ∧ (b = false → k (.dat (.bool false)) Γ3)) :
    EvP K (tChain r r' ta tb tc) Γ k := by
  intro σ S H fs Q w P
  refine h σ S H fs _ w fun v r1 Γ1 S1 H1 f1 fs1 hb w1 st1 => ?_
  refine hb σ S1 H1 fs1 _ w1.tl fun u r2 Γ2 S2 H2 f2 fs2 ho w2 st2 => ?_
  obtain ⟨d1, d2, rfl, rfl, ho⟩ := ho
  obtain ⟨w3, st3⟩ := frame (ts := [some v]) (Θ := [.dat d1]) (ft := [f1]) rfl rfl w1 w2 st2
  obtain ⟨_, u', e2, hu⟩ := w2.hd
  cases e2
  refine ho σ S2 H2 f1 f2 fs2 v u _ w3 fun z r3 Γ3 S3 H3 f3 fs3 hb3 w4 st4 => ?_
  obtain ⟨b, rfl, hk1, hk2⟩ := hb3
  obtain ⟨_, z', e3, hz⟩ := w4.hd
  cases e3; cases hz
  have stA := (st1.trans st3).trans st4
  have st5 := stA.sub (F'' := fs3.flatten) fun a ha => List.mem_append_right _ ha
  refine ⟨b, rfl, ?_⟩
  cases b with
  | true =>
    refine hk1 rfl σ S3 H3 fs3 _ w4.tl fun t r4 Γ4 S4 H4 f4 fs4 ho4 w5 st6 => ?_
    have l := st4.le.trans st6.le
    have w6 : Wd K (some u :: some t :: σ) (.dat d2 :: r4 :: Γ4) S4 H4 ([] :: f4 :: fs4) := w5.put ⟨rfl, u, rfl, l.dp hu⟩
    exact ho4 σ S4 H4 [] f4 fs4 u t Q w6 (P.trans ((st5.trans st6).sub fun a ha => by simpa using ha))
  | false => exact (P.trans st5).dat w4.tl (hk2 rfl) (.bl false)
theorem a_nil {ka : List Sl → List Sl → Prop} (hk : ka [] Γ) : EvA K tNil Γ ka := fun σ S H fs Q w P => P [] [] Γ S H [] fs hk rfl rfl w Step.refl
theorem a_cons {te : TE} {ta : TA} {ka : List Sl → List Sl → Prop} (h : EvP K te Γ fun s Γ1 => EvA K ta Γ1 fun ss Γ2 => ka (s :: ss) Γ2) : EvA K (tCons te ta) Γ ka := by
  intro σ S H fs Q w P
  refine h σ S H fs _ w fun v r1 Γ1 S1 H1 f1 fs1 hb w1 st1 => ?_
  refine hb σ S1 H1 fs1 _ w1.tl fun vs rs Γ2 S2 H2 frs fs2 hk l1 l2 w2 st2 => ?_
  obtain ⟨w3, st3⟩ := frame (ts := [some v]) (Θ := [r1]) (ft := [f1]) rfl rfl w1 w2 st2
  exact P (v :: vs) (r1 :: rs) Γ2 S2 H2 (f1 :: frs) fs2 hk (by simp [l1]) (by simp [l2]) w3 (st1.trans st3)
theorem sat_dats {S H : Hp} : ∀ {ds : List PyData} {vs : List V} {frs : List (List Addr)}, SatL K S H (vs.map some) (ds.map .dat) frs → DdAll K S vs ds ∧ frs.flatten = []
  | [], [], [], _ => ⟨.nil, rfl⟩
  | d :: ds, v :: vs, f :: frs, h => by
    cases h with
    | cons a b =>
      obtain ⟨e, v', e1, h1⟩ := a
      cases e1
      obtain ⟨h2, h3⟩ := sat_dats b
      exact ⟨.cons h1 h2, by simp [e, h3]⟩
  | [], _ :: _, _, h => by cases h
  | _ :: _, [], _, h => by cases h
  | [], [], _ :: _, h => by cases h
  | _ :: _, _ :: _, [], h => by cases h
theorem alloc {σ : List (Option V)} {S H : Hp} {fs : List (List Addr)} {p : Addr} (o : HO) (w : Wd K σ Γ S H fs) (hp : H p = none) : Wd K σ Γ (upd S p o) (upd H p o) fs ∧ Step S H fs.flatten (upd S p o) (upd H p o) fs.flatten := by
  have nS : S p = none := w.good.sub.none hp
  have le : Le S (upd S p o) := fun a u e => by rw [upd_ne (ne_of_none e nS)]; exact e
  have leH : Le H (upd H p o) := fun a u e => by rw [upd_ne (ne_of_none e hp)]; exact e
  have nF : ∀ a ∈ fs.flatten, a ≠ p := fun a ha e => w.good.al a ha (by rw [e]; exact hp)
  refine ⟨⟨⟨fun a u e => ?_, w.good.nd, fun a ha => ?_, fun a ha => ?_⟩, w.sat.step le fun a ha => upd_ne (nF a ha)⟩, le, fun a u e _ => leH a u e, fun a e => ?_, fun a ha => .inr ha, fun a e => ?_⟩
  · by_cases q : a = p
    · subst q
      rw [upd_same] at e ⊢
      exact e
    · rw [upd_ne q] at e ⊢
      exact w.good.sub a u e
  · rw [upd_ne (nF a ha)]
    exact w.good.dis a ha
  · rw [upd_ne (nF a ha)]
    exact w.good.al a ha
  · by_cases q : a = p
    · subst q
      exact .inr (.inl hp)
    · rw [upd_ne q] at e
      exact .inl e
  · by_cases q : a = p
    · subst q
      rw [upd_same]
      simp
    · rw [upd_ne q]
      exact e
theorem Post.new {σ : List (Option V)} {S H : Hp} {fs : List (List Addr)} {d : PyData} {p : Addr} {o : HO} {Q : VK} (P : Post K σ S H fs.flatten k Q) (w : Wd K σ Γ S H fs) (hk : k (.dat d) Γ) (hp : H p = none) (h : Dd K (upd S p o) (.ref p) d) : Q (.ref p) (upd H p o) := by
  obtain ⟨w1, st⟩ := alloc o w hp
  exact (P.trans st).dat w1 hk h
theorem dp_tup_new {S : Hp} {p : Addr} {vs : List V} {ds : List PyData} (nS : S p = none) (h : DdAll K S vs ds) : Dd K (upd S p (.tup vs)) (.ref p) (.tuple ds) :=
  .tup (SqT.of upd_same) (Le.dps (fun a u e => by rw [upd_ne (ne_of_none e nS)]; exact e) h)
theorem dp_lst_new {S : Hp} {p : Addr} {vs : List V} {ds : List PyData} (nS : S p = none) (h : DdAll K S vs ds) : Dd K (upd S p (.lst vs)) (.ref p) (.list ds) :=
  .lst (.inl upd_same) (Le.dps (fun a u e => by rw [upd_ne (ne_of_none e nS)]; exact e) h)
theorem e_tup {ta : TA} (h : EvA K ta Γ fun rs Γ1 => ∃ ds : List PyData, rs = ds.map .dat ∧ ds.length ≤ sizeLine ∧ k (.dat (.tuple ds)) Γ1) : EvP K (tTup ta) Γ k := by
  intro σ S H fs Q w P
  refine h σ S H fs _ w fun vs rs Γ1 S1 H1 frs fs1 hb l1 l2 w1 st1 => ?_
  obtain ⟨ds, rfl, hz, hk⟩ := hb
  obtain ⟨s1, s2⟩ := w1.sat.split (by simpa using l1) l2
  obtain ⟨hd, hf⟩ := sat_dats s1
  have w2 : Wd K σ Γ1 S1 H1 fs1 := Wd.tail (by simpa using l1) l2 w1
  refine ⟨by rw [dps_len hd]; exact hz, fun p hp => ?_⟩
  exact (P.trans (st1.sub (F'' := fs1.flatten) fun a ha => by simp [hf]; simpa using ha)).new w2 hk hp (dp_tup_new (w2.good.sub.none hp) hd)
theorem e_lst {ta : TA} (h : EvA K ta Γ fun rs Γ1 => ∃ ds : List PyData, rs = ds.map .dat ∧ ds.length ≤ sizeLine ∧ k (.dat (.list ds)) Γ1) : EvP K (tLst ta) Γ k := by
  intro σ S H fs Q w P
  refine h σ S H fs _ w fun vs rs Γ1 S1 H1 frs fs1 hb l1 l2 w1 st1 => ?_
  obtain ⟨ds, rfl, hz, hk⟩ := hb
  obtain ⟨s1, s2⟩ := w1.sat.split (by simpa using l1) l2
  obtain ⟨hd, hf⟩ := sat_dats s1
  have w2 : Wd K σ Γ1 S1 H1 fs1 := Wd.tail (by simpa using l1) l2 w1
  refine ⟨by rw [dps_len hd]; exact hz, fun p hp => ?_⟩
  exact (P.trans (st1.sub (F'' := fs1.flatten) fun a ha => by simp [hf]; simpa using ha)).new w2 hk hp (dp_lst_new (w2.good.sub.none hp) hd)
end Dl
namespace Dl
open PySem L2
variable {K : Frag} {Γ : List Sl} {k : Sl → List Sl → Prop}
abbrev FSpec := List Sl → (Sl → List Sl → Prop) → Prop
def spOf (K : Frag) (F : FSpec) : Sp := fun vs H Q _ => ∃ (args : List Sl) (S : Hp) (fs : List (List Addr)) (k : Sl → List Sl → Prop),
  Wd K (vs.map some) args S H fs ∧ F args k ∧ Post K (vs.map some) S H fs.flatten k Q
inductive Keep : List Sl → List Sl → List Sl → Prop
  | nil {Γ : List Sl} : Keep [] [] Γ
  | dat {d : PyData} {as as' : List Sl} {Γ : List Sl} : Keep as as' (Γ.drop 1) → Keep (.dat d :: as) (.dat d :: as') Γ
  | raw {v : V} {as as' : List Sl} {Γ : List Sl} : Keep as as' (Γ.drop 1) → Keep (.raw v :: as) (.raw v :: as') Γ
  | res {r r' : Res} {as as' : List Sl} {Γ : List Sl} (h : r'.v = r.v) : Keep as as' Γ → Keep (.res r :: as) (.res r' :: as') (.res r' :: Γ)
  | drop {r : Res} {as as' : List Sl} {Γ : List Sl} : Keep as as' (Γ.drop 1) → Keep (.res r :: as) (.no :: as') Γ
  | no {as as' : List Sl} {Γ : List Sl} : Keep as as' (Γ.drop 1) → Keep (.no :: as) (.no :: as') Γ
theorem SatL.drop1 {S H : Hp} {xs : List (Option V)} {ss : List Sl} {fs : List (List Addr)} (h : SatL K S H xs ss fs) : SatL K S H (xs.drop 1) (ss.drop 1) (fs.drop 1) := by
  cases h with
  | nil => exact .nil
  | cons a b => exact b
theorem flat_drop1 (fs : List (List Addr)) : (fs.drop 1).flatten.Sublist fs.flatten := by
  cases fs with
  | nil => exact List.Sublist.refl _
  | cons f fs => simp
theorem Keep.sat {S H S' H' : Hp} (l : Le S S') : ∀ {as as' Γ : List Sl} {xs σ : List (Option V)} {fs gs : List (List Addr)}, Keep as as' Γ → SatL K S H xs as fs → SatL K S' H' σ Γ gs → ∃ fs', SatL K S' H' xs as' fs' ∧ fs'.flatten.Sublist gs.flatten
  | _, _, _, _, _, _, _, .nil, .nil, _ => ⟨[], .nil, by simp⟩
  | _, _, _, _, _, _, gs, .dat h, .cons a b, q => by
    obtain ⟨fs', h1, h2⟩ := Keep.sat l h b q.drop1
    obtain ⟨_, v, e, q⟩ := a
    exact ⟨[] :: fs', .cons ⟨rfl, v, e, l.dp q⟩ h1, by simpa using h2.trans (flat_drop1 gs)⟩
  | _, _, _, _, _, _, gs, .raw h, .cons a b, q => by
    obtain ⟨fs', h1, h2⟩ := Keep.sat l h b q.drop1
    exact ⟨[] :: fs', .cons ⟨rfl, a.2⟩ h1, by simpa using h2.trans (flat_drop1 gs)⟩
  | _, _, _, _, _, _, _, .res e h, .cons a b, .cons (fp := fp) c d => by
    obtain ⟨fs', h1, h2⟩ := Keep.sat l h b d
    exact ⟨fp :: fs', .cons ⟨by rw [a.1, e], c.2⟩ h1, by simpa using h2⟩
  | _, _, _, _, _, _, gs, .drop h, .cons a b, q => by
    obtain ⟨fs', h1, h2⟩ := Keep.sat l h b q.drop1
    exact ⟨[] :: fs', .cons rfl h1, by simpa using h2.trans (flat_drop1 gs)⟩
  | _, _, _, _, _, _, gs, .no h, .cons a b, q => by
    obtain ⟨fs', h1, h2⟩ := Keep.sat l h b q.drop1
    exact ⟨[] :: fs', .cons rfl h1, by simpa using h2.trans (flat_drop1 gs)⟩
theorem keep_dats : ∀ (ds : List PyData) (Γ : List Sl), Keep (ds.map .dat) (ds.map .dat) Γ
  | [], _ => .nil
  | _ :: ds, Γ => .dat (keep_dats ds _)
def fnOut (args : List Sl) (k : Sl → List Sl → Prop) : Out where
  nx := fun Γ' => ∃ as', k (.dat .none) as' ∧ Keep args as' Γ'
  rt := fun r Γ' => ∃ as', k r as' ∧ Keep args as' Γ'
theorem sat_start {S H : Hp} {N : List Str} {vs : List V} {args : List Sl} {fs : List (List Addr)} (h : SatL K S H (vs.map some) args fs) :
    SatL K S H (L2.start N vs) (args ++ List.replicate (N.length - args.length) .no) (fs ++ List.replicate (N.length - args.length) []) := by
  have l := h.lens
  unfold L2.start
  rw [show vs.length = args.length by simpa using l.1]
  refine h.append ?_
  have : ∀ n : Nat, SatL K S H (List.replicate n none) (List.replicate n Sl.no) (List.replicate n []) := fun n => by
    induction n with
    | zero => exact .nil
    | succ n ih => exact .cons rfl ih
  exact this _
theorem flat_nils (n : Nat) : (List.replicate n ([] : List Addr)).flatten = [] := by induction n <;> simp_all [List.replicate_succ]
theorem fn_body {F : FSpec} {t : TS} {N : List Str} {vs : List V} {H : Hp} {Q : VK} {E : XK}
    (hb : ∀ args k, F args k → ExS K t (args ++ List.replicate (N.length - args.length) .no) (fnOut args k)) (h : spOf K F vs H Q E) :
    t { nx := fun _ H' => Q .non H', rt := Q } (L2.start N vs) H := by
  obtain ⟨args, S, fs, k, w, hF, P⟩ := h
  have fl : (fs ++ List.replicate (N.length - args.length) []).flatten = fs.flatten := by rw [List.flatten_append, flat_nils, List.append_nil]
  refine hb args k hF _ S H (fs ++ List.replicate (N.length - args.length) []) _ ⟨by rw [fl]; exact w.good, sat_start w.sat⟩ ?_
  rw [fl]
  refine ⟨fun σ' Γ' S' H' fs' ho w' st => ?_, fun v r σ' Γ' S' H' fr fs' ho w' st => ?_, fun _ _ _ _ _ ho _ _ => ho.elim, fun _ _ _ _ _ ho _ _ => ho.elim⟩
  · obtain ⟨as', hk, kp⟩ := ho
    obtain ⟨gs, h1, h2⟩ := kp.sat st.le w.sat w'.sat
    exact P .non (.dat .none) as' S' H' [] gs hk ⟨by simpa using w'.good.sublist h2, .cons ⟨rfl, .non, rfl, .non⟩ h1⟩ (st.sub fun a ha => h2.subset (by simpa using ha))
  · obtain ⟨as', hk, kp⟩ := ho
    obtain ⟨gs, h1, h2⟩ := kp.sat st.le w.sat w'.tl.sat
    have h3 : (fr :: gs).flatten.Sublist (fr :: fs').flatten := by
      simp only [List.flatten_cons]
      exact (List.Sublist.refl _).append h2
    exact P v r as' S' H' fr gs hk ⟨w'.good.sublist h3, .cons w'.hd h1⟩ (st.sub fun a ha => h3.subset ha)
theorem sp_len {F : FSpec} {n : Nat} (hn : ∀ args k, F args k → args.length = n) {vs : List V} {H : Hp} {Q : VK} {E : XK} (h : spOf K F vs H Q E) : vs.length = n := by
  obtain ⟨args, S, fs, k, w, hF, P⟩ := h
  rw [← hn args k hF]
  simpa using w.sat.lens.1
theorem Wd.swap {a b : List (Option V)} {A B : List Sl} {S H : Hp} {fa fb : List (List Addr)} (l1 : a.length = A.length) (l2 : fa.length = A.length) (w : Wd K (a ++ b) (A ++ B) S H (fa ++ fb)) : Wd K (b ++ a) (B ++ A) S H (fb ++ fa) := by
  obtain ⟨s1, s2⟩ := w.sat.split l1 l2
  refine ⟨w.good.perm ?_, s2.append s1⟩
  rw [List.flatten_append, List.flatten_append]
  exact List.perm_append_comm
theorem e_call {F : FSpec} {ta : TA} {E : XK} (h : EvA K ta Γ fun rs Γ1 => F rs fun r as' => k r Γ1) : EvP K (tCall (spOf K F) [] E ta) Γ k := by
  intro σ S H fs Q w P
  refine h σ S H fs _ w fun vs rs Γ1 S1 H1 frs fs1 hF l1 l2 w1 st1 => ?_
  rw [List.append_nil]
  have lv : (vs.map some).length = rs.length := by simpa using l1
  have wA : Wd K (vs.map some) rs S1 H1 frs := by
    have q := w1.swap lv l2
    have l3 := w1.sat.split lv l2
    exact Wd.tail (l3.2.lens.1) (l3.2.lens.2) q
  refine ⟨rs, S1, frs, _, wA, hF, fun v r as' S2 H2 fr fs2 hk w2 st2 => ?_⟩
  have l3 := w1.sat.split lv l2
  obtain ⟨w3, st3⟩ := frame l3.2.lens.1 l3.2.lens.2 (w1.swap lv l2) w2 st2
  have w4 : Wd K (σ ++ [some v]) (Γ1 ++ [r]) S2 H2 (fs1 ++ [fr]) := by
    have q : Wd K ((σ ++ [some v]) ++ vs.map some) ((Γ1 ++ [r]) ++ as') S2 H2 ((fs1 ++ [fr]) ++ fs2) := by simpa using w3
    have q2 := q.swap (by simp [l3.2.lens.1]) (by simp [l3.2.lens.2])
    have q3 := w2.tl.sat.lens
    exact Wd.tail q3.1 q3.2 q2
  have w5 : Wd K (some v :: σ) (r :: Γ1) S2 H2 (fr :: fs1) := by simpa using w4.swap l3.2.lens.1 l3.2.lens.2
  refine P v r Γ1 S2 H2 fr fs1 hk w5 ?_
  have e1 : ∀ a, a ∈ (fs1 ++ frs).flatten → a ∈ (frs ++ fs1).flatten := fun a ha => by
    rw [List.flatten_append] at ha ⊢
    exact (List.mem_append.mp ha).elim (List.mem_append_right _) (List.mem_append_left _)
  exact st1.trans ((st3.weak e1).sub fun a ha => by
    simp only [List.flatten_cons, List.flatten_append, List.mem_append] at ha ⊢
    exact ha.elim (fun q => .inr (.inl q)) .inl)
theorem lend {ts σ : List (Option V)} {Θ : List Sl} {S H : Hp} {ft fs : List (List Addr)} {i j : Nat} {r : Res} (l1 : ts.length = Θ.length) (l2 : ft.length = Θ.length) (w : Wd K (ts ++ σ) (Θ ++ Γ) S H (ft ++ fs)) (hi : Θ[i]? = some (.raw r.v)) (hj : Γ[j]? = some (.res r)) :
    ∃ fp, Wd K (ts ++ σ) (Θ.set i (.res r) ++ Γ.set j .no) S H (ft.set i fp ++ fs.set j []) ∧ (∀ a, a ∈ (ft.set i fp ++ fs.set j []).flatten ↔ a ∈ (ft ++ fs).flatten) ∧ σ[j]? = some (some r.v) := by
  obtain ⟨s1, s2⟩ := w.sat.split l1 l2
  obtain ⟨x, fp0, hx, hf, e0, rfl⟩ := s1.get hi
  subst e0
  obtain ⟨y, fp, hy, hg, rfl, hp⟩ := s2.get hj
  have p1 := flat_put ft i fp hf
  have p2 := flat_take fs j fp hg
  have pm : (ft.set i fp ++ fs.set j []).flatten.Perm (ft ++ fs).flatten := by
    rw [List.flatten_append, List.flatten_append]
    refine (p1.append_right _).trans ?_
    refine List.Perm.trans ?_ (p2.symm.append_left _)
    rw [← List.append_assoc]
    exact (List.perm_append_comm).append_right _
  refine ⟨fp, ⟨w.good.perm pm.symm, ?_⟩, fun a => pm.mem_iff, hy⟩
  have e1 : ts.set i (some r.v) = ts := by
    apply List.ext_getElem?
    intro n
    by_cases hn : i = n
    · subst hn
      rw [List.getElem?_set_self (List.getElem?_eq_some_iff.mp hx).1, hx]
    · rw [List.getElem?_set_ne hn]
  have e2 : σ.set j (some r.v) = σ := by
    apply List.ext_getElem?
    intro n
    by_cases hn : j = n
    · subst hn
      rw [List.getElem?_set_self (List.getElem?_eq_some_iff.mp hy).1, hy]
    · rw [List.getElem?_set_ne hn]
  have a1 := s1.set (x := some r.v) (s := .res r) (fp := fp) i ⟨rfl, hp⟩
  have a2 := s2.set (x := some r.v) (s := .no) (fp := []) j rfl
  rw [e1] at a1
  rw [e2] at a2
  exact a1.append a2
theorem setSame {α : Type} {l : List α} {i : Nat} {x : α} (h : l[i]? = some x) : l.set i x = l := by
  apply List.ext_getElem?
  intro n
  by_cases hn : i = n
  · subst hn
    rw [List.getElem?_set_self (List.getElem?_eq_some_iff.mp h).1, h]
  · rw [List.getElem?_set_ne hn]
theorem back {ts σ : List (Option V)} {Θ : List Sl} {S H : Hp} {ft fs : List (List Addr)} {i j : Nat} {r : Res} (l1 : ts.length = Θ.length) (l2 : ft.length = Θ.length) (w : Wd K (ts ++ σ) (Θ ++ Γ) S H (ft ++ fs)) (hi : Θ[i]? = some (.res r)) (hj : Γ[j]? = some .no) (hv : σ[j]? = some (some r.v)) :
    ∃ fp, Wd K (ts ++ σ) (Θ.set i .no ++ Γ.set j (.res r)) S H (ft.set i [] ++ fs.set j fp) ∧ (∀ a, a ∈ (ft.set i [] ++ fs.set j fp).flatten ↔ a ∈ (ft ++ fs).flatten) := by
  obtain ⟨s1, s2⟩ := w.sat.split l1 l2
  obtain ⟨x, fp, hx, hf, rfl, hp⟩ := s1.get hi
  obtain ⟨y, fp0, hy, hg, e0⟩ := s2.get hj
  have e0 : fp0 = [] := e0
  subst e0
  have p1 := flat_take ft i fp hf
  have p2 := flat_put fs j fp hg
  have pm : (ft.set i [] ++ fs.set j fp).flatten.Perm (ft ++ fs).flatten := by
    rw [List.flatten_append, List.flatten_append]
    refine (p2.append_left _).trans ?_
    refine List.Perm.trans ?_ (p1.symm.append_right _)
    rw [← List.append_assoc]
    exact (List.perm_append_comm).append_right _
  refine ⟨fp, ⟨w.good.perm pm.symm, ?_⟩, fun a => pm.mem_iff⟩
  have a1 := s1.set (x := some r.v) (s := .no) (fp := []) i rfl
  have a2 := s2.set (x := some r.v) (s := .res r) (fp := fp) j ⟨rfl, hp⟩
  rw [setSame hx] at a1
  rw [setSame hv] at a2
  exact a1.append a2
theorem e_call1 {F : FSpec} {ta : TA} {E : XK} (i j : Nat) (h : EvA K ta Γ fun rs Γ1 => ∃ r : Res, rs[i]? = some (.raw r.v) ∧ Γ1[j]? = some (.res r) ∧ F (rs.set i (.res r)) fun r0 as' => ∃ r' : Res, as'[i]? = some (.res r') ∧ r'.v = r.v ∧ as'.length = rs.length ∧ k r0 (Γ1.set j (.res r'))) :
    EvP K (tCall (spOf K F) [] E ta) Γ k := by
  intro σ S H fs Q w P
  refine h σ S H fs _ w fun vs rs Γ1 S1 H1 frs fs1 hF l1 l2 w1 st1 => ?_
  obtain ⟨r, hi, hj, hF⟩ := hF
  rw [List.append_nil]
  have lv : (vs.map some).length = rs.length := by simpa using l1
  obtain ⟨fp, wl, hm, hσ⟩ := lend lv l2 w1 hi hj
  have lv' : (vs.map some).length = (rs.set i (.res r)).length := by simpa using l1
  have l2' : (frs.set i fp).length = (rs.set i (.res r)).length := by simpa using l2
  have ls := wl.sat.split lv' l2'
  have wsw := wl.swap lv' l2'
  have wA : Wd K (vs.map some) (rs.set i (.res r)) S1 H1 (frs.set i fp) := Wd.tail ls.2.lens.1 ls.2.lens.2 wsw
  refine ⟨_, S1, _, _, wA, hF, fun v r0 as' S2 H2 fr fs2 hk w2 st2 => ?_⟩
  obtain ⟨r', ha, hv, hl, hk⟩ := hk
  obtain ⟨w3, st3⟩ := frame ls.2.lens.1 ls.2.lens.2 wsw w2 st2
  have w4 : Wd K (vs.map some ++ (some v :: σ)) (as' ++ (r0 :: Γ1.set j .no)) S2 H2 (fs2 ++ (fr :: fs1.set j [])) := by
    have q : Wd K ((σ ++ [some v]) ++ vs.map some) ((Γ1.set j .no ++ [r0]) ++ as') S2 H2 ((fs1.set j [] ++ [fr]) ++ fs2) := by simpa using w3
    have q2 := q.swap (by simpa using ls.2.lens.1) (by simpa using ls.2.lens.2)
    have q3 := w2.tl.sat.lens
    have q4 : Wd K (vs.map some ++ (σ ++ [some v])) (as' ++ (Γ1.set j .no ++ [r0])) S2 H2 (fs2 ++ (fs1.set j [] ++ [fr])) := q2
    obtain ⟨g, st⟩ := q4
    obtain ⟨a, b⟩ := st.split q3.1 q3.2
    obtain ⟨c, d⟩ := b.split (xs := σ) (ss := Γ1.set j .no) (fs := fs1.set j []) ls.2.lens.1 ls.2.lens.2
    refine ⟨g.perm ?_, a.append ?_⟩
    · simp only [List.flatten_append, List.flatten_cons, List.flatten_nil, List.append_nil]
      exact List.Perm.append_left _ List.perm_append_comm
    · cases d with
      | cons d1 d2 => exact .cons d1 c
  have q3 := w2.tl.sat.lens
  obtain ⟨fp', w5, hm2⟩ := back (i := i) (j := j + 1) (r := r') q3.1 q3.2 w4 ha (by
      simp only [List.getElem?_cons_succ]
      exact List.getElem?_set_self (List.getElem?_eq_some_iff.mp hj).1) (by simp only [List.getElem?_cons_succ]; rw [hσ, hv])
  simp only [List.set_cons_succ, List.set_set] at w5 hm2
  have w6 := Wd.tail (by simpa using q3.1) (by simpa using q3.2) w5
  refine P v r0 _ S2 H2 fr _ hk w6 ?_
  have e1 : ∀ a, a ∈ (fs1.set j [] ++ frs.set i fp).flatten → a ∈ (frs ++ fs1).flatten := fun a ha => by
    rw [← hm]
    rw [List.flatten_append] at ha ⊢
    exact (List.mem_append.mp ha).elim (List.mem_append_right _) (List.mem_append_left _)
  refine st1.trans ((st3.weak e1).sub fun a ha => ?_)
  have hb : a ∈ (fs2.set i [] ++ (fr :: fs1.set j fp')).flatten := by
    rw [List.flatten_append]
    exact List.mem_append_right _ ha
  have hc := (hm2 a).mp hb
  simp only [List.flatten_cons, List.flatten_append, List.mem_append] at hc ⊢
  rcases hc with q | q | q
  · exact .inr (.inr q)
  · exact .inr (.inl q)
  · exact .inl q
end Dl
namespace Dl
open PySem L2
variable {K : Frag} {Γ : List Sl} {k : Sl → List Sl → Prop} {O : Out}
theorem x_seq {t u : TS} (h : ExS K t Γ { O with nx := fun Γ1 => ExS K u Γ1 O }) : ExS K (tSeq t u) Γ O := fun σ S H fs D w e =>
  h σ S H fs { D with nx := u D } w ⟨fun σ' Γ' S' H' fs' ho w' st => ho σ' S' H' fs' D w' (e.step st), e.rt, e.bk, e.ct⟩
theorem x_next (h : O.nx Γ) : ExS K tNext Γ O := fun σ S H fs D w e => e.nx σ Γ S H fs h w Step.refl
theorem x_break (h : O.bk Γ) : ExS K tBreak Γ O := fun σ S H fs D w e => e.bk σ Γ S H fs h w Step.refl
theorem x_cont (h : O.ct Γ) : ExS K tCont Γ O := fun σ S H fs D w e => e.ct σ Γ S H fs h w Step.refl
theorem x_never (h : False) : ExS K tNever Γ O := h.elim
theorem x_ret {te : TE} (h : EvP K te Γ O.rt) : ExS K (tRet te) Γ O := fun σ S H fs D w e =>
  h σ S H fs _ w fun v r Γ' S' H' fr fs' hk w' st => e.rt v r σ Γ' S' H' fr fs' hk w' st
theorem x_retN (h : O.rt (.dat .none) Γ) : ExS K tRetN Γ O := fun σ S H fs D w e =>
  e.rt .non (.dat .none) σ Γ S H [] fs h (w.put ⟨rfl, .non, rfl, .non⟩) (by simpa using Step.refl)
theorem x_expr {te : TE} (h : EvP K te Γ fun _ Γ1 => O.nx Γ1) : ExS K (tDrop te) Γ O := fun σ S H fs D w e =>
  h σ S H fs _ w fun v r Γ' S' H' fr fs' hk w' st => e.nx σ Γ' S' H' fs' hk w'.tl (st.sub fun a ha => List.mem_append_right _ ha)
theorem x_if {tt : TT} {t u : TS} (h : EvB K tt Γ fun b Γ1 => (b = true → ExS K t Γ1 O) ∧ (b = false → ExS K u Γ1 O)) : ExS K (tIfS tt t u) Γ O := fun σ S H fs D w e =>
  h σ S H fs _ w fun b Γ1 S1 H1 fs1 hk w1 st1 => by
    cases b with
    | true => exact hk.1 rfl σ S1 H1 fs1 D w1 (e.step st1)
    | false => exact hk.2 rfl σ S1 H1 fs1 D w1 (e.step st1)
def EvG (K : Frag) (g : TG) (s : Sl) (Γ : List Sl) (kn : List Sl → Prop) : Prop :=
  ∀ σ S H f fs v q, Wd K (some v :: σ) (s :: Γ) S H (f :: fs) → EndN K S H (f :: fs).flatten kn q → g v σ H q
theorem g_name {i : Nat} {s : Sl} {kn : List Sl → Prop} (h : kn (Γ.set i s)) : EvG K (gName i) s Γ kn := by
  intro σ S H f fs v q w e
  have gs : SatL K S H (σ.set i (some v)) (Γ.set i s) (fs.set i f) := w.tl.sat.set i w.hd
  have pm : (fs.set i f).flatten.Perm (f ++ (fs.set i []).flatten) ∨ (fs.set i f).flatten = fs.flatten := by
    by_cases hi : i < fs.length
    · left
      have q := flat_put (fs.set i []) i f (List.getElem?_set_self hi)
      rwa [List.set_set] at q
    · right
      rw [List.set_eq_of_length_le (Nat.le_of_not_lt hi)]
  have sub : ∀ a, a ∈ (fs.set i f).flatten → a ∈ (f :: fs).flatten := fun a ha => by
    rcases pm with p | p
    · rcases List.mem_append.mp (p.mem_iff.mp ha) with z | z
      · exact List.mem_append_left _ z
      · exact List.mem_append_right _ ((flat_set fs i f).subset z)
    · rw [p] at ha
      exact List.mem_append_right _ ha
  have gd : Good S H (fs.set i f).flatten := by
    rcases pm with p | p
    · refine Good.perm ?_ p.symm
      refine w.good.sublist ?_
      simp only [List.flatten_cons]
      exact (List.Sublist.refl _).append (flat_set fs i f)
    · rw [p]
      exact w.tl.good
  exact e _ _ S H _ h ⟨gd, gs⟩ (Step.refl.sub sub)
theorem x_asg {te : TE} {g : TG} (h : EvP K te Γ fun r Γ1 => EvG K g r Γ1 O.nx) : ExS K (tAsg te g) Γ O := fun σ S H fs D w e =>
  h σ S H fs _ w fun v r Γ' S' H' fr fs' hk w' st => hk σ S' H' fr fs' v _ w' (e.nx.step st)
def EvGs (K : Frag) (g : TGs) (ds : List PyData) (Γ : List Sl) (kn : List Sl → Prop) : Prop :=
  ∀ σ S H fs vs q, Wd K σ Γ S H fs → DdAll K S vs ds → EndN K S H fs.flatten kn q → g vs σ H q
theorem gs_nil {kn : List Sl → Prop} (h : kn Γ) : EvGs K gNil [] Γ kn := fun σ S H fs vs q w hd e => by
  cases hd
  exact ⟨rfl, e σ Γ S H fs h w Step.refl⟩
theorem gs_cons {g : TG} {gs : TGs} {d : PyData} {ds : List PyData} {kn : List Sl → Prop} (h : EvG K g (.dat d) Γ fun Γ1 => EvGs K gs ds Γ1 kn) : EvGs K (gCons g gs) (d :: ds) Γ kn := fun σ S H fs vs q w hd e => by
  cases hd with
  | cons h1 h2 =>
    refine ⟨_, _, rfl, h σ S H [] fs _ _ (w.put ⟨rfl, _, rfl, h1⟩) ?_⟩
    intro σ' Γ' S' H' fs' hk w' st
    have st' : Step S H fs.flatten S' H' fs'.flatten := by simpa using st
    exact hk σ' S' H' fs' _ q w' (Le.dps st'.le h2) (e.step st')
theorem g_tup {n : Nat} {gs : TGs} {ds : List PyData} {kn : List Sl → Prop} (hn : ds.length = n) (h : EvGs K gs ds Γ kn) : EvG K (gTup K n gs) (.dat (.tuple ds)) Γ kn := by
  intro σ S H f fs v q w e
  obtain ⟨e0, v', e1, hd⟩ := w.hd
  subst e0
  cases e1
  cases hd with
  | tup hs ha =>
    refine ⟨_, _, rfl, w.good.sub.sqT hs, by rw [dps_len ha]; exact hn, h σ S H fs _ q w.tl ha ?_⟩
    simpa using e
theorem x_par {i j : Nat} {ta : TA} (hij : i ≠ j) (h : EvA K ta Γ fun rs Γ1 => ∃ s1 s2, rs = [s1, s2] ∧ EvG K (gName i) s1 Γ1 fun Γ2 => EvG K (gName j) s2 Γ2 O.nx) : ExS K (tPar i j ta) Γ O := by
  intro σ S H fs D w e
  refine h σ S H fs _ w fun vs rs Γ1 S1 H1 frs fs1 hk l1 l2 w1 st1 => ?_
  obtain ⟨s1, s2, rfl, hk⟩ := hk
  match vs, frs, l1, l2, w1, st1 with
  | [v, u], [f1, f2], _, _, w1, st1 =>
    refine ⟨v, u, rfl, ?_⟩
    have w1' : Wd K (some v :: some u :: σ) (s1 :: s2 :: Γ1) S1 H1 (f1 :: f2 :: fs1) := w1
    have wsw : Wd K (some u :: some v :: σ) (s2 :: s1 :: Γ1) S1 H1 (f2 :: f1 :: fs1) := by
      refine ⟨w1'.good.perm ?_, .cons w1'.tl.hd (.cons w1'.hd w1'.tl.tl.sat)⟩
      simp only [List.flatten_cons]
      rw [← List.append_assoc, ← List.append_assoc]
      exact List.perm_append_comm.append_right _
    have mm : ∀ a, a ∈ (f2 :: f1 :: fs1).flatten ↔ a ∈ (f1 :: f2 :: fs1).flatten := fun a => by
      simp only [List.flatten_cons, List.mem_append]
      constructor <;> (intro q; rcases q with q | q | q <;> simp [q])
    have hw1 : Wd K (some v :: σ) (s1 :: Γ1) S1 H1 (f1 :: fs1) := wsw.tl
    refine hk σ S1 H1 f1 fs1 v (fun σ' H' => D.nx (σ'.set j (some u)) H') hw1 ?_
    intro σ2 Γ2 S2 H2 fs2 hk2 w2 st2
    obtain ⟨w3, st3⟩ := frame (ts := [some u]) (Θ := [s2]) (ft := [f2]) rfl rfl wsw w2 st2
    have w3' : Wd K (some u :: σ2) (s2 :: Γ2) S2 H2 (f2 :: fs2) := w3
    refine hk2 σ2 S2 H2 f2 fs2 u (fun σ' H' => D.nx σ' H') w3' ?_
    have q1 : Step S1 H1 (f1 :: f2 :: fs1).flatten S2 H2 (f2 :: fs2).flatten := st3.weak fun a ha => (mm a).mp ha
    exact e.nx.step (st1.trans q1)
  | [], _, l1, _, _, _ => simp at l1
  | [_], _, l1, _, _, _ => simp at l1
  | _ :: _ :: _ :: _, _, l1, _, _, _ => simp at l1
  | [_, _], [], _, l2, _, _ => simp at l2
  | [_, _], [_], _, l2, _, _ => simp at l2
  | [_, _], _ :: _ :: _ :: _, _, l2, _, _ => simp at l2
theorem x_while {c : TT} {tb : TS} (W : Nat → List Sl → Prop) (h0 : ∃ m, W m Γ)
    (hs : ∀ m Γ, W m Γ → EvB K c Γ fun b Γ1 => (b = true → ExS K tb Γ1 { O with nx := fun Γ2 => ∃ m', m' < m ∧ W m' Γ2, ct := fun Γ2 => ∃ m', m' < m ∧ W m' Γ2, bk := O.nx }) ∧ (b = false → O.nx Γ1)) : ExS K (tWhile c tb) Γ O := by
  intro σ S H fs D w e
  refine ⟨fun m σ1 H1 => ∃ Γ1 S1 fs1, W m Γ1 ∧ Wd K σ1 Γ1 S1 H1 fs1 ∧ Step S H fs.flatten S1 H1 fs1.flatten, ?_, ?_⟩
  · obtain ⟨m, hm⟩ := h0
    exact ⟨m, Γ, S, fs, hm, w, Step.refl⟩
  · rintro m σ1 H1 ⟨Γ1, S1, fs1, hm, w1, st1⟩
    refine hs m Γ1 hm σ1 S1 H1 fs1 _ w1 fun b Γ2 S2 H2 fs2 hk w2 st2 => ?_
    have st12 := st1.trans st2
    cases b with
    | false => exact (e.nx.step st12) σ1 Γ2 S2 H2 fs2 (hk.2 rfl) w2 Step.refl
    | true =>
      refine ⟨fun σ' H' => ∃ m', m' < m ∧ ∃ Γ1 S1 fs1, W m' Γ1 ∧ Wd K σ' Γ1 S1 H' fs1 ∧ Step S H fs.flatten S1 H' fs1.flatten, fun σ' H' q => q, ?_⟩
      refine hk.1 rfl σ1 S2 H2 fs2 _ w2 ⟨?_, e.rt.step st12, e.nx.step st12, ?_⟩
      all_goals
        rintro σ3 Γ3 S3 H3 fs3 ⟨m', hm', hw⟩ w3 st3
        exact ⟨m', hm', Γ3, S3, fs3, hw, w3, st12.trans st3⟩
def seqD : PyData → Option (List PyData)
  | .list ds => some ds
  | .tuple ds => some ds
  | _ => none
def iSeq (K : Frag) (tl : TE) : TI := fun σ H R => iList K tl σ H R ∨ iTup K tl σ H R
theorem dps_get {S : Hp} : ∀ {vs : List V} {ds : List PyData} {i : Nat} {v : V}, DdAll K S vs ds → vs[i]? = some v → ∃ d, ds[i]? = some d ∧ Dd K S v d
  | _, _, 0, _, .cons h _, e => by
    simp only [List.getElem?_cons_zero, Option.some.injEq] at e
    subst e
    exact ⟨_, rfl, h⟩
  | _, _, i + 1, _, .cons _ h, e => by
    simp only [List.getElem?_cons_succ] at e
    obtain ⟨d, h1, h2⟩ := dps_get h e
    exact ⟨d, by simpa using h1, h2⟩
  | _, _, _, _, .nil, e => by simp at e
theorem dps_get' {S : Hp} : ∀ {vs : List V} {ds : List PyData} {i : Nat} {d : PyData}, DdAll K S vs ds → ds[i]? = some d → ∃ v, vs[i]? = some v ∧ Dd K S v d
  | _, _, 0, _, .cons h _, e => by
    simp only [List.getElem?_cons_zero, Option.some.injEq] at e
    subst e
    exact ⟨_, rfl, h⟩
  | _, _, i + 1, _, .cons _ h, e => by
    simp only [List.getElem?_cons_succ] at e
    obtain ⟨d, h1, h2⟩ := dps_get' h e
    exact ⟨d, by simpa using h1, h2⟩
  | _, _, _, _, .nil, e => by simp at e
def EvI (K : Frag) (wi : TI) (Γ : List Sl) (ki : (Nat → Sl) → Nat → (List Sl → Prop) → List Sl → Prop) : Prop :=
  ∀ σ S H fs R, Wd K σ Γ S H fs → (∀ (J : It) (f : Nat → Sl) (n : Nat) (G : List Sl → Prop) Γ1 S1 H1 fs1, (∀ s Γ, G Γ → G (s :: Γ)) → ki f n G Γ1 → Wd K σ Γ1 S1 H1 fs1 → Step S H fs.flatten S1 H1 fs1.flatten →
    (∀ i σ2 Γ2 S2 H2 fs2, i ≤ n → G Γ2 → Wd K σ2 Γ2 S2 H2 fs2 → Step S1 H1 fs1.flatten S2 H2 fs2.flatten →
      (i < n → J.go i H2 ∧ ∀ x H', J.yld i H2 x H' → ∃ S', Wd K (some x :: σ2) (f i :: Γ2) S' H' ([] :: fs2) ∧ Step S2 H2 fs2.flatten S' H' fs2.flatten) ∧ (i = n → J.stop i H2)) → R J H1) → wi σ H R
theorem x_for {wi : TI} {g : TG} {tb : TS} (h : EvI K wi Γ fun f n G Γ1 => ∃ W : Nat → List Sl → Prop, W 0 Γ1 ∧ (∀ i Γ, i ≤ n → W i Γ → G Γ) ∧
    (∀ i Γ, i < n → W i Γ → EvG K g (f i) Γ fun Γ2 => ExS K tb Γ2 { O with nx := W (i + 1), ct := W (i + 1), bk := O.nx }) ∧ (∀ Γ, W n Γ → O.nx Γ)) : ExS K (tFor wi g tb) Γ O := by
  intro σ S H fs D w e
  refine h σ S H fs _ w fun J f n G Γ1 S1 H1 fs1 hG hk w1 st1 tn => ?_
  obtain ⟨W, h0, hWG, hs, hd⟩ := hk
  refine ⟨fun i m σ2 H2 => m = n - i ∧ i ≤ n ∧ ∃ Γ2 S2 fs2, W i Γ2 ∧ Wd K σ2 Γ2 S2 H2 fs2 ∧ Step S1 H1 fs1.flatten S2 H2 fs2.flatten, ⟨n, by simp, Nat.zero_le _, Γ1, S1, fs1, h0, w1, Step.refl⟩, ?_⟩
  rintro i m σ2 H2 ⟨rfl, hi, Γ2, S2, fs2, hW, w2, st2⟩
  obtain ⟨t1, t2⟩ := tn i σ2 Γ2 S2 H2 fs2 hi (hWG i Γ2 hi hW) w2 st2
  by_cases hlt : i < n
  · obtain ⟨hgo, hy⟩ := t1 hlt
    refine .inr ⟨hgo, fun σ' H' => ∃ Γ2 S2 fs2, W (i + 1) Γ2 ∧ Wd K σ' Γ2 S2 H' fs2 ∧ Step S1 H1 fs1.flatten S2 H' fs2.flatten, fun σ' H' q => ⟨n - (i + 1), by omega, rfl, hlt, q⟩, fun x H' y => ?_⟩
    obtain ⟨S', w3, st3⟩ := hy x H' y
    refine hs i Γ2 hlt hW σ2 S' H' [] fs2 x _ w3 ?_
    intro σ4 Γ4 S4 H4 fs4 hk4 w4 st4
    have st4' : Step S' H' fs2.flatten S4 H4 fs4.flatten := by simpa using st4
    have sA := (st2.trans st3).trans st4'
    have sB := st1.trans sA
    refine hk4 σ4 S4 H4 fs4 _ w4 ⟨?_, e.rt.step sB, e.nx.step sB, ?_⟩
    all_goals
      intro σ5 Γ5 S5 H5 fs5 hk5 w5 st5
      exact ⟨Γ5, S5, fs5, hk5, w5, sA.trans st5⟩
  · have e1 : i = n := by omega
    subst e1
    exact .inl ⟨t2 rfl, (e.nx.step (st1.trans st2)) σ2 Γ2 S2 H2 fs2 (hd Γ2 hW) w2 Step.refl⟩
theorem i_rng1 {ta : TA} {ki : (Nat → Sl) → Nat → (List Sl → Prop) → List Sl → Prop} (h : EvA K ta Γ fun rs Γ1 => ∃ j : Int, rs = [.dat (.int j)] ∧ -(2 ^ 62) ≤ j ∧ j < 2 ^ 62 ∧ ki (fun i => .dat (.int (i : Int))) j.toNat (fun _ => True) Γ1) : EvI K (iRng1 ta) Γ ki := by
  intro σ S H fs R w P
  refine h σ S H fs _ w fun vs rs Γ1 S1 H1 frs fs1 hb l1 l2 w1 st1 => ?_
  obtain ⟨j, rfl, hj1, hj2, hk⟩ := hb
  match vs, frs, l1, l2, w1, st1 with
  | [v], [f], _, _, w1, st1 =>
    have w1' : Wd K (some v :: σ) (.dat (.int j) :: Γ1) S1 H1 (f :: fs1) := w1
    obtain ⟨e0, v', e1, hd⟩ := w1'.hd
    subst e0
    cases e1; cases hd
    refine ⟨j, rfl, hj1, hj2, P _ _ _ _ Γ1 S1 H1 fs1 (fun _ _ h => h) hk w1'.tl (by simpa using st1) fun i σ2 Γ2 S2 H2 fs2 hi _ w2 st2 => ⟨fun hlt => ⟨hlt, fun x H' y => ?_⟩, fun he => Nat.le_of_eq he.symm⟩⟩
    obtain ⟨rfl, rfl⟩ := y
    exact ⟨S2, w2.put ⟨rfl, _, rfl, by simpa using Dd.int (K := K) (H := S2) (i : Int)⟩, Step.refl⟩
  | [], _, l1, _, _, _ => simp at l1
  | _ :: _ :: _, _, l1, _, _, _ => simp at l1
  | [_], [], _, l2, _, _ => simp at l2
  | [_], _ :: _ :: _, _, l2, _, _ => simp at l2
theorem i_rng2 {ta : TA} {ki : (Nat → Sl) → Nat → (List Sl → Prop) → List Sl → Prop} (h : EvA K ta Γ fun rs Γ1 => ∃ lo hi : Int, rs = [.dat (.int lo), .dat (.int hi)] ∧ (-(2 ^ 62) ≤ lo ∧ lo < 2 ^ 62 ∧ -(2 ^ 62) ≤ hi ∧ hi < 2 ^ 62) ∧ ki (fun i => .dat (.int (lo + (i : Int)))) (hi - lo).toNat (fun _ => True) Γ1) : EvI K (iRng2 ta) Γ ki := by
  intro σ S H fs R w P
  refine h σ S H fs _ w fun vs rs Γ1 S1 H1 frs fs1 hb l1 l2 w1 st1 => ?_
  obtain ⟨lo, hi, rfl, hj, hk⟩ := hb
  match vs, frs, l1, l2, w1, st1 with
  | [v, u], [f, f'], _, _, w1, st1 =>
    have w1' : Wd K (some v :: some u :: σ) (.dat (.int lo) :: .dat (.int hi) :: Γ1) S1 H1 (f :: f' :: fs1) := w1
    obtain ⟨e0, v', e1, hd⟩ := w1'.hd
    obtain ⟨e0', u', e1', hd'⟩ := w1'.tl.hd
    subst e0 e0'
    cases e1; cases hd; cases e1'; cases hd'
    refine ⟨lo, hi, rfl, hj, P _ _ _ _ Γ1 S1 H1 fs1 (fun _ _ h => h) hk w1'.tl.tl (by simpa using st1) fun i σ2 Γ2 S2 H2 fs2 hi _ w2 st2 => ⟨fun hlt => ⟨hlt, fun x H' y => ?_⟩, fun he => Nat.le_of_eq he.symm⟩⟩
    obtain ⟨rfl, rfl⟩ := y
    exact ⟨S2, w2.put ⟨rfl, _, rfl, Dd.int _⟩, Step.refl⟩
  | [], _, l1, _, _, _ => simp at l1
  | [_], _, l1, _, _, _ => simp at l1
  | _ :: _ :: _ :: _, _, l1, _, _, _ => simp at l1
  | [_, _], [], _, l2, _, _ => simp at l2
  | [_, _], [_], _, l2, _, _ => simp at l2
  | [_, _], _ :: _ :: _ :: _, _, l2, _, _ => simp at l2
theorem SqL.inj' {H : Hp} {a : Addr} {xs ys : List V} : SqL K H a xs → SqL K H a ys → H a = none ∨ True := fun _ _ => .inr trivial
end Dl
namespace Dl
open PySem L2
def iSq (K : Frag) (tl : TE) : TI := fun σ H R => tl σ H fun x H1 => (∃ a xs, x = .ref a ∧ SqL K H1 a xs ∧ (xs.length ≤ sizeLine → R (Itl K a) H1)) ∨ ∃ a xs, x = .ref a ∧ SqT K H1 a xs ∧ (xs.length ≤ sizeLine → R (Itt K a) H1)
section
variable {X : Cx} {tg : Expr}
theorem pi_sq {l : Expr} {tl : TE} (hl : PE X l tl) : PI X tg l (iSq X.K tl) := by
  refine ⟨fun pins s σ H R I h => ?_⟩
  refine thn (hl.run pins s σ H _ I h) fun v s1 ⟨x, H1, I1, r1, q1⟩ => ?_
  rcases q1 with ⟨a, xs, e, hq, q⟩ | ⟨a, xs, e, hq, q⟩
  · subst e
    cases r1
    obtain ⟨its, rv, p, hz⟩ := I1.list hq
    refine wpAny_pyIter_list p.isList ?_
    refine ⟨s1.heap.objs.size, [s1.heap.objs.size], _, _, H1, rfl, I1.kept (t' := s1.toks) fun b o e => Heap.get?_push_of_some _ e, turn_list a _, ⟨_, Heap.get?_push_size _ rfl, rfl, rfl⟩, fun b hb => ?_, q hz⟩
    have e : b = s1.heap.objs.size := by simpa using hb
    subst e
    exact I1.fpOk (Nat.le_refl _) (I1.hok.fresh (Nat.le_refl _))
  · subst e
    cases r1
    obtain ⟨its, rv, p, hz⟩ := I1.tuple hq
    refine wpAny_pyIter_tuple (show s1.heap.IsTuple a its.toArray from p) ?_
    refine ⟨s1.heap.objs.size, [s1.heap.objs.size], _, _, H1, rfl, I1.kept (t' := s1.toks) fun b o e => Heap.get?_push_of_some _ e, turn_tuple a _, ⟨_, Heap.get?_push_size _ rfl, rfl, rfl⟩, fun b hb => ?_, q hz⟩
    have e : b = s1.heap.objs.size := by simpa using hb
    subst e
    exact I1.fpOk (Nat.le_refl _) (I1.hok.fresh (Nat.le_refl _))
end
variable {K : Frag} {Γ : List Sl} {k : Sl → List Sl → Prop} {O : Out}
theorem EvA.one {te : TE} {ka : List Sl → List Sl → Prop} (h : EvP K te Γ fun s Γ1 => ka [s] Γ1) : EvA K (tCons te tNil) Γ ka := a_cons fun σ S H fs Q w P => h σ S H fs Q w fun v r Γ' S' H' fr fs' hk w' st => P v r Γ' S' H' fr fs' (a_nil hk) w' st
theorem i_sq {tl : TE} {ki : (Nat → Sl) → Nat → (List Sl → Prop) → List Sl → Prop} (h : EvP K tl Γ fun r Γ1 => ∃ d ds, r = .dat d ∧ seqD d = some ds ∧ (ds.length ≤ sizeLine → ki (fun i => .dat (ds.getD i .none)) ds.length (fun _ => True) Γ1)) : EvI K (iSq K tl) Γ ki := by
  intro σ S H fs R w P
  refine h σ S H fs _ w fun v r Γ1 S1 H1 f1 fs1 hb w1 st1 => ?_
  obtain ⟨d, ds, rfl, hs, hk⟩ := hb
  obtain ⟨e0, v', e1, hd⟩ := w1.hd
  subst e0
  cases e1
  have turns : ∀ (vs : List V), DdAll K S1 vs ds → ∀ i (S2 H2 : Hp) (σ2 : List (Option V)) (Γ2 : List Sl) (fs2 : List (List Addr)) (x : V), Le S1 S2 → Wd K σ2 Γ2 S2 H2 fs2 → vs[i]? = some x → Wd K (some x :: σ2) (.dat (ds.getD i .none) :: Γ2) S2 H2 ([] :: fs2) := fun vs ha i S2 H2 σ2 Γ2 fs2 x l w2 hx => by
    obtain ⟨d', h1, h2⟩ := dps_get ha hx
    refine w2.put ⟨rfl, x, rfl, ?_⟩
    rw [List.getD_eq_getElem?_getD, h1]
    exact l.dp h2
  cases hd with
  | lst h1 ha =>
    cases hs
    have hl := dps_len ha
    refine .inl ⟨_, _, rfl, w1.good.sub.sqL (.inl h1), fun hz => P _ _ _ _ Γ1 S1 H1 fs1 (fun _ _ h => h) (hk (by omega)) w1.tl (by simpa using st1) fun i σ2 Γ2 S2 H2 fs2 hi _ w2 st2 => ⟨fun hlt => ?_, fun he => ?_⟩⟩
    · have hq : SqL K H2 _ _ := w2.good.sub.sqL (st2.le.sqL (.inl h1))
      refine ⟨⟨_, _, hq, List.getElem?_eq_getElem (by omega)⟩, fun x H' y => ?_⟩
      obtain ⟨rfl, y⟩ := y
      exact ⟨S2, turns _ ha i S2 _ σ2 Γ2 fs2 x st2.le w2 (y _ hq), Step.refl⟩
    · exact ⟨_, w2.good.sub.sqL (st2.le.sqL (.inl h1)), by omega⟩
  | tup h1 ha =>
    cases hs
    have hl := dps_len ha
    refine .inr ⟨_, _, rfl, w1.good.sub.sqT h1, fun hz => P _ _ _ _ Γ1 S1 H1 fs1 (fun _ _ h => h) (hk (by omega)) w1.tl (by simpa using st1) fun i σ2 Γ2 S2 H2 fs2 hi _ w2 st2 => ⟨fun hlt => ?_, fun he => ?_⟩⟩
    · have hq := w2.good.sub.sqT (st2.le.sqT h1)
      refine ⟨⟨_, _, hq, List.getElem?_eq_getElem (by omega)⟩, fun x H' y => ?_⟩
      obtain ⟨rfl, y⟩ := y
      exact ⟨S2, turns _ ha i S2 _ σ2 Γ2 fs2 x st2.le w2 (y _ hq), Step.refl⟩
    · exact ⟨_, w2.good.sub.sqT (st2.le.sqT h1), by omega⟩
  | _ => cases hs
def ownL (a : Addr) (xs : List PyData) : Res where
  v := .ref a
  p := fun K S H fp => fp = [a] ∧ ∃ vs, H a = some (.lst vs) ∧ DdAll K S vs xs
  loc := fun ⟨h1, vs, h2, h3⟩ l k => ⟨h1, vs, by rw [k _ (by simp [h1])]; exact h2, Le.dps l h3⟩
theorem allocOwn {σ : List (Option V)} {S H : Hp} {fs : List (List Addr)} {p : Addr} {vs : List V} {xs : List PyData} (w : Wd K σ Γ S H fs) (hp : H p = none) (hd : DdAll K S vs xs) :
    Wd K (some (.ref p) :: σ) (.res (ownL p xs) :: Γ) S (upd H p (.lst vs)) ([p] :: fs) ∧ Step S H fs.flatten S (upd H p (.lst vs)) ([p] :: fs).flatten := by
  have nS : S p = none := w.good.sub.none hp
  have nF : ∀ a ∈ fs.flatten, a ≠ p := fun a ha e => w.good.al a ha (by rw [e]; exact hp)
  have leH : Le H (upd H p (.lst vs)) := fun a u e => by rw [upd_ne (ne_of_none e hp)]; exact e
  refine ⟨⟨⟨w.good.sub.trans leH, ?_, fun a ha => ?_, fun a ha => ?_⟩, .cons ⟨rfl, rfl, vs, upd_same, hd⟩ (w.sat.step (Le.refl _) fun a ha => upd_ne (nF a ha))⟩, Le.refl _, fun a u e _ => leH a u e, fun a e => .inl e, fun a ha => ?_, fun a e => ?_⟩
  · simp only [List.flatten_cons]
    exact List.nodup_cons.mpr ⟨fun q => nF p q rfl, w.good.nd⟩
  · rcases List.mem_cons.mp (show a ∈ p :: fs.flatten by simpa using ha) with rfl | q
    · exact nS
    · exact w.good.dis a q
  · rcases List.mem_cons.mp (show a ∈ p :: fs.flatten by simpa using ha) with rfl | q
    · rw [upd_same]; simp
    · rw [upd_ne (nF a q)]
      exact w.good.al a q
  · rcases List.mem_cons.mp (show a ∈ p :: fs.flatten by simpa using ha) with rfl | q
    · exact .inl hp
    · exact .inr q
  · by_cases q : a = p
    · subst q
      rw [upd_same]
      simp
    · rw [upd_ne q]
      exact e
theorem e_lstO {ta : TA} (h : EvA K ta Γ fun rs Γ1 => ∃ ds : List PyData, rs = ds.map .dat ∧ ds.length ≤ sizeLine ∧ ∀ a, k (.res (ownL a ds)) Γ1) : EvP K (tLst ta) Γ k := by
  intro σ S H fs Q w P
  refine h σ S H fs _ w fun vs rs Γ1 S1 H1 frs fs1 hb l1 l2 w1 st1 => ?_
  obtain ⟨ds, rfl, hz, hk⟩ := hb
  obtain ⟨s1, s2⟩ := w1.sat.split (by simpa using l1) l2
  obtain ⟨hd, hf⟩ := sat_dats s1
  have w2 : Wd K σ Γ1 S1 H1 fs1 := Wd.tail (by simpa using l1) l2 w1
  refine ⟨by rw [dps_len hd]; exact hz, fun p hp => ?_⟩
  obtain ⟨w3, st3⟩ := allocOwn w2 hp hd
  exact P _ _ Γ1 S1 _ [p] fs1 (hk p) w3 ((st1.sub (F'' := fs1.flatten) fun a ha => by simp [hf]; simpa using ha).trans st3)
theorem freezeW {σ : List (Option V)} {S H : Hp} {f : List Addr} {fs : List (List Addr)} {a : Addr} {xs : List PyData} {v : V} (w : Wd K (some v :: σ) (.res (ownL a xs) :: Γ) S H (f :: fs)) :
    ∃ S', Wd K (some v :: σ) (.dat (.list xs) :: Γ) S' H ([] :: fs) ∧ Step S H (f :: fs).flatten S' H fs.flatten := by
  obtain ⟨e1, e2, vs, e3, hd⟩ := w.hd
  have e2 : f = [a] := e2
  have e3 : H a = some (.lst vs) := e3
  subst e2
  cases e1
  have nS : S a = none := w.good.dis a (by simp)
  have le : Le S (upd S a (.lst vs)) := fun b u e => by rw [upd_ne (ne_of_none e nS)]; exact e
  have nd := w.good.nd
  simp only [List.flatten_cons] at nd
  have nF : ∀ b ∈ fs.flatten, b ≠ a := fun b hb e => (List.nodup_cons.mp nd).1 (e ▸ hb)
  refine ⟨upd S a (.lst vs), ⟨⟨fun b u e => ?_, ?_, fun b hb => ?_, fun b hb => w.good.al b ?_⟩, .cons ⟨rfl, _, rfl, dp_lst_new nS hd⟩ (w.tl.sat.step le fun _ _ => rfl)⟩, le, fun _ _ e _ => e, fun b e => ?_, fun b hb => .inr ?_, fun _ e => e⟩
  · by_cases q : b = a
    · subst q
      rw [upd_same] at e
      exact e3.trans e
    · rw [upd_ne q] at e
      exact w.good.sub b u e
  · simpa using w.tl.good.nd
  · have hb' : b ∈ fs.flatten := by simpa using hb
    rw [upd_ne (nF b hb')]
    exact w.tl.good.dis b hb'
  · simpa using Or.inr (by simpa using hb)
  · by_cases q : b = a
    · subst q
      exact .inr (.inr (by simp))
    · rw [upd_ne q] at e
      exact .inl e
  · simp only [List.flatten_cons]
    exact List.mem_append_right _ hb
theorem e_freeze {te : TE} (h : EvP K te Γ fun r Γ1 => ∃ a xs, r = .res (ownL a xs) ∧ k (.dat (.list xs)) Γ1) : EvP K te Γ k := by
  intro σ S H fs Q w P
  refine h σ S H fs _ w fun v r Γ1 S1 H1 f1 fs1 hb w1 st1 => ?_
  obtain ⟨a, xs, rfl, hk⟩ := hb
  obtain ⟨S', w2, st2⟩ := freezeW w1
  exact P v _ Γ1 S' H1 [] fs1 hk w2 (by simpa using st1.trans st2)
theorem upd_own {σ : List (Option V)} {S H : Hp} {fs : List (List Addr)} {j : Nat} {a : Addr} {xs ys : List PyData} {ws : List V} (w : Wd K σ Γ S H fs) (hj : Γ[j]? = some (.res (ownL a xs))) (hd : DdAll K S ws ys) :
    Wd K σ (Γ.set j (.res (ownL a ys))) S (upd H a (.lst ws)) fs ∧ Step S H fs.flatten S (upd H a (.lst ws)) fs.flatten := by
  obtain ⟨x, fp, hx, hf, e1, e2, vs, e3, hv⟩ := w.sat.get hj
  have e2 : fp = [a] := e2
  have e3 : H a = some (.lst vs) := e3
  subst e2
  have pm := flat_take fs j [a] hf
  have gp := w.good.perm pm
  have nd := gp.nd
  have aF : a ∈ fs.flatten := pm.mem_iff.mpr (by simp)
  have nS : S a = none := w.good.dis a aF
  have nF : ∀ b ∈ (fs.set j []).flatten, b ≠ a := fun b hb e => (List.nodup_cons.mp nd).1 (e ▸ hb)
  have sat1 : SatL K S H σ (Γ.set j .no) (fs.set j []) := by
    have q := w.sat.set (x := x) (s := .no) (fp := []) j rfl
    rwa [setSame hx] at q
  have sat2 := sat1.step (Le.refl S) (H' := upd H a (.lst ws)) fun b hb => upd_ne (nF b hb)
  have sat3 := sat2.set (x := x) (s := .res (ownL a ys)) (fp := [a]) j ⟨e1, rfl, ws, upd_same, hd⟩
  rw [setSame hx, List.set_set, List.set_set, setSame hf] at sat3
  refine ⟨⟨⟨fun b u e => ?_, w.good.nd, w.good.dis, fun b hb => ?_⟩, sat3⟩, Le.refl _, fun b u e n => ?_, fun b e => .inl e, fun b hb => .inr hb, fun b e => ?_⟩
  · rw [upd_ne (ne_of_none e nS)]
    exact w.good.sub b u e
  · by_cases q : b = a
    · subst q; rw [upd_same]; simp
    · rw [upd_ne q]; exact w.good.al b hb
  · rw [upd_ne fun q => n (by rw [q]; exact aF)]
    exact e
  · by_cases q : b = a
    · subst q; rw [upd_same]; simp
    · rw [upd_ne q]; exact e
theorem e_append {to : TE} {ta : TA} (j : Nat) (h : EvP K to Γ fun s Γ1 => ∃ a, s = .raw (.ref a) ∧ (∃ xs, Γ1[j]? = some (.res (ownL a xs))) ∧ EvA K ta Γ1 fun rs Γ2 => ∃ xs d, Γ2[j]? = some (.res (ownL a xs)) ∧ rs = [.dat d] ∧ xs.length < sizeLine ∧ k (.dat .none) (Γ2.set j (.res (ownL a (xs ++ [d]))))) :
    EvP K (tBM K "list" rAppend to ta) Γ k := by
  intro σ S H fs Q w P
  refine h σ S H fs _ w fun v r1 Γ1 S1 H1 f1 fs1 hb w1 st1 => ?_
  obtain ⟨a, rfl, ⟨xs0, hj0⟩, hA⟩ := hb
  obtain ⟨e0, e1⟩ := w1.hd
  subst e0
  cases e1
  obtain ⟨x0, fp0, hx0, hf0, q1, q2, vs0, q3, q4⟩ := w1.tl.sat.get hj0
  refine ⟨.inl ⟨rfl, vs0, .inl (.inl q3)⟩, ?_⟩
  refine hA σ S1 H1 fs1 _ w1.tl fun vs rs Γ2 S2 H2 frs fs2 hk l1 l2 w2 st2 => ?_
  obtain ⟨xs, d, hj, rfl, hz, hk⟩ := hk
  match vs, frs, l1, l2, w2, st2 with
  | [u], [f], _, _, w2, st2 =>
    have w2' : Wd K (some u :: σ) (.dat d :: Γ2) S2 H2 (f :: fs2) := w2
    obtain ⟨e4, u', e5, hu⟩ := w2'.hd
    subst e4
    cases e5
    obtain ⟨x, fp, hx, hf, q5, q6, ws, q7, q8⟩ := w2'.tl.sat.get hj
    have hl := dps_len q8
    have app : ∀ {as bs : List V} {cs ds : List PyData}, DdAll K S2 as cs → DdAll K S2 bs ds → DdAll K S2 (as ++ bs) (cs ++ ds) := by
      intro as bs cs ds h1 h2
      induction h1 using DdAll.rec (motive_1 := fun _ _ _ => True) with
      | nil => exact h2
      | cons a b _ ih => exact .cons a ih
      | _ => trivial
    obtain ⟨w3, st3⟩ := upd_own (ws := ws ++ [u]) w2'.tl hj (app q8 (.cons hu .nil))
    refine ⟨a, ws, u, rfl, rfl, q7, by omega, ?_⟩
    have st12 : Step S H fs.flatten S2 H2 fs2.flatten := (by simpa using st1 : Step S H fs.flatten S1 H1 fs1.flatten).trans (by simpa using st2)
    exact (P.trans (st12.trans st3)).dat w3 hk .non
  | [], _, l1, _, _, _ => simp at l1
  | _ :: _ :: _, _, l1, _, _, _ => simp at l1
  | [_], [], _, l2, _, _ => simp at l2
  | [_], _ :: _ :: _, _, l2, _, _ => simp at l2
end Dl
namespace Dl
open PySem PySem.Spec PyProof.Rows L2
structure Callee (P : Program) (w : World) (K : Frag) (mg : Str → Option Value) (base : Heap) (x : Str) (k : Nat) (ps : List Str) (sp : Sp) : Prop where
  ex : ∃ f fd, FnOk P w K mg base CX0 k f fd ps sp ∧ mg x = some (.ref f) ∧ PySem.W.keepIn K (.ref f) = true ∧ Binds K fd ps []
theorem callee_mk {P : Program} {w : World} {K : Frag} {mg : Str → Option Value} {base : Heap} {x qual : Str} {params : Arguments} {body : List Stmt} {scope : Scope} {f : Addr} {N ps : List Str} {k : Nat} {F : FSpec}
    (hf : ∃ fd, FunD K x qual params body scope [] [] f fd) (S : FnScope N ps scope)
    (hb : ∀ (kV doc pm : Value) (an : Option Addr) (cdv ct : Value) (us : List Value), us.length = ps.length → bindArgs (PySem.W.fnOf x qual params body scope .none kV doc pm an cdv ct) ⟨us, []⟩ = pure (ps.zip us))
    (g : mg x = some (.ref f)) (hn : ∀ args k, F args k → args.length = ps.length) (t : TS) (ht : ∀ args k, F args k → ExS K t (args ++ List.replicate (N.length - args.length) .no) (fnOut args k))
    (hd : ∀ (cdv : Value) (A : Around) (outer : List Env) (s : Shared) (H : Hp) (E : XK), Room k (A.deeper (envOfC qual scope s.heap.objs.size f cdv)) → PSs (cxOf CX0 P w K mg base N qual scope f cdv A outer s H E).nox body t) :
    Callee P w K mg base x (k + 1) ps (spOf K F) := by
  obtain ⟨fd, FD⟩ := hf
  refine ⟨f, fd, FD.ok S (fun vs H Q E h => sp_len hn h) (fun cdv A outer s H vs Q E hr h => ⟨t, (hd cdv A outer s H E hr).nox, fn_body ht h⟩), g, FD.kp, FD.bindsN hb⟩
section
variable {X : Cx} {x : Str} {j k : Nat} {ps : List Str} {sp : Sp} {p pos : Pos} {e : Expr} {es : List Expr} {t : TA}
theorem pe_u (C : Callee X.prog X.w X.K X.mg X.base x j ps sp) (hr : Room k X.A) (hj : j ≤ k) (hg : Gl X x) (ha : PA X (e :: es) t) (hdb : (x == ("__debug__" : Str)) = false := by decide) (he : starEach (e :: es) X.env = (false, eval e X.env) :: starEach es X.env := by rfl) (hpl : (backTo pos (starEach es X.env)).any (·.1) = false := by rfl) :
    PE X (.Call (.Name x p) (e :: es) [] pos) (tCall sp [] E0 t) := by
  obtain ⟨f, fd, F, hm, hk, hb⟩ := C.ex
  exact pe_call F (hr.mono hj) hg hm hk hb .nil pass0 ha hdb he hpl
theorem pe_u0 (C : Callee X.prog X.w X.K X.mg X.base x j ps sp) (hr : Room k X.A) (hj : j ≤ k) (hg : Gl X x) (hdb : (x == ("__debug__" : Str)) = false := by decide) : PE X (.Call (.Name x p) [] [] pos) (tCall sp [] E0 tNil) := by
  obtain ⟨f, fd, F, hm, hk, hb⟩ := C.ex
  exact pe_call0 F (hr.mono hj) hg hm hk hb .nil pass0 hdb
theorem pe_gc {v : V} (hg : Gl X x) (hm : ∃ u, X.mg x = some u ∧ RelV v u) (hd : (x == ("__debug__" : Str)) = false := by decide) : PE X (.Name x pos) (tC v) := by
  obtain ⟨u, h1, h2⟩ := hm
  exact pe_glob hg h1 h2 hd
end
def rAddS : R2 := fun x y H Q => ∃ i j, x = .str i ∧ y = .str j ∧ i.length + j.length ≤ sizeLine ∧ Q (.str (i ++ j)) H
def rCatR : R2 := fun x y H Q => ∃ l b xs zs, x = .ref l ∧ y = .ref b ∧ Rd H l (.lst xs) ∧ Rd H b (.lst zs) ∧ xs.length + zs.length ≤ sizeLine ∧ ∀ p, H p = none → Q (.ref p) (upd H p (.lst (xs ++ zs)))
def rRepR : R2 := fun x y H Q => ∃ l k xs, x = .ref l ∧ y = .int k ∧ H l = some (.lst xs) ∧ -(2 ^ 63) ≤ k ∧ k < 2 ^ 63 ∧ xs.length * k.toNat ≤ sizeLine ∧ ∀ p, H p = none → Q (.ref p) (upd H p (.lst (List.replicate k.toNat xs).flatten))
def uAdd (K : Frag) : R2 := fun x y H Q => rI0 (fun i j => .int (i + j)) x y H Q ∨ (rAddS x y H Q ∨ (rCatR x y H Q ∨ rCatA K x y H Q))
def uSub (K : Frag) : R2 := rI0 fun i j => .int (i - j)
def uMul (K : Frag) : R2 := fun x y H Q => rI CMul (fun i j => .int (i * j)) x y H Q ∨ (rI CMulW (fun i j => .int (i * j)) x y H Q ∨ rRep x y H Q)
def uFDiv (K : Frag) : R2 := fun x y H Q => rI CDiv (fun i j => .int (i / j)) x y H Q ∨ rI CDivW (fun i j => .int (i / j)) x y H Q
def uMod (K : Frag) : R2 := rI (fun _ j => 0 < j) fun i j => .int (i % j)
def uPow (K : Frag) : R2 := rI CPow fun i j => .int (i ^ j.toNat)
def rIsNn : R2 := fun x y H Q => y = .non ∧ Q (.bl (decide (x = .non))) H
def rNotNn : R2 := fun x y H Q => y = .non ∧ Q (.bl (!decide (x = .non))) H
def rIsRf : R2 := fun x y H Q => ∃ a b oa ob, x = .ref a ∧ y = .ref b ∧ H a = some oa ∧ isObj oa = true ∧ H b = some ob ∧ isObj ob = true ∧ Q (.bl (decide (a = b))) H
def rNotRf : R2 := fun x y H Q => ∃ a b oa ob, x = .ref a ∧ y = .ref b ∧ H a = some oa ∧ isObj oa = true ∧ H b = some ob ∧ isObj ob = true ∧ Q (.bl (!decide (a = b))) H
def uIs (K : Frag) : R2 := fun x y H Q => rIsNn x y H Q ∨ (rIsB x y H Q ∨ rIsRf x y H Q)
def uIsNot (K : Frag) : R2 := fun x y H Q => rNotNn x y H Q ∨ (rNotB x y H Q ∨ rNotRf x y H Q)
def rInStr : R2 := fun x y H Q => ∃ i j, x = .str i ∧ y = .str j ∧ Q (.bl (!(Builtin.Str.occurrences j i 0 j.length 1).isEmpty)) H
def rNiStr : R2 := fun x y H Q => ∃ i j, x = .str i ∧ y = .str j ∧ Q (.bl (!(!(Builtin.Str.occurrences j i 0 j.length 1).isEmpty))) H
def uIn (K : Frag) : R2 := fun x y H Q => rIn K false x y H Q ∨ (rInStr x y H Q ∨ rInD K x y H Q)
def uNotIn (K : Frag) : R2 := fun x y H Q => rIn K true x y H Q ∨ (rNiStr x y H Q ∨ rNotInD K x y H Q)
def rLtS : R2 := fun x y H Q => ∃ i j, x = .str i ∧ y = .str j ∧ Q (.bl (decide (i.cps.toList < j.cps.toList))) H
def uLt (K : Frag) : R2 := fun x y H Q => rI0 (fun i j => .bl (decide (i < j))) x y H Q ∨ rLtS x y H Q
def uLe (K : Frag) : R2 := rI0 fun i j => .bl (decide (i ≤ j))
def uGt (K : Frag) : R2 := rI0 fun i j => .bl (decide (j < i))
def uGe (K : Frag) : R2 := rI0 fun i j => .bl (decide (j ≤ i))
def uEq (K : Frag) : R2 := rEqD K
def uNe (K : Frag) : R2 := rNeD K
def uIx (K : Frag) : R2 := rIx K
def rSlU (K : Frag) : V → Option Int → Option Int → Hp → VK → Prop := fun x lo hi H Q => rSlL K x lo hi H Q ∨ (rSlA K x lo hi H Q ∨ rSlS x lo hi H Q)
def rLen (K : Frag) : List V → Hp → VK → Prop := fun xs H Q => ∃ x n, xs = [x] ∧ LenV K x H n ∧ Q (.int n) H
def rIsiU (K : Frag) : List V → Hp → VK → Prop := fun xs H Q => rIsi K xs H Q ∨ (rIsiT K xs H Q ∨ rIsiK K xs H Q)
def rMax2 : List V → Hp → VK → Prop := fun xs H Q => ∃ i j, xs = [.int i, .int j] ∧ Q (.int (if j > i then j else i)) H
def rMin2 : List V → Hp → VK → Prop := fun xs H Q => ∃ i j, xs = [.int i, .int j] ∧ Q (.int (if j < i then j else i)) H
def rMaxU (K : Frag) : List V → Hp → VK → Prop := fun xs H Q => rMax2 xs H Q ∨ rMax K xs H Q
def rMinU (K : Frag) : List V → Hp → VK → Prop := fun xs H Q => rMin2 xs H Q ∨ rMin K xs H Q
def rAbs (_ : Frag) : List V → Hp → VK → Prop := fun xs H Q => ∃ i, xs = [.int i] ∧ Q (.int (if i < 0 then -i else i)) H
def rInt1 (_ : Frag) : List V → Hp → VK → Prop := fun xs H Q => (∃ i, xs = [.int i] ∧ Q (.int i) H) ∨ ∃ k, xs = [.bl k] ∧ Q (.int (if k then 1 else 0)) H
def rListU (K : Frag) : List V → Hp → VK → Prop := fun xs H Q => ∃ p ys, xs = [.ref p] ∧ (SqL K H p ys ∨ SqT K H p ys) ∧ ∀ l, H l = none → Q (.ref l) (upd H l (.lst ys))
def rTupU (K : Frag) : List V → Hp → VK → Prop := fun xs H Q => ∃ p ys, xs = [.ref p] ∧ ((SqL K H p ys ∧ ∀ l, H l = none → Q (.ref l) (upd H l (.tup ys))) ∨ (SqT K H p ys ∧ Q (.ref p) H))
section
variable {X : Cx} {k : Nat}
theorem op_catR : OpR X (binaryOp .Add) rCatR := by
  intro pins s σ H x y v u Q I rx ry h
  obtain ⟨l, b, xs, zs, rfl, rfl, hH, hB, hz, q⟩ := h
  cases rx
  cases ry
  obtain ⟨z, its, n, r, e⟩ := hH.ok I.hok
  obtain ⟨z2, its2, n2, r2, e2⟩ := hB.ok I.hok
  have l1 := r.length
  have l2 := r2.length
  refine PySem.P.add_list e e2 ?_ (by rw [List.size_toArray, List.size_toArray]; omega)
  have ea : its.toArray ++ its2.toArray = (its ++ its2).toArray := by simp
  rw [ea]
  exact ⟨.ref _, _, I.lnew (t' := s.toks) (r.append r2) (by rw [List.length_append]; omega), rfl, q _ I.fresh⟩
theorem opAdd : OpR X (binaryOp .Add) (uAdd X.K) := op_add.or (op_add_str.or (op_catR.or op_catA))
theorem opSub : OpR X (binaryOp .Sub) (uSub X.K) := op_sub
theorem opMul : OpR X (binaryOp .Mult) (uMul X.K) := op_mul.or (op_mulW.or op_rep)
theorem opFDiv : OpR X (binaryOp .FloorDiv) (uFDiv X.K) := op_fdiv.or op_fdivW
theorem opMod : OpR X (binaryOp .Mod) (uMod X.K) := op_mod
theorem opPow : OpR X (binaryOp .Pow) (uPow X.K) := op_pow
theorem opIs (hr : Room k X.A) : OpR X (compareOp .Is) (uIs X.K) := op_isN.or (op_isBl.or op_is_ref)
theorem opIsNot (hr : Room k X.A) : OpR X (compareOp .IsNot) (uIsNot X.K) := op_notN.or (op_notBl.or op_isnot_ref)
theorem opIn (hr : Room k X.A) : OpR X (compareOp .In) (uIn X.K) := op_in_seq.or (op_in_str.or (op_inD (by have := hr.un; omega)))
theorem opNotIn (hr : Room k X.A) : OpR X (compareOp .NotIn) (uNotIn X.K) := op_notIn_seq.or (op_notIn_str.or (op_notInD (by have := hr.un; omega)))
theorem opLt (hr : Room k X.A) : OpR X (compareOp .Lt) (uLt X.K) := op_lt.or op_lt_str
theorem opLe (hr : Room k X.A) : OpR X (compareOp .LtE) (uLe X.K) := op_le
theorem opGt (hr : Room k X.A) : OpR X (compareOp .Gt) (uGt X.K) := op_gt
theorem opGe (hr : Room k X.A) : OpR X (compareOp .GtE) (uGe X.K) := op_ge
theorem opEq (hr : Room k X.A) : OpR X (compareOp .Eq) (uEq X.K) := op_eqD hr.units
theorem opNe (hr : Room k X.A) : OpR X (compareOp .NotEq) (uNe X.K) := op_neD hr.units
theorem ixU : IxR X (uIx X.K) := ix_seq
theorem slU : SlR X (rSlU X.K) := sl_list.or (sl_tupA.or sl_str)
theorem cIsi : CallR X (.builtin "isinstance") (rIsiU X.K) := call_isi.or (call_isiT.or call_isiK)
theorem cMax (hc : X.calm = true := by rfl) : CallR X (.builtin "max") (rMaxU X.K) := (call_max2 hc).or (cr_max hc)
theorem cMin (hc : X.calm = true := by rfl) : CallR X (.builtin "min") (rMinU X.K) := (call_min2 hc).or (cr_min hc)
theorem cList : CallR X (.type "list") (rListU X.K) := call_list_of
theorem cTuple : CallR X (.type "tuple") (rTupU X.K) := call_tuple_of
end
end Dl
namespace PySem
theorem dl_meets_enum1 {v : Value} {o : Obj} {H : Heap → Prop} (B : Begins v o H) :
    Meets (Builtin.«enumerate.__new__» ⟨[.type "enumerate", v], []⟩) (fun _ R s => H s.heap ∧
      R (.ok (.ret (.ref (s.heap.push o).objs.size))) { s with heap := (s.heap.push o).push { cls := .type "enumerate", data := .fields #[.none, .bool false, .ref s.heap.objs.size, rawInt 0, .none, .none] } }) :=
  .of_wp fun prog w A R s h => by
    obtain ⟨hp, g, d, tk, os⟩ := s; obtain ⟨h1, h⟩ := h
    have hsub := sub_enumerate
    have q1 : ∀ {A' : Around} {E : Value → Shared → Prop} {Q : Value → Shared → Prop}, Q (.ref hp.objs.size) ⟨hp.push o, g, d, tk, os⟩ → wpAny (model prog w) A' (pyIter v) Q E ⟨hp, g, d, tk, os⟩ :=
      fun q => B.iter prog w _ _ ⟨hp, g, d, tk, os⟩ _ h1 q
    wp_walk using q1
    refine wpAny_stack_any fun st => wpAny_pure ?_
    split
    · rename_i c _ _ _ _ _
      cases (c == Value.type "enumerate")
      · wp_walk using q1
        exact ⟨_, rfl, h⟩
      · wp_walk using q1
        exact ⟨_, rfl, h⟩
    · wp_walk using q1
      exact ⟨_, rfl, h⟩
section
variable {prog : Program} {w : World} {A : Around} {E : Value → Shared → Prop} {s : Shared}
theorem dl_enum_begins1 {v : Value} {o : Obj} {H : Heap → Prop} {Q : Value → Shared → Prop} (B : Begins v o H) (h1 : H s.heap)
    (h : ∀ h', IsEnum h' (s.heap.objs.size + 1) s.heap.objs.size 0 .none → h'.get? s.heap.objs.size = some o → h'.objs.size = s.heap.objs.size + 2 →
      (∀ b o, s.heap.get? b = some o → h'.get? b = some o) → Q (.ref (s.heap.objs.size + 1)) { s with heap := h' }) :
    wpAny (model prog w) A (call (.type "enumerate") [v]) Q E s := by
  refine callType_new F.called_enumerate (by decide) (F.typeCall_enumerate_1 _) (F.newCall_enumerate_1 _) (fun obj => F.args_object_init_2 obj _) F.entry_enumerate_new
    (dl_meets_enum1 B) ⟨h1, ?_⟩
  have hz : (s.heap.push o).objs.size = s.heap.objs.size + 1 := Heap.size_push ..
  show _ ∧ _
  rw [hz]
  have he : IsEnum ((s.heap.push o).push { cls := .type "enumerate", data := .fields #[.none, .bool false, .ref s.heap.objs.size, rawInt 0, .none, .none] }) (s.heap.objs.size + 1) s.heap.objs.size 0 .none := by
    have := Heap.get?_push_size (s.heap.push o) (o := { cls := .type "enumerate", data := .fields #[.none, .bool false, .ref s.heap.objs.size, rawInt 0, .none, .none] }) rfl
    rw [hz] at this; exact this
  refine ⟨⟨_, he, rfl⟩, h _ he (Heap.get?_push_of_some _ (Heap.get?_push_size _ B.free)) (by rw [Heap.size_push, hz]) fun b o x => Heap.get?_push_of_some _ (Heap.get?_push_of_some _ x)⟩
end
end PySem
namespace Dl
open PySem PySem.Spec PyProof.Rows L2
def sqB (b : Bool) (K : Frag) (H : Hp) (a : Addr) (xs : List V) : Prop := if b then SqL K H a xs else SqT K H a xs
def itB (b : Bool) (h : Heap) (it a : Addr) (i : Nat) : Prop := if b then h.IsListIter it a i else h.IsTupleIter it a i
def isB (b : Bool) (h : Heap) (a : Addr) (its : Array Value) : Prop := if b then h.IsList a its else h.IsTuple a its
theorem isB_lt {b : Bool} {h : Heap} {a : Addr} {its : Array Value} (x : isB b h a its) : ∃ o, h.get? a = some o := by
  cases b with
  | true => obtain ⟨o, e, _⟩ := (show h.IsList a its from x); exact ⟨o, e⟩
  | false => obtain ⟨o, e, _⟩ := (show h.IsTuple a its from x); exact ⟨o, e⟩
theorem itB_obj {b : Bool} {h : Heap} {it a : Addr} {i : Nat} (x : itB b h it a i) : ∃ o, h.get? it = some o ∧ ∀ v, o.data ≠ .cell v := by
  cases b with
  | true => obtain ⟨o, e, _, d⟩ := (show h.IsListIter it a i from x); exact ⟨o, e, fun v q => by rw [d] at q; cases q⟩
  | false => obtain ⟨o, e, _, d⟩ := (show h.IsTupleIter it a i from x); exact ⟨o, e, fun v q => by rw [d] at q; cases q⟩
theorem itB_at {b : Bool} {h h' : Heap} {it a : Addr} {i : Nat} (x : itB b h it a i) (k : ∀ o, h.get? it = some o → h'.get? it = some o) : itB b h' it a i := by
  cases b with
  | true => exact Heap.IsListIter.at (show h.IsListIter it a i from x) k
  | false => exact Heap.IsTupleIter.at (show h.IsTupleIter it a i from x) k
theorem drawsB (b : Bool) {prog : Program} {w : World} {A : Around} (hh : A.handled = none) (it l : Addr) (hne : l ≠ it) (items : Array Value) :
    Draws prog w A it [it, l] items.size (fun i v => items[i]? = some v) (fun i h => itB b h it l i ∧ isB b h l items) := by
  cases b with
  | true => exact Draws.list hh it l hne items
  | false => exact Draws.tuple hh it l hne items
def objB (b : Bool) (a : Addr) : Obj := if b then { cls := .type "list_iterator", data := .fields #[.ref a, .int 0 0] } else { cls := .type "tuple_iterator", data := .fields #[.ref a, .int 0 0] }
theorem beginsB (b : Bool) (l : Addr) (items : Array Value) : Begins (.ref l) (objB b l) fun h => isB b h l items := by
  cases b with
  | true => exact begins_list l items
  | false => exact begins_tuple l items
theorem itB_new {b : Bool} {h : Heap} {it a : Addr} (e : h.get? it = some (objB b a)) : itB b h it a 0 := by
  cases b with
  | true => exact ⟨_, e, rfl, rfl⟩
  | false => exact ⟨_, e, rfl, rfl⟩
section
variable {X : Cx} {pins : List (Addr × Obj)} {σ : L2.St} {H : Hp} {s : Shared}
theorem invSqB {b : Bool} {a : Addr} {xs : List V} (I : L2.Inv X pins σ H s) (h : sqB b X.K H a xs) : ∃ its : List Value, Vals xs its ∧ isB b s.heap a its.toArray ∧ xs.length ≤ sizeLine := by
  cases b with
  | true =>
    obtain ⟨its, r, p, z⟩ := I.list (show SqL X.K H a xs from h)
    exact ⟨its, r, p.isList, z⟩
  | false =>
    obtain ⟨its, r, p, z⟩ := I.tuple (show SqT X.K H a xs from h)
    exact ⟨its, r, p, z⟩
theorem invSqB_inj {b : Bool} {a : Addr} {xs ys : List V} (I : L2.Inv X pins σ H s) (h : sqB b X.K H a xs) (h' : sqB b X.K H a ys) : xs = ys := by
  cases b with
  | true => exact I.list_inj h h'
  | false => exact I.tuple_inj h h'
end
def Itb (b : Bool) (k0 : Int) (K : Frag) (a : Addr) : It :=
  ⟨fun i H => ∃ (xs : List V) (x : V), sqB b K H a xs ∧ xs[i]? = some x, fun i H v H' => ∃ T x, v = .ref T ∧ H T = none ∧ H' = upd H T (.tup [.int (k0 + (i : Nat)), x]) ∧ ∀ xs, sqB b K H a xs → xs[i]? = some x, fun i H => ∃ xs : List V, sqB b K H a xs ∧ xs.length = i⟩
theorem turn_enumB {P : Program} {w : World} {K : Frag} {elts : List Expr} {kk : Nat} {tpos : Pos} (b : Bool) (k0 : Int) (a e it : Addr) (hna : a ≠ e ∧ a ≠ it) :
    Turn P w K (.Tuple elts kk tpos) (Itb b k0 K a) [e, it] e (fun i h => (∃ old, IsEnum h e it (k0 + ((i : Nat) : Int)) old) ∧ itB b h it a i ∧ e ≠ it) where
  mem := by simp
  obj := fun i h st c hb => by
    obtain ⟨⟨old, he⟩, hit, _⟩ := st
    have e' : c = e ∨ c = it := by simpa using hb
    rcases e' with z | z
    · rw [z]; exact ⟨_, he, fun v q => nomatch q⟩
    · rw [z]; exact itB_obj hit
  keep := fun i h h' st k => let ⟨⟨old, he⟩, hi, hne⟩ := st; ⟨⟨old, k e (by simp) _ he⟩, itB_at hi fun o q => k it (by simp) o q, hne⟩
  item := by
    intro X hP hw hK hc i pins s σ H E I hf st hg
    subst hP hw hK
    obtain ⟨⟨old, he⟩, hit, hne⟩ := st
    obtain ⟨xs, x, hq, hx⟩ := hg
    obtain ⟨its, rv, p, hz⟩ := invSqB I hq
    obtain ⟨u, hu, ru⟩ := rv.get hx
    have hel : e < s.heap.objs.size := Heap.lt_size he
    have hil : it < s.heap.objs.size := by obtain ⟨_, q, _⟩ := itB_obj hit; exact Heap.lt_size q
    have hlen : i < its.toArray.size := by
      have := (List.getElem?_eq_some_iff.mp hu).1
      simpa using this
    refine wpAny_pyNext_enum_itemC (drawsB b (A := X.A.in1) (I.ok.hd hc) it a hna.2 its.toArray) he ⟨hit, p⟩ hlen hne (by
      simp only [List.mem_cons, List.not_mem_nil, or_false, not_or]
      exact ⟨hne, fun z => hna.1 z.symm⟩) fun x' h' tk hx' ho hst' hT hsz hk => ?_
    obtain ⟨hit', _⟩ := hst'
    have ex : x' = u := by
      have : its[i]? = some x' := by simpa using hx'
      rw [hu] at this
      exact (Option.some.inj this).symm
    subst ex
    refine ⟨_, rfl, wpAny_letOwnedTupleGo_enum (s := { s with heap := h', toks := tk + 1 }) ho fun h'' he' sb => ?_⟩
    have hT2 : h''.get? s.heap.objs.size = some { cls := .type "tuple", data := .seq #[.int (k0 + (i : Nat)) tk, x'] } := (sb.2 _ (Nat.ne_of_gt hel)).trans hT
    have new : ObjOk X.prog X.w (upd H s.heap.objs.size (.tup [.int (k0 + (i : Nat)), x])) h'' s.heap.objs.size (.tup [.int (k0 + (i : Nat)), x]) :=
      ⟨by show 2 ≤ sizeLine; decide, [.int (k0 + (i : Nat)) tk, x'], .cons ⟨_, rfl⟩ (.cons ru .nil), ⟨_, hT2, rfl, _, rfl⟩⟩
    have I1 : L2.Inv X pins σ (upd H s.heap.objs.size (.tup [.int (k0 + (i : Nat)), x])) { s with heap := h'', toks := tk + 1 } :=
      I.turnedNew (ch := [e, it]) (fun b ob hb q => (sb.2 b (fun z => hb (by simp [z]))).trans (hk b ob (fun z => hb (by simp [z])) (fun z => hb (by simp [z])) q)) hf (Nat.le_refl _) new
    refine ⟨.ref s.heap.objs.size, _, I1, rfl, ⟨_, x, rfl, I.hok.fresh (Nat.le_refl _), rfl, fun ys hy => by rw [invSqB_inj I hy hq]; exact hx⟩, ⟨⟨x', ?_⟩, itB_at hit' fun o q => (sb.2 it (Ne.symm hne)).trans q, hne⟩, fun c hb => ?_⟩
    · have e1 : k0 + ((i + 1 : Nat) : Int) = k0 + (i : Int) + 1 := by omega
      rw [e1]; exact he'
    · have hb' : c < s.heap.objs.size := by
        have e' : c = e ∨ c = it := by simpa using hb
        rcases e' with z | z
        · rw [z]; exact hel
        · rw [z]; exact hil
      rw [upd_ne (Nat.ne_of_lt hb')]
      exact (hf c hb).1
  done := by
    intro X hP hw hK hc i pins s σ H E I hf st hg
    subst hP hw hK
    obtain ⟨⟨old, he⟩, hit, hne⟩ := st
    obtain ⟨xs, hq, hx⟩ := hg
    obtain ⟨its, rv, p, hz⟩ := invSqB I hq
    obtain ⟨f0, f1, f2, f3, f4, f5⟩ := hf it (by simp)
    have hl := rv.length
    have hi : its.toArray.size = i := by simp; omega
    have D := drawsB b (prog := X.prog) (w := X.w) (A := X.A.in1) (I.ok.hd hc) it a hna.2 its.toArray
    rw [hi] at D
    exact wpAny_pyNext_enum_endD D he ⟨hit, p⟩ fun h' eb => ⟨rfl, I.turned (t' := s.toks) (fun b o hb q => eb b o hb q) f0 f1 f3 f4 f5⟩
  self := fun A i s Q E st h => let ⟨⟨_, he⟩, _⟩ := st; wpAny_pyIter_enum he h
def iEnB (K : Frag) (k0 : Int) (x : V) (H : Hp) (R : It → Hp → Prop) : Prop := ∃ (b : Bool) (a : Addr) (xs : List V), x = .ref a ∧ sqB b K H a xs ∧ (xs.length ≤ sizeLine → R (Itb b k0 K a) H)
def iEnumU (K : Frag) (ta : TA) : TI := fun σ H R => ta σ H fun vs H1 => ∃ x, vs = [x] ∧ iEnB K 0 x H1 R
def iEnumS (K : Frag) (ta : TA) : TI := fun σ H R => ta σ H fun vs H1 => ∃ x k0, vs = [x, .int k0] ∧ -(2 ^ 63) ≤ k0 ∧ k0 < 2 ^ 63 ∧ iEnB K k0 x H1 R
section
variable {X : Cx} {e e2 : Expr} {ta : TA} {p pos tpos : Pos} {elts : List Expr} {kk : Nat}
theorem pi_enB {pins : List (Addr × Obj)} {σ : L2.St} {H1 : Hp} {s1 : Shared} {R : It → Hp → Prop} {b : Bool} {k0 : Int} {a : Addr} {xs : List V} {h' : Heap} (I1 : L2.Inv X pins σ H1 s1) (hq : sqB b X.K H1 a xs) (q : xs.length ≤ sizeLine → R (Itb b k0 X.K a) H1)
    (he : IsEnum h' (s1.heap.objs.size + 1) s1.heap.objs.size k0 .none) (hit : h'.get? s1.heap.objs.size = some (objB b a)) (hk : ∀ b o, s1.heap.get? b = some o → h'.get? b = some o) :
    wpAny (model X.prog X.w) X.A (pyIter (.ref (s1.heap.objs.size + 1))) (PIE X pins σ (.Tuple elts kk tpos) R) X.xe { s1 with heap := h' } := by
  obtain ⟨its, rv, p', hz⟩ := invSqB I1 hq
  refine wpAny_pyIter_enum he ?_
  have I2 : L2.Inv X pins σ H1 { s1 with heap := h' } := I1.kept (t' := s1.toks) hk
  have ha : a < s1.heap.objs.size := by obtain ⟨o, e⟩ := isB_lt p'; exact Heap.lt_size e
  refine ⟨s1.heap.objs.size + 1, [s1.heap.objs.size + 1, s1.heap.objs.size], _, _, H1, rfl, I2, turn_enumB b k0 a (s1.heap.objs.size + 1) s1.heap.objs.size ⟨Nat.ne_of_lt (Nat.lt_succ_of_lt ha), Nat.ne_of_lt ha⟩, ⟨⟨.none, by simpa using he⟩, itB_new hit, Nat.succ_ne_self _⟩, fun c hb => ?_, q hz⟩
  have e' : c = s1.heap.objs.size + 1 ∨ c = s1.heap.objs.size := by simpa using hb
  have hle : s1.heap.objs.size ≤ c := by
    rcases e' with z | z
    · rw [z]; exact Nat.le_add_right _ _
    · rw [z]; exact Nat.le_refl _
  exact I1.fpOk hle (I1.hok.fresh hle)
theorem pi_enumU (hg : Gl X "enumerate") (hm : X.mg "enumerate" = none) (ha : PA X [e] ta) (hs : starEach [e] X.env = [(false, eval e X.env)] := by rfl) :
    PI X (.Tuple elts kk tpos) (.Call (.Name "enumerate" p) [e] [] pos) (iEnumU X.K ta) := by
  refine ⟨fun pins s σ H R I h => ?_⟩
  refine Call_ (ld_blt I hg hm boot_enumerate (PyProof.Rows.callWith_type1 (thn (ha.run pos pins s σ H _ I h) fun us s1 ⟨vs, H1, I1, r1, q1⟩ => ?_) hs rfl))
  obtain ⟨x, ex, b, a, xs, rfl, hq, q⟩ := q1
  subst ex
  cases r1 with
  | cons r rr =>
    cases rr
    cases r
    obtain ⟨its, rv, p', hz⟩ := invSqB I1 hq
    exact dl_enum_begins1 (beginsB b a its.toArray) p' fun h' he hit hsz hk => pi_enB I1 hq q he hit hk
theorem pi_enumS (hg : Gl X "enumerate") (hm : X.mg "enumerate" = none) (ha : PA X [e, e2] ta) (hs : starEach [e, e2] X.env = (false, eval e X.env) :: starEach [e2] X.env := by rfl) (hpl : (backTo pos (starEach [e2] X.env)).any (·.1) = false := by rfl) :
    PI X (.Tuple elts kk tpos) (.Call (.Name "enumerate" p) [e, e2] [] pos) (iEnumS X.K ta) := by
  refine ⟨fun pins s σ H R I h => ?_⟩
  refine Call_ (ld_blt I hg hm boot_enumerate (PyProof.Rows.callWith_type1 (thn (ha.run pos pins s σ H _ I h) fun us s1 ⟨vs, H1, I1, r1, q1⟩ => ?_) hs hpl))
  obtain ⟨x, k0, ex, hk1, hk2, b, a, xs, rfl, hq, q⟩ := q1
  subst ex
  cases r1 with
  | cons r rr =>
    cases rr with
    | cons r2 rr =>
      cases rr
      cases r
      obtain ⟨t, rfl⟩ := r2
      obtain ⟨its, rv, p', hz⟩ := invSqB I1 hq
      exact enum_begins (beginsB b a its.toArray) p' hk1 hk2 fun h' he hit hsz hk => pi_enB I1 hq q he hit hk
end
end Dl
namespace Dl
open PySem PySem.Spec PyProof.Rows L2
variable {K : Frag} {Γ : List Sl} {k : Sl → List Sl → Prop} {O : Out}
theorem sq_of_dat {S H : Hp} {v : V} {d : PyData} {ds : List PyData} (l : Le S H) (h : Dd K S v d) (e : seqD d = some ds) : ∃ (b : Bool) (a : Addr) (xs : List V), v = .ref a ∧ sqB b K H a xs ∧ DdAll K S xs ds ∧ (∀ H', Le S H' → sqB b K H' a xs) ∧ (b = true → Rd S a (.lst xs) ∧ d = .list ds) ∧ (b = false → SqT K S a xs ∧ d = .tuple ds) := by
  cases h with
  | lst h1 h2 => cases e; exact ⟨true, _, _, rfl, l.sqL (.inl h1), h2, fun H' l' => l'.sqL (.inl h1), fun _ => ⟨h1, rfl⟩, fun q => nomatch q⟩
  | tup h1 h2 => cases e; exact ⟨false, _, _, rfl, l.sqT h1, h2, fun H' l' => l'.sqT h1, (fun q => nomatch q), fun _ => ⟨h1, rfl⟩⟩
  | _ => cases e
theorem i_enB {k0 : Int} {σ : List (Option V)} {S1 H1 : Hp} {fs1 : List (List Addr)} {v : V} {d : PyData} {ds : List PyData} {Γ1 : List Sl} {R : It → Hp → Prop} {σ' : List (Option V)} (w1 : Wd K σ Γ1 S1 H1 fs1) (hd : Dd K S1 v d) (hs : seqD d = some ds)
    (P : ds.length ≤ sizeLine → ∀ J : It, (∀ i σ2 Γ2 S2 H2 fs2, i ≤ ds.length → Wd K σ2 Γ2 S2 H2 fs2 → Step S1 H1 fs1.flatten S2 H2 fs2.flatten →
      (i < ds.length → J.go i H2 ∧ ∀ x H', J.yld i H2 x H' → ∃ S', Wd K (some x :: σ2) (.dat (.tuple [.int (k0 + (i : Int)), ds.getD i .none]) :: Γ2) S' H' ([] :: fs2) ∧ Step S2 H2 fs2.flatten S' H' fs2.flatten) ∧ (i = ds.length → J.stop i H2)) → R J H1) : iEnB K k0 v H1 R := by
  obtain ⟨b, a, xs, rfl, hq, ha, hq', _, _⟩ := sq_of_dat w1.good.sub hd hs
  have hl := dps_len ha
  refine ⟨b, a, xs, rfl, hq, fun hz => P (by omega) _ fun i σ2 Γ2 S2 H2 fs2 hi w2 st2 => ⟨fun hlt => ?_, fun he => ?_⟩⟩
  · have hq2 := hq' H2 (st2.le.trans w2.good.sub)
    refine ⟨⟨xs, xs[i]'(by omega), hq2, List.getElem?_eq_getElem (by omega)⟩, fun x H' y => ?_⟩
    obtain ⟨T, u, rfl, hT, rfl, hy⟩ := y
    have hu := hy xs hq2
    obtain ⟨d', h1, h2⟩ := dps_get ha hu
    obtain ⟨w3, st3⟩ := alloc (.tup [.int (k0 + (i : Nat)), u]) w2 hT
    refine ⟨_, w3.put ⟨rfl, _, rfl, ?_⟩, st3⟩
    rw [List.getD_eq_getElem?_getD, h1]
    exact dp_tup_new (w2.good.sub.none hT) (.cons (.int _) (.cons (st2.le.dp h2) .nil))
  · exact ⟨xs, hq' H2 (st2.le.trans w2.good.sub), by omega⟩
theorem i_enumU {ta : TA} {ki : (Nat → Sl) → Nat → (List Sl → Prop) → List Sl → Prop} (h : EvA K ta Γ fun rs Γ1 => ∃ d ds, rs = [.dat d] ∧ seqD d = some ds ∧ (ds.length ≤ sizeLine → ki (fun i => .dat (.tuple [.int (i : Int), ds.getD i .none])) ds.length (fun _ => True) Γ1)) : EvI K (iEnumU K ta) Γ ki := by
  intro σ S H fs R w P
  refine h σ S H fs _ w fun vs rs Γ1 S1 H1 frs fs1 hb l1 l2 w1 st1 => ?_
  obtain ⟨d, ds, rfl, hs, hk⟩ := hb
  match vs, frs, l1, l2, w1, st1 with
  | [v], [f], _, _, w1, st1 =>
    have w1' : Wd K (some v :: σ) (.dat d :: Γ1) S1 H1 (f :: fs1) := w1
    obtain ⟨e0, v', e1, hd⟩ := w1'.hd
    subst e0
    cases e1
    refine ⟨v, rfl, i_enB (σ' := σ) w1'.tl hd hs fun hz J hJ => P J _ _ _ Γ1 S1 H1 fs1 (fun _ _ h => h) (hk hz) w1'.tl (by simpa using st1) fun i σ2 Γ2 S2 H2 fs2 hi _ w2 st2 => ?_⟩
    have := hJ i σ2 Γ2 S2 H2 fs2 hi w2 st2
    simpa using this
  | [], _, l1, _, _, _ => simp at l1
  | _ :: _ :: _, _, l1, _, _, _ => simp at l1
  | [_], [], _, l2, _, _ => simp at l2
  | [_], _ :: _ :: _, _, l2, _, _ => simp at l2
theorem i_enumS {ta : TA} {ki : (Nat → Sl) → Nat → (List Sl → Prop) → List Sl → Prop} (h : EvA K ta Γ fun rs Γ1 => ∃ d ds k0, rs = [.dat d, .dat (.int k0)] ∧ -(2 ^ 63) ≤ k0 ∧ k0 < 2 ^ 63 ∧ seqD d = some ds ∧ (ds.length ≤ sizeLine → ki (fun i => .dat (.tuple [.int (k0 + (i : Int)), ds.getD i .none])) ds.length (fun _ => True) Γ1)) : EvI K (iEnumS K ta) Γ ki := by
  intro σ S H fs R w P
  refine h σ S H fs _ w fun vs rs Γ1 S1 H1 frs fs1 hb l1 l2 w1 st1 => ?_
  obtain ⟨d, ds, k0, rfl, hk1, hk2, hs, hk⟩ := hb
  match vs, frs, l1, l2, w1, st1 with
  | [v, u], [f, f'], _, _, w1, st1 =>
    have w1' : Wd K (some v :: some u :: σ) (.dat d :: .dat (.int k0) :: Γ1) S1 H1 (f :: f' :: fs1) := w1
    obtain ⟨e0, v', e1, hd⟩ := w1'.hd
    obtain ⟨e0', u', e1', hu⟩ := w1'.tl.hd
    subst e0 e0'
    cases e1; cases e1'; cases hu
    refine ⟨v, k0, rfl, hk1, hk2, i_enB (σ' := σ) w1'.tl.tl hd hs fun hz J hJ => P J _ _ _ Γ1 S1 H1 fs1 (fun _ _ h => h) (hk hz) w1'.tl.tl (by simpa using st1) fun i σ2 Γ2 S2 H2 fs2 hi _ w2 st2 => hJ i σ2 Γ2 S2 H2 fs2 hi w2 st2⟩
  | [], _, l1, _, _, _ => simp at l1
  | [_], _, l1, _, _, _ => simp at l1
  | _ :: _ :: _ :: _, _, l1, _, _, _ => simp at l1
  | [_, _], [], _, l2, _, _ => simp at l2
  | [_, _], [_], _, l2, _, _ => simp at l2
  | [_, _], _ :: _ :: _ :: _, _, l2, _, _ => simp at l2
def CbK (K : Frag) (r : List V → Hp → VK → Prop) (rs : List Sl) (Γ : List Sl) (k : Sl → List Sl → Prop) : Prop :=
  ∀ σ S H frs fs vs Q, vs.length = rs.length → frs.length = rs.length → Wd K (vs.map some ++ σ) (rs ++ Γ) S H (frs ++ fs) → Post K σ S H (frs ++ fs).flatten k Q → r vs H Q
theorem e_cb {r : List V → Hp → VK → Prop} {ta : TA} (h : EvA K ta Γ fun rs Γ1 => CbK K r rs Γ1 k) : EvP K (tCB r ta) Γ k := fun σ S H fs Q w P =>
  h σ S H fs _ w fun vs rs Γ1 S1 H1 frs fs1 hc l1 l2 w1 st1 => hc σ S1 H1 frs fs1 vs Q l1 l2 w1 (P.trans st1)
theorem cb1 {r : List V → Hp → VK → Prop} {d : PyData} (h : ∀ σ S H fs v Q, Wd K σ Γ S H fs → Dd K S v d → Post K σ S H fs.flatten k Q → r [v] H Q) : CbK K r [.dat d] Γ k := by
  intro σ S H frs fs vs Q l1 l2 w P
  match vs, frs, l1, l2, w, P with
  | [v], [f], _, _, w, P =>
    have w' : Wd K (some v :: σ) (.dat d :: Γ) S H (f :: fs) := w
    obtain ⟨e0, v', e1, hd⟩ := w'.hd
    subst e0
    cases e1
    exact h σ S H fs v Q w'.tl hd (P.trans (Step.refl.sub fun a ha => by simpa using ha))
  | [], _, l1, _, _, _ => simp at l1
  | _ :: _ :: _, _, l1, _, _, _ => simp at l1
  | [_], [], _, l2, _, _ => simp at l2
  | [_], _ :: _ :: _, _, l2, _, _ => simp at l2
theorem cb1r {r : List V → Hp → VK → Prop} {d : PyData} {u : V} (h : ∀ σ S H fs v Q, Wd K σ Γ S H fs → Dd K S v d → Post K σ S H fs.flatten k Q → r [v, u] H Q) : CbK K r [.dat d, .raw u] Γ k := by
  intro σ S H frs fs vs Q l1 l2 w P
  match vs, frs, l1, l2, w, P with
  | [v, u'], [f, f'], _, _, w, P =>
    have w' : Wd K (some v :: some u' :: σ) (.dat d :: .raw u :: Γ) S H (f :: f' :: fs) := w
    obtain ⟨e0, v', e1, hd⟩ := w'.hd
    obtain ⟨e0', e1'⟩ := w'.tl.hd
    subst e0 e0'
    cases e1; cases e1'
    exact h σ S H fs v Q w'.tl.tl hd (P.trans (Step.refl.sub fun a ha => by simpa using ha))
  | [], _, l1, _, _, _ => simp at l1
  | [_], _, l1, _, _, _ => simp at l1
  | _ :: _ :: _ :: _, _, l1, _, _, _ => simp at l1
  | [_, _], [], _, l2, _, _ => simp at l2
  | [_, _], [_], _, l2, _, _ => simp at l2
  | [_, _], _ :: _ :: _ :: _, _, l2, _, _ => simp at l2
theorem cb2 {r : List V → Hp → VK → Prop} {d d2 : PyData} (h : ∀ σ S H fs v u Q, Wd K σ Γ S H fs → Dd K S v d → Dd K S u d2 → Post K σ S H fs.flatten k Q → r [v, u] H Q) : CbK K r [.dat d, .dat d2] Γ k := by
  intro σ S H frs fs vs Q l1 l2 w P
  match vs, frs, l1, l2, w, P with
  | [v, u'], [f, f'], _, _, w, P =>
    have w' : Wd K (some v :: some u' :: σ) (.dat d :: .dat d2 :: Γ) S H (f :: f' :: fs) := w
    obtain ⟨e0, v', e1, hd⟩ := w'.hd
    obtain ⟨e0', v'', e1', hu⟩ := w'.tl.hd
    subst e0 e0'
    cases e1; cases e1'
    exact h σ S H fs v u' Q w'.tl.tl hd hu (P.trans (Step.refl.sub fun a ha => by simpa using ha))
  | [], _, l1, _, _, _ => simp at l1
  | [_], _, l1, _, _, _ => simp at l1
  | _ :: _ :: _ :: _, _, l1, _, _, _ => simp at l1
  | [_, _], [], _, l2, _, _ => simp at l2
  | [_, _], [_], _, l2, _, _ => simp at l2
  | [_, _], _ :: _ :: _ :: _, _, l2, _, _ => simp at l2
def tyD : PyData → String
  | .none => "NoneType"
  | .bool _ => "bool"
  | .int _ => "int"
  | .str _ => "str"
  | .list _ => "list"
  | .tuple _ => "tuple"
  | .dict _ => "dict"
theorem dd_ty {S H : Hp} {v : V} {d : PyData} (l : Le S H) (h : Dd K S v d) : TyX K H v (.type (tyD d)) := by
  cases h with
  | non => exact .base .non
  | bl b => exact .base (.bl b)
  | int i => exact .base (.int i)
  | str x => exact .base (.str x)
  | lst h _ =>
    rcases h with h | ⟨o, h⟩
    · exact .base (.lst (l _ _ h))
    · exact .base (.frz (l _ _ h))
  | tup h _ =>
    rcases h with (h | ⟨o, h⟩) | ⟨o, its, n, h1, h2, _⟩
    · exact .base (.tup (l _ _ h))
    · exact .fTuple (l _ _ h)
    · exact .kTuple h1 h2
def isT (T : String) (d : PyData) : Bool := match d with
  | .none => T == "NoneType"
  | .bool _ => T == "bool" || T == "int"
  | .int _ => T == "int"
  | .str _ => T == "str"
  | .list _ => T == "list"
  | .tuple _ => T == "tuple"
  | .dict _ => T == "dict"
theorem kit_isT (d : PyData) {T : String} (hT : T = "int" ∨ T = "bool" ∨ T = "str" ∨ T = "list" ∨ T = "tuple" ∨ T = "dict") : kitB (tyD d) T = some (isT T d) := by
  rcases hT with rfl | rfl | rfl | rfl | rfl | rfl <;> cases d <;> (simp only [tyD, isT]; decide +kernel)
theorem cb_isi {T : String} {d : PyData} (hT : T = "int" ∨ T = "bool" ∨ T = "str" ∨ T = "list" ∨ T = "tuple" ∨ T = "dict" := by decide) (hk : k (.dat (.bool (isT T d))) Γ) : CbK K (rIsiU K) [.dat d, .raw (.ty T)] Γ k :=
  cb1r fun σ S H fs v Q w hd P => .inl ⟨v, .ty T, _, _, _, rfl, .ty T, dd_ty w.good.sub hd, kit_ty (kit_isT d hT), P.dat w hk (.bl _)⟩
def lenD : PyData → Option Nat
  | .str y => if y.length ≤ sizeLine then some y.length else none
  | .list ds => some ds.length
  | .tuple ds => some ds.length
  | _ => none
theorem cb_len {d : PyData} {n : Nat} (e : lenD d = some n) (hk : k (.dat (.int n)) Γ) : CbK K (rLen K) [.dat d] Γ k :=
  cb1 fun σ S H fs v Q w hd P => by
    refine ⟨v, n, rfl, ?_, P.dat w hk (.int _)⟩
    cases hd with
    | str x =>
      have e' : (if x.length ≤ sizeLine then some x.length else none) = some n := e
      by_cases hx : x.length ≤ sizeLine
      · rw [if_pos hx] at e'
        exact ⟨hx, (Option.some.inj e').symm⟩
      · rw [if_neg hx] at e'
        cases e'
    | lst h hs => exact .inl ⟨_, w.good.sub.sqL (.inl h), by rw [dps_len hs]; exact (Option.some.inj e).symm⟩
    | tup h hs => exact .inr ⟨_, w.good.sub.sqT h, by rw [dps_len hs]; exact (Option.some.inj e).symm⟩
    | _ => cases e
theorem cb_list {d : PyData} {ds : List PyData} (e : seqD d = some ds) (hk : k (.dat (.list ds)) Γ) : CbK K (rListU K) [.dat d] Γ k :=
  cb1 fun σ S H fs v Q w hd P => by
    obtain ⟨b, a, xs, rfl, hq, ha, _, h1, h2⟩ := sq_of_dat w.good.sub hd e
    refine ⟨a, xs, rfl, ?_, fun p hp => P.new w hk hp (dp_lst_new (w.good.sub.none hp) ha)⟩
    cases b with
    | true => exact .inl hq
    | false => exact .inr hq
theorem cb_listO {d : PyData} {ds : List PyData} (e : seqD d = some ds) (hk : ∀ a, k (.res (ownL a ds)) Γ) : CbK K (rListU K) [.dat d] Γ k :=
  cb1 fun σ S H fs v Q w hd P => by
    obtain ⟨b, a, xs, rfl, hq, ha, _, h1, h2⟩ := sq_of_dat w.good.sub hd e
    refine ⟨a, xs, rfl, ?_, fun p hp => ?_⟩
    · cases b with
      | true => exact .inl hq
      | false => exact .inr hq
    · obtain ⟨w3, st3⟩ := allocOwn w hp ha
      exact P _ _ _ S _ [p] fs (hk p) w3 st3
theorem cb_tuple {d : PyData} {ds : List PyData} (e : seqD d = some ds) (hk : k (.dat (.tuple ds)) Γ) : CbK K (rTupU K) [.dat d] Γ k :=
  cb1 fun σ S H fs v Q w hd P => by
    obtain ⟨b, a, xs, rfl, hq, ha, _, h1, h2⟩ := sq_of_dat w.good.sub hd e
    refine ⟨a, xs, rfl, ?_⟩
    cases b with
    | true => exact .inl ⟨hq, fun p hp => P.new w hk hp (dp_tup_new (w.good.sub.none hp) ha)⟩
    | false =>
      obtain ⟨_, rfl⟩ := h2 rfl
      exact .inr ⟨hq, P.dat w hk hd⟩
theorem cb_max2 {i j : Int} (hk : k (.dat (.int (if j > i then j else i))) Γ) : CbK K (rMaxU K) [.dat (.int i), .dat (.int j)] Γ k :=
  cb2 fun σ S H fs v u Q w hd hu P => by cases hd; cases hu; exact .inl ⟨i, j, rfl, P.dat w hk (.int _)⟩
theorem cb_min2 {i j : Int} (hk : k (.dat (.int (if j < i then j else i))) Γ) : CbK K (rMinU K) [.dat (.int i), .dat (.int j)] Γ k :=
  cb2 fun σ S H fs v u Q w hd hu P => by cases hd; cases hu; exact .inl ⟨i, j, rfl, P.dat w hk (.int _)⟩
theorem cb_abs {i : Int} (hk : k (.dat (.int (if i < 0 then -i else i))) Γ) : CbK K (rAbs K) [.dat (.int i)] Γ k :=
  cb1 fun σ S H fs v Q w hd P => by cases hd; exact ⟨i, rfl, P.dat w hk (.int _)⟩
theorem cb_int {i : Int} (hk : k (.dat (.int i)) Γ) : CbK K (rInt1 K) [.dat (.int i)] Γ k :=
  cb1 fun σ S H fs v Q w hd P => by cases hd; exact .inl ⟨i, rfl, P.dat w hk (.int _)⟩
theorem op_add_i {i j : Int} (hk : k (.dat (.int (i + j))) Γ) : OpK K (uAdd K) (.dat (.int i)) (.dat (.int j)) Γ k := op_or_l (op_I0 (fun _ => .int _) hk)
theorem op_add_s {i j : Str} (hz : i.length + j.length ≤ sizeLine) (hk : k (.dat (.str (i ++ j))) Γ) : OpK K (uAdd K) (.dat (.str i)) (.dat (.str j)) Γ k :=
  op_or_r (op_or_l (op_pure (fun S H x y Q _ h1 h2 q => by cases h1; cases h2; exact ⟨i, j, rfl, rfl, hz, q _ (.str _)⟩) hk))
theorem dps_app {S : Hp} : ∀ {as bs : List V} {cs ds : List PyData}, DdAll K S as cs → DdAll K S bs ds → DdAll K S (as ++ bs) (cs ++ ds)
  | _, _, _, _, .nil, h => h
  | _, _, _, _, .cons a b, h => .cons a (dps_app b h)
theorem op_new {r : R2} {d1 d2 d : PyData} (hr : ∀ σ S H fs x y Q, Wd K σ Γ S H fs → Dd K S x d1 → Dd K S y d2 → Post K σ S H fs.flatten k Q → r x y H Q) : OpK K r (.dat d1) (.dat d2) Γ k := by
  intro σ S H f1 f2 fs x y Q w P
  obtain ⟨_, x', e1, h1⟩ := w.hd
  obtain ⟨_, y', e2, h2⟩ := w.tl.hd
  cases e1; cases e2
  exact hr σ S H fs x y Q w.tl.tl h1 h2 (Post.drop2 P)
theorem op_add_l {xs ys : List PyData} (hz : xs.length + ys.length ≤ sizeLine) (hk : k (.dat (.list (xs ++ ys))) Γ) : OpK K (uAdd K) (.dat (.list xs)) (.dat (.list ys)) Γ k :=
  op_or_r (op_or_r (op_or_l (op_new (d := .none) fun σ S H fs x y Q w h1 h2 P => by
    cases h1 with
    | lst a1 a2 =>
      cases h2 with
      | lst b1 b2 =>
        exact ⟨_, _, _, _, rfl, rfl, w.good.sub.rd a1, w.good.sub.rd b1, by rw [dps_len a2, dps_len b2]; exact hz, fun p hp => P.new w hk hp (dp_lst_new (w.good.sub.none hp) (dps_app a2 b2))⟩)))
theorem op_add_t {xs ys : List PyData} (hz : xs.length + ys.length ≤ sizeLine) (hk : k (.dat (.tuple (xs ++ ys))) Γ) : OpK K (uAdd K) (.dat (.tuple xs)) (.dat (.tuple ys)) Γ k :=
  op_or_r (op_or_r (op_or_r (op_new (d := .none) fun σ S H fs x y Q w h1 h2 P => by
    cases h1 with
    | tup a1 a2 =>
      cases h2 with
      | tup b1 b2 =>
        refine ⟨_, _, _, _, rfl, rfl, w.good.sub.sqT a1, w.good.sub.sqT b1, by rw [dps_len a2, dps_len b2]; exact hz, fun e => ?_, fun _ e => ?_, fun _ _ p hp => P.new w hk hp (dp_tup_new (w.good.sub.none hp) (dps_app a2 b2))⟩
        · subst e
          cases a2
          exact P.dat w hk (.tup b1 b2)
        · subst e
          cases b2
          rw [List.append_nil] at hk
          exact P.dat w hk (.tup a1 a2))))
theorem op_sub_i {i j : Int} (hk : k (.dat (.int (i - j))) Γ) : OpK K (uSub K) (.dat (.int i)) (.dat (.int j)) Γ k := op_I0 (fun _ => .int _) hk
theorem op_mul_i {i j : Int} (hc : CMul i j) (hk : k (.dat (.int (i * j))) Γ) : OpK K (uMul K) (.dat (.int i)) (.dat (.int j)) Γ k := op_or_l (op_I hc (fun _ => .int _) hk)
theorem op_mul_w {i j : Int} (hc : CMulW i j) (hk : k (.dat (.int (i * j))) Γ) : OpK K (uMul K) (.dat (.int i)) (.dat (.int j)) Γ k := op_or_r (op_or_l (op_I hc (fun _ => .int _) hk))
theorem op_fdiv_i {i j : Int} (hc : 0 < j ∧ j < 1073741824) (hk : k (.dat (.int (i / j))) Γ) : OpK K (uFDiv K) (.dat (.int i)) (.dat (.int j)) Γ k := op_or_l (op_I hc (fun _ => .int _) hk)
theorem op_fdiv_w {i j : Int} (hc : CDivW i j) (hk : k (.dat (.int (i / j))) Γ) : OpK K (uFDiv K) (.dat (.int i)) (.dat (.int j)) Γ k := op_or_r (op_I hc (fun _ => .int _) hk)
theorem op_mod_i {i j : Int} (hc : 0 < j) (hk : k (.dat (.int (i % j))) Γ) : OpK K (uMod K) (.dat (.int i)) (.dat (.int j)) Γ k := op_I hc (fun _ => .int _) hk
theorem op_pow_i {i j : Int} (hc : CPow i j) (hk : k (.dat (.int (i ^ j.toNat))) Γ) : OpK K (uPow K) (.dat (.int i)) (.dat (.int j)) Γ k := op_I hc (fun _ => .int _) hk
theorem op_lt_i {i j : Int} (hk : k (.dat (.bool (decide (i < j)))) Γ) : OpK K (uLt K) (.dat (.int i)) (.dat (.int j)) Γ k := op_or_l (op_I0 (fun _ => .bl _) hk)
theorem op_le_i {i j : Int} (hk : k (.dat (.bool (decide (i ≤ j)))) Γ) : OpK K (uLe K) (.dat (.int i)) (.dat (.int j)) Γ k := op_I0 (fun _ => .bl _) hk
theorem op_gt_i {i j : Int} (hk : k (.dat (.bool (decide (j < i)))) Γ) : OpK K (uGt K) (.dat (.int i)) (.dat (.int j)) Γ k := op_I0 (fun _ => .bl _) hk
theorem op_ge_i {i j : Int} (hk : k (.dat (.bool (decide (j ≤ i)))) Γ) : OpK K (uGe K) (.dat (.int i)) (.dat (.int j)) Γ k := op_I0 (fun _ => .bl _) hk
theorem op_eq_d {d e : PyData} (h1 : SeqAt.shaped d = true) (h2 : SeqAt.shaped e = true) (hk : k (.dat (.bool (PyData.eqv d e))) Γ) : OpK K (uEq K) (.dat d) (.dat e) Γ k := op_eqD' h1 h2 hk
theorem op_ne_d {d e : PyData} (h1 : SeqAt.shaped d = true) (h2 : SeqAt.shaped e = true) (hk : k (.dat (.bool (!PyData.eqv d e))) Γ) : OpK K (uNe K) (.dat d) (.dat e) Γ k := op_neD' h1 h2 hk
def isNoneD : PyData → Bool
  | .none => true
  | _ => false
theorem op_isnone {d : PyData} (hk : k (.dat (.bool (isNoneD d))) Γ) : OpK K (uIs K) (.dat d) (.dat .none) Γ k :=
  op_or_l (op_pure (fun S H x y Q _ h1 h2 q => by
    cases h2
    refine ⟨rfl, q _ ?_⟩
    cases h1 <;> exact .bl _) hk)
theorem op_notnone {d : PyData} (hk : k (.dat (.bool (!isNoneD d))) Γ) : OpK K (uIsNot K) (.dat d) (.dat .none) Γ k :=
  op_or_l (op_pure (fun S H x y Q _ h1 h2 q => by
    cases h2
    refine ⟨rfl, q _ ?_⟩
    cases h1 <;> exact .bl _) hk)
theorem op_isb {a b : Bool} (hk : k (.dat (.bool (decide (a = b)))) Γ) : OpK K (uIs K) (.dat (.bool a)) (.dat (.bool b)) Γ k :=
  op_or_r (op_or_l (op_pure (fun S H x y Q _ h1 h2 q => by cases h1; cases h2; exact ⟨a, b, rfl, rfl, q _ (.bl _)⟩) hk))
theorem op_notb {a b : Bool} (hk : k (.dat (.bool (!decide (a = b)))) Γ) : OpK K (uIsNot K) (.dat (.bool a)) (.dat (.bool b)) Γ k :=
  op_or_r (op_or_l (op_pure (fun S H x y Q _ h1 h2 q => by cases h1; cases h2; exact ⟨a, b, rfl, rfl, q _ (.bl _)⟩) hk))
theorem atI_dps {S : Hp} {vs : List V} {ds : List PyData} {i : Int} {d : PyData} (h : DdAll K S vs ds) (e : atI ds i = some d) : ∃ v, atI vs i = some v ∧ Dd K S v d := by
  unfold atI at e ⊢
  rw [dps_len h]
  cases q : ixN ds.length i with
  | none => rw [q] at e; cases e
  | some j =>
    rw [q] at e
    exact dps_get' h e
theorem op_ix_d {d d' : PyData} {ds : List PyData} {i : Int} (e : seqD d = some ds) (h : atI ds i = some d') (hk : k (.dat d') Γ) : OpK K (uIx K) (.dat d) (.dat (.int i)) Γ k :=
  op_new (d := .none) fun σ S H fs x y Q w h1 h2 P => by
    cases h2
    obtain ⟨b, a, xs, rfl, hq, ha, _, _, _⟩ := sq_of_dat w.good.sub h1 e
    obtain ⟨v, hv, hd⟩ := atI_dps ha h
    cases b with
    | true => exact .inl ⟨a, xs, i, v, rfl, rfl, hq, hv, P.dat w hk hd⟩
    | false => exact .inr (.inl ⟨a, xs, i, v, rfl, rfl, hq, hv, P.dat w hk hd⟩)
theorem op_ix_s {z : Str} {i : Int} {c : Nat} (hz : z.length ≤ sizeLine) (h : atI z.cps.toList i = some c) (hk : k (.dat (.str ⟨#[c]⟩)) Γ) : OpK K (uIx K) (.dat (.str z)) (.dat (.int i)) Γ k :=
  op_pure (fun S H x y Q _ h1 h2 q => by cases h1; cases h2; exact .inr (.inr ⟨z, i, c, rfl, rfl, hz, h, q _ (.str _)⟩)) hk
def EvO (K : Frag) (to : TO) (Γ : List Sl) (ko : Option Int → List Sl → Prop) : Prop := ∀ σ S H fs (Q : Option Int → Hp → Prop), Wd K σ Γ S H fs → (∀ o Γ' S' H' fs', ko o Γ' → Wd K σ Γ' S' H' fs' → Step S H fs.flatten S' H' fs'.flatten → Q o H') → to σ H Q
theorem o_no {ko : Option Int → List Sl → Prop} (h : ko none Γ) : EvO K tNoPart Γ ko := fun σ S H fs Q w P => P none Γ S H fs h w Step.refl
theorem o_some {te : TE} {ko : Option Int → List Sl → Prop} (h : EvP K te Γ fun r Γ1 => ∃ i, r = .dat (.int i) ∧ ko (some i) Γ1) : EvO K (tPart te) Γ ko := fun σ S H fs Q w P =>
  h σ S H fs _ w fun v r Γ1 S1 H1 f1 fs1 hb w1 st1 => by
    obtain ⟨i, rfl, hk⟩ := hb
    obtain ⟨e0, v', e1, hd⟩ := w1.hd
    cases e1; cases hd
    exact ⟨i, rfl, P _ Γ1 S1 H1 fs1 hk w1.tl (st1.sub fun a ha => List.mem_append_right _ ha)⟩
def cutG {α : Type} (xs : List α) (lo hi : Option Int) : List α := (xs.drop (HT.sIx xs.length 0 lo)).take (HT.sIx xs.length xs.length hi - HT.sIx xs.length 0 lo)
theorem dps_drop {S : Hp} : ∀ {vs : List V} {ds : List PyData} (n : Nat), DdAll K S vs ds → DdAll K S (vs.drop n) (ds.drop n)
  | _, _, 0, h => h
  | _, _, _ + 1, .nil => .nil
  | _, _, n + 1, .cons _ h => dps_drop n h
theorem dps_take {S : Hp} : ∀ {vs : List V} {ds : List PyData} (n : Nat), DdAll K S vs ds → DdAll K S (vs.take n) (ds.take n)
  | _, _, 0, _ => .nil
  | _, _, _ + 1, .nil => .nil
  | _, _, n + 1, .cons a h => .cons a (dps_take n h)
theorem dps_cut {S : Hp} {vs : List V} {ds : List PyData} {lo hi : Option Int} (h : DdAll K S vs ds) : DdAll K S (cutV vs lo hi) (cutG ds lo hi) := by
  unfold cutV cutG
  rw [dps_len h]
  exact dps_take _ (dps_drop _ h)
theorem cut_whole {ds : List PyData} {lo hi : Option Int} (h : HT.sIx ds.length 0 lo = 0 ∧ HT.sIx ds.length ds.length hi = ds.length) : cutG ds lo hi = ds := by
  unfold cutG
  rw [h.1, h.2]
  simp
def slD (d : PyData) (lo hi : Option Int) : Option PyData := match d with
  | .list ds => some (.list (cutG ds lo hi))
  | .tuple ds => some (.tuple (cutG ds lo hi))
  | .str z => if z.length ≤ sizeLine then some (.str (cutS z lo hi)) else none
  | _ => none
theorem e_sl {te : TE} {tl th : TO} (h : EvP K te Γ fun r Γ1 => EvO K tl Γ1 fun lo Γ2 => EvO K th Γ2 fun hi Γ3 => ∃ d d', r = .dat d ∧ slD d lo hi = some d' ∧ k (.dat d') Γ3) : EvP K (tSl (rSlU K) te tl th) Γ k := by
  intro σ S H fs Q w P
  refine h σ S H fs _ w fun v r Γ1 S1 H1 f1 fs1 hl w1 st1 => ?_
  refine hl σ S1 H1 fs1 _ w1.tl fun lo Γ2 S2 H2 fs2 hh w2 st2 => ?_
  refine hh σ S2 H2 fs2 _ w2 fun hi Γ3 S3 H3 fs3 hk w3 st3 => ?_
  obtain ⟨d, d', rfl, e, hk⟩ := hk
  obtain ⟨e0, v', e1, hd⟩ := w1.hd
  subst e0
  cases e1
  have hd3 : Dd K S3 v d := (st2.le.trans st3.le).dp hd
  have P3 : Post K σ S3 H3 fs3.flatten k Q := P.trans (((by simpa using st1 : Step S H fs.flatten S1 H1 fs1.flatten).trans st2).trans st3)
  cases hd3 with
  | lst h1 h2 =>
    cases e
    exact .inl ⟨_, _, rfl, w3.good.sub.sqL (.inl h1), fun p hp => P3.new w3 hk hp (dp_lst_new (w3.good.sub.none hp) (dps_cut h2))⟩
  | tup h1 h2 =>
    cases e
    refine .inr (.inl ⟨_, _, rfl, w3.good.sub.sqT h1, fun hw => ?_, fun _ p hp => P3.new w3 hk hp (dp_tup_new (w3.good.sub.none hp) (dps_cut h2))⟩)
    rw [dps_len h2] at hw
    rw [cut_whole hw] at hk
    exact P3.dat w3 hk (.tup h1 h2)
  | str z =>
    have e' : (if z.length ≤ sizeLine then some (PyData.str (cutS z lo hi)) else none) = some d' := e
    by_cases hz : z.length ≤ sizeLine
    · rw [if_pos hz] at e'
      cases e'
      exact .inr (.inr ⟨z, rfl, hz, P3.dat w3 hk (.str _)⟩)
    · rw [if_neg hz] at e'
      cases e'
  | _ => cases e
theorem e_neg {te : TE} (h : EvP K te Γ fun r Γ1 => ∃ i, r = .dat (.int i) ∧ k (.dat (.int (-i))) Γ1) : EvP K (tUn (rU fun i => .int (-i)) te) Γ k := by
  intro σ S H fs Q w P
  refine h σ S H fs _ w fun v r Γ1 S1 H1 f1 fs1 hl w1 st1 => ?_
  obtain ⟨i, rfl, hk⟩ := hl
  obtain ⟨e0, v', e1, hd⟩ := w1.hd
  subst e0
  cases e1; cases hd
  exact ⟨i, rfl, (P.trans (by simpa using st1 : Step S H fs.flatten S1 H1 fs1.flatten)).dat w1.tl hk (.int _)⟩
end Dl
namespace Dl
open PySem PySem.Spec PyProof.Rows L2
variable {K : Frag} {Γ : List Sl} {k : Sl → List Sl → Prop} {O : Out}
def wipeA {α : Type} (z : α) (l : List α) : List Nat → List α
  | [] => l
  | v :: vs => (wipeA z l vs).set v z
abbrev wipeG (Γ : List Sl) (vs : List Nat) : List Sl := wipeA .no Γ vs
theorem wipe_eq (σ : L2.St) : ∀ vs : List Nat, wipe σ vs = wipeA none σ vs
  | [] => rfl
  | v :: vs => by unfold wipe wipeA; rw [wipe_eq σ vs]
theorem wipeA_len {α : Type} {z : α} {l : List α} : ∀ vs : List Nat, (wipeA z l vs).length = l.length
  | [] => rfl
  | v :: vs => by unfold wipeA; rw [List.length_set, wipeA_len vs]
theorem wipeA_get {α : Type} {z : α} {l : List α} {j : Nat} : ∀ vs : List Nat, (wipeA z l vs)[j]? = if j ∈ vs then (if j < l.length then some z else none) else l[j]?
  | [] => by simp [wipeA]
  | v :: vs => by
    unfold wipeA
    by_cases hj : v = j
    · subst hj
      rw [if_pos List.mem_cons_self]
      by_cases hl : v < l.length
      · rw [if_pos hl, List.getElem?_set_self (by rw [wipeA_len]; exact hl)]
      · rw [if_neg hl]
        rw [List.getElem?_eq_none_iff]
        rw [List.length_set, wipeA_len]
        omega
    · rw [List.getElem?_set_ne hj, wipeA_get vs]
      by_cases hm : j ∈ vs
      · rw [if_pos hm, if_pos (List.mem_cons_of_mem _ hm)]
      · rw [if_neg hm, if_neg (by simp [hm, Ne.symm hj])]
theorem wipeA_idem {α : Type} {z : α} {l : List α} {vs : List Nat} : wipeA z (wipeA z l vs) vs = wipeA z l vs := by
  apply List.ext_getElem?
  intro j
  rw [wipeA_get, wipeA_len, wipeA_get]
  by_cases h : j ∈ vs <;> simp [h]
theorem wipeA_set {α : Type} {z x : α} {l : List α} {vs : List Nat} {i : Nat} (hi : i ∈ vs) : wipeA z (l.set i x) vs = wipeA z l vs := by
  apply List.ext_getElem?
  intro j
  rw [wipeA_get, wipeA_get, List.length_set]
  by_cases h : j ∈ vs
  · simp [h]
  · rw [if_neg h, if_neg h, List.getElem?_set_ne]
    rintro rfl
    exact h hi
theorem satL_iff {S H : Hp} : ∀ {xs : List (Option V)} {ss : List Sl} {fs : List (List Addr)}, SatL K S H xs ss fs ↔ (xs.length = ss.length ∧ fs.length = ss.length ∧ ∀ (i : Nat) (s : Sl), ss[i]? = some s → ∃ x fp, xs[i]? = some x ∧ fs[i]? = some fp ∧ SlOk K S H x fp s) := by
  intro xs ss fs
  constructor
  · intro h
    exact ⟨h.lens.1, h.lens.2, fun i s e => h.get e⟩
  · rintro ⟨l1, l2, h⟩
    induction ss generalizing xs fs with
    | nil =>
      cases xs with
      | nil =>
        cases fs with
        | nil => exact .nil
        | cons _ _ => simp at l2
      | cons _ _ => simp at l1
    | cons s ss ih =>
      cases xs with
      | nil => simp at l1
      | cons x xs =>
        cases fs with
        | nil => simp at l2
        | cons f fs =>
          obtain ⟨x', fp, e1, e2, e3⟩ := h 0 s rfl
          simp at e1 e2
          subst e1 e2
          exact .cons e3 (ih (by simpa using l1) (by simpa using l2) fun i s e => by
            obtain ⟨x', fp, e1, e2, e3⟩ := h (i + 1) s (by simpa using e)
            exact ⟨x', fp, by simpa using e1, by simpa using e2, e3⟩)
theorem sat_wipe {S H : Hp} {σ : List (Option V)} {fs : List (List Addr)} {vs : List Nat} (h : SatL K S H σ Γ fs) : SatL K S H (wipe σ vs) (wipeG Γ vs) (wipeA [] fs vs) := by
  obtain ⟨l1, l2, hg⟩ := satL_iff.mp h
  refine satL_iff.mpr ⟨by rw [wipe_eq, wipeA_len, wipeA_len]; exact l1, by rw [wipeA_len, wipeA_len]; exact l2, fun i s e => ?_⟩
  rw [wipe_eq, wipeA_get, wipeA_get]
  rw [wipeA_get] at e
  by_cases hi : i ∈ vs
  · rw [if_pos hi] at e ⊢
    by_cases hl : i < Γ.length
    · rw [if_pos hl] at e
      cases e
      rw [if_pos (by omega), if_pos hi, if_pos (by omega)]
      exact ⟨none, [], rfl, rfl, rfl⟩
    · rw [if_neg hl] at e
      cases e
  · rw [if_neg hi] at e ⊢
    rw [if_neg hi]
    exact hg i s e
theorem sat_unwipe {S H : Hp} {σ : List (Option V)} {fs : List (List Addr)} {vs : List Nat} (h : SatL K S H (wipe σ vs) (wipeG Γ vs) fs) : SatL K S H σ (wipeG Γ vs) fs := by
  obtain ⟨l1, l2, hg⟩ := satL_iff.mp h
  refine satL_iff.mpr ⟨by rw [wipe_eq, wipeA_len] at l1; exact l1, l2, fun i s e => ?_⟩
  obtain ⟨x, fp, e1, e2, e3⟩ := hg i s e
  rw [wipe_eq, wipeA_get] at e1
  rw [wipeA_get] at e
  by_cases hi : i ∈ vs
  · rw [if_pos hi] at e1 e
    by_cases hl : i < σ.length
    · by_cases hl2 : i < Γ.length
      · rw [if_pos hl2] at e
        cases e
        exact ⟨σ[i], fp, List.getElem?_eq_getElem hl, e2, e3⟩
      · rw [if_neg hl2] at e
        cases e
    · rw [if_neg hl] at e1
      cases e1
  · rw [if_neg hi] at e1
    exact ⟨x, fp, e1, e2, e3⟩
theorem flat_wipe {fs : List (List Addr)} : ∀ vs : List Nat, (wipeA [] fs vs).flatten.Sublist fs.flatten
  | [] => List.Sublist.refl _
  | v :: vs => (flat_set (wipeA [] fs vs) v []).trans (flat_wipe vs)
def Sets (g : TG) (vs : List Nat) : Prop := ∀ v σ H (q : L2.St → Hp → Prop), g v σ H q → g v σ H fun σ' H' => wipe σ' vs = wipe σ vs ∧ q σ' H'
theorem sets_name {i : Nat} {vs : List Nat} (hi : i ∈ vs) : Sets (gName i) vs := fun v σ H q h => ⟨by rw [wipe_eq, wipe_eq, wipeA_set hi], h⟩
def SetsL (g : TGs) (vs : List Nat) : Prop := ∀ us σ H (q : L2.St → Hp → Prop), g us σ H q → g us σ H fun σ' H' => wipe σ' vs = wipe σ vs ∧ q σ' H'
def GMono (g : TG) : Prop := ∀ v σ H (q q' : L2.St → Hp → Prop), (∀ σ H, q σ H → q' σ H) → g v σ H q → g v σ H q'
theorem gm_name {i : Nat} : GMono (gName i) := fun v σ H q q' h p => h _ _ p
theorem setsL_nil {vs : List Nat} : SetsL gNil vs := fun us σ H q ⟨e, h⟩ => ⟨e, rfl, h⟩
theorem setsL_cons {g : TG} {gs : TGs} {vs : List Nat} (m : GMono g) (h1 : Sets g vs) (h2 : SetsL gs vs) : SetsL (gCons g gs) vs := fun us σ H q ⟨v, r, e, h⟩ => by
  refine ⟨v, r, e, m v σ H _ _ (fun σ' H' ⟨e1, hh⟩ => ?_) (h1 v σ H _ h)⟩
  have := h2 r σ' H' q hh
  rw [e1] at this
  exact this
theorem gm_nil : ∀ (us : List V) σ H (q q' : L2.St → Hp → Prop), (∀ σ H, q σ H → q' σ H) → gNil us σ H q → gNil us σ H q' := fun us σ H q q' h p => ⟨p.1, h _ _ p.2⟩
theorem gm_cons {g : TG} {gs : TGs} (m : GMono g) (ms : ∀ (us : List V) σ H (q q' : L2.St → Hp → Prop), (∀ σ H, q σ H → q' σ H) → gs us σ H q → gs us σ H q') : ∀ (us : List V) σ H (q q' : L2.St → Hp → Prop), (∀ σ H, q σ H → q' σ H) → gCons g gs us σ H q → gCons g gs us σ H q' := fun us σ H q q' h ⟨v, r, e, p⟩ => ⟨v, r, e, m v σ H _ _ (fun σ1 H1 p1 => ms r σ1 H1 _ _ h p1) p⟩
theorem gm_tup {K : Frag} {n : Nat} {gs : TGs} (ms : ∀ (us : List V) σ H (q q' : L2.St → Hp → Prop), (∀ σ H, q σ H → q' σ H) → gs us σ H q → gs us σ H q') : GMono (gTup K n gs) := fun v σ H q q' h ⟨a, xs, e, hq, hl, p⟩ => ⟨a, xs, e, hq, hl, ms xs σ H q q' h p⟩
theorem sets_tup {K : Frag} {n : Nat} {gs : TGs} {vs : List Nat} (h : SetsL gs vs) : Sets (gTup K n gs) vs := fun v σ H q ⟨a, xs, e, hq, hl, hh⟩ => ⟨a, xs, e, hq, hl, h xs σ H q hh⟩
theorem Wd.swap2 {x y : Option V} {s t : Sl} {f g : List Addr} {σ : List (Option V)} {S H : Hp} {fs : List (List Addr)} (w : Wd K (x :: y :: σ) (s :: t :: Γ) S H (f :: g :: fs)) : Wd K (y :: x :: σ) (t :: s :: Γ) S H (g :: f :: fs) := by
  refine ⟨w.good.perm ?_, .cons w.tl.hd (.cons w.hd w.tl.tl.sat)⟩
  simp only [List.flatten_cons]
  rw [← List.append_assoc, ← List.append_assoc]
  exact List.perm_append_comm.append_right _
theorem Wd.wipe {σ : List (Option V)} {S H : Hp} {fs : List (List Addr)} (vs : List Nat) (w : Wd K σ Γ S H fs) : Wd K (L2.wipe σ vs) (wipeG Γ vs) S H (wipeA [] fs vs) := ⟨w.good.sublist (flat_wipe vs), sat_wipe w.sat⟩
theorem mem2 {f : List Addr} {fs gs : List (List Addr)} {a : Addr} (h : ∀ b, b ∈ fs.flatten → b ∈ gs.flatten) : a ∈ (f :: fs).flatten → a ∈ (f :: gs).flatten := fun ha => by
  simp only [List.flatten_cons, List.mem_append] at ha ⊢
  exact ha.imp id (h a)
theorem e_lc {wi : TI} {g : TG} {tt : TT} {te : TE} {vs : List Nat} (hg : Sets g vs) (gm : GMono g) (h : EvI K wi Γ fun f n G Γ1 => ∃ W : Nat → List PyData → List Sl → Prop, n ≤ sizeLine ∧ W 0 [] (wipeG Γ1 vs) ∧ (∀ i acc Γ, i ≤ n → W i acc (wipeG Γ vs) → G (wipeG Γ vs)) ∧
    (∀ i acc Γ, i < n → acc.length ≤ i → W i acc (wipeG Γ vs) → EvG K g (f i) (wipeG Γ vs) fun Γ2 => EvB K tt Γ2 fun b Γ3 => (b = true → EvP K te Γ3 fun r Γ4 => ∃ y, r = .dat y ∧ W (i + 1) (acc ++ [y]) (wipeG Γ4 vs)) ∧ (b = false → W (i + 1) acc (wipeG Γ3 vs))) ∧
    (∀ acc Γ, acc.length ≤ n → W n acc (wipeG Γ vs) → k (.dat (.list acc)) (wipeG Γ vs))) : EvP K (tLc wi g tt te vs) Γ k := by
  intro σ S H fs Q w P
  refine h σ S H fs _ w fun J f n G Γ1 S1 H1 fs1 hG hk w1 st1 tn => ?_
  obtain ⟨W, hn, h0, hWG, hs, hd⟩ := hk
  intro D hD
  refine ⟨fun i m H2 => m = n - i ∧ i ≤ n ∧ ∃ acc Γ2 S2 fs2, W i acc (wipeG Γ2 vs) ∧ acc.length ≤ i ∧ Wd K (some (.ref D) :: σ) (.res (ownL D acc) :: wipeG Γ2 vs) S2 H2 ([D] :: fs2) ∧ Step S1 H1 fs1.flatten S2 H2 ([D] :: fs2).flatten, ⟨n, by simp, Nat.zero_le _, ?_⟩, ?_⟩
  · obtain ⟨w2, st2⟩ := allocOwn (vs := []) (xs := []) w1 hD .nil
    have w3 : Wd K σ (wipeG Γ1 vs) S1 (upd H1 D (.lst [])) (wipeA [] fs1 vs) := ⟨w2.tl.good.sublist (flat_wipe vs), sat_unwipe (sat_wipe w2.tl.sat)⟩
    refine ⟨[], Γ1, S1, wipeA [] fs1 vs, h0, Nat.le_refl _, ⟨w2.good.sublist ?_, .cons w2.hd w3.sat⟩, st2.sub fun a => mem2 fun b hb => (flat_wipe vs).subset hb⟩
    simp only [List.flatten_cons]
    exact (List.Sublist.refl _).append (flat_wipe vs)
  · rintro i m H2 ⟨rfl, hi, acc, Γ2, S2, fs2, hW, hal, w2, st2⟩
    obtain ⟨t1, t2⟩ := tn i _ _ S2 H2 _ hi (hG _ _ (hWG i acc Γ2 hi hW)) w2 st2
    by_cases hlt : i < n
    · obtain ⟨hgo, hy⟩ := t1 hlt
      refine .inr ⟨hgo, fun H' => ∃ acc Γ2 S2 fs2, W (i + 1) acc (wipeG Γ2 vs) ∧ acc.length ≤ i + 1 ∧ Wd K (some (.ref D) :: σ) (.res (ownL D acc) :: wipeG Γ2 vs) S2 H' ([D] :: fs2) ∧ Step S1 H1 fs1.flatten S2 H' ([D] :: fs2).flatten, fun H' q => ⟨n - (i + 1), by omega, rfl, hlt, q⟩, fun x H' y => ?_⟩
      obtain ⟨S', w3, st3⟩ := hy x H' y
      have st23 := st2.trans st3
      have w4 := w3.swap2
      have w5 : Wd K (some x :: wipe σ vs) (f i :: wipeG Γ2 vs) S' H' ([] :: wipeA [] fs2 vs) := by
        have q := w3.tl.tl.wipe vs
        rw [show wipeG (wipeG Γ2 vs) vs = wipeG Γ2 vs from wipeA_idem] at q
        exact q.put w3.hd
      have fsub : ∀ a, a ∈ ([] :: wipeA [] fs2 vs).flatten → a ∈ fs2.flatten := fun a ha => (flat_wipe vs).subset (by simpa using ha)
      have wD : Wd K (some (.ref D) :: (some x :: wipe σ vs)) (.res (ownL D acc) :: (f i :: wipeG Γ2 vs)) S' H' ([D] :: ([] :: wipeA [] fs2 vs)) := by
        refine ⟨w3.tl.good.sublist ?_, .cons w3.tl.hd w5.sat⟩
        simp only [List.flatten_cons, List.nil_append]
        exact (List.Sublist.refl _).append (flat_wipe vs)
      have stD : Step S1 H1 fs1.flatten S' H' ([D] :: ([] :: wipeA [] fs2 vs)).flatten := st23.sub fun a ha => by
        have := mem2 (f := [D]) fsub ha
        simpa using this
      have key : g x (wipe σ vs) H' fun σ2 H2' => wipe σ2 vs = wipe σ vs → tt σ2 H2' fun b H3 => if b = true then te σ2 H3 fun y H4 => ∃ acc, H4 D = some (.lst acc) ∧ acc.length < sizeLine ∧ (∃ acc' Γ2 S2 fs2, W (i + 1) acc' (wipeG Γ2 vs) ∧ acc'.length ≤ i + 1 ∧ Wd K (some (.ref D) :: σ) (.res (ownL D acc') :: wipeG Γ2 vs) S2 (upd H4 D (.lst (acc ++ [y]))) ([D] :: fs2) ∧ Step S1 H1 fs1.flatten S2 (upd H4 D (.lst (acc ++ [y]))) ([D] :: fs2).flatten)
          else (∃ acc' Γ2 S2 fs2, W (i + 1) acc' (wipeG Γ2 vs) ∧ acc'.length ≤ i + 1 ∧ Wd K (some (.ref D) :: σ) (.res (ownL D acc') :: wipeG Γ2 vs) S2 H3 ([D] :: fs2) ∧ Step S1 H1 fs1.flatten S2 H3 ([D] :: fs2).flatten) := by
        refine hs i acc Γ2 hlt hal hW (wipe σ vs) S' H' [] _ x _ w5 fun σ2 Γ3 S3 H3 fs3 hB w6 st6 => ?_
        obtain ⟨w7, st7⟩ := frame (ts := [some (.ref D)]) (Θ := [.res (ownL D acc)]) (ft := [[D]]) rfl rfl wD w6 st6
        have st8 := stD.trans st7
        intro hw
        refine hB σ2 S3 H3 fs3 _ w6 fun b Γ4 S4 H4 fs4 hT w8 st9 => ?_
        obtain ⟨w9, st10⟩ := frame (ts := [some (.ref D)]) (Θ := [.res (ownL D acc)]) (ft := [[D]]) rfl rfl w7 w8 st9
        have st11 := st8.trans st10
        have back : ∀ (Γx : List Sl) (Sx Hx : Hp) (fx : List (List Addr)) (accx : List PyData), Wd K (some (.ref D) :: σ2) (.res (ownL D accx) :: Γx) Sx Hx ([D] :: fx) → Wd K (some (.ref D) :: σ) (.res (ownL D accx) :: wipeG Γx vs) Sx Hx ([D] :: wipeA [] fx vs) := fun Γx Sx Hx fx accx wx => by
          have q := wx.tl.wipe vs
          rw [hw] at q
          refine ⟨wx.good.sublist ?_, .cons wx.hd (sat_unwipe q.sat)⟩
          simp only [List.flatten_cons]
          exact (List.Sublist.refl _).append (flat_wipe vs)
        cases b with
        | true =>
          rw [if_pos rfl]
          refine hT.1 rfl σ2 S4 H4 fs4 _ w8 fun y r Γ5 S5 H5 f5 fs5 hE w10 st12 => ?_
          obtain ⟨yd, rfl, hW'⟩ := hE
          obtain ⟨w11, st13⟩ := frame (ts := [some (.ref D)]) (Θ := [.res (ownL D acc)]) (ft := [[D]]) rfl rfl w9 w10 st12
          obtain ⟨e0, y', e1, hyd⟩ := w10.hd
          subst e0
          cases e1
          have w11' : Wd K (some (.ref D) :: some y :: σ2) (.res (ownL D acc) :: .dat yd :: Γ5) S5 H5 ([D] :: [] :: fs5) := w11
          have w12 : Wd K (some (.ref D) :: σ2) (.res (ownL D acc) :: Γ5) S5 H5 ([D] :: fs5) := w11'.swap2.tl
          obtain ⟨_, _, ws, hws, hda⟩ := w12.hd
          have hws : H5 D = some (.lst ws) := hws
          have hlen := dps_len hda
          refine ⟨ws, hws, by omega, acc ++ [yd], Γ5, S5, wipeA [] fs5 vs, hW', by simp; omega, ?_⟩
          obtain ⟨w13, st14⟩ := upd_own (j := 0) (ws := ws ++ [y]) (ys := acc ++ [yd]) w12 rfl (dps_app hda (.cons hyd .nil))
          refine ⟨back _ _ _ _ _ w13, ?_⟩
          have st15 : Step S1 H1 fs1.flatten S5 H5 ([D] :: fs5).flatten := (st11.trans st13).sub fun a ha => by simpa using ha
          exact (st15.trans st14).sub fun a => mem2 fun b hb => (flat_wipe vs).subset hb
        | false =>
          rw [if_neg (by decide)]
          exact ⟨acc, Γ4, S4, wipeA [] fs4 vs, hT.2 rfl, Nat.le_succ_of_le hal, back _ _ _ _ _ w9, st11.sub fun a => mem2 fun b hb => (flat_wipe vs).subset hb⟩
      refine gm x _ H' _ _ (fun σ' H'' ⟨e, q⟩ => ?_) (hg x _ H' _ key)
      have e' : wipe σ' vs = wipe σ vs := by rw [e, wipe_eq, wipe_eq, wipeA_idem]
      exact ⟨e', q e'⟩
    · have e1 : i = n := by omega
      subst e1
      refine .inl ⟨t2 rfl, ?_⟩
      obtain ⟨S', w3, st3⟩ := freezeW w2
      exact P _ _ _ S' H2 [] fs2 (hd acc Γ2 hal hW) w3 (by simpa using st1.trans (st2.trans st3))
end Dl
namespace Dl
open PySem PySem.Spec PyProof.Rows L2
def pure1 (g : PyData → Option PyData) : FSpec := fun args k => ∃ a d, args = [.dat a] ∧ g a = some d ∧ k (.dat d) args
def pure2 (g : PyData → PyData → Option PyData) : FSpec := fun args k => ∃ a b d, args = [.dat a, .dat b] ∧ g a b = some d ∧ k (.dat d) args
def pure3 (g : PyData → PyData → PyData → Option PyData) : FSpec := fun args k => ∃ a b c d, args = [.dat a, .dat b, .dat c] ∧ g a b c = some d ∧ k (.dat d) args
def pure4 (g : PyData → PyData → PyData → PyData → Option PyData) : FSpec := fun args k => ∃ a b c e d, args = [.dat a, .dat b, .dat c, .dat e] ∧ g a b c e = some d ∧ k (.dat d) args
def pure5 (g : PyData → PyData → PyData → PyData → PyData → Option PyData) : FSpec := fun args k => ∃ a b c e f d, args = [.dat a, .dat b, .dat c, .dat e, .dat f] ∧ g a b c e f = some d ∧ k (.dat d) args
theorem n1 {g : PyData → Option PyData} : ∀ args k, pure1 g args k → args.length = 1 := fun args k ⟨a, d, e, _⟩ => by rw [e]; rfl
theorem n2 {g : PyData → PyData → Option PyData} : ∀ args k, pure2 g args k → args.length = 2 := fun args k ⟨a, b, d, e, _⟩ => by rw [e]; rfl
theorem n3 {g : PyData → PyData → PyData → Option PyData} : ∀ args k, pure3 g args k → args.length = 3 := fun args k ⟨a, b, c, d, e, _⟩ => by rw [e]; rfl
theorem n4 {g : PyData → PyData → PyData → PyData → Option PyData} : ∀ args k, pure4 g args k → args.length = 4 := fun args k ⟨a, b, c, x, d, e, _⟩ => by rw [e]; rfl
theorem n5 {g : PyData → PyData → PyData → PyData → PyData → Option PyData} : ∀ args k, pure5 g args k → args.length = 5 := fun args k ⟨a, b, c, x, y, d, e, _⟩ => by rw [e]; rfl
variable {K : Frag} {t : TS}
def datOut (d : PyData) : Out := { nx := fun _ => PyData.none = d, rt := fun r _ => r = .dat d }
theorem body_dats {N : List Str} {ds : List PyData} {d : PyData} {k : Sl → List Sl → Prop} (hk : k (.dat d) (ds.map .dat)) (h : ExS K t (ds.map .dat ++ List.replicate (N.length - ds.length) .no) (datOut d)) :
    ExS K t (ds.map .dat ++ List.replicate (N.length - (ds.map Sl.dat).length) .no) (fnOut (ds.map .dat) k) := by
  intro σ S H fs D w E
  rw [List.length_map] at w
  refine h σ S H fs D w ⟨fun σ' Γ' S' H' fs' ho w' st => ?_, fun v r σ' Γ' S' H' fr fs' ho w' st => ?_, fun _ _ _ _ _ ho => ho.elim, fun _ _ _ _ _ ho => ho.elim⟩
  · have ho : PyData.none = d := ho
    subst ho
    exact E.nx σ' Γ' S' H' fs' ⟨_, hk, keep_dats ds Γ'⟩ w' st
  · have ho : r = .dat d := ho
    subst ho
    exact E.rt v _ σ' Γ' S' H' fr fs' ⟨_, hk, keep_dats ds Γ'⟩ w' st
theorem body1 {g : PyData → Option PyData} (m : Nat) (h : ∀ a d, g a = some d → ExS K t (.dat a :: List.replicate m .no) (datOut d)) :
    ∀ args k, pure1 g args k → ExS K t (args ++ List.replicate (m + 1 - args.length) .no) (fnOut args k) := by
  rintro args k ⟨a, d, rfl, e, hk⟩
  have q := body_dats (t := t) (K := K) (N := List.replicate (m + 1) (PySem.Str.ofString "")) (ds := [a]) hk (by rw [List.length_replicate]; exact h a d e)
  rw [List.length_replicate] at q
  exact q
theorem body2 {g : PyData → PyData → Option PyData} (m : Nat) (h : ∀ a b d, g a b = some d → ExS K t (.dat a :: .dat b :: List.replicate m .no) (datOut d)) :
    ∀ args k, pure2 g args k → ExS K t (args ++ List.replicate (m + 2 - args.length) .no) (fnOut args k) := by
  rintro args k ⟨a, b, d, rfl, e, hk⟩
  have q := body_dats (t := t) (K := K) (N := List.replicate (m + 2) (PySem.Str.ofString "")) (ds := [a, b]) hk (by rw [List.length_replicate]; exact h a b d e)
  rw [List.length_replicate] at q
  exact q
theorem body3 {g : PyData → PyData → PyData → Option PyData} (m : Nat) (h : ∀ a b c d, g a b c = some d → ExS K t (.dat a :: .dat b :: .dat c :: List.replicate m .no) (datOut d)) :
    ∀ args k, pure3 g args k → ExS K t (args ++ List.replicate (m + 3 - args.length) .no) (fnOut args k) := by
  rintro args k ⟨a, b, c, d, rfl, e, hk⟩
  have q := body_dats (t := t) (K := K) (N := List.replicate (m + 3) (PySem.Str.ofString "")) (ds := [a, b, c]) hk (by rw [List.length_replicate]; exact h a b c d e)
  rw [List.length_replicate] at q
  exact q
theorem body4 {g : PyData → PyData → PyData → PyData → Option PyData} (m : Nat) (h : ∀ a b c x d, g a b c x = some d → ExS K t (.dat a :: .dat b :: .dat c :: .dat x :: List.replicate m .no) (datOut d)) :
    ∀ args k, pure4 g args k → ExS K t (args ++ List.replicate (m + 4 - args.length) .no) (fnOut args k) := by
  rintro args k ⟨a, b, c, x, d, rfl, e, hk⟩
  have q := body_dats (t := t) (K := K) (N := List.replicate (m + 4) (PySem.Str.ofString "")) (ds := [a, b, c, x]) hk (by rw [List.length_replicate]; exact h a b c x d e)
  rw [List.length_replicate] at q
  exact q
theorem body5 {g : PyData → PyData → PyData → PyData → PyData → Option PyData} (m : Nat) (h : ∀ a b c x y d, g a b c x y = some d → ExS K t (.dat a :: .dat b :: .dat c :: .dat x :: .dat y :: List.replicate m .no) (datOut d)) :
    ∀ args k, pure5 g args k → ExS K t (args ++ List.replicate (m + 5 - args.length) .no) (fnOut args k) := by
  rintro args k ⟨a, b, c, x, y, d, rfl, e, hk⟩
  have q := body_dats (t := t) (K := K) (N := List.replicate (m + 5) (PySem.Str.ofString "")) (ds := [a, b, c, x, y]) hk (by rw [List.length_replicate]; exact h a b c x y d e)
  rw [List.length_replicate] at q
  exact q
variable {Γ : List Sl} {k : Sl → List Sl → Prop}
theorem EvP.mono {te : TE} {k k' : Sl → List Sl → Prop} (h : EvP K te Γ k) (m : ∀ r Γ, k r Γ → k' r Γ) : EvP K te Γ k' := fun σ S H fs Q w P => h σ S H fs Q w fun v r Γ' S' H' fr fs' hk => P v r Γ' S' H' fr fs' (m _ _ hk)
theorem EvB.mono {tt : TT} {k k' : Bool → List Sl → Prop} (h : EvB K tt Γ k) (m : ∀ r Γ, k r Γ → k' r Γ) : EvB K tt Γ k' := fun σ S H fs Q w P => h σ S H fs Q w fun b Γ' S' H' fs' hk => P b Γ' S' H' fs' (m _ _ hk)
theorem EvA.mono {ta : TA} {k k' : List Sl → List Sl → Prop} (h : EvA K ta Γ k) (m : ∀ r Γ, k r Γ → k' r Γ) : EvA K ta Γ k' := fun σ S H fs Q w P => h σ S H fs Q w fun vs rs Γ' S' H' frs fs' hk => P vs rs Γ' S' H' frs fs' (m _ _ hk)
theorem OpK.mono {r : R2} {s1 s2 : Sl} {k k' : Sl → List Sl → Prop} (h : OpK K r s1 s2 Γ k) (m : ∀ r Γ, k r Γ → k' r Γ) : OpK K r s1 s2 Γ k' := fun σ S H f1 f2 fs x y Q w P => h σ S H f1 f2 fs x y Q w fun v r Γ' S' H' fr fs' hk => P v r Γ' S' H' fr fs' (m _ _ hk)
theorem CbK.mono {r : List V → Hp → VK → Prop} {rs : List Sl} {k k' : Sl → List Sl → Prop} (h : CbK K r rs Γ k) (m : ∀ r Γ, k r Γ → k' r Γ) : CbK K r rs Γ k' := fun σ S H frs fs vs Q l1 l2 w P => h σ S H frs fs vs Q l1 l2 w fun v r Γ' S' H' fr fs' hk => P v r Γ' S' H' fr fs' (m _ _ hk)
theorem ExS.mono {O O' : Out} (h : ExS K t Γ O) (m1 : ∀ Γ, O.nx Γ → O'.nx Γ) (m2 : ∀ r Γ, O.rt r Γ → O'.rt r Γ) (m3 : ∀ Γ, O.bk Γ → O'.bk Γ) (m4 : ∀ Γ, O.ct Γ → O'.ct Γ) : ExS K t Γ O' := fun σ S H fs D w E => h σ S H fs D w
  ⟨fun σ' Γ' S' H' fs' ho => E.nx σ' Γ' S' H' fs' (m1 _ ho), fun v r σ' Γ' S' H' fr fs' ho => E.rt v r σ' Γ' S' H' fr fs' (m2 _ _ ho), fun σ' Γ' S' H' fs' ho => E.bk σ' Γ' S' H' fs' (m3 _ ho), fun σ' Γ' S' H' fs' ho => E.ct σ' Γ' S' H' fs' (m4 _ ho)⟩
theorem ifB {b : Bool} {A B : Prop} (h : if b = true then A else B) : (b = true → A) ∧ (b = false → B) := by
  cases b with
  | true => exact ⟨fun _ => by simpa using h, fun e => nomatch e⟩
  | false => exact ⟨fun e => (nomatch e), fun _ => by simpa using h⟩
theorem b_and' {t u : TT} {kb : Bool → List Sl → Prop} (h : EvB K t Γ fun b Γ1 => if b = true then EvB K u Γ1 kb else kb false Γ1) : EvB K (tAnd t u) Γ kb := b_and (h.mono fun b Γ1 q => ifB q)
theorem b_or' {t u : TT} {kb : Bool → List Sl → Prop} (h : EvB K t Γ fun b Γ1 => if b = true then kb true Γ1 else EvB K u Γ1 kb) : EvB K (tOr t u) Γ kb := b_or (h.mono fun b Γ1 q => ⟨(ifB q).2, (ifB q).1⟩)
theorem x_if' {O : Out} {tt : TT} {t u : TS} (h : EvB K tt Γ fun b Γ1 => if b = true then ExS K t Γ1 O else ExS K u Γ1 O) : ExS K (tIfS tt t u) Γ O := x_if (h.mono fun b Γ1 q => ifB q)
theorem e_if' {tt : TT} {ta tb : TE} (h : EvB K tt Γ fun b Γ1 => if b = true then EvP K ta Γ1 k else EvP K tb Γ1 k) : EvP K (tIf tt ta tb) Γ k := e_if (h.mono fun b Γ1 q => ifB q)
theorem e_andV' {ta tb : TE} (h : EvP K ta Γ fun r Γ1 => ∃ b, r = .dat (.bool b) ∧ if b = true then EvP K tb Γ1 k else k (.dat (.bool false)) Γ1) : EvP K (tAndV ta tb) Γ k := e_andV (h.mono fun r Γ1 ⟨b, e, q⟩ => ⟨b, e, ifB q⟩)
theorem e_orV' {ta tb : TE} (h : EvP K ta Γ fun r Γ1 => ∃ b, r = .dat (.bool b) ∧ if b = true then k (.dat (.bool true)) Γ1 else EvP K tb Γ1 k) : EvP K (tOrV ta tb) Γ k := e_orV (h.mono fun r Γ1 ⟨b, e, q⟩ => ⟨b, e, (ifB q).2, (ifB q).1⟩)
theorem e_chain' {r r' : R2} {ta tb tc : TE} (h : EvP K ta Γ fun s1 Γ1 => EvP K tb Γ1 fun s2 Γ2 => ∃ d1 d2, s1 = .dat d1 ∧ s2 = .dat d2 ∧ OpK K r (.dat d1) (.dat d2) Γ2 fun s3 Γ3 => ∃ b, s3 = .dat (.bool b) ∧ if b = true then EvP K tc Γ3 fun s4 Γ4 => OpK K r' (.dat d2) s4 Γ4 k else k (.dat (.bool false)) Γ3) :
    EvP K (tChain r r' ta tb tc) Γ k := e_chain (h.mono fun s1 Γ1 q => q.mono fun s2 Γ2 ⟨d1, d2, e1, e2, q⟩ => ⟨d1, d2, e1, e2, q.mono fun s3 Γ3 ⟨b, e, q⟩ => ⟨b, e, ifB q⟩⟩)
theorem iteB {b : Bool} {A B : Prop} (h1 : b = true → A) (h2 : b = false → B) : if b = true then A else B := by
  cases b with
  | true => exact iteT (h1 rfl)
  | false => exact iteF (h2 rfl)
theorem dat_ok {d e : PyData} (h : d = e) : (datOut e).rt (.dat d) Γ := by rw [h]; exact rfl
theorem dat_nx {e : PyData} (h : PyData.none = e) : (datOut e).nx Γ := h
theorem call1 {g : PyData → Option PyData} {a d : PyData} (e : g a = some d) (h : k (.dat d) [.dat a]) : pure1 g [.dat a] k := ⟨a, d, rfl, e, h⟩
theorem call2 {g : PyData → PyData → Option PyData} {a b d : PyData} (e : g a b = some d) (h : k (.dat d) [.dat a, .dat b]) : pure2 g [.dat a, .dat b] k := ⟨a, b, d, rfl, e, h⟩
theorem call3 {g : PyData → PyData → PyData → Option PyData} {a b c d : PyData} (e : g a b c = some d) (h : k (.dat d) [.dat a, .dat b, .dat c]) : pure3 g [.dat a, .dat b, .dat c] k := ⟨a, b, c, d, rfl, e, h⟩
theorem call4 {g : PyData → PyData → PyData → PyData → Option PyData} {a b c x d : PyData} (e : g a b c x = some d) (h : k (.dat d) [.dat a, .dat b, .dat c, .dat x]) : pure4 g [.dat a, .dat b, .dat c, .dat x] k := ⟨a, b, c, x, d, rfl, e, h⟩
theorem call5 {g : PyData → PyData → PyData → PyData → PyData → Option PyData} {a b c x y d : PyData} (e : g a b c x y = some d) (h : k (.dat d) [.dat a, .dat b, .dat c, .dat x, .dat y]) : pure5 g [.dat a, .dat b, .dat c, .dat x, .dat y] k := ⟨a, b, c, x, y, d, rfl, e, h⟩
end Dl
namespace Dl
open PySem PySem.Spec PyProof.Rows L2
def Pers : Sl → Prop
  | .dat _ => True
  | .raw _ => True
  | _ => False
def VS (K : Frag) (S : Hp) (v : V) : Sl → Prop
  | .dat d => Dd K S v d
  | .raw u => v = u
  | _ => False
theorem VS.mono {K : Frag} {S S' : Hp} {v : V} {s : Sl} (l : Le S S') (h : VS K S v s) : VS K S' v s := by
  cases s with
  | dat d => exact l.dp h
  | raw u => exact h
  | no => exact h
  | res r => exact h
theorem VS.ok {K : Frag} {S H : Hp} {v : V} {s : Sl} (h : VS K S v s) : SlOk K S H (some v) [] s := by
  cases s with
  | dat d => exact ⟨rfl, v, rfl, h⟩
  | raw u => exact ⟨rfl, by rw [show v = u from h]⟩
  | no => exact h.elim
  | res r => exact h.elim
theorem VS.of {K : Frag} {S H : Hp} {v : V} {s : Sl} {f : List Addr} (h : SlOk K S H (some v) f s) (p : Pers s) : VS K S v s ∧ f = [] := by
  cases s with
  | dat d => obtain ⟨e, v', e1, hd⟩ := h; cases e1; exact ⟨hd, e⟩
  | raw u => obtain ⟨e, e1⟩ := h; cases e1; exact ⟨rfl, e⟩
  | no => exact p.elim
  | res r => exact p.elim
abbrev VSs (K : Frag) (S : Hp) : List V → List Sl → Prop := Paired (VS K S)
theorem VSs.mono {K : Frag} {S S' : Hp} (l : Le S S') : ∀ {vs : List V} {ss : List Sl}, VSs K S vs ss → VSs K S' vs ss
  | _, _, .nil => .nil
  | _, _, .cons h t => .cons (h.mono l) (VSs.mono l t)
theorem VSs.get {K : Frag} {S : Hp} : ∀ {vs : List V} {ss : List Sl} {i : Nat} {s : Sl}, VSs K S vs ss → ss[i]? = some s → ∃ v, vs[i]? = some v ∧ VS K S v s
  | _, _, 0, _, .cons h _, e => by
    simp only [List.getElem?_cons_zero, Option.some.injEq] at e
    subst e
    exact ⟨_, rfl, h⟩
  | _, _, i + 1, _, .cons _ t, e => by
    simp only [List.getElem?_cons_succ] at e
    obtain ⟨v, h1, h2⟩ := VSs.get t e
    exact ⟨v, by simpa using h1, h2⟩
  | _, _, _, _, .nil, e => by simp at e
theorem VSs.set {K : Frag} {S : Hp} {v : V} {s : Sl} (h : VS K S v s) : ∀ {vs : List V} {ss : List Sl} (i : Nat), VSs K S vs ss → VSs K S (vs.set i v) (ss.set i s)
  | _, _, _, .nil => .nil
  | _, _, 0, .cons _ t => .cons h t
  | _, _, i + 1, .cons a t => .cons a (VSs.set h i t)
theorem VSs.snoc {K : Frag} {S : Hp} {v : V} {s : Sl} (h : VS K S v s) : ∀ {vs : List V} {ss : List Sl}, VSs K S vs ss → VSs K S (vs ++ [v]) (ss ++ [s])
  | _, _, .nil => .cons h .nil
  | _, _, .cons a t => .cons a (VSs.snoc h t)
theorem VSs.dats {K : Frag} {S : Hp} : ∀ {vs : List V} {ds : List PyData}, VSs K S vs (ds.map .dat) → DdAll K S vs ds
  | _, [], .nil => .nil
  | _, _ :: _, .cons h t => .cons h (VSs.dats t)
theorem VSs.of_dats {K : Frag} {S : Hp} : ∀ {vs : List V} {ds : List PyData}, DdAll K S vs ds → VSs K S vs (ds.map .dat)
  | _, [], .nil => .nil
  | _, _ :: _, .cons h t => .cons h (VSs.of_dats t)
inductive Cell where
  | ins (C : Addr) (ns : List Str) (ss : List Sl)
  | lst (ss : List Sl)
  | dS (ns : List Str) (ss : List Sl)
def CellOk (K : Frag) (S H : Hp) (a : Addr) : Cell → Prop
  | .ins C ns ss => ns.Nodup ∧ ns.length = ss.length ∧ ∃ dx vs, H a = some (.ins C dx (ns.zip vs)) ∧ VSs K S vs ss
  | .lst ss => ∃ vs, H a = some (.lst vs) ∧ VSs K S vs ss
  | .dS ns ss => ns.Nodup ∧ ns.length = ss.length ∧ ∃ vs, H a = some (.dK ((ns.map Sum.inr).zip vs)) ∧ VSs K S vs ss
theorem CellOk.step {K : Frag} {S H S' H' : Hp} {a : Addr} {c : Cell} (h : CellOk K S H a c) (l : Le S S') (e : H' a = H a) : CellOk K S' H' a c := by
  cases c with
  | ins C ns ss => obtain ⟨h0, h1, dx, vs, h2, h3⟩ := h; exact ⟨h0, h1, dx, vs, e.trans h2, VSs.mono l h3⟩
  | lst ss => obtain ⟨vs, h2, h3⟩ := h; exact ⟨vs, e.trans h2, VSs.mono l h3⟩
  | dS ns ss => obtain ⟨h0, h1, vs, h2, h3⟩ := h; exact ⟨h0, h1, vs, e.trans h2, VSs.mono l h3⟩
def star (v : V) (Θ : List (Addr × Cell)) : Res where
  v := v
  p := fun K S H fp => fp = Θ.map (·.1) ∧ ∀ p ∈ Θ, CellOk K S H p.1 p.2
  loc := fun ⟨h1, h2⟩ l k => ⟨h1, fun p hp => (h2 p hp).step l (k _ (by rw [h1]; exact List.mem_map.mpr ⟨p, hp, rfl⟩))⟩
variable {K : Frag} {Γ : List Sl} {k : Sl → List Sl → Prop} {O : Out}
theorem nodup_ix2 : ∀ {l : List Addr}, l.Nodup → ∀ {i j : Nat} {x : Addr}, l[i]? = some x → l[j]? = some x → i = j
  | [], _, _, _, _, h, _ => by simp at h
  | a :: l, nd, 0, 0, _, _, _ => rfl
  | a :: l, nd, 0, j + 1, x, h1, h2 => by
    simp only [List.getElem?_cons_zero, Option.some.injEq, List.getElem?_cons_succ] at h1 h2
    exact absurd (List.mem_of_getElem? h2) (by rw [← h1]; exact (List.nodup_cons.mp nd).1)
  | a :: l, nd, i + 1, 0, x, h1, h2 => by
    simp only [List.getElem?_cons_zero, Option.some.injEq, List.getElem?_cons_succ] at h1 h2
    exact absurd (List.mem_of_getElem? h1) (by rw [← h2]; exact (List.nodup_cons.mp nd).1)
  | a :: l, nd, i + 1, j + 1, x, h1, h2 => by
    simp only [List.getElem?_cons_succ] at h1 h2
    rw [nodup_ix2 (List.nodup_cons.mp nd).2 h1 h2]
theorem star_cell {σ : List (Option V)} {S H : Hp} {fs : List (List Addr)} {j n : Nat} {v : V} {Θ : List (Addr × Cell)} {a : Addr} {c : Cell} (w : Wd K σ Γ S H fs) (hj : Γ[j]? = some (.res (star v Θ))) (hn : Θ[n]? = some (a, c)) : CellOk K S H a c := by
  obtain ⟨x, fp, hx, hf, e1, e2, hc⟩ := w.sat.get hj
  exact hc (a, c) (List.mem_of_getElem? hn)
theorem star_upd {σ : List (Option V)} {S H : Hp} {fs : List (List Addr)} {j n : Nat} {v : V} {Θ : List (Addr × Cell)} {a : Addr} {c c' : Cell} {o : HO} (w : Wd K σ Γ S H fs) (hj : Γ[j]? = some (.res (star v Θ))) (hn : Θ[n]? = some (a, c)) (hc : CellOk K S (upd H a o) a c') :
    Wd K σ (Γ.set j (.res (star v (Θ.set n (a, c'))))) S (upd H a o) fs ∧ Step S H fs.flatten S (upd H a o) fs.flatten := by
  obtain ⟨x, fp, hx, hf, e1, e2, hcs⟩ := w.sat.get hj
  have e2 : fp = Θ.map (·.1) := e2
  have e1 : x = some v := e1
  subst e2
  have pm := flat_take fs j _ hf
  have gp := w.good.perm pm
  have aT : a ∈ Θ.map (·.1) := List.mem_map.mpr ⟨(a, c), List.mem_of_getElem? hn, rfl⟩
  have aF : a ∈ fs.flatten := pm.mem_iff.mpr (List.mem_append_left _ aT)
  have nS : S a = none := w.good.dis a aF
  have ndT : (Θ.map (·.1)).Nodup := (List.nodup_append.mp gp.nd).1
  have nF : ∀ b ∈ (fs.set j []).flatten, b ≠ a := fun b hb e => (List.nodup_append.mp gp.nd).2.2 a aT b hb e.symm
  have sat1 : SatL K S H σ (Γ.set j .no) (fs.set j []) := by
    have q := w.sat.set (x := x) (s := .no) (fp := []) j rfl
    rwa [setSame hx] at q
  have sat2 := sat1.step (Le.refl S) (H' := upd H a o) fun b hb => upd_ne (nF b hb)
  have e3 : (Θ.set n (a, c')).map (·.1) = Θ.map (·.1) := by
    rw [List.map_set]
    exact setSame (by rw [List.getElem?_map, hn]; rfl)
  have sat3 := sat2.set (x := x) (s := .res (star v (Θ.set n (a, c')))) (fp := Θ.map (·.1)) j ⟨e1, e3.symm, fun p hp => by
    obtain ⟨m, hm⟩ := List.getElem?_of_mem hp
    by_cases hmn : n = m
    · subst hmn
      rw [List.getElem?_set_self (List.getElem?_eq_some_iff.mp hn).1] at hm
      cases hm
      exact hc
    · rw [List.getElem?_set_ne hmn] at hm
      refine (hcs p (List.mem_of_getElem? hm)).step (Le.refl _) (upd_ne fun e => hmn ?_)
      refine nodup_ix2 ndT (x := a) ?_ ?_
      · rw [List.getElem?_map, hn]; rfl
      · rw [List.getElem?_map, hm]; show some p.1 = some a; rw [e]⟩
  rw [setSame hx, List.set_set, List.set_set, setSame hf] at sat3
  refine ⟨⟨⟨fun b u e => ?_, w.good.nd, w.good.dis, fun b hb => ?_⟩, sat3⟩, Le.refl _, fun b u e n => ?_, fun b e => .inl e, fun b hb => .inr hb, fun b e => ?_⟩
  · rw [upd_ne (ne_of_none e nS)]
    exact w.good.sub b u e
  · by_cases q : b = a
    · subst q; rw [upd_same]; simp
    · rw [upd_ne q]; exact w.good.al b hb
  · rw [upd_ne fun q => n (by rw [q]; exact aF)]
    exact e
  · by_cases q : b = a
    · subst q; rw [upd_same]; simp
    · rw [upd_ne q]; exact e
theorem lookup_zip {α : Type} : ∀ {ns : List Str} {vs : List α} {q : Nat} {f : Str} {v : α}, ns.Nodup → ns[q]? = some f → vs[q]? = some v → (ns.zip vs).lookup f = some v
  | [], _, _, _, _, _, h, _ => by simp at h
  | _ :: _, [], _, _, _, _, _, h => by simp at h
  | n :: ns, u :: vs, 0, f, v, _, h1, h2 => by
    simp at h1 h2
    subst h1 h2
    simp [List.zip_cons_cons, List.lookup]
  | n :: ns, u :: vs, q + 1, f, v, nd, h1, h2 => by
    simp only [List.getElem?_cons_succ] at h1 h2
    have hne : ¬ f = n := fun e => (List.nodup_cons.mp nd).1 (by rw [← e]; exact List.mem_of_getElem? h1)
    rw [List.zip_cons_cons]
    have hb : (f == n) = false := beq_eq_false_iff_ne.mpr hne
    simp only [List.lookup, hb]
    exact lookup_zip (List.nodup_cons.mp nd).2 h1 h2
theorem putF_zip : ∀ {ns : List Str} {vs : List V} {q : Nat} {f : Str} {v : V}, ns.Nodup → ns.length = vs.length → ns[q]? = some f → putF f v (ns.zip vs) = ns.zip (vs.set q v)
  | [], _, _, _, _, _, _, h => by simp at h
  | _ :: _, [], _, _, _, _, h, _ => by simp at h
  | n :: ns, u :: vs, 0, f, v, _, _, h1 => by
    simp at h1
    subst h1
    simp [List.zip_cons_cons, putF]
  | n :: ns, u :: vs, q + 1, f, v, nd, hl, h1 => by
    simp only [List.getElem?_cons_succ] at h1
    have hne : ¬ n = f := fun e => (List.nodup_cons.mp nd).1 (by rw [e]; exact List.mem_of_getElem? h1)
    rw [List.zip_cons_cons, List.set_cons_succ, List.zip_cons_cons]
    unfold putF
    rw [if_neg hne, putF_zip (List.nodup_cons.mp nd).2 (by simpa using hl) h1]
theorem putF_new : ∀ {ns : List Str} {vs : List V} {f : Str} {v : V}, ns.length = vs.length → f ∉ ns → putF f v (ns.zip vs) = (ns ++ [f]).zip (vs ++ [v])
  | [], [], _, _, _, _ => rfl
  | [], _ :: _, _, _, h, _ => by simp at h
  | _ :: _, [], _, _, h, _ => by simp at h
  | n :: ns, u :: vs, f, v, hl, h => by
    have hne : ¬ n = f := fun e => h (by simp [e])
    rw [List.zip_cons_cons, List.cons_append, List.cons_append, List.zip_cons_cons]
    unfold putF
    rw [if_neg hne, putF_new (by simpa using hl) fun q => h (List.mem_cons_of_mem _ q)]
theorem vss_len {S : Hp} {vs : List V} {ss : List Sl} (h : VSs K S vs ss) : vs.length = ss.length := Paired.length h
theorem pers_hd {σ : List (Option V)} {S H : Hp} {v : V} {s : Sl} {f : List Addr} {fs : List (List Addr)} (w : Wd K (some v :: σ) (s :: Γ) S H (f :: fs)) (h : VS K S v s) : f = [] := by
  have q := w.hd
  cases s with
  | dat d => exact q.1
  | raw u => exact q.1
  | no => exact h.elim
  | res r => exact h.elim
theorem e_fld (j n q : Nat) {to : TE} {f : Str} (h : EvP K to Γ fun s Γ1 => ∃ a v Θ C ns ss u, s = .raw (.ref a) ∧ Γ1[j]? = some (.res (star v Θ)) ∧ Θ[n]? = some (a, .ins C ns ss) ∧ Cls K C ∧ NoAttr K C f ∧ ns[q]? = some f ∧ ss[q]? = some u ∧ k u Γ1) : EvP K (tFld K to f) Γ k := by
  intro σ S H fs Q w P
  refine h σ S H fs _ w fun x r Γ1 S1 H1 f1 fs1 hb w1 st1 => ?_
  obtain ⟨a, v, Θ, C, ns, ss, u, rfl, hj, hn, hC, hN, hq, hu, hk⟩ := hb
  obtain ⟨e0, e1⟩ := w1.hd
  subst e0
  cases e1
  obtain ⟨nd, hl, dx, vs, hH, hv⟩ := star_cell w1.tl hj hn
  obtain ⟨y, hy, hys⟩ := VSs.get hv hu
  refine ⟨a, C, dx, _, y, rfl, hH, hC, hN, lookup_zip nd hq hy, ?_⟩
  have P1 := P.trans (by simpa using st1 : Step S H fs.flatten S1 H1 fs1.flatten)
  exact P1 y u Γ1 S1 H1 [] fs1 hk (w1.tl.put hys.ok) (by simpa using Step.refl)
theorem x_fld (j n q : Nat) {to te : TE} {f : Str} (h : EvP K te Γ fun s Γ1 => Pers s ∧ EvP K to Γ1 fun s2 Γ2 => ∃ a v Θ C ns ss, s2 = .raw (.ref a) ∧ Γ2[j]? = some (.res (star v Θ)) ∧ Θ[n]? = some (a, .ins C ns ss) ∧ Cls K C ∧ NoAttr K C f ∧ ns[q]? = some f ∧ ns.length < 1000 ∧ O.nx (Γ2.set j (.res (star v (Θ.set n (a, .ins C ns (ss.set q s))))))) : ExS K (sFld K to te f) Γ O := by
  intro σ S H fs D w E
  refine h σ S H fs _ w fun y s Γ1 S1 H1 f1 fs1 hb w1 st1 => ?_
  obtain ⟨hp, hb⟩ := hb
  obtain ⟨hv, e0⟩ := VS.of w1.hd hp
  subst e0
  refine hb σ S1 H1 fs1 _ w1.tl fun x s2 Γ2 S2 H2 f2 fs2 hc w2 st2 => ?_
  obtain ⟨a, v, Θ, C, ns, ss, rfl, hj, hn, hC, hN, hq, hz, hk⟩ := hc
  obtain ⟨e1, e2⟩ := w2.hd
  subst e1
  cases e2
  obtain ⟨nd, hl, dx, vs, hH, hvs⟩ := star_cell w2.tl hj hn
  have hlen := vss_len hvs
  have hv2 := hv.mono st2.le
  refine ⟨a, C, dx, _, rfl, hH, hC, hN, ?_, ?_⟩
  · rw [List.length_zip]
    omega
  · rw [putF_zip nd (by omega) hq]
    obtain ⟨w3, st3⟩ := star_upd (o := .ins C dx (ns.zip (vs.set q y))) (c' := .ins C ns (ss.set q s)) w2.tl hj hn ⟨nd, by simpa using hl, dx, _, upd_same, VSs.set hv2 q hvs⟩
    have stA : Step S H fs.flatten S2 H2 fs2.flatten := (by simpa using st1 : Step S H fs.flatten S1 H1 fs1.flatten).trans (by simpa using st2)
    exact (E.nx.step (stA.trans st3)) σ _ S2 _ fs2 hk w3 Step.refl
theorem x_fldN (j n : Nat) {to te : TE} {f : Str} (h : EvP K te Γ fun s Γ1 => Pers s ∧ EvP K to Γ1 fun s2 Γ2 => ∃ a v Θ C ns ss, s2 = .raw (.ref a) ∧ Γ2[j]? = some (.res (star v Θ)) ∧ Θ[n]? = some (a, .ins C ns ss) ∧ Cls K C ∧ NoAttr K C f ∧ f ∉ ns ∧ ns.length < 999 ∧ O.nx (Γ2.set j (.res (star v (Θ.set n (a, .ins C (ns ++ [f]) (ss ++ [s]))))))) : ExS K (sFld K to te f) Γ O := by
  intro σ S H fs D w E
  refine h σ S H fs _ w fun y s Γ1 S1 H1 f1 fs1 hb w1 st1 => ?_
  obtain ⟨hp, hb⟩ := hb
  obtain ⟨hv, e0⟩ := VS.of w1.hd hp
  subst e0
  refine hb σ S1 H1 fs1 _ w1.tl fun x s2 Γ2 S2 H2 f2 fs2 hc w2 st2 => ?_
  obtain ⟨a, v, Θ, C, ns, ss, rfl, hj, hn, hC, hN, hq, hz, hk⟩ := hc
  obtain ⟨e1, e2⟩ := w2.hd
  subst e1
  cases e2
  obtain ⟨nd, hl, dx, vs, hH, hvs⟩ := star_cell w2.tl hj hn
  have hlen := vss_len hvs
  have hv2 := hv.mono st2.le
  refine ⟨a, C, dx, _, rfl, hH, hC, hN, ?_, ?_⟩
  · rw [List.length_zip]
    omega
  · rw [putF_new (by omega) hq]
    obtain ⟨w3, st3⟩ := star_upd (o := .ins C dx ((ns ++ [f]).zip (vs ++ [y]))) (c' := .ins C (ns ++ [f]) (ss ++ [s])) w2.tl hj hn ⟨by rw [List.nodup_append]; exact ⟨nd, by simp, fun a ha b hb e => hq (by simp at hb; rw [← hb, ← e]; exact ha)⟩, by simp [hl], dx, _, upd_same, VSs.snoc hv2 hvs⟩
    have stA : Step S H fs.flatten S2 H2 fs2.flatten := (by simpa using st1 : Step S H fs.flatten S1 H1 fs1.flatten).trans (by simpa using st2)
    exact (E.nx.step (stA.trans st3)) σ _ S2 _ fs2 hk w3 Step.refl
theorem op_ixC (j n : Nat) {a : Addr} {v : V} {Θ : List (Addr × Cell)} {ss : List Sl} {i : Int} {u : Sl} (hj : Γ[j]? = some (.res (star v Θ))) (hn : Θ[n]? = some (a, .lst ss)) (hi : atI ss i = some u) (hk : k u Γ) : OpK K (uIx K) (.raw (.ref a)) (.dat (.int i)) Γ k := by
  intro σ S H f1 f2 fs x y Q w P
  obtain ⟨e0, e1⟩ := w.hd
  obtain ⟨e2, y', e3, hy⟩ := w.tl.hd
  subst e0 e2
  cases e1; cases e3; cases hy
  obtain ⟨vs, hH, hvs⟩ := star_cell w.tl.tl hj hn
  have hl := vss_len hvs
  unfold atI at hi
  rw [← hl] at hi
  cases q : ixN vs.length i with
  | none => rw [q] at hi; cases hi
  | some m =>
    rw [q] at hi
    obtain ⟨z, hz, hzs⟩ := VSs.get hvs hi
    refine .inl ⟨a, vs, i, z, rfl, rfl, .inl (.inl hH), by unfold atI; rw [q]; exact hz, ?_⟩
    exact (Post.drop2 P) z u Γ S H [] fs hk (w.tl.tl.put hzs.ok) (by simpa using Step.refl)
theorem g_subC (j n : Nat) {to ti : TE} {s : Sl} {kn : List Sl → Prop} (hp : Pers s) (h : EvP K to Γ fun s1 Γ1 => EvP K ti Γ1 fun s2 Γ2 => ∃ a v Θ ss i m, s1 = .raw (.ref a) ∧ s2 = .dat (.int i) ∧ Γ2[j]? = some (.res (star v Θ)) ∧ Θ[n]? = some (a, .lst ss) ∧ ixN ss.length i = some m ∧ kn (Γ2.set j (.res (star v (Θ.set n (a, .lst (ss.set m s))))))) : EvG K (gSub to ti rSetL) s Γ kn := by
  intro σ S H f fs y q w E
  obtain ⟨hv, e0⟩ := VS.of w.hd hp
  subst e0
  refine h σ S H fs _ w.tl fun x s1 Γ1 S1 H1 f1 fs1 hb w1 st1 => ?_
  refine hb σ S1 H1 fs1 _ w1.tl fun z s2 Γ2 S2 H2 f2 fs2 hc w2 st2 => ?_
  obtain ⟨a, v, Θ, ss, i, m, rfl, rfl, hj, hn, hm, hk⟩ := hc
  obtain ⟨e1, e2⟩ := w1.hd
  obtain ⟨e3, z', e4, hz⟩ := w2.hd
  subst e1 e3
  cases e2; cases e4; cases hz
  obtain ⟨vs, hH, hvs⟩ := star_cell w2.tl hj hn
  have hl := vss_len hvs
  refine ⟨a, vs, i, m, rfl, rfl, hH, by rw [hl]; exact hm, ?_⟩
  have hv2 := (hv.mono st1.le).mono st2.le
  obtain ⟨w3, st3⟩ := star_upd (o := .lst (vs.set m y)) (c' := .lst (ss.set m s)) w2.tl hj hn ⟨_, upd_same, VSs.set hv2 m hvs⟩
  have stA : Step S H fs.flatten S2 H2 fs2.flatten := (by simpa using st1 : Step S H fs.flatten S1 H1 fs1.flatten).trans (by simpa using st2)
  exact E σ _ S2 _ fs2 hk w3 (by simpa using stA.trans st3)
theorem e_appC (j n : Nat) {to : TE} {ta : TA} (h : EvP K to Γ fun s Γ1 => ∃ a, s = .raw (.ref a) ∧ (∃ v Θ ss, Γ1[j]? = some (.res (star v Θ)) ∧ Θ[n]? = some (a, .lst ss)) ∧ EvA K ta Γ1 fun rs Γ2 => ∃ v Θ ss s2, Pers s2 ∧ Γ2[j]? = some (.res (star v Θ)) ∧ Θ[n]? = some (a, .lst ss) ∧ rs = [s2] ∧ ss.length < sizeLine ∧ k (.dat .none) (Γ2.set j (.res (star v (Θ.set n (a, .lst (ss ++ [s2]))))))) :
    EvP K (tBM K "list" rAppend to ta) Γ k := by
  intro σ S H fs Q w P
  refine h σ S H fs _ w fun x r1 Γ1 S1 H1 f1 fs1 hb w1 st1 => ?_
  obtain ⟨a, rfl, ⟨v0, Θ0, ss0, hj0, hn0⟩, hA⟩ := hb
  obtain ⟨e0, e1⟩ := w1.hd
  subst e0
  cases e1
  obtain ⟨vs0, q3, q4⟩ := star_cell w1.tl hj0 hn0
  refine ⟨.inl ⟨rfl, vs0, .inl (.inl q3)⟩, ?_⟩
  refine hA σ S1 H1 fs1 _ w1.tl fun vs rs Γ2 S2 H2 frs fs2 hk l1 l2 w2 st2 => ?_
  obtain ⟨v, Θ, ss, s2, hp, hj, hn, rfl, hz, hk⟩ := hk
  match vs, frs, l1, l2, w2, st2 with
  | [u], [f], _, _, w2, st2 =>
    have w2' : Wd K (some u :: σ) (s2 :: Γ2) S2 H2 (f :: fs2) := w2
    obtain ⟨hu, e4⟩ := VS.of w2'.hd hp
    subst e4
    obtain ⟨ws, q7, q8⟩ := star_cell w2'.tl hj hn
    have hl := vss_len q8
    obtain ⟨w3, st3⟩ := star_upd (o := .lst (ws ++ [u])) (c' := .lst (ss ++ [s2])) w2'.tl hj hn ⟨_, upd_same, VSs.snoc hu q8⟩
    refine ⟨a, ws, u, rfl, rfl, q7, by omega, ?_⟩
    have st12 : Step S H fs.flatten S2 H2 fs2.flatten := (by simpa using st1 : Step S H fs.flatten S1 H1 fs1.flatten).trans (by simpa using st2)
    exact (P.trans (st12.trans st3)).dat w3 hk .non
  | [], _, l1, _, _, _ => simp at l1
  | _ :: _ :: _, _, l1, _, _, _ => simp at l1
  | [_], [], _, l2, _, _ => simp at l2
  | [_], _ :: _ :: _, _, l2, _, _ => simp at l2
theorem e_pop0C (j n : Nat) {to : TE} {ta : TA} (h : EvP K to Γ fun s Γ1 => ∃ a, s = .raw (.ref a) ∧ (∃ v Θ ss, Γ1[j]? = some (.res (star v Θ)) ∧ Θ[n]? = some (a, .lst ss)) ∧ EvA K ta Γ1 fun rs Γ2 => ∃ v Θ s0 ss, Γ2[j]? = some (.res (star v Θ)) ∧ Θ[n]? = some (a, .lst (s0 :: ss)) ∧ rs = [.dat (.int 0)] ∧ k s0 (Γ2.set j (.res (star v (Θ.set n (a, .lst ss)))))) :
    EvP K (tBM K "list" rPopAt to ta) Γ k := by
  intro σ S H fs Q w P
  refine h σ S H fs _ w fun x r1 Γ1 S1 H1 f1 fs1 hb w1 st1 => ?_
  obtain ⟨a, rfl, ⟨v0, Θ0, ss0, hj0, hn0⟩, hA⟩ := hb
  obtain ⟨e0, e1⟩ := w1.hd
  subst e0
  cases e1
  obtain ⟨vs0, q3, q4⟩ := star_cell w1.tl hj0 hn0
  refine ⟨.inl ⟨rfl, vs0, .inl (.inl q3)⟩, ?_⟩
  refine hA σ S1 H1 fs1 _ w1.tl fun vs rs Γ2 S2 H2 frs fs2 hk l1 l2 w2 st2 => ?_
  obtain ⟨v, Θ, s0, ss, hj, hn, rfl, hk⟩ := hk
  match vs, frs, l1, l2, w2, st2 with
  | [u], [f], _, _, w2, st2 =>
    have w2' : Wd K (some u :: σ) (.dat (.int 0) :: Γ2) S2 H2 (f :: fs2) := w2
    obtain ⟨e4, u', e5, hu⟩ := w2'.hd
    subst e4
    cases e5; cases hu
    obtain ⟨ws, q7, q8⟩ := star_cell w2'.tl hj hn
    cases q8 with
    | @cons y _ ys _ hy hys =>
      obtain ⟨w3, st3⟩ := star_upd (o := .lst ys) (c' := .lst ss) w2'.tl hj hn ⟨_, upd_same, hys⟩
      refine ⟨a, y :: ys, 0, 0, y, rfl, rfl, q7, by decide, by decide, by simp [seqIndex?], rfl, ?_⟩
      have st12 : Step S H fs.flatten S2 H2 fs2.flatten := (by simpa using st1 : Step S H fs.flatten S1 H1 fs1.flatten).trans (by simpa using st2)
      have P3 := P.trans (st12.trans st3)
      exact P3 y s0 _ S2 _ [] fs2 hk (w3.put hy.ok) (by simpa using Step.refl)
  | [], _, l1, _, _, _ => simp at l1
  | _ :: _ :: _, _, l1, _, _, _ => simp at l1
  | [_], [], _, l2, _, _ => simp at l2
  | [_], _ :: _ :: _, _, l2, _, _ => simp at l2
end Dl
namespace Dl
open PySem PySem.Spec PyProof.Rows L2
variable {K : Frag} {Γ : List Sl} {k : Sl → List Sl → Prop} {O : Out}
def HasL (Γ : List Sl) (a : Addr) (ss : List Sl) : Prop := (∃ (j n : Nat) (v : V) (Θ : List (Addr × Cell)), Γ[j]? = some (.res (star v Θ)) ∧ Θ[n]? = some (a, .lst ss)) ∨ ∃ (j : Nat) (ds : List PyData), Γ[j]? = some (.res (ownL a ds)) ∧ ss = ds.map .dat
theorem HasL.s (j n : Nat) {v : V} {Θ : List (Addr × Cell)} {a : Addr} {ss : List Sl} (h1 : Γ[j]? = some (.res (star v Θ))) (h2 : Θ[n]? = some (a, .lst ss)) : HasL Γ a ss := .inl ⟨j, n, v, Θ, h1, h2⟩
theorem HasL.o (j : Nat) {a : Addr} {ds : List PyData} (h1 : Γ[j]? = some (.res (ownL a ds))) : HasL Γ a (ds.map .dat) := .inr ⟨j, ds, h1, rfl⟩
theorem HasL.cons {s : Sl} {a : Addr} {ss : List Sl} (h : HasL Γ a ss) : HasL (s :: Γ) a ss := by
  rcases h with ⟨j, n, v, Θ, h1, h2⟩ | ⟨j, ds, h1, h2⟩
  · exact .inl ⟨j + 1, n, v, Θ, by simpa using h1, h2⟩
  · exact .inr ⟨j + 1, ds, by simpa using h1, h2⟩
theorem HasL.at {σ : List (Option V)} {S H : Hp} {fs : List (List Addr)} {a : Addr} {ss : List Sl} (h : HasL Γ a ss) (w : Wd K σ Γ S H fs) : ∃ vs, H a = some (.lst vs) ∧ VSs K S vs ss := by
  rcases h with ⟨j, n, v, Θ, h1, h2⟩ | ⟨j, ds, h1, rfl⟩
  · exact star_cell w h1 h2
  · obtain ⟨x, fp, hx, hf, e1, e2, vs, h3, h4⟩ := w.sat.get h1
    exact ⟨vs, h3, VSs.of_dats h4⟩
theorem i_sqC {tl : TE} {ki : (Nat → Sl) → Nat → (List Sl → Prop) → List Sl → Prop} (h : EvP K tl Γ fun r Γ1 => ∃ a ss, r = .raw (.ref a) ∧ HasL Γ1 a ss ∧ (ss.length ≤ sizeLine → ki (fun i => ss.getD i .no) ss.length (fun Γ => HasL Γ a ss) Γ1)) : EvI K (iSq K tl) Γ ki := by
  intro σ S H fs R w P
  refine h σ S H fs _ w fun v r Γ1 S1 H1 f1 fs1 hb w1 st1 => ?_
  obtain ⟨a, ss, rfl, hL, hk⟩ := hb
  obtain ⟨e0, e1⟩ := w1.hd
  subst e0
  cases e1
  obtain ⟨vs, hH, hvs⟩ := hL.at w1.tl
  have hl := vss_len hvs
  refine .inl ⟨a, vs, rfl, .inl (.inl hH), fun hz => P _ _ _ _ Γ1 S1 H1 fs1 (fun _ _ h => h.cons) (hk (by omega)) w1.tl (by simpa using st1) fun i σ2 Γ2 S2 H2 fs2 hi hG w2 st2 => ?_⟩
  obtain ⟨us, hU, hus⟩ := hG.at w2
  have hl2 := vss_len hus
  refine ⟨fun hlt => ⟨⟨us, us[i]'(by omega), .inl (.inl hU), List.getElem?_eq_getElem (by omega)⟩, fun x H' y => ?_⟩, fun he => ⟨us, .inl (.inl hU), by omega⟩⟩
  obtain ⟨rfl, y⟩ := y
  have hx := y us (.inl (.inl hU))
  have hs : ss[i]? = some (ss.getD i .no) := by
    rw [List.getD_eq_getElem?_getD, List.getElem?_eq_getElem hlt]
    rfl
  obtain ⟨u, h1, h2⟩ := VSs.get hus hs
  rw [hx] at h1
  cases h1
  exact ⟨S2, w2.put h2.ok, Step.refl⟩
theorem cb1raw {r : List V → Hp → VK → Prop} {u : V} (h : ∀ σ S H fs Q, Wd K σ Γ S H fs → Post K σ S H fs.flatten k Q → r [u] H Q) : CbK K r [.raw u] Γ k := by
  intro σ S H frs fs vs Q l1 l2 w P
  match vs, frs, l1, l2, w, P with
  | [v], [f], _, _, w, P =>
    have w' : Wd K (some v :: σ) (.raw u :: Γ) S H (f :: fs) := w
    obtain ⟨e0, e1⟩ := w'.hd
    subst e0
    cases e1
    exact h σ S H fs Q w'.tl (P.trans (Step.refl.sub fun a ha => by simpa using ha))
  | [], _, l1, _, _, _ => simp at l1
  | _ :: _ :: _, _, l1, _, _, _ => simp at l1
  | [_], [], _, l2, _, _ => simp at l2
  | [_], _ :: _ :: _, _, l2, _, _ => simp at l2
theorem cb_lenC {a : Addr} {ss : List Sl} (hL : HasL Γ a ss) (hk : k (.dat (.int ss.length)) Γ) : CbK K (rLen K) [.raw (.ref a)] Γ k :=
  cb1raw fun σ S H fs Q w P => by
    obtain ⟨vs, hH, hvs⟩ := hL.at w
    exact ⟨.ref a, ss.length, rfl, .inl ⟨vs, .inl (.inl hH), (vss_len hvs).symm⟩, P.dat w hk (.int _)⟩
theorem cb_listC {a : Addr} {ds : List PyData} (hL : HasL Γ a (ds.map .dat)) (hk : k (.dat (.list ds)) Γ) : CbK K (rListU K) [.raw (.ref a)] Γ k :=
  cb1raw fun σ S H fs Q w P => by
    obtain ⟨vs, hH, hvs⟩ := hL.at w
    exact ⟨a, vs, rfl, .inl (.inl (.inl hH)), fun p hp => P.new w hk hp (dp_lst_new (w.good.sub.none hp) (VSs.dats hvs))⟩
theorem cb_tupleC {a : Addr} {ds : List PyData} (hL : HasL Γ a (ds.map .dat)) (hk : k (.dat (.tuple ds)) Γ) : CbK K (rTupU K) [.raw (.ref a)] Γ k :=
  cb1raw fun σ S H fs Q w P => by
    obtain ⟨vs, hH, hvs⟩ := hL.at w
    exact ⟨a, vs, rfl, .inl ⟨.inl (.inl hH), fun p hp => P.new w hk hp (dp_tup_new (w.good.sub.none hp) (VSs.dats hvs))⟩⟩
theorem op_ixL {a : Addr} {ss : List Sl} {i : Int} {u : Sl} (hL : HasL Γ a ss) (hi : atI ss i = some u) (hk : k u Γ) : OpK K (uIx K) (.raw (.ref a)) (.dat (.int i)) Γ k := by
  intro σ S H f1 f2 fs x y Q w P
  obtain ⟨e0, e1⟩ := w.hd
  obtain ⟨e2, y', e3, hy⟩ := w.tl.hd
  subst e0 e2
  cases e1; cases e3; cases hy
  obtain ⟨vs, hH, hvs⟩ := hL.at w.tl.tl
  have hl := vss_len hvs
  unfold atI at hi
  rw [← hl] at hi
  cases q : ixN vs.length i with
  | none => rw [q] at hi; cases hi
  | some m =>
    rw [q] at hi
    obtain ⟨z, hz, hzs⟩ := VSs.get hvs hi
    refine .inl ⟨a, vs, i, z, rfl, rfl, .inl (.inl hH), by unfold atI; rw [q]; exact hz, ?_⟩
    exact (Post.drop2 P) z u Γ S H [] fs hk (w.tl.tl.put hzs.ok) (by simpa using Step.refl)
theorem own_dd {σ : List (Option V)} {S H : Hp} {fs : List (List Addr)} {a : Addr} {ds : List PyData} (hL : HasL Γ a (ds.map .dat)) (w : Wd K σ Γ S H fs) : Dp K H (.ref a) (.list ds) := by
  obtain ⟨vs, hH, hvs⟩ := hL.at w
  exact .lst (.inl (.inl hH)) (DdAll.dps (Le.dps w.good.sub (VSs.dats hvs)))
theorem op_neC {a : Addr} {ds : List PyData} {e : PyData} (hL : HasL Γ a (ds.map .dat)) (h1 : SeqAt.shaped (.list ds) = true) (h2 : SeqAt.shaped e = true) (hk : k (.dat (.bool (!PyData.eqv (.list ds) e))) Γ) : OpK K (uNe K) (.raw (.ref a)) (.dat e) Γ k := by
  intro σ S H f1 f2 fs x y Q w P
  obtain ⟨e0, e1⟩ := w.hd
  obtain ⟨e2, y', e3, hy⟩ := w.tl.hd
  subst e0 e2
  cases e1; cases e3
  exact ⟨_, _, own_dd hL w.tl.tl, (w.good.sub.dp hy).dp, h1, h2, (Post.drop2 P).dat w.tl.tl hk (.bl _)⟩
theorem op_eqC {a : Addr} {ds : List PyData} {e : PyData} (hL : HasL Γ a (ds.map .dat)) (h1 : SeqAt.shaped (.list ds) = true) (h2 : SeqAt.shaped e = true) (hk : k (.dat (.bool (PyData.eqv (.list ds) e))) Γ) : OpK K (uEq K) (.raw (.ref a)) (.dat e) Γ k := by
  intro σ S H f1 f2 fs x y Q w P
  obtain ⟨e0, e1⟩ := w.hd
  obtain ⟨e2, y', e3, hy⟩ := w.tl.hd
  subst e0 e2
  cases e1; cases e3
  exact ⟨_, _, own_dd hL w.tl.tl, (w.good.sub.dp hy).dp, h1, h2, (Post.drop2 P).dat w.tl.tl hk (.bl _)⟩
theorem e_slC {te : TE} {tl th : TO} (h : EvP K te Γ fun r Γ1 => EvO K tl Γ1 fun lo Γ2 => EvO K th Γ2 fun hi Γ3 => ∃ a ds, r = .raw (.ref a) ∧ HasL Γ3 a (ds.map .dat) ∧ k (.dat (.list (cutG ds lo hi))) Γ3) : EvP K (tSl (rSlU K) te tl th) Γ k := by
  intro σ S H fs Q w P
  refine h σ S H fs _ w fun v r Γ1 S1 H1 f1 fs1 hl w1 st1 => ?_
  refine hl σ S1 H1 fs1 _ w1.tl fun lo Γ2 S2 H2 fs2 hh w2 st2 => ?_
  refine hh σ S2 H2 fs2 _ w2 fun hi Γ3 S3 H3 fs3 hk w3 st3 => ?_
  obtain ⟨a, ds, rfl, hL, hk⟩ := hk
  obtain ⟨e0, e1⟩ := w1.hd
  subst e0
  cases e1
  have P3 : Post K σ S3 H3 fs3.flatten k Q := P.trans (((by simpa using st1 : Step S H fs.flatten S1 H1 fs1.flatten).trans st2).trans st3)
  obtain ⟨vs, hH, hvs⟩ := hL.at w3
  exact .inl ⟨a, vs, rfl, .inl (.inl hH), fun p hp => P3.new w3 hk hp (dp_lst_new (w3.good.sub.none hp) (dps_cut (VSs.dats hvs)))⟩
theorem valV_zip : ∀ {ns : List Str} {vs : List V} {q : Nat} {f : Str} {v : V}, ns.Nodup → ns[q]? = some f → vs[q]? = some v → valV ((ns.map (Sum.inr : Str → Key)).zip vs) (Sum.inr f) = some v
  | [], _, _, _, _, _, h, _ => by simp at h
  | _ :: _, [], _, _, _, _, _, h => by simp at h
  | n :: ns, u :: vs, 0, f, v, _, h1, h2 => by
    simp at h1 h2
    subst h1 h2
    exact valV_pos (p := (Sum.inr n, u)) rfl
  | n :: ns, u :: vs, q + 1, f, v, nd, h1, h2 => by
    simp only [List.getElem?_cons_succ] at h1 h2
    have hne : ¬ n = f := fun e => (List.nodup_cons.mp nd).1 (by rw [e]; exact List.mem_of_getElem? h1)
    rw [List.map_cons, List.zip_cons_cons]
    rw [valV_neg (p := (Sum.inr n, u)) fun e => hne (Sum.inr.inj e)]
    exact valV_zip (List.nodup_cons.mp nd).2 h1 h2
theorem map_zip_set : ∀ {ns : List Str} {vs : List V} {q : Nat} {f : Str} {v : V}, ns.Nodup → ns.length = vs.length → ns[q]? = some f → ((ns.map (Sum.inr : Str → Key)).zip vs).map (fun kv => if kv.1 = Sum.inr f then (kv.1, v) else kv) = (ns.map Sum.inr).zip (vs.set q v)
  | [], _, _, _, _, _, _, h => by simp at h
  | _ :: _, [], _, _, _, _, h, _ => by simp at h
  | n :: ns, u :: vs, 0, f, v, nd, hl, h1 => by
    simp at h1
    subst h1
    have hh : ∀ {ms : List Str} {us : List V}, n ∉ ms → ((ms.map (Sum.inr : Str → Key)).zip us).map (fun kv => if kv.1 = Sum.inr n then (kv.1, v) else kv) = (ms.map Sum.inr).zip us := by
      intro ms
      induction ms with
      | nil => intro us _; simp
      | cons m ms ih =>
        intro us hn
        cases us with
        | nil => simp
        | cons z us =>
          simp only [List.map_cons, List.zip_cons_cons]
          rw [if_neg (fun e => hn (by rw [← Sum.inr.inj e]; exact List.mem_cons_self)), ih fun q => hn (List.mem_cons_of_mem _ q)]
    simp only [List.map_cons, List.zip_cons_cons, List.set_cons_zero]
    rw [hh (List.nodup_cons.mp nd).1]
    simp
  | n :: ns, u :: vs, q + 1, f, v, nd, hl, h1 => by
    simp only [List.getElem?_cons_succ] at h1
    have hne : ¬ n = f := fun e => (List.nodup_cons.mp nd).1 (by rw [e]; exact List.mem_of_getElem? h1)
    simp only [List.map_cons, List.zip_cons_cons, List.set_cons_succ]
    rw [if_neg fun e => hne (Sum.inr.inj e), map_zip_set (List.nodup_cons.mp nd).2 (by simpa using hl) h1]
theorem putK_zip {ns : List Str} {vs : List V} {q : Nat} {f : Str} {v : V} (nd : ns.Nodup) (hl : ns.length = vs.length) (h : ns[q]? = some f) : putK ((ns.map (Sum.inr : Str → Key)).zip vs) (Sum.inr f) v = (ns.map Sum.inr).zip (vs.set q v) := by
  unfold putK
  rw [if_pos, map_zip_set nd hl h]
  rw [valV_any]
  have hq : q < vs.length := by rw [← hl]; exact (List.getElem?_eq_some_iff.mp h).1
  rw [valV_zip nd h (List.getElem?_eq_getElem hq)]
  rfl
theorem e_dgetC (j n q : Nat) {to ti : TE} (h : EvP K to Γ fun s Γ1 => EvP K ti Γ1 fun s2 Γ2 => ∃ a v Θ ns ss f u, s = .raw (.ref a) ∧ s2 = .dat (.str f) ∧ Γ2[j]? = some (.res (star v Θ)) ∧ Θ[n]? = some (a, .dS ns ss) ∧ ns[q]? = some f ∧ ss[q]? = some u ∧ k u Γ2) : EvP K (tDGet to ti) Γ k := by
  intro σ S H fs Q w P
  refine h σ S H fs _ w fun x r Γ1 S1 H1 f1 fs1 hb w1 st1 => ?_
  refine hb σ S1 H1 fs1 _ w1.tl fun y r2 Γ2 S2 H2 f2 fs2 hc w2 st2 => ?_
  obtain ⟨a, v, Θ, ns, ss, f, u, rfl, rfl, hj, hn, hq, hu, hk⟩ := hc
  obtain ⟨e0, e1⟩ := w1.hd
  obtain ⟨e2, y', e3, hy⟩ := w2.hd
  subst e0 e2
  cases e1; cases e3; cases hy
  obtain ⟨nd, hl, vs, hH, hvs⟩ := star_cell w2.tl hj hn
  obtain ⟨z, hz, hzs⟩ := VSs.get hvs hu
  refine ⟨a, z, rfl, ?_, ?_⟩
  · have := DGet.k (k := Sum.inr f) hH
    rw [valV_zip nd hq hz] at this
    exact this
  · have P2 := P.trans ((by simpa using st1 : Step S H fs.flatten S1 H1 fs1.flatten).trans (by simpa using st2 : Step S1 H1 fs1.flatten S2 H2 fs2.flatten))
    exact P2 z u Γ2 S2 H2 [] fs2 hk (w2.tl.put hzs.ok) (by simpa using Step.refl)
theorem x_dputC (j n q : Nat) {to ti te : TE} (h : EvP K te Γ fun s Γ1 => Pers s ∧ EvP K to Γ1 fun s2 Γ2 => EvP K ti Γ2 fun s3 Γ3 => ∃ a v Θ ns ss f, s2 = .raw (.ref a) ∧ s3 = .dat (.str f) ∧ Γ3[j]? = some (.res (star v Θ)) ∧ Θ[n]? = some (a, .dS ns ss) ∧ ns[q]? = some f ∧ ns.length < 1000 ∧ O.nx (Γ3.set j (.res (star v (Θ.set n (a, .dS ns (ss.set q s))))))) : ExS K (sDPut to ti te) Γ O := by
  intro σ S H fs D w E
  refine h σ S H fs _ w fun y s Γ1 S1 H1 f1 fs1 hb w1 st1 => ?_
  obtain ⟨hp, hb⟩ := hb
  obtain ⟨hv, e0⟩ := VS.of w1.hd hp
  subst e0
  refine hb σ S1 H1 fs1 _ w1.tl fun x s2 Γ2 S2 H2 f2 fs2 hc w2 st2 => ?_
  refine hc σ S2 H2 fs2 _ w2.tl fun z s3 Γ3 S3 H3 f3 fs3 hd w3 st3 => ?_
  obtain ⟨a, v, Θ, ns, ss, f, rfl, rfl, hj, hn, hq, hz, hk⟩ := hd
  obtain ⟨e1, e2⟩ := w2.hd
  obtain ⟨e3, z', e4, hz'⟩ := w3.hd
  subst e1 e3
  cases e2; cases e4; cases hz'
  obtain ⟨nd, hl, vs, hH, hvs⟩ := star_cell w3.tl hj hn
  have hlen := vss_len hvs
  refine ⟨a, _, rfl, DPut.k (k := Sum.inr f) hH (by rw [List.length_zip, List.length_map, sizeLine_eq]; omega), ?_⟩
  rw [putK_zip nd (by omega) hq]
  have hv2 := ((hv.mono st2.le).mono st3.le)
  obtain ⟨w4, st4⟩ := star_upd (o := .dK ((ns.map Sum.inr).zip (vs.set q y))) (c' := .dS ns (ss.set q s)) w3.tl hj hn ⟨nd, by simpa using hl, _, upd_same, VSs.set hv2 q hvs⟩
  have stA : Step S H fs.flatten S3 H3 fs3.flatten := ((by simpa using st1 : Step S H fs.flatten S1 H1 fs1.flatten).trans (by simpa using st2)).trans (by simpa using st3)
  exact (E.nx.step (stA.trans st4)) σ _ S3 _ fs3 hk w4 Step.refl
theorem star_cons {σ : List (Option V)} {S H : Hp} {fs : List (List Addr)} {v u : V} {Θ Θ' : List (Addr × Cell)} {f g : List Addr} (w : Wd K (some v :: some u :: σ) (.res (star v Θ) :: .res (star u Θ') :: Γ) S H (f :: g :: fs)) :
    Wd K (some u :: σ) (.res (star u (Θ ++ Θ')) :: Γ) S H ((f ++ g) :: fs) := by
  obtain ⟨e1, e2, e3⟩ := w.hd
  obtain ⟨e4, e5, e6⟩ := w.tl.hd
  have e2 : f = Θ.map (·.1) := e2
  have e5 : g = Θ'.map (·.1) := e5
  refine ⟨w.good.perm (by simp), .cons ⟨rfl, by rw [e2, e5, List.map_append], fun p hp => ?_⟩ w.tl.tl.sat⟩
  rcases List.mem_append.mp hp with q | q
  · exact e3 p q
  · exact e6 p q
theorem star_part {σ : List (Option V)} {S H : Hp} {fs : List (List Addr)} {v u : V} {Θ Θ' : List (Addr × Cell)} {f : List Addr} (w : Wd K (some u :: σ) (.res (star u (Θ ++ Θ')) :: Γ) S H (f :: fs)) :
    Wd K (some v :: some u :: σ) (.res (star v Θ) :: .res (star u Θ') :: Γ) S H (Θ.map (·.1) :: Θ'.map (·.1) :: fs) := by
  obtain ⟨e1, e2, e3⟩ := w.hd
  have e2 : f = (Θ ++ Θ').map (·.1) := e2
  subst e2
  refine ⟨w.good.perm (by simp), .cons ⟨rfl, rfl, fun p hp => e3 p (List.mem_append_left _ hp)⟩ (.cons ⟨rfl, rfl, fun p hp => e3 p (List.mem_append_right _ hp)⟩ w.tl.sat)⟩
theorem star_perm {K S H fp} {v : V} {Θ Θ' : List (Addr × Cell)} (p : Θ.Perm Θ') (h : (star v Θ).p K S H fp) : (star v Θ').p K S H (Θ'.map (·.1)) ∧ fp.Perm (Θ'.map (·.1)) :=
  ⟨⟨rfl, fun q hq => h.2 q (p.mem_iff.mpr hq)⟩, by rw [h.1]; exact p.map _⟩
end Dl
namespace Dl
open PySem PySem.Spec PyProof.Rows L2
structure CalleeM (P : Program) (w : World) (K : Frag) (mg : Str → Option Value) (base : Heap) (C : Addr) (m : Str) (k : Nat) (ps : List Str) (sp : Sp) : Prop where
  ex : ∃ f fd, FnOk P w K mg base CX0 k f fd ps sp ∧ Meth K C m f ∧ Binds K fd ps []
structure CalleeI (P : Program) (w : World) (K : Frag) (mg : Str → Option Value) (base : Heap) (x : Str) (C : Addr) (k : Nat) (ps : List Str) (sp : Sp) : Prop where
  ex : ∃ f fd, FnOk P w K mg base CX0 k f fd ps sp ∧ Mk K C f ∧ mg x = some (.ref C) ∧ Binds K fd ps []
structure CalleeP (P : Program) (w : World) (K : Frag) (mg : Str → Option Value) (base : Heap) (C : Addr) (m : Str) (k : Nat) (ps : List Str) (sp : Sp) : Prop where
  ex : ∃ p f fd, FnOk P w K mg base CX0 k f fd ps sp ∧ PropOf K C m p f ∧ Binds K fd ps []
theorem fn_mk {P : Program} {w : World} {K : Frag} {mg : Str → Option Value} {base : Heap} {x qual : Str} {params : Arguments} {body : List Stmt} {scope : Scope} {f : Addr} {fd : FuncData} {N ps : List Str} {k : Nat} {F : FSpec}
    (FD : FunD K x qual params body scope [] [] f fd) (S : FnScope N ps scope)
    (hn : ∀ args k, F args k → args.length = ps.length) (t : TS) (ht : ∀ args k, F args k → ExS K t (args ++ List.replicate (N.length - args.length) .no) (fnOut args k))
    (hd : ∀ (cdv : Value) (A : Around) (outer : List Env) (s : Shared) (H : Hp) (E : XK), Room k (A.deeper (envOfC qual scope s.heap.objs.size f cdv)) → PSs (cxOf CX0 P w K mg base N qual scope f cdv A outer s H E).nox body t) :
    FnOk P w K mg base CX0 (k + 1) f fd ps (spOf K F) :=
  FD.ok S (fun vs H Q E h => sp_len hn h) (fun cdv A outer s H vs Q E hr h => ⟨t, (hd cdv A outer s H E hr).nox, fn_body ht h⟩)
section
variable {X : Cx} {x m : Str} {j k : Nat} {C : Addr} {ps : List Str} {sp : Sp} {p pos apos : Pos} {e o : Expr} {es : List Expr} {ta : TE} {t : TA}
theorem pe_um {pl : Sem Bool} (he : PE X o ta) (c : Cls X.K C) (M : CalleeM X.prog X.w X.K X.mg X.base C m j ps sp) (hr : Room k X.A) (hj : j ≤ k) (ha : PA X (e :: es) t)
    (hst : starEach (e :: es) X.env = (false, eval e X.env) :: starEach es X.env := by rfl) (hpl : (backTo pos (starEach es X.env)).any (·.1) = false := by rfl)
    (ht : eval (.Call (.Attribute o m apos) (e :: es) [] pos) X.env = (do
      let ov ← eval o X.env
      standAt apos.atName
      let (f, first) ← holding [ov] (getMethod ov m pl)
      callWith pos f first (backTo pos (starEach (e :: es) X.env)) (backToKw pos (keywordEach [] X.env))) := by rfl) :
    PE X (.Call (.Attribute o m apos) (e :: es) [] pos) (tMeth C m sp [] E0 ta t) := by
  obtain ⟨f, fd, F, hm, hb⟩ := M.ex
  exact pe_meth he c hm F (hr.mono hj) hb .nil pass0 ha hst hpl ht
theorem pe_um0 {pl : Sem Bool} (he : PE X o ta) (c : Cls X.K C) (M : CalleeM X.prog X.w X.K X.mg X.base C m j ps sp) (hr : Room k X.A) (hj : j ≤ k)
    (ht : eval (.Call (.Attribute o m apos) [] [] pos) X.env = (do
      let ov ← eval o X.env
      standAt apos.atName
      let (f, first) ← holding [ov] (getMethod ov m pl)
      callWith pos f first (backTo pos (starEach [] X.env)) (backToKw pos (keywordEach [] X.env))) := by rfl) :
    PE X (.Call (.Attribute o m apos) [] [] pos) (tMeth C m sp [] E0 ta tNil) := by
  obtain ⟨f, fd, F, hm, hb⟩ := M.ex
  exact pe_meth0 he c hm F (hr.mono hj) hb .nil pass0 ht
theorem pe_mk {dvs : List V} {ds : List Value} {f : Addr} {fd : FuncData} (M : Mk X.K C f) (F : FnOk X.prog X.w X.K X.mg X.base CX0 j f fd ps sp) (hm : X.mg x = some (.ref C)) (hb : Binds X.K fd ps ds) (hd : Vals dvs ds) (hr : Room k X.A) (hj : j + 1 ≤ k) (hg : Gl X x) (ha : PA X (e :: es) t) (hdb : (x == ("__debug__" : Str)) = false := by decide) (he : starEach (e :: es) X.env = (false, eval e X.env) :: starEach es X.env := by rfl) (hpl : (backTo pos (starEach es X.env)).any (·.1) = false := by rfl) :
    PE X (.Call (.Name x p) (e :: es) [] pos) (tMake C sp dvs E0 t) := pe_make M F (hr.mono hj) hg hm hb hd pass0 ha hdb he hpl
theorem pe_up {f : Str} (he : PE X e ta) (c : Cls X.K C) (M : CalleeP X.prog X.w X.K X.mg X.base C f j ps sp) (hr : Room k X.A) (hj : j + 1 ≤ k) (hab : attributeBase e f X.env (eval e X.env) = eval e X.env) : PE X (.Attribute e f pos) (tProp C sp [] E0 ta) := by
  obtain ⟨q, g, fd, F, hm, hb⟩ := M.ex
  exact pe_prop he c hm F (hr.mono hj) hb .nil pass0 hab
end
variable {K : Frag} {Γ : List Sl} {k : Sl → List Sl → Prop} {O : Out}
def IsIns (C : Addr) (m : Str) (r : Res) : Prop := ∀ K S H fp, r.p K S H fp → ∃ a dx fs, r.v = .ref a ∧ H a = some (.ins C dx fs) ∧ fs.lookup m = none
theorem lookup_zip_none {α : Type} : ∀ {ns : List Str} {vs : List α} {f : Str}, f ∉ ns → (ns.zip vs).lookup f = none
  | [], _, _, _ => by simp
  | _ :: _, [], _, _ => by simp
  | n :: ns, u :: vs, f, h => by
    have hb : (f == n) = false := beq_eq_false_iff_ne.mpr fun e => h (by simp [e])
    simp only [List.zip_cons_cons, List.lookup, hb]
    exact lookup_zip_none fun q => h (List.mem_cons_of_mem _ q)
theorem isIns_star {C : Addr} {m : Str} {a : Addr} {ns : List Str} {ss : List Sl} {Θ : List (Addr × Cell)} {n : Nat} (h : Θ[n]? = some (a, .ins C ns ss)) (hm : m ∉ ns) : IsIns C m (star (.ref a) Θ) := fun K S H fp hp => by
  obtain ⟨_, h2⟩ := hp
  obtain ⟨_, _, dx, vs, hH, _⟩ := h2 _ (List.mem_of_getElem? h)
  exact ⟨a, dx, _, rfl, hH, lookup_zip_none hm⟩
theorem e_meth {C : Addr} {m : Str} {F : FSpec} {to : TE} {ta : TA} (j : Nat) (h : EvP K to Γ fun s Γ1 => ∃ r : Res, s = .raw r.v ∧ Γ1[j]? = some (.res r) ∧ IsIns C m r ∧ EvA K ta Γ1 fun rs Γ2 => ∃ r2 : Res, r2.v = r.v ∧ Γ2[j]? = some (.res r2) ∧ F (.res r2 :: rs) fun r0 as' => ∃ r' : Res, as'[0]? = some (.res r') ∧ r'.v = r2.v ∧ as'.length = rs.length + 1 ∧ k r0 (Γ2.set j (.res r'))) :
    EvP K (tMeth C m (spOf K F) [] E0 to ta) Γ k := by
  intro σ S H fs Q w P
  refine h σ S H fs _ w fun x s Γ1 S1 H1 f1 fs1 hb w1 st1 => ?_
  obtain ⟨r, rfl, hj, hI, hA⟩ := hb
  obtain ⟨e0, e1⟩ := w1.hd
  subst e0
  cases e1
  obtain ⟨y, fp, hy, hf, e2, hp⟩ := w1.tl.sat.get hj
  obtain ⟨a, dx, fl, hv, hH, hl⟩ := hI K S1 H1 fp hp
  refine ⟨a, dx, fl, hv, hH, hl, ?_⟩
  have key : EvA K (tCons (tC r.v) ta) Γ1 fun rs Γ2 => ∃ r : Res, rs[0]? = some (.raw r.v) ∧ Γ2[j]? = some (.res r) ∧ F (rs.set 0 (.res r)) fun r0 as' => ∃ r' : Res, as'[0]? = some (.res r') ∧ r'.v = r.v ∧ as'.length = rs.length ∧ k r0 (Γ2.set j (.res r')) :=
    a_cons (e_c (hA.mono fun rs Γ2 ⟨r2, h2, h1, h3⟩ => ⟨r2, by rw [h2]; rfl, h1, h3⟩))
  exact e_call1 (E := E0) 0 j key σ S1 H1 fs1 Q w1.tl (P.trans (by simpa using st1))
theorem e_prop {C : Addr} {F : FSpec} {to : TE} (j : Nat) (h : EvP K to Γ fun s Γ1 => ∃ r : Res, s = .raw r.v ∧ Γ1[j]? = some (.res r) ∧ IsIns C (PySem.Str.ofString "") r ∧ F [.res r] fun r0 as' => ∃ r' : Res, as'[0]? = some (.res r') ∧ r'.v = r.v ∧ as'.length = 1 ∧ k r0 (Γ1.set j (.res r'))) :
    EvP K (tProp C (spOf K F) [] E0 to) Γ k := by
  intro σ S H fs Q w P
  refine h σ S H fs _ w fun x s Γ1 S1 H1 f1 fs1 hb w1 st1 => ?_
  obtain ⟨r, rfl, hj, hI, hA⟩ := hb
  obtain ⟨e0, e1⟩ := w1.hd
  subst e0
  cases e1
  obtain ⟨y, fp, hy, hf, e2, hp⟩ := w1.tl.sat.get hj
  obtain ⟨a, dx, fl, hv, hH, hl⟩ := hI K S1 H1 fp hp
  refine ⟨a, dx, fl, hv, hH, ?_⟩
  have key : EvA K (tCons (tC r.v) tNil) Γ1 fun rs Γ2 => ∃ r : Res, rs[0]? = some (.raw r.v) ∧ Γ2[j]? = some (.res r) ∧ F (rs.set 0 (.res r)) fun r0 as' => ∃ r' : Res, as'[0]? = some (.res r') ∧ r'.v = r.v ∧ as'.length = rs.length ∧ k r0 (Γ2.set j (.res r')) :=
    a_cons (e_c (a_nil ⟨r, rfl, hj, hA⟩))
  have q := e_call1 (E := E0) 0 j key σ S1 H1 fs1 Q w1.tl (P.trans (by simpa using st1))
  rw [← hv]
  exact q
theorem e_make {C : Addr} {F : FSpec} {ta : TA} {dvs : List V} {dss : List Sl} (hd : ∀ S, VSs K S dvs dss) (h : EvA K ta Γ fun rs Γ1 => ∀ x, F (.res (star (.ref x) [(x, .ins C [] [])]) :: (rs ++ dss)) fun r as' => r = .dat .none ∧ ∃ r' : Res, as'[0]? = some (.res r') ∧ r'.v = .ref x ∧ k (.res r') Γ1) : EvP K (tMake C (spOf K F) dvs E0 ta) Γ k := by
  intro σ S H fs Q w P
  refine h σ S H fs _ w fun vs rs Γ1 S1 H1 frs fs1 hF l1 l2 w1 st1 => ?_
  intro x dx hx hdx hne
  have lv : (vs.map some).length = rs.length := by simpa using l1
  obtain ⟨s1, s2⟩ := w1.sat.split lv l2
  have hx' : (upd H1 dx (.own x)) x = none := by rw [upd_ne hne.symm]; exact hx
  have nF : ∀ a ∈ (frs ++ fs1).flatten, a ≠ x ∧ a ≠ dx := fun a ha => ⟨fun e => w1.good.al a ha (by rw [e]; exact hx), fun e => w1.good.al a ha (by rw [e]; exact hdx)⟩
  have kp : ∀ a, a ≠ x → a ≠ dx → (upd (upd H1 dx (.own x)) x (.ins C dx [])) a = H1 a := fun a h1 h2 => by rw [upd_ne h1, upd_ne h2]
  have nSx : S1 x = none := w1.good.sub.none hx
  have leH : Le H1 (upd (upd H1 dx (.own x)) x (.ins C dx [])) := fun a o e => by
    rw [kp a (ne_of_none e hx) (ne_of_none e hdx)]
    exact e
  have cell : CellOk K S1 (upd (upd H1 dx (.own x)) x (.ins C dx [])) x (.ins C [] []) := ⟨List.nodup_nil, rfl, dx, [], upd_same, .nil⟩
  have g2 : Good S1 (upd (upd H1 dx (.own x)) x (.ins C dx [])) ([x] ++ (frs ++ fs1).flatten) := by
    refine ⟨w1.good.sub.trans leH, List.nodup_append.mpr ⟨by simp, w1.good.nd, fun a ha b hb e => ?_⟩, fun a ha => ?_, fun a ha => ?_⟩
    · simp only [List.mem_singleton] at ha
      exact (nF b hb).1 (by rw [← e, ha])
    · rcases List.mem_append.mp ha with q | q
      · simp only [List.mem_singleton] at q
        rw [q]; exact nSx
      · exact w1.good.dis a q
    · rcases List.mem_append.mp ha with q | q
      · simp only [List.mem_singleton] at q
        rw [q, upd_same]; simp
      · rw [kp a (nF a q).1 (nF a q).2]
        exact w1.good.al a q
  have sK : ∀ {xs : List (Option V)} {ss : List Sl} {gs : List (List Addr)}, SatL K S1 H1 xs ss gs → (∀ a ∈ gs.flatten, a ∈ (frs ++ fs1).flatten) → SatL K S1 (upd (upd H1 dx (.own x)) x (.ins C dx [])) xs ss gs := fun q hq => q.step (Le.refl _) fun a ha => kp a (nF a (hq a ha)).1 (nF a (hq a ha)).2
  have dS : ∀ {us : List V} {ts : List Sl}, VSs K S1 us ts → SatL K S1 (upd (upd H1 dx (.own x)) x (.ins C dx [])) (us.map some) ts (List.replicate ts.length []) := fun {us ts} q => by
    induction q with
    | nil => exact .nil
    | cons a b ih => exact .cons a.ok ih
  have rs1 := sK s1 fun a ha => by rw [List.flatten_append]; exact List.mem_append_left _ ha
  have rs2 := sK s2 fun a ha => by rw [List.flatten_append]; exact List.mem_append_right _ ha
  have dsl := (hd S1)
  have fl0 : (frs ++ List.replicate dss.length ([] : List Addr)).flatten = frs.flatten := by rw [List.flatten_append, flat_nils, List.append_nil]
  have wA : Wd K ((V.ref x :: (vs ++ dvs)).map some) (.res (star (.ref x) [(x, .ins C [] [])]) :: (rs ++ dss)) S1 (upd (upd H1 dx (.own x)) x (.ins C dx [])) ([x] :: (frs ++ List.replicate dss.length [])) := by
    refine ⟨?_, ?_⟩
    · rw [List.flatten_cons, fl0]
      refine g2.sublist ((List.Sublist.refl _).append ?_)
      rw [List.flatten_append]
      exact List.sublist_append_left _ _
    · rw [List.map_cons, List.map_append]
      refine .cons ⟨rfl, rfl, fun p hp => ?_⟩ (rs1.append (dS dsl))
      simp only [List.mem_singleton] at hp
      subst hp
      exact cell
  have st2 : Step S1 H1 (frs ++ fs1).flatten S1 (upd (upd H1 dx (.own x)) x (.ins C dx [])) ([x] ++ (frs ++ fs1).flatten) :=
    ⟨Le.refl _, fun a o e _ => leH a o e, fun a e => .inl e, fun a ha => by
      rcases List.mem_append.mp ha with q | q
      · simp only [List.mem_singleton] at q
        rw [q]; exact .inl hx
      · exact .inr q, fun a e => by
      cases q : H1 a with
      | none => exact absurd q e
      | some o => rw [leH a o q]; simp⟩
  refine ⟨_, S1, _, _, wA, hF x, fun v r as' S2 H2 fr fs2 hk w2 st3 => ?_⟩
  obtain ⟨rfl, r', ha, hv, hk⟩ := hk
  obtain ⟨_, v', e3, hvn⟩ := w2.hd
  cases e3; cases hvn
  refine ⟨rfl, ?_⟩
  have wB : Wd K (σ ++ (V.ref x :: (vs ++ dvs)).map some) (Γ1 ++ (.res (star (.ref x) [(x, .ins C [] [])]) :: (rs ++ dss))) S1 (upd (upd H1 dx (.own x)) x (.ins C dx [])) (fs1 ++ ([x] :: (frs ++ List.replicate dss.length []))) := by
    refine ⟨g2.perm ?_, rs2.append wA.sat⟩
    rw [List.flatten_append, List.flatten_append, List.flatten_cons, fl0]
    refine List.Perm.trans ?_ (List.perm_append_comm)
    rw [List.append_assoc]
  obtain ⟨w3, st4⟩ := frame s2.lens.1 s2.lens.2 wB w2 st3
  match as', fs2, ha, w2, w3, st4 with
  | _ :: at', f2 :: fs2, ha, w2, w3, st4 =>
    simp only [List.getElem?_cons_zero, Option.some.injEq] at ha
    subst ha
    have h2 := w2.tl.hd
    obtain ⟨e5, h2p⟩ := h2
    have w4 : Wd K (some (.ref x) :: σ) (.res r' :: Γ1) S2 H2 (f2 :: fs1) := by
      have sat3 := w3.sat.split s2.lens.1 s2.lens.2
      refine ⟨(w3.good.sublist (F' := fs1.flatten ++ f2) ?_).perm List.perm_append_comm, .cons ⟨by rw [hv], h2p⟩ sat3.1⟩
      simp only [List.flatten_append, List.flatten_cons]
      exact (List.Sublist.refl _).append ((List.sublist_append_left f2 _).trans (List.sublist_append_right _ _))
    have st5 : Step S H fs.flatten S2 H2 (f2 :: fs1).flatten := by
      refine (st1.trans (st2.trans (st4.weak fun a ha => ?_))).sub fun a ha => ?_
      · rw [List.flatten_append, List.flatten_cons, fl0] at ha
        rw [List.flatten_append]
        simp only [List.mem_append] at ha ⊢
        rcases ha with q | q | q
        · exact .inr (.inr q)
        · exact .inl q
        · exact .inr (.inl q)
      · simp only [List.flatten_cons, List.flatten_append, List.mem_append] at ha ⊢
        rcases ha with q | q
        · exact .inr (.inr (.inl q))
        · exact .inl q
    exact P (.ref x) (.res r') Γ1 S2 H2 f2 fs1 hk w4 st5
  | [], _, ha, _, _, _ => simp at ha
  | _ :: _, [], _, w2, _, _ => have := w2.sat.lens; simp at this
end Dl
namespace Dl
open PySem PySem.Spec PyProof.Rows L2
variable {K : Frag} {Γ : List Sl} {k : Sl → List Sl → Prop} {O : Out}
theorem allocStar {σ : List (Option V)} {S H : Hp} {fs : List (List Addr)} {p : Addr} {o : HO} {c : Cell} (w : Wd K σ Γ S H fs) (hp : H p = none) (hd : CellOk K S (upd H p o) p c) :
    Wd K (some (.ref p) :: σ) (.res (star (.ref p) [(p, c)]) :: Γ) S (upd H p o) ([p] :: fs) ∧ Step S H fs.flatten S (upd H p o) ([p] :: fs).flatten := by
  have nS : S p = none := w.good.sub.none hp
  have nF : ∀ a ∈ fs.flatten, a ≠ p := fun a ha e => w.good.al a ha (by rw [e]; exact hp)
  have leH : Le H (upd H p o) := fun a u e => by rw [upd_ne (ne_of_none e hp)]; exact e
  refine ⟨⟨⟨w.good.sub.trans leH, ?_, fun a ha => ?_, fun a ha => ?_⟩, .cons ⟨rfl, rfl, fun q hq => by simp only [List.mem_singleton] at hq; subst hq; exact hd⟩ (w.sat.step (Le.refl _) fun a ha => upd_ne (nF a ha))⟩, Le.refl _, fun a u e _ => leH a u e, fun a e => .inl e, fun a ha => ?_, fun a e => ?_⟩
  · simp only [List.flatten_cons]
    exact List.nodup_cons.mpr ⟨fun q => nF p q rfl, w.good.nd⟩
  · rcases List.mem_cons.mp (show a ∈ p :: fs.flatten by simpa using ha) with rfl | q
    · exact nS
    · exact w.good.dis a q
  · rcases List.mem_cons.mp (show a ∈ p :: fs.flatten by simpa using ha) with rfl | q
    · rw [upd_same]; simp
    · rw [upd_ne (nF a q)]
      exact w.good.al a q
  · rcases List.mem_cons.mp (show a ∈ p :: fs.flatten by simpa using ha) with rfl | q
    · exact .inl hp
    · exact .inr q
  · by_cases q : a = p
    · subst q
      rw [upd_same]
      simp
    · rw [upd_ne q]
      exact e
theorem e_lcS {wi : TI} {g : TG} {tt : TT} {te : TE} {vs : List Nat} (hg : Sets g vs) (gm : GMono g) (h : EvI K wi Γ fun f n G Γ1 => ∃ W : Nat → List Sl → List Sl → Prop, n ≤ sizeLine ∧ W 0 [] (wipeG Γ1 vs) ∧ (∀ i acc Γ, i ≤ n → W i acc (wipeG Γ vs) → G (wipeG Γ vs)) ∧
    (∀ i acc Γ, i < n → acc.length ≤ i → W i acc (wipeG Γ vs) → EvG K g (f i) (wipeG Γ vs) fun Γ2 => EvB K tt Γ2 fun b Γ3 => (b = true → EvP K te Γ3 fun r Γ4 => Pers r ∧ W (i + 1) (acc ++ [r]) (wipeG Γ4 vs)) ∧ (b = false → W (i + 1) acc (wipeG Γ3 vs))) ∧
    (∀ acc Γ, acc.length ≤ n → W n acc (wipeG Γ vs) → ∀ D, k (.res (star (.ref D) [(D, .lst acc)])) (wipeG Γ vs))) : EvP K (tLc wi g tt te vs) Γ k := by
  intro σ S H fs Q w P
  refine h σ S H fs _ w fun J f n G Γ1 S1 H1 fs1 hG hk w1 st1 tn => ?_
  obtain ⟨W, hn, h0, hWG, hs, hd⟩ := hk
  intro D hD
  refine ⟨fun i m H2 => m = n - i ∧ i ≤ n ∧ ∃ acc Γ2 S2 fs2, W i acc (wipeG Γ2 vs) ∧ acc.length ≤ i ∧ Wd K (some (.ref D) :: σ) (.res (star (.ref D) [(D, .lst acc)]) :: wipeG Γ2 vs) S2 H2 ([D] :: fs2) ∧ Step S1 H1 fs1.flatten S2 H2 ([D] :: fs2).flatten, ⟨n, by simp, Nat.zero_le _, ?_⟩, ?_⟩
  · obtain ⟨w2, st2⟩ := allocStar (o := .lst []) (c := .lst []) w1 hD ⟨[], upd_same, .nil⟩
    have w3 : Wd K σ (wipeG Γ1 vs) S1 (upd H1 D (.lst [])) (wipeA [] fs1 vs) := ⟨w2.tl.good.sublist (flat_wipe vs), sat_unwipe (sat_wipe w2.tl.sat)⟩
    refine ⟨[], Γ1, S1, wipeA [] fs1 vs, h0, Nat.le_refl _, ⟨w2.good.sublist ?_, .cons w2.hd w3.sat⟩, st2.sub fun a => mem2 fun b hb => (flat_wipe vs).subset hb⟩
    simp only [List.flatten_cons]
    exact (List.Sublist.refl _).append (flat_wipe vs)
  · rintro i m H2 ⟨rfl, hi, acc, Γ2, S2, fs2, hW, hal, w2, st2⟩
    obtain ⟨t1, t2⟩ := tn i _ _ S2 H2 _ hi (hG _ _ (hWG i acc Γ2 hi hW)) w2 st2
    by_cases hlt : i < n
    · obtain ⟨hgo, hy⟩ := t1 hlt
      refine .inr ⟨hgo, fun H' => ∃ acc Γ2 S2 fs2, W (i + 1) acc (wipeG Γ2 vs) ∧ acc.length ≤ i + 1 ∧ Wd K (some (.ref D) :: σ) (.res (star (.ref D) [(D, .lst acc)]) :: wipeG Γ2 vs) S2 H' ([D] :: fs2) ∧ Step S1 H1 fs1.flatten S2 H' ([D] :: fs2).flatten, fun H' q => ⟨n - (i + 1), by omega, rfl, hlt, q⟩, fun x H' y => ?_⟩
      obtain ⟨S', w3, st3⟩ := hy x H' y
      have st23 := st2.trans st3
      have w4 := w3.swap2
      have w5 : Wd K (some x :: wipe σ vs) (f i :: wipeG Γ2 vs) S' H' ([] :: wipeA [] fs2 vs) := by
        have q := w3.tl.tl.wipe vs
        rw [show wipeG (wipeG Γ2 vs) vs = wipeG Γ2 vs from wipeA_idem] at q
        exact q.put w3.hd
      have fsub : ∀ a, a ∈ ([] :: wipeA [] fs2 vs).flatten → a ∈ fs2.flatten := fun a ha => (flat_wipe vs).subset (by simpa using ha)
      have wD : Wd K (some (.ref D) :: (some x :: wipe σ vs)) (.res (star (.ref D) [(D, .lst acc)]) :: (f i :: wipeG Γ2 vs)) S' H' ([D] :: ([] :: wipeA [] fs2 vs)) := by
        refine ⟨w3.tl.good.sublist ?_, .cons w3.tl.hd w5.sat⟩
        simp only [List.flatten_cons, List.nil_append]
        exact (List.Sublist.refl _).append (flat_wipe vs)
      have stD : Step S1 H1 fs1.flatten S' H' ([D] :: ([] :: wipeA [] fs2 vs)).flatten := st23.sub fun a ha => by
        have := mem2 (f := [D]) fsub ha
        simpa using this
      have key : g x (wipe σ vs) H' fun σ2 H2' => wipe σ2 vs = wipe σ vs → tt σ2 H2' fun b H3 => if b = true then te σ2 H3 fun y H4 => ∃ acc, H4 D = some (.lst acc) ∧ acc.length < sizeLine ∧ (∃ acc' Γ2 S2 fs2, W (i + 1) acc' (wipeG Γ2 vs) ∧ acc'.length ≤ i + 1 ∧ Wd K (some (.ref D) :: σ) (.res (star (.ref D) [(D, .lst acc')]) :: wipeG Γ2 vs) S2 (upd H4 D (.lst (acc ++ [y]))) ([D] :: fs2) ∧ Step S1 H1 fs1.flatten S2 (upd H4 D (.lst (acc ++ [y]))) ([D] :: fs2).flatten)
          else (∃ acc' Γ2 S2 fs2, W (i + 1) acc' (wipeG Γ2 vs) ∧ acc'.length ≤ i + 1 ∧ Wd K (some (.ref D) :: σ) (.res (star (.ref D) [(D, .lst acc')]) :: wipeG Γ2 vs) S2 H3 ([D] :: fs2) ∧ Step S1 H1 fs1.flatten S2 H3 ([D] :: fs2).flatten) := by
        refine hs i acc Γ2 hlt hal hW (wipe σ vs) S' H' [] _ x _ w5 fun σ2 Γ3 S3 H3 fs3 hB w6 st6 => ?_
        obtain ⟨w7, st7⟩ := frame (ts := [some (.ref D)]) (Θ := [.res (star (.ref D) [(D, .lst acc)])]) (ft := [[D]]) rfl rfl wD w6 st6
        have st8 := stD.trans st7
        intro hw
        refine hB σ2 S3 H3 fs3 _ w6 fun b Γ4 S4 H4 fs4 hT w8 st9 => ?_
        obtain ⟨w9, st10⟩ := frame (ts := [some (.ref D)]) (Θ := [.res (star (.ref D) [(D, .lst acc)])]) (ft := [[D]]) rfl rfl w7 w8 st9
        have st11 := st8.trans st10
        have back : ∀ (Γx : List Sl) (Sx Hx : Hp) (fx : List (List Addr)) (accx : List Sl), Wd K (some (.ref D) :: σ2) (.res (star (.ref D) [(D, .lst accx)]) :: Γx) Sx Hx ([D] :: fx) → Wd K (some (.ref D) :: σ) (.res (star (.ref D) [(D, .lst accx)]) :: wipeG Γx vs) Sx Hx ([D] :: wipeA [] fx vs) := fun Γx Sx Hx fx accx wx => by
          have q := wx.tl.wipe vs
          rw [hw] at q
          refine ⟨wx.good.sublist ?_, .cons wx.hd (sat_unwipe q.sat)⟩
          simp only [List.flatten_cons]
          exact (List.Sublist.refl _).append (flat_wipe vs)
        cases b with
        | true =>
          rw [if_pos rfl]
          refine hT.1 rfl σ2 S4 H4 fs4 _ w8 fun y r Γ5 S5 H5 f5 fs5 hE w10 st12 => ?_
          obtain ⟨hpr, hW'⟩ := hE
          obtain ⟨w11, st13⟩ := frame (ts := [some (.ref D)]) (Θ := [.res (star (.ref D) [(D, .lst acc)])]) (ft := [[D]]) rfl rfl w9 w10 st12
          obtain ⟨hyd, e0⟩ := VS.of w10.hd hpr
          subst e0
          have w11' : Wd K (some (.ref D) :: some y :: σ2) (.res (star (.ref D) [(D, .lst acc)]) :: r :: Γ5) S5 H5 ([D] :: [] :: fs5) := w11
          have w12 : Wd K (some (.ref D) :: σ2) (.res (star (.ref D) [(D, .lst acc)]) :: Γ5) S5 H5 ([D] :: fs5) := w11'.swap2.tl
          obtain ⟨ws, hws, hda⟩ := star_cell (n := 0) (j := 0) w12 rfl rfl
          have hlen := vss_len hda
          refine ⟨ws, hws, by omega, acc ++ [r], Γ5, S5, wipeA [] fs5 vs, hW', by simp; omega, ?_⟩
          obtain ⟨w13, st14⟩ := star_upd (j := 0) (n := 0) (o := .lst (ws ++ [y])) (c' := .lst (acc ++ [r])) w12 rfl rfl ⟨_, upd_same, VSs.snoc hyd hda⟩
          refine ⟨back _ _ _ _ _ w13, ?_⟩
          have st15 : Step S1 H1 fs1.flatten S5 H5 ([D] :: fs5).flatten := (st11.trans st13).sub fun a ha => by simpa using ha
          exact (st15.trans st14).sub fun a => mem2 fun b hb => (flat_wipe vs).subset hb
        | false =>
          rw [if_neg (by decide)]
          exact ⟨acc, Γ4, S4, wipeA [] fs4 vs, hT.2 rfl, Nat.le_succ_of_le hal, back _ _ _ _ _ w9, st11.sub fun a => mem2 fun b hb => (flat_wipe vs).subset hb⟩
      refine gm x _ H' _ _ (fun σ' H'' ⟨e, q⟩ => ?_) (hg x _ H' _ key)
      have e' : wipe σ' vs = wipe σ vs := by rw [e, wipe_eq, wipe_eq, wipeA_idem]
      exact ⟨e', q e'⟩
    · have e1 : i = n := by omega
      subst e1
      refine .inl ⟨t2 rfl, ?_⟩
      exact P _ _ _ S2 H2 [D] fs2 (hd acc Γ2 hal hW D) w2 (by simpa using st1.trans st2)
def Cells (r : Res) (Θ : List (Addr × Cell)) : Prop := ∀ K S H fp, r.p K S H fp → fp = Θ.map (·.1) ∧ ∀ p ∈ Θ, CellOk K S H p.1 p.2
theorem cells_star {v : V} {Θ : List (Addr × Cell)} : Cells (star v Θ) Θ := fun _ _ _ _ h => h
theorem cells_own {a : Addr} {ds : List PyData} : Cells (ownL a ds) [(a, .lst (ds.map .dat))] := fun K S H fp ⟨h1, vs, h2, h3⟩ => ⟨h1, fun p hp => by
  simp only [List.mem_singleton] at hp
  subst hp
  exact ⟨vs, h2, VSs.of_dats h3⟩⟩
theorem e_absorb {te : TE} (j : Nat) (h : EvP K te Γ fun r Γ1 => ∃ (rr : Res) (v : V) (Θ Θ' : List (Addr × Cell)), r = .res rr ∧ Cells rr Θ' ∧ Γ1[j]? = some (.res (star v Θ)) ∧ k (.raw rr.v) (Γ1.set j (.res (star v (Θ ++ Θ'))))) : EvP K te Γ k := by
  intro σ S H fs Q w P
  refine h σ S H fs _ w fun u r Γ1 S1 H1 f1 fs1 hb w1 st1 => ?_
  obtain ⟨rr, v, Θ, Θ', rfl, hC, hj, hk⟩ := hb
  obtain ⟨e1, hp⟩ := w1.hd
  cases e1
  obtain ⟨hf, hc⟩ := hC K S1 H1 f1 hp
  subst hf
  obtain ⟨x, fp, hx, hg, e2, e3, hcs⟩ := w1.tl.sat.get hj
  have e3 : fp = Θ.map (·.1) := e3
  have e2 : x = some v := e2
  subst e3
  have pm := flat_take fs1 j _ hg
  have jl : j < fs1.length := (List.getElem?_eq_some_iff.mp hg).1
  have pm2 := flat_put (fs1.set j []) j ((Θ ++ Θ').map (·.1)) (List.getElem?_set_self jl)
  rw [List.set_set] at pm2
  have perm : (Θ'.map (·.1) :: fs1).flatten.Perm ([] :: fs1.set j ((Θ ++ Θ').map (·.1))).flatten := by
    simp only [List.flatten_cons, List.nil_append]
    refine List.Perm.trans (pm.append_left _) (List.Perm.trans ?_ pm2.symm)
    rw [List.map_append, ← List.append_assoc]
    exact (List.perm_append_comm).append_right _
  have sat := w1.tl.sat.set (x := x) (s := .res (star v (Θ ++ Θ'))) (fp := (Θ ++ Θ').map (·.1)) j ⟨e2, rfl, fun p hp => by
    rcases List.mem_append.mp hp with q | q
    · exact hcs p q
    · exact hc p q⟩
  rw [setSame hx] at sat
  exact P rr.v _ _ S1 H1 [] _ hk ⟨w1.good.perm perm, .cons ⟨rfl, rfl⟩ sat⟩ (st1.sub fun a ha => perm.mem_iff.mpr ha)
theorem op_repO {a : Addr} {ds : List PyData} {n : Int} (h1 : 0 ≤ n) (h2 : n < 2 ^ 63) (hz : ds.length * n.toNat ≤ sizeLine) (hk : ∀ b, k (.res (ownL b (List.replicate n.toNat ds).flatten)) Γ) : OpK K (uMul K) (.res (ownL a ds)) (.dat (.int n)) Γ k := by
  intro σ S H f1 f2 fs x y Q w P
  obtain ⟨e0, e1, vs, hH, hvs⟩ := w.hd
  obtain ⟨e2, y', e3, hy⟩ := w.tl.hd
  subst e2
  cases e0; cases e3; cases hy
  have hH : H a = some (.lst vs) := hH
  refine .inr (.inr ⟨a, n, vs, rfl, rfl, hH, by omega, h2, by rw [dps_len hvs]; exact hz, fun p hp => ?_⟩)
  have rep : ∀ m : Nat, DdAll K S (List.replicate m vs).flatten (List.replicate m ds).flatten := fun m => by
    induction m with
    | zero => exact .nil
    | succ m ih =>
      rw [List.replicate_succ, List.replicate_succ, List.flatten_cons, List.flatten_cons]
      exact dps_app hvs ih
  obtain ⟨w3, st3⟩ := allocOwn w.tl.tl hp (rep n.toNat)
  exact (Post.drop2 P) _ _ _ S _ [p] fs (hk p) w3 st3
theorem lst_filter_take {ds : List PyData} {c : PyData → Bool} {f : PyData → PyData} {i : Nat} {d : PyData} (h : ds[i]? = some d) : ((ds.take (i + 1)).filter c).map f = ((ds.take i).filter c).map f ++ (if c d then [f d] else []) := by
  rw [List.take_add_one, h]
  simp only [Option.toList, List.filter_append, List.map_append]
  by_cases hc : c d <;> simp [hc]
theorem e_lc1 {i : Nat} {tl te : TE} {tt : TT} (c : PyData → Bool) (f : PyData → PyData) (h : EvP K tl Γ fun r Γ1 => ∃ d ds, r = .dat d ∧ seqD d = some ds ∧
    (∀ x ∈ ds, EvB K tt ((Γ1.set i .no).set i (.dat x)) fun b Γ2 => b = c x ∧ if c x = true then EvP K te Γ2 fun r Γ3 => r = .dat (f x) ∧ Γ3.set i .no = Γ1.set i .no else Γ2.set i .no = Γ1.set i .no) ∧ k (.dat (.list ((ds.filter c).map f))) (Γ1.set i .no)) : EvP K (tLc (iSq K tl) (gName i) tt te [i]) Γ k := by
  refine e_lc (sets_name (by simp)) gm_name (i_sq (h.mono fun r Γ1 ⟨d, ds, e1, e2, h1, h2⟩ => ⟨d, ds, e1, e2, fun hz => ?_⟩))
  refine ⟨fun j acc Γ => acc = ((ds.take j).filter c).map f ∧ Γ = Γ1.set i .no, hz, ⟨by simp, rfl⟩, fun _ _ _ _ _ => trivial, fun j acc Γx hj hl ⟨ha, hΓ⟩ => ?_, fun acc Γx hl ⟨ha, hΓ⟩ => ?_⟩
  · have hx : ds[j]? = some (ds.getD j .none) := by
      rw [List.getD_eq_getElem?_getD, List.getElem?_eq_getElem hj]
      rfl
    have hm := List.mem_of_getElem? hx
    rw [hΓ]
    refine g_name ((h1 _ hm).mono fun b Γ2 ⟨hb, hc⟩ => ⟨fun hb1 => ?_, fun hb0 => ?_⟩)
    · rw [← hb, hb1, if_pos rfl] at hc
      refine hc.mono fun r Γ3 ⟨hr, h3⟩ => ⟨_, hr, ?_, h3⟩
      rw [lst_filter_take hx, ha, if_pos (by rw [← hb, hb1])]
    · rw [← hb, hb0, if_neg (by decide)] at hc
      refine ⟨?_, hc⟩
      rw [lst_filter_take hx, ha, if_neg (by rw [← hb, hb0]; decide), List.append_nil]
  · rw [hΓ, ha, List.take_length]
    exact h2
end Dl
namespace Dl
open PySem PySem.Spec PyProof.Rows L2
variable {K : Frag} {Γ : List Sl} {k : Sl → List Sl → Prop} {O : Out}
theorem e_cd {v : V} {d : PyData} (h : ∀ S, Dd K S v d) (hk : k (.dat d) Γ) : EvP K (tC v) Γ k := fun _ S _ _ _ w P => P.dat w hk (h S)
theorem dps_strs {S : Hp} : ∀ {vs : List V} {ws : List Str}, DdAll K S vs (ws.map .str) → vs = ws.map .str
  | _, [], .nil => rfl
  | _, _ :: _, .cons h t => by cases h; rw [dps_strs t]; rfl
theorem flat_strs (ws : List Str) : (ws.map V.str).all flatV = true := by simp [flatV]
theorem inV_strs (w : Str) (ws : List Str) : inV (.str w) (ws.map V.str) = decide (w ∈ ws) := by
  unfold inV
  induction ws with
  | nil => simp
  | cons a ws ih =>
    rw [List.map_cons, List.any_cons, ih]
    show ((a == w) || _) = _
    by_cases h : a = w
    · subst h; simp
    · have : (a == w) = false := beq_eq_false_iff_ne.mpr h
      rw [this, Bool.false_or]
      simp [Ne.symm h]
theorem op_in_strs {w : Str} {d : PyData} {ws : List Str} (e : seqD d = some (ws.map .str)) (hk : k (.dat (.bool (decide (w ∈ ws)))) Γ) : OpK K (uIn K) (.dat (.str w)) (.dat d) Γ k :=
  op_or_l (op_pure (fun S H x y Q l h1 h2 q => by
    cases h1
    obtain ⟨b, a, xs, rfl, hq, ha, _, _, _⟩ := sq_of_dat l h2 e
    rw [dps_strs ha] at hq
    refine ⟨a, _, rfl, ?_, rfl, flat_strs ws, ?_⟩
    · cases b with
      | true => exact .inl hq
      | false => exact .inr hq
    · rw [if_neg (by decide), inV_strs]
      exact q _ (.bl _)) hk)
theorem op_ni_strs {w : Str} {d : PyData} {ws : List Str} (e : seqD d = some (ws.map .str)) (hk : k (.dat (.bool (!decide (w ∈ ws)))) Γ) : OpK K (uNotIn K) (.dat (.str w)) (.dat d) Γ k :=
  op_or_l (op_pure (fun S H x y Q l h1 h2 q => by
    cases h1
    obtain ⟨b, a, xs, rfl, hq, ha, _, _, _⟩ := sq_of_dat l h2 e
    rw [dps_strs ha] at hq
    refine ⟨a, _, rfl, ?_, rfl, flat_strs ws, ?_⟩
    · cases b with
      | true => exact .inl hq
      | false => exact .inr hq
    · rw [if_pos rfl, inV_strs]
      exact q _ (.bl _)) hk)
theorem zip_kV : ∀ {ns : List Str} {vs : List V}, (ns.map V.str).zip vs = ((ns.map (Sum.inr : Str → Key)).zip vs).map fun kv => (kV kv.1, kv.2)
  | [], _ => by simp
  | _ :: _, [] => by simp
  | n :: ns, v :: vs => by
    simp only [List.map_cons, List.zip_cons_cons]
    rw [zip_kV]
    rfl
def EvD (K : Frag) (trs : List (TE × TE)) (Γ : List Sl) (kd : List Str → List Sl → List Sl → Prop) : Prop :=
  ∀ σ S H fs (Q : List (V × V) → Hp → Prop), Wd K σ Γ S H fs → (∀ (ns : List Str) vs ss Γ' S' H' fs', kd ns ss Γ' → ns.length = ss.length → VSs K S' vs ss → Wd K σ Γ' S' H' fs' → Step S H fs.flatten S' H' fs'.flatten → Q ((ns.map V.str).zip vs) H') → tPairs trs σ H Q
theorem d_nil {kd : List Str → List Sl → List Sl → Prop} (h : kd [] [] Γ) : EvD K [] Γ kd := fun σ S H fs Q w P => P [] [] [] Γ S H fs h rfl .nil w Step.refl
theorem d_cons {n : Str} {te : TE} {trs : List (TE × TE)} {kd : List Str → List Sl → List Sl → Prop} (h : EvP K te Γ fun s Γ1 => Pers s ∧ EvD K trs Γ1 fun ns ss Γ2 => kd (n :: ns) (s :: ss) Γ2) : EvD K ((tC (.str n), te) :: trs) Γ kd := by
  intro σ S H fs Q w P
  refine h σ S H fs _ w fun v s Γ1 S1 H1 f1 fs1 hb w1 st1 => ?_
  obtain ⟨hp, hd⟩ := hb
  obtain ⟨hv, e0⟩ := VS.of w1.hd hp
  subst e0
  refine hd σ S1 H1 fs1 _ w1.tl fun ns vs ss Γ2 S2 H2 fs2 hk hl hvs w2 st2 => ?_
  have := P (n :: ns) (v :: vs) (s :: ss) Γ2 S2 H2 fs2 hk (by simp [hl]) (.cons (hv.mono st2.le) hvs) w2 ((by simpa using st1 : Step S H fs.flatten S1 H1 fs1.flatten).trans st2)
  exact this
theorem putK_fresh {acc : List (Key × V)} {n : Key} {v : V} (h : n ∉ acc.map (·.1)) : putK acc n v = acc ++ [(n, v)] := by
  unfold putK
  rw [if_neg]
  intro q
  obtain ⟨p, hp, e⟩ := List.any_eq_true.mp q
  exact h (List.mem_map.mpr ⟨p, hp, of_decide_eq_true e⟩)
theorem mergeK_nd : ∀ (more acc : List (Key × V)), (acc.map (·.1) ++ more.map (·.1)).Nodup → mergeK acc more = acc ++ more
  | [], acc, _ => by simp [mergeK]
  | p :: more, acc, nd => by
    have hn : p.1 ∉ acc.map (·.1) := fun h => (List.nodup_append.mp nd).2.2 _ h p.1 (by simp) rfl
    show mergeK (putK acc p.1 p.2) more = _
    rw [putK_fresh hn, mergeK_nd more]
    · simp
    · rw [List.map_append, List.append_assoc]
      exact nd
theorem zip_keys {ns : List Str} {vs : List V} (h : ns.length = vs.length) : ((ns.map (Sum.inr : Str → Key)).zip vs).map (·.1) = ns.map Sum.inr := by
  rw [List.map_fst_zip]
  simp [h]
theorem nd_inr {ns : List Str} (h : ns.Nodup) : (ns.map (Sum.inr : Str → Key)).Nodup := by
  induction ns with
  | nil => simp
  | cons n ns ih =>
    obtain ⟨h1, h2⟩ := List.nodup_cons.mp h
    rw [List.map_cons]
    refine List.nodup_cons.mpr ⟨fun q => ?_, ih h2⟩
    obtain ⟨m, hm, e⟩ := List.mem_map.mp q
    rw [Sum.inr.inj e] at hm
    exact h1 hm
theorem e_disp {trs : List (TE × TE)} (h : EvD K trs Γ fun ns ss Γ1 => ns.Nodup ∧ ns.length ≤ 15 ∧ ∀ p, k (.res (star (.ref p) [(p, .dS ns ss)])) Γ1) : EvP K (tDisp trs) Γ k := by
  intro σ S H fs Q w P
  intro p hp
  obtain ⟨w1, st1⟩ := allocStar (o := .dK []) (c := .dS [] []) w hp ⟨List.nodup_nil, rfl, [], upd_same, .nil⟩
  refine h σ S _ fs _ w1.tl fun ns vs ss Γ2 S2 H2 fs2 hk hl hvs w2 st2 => ?_
  obtain ⟨nd, h15, hk⟩ := hk
  obtain ⟨w3, st3⟩ := frame (ts := [some (.ref p)]) (Θ := [.res (star (.ref p) [(p, .dS [] [])])]) (ft := [[p]]) rfl rfl w1 w2 st2
  have hvl := vss_len hvs
  obtain ⟨_, _, us, hH, hus⟩ := star_cell (n := 0) (j := 0) w3 rfl rfl
  have hH : H2 p = some (.dK (([] : List Key).zip us)) := hH
  rw [List.zip_nil_left] at hH
  refine ⟨hH, (ns.map Sum.inr).zip vs, ?_, by rw [List.length_zip, List.length_map]; omega, ?_⟩
  · exact zip_kV
  · have em : mergeK [] ((ns.map (Sum.inr : Str → Key)).zip vs) = (ns.map Sum.inr).zip vs := by
      rw [mergeK_nd]
      · simp
      · rw [List.map_nil, List.nil_append, zip_keys (by omega)]
        exact nd_inr nd
    rw [em]
    obtain ⟨w4, st4⟩ := star_upd (n := 0) (j := 0) (o := .dK ((ns.map Sum.inr).zip vs)) (c' := .dS ns ss) w3 rfl rfl ⟨nd, hl, vs, upd_same, hvs⟩
    exact P _ _ Γ2 S2 _ [p] fs2 (hk p) w4 ((st1.trans st3).trans st4)
theorem e_dgetT (q : Nat) {to ti : TE} (h : EvP K to Γ fun s Γ1 => ∃ a ns ss, s = .res (star (.ref a) [(a, .dS ns ss)]) ∧ EvP K ti Γ1 fun s2 Γ2 => ∃ f u, s2 = .dat (.str f) ∧ ns[q]? = some f ∧ ss[q]? = some u ∧ k u Γ2) : EvP K (tDGet to ti) Γ k := by
  intro σ S H fs Q w P
  refine h σ S H fs _ w fun x r Γ1 S1 H1 f1 fs1 hb w1 st1 => ?_
  obtain ⟨a, ns, ss, rfl, hb⟩ := hb
  obtain ⟨e0, e1, hc⟩ := w1.hd
  cases e0
  have e1 : f1 = [a] := e1
  subst e1
  refine hb σ S1 H1 fs1 _ w1.tl fun y r2 Γ2 S2 H2 f2 fs2 hc2 w2 st2 => ?_
  obtain ⟨f, u, rfl, hq, hu, hk⟩ := hc2
  obtain ⟨w3, st3⟩ := frame (ts := [some (.ref a)]) (Θ := [.res (star (.ref a) [(a, .dS ns ss)])]) (ft := [[a]]) rfl rfl w1 w2 st2
  obtain ⟨e2, y', e3, hy⟩ := w2.hd
  subst e2
  cases e3; cases hy
  obtain ⟨nd, hl, vs, hH, hvs⟩ := star_cell (n := 0) (j := 0) w3 rfl rfl
  obtain ⟨z, hz, hzs⟩ := VSs.get hvs hu
  refine ⟨a, z, rfl, ?_, ?_⟩
  · have := DGet.k (k := Sum.inr f) hH
    rw [valV_zip nd hq hz] at this
    exact this
  · have stA : Step S H fs.flatten S2 H2 fs2.flatten := (st1.trans st3).sub fun b hb => by
      have hb2 : b ∈ fs2.flatten := by simpa using hb
      simp [hb2]
    exact (P.trans stA) z u Γ2 S2 H2 [] fs2 hk (w2.tl.put hzs.ok) (by simpa using Step.refl)
theorem e_dnew (hk : ∀ p, k (.res (star (.ref p) [(p, .dS [] [])])) Γ) : EvP K tDNewK Γ k := by
  intro σ S H fs Q w P
  intro p hp
  obtain ⟨w1, st1⟩ := allocStar (o := .dK []) (c := .dS [] []) w hp ⟨List.nodup_nil, rfl, [], upd_same, .nil⟩
  exact P _ _ Γ S _ [p] fs (hk p) w1 st1
theorem e_dget2E (j n : Nat) {to ti tx : TE} (h : EvP K to Γ fun s Γ1 => ∃ a, s = .raw (.ref a) ∧ (∃ v Θ, Γ1[j]? = some (.res (star v Θ)) ∧ Θ[n]? = some (a, .dS [] [])) ∧ EvP K ti Γ1 fun s2 Γ2 => ∃ i, s2 = .dat (.int i) ∧ EvP K tx Γ2 fun s3 Γ3 => (∃ v Θ, Γ3[j]? = some (.res (star v Θ)) ∧ Θ[n]? = some (a, .dS [] [])) ∧ k s3 Γ3) : EvP K (tDGet2 to ti tx) Γ k := by
  intro σ S H fs Q w P
  refine h σ S H fs _ w fun x r Γ1 S1 H1 f1 fs1 hb w1 st1 => ?_
  obtain ⟨a, rfl, ⟨v0, Θ0, hj0, hn0⟩, hb⟩ := hb
  obtain ⟨e0, e1⟩ := w1.hd
  subst e0
  cases e1
  obtain ⟨_, _, vs0, hH0, hvs0⟩ := star_cell w1.tl hj0 hn0
  refine ⟨a, rfl, .inl ⟨_, .inl hH0⟩, ?_⟩
  refine hb σ S1 H1 fs1 _ w1.tl fun y r2 Γ2 S2 H2 f2 fs2 hc2 w2 st2 => ?_
  obtain ⟨i, rfl, hc⟩ := hc2
  obtain ⟨e2, y', e3, hy⟩ := w2.hd
  subst e2
  cases e3; cases hy
  refine hc σ S2 H2 fs2 _ w2.tl fun z r3 Γ3 S3 H3 f3 fs3 hd w3 st3 => ?_
  obtain ⟨⟨v, Θ, hj, hn⟩, hk⟩ := hd
  obtain ⟨_, _, vs, hH, hvs⟩ := star_cell w3.tl hj hn
  have hH : H3 a = some (.dK (([] : List Key).zip vs)) := hH
  rw [List.zip_nil_left] at hH
  refine ⟨none, ?_, ?_⟩
  · have := DGet.k (k := Sum.inl i) hH
    exact this
  · have stA := ((by simpa using st1 : Step S H fs.flatten S1 H1 fs1.flatten).trans (by simpa using st2 : Step S1 H1 fs1.flatten S2 H2 fs2.flatten)).trans st3
    exact P z r3 Γ3 S3 H3 f3 fs3 hk w3 stA
end Dl
namespace Dl
open PySem PySem.Spec PyProof.Rows L2
variable {K : Frag} {Γ : List Sl} {k : Sl → List Sl → Prop} {O : Out}
theorem freezeJ {σ : List (Option V)} {S H : Hp} {fs : List (List Addr)} {a : Addr} {xs : List PyData} {j : Nat} (w : Wd K σ Γ S H fs) (hj : Γ[j]? = some (.res (ownL a xs))) :
    ∃ S', Wd K σ (Γ.set j (.dat (.list xs))) S' H (fs.set j []) ∧ Step S H fs.flatten S' H (fs.set j []).flatten := by
  obtain ⟨x, fp, hx, hf, e1, e2, vs, e3, hd⟩ := w.sat.get hj
  have e1 : x = some (.ref a) := e1
  have e2 : fp = [a] := e2
  have e3 : H a = some (.lst vs) := e3
  subst e1 e2
  have pm := flat_take fs j _ hf
  have gp := w.good.perm pm
  have nS : S a = none := w.good.dis a (pm.mem_iff.mpr (by simp))
  have le : Le S (upd S a (.lst vs)) := fun b u e => by rw [upd_ne (ne_of_none e nS)]; exact e
  have nd : ([a] ++ (fs.set j []).flatten).Nodup := gp.nd
  have nF : ∀ b ∈ (fs.set j []).flatten, b ≠ a := fun b hb e => (List.nodup_cons.mp nd).1 (e ▸ hb)
  have sat1 : SatL K (upd S a (.lst vs)) H σ (Γ.set j (.dat (.list xs))) (fs.set j []) := by
    have q := (w.sat.step le fun _ _ => rfl).set (x := some (V.ref a)) (s := .dat (.list xs)) (fp := []) j ⟨rfl, _, rfl, dp_lst_new nS hd⟩
    rwa [setSame hx] at q
  refine ⟨upd S a (.lst vs), ⟨⟨fun b u e => ?_, (List.nodup_cons.mp nd).2, fun b hb => ?_, fun b hb => w.good.al b (pm.mem_iff.mpr (List.mem_append_right _ hb))⟩, sat1⟩, le, fun _ _ e _ => e, fun b e => ?_, fun b hb => .inr (pm.mem_iff.mpr (List.mem_append_right _ hb)), fun _ e => e⟩
  · by_cases q : b = a
    · subst q
      rw [upd_same] at e
      exact e3.trans e
    · rw [upd_ne q] at e
      exact w.good.sub b u e
  · rw [upd_ne (nF b hb)]
    exact gp.right.dis b hb
  · by_cases q : b = a
    · subst q
      exact .inr (.inr (pm.mem_iff.mpr (by simp)))
    · rw [upd_ne q] at e
      exact .inl e
theorem x_frz (j : Nat) {a : Addr} {xs : List PyData} {t : TS} (hj : Γ[j]? = some (.res (ownL a xs))) (h : ExS K t (Γ.set j (.dat (.list xs))) O) : ExS K t Γ O := by
  intro σ S H fs D w e
  obtain ⟨S', w2, st⟩ := freezeJ w hj
  exact h σ S' H _ D w2 (e.step st)
theorem op_neR {a : Addr} {ds : List PyData} {e : PyData} (hL : HasL Γ a (ds.map .dat)) (h1 : SeqAt.shaped e = true) (h2 : SeqAt.shaped (.list ds) = true) (hk : k (.dat (.bool (!PyData.eqv e (.list ds)))) Γ) : OpK K (uNe K) (.dat e) (.raw (.ref a)) Γ k := by
  intro σ S H f1 f2 fs x y Q w P
  obtain ⟨e0, x', e1, hx⟩ := w.hd
  obtain ⟨e2, e3⟩ := w.tl.hd
  subst e0 e2
  cases e1; cases e3
  exact ⟨_, _, (w.good.sub.dp hx).dp, own_dd hL w.tl.tl, h1, h2, (Post.drop2 P).dat w.tl.tl hk (.bl _)⟩
theorem dd_ints {S : Hp} : ∀ {vs : List V} {ns : List Int}, DdAll K S vs (ns.map .int) → vs = ns.map .int
  | _, [], .nil => rfl
  | _, n :: ns, .cons (.int _) h => by rw [List.map_cons, dd_ints h]
theorem e_count {to : TE} {ta : TA} (h : EvP K to Γ fun s Γ1 => ∃ ns : List Int, s = .dat (.list (ns.map .int)) ∧ EvA K ta Γ1 fun rs Γ2 => ∃ n : Int, rs = [.dat (.int n)] ∧ k (.dat (.int (ns.count n : Nat))) Γ2) :
    EvP K (tBM K "list" (rCntI K) to ta) Γ k := by
  intro σ S H fs Q w P
  refine h σ S H fs _ w fun v r1 Γ1 S1 H1 f1 fs1 hb w1 st1 => ?_
  obtain ⟨ns, rfl, hA⟩ := hb
  obtain ⟨e0, v', e1, hd⟩ := w1.hd
  subst e0
  cases e1
  cases hd with
  | lst hr hall =>
    rename_i a vs
    refine ⟨.inl ⟨rfl, vs, w1.good.sub.sqL (.inl hr)⟩, ?_⟩
    refine hA σ S1 H1 fs1 _ w1.tl fun us rs Γ2 S2 H2 frs fs2 hk l1 l2 w2 st2 => ?_
    obtain ⟨n, rfl, hk⟩ := hk
    match us, frs, l1, l2, w2, st2 with
    | [u], [f], _, _, w2, st2 =>
      have w2' : Wd K (some u :: σ) (.dat (.int n) :: Γ2) S2 H2 (f :: fs2) := w2
      obtain ⟨e4, u', e5, hu⟩ := w2'.hd
      subst e4
      cases e5; cases hu
      have q := st2.le.rd hr
      refine ⟨a, ns, n, rfl, rfl, ?_, ?_⟩
      · rw [← dd_ints hall]
        exact w2.good.sub.sqL (.inl q)
      · have st12 : Step S H fs.flatten S2 H2 fs2.flatten := (by simpa using st1 : Step S H fs.flatten S1 H1 fs1.flatten).trans (by simpa using st2)
        exact (P.trans st12).dat w2'.tl hk (.int _)
    | [], _, l1, _, _, _ => simp at l1
    | _ :: _ :: _, _, l1, _, _, _ => simp at l1
    | [_], [], _, l2, _, _ => simp at l2
    | [_], _ :: _ :: _, _, l2, _, _ => simp at l2
def Res.at (r : Res) (u : V) : Res := { v := u, p := r.p, loc := r.loc }
theorem star_at {v u : V} {Θ : List (Addr × Cell)} : (star v Θ).at u = star u Θ := rfl
theorem lendP {ts σ : List (Option V)} {Θ : List Sl} {S H : Hp} {ft fs : List (List Addr)} {i j : Nat} {r : Res} {u : V} (l1 : ts.length = Θ.length) (l2 : ft.length = Θ.length) (w : Wd K (ts ++ σ) (Θ ++ Γ) S H (ft ++ fs)) (hi : Θ[i]? = some (.raw u)) (hj : Γ[j]? = some (.res r)) :
    ∃ fp, Wd K (ts ++ σ) (Θ.set i (.res (r.at u)) ++ Γ.set j .no) S H (ft.set i fp ++ fs.set j []) ∧ (∀ a, a ∈ (ft.set i fp ++ fs.set j []).flatten ↔ a ∈ (ft ++ fs).flatten) ∧ σ[j]? = some (some r.v) := by
  obtain ⟨s1, s2⟩ := w.sat.split l1 l2
  obtain ⟨x, fp0, hx, hf, e0, rfl⟩ := s1.get hi
  subst e0
  obtain ⟨y, fp, hy, hg, rfl, hp⟩ := s2.get hj
  have p1 := flat_put ft i fp hf
  have p2 := flat_take fs j fp hg
  have pm : (ft.set i fp ++ fs.set j []).flatten.Perm (ft ++ fs).flatten := by
    rw [List.flatten_append, List.flatten_append]
    refine (p1.append_right _).trans ?_
    refine List.Perm.trans ?_ (p2.symm.append_left _)
    rw [← List.append_assoc]
    exact (List.perm_append_comm).append_right _
  refine ⟨fp, ⟨w.good.perm pm.symm, ?_⟩, fun a => pm.mem_iff, hy⟩
  have a1 := s1.set (x := some u) (s := .res (r.at u)) (fp := fp) i ⟨rfl, hp⟩
  have a2 := s2.set (x := some r.v) (s := .no) (fp := []) j rfl
  rw [setSame hx] at a1
  rw [setSame hy] at a2
  exact a1.append a2
theorem backP {ts σ : List (Option V)} {Θ : List Sl} {S H : Hp} {ft fs : List (List Addr)} {i j : Nat} {r : Res} {v : V} (l1 : ts.length = Θ.length) (l2 : ft.length = Θ.length) (w : Wd K (ts ++ σ) (Θ ++ Γ) S H (ft ++ fs)) (hi : Θ[i]? = some (.res r)) (hj : Γ[j]? = some .no) (hv : σ[j]? = some (some v)) :
    ∃ fp, Wd K (ts ++ σ) (Θ.set i .no ++ Γ.set j (.res (r.at v))) S H (ft.set i [] ++ fs.set j fp) ∧ (∀ a, a ∈ (ft.set i [] ++ fs.set j fp).flatten ↔ a ∈ (ft ++ fs).flatten) := by
  obtain ⟨s1, s2⟩ := w.sat.split l1 l2
  obtain ⟨x, fp, hx, hf, rfl, hp⟩ := s1.get hi
  obtain ⟨y, fp0, hy, hg, e0⟩ := s2.get hj
  have e0 : fp0 = [] := e0
  subst e0
  have p1 := flat_take ft i fp hf
  have p2 := flat_put fs j fp hg
  have pm : (ft.set i [] ++ fs.set j fp).flatten.Perm (ft ++ fs).flatten := by
    rw [List.flatten_append, List.flatten_append]
    refine (p2.append_left _).trans ?_
    refine List.Perm.trans ?_ (p1.symm.append_right _)
    rw [← List.append_assoc]
    exact (List.perm_append_comm).append_right _
  refine ⟨fp, ⟨w.good.perm pm.symm, ?_⟩, fun a => pm.mem_iff⟩
  have a1 := s1.set (x := some r.v) (s := .no) (fp := []) i rfl
  have a2 := s2.set (x := some v) (s := .res (r.at v)) (fp := fp) j ⟨rfl, hp⟩
  rw [setSame hx] at a1
  rw [setSame hv] at a2
  exact a1.append a2
theorem e_callP {F : FSpec} {ta : TA} {E : XK} (i j : Nat) (h : EvA K ta Γ fun rs Γ1 => ∃ (r : Res) (u : V), rs[i]? = some (.raw u) ∧ Γ1[j]? = some (.res r) ∧ F (rs.set i (.res (r.at u))) fun r0 as' => ∃ r' : Res, as'[i]? = some (.res r') ∧ as'.length = rs.length ∧ k r0 (Γ1.set j (.res (r'.at r.v)))) :
    EvP K (tCall (spOf K F) [] E ta) Γ k := by
  intro σ S H fs Q w P
  refine h σ S H fs _ w fun vs rs Γ1 S1 H1 frs fs1 hF l1 l2 w1 st1 => ?_
  obtain ⟨r, u, hi, hj, hF⟩ := hF
  rw [List.append_nil]
  have lv : (vs.map some).length = rs.length := by simpa using l1
  obtain ⟨fp, wl, hm, hσ⟩ := lendP lv l2 w1 hi hj
  have lv' : (vs.map some).length = (rs.set i (.res (r.at u))).length := by simpa using l1
  have l2' : (frs.set i fp).length = (rs.set i (.res (r.at u))).length := by simpa using l2
  have ls := wl.sat.split lv' l2'
  have wsw := wl.swap lv' l2'
  have wA : Wd K (vs.map some) (rs.set i (.res (r.at u))) S1 H1 (frs.set i fp) := Wd.tail ls.2.lens.1 ls.2.lens.2 wsw
  refine ⟨_, S1, _, _, wA, hF, fun v r0 as' S2 H2 fr fs2 hk w2 st2 => ?_⟩
  obtain ⟨r', ha, hl, hk⟩ := hk
  obtain ⟨w3, st3⟩ := frame ls.2.lens.1 ls.2.lens.2 wsw w2 st2
  have w4 : Wd K (vs.map some ++ (some v :: σ)) (as' ++ (r0 :: Γ1.set j .no)) S2 H2 (fs2 ++ (fr :: fs1.set j [])) := by
    have q : Wd K ((σ ++ [some v]) ++ vs.map some) ((Γ1.set j .no ++ [r0]) ++ as') S2 H2 ((fs1.set j [] ++ [fr]) ++ fs2) := by simpa using w3
    have q2 := q.swap (by simpa using ls.2.lens.1) (by simpa using ls.2.lens.2)
    have q3 := w2.tl.sat.lens
    have q4 : Wd K (vs.map some ++ (σ ++ [some v])) (as' ++ (Γ1.set j .no ++ [r0])) S2 H2 (fs2 ++ (fs1.set j [] ++ [fr])) := q2
    obtain ⟨g, st⟩ := q4
    obtain ⟨a, b⟩ := st.split q3.1 q3.2
    obtain ⟨c, d⟩ := b.split (xs := σ) (ss := Γ1.set j .no) (fs := fs1.set j []) ls.2.lens.1 ls.2.lens.2
    refine ⟨g.perm ?_, a.append ?_⟩
    · simp only [List.flatten_append, List.flatten_cons, List.flatten_nil, List.append_nil]
      exact List.Perm.append_left _ List.perm_append_comm
    · cases d with
      | cons d1 d2 => exact .cons d1 c
  have q3 := w2.tl.sat.lens
  obtain ⟨fp', w5, hm2⟩ := backP (i := i) (j := j + 1) (r := r') (v := r.v) q3.1 q3.2 w4 ha (by
      simp only [List.getElem?_cons_succ]
      exact List.getElem?_set_self (List.getElem?_eq_some_iff.mp hj).1) (by simp only [List.getElem?_cons_succ]; rw [hσ])
  simp only [List.set_cons_succ, List.set_set] at w5 hm2
  have w6 := Wd.tail (by simpa using q3.1) (by simpa using q3.2) w5
  refine P v r0 _ S2 H2 fr _ hk w6 ?_
  have e1 : ∀ a, a ∈ (fs1.set j [] ++ frs.set i fp).flatten → a ∈ (frs ++ fs1).flatten := fun a ha => by
    rw [← hm]
    rw [List.flatten_append] at ha ⊢
    exact (List.mem_append.mp ha).elim (List.mem_append_right _) (List.mem_append_left _)
  refine st1.trans ((st3.weak e1).sub fun a ha => ?_)
  have hb : a ∈ (fs2.set i [] ++ (fr :: fs1.set j fp')).flatten := by
    rw [List.flatten_append]
    exact List.mem_append_right _ ha
  have hc := (hm2 a).mp hb
  simp only [List.flatten_cons, List.flatten_append, List.mem_append] at hc ⊢
  rcases hc with q | q | q
  · exact .inr (.inr q)
  · exact .inr (.inl q)
  · exact .inl q
theorem e_methP {C : Addr} {m : Str} {F : FSpec} {to : TE} {ta : TA} (j n : Nat) (h : EvP K to Γ fun s Γ1 => ∃ a v Θ ns ss, s = .raw (.ref a) ∧ Γ1[j]? = some (.res (star v Θ)) ∧ Θ[n]? = some (a, .ins C ns ss) ∧ m ∉ ns ∧ EvA K ta Γ1 fun rs Γ2 => ∃ r : Res, Γ2[j]? = some (.res r) ∧ F (.res (r.at (.ref a)) :: rs) fun r0 as' => ∃ r' : Res, as'[0]? = some (.res r') ∧ as'.length = rs.length + 1 ∧ k r0 (Γ2.set j (.res (r'.at r.v)))) :
    EvP K (tMeth C m (spOf K F) [] E0 to ta) Γ k := by
  intro σ S H fs Q w P
  refine h σ S H fs _ w fun x s Γ1 S1 H1 f1 fs1 hb w1 st1 => ?_
  obtain ⟨a, v, Θ, ns, ss, rfl, hj, hn, hm, hA⟩ := hb
  obtain ⟨e0, e1⟩ := w1.hd
  subst e0
  cases e1
  obtain ⟨h0, hl0, dx, vs, hH, _⟩ := star_cell w1.tl hj hn
  refine ⟨a, dx, _, rfl, hH, lookup_zip_none hm, ?_⟩
  have key : EvA K (tCons (tC (.ref a)) ta) Γ1 fun rs Γ2 => ∃ (r : Res) (u : V), rs[0]? = some (.raw u) ∧ Γ2[j]? = some (.res r) ∧ F (rs.set 0 (.res (r.at u))) fun r0 as' => ∃ r' : Res, as'[0]? = some (.res r') ∧ as'.length = rs.length ∧ k r0 (Γ2.set j (.res (r'.at r.v))) :=
    a_cons (e_c (hA.mono fun rs Γ2 ⟨r, h1, h3⟩ => ⟨r, .ref a, rfl, h1, h3⟩))
  exact e_callP (E := E0) 0 j key σ S1 H1 fs1 Q w1.tl (P.trans (by simpa using st1))
theorem calleeM_mk {P : Program} {w : World} {K : Frag} {mg : Str → Option Value} {base : Heap} {C : Addr} {m qual : Str} {params : Arguments} {body : List Stmt} {scope : Scope} {f : Addr} {N ps : List Str} {k : Nat} {F : FSpec}
    (M : Meth K C m f) (FD : ∃ fd, FunD K m qual params body scope [] [] f fd) (S : FnScope N ps scope)
    (hb : ∀ (kV doc pm an cdv ct) (us : List Value), us.length = ps.length → bindArgs (PySem.W.fnOf m qual params body scope .none kV doc pm an cdv ct) ⟨us, []⟩ = pure (ps.zip us))
    (hn : ∀ args k, F args k → args.length = ps.length) (t : TS) (ht : ∀ args k, F args k → ExS K t (args ++ List.replicate (N.length - args.length) .no) (fnOut args k))
    (hd : ∀ (cdv : Value) (A : Around) (outer : List Env) (s : Shared) (H : Hp) (E : XK), Room k (A.deeper (envOfC qual scope s.heap.objs.size f cdv)) → PSs (cxOf CX0 P w K mg base N qual scope f cdv A outer s H E).nox body t) :
    CalleeM P w K mg base C m (k + 1) ps (spOf K F) := by
  obtain ⟨fd, FD⟩ := FD
  exact ⟨f, fd, fn_mk FD S hn t ht hd, M, FD.bindsN hb⟩
theorem calleeP_mk {P : Program} {w : World} {K : Frag} {mg : Str → Option Value} {base : Heap} {C : Addr} {m qual : Str} {params : Arguments} {body : List Stmt} {scope : Scope} {f p : Addr} {N ps : List Str} {k : Nat} {F : FSpec}
    (M : PropOf K C m p f) (FD : ∃ fd, FunD K m qual params body scope [] [] f fd) (S : FnScope N ps scope)
    (hb : ∀ (kV doc pm an cdv ct) (us : List Value), us.length = ps.length → bindArgs (PySem.W.fnOf m qual params body scope .none kV doc pm an cdv ct) ⟨us, []⟩ = pure (ps.zip us))
    (hn : ∀ args k, F args k → args.length = ps.length) (t : TS) (ht : ∀ args k, F args k → ExS K t (args ++ List.replicate (N.length - args.length) .no) (fnOut args k))
    (hd : ∀ (cdv : Value) (A : Around) (outer : List Env) (s : Shared) (H : Hp) (E : XK), Room k (A.deeper (envOfC qual scope s.heap.objs.size f cdv)) → PSs (cxOf CX0 P w K mg base N qual scope f cdv A outer s H E).nox body t) :
    CalleeP P w K mg base C m (k + 1) ps (spOf K F) := by
  obtain ⟨fd, FD⟩ := FD
  exact ⟨p, f, fd, fn_mk FD S hn t ht hd, M, FD.bindsN hb⟩
structure CalleeJ (P : Program) (w : World) (K : Frag) (mg : Str → Option Value) (base : Heap) (x : Str) (C : Addr) (k : Nat) (ps : List Str) (dvs : List V) (sp : Sp) : Prop where
  ex : ∃ f fd ds, FnOk P w K mg base CX0 k f fd ps sp ∧ Mk K C f ∧ mg x = some (.ref C) ∧ Vals dvs ds ∧ Binds K fd ps ds
theorem calleeJ_mk {P : Program} {w : World} {K : Frag} {mg : Str → Option Value} {base : Heap} {x : Str} {C : Addr} {qual : Str} {params : Arguments} {body : List Stmt} {scope : Scope} {f : Addr} {N ps : List Str} {k : Nat} {F : FSpec} {dvs : List V}
    (g : mg x = some (.ref C)) (M : Mk K C f) (FD : ∃ fd, FunD K "__init__" qual params body scope dvs [] f fd) (S : FnScope N ps scope)
    (hb : ∀ fd, FunD K "__init__" qual params body scope dvs [] f fd → ∃ ds, Vals dvs ds ∧ Binds K fd ps ds)
    (hn : ∀ args k, F args k → args.length = ps.length) (t : TS) (ht : ∀ args k, F args k → ExS K t (args ++ List.replicate (N.length - args.length) .no) (fnOut args k))
    (hd : ∀ (cdv : Value) (A : Around) (outer : List Env) (s : Shared) (H : Hp) (E : XK), Room k (A.deeper (envOfC qual scope s.heap.objs.size f cdv)) → PSs (cxOf CX0 P w K mg base N qual scope f cdv A outer s H E).nox body t) :
    CalleeJ P w K mg base x C (k + 1) ps dvs (spOf K F) := by
  obtain ⟨fd, FD⟩ := FD
  obtain ⟨ds, h1, h2⟩ := hb fd FD
  exact ⟨f, fd, ds, FD.ok S (fun vs H Q E h => sp_len hn h) (fun cdv A outer s H vs Q E hr h => ⟨t, (hd cdv A outer s H E hr).nox, fn_body ht h⟩), M, g, h1, h2⟩
theorem pe_mkj {X : Cx} {x : Str} {j k : Nat} {C : Addr} {ps : List Str} {sp : Sp} {p pos : Pos} {e : Expr} {es : List Expr} {t : TA} {dvs : List V} (J : CalleeJ X.prog X.w X.K X.mg X.base x C j ps dvs sp) (hr : Room k X.A) (hj : j + 1 ≤ k) (hg : Gl X x) (ha : PA X (e :: es) t) (hdb : (x == ("__debug__" : Str)) = false := by decide) (he : starEach (e :: es) X.env = (false, eval e X.env) :: starEach es X.env := by rfl) (hpl : (backTo pos (starEach es X.env)).any (·.1) = false := by rfl) :
    PE X (.Call (.Name x p) (e :: es) [] pos) (tMake C sp dvs E0 t) := by
  obtain ⟨f, fd, ds, F, M, hm, h1, h2⟩ := J.ex
  exact pe_mk M F hm h2 h1 hr hj hg ha hdb he hpl
def tCallR (_ : Nat) (sp : Sp) (E : XK) (ta : TA) : TE := tCall sp [] E ta
def tMethR (_ : Nat) (C : Addr) (m : Str) (sp : Sp) (E : XK) (to : TE) (ta : TA) : TE := tMeth C m sp [] E to ta
def tPropR (_ : Nat) (C : Addr) (sp : Sp) (E : XK) (to : TE) : TE := tProp C sp [] E to
theorem e_callR {F : FSpec} {ta : TA} {E : XK} {j : Nat} (h : EvA K (tCons (tVar j) ta) Γ fun rs Γ1 => ∃ (r : Res) (rt : List Sl), rs = .raw r.v :: rt ∧ Γ1[j]? = some (.res r) ∧ F (.res r :: rt) fun r0 as' => ∃ r' : Res, as'[0]? = some (.res r') ∧ r'.v = r.v ∧ as'.length = rs.length ∧ k r0 (Γ1.set j (.res r'))) :
    EvP K (tCallR j (spOf K F) E (tCons (tVar j) ta)) Γ k :=
  e_call1 0 j (h.mono fun rs Γ1 ⟨r, rt, e, h1, h2⟩ => by subst e; exact ⟨r, rfl, h1, h2⟩)
theorem e_methR {C : Addr} {m : Str} {F : FSpec} {ta : TA} {j : Nat} {r : Res} (hj : Γ[j]? = some (.res r)) (hI : IsIns C m r) (h : EvA K ta Γ fun rs Γ2 => ∃ r2 : Res, r2.v = r.v ∧ Γ2[j]? = some (.res r2) ∧ F (.res r2 :: rs) fun r0 as' => ∃ r' : Res, as'[0]? = some (.res r') ∧ r'.v = r2.v ∧ as'.length = rs.length + 1 ∧ k r0 (Γ2.set j (.res r'))) :
    EvP K (tMethR j C m (spOf K F) E0 (tVar j) ta) Γ k := e_meth j (e_res hj ⟨r, rfl, hj, hI, h⟩)
theorem e_propR {C : Addr} {F : FSpec} {j : Nat} {r : Res} (hj : Γ[j]? = some (.res r)) (hI : IsIns C (PySem.Str.ofString "") r) (h : F [.res r] fun r0 as' => ∃ r' : Res, as'[0]? = some (.res r') ∧ r'.v = r.v ∧ as'.length = 1 ∧ k r0 (Γ.set j (.res r'))) :
    EvP K (tPropR j C (spOf K F) E0 (tVar j)) Γ k := e_prop j (e_res hj ⟨r, rfl, hj, hI, h⟩)
def pD (args : List Sl) (k : Sl → List Sl → Prop) (ds : List PyData) (r : PyData) : Prop := args = ds.map .dat ∧ k (.dat r) args
theorem bodyD {t : TS} {args : List Sl} {k : Sl → List Sl → Prop} {ds : List PyData} {r : PyData} {n : Nat} {Γ : List Sl} (h : pD args k ds r) (e : ds.map Sl.dat ++ List.replicate (n - ds.length) .no = Γ) (hx : ExS K t Γ (datOut r)) : ExS K t (args ++ List.replicate (n - args.length) .no) (fnOut args k) := by
  obtain ⟨rfl, hk⟩ := h
  have q := body_dats (t := t) (K := K) (N := List.replicate n (PySem.Str.ofString "")) hk (by rw [List.length_replicate, e]; exact hx)
  rwa [List.length_replicate] at q
end Dl
namespace Dl
open PySem PySem.Spec PyProof.Rows L2
structure DefX where
  adr : Frag → Addr
  name : Str
  qual : Str
  params : Arguments
  body : List Stmt
  scope : Scope
  dfl : List He.Dv := []
def fnX (K : Frag) (a : Addr) : He.FnW := match K.lookup a with
  | some ⟨_, _, .func fd, _⟩ => some (fd.name, fd.qualname, fd.params, fd.body, fd.scope, fd.globals, fd.closure, fd.builtins)
  | _ => none
def DefX.val (d : DefX) : He.FnW := some (d.name, d.qual, d.params, .stmts d.body, d.scope, mainGlobals, [], builtinsNs)
def DefX.dvs (K : Frag) (d : DefX) : List V := d.dfl.map (He.Dv.v K)
def DefX.ok (K : Frag) (d : DefX) : Bool := PySem.W.keepIn K (.ref (d.adr K)) && (match K.lookup (d.adr K) with
  | some ⟨_, _, .func fd, _⟩ => PySem.W.codeIn K fd.code d.qual && He.dflB K fd.defaults (d.dvs K)
  | _ => false)
theorem DefX.funD {K : Frag} {d : DefX} (e : fnX K (d.adr K) = d.val) (c : d.ok K = true) : ∃ fd, FunD K d.name d.qual d.params d.body d.scope (d.dvs K) [] (d.adr K) fd := by
  obtain ⟨kp, c2⟩ := He.ba c
  unfold fnX at e
  cases q : K.lookup (d.adr K) with
  | none =>
    rw [q] at c2
    cases c2
  | some o =>
    obtain ⟨oc, od, dt, osl⟩ := o
    rw [q] at c2 e
    cases dt with
    | func fd =>
      obtain ⟨n1, n2, n3, n4, n5, n6, n7, n8, n9, n10, n11, n12, n13, n14, n15⟩ := fd
      have e2 : (some (n1, n2, n3, n4, n5, n6, n7, n15) : He.FnW) = some (d.name, d.qual, d.params, .stmts d.body, d.scope, mainGlobals, [], builtinsNs) := e
      simp only [Option.some.injEq, Prod.mk.injEq] at e2
      obtain ⟨h1, h2, h3, h4, h5, h6, h7, h8⟩ := e2
      subst h1 h2 h3 h4 h5 h6 h7 h8
      have c3 : (PySem.W.codeIn K n13 d.qual && He.dflB K n8 (d.dvs K)) = true := c2
      obtain ⟨k1, k2⟩ := He.ba c3
      exact ⟨_, ⟨oc, od, n8, n9, n10, n11, n12, n13, n14, osl, rfl, q, k1, He.dflB_ok k2, .inl rfl⟩, kp⟩
    | _ => cases c2
def pgA (K : Frag) (x m : Str) : Addr := match PySem.W.recIn K (He.ma K (He.ga K x) m) "property" with
  | some (.ref g :: _) => g
  | _ => 0
def prB (K : Frag) (x m : Str) : Bool := He.eqO (PySem.W.findIn K (.ref (He.ga K x)) m) (some (some (.ref (He.ma K (He.ga K x) m)))) && (He.eqO (PySem.W.specialIn K (.ref (He.ma K (He.ga K x) m)) "__get__") (some (some (.builtin "property.__get__"))) &&
  (decide (PySem.W.takesIn K (.ref (He.ma K (He.ga K x) m)) = some true) && (match PySem.W.recIn K (He.ma K (He.ga K x) m) "property" with
  | some (.ref _ :: _) => true
  | _ => false)))
theorem prB_ok {K : Frag} {x m : Str} (h : prB K x m = true) : PropOf K (He.ga K x) m (He.ma K (He.ga K x) m) (pgA K x m) := by
  obtain ⟨h1, h⟩ := He.ba h
  obtain ⟨h2, h⟩ := He.ba h
  obtain ⟨h3, h4⟩ := He.ba h
  refine ⟨He.eqO_ok h1, He.eqO_ok h2, of_decide_eq_true h3, ?_⟩
  unfold pgA
  cases q : PySem.W.recIn K (He.ma K (He.ga K x) m) "property" with
  | none => rw [q] at h4; cases h4
  | some l =>
    rw [q] at h4
    cases l with
    | nil => cases h4
    | cons a r =>
      cases a with
      | ref g => exact ⟨r, rfl⟩
      | _ => cases h4
def tup0B (K : Frag) (a : Addr) : Bool := match K.lookup a with
  | some ⟨.type c, _, .seq its _, _⟩ => decide (c = "tuple") && its.toList.isEmpty
  | _ => false
theorem tup0B_ok {K : Frag} {a : Addr} (h : tup0B K a = true) (S : Hp) : Dd K S (.ref a) (.tuple []) := by
  unfold tup0B at h
  cases q : K.lookup a with
  | none =>
    rw [q] at h
    cases h
  | some o =>
    obtain ⟨oc, od, dt, osl⟩ := o
    rw [q] at h
    cases oc with
    | type c =>
      cases dt with
      | seq its n =>
        obtain ⟨h1, h2⟩ := He.ba (show (decide (c = "tuple") && its.toList.isEmpty) = true from h)
        have e : its.toList = [] := by simpa using h2
        refine .tup (.inr ⟨_, its, n, q, congrArg Value.type (of_decide_eq_true h1), rfl, ?_, ?_⟩) .nil
        · rw [show its.size = its.toList.length from (Array.length_toList).symm, e]; exact Nat.zero_le _
        · rw [e]; exact .nil
      | _ => cases h
    | _ => cases dt <;> cases h
theorem tupS_ok {K : Frag} {x : Str} {ws : List Str} (h : He.tupB K x (ws.map .str) = true) (S : Hp) : Dd K S (.ref (He.ga K x)) (.tuple (ws.map .str)) := by
  have q := He.tupB_ok h S
  refine .tup q ?_
  rw [List.map_map]
  clear q h
  induction ws with
  | nil => exact .nil
  | cons w ws ih => exact .cons (.str w) ih
abbrev AlX : Type := Bool × List He.FnW
def obsX (fa : List He.Fa) (fn : List DefX) (ex : Frag → Bool) (K : Frag) : AlX := ((fa.all fun f => f.ok K) && ((fn.all fun d => d.ok K) && ex K), fn.map fun d => fnX K (d.adr K))
def valX (fn : List DefX) : AlX := (true, fn.map DefX.val)
def SaysX (fa : List He.Fa) (fn : List DefX) (ex : Frag → Bool) (K : Frag) : Prop := obsX fa fn ex K = valX fn
def obsXG (n : Nat) (fa : List He.Fa) (fn : List DefX) (ex : Frag → Bool) (g : Addr → Option Obj) : AlX := obsX fa fn ex (He.frG g (He.asD g n))
def hookX (n : Nat) (fa : List He.Fa) (fn : List DefX) (ex : Frag → Bool) : PySem.W.Hook where
  α := AlX
  obs := fun s => obsXG n fa fn ex s.heap.get?
  val := fun _ => valX fn
  says := fun _ h => ∃ K : Frag, K.In h ∧ SaysX fa fn ex K
  of := fun _ _ e => ⟨_, He.frG_in, e⟩
  keeps := fun _ _ _ ⟨K, hK, c⟩ k => ⟨K, PySem.W.Frag.In.keeps hK k, c⟩
theorem obsXG_eq {n : Nat} {fa : List He.Fa} {fn : List DefX} {ex : Frag → Bool} {g : Addr → Option Obj} {s : Shared} (h : ∀ a, g a = s.heap.get? a) : obsXG n fa fn ex g = (hookX n fa fn ex).obs s := by
  have e : g = s.heap.get? := funext h
  rw [e] <;> rfl
section
variable {fa : List He.Fa} {fn : List DefX} {ex : Frag → Bool} {K : Frag}
theorem SaysX.fact (c : SaysX fa fn ex K) (i : Nat) {f : He.Fa} (h : fa[i]? = some f := by rfl) : f.ok K = true := by
  have c1 := (He.ba (show ((fa.all fun f => f.ok K) && ((fn.all fun d => d.ok K) && ex K)) = true from congrArg (fun z : AlX => z.1) c)).1
  exact List.all_eq_true.mp c1 f (List.mem_of_getElem? h)
theorem SaysX.more (c : SaysX fa fn ex K) : ex K = true :=
  (He.ba (He.ba (show ((fa.all fun f => f.ok K) && ((fn.all fun d => d.ok K) && ex K)) = true from congrArg (fun z : AlX => z.1) c)).2).2
theorem SaysX.def_ (c : SaysX fa fn ex K) (i : Nat) {d : DefX} (h : fn[i]? = some d := by rfl) : ∃ fd, FunD K d.name d.qual d.params d.body d.scope (d.dvs K) [] (d.adr K) fd := by
  have c2 := (He.ba (He.ba (show ((fa.all fun f => f.ok K) && ((fn.all fun d => d.ok K) && ex K)) = true from congrArg (fun z : AlX => z.1) c)).2).1
  have e : fn.map (fun d => fnX K (d.adr K)) = fn.map DefX.val := congrArg (fun z : AlX => z.2) c
  have e2 : (fn.map fun d => fnX K (d.adr K))[i]? = (fn.map DefX.val)[i]? := by rw [e]
  rw [List.getElem?_map, List.getElem?_map, h] at e2
  exact DefX.funD (Option.some.inj e2) (List.all_eq_true.mp c2 d (List.mem_of_getElem? h))
end
end Dl
namespace Dl
open PySem PySem.Spec PyProof.Rows L2
variable {K : Frag} {Γ : List Sl} {k : Sl → List Sl → Prop} {O : Out}
theorem kit_any2 (d : PyData) {A B : String} (hA : A = "int" ∨ A = "bool" ∨ A = "str" ∨ A = "list" ∨ A = "tuple" ∨ A = "dict") (hB : B = "int" ∨ B = "bool" ∨ B = "str" ∨ B = "list" ∨ B = "tuple" ∨ B = "dict") :
    PySem.W.kitAny K (.type (tyD d)) [.type A, .type B] = some (isT A d || isT B d) := by
  refine kitAny_cons (kit_ty (kit_isT d hA)) (fun e => ?_) (fun e => by rw [e]; rfl)
  refine kitAny_cons (kit_ty (kit_isT d hB)) (fun e2 => ?_) (fun e2 => by rw [e2, Bool.or_true])
  rw [e, e2]
  rfl
theorem e_isi2 {te : TE} {A B : String} (hA : A = "int" ∨ A = "bool" ∨ A = "str" ∨ A = "list" ∨ A = "tuple" ∨ A = "dict" := by decide) (hB : B = "int" ∨ B = "bool" ∨ B = "str" ∨ B = "list" ∨ B = "tuple" ∨ B = "dict" := by decide)
    (h : EvP K te Γ fun r Γ1 => ∃ d, r = .dat d ∧ k (.dat (.bool (isT A d || isT B d))) Γ1) : EvP K (tCB (rIsiU K) (tCons te (tCons (tTup (tCons (tC (.ty A)) (tCons (tC (.ty B)) tNil))) tNil))) Γ k := by
  intro σ S H fs Q w P
  refine h σ S H fs _ w fun v r Γ1 S1 H1 f1 fs1 hb w1 st1 => ?_
  obtain ⟨d, rfl, hk⟩ := hb
  obtain ⟨e0, v', e1, hd⟩ := w1.hd
  subst e0
  cases e1
  refine ⟨(show (2 : Nat) ≤ sizeLine by decide), fun p hp => ?_⟩
  obtain ⟨w3, st3⟩ := alloc (.tup [V.ty A, V.ty B]) w1.tl hp
  refine .inr (.inl ⟨v, p, [V.ty A, V.ty B], _, [.type A, .type B], _, rfl, upd_same, .cons (.ty A) (.cons (.ty B) .nil), dd_ty (w1.good.sub.trans fun b o e => by rw [upd_ne (ne_of_none e hp)]; exact e) hd, kit_any2 d hA hB, ?_⟩)
  exact ((P.trans (by simpa using st1)).trans st3).dat w3 hk (.bl _)
theorem iT {b : Bool} {A B : Prop} (e : b = true) (h : A) : if b = true then A else B := by rw [if_pos e]; exact h
theorem iF {b : Bool} {A B : Prop} (e : b = false) (h : B) : if b = true then A else B := by rw [if_neg (by rw [e]; decide)]; exact h
theorem op_ix' {d : PyData} {i : Int} (h : ∃ ds d', seqD d = some ds ∧ atI ds i = some d' ∧ k (.dat d') Γ) : OpK K (uIx K) (.dat d) (.dat (.int i)) Γ k := by
  obtain ⟨ds, d', h1, h2, h3⟩ := h
  exact op_ix_d h1 h2 h3
def datsOf : List Sl → Option (List PyData)
  | [] => some []
  | .dat d :: r => match datsOf r with
    | some ds => some (d :: ds)
    | none => none
  | _ :: _ => none
theorem datsOf_eq : ∀ {rs : List Sl} {ds : List PyData}, datsOf rs = some ds → rs = ds.map .dat
  | [], ds, h => by cases h; rfl
  | .dat d :: r, ds, h => by
    unfold datsOf at h
    cases q : datsOf r with
    | none => rw [q] at h; cases h
    | some es => rw [q] at h; cases h; rw [datsOf_eq q]; rfl
  | .no :: _, _, h => by cases h
  | .raw _ :: _, _, h => by cases h
  | .res _ :: _, _, h => by cases h
def smallL (ds : List PyData) : Bool := Nat.ble ds.length 1000
theorem smallL_ok {ds : List PyData} (h : smallL ds = true) : ds.length ≤ sizeLine := Nat.le_trans (Nat.le_of_ble_eq_true h) (by decide)
theorem e_tup' {ta : TA} (h : EvA K ta Γ fun rs Γ1 => ∃ ds : List PyData, datsOf rs = some ds ∧ smallL ds = true ∧ k (.dat (.tuple ds)) Γ1) : EvP K (tTup ta) Γ k := e_tup (h.mono fun rs Γ1 ⟨ds, e, z, q⟩ => ⟨ds, datsOf_eq e, smallL_ok z, q⟩)
theorem e_lst' {ta : TA} (h : EvA K ta Γ fun rs Γ1 => ∃ ds : List PyData, datsOf rs = some ds ∧ smallL ds = true ∧ k (.dat (.list ds)) Γ1) : EvP K (tLst ta) Γ k := e_lst (h.mono fun rs Γ1 ⟨ds, e, z, q⟩ => ⟨ds, datsOf_eq e, smallL_ok z, q⟩)
theorem op_in2 {w a b : Str} (hk : k (.dat (.bool (decide (w ∈ [a, b])))) Γ) : OpK K (uIn K) (.dat (.str w)) (.dat (.tuple [.str a, .str b])) Γ k := op_in_strs (ws := [a, b]) rfl hk
theorem op_ni3 {w a b c : Str} (hk : k (.dat (.bool (!decide (w ∈ [a, b, c])))) Γ) : OpK K (uNotIn K) (.dat (.str w)) (.dat (.tuple [.str a, .str b, .str c])) Γ k := op_ni_strs (ws := [a, b, c]) rfl hk
theorem op_mul_il {i j : Int} (h : (decide (-(2 ^ 64) < i) && decide (i < 2 ^ 64)) = true) (hk : k (.dat (.int (i * j))) Γ) : OpK K (uMul K) (.dat (.int i)) (.dat (.int j)) Γ k := by
  simp only [Bool.and_eq_true, decide_eq_true_eq] at h
  exact op_mul_i (.inl h) hk
theorem op_mul_ir {i j : Int} (h : (decide (-(2 ^ 64) < j) && decide (j < 2 ^ 64)) = true) (hk : k (.dat (.int (i * j))) Γ) : OpK K (uMul K) (.dat (.int i)) (.dat (.int j)) Γ k := by
  simp only [Bool.and_eq_true, decide_eq_true_eq] at h
  exact op_mul_i (.inr h) hk
structure Shp (n : Nat) (d : PyData) : Prop where
  lay : d.canLay0 = true
  dep : d.depth ≤ n
theorem Shp.shaped {n : Nat} {d : PyData} (h : Shp n d) (hn : n ≤ 64 := by decide) : SeqAt.shaped d = true := by
  unfold SeqAt.shaped
  rw [h.lay, decide_eq_true (Nat.le_trans h.dep hn)]
  rfl
theorem Shp.int {n : Nat} {i : Int} : Shp n (.int i) := ⟨by simp only [PyData.canLay0], by simp only [PyData.depth]; exact Nat.zero_le _⟩
theorem Shp.none {n : Nat} : Shp n .none := ⟨by simp only [PyData.canLay0], by simp only [PyData.depth]; exact Nat.zero_le _⟩
theorem Shp.bool {n : Nat} {b : Bool} : Shp n (.bool b) := ⟨by simp only [PyData.canLay0], by simp only [PyData.depth]; exact Nat.zero_le _⟩
theorem Shp.str {n : Nat} {x : Str} (h : PyData.strOk x = true) : Shp n (.str x) := ⟨by simp only [PyData.canLay0]; exact h, by simp only [PyData.depth]; exact Nat.zero_le _⟩
theorem shp_all {n : Nat} : ∀ {xs : List PyData}, (∀ x ∈ xs, Shp n x) → PyData.canLayAll0 xs = true ∧ PyData.depthAll xs ≤ n
  | [], _ => ⟨by simp only [PyData.canLayAll0], by simp only [PyData.depthAll]; exact Nat.zero_le _⟩
  | x :: xs, h => by
    obtain ⟨a, b⟩ := h x List.mem_cons_self
    obtain ⟨c, d⟩ := shp_all fun y hy => h y (List.mem_cons_of_mem _ hy)
    exact ⟨by simp only [PyData.canLayAll0, a, c, Bool.and_true], by simp only [PyData.depthAll]; exact Nat.max_le.mpr ⟨b, d⟩⟩
theorem Shp.list {n : Nat} {xs : List PyData} (h : ∀ x ∈ xs, Shp n x) : Shp (n + 1) (.list xs) := by
  obtain ⟨a, b⟩ := shp_all h
  exact ⟨by simp only [PyData.canLay0]; exact a, by simp only [PyData.depth]; omega⟩
theorem Shp.tuple {n : Nat} {xs : List PyData} (h : ∀ x ∈ xs, Shp n x) : Shp (n + 1) (.tuple xs) := by
  obtain ⟨a, b⟩ := shp_all h
  exact ⟨by simp only [PyData.canLay0]; exact a, by simp only [PyData.depth]; omega⟩
theorem shaped_int {i : Int} : SeqAt.shaped (.int i) = true := (Shp.int (n := 0)).shaped
theorem shaped_none : SeqAt.shaped .none = true := (Shp.none (n := 0)).shaped
theorem shaped_list {xs : List PyData} (h : ∀ x ∈ xs, Shp 5 x) : SeqAt.shaped (.list xs) = true := (Shp.list h).shaped
theorem shaped_tuple {xs : List PyData} (h : ∀ x ∈ xs, Shp 5 x) : SeqAt.shaped (.tuple xs) = true := (Shp.tuple h).shaped
theorem shp_ints {n : Nat} {ns : List Int} : ∀ x ∈ ns.map PyData.int, Shp n x := fun x hx => by
  obtain ⟨i, _, rfl⟩ := List.mem_map.mp hx
  exact .int
theorem op_eq_ii {i j : Int} (hk : k (.dat (.bool (decide (i = j)))) Γ) : OpK K (uEq K) (.dat (.int i)) (.dat (.int j)) Γ k := by
  refine op_eq_d shaped_int shaped_int ?_
  rwa [show PyData.eqv (.int i) (.int j) = decide (i = j) by simp only [PyData.eqv]; by_cases h : i = j <;> simp [h]]
theorem op_ne_ii {i j : Int} (hk : k (.dat (.bool (!decide (i = j)))) Γ) : OpK K (uNe K) (.dat (.int i)) (.dat (.int j)) Γ k := by
  refine op_ne_d shaped_int shaped_int ?_
  rwa [show PyData.eqv (.int i) (.int j) = decide (i = j) by simp only [PyData.eqv]; by_cases h : i = j <;> simp [h]]
theorem op_eq_ss {x y : Str} (h1 : PyData.strOk x = true) (h2 : PyData.strOk y = true) (hk : k (.dat (.bool (x == y))) Γ) : OpK K (uEq K) (.dat (.str x)) (.dat (.str y)) Γ k := by
  refine op_eq_d (Shp.str (n := 0) h1).shaped (Shp.str (n := 0) h2).shaped ?_
  rwa [show PyData.eqv (.str x) (.str y) = (x == y) by simp only [PyData.eqv]]
theorem op_ne_ss {x y : Str} (h1 : PyData.strOk x = true) (h2 : PyData.strOk y = true) (hk : k (.dat (.bool (!(x == y)))) Γ) : OpK K (uNe K) (.dat (.str x)) (.dat (.str y)) Γ k := by
  refine op_ne_d (Shp.str (n := 0) h1).shaped (Shp.str (n := 0) h2).shaped ?_
  rwa [show PyData.eqv (.str x) (.str y) = (x == y) by simp only [PyData.eqv]]
end Dl
namespace Dl
open PySem PySem.Spec PyProof.Rows L2
variable {K : Frag} {Γ : List Sl} {k : Sl → List Sl → Prop} {O : Out}
theorem asg1 {σ : List (Option V)} {S H : Hp} {f : List Addr} {fs : List (List Addr)} {v : V} {s : Sl} (i : Nat) (w : Wd K (some v :: σ) (s :: Γ) S H (f :: fs)) :
    ∃ S' fs', Wd K (σ.set i (some v)) (Γ.set i s) S' H fs' ∧ Step S H (f :: fs).flatten S' H fs'.flatten := by
  have q : EvG K (gName i) s Γ fun Γ' => Γ' = Γ.set i s := g_name rfl
  exact q σ S H f fs v (fun σ' H' => ∃ S' fs', Wd K σ' (Γ.set i s) S' H' fs' ∧ Step S H (f :: fs).flatten S' H' fs'.flatten) w fun σ' Γ' S' H' fs' e w' st => ⟨S', fs', e ▸ w', st⟩
theorem x_par3 {i j l : Nat} {ta : TA} (h : EvA K ta Γ fun rs Γ1 => ∃ s1 s2 s3, rs = [s1, s2, s3] ∧ O.nx (((Γ1.set i s1).set j s2).set l s3)) : ExS K (tPar3 i j l ta) Γ O := by
  intro σ S H fs D w e
  refine h σ S H fs _ w fun vs rs Γ1 S1 H1 frs fs1 hk l1 l2 w1 st1 => ?_
  obtain ⟨s1, s2, s3, rfl, hk⟩ := hk
  match vs, frs, l1, l2, w1, st1 with
  | [u, v, z], [f1, f2, f3], _, _, w1, st1 =>
    refine ⟨u, v, z, rfl, ?_⟩
    have w1' : Wd K (some u :: some v :: some z :: σ) (s1 :: s2 :: s3 :: Γ1) S1 H1 (f1 :: f2 :: f3 :: fs1) := w1
    obtain ⟨S2, fs2, w2, st2⟩ := asg1 (i + 2) w1'
    simp only [List.set_cons_succ] at w2
    match fs2, w2.sat.lens, w2, st2 with
    | g2 :: g3 :: gs, _, w2, st2 =>
      obtain ⟨S3, fs3, w3, st3⟩ := asg1 (j + 1) w2
      simp only [List.set_cons_succ] at w3
      match fs3, w3.sat.lens, w3, st3 with
      | g4 :: gs', _, w3, st3 =>
        obtain ⟨S4, fs4, w4, st4⟩ := asg1 l w3
        exact e.nx _ _ _ _ _ hk w4 (st1.trans (st2.trans (st3.trans st4)))
      | [], hl, _, _ => simp at hl
    | [_], hl, _, _ => simp at hl
    | [], hl, _, _ => simp at hl
  | [], _, l1, _, _, _ => simp at l1
  | [_], _, l1, _, _, _ => simp at l1
  | [_, _], _, l1, _, _, _ => simp at l1
  | _ :: _ :: _ :: _ :: _, _, l1, _, _, _ => simp at l1
  | [_, _, _], [], _, l2, _, _ => simp at l2
  | [_, _, _], [_], _, l2, _, _ => simp at l2
  | [_, _, _], [_, _], _, l2, _, _ => simp at l2
  | [_, _, _], _ :: _ :: _ :: _ :: _, _, l2, _, _ => simp at l2
theorem vss_drop {S : Hp} : ∀ {vs : List V} {ss : List Sl} (n : Nat), VSs K S vs ss → VSs K S (vs.drop n) (ss.drop n)
  | _, _, 0, h => by simpa using h
  | _, _, n + 1, .nil => by simpa using (Paired.nil : VSs K S [] [])
  | _, _, n + 1, .cons a t => by simpa using vss_drop n t
theorem vss_take {S : Hp} : ∀ {vs : List V} {ss : List Sl} (n : Nat), VSs K S vs ss → VSs K S (vs.take n) (ss.take n)
  | _, _, 0, h => by simpa using (Paired.nil : VSs K S [] [])
  | _, _, n + 1, .nil => by simpa using (Paired.nil : VSs K S [] [])
  | _, _, n + 1, .cons a t => by simpa using Paired.cons a (vss_take n t)
theorem vss_cut {S : Hp} {vs : List V} {ss : List Sl} {lo hi : Option Int} (h : VSs K S vs ss) : VSs K S (cutV vs lo hi) (cutG ss lo hi) := by
  have hl := vss_len h
  unfold cutV cutG
  rw [hl]
  exact vss_take _ (vss_drop _ h)
theorem i_slC {te : TE} {tl th : TO} {ki : (Nat → Sl) → Nat → (List Sl → Prop) → List Sl → Prop} (h : EvP K te Γ fun r Γ1 => EvO K tl Γ1 fun lo Γ2 => EvO K th Γ2 fun hi Γ3 => ∃ a ss, r = .raw (.ref a) ∧ HasL Γ3 a ss ∧ ki (fun i => (cutG ss lo hi).getD i .no) (cutG ss lo hi).length (fun _ => True) Γ3) : EvI K (iSq K (tSl (rSlU K) te tl th)) Γ ki := by
  intro σ S H fs R w P
  refine h σ S H fs _ w fun v r Γ1 S1 H1 f1 fs1 hl w1 st1 => ?_
  refine hl σ S1 H1 fs1 _ w1.tl fun lo Γ2 S2 H2 fs2 hh w2 st2 => ?_
  refine hh σ S2 H2 fs2 _ w2 fun hi Γ3 S3 H3 fs3 hk w3 st3 => ?_
  obtain ⟨a, ss, rfl, hL, hk⟩ := hk
  obtain ⟨e0, e1⟩ := w1.hd
  subst e0
  cases e1
  obtain ⟨vs, hH, hvs⟩ := hL.at w3
  have hc := vss_cut (lo := lo) (hi := hi) hvs
  have hcl := vss_len hc
  have st13 : Step S H fs.flatten S3 H3 fs3.flatten := ((by simpa using st1 : Step S H fs.flatten S1 H1 fs1.flatten).trans st2).trans st3
  refine .inl ⟨a, vs, rfl, .inl (.inl hH), fun p hp => ?_⟩
  obtain ⟨w4, st4⟩ := alloc (.lst (cutV vs lo hi)) w3 hp
  have hS : (upd S3 p (.lst (cutV vs lo hi))) p = some (.lst (cutV vs lo hi)) := upd_same
  refine .inl ⟨p, cutV vs lo hi, rfl, .inl (.inl upd_same), fun hz => P _ _ _ _ Γ3 _ _ fs3 (fun _ _ h => h) hk w4 (st13.trans st4) fun i σ2 Γ5 S5 H5 fs5 hi' hG w5 st5 => ?_⟩
  have hp5 : H5 p = some (.lst (cutV vs lo hi)) := w5.good.sub _ _ (st5.le _ _ hS)
  refine ⟨fun hlt => ⟨⟨_, (cutV vs lo hi)[i]'(by omega), .inl (.inl hp5), List.getElem?_eq_getElem (by omega)⟩, fun x H' y => ?_⟩, fun he => ⟨_, .inl (.inl hp5), by omega⟩⟩
  obtain ⟨rfl, y⟩ := y
  have hx := y _ (.inl (.inl hp5))
  have hs : (cutG ss lo hi)[i]? = some ((cutG ss lo hi).getD i .no) := by
    rw [List.getD_eq_getElem?_getD, List.getElem?_eq_getElem hlt]
    rfl
  obtain ⟨u, h1, h2⟩ := VSs.get hc hs
  rw [hx] at h1
  cases h1
  exact ⟨S5, w5.put (VS.mono (st4.le.trans st5.le) h2).ok, Step.refl⟩
theorem x_perm (j : Nat) {v : V} {Θ Θ' : List (Addr × Cell)} {t : TS} (hj : Γ[j]? = some (.res (star v Θ))) (p : Θ.Perm Θ') (h : ExS K t (Γ.set j (.res (star v Θ'))) O) : ExS K t Γ O := by
  intro σ S H fs D w e
  obtain ⟨x, fp, hx, hf, e1, hp⟩ := w.sat.get hj
  obtain ⟨q1, q2⟩ := star_perm p hp
  have hjl : j < fs.length := (List.getElem?_eq_some_iff.mp hf).1
  have pm := flat_take fs j fp hf
  have pm2 := flat_put (fs.set j []) j (Θ'.map (·.1)) (List.getElem?_set_self hjl)
  rw [List.set_set] at pm2
  have pp : (fs.set j (Θ'.map (·.1))).flatten.Perm fs.flatten := pm2.trans ((q2.symm.append_right _).trans pm.symm)
  have sat1 := w.sat.set (x := x) (s := .res (star v Θ')) (fp := Θ'.map (·.1)) j ⟨e1, q1⟩
  rw [setSame hx] at sat1
  exact h σ S H _ D ⟨w.good.perm pp.symm, sat1⟩ (e.step (Step.refl.sub fun a ha => pp.mem_iff.mp ha))
theorem e_moveP (j : Nat) {te : TE} (h : EvP K te Γ fun s Γ1 => ∃ (r : Res) (u : V), s = .raw u ∧ Γ1[j]? = some (.res r) ∧ k (.res (r.at u)) (Γ1.set j .no)) : EvP K te Γ k := by
  intro σ S H fs Q w P
  refine h σ S H fs _ w fun v s Γ1 S1 H1 f1 fs1 hb w1 st1 => ?_
  obtain ⟨r, u, rfl, hj, hk⟩ := hb
  obtain ⟨e0, e1⟩ := w1.hd
  subst e0
  cases e1
  obtain ⟨x, fp, hx, hf, e2, hp⟩ := w1.tl.sat.get hj
  have pm := flat_take fs1 j fp hf
  have sat1 := w1.tl.sat.set (x := x) (s := .no) (fp := []) j rfl
  rw [setSame hx] at sat1
  have pp : (fp :: fs1.set j []).flatten.Perm fs1.flatten := by
    rw [List.flatten_cons]
    exact pm.symm
  exact P _ _ _ S1 H1 fp (fs1.set j []) hk ⟨w1.tl.good.perm pp.symm, .cons ⟨rfl, hp⟩ sat1⟩ (st1.sub fun a ha => by simpa using pp.mem_iff.mp ha)
theorem x_selfD {j : Nat} {f : Str} {te : TE} (h : EvP K te Γ fun s Γ1 => ∃ (a : Addr) (Θ : List (Addr × Cell)) (C : Addr) (ns : List Str) (ss : List Sl), Pers s ∧ Γ1[j]? = some (.res (star (.ref a) ((a, .ins C ns ss) :: Θ))) ∧ Cls K C ∧ NoAttr K C f ∧ f ∉ ns ∧ ns.length < 999 ∧
    O.nx (Γ1.set j (.res (star (.ref a) ((a, .ins C (ns ++ [f]) (ss ++ [s])) :: Θ))))) : ExS K (sFld K (tVar j) te f) Γ O :=
  x_fldN j 0 (h.mono fun s Γ1 ⟨a, Θ, C, ns, ss, hp, hj, hC, hn, hf, hl, ho⟩ => ⟨hp, e_res hj ⟨a, _, _, C, ns, ss, rfl, hj, rfl, hC, hn, hf, hl, ho⟩⟩)
theorem x_selfL {j : Nat} {f : Str} {te : TE} (h : EvP K te Γ fun r Γ1 => ∃ (rr : Res) (a : Addr) (Θ Θ' : List (Addr × Cell)) (C : Addr) (ns : List Str) (ss : List Sl), r = .res rr ∧ Cells rr Θ' ∧ Γ1[j]? = some (.res (star (.ref a) ((a, .ins C ns ss) :: Θ))) ∧ Cls K C ∧ NoAttr K C f ∧ f ∉ ns ∧ ns.length < 999 ∧
    O.nx (Γ1.set j (.res (star (.ref a) ((a, .ins C (ns ++ [f]) (ss ++ [.raw rr.v])) :: (Θ ++ Θ')))))) : ExS K (sFld K (tVar j) te f) Γ O :=
  x_selfD (e_absorb j (h.mono fun r Γ1 ⟨rr, a, Θ, Θ', C, ns, ss, e, hc, hj, hC, hn, hf, hl, ho⟩ => ⟨rr, _, _, Θ', e, hc, hj, a, Θ ++ Θ', C, ns, ss, trivial, by
    have hlt : j < Γ1.length := (List.getElem?_eq_some_iff.mp hj).1
    rw [List.getElem?_set_self hlt]
    rfl, hC, hn, hf, hl, by
    rw [List.set_set]
    exact ho⟩))
theorem e_lstO' {ta : TA} (h : EvA K ta Γ fun rs Γ1 => ∃ ds : List PyData, datsOf rs = some ds ∧ smallL ds = true ∧ ∀ a, k (.res (ownL a ds)) Γ1) : EvP K (tLst ta) Γ k := e_lstO (h.mono fun rs Γ1 ⟨ds, e, z, q⟩ => ⟨ds, datsOf_eq e, smallL_ok z, q⟩)
end Dl
namespace Dl
open PySem PySem.Spec PyProof.Rows L2
variable {K : Frag} {Γ : List Sl} {k : Sl → List Sl → Prop} {O : Out}
theorem e_split (j : Nat) {te : TE} (h : EvP K te Γ fun r Γ1 => ∃ (u v : V) (Θ2 Θ Θ' : List (Addr × Cell)), r = .res (star u Θ2) ∧ Γ1[j]? = some (.res (star v (Θ ++ Θ'))) ∧ k (.res (star u (Θ2 ++ Θ'))) (Γ1.set j (.res (star v Θ)))) : EvP K te Γ k := by
  intro σ S H fs Q w P
  refine h σ S H fs _ w fun y r Γ1 S1 H1 f1 fs1 hb w1 st1 => ?_
  obtain ⟨u, v, Θ2, Θ, Θ', rfl, hj, hk⟩ := hb
  obtain ⟨e1, e2, hc⟩ := w1.hd
  have e1 : some y = some u := e1
  have e2 : f1 = Θ2.map (·.1) := e2
  cases e1
  subst e2
  obtain ⟨x, fp, hx, hg, e3, e4, hcs⟩ := w1.tl.sat.get hj
  have e4 : fp = (Θ ++ Θ').map (·.1) := e4
  have e3 : x = some v := e3
  subst e4
  have pm := flat_take fs1 j _ hg
  have jl : j < fs1.length := (List.getElem?_eq_some_iff.mp hg).1
  have pm2 := flat_put (fs1.set j []) j (Θ.map (·.1)) (List.getElem?_set_self jl)
  rw [List.set_set] at pm2
  have perm : (Θ2.map (·.1) :: fs1).flatten.Perm ((Θ2 ++ Θ').map (·.1) :: fs1.set j (Θ.map (·.1))).flatten := by
    simp only [List.flatten_cons]
    refine List.Perm.trans (pm.append_left _) (List.Perm.trans ?_ (pm2.symm.append_left _))
    rw [List.map_append, List.map_append, List.append_assoc, List.append_assoc]
    refine List.Perm.append_left _ ?_
    rw [← List.append_assoc, ← List.append_assoc]
    exact (List.perm_append_comm).append_right _
  have sat := w1.tl.sat.set (x := x) (s := .res (star v Θ)) (fp := Θ.map (·.1)) j ⟨e3, rfl, fun p hp => hcs p (List.mem_append_left _ hp)⟩
  rw [setSame hx] at sat
  exact P _ _ _ S1 H1 _ _ hk ⟨w1.good.perm perm, .cons ⟨rfl, rfl, fun p hp => (List.mem_append.mp hp).elim (hc p) fun q => hcs p (List.mem_append_right _ q)⟩ sat⟩ (st1.sub fun a ha => perm.mem_iff.mpr ha)
theorem op_ne_same {d : PyData} (h : Shp 60 d) (hk : k (.dat (.bool false)) Γ) : OpK K (uNe K) (.dat d) (.dat d) Γ k := by
  refine op_ne_d h.shaped h.shaped ?_
  rw [SeqAt.eqv_refl d h.lay]
  exact hk
theorem op_neR_same {a : Addr} {ds : List PyData} (hL : HasL Γ a (ds.map .dat)) (h : Shp 60 (.list ds)) (hk : k (.dat (.bool false)) Γ) : OpK K (uNe K) (.dat (.list ds)) (.raw (.ref a)) Γ k := by
  refine op_neR hL h.shaped h.shaped ?_
  rw [SeqAt.eqv_refl _ h.lay]
  exact hk
theorem Shp.le {n m : Nat} {d : PyData} (h : Shp n d) (l : n ≤ m := by decide) : Shp m d := ⟨h.lay, Nat.le_trans h.dep l⟩
end Dl
namespace Dl
open PySem PySem.Spec PyProof.Rows L2
variable {K : Frag} {Γ : List Sl} {k : Sl → List Sl → Prop} {O : Out}
def Scr (K : Frag) (ns : List Int) (s : Sl) : Prop := s = .dat (.list (ns.map .int)) ∨ ∃ a, s = .raw (.ref a) ∧ ∀ H, SqL K H a (ns.map V.int)
theorem e_scr {i : Nat} {s : Sl} {ns : List Int} (hs : Scr K ns s) (h : Γ[i]? = some s) (hk : k s Γ) : EvP K (tVar i) Γ k := by
  rcases hs with rfl | ⟨a, rfl, _⟩
  · exact e_dat h hk
  · exact e_raw h hk
theorem keep_scr {s : Sl} {ns : List Int} (hs : Scr K ns s) : Keep [s] [s] Γ := by
  rcases hs with rfl | ⟨a, rfl, _⟩
  · exact .dat .nil
  · exact .raw .nil
theorem ints_at {ns : List Int} {i : Nat} {x : V} (h : (ns.map V.int)[i]? = some x) : x = .int (ns.getD i 0) := by
  rw [List.getElem?_map] at h
  cases q : ns[i]? with
  | none => rw [q] at h; cases h
  | some n =>
    rw [q] at h
    cases h
    rw [List.getD_eq_getElem?_getD, q]
    rfl
theorem ints_data {ns : List Int} {i : Nat} (h : i < ns.length) : (ns.map PyData.int).getD i .none = .int (ns.getD i 0) := by
  rw [List.getD_eq_getElem?_getD, List.getD_eq_getElem?_getD, List.getElem?_map, List.getElem?_eq_getElem h]
  rfl
theorem i_scr {tl : TE} {ns : List Int} {ki : (Nat → Sl) → Nat → (List Sl → Prop) → List Sl → Prop} (h : EvP K tl Γ fun r Γ1 => Scr K ns r ∧ (ns.length ≤ sizeLine → ∀ f : Nat → Sl, (∀ i, i < ns.length → f i = .dat (.int (ns.getD i 0))) → ki f ns.length (fun _ => True) Γ1)) : EvI K (iSq K tl) Γ ki := by
  intro σ S H fs R w P
  by_cases hz : ns.length ≤ sizeLine
  case neg =>
    refine h σ S H fs _ w fun v r Γ1 S1 H1 f1 fs1 hb w1 st1 => ?_
    obtain ⟨hs, hk⟩ := hb
    rcases hs with rfl | ⟨a, rfl, hA⟩
    · obtain ⟨e0, v', e1, hd⟩ := w1.hd
      subst e0; cases e1
      cases hd with
      | lst h1 ha =>
        have hl := dps_len ha
        rw [List.length_map] at hl
        exact .inl ⟨_, _, rfl, w1.good.sub.sqL (.inl h1), fun q => absurd (by omega) hz⟩
    · obtain ⟨e0, e1⟩ := w1.hd
      subst e0; cases e1
      exact .inl ⟨_, _, rfl, hA H1, fun q => absurd (by rw [List.length_map] at q; exact q) hz⟩
  refine h σ S H fs _ w fun v r Γ1 S1 H1 f1 fs1 hb w1 st1 => ?_
  obtain ⟨hs, hk⟩ := hb
  have hk := hk hz
  have mk : ∀ (a : Addr), (∀ H2, Le H1 H2 ∨ Le S1 H2 → SqL K H2 a (ns.map V.int)) → f1 = [] → v = .ref a → (∃ a xs, v = .ref a ∧ SqL K H1 a xs ∧ (xs.length ≤ sizeLine → R (Itl K a) H1)) := fun a hA e0 ev => by
    subst e0 ev
    refine ⟨a, ns.map V.int, rfl, hA H1 (.inl (Le.refl _)), fun hz => P _ _ _ _ Γ1 S1 H1 fs1 (fun _ _ h => h) (hk (fun i => .dat (.int (ns.getD i 0))) fun i _ => rfl) w1.tl (by simpa using st1) fun i σ2 Γ2 S2 H2 fs2 hi _ w2 st2 => ⟨fun hlt => ?_, fun he => ?_⟩⟩
    · have hq : SqL K H2 a (ns.map V.int) := hA H2 (.inr (st2.le.trans w2.good.sub))
      refine ⟨⟨_, _, hq, List.getElem?_eq_getElem (by rw [List.length_map]; exact hlt)⟩, fun x H' y => ?_⟩
      obtain ⟨rfl, y⟩ := y
      exact ⟨S2, w2.put ⟨rfl, x, rfl, by rw [ints_at (y _ hq)]; exact .int _⟩, Step.refl⟩
    · exact ⟨_, hA H2 (.inr (st2.le.trans w2.good.sub)), by rw [List.length_map]; omega⟩
  rcases hs with rfl | ⟨a, rfl, hA⟩
  · obtain ⟨e0, v', e1, hd⟩ := w1.hd
    cases e1
    cases hd with
    | @lst a xs _ h1 ha =>
      have hx : xs = ns.map V.int := dd_ints ha
      subst hx
      refine .inl (mk a (fun H2 q => ?_) e0 rfl)
      rcases q with q | q
      · exact q.sqL (w1.good.sub.sqL (.inl h1))
      · exact q.sqL (.inl h1)
  · obtain ⟨e0, e1⟩ := w1.hd
    cases e1
    exact .inl (mk a (fun H2 _ => hA H2) e0 rfl)
theorem e_lcScr {i : Nat} {tl te : TE} {tt : TT} {ns : List Int} (c : Int → Bool) (f : Int → PyData) (h : EvP K tl Γ fun r Γ1 => Scr K ns r ∧
    (∀ x ∈ ns, EvB K tt ((Γ1.set i .no).set i (.dat (.int x))) fun b Γ2 => b = c x ∧ if c x = true then EvP K te Γ2 fun r Γ3 => r = .dat (f x) ∧ Γ3.set i .no = Γ1.set i .no else Γ2.set i .no = Γ1.set i .no) ∧ k (.dat (.list ((ns.filter c).map f))) (Γ1.set i .no)) : EvP K (tLc (iSq K tl) (gName i) tt te [i]) Γ k := by
  refine e_lc (sets_name (by simp)) gm_name (i_scr (ns := ns) (h.mono fun r Γ1 ⟨e1, h1, h2⟩ => ⟨e1, fun hz ff hff => ?_⟩))
  refine ⟨fun j acc Γ => acc = ((ns.take j).filter c).map f ∧ Γ = Γ1.set i .no, hz, ⟨by simp, rfl⟩, fun _ _ _ _ _ => trivial, fun j acc Γx hj hl ⟨ha, hΓ⟩ => ?_, fun acc Γx hl ⟨ha, hΓ⟩ => ?_⟩
  · have hx : ns[j]? = some (ns.getD j 0) := by
      rw [List.getD_eq_getElem?_getD, List.getElem?_eq_getElem hj]
      rfl
    have hm := List.mem_of_getElem? hx
    have ht : ((ns.take (j + 1)).filter c).map f = ((ns.take j).filter c).map f ++ (if c (ns.getD j 0) then [f (ns.getD j 0)] else []) := by
      have hj' : j < ns.length := hj
      have e : ns[j] = ns.getD j 0 := by rw [List.getD_eq_getElem?_getD, List.getElem?_eq_getElem hj']; rfl
      rw [List.take_succ_eq_append_getElem hj', List.filter_append, List.map_append, e]
      generalize ns.getD j 0 = v
      cases q : c v <;> simp [q]
    rw [hΓ, hff j hj]
    refine g_name ((h1 _ hm).mono fun b Γ2 ⟨hb, hc⟩ => ⟨fun hb1 => ?_, fun hb0 => ?_⟩)
    · rw [← hb, hb1, if_pos rfl] at hc
      refine hc.mono fun r Γ3 ⟨hr, h3⟩ => ⟨_, hr, ?_, h3⟩
      rw [ht, ha, if_pos (by rw [← hb, hb1])]
    · rw [← hb, hb0, if_neg (by decide)] at hc
      refine ⟨?_, hc⟩
      rw [ht, ha, if_neg (by rw [← hb, hb0]; decide), List.append_nil]
  · rw [hΓ, ha, List.take_length]
    exact h2
theorem dps_of_ints {S : Hp} : ∀ (ns : List Int), DdAll K S (ns.map V.int) (ns.map .int)
  | [] => .nil
  | n :: ns => .cons (.int n) (dps_of_ints ns)
theorem law_sp {F : FSpec} {H : Hp} {a : Addr} {ns : List Int} {E : XK} (hS : SqL K H a (ns.map V.int)) (hF : ∀ s k, Scr K ns s → (∀ Γ, k (.dat (.bool true)) Γ) → F [s] k) : spOf K F [.ref a] H (fun v _ => v = .bl true) E := by
  have core : ∀ s, Scr K ns s → SlOk K H H (some (.ref a)) [] s → spOf K F [.ref a] H (fun v _ => v = .bl true) E := fun s hs hok => by
    refine ⟨[s], H, [[]], fun r _ => r = .dat (.bool true), ⟨⟨Le.refl _, by simp, fun b hb => by simp at hb, fun b hb => by simp at hb⟩, .cons hok .nil⟩, hF s _ hs fun _ => rfl, ?_⟩
    intro v r Γ' S' H' fr fs' hk w st
    have hk : r = .dat (.bool true) := hk
    subst hk
    obtain ⟨_, v', e1, hd⟩ := w.hd
    cases e1; cases hd
    rfl
  rcases hS with h | ⟨o, its, n, h⟩
  · exact core _ (.inl rfl) ⟨rfl, _, rfl, .lst h (dps_of_ints ns)⟩
  · exact core _ (.inr ⟨a, rfl, fun H => .inr ⟨o, its, n, h⟩⟩) ⟨rfl, rfl⟩
end Dl
namespace Hw
open PySem PySem.Spec PyProof.Rows L2 Dl
def top (i : Nat) : Stmt := PySem.Challenge.pw_hueward_k14_takes_for_all_hues.main.body.getD i (.Pass ⟨0, 0, 0, 0⟩)
abbrev s__wall : Stmt := top 0
theorem sc__wall : FnScope ["k"] ["k"] (defScope s__wall) := ⟨rfl, rfl, rfl, by decide +kernel, rfl, by decide +kernel, by decide +kernel⟩
abbrev s_is_whole : Stmt := top 17
theorem sc_is_whole : FnScope ["value"] ["value"] (defScope s_is_whole) := ⟨rfl, rfl, rfl, by decide +kernel, rfl, by decide +kernel, by decide +kernel⟩
abbrev s_is_from : Stmt := top 18
theorem sc_is_from : FnScope ["value", "low", "high"] ["value", "low", "high"] (defScope s_is_from) := ⟨rfl, rfl, rfl, by decide +kernel, rfl, by decide +kernel, by decide +kernel⟩
abbrev s_are_inputs : Stmt := top 19
theorem sc_are_inputs : FnScope ["value", "one"] ["value"] (defScope s_are_inputs) := ⟨rfl, rfl, rfl, by decide +kernel, rfl, by decide +kernel, by decide +kernel⟩
abbrev s_is_votes : Stmt := top 28
theorem sc_is_votes : FnScope ["value", "width", "need"] ["value"] (defScope s_is_votes) := ⟨rfl, rfl, rfl, by decide +kernel, rfl, by decide +kernel, by decide +kernel⟩
abbrev s_are_registers : Stmt := top 29
theorem sc_are_registers : FnScope ["values", "one"] ["values"] (defScope s_are_registers) := ⟨rfl, rfl, rfl, by decide +kernel, rfl, by decide +kernel, by decide +kernel⟩
abbrev s_instruction_fits : Stmt := top 30
theorem sc_instruction_fits : FnScope ["value", "hue", "size", "many", "word"] ["value", "hue", "size", "many"] (defScope s_instruction_fits) := ⟨rfl, rfl, rfl, by decide +kernel, rfl, by decide +kernel, by decide +kernel⟩
abbrev s_settle_fits : Stmt := top 31
theorem sc_settle_fits : FnScope ["value", "hues", "many", "word", "most"] ["value", "hues", "many"] (defScope s_settle_fits) := ⟨rfl, rfl, rfl, by decide +kernel, rfl, by decide +kernel, by decide +kernel⟩
abbrev s_is_settle : Stmt := top 32
theorem sc_is_settle : FnScope ["cell"] ["cell"] (defScope s_is_settle) := ⟨rfl, rfl, rfl, by decide +kernel, rfl, by decide +kernel, by decide +kernel⟩
abbrev s_cell_fits : Stmt := top 33
theorem sc_cell_fits : FnScope ["value", "hues", "size", "many", "bank"] ["value", "hues", "size", "many", "bank"] (defScope s_cell_fits) := ⟨rfl, rfl, rfl, by decide +kernel, rfl, by decide +kernel, by decide +kernel⟩
abbrev s_is_code : Stmt := top 34
theorem sc_is_code : FnScope ["value", "many", "votes", "size", "cells", "bank", "one", "cell"] ["value"] (defScope s_is_code) := ⟨rfl, rfl, rfl, by decide +kernel, rfl, by decide +kernel, by decide +kernel⟩
abbrev s_need_code : Stmt := top 35
theorem sc_need_code : FnScope ["code"] ["code"] (defScope s_need_code) := ⟨rfl, rfl, rfl, by decide +kernel, rfl, by decide +kernel, by decide +kernel⟩
abbrev s_need_hue : Stmt := top 36
theorem sc_need_hue : FnScope ["code", "hue"] ["code", "hue"] (defScope s_need_hue) := ⟨rfl, rfl, rfl, by decide +kernel, rfl, by decide +kernel, by decide +kernel⟩
abbrev s_first_misfit : Stmt := top 40
theorem sc_first_misfit : FnScope ["code", "strikes", "last", "at", "value"] ["code", "strikes"] (defScope s_first_misfit) := ⟨rfl, rfl, rfl, by decide +kernel, rfl, by decide +kernel, by decide +kernel⟩
abbrev s_is_strike_list : Stmt := top 41
theorem sc_is_strike_list : FnScope ["value"] ["value"] (defScope s_is_strike_list) := ⟨rfl, rfl, rfl, by decide +kernel, rfl, by decide +kernel, by decide +kernel⟩
abbrev s_need_strikes : Stmt := top 42
theorem sc_need_strikes : FnScope ["code", "strikes", "at"] ["code", "strikes"] (defScope s_need_strikes) := ⟨rfl, rfl, rfl, by decide +kernel, rfl, by decide +kernel, by decide +kernel⟩
abbrev s_need_inputs : Stmt := top 45
theorem sc_need_inputs : FnScope ["inputs"] ["inputs"] (defScope s_need_inputs) := ⟨rfl, rfl, rfl, by decide +kernel, rfl, by decide +kernel, by decide +kernel⟩
abbrev s_need_steps : Stmt := top 46
theorem sc_need_steps : FnScope ["steps"] ["steps"] (defScope s_need_steps) := ⟨rfl, rfl, rfl, by decide +kernel, rfl, by decide +kernel, by decide +kernel⟩
abbrev s_most_agreed : Stmt := top 48
theorem sc_most_agreed : FnScope ["values", "need", "first", "value"] ["values", "need"] (defScope s_most_agreed) := ⟨rfl, rfl, rfl, by decide +kernel, rfl, by decide +kernel, by decide +kernel⟩
abbrev s_worked_out : Stmt := top 49
theorem sc_worked_out : FnScope ["word", "one", "other", "size"] ["word", "one", "other", "size"] (defScope s_worked_out) := ⟨rfl, rfl, rfl, by decide +kernel, rfl, by decide +kernel, by decide +kernel⟩
abbrev s_HueState___init__ : Stmt := inClass (top 50) 0
theorem sc_HueState___init__ : FnScope ["self", "bank"] ["self", "bank"] (defScope s_HueState___init__) := ⟨rfl, rfl, rfl, by decide +kernel, rfl, by decide +kernel, by decide +kernel⟩
abbrev s_HueState_instructed : Stmt := inClass (top 50) 2
theorem sc_HueState_instructed : FnScope ["self", "cell", "size", "registers", "word", "goal", "bank"] ["self", "cell", "size"] (defScope s_HueState_instructed) := ⟨rfl, rfl, rfl, by decide +kernel, rfl, by decide +kernel, by decide +kernel⟩
abbrev s_Machine___init__ : Stmt := inClass (top 51) 0
theorem sc_Machine___init__ : FnScope ["self", "code", "inputs", "strikes", "need"] ["self", "code", "inputs", "strikes"] (defScope s_Machine___init__) := ⟨rfl, rfl, rfl, by decide +kernel, rfl, by decide +kernel, by decide +kernel⟩
abbrev s_Machine_row : Stmt := inClass (top 51) 1
theorem sc_Machine_row : FnScope ["self"] ["self"] (defScope s_Machine_row) := ⟨rfl, rfl, rfl, by decide +kernel, rfl, by decide +kernel, by decide +kernel⟩
abbrev s_Machine_state : Stmt := inClass (top 51) 3
theorem sc_Machine_state : FnScope ["self"] ["self"] (defScope s_Machine_state) := ⟨rfl, rfl, rfl, by decide +kernel, rfl, by decide +kernel, by decide +kernel⟩
abbrev s_Machine_left : Stmt := inClass (top 51) 4
theorem sc_Machine_left : FnScope ["self"] ["self"] (defScope s_Machine_left) := ⟨rfl, rfl, rfl, by decide +kernel, rfl, by decide +kernel, by decide +kernel⟩
abbrev s_Machine_slots : Stmt := inClass (top 51) 6
theorem sc_Machine_slots : FnScope ["self", "hue"] ["self"] (defScope s_Machine_slots) := ⟨rfl, rfl, rfl, by decide +kernel, rfl, by decide +kernel, by decide +kernel⟩
abbrev s_Machine_registers : Stmt := inClass (top 51) 7
theorem sc_Machine_registers : FnScope ["self", "hue"] ["self", "hue"] (defScope s_Machine_registers) := ⟨rfl, rfl, rfl, by decide +kernel, rfl, by decide +kernel, by decide +kernel⟩
abbrev s_Machine_cells : Stmt := inClass (top 51) 8
theorem sc_Machine_cells : FnScope ["self", "hue"] ["self", "hue"] (defScope s_Machine_cells) := ⟨rfl, rfl, rfl, by decide +kernel, rfl, by decide +kernel, by decide +kernel⟩
abbrev s_Machine_go : Stmt := inClass (top 51) 10
theorem sc_Machine_go : FnScope ["self", "steps", "left"] ["self", "steps"] (defScope s_Machine_go) := ⟨rfl, rfl, rfl, by decide +kernel, rfl, by decide +kernel, by decide +kernel⟩
abbrev s_machine_address : Stmt := top 52
theorem sc_machine_address : FnScope ["machine", "found", "votes", "cells", "hue"] ["machine"] (defScope s_machine_address) := ⟨rfl, rfl, rfl, by decide +kernel, rfl, by decide +kernel, by decide +kernel⟩
abbrev s_next_address : Stmt := top 53
theorem sc_next_address : FnScope ["machine"] ["machine"] (defScope s_next_address) := ⟨rfl, rfl, rfl, by decide +kernel, rfl, by decide +kernel, by decide +kernel⟩
abbrev s_strikes_due : Stmt := top 54
theorem sc_strikes_due : FnScope ["machine", "strikes", "step", "hue", "place", "new"] ["machine"] (defScope s_strikes_due) := ⟨rfl, rfl, rfl, by decide +kernel, rfl, by decide +kernel, by decide +kernel⟩
abbrev s_machine_step : Stmt := top 55
theorem sc_machine_step : FnScope ["machine", "cell", "hue", "code", "address"] ["machine"] (defScope s_machine_step) := ⟨rfl, rfl, rfl, by decide +kernel, rfl, by decide +kernel, by decide +kernel⟩
abbrev s_point_all : Stmt := top 56
theorem sc_point_all : FnScope ["machine", "address", "hue"] ["machine", "address"] (defScope s_point_all) := ⟨rfl, rfl, rfl, by decide +kernel, rfl, by decide +kernel, by decide +kernel⟩
abbrev s_empty_slots : Stmt := top 57
theorem sc_empty_slots : FnScope ["machine", "hue"] ["machine"] (defScope s_empty_slots) := ⟨rfl, rfl, rfl, by decide +kernel, rfl, by decide +kernel, by decide +kernel⟩
abbrev s_settle_done : Stmt := top 58
theorem sc_settle_done : FnScope ["machine", "cell", "behind", "word", "row", "votes", "slots", "agreed", "number", "hue", "registers"] ["machine", "cell", "behind"] (defScope s_settle_done) := ⟨rfl, rfl, rfl, by decide +kernel, rfl, by decide +kernel, by decide +kernel⟩
abbrev s__law_begun : Stmt := top 61
theorem sc__law_begun : FnScope ["_law_script", "_law_great", "_law_cell"] ["_law_script"] (defScope s__law_begun) := ⟨rfl, rfl, rfl, by decide +kernel, rfl, by decide +kernel, by decide +kernel⟩
abbrev s__law_mixed : Stmt := top 62
theorem sc__law_mixed : FnScope ["_law_state", "_law_prime", "_law_turn", "_law_found", "_law_blend", "_law_cell"] ["_law_state"] (defScope s__law_mixed) := ⟨rfl, rfl, rfl, by decide +kernel, rfl, by decide +kernel, by decide +kernel⟩
abbrev s__law_draw : Stmt := top 63
theorem sc__law_draw : FnScope ["_law_state", "_law_room", "_law_found"] ["_law_state", "_law_room"] (defScope s__law_draw) := ⟨rfl, rfl, rfl, by decide +kernel, rfl, by decide +kernel, by decide +kernel⟩
abbrev s__law_pick : Stmt := top 64
theorem sc__law_pick : FnScope ["_law_state", "_law_some"] ["_law_state", "_law_some"] (defScope s__law_pick) := ⟨rfl, rfl, rfl, by decide +kernel, rfl, by decide +kernel, by decide +kernel⟩
abbrev s__law_size : Stmt := top 65
theorem sc__law_size : FnScope ["_law_state"] ["_law_state"] (defScope s__law_size) := ⟨rfl, rfl, rfl, by decide +kernel, rfl, by decide +kernel, by decide +kernel⟩
abbrev s__law_inputs : Stmt := top 66
theorem sc__law_inputs : FnScope ["_law_state", "_law_some", "_law_turn"] ["_law_state"] (defScope s__law_inputs) := ⟨rfl, rfl, rfl, by decide +kernel, rfl, by decide +kernel, by decide +kernel⟩
abbrev s__law_votes : Stmt := top 67
theorem sc__law_votes : FnScope ["_law_state", "_law_width", "_law_hues", "_law_found", "_law_least"] ["_law_state"] (defScope s__law_votes) := ⟨rfl, rfl, rfl, by decide +kernel, rfl, by decide +kernel, by decide +kernel⟩
abbrev s_law : Stmt := top 68
theorem sc_law : FnScope ["_law_script", "_law_state", "_law_turn", "_law_spot", "_law_filled", "_law_code", "_law_machine", "_law_votes_here", "_law_size_here", "_law_inputs_here", "_law_hues", "_law_takes", "_law_slots", "_law_due", "_law_row", "_law_take", "_law_number", "_law_hue", "_law_registers"] ["_law_script"] (defScope s_law) := ⟨rfl, rfl, rfl, by decide +kernel, rfl, by decide +kernel, by decide +kernel⟩
def dv_HueState (K : Frag) : List V := []
def dv_Machine (K : Frag) : List V := [.ref (He.dflAt ("Machine", some "__init__") 0 K)]
structure TX (K : Frag) (mg : Str → Option Value) : Prop where
  g__wall : mg "_wall" = some (.ref (He.ga K "_wall"))
  f__wall : ∃ fd, FunD K "_wall" "_wall" (defArgs s__wall) (defBody s__wall) (defScope s__wall) [] [] (He.fAd K ("_wall", none)) fd
  g_is_whole : mg "is_whole" = some (.ref (He.ga K "is_whole"))
  f_is_whole : ∃ fd, FunD K "is_whole" "is_whole" (defArgs s_is_whole) (defBody s_is_whole) (defScope s_is_whole) [] [] (He.fAd K ("is_whole", none)) fd
  g_is_from : mg "is_from" = some (.ref (He.ga K "is_from"))
  f_is_from : ∃ fd, FunD K "is_from" "is_from" (defArgs s_is_from) (defBody s_is_from) (defScope s_is_from) [] [] (He.fAd K ("is_from", none)) fd
  g_are_inputs : mg "are_inputs" = some (.ref (He.ga K "are_inputs"))
  f_are_inputs : ∃ fd, FunD K "are_inputs" "are_inputs" (defArgs s_are_inputs) (defBody s_are_inputs) (defScope s_are_inputs) [] [] (He.fAd K ("are_inputs", none)) fd
  g_is_votes : mg "is_votes" = some (.ref (He.ga K "is_votes"))
  f_is_votes : ∃ fd, FunD K "is_votes" "is_votes" (defArgs s_is_votes) (defBody s_is_votes) (defScope s_is_votes) [] [] (He.fAd K ("is_votes", none)) fd
  g_are_registers : mg "are_registers" = some (.ref (He.ga K "are_registers"))
  f_are_registers : ∃ fd, FunD K "are_registers" "are_registers" (defArgs s_are_registers) (defBody s_are_registers) (defScope s_are_registers) [] [] (He.fAd K ("are_registers", none)) fd
  g_instruction_fits : mg "instruction_fits" = some (.ref (He.ga K "instruction_fits"))
  f_instruction_fits : ∃ fd, FunD K "instruction_fits" "instruction_fits" (defArgs s_instruction_fits) (defBody s_instruction_fits) (defScope s_instruction_fits) [] [] (He.fAd K ("instruction_fits", none)) fd
  g_settle_fits : mg "settle_fits" = some (.ref (He.ga K "settle_fits"))
  f_settle_fits : ∃ fd, FunD K "settle_fits" "settle_fits" (defArgs s_settle_fits) (defBody s_settle_fits) (defScope s_settle_fits) [] [] (He.fAd K ("settle_fits", none)) fd
  g_is_settle : mg "is_settle" = some (.ref (He.ga K "is_settle"))
  f_is_settle : ∃ fd, FunD K "is_settle" "is_settle" (defArgs s_is_settle) (defBody s_is_settle) (defScope s_is_settle) [] [] (He.fAd K ("is_settle", none)) fd
  g_cell_fits : mg "cell_fits" = some (.ref (He.ga K "cell_fits"))
  f_cell_fits : ∃ fd, FunD K "cell_fits" "cell_fits" (defArgs s_cell_fits) (defBody s_cell_fits) (defScope s_cell_fits) [] [] (He.fAd K ("cell_fits", none)) fd
  g_is_code : mg "is_code" = some (.ref (He.ga K "is_code"))
  f_is_code : ∃ fd, FunD K "is_code" "is_code" (defArgs s_is_code) (defBody s_is_code) (defScope s_is_code) [] [] (He.fAd K ("is_code", none)) fd
  g_need_code : mg "need_code" = some (.ref (He.ga K "need_code"))
  f_need_code : ∃ fd, FunD K "need_code" "need_code" (defArgs s_need_code) (defBody s_need_code) (defScope s_need_code) [] [] (He.fAd K ("need_code", none)) fd
  g_need_hue : mg "need_hue" = some (.ref (He.ga K "need_hue"))
  f_need_hue : ∃ fd, FunD K "need_hue" "need_hue" (defArgs s_need_hue) (defBody s_need_hue) (defScope s_need_hue) [] [] (He.fAd K ("need_hue", none)) fd
  g_first_misfit : mg "first_misfit" = some (.ref (He.ga K "first_misfit"))
  f_first_misfit : ∃ fd, FunD K "first_misfit" "first_misfit" (defArgs s_first_misfit) (defBody s_first_misfit) (defScope s_first_misfit) [] [] (He.fAd K ("first_misfit", none)) fd
  g_is_strike_list : mg "is_strike_list" = some (.ref (He.ga K "is_strike_list"))
  f_is_strike_list : ∃ fd, FunD K "is_strike_list" "is_strike_list" (defArgs s_is_strike_list) (defBody s_is_strike_list) (defScope s_is_strike_list) [] [] (He.fAd K ("is_strike_list", none)) fd
  g_need_strikes : mg "need_strikes" = some (.ref (He.ga K "need_strikes"))
  f_need_strikes : ∃ fd, FunD K "need_strikes" "need_strikes" (defArgs s_need_strikes) (defBody s_need_strikes) (defScope s_need_strikes) [] [] (He.fAd K ("need_strikes", none)) fd
  g_need_inputs : mg "need_inputs" = some (.ref (He.ga K "need_inputs"))
  f_need_inputs : ∃ fd, FunD K "need_inputs" "need_inputs" (defArgs s_need_inputs) (defBody s_need_inputs) (defScope s_need_inputs) [] [] (He.fAd K ("need_inputs", none)) fd
  g_need_steps : mg "need_steps" = some (.ref (He.ga K "need_steps"))
  f_need_steps : ∃ fd, FunD K "need_steps" "need_steps" (defArgs s_need_steps) (defBody s_need_steps) (defScope s_need_steps) [] [] (He.fAd K ("need_steps", none)) fd
  g_most_agreed : mg "most_agreed" = some (.ref (He.ga K "most_agreed"))
  f_most_agreed : ∃ fd, FunD K "most_agreed" "most_agreed" (defArgs s_most_agreed) (defBody s_most_agreed) (defScope s_most_agreed) [] [] (He.fAd K ("most_agreed", none)) fd
  g_worked_out : mg "worked_out" = some (.ref (He.ga K "worked_out"))
  f_worked_out : ∃ fd, FunD K "worked_out" "worked_out" (defArgs s_worked_out) (defBody s_worked_out) (defScope s_worked_out) [] [] (He.fAd K ("worked_out", none)) fd
  f_HueState___init__ : ∃ fd, FunD K "__init__" "HueState.__init__" (defArgs s_HueState___init__) (defBody s_HueState___init__) (defScope s_HueState___init__) (dv_HueState K) [] (He.fAd K ("HueState", some "__init__")) fd
  m_HueState___init__ : Mk K (He.ga K "HueState") (He.ma K (He.ga K "HueState") "__init__")
  f_HueState_instructed : ∃ fd, FunD K "instructed" "HueState.instructed" (defArgs s_HueState_instructed) (defBody s_HueState_instructed) (defScope s_HueState_instructed) [] [] (He.fAd K ("HueState", some "instructed")) fd
  m_HueState_instructed : Meth K (He.ga K "HueState") "instructed" (He.ma K (He.ga K "HueState") "instructed")
  f_Machine___init__ : ∃ fd, FunD K "__init__" "Machine.__init__" (defArgs s_Machine___init__) (defBody s_Machine___init__) (defScope s_Machine___init__) (dv_Machine K) [] (He.fAd K ("Machine", some "__init__")) fd
  m_Machine___init__ : Mk K (He.ga K "Machine") (He.ma K (He.ga K "Machine") "__init__")
  f_Machine_row : ∃ fd, FunD K "row" "Machine.row" (defArgs s_Machine_row) (defBody s_Machine_row) (defScope s_Machine_row) [] [] (pgA K "Machine" "row") fd
  m_Machine_row : PropOf K (He.ga K "Machine") "row" (He.ma K (He.ga K "Machine") "row") (pgA K "Machine" "row")
  f_Machine_state : ∃ fd, FunD K "state" "Machine.state" (defArgs s_Machine_state) (defBody s_Machine_state) (defScope s_Machine_state) [] [] (pgA K "Machine" "state") fd
  m_Machine_state : PropOf K (He.ga K "Machine") "state" (He.ma K (He.ga K "Machine") "state") (pgA K "Machine" "state")
  f_Machine_left : ∃ fd, FunD K "left" "Machine.left" (defArgs s_Machine_left) (defBody s_Machine_left) (defScope s_Machine_left) [] [] (pgA K "Machine" "left") fd
  m_Machine_left : PropOf K (He.ga K "Machine") "left" (He.ma K (He.ga K "Machine") "left") (pgA K "Machine" "left")
  f_Machine_slots : ∃ fd, FunD K "slots" "Machine.slots" (defArgs s_Machine_slots) (defBody s_Machine_slots) (defScope s_Machine_slots) [] [] (pgA K "Machine" "slots") fd
  m_Machine_slots : PropOf K (He.ga K "Machine") "slots" (He.ma K (He.ga K "Machine") "slots") (pgA K "Machine" "slots")
  f_Machine_registers : ∃ fd, FunD K "registers" "Machine.registers" (defArgs s_Machine_registers) (defBody s_Machine_registers) (defScope s_Machine_registers) [] [] (He.fAd K ("Machine", some "registers")) fd
  m_Machine_registers : Meth K (He.ga K "Machine") "registers" (He.ma K (He.ga K "Machine") "registers")
  f_Machine_cells : ∃ fd, FunD K "cells" "Machine.cells" (defArgs s_Machine_cells) (defBody s_Machine_cells) (defScope s_Machine_cells) [] [] (He.fAd K ("Machine", some "cells")) fd
  m_Machine_cells : Meth K (He.ga K "Machine") "cells" (He.ma K (He.ga K "Machine") "cells")
  f_Machine_go : ∃ fd, FunD K "go" "Machine.go" (defArgs s_Machine_go) (defBody s_Machine_go) (defScope s_Machine_go) [] [] (He.fAd K ("Machine", some "go")) fd
  m_Machine_go : Meth K (He.ga K "Machine") "go" (He.ma K (He.ga K "Machine") "go")
  g_machine_address : mg "machine_address" = some (.ref (He.ga K "machine_address"))
  f_machine_address : ∃ fd, FunD K "machine_address" "machine_address" (defArgs s_machine_address) (defBody s_machine_address) (defScope s_machine_address) [] [] (He.fAd K ("machine_address", none)) fd
  g_next_address : mg "next_address" = some (.ref (He.ga K "next_address"))
  f_next_address : ∃ fd, FunD K "next_address" "next_address" (defArgs s_next_address) (defBody s_next_address) (defScope s_next_address) [] [] (He.fAd K ("next_address", none)) fd
  g_strikes_due : mg "strikes_due" = some (.ref (He.ga K "strikes_due"))
  f_strikes_due : ∃ fd, FunD K "strikes_due" "strikes_due" (defArgs s_strikes_due) (defBody s_strikes_due) (defScope s_strikes_due) [] [] (He.fAd K ("strikes_due", none)) fd
  g_machine_step : mg "machine_step" = some (.ref (He.ga K "machine_step"))
  f_machine_step : ∃ fd, FunD K "machine_step" "machine_step" (defArgs s_machine_step) (defBody s_machine_step) (defScope s_machine_step) [] [] (He.fAd K ("machine_step", none)) fd
  g_point_all : mg "point_all" = some (.ref (He.ga K "point_all"))
  f_point_all : ∃ fd, FunD K "point_all" "point_all" (defArgs s_point_all) (defBody s_point_all) (defScope s_point_all) [] [] (He.fAd K ("point_all", none)) fd
  g_empty_slots : mg "empty_slots" = some (.ref (He.ga K "empty_slots"))
  f_empty_slots : ∃ fd, FunD K "empty_slots" "empty_slots" (defArgs s_empty_slots) (defBody s_empty_slots) (defScope s_empty_slots) [] [] (He.fAd K ("empty_slots", none)) fd
  g_settle_done : mg "settle_done" = some (.ref (He.ga K "settle_done"))
  f_settle_done : ∃ fd, FunD K "settle_done" "settle_done" (defArgs s_settle_done) (defBody s_settle_done) (defScope s_settle_done) [] [] (He.fAd K ("settle_done", none)) fd
  g__law_begun : mg "_law_begun" = some (.ref (He.ga K "_law_begun"))
  f__law_begun : ∃ fd, FunD K "_law_begun" "_law_begun" (defArgs s__law_begun) (defBody s__law_begun) (defScope s__law_begun) [] [] (He.fAd K ("_law_begun", none)) fd
  g__law_mixed : mg "_law_mixed" = some (.ref (He.ga K "_law_mixed"))
  f__law_mixed : ∃ fd, FunD K "_law_mixed" "_law_mixed" (defArgs s__law_mixed) (defBody s__law_mixed) (defScope s__law_mixed) [] [] (He.fAd K ("_law_mixed", none)) fd
  g__law_draw : mg "_law_draw" = some (.ref (He.ga K "_law_draw"))
  f__law_draw : ∃ fd, FunD K "_law_draw" "_law_draw" (defArgs s__law_draw) (defBody s__law_draw) (defScope s__law_draw) [] [] (He.fAd K ("_law_draw", none)) fd
  g__law_pick : mg "_law_pick" = some (.ref (He.ga K "_law_pick"))
  f__law_pick : ∃ fd, FunD K "_law_pick" "_law_pick" (defArgs s__law_pick) (defBody s__law_pick) (defScope s__law_pick) [] [] (He.fAd K ("_law_pick", none)) fd
  g__law_size : mg "_law_size" = some (.ref (He.ga K "_law_size"))
  f__law_size : ∃ fd, FunD K "_law_size" "_law_size" (defArgs s__law_size) (defBody s__law_size) (defScope s__law_size) [] [] (He.fAd K ("_law_size", none)) fd
  g__law_inputs : mg "_law_inputs" = some (.ref (He.ga K "_law_inputs"))
  f__law_inputs : ∃ fd, FunD K "_law_inputs" "_law_inputs" (defArgs s__law_inputs) (defBody s__law_inputs) (defScope s__law_inputs) [] [] (He.fAd K ("_law_inputs", none)) fd
  g__law_votes : mg "_law_votes" = some (.ref (He.ga K "_law_votes"))
  f__law_votes : ∃ fd, FunD K "_law_votes" "_law_votes" (defArgs s__law_votes) (defBody s__law_votes) (defScope s__law_votes) [] [] (He.fAd K ("_law_votes", none)) fd
  g_HueState : mg "HueState" = some (.ref (He.ga K "HueState"))
  k_HueState : Cls K (He.ga K "HueState")
  na_HueState_m_registers : NoAttr K (He.ga K "HueState") "m_registers"
  na_HueState_m_bank : NoAttr K (He.ga K "HueState") "m_bank"
  na_HueState_m_pointer : NoAttr K (He.ga K "HueState") "m_pointer"
  na_HueState_m_slot : NoAttr K (He.ga K "HueState") "m_slot"
  na_HueState_m_changed : NoAttr K (He.ga K "HueState") "m_changed"
  g_Machine : mg "Machine" = some (.ref (He.ga K "Machine"))
  k_Machine : Cls K (He.ga K "Machine")
  na_Machine_m_code : NoAttr K (He.ga K "Machine") "m_code"
  na_Machine_m_hues : NoAttr K (He.ga K "Machine") "m_hues"
  na_Machine_m_left : NoAttr K (He.ga K "Machine") "m_left"
  na_Machine_m_strikes : NoAttr K (He.ga K "Machine") "m_strikes"
  na_Machine_m_row : NoAttr K (He.ga K "Machine") "m_row"
  na_Machine_m_steps : NoAttr K (He.ga K "Machine") "m_steps"
  na_Machine_m_state : NoAttr K (He.ga K "Machine") "m_state"
  na_Machine_address : NoAttr K (He.ga K "Machine") "address"
  n_abs : mg "abs" = none
  n_bool : mg "bool" = none
  n_enumerate : mg "enumerate" = none
  n_int : mg "int" = none
  n_isinstance : mg "isinstance" = none
  n_len : mg "len" = none
  n_list : mg "list" = none
  n_range : mg "range" = none
  n_str : mg "str" = none
  n_tuple : mg "tuple" = none
  c_HueState : ∃ u, mg "HueState" = some u ∧ RelV (.ref (He.ga K "HueState")) u
  c_LEAST_SIZE : ∃ u, mg "LEAST_SIZE" = some u ∧ RelV (.int 2) u
  c_MANY_REGISTERS : ∃ u, mg "MANY_REGISTERS" = some u ∧ RelV (.int 8) u
  c_MOST_BANK : ∃ u, mg "MOST_BANK" = some u ∧ RelV (.int 600) u
  c_MOST_CELLS : ∃ u, mg "MOST_CELLS" = some u ∧ RelV (.int 4000) u
  c_MOST_HUES : ∃ u, mg "MOST_HUES" = some u ∧ RelV (.int 5) u
  c_MOST_INPUT : ∃ u, mg "MOST_INPUT" = some u ∧ RelV (.int 9999) u
  c_MOST_INPUTS : ∃ u, mg "MOST_INPUTS" = some u ∧ RelV (.int 400) u
  c_MOST_PORT : ∃ u, mg "MOST_PORT" = some u ∧ RelV (.int 5) u
  c_MOST_SIZE : ∃ u, mg "MOST_SIZE" = some u ∧ RelV (.int 10000) u
  c_MOST_STRIKES : ∃ u, mg "MOST_STRIKES" = some u ∧ RelV (.int 400) u
  c_MOST_TRIES : ∃ u, mg "MOST_TRIES" = some u ∧ RelV (.int 1000000) u
  c_Machine : ∃ u, mg "Machine" = some u ∧ RelV (.ref (He.ga K "Machine")) u
  e_TWOS : ∀ S, Dd K S (.ref (He.ga K "TWOS")) (.tuple ([(PySem.Str.ofString "plus"), (PySem.Str.ofString "minus"), (PySem.Str.ofString "times"), (PySem.Str.ofString "rest"), (PySem.Str.ofString "less"), (PySem.Str.ofString "same")].map .str))
  c_TWOS : ∃ u, mg "TWOS" = some u ∧ RelV (.ref (He.ga K "TWOS")) u
  e_dflt : ∀ S, Dd K S (.ref (He.dflAt ("Machine", some "__init__") 0 K)) (.tuple [])
end Hw
namespace Hw
open PySem PySem.Spec PyProof.Rows L2 Dl
def isWholeD (d : PyData) : Bool := isT "int" d && !isT "bool" d
def isFromD (d : PyData) (lo hi : Int) : Bool := match d with
  | .int n => decide (lo ≤ n) && decide (n ≤ hi)
  | _ => false
def F_is_whole (_ : Frag) : FSpec := fun args k => ∃ d, pD args k [d] (.bool (isWholeD d))
def F_is_from (_ : Frag) : FSpec := fun args k => ∃ d lo hi, pD args k [d, .int lo, .int hi] (.bool (isFromD d lo hi))
def F_are_inputs (_ : Frag) : FSpec := fun args k => ∃ ns : List Int, (ns.length ≤ 400 ∧ ∀ n ∈ ns, 0 ≤ n ∧ n ≤ 9999) ∧ pD args k [.tuple (ns.map .int)] (.bool true)
inductive CellT where
  | offer (h r : Int)
  | take (r w : Int)
  | stop
def wOffer : Str := PySem.Str.ofString "offer"
def wTake : Str := PySem.Str.ofString "take"
def wStop : Str := PySem.Str.ofString "stop"
def cellD : CellT → PyData
  | .offer h r => .tuple [.int h, .str (PySem.Str.ofString "offer"), .int r]
  | .take r w => .tuple [.str (PySem.Str.ofString "take"), .int r, .int w]
  | .stop => .tuple [.str (PySem.Str.ofString "stop")]
def cellOk (hues : Int) : CellT → Prop
  | .offer h r => 0 ≤ h ∧ h < hues ∧ 0 ≤ r ∧ r ≤ 7
  | .take r w => 0 ≤ r ∧ r ≤ 7 ∧ 1 ≤ w ∧ w ≤ hues
  | .stop => True
structure Code where
  votes : List Int
  size : Int
  cells : List CellT
  bank : List Int
def iL (ns : List Int) : List PyData := ns.map .int
def Code.d (c : Code) : PyData := .tuple [.tuple (iL c.votes), .int c.size, .tuple (c.cells.map cellD), .tuple (iL c.bank)]
def votesOk (vs : List Int) : Prop := 1 ≤ vs.length ∧ vs.length ≤ 5 ∧ ∀ (i : Nat) (v : Int), vs[i]? = some v → (i : Int) + 1 < 2 * v ∧ 2 * v ≤ 2 * ((i : Int) + 1)
structure Code.Ok (c : Code) : Prop where
  votes : votesOk c.votes
  size : 2 ≤ c.size ∧ c.size ≤ 10000
  cells : 1 ≤ c.cells.length ∧ c.cells.length ≤ 4000 ∧ ∀ x ∈ c.cells, cellOk c.votes.length x
  bank : c.bank.length ≤ 600 ∧ ∀ n ∈ c.bank, 0 ≤ n ∧ n ≤ c.size - 1
def F_is_votes (_ : Frag) : FSpec := fun args k => ∃ vs, votesOk vs ∧ pD args k [.tuple (iL vs)] (.bool true)
def F_are_registers (_ : Frag) : FSpec := fun args k => ∃ ns : List Int, (∀ n ∈ ns, 0 ≤ n ∧ n ≤ 7) ∧ pD args k [.tuple (iL ns)] (.bool true)
def F_instruction_fits (_ : Frag) : FSpec := fun args k => ∃ h r size many, (0 ≤ r ∧ r ≤ 7) ∧ pD args k [cellD (.offer h r), .int h, .int size, .int many] (.bool true)
def F_settle_fits (_ : Frag) : FSpec := fun args k => ∃ c hues many, (cellOk hues c ∧ ∀ h r, c ≠ .offer h r) ∧ pD args k [cellD c, .int hues, .int many] (.bool true)
def F_is_settle (_ : Frag) : FSpec := fun args k => ∃ d ds, pD args k [.tuple (d :: ds)] (.bool (isT "str" d))
def F_cell_fits (_ : Frag) : FSpec := fun args k => ∃ c hues size many bank, cellOk hues c ∧ pD args k [cellD c, .int hues, .int size, .int many, .int bank] (.bool true)
def F_is_code (_ : Frag) : FSpec := fun args k => ∃ c : Code, c.Ok ∧ pD args k [c.d] (.bool true)
def F_need_code (_ : Frag) : FSpec := fun args k => ∃ c : Code, c.Ok ∧ pD args k [c.d] .none
def F_need_hue (_ : Frag) : FSpec := fun args k => ∃ (c : Code) (h : Int), (0 ≤ h ∧ h < c.votes.length) ∧ pD args k [c.d, .int h] .none
def F_first_misfit (_ : Frag) : FSpec := fun args k => ∃ d, pD args k [d, .tuple []] .none
def F_is_strike_list (_ : Frag) : FSpec := fun args k => pD args k [.tuple []] (.bool true)
def F_need_strikes (_ : Frag) : FSpec := fun args k => ∃ d, pD args k [d, .tuple []] .none
def F_need_inputs (_ : Frag) : FSpec := fun args k => ∃ ns : List Int, (ns.length ≤ 400 ∧ ∀ n ∈ ns, 0 ≤ n ∧ n ≤ 9999) ∧ pD args k [.tuple (iL ns)] .none
def F_need_steps (_ : Frag) : FSpec := fun args k => ∃ n : Int, (0 ≤ n ∧ n ≤ 1000000) ∧ pD args k [.int n] .none
def F_most_agreed (_ : Frag) : FSpec := fun args k => ∃ (n : Nat) (p need : Int), (1 ≤ n ∧ need ≤ n) ∧ pD args k [.list (iL (List.replicate n p)), .int need] (.int p)
def F_worked_out (_ : Frag) : FSpec := fun args k => False
def F__wall (_ : Frag) : FSpec := fun args k => False
structure Hue where
  x : Addr
  r : Addr
  b : Addr
  c : Addr
  regs : List Int
  bank : List Int
  ptr : Int
  slot : PyData
def hN : List Str := ["m_registers", "m_bank", "m_pointer", "m_slot", "m_changed"]
def Hue.cs (K : Frag) (h : Hue) : List (Addr × Cell) :=
  [(h.x, .ins (He.ga K "HueState") hN [.raw (.ref h.r), .raw (.ref h.b), .dat (.int h.ptr), .dat h.slot, .raw (.ref h.c)]), (h.r, .lst ((iL h.regs).map .dat)), (h.b, .lst ((iL h.bank).map .dat)), (h.c, .dS [] [])]
structure Mach where
  a : Addr
  ah : Addr
  al : Addr
  as_ : Addr
  ar : Addr
  code : Code
  left : List Int
  row : List PyData
  steps : Int
  state : Str
  addr : PyData
  hues : List Hue
def mN : List Str := ["m_code", "m_hues", "m_left", "m_strikes", "m_row", "m_steps", "m_state", "address"]
def Mach.top (K : Frag) (m : Mach) : List (Addr × Cell) :=
  [(m.a, .ins (He.ga K "Machine") mN [.dat m.code.d, .raw (.ref m.ah), .raw (.ref m.al), .raw (.ref m.as_), .raw (.ref m.ar), .dat (.int m.steps), .dat (.str m.state), .dat m.addr]),
   (m.ah, .lst (m.hues.map fun h => .raw (.ref h.x))), (m.al, .lst ((iL m.left).map .dat)), (m.as_, .lst []), (m.ar, .lst (m.row.map .dat))]
def Mach.cs (K : Frag) (m : Mach) : List (Addr × Cell) := m.top K ++ m.hues.flatMap (Hue.cs K)
def Mach.R (K : Frag) (m : Mach) : Res := star (.ref m.a) (m.cs K)
def sRun : Str := PySem.Str.ofString "running"
def sStop : Str := PySem.Str.ofString "stopped"
structure Mach.At (m : Mach) (p : Int) : Prop where
  code : m.code.Ok
  hues : m.hues.length = m.code.votes.length
  ptr : ∀ h ∈ m.hues, h.ptr = p
  regs : ∀ h ∈ m.hues, h.regs.length = 8
  row : m.row.length < 100000
  state : m.state = sRun ∨ m.state = sStop
def pointTo (p : Int) (h : Hue) : Hue := { h with ptr := p }
def Mach.point (m : Mach) (p : Int) : Mach := { m with hues := m.hues.map (pointTo p) }
def setSlot (m : Mach) (i : Nat) (s : PyData) : Mach := { m with hues := m.hues.modify i fun h => { h with slot := s } }
def setReg (r : Nat) (n : Int) (h : Hue) : Hue := { h with regs := h.regs.set r n }
def takeNo (m : Mach) : Int := match m.left with
  | [] => 0
  | n :: _ => n % m.code.size
def stepM (m : Mach) (p : Int) : CellT → Mach
  | .offer h r => setSlot { m.point (p + 1) with steps := m.steps + 1 } h.toNat (.int ((m.hues.map fun h => h.regs.getD r.toNat 0).getD h.toNat 0))
  | .take r w => { m.point (p + 1) with steps := m.steps + 1, left := m.left.tail, row := m.row ++ [.tuple [.str wTake, .int (takeNo m)]], hues := ((m.hues.map (pointTo (p + 1))).take w.toNat).map (setReg r.toNat (takeNo m)) ++ (m.hues.map (pointTo (p + 1))).drop w.toNat }
  | .stop => { m.point (p + 1) with steps := m.steps + 1, row := m.row ++ [.tuple [.str wStop]], state := sStop }
def F_machine_address (K : Frag) : FSpec := fun args k => ∃ (m : Mach) (p : Int), m.At p ∧ (0 ≤ p ∧ p < m.code.cells.length) ∧ args = [.res (m.R K)] ∧ k (.dat (.int p)) args
def F_next_address (K : Frag) : FSpec := fun args k => ∃ (m : Mach) (p : Int), m.At p ∧ (m.state = sRun → 0 ≤ p ∧ p < m.code.cells.length) ∧ args = [.res (m.R K)] ∧ k (.dat (if m.state = sRun then .int p else .none)) args
def F_strikes_due (K : Frag) : FSpec := fun args k => ∃ m, args = [.res (Mach.R K m)] ∧ k (.dat .none) args
def F_point_all (K : Frag) : FSpec := fun args k => ∃ (m : Mach) (p : Int), args = [.res (m.R K), .dat (.int p)] ∧ k (.dat .none) [.res ((m.point p).R K), .dat (.int p)]
def F_empty_slots (_ : Frag) : FSpec := fun args k => False
def F_HueState_instructed (K : Frag) : FSpec := fun args k => ∃ (m : Mach) (i : Nat) (h : Hue) (hh r size v : Int), m.hues[i]? = some h ∧ (0 ≤ r ∧ r ≤ 7) ∧ h.regs[r.toNat]? = some v ∧ args = [.res ((m.R K).at (.ref h.x)), .dat (cellD (.offer hh r)), .dat (.int size)] ∧ k (.dat .none) [.res (((setSlot m i (.int v)).R K).at (.ref h.x)), .dat (cellD (.offer hh r)), .dat (.int size)]
def F_settle_done (K : Frag) : FSpec := fun args k => ∃ (m : Mach) (c : CellT) (p : Int), m.At p ∧ (cellOk m.code.votes.length c ∧ ∀ h r, c ≠ .offer h r) ∧ args = [.res (m.R K), .dat (cellD c), .dat (.int (p + 1))] ∧ k (.dat .none) [.res ({ stepM m p c with steps := m.steps }.R K), .dat (cellD c), .dat (.int (p + 1))]
def F_machine_step (K : Frag) : FSpec := fun args k => ∃ (m : Mach) (c : CellT) (p : Int), m.At p ∧ (0 ≤ p ∧ m.code.cells[p.toNat]? = some c) ∧ args = [.res (m.R K)] ∧ k (.dat .none) [.res ((stepM m p c).R K)]
inductive Goes : Nat → Mach → Int → Mach → Int → Prop
  | zero {m : Mach} {p : Int} (h : m.At p) : Goes 0 m p m p
  | halt {n : Nat} {m : Mach} {p : Int} (h : m.At p) (e : m.state ≠ sRun) : Goes n m p m p
  | step {n : Nat} {m m' : Mach} {p p' : Int} {c : CellT} (h : m.At p) (e : m.state = sRun) (hp : 0 ≤ p) (hc : m.code.cells[p.toNat]? = some c) (h2 : Goes n (stepM m p c) (p + 1) m' p') : Goes (n + 1) m p m' p'
def endAt (m : Mach) (p : Int) : Mach := { m with addr := if m.state = sRun then .int p else .none }
def F_Machine_go (K : Frag) : FSpec := fun args k => ∃ (m m' : Mach) (n : Nat) (p p' : Int), Goes n m p m' p' ∧ (m'.state = sRun → 0 ≤ p' ∧ p' < m'.code.cells.length) ∧ n ≤ 1000000 ∧ args = [.res (m.R K), .dat (.int n)] ∧ k (.dat .none) [.res ((endAt m' p').R K), .dat (.int n)]
def F_Machine_row (K : Frag) : FSpec := fun args k => ∃ m, args = [.res (Mach.R K m)] ∧ k (.dat (.list m.row)) args
def F_Machine_state (K : Frag) : FSpec := fun args k => ∃ m, args = [.res (Mach.R K m)] ∧ k (.dat (.str m.state)) args
def F_Machine_left (K : Frag) : FSpec := fun args k => ∃ m, args = [.res (Mach.R K m)] ∧ k (.dat (.list (iL m.left))) args
def F_Machine_slots (K : Frag) : FSpec := fun args k => ∃ (m : Mach), (m.hues.length ≤ 5) ∧ args = [.res (Mach.R K m)] ∧ k (.dat (.tuple (m.hues.map (·.slot)))) args
def F_Machine_registers (K : Frag) : FSpec := fun args k => ∃ (m : Mach) (i : Nat) (h : Hue), m.hues[i]? = some h ∧ m.hues.length = m.code.votes.length ∧ args = [.res (Mach.R K m), .dat (.int i)] ∧ k (.dat (.tuple (iL h.regs))) args
def F_Machine_cells (K : Frag) : FSpec := fun args k => ∃ (m : Mach) (i : Nat) (h : Hue), m.hues[i]? = some h ∧ m.hues.length = m.code.votes.length ∧ args = [.res (Mach.R K m), .dat (.int i)] ∧ k (.dat (.tuple (iL h.bank))) args
def newHue (x r b c : Addr) (bank : List Int) : Hue := ⟨x, r, b, c, List.replicate 8 0, bank, 0, .none⟩
def F_HueState___init__ (K : Frag) : FSpec := fun args k => ∃ x bank, args = [.res (star (.ref x) [(x, .ins (He.ga K "HueState") [] [])]), .dat (.tuple (iL bank))] ∧ ∀ r b c, k (.dat .none) [.res (star (.ref x) ((newHue x r b c bank).cs K)), .dat (.tuple (iL bank))]
def newM (a ah al as_ ar : Addr) (c : Code) (left : List Int) (hs : List Hue) : Mach := ⟨a, ah, al, as_, ar, c, left, [], 0, sRun, .int 0, hs⟩
def F_Machine___init__ (K : Frag) : FSpec := fun args k => ∃ x c ns, Code.Ok c ∧ (ns.length ≤ 400 ∧ ∀ n ∈ ns, 0 ≤ n ∧ n ≤ 9999) ∧ args = [.res (star (.ref x) [(x, .ins (He.ga K "Machine") [] [])]), .dat c.d, .dat (.tuple (iL ns)), .dat (.tuple [])] ∧
  ∀ (m : Mach), (∃ ah al as_ ar hs, m = newM x ah al as_ ar c ns hs ∧ hs.length = c.votes.length ∧ ∀ h ∈ hs, ∃ x r b d, h = newHue x r b d c.bank) → k (.dat .none) [.res (m.R K), .dat c.d, .dat (.tuple (iL ns)), .dat (.tuple [])]
def lN : List Str := ["great", "cells", "rest", "turn"]
def pst (a g : Addr) (gr cs : List Int) (rest turn : Int) : Res := star (.ref a) [(g, .lst ((iL gr).map .dat)), (a, .dS lN [.raw (.ref g), .dat (.list (iL cs)), .dat (.int rest), .dat (.int turn)])]
def PS (t : Nat) (r : Res) : Prop := ∃ a g gr cs rest turn, r = pst a g gr cs rest turn ∧ 0 ≤ turn ∧ turn ≤ t ∧ cs.length ≤ 63
def F__law_begun (K : Frag) : FSpec := fun args k => ∃ (ns : List Int) (s : Sl), ns.length ≤ 63 ∧ Scr K ns s ∧ args = [s] ∧ ∀ r, PS 0 r → k (.res r) args
def F__law_mixed (_ : Frag) : FSpec := fun args k => ∃ a g gr cs rest turn, (0 ≤ turn ∧ turn < 2000000) ∧ args = [.res (pst a g gr cs rest turn)] ∧ ∀ n : Int, k (.dat (.int n)) [.res (pst a g gr cs rest (turn + 1))]
def F__law_draw (_ : Frag) : FSpec := fun args k => ∃ (r : Res) (t : Nat) (room : Int), PS t r ∧ t < 1000000 ∧ (0 < room ∧ room < 1073741824) ∧ args = [.res r, .dat (.int room)] ∧ ∀ (n : Int) r', r'.v = r.v → PS (t + 1) r' → 0 ≤ n → n < room → k (.dat (.int n)) [.res r', .dat (.int room)]
def F__law_pick (_ : Frag) : FSpec := fun args k => ∃ (r : Res) (t : Nat) (ds : List PyData), PS t r ∧ t < 1000000 ∧ (0 < ds.length ∧ ds.length < 1000) ∧ args = [.res r, .dat (.list ds)] ∧ ∀ d r', r'.v = r.v → PS (t + 1) r' → d ∈ ds → k (.dat d) [.res r', .dat (.list ds)]
def F__law_size (_ : Frag) : FSpec := fun args k => ∃ (r : Res) (t : Nat), PS t r ∧ t < 1000000 ∧ args = [.res r] ∧ ∀ (n : Int) r', r'.v = r.v → PS (t + 1) r' → 2 ≤ n → n ≤ 10000 → k (.dat (.int n)) [.res r']
def F__law_inputs (_ : Frag) : FSpec := fun args k => ∃ (r : Res) (t : Nat), PS t r ∧ t < 900000 ∧ args = [.res r] ∧ ∀ (ns : List Int) r', r'.v = r.v → PS (t + 10) r' → ns.length ≤ 6 → (∀ n ∈ ns, 0 ≤ n ∧ n ≤ 9999) → k (.dat (.list (iL ns))) [.res r']
def F__law_votes (_ : Frag) : FSpec := fun args k => ∃ (r : Res) (t : Nat), PS t r ∧ t < 900000 ∧ args = [.res r] ∧ ∀ (vs : List Int) r', r'.v = r.v → PS (t + 20) r' → votesOk vs → k (.dat (.tuple (iL vs))) [.res r']
def F_law (K : Frag) : FSpec := fun args k => ∃ (ns : List Int) (s : Sl), ns.length ≤ 63 ∧ Scr K ns s ∧ args = [s] ∧ k (.dat (.bool true)) args
end Hw
namespace Hw
open PySem PySem.Spec PyProof.Rows L2 Dl
def t__wall (K : Frag) : TS := (tWhile (tTru' K (tC (.bl true))) (tNext))
theorem n__wall {K : Frag} : ∀ args k, F__wall K args k → args.length = 1 := by
  intro args k h
  simp only [F__wall, pD] at h
  all_goals first
    | (exact False.elim h)
    | (repeat (obtain ⟨_, h⟩ := h)
       subst_vars
       rfl)
def t_is_whole (K : Frag) : TS := (tRet ((tAndV (tCB (rIsiU K) (tCons (tVar 0) (tCons (tC (.ty "int")) tNil))) (tNotV (tCB (rIsiU K) (tCons (tVar 0) (tCons (tC (.ty "bool")) tNil)))))))
theorem n_is_whole {K : Frag} : ∀ args k, F_is_whole K args k → args.length = 1 := by
  intro args k h
  simp only [F_is_whole, pD] at h
  all_goals first
    | (exact False.elim h)
    | (repeat (obtain ⟨_, h⟩ := h)
       subst_vars
       rfl)
def t_is_from (K : Frag) : TS := (tRet ((tAndV (tCall (spOf K (F_is_whole K)) [] E0 (tCons (tVar 0) tNil)) (tChain (uLe K) (uLe K) (tVar 1) (tVar 0) (tVar 2)))))
theorem n_is_from {K : Frag} : ∀ args k, F_is_from K args k → args.length = 3 := by
  intro args k h
  simp only [F_is_from, pD] at h
  all_goals first
    | (exact False.elim h)
    | (repeat (obtain ⟨_, h⟩ := h)
       subst_vars
       rfl)
def t_are_inputs (K : Frag) : TS := (tSeq (tIfS ((tOr (tNot (tTru' K (tCB (rIsiU K) (tCons (tVar 0) (tCons (tTup (tCons (tC (.ty "list")) (tCons (tC (.ty "tuple")) tNil))) tNil))))) (tTest (tOp (uGt K) (tCB (Dl.rLen K) (tCons (tVar 0) tNil)) (tC (.int 400)))))) (tRet (tC (.bl false))) tNext) (tRet (tOp (uEq K) (tLc (iSq K (tVar 0)) (gName 1) (tNot (tTru' K (tCall (spOf K (F_is_from K)) [] E0 (tCons (tVar 1) (tCons (tC (.int 0)) (tCons (tC (.int 9999)) tNil)))))) (tVar 1) [1]) (tLst tNil))))
theorem n_are_inputs {K : Frag} : ∀ args k, F_are_inputs K args k → args.length = 1 := by
  intro args k h
  simp only [F_are_inputs, pD] at h
  all_goals first
    | (exact False.elim h)
    | (repeat (obtain ⟨_, h⟩ := h)
       subst_vars
       rfl)
def t_is_votes (K : Frag) : TS := (tSeq (tIfS ((tOr (tNot (tTru' K (tCB (rIsiU K) (tCons (tVar 0) (tCons (tC (.ty "tuple")) tNil))))) (tNot (tTest (tChain (uLe K) (uLe K) (tC (.int 1)) (tCB (Dl.rLen K) (tCons (tVar 0) tNil)) (tC (.int 5))))))) (tRet (tC (.bl false))) tNext) (tSeq (tFor (iEnumS K (tCons (tVar 0) (tCons (tC (.int 1)) tNil))) (gTup K 2 (gCons (gName 1) (gCons (gName 2) gNil))) (tIfS ((tOr (tNot (tTru' K (tCall (spOf K (F_is_whole K)) [] E0 (tCons (tVar 2) tNil)))) (tNot (tTest (tChain (uLt K) (uLe K) (tVar 1) (tOp (uMul K) (tC (.int 2)) (tVar 2)) (tOp (uMul K) (tC (.int 2)) (tVar 1))))))) (tRet (tC (.bl false))) tNext)) (tRet (tC (.bl true)))))
theorem n_is_votes {K : Frag} : ∀ args k, F_is_votes K args k → args.length = 1 := by
  intro args k h
  simp only [F_is_votes, pD] at h
  all_goals first
    | (exact False.elim h)
    | (repeat (obtain ⟨_, h⟩ := h)
       subst_vars
       rfl)
def t_are_registers (K : Frag) : TS := (tRet (tOp (uEq K) (tLc (iSq K (tVar 0)) (gName 1) (tNot (tTru' K (tCall (spOf K (F_is_from K)) [] E0 (tCons (tVar 1) (tCons (tC (.int 0)) (tCons (tOp (uSub K) (tC (.int 8)) (tC (.int 1))) tNil)))))) (tVar 1) [1]) (tLst tNil)))
theorem n_are_registers {K : Frag} : ∀ args k, F_are_registers K args k → args.length = 1 := by
  intro args k h
  simp only [F_are_registers, pD] at h
  all_goals first
    | (exact False.elim h)
    | (repeat (obtain ⟨_, h⟩ := h)
       subst_vars
       rfl)
def t_instruction_fits (K : Frag) : TS := (tSeq (tIfS ((tOr (tNot (tTru' K (tCB (rIsiU K) (tCons (tVar 0) (tCons (tC (.ty "tuple")) tNil))))) (tOr (tTest (tOp (uLt K) (tCB (Dl.rLen K) (tCons (tVar 0) tNil)) (tC (.int 3)))) (tNot (tTru' K (tCall (spOf K (F_is_from K)) [] E0 (tCons (tOp (uIx K) (tVar 0) (tC (.int 0))) (tCons (tVar 1) (tCons (tVar 1) tNil))))))))) (tRet (tC (.bl false))) tNext) (tSeq (tIfS (tNot (tTru' K (tCB (rIsiU K) (tCons (tOp (uIx K) (tVar 0) (tC (.int 1))) (tCons (tC (.ty "str")) tNil))))) (tRet (tC (.bl false))) tNext) (tSeq (tAsg (tOp (uIx K) (tVar 0) (tC (.int 1))) (gName 4)) (tSeq (tIfS (tTest (tOp (uEq K) (tVar 4) (tC (.str (PySem.Str.ofString "set"))))) (tRet ((tAndV (tOp (uEq K) (tCB (Dl.rLen K) (tCons (tVar 0) tNil)) (tC (.int 4))) (tAndV (tCall (spOf K (F_are_registers K)) [] E0 (tCons (tSl (rSlU K) (tVar 0) (tPart (tC (.int 2))) (tPart (tC (.int 3)))) tNil)) (tCall (spOf K (F_is_from K)) [] E0 (tCons (tOp (uIx K) (tVar 0) (tC (.int 3))) (tCons (tC (.int 0)) (tCons (tOp (uSub K) (tVar 2) (tC (.int 1))) tNil)))))))) tNext) (tSeq (tIfS (tTest (tOp (uEq K) (tVar 4) (tC (.str (PySem.Str.ofString "offer"))))) (tRet ((tAndV (tOp (uEq K) (tCB (Dl.rLen K) (tCons (tVar 0) tNil)) (tC (.int 3))) (tCall (spOf K (F_are_registers K)) [] E0 (tCons (tSl (rSlU K) (tVar 0) (tPart (tC (.int 2))) tNoPart) tNil))))) tNext) (tSeq (tIfS (tTest (tOp (uIn K) (tVar 4) (tTup (tCons (tC (.str (PySem.Str.ofString "get"))) (tCons (tC (.str (PySem.Str.ofString "put"))) tNil))))) (tSeq (tIfS ((tOr (tTest (tOp (uNe K) (tCB (Dl.rLen K) (tCons (tVar 0) tNil)) (tC (.int 6)))) (tNot (tTru' K (tCall (spOf K (F_are_registers K)) [] E0 (tCons (tSl (rSlU K) (tVar 0) (tPart (tC (.int 2))) (tPart (tC (.int 4)))) tNil)))))) (tRet (tC (.bl false))) tNext) (tRet ((tAndV (tCall (spOf K (F_is_from K)) [] E0 (tCons (tOp (uIx K) (tVar 0) (tC (.int 4))) (tCons (tC (.int 0)) (tCons (tVar 3) tNil)))) (tCall (spOf K (F_is_from K)) [] E0 (tCons (tOp (uIx K) (tVar 0) (tC (.int 5))) (tCons (tC (.int 1)) (tCons (tOp (uSub K) (tVar 3) (tOp (uIx K) (tVar 0) (tC (.int 4)))) tNil)))))))) tNext) (tRet ((tAndV (tOp (uIn K) (tVar 4) (tC (.ref (He.ga K "TWOS")))) (tAndV (tOp (uEq K) (tCB (Dl.rLen K) (tCons (tVar 0) tNil)) (tC (.int 5))) (tCall (spOf K (F_are_registers K)) [] E0 (tCons (tSl (rSlU K) (tVar 0) (tPart (tC (.int 2))) tNoPart) tNil))))))))))))
theorem n_instruction_fits {K : Frag} : ∀ args k, F_instruction_fits K args k → args.length = 4 := by
  intro args k h
  simp only [F_instruction_fits, pD] at h
  all_goals first
    | (exact False.elim h)
    | (repeat (obtain ⟨_, h⟩ := h)
       subst_vars
       rfl)
def t_settle_fits (K : Frag) : TS := (tSeq (tIfS ((tOr (tNot (tTru' K (tCB (rIsiU K) (tCons (tVar 0) (tCons (tC (.ty "tuple")) tNil))))) (tOr (tTest (tOp (uEq K) (tCB (Dl.rLen K) (tCons (tVar 0) tNil)) (tC (.int 0)))) (tNot (tTru' K (tCB (rIsiU K) (tCons (tOp (uIx K) (tVar 0) (tC (.int 0))) (tCons (tC (.ty "str")) tNil)))))))) (tRet (tC (.bl false))) tNext) (tSeq (tAsg (tOp (uIx K) (tVar 0) (tC (.int 0))) (gName 3)) (tSeq (tIfS (tTest (tOp (uIn K) (tVar 3) (tTup (tCons (tC (.str (PySem.Str.ofString "stop"))) (tCons (tC (.str (PySem.Str.ofString "mark"))) tNil))))) (tRet (tOp (uEq K) (tCB (Dl.rLen K) (tCons (tVar 0) tNil)) (tC (.int 1)))) tNext) (tSeq (tIfS (tTest (tOp (uEq K) (tVar 3) (tC (.str (PySem.Str.ofString "goto"))))) (tRet ((tAndV (tOp (uEq K) (tCB (Dl.rLen K) (tCons (tVar 0) tNil)) (tC (.int 2))) (tCall (spOf K (F_is_from K)) [] E0 (tCons (tOp (uIx K) (tVar 0) (tC (.int 1))) (tCons (tC (.int 0)) (tCons (tOp (uSub K) (tVar 2) (tC (.int 1))) tNil))))))) tNext) (tSeq (tIfS ((tOr (tTest (tOp (uNotIn K) (tVar 3) (tTup (tCons (tC (.str (PySem.Str.ofString "show"))) (tCons (tC (.str (PySem.Str.ofString "turn"))) (tCons (tC (.str (PySem.Str.ofString "take"))) tNil)))))) (tOr (tTest (tOp (uNe K) (tCB (Dl.rLen K) (tCons (tVar 0) tNil)) (tC (.int 3)))) (tNot (tTru' K (tCall (spOf K (F_is_from K)) [] E0 (tCons (tOp (uIx K) (tVar 0) (tC (.int 2))) (tCons (tC (.int 1)) (tCons (tVar 1) tNil))))))))) (tRet (tC (.bl false))) tNext) (tSeq (tAsg (tDGet (tDisp (((tC (.str (PySem.Str.ofString "show"))), (tC (.int 5))) :: (((tC (.str (PySem.Str.ofString "turn"))), (tOp (uSub K) (tVar 2) (tC (.int 1)))) :: (((tC (.str (PySem.Str.ofString "take"))), (tOp (uSub K) (tC (.int 8)) (tC (.int 1)))) :: [])))) (tVar 3)) (gName 4)) (tRet (tCall (spOf K (F_is_from K)) [] E0 (tCons (tOp (uIx K) (tVar 0) (tC (.int 1))) (tCons (tC (.int 0)) (tCons (tVar 4) tNil)))))))))))
theorem n_settle_fits {K : Frag} : ∀ args k, F_settle_fits K args k → args.length = 3 := by
  intro args k h
  simp only [F_settle_fits, pD] at h
  all_goals first
    | (exact False.elim h)
    | (repeat (obtain ⟨_, h⟩ := h)
       subst_vars
       rfl)
def t_is_settle (K : Frag) : TS := (tRet (tCB (rIsiU K) (tCons (tOp (uIx K) (tVar 0) (tC (.int 0))) (tCons (tC (.ty "str")) tNil))))
theorem n_is_settle {K : Frag} : ∀ args k, F_is_settle K args k → args.length = 1 := by
  intro args k h
  simp only [F_is_settle, pD] at h
  all_goals first
    | (exact False.elim h)
    | (repeat (obtain ⟨_, h⟩ := h)
       subst_vars
       rfl)
def t_cell_fits (K : Frag) : TS := (tSeq (tIfS ((tOr (tNot (tTru' K (tCB (rIsiU K) (tCons (tVar 0) (tCons (tC (.ty "tuple")) tNil))))) (tTest (tOp (uEq K) (tCB (Dl.rLen K) (tCons (tVar 0) tNil)) (tC (.int 0)))))) (tRet (tC (.bl false))) tNext) (tSeq (tIfS (tTru' K (tCall (spOf K (F_is_from K)) [] E0 (tCons (tOp (uIx K) (tVar 0) (tC (.int 0))) (tCons (tC (.int 0)) (tCons (tOp (uSub K) (tVar 1) (tC (.int 1))) tNil))))) (tRet (tCall (spOf K (F_instruction_fits K)) [] E0 (tCons (tVar 0) (tCons (tOp (uIx K) (tVar 0) (tC (.int 0))) (tCons (tVar 2) (tCons (tVar 4) tNil)))))) tNext) (tRet (tCall (spOf K (F_settle_fits K)) [] E0 (tCons (tVar 0) (tCons (tVar 1) (tCons (tVar 3) tNil)))))))
theorem n_cell_fits {K : Frag} : ∀ args k, F_cell_fits K args k → args.length = 5 := by
  intro args k h
  simp only [F_cell_fits, pD] at h
  all_goals first
    | (exact False.elim h)
    | (repeat (obtain ⟨_, h⟩ := h)
       subst_vars
       rfl)
def t_is_code (K : Frag) : TS := (tSeq (tIfS ((tOr (tNot (tTru' K (tCB (rIsiU K) (tCons (tVar 0) (tCons (tC (.ty "tuple")) tNil))))) (tOr (tTest (tOp (uNe K) (tCB (Dl.rLen K) (tCons (tVar 0) tNil)) (tC (.int 4)))) (tNot (tTru' K (tCall (spOf K (F_is_votes K)) [] E0 (tCons (tOp (uIx K) (tVar 0) (tC (.int 0))) tNil))))))) (tRet (tC (.bl false))) tNext) (tSeq (tAsg (tVar 0) (gTup K 4 (gCons (gName 2) (gCons (gName 3) (gCons (gName 4) (gCons (gName 5) gNil)))))) (tSeq (tIfS ((tOr (tNot (tTru' K (tCall (spOf K (F_is_from K)) [] E0 (tCons (tVar 3) (tCons (tC (.int 2)) (tCons (tC (.int 10000)) tNil)))))) (tOr (tNot (tTru' K (tCB (rIsiU K) (tCons (tVar 5) (tCons (tC (.ty "tuple")) tNil))))) (tTest (tOp (uGt K) (tCB (Dl.rLen K) (tCons (tVar 5) tNil)) (tC (.int 600))))))) (tRet (tC (.bl false))) tNext) (tSeq (tIfS (tTest (tOp (uNe K) (tLc (iSq K (tVar 5)) (gName 6) (tNot (tTru' K (tCall (spOf K (F_is_from K)) [] E0 (tCons (tVar 6) (tCons (tC (.int 0)) (tCons (tOp (uSub K) (tVar 3) (tC (.int 1))) tNil)))))) (tVar 6) [6]) (tLst tNil))) (tRet (tC (.bl false))) tNext) (tSeq (tIfS ((tOr (tNot (tTru' K (tCB (rIsiU K) (tCons (tVar 4) (tCons (tC (.ty "tuple")) tNil))))) (tNot (tTest (tChain (uLe K) (uLe K) (tC (.int 1)) (tCB (Dl.rLen K) (tCons (tVar 4) tNil)) (tC (.int 4000))))))) (tRet (tC (.bl false))) tNext) (tSeq (tAsg (tCB (Dl.rLen K) (tCons (tVar 4) tNil)) (gName 1)) (tRet (tOp (uEq K) (tLc (iSq K (tVar 4)) (gName 7) (tNot (tTru' K (tCall (spOf K (F_cell_fits K)) [] E0 (tCons (tVar 7) (tCons (tCB (Dl.rLen K) (tCons (tVar 2) tNil)) (tCons (tVar 3) (tCons (tVar 1) (tCons (tCB (Dl.rLen K) (tCons (tVar 5) tNil)) tNil)))))))) (tVar 7) [7]) (tLst tNil)))))))))
theorem n_is_code {K : Frag} : ∀ args k, F_is_code K args k → args.length = 1 := by
  intro args k h
  simp only [F_is_code, pD] at h
  all_goals first
    | (exact False.elim h)
    | (repeat (obtain ⟨_, h⟩ := h)
       subst_vars
       rfl)
def t_need_code (K : Frag) : TS := (tIfS (tNot (tTru' K (tCall (spOf K (F_is_code K)) [] E0 (tCons (tVar 0) tNil)))) (tNever) tNext)
theorem n_need_code {K : Frag} : ∀ args k, F_need_code K args k → args.length = 1 := by
  intro args k h
  simp only [F_need_code, pD] at h
  all_goals first
    | (exact False.elim h)
    | (repeat (obtain ⟨_, h⟩ := h)
       subst_vars
       rfl)
def t_need_hue (K : Frag) : TS := (tIfS (tNot (tTru' K (tCall (spOf K (F_is_from K)) [] E0 (tCons (tVar 1) (tCons (tC (.int 0)) (tCons (tOp (uSub K) (tCB (Dl.rLen K) (tCons (tOp (uIx K) (tVar 0) (tC (.int 0))) tNil)) (tC (.int 1))) tNil)))))) (tNever) tNext)
theorem n_need_hue {K : Frag} : ∀ args k, F_need_hue K args k → args.length = 2 := by
  intro args k h
  simp only [F_need_hue, pD] at h
  all_goals first
    | (exact False.elim h)
    | (repeat (obtain ⟨_, h⟩ := h)
       subst_vars
       rfl)
def t_first_misfit (K : Frag) : TS := (tSeq (tAsg (tC (.int 0)) (gName 2)) (tSeq (tFor (iEnumU K (tCons (tVar 1) tNil)) (gTup K 2 (gCons (gName 3) (gCons (gName 4) gNil))) (tSeq (tNever) (tNever))) (tRet (tC .non))))
theorem n_first_misfit {K : Frag} : ∀ args k, F_first_misfit K args k → args.length = 2 := by
  intro args k h
  simp only [F_first_misfit, pD] at h
  all_goals first
    | (exact False.elim h)
    | (repeat (obtain ⟨_, h⟩ := h)
       subst_vars
       rfl)
def t_is_strike_list (K : Frag) : TS := (tRet ((tAndV (tCB (rIsiU K) (tCons (tVar 0) (tCons (tTup (tCons (tC (.ty "list")) (tCons (tC (.ty "tuple")) tNil))) tNil))) (tOp (uLe K) (tCB (Dl.rLen K) (tCons (tVar 0) tNil)) (tC (.int 400))))))
theorem n_is_strike_list {K : Frag} : ∀ args k, F_is_strike_list K args k → args.length = 1 := by
  intro args k h
  simp only [F_is_strike_list, pD] at h
  all_goals first
    | (exact False.elim h)
    | (repeat (obtain ⟨_, h⟩ := h)
       subst_vars
       rfl)
def t_need_strikes (K : Frag) : TS := (tSeq (tIfS (tNot (tTru' K (tCall (spOf K (F_is_strike_list K)) [] E0 (tCons (tVar 1) tNil)))) (tNever) tNext) (tSeq (tAsg (tCall (spOf K (F_first_misfit K)) [] E0 (tCons (tVar 0) (tCons (tVar 1) tNil))) (gName 2)) (tIfS (tTest (tOp (uIsNot K) (tVar 2) (tC .non))) (tNever) tNext)))
theorem n_need_strikes {K : Frag} : ∀ args k, F_need_strikes K args k → args.length = 2 := by
  intro args k h
  simp only [F_need_strikes, pD] at h
  all_goals first
    | (exact False.elim h)
    | (repeat (obtain ⟨_, h⟩ := h)
       subst_vars
       rfl)
def t_need_inputs (K : Frag) : TS := (tIfS (tNot (tTru' K (tCall (spOf K (F_are_inputs K)) [] E0 (tCons (tVar 0) tNil)))) (tNever) tNext)
theorem n_need_inputs {K : Frag} : ∀ args k, F_need_inputs K args k → args.length = 1 := by
  intro args k h
  simp only [F_need_inputs, pD] at h
  all_goals first
    | (exact False.elim h)
    | (repeat (obtain ⟨_, h⟩ := h)
       subst_vars
       rfl)
def t_need_steps (K : Frag) : TS := (tIfS (tNot (tTru' K (tCall (spOf K (F_is_from K)) [] E0 (tCons (tVar 0) (tCons (tC (.int 0)) (tCons (tC (.int 1000000)) tNil)))))) (tNever) tNext)
theorem n_need_steps {K : Frag} : ∀ args k, F_need_steps K args k → args.length = 1 := by
  intro args k h
  simp only [F_need_steps, pD] at h
  all_goals first
    | (exact False.elim h)
    | (repeat (obtain ⟨_, h⟩ := h)
       subst_vars
       rfl)
def t_most_agreed (K : Frag) : TS := (tSeq (tAsg (tOp (uIx K) (tVar 0) (tC (.int 0))) (gName 2)) (tSeq (tIfS (tTest (tOp (uGe K) (tBM K "list" (rCntI K) (tVar 0) (tCons (tVar 2) tNil)) (tVar 1))) (tRet (tVar 2)) tNext) (tSeq (tFor (iSq K (tSl (rSlU K) (tVar 0) (tPart (tC (.int 1))) tNoPart)) (gName 3) (tIfS (tTest (tOp (uGe K) (tBM K "list" (rCntI K) (tVar 0) (tCons (tVar 3) tNil)) (tVar 1))) (tRet (tVar 3)) tNext)) (tRet (tC .non)))))
theorem n_most_agreed {K : Frag} : ∀ args k, F_most_agreed K args k → args.length = 2 := by
  intro args k h
  simp only [F_most_agreed, pD] at h
  all_goals first
    | (exact False.elim h)
    | (repeat (obtain ⟨_, h⟩ := h)
       subst_vars
       rfl)
def t_worked_out (K : Frag) : TS := (tSeq (tIfS (tTest (tOp (uEq K) (tVar 0) (tC (.str (PySem.Str.ofString "plus"))))) (tRet (tOp (uMod K) (tOp (uAdd K) (tVar 1) (tVar 2)) (tVar 3))) tNext) (tSeq (tIfS (tTest (tOp (uEq K) (tVar 0) (tC (.str (PySem.Str.ofString "minus"))))) (tRet (tOp (uMod K) (tOp (uSub K) (tVar 1) (tVar 2)) (tVar 3))) tNext) (tSeq (tIfS (tTest (tOp (uEq K) (tVar 0) (tC (.str (PySem.Str.ofString "times"))))) (tRet (tOp (uMod K) (tOp (uMul K) (tVar 1) (tVar 2)) (tVar 3))) tNext) (tSeq (tIfS (tTest (tOp (uEq K) (tVar 0) (tC (.str (PySem.Str.ofString "rest"))))) (tRet (tIf (tTest (tOp (uNe K) (tVar 2) (tC (.int 0)))) (tOp (uMod K) (tVar 1) (tVar 2)) (tC (.int 0)))) tNext) (tSeq (tIfS (tTest (tOp (uEq K) (tVar 0) (tC (.str (PySem.Str.ofString "less"))))) (tRet (tIf (tTest (tOp (uLt K) (tVar 1) (tVar 2))) (tC (.int 1)) (tC (.int 0)))) tNext) (tRet (tIf (tTest (tOp (uEq K) (tVar 1) (tVar 2))) (tC (.int 1)) (tC (.int 0)))))))))
theorem n_worked_out {K : Frag} : ∀ args k, F_worked_out K args k → args.length = 4 := by
  intro args k h
  simp only [F_worked_out, pD] at h
  all_goals first
    | (exact False.elim h)
    | (repeat (obtain ⟨_, h⟩ := h)
       subst_vars
       rfl)
def t_HueState___init__ (K : Frag) : TS := (tSeq (sFld K (tVar 0) (tOp (uMul K) (tLst (tCons (tC (.int 0)) tNil)) (tC (.int 8))) (PySem.Str.ofString "m_registers")) (tSeq (sFld K (tVar 0) (tCB (rListU K) (tCons (tVar 1) tNil)) (PySem.Str.ofString "m_bank")) (tSeq (sFld K (tVar 0) (tC (.int 0)) (PySem.Str.ofString "m_pointer")) (tSeq (sFld K (tVar 0) (tC .non) (PySem.Str.ofString "m_slot")) (sFld K (tVar 0) (tDNewK) (PySem.Str.ofString "m_changed"))))))
theorem n_HueState___init__ {K : Frag} : ∀ args k, F_HueState___init__ K args k → args.length = 2 := by
  intro args k h
  simp only [F_HueState___init__, pD] at h
  all_goals first
    | (exact False.elim h)
    | (repeat (obtain ⟨_, h⟩ := h)
       subst_vars
       rfl)
def t_HueState_instructed (K : Frag) : TS := (tSeq (tPar3 3 4 5 (tCons (tFld K (tVar 0) (PySem.Str.ofString "m_registers")) (tCons (tOp (uIx K) (tVar 1) (tC (.int 1))) (tCons (tOp (uIx K) (tVar 1) (tC (.int 2))) tNil)))) (tIfS (tTest (tOp (uEq K) (tVar 4) (tC (.str (PySem.Str.ofString "set"))))) (tAsg (tOp (uIx K) (tVar 1) (tC (.int 3))) (gSub (tVar 3) (tVar 5) rSetL)) (tIfS (tTest (tOp (uEq K) (tVar 4) (tC (.str (PySem.Str.ofString "offer"))))) (sFld K (tVar 0) (tOp (uIx K) (tVar 3) (tVar 5)) (PySem.Str.ofString "m_slot")) (tIfS (tTest (tOp (uEq K) (tVar 4) (tC (.str (PySem.Str.ofString "get"))))) (tAsg (tOp (uIx K) (tFld K (tVar 0) (PySem.Str.ofString "m_bank")) (tOp (uAdd K) (tOp (uIx K) (tVar 1) (tC (.int 4))) (tOp (uMod K) (tOp (uIx K) (tVar 3) (tOp (uIx K) (tVar 1) (tC (.int 3)))) (tOp (uIx K) (tVar 1) (tC (.int 5)))))) (gSub (tVar 3) (tVar 5) rSetL)) (tIfS (tTest (tOp (uEq K) (tVar 4) (tC (.str (PySem.Str.ofString "put"))))) (tSeq (tAsg (tFld K (tVar 0) (PySem.Str.ofString "m_bank")) (gName 6)) (tAsg (tOp (uIx K) (tVar 3) (tVar 5)) (gSub (tVar 6) (tOp (uAdd K) (tOp (uIx K) (tVar 1) (tC (.int 4))) (tOp (uMod K) (tOp (uIx K) (tVar 3) (tOp (uIx K) (tVar 1) (tC (.int 3)))) (tOp (uIx K) (tVar 1) (tC (.int 5))))) rSetL))) (tAsg (tCall (spOf K (F_worked_out K)) [] E0 (tCons (tVar 4) (tCons (tOp (uIx K) (tVar 3) (tOp (uIx K) (tVar 1) (tC (.int 3)))) (tCons (tOp (uIx K) (tVar 3) (tOp (uIx K) (tVar 1) (tC (.int 4)))) (tCons (tVar 2) tNil))))) (gSub (tVar 3) (tVar 5) rSetL)))))))
theorem n_HueState_instructed {K : Frag} : ∀ args k, F_HueState_instructed K args k → args.length = 3 := by
  intro args k h
  simp only [F_HueState_instructed, pD] at h
  all_goals first
    | (exact False.elim h)
    | (repeat (obtain ⟨_, h⟩ := h)
       subst_vars
       rfl)
def t_Machine___init__ (K : Frag) : TS := (tSeq (tDrop (tCall (spOf K (F_need_code K)) [] E0 (tCons (tVar 1) tNil))) (tSeq (tDrop (tCall (spOf K (F_need_inputs K)) [] E0 (tCons (tVar 2) tNil))) (tSeq (tDrop (tCall (spOf K (F_need_strikes K)) [] E0 (tCons (tVar 1) (tCons (tVar 3) tNil)))) (tSeq (sFld K (tVar 0) (tVar 1) (PySem.Str.ofString "m_code")) (tSeq (sFld K (tVar 0) (tLc (iSq K (tOp (uIx K) (tVar 1) (tC (.int 0)))) (gName 4) tYes (tMake (He.ga K "HueState") (spOf K (F_HueState___init__ K)) (dv_HueState K) E0 (tCons (tOp (uIx K) (tVar 1) (tC (.int 3))) tNil)) [4]) (PySem.Str.ofString "m_hues")) (tSeq (sFld K (tVar 0) (tCB (rListU K) (tCons (tVar 2) tNil)) (PySem.Str.ofString "m_left")) (tSeq (sFld K (tVar 0) (tCB (rListU K) (tCons (tVar 3) tNil)) (PySem.Str.ofString "m_strikes")) (tSeq (sFld K (tVar 0) (tLst tNil) (PySem.Str.ofString "m_row")) (tSeq (sFld K (tVar 0) (tC (.int 0)) (PySem.Str.ofString "m_steps")) (tSeq (sFld K (tVar 0) (tC (.str (PySem.Str.ofString "running"))) (PySem.Str.ofString "m_state")) (sFld K (tVar 0) (tC (.int 0)) (PySem.Str.ofString "address"))))))))))))
theorem n_Machine___init__ {K : Frag} : ∀ args k, F_Machine___init__ K args k → args.length = 4 := by
  intro args k h
  simp only [F_Machine___init__, pD] at h
  all_goals first
    | (exact False.elim h)
    | (repeat (obtain ⟨_, h⟩ := h)
       subst_vars
       rfl)
def t_Machine_row (K : Frag) : TS := (tRet (tCB (rListU K) (tCons (tFld K (tVar 0) (PySem.Str.ofString "m_row")) tNil)))
theorem n_Machine_row {K : Frag} : ∀ args k, F_Machine_row K args k → args.length = 1 := by
  intro args k h
  simp only [F_Machine_row, pD] at h
  all_goals first
    | (exact False.elim h)
    | (repeat (obtain ⟨_, h⟩ := h)
       subst_vars
       rfl)
def t_Machine_state (K : Frag) : TS := (tRet (tFld K (tVar 0) (PySem.Str.ofString "m_state")))
theorem n_Machine_state {K : Frag} : ∀ args k, F_Machine_state K args k → args.length = 1 := by
  intro args k h
  simp only [F_Machine_state, pD] at h
  all_goals first
    | (exact False.elim h)
    | (repeat (obtain ⟨_, h⟩ := h)
       subst_vars
       rfl)
def t_Machine_left (K : Frag) : TS := (tRet (tCB (rListU K) (tCons (tFld K (tVar 0) (PySem.Str.ofString "m_left")) tNil)))
theorem n_Machine_left {K : Frag} : ∀ args k, F_Machine_left K args k → args.length = 1 := by
  intro args k h
  simp only [F_Machine_left, pD] at h
  all_goals first
    | (exact False.elim h)
    | (repeat (obtain ⟨_, h⟩ := h)
       subst_vars
       rfl)
def t_Machine_slots (K : Frag) : TS := (tRet (tCB (rTupU K) (tCons (tLc (iSq K (tFld K (tVar 0) (PySem.Str.ofString "m_hues"))) (gName 1) tYes (tFld K (tVar 1) (PySem.Str.ofString "m_slot")) [1]) tNil)))
theorem n_Machine_slots {K : Frag} : ∀ args k, F_Machine_slots K args k → args.length = 1 := by
  intro args k h
  simp only [F_Machine_slots, pD] at h
  all_goals first
    | (exact False.elim h)
    | (repeat (obtain ⟨_, h⟩ := h)
       subst_vars
       rfl)
def t_Machine_registers (K : Frag) : TS := (tSeq (tDrop (tCall (spOf K (F_need_hue K)) [] E0 (tCons (tFld K (tVar 0) (PySem.Str.ofString "m_code")) (tCons (tVar 1) tNil)))) (tRet (tCB (rTupU K) (tCons (tFld K (tOp (uIx K) (tFld K (tVar 0) (PySem.Str.ofString "m_hues")) (tVar 1)) (PySem.Str.ofString "m_registers")) tNil))))
theorem n_Machine_registers {K : Frag} : ∀ args k, F_Machine_registers K args k → args.length = 2 := by
  intro args k h
  simp only [F_Machine_registers, pD] at h
  all_goals first
    | (exact False.elim h)
    | (repeat (obtain ⟨_, h⟩ := h)
       subst_vars
       rfl)
def t_Machine_cells (K : Frag) : TS := (tSeq (tDrop (tCall (spOf K (F_need_hue K)) [] E0 (tCons (tFld K (tVar 0) (PySem.Str.ofString "m_code")) (tCons (tVar 1) tNil)))) (tRet (tCB (rTupU K) (tCons (tFld K (tOp (uIx K) (tFld K (tVar 0) (PySem.Str.ofString "m_hues")) (tVar 1)) (PySem.Str.ofString "m_bank")) tNil))))
theorem n_Machine_cells {K : Frag} : ∀ args k, F_Machine_cells K args k → args.length = 2 := by
  intro args k h
  simp only [F_Machine_cells, pD] at h
  all_goals first
    | (exact False.elim h)
    | (repeat (obtain ⟨_, h⟩ := h)
       subst_vars
       rfl)
def t_Machine_go (K : Frag) : TS := (tSeq (tDrop (tCall (spOf K (F_need_steps K)) [] E0 (tCons (tVar 1) tNil))) (tSeq (tAsg (tVar 1) (gName 2)) (tSeq (tWhile ((tAnd (tTest (tOp (uGt K) (tVar 2) (tC (.int 0)))) (tTest (tOp (uEq K) (tFld K (tVar 0) (PySem.Str.ofString "m_state")) (tC (.str (PySem.Str.ofString "running"))))))) (tSeq (tAsg (tOp (uSub K) (tVar 2) (tC (.int 1))) (gName 2)) (tSeq (tDrop (tCallR 0 (spOf K (F_strikes_due K)) E0 (tCons (tVar 0) tNil))) (tDrop (tCallR 0 (spOf K (F_machine_step K)) E0 (tCons (tVar 0) tNil)))))) (sFld K (tVar 0) (tCallR 0 (spOf K (F_next_address K)) E0 (tCons (tVar 0) tNil)) (PySem.Str.ofString "address")))))
theorem n_Machine_go {K : Frag} : ∀ args k, F_Machine_go K args k → args.length = 2 := by
  intro args k h
  simp only [F_Machine_go, pD] at h
  all_goals first
    | (exact False.elim h)
    | (repeat (obtain ⟨_, h⟩ := h)
       subst_vars
       rfl)
def t_machine_address (K : Frag) : TS := (tSeq (tPar 2 3 (tCons (tOp (uIx K) (tFld K (tVar 0) (PySem.Str.ofString "m_code")) (tC (.int 0))) (tCons (tOp (uIx K) (tFld K (tVar 0) (PySem.Str.ofString "m_code")) (tC (.int 2))) tNil))) (tSeq (tAsg (tCall (spOf K (F_most_agreed K)) [] E0 (tCons (tLc (iSq K (tFld K (tVar 0) (PySem.Str.ofString "m_hues"))) (gName 4) tYes (tFld K (tVar 4) (PySem.Str.ofString "m_pointer")) [4]) (tCons (tOp (uIx K) (tVar 2) (tOp (uSub K) (tCB (Dl.rLen K) (tCons (tVar 2) tNil)) (tC (.int 1)))) tNil))) (gName 1)) (tRet (tIf ((tAnd (tTest (tOp (uIsNot K) (tVar 1) (tC .non))) (tTest (tOp (uLt K) (tVar 1) (tCB (Dl.rLen K) (tCons (tVar 3) tNil)))))) (tVar 1) (tC .non)))))
theorem n_machine_address {K : Frag} : ∀ args k, F_machine_address K args k → args.length = 1 := by
  intro args k h
  simp only [F_machine_address, pD] at h
  all_goals first
    | (exact False.elim h)
    | (repeat (obtain ⟨_, h⟩ := h)
       subst_vars
       rfl)
def t_next_address (K : Frag) : TS := (tRet (tIf (tTest (tOp (uEq K) (tFld K (tVar 0) (PySem.Str.ofString "m_state")) (tC (.str (PySem.Str.ofString "running"))))) (tCallR 0 (spOf K (F_machine_address K)) E0 (tCons (tVar 0) tNil)) (tC .non)))
theorem n_next_address {K : Frag} : ∀ args k, F_next_address K args k → args.length = 1 := by
  intro args k h
  simp only [F_next_address, pD] at h
  all_goals first
    | (exact False.elim h)
    | (repeat (obtain ⟨_, h⟩ := h)
       subst_vars
       rfl)
def t_strikes_due (K : Frag) : TS := (tSeq (tAsg (tFld K (tVar 0) (PySem.Str.ofString "m_strikes")) (gName 1)) (tWhile ((tAnd (tTest (tOp (uNe K) (tVar 1) (tLst tNil))) (tTest (tOp (uLe K) (tOp (uIx K) (tOp (uIx K) (tVar 1) (tC (.int 0))) (tC (.int 0))) (tFld K (tVar 0) (PySem.Str.ofString "m_steps")))))) (tSeq (tNever) (tNever))))
theorem n_strikes_due {K : Frag} : ∀ args k, F_strikes_due K args k → args.length = 1 := by
  intro args k h
  simp only [F_strikes_due, pD] at h
  all_goals first
    | (exact False.elim h)
    | (repeat (obtain ⟨_, h⟩ := h)
       subst_vars
       rfl)
def t_machine_step (K : Frag) : TS := (tSeq (tPar 3 4 (tCons (tFld K (tVar 0) (PySem.Str.ofString "m_code")) (tCons (tCallR 0 (spOf K (F_machine_address K)) E0 (tCons (tVar 0) tNil)) tNil))) (tSeq (sFld K (tVar 0) (tOp (uAdd K) (tFld K (tVar 0) (PySem.Str.ofString "m_steps")) (tC (.int 1))) (PySem.Str.ofString "m_steps")) (tSeq (tIfS (tTest (tOp (uIs K) (tVar 4) (tC .non))) (tSeq (sFld K (tVar 0) (tC (.str (PySem.Str.ofString "caught"))) (PySem.Str.ofString "m_state")) (tRetN)) tNext) (tSeq (tAsg (tOp (uIx K) (tOp (uIx K) (tVar 3) (tC (.int 2))) (tVar 4)) (gName 1)) (tSeq (tIfS (tTru' K (tCall (spOf K (F_is_settle K)) [] E0 (tCons (tVar 1) tNil))) (tSeq (tDrop (tCallR 0 (spOf K (F_settle_done K)) E0 (tCons (tVar 0) (tCons (tVar 1) (tCons (tOp (uAdd K) (tVar 4) (tC (.int 1))) tNil))))) (tRetN)) tNext) (tSeq (tDrop (tCallR 0 (spOf K (F_point_all K)) E0 (tCons (tVar 0) (tCons (tOp (uAdd K) (tVar 4) (tC (.int 1))) tNil)))) (tSeq (tAsg (tOp (uIx K) (tFld K (tVar 0) (PySem.Str.ofString "m_hues")) (tOp (uIx K) (tVar 1) (tC (.int 0)))) (gName 2)) (tDrop (tMeth (He.ga K "HueState") "instructed" (spOf K (F_HueState_instructed K)) [] E0 (tVar 2) (tCons (tDGet2 (tFld K (tVar 2) (PySem.Str.ofString "m_changed")) (tVar 4) (tVar 1)) (tCons (tOp (uIx K) (tVar 3) (tC (.int 1))) tNil)))))))))))
theorem n_machine_step {K : Frag} : ∀ args k, F_machine_step K args k → args.length = 1 := by
  intro args k h
  simp only [F_machine_step, pD] at h
  all_goals first
    | (exact False.elim h)
    | (repeat (obtain ⟨_, h⟩ := h)
       subst_vars
       rfl)
def t_point_all (K : Frag) : TS := (tFor (iSq K (tFld K (tVar 0) (PySem.Str.ofString "m_hues"))) (gName 2) (sFld K (tVar 2) (tVar 1) (PySem.Str.ofString "m_pointer")))
theorem n_point_all {K : Frag} : ∀ args k, F_point_all K args k → args.length = 2 := by
  intro args k h
  simp only [F_point_all, pD] at h
  all_goals first
    | (exact False.elim h)
    | (repeat (obtain ⟨_, h⟩ := h)
       subst_vars
       rfl)
def t_empty_slots (K : Frag) : TS := (tFor (iSq K (tFld K (tVar 0) (PySem.Str.ofString "m_hues"))) (gName 1) (sFld K (tVar 1) (tC .non) (PySem.Str.ofString "m_slot")))
theorem n_empty_slots {K : Frag} : ∀ args k, F_empty_slots K args k → args.length = 1 := by
  intro args k h
  simp only [F_empty_slots, pD] at h
  all_goals first
    | (exact False.elim h)
    | (repeat (obtain ⟨_, h⟩ := h)
       subst_vars
       rfl)
def t_settle_done (K : Frag) : TS := (tSeq (tPar 3 4 (tCons (tOp (uIx K) (tVar 1) (tC (.int 0))) (tCons (tFld K (tVar 0) (PySem.Str.ofString "m_row")) tNil))) (tIfS (tTest (tOp (uIn K) (tVar 3) (tTup (tCons (tC (.str (PySem.Str.ofString "show"))) (tCons (tC (.str (PySem.Str.ofString "turn"))) tNil))))) (tSeq (tAsg (tOp (uIx K) (tFld K (tVar 0) (PySem.Str.ofString "m_code")) (tC (.int 0))) (gName 5)) (tSeq (tAsg (tLc (iSq K (tSl (rSlU K) (tFld K (tVar 0) (PySem.Str.ofString "m_hues")) tNoPart (tPart (tOp (uIx K) (tVar 1) (tC (.int 2)))))) (gName 9) (tTest (tOp (uIsNot K) (tFld K (tVar 9) (PySem.Str.ofString "m_slot")) (tC .non))) (tFld K (tVar 9) (PySem.Str.ofString "m_slot")) [9]) (gName 6)) (tSeq (tAsg (tIf (tTest (tOp (uNe K) (tVar 6) (tLst tNil))) (tCall (spOf K (F_most_agreed K)) [] E0 (tCons (tVar 6) (tCons (tOp (uIx K) (tVar 5) (tOp (uSub K) (tOp (uIx K) (tVar 1) (tC (.int 2))) (tC (.int 1)))) tNil))) (tC .non)) (gName 7)) (tSeq (tIfS (tTest (tOp (uIs K) (tVar 7) (tC .non))) (tSeq (sFld K (tVar 0) (tC (.str (PySem.Str.ofString "caught"))) (PySem.Str.ofString "m_state")) (tRetN)) tNext) (tSeq (tDrop (tCallR 0 (spOf K (F_point_all K)) E0 (tCons (tVar 0) (tCons (tIf ((tAnd (tTest (tOp (uEq K) (tVar 3) (tC (.str (PySem.Str.ofString "turn"))))) (tTest (tOp (uNe K) (tVar 7) (tC (.int 0)))))) (tOp (uIx K) (tVar 1) (tC (.int 1))) (tVar 2)) tNil)))) (tSeq (tDrop (tCallR 0 (spOf K (F_empty_slots K)) E0 (tCons (tVar 0) tNil))) (tIfS (tTest (tOp (uEq K) (tVar 3) (tC (.str (PySem.Str.ofString "show"))))) (tDrop (tBM K "list" rAppend (tVar 4) (tCons (tTup (tCons (tC (.str (PySem.Str.ofString "show"))) (tCons (tOp (uIx K) (tVar 1) (tC (.int 1))) (tCons (tVar 7) tNil)))) tNil))) tNext))))))) (tIfS (tTest (tOp (uEq K) (tVar 3) (tC (.str (PySem.Str.ofString "take"))))) (tSeq (tAsg (tIf (tTest (tOp (uNe K) (tFld K (tVar 0) (PySem.Str.ofString "m_left")) (tLst tNil))) (tOp (uMod K) (tBM K "list" rPopAt (tFld K (tVar 0) (PySem.Str.ofString "m_left")) (tCons (tC (.int 0)) tNil)) (tOp (uIx K) (tFld K (tVar 0) (PySem.Str.ofString "m_code")) (tC (.int 1)))) (tC (.int 0))) (gName 8)) (tSeq (tDrop (tCallR 0 (spOf K (F_point_all K)) E0 (tCons (tVar 0) (tCons (tVar 2) tNil)))) (tSeq (tDrop (tBM K "list" rAppend (tVar 4) (tCons (tTup (tCons (tC (.str (PySem.Str.ofString "take"))) (tCons (tVar 8) tNil))) tNil))) (tFor (iSq K (tSl (rSlU K) (tFld K (tVar 0) (PySem.Str.ofString "m_hues")) tNoPart (tPart (tOp (uIx K) (tVar 1) (tC (.int 2)))))) (gName 9) (tSeq (tAsg (tFld K (tVar 9) (PySem.Str.ofString "m_registers")) (gName 10)) (tAsg (tVar 8) (gSub (tVar 10) (tOp (uIx K) (tVar 1) (tC (.int 1))) rSetL))))))) (tIfS (tTest (tOp (uEq K) (tVar 3) (tC (.str (PySem.Str.ofString "mark"))))) (tNever) (tSeq (tDrop (tCallR 0 (spOf K (F_point_all K)) E0 (tCons (tVar 0) (tCons (tIf (tTest (tOp (uEq K) (tVar 3) (tC (.str (PySem.Str.ofString "goto"))))) (tOp (uIx K) (tVar 1) (tC (.int 1))) (tVar 2)) tNil)))) (tIfS (tTest (tOp (uEq K) (tVar 3) (tC (.str (PySem.Str.ofString "stop"))))) (tSeq (tDrop (tBM K "list" rAppend (tVar 4) (tCons (tTup (tCons (tC (.str (PySem.Str.ofString "stop"))) tNil)) tNil))) (sFld K (tVar 0) (tC (.str (PySem.Str.ofString "stopped"))) (PySem.Str.ofString "m_state"))) tNext))))))
theorem n_settle_done {K : Frag} : ∀ args k, F_settle_done K args k → args.length = 3 := by
  intro args k h
  simp only [F_settle_done, pD] at h
  all_goals first
    | (exact False.elim h)
    | (repeat (obtain ⟨_, h⟩ := h)
       subst_vars
       rfl)
def t__law_begun (K : Frag) : TS := (tSeq (tAsg (tLc (iSq K (tVar 0)) (gName 2) (tTest (tOp (uGe K) (tCB (rAbs K) (tCons (tVar 2) tNil)) (tOp (uPow K) (tC (.int 10)) (tC (.int 18))))) (tOp (uSub K) (tCB (rAbs K) (tCons (tVar 2) tNil)) (tOp (uPow K) (tC (.int 10)) (tC (.int 18)))) [2]) (gName 1)) (tRet (tDisp (((tC (.str (PySem.Str.ofString "great"))), (tVar 1)) :: (((tC (.str (PySem.Str.ofString "cells"))), (tLc (iSq K (tVar 0)) (gName 2) tYes (tCB (rAbs K) (tCons (tVar 2) tNil)) [2])) :: (((tC (.str (PySem.Str.ofString "rest"))), (tC (.int 0))) :: (((tC (.str (PySem.Str.ofString "turn"))), (tC (.int 0))) :: [])))))))
theorem n__law_begun {K : Frag} : ∀ args k, F__law_begun K args k → args.length = 1 := by
  intro args k h
  simp only [F__law_begun, pD] at h
  all_goals first
    | (exact False.elim h)
    | (repeat (obtain ⟨_, h⟩ := h)
       subst_vars
       rfl)
def t__law_mixed (K : Frag) : TS := (tSeq (tPar 2 3 (tCons (tOp (uAdd K) (tDGet (tVar 0) (tC (.str (PySem.Str.ofString "turn")))) (tC (.int 1))) (tCons (tC (.int 0)) tNil))) (tSeq (sDPut (tVar 0) (tC (.str (PySem.Str.ofString "turn"))) (tVar 2)) (tSeq (tFor (iSq K (tLst (tCons (tC (.int 2147483629)) (tCons (tC (.int 2147483647)) (tCons (tC (.int 2147483563)) (tCons (tC (.int 2147483587)) tNil)))))) (gName 1) (tSeq (tAsg (tOp (uAdd K) (tOp (uMul K) (tC (.int 69621)) (tVar 2)) (tOp (uFDiv K) (tVar 1) (tC (.int 41)))) (gName 4)) (tSeq (tFor (iSq K (tDGet (tVar 0) (tC (.str (PySem.Str.ofString "cells"))))) (gName 5) (tAsg (tOp (uMod K) (tCB (rInt1 K) (tCons (tOp (uAdd K) (tOp (uAdd K) (tOp (uMul K) (tVar 4) (tC (.int 48271))) (tVar 5)) (tVar 2)) tNil)) (tVar 1)) (gName 4))) (tAsg (tOp (uAdd K) (tOp (uMul K) (tVar 3) (tC (.int 2147483659))) (tOp (uMod K) (tCB (rInt1 K) (tCons (tOp (uPow K) (tVar 4) (tC (.int 5))) tNil)) (tVar 1))) (gName 3))))) (tRet (tVar 3)))))
theorem n__law_mixed {K : Frag} : ∀ args k, F__law_mixed K args k → args.length = 1 := by
  intro args k h
  simp only [F__law_mixed, pD] at h
  all_goals first
    | (exact False.elim h)
    | (repeat (obtain ⟨_, h⟩ := h)
       subst_vars
       rfl)
def t__law_draw (K : Frag) : TS := (tSeq (tIfS (tTest (tOp (uEq K) (tDGet (tVar 0) (tC (.str (PySem.Str.ofString "rest")))) (tC (.int 0)))) (sDPut (tVar 0) (tC (.str (PySem.Str.ofString "rest"))) (tIf (tTest (tOp (uNe K) (tDGet (tVar 0) (tC (.str (PySem.Str.ofString "great")))) (tLst tNil))) (tBM K "list" rPopAt (tDGet (tVar 0) (tC (.str (PySem.Str.ofString "great")))) (tCons (tC (.int 0)) tNil)) (tCallR 0 (spOf K (F__law_mixed K)) E0 (tCons (tVar 0) tNil)))) tNext) (tSeq (tAsg (tOp (uMod K) (tCB (rInt1 K) (tCons (tDGet (tVar 0) (tC (.str (PySem.Str.ofString "rest")))) tNil)) (tVar 1)) (gName 2)) (tSeq (sDPut (tVar 0) (tC (.str (PySem.Str.ofString "rest"))) (tOp (uFDiv K) (tDGet (tVar 0) (tC (.str (PySem.Str.ofString "rest")))) (tVar 1))) (tRet (tVar 2)))))
theorem n__law_draw {K : Frag} : ∀ args k, F__law_draw K args k → args.length = 2 := by
  intro args k h
  simp only [F__law_draw, pD] at h
  all_goals first
    | (exact False.elim h)
    | (repeat (obtain ⟨_, h⟩ := h)
       subst_vars
       rfl)
def t__law_pick (K : Frag) : TS := (tRet (tOp (uIx K) (tVar 1) (tCallR 0 (spOf K (F__law_draw K)) E0 (tCons (tVar 0) (tCons (tCB (Dl.rLen K) (tCons (tVar 1) tNil)) tNil)))))
theorem n__law_pick {K : Frag} : ∀ args k, F__law_pick K args k → args.length = 2 := by
  intro args k h
  simp only [F__law_pick, pD] at h
  all_goals first
    | (exact False.elim h)
    | (repeat (obtain ⟨_, h⟩ := h)
       subst_vars
       rfl)
def t__law_size (K : Frag) : TS := (tRet (tCallR 0 (spOf K (F__law_pick K)) E0 (tCons (tVar 0) (tCons (tLst (tCons (tC (.int 10)) (tCons (tC (.int 10000)) (tCons (tC (.int 7)) (tCons (tC (.int 2)) (tCons (tC (.int 100)) (tCons (tC (.int 16)) (tCons (tC (.int 3)) (tCons (tC (.int 255)) tNil))))))))) tNil))))
theorem n__law_size {K : Frag} : ∀ args k, F__law_size K args k → args.length = 1 := by
  intro args k h
  simp only [F__law_size, pD] at h
  all_goals first
    | (exact False.elim h)
    | (repeat (obtain ⟨_, h⟩ := h)
       subst_vars
       rfl)
def t__law_inputs (K : Frag) : TS := (tSeq (tAsg (tLst (tCons (tC (.int 0)) (tCons (tC (.int 1)) (tCons (tC (.int 2)) (tCons (tC (.int 3)) (tCons (tC (.int 5)) (tCons (tC (.int 9)) (tCons (tC (.int 9999)) (tCons (tC (.int 100)) (tCons (tC (.int 17)) (tCons (tC (.int 6)) tNil))))))))))) (gName 1)) (tRet (tLc (iRng1 (tCons (tCallR 0 (spOf K (F__law_pick K)) E0 (tCons (tVar 0) (tCons (tLst (tCons (tC (.int 3)) (tCons (tC (.int 0)) (tCons (tC (.int 1)) (tCons (tC (.int 6)) (tCons (tC (.int 4)) tNil)))))) tNil))) tNil)) (gName 2) tYes (tCallR 0 (spOf K (F__law_pick K)) E0 (tCons (tVar 0) (tCons (tVar 1) tNil))) [2])))
theorem n__law_inputs {K : Frag} : ∀ args k, F__law_inputs K args k → args.length = 1 := by
  intro args k h
  simp only [F__law_inputs, pD] at h
  all_goals first
    | (exact False.elim h)
    | (repeat (obtain ⟨_, h⟩ := h)
       subst_vars
       rfl)
def t__law_votes (K : Frag) : TS := (tSeq (tPar 2 3 (tCons (tCallR 0 (spOf K (F__law_pick K)) E0 (tCons (tVar 0) (tCons (tLst (tCons (tC (.int 3)) (tCons (tC (.int 2)) (tCons (tC (.int 3)) (tCons (tC (.int 1)) (tCons (tC (.int 5)) (tCons (tC (.int 4)) (tCons (tC (.int 2)) tNil)))))))) tNil))) (tCons (tLst tNil) tNil))) (tSeq (tFor (iRng2 (tCons (tC (.int 1)) (tCons (tOp (uAdd K) (tVar 2) (tC (.int 1))) tNil))) (gName 1) (tSeq (tAsg (tOp (uAdd K) (tOp (uFDiv K) (tVar 1) (tC (.int 2))) (tC (.int 1))) (gName 4)) (tDrop (tBM K "list" rAppend (tVar 3) (tCons (tCallR 0 (spOf K (F__law_pick K)) E0 (tCons (tVar 0) (tCons (tLst (tCons (tVar 4) (tCons (tVar 1) (tCons (tOp (uAdd K) (tVar 4) (tCallR 0 (spOf K (F__law_draw K)) E0 (tCons (tVar 0) (tCons (tOp (uSub K) (tVar 1) (tOp (uFDiv K) (tVar 1) (tC (.int 2)))) tNil)))) tNil)))) tNil))) tNil))))) (tRet (tCB (rTupU K) (tCons (tVar 3) tNil)))))
theorem n__law_votes {K : Frag} : ∀ args k, F__law_votes K args k → args.length = 1 := by
  intro args k h
  simp only [F__law_votes, pD] at h
  all_goals first
    | (exact False.elim h)
    | (repeat (obtain ⟨_, h⟩ := h)
       subst_vars
       rfl)
def t_law (K : Frag) : TS := (tSeq (tAsg (tCall (spOf K (F__law_begun K)) [] E0 (tCons (tVar 0) tNil)) (gName 1)) (tSeq (tFor (iRng1 (tCons (tC (.int 4)) tNil)) (gName 2) (tSeq (tPar3 7 8 9 (tCons (tCallR 1 (spOf K (F__law_votes K)) E0 (tCons (tVar 1) tNil)) (tCons (tCallR 1 (spOf K (F__law_size K)) E0 (tCons (tVar 1) tNil)) (tCons (tCallR 1 (spOf K (F__law_inputs K)) E0 (tCons (tVar 1) tNil)) tNil)))) (tSeq (tPar 10 11 (tCons (tCB (Dl.rLen K) (tCons (tVar 7) tNil)) (tCons (tLst tNil) tNil))) (tSeq (tFor (iRng1 (tCons (tCallR 1 (spOf K (F__law_pick K)) E0 (tCons (tVar 1) (tCons (tLst (tCons (tC (.int 3)) (tCons (tC (.int 1)) (tCons (tC (.int 8)) (tCons (tC (.int 5)) tNil))))) tNil))) tNil)) (gName 3) (tDrop (tBM K "list" rAppend (tVar 11) (tCons (tTup (tCons (tC (.str (PySem.Str.ofString "take"))) (tCons (tCallR 1 (spOf K (F__law_draw K)) E0 (tCons (tVar 1) (tCons (tC (.int 8)) tNil))) (tCons (tOp (uAdd K) (tC (.int 1)) (tCallR 1 (spOf K (F__law_draw K)) E0 (tCons (tVar 1) (tCons (tVar 10) tNil)))) tNil)))) tNil)))) (tSeq (tAsg (tCB (rTupU K) (tCons (tLc (iRng1 (tCons (tVar 10) tNil)) (gName 17) (tTest (tOp (uEq K) (tCallR 1 (spOf K (F__law_draw K)) E0 (tCons (tVar 1) (tCons (tC (.int 2)) tNil))) (tC (.int 0)))) (tTup (tCons (tVar 17) (tCons (tC (.str (PySem.Str.ofString "offer"))) (tCons (tC (.int 0)) tNil)))) [17]) tNil)) (gName 4)) (tSeq (tAsg (tTup (tCons (tVar 7) (tCons (tVar 8) (tCons (tOp (uAdd K) (tOp (uAdd K) (tVar 4) (tCB (rTupU K) (tCons (tVar 11) tNil))) (tTup (tCons (tTup (tCons (tC (.str (PySem.Str.ofString "stop"))) tNil)) tNil))) (tCons (tTup (tCons (tC (.int 1)) tNil)) tNil))))) (gName 5)) (tSeq (tAsg (tMake (He.ga K "Machine") (spOf K (F_Machine___init__ K)) (dv_Machine K) E0 (tCons (tVar 5) (tCons (tCB (rTupU K) (tCons (tVar 9) tNil)) tNil))) (gName 6)) (tSeq (tDrop (tMethR 6 (He.ga K "Machine") "go" (spOf K (F_Machine_go K)) E0 (tVar 6) (tCons (tCB (Dl.rLen K) (tCons (tVar 4) tNil)) tNil))) (tSeq (tPar3 12 13 14 (tCons (tPropR 6 (He.ga K "Machine") (spOf K (F_Machine_slots K)) E0 (tVar 6)) (tCons (tLc (iSq K (tVar 7)) (gName 17) tYes (tOp (uMul K) (tLst (tCons (tC (.int 0)) tNil)) (tC (.int 8))) [17]) (tCons (tLst tNil) tNil)))) (tSeq (tFor (iEnumU K (tCons (tVar 11) tNil)) (gTup K 2 (gCons (gName 3) (gCons (gName 15) gNil))) (tSeq (tAsg (tIf (tTest (tOp (uLt K) (tVar 3) (tCB (Dl.rLen K) (tCons (tVar 9) tNil)))) (tOp (uIx K) (tVar 9) (tVar 3)) (tC (.int 0))) (gName 16)) (tSeq (tAsg (tOp (uSub K) (tVar 16) (tOp (uMul K) (tOp (uFDiv K) (tVar 16) (tVar 8)) (tVar 8))) (gName 16)) (tSeq (tDrop (tBM K "list" rAppend (tVar 14) (tCons (tTup (tCons (tC (.str (PySem.Str.ofString "take"))) (tCons (tVar 16) tNil))) tNil))) (tSeq (tFor (iRng1 (tCons (tOp (uIx K) (tVar 15) (tC (.int 2))) tNil)) (gName 17) (tSeq (tAsg (tOp (uIx K) (tVar 13) (tVar 17)) (gName 18)) (tAsg (tVar 16) (gSub (tVar 18) (tOp (uIx K) (tVar 15) (tC (.int 1))) rSetL)))) (tSeq (tDrop (tMethR 6 (He.ga K "Machine") "go" (spOf K (F_Machine_go K)) E0 (tVar 6) (tCons (tC (.int 1)) tNil))) (tSeq (tIfS ((tOr (tTest (tOp (uNe K) (tPropR 6 (He.ga K "Machine") (spOf K (F_Machine_row K)) E0 (tVar 6)) (tVar 14))) (tOr (tTest (tOp (uNe K) (tPropR 6 (He.ga K "Machine") (spOf K (F_Machine_slots K)) E0 (tVar 6)) (tVar 12))) (tTest (tOp (uNe K) (tPropR 6 (He.ga K "Machine") (spOf K (F_Machine_left K)) E0 (tVar 6)) (tSl (rSlU K) (tVar 9) (tPart (tOp (uAdd K) (tVar 3) (tC (.int 1)))) tNoPart)))))) (tRet (tC (.bl false))) tNext) (tFor (iRng1 (tCons (tVar 10) tNil)) (gName 17) (tIfS ((tOr (tTest (tOp (uNe K) (tMethR 6 (He.ga K "Machine") "registers" (spOf K (F_Machine_registers K)) E0 (tVar 6) (tCons (tVar 17) tNil)) (tCB (rTupU K) (tCons (tOp (uIx K) (tVar 13) (tVar 17)) tNil)))) (tTest (tOp (uNe K) (tMethR 6 (He.ga K "Machine") "cells" (spOf K (F_Machine_cells K)) E0 (tVar 6) (tCons (tVar 17) tNil)) (tTup (tCons (tC (.int 1)) tNil)))))) (tRet (tC (.bl false))) tNext))))))))) (tSeq (tDrop (tMethR 6 (He.ga K "Machine") "go" (spOf K (F_Machine_go K)) E0 (tVar 6) (tCons (tC (.int 5)) tNil))) (tIfS ((tOr (tTest (tOp (uNe K) (tPropR 6 (He.ga K "Machine") (spOf K (F_Machine_row K)) E0 (tVar 6)) (tOp (uAdd K) (tVar 14) (tLst (tCons (tTup (tCons (tC (.str (PySem.Str.ofString "stop"))) tNil)) tNil))))) (tOr (tTest (tOp (uNe K) (tPropR 6 (He.ga K "Machine") (spOf K (F_Machine_state K)) E0 (tVar 6)) (tC (.str (PySem.Str.ofString "stopped"))))) (tTest (tOp (uNe K) (tPropR 6 (He.ga K "Machine") (spOf K (F_Machine_slots K)) E0 (tVar 6)) (tVar 12)))))) (tRet (tC (.bl false))) tNext)))))))))))) (tRet (tC (.bl true)))))
theorem n_law {K : Frag} : ∀ args k, F_law K args k → args.length = 1 := by
  intro args k h
  simp only [F_law, pD] at h
  all_goals first
    | (exact False.elim h)
    | (repeat (obtain ⟨_, h⟩ := h)
       subst_vars
       rfl)
end Hw
namespace Hw
open PySem PySem.Spec PyProof.Rows L2 Dl
local macro_rules | `(tactic| walk_at "dbt") => `(tactic| first | assumption | rfl | (decide +kernel) | (simp [isFromD, *]; done) | (simp [isFromD, *]; omega))
local macro_rules | `(tactic| walk_at "d1") => `(tactic| first
  | with_reducible refine x_seq ?_ | with_reducible refine x_if' ?_ | with_reducible refine x_ret ?_ | with_reducible refine x_asg ?_ | with_reducible refine x_next ?_ | with_reducible refine x_expr ?_
  | with_reducible refine e_isi2 (by decide) (by decide) ?_
  | with_reducible refine e_dat rfl ?_ | with_reducible refine e_int ?_ | with_reducible refine e_str ?_ | with_reducible refine e_bl ?_ | with_reducible refine e_non ?_ | with_reducible refine e_op ?_ | with_reducible refine e_cb ?_ | with_reducible refine e_call ?_
  | with_reducible refine a_cons ?_ | with_reducible refine a_nil ?_
  | with_reducible refine b_test ?_ | with_reducible refine b_not ?_ | with_reducible refine b_and' ?_ | with_reducible refine b_or' ?_ | with_reducible refine b_tru ?_
  | with_reducible refine e_andV' ?_ | with_reducible refine e_orV' ?_ | with_reducible refine e_notV ?_ | with_reducible refine e_chain' ?_ | with_reducible refine e_if' ?_ | with_reducible refine e_c ?_ | with_reducible refine e_sl ?_ | with_reducible refine o_no ?_ | with_reducible refine o_some ?_ | with_reducible refine e_neg ?_
  | with_reducible refine e_raw rfl ?_ | with_reducible refine e_res rfl ?_ | with_reducible refine g_name ?_
  | with_reducible refine op_add_i ?_ | with_reducible refine op_sub_i ?_ | with_reducible refine op_lt_i ?_ | with_reducible refine op_le_i ?_ | with_reducible refine op_gt_i ?_ | with_reducible refine op_ge_i ?_ | with_reducible refine op_isnone ?_ | with_reducible refine op_notnone ?_
  | with_reducible refine cb_isi (by decide) ?_ | with_reducible refine cb_max2 ?_ | with_reducible refine cb_min2 ?_ | with_reducible refine cb_abs ?_ | with_reducible refine cb_int ?_ | with_reducible refine cb_len rfl ?_
  | with_reducible refine iteT ?_ | with_reducible refine iteF ?_ | ((with_reducible refine iT ?_ ?_); focus (walk_at "dbt"; done)) | ((with_reducible refine iF ?_ ?_); focus (walk_at "dbt"; done))
  | ((with_reducible refine g_tup ?_ ?_); (focus rfl)) | with_reducible refine gs_cons ?_ | with_reducible refine gs_nil ?_
  | with_reducible refine e_tup' ?_ | with_reducible refine e_lst' ?_ | with_reducible refine op_in2 ?_ | with_reducible refine op_ni3 ?_
  | with_reducible refine op_eq_ii ?_ | with_reducible refine op_ne_ii ?_ | ((with_reducible refine op_eq_ss ?_ ?_ ?_); (focus (decide +kernel)); (focus (decide +kernel))) | ((with_reducible refine op_ne_ss ?_ ?_ ?_); (focus (decide +kernel)); (focus (decide +kernel)))
  | ((with_reducible refine op_eq_d ?_ ?_ ?_); (focus (walk_at "dbt")); (focus (walk_at "dbt")))
  | ((with_reducible refine op_ne_d ?_ ?_ ?_); (focus (walk_at "dbt")); (focus (walk_at "dbt")))
  | ((with_reducible refine op_ix' ?_); refine Exists.intro _ (Exists.intro _ (And.intro rfl (And.intro rfl ?_))))
  | ((with_reducible refine op_mul_il ?_ ?_); (focus (decide +kernel))) | ((with_reducible refine op_mul_ir ?_ ?_); (focus (decide +kernel)))
  | ((with_reducible refine And.intro (a := smallL _ = true) ?_ ?_); (focus rfl)) | ((with_reducible refine And.intro (a := Pers _) ?_ ?_); (focus trivial)) | with_reducible refine d_cons ?_ | with_reducible refine d_nil ?_
  | (with_reducible refine Exists.intro _ (And.intro rfl ?_)) | (with_reducible refine Exists.intro _ (Exists.intro _ (And.intro rfl (And.intro rfl ?_)))) | refine Exists.intro _ (And.intro rfl (And.intro (by rfl) ?_)) | refine Exists.intro _ (Exists.intro _ (And.intro rfl (And.intro rfl ?_))) | with_reducible refine dat_ok ?_ | dsimp only | fail)
local macro_rules | `(tactic| walk_at "d2") => `(tactic| first | walk_at "d1" | with_reducible refine iteB (fun _ => ?_) (fun _ => ?_))
section
variable {K : Frag} {mg : Str → Option Value}
theorem b_is_whole (T : TX K mg) : ∀ args k, F_is_whole K args k → ExS K (t_is_whole K) (args ++ List.replicate (1 - args.length) .no) (fnOut args k) := by
  rintro args k ⟨d, h⟩
  refine bodyD (Γ := [.dat d]) h rfl ?_
  unfold t_is_whole
  repeat' walk_at "d2"
  all_goals (congr 1; simp [isWholeD, *])
theorem u_is_whole {d : PyData} {k : Sl → List Sl → Prop} (h : k (.dat (.bool (isWholeD d))) [.dat d]) : F_is_whole K [.dat d] k := ⟨d, rfl, h⟩
local macro_rules | `(tactic| walk_at "d1") => `(tactic| with_reducible refine u_is_whole ?_)
theorem b_is_from (T : TX K mg) : ∀ args k, F_is_from K args k → ExS K (t_is_from K) (args ++ List.replicate (3 - args.length) .no) (fnOut args k) := by
  rintro args k ⟨d, lo, hi, h⟩
  refine bodyD (Γ := [.dat d, .dat (.int lo), .dat (.int hi)]) h rfl ?_
  unfold t_is_from
  cases d
  all_goals repeat' walk_at "d2"
  all_goals first | rfl | (congr 1; simp [isFromD, *])
theorem u_is_from {d : PyData} {lo hi : Int} {k : Sl → List Sl → Prop} (h : k (.dat (.bool (isFromD d lo hi))) [.dat d, .dat (.int lo), .dat (.int hi)]) : F_is_from K [.dat d, .dat (.int lo), .dat (.int hi)] k := ⟨d, lo, hi, rfl, h⟩
local macro_rules | `(tactic| walk_at "d1") => `(tactic| with_reducible refine u_is_from ?_)
theorem fm_true {n lo hi : Int} (h1 : lo ≤ n) (h2 : n ≤ hi) : isFromD (.int n) lo hi = true := by simp [isFromD, h1, h2]
theorem e_allok {i : Nat} {tl : TE} {tt : TT} {k : Sl → List Sl → Prop} {Γ : List Sl} (h : EvP K tl Γ fun r Γ1 => ∃ d ds, r = .dat d ∧ seqD d = some ds ∧
    (∀ x ∈ ds, EvB K tt ((Γ1.set i .no).set i (.dat x)) fun b Γ2 => b = false ∧ Γ2.set i .no = Γ1.set i .no) ∧ k (.dat (.bool true)) (Γ1.set i .no)) : EvP K (tOp (uEq K) (tLc (iSq K tl) (gName i) tt (tVar i) [i]) (tLst tNil)) Γ k := by
  refine e_op (e_lc1 (fun _ => false) id (h.mono fun r Γ1 ⟨d, ds, e1, e2, h1, h2⟩ => ⟨d, ds, e1, e2, fun x hx => (h1 x hx).mono fun b Γ2 ⟨q1, q2⟩ => ⟨q1, ?_⟩, ?_⟩))
  · rw [if_neg (by decide)]
    exact q2
  · refine e_lst (a_nil ⟨[], rfl, by decide, ?_⟩)
    rw [show (ds.filter fun _ => false) = [] by simp]
    exact op_eq_d (by decide +kernel) (by decide +kernel) h2
theorem e_allokN {i : Nat} {tl : TE} {tt : TT} {k : Sl → List Sl → Prop} {Γ : List Sl} (h : EvP K tl Γ fun r Γ1 => ∃ d ds, r = .dat d ∧ seqD d = some ds ∧
    (∀ x ∈ ds, EvB K tt ((Γ1.set i .no).set i (.dat x)) fun b Γ2 => b = false ∧ Γ2.set i .no = Γ1.set i .no) ∧ k (.dat (.bool false)) (Γ1.set i .no)) : EvP K (tOp (uNe K) (tLc (iSq K tl) (gName i) tt (tVar i) [i]) (tLst tNil)) Γ k := by
  refine e_op (e_lc1 (fun _ => false) id (h.mono fun r Γ1 ⟨d, ds, e1, e2, h1, h2⟩ => ⟨d, ds, e1, e2, fun x hx => (h1 x hx).mono fun b Γ2 ⟨q1, q2⟩ => ⟨q1, ?_⟩, ?_⟩))
  · rw [if_neg (by decide)]
    exact q2
  · refine e_lst (a_nil ⟨[], rfl, by decide, ?_⟩)
    rw [show (ds.filter fun _ => false) = [] by simp]
    exact op_ne_d (by decide +kernel) (by decide +kernel) h2
local macro_rules | `(tactic| walk_at "d1") => `(tactic| with_reducible refine e_allok ?_)
local macro_rules | `(tactic| walk_at "d1") => `(tactic| with_reducible refine e_allokN ?_)
theorem b_are_inputs (T : TX K mg) : ∀ args k, F_are_inputs K args k → ExS K (t_are_inputs K) (args ++ List.replicate (2 - args.length) .no) (fnOut args k) := by
  rintro args k ⟨ns, ⟨hl, hn⟩, h⟩
  refine bodyD (Γ := [.dat (.tuple (ns.map .int)), .no]) h rfl ?_
  unfold t_are_inputs
  repeat' walk_at "d1"
  refine ⟨fun x hx => ?_, rfl⟩
  obtain ⟨n, hm, rfl⟩ := List.mem_map.mp hx
  repeat' walk_at "d1"
  exact ⟨by rw [fm_true (hn n hm).1 (hn n hm).2]; rfl, rfl⟩
theorem u_are_inputs {ns : List Int} {k : Sl → List Sl → Prop} (hl : ns.length ≤ 400 ∧ ∀ n ∈ ns, 0 ≤ n ∧ n ≤ 9999) (h : k (.dat (.bool true)) [.dat (.tuple (iL ns))]) : F_are_inputs K [.dat (.tuple (iL ns))] k := ⟨ns, hl, rfl, h⟩
local macro_rules | `(tactic| walk_at "d1") => `(tactic| with_reducible refine u_are_inputs (by assumption) ?_)
theorem b_is_votes (T : TX K mg) : ∀ args k, F_is_votes K args k → ExS K (t_is_votes K) (args ++ List.replicate (3 - args.length) .no) (fnOut args k) := by
  rintro args k ⟨vs, ⟨h1, h5, hv⟩, h⟩
  refine bodyD (Γ := [.dat (.tuple (iL vs)), .no, .no]) h rfl ?_
  unfold t_is_votes
  have hl : (iL vs).length = vs.length := List.length_map ..
  repeat' walk_at "d1"
  refine x_for (i_enumS ?_)
  repeat' walk_at "d1"
  refine ⟨_, _, _, rfl, by decide, by decide, rfl, fun _ => ?_⟩
  refine ⟨fun i Γ => ∃ x y, Γ = [.dat (.tuple (iL vs)), x, y], ⟨_, _, rfl⟩, fun _ _ _ _ => trivial, fun i Γ hi ⟨x, y, e⟩ => ?_, fun Γ ⟨x, y, e⟩ => ?_⟩
  · subst e
    rw [hl] at hi
    obtain ⟨v, hvi⟩ : ∃ v, vs[i]? = some v := ⟨_, List.getElem?_eq_getElem hi⟩
    have hd : (iL vs).getD i .none = .int v := by
      rw [List.getD_eq_getElem?_getD, iL, List.getElem?_map, hvi]; rfl
    show EvG K _ (.dat (.tuple [.int (1 + (i : Int)), (iL vs).getD i .none])) _ _
    rw [hd]
    refine g_tup rfl (gs_cons (g_name (gs_cons (g_name (gs_nil ?_)))))
    have q := hv i v hvi
    repeat' walk_at "d1"
    exact ⟨_, _, rfl⟩
  · subst e
    repeat' walk_at "d1"
theorem u_is_votes {vs : List Int} {k : Sl → List Sl → Prop} (hv : votesOk vs) (h : k (.dat (.bool true)) [.dat (.tuple (iL vs))]) : F_is_votes K [.dat (.tuple (iL vs))] k := ⟨vs, hv, rfl, h⟩
local macro_rules | `(tactic| walk_at "d1") => `(tactic| with_reducible refine u_is_votes (by assumption) ?_)
theorem b_are_registers (T : TX K mg) : ∀ args k, F_are_registers K args k → ExS K (t_are_registers K) (args ++ List.replicate (2 - args.length) .no) (fnOut args k) := by
  rintro args k ⟨ns, hn, h⟩
  refine bodyD (Γ := [.dat (.tuple (iL ns)), .no]) h rfl ?_
  unfold t_are_registers
  repeat' walk_at "d1"
  refine ⟨fun x hx => ?_, rfl⟩
  obtain ⟨n, hm, rfl⟩ := List.mem_map.mp hx
  repeat' walk_at "d1"
  exact ⟨by show (!isFromD (.int n) 0 7) = false; rw [fm_true (hn n hm).1 (hn n hm).2]; rfl, rfl⟩
theorem u_are_registers {ns : List Int} {d : PyData} {k : Sl → List Sl → Prop} (e : d = .tuple (iL ns)) (hv : ∀ n ∈ ns, 0 ≤ n ∧ n ≤ 7) (h : k (.dat (.bool true)) [.dat d]) : F_are_registers K [.dat d] k := by
  subst e
  exact ⟨ns, hv, rfl, h⟩
theorem b_instruction_fits (T : TX K mg) : ∀ args k, F_instruction_fits K args k → ExS K (t_instruction_fits K) (args ++ List.replicate (5 - args.length) .no) (fnOut args k) := by
  rintro args k ⟨h, r, size, many, ⟨h0, h7⟩, hh⟩
  refine bodyD (Γ := [.dat (.tuple [.int h, .str (PySem.Str.ofString "offer"), .int r]), .dat (.int h), .dat (.int size), .dat (.int many), .no]) hh rfl ?_
  unfold t_instruction_fits
  repeat' walk_at "d1"
  refine u_are_registers (ns := [r]) rfl (by simpa using ⟨h0, h7⟩) rfl
theorem u_instruction_fits {h r size many : Int} {k : Sl → List Sl → Prop} (hr : 0 ≤ r ∧ r ≤ 7) (hk : k (.dat (.bool true)) [.dat (cellD (.offer h r)), .dat (.int h), .dat (.int size), .dat (.int many)]) : F_instruction_fits K [.dat (cellD (.offer h r)), .dat (.int h), .dat (.int size), .dat (.int many)] k := ⟨h, r, size, many, hr, rfl, hk⟩
theorem b_settle_fits (T : TX K mg) : ∀ args k, F_settle_fits K args k → ExS K (t_settle_fits K) (args ++ List.replicate (5 - args.length) .no) (fnOut args k) := by
  rintro args k ⟨c, hues, many, ⟨hc, hno⟩, hh⟩
  cases c with
  | offer h r => exact absurd rfl (hno h r)
  | take r w =>
    refine bodyD (Γ := [.dat (.tuple [.str (PySem.Str.ofString "take"), .int r, .int w]), .dat (.int hues), .dat (.int many), .no, .no]) hh rfl ?_
    unfold t_settle_fits
    obtain ⟨h0, h7, w1, w2⟩ := hc
    repeat' walk_at "d1"
    refine e_dgetT 2 (e_disp ?_)
    repeat' walk_at "d1"
    refine ⟨by decide, by decide, fun p => ⟨_, _, _, rfl, ?_⟩⟩
    repeat' walk_at "d1"
    refine ⟨_, _, rfl, rfl, rfl, ?_⟩
    repeat' walk_at "d1"
    rw [fm_true h0 (by omega)]
  | stop =>
    refine bodyD (Γ := [.dat (.tuple [.str (PySem.Str.ofString "stop")]), .dat (.int hues), .dat (.int many), .no, .no]) hh rfl ?_
    unfold t_settle_fits
    repeat' walk_at "d1"
    rfl
theorem u_settle_fits {c : CellT} {hues many : Int} {k : Sl → List Sl → Prop} (hc : cellOk hues c) (hno : ∀ h r, c ≠ .offer h r) (hk : k (.dat (.bool true)) [.dat (cellD c), .dat (.int hues), .dat (.int many)]) : F_settle_fits K [.dat (cellD c), .dat (.int hues), .dat (.int many)] k := ⟨c, hues, many, ⟨hc, hno⟩, rfl, hk⟩
theorem b_is_settle (T : TX K mg) : ∀ args k, F_is_settle K args k → ExS K (t_is_settle K) (args ++ List.replicate (1 - args.length) .no) (fnOut args k) := by
  rintro args k ⟨d, ds, h⟩
  refine bodyD (Γ := [.dat (.tuple (d :: ds))]) h rfl ?_
  unfold t_is_settle
  repeat' walk_at "d1"
  refine op_ix_d (d' := d) rfl (by simp [atI, ixN]) ?_
  repeat' walk_at "d1"
theorem u_is_settle {d : PyData} {ds : List PyData} {k : Sl → List Sl → Prop} (hk : k (.dat (.bool (isT "str" d))) [.dat (.tuple (d :: ds))]) : F_is_settle K [.dat (.tuple (d :: ds))] k := ⟨d, ds, rfl, hk⟩
theorem b_cell_fits (T : TX K mg) : ∀ args k, F_cell_fits K args k → ExS K (t_cell_fits K) (args ++ List.replicate (5 - args.length) .no) (fnOut args k) := by
  rintro args k ⟨c, hues, size, many, bank, hc, hh⟩
  refine bodyD (Γ := [.dat (cellD c), .dat (.int hues), .dat (.int size), .dat (.int many), .dat (.int bank)]) hh rfl ?_
  unfold t_cell_fits
  cases c with
  | offer h r =>
    obtain ⟨h0, h1, h2, h3⟩ := hc
    unfold cellD
    repeat' walk_at "d1"
    exact u_instruction_fits ⟨h2, h3⟩ rfl
  | take r w =>
    unfold cellD
    repeat' walk_at "d1"
    exact u_settle_fits (c := .take r w) hc (fun h r e => by cases e) rfl
  | stop =>
    unfold cellD
    repeat' walk_at "d1"
    exact u_settle_fits (c := .stop) hc (fun h r e => by cases e) rfl
theorem u_cell_fits {c : CellT} {hues size many bank : Int} {k : Sl → List Sl → Prop} (hc : cellOk hues c) (hk : k (.dat (.bool true)) [.dat (cellD c), .dat (.int hues), .dat (.int size), .dat (.int many), .dat (.int bank)]) : F_cell_fits K [.dat (cellD c), .dat (.int hues), .dat (.int size), .dat (.int many), .dat (.int bank)] k := ⟨c, hues, size, many, bank, hc, rfl, hk⟩
local macro_rules | `(tactic| walk_at "d1") => `(tactic| with_reducible refine u_is_settle ?_)
local macro_rules | `(tactic| walk_at "d1") => `(tactic| with_reducible refine u_cell_fits (by assumption) ?_)
theorem b_is_code (T : TX K mg) : ∀ args k, F_is_code K args k → ExS K (t_is_code K) (args ++ List.replicate (8 - args.length) .no) (fnOut args k) := by
  rintro args k ⟨c, ⟨hv, ⟨hs1, hs2⟩, ⟨hc1, hc2, hc3⟩, ⟨hb1, hb2⟩⟩, h⟩
  refine bodyD (Γ := [.dat (.tuple [.tuple (iL c.votes), .int c.size, .tuple (c.cells.map cellD), .tuple (iL c.bank)]), .no, .no, .no, .no, .no, .no, .no]) h rfl ?_
  unfold t_is_code
  have l0 : (iL c.votes).length = c.votes.length := List.length_map ..
  have l1 : (iL c.bank).length = c.bank.length := List.length_map ..
  have l2 : (c.cells.map cellD).length = c.cells.length := List.length_map ..
  repeat' walk_at "d1"
  refine ⟨fun x hx => ?_, ?_⟩
  · obtain ⟨n, hm, rfl⟩ := List.mem_map.mp hx
    repeat' walk_at "d1"
    exact ⟨by rw [fm_true (hb2 n hm).1 (hb2 n hm).2]; rfl, rfl⟩
  repeat' walk_at "d1"
  refine ⟨fun x hx => ?_, rfl⟩
  obtain ⟨n, hm, rfl⟩ := List.mem_map.mp hx
  have hok := hc3 n hm
  rw [← l0] at hok
  repeat' walk_at "d1"
  exact ⟨rfl, rfl⟩
theorem u_is_code {c : Code} {k : Sl → List Sl → Prop} (hc : c.Ok) (hk : k (.dat (.bool true)) [.dat c.d]) : F_is_code K [.dat c.d] k := ⟨c, hc, rfl, hk⟩
local macro_rules | `(tactic| walk_at "d1") => `(tactic| with_reducible refine u_is_code (by assumption) ?_)
theorem b_need_code (T : TX K mg) : ∀ args k, F_need_code K args k → ExS K (t_need_code K) (args ++ List.replicate (1 - args.length) .no) (fnOut args k) := by
  rintro args k ⟨c, hc, h⟩
  refine bodyD (Γ := [.dat c.d]) h rfl ?_
  unfold t_need_code
  repeat' walk_at "d1"
  all_goals rfl
theorem u_need_code {c : Code} {k : Sl → List Sl → Prop} (hc : c.Ok) (hk : k (.dat .none) [.dat c.d]) : F_need_code K [.dat c.d] k := ⟨c, hc, rfl, hk⟩
theorem b_need_hue (T : TX K mg) : ∀ args k, F_need_hue K args k → ExS K (t_need_hue K) (args ++ List.replicate (2 - args.length) .no) (fnOut args k) := by
  rintro args k ⟨c, hu, ⟨h0, h1⟩, h⟩
  refine bodyD (Γ := [.dat (.tuple [.tuple (iL c.votes), .int c.size, .tuple (c.cells.map cellD), .tuple (iL c.bank)]), .dat (.int hu)]) h rfl ?_
  unfold t_need_hue
  have l0 : (iL c.votes).length = c.votes.length := List.length_map ..
  repeat' walk_at "d1"
  all_goals rfl
theorem u_need_hue {c : Code} {hu : Int} {k : Sl → List Sl → Prop} (hh : 0 ≤ hu ∧ hu < c.votes.length) (hk : k (.dat .none) [.dat c.d, .dat (.int hu)]) : F_need_hue K [.dat c.d, .dat (.int hu)] k := ⟨c, hu, hh, rfl, hk⟩
theorem b_first_misfit (T : TX K mg) : ∀ args k, F_first_misfit K args k → ExS K (t_first_misfit K) (args ++ List.replicate (5 - args.length) .no) (fnOut args k) := by
  rintro args k ⟨d, h⟩
  refine bodyD (Γ := [.dat d, .dat (.tuple []), .no, .no, .no]) h rfl ?_
  unfold t_first_misfit
  repeat' walk_at "d1"
  refine x_for (i_enumU ?_)
  repeat' walk_at "d1"
  intro _
  refine ⟨fun i Γ => Γ = [.dat d, .dat (.tuple []), .dat (.int 0), .no, .no], rfl, fun _ _ _ _ => trivial, fun i Γ hi _ => absurd hi (Nat.not_lt_zero _), fun Γ e => ?_⟩
  subst e
  repeat' walk_at "d1"
theorem u_first_misfit {d : PyData} {k : Sl → List Sl → Prop} (hk : k (.dat .none) [.dat d, .dat (.tuple [])]) : F_first_misfit K [.dat d, .dat (.tuple [])] k := ⟨d, rfl, hk⟩
local macro_rules | `(tactic| walk_at "d1") => `(tactic| with_reducible refine u_first_misfit ?_)
theorem b_is_strike_list (T : TX K mg) : ∀ args k, F_is_strike_list K args k → ExS K (t_is_strike_list K) (args ++ List.replicate (1 - args.length) .no) (fnOut args k) := by
  rintro args k h
  refine bodyD (Γ := [.dat (.tuple [])]) h rfl ?_
  unfold t_is_strike_list
  repeat' walk_at "d1"
  all_goals rfl
theorem u_is_strike_list {k : Sl → List Sl → Prop} (hk : k (.dat (.bool true)) [.dat (.tuple [])]) : F_is_strike_list K [.dat (.tuple [])] k := ⟨rfl, hk⟩
local macro_rules | `(tactic| walk_at "d1") => `(tactic| with_reducible refine u_is_strike_list ?_)
theorem b_need_strikes (T : TX K mg) : ∀ args k, F_need_strikes K args k → ExS K (t_need_strikes K) (args ++ List.replicate (3 - args.length) .no) (fnOut args k) := by
  rintro args k ⟨d, h⟩
  refine bodyD (Γ := [.dat d, .dat (.tuple []), .no]) h rfl ?_
  unfold t_need_strikes
  repeat' walk_at "d1"
  all_goals rfl
theorem u_need_strikes {d : PyData} {k : Sl → List Sl → Prop} (hk : k (.dat .none) [.dat d, .dat (.tuple [])]) : F_need_strikes K [.dat d, .dat (.tuple [])] k := ⟨d, rfl, hk⟩
theorem b_need_inputs (T : TX K mg) : ∀ args k, F_need_inputs K args k → ExS K (t_need_inputs K) (args ++ List.replicate (1 - args.length) .no) (fnOut args k) := by
  rintro args k ⟨ns, hn, h⟩
  refine bodyD (Γ := [.dat (.tuple (iL ns))]) h rfl ?_
  unfold t_need_inputs
  repeat' walk_at "d1"
  all_goals rfl
theorem u_need_inputs {ns : List Int} {k : Sl → List Sl → Prop} (hn : ns.length ≤ 400 ∧ ∀ n ∈ ns, 0 ≤ n ∧ n ≤ 9999) (hk : k (.dat .none) [.dat (.tuple (iL ns))]) : F_need_inputs K [.dat (.tuple (iL ns))] k := ⟨ns, hn, rfl, hk⟩
theorem b_need_steps (T : TX K mg) : ∀ args k, F_need_steps K args k → ExS K (t_need_steps K) (args ++ List.replicate (1 - args.length) .no) (fnOut args k) := by
  rintro args k ⟨n, ⟨h0, h1⟩, h⟩
  refine bodyD (Γ := [.dat (.int n)]) h rfl ?_
  unfold t_need_steps
  repeat' walk_at "d1"
  all_goals rfl
theorem u_need_steps {n : Int} {k : Sl → List Sl → Prop} (hn : 0 ≤ n ∧ n ≤ 1000000) (hk : k (.dat .none) [.dat (.int n)]) : F_need_steps K [.dat (.int n)] k := ⟨n, hn, rfl, hk⟩
theorem b_most_agreed (T : TX K mg) : ∀ args k, F_most_agreed K args k → ExS K (t_most_agreed K) (args ++ List.replicate (4 - args.length) .no) (fnOut args k) := by
  rintro args k ⟨n, p, need, ⟨h1, h2⟩, h⟩
  obtain ⟨m, rfl⟩ : ∃ m, n = m + 1 := ⟨n - 1, by omega⟩
  have hr : iL (List.replicate (m + 1) p) = .int p :: iL (List.replicate m p) := rfl
  refine bodyD (Γ := [.dat (.list (.int p :: iL (List.replicate m p))), .dat (.int need), .no, .no]) h rfl ?_
  unfold t_most_agreed
  repeat' walk_at "d1"
  refine op_ix_d (d' := .int p) rfl (by simp [atI, ixN]) ?_
  repeat' walk_at "d1"
  refine e_count ?_
  repeat' walk_at "d1"
  refine ⟨List.replicate (m + 1) p, rfl, ?_⟩
  repeat' walk_at "d1"
theorem u_most_agreed {n : Nat} {p need : Int} {k : Sl → List Sl → Prop} (hn : 1 ≤ n ∧ need ≤ n) (hk : k (.dat (.int p)) [.dat (.list (iL (List.replicate n p))), .dat (.int need)]) : F_most_agreed K [.dat (.list (iL (List.replicate n p))), .dat (.int need)] k := ⟨n, p, need, hn, rfl, hk⟩
theorem b_worked_out (T : TX K mg) : ∀ args k, F_worked_out K args k → ExS K (t_worked_out K) (args ++ List.replicate (4 - args.length) .no) (fnOut args k) := fun _ _ h => h.elim
theorem b__wall (T : TX K mg) : ∀ args k, F__wall K args k → ExS K (t__wall K) (args ++ List.replicate (1 - args.length) .no) (fnOut args k) := fun _ _ h => h.elim
theorem b_empty_slots (T : TX K mg) : ∀ args k, F_empty_slots K args k → ExS K (t_empty_slots K) (args ++ List.replicate (2 - args.length) .no) (fnOut args k) := fun _ _ h => h.elim
end
end Hw
namespace Hw
open PySem PySem.Spec PyProof.Rows L2 Dl
section
variable {K : Frag} {mg : Str → Option Value} {Γ : List Sl} {k : Sl → List Sl → Prop} {O : Out}
theorem Hue.cs_len {h : Hue} : (h.cs K).length = 4 := rfl
theorem fm_get : ∀ {hs : List Hue} {i q : Nat} {h : Hue}, hs[i]? = some h → q < 4 → (hs.flatMap (Hue.cs K))[4 * i + q]? = (h.cs K)[q]?
  | [], _, _, _, e, _ => by simp at e
  | x :: hs, 0, q, h, e, hq => by
    simp at e
    subst e
    rw [List.flatMap_cons, List.getElem?_append_left (by rw [Hue.cs_len]; omega)]
    simp
  | x :: hs, i + 1, q, h, e, hq => by
    rw [List.flatMap_cons, List.getElem?_append_right (by rw [Hue.cs_len]; omega), Hue.cs_len, show 4 * (i + 1) + q - 4 = 4 * i + q by omega]
    exact fm_get (by simpa using e) hq
theorem fm_set {h' : Hue} : ∀ {hs : List Hue} {i q : Nat} {h : Hue} {c : Addr × Cell}, hs[i]? = some h → q < 4 → (h.cs K).set q c = h'.cs K → (hs.flatMap (Hue.cs K)).set (4 * i + q) c = (hs.set i h').flatMap (Hue.cs K)
  | [], _, _, _, _, e, _, _ => by simp at e
  | x :: hs, 0, q, h, c, e, hq, hc => by
    simp at e
    subst e
    rw [List.flatMap_cons, List.set_append_left _ _ (by rw [Hue.cs_len]; omega), List.set_cons_zero, List.flatMap_cons, ← hc]
    simp
  | x :: hs, i + 1, q, h, c, e, hq, hc => by
    rw [List.flatMap_cons, List.set_append_right _ _ (by rw [Hue.cs_len]; omega), Hue.cs_len, show 4 * (i + 1) + q - 4 = 4 * i + q by omega, List.set_cons_succ, List.flatMap_cons]
    rw [fm_set (by simpa using e) hq hc]
theorem cs_get {m : Mach} {i q : Nat} {h : Hue} (e : m.hues[i]? = some h) (hq : q < 4) : (m.cs K)[5 + 4 * i + q]? = (h.cs K)[q]? := by
  unfold Mach.cs
  rw [List.getElem?_append_right (by show 5 ≤ _; omega), show 5 + 4 * i + q - (m.top K).length = 4 * i + q by show 5 + 4 * i + q - 5 = _; omega]
  exact fm_get e hq
theorem cs_set {m : Mach} {i q : Nat} {h h' : Hue} {c : Addr × Cell} (e : m.hues[i]? = some h) (hq : q < 4) (hc : (h.cs K).set q c = h'.cs K) (hx : h'.x = h.x) : (m.cs K).set (5 + 4 * i + q) c = ({ m with hues := m.hues.set i h' }.cs K) := by
  unfold Mach.cs
  rw [List.set_append_right _ _ (by show 5 ≤ _; omega), show 5 + 4 * i + q - (m.top K).length = 4 * i + q by show 5 + 4 * i + q - 5 = _; omega, fm_set e hq hc]
  congr 1
  unfold Mach.top
  have : (m.hues.map fun h => Sl.raw (.ref h.x)) = ((m.hues.set i h').map fun h => Sl.raw (.ref h.x)) := by
    rw [List.map_set, hx]
    symm
    exact setSame (by rw [List.getElem?_map, e]; rfl)
  rw [this]
theorem m_field (T : TX K mg) {j q : Nat} {m : Mach} {f : Str} {u : Sl} (hj : Γ[j]? = some (.res (m.R K))) (hn : NoAttr K (He.ga K "Machine") f) (h1 : mN[q]? = some f)
    (h2 : ([.dat m.code.d, .raw (.ref m.ah), .raw (.ref m.al), .raw (.ref m.as_), .raw (.ref m.ar), .dat (.int m.steps), .dat (.str m.state), .dat m.addr] : List Sl)[q]? = some u) (hk : k u Γ) : EvP K (tFld K (tVar j) f) Γ k :=
  e_fld j 0 q (e_res hj ⟨_, _, _, _, _, _, u, rfl, hj, rfl, T.k_Machine, hn, h1, h2, hk⟩)
theorem f_code (T : TX K mg) {j : Nat} {m : Mach} (hj : Γ[j]? = some (.res (m.R K))) (hk : k (.dat m.code.d) Γ) : EvP K (tFld K (tVar j) "m_code") Γ k := m_field T (q := 0) hj T.na_Machine_m_code rfl rfl hk
theorem f_hues (T : TX K mg) {j : Nat} {m : Mach} (hj : Γ[j]? = some (.res (m.R K))) (hk : k (.raw (.ref m.ah)) Γ) : EvP K (tFld K (tVar j) "m_hues") Γ k := m_field T (q := 1) hj T.na_Machine_m_hues rfl rfl hk
theorem f_left (T : TX K mg) {j : Nat} {m : Mach} (hj : Γ[j]? = some (.res (m.R K))) (hk : k (.raw (.ref m.al)) Γ) : EvP K (tFld K (tVar j) "m_left") Γ k := m_field T (q := 2) hj T.na_Machine_m_left rfl rfl hk
theorem f_strikes (T : TX K mg) {j : Nat} {m : Mach} (hj : Γ[j]? = some (.res (m.R K))) (hk : k (.raw (.ref m.as_)) Γ) : EvP K (tFld K (tVar j) "m_strikes") Γ k := m_field T (q := 3) hj T.na_Machine_m_strikes rfl rfl hk
theorem f_row (T : TX K mg) {j : Nat} {m : Mach} (hj : Γ[j]? = some (.res (m.R K))) (hk : k (.raw (.ref m.ar)) Γ) : EvP K (tFld K (tVar j) "m_row") Γ k := m_field T (q := 4) hj T.na_Machine_m_row rfl rfl hk
theorem f_steps (T : TX K mg) {j : Nat} {m : Mach} (hj : Γ[j]? = some (.res (m.R K))) (hk : k (.dat (.int m.steps)) Γ) : EvP K (tFld K (tVar j) "m_steps") Γ k := m_field T (q := 5) hj T.na_Machine_m_steps rfl rfl hk
theorem f_state (T : TX K mg) {j : Nat} {m : Mach} (hj : Γ[j]? = some (.res (m.R K))) (hk : k (.dat (.str m.state)) Γ) : EvP K (tFld K (tVar j) "m_state") Γ k := m_field T (q := 6) hj T.na_Machine_m_state rfl rfl hk
theorem m_setf (T : TX K mg) {j q : Nat} {m m' : Mach} {f : Str} {te : TE} {s : Sl} (hn : NoAttr K (He.ga K "Machine") f) (h1 : mN[q]? = some f)
    (h : EvP K te Γ fun s' Γ1 => s' = s ∧ Pers s ∧ Γ1[j]? = some (.res (m.R K)) ∧ (m.cs K).set 0 (m.a, .ins (He.ga K "Machine") mN (([.dat m.code.d, .raw (.ref m.ah), .raw (.ref m.al), .raw (.ref m.as_), .raw (.ref m.ar), .dat (.int m.steps), .dat (.str m.state), .dat m.addr] : List Sl).set q s)) = m'.cs K ∧ m'.a = m.a ∧ O.nx (Γ1.set j (.res (m'.R K)))) :
    ExS K (sFld K (tVar j) te f) Γ O :=
  x_fld j 0 q (h.mono fun s' Γ1 ⟨e, hp, hj, hc, ha, ho⟩ => ⟨by rw [e]; exact hp, e_res hj ⟨_, _, _, _, _, _, rfl, hj, rfl, T.k_Machine, hn, h1, by decide, by
    subst e
    unfold Mach.R at ho
    rw [← hc, ha] at ho
    exact ho⟩⟩)
theorem x_steps (T : TX K mg) {j : Nat} {te : TE} (h : EvP K te Γ fun s Γ1 => ∃ (m : Mach) (n : Int), s = .dat (.int n) ∧ Γ1[j]? = some (.res (m.R K)) ∧ O.nx (Γ1.set j (.res ({ m with steps := n }.R K)))) : ExS K (sFld K (tVar j) te "m_steps") Γ O :=
  x_fld j 0 5 (h.mono fun s Γ1 ⟨m, n, e, hj, ho⟩ => ⟨by rw [e]; trivial, e_res hj ⟨_, _, _, _, _, _, rfl, hj, rfl, T.k_Machine, T.na_Machine_m_steps, rfl, by decide, by subst e; exact ho⟩⟩)
theorem x_state (T : TX K mg) {j : Nat} {te : TE} (h : EvP K te Γ fun s Γ1 => ∃ (m : Mach) (n : Str), s = .dat (.str n) ∧ Γ1[j]? = some (.res (m.R K)) ∧ O.nx (Γ1.set j (.res ({ m with state := n }.R K)))) : ExS K (sFld K (tVar j) te "m_state") Γ O :=
  x_fld j 0 6 (h.mono fun s Γ1 ⟨m, n, e, hj, ho⟩ => ⟨by rw [e]; trivial, e_res hj ⟨_, _, _, _, _, _, rfl, hj, rfl, T.k_Machine, T.na_Machine_m_state, rfl, by decide, by subst e; exact ho⟩⟩)
theorem x_addr (T : TX K mg) {j : Nat} {te : TE} (h : EvP K te Γ fun s Γ1 => ∃ (m : Mach) (d : PyData), s = .dat d ∧ Γ1[j]? = some (.res (m.R K)) ∧ O.nx (Γ1.set j (.res ({ m with addr := d }.R K)))) : ExS K (sFld K (tVar j) te "address") Γ O :=
  x_fld j 0 7 (h.mono fun s Γ1 ⟨m, n, e, hj, ho⟩ => ⟨by rw [e]; trivial, e_res hj ⟨_, _, _, _, _, _, rfl, hj, rfl, T.k_Machine, T.na_Machine_address, rfl, by decide, by subst e; exact ho⟩⟩)
theorem has_hues {j : Nat} {m : Mach} (hj : Γ[j]? = some (.res (m.R K))) : HasL Γ m.ah (m.hues.map fun h => .raw (.ref h.x)) := .s j 1 hj rfl
theorem has_left {j : Nat} {m : Mach} (hj : Γ[j]? = some (.res (m.R K))) : HasL Γ m.al ((iL m.left).map .dat) := .s j 2 hj rfl
theorem has_strikes {j : Nat} {m : Mach} (hj : Γ[j]? = some (.res (m.R K))) : HasL Γ m.as_ [] := .s j 3 hj rfl
theorem has_row {j : Nat} {m : Mach} (hj : Γ[j]? = some (.res (m.R K))) : HasL Γ m.ar (m.row.map .dat) := .s j 4 hj rfl
theorem h_field (T : TX K mg) {j i v q : Nat} {m : Mach} {h : Hue} {f : Str} {u : Sl} (hj : Γ[j]? = some (.res (m.R K))) (hi : m.hues[i]? = some h) (hv : Γ[v]? = some (.raw (.ref h.x))) (hn : NoAttr K (He.ga K "HueState") f) (h1 : hN[q]? = some f)
    (h2 : ([.raw (.ref h.r), .raw (.ref h.b), .dat (.int h.ptr), .dat h.slot, .raw (.ref h.c)] : List Sl)[q]? = some u) (hk : k u Γ) : EvP K (tFld K (tVar v) f) Γ k :=
  e_fld j (5 + 4 * i + 0) q (e_raw hv ⟨_, _, _, _, _, _, u, rfl, hj, (cs_get hi (by decide)).trans rfl, T.k_HueState, hn, h1, h2, hk⟩)
theorem h_fieldE (T : TX K mg) (j i q : Nat) {te : TE} {f : Str} (hn : NoAttr K (He.ga K "HueState") f) (h1 : hN[q]? = some f) (hh : EvP K te Γ fun s Γ1 => ∃ (m : Mach) (h : Hue) (u : Sl), s = .raw (.ref h.x) ∧ Γ1[j]? = some (.res (m.R K)) ∧ m.hues[i]? = some h ∧ ([.raw (.ref h.r), .raw (.ref h.b), .dat (.int h.ptr), .dat h.slot, .raw (.ref h.c)] : List Sl)[q]? = some u ∧ k u Γ1) : EvP K (tFld K te f) Γ k :=
  e_fld j (5 + 4 * i + 0) q (hh.mono fun s Γ1 ⟨m, h, u, e, hj, hi, h2, hk⟩ => ⟨_, _, _, _, _, _, u, e, hj, (cs_get hi (by decide)).trans rfl, T.k_HueState, hn, h1, h2, hk⟩)
theorem x_ptr (T : TX K mg) {j i v : Nat} {te : TE} (h : EvP K te Γ fun s Γ1 => ∃ (m : Mach) (h : Hue) (n : Int), s = .dat (.int n) ∧ Γ1[j]? = some (.res (m.R K)) ∧ m.hues[i]? = some h ∧ Γ1[v]? = some (.raw (.ref h.x)) ∧ O.nx (Γ1.set j (.res ({ m with hues := m.hues.set i { h with ptr := n } }.R K)))) : ExS K (sFld K (tVar v) te "m_pointer") Γ O :=
  x_fld j (5 + 4 * i + 0) 2 (h.mono fun s Γ1 ⟨m, h, n, e, hj, hi, hv, ho⟩ => ⟨by rw [e]; trivial, e_raw hv ⟨_, _, _, _, _, _, rfl, hj, (cs_get hi (by decide)).trans rfl, T.k_HueState, T.na_HueState_m_pointer, rfl, by decide, by
    subst e
    rw [cs_set (h' := { h with ptr := n }) hi (by decide) rfl rfl]
    exact ho⟩⟩)
theorem has_regs {j i : Nat} {m : Mach} {h : Hue} (hj : Γ[j]? = some (.res (m.R K))) (hi : m.hues[i]? = some h) : HasL Γ h.r ((iL h.regs).map .dat) := .s j (5 + 4 * i + 1) hj ((cs_get hi (by decide)).trans rfl)
theorem has_bank {j i : Nat} {m : Mach} {h : Hue} (hj : Γ[j]? = some (.res (m.R K))) (hi : m.hues[i]? = some h) : HasL Γ h.b ((iL h.bank).map .dat) := .s j (5 + 4 * i + 2) hj ((cs_get hi (by decide)).trans rfl)
def upTo (f : Hue → Hue) (i : Nat) (hs : List Hue) : List Hue := (hs.take i).map f ++ hs.drop i
theorem upTo_zero {f : Hue → Hue} {hs : List Hue} : upTo f 0 hs = hs := by simp [upTo]
theorem upTo_all {f : Hue → Hue} {hs : List Hue} : upTo f hs.length hs = hs.map f := by simp [upTo]
theorem upTo_len {f : Hue → Hue} {hs : List Hue} {i : Nat} : (upTo f i hs).length = hs.length := by simp [upTo]; omega
theorem upTo_get {f : Hue → Hue} {hs : List Hue} {i : Nat} {h : Hue} (e : hs[i]? = some h) : (upTo f i hs)[i]? = some h := by
  have hl : i < hs.length := (List.getElem?_eq_some_iff.mp e).1
  have h1 : ((hs.take i).map f).length = i := by simp; omega
  unfold upTo
  rw [List.getElem?_append_right (by omega), h1, Nat.sub_self, List.getElem?_drop]
  exact e
theorem upTo_set {f : Hue → Hue} {hs : List Hue} {i : Nat} {h : Hue} (e : hs[i]? = some h) : (upTo f i hs).set i (f h) = upTo f (i + 1) hs := by
  have hl : i < hs.length := (List.getElem?_eq_some_iff.mp e).1
  have h1 : ((hs.take i).map f).length = i := by simp; omega
  have h2 : hs[i] = h := (List.getElem?_eq_some_iff.mp e).2
  unfold upTo
  rw [List.set_append_right _ _ (by omega), h1, Nat.sub_self, List.drop_eq_getElem_cons hl, List.set_cons_zero, List.take_succ_eq_append_getElem hl, h2]
  simp
theorem upTo_x {f : Hue → Hue} (hf : ∀ h, (f h).x = h.x) {hs : List Hue} {i : Nat} : ((upTo f i hs).map fun h => Sl.raw (.ref h.x)) = hs.map fun h => Sl.raw (.ref h.x) := by
  unfold upTo
  rw [List.map_append, List.map_map]
  have : ((fun h : Hue => Sl.raw (.ref h.x)) ∘ f) = fun h : Hue => Sl.raw (.ref h.x) := funext fun h => by simp [hf]
  rw [this, ← List.map_append, List.take_append_drop]
theorem has_huesU {f : Hue → Hue} (hf : ∀ h, (f h).x = h.x) {j i : Nat} {m : Mach} (hj : Γ[j]? = some (.res ({ m with hues := upTo f i m.hues }.R K))) : HasL Γ m.ah (m.hues.map fun h => .raw (.ref h.x)) := by
  have q := has_hues hj
  rw [show ({ m with hues := upTo f i m.hues } : Mach).hues = upTo f i m.hues from rfl, upTo_x hf] at q
  exact q
theorem hue_sl {hs : List Hue} {i : Nat} {h : Hue} (e : hs[i]? = some h) : (hs.map fun h => Sl.raw (.ref h.x)).getD i .no = .raw (.ref h.x) := by
  rw [List.getD_eq_getElem?_getD, List.getElem?_map, e]; rfl
theorem hue_at {hs : List Hue} {i : Nat} (h : i < hs.length) : ∃ x, hs[i]? = some x := ⟨_, List.getElem?_eq_getElem h⟩
theorem b_yes {kb : Bool → List Sl → Prop} (h : kb true Γ) : EvB K tYes Γ kb := fun σ S H fs Q w P => P true Γ S H fs h w Step.refl
theorem e_lcH (T : TX K mg) {j v : Nat} {m : Mach} {f : Str} {g : Hue → PyData} (hj : Γ[j]? = some (.res (m.R K))) (hjv : v ≠ j) (hv : v < Γ.length)
    (hf : ∀ (Γ' : List Sl) (i : Nat) (h : Hue) (k' : Sl → List Sl → Prop), Γ'[j]? = some (.res (m.R K)) → m.hues[i]? = some h → Γ'[v]? = some (.raw (.ref h.x)) → k' (.dat (g h)) Γ' → EvP K (tFld K (tVar v) f) Γ' k')
    (hk : k (.dat (.list (m.hues.map g))) (Γ.set v .no)) : EvP K (tLc (iSq K (tFld K (tVar j) "m_hues")) (gName v) tYes (tFld K (tVar v) f) [v]) Γ k := by
  have hj2 : (Γ.set v .no)[j]? = some (.res (m.R K)) := by rw [List.getElem?_set_ne hjv]; exact hj
  refine e_lc (sets_name (by simp)) gm_name (i_sqC (f_hues T hj ⟨_, _, rfl, has_hues hj, fun hz => ?_⟩))
  refine ⟨fun i acc Γ' => acc = (m.hues.take i).map g ∧ Γ' = Γ.set v .no, by simpa using hz, ⟨by simp, rfl⟩, fun i acc Γ' hi ⟨_, e⟩ => ?_, fun i acc Γ' hi hl ⟨ea, e⟩ => ?_, fun acc Γ' hl ⟨ea, e⟩ => ?_⟩
  · rw [e]
    exact has_hues hj2
  · rw [List.length_map] at hi
    obtain ⟨h, hh⟩ := hue_at hi
    rw [e]
    show EvG K (gName v) ((m.hues.map fun h => Sl.raw (.ref h.x)).getD i .no) _ _
    rw [hue_sl hh]
    refine g_name (b_yes ⟨fun _ => ?_, fun z => by cases z⟩)
    rw [List.set_set]
    refine hf _ i h _ (by rw [List.getElem?_set_ne hjv]; exact hj) hh (List.getElem?_set_self hv) ⟨_, rfl, ?_, ?_⟩
    · rw [ea, List.take_succ_eq_append_getElem hi, List.map_append, (List.getElem?_eq_some_iff.mp hh).2]
      rfl
    · show (Γ.set v (.raw (.ref h.x))).set v .no = Γ.set v .no
      rw [List.set_set]
  · rw [List.length_map, List.take_length] at ea
    rw [ea, e]
    exact hk
theorem e_lcPtr (T : TX K mg) {j v : Nat} {m : Mach} (hj : Γ[j]? = some (.res (m.R K))) (hjv : v ≠ j) (hv : v < Γ.length) (hk : k (.dat (.list (m.hues.map fun h => .int h.ptr))) (Γ.set v .no)) :
    EvP K (tLc (iSq K (tFld K (tVar j) "m_hues")) (gName v) tYes (tFld K (tVar v) "m_pointer") [v]) Γ k :=
  e_lcH T hj hjv hv (fun Γ' i h k' h1 h2 h3 h4 => h_field T (q := 2) h1 h2 h3 T.na_HueState_m_pointer rfl rfl h4) hk
theorem e_lcSlot (T : TX K mg) {j v : Nat} {m : Mach} (hj : Γ[j]? = some (.res (m.R K))) (hjv : v ≠ j) (hv : v < Γ.length) (hk : k (.dat (.list (m.hues.map fun h => h.slot))) (Γ.set v .no)) :
    EvP K (tLc (iSq K (tFld K (tVar j) "m_hues")) (gName v) tYes (tFld K (tVar v) "m_slot") [v]) Γ k :=
  e_lcH T hj hjv hv (fun Γ' i h k' h1 h2 h3 h4 => h_field T (q := 3) h1 h2 h3 T.na_HueState_m_slot rfl rfl h4) hk
theorem at_ptrs {m : Mach} {p : Int} (A : m.At p) : (m.hues.map fun h => PyData.int h.ptr) = iL (List.replicate m.hues.length p) := by
  rw [iL, List.map_replicate]
  refine List.eq_replicate_iff.mpr ⟨by simp, fun b hb => ?_⟩
  obtain ⟨h, hm, rfl⟩ := List.mem_map.mp hb
  rw [A.ptr h hm]
theorem votes_last {vs : List Int} (h : votesOk vs) : ∃ v, atI (iL vs) ((vs.length : Int) - 1) = some (.int v) ∧ v ≤ vs.length := by
  obtain ⟨h1, h5, hv⟩ := h
  have hl : (iL vs).length = vs.length := List.length_map ..
  have hg : vs[vs.length - 1]? = some (vs[vs.length - 1]'(by omega)) := List.getElem?_eq_getElem (by omega)
  refine ⟨vs[vs.length - 1]'(by omega), ?_, ?_⟩
  · unfold atI ixN
    rw [hl, if_pos (by omega), if_pos (by omega)]
    show (iL vs)[((vs.length : Int) - 1).toNat]? = _
    rw [show ((vs.length : Int) - 1).toNat = vs.length - 1 by omega, iL, List.getElem?_map, hg]
    rfl
  · have := (hv _ _ hg).2
    omega
theorem atI_hue {hs : List Hue} {i : Nat} {h : Hue} (hi : hs[i]? = some h) : atI (hs.map fun h => Sl.raw (.ref h.x)) (i : Int) = some (.raw (.ref h.x)) := by
  have hlt : i < hs.length := (List.getElem?_eq_some_iff.mp hi).1
  unfold atI ixN
  rw [List.length_map, if_pos (by omega), if_pos (by omega)]
  show (hs.map _)[(i : Int).toNat]? = _
  rw [Int.toNat_natCast, List.getElem?_map, hi]
  rfl
theorem modify_set {hs : List Hue} {i : Nat} {h : Hue} {f : Hue → Hue} (hi : hs[i]? = some h) : hs.modify i f = hs.set i (f h) := by
  apply List.ext_getElem?
  intro n
  rw [List.getElem?_modify, List.getElem?_set]
  by_cases e : i = n
  · subst e
    simp [(List.getElem?_eq_some_iff.mp hi).1, (List.getElem?_eq_some_iff.mp hi).2]
  · simp [e]
theorem atI_int {ns : List Int} {r v : Int} (h0 : 0 ≤ r) (hv : ns[r.toNat]? = some v) : atI ((iL ns).map Sl.dat) r = some (.dat (.int v)) := by
  have hlt : r.toNat < ns.length := (List.getElem?_eq_some_iff.mp hv).1
  unfold atI ixN iL
  rw [List.length_map, List.length_map, if_pos h0, if_pos (by omega)]
  show ((ns.map PyData.int).map Sl.dat)[r.toNat]? = _
  rw [List.getElem?_map, List.getElem?_map, hv]
  rfl
theorem atI_cell {cs : List CellT} {p : Int} {c : CellT} (h0 : 0 ≤ p) (hc : cs[p.toNat]? = some c) : atI (cs.map cellD) p = some (cellD c) := by
  have hlt : p.toNat < cs.length := (List.getElem?_eq_some_iff.mp hc).1
  unfold atI ixN
  rw [List.length_map, if_pos h0, if_pos (by omega)]
  show (cs.map cellD)[p.toNat]? = _
  rw [List.getElem?_map, hc]
  rfl
theorem e_row {j v : Nat} {m : Mach} {ta : TA} (hj : Γ[j]? = some (.res (m.R K))) (hv : Γ[v]? = some (.raw (.ref m.ar))) (h : EvA K ta Γ fun rs Γ2 => ∃ d, Γ2[j]? = some (.res (m.R K)) ∧ rs = [.dat d] ∧ m.row.length < 100000 ∧ k (.dat .none) (Γ2.set j (.res ({ m with row := m.row ++ [d] }.R K)))) : EvP K (tBM K "list" rAppend (tVar v) ta) Γ k :=
  e_appC j 4 (e_raw hv ⟨_, rfl, ⟨_, _, _, hj, rfl⟩, h.mono fun rs Γ2 ⟨d, h1, h2, h3, h4⟩ => ⟨_, _, _, .dat d, trivial, h1, rfl, h2, by
    rw [List.length_map]
    exact Nat.lt_of_lt_of_le h3 (by decide), by
    have e : (m.cs K).set 4 (m.ar, .lst (m.row.map .dat ++ [.dat d])) = ({ m with row := m.row ++ [d] } : Mach).cs K := by
      unfold Mach.cs Mach.top
      rw [List.map_append]
      rfl
    show k (.dat .none) (Γ2.set j (.res (star (.ref m.a) ((m.cs K).set 4 (m.ar, .lst (m.row.map .dat ++ [.dat d]))))))
    rw [e]
    exact h4⟩⟩)
theorem e_popL (T : TX K mg) {j : Nat} {m : Mach} {n : Int} {rest : List Int} (hj : Γ[j]? = some (.res (m.R K))) (hl : m.left = n :: rest) (hk : k (.dat (.int n)) (Γ.set j (.res ({ m with left := rest }.R K)))) : EvP K (tBM K "list" rPopAt (tFld K (tVar j) "m_left") (tCons (tC (.int 0)) tNil)) Γ k :=
  e_pop0C j 2 (f_left T hj ⟨_, rfl, ⟨_, _, _, hj, rfl⟩, a_cons (e_int (a_nil ⟨_, _, .dat (.int n), (iL rest).map .dat, hj, by
    show some (m.al, Cell.lst ((iL m.left).map .dat)) = _
    rw [hl]
    rfl, rfl, hk⟩))⟩)
theorem g_reg {j i v : Nat} {m : Mach} {h : Hue} {ti : TE} {n r : Int} {kn : List Sl → Prop} (hv : Γ[v]? = some (.raw (.ref h.r))) (hk : EvP K ti Γ fun s Γ2 => s = .dat (.int r) ∧ Γ2[j]? = some (.res (m.R K)) ∧ m.hues[i]? = some h ∧ h.regs.length = 8 ∧ (0 ≤ r ∧ r ≤ 7) ∧ kn (Γ2.set j (.res ({ m with hues := m.hues.set i (setReg r.toNat n h) }.R K)))) : EvG K (gSub (tVar v) ti rSetL) (.dat (.int n)) Γ kn :=
  g_subC j (5 + 4 * i + 1) trivial (e_raw hv (hk.mono fun s Γ2 ⟨e, hj, hi, hl, ⟨h0, h7⟩, hkn⟩ => ⟨_, _, _, _, r, r.toNat, rfl, e, hj, (cs_get hi (by decide)).trans rfl, by
    unfold ixN iL
    rw [List.length_map, List.length_map, hl, if_pos h0, if_pos (by omega)], by
    have e2 : (h.cs K).set 1 (h.r, .lst (((iL h.regs).map Sl.dat).set r.toNat (.dat (.int n)))) = (setReg r.toNat n h).cs K := by
      unfold Hue.cs setReg iL
      simp only [List.map_set]
      rfl
    rw [cs_set (h' := setReg r.toNat n h) hi (by decide) e2 rfl]
    exact hkn⟩))
theorem cut_take {ss : List Sl} {w : Int} (h0 : 0 ≤ w) (h1 : w ≤ ss.length) : cutG ss none (some w) = ss.take w.toNat := by
  unfold cutG
  show (ss.drop 0).take ((if w < 0 then (w + (ss.length : Int)).toNat else min w.toNat ss.length) - 0) = _
  rw [if_neg (by omega), List.drop_zero, Nat.sub_zero, Nat.min_eq_left (by omega)]
theorem take_sl {hs : List Hue} {i w : Nat} {h : Hue} (hw : i < w) (e : hs[i]? = some h) : ((hs.map fun h => Sl.raw (.ref h.x)).take w).getD i .no = .raw (.ref h.x) := by
  rw [List.getD_eq_getElem?_getD, List.getElem?_take, if_pos hw, List.getElem?_map, e]; rfl
theorem atI_hueI {hs : List Hue} {i : Int} {h : Hue} (h0 : 0 ≤ i) (hi : hs[i.toNat]? = some h) : atI (hs.map fun h => Sl.raw (.ref h.x)) i = some (.raw (.ref h.x)) := by
  have q := atI_hue hi
  rwa [Int.toNat_of_nonneg h0] at q
end
end Hw
namespace Hw
open PySem PySem.Spec PyProof.Rows L2 Dl
local macro_rules | `(tactic| walk_at "dbt") => `(tactic| first | assumption | rfl | (decide +kernel) | (simp [isFromD, *]; done) | (simp [isFromD, *]; omega))
local macro_rules | `(tactic| walk_at "d1") => `(tactic| first
  | with_reducible refine x_seq ?_ | with_reducible refine x_if' ?_ | with_reducible refine x_ret ?_ | with_reducible refine x_asg ?_ | with_reducible refine x_next ?_ | with_reducible refine x_expr ?_
  | with_reducible refine e_isi2 (by decide) (by decide) ?_
  | with_reducible refine e_dat rfl ?_ | with_reducible refine e_int ?_ | with_reducible refine e_str ?_ | with_reducible refine e_bl ?_ | with_reducible refine e_non ?_ | with_reducible refine e_op ?_ | with_reducible refine e_cb ?_ | with_reducible refine e_call ?_
  | with_reducible refine a_cons ?_ | with_reducible refine a_nil ?_
  | with_reducible refine b_test ?_ | with_reducible refine b_not ?_ | with_reducible refine b_and' ?_ | with_reducible refine b_or' ?_ | with_reducible refine b_tru ?_
  | with_reducible refine e_andV' ?_ | with_reducible refine e_orV' ?_ | with_reducible refine e_notV ?_ | with_reducible refine e_chain' ?_ | with_reducible refine e_if' ?_ | with_reducible refine e_c ?_ | with_reducible refine e_sl ?_ | with_reducible refine o_no ?_ | with_reducible refine o_some ?_ | with_reducible refine e_neg ?_
  | with_reducible refine e_raw rfl ?_ | with_reducible refine e_res rfl ?_ | with_reducible refine g_name ?_
  | with_reducible refine op_add_i ?_ | with_reducible refine op_sub_i ?_ | with_reducible refine op_lt_i ?_ | with_reducible refine op_le_i ?_ | with_reducible refine op_gt_i ?_ | with_reducible refine op_ge_i ?_ | with_reducible refine op_isnone ?_ | with_reducible refine op_notnone ?_
  | with_reducible refine cb_isi (by decide) ?_ | with_reducible refine cb_max2 ?_ | with_reducible refine cb_min2 ?_ | with_reducible refine cb_abs ?_ | with_reducible refine cb_int ?_ | with_reducible refine cb_len rfl ?_
  | with_reducible refine iteT ?_ | with_reducible refine iteF ?_ | ((with_reducible refine iT ?_ ?_); focus (walk_at "dbt"; done)) | ((with_reducible refine iF ?_ ?_); focus (walk_at "dbt"; done))
  | ((with_reducible refine g_tup ?_ ?_); (focus rfl)) | with_reducible refine gs_cons ?_ | with_reducible refine gs_nil ?_
  | with_reducible refine e_tup' ?_ | with_reducible refine e_lst' ?_ | with_reducible refine op_in2 ?_ | with_reducible refine op_ni3 ?_
  | with_reducible refine op_eq_ii ?_ | with_reducible refine op_ne_ii ?_ | ((with_reducible refine op_eq_ss ?_ ?_ ?_); (focus (decide +kernel)); (focus (decide +kernel))) | ((with_reducible refine op_ne_ss ?_ ?_ ?_); (focus (decide +kernel)); (focus (decide +kernel)))
  | ((with_reducible refine op_eq_d ?_ ?_ ?_); (focus (walk_at "dbt")); (focus (walk_at "dbt")))
  | ((with_reducible refine op_ne_d ?_ ?_ ?_); (focus (walk_at "dbt")); (focus (walk_at "dbt")))
  | ((with_reducible refine op_ix' ?_); refine Exists.intro _ (Exists.intro _ (And.intro rfl (And.intro rfl ?_))))
  | ((with_reducible refine op_mul_il ?_ ?_); (focus (decide +kernel))) | ((with_reducible refine op_mul_ir ?_ ?_); (focus (decide +kernel)))
  | ((with_reducible refine And.intro (a := smallL _ = true) ?_ ?_); (focus rfl)) | ((with_reducible refine And.intro (a := Pers _) ?_ ?_); (focus trivial)) | with_reducible refine d_cons ?_ | with_reducible refine d_nil ?_
  | (with_reducible refine Exists.intro _ (And.intro rfl ?_)) | (with_reducible refine Exists.intro _ (Exists.intro _ (And.intro rfl (And.intro rfl ?_)))) | refine Exists.intro _ (And.intro rfl (And.intro (by rfl) ?_)) | refine Exists.intro _ (Exists.intro _ (And.intro rfl (And.intro rfl ?_))) | with_reducible refine dat_ok ?_ | dsimp only | fail)
local macro_rules | `(tactic| walk_at "d1") => `(tactic| first | with_reducible refine f_code (by assumption) rfl ?_ | with_reducible refine f_hues (by assumption) rfl ?_ | with_reducible refine f_left (by assumption) rfl ?_ | with_reducible refine f_strikes (by assumption) rfl ?_ | with_reducible refine f_row (by assumption) rfl ?_ | with_reducible refine f_steps (by assumption) rfl ?_ | with_reducible refine f_state (by assumption) rfl ?_ | with_reducible refine e_callR ?_)
section
variable {K : Frag} {mg : Str → Option Value}
theorem b_point_all (T : TX K mg) : ∀ args k, F_point_all K args k → ExS K (t_point_all K) (args ++ List.replicate (3 - args.length) .no) (fnOut args k) := by
  rintro args k ⟨m, p, rfl, h⟩
  show ExS K _ [.res (m.R K), .dat (.int p), .no] _
  unfold t_point_all
  refine x_for (i_sqC ?_)
  repeat' walk_at "d1"
  refine ⟨_, _, rfl, has_hues (j := 0) rfl, fun _ => ⟨fun i Γ => ∃ x, Γ = [.res ({ m with hues := upTo (pointTo p) i m.hues }.R K), .dat (.int p), x], ⟨_, by rw [upTo_zero]⟩, ?_, ?_, ?_⟩⟩
  · rintro i Γ hi ⟨x, rfl⟩
    exact has_huesU (f := pointTo p) (fun _ => rfl) (j := 0) rfl
  · rintro i Γ hi ⟨x, rfl⟩
    rw [List.length_map] at hi
    obtain ⟨h, hh⟩ := hue_at hi
    rw [hue_sl hh]
    refine g_name (x_ptr T (j := 0) (i := i) ?_)
    repeat' walk_at "d1"
    refine ⟨_, h, p, rfl, rfl, upTo_get hh, rfl, ?_⟩
    exact ⟨_, by rw [← upTo_set hh]; rfl⟩
  · rintro Γ ⟨x, rfl⟩
    rw [List.length_map, upTo_all]
    exact ⟨_, h, .res rfl (.dat .nil)⟩
theorem u_point_all {m : Mach} {p : Int} {k : Sl → List Sl → Prop} (h : k (.dat .none) [.res ((m.point p).R K), .dat (.int p)]) : F_point_all K [.res (m.R K), .dat (.int p)] k := ⟨m, p, rfl, h⟩
theorem b_strikes_due (T : TX K mg) : ∀ args k, F_strikes_due K args k → ExS K (t_strikes_due K) (args ++ List.replicate (6 - args.length) .no) (fnOut args k) := by
  rintro args k ⟨m, rfl, h⟩
  show ExS K _ [.res (m.R K), .no, .no, .no, .no, .no] _
  unfold t_strikes_due
  repeat' walk_at "d1"
  refine x_while (fun _ Γ => Γ = [.res (m.R K), .raw (.ref m.as_), .no, .no, .no, .no]) ⟨0, rfl⟩ ?_
  rintro _ Γ rfl
  repeat' walk_at "d1"
  refine op_neC (ds := []) (has_strikes (j := 0) rfl) (by decide +kernel) (by decide +kernel) ?_
  repeat' walk_at "d1"
  exact ⟨(fun z => by cases z), fun _ => ⟨_, h, .res rfl .nil⟩⟩
theorem u_strikes_due {m : Mach} {k : Sl → List Sl → Prop} (h : k (.dat .none) [.res (m.R K)]) : F_strikes_due K [.res (m.R K)] k := ⟨m, rfl, h⟩
theorem b_machine_address (T : TX K mg) : ∀ args k, F_machine_address K args k → ExS K (t_machine_address K) (args ++ List.replicate (5 - args.length) .no) (fnOut args k) := by
  rintro args k ⟨m, p, A, ⟨h0, h1⟩, rfl, h⟩
  show ExS K _ [.res (m.R K), .no, .no, .no, .no] _
  unfold t_machine_address
  refine x_seq (x_par (by decide) ?_)
  repeat' walk_at "d1"
  refine ⟨_, _, rfl, ?_⟩
  repeat' walk_at "d1"
  refine e_lcPtr T (j := 0) rfl (by decide) (by simp) ?_
  rw [at_ptrs A]
  repeat' walk_at "d1"
  obtain ⟨v, hv, hle⟩ := votes_last A.code.votes
  have l0 : (iL m.code.votes).length = m.code.votes.length := List.length_map ..
  rw [l0]
  refine op_ix_d rfl hv ?_
  repeat' walk_at "d1"
  refine u_most_agreed ⟨by rw [A.hues]; exact A.code.votes.1, by rw [A.hues]; exact hle⟩ ?_
  have l2 : (m.code.cells.map cellD).length = m.code.cells.length := List.length_map ..
  repeat' walk_at "d1"
  exact ⟨_, h, .res rfl .nil⟩
theorem u_machine_address {m : Mach} {p : Int} {k : Sl → List Sl → Prop} (A : m.At p) (hp : 0 ≤ p ∧ p < m.code.cells.length) (h : k (.dat (.int p)) [.res (m.R K)]) : F_machine_address K [.res (m.R K)] k := ⟨m, p, A, hp, rfl, h⟩
theorem b_next_address (T : TX K mg) : ∀ args k, F_next_address K args k → ExS K (t_next_address K) (args ++ List.replicate (1 - args.length) .no) (fnOut args k) := by
  rintro args k ⟨m, p, A, hp, rfl, h⟩
  show ExS K _ [.res (m.R K)] _
  unfold t_next_address
  have sk1 : PyData.strOk sRun = true := by decide +kernel
  have sk2 : PyData.strOk sStop = true := by decide +kernel
  repeat' walk_at "d1"
  rcases A.state with e | e
  · rw [e, if_pos rfl] at h
    rw [e]
    refine op_eq_ss sk1 sk1 ?_
    repeat' walk_at "d1"
    exact u_machine_address A (hp e) ⟨_, rfl, rfl, rfl, _, h, .res rfl .nil⟩
  · rw [e, if_neg (by decide +kernel)] at h
    rw [e]
    refine op_eq_ss sk2 sk1 ?_
    repeat' walk_at "d1"
    exact ⟨_, h, .res rfl .nil⟩
theorem u_next_address {m : Mach} {p : Int} {k : Sl → List Sl → Prop} (A : m.At p) (hp : m.state = sRun → 0 ≤ p ∧ p < m.code.cells.length) (h : k (.dat (if m.state = sRun then .int p else .none)) [.res (m.R K)]) : F_next_address K [.res (m.R K)] k := ⟨m, p, A, hp, rfl, h⟩
theorem b_Machine_row (T : TX K mg) : ∀ args k, F_Machine_row K args k → ExS K (t_Machine_row K) (args ++ List.replicate (1 - args.length) .no) (fnOut args k) := by
  rintro args k ⟨m, rfl, h⟩
  show ExS K _ [.res (m.R K)] _
  unfold t_Machine_row
  repeat' walk_at "d1"
  exact cb_listC (has_row (j := 0) rfl) ⟨_, h, .res rfl .nil⟩
theorem b_Machine_left (T : TX K mg) : ∀ args k, F_Machine_left K args k → ExS K (t_Machine_left K) (args ++ List.replicate (1 - args.length) .no) (fnOut args k) := by
  rintro args k ⟨m, rfl, h⟩
  show ExS K _ [.res (m.R K)] _
  unfold t_Machine_left
  repeat' walk_at "d1"
  exact cb_listC (has_left (j := 0) rfl) ⟨_, h, .res rfl .nil⟩
theorem b_Machine_state (T : TX K mg) : ∀ args k, F_Machine_state K args k → ExS K (t_Machine_state K) (args ++ List.replicate (1 - args.length) .no) (fnOut args k) := by
  rintro args k ⟨m, rfl, h⟩
  show ExS K _ [.res (m.R K)] _
  unfold t_Machine_state
  repeat' walk_at "d1"
  exact ⟨_, h, .res rfl .nil⟩
theorem b_Machine_slots (T : TX K mg) : ∀ args k, F_Machine_slots K args k → ExS K (t_Machine_slots K) (args ++ List.replicate (2 - args.length) .no) (fnOut args k) := by
  rintro args k ⟨m, hl, rfl, h⟩
  show ExS K _ [.res (m.R K), .no] _
  unfold t_Machine_slots
  repeat' walk_at "d1"
  refine e_lcSlot T (j := 0) rfl (by decide) (by simp) ?_
  repeat' walk_at "d1"
  exact cb_tuple rfl ⟨_, h, .res rfl .nil⟩
theorem b_Machine_registers (T : TX K mg) : ∀ args k, F_Machine_registers K args k → ExS K (t_Machine_registers K) (args ++ List.replicate (2 - args.length) .no) (fnOut args k) := by
  rintro args k ⟨m, i, h, hi, hl, rfl, hk⟩
  show ExS K _ [.res (m.R K), .dat (.int i)] _
  unfold t_Machine_registers
  have hlt : i < m.hues.length := (List.getElem?_eq_some_iff.mp hi).1
  repeat' walk_at "d1"
  refine u_need_hue ⟨by omega, by omega⟩ ?_
  repeat' walk_at "d1"
  refine h_fieldE T 0 i 0 T.na_HueState_m_registers rfl ?_
  repeat' walk_at "d1"
  refine op_ixL (has_hues (j := 0) rfl) (u := .raw (.ref h.x)) ?_ ⟨_, _, _, rfl, rfl, hi, rfl, ?_⟩
  · exact atI_hue hi
  repeat' walk_at "d1"
  exact cb_tupleC (has_regs (j := 0) rfl hi) ⟨_, hk, .res rfl (.dat .nil)⟩
theorem b_Machine_cells (T : TX K mg) : ∀ args k, F_Machine_cells K args k → ExS K (t_Machine_cells K) (args ++ List.replicate (2 - args.length) .no) (fnOut args k) := by
  rintro args k ⟨m, i, h, hi, hl, rfl, hk⟩
  show ExS K _ [.res (m.R K), .dat (.int i)] _
  unfold t_Machine_cells
  have hlt : i < m.hues.length := (List.getElem?_eq_some_iff.mp hi).1
  repeat' walk_at "d1"
  refine u_need_hue ⟨by omega, by omega⟩ ?_
  repeat' walk_at "d1"
  refine h_fieldE T 0 i 1 T.na_HueState_m_bank rfl ?_
  repeat' walk_at "d1"
  refine op_ixL (has_hues (j := 0) rfl) (u := .raw (.ref h.x)) ?_ ⟨_, _, _, rfl, rfl, hi, rfl, ?_⟩
  · exact atI_hue hi
  repeat' walk_at "d1"
  exact cb_tupleC (has_bank (j := 0) rfl hi) ⟨_, hk, .res rfl (.dat .nil)⟩
theorem b_HueState_instructed (T : TX K mg) : ∀ args k, F_HueState_instructed K args k → ExS K (t_HueState_instructed K) (args ++ List.replicate (7 - args.length) .no) (fnOut args k) := by
  rintro args k ⟨m, i, h, hh, r, size, v, hi, ⟨h0, h7⟩, hv, rfl, hk⟩
  show ExS K _ [.res (star (.ref h.x) (m.cs K)), .dat (.tuple [.int hh, .str (PySem.Str.ofString "offer"), .int r]), .dat (.int size), .no, .no, .no, .no] _
  have hcs : (m.cs K)[5 + 4 * i + 0]? = some (h.x, .ins (He.ga K "HueState") hN [.raw (.ref h.r), .raw (.ref h.b), .dat (.int h.ptr), .dat h.slot, .raw (.ref h.c)]) := (cs_get hi (by decide)).trans rfl
  have hrg : (m.cs K)[5 + 4 * i + 1]? = some (h.r, .lst ((iL h.regs).map .dat)) := (cs_get hi (by decide)).trans rfl
  unfold t_HueState_instructed
  refine x_seq (x_par3 (a_cons (e_fld 0 (5 + 4 * i + 0) 0 (e_res rfl ⟨_, _, _, _, _, _, .raw (.ref h.r), rfl, rfl, hcs, T.k_HueState, T.na_HueState_m_registers, rfl, rfl, ?_⟩))))
  repeat' walk_at "d1"
  refine ⟨_, _, _, rfl, ?_⟩
  repeat' walk_at "d1"
  refine x_fld 0 (5 + 4 * i + 0) 3 ?_
  repeat' walk_at "d1"
  refine op_ixL (.s 0 (5 + 4 * i + 1) rfl hrg) (atI_int h0 hv) ⟨trivial, ?_⟩
  repeat' walk_at "d1"
  refine ⟨_, _, _, _, _, _, rfl, rfl, hcs, T.k_HueState, T.na_HueState_m_slot, rfl, by decide, _, hk, ?_⟩
  have e : (m.cs K).set (5 + 4 * i + 0) (h.x, .ins (He.ga K "HueState") hN [.raw (.ref h.r), .raw (.ref h.b), .dat (.int h.ptr), .dat (.int v), .raw (.ref h.c)]) = (setSlot m i (.int v)).cs K := by
    rw [cs_set (h' := { h with slot := .int v }) hi (by decide) rfl rfl]
    unfold setSlot
    rw [modify_set hi]
  show Keep _ _ [.res (star (.ref h.x) ((m.cs K).set (5 + 4 * i + 0) (h.x, .ins (He.ga K "HueState") hN [.raw (.ref h.r), .raw (.ref h.b), .dat (.int h.ptr), .dat (.int v), .raw (.ref h.c)]))), _, _, _, _, _, _]
  rw [e]
  exact .res rfl (.dat (.dat .nil))
theorem set0 {x y : Sl} {l : List Sl} : (x :: l).set 0 y = y :: l := rfl
theorem take_loop (T : TX K mg) {O : Out} {m : Mach} {c d : PyData} {s4 : V} {r w n : Int} {g : Hue → Hue} (hw : 0 ≤ w ∧ w ≤ m.hues.length) (hr : 0 ≤ r ∧ r ≤ 7) (h8 : ∀ h ∈ m.hues, h.regs.length = 8) (hc : ∃ ds, c = .tuple [ds, .int r, .int w])
    (h : ∀ x y, O.nx [.res ({ m with hues := upTo (setReg r.toNat n) w.toNat m.hues }.R K), .dat c, .dat d, .dat (.str (PySem.Str.ofString "take")), .raw s4, .no, .no, .no, .dat (.int n), x, y]) :
    ExS K (tFor (iSq K (tSl (rSlU K) (tFld K (tVar 0) (PySem.Str.ofString "m_hues")) tNoPart (tPart (tOp (uIx K) (tVar 1) (tC (.int 2)))))) (gName 9) (tSeq (tAsg (tFld K (tVar 9) (PySem.Str.ofString "m_registers")) (gName 10)) (tAsg (tVar 8) (gSub (tVar 10) (tOp (uIx K) (tVar 1) (tC (.int 1))) rSetL))))
      [.res (m.R K), .dat c, .dat d, .dat (.str (PySem.Str.ofString "take")), .raw s4, .no, .no, .no, .dat (.int n), .no, .no] O := by
  obtain ⟨ds, rfl⟩ := hc
  refine x_for (i_slC ?_)
  repeat' walk_at "d1"
  refine ⟨_, _, rfl, has_hues (j := 0) rfl, ?_⟩
  have hl : (m.hues.map fun h => Sl.raw (.ref h.x)).length = m.hues.length := List.length_map ..
  rw [cut_take hw.1 (by rw [hl]; exact hw.2)]
  have hl2 : ((m.hues.map fun h => Sl.raw (.ref h.x)).take w.toNat).length = w.toNat := by rw [List.length_take, hl]; omega
  refine ⟨fun i Γ => ∃ x y, Γ = [.res ({ m with hues := upTo (setReg r.toNat n) i m.hues }.R K), .dat (.tuple [ds, .int r, .int w]), .dat d, .dat (.str (PySem.Str.ofString "take")), .raw s4, .no, .no, .no, .dat (.int n), x, y], ⟨_, _, by rw [upTo_zero]⟩, fun _ _ _ _ => trivial, ?_, ?_⟩
  · rintro i Γ hi ⟨x, y, rfl⟩
    rw [hl2] at hi
    obtain ⟨h, hh⟩ := hue_at (hs := m.hues) (i := i) (by omega)
    show EvG K (gName 9) (((m.hues.map fun h => Sl.raw (.ref h.x)).take w.toNat).getD i .no) _ _
    rw [take_sl hi hh]
    refine g_name (x_seq (x_asg ?_))
    refine h_field T (j := 0) (i := i) (v := 9) (h := h) (q := 0) rfl (upTo_get hh) rfl T.na_HueState_m_registers rfl rfl ?_
    repeat' walk_at "d1"
    refine g_reg (m := { m with hues := upTo (setReg r.toNat n) i m.hues }) (r := r) (j := 0) (i := i) (v := 10) (h := h) rfl ?_
    repeat' walk_at "d1"
    refine ⟨rfl, rfl, upTo_get hh, h8 h (List.mem_of_getElem? hh), hr, .raw (.ref h.x), .raw (.ref h.r), ?_⟩
    rw [← upTo_set hh]
    rfl
  · rintro Γ ⟨x, y, rfl⟩
    rw [hl2]
    exact h x y
theorem b_settle_done (T : TX K mg) : ∀ args k, F_settle_done K args k → ExS K (t_settle_done K) (args ++ List.replicate (11 - args.length) .no) (fnOut args k) := by
  rintro args k ⟨m, c, p, A, ⟨hc, hno⟩, rfl, hk⟩
  cases c with
  | offer h r => exact absurd rfl (hno h r)
  | take r w =>
    show ExS K _ [.res (m.R K), .dat (.tuple [.str (PySem.Str.ofString "take"), .int r, .int w]), .dat (.int (p + 1)), .no, .no, .no, .no, .no, .no, .no, .no] _
    unfold t_settle_done
    refine x_seq (x_par (by decide) ?_)
    repeat' walk_at "d1"
    refine ⟨_, _, rfl, ?_⟩
    repeat' walk_at "d1"
    obtain ⟨h0, h7, w1, w2⟩ := hc
    have h8 : ∀ h ∈ (m.point (p + 1)).hues, h.regs.length = 8 := fun h hh => by
      obtain ⟨h', hm, rfl⟩ := List.mem_map.mp hh
      exact A.regs h' hm
    have hlen : (m.point (p + 1)).hues.length = m.code.votes.length := by
      rw [← A.hues]
      exact List.length_map ..
    refine op_neC (has_left (j := 0) rfl) (shaped_list shp_ints) (by decide +kernel) ?_
    cases hl : m.left with
    | nil =>
      refine ⟨false, rfl, ?_⟩
      repeat' walk_at "d1"
      refine u_point_all ⟨_, rfl, rfl, rfl, ?_⟩
      repeat' walk_at "d1"
      refine e_row (j := 0) (v := 4) rfl rfl ?_
      repeat' walk_at "d1"
      refine ⟨A.row, ?_⟩
      refine take_loop T (g := id) (m := { m.point (p + 1) with row := m.row ++ [.tuple [.str wTake, .int 0]] }) ⟨by omega, by rw [hlen]; omega⟩ ⟨h0, h7⟩ h8 ⟨_, rfl⟩ fun x y => ⟨_, hk, ?_⟩
      have e : ({ stepM m p (.take r w) with steps := m.steps } : Mach) = { ({ m.point (p + 1) with row := m.row ++ [.tuple [.str wTake, .int 0]] } : Mach) with hues := upTo (setReg r.toNat 0) w.toNat (m.point (p + 1)).hues } := by
        obtain ⟨a, ah, al, as_, ar, code, left, row, steps, state, addr, hues⟩ := m
        have hl : left = [] := hl
        subst hl
        rfl
      rw [e]
      exact .res rfl (.dat (.dat .nil))
    | cons n rest =>
      refine ⟨true, rfl, ?_⟩
      repeat' walk_at "d1"
      refine e_popL T rfl hl ?_
      repeat' walk_at "d1"
      refine op_mod_i (by have := A.code.size; omega) ?_
      repeat' walk_at "d1"
      refine u_point_all ⟨_, rfl, rfl, rfl, ?_⟩
      repeat' walk_at "d1"
      refine e_row (j := 0) (v := 4) rfl rfl ?_
      repeat' walk_at "d1"
      refine ⟨A.row, ?_⟩
      refine take_loop T (g := id) (m := { ({ m with left := rest } : Mach).point (p + 1) with row := m.row ++ [.tuple [.str wTake, .int (n % m.code.size)]] }) ⟨by omega, by
        have : ({ ({ m with left := rest } : Mach).point (p + 1) with row := m.row ++ [.tuple [.str wTake, .int (n % m.code.size)]] } : Mach).hues.length = m.code.votes.length := hlen
        rw [this]; omega⟩ ⟨h0, h7⟩ h8 ⟨_, rfl⟩ fun x y => ⟨_, hk, ?_⟩
      have e : ({ stepM m p (.take r w) with steps := m.steps } : Mach) = { ({ ({ m with left := rest } : Mach).point (p + 1) with row := m.row ++ [.tuple [.str wTake, .int (n % m.code.size)]] } : Mach) with hues := upTo (setReg r.toNat (n % m.code.size)) w.toNat (m.point (p + 1)).hues } := by
        obtain ⟨a, ah, al, as_, ar, code, left, row, steps, state, addr, hues⟩ := m
        have hl : left = n :: rest := hl
        subst hl
        rfl
      rw [e]
      exact .res rfl (.dat (.dat .nil))
  | stop =>
    show ExS K _ [.res (m.R K), .dat (.tuple [.str (PySem.Str.ofString "stop")]), .dat (.int (p + 1)), .no, .no, .no, .no, .no, .no, .no, .no] _
    unfold t_settle_done
    refine x_seq (x_par (by decide) ?_)
    repeat' walk_at "d1"
    refine ⟨_, _, rfl, ?_⟩
    repeat' walk_at "d1"
    refine u_point_all ⟨_, rfl, rfl, rfl, ?_⟩
    repeat' walk_at "d1"
    refine e_row (j := 0) (v := 4) rfl rfl ?_
    repeat' walk_at "d1"
    refine ⟨A.row, x_state T (j := 0) ?_⟩
    repeat' walk_at "d1"
    exact ⟨_, hk, .res rfl (.dat (.dat .nil))⟩
theorem u_settle_done {m : Mach} {c : CellT} {p : Int} {k : Sl → List Sl → Prop} (A : m.At p) (hc : cellOk m.code.votes.length c ∧ ∀ h r, c ≠ .offer h r) (hk : k (.dat .none) [.res ({ stepM m p c with steps := m.steps }.R K), .dat (cellD c), .dat (.int (p + 1))]) : F_settle_done K [.res (m.R K), .dat (cellD c), .dat (.int (p + 1))] k := ⟨m, c, p, A, hc, rfl, hk⟩
theorem Mach.At.steps {m : Mach} {p n : Int} (A : m.At p) : ({ m with steps := n } : Mach).At p := ⟨A.code, A.hues, A.ptr, A.regs, A.row, A.state⟩
theorem b_machine_step (T : TX K mg) : ∀ args k, F_machine_step K args k → ExS K (t_machine_step K) (args ++ List.replicate (5 - args.length) .no) (fnOut args k) := by
  rintro args k ⟨m, c, p, A, ⟨hp, hc⟩, rfl, hk⟩
  show ExS K _ [.res (m.R K), .no, .no, .no, .no] _
  have hlt : p.toNat < m.code.cells.length := (List.getElem?_eq_some_iff.mp hc).1
  have hok := A.code.cells.2.2 c (List.mem_of_getElem? hc)
  have A1 : ({ m with steps := m.steps + 1 } : Mach).At p := A.steps
  unfold t_machine_step
  refine x_seq (x_par (by decide) ?_)
  repeat' walk_at "d1"
  refine u_machine_address A ⟨hp, by omega⟩ ⟨_, rfl, rfl, rfl, ?_⟩
  repeat' walk_at "d1"
  refine ⟨_, _, rfl, ?_⟩
  repeat' walk_at "d1"
  refine x_steps T (j := 0) ?_
  repeat' walk_at "d1"
  refine op_ix_d rfl (atI_cell hp hc) ?_
  repeat' walk_at "d1"
  cases c with
  | offer h r =>
    unfold cellD
    repeat' walk_at "d1"
    refine u_is_settle ?_
    repeat' walk_at "d1"
    obtain ⟨hh0, hh1, hr0, hr7⟩ := hok
    obtain ⟨q, hq⟩ := hue_at (hs := m.hues) (i := h.toNat) (by rw [A.hues]; omega)
    have h8 := A.regs q (List.mem_of_getElem? hq)
    obtain ⟨v, hv⟩ : ∃ v, q.regs[r.toNat]? = some v := ⟨_, List.getElem?_eq_getElem (by omega)⟩
    have hq1 : (({ m with steps := m.steps + 1 } : Mach).point (p + 1)).hues[h.toNat]? = some (pointTo (p + 1) q) := by
      show (m.hues.map (pointTo (p + 1)))[h.toNat]? = _
      rw [List.getElem?_map, hq]
      rfl
    have hval : ((m.hues.map fun h => h.regs.getD r.toNat 0).getD h.toNat 0) = v := by
      rw [List.getD_eq_getElem?_getD, List.getElem?_map, hq]
      show q.regs.getD r.toNat 0 = v
      rw [List.getD_eq_getElem?_getD, hv]
      rfl
    refine u_point_all ⟨_, rfl, rfl, rfl, ?_⟩
    repeat' walk_at "d1"
    refine op_ixL (has_hues (j := 0) rfl) (u := .raw (.ref (pointTo (p + 1) q).x)) (atI_hueI hh0 hq1) ?_
    repeat' walk_at "d1"
    refine e_methP 0 (5 + 4 * h.toNat + 0) ?_
    repeat' walk_at "d1"
    refine ⟨_, _, _, _, _, rfl, rfl, (cs_get hq1 (by decide)).trans rfl, by decide, ?_⟩
    refine a_cons (e_dget2E 0 (5 + 4 * h.toNat + 3) (h_field T (j := 0) (i := h.toNat) (v := 2) (q := 4) rfl hq1 rfl T.na_HueState_m_changed rfl rfl ?_))
    refine ⟨_, rfl, ⟨_, _, rfl, (cs_get hq1 (by decide)).trans rfl⟩, ?_⟩
    repeat' walk_at "d1"
    refine ⟨⟨_, _, rfl, (cs_get hq1 (by decide)).trans rfl⟩, ?_⟩
    repeat' walk_at "d1"
    refine ⟨_, h.toNat, pointTo (p + 1) q, h, r, _, v, hq1, ⟨hr0, hr7⟩, hv, rfl, ⟨_, rfl, rfl, _, hk, ?_⟩⟩
    have e : stepM m p (.offer h r) = setSlot (({ m with steps := m.steps + 1 } : Mach).point (p + 1)) h.toNat (.int v) := by
      rw [← hval]
      rfl
    rw [e]
    exact .res rfl .nil
  | take r w =>
    unfold cellD
    repeat' walk_at "d1"
    refine u_is_settle ?_
    repeat' walk_at "d1"
    refine u_settle_done (m := { m with steps := m.steps + 1 }) (c := .take r w) A1 ⟨hok, fun h r e => by cases e⟩ ⟨_, rfl, rfl, rfl, ?_⟩
    repeat' walk_at "d1"
    exact x_retN ⟨_, hk, .res rfl .nil⟩
  | stop =>
    unfold cellD
    repeat' walk_at "d1"
    refine u_is_settle ?_
    repeat' walk_at "d1"
    refine u_settle_done (m := { m with steps := m.steps + 1 }) (c := .stop) A1 ⟨hok, fun h r e => by cases e⟩ ⟨_, rfl, rfl, rfl, ?_⟩
    repeat' walk_at "d1"
    exact x_retN ⟨_, hk, .res rfl .nil⟩
end
end Hw
namespace Hw
open PySem PySem.Spec PyProof.Rows L2 Dl
local macro_rules | `(tactic| walk_at "dbt") => `(tactic| first | assumption | rfl | (decide +kernel) | (simp [isFromD, *]; done) | (simp [isFromD, *]; omega))
local macro_rules | `(tactic| walk_at "d1") => `(tactic| first
  | with_reducible refine x_seq ?_ | with_reducible refine x_if' ?_ | with_reducible refine x_ret ?_ | with_reducible refine x_asg ?_ | with_reducible refine x_next ?_ | with_reducible refine x_expr ?_
  | with_reducible refine e_isi2 (by decide) (by decide) ?_
  | with_reducible refine e_dat rfl ?_ | with_reducible refine e_int ?_ | with_reducible refine e_str ?_ | with_reducible refine e_bl ?_ | with_reducible refine e_non ?_ | with_reducible refine e_op ?_ | with_reducible refine e_cb ?_ | with_reducible refine e_call ?_
  | with_reducible refine a_cons ?_ | with_reducible refine a_nil ?_
  | with_reducible refine b_test ?_ | with_reducible refine b_not ?_ | with_reducible refine b_and' ?_ | with_reducible refine b_or' ?_ | with_reducible refine b_tru ?_
  | with_reducible refine e_andV' ?_ | with_reducible refine e_orV' ?_ | with_reducible refine e_notV ?_ | with_reducible refine e_chain' ?_ | with_reducible refine e_if' ?_ | with_reducible refine e_c ?_ | with_reducible refine e_sl ?_ | with_reducible refine o_no ?_ | with_reducible refine o_some ?_ | with_reducible refine e_neg ?_
  | with_reducible refine e_raw rfl ?_ | with_reducible refine e_res rfl ?_ | with_reducible refine g_name ?_
  | with_reducible refine op_add_i ?_ | with_reducible refine op_sub_i ?_ | with_reducible refine op_lt_i ?_ | with_reducible refine op_le_i ?_ | with_reducible refine op_gt_i ?_ | with_reducible refine op_ge_i ?_ | with_reducible refine op_isnone ?_ | with_reducible refine op_notnone ?_
  | with_reducible refine cb_isi (by decide) ?_ | with_reducible refine cb_max2 ?_ | with_reducible refine cb_min2 ?_ | with_reducible refine cb_abs ?_ | with_reducible refine cb_int ?_ | with_reducible refine cb_len rfl ?_
  | with_reducible refine iteT ?_ | with_reducible refine iteF ?_ | ((with_reducible refine iT ?_ ?_); focus (walk_at "dbt"; done)) | ((with_reducible refine iF ?_ ?_); focus (walk_at "dbt"; done))
  | ((with_reducible refine g_tup ?_ ?_); (focus rfl)) | with_reducible refine gs_cons ?_ | with_reducible refine gs_nil ?_
  | with_reducible refine e_tup' ?_ | with_reducible refine e_lst' ?_ | with_reducible refine op_in2 ?_ | with_reducible refine op_ni3 ?_
  | with_reducible refine op_eq_ii ?_ | with_reducible refine op_ne_ii ?_ | ((with_reducible refine op_eq_ss ?_ ?_ ?_); (focus (decide +kernel)); (focus (decide +kernel))) | ((with_reducible refine op_ne_ss ?_ ?_ ?_); (focus (decide +kernel)); (focus (decide +kernel)))
  | ((with_reducible refine op_eq_d ?_ ?_ ?_); (focus (walk_at "dbt")); (focus (walk_at "dbt")))
  | ((with_reducible refine op_ne_d ?_ ?_ ?_); (focus (walk_at "dbt")); (focus (walk_at "dbt")))
  | ((with_reducible refine op_ix' ?_); refine Exists.intro _ (Exists.intro _ (And.intro rfl (And.intro rfl ?_))))
  | ((with_reducible refine op_mul_il ?_ ?_); (focus (decide +kernel))) | ((with_reducible refine op_mul_ir ?_ ?_); (focus (decide +kernel)))
  | ((with_reducible refine And.intro (a := smallL _ = true) ?_ ?_); (focus rfl)) | ((with_reducible refine And.intro (a := Pers _) ?_ ?_); (focus trivial)) | with_reducible refine d_cons ?_ | with_reducible refine d_nil ?_
  | (with_reducible refine Exists.intro _ (And.intro rfl ?_)) | (with_reducible refine Exists.intro _ (Exists.intro _ (And.intro rfl (And.intro rfl ?_)))) | refine Exists.intro _ (And.intro rfl (And.intro (by rfl) ?_)) | refine Exists.intro _ (Exists.intro _ (And.intro rfl (And.intro rfl ?_))) | with_reducible refine dat_ok ?_ | dsimp only | fail)
local macro_rules | `(tactic| walk_at "d1") => `(tactic| first | with_reducible refine f_code (by assumption) rfl ?_ | with_reducible refine f_hues (by assumption) rfl ?_ | with_reducible refine f_left (by assumption) rfl ?_ | with_reducible refine f_strikes (by assumption) rfl ?_ | with_reducible refine f_row (by assumption) rfl ?_ | with_reducible refine f_steps (by assumption) rfl ?_ | with_reducible refine f_state (by assumption) rfl ?_ | with_reducible refine e_callR ?_)
section
variable {K : Frag} {mg : Str → Option Value}
theorem Goes.at_ {n : Nat} {m m' : Mach} {p p' : Int} (g : Goes n m p m' p') : m.At p := by cases g <;> assumption
theorem Goes.end_ {n : Nat} {m m' : Mach} {p p' : Int} (g : Goes n m p m' p') (h : n = 0 ∨ m.state ≠ sRun) : m' = m ∧ p' = p := by
  cases g with
  | zero => exact ⟨rfl, rfl⟩
  | halt => exact ⟨rfl, rfl⟩
  | step h1 h2 h3 h4 h5 =>
    rcases h with h | h
    · cases h
    · exact absurd h2 h
theorem stepM_a {m : Mach} {p : Int} {c : CellT} : (stepM m p c).a = m.a := by cases c <;> rfl
theorem Goes.a_eq {n : Nat} {m m' : Mach} {p p' : Int} (g : Goes n m p m' p') : m'.a = m.a := by
  induction g with
  | zero => rfl
  | halt => rfl
  | step _ _ _ _ _ ih => rw [ih, stepM_a]
theorem u_machine_step {m : Mach} {c : CellT} {p : Int} {k : Sl → List Sl → Prop} (A : m.At p) (hp : 0 ≤ p ∧ m.code.cells[p.toNat]? = some c) (hk : k (.dat .none) [.res ((stepM m p c).R K)]) : F_machine_step K [.res (m.R K)] k := ⟨m, c, p, A, hp, rfl, hk⟩
theorem b_Machine_go (T : TX K mg) : ∀ args k, F_Machine_go K args k → ExS K (t_Machine_go K) (args ++ List.replicate (3 - args.length) .no) (fnOut args k) := by
  rintro args k ⟨m, m', n, p, p', G, hp', hn, rfl, hk⟩
  show ExS K _ [.res (m.R K), .dat (.int n), .no] _
  unfold t_Machine_go
  repeat' walk_at "d1"
  refine u_need_steps ⟨by omega, by omega⟩ ?_
  repeat' walk_at "d1"
  refine x_while (fun t Γ => ∃ m p, Goes t m p m' p' ∧ Γ = [.res (m.R K), .dat (.int n), .dat (.int t)]) ⟨n, m, p, G, rfl⟩ ?_
  rintro t Γ ⟨m1, p1, G1, rfl⟩
  have sk1 : PyData.strOk sRun = true := by decide +kernel
  have sk2 : PyData.strOk sStop = true := by decide +kernel
  have ha : m'.a = m.a := G.a_eq
  have fin : m' = m1 ∧ p' = p1 → ExS K (sFld K (tVar 0) (tCallR 0 (spOf K (F_next_address K)) E0 (tCons (tVar 0) tNil)) (PySem.Str.ofString "address")) [.res (m1.R K), .dat (.int n), .dat (.int t)] (fnOut [.res (m.R K), .dat (.int n)] k) := by
    rintro ⟨rfl, rfl⟩
    refine x_addr T (j := 0) ?_
    repeat' walk_at "d1"
    refine u_next_address G1.at_ hp' ⟨_, rfl, rfl, rfl, ?_⟩
    repeat' walk_at "d1"
    exact ⟨_, hk, .res (congrArg V.ref ha) (.dat .nil)⟩
  cases t with
  | zero =>
    repeat' walk_at "d1"
    exact ⟨(fun z => by cases z), fun _ => fin (G1.end_ (.inl rfl))⟩
  | succ t =>
    repeat' walk_at "d1"
    rcases G1.at_.state with e | e
    · rw [e]
      refine op_eq_ss sk1 sk1 ⟨true, rfl, fun _ => ?_, (fun z => by cases z)⟩
      cases G1 with
      | halt _ h => exact absurd e h
      | step A1 _ hp1 hc1 G2 =>
        repeat' walk_at "d1"
        refine u_strikes_due ⟨_, rfl, rfl, rfl, ?_⟩
        repeat' walk_at "d1"
        refine u_machine_step A1 ⟨hp1, hc1⟩ ⟨_, rfl, congrArg V.ref stepM_a, rfl, ?_⟩
        refine ⟨t, by omega, _, _, G2, ?_⟩
        have ht : ((t + 1 : Nat) : Int) - 1 = t := by omega
        rw [ht]
        rfl
    · have hne : m1.state ≠ sRun := by rw [e]; decide +kernel
      rw [e]
      exact op_eq_ss sk2 sk1 ⟨false, rfl, (fun z => by cases z), fun _ => fin (G1.end_ (.inr hne))⟩
theorem b_HueState___init__ (T : TX K mg) : ∀ args k, F_HueState___init__ K args k → ExS K (t_HueState___init__ K) (args ++ List.replicate (2 - args.length) .no) (fnOut args k) := by
  rintro args k ⟨x, bank, rfl, hk⟩
  show ExS K _ [.res (star (.ref x) [(x, .ins (He.ga K "HueState") [] [])]), .dat (.tuple (iL bank))] _
  unfold t_HueState___init__
  refine x_seq (x_selfL (e_op (e_lstO' ?_)))
  repeat' walk_at "d1"
  intro a0
  repeat' walk_at "d1"
  refine op_repO (by decide) (by decide) (by decide) fun r => ⟨_, _, _, _, _, _, _, rfl, cells_own, rfl, T.k_HueState, T.na_HueState_m_registers, by decide, by decide, ?_⟩
  refine x_seq (x_selfL (e_cb ?_))
  repeat' walk_at "d1"
  refine cb_listO rfl fun b => ⟨_, _, _, _, _, _, _, rfl, cells_own, rfl, T.k_HueState, T.na_HueState_m_bank, by decide, by decide, ?_⟩
  refine x_seq (x_selfD (e_int ⟨_, _, _, _, _, trivial, rfl, T.k_HueState, T.na_HueState_m_pointer, by decide, by decide, ?_⟩))
  refine x_seq (x_selfD (e_non ⟨_, _, _, _, _, trivial, rfl, T.k_HueState, T.na_HueState_m_slot, by decide, by decide, ?_⟩))
  refine x_selfL (e_dnew fun c => ⟨_, _, _, _, _, _, _, rfl, cells_star, rfl, T.k_HueState, T.na_HueState_m_changed, by decide, by decide, ?_⟩)
  exact ⟨_, hk r b c, .res rfl (.dat .nil)⟩
theorem b_Machine___init__ (T : TX K mg) : ∀ args k, F_Machine___init__ K args k → ExS K (t_Machine___init__ K) (args ++ List.replicate (5 - args.length) .no) (fnOut args k) := by
  rintro args k ⟨x, c, ns, hc, hn, rfl, hk⟩
  show ExS K _ [.res (star (.ref x) [(x, .ins (He.ga K "Machine") [] [])]), .dat c.d, .dat (.tuple (iL ns)), .dat (.tuple []), .no] _
  unfold t_Machine___init__
  repeat' walk_at "d1"
  refine u_need_code hc ?_
  repeat' walk_at "d1"
  refine u_need_inputs hn ?_
  repeat' walk_at "d1"
  refine u_need_strikes ?_
  refine x_seq (x_selfD (e_dat rfl ⟨_, _, _, _, _, trivial, rfl, T.k_Machine, T.na_Machine_m_code, by decide, by decide, ?_⟩))
  refine x_seq (x_selfL (e_lcS (sets_name (by simp)) gm_name (i_sq ?_)))
  repeat' walk_at "d1"
  intro hz
  refine ⟨fun i acc Γ => ∃ hs : List Hue, hs.length = i ∧ (∀ h ∈ hs, ∃ x r b d, h = newHue x r b d c.bank) ∧ acc = hs.map (fun h => .raw (.ref h.x)) ∧ Γ = [.res (star (.ref x) ((x, .ins (He.ga K "Machine") ["m_code"] [.dat c.d]) :: hs.flatMap (Hue.cs K))), .dat c.d, .dat (.tuple (iL ns)), .dat (.tuple []), .no], hz, ⟨[], rfl, (fun h hh => by cases hh), rfl, rfl⟩, fun _ _ _ _ _ => trivial, ?_, ?_⟩
  · rintro i acc Γ hi hl ⟨hs, hlen, hall, rfl, hΓ⟩
    rw [hΓ]
    refine g_name (b_yes ⟨fun _ => ?_, fun z => by cases z⟩)
    refine e_absorb 0 (e_make (dvs := []) (dss := []) (fun _ => .nil) ?_)
    repeat' walk_at "d1"
    intro y
    refine ⟨y, c.bank, rfl, fun r b d => ⟨rfl, _, rfl, rfl, _, _, _, _, rfl, cells_star, rfl, trivial, hs ++ [newHue y r b d c.bank], ?_, ?_, ?_, ?_⟩⟩
    · rw [List.length_append, hlen]; rfl
    · intro h hh
      rcases List.mem_append.mp hh with q | q
      · exact hall h q
      · simp only [List.mem_singleton] at q
        exact ⟨y, r, b, d, q⟩
    · rw [List.map_append]; rfl
    · rw [List.flatMap_append]
      simp [wipeA]
  · rintro acc Γ hl ⟨hs, hlen, hall, rfl, hΓ⟩ D
    rw [hΓ]
    refine ⟨_, _, _, _, _, _, _, rfl, cells_star, rfl, T.k_Machine, T.na_Machine_m_hues, by decide, by decide, ?_⟩
    refine x_seq (x_selfL (e_cb ?_))
    repeat' walk_at "d1"
    refine cb_listO rfl fun al => ⟨_, _, _, _, _, _, _, rfl, cells_own, rfl, T.k_Machine, T.na_Machine_m_left, by decide, by decide, ?_⟩
    refine x_seq (x_selfL (e_cb ?_))
    repeat' walk_at "d1"
    refine cb_listO rfl fun as_ => ⟨_, _, _, _, _, _, _, rfl, cells_own, rfl, T.k_Machine, T.na_Machine_m_strikes, by decide, by decide, ?_⟩
    refine x_seq (x_selfL (e_lstO' (a_nil ⟨[], rfl, rfl, fun ar => ⟨_, _, _, _, _, _, _, rfl, cells_own, rfl, T.k_Machine, T.na_Machine_m_row, by decide, by decide, ?_⟩⟩)))
    refine x_seq (x_selfD (e_int ⟨_, _, _, _, _, trivial, rfl, T.k_Machine, T.na_Machine_m_steps, by decide, by decide, ?_⟩))
    refine x_seq (x_selfD (e_str ⟨_, _, _, _, _, trivial, rfl, T.k_Machine, T.na_Machine_m_state, by decide, by decide, ?_⟩))
    refine x_perm 0 (Θ' := (x, .ins (He.ga K "Machine") ["m_code", "m_hues", "m_left", "m_strikes", "m_row", "m_steps", "m_state"] [.dat c.d, .raw (.ref D), .raw (.ref al), .raw (.ref as_), .raw (.ref ar), .dat (.int 0), .dat (.str sRun)]) :: ([(D, .lst (hs.map fun h => .raw (.ref h.x))), (al, .lst ((iL ns).map .dat)), (as_, .lst []), (ar, .lst [])] ++ hs.flatMap (Hue.cs K))) rfl ?_ ?_
    · refine List.Perm.cons _ ?_
      simp only [List.append_assoc]
      exact List.perm_append_comm
    · refine x_selfD (e_int ⟨_, _, _, _, _, trivial, rfl, T.k_Machine, T.na_Machine_address, by decide, by decide, ?_⟩)
      refine ⟨_, hk (newM x D al as_ ar c ns hs) ⟨D, al, as_, ar, hs, rfl, ?_, hall⟩, .res rfl (.dat (.dat (.dat .nil)))⟩
      rw [hlen]
      exact List.length_map ..
end
end Hw
namespace Hw
open PySem PySem.Spec PyProof.Rows L2 Dl
local macro_rules | `(tactic| walk_at "dbt") => `(tactic| first | assumption | rfl | (decide +kernel) | (simp [isFromD, *]; done) | (simp [isFromD, *]; omega))
local macro_rules | `(tactic| walk_at "d1") => `(tactic| first
  | with_reducible refine x_seq ?_ | with_reducible refine x_if' ?_ | with_reducible refine x_ret ?_ | with_reducible refine x_asg ?_ | with_reducible refine x_next ?_ | with_reducible refine x_expr ?_
  | with_reducible refine e_isi2 (by decide) (by decide) ?_
  | with_reducible refine e_dat rfl ?_ | with_reducible refine e_int ?_ | with_reducible refine e_str ?_ | with_reducible refine e_bl ?_ | with_reducible refine e_non ?_ | with_reducible refine e_op ?_ | with_reducible refine e_cb ?_ | with_reducible refine e_call ?_
  | with_reducible refine a_cons ?_ | with_reducible refine a_nil ?_
  | with_reducible refine b_test ?_ | with_reducible refine b_not ?_ | with_reducible refine b_and' ?_ | with_reducible refine b_or' ?_ | with_reducible refine b_tru ?_
  | with_reducible refine e_andV' ?_ | with_reducible refine e_orV' ?_ | with_reducible refine e_notV ?_ | with_reducible refine e_chain' ?_ | with_reducible refine e_if' ?_ | with_reducible refine e_c ?_ | with_reducible refine e_sl ?_ | with_reducible refine o_no ?_ | with_reducible refine o_some ?_ | with_reducible refine e_neg ?_
  | with_reducible refine e_raw rfl ?_ | with_reducible refine e_res rfl ?_ | with_reducible refine g_name ?_
  | with_reducible refine op_add_i ?_ | with_reducible refine op_sub_i ?_ | with_reducible refine op_lt_i ?_ | with_reducible refine op_le_i ?_ | with_reducible refine op_gt_i ?_ | with_reducible refine op_ge_i ?_ | with_reducible refine op_isnone ?_ | with_reducible refine op_notnone ?_
  | with_reducible refine cb_isi (by decide) ?_ | with_reducible refine cb_max2 ?_ | with_reducible refine cb_min2 ?_ | with_reducible refine cb_abs ?_ | with_reducible refine cb_int ?_ | with_reducible refine cb_len rfl ?_
  | with_reducible refine iteT ?_ | with_reducible refine iteF ?_ | ((with_reducible refine iT ?_ ?_); focus (walk_at "dbt"; done)) | ((with_reducible refine iF ?_ ?_); focus (walk_at "dbt"; done))
  | ((with_reducible refine g_tup ?_ ?_); (focus rfl)) | with_reducible refine gs_cons ?_ | with_reducible refine gs_nil ?_
  | with_reducible refine e_tup' ?_ | with_reducible refine e_lst' ?_ | with_reducible refine op_in2 ?_ | with_reducible refine op_ni3 ?_
  | with_reducible refine op_eq_ii ?_ | with_reducible refine op_ne_ii ?_ | ((with_reducible refine op_eq_ss ?_ ?_ ?_); (focus (decide +kernel)); (focus (decide +kernel))) | ((with_reducible refine op_ne_ss ?_ ?_ ?_); (focus (decide +kernel)); (focus (decide +kernel)))
  | ((with_reducible refine op_eq_d ?_ ?_ ?_); (focus (walk_at "dbt")); (focus (walk_at "dbt")))
  | ((with_reducible refine op_ne_d ?_ ?_ ?_); (focus (walk_at "dbt")); (focus (walk_at "dbt")))
  | ((with_reducible refine op_ix' ?_); refine Exists.intro _ (Exists.intro _ (And.intro rfl (And.intro rfl ?_))))
  | ((with_reducible refine op_mul_il ?_ ?_); (focus (decide +kernel))) | ((with_reducible refine op_mul_ir ?_ ?_); (focus (decide +kernel)))
  | ((with_reducible refine And.intro (a := smallL _ = true) ?_ ?_); (focus rfl)) | ((with_reducible refine And.intro (a := Pers _) ?_ ?_); (focus trivial)) | with_reducible refine d_cons ?_ | with_reducible refine d_nil ?_
  | (with_reducible refine Exists.intro _ (And.intro rfl ?_)) | (with_reducible refine Exists.intro _ (Exists.intro _ (And.intro rfl (And.intro rfl ?_)))) | refine Exists.intro _ (And.intro rfl (And.intro (by rfl) ?_)) | refine Exists.intro _ (Exists.intro _ (And.intro rfl (And.intro rfl ?_))) | with_reducible refine dat_ok ?_ | dsimp only | fail)
section
variable {K : Frag} {mg : Str → Option Value} {Γ : List Sl} {k : Sl → List Sl → Prop} {O : Out}
theorem PS.mono {t t' : Nat} {r : Res} (h : PS t r) (l : t ≤ t') : PS t' r := by
  obtain ⟨a, g, gr, cs, rest, turn, h1, h2, h3, h4⟩ := h
  exact ⟨a, g, gr, cs, rest, turn, h1, h2, by omega, h4⟩
theorem st_get {j q : Nat} {a g : Addr} {gr cs : List Int} {rest turn : Int} {f : Str} {u : Sl} (hj : Γ[j]? = some (.res (pst a g gr cs rest turn))) (h1 : lN[q]? = some f)
    (h2 : ([.raw (.ref g), .dat (.list (iL cs)), .dat (.int rest), .dat (.int turn)] : List Sl)[q]? = some u) (hk : k u Γ) : EvP K (tDGet (tVar j) (tC (.str f))) Γ k :=
  e_dgetC j 1 q (e_res hj (e_str ⟨_, _, _, _, _, _, u, rfl, rfl, hj, rfl, h1, h2, hk⟩))
theorem st_great {j : Nat} {a g : Addr} {gr cs : List Int} {rest turn : Int} (hj : Γ[j]? = some (.res (pst a g gr cs rest turn))) (hk : k (.raw (.ref g)) Γ) : EvP K (tDGet (tVar j) (tC (.str "great"))) Γ k := st_get (q := 0) hj rfl rfl hk
theorem st_cells {j : Nat} {a g : Addr} {gr cs : List Int} {rest turn : Int} (hj : Γ[j]? = some (.res (pst a g gr cs rest turn))) (hk : k (.dat (.list (iL cs))) Γ) : EvP K (tDGet (tVar j) (tC (.str "cells"))) Γ k := st_get (q := 1) hj rfl rfl hk
theorem st_rest {j : Nat} {a g : Addr} {gr cs : List Int} {rest turn : Int} (hj : Γ[j]? = some (.res (pst a g gr cs rest turn))) (hk : k (.dat (.int rest)) Γ) : EvP K (tDGet (tVar j) (tC (.str "rest"))) Γ k := st_get (q := 2) hj rfl rfl hk
theorem st_turn {j : Nat} {a g : Addr} {gr cs : List Int} {rest turn : Int} (hj : Γ[j]? = some (.res (pst a g gr cs rest turn))) (hk : k (.dat (.int turn)) Γ) : EvP K (tDGet (tVar j) (tC (.str "turn"))) Γ k := st_get (q := 3) hj rfl rfl hk
theorem st_setTurn {j : Nat} {te : TE} (h : EvP K te Γ fun s Γ1 => ∃ a g gr cs rest turn n, s = .dat (.int n) ∧ Γ1[j]? = some (.res (pst a g gr cs rest turn)) ∧ O.nx (Γ1.set j (.res (pst a g gr cs rest n)))) : ExS K (sDPut (tVar j) (tC (.str "turn")) te) Γ O :=
  x_dputC j 1 3 (h.mono fun s Γ1 ⟨a, g, gr, cs, rest, turn, n, e, hj, ho⟩ => ⟨by rw [e]; trivial, e_res hj (e_str ⟨_, _, _, _, _, _, rfl, rfl, hj, rfl, rfl, by decide, by subst e; exact ho⟩)⟩)
theorem st_setRest {j : Nat} {te : TE} (h : EvP K te Γ fun s Γ1 => ∃ a g gr cs rest turn n, s = .dat (.int n) ∧ Γ1[j]? = some (.res (pst a g gr cs rest turn)) ∧ O.nx (Γ1.set j (.res (pst a g gr cs n turn)))) : ExS K (sDPut (tVar j) (tC (.str "rest")) te) Γ O :=
  x_dputC j 1 2 (h.mono fun s Γ1 ⟨a, g, gr, cs, rest, turn, n, e, hj, ho⟩ => ⟨by rw [e]; trivial, e_res hj (e_str ⟨_, _, _, _, _, _, rfl, rfl, hj, rfl, rfl, by decide, by subst e; exact ho⟩)⟩)
local macro_rules | `(tactic| walk_at "d1") => `(tactic| first | with_reducible refine e_callR ?_ | with_reducible refine st_great rfl ?_ | with_reducible refine st_cells rfl ?_ | with_reducible refine st_rest rfl ?_ | with_reducible refine st_turn rfl ?_ | ((with_reducible refine op_pow_i ?_ ?_); (focus (exact ⟨by decide, by decide, by decide⟩))) | with_reducible refine op_mod_i (by omega) ?_ | with_reducible refine op_fdiv_i (by omega) ?_)
theorem b__law_begun (T : TX K mg) : ∀ args k, F__law_begun K args k → ExS K (t__law_begun K) (args ++ List.replicate (3 - args.length) .no) (fnOut args k) := by
  rintro args k ⟨ns, s0, hl0, hs0, rfl, hk⟩
  show ExS K _ [s0, .no, .no] _
  unfold t__law_begun
  refine x_seq (x_asg (e_lcS (sets_name (by simp)) gm_name (i_scr (ns := ns) (e_scr hs0 rfl ⟨hs0, fun hz ff hff => ?_⟩))))
  refine ⟨fun i acc Γ => ∃ gs : List Int, acc = (iL gs).map .dat ∧ Γ = [s0, .no, .no], hz, ⟨[], rfl, rfl⟩, fun _ _ _ _ _ => trivial, ?_, ?_⟩
  · rintro i acc Γ hi hl ⟨gs, rfl, hΓ⟩
    rw [hΓ, hff i hi]
    generalize ns.getD i 0 = v
    refine g_name ?_
    repeat' walk_at "d1"
    refine ⟨fun _ => ?_, fun _ => ⟨gs, rfl, rfl⟩⟩
    repeat' walk_at "d1"
    refine ⟨gs ++ [((if v < 0 then -v else v) - 10 ^ Int.toNat 18)], ?_, rfl⟩
    unfold iL
    rw [List.map_append, List.map_append]
    rfl
  · rintro acc Γ hl ⟨gs, rfl, hΓ⟩ D
    rw [hΓ]
    refine g_name (x_ret (e_moveP 1 (e_absorb 1 (e_disp ?_))))
    repeat' walk_at "d1"
    refine e_lcScr (ns := ns) (fun _ => true) (fun v => .int (if v < 0 then -v else v)) (e_scr hs0 rfl ⟨hs0, ?_⟩)
    refine ⟨fun x hx => ?_, ?_⟩
    · refine b_yes ⟨rfl, ?_⟩
      rw [if_pos rfl]
      repeat' walk_at "d1"
      exact ⟨rfl, rfl⟩
    repeat' walk_at "d1"
    refine ⟨by decide, by decide, fun p => ?_⟩
    have ec : (ns.filter fun _ => true).map (fun v => PyData.int (if v < 0 then -v else v)) = iL (ns.map fun v => if v < 0 then -v else v) := by
      rw [List.filter_eq_self.mpr (fun _ _ => rfl)]
      unfold iL
      rw [List.map_map]
      rfl
    rw [ec]
    refine ⟨_, _, _, _, rfl, cells_star, rfl, _, _, rfl, rfl, _, hk _ ⟨p, D, gs, _, 0, 0, rfl, by decide, by decide, ?_⟩, keep_scr hs0⟩
    rw [List.length_map]
    exact hl0
theorem b__law_mixed (T : TX K mg) : ∀ args k, F__law_mixed K args k → ExS K (t__law_mixed K) (args ++ List.replicate (6 - args.length) .no) (fnOut args k) := by
  rintro args k ⟨a, g, gr, cs, rest, turn, ⟨ht0, ht1⟩, rfl, hk⟩
  show ExS K _ [.res (pst a g gr cs rest turn), .no, .no, .no, .no, .no] _
  unfold t__law_mixed
  refine x_seq (x_par (by decide) ?_)
  repeat' walk_at "d1"
  refine ⟨_, _, rfl, ?_⟩
  repeat' walk_at "d1"
  refine st_setTurn ?_
  repeat' walk_at "d1"
  refine ⟨_, _, _, _, _, _, _, rfl, rfl, ?_⟩
  refine x_seq (x_for (i_sq ?_))
  repeat' walk_at "d1"
  intro hz
  refine ⟨fun i Γ => ∃ (x : Sl) (f : Int) (y z : Sl), Γ = [.res (pst a g gr cs rest (turn + 1)), x, .dat (.int (turn + 1)), .dat (.int f), y, z], ⟨_, _, _, _, rfl⟩, fun _ _ _ _ => trivial, ?_, ?_⟩
  · rintro i Γ hi ⟨x, f, y, z, rfl⟩
    obtain ⟨pr, hpr, hp0, hp1⟩ : ∃ pr : Int, ([PyData.int 2147483629, .int 2147483647, .int 2147483563, .int 2147483587].getD i .none) = .int pr ∧ 0 < pr ∧ pr < 2147483648 := by
      match i, hi with
      | 0, _ => exact ⟨_, rfl, by decide, by decide⟩
      | 1, _ => exact ⟨_, rfl, by decide, by decide⟩
      | 2, _ => exact ⟨_, rfl, by decide, by decide⟩
      | 3, _ => exact ⟨_, rfl, by decide, by decide⟩
      | n + 4, h => exact absurd h (by simp)
    show EvG K (gName 1) (.dat ([PyData.int 2147483629, .int 2147483647, .int 2147483563, .int 2147483587].getD i .none)) _ _
    rw [hpr]
    refine g_name ?_
    repeat' walk_at "d1"
    refine x_for (i_sq ?_)
    repeat' walk_at "d1"
    intro hz2
    refine ⟨fun i Γ => ∃ (bl : Int) (z : Sl), (-10000000000000 < bl ∧ bl < 10000000000000) ∧ Γ = [.res (pst a g gr cs rest (turn + 1)), .dat (.int pr), .dat (.int (turn + 1)), .dat (.int f), .dat (.int bl), z], ⟨_, _, ?_, rfl⟩, fun _ _ _ _ => trivial, ?_, ?_⟩
    · constructor <;> omega
    · rintro j Γ hj ⟨bl, z, hb, rfl⟩
      have hln : (iL cs).length = cs.length := List.length_map ..
      obtain ⟨c, hc⟩ : ∃ c, cs[j]? = some c := ⟨_, List.getElem?_eq_getElem (by omega)⟩
      have hd : (iL cs).getD j .none = .int c := by
        rw [List.getD_eq_getElem?_getD, iL, List.getElem?_map, hc]; rfl
      show EvG K (gName 5) (.dat ((iL cs).getD j .none)) _ _
      rw [hd]
      refine g_name ?_
      repeat' walk_at "d1"
      refine ⟨_, _, ?_, rfl⟩
      have e0 := Int.emod_nonneg (bl * 48271 + c + (turn + 1)) (b := pr) (by omega)
      have e1 := Int.emod_lt_of_pos (bl * 48271 + c + (turn + 1)) hp0
      constructor <;> omega
    · rintro Γ ⟨bl, z, hb, rfl⟩
      repeat' walk_at "d1"
      refine op_pow_i ⟨by decide, by decide, by omega⟩ ?_
      repeat' walk_at "d1"
      exact ⟨_, _, _, _, rfl⟩
  · rintro Γ ⟨x, f, y, z, rfl⟩
    repeat' walk_at "d1"
    exact ⟨_, hk f, .res rfl .nil⟩
theorem u__law_mixed {a g : Addr} {gr cs : List Int} {rest turn : Int} {k : Sl → List Sl → Prop} (ht : 0 ≤ turn ∧ turn < 2000000) (hk : ∀ n : Int, k (.dat (.int n)) [.res (pst a g gr cs rest (turn + 1))]) : F__law_mixed K [.res (pst a g gr cs rest turn)] k := ⟨a, g, gr, cs, rest, turn, ht, rfl, hk⟩
theorem b__law_draw (T : TX K mg) : ∀ args k, F__law_draw K args k → ExS K (t__law_draw K) (args ++ List.replicate (3 - args.length) .no) (fnOut args k) := by
  rintro args k ⟨r, t, room, ⟨a, g, gr, cs, rest, turn, rfl, ht0, ht1, hcs⟩, ht, ⟨hr0, hr1⟩, rfl, hk⟩
  show ExS K _ [.res (pst a g gr cs rest turn), .dat (.int room), .no] _
  unfold t__law_draw
  refine x_seq ?_
  have fin : ∀ gr' rest' turn', 0 ≤ turn' → turn' ≤ ((t + 1 : Nat) : Int) → ExS K (tSeq (tAsg (tOp (uMod K) (tCB (rInt1 K) (tCons (tDGet (tVar 0) (tC (.str (PySem.Str.ofString "rest")))) tNil)) (tVar 1)) (gName 2)) (tSeq (sDPut (tVar 0) (tC (.str (PySem.Str.ofString "rest"))) (tOp (uFDiv K) (tDGet (tVar 0) (tC (.str (PySem.Str.ofString "rest")))) (tVar 1))) (tRet (tVar 2)))) [.res (pst a g gr' cs rest' turn'), .dat (.int room), .no] (fnOut [.res (pst a g gr cs rest turn), .dat (.int room)] k) := by
    intro gr' rest' turn' h0 h1
    repeat' walk_at "d1"
    refine st_setRest ?_
    repeat' walk_at "d1"
    refine ⟨_, _, _, _, _, _, _, rfl, rfl, ?_⟩
    repeat' walk_at "d1"
    exact ⟨_, hk (rest' % room) (pst a g gr' cs (rest' / room) turn') rfl ⟨a, g, gr', cs, _, turn', rfl, h0, h1, hcs⟩ (Int.emod_nonneg _ (by omega)) (Int.emod_lt_of_pos _ hr0), .res rfl (.dat .nil)⟩
  refine x_if' ?_
  repeat' walk_at "d1"
  refine iteB (fun _ => ?_) (fun _ => x_next (fin gr rest turn ht0 (by omega)))
  refine st_setRest ?_
  repeat' walk_at "d1"
  refine op_neC (ds := iL gr) (.s 0 0 rfl rfl) (shaped_list shp_ints) (by decide +kernel) ?_
  cases gr with
  | nil =>
    refine ⟨false, rfl, ?_⟩
    repeat' walk_at "d1"
    refine u__law_mixed ⟨ht0, by omega⟩ fun n => ⟨_, rfl, rfl, rfl, ?_⟩
    repeat' walk_at "d1"
    exact ⟨_, _, _, _, _, _, _, rfl, rfl, fin [] n (turn + 1) (by omega) (by omega)⟩
  | cons n rs =>
    refine ⟨true, rfl, ?_⟩
    repeat' walk_at "d1"
    refine e_pop0C 0 0 (st_great rfl ⟨_, rfl, ⟨_, _, _, rfl, rfl⟩, ?_⟩)
    repeat' walk_at "d1"
    exact ⟨_, _, .dat (.int n), (iL rs).map .dat, rfl, rfl, rfl, _, _, _, _, _, _, _, rfl, rfl, fin rs n turn ht0 (by omega)⟩
theorem u__law_draw {r : Res} {t : Nat} {room : Int} {k : Sl → List Sl → Prop} (h : PS t r) (ht : t < 1000000) (hr : 0 < room ∧ room < 1073741824) (hk : ∀ (n : Int) r', r'.v = r.v → PS (t + 1) r' → 0 ≤ n → n < room → k (.dat (.int n)) [.res r', .dat (.int room)]) : F__law_draw K [.res r, .dat (.int room)] k := ⟨r, t, room, h, ht, hr, rfl, hk⟩
theorem b__law_pick (T : TX K mg) : ∀ args k, F__law_pick K args k → ExS K (t__law_pick K) (args ++ List.replicate (2 - args.length) .no) (fnOut args k) := by
  rintro args k ⟨r, t, ds, h, ht, ⟨hd0, hd1⟩, rfl, hk⟩
  show ExS K _ [.res r, .dat (.list ds)] _
  unfold t__law_pick
  repeat' walk_at "d1"
  refine u__law_draw h ht ⟨by omega, by omega⟩ fun n r' hv hp h0 h1 => ⟨_, rfl, hv, rfl, ?_⟩
  have hlt : n.toNat < ds.length := by omega
  repeat' walk_at "d1"
  refine op_ix_d (d' := ds[n.toNat]'hlt) rfl ?_ ?_
  · unfold atI ixN
    rw [if_pos h0, if_pos h1]
    exact List.getElem?_eq_getElem hlt
  · exact ⟨_, hk _ r' hv hp (List.getElem_mem hlt), .res hv (.dat .nil)⟩
theorem u__law_pick {r : Res} {t : Nat} {ds : List PyData} {k : Sl → List Sl → Prop} (h : PS t r) (ht : t < 1000000) (hd : 0 < ds.length ∧ ds.length < 1000) (hk : ∀ d r', r'.v = r.v → PS (t + 1) r' → d ∈ ds → k (.dat d) [.res r', .dat (.list ds)]) : F__law_pick K [.res r, .dat (.list ds)] k := ⟨r, t, ds, h, ht, hd, rfl, hk⟩
theorem b__law_size (T : TX K mg) : ∀ args k, F__law_size K args k → ExS K (t__law_size K) (args ++ List.replicate (1 - args.length) .no) (fnOut args k) := by
  rintro args k ⟨r, t, h, ht, rfl, hk⟩
  show ExS K _ [.res r] _
  unfold t__law_size
  repeat' walk_at "d1"
  refine u__law_pick h ht ⟨by decide, by decide⟩ fun d r' hv hp hd => ⟨_, rfl, hv, rfl, ?_⟩
  simp only [List.mem_cons, List.not_mem_nil, or_false] at hd
  rcases hd with rfl | rfl | rfl | rfl | rfl | rfl | rfl | rfl <;> exact ⟨_, hk _ r' hv hp (by decide) (by decide), .res hv .nil⟩
theorem b__law_inputs (T : TX K mg) : ∀ args k, F__law_inputs K args k → ExS K (t__law_inputs K) (args ++ List.replicate (3 - args.length) .no) (fnOut args k) := by
  rintro args k ⟨r, t, h, ht, rfl, hk⟩
  show ExS K _ [.res r, .no, .no] _
  unfold t__law_inputs
  repeat' walk_at "d1"
  refine e_lc (sets_name (by simp)) gm_name (i_rng1 ?_)
  repeat' walk_at "d1"
  refine u__law_pick h (by omega) ⟨by decide, by decide⟩ fun d r' hv hp hd => ⟨_, rfl, hv, rfl, ?_⟩
  repeat' walk_at "d1"
  obtain ⟨j, rfl, hj0, hj1⟩ : ∃ j : Int, d = .int j ∧ 0 ≤ j ∧ j ≤ 6 := by
    simp only [List.mem_cons, List.not_mem_nil, or_false] at hd
    rcases hd with rfl | rfl | rfl | rfl | rfl <;> exact ⟨_, rfl, by decide, by decide⟩
  refine ⟨j, rfl, by omega, by omega, fun i acc Γ => ∃ (ns : List Int) (r2 : Res), acc = iL ns ∧ (∀ n ∈ ns, 0 ≤ n ∧ n ≤ 9999) ∧ r2.v = r.v ∧ PS (t + 1 + i) r2 ∧ Γ = [.res r2, .dat (.list [PyData.int 0, .int 1, .int 2, .int 3, .int 5, .int 9, .int 9999, .int 100, .int 17, .int 6]), .no], Nat.le_trans (by omega : j.toNat ≤ 6) (by decide), ⟨[], r', rfl, (fun n h => by cases h), hv, hp, rfl⟩, fun _ _ _ _ _ => trivial, ?_, ?_⟩
  · rintro i acc Γ hi hl ⟨ns, r2, rfl, hns, hv2, hp2, hΓ⟩
    rw [hΓ]
    refine g_name (b_yes ⟨fun _ => ?_, fun z => by cases z⟩)
    repeat' walk_at "d1"
    refine u__law_pick hp2 (by omega) ⟨by decide, by decide⟩ fun d r3 hv3 hp3 hd => ⟨_, rfl, hv3, rfl, ?_⟩
    obtain ⟨n, rfl, hn⟩ : ∃ n : Int, d = .int n ∧ 0 ≤ n ∧ n ≤ 9999 := by
      simp only [List.mem_cons, List.not_mem_nil, or_false] at hd
      rcases hd with rfl | rfl | rfl | rfl | rfl | rfl | rfl | rfl | rfl | rfl <;> exact ⟨_, rfl, by decide, by decide⟩
    refine ⟨_, rfl, ns ++ [n], r3, ?_, ?_, hv3.trans hv2, hp3.mono (by omega), rfl⟩
    · unfold iL
      rw [List.map_append]
      rfl
    · intro x hx
      rcases List.mem_append.mp hx with q | q
      · exact hns x q
      · simp only [List.mem_singleton] at q
        rw [q]
        exact hn
  · rintro acc Γ hl ⟨ns, r2, rfl, hns, hv2, hp2, hΓ⟩
    rw [hΓ]
    have hln : (iL ns).length = ns.length := List.length_map ..
    exact ⟨_, hk ns r2 hv2 (hp2.mono (by omega)) (by omega) hns, .res hv2 .nil⟩
theorem b__law_votes (T : TX K mg) : ∀ args k, F__law_votes K args k → ExS K (t__law_votes K) (args ++ List.replicate (5 - args.length) .no) (fnOut args k) := by
  rintro args k ⟨r, t, h, ht, rfl, hk⟩
  show ExS K _ [.res r, .no, .no, .no, .no] _
  unfold t__law_votes
  refine x_seq (x_par (by decide) ?_)
  repeat' walk_at "d1"
  refine u__law_pick h (by omega) ⟨by decide, by decide⟩ fun d r' hv hp hd => ⟨_, rfl, hv, rfl, ?_⟩
  obtain ⟨hu, rfl, hu0, hu1⟩ : ∃ j : Int, d = .int j ∧ 1 ≤ j ∧ j ≤ 5 := by
    simp only [List.mem_cons, List.not_mem_nil, or_false] at hd
    rcases hd with rfl | rfl | rfl | rfl | rfl | rfl | rfl <;> exact ⟨_, rfl, by decide, by decide⟩
  refine a_cons (e_lstO' (a_nil ⟨[], rfl, rfl, fun a => a_nil ⟨_, _, rfl, ?_⟩⟩))
  refine g_name (g_name ?_)
  refine x_seq (x_for (i_rng2 ?_))
  repeat' walk_at "d1"
  refine ⟨1, hu + 1, rfl, ⟨by decide, by decide, by omega, by omega⟩, fun i Γ => ∃ (vs : List Int) (r2 : Res) (x y : Sl), vs.length = i ∧ (∀ (j : Nat) (v : Int), vs[j]? = some v → (j : Int) + 1 < 2 * v ∧ 2 * v ≤ 2 * ((j : Int) + 1)) ∧ r2.v = r.v ∧ PS (t + 1 + 2 * i) r2 ∧ Γ = [.res r2, x, .dat (.int hu), .res (ownL a (iL vs)), y], ⟨[], r', _, _, rfl, (fun j v h => by simp at h), hv, hp, rfl⟩, fun _ _ _ _ => trivial, ?_, ?_⟩
  · rintro i Γ hi ⟨vs, r2, x, y, hl, hvs, hv2, hp2, rfl⟩
    have hi5 : i < 5 := by omega
    refine g_name ?_
    repeat' walk_at "d1"
    refine e_append 3 (e_res rfl ⟨a, rfl, ⟨iL vs, rfl⟩, ?_⟩)
    repeat' walk_at "d1"
    refine u__law_draw hp2 (by omega) ⟨by omega, by omega⟩ fun n r3 hv3 hp3 h0 h1 => ⟨_, rfl, hv3, rfl, ?_⟩
    repeat' walk_at "d1"
    refine ⟨r3, _, congrArg (fun v => Sl.raw v :: [_]) hv3.symm, rfl, ?_⟩
    refine u__law_pick hp3 (by omega) ⟨by show 0 < 3; decide, by show 3 < 1000; decide⟩ fun d r4 hv4 hp4 hd => ⟨_, rfl, hv4, rfl, ?_⟩
    obtain ⟨v, rfl, hv0, hv1⟩ : ∃ v : Int, d = .int v ∧ (i : Int) + 1 < 2 * v ∧ 2 * v ≤ 2 * ((i : Int) + 1) := by
      simp only [List.mem_cons, List.not_mem_nil, or_false] at hd
      rcases hd with rfl | rfl | rfl <;> exact ⟨_, rfl, by omega, by omega⟩
    have hln : (iL vs).length = vs.length := List.length_map ..
    refine a_nil ⟨iL vs, .int v, rfl, rfl, by rw [hln]; exact Nat.lt_of_lt_of_le (by omega : vs.length < 5) (by decide), ?_⟩
    refine ⟨vs ++ [v], r4, .dat (.int (1 + (i : Int))), .dat (.int ((1 + (i : Int)) / 2 + 1)), by simp [hl], ?_, hv4.trans (hv3.trans hv2), hp4.mono (by omega), ?_⟩
    · intro j z hz
      by_cases hj : j < vs.length
      · rw [List.getElem?_append_left hj] at hz
        exact hvs j z hz
      · rw [List.getElem?_append_right (by omega)] at hz
        have hj2 : j - vs.length = 0 := by
          cases q : j - vs.length with
          | zero => rfl
          | succ n => rw [q] at hz; simp at hz
        rw [hj2] at hz
        simp at hz
        subst hz
        have : j = i := by omega
        subst this
        exact ⟨hv0, hv1⟩
    · unfold iL
      rw [List.map_append]
      rfl
  · rintro Γ ⟨vs, r2, x, y, hl, hvs, hv2, hp2, rfl⟩
    repeat' walk_at "d1"
    refine cb_tupleC (HasL.o 3 rfl) ⟨_, hk vs r2 hv2 (hp2.mono (by omega)) ⟨by omega, by omega, hvs⟩, .res hv2 .nil⟩
end
end Hw
namespace Hw
open PySem PySem.Spec PyProof.Rows L2 Dl
structure Is (m : Mach) (x : Addr) (c : Code) (left : List Int) (row : List PyData) (state : Str) (regs : List (List Int)) (slots : List PyData) : Prop where
  a : m.a = x
  code : m.code = c
  left : m.left = left
  row : m.row = row
  state : m.state = state
  regs : m.hues.map (·.regs) = regs
  slots : m.hues.map (·.slot) = slots
  bank : ∀ h ∈ m.hues, h.bank = [1]
theorem map_pt {α : Type} {f : Hue → α} {p : Int} {hs : List Hue} (hf : ∀ h, f (pointTo p h) = f h) : (hs.map (pointTo p)).map f = hs.map f := by
  rw [List.map_map]
  exact List.map_congr_left fun h _ => hf h
theorem Is.endAt {m : Mach} {p : Int} {x : Addr} {c : Code} {left : List Int} {row : List PyData} {state : Str} {regs : List (List Int)} {slots : List PyData} (I : Is m x c left row state regs slots) : Is (endAt m p) x c left row state regs slots :=
  ⟨I.a, I.code, I.left, I.row, I.state, I.regs, I.slots, I.bank⟩
theorem Mach.At.endAt {m : Mach} {p q : Int} (A : m.At p) : (Hw.endAt m q).At p := ⟨A.code, A.hues, A.ptr, A.regs, A.row, A.state⟩
theorem mem_modify {hs : List Hue} {i : Nat} {f : Hue → Hue} {h : Hue} (hm : h ∈ hs.modify i f) : ∃ g ∈ hs, h = g ∨ h = f g := by
  obtain ⟨n, hn⟩ := List.getElem?_of_mem hm
  rw [List.getElem?_modify] at hn
  cases q : hs[n]? with
  | none => rw [q] at hn; cases hn
  | some g =>
    rw [q] at hn
    have hn : some (if i = n then f g else g) = some h := hn
    have hn := Option.some.inj hn
    refine ⟨g, List.mem_of_getElem? q, ?_⟩
    by_cases e : i = n
    · rw [if_pos e] at hn; exact .inr hn.symm
    · rw [if_neg e] at hn; exact .inl hn.symm
theorem at_offer {m : Mach} {p h r : Int} (A : m.At p) : (stepM m p (.offer h r)).At (p + 1) := by
  refine ⟨A.code, ?_, fun g hg => ?_, fun g hg => ?_, A.row, A.state⟩
  · show ((m.hues.map (pointTo (p + 1))).modify h.toNat _).length = _
    rw [List.length_modify, List.length_map]
    exact A.hues
  · obtain ⟨g', hm, e⟩ := mem_modify (show g ∈ (m.hues.map (pointTo (p + 1))).modify h.toNat _ from hg)
    obtain ⟨g'', hm2, rfl⟩ := List.mem_map.mp hm
    rcases e with e | e <;> rw [e] <;> rfl
  · obtain ⟨g', hm, e⟩ := mem_modify (show g ∈ (m.hues.map (pointTo (p + 1))).modify h.toNat _ from hg)
    obtain ⟨g'', hm2, rfl⟩ := List.mem_map.mp hm
    rcases e with e | e <;> rw [e] <;> exact A.regs g'' hm2
theorem mem_upTo {hs : List Hue} {i : Nat} {f : Hue → Hue} {h : Hue} (hm : h ∈ upTo f i hs) : ∃ g ∈ hs, h = g ∨ h = f g := by
  rcases List.mem_append.mp hm with q | q
  · obtain ⟨g, hg, rfl⟩ := List.mem_map.mp q
    exact ⟨g, List.mem_of_mem_take hg, .inr rfl⟩
  · exact ⟨h, List.mem_of_mem_drop q, .inl rfl⟩
theorem at_take {m : Mach} {p r w : Int} (A : m.At p) (hr : m.row.length + 1 < 100000) : (stepM m p (.take r w)).At (p + 1) := by
  refine ⟨A.code, ?_, fun g hg => ?_, fun g hg => ?_, ?_, A.state⟩
  · show (upTo _ w.toNat (m.hues.map (pointTo (p + 1)))).length = _
    rw [upTo_len, List.length_map]
    exact A.hues
  · obtain ⟨g', hm, e⟩ := mem_upTo (show g ∈ upTo _ w.toNat (m.hues.map (pointTo (p + 1))) from hg)
    obtain ⟨g'', hm2, rfl⟩ := List.mem_map.mp hm
    rcases e with e | e <;> rw [e] <;> rfl
  · obtain ⟨g', hm, e⟩ := mem_upTo (show g ∈ upTo _ w.toNat (m.hues.map (pointTo (p + 1))) from hg)
    obtain ⟨g'', hm2, rfl⟩ := List.mem_map.mp hm
    rcases e with e | e <;> rw [e]
    · exact A.regs g'' hm2
    · show (g''.regs.set _ _).length = 8
      rw [List.length_set]
      exact A.regs g'' hm2
  · show (m.row ++ [_]).length < 100000
    rw [List.length_append]
    exact hr
theorem at_stop {m : Mach} {p : Int} (A : m.At p) (hr : m.row.length + 1 < 100000) : (stepM m p .stop).At (p + 1) := by
  refine ⟨A.code, ?_, fun g hg => ?_, fun g hg => ?_, ?_, .inr rfl⟩
  · show (m.hues.map (pointTo (p + 1))).length = _
    rw [List.length_map]
    exact A.hues
  · obtain ⟨g'', hm2, rfl⟩ := List.mem_map.mp (show g ∈ m.hues.map (pointTo (p + 1)) from hg)
    rfl
  · obtain ⟨g'', hm2, rfl⟩ := List.mem_map.mp (show g ∈ m.hues.map (pointTo (p + 1)) from hg)
    exact A.regs g'' hm2
  · show (m.row ++ [_]).length < 100000
    rw [List.length_append]
    exact hr
section
variable {m : Mach} {x : Addr} {c : Code} {left : List Int} {row : List PyData} {state : Str} {regs : List (List Int)} {slots : List PyData} {p : Int}
theorem is_offer {h : Int} (I : Is m x c left row state regs slots) (hz : ∀ l ∈ regs, l.getD 0 0 = 0) : Is (stepM m p (.offer h 0)) x c left row state regs (slots.set h.toNat (.int 0)) := by
  have hv : ((m.hues.map fun h => h.regs.getD (0 : Int).toNat 0).getD h.toNat 0) = 0 := by
    rw [List.getD_eq_getElem?_getD, List.getElem?_map]
    cases q : m.hues[h.toNat]? with
    | none => rfl
    | some g => exact hz g.regs (by rw [← I.regs]; exact List.mem_map.mpr ⟨g, List.mem_of_getElem? q, rfl⟩)
  refine ⟨I.a, I.code, I.left, I.row, I.state, ?_, ?_, fun g hg => ?_⟩
  · show ((m.hues.map (pointTo (p + 1))).modify h.toNat _).map (·.regs) = _
    rw [← I.regs]
    apply List.ext_getElem?
    intro n
    rw [List.getElem?_map, List.getElem?_modify, List.getElem?_map, List.getElem?_map]
    cases m.hues[n]? with
    | none => rfl
    | some g =>
      by_cases e : h.toNat = n
      · simp [e, pointTo]
      · simp [e, pointTo]
  · show ((m.hues.map (pointTo (p + 1))).modify h.toNat fun g => { g with slot := .int ((m.hues.map fun h => h.regs.getD (0 : Int).toNat 0).getD h.toNat 0) }).map (·.slot) = _
    rw [hv, ← I.slots]
    apply List.ext_getElem?
    intro n
    rw [List.getElem?_map, List.getElem?_modify, List.getElem?_map, List.getElem?_set, List.getElem?_map, List.length_map]
    by_cases e : h.toNat = n
    · subst e
      cases q : m.hues[h.toNat]? with
      | none =>
        have : ¬ h.toNat < m.hues.length := fun z => by rw [List.getElem?_eq_getElem z] at q; cases q
        simp [this]
      | some g =>
        have : h.toNat < m.hues.length := (List.getElem?_eq_some_iff.mp q).1
        simp [this]
    · cases m.hues[n]? with
      | none => simp [e]
      | some g => simp [e, pointTo]
  · obtain ⟨g', hm, e⟩ := mem_modify (show g ∈ (m.hues.map (pointTo (p + 1))).modify h.toNat _ from hg)
    obtain ⟨g'', hm2, rfl⟩ := List.mem_map.mp hm
    rcases e with e | e <;> rw [e] <;> exact I.bank g'' hm2
theorem is_take {r w : Int} (I : Is m x c left row state regs slots) : Is (stepM m p (.take r w)) x c left.tail (row ++ [.tuple [.str wTake, .int (left.headD 0 % c.size)]]) state ((regs.take w.toNat).map (fun l => l.set r.toNat (left.headD 0 % c.size)) ++ regs.drop w.toNat) slots := by
  have hn : takeNo m = left.headD 0 % c.size := by
    unfold takeNo
    rw [I.left, I.code]
    cases left with
    | nil => simp
    | cons n t => rfl
  refine ⟨I.a, I.code, ?_, ?_, I.state, ?_, ?_, fun g hg => ?_⟩
  · show m.left.tail = _
    rw [I.left]
  · show m.row ++ [.tuple [.str wTake, .int (takeNo m)]] = _
    rw [I.row, hn]
  · show (((m.hues.map (pointTo (p + 1))).take w.toNat).map (setReg r.toNat (takeNo m)) ++ (m.hues.map (pointTo (p + 1))).drop w.toNat).map (·.regs) = _
    rw [hn, ← I.regs]
    simp only [List.map_append, List.map_map, List.map_take, List.map_drop]
    rfl
  · show (((m.hues.map (pointTo (p + 1))).take w.toNat).map (setReg r.toNat (takeNo m)) ++ (m.hues.map (pointTo (p + 1))).drop w.toNat).map (·.slot) = _
    rw [← I.slots]
    rw [List.map_append, List.map_map]
    have e1 : ((fun h : Hue => h.slot) ∘ setReg r.toNat (takeNo m)) = fun h => h.slot := rfl
    rw [e1, ← List.map_append, List.take_append_drop]
    exact map_pt fun _ => rfl
  · obtain ⟨g', hm, e⟩ := mem_upTo (show g ∈ upTo _ w.toNat (m.hues.map (pointTo (p + 1))) from hg)
    obtain ⟨g'', hm2, rfl⟩ := List.mem_map.mp hm
    rcases e with e | e <;> rw [e] <;> exact I.bank g'' hm2
theorem is_stop (I : Is m x c left row state regs slots) : Is (stepM m p .stop) x c left (row ++ [.tuple [.str wStop]]) sStop regs slots := by
  refine ⟨I.a, I.code, I.left, ?_, rfl, ?_, ?_, fun g hg => ?_⟩
  · show m.row ++ _ = _
    rw [I.row]
  · rw [← I.regs]
    exact map_pt fun _ => rfl
  · rw [← I.slots]
    exact map_pt fun _ => rfl
  · obtain ⟨g'', hm2, rfl⟩ := List.mem_map.mp (show g ∈ m.hues.map (pointTo (p + 1)) from hg)
    exact I.bank g'' hm2
end
def offD (h : Int) : PyData := .tuple [.int h, .str (PySem.Str.ofString "offer"), .int 0]
def takD (t : Int × Int) : PyData := .tuple [.str (PySem.Str.ofString "take"), .int t.1, .int t.2]
def mkCode (vs : List Int) (size : Int) (fs : List Int) (ts : List (Int × Int)) : Code := ⟨vs, size, fs.map (fun h => .offer h 0) ++ ts.map (fun t => .take t.1 t.2) ++ [.stop], [1]⟩
theorem mkCode_d {vs : List Int} {size : Int} {fs : List Int} {ts : List (Int × Int)} : (mkCode vs size fs ts).d = .tuple [.tuple (iL vs), .int size, .tuple (fs.map offD ++ ts.map takD ++ [.tuple [.str (PySem.Str.ofString "stop")]]), .tuple [.int 1]] := by
  unfold mkCode Code.d
  simp only [List.map_append, List.map_map]
  rfl
theorem mkCode_ok {vs : List Int} {size : Int} {fs : List Int} {ts : List (Int × Int)} (hv : votesOk vs) (hs : 2 ≤ size ∧ size ≤ 10000) (hf : fs.length ≤ 5 ∧ ∀ h ∈ fs, 0 ≤ h ∧ h < vs.length) (ht : ts.length ≤ 8 ∧ ∀ t ∈ ts, (0 ≤ t.1 ∧ t.1 ≤ 7) ∧ 1 ≤ t.2 ∧ t.2 ≤ vs.length) : (mkCode vs size fs ts).Ok := by
  refine ⟨hv, hs, ⟨?_, ?_, fun x hx => ?_⟩, ⟨by show 1 ≤ 600; decide, fun n hn => ?_⟩⟩
  · simp [mkCode]
    omega
  · have h1 := hf.1
    have h2 := ht.1
    simp [mkCode]
    omega
  · have hx : x ∈ fs.map (fun h => CellT.offer h 0) ++ ts.map (fun t => .take t.1 t.2) ++ [.stop] := hx
    rcases List.mem_append.mp hx with q | q
    · rcases List.mem_append.mp q with q | q
      · obtain ⟨h, hm, rfl⟩ := List.mem_map.mp q
        exact ⟨(hf.2 h hm).1, (hf.2 h hm).2, by decide, by decide⟩
      · obtain ⟨t, hm, rfl⟩ := List.mem_map.mp q
        obtain ⟨⟨a, b⟩, c, d⟩ := ht.2 t hm
        exact ⟨a, b, c, d⟩
    · simp only [List.mem_singleton] at q
      subst q
      trivial
  · have hn : n ∈ [(1 : Int)] := hn
    simp only [List.mem_singleton] at hn
    subst hn
    have := hs.1
    exact ⟨by decide, by show 1 ≤ size - 1; omega⟩
theorem cells_off {vs : List Int} {size : Int} {fs : List Int} {ts : List (Int × Int)} {i : Nat} {h : Int} (e : fs[i]? = some h) : (mkCode vs size fs ts).cells[i]? = some (.offer h 0) := by
  have hl : i < fs.length := (List.getElem?_eq_some_iff.mp e).1
  show (fs.map (fun h => CellT.offer h 0) ++ ts.map (fun t => CellT.take t.1 t.2) ++ [.stop])[i]? = _
  rw [List.getElem?_append_left (by simp; omega), List.getElem?_append_left (by simpa using hl), List.getElem?_map, e]
  rfl
theorem cells_tak {vs : List Int} {size : Int} {fs : List Int} {ts : List (Int × Int)} {i : Nat} {t : Int × Int} (e : ts[i]? = some t) : (mkCode vs size fs ts).cells[fs.length + i]? = some (.take t.1 t.2) := by
  have hl : i < ts.length := (List.getElem?_eq_some_iff.mp e).1
  show (fs.map (fun h => CellT.offer h 0) ++ ts.map (fun t => CellT.take t.1 t.2) ++ [.stop])[fs.length + i]? = _
  rw [List.getElem?_append_left (by simp; omega), List.getElem?_append_right (by simp), List.length_map, Nat.add_sub_cancel_left, List.getElem?_map, e]
  rfl
theorem cells_stop {vs : List Int} {size : Int} {fs : List Int} {ts : List (Int × Int)} : (mkCode vs size fs ts).cells[fs.length + ts.length]? = some .stop := by
  show (fs.map (fun h => CellT.offer h 0) ++ ts.map (fun t => CellT.take t.1 t.2) ++ [.stop])[fs.length + ts.length]? = _
  rw [List.getElem?_append_right (by simp)]
  simp
theorem cells_len {vs : List Int} {size : Int} {fs : List Int} {ts : List (Int × Int)} : (mkCode vs size fs ts).cells.length = fs.length + ts.length + 1 := by
  simp [mkCode]
  omega
theorem toNat_add (p i : Nat) : ((p : Int) + (i : Int)).toNat = p + i := by omega
theorem go_offers {x : Addr} {c : Code} {left : List Int} {row : List PyData} {regs : List (List Int)} (hz : ∀ l ∈ regs, l.getD 0 0 = 0) : ∀ (fs : List Int) (p : Nat) (m : Mach) (slots : List PyData), m.At p → Is m x c left row sRun regs slots → (∀ (i : Nat) h, fs[i]? = some h → c.cells[p + i]? = some (.offer h 0)) →
    ∃ m' slots', Goes fs.length m p m' ((p + fs.length : Nat) : Int) ∧ m'.At ((p + fs.length : Nat) : Int) ∧ Is m' x c left row sRun regs slots' ∧ slots'.length = slots.length ∧ ((∀ s ∈ slots, Shp 1 s) → ∀ s ∈ slots', Shp 1 s)
  | [], p, m, slots, A, I, _ => ⟨m, slots, .zero A, A, I, rfl, fun h => h⟩
  | h :: fs, p, m, slots, A, I, hc => by
    have h0 : c.cells[p]? = some (.offer h 0) := hc 0 h rfl
    have hcell : m.code.cells[(p : Int).toNat]? = some (.offer h 0) := by rw [I.code, Int.toNat_natCast]; exact h0
    have A1 : (stepM m p (.offer h 0)).At ((p + 1 : Nat) : Int) := at_offer A
    have I1 := is_offer (p := (p : Int)) (h := h) I hz
    obtain ⟨m', slots', G, A', I', hl, hs⟩ := go_offers hz fs (p + 1) _ _ A1 I1 fun i g e => by
      have := hc (i + 1) g (by simpa using e)
      rwa [show p + (i + 1) = p + 1 + i by omega] at this
    refine ⟨m', slots', ?_, ?_, I', ?_, fun hsl => hs fun s hm => ?_⟩
    · rw [show p + (h :: fs).length = p + 1 + fs.length by simp; omega]
      exact .step A (I.state) (by omega) hcell G
    · rw [show p + (h :: fs).length = p + 1 + fs.length by simp; omega]
      exact A'
    · rw [hl, List.length_set]
    · rcases List.mem_or_eq_of_mem_set hm with q | q
      · exact hsl s q
      · rw [q]; exact .int
theorem new_at {m : Mach} {x ah al as_ ar : Addr} {c : Code} {left : List Int} {hs : List Hue} (em : m = newM x ah al as_ ar c left hs) (hok : c.Ok) (hlen : hs.length = c.votes.length) (hall : ∀ h ∈ hs, ∃ x r b d, h = newHue x r b d c.bank) : m.At 0 := by
  subst em
  refine ⟨hok, hlen, fun h hh => ?_, fun h hh => ?_, by show 0 < 100000; decide, .inl rfl⟩
  · obtain ⟨x, r, b, d, rfl⟩ := hall h hh
    rfl
  · obtain ⟨x, r, b, d, rfl⟩ := hall h hh
    rfl
theorem new_is {m : Mach} {x ah al as_ ar : Addr} {c : Code} {left : List Int} {hs : List Hue} (em : m = newM x ah al as_ ar c left hs) (hb : c.bank = [1]) (hlen : hs.length = c.votes.length) (hall : ∀ h ∈ hs, ∃ x r b d, h = newHue x r b d c.bank) :
    Is m x c left [] sRun (List.replicate c.votes.length (List.replicate 8 0)) (List.replicate c.votes.length .none) := by
  subst em
  refine ⟨rfl, rfl, rfl, rfl, rfl, ?_, ?_, fun h hh => ?_⟩
  · refine List.eq_replicate_iff.mpr ⟨by rw [List.length_map]; exact hlen, fun l hl => ?_⟩
    obtain ⟨h, hm, rfl⟩ := List.mem_map.mp hl
    obtain ⟨x, r, b, d, rfl⟩ := hall h hm
    rfl
  · refine List.eq_replicate_iff.mpr ⟨by rw [List.length_map]; exact hlen, fun l hl => ?_⟩
    obtain ⟨h, hm, rfl⟩ := List.mem_map.mp hl
    obtain ⟨x, r, b, d, rfl⟩ := hall h hm
    rfl
  · obtain ⟨x, r, b, d, rfl⟩ := hall h hh
    exact hb
theorem u_Machine_go {K : Frag} {m m' : Mach} {n : Nat} {p p' : Int} {k : Sl → List Sl → Prop} (G : Goes n m p m' p') (hp : m'.state = sRun → 0 ≤ p' ∧ p' < m'.code.cells.length) (hn : n ≤ 1000000) (hk : k (.dat .none) [.res ((endAt m' p').R K), .dat (.int n)]) : F_Machine_go K [.res (m.R K), .dat (.int n)] k := ⟨m, m', n, p, p', G, hp, hn, rfl, hk⟩
def dueC (dl : List (Addr × List Int)) : List (Addr × Cell) := dl.map fun p => (p.1, .lst ((iL p.2).map .dat))
def dueR (d : Addr) (dl : List (Addr × List Int)) : Res := star (.ref d) ((d, .lst (dl.map fun p => .raw (.ref p.1))) :: dueC dl)
end Hw
namespace Hw
open PySem PySem.Spec PyProof.Rows L2 Dl
local macro_rules | `(tactic| walk_at "dbt") => `(tactic| first | assumption | rfl | (decide +kernel) | (simp [isFromD, *]; done) | (simp [isFromD, *]; omega))
local macro_rules | `(tactic| walk_at "d1") => `(tactic| first
  | with_reducible refine x_seq ?_ | with_reducible refine x_if' ?_ | with_reducible refine x_ret ?_ | with_reducible refine x_asg ?_ | with_reducible refine x_next ?_ | with_reducible refine x_expr ?_
  | with_reducible refine e_isi2 (by decide) (by decide) ?_
  | with_reducible refine e_dat rfl ?_ | with_reducible refine e_int ?_ | with_reducible refine e_str ?_ | with_reducible refine e_bl ?_ | with_reducible refine e_non ?_ | with_reducible refine e_op ?_ | with_reducible refine e_cb ?_ | with_reducible refine e_call ?_
  | with_reducible refine a_cons ?_ | with_reducible refine a_nil ?_
  | with_reducible refine b_test ?_ | with_reducible refine b_not ?_ | with_reducible refine b_and' ?_ | with_reducible refine b_or' ?_ | with_reducible refine b_tru ?_
  | with_reducible refine e_andV' ?_ | with_reducible refine e_orV' ?_ | with_reducible refine e_notV ?_ | with_reducible refine e_chain' ?_ | with_reducible refine e_if' ?_ | with_reducible refine e_c ?_ | with_reducible refine e_sl ?_ | with_reducible refine o_no ?_ | with_reducible refine o_some ?_ | with_reducible refine e_neg ?_
  | with_reducible refine e_raw rfl ?_ | with_reducible refine e_res rfl ?_ | with_reducible refine g_name ?_
  | with_reducible refine op_add_i ?_ | with_reducible refine op_sub_i ?_ | with_reducible refine op_lt_i ?_ | with_reducible refine op_le_i ?_ | with_reducible refine op_gt_i ?_ | with_reducible refine op_ge_i ?_ | with_reducible refine op_isnone ?_ | with_reducible refine op_notnone ?_
  | with_reducible refine cb_isi (by decide) ?_ | with_reducible refine cb_max2 ?_ | with_reducible refine cb_min2 ?_ | with_reducible refine cb_abs ?_ | with_reducible refine cb_int ?_ | with_reducible refine cb_len rfl ?_
  | with_reducible refine iteT ?_ | with_reducible refine iteF ?_ | ((with_reducible refine iT ?_ ?_); focus (walk_at "dbt"; done)) | ((with_reducible refine iF ?_ ?_); focus (walk_at "dbt"; done))
  | ((with_reducible refine g_tup ?_ ?_); (focus rfl)) | with_reducible refine gs_cons ?_ | with_reducible refine gs_nil ?_
  | with_reducible refine e_tup' ?_ | with_reducible refine e_lst' ?_ | with_reducible refine op_in2 ?_ | with_reducible refine op_ni3 ?_
  | with_reducible refine op_eq_ii ?_ | with_reducible refine op_ne_ii ?_ | ((with_reducible refine op_eq_ss ?_ ?_ ?_); (focus (decide +kernel)); (focus (decide +kernel))) | ((with_reducible refine op_ne_ss ?_ ?_ ?_); (focus (decide +kernel)); (focus (decide +kernel)))
  | ((with_reducible refine op_eq_d ?_ ?_ ?_); (focus (walk_at "dbt")); (focus (walk_at "dbt")))
  | ((with_reducible refine op_ne_d ?_ ?_ ?_); (focus (walk_at "dbt")); (focus (walk_at "dbt")))
  | ((with_reducible refine op_ix' ?_); refine Exists.intro _ (Exists.intro _ (And.intro rfl (And.intro rfl ?_))))
  | ((with_reducible refine op_mul_il ?_ ?_); (focus (decide +kernel))) | ((with_reducible refine op_mul_ir ?_ ?_); (focus (decide +kernel)))
  | ((with_reducible refine And.intro (a := smallL _ = true) ?_ ?_); (focus rfl)) | ((with_reducible refine And.intro (a := Pers _) ?_ ?_); (focus trivial)) | with_reducible refine d_cons ?_ | with_reducible refine d_nil ?_
  | (with_reducible refine Exists.intro _ (And.intro rfl ?_)) | (with_reducible refine Exists.intro _ (Exists.intro _ (And.intro rfl (And.intro rfl ?_)))) | refine Exists.intro _ (And.intro rfl (And.intro (by rfl) ?_)) | refine Exists.intro _ (Exists.intro _ (And.intro rfl (And.intro rfl ?_))) | with_reducible refine dat_ok ?_ | dsimp only | fail)
local macro_rules | `(tactic| walk_at "d1") => `(tactic| with_reducible refine e_callR ?_)
def t_lawB (K : Frag) : TS := (tSeq (tPar3 12 13 14 (tCons (tPropR 6 (He.ga K "Machine") (spOf K (F_Machine_slots K)) E0 (tVar 6)) (tCons (tLc (iSq K (tVar 7)) (gName 17) tYes (tOp (uMul K) (tLst (tCons (tC (.int 0)) tNil)) (tC (.int 8))) [17]) (tCons (tLst tNil) tNil)))) (tSeq (tFor (iEnumU K (tCons (tVar 11) tNil)) (gTup K 2 (gCons (gName 3) (gCons (gName 15) gNil))) (tSeq (tAsg (tIf (tTest (tOp (uLt K) (tVar 3) (tCB (Dl.rLen K) (tCons (tVar 9) tNil)))) (tOp (uIx K) (tVar 9) (tVar 3)) (tC (.int 0))) (gName 16)) (tSeq (tAsg (tOp (uSub K) (tVar 16) (tOp (uMul K) (tOp (uFDiv K) (tVar 16) (tVar 8)) (tVar 8))) (gName 16)) (tSeq (tDrop (tBM K "list" rAppend (tVar 14) (tCons (tTup (tCons (tC (.str (PySem.Str.ofString "take"))) (tCons (tVar 16) tNil))) tNil))) (tSeq (tFor (iRng1 (tCons (tOp (uIx K) (tVar 15) (tC (.int 2))) tNil)) (gName 17) (tSeq (tAsg (tOp (uIx K) (tVar 13) (tVar 17)) (gName 18)) (tAsg (tVar 16) (gSub (tVar 18) (tOp (uIx K) (tVar 15) (tC (.int 1))) rSetL)))) (tSeq (tDrop (tMethR 6 (He.ga K "Machine") "go" (spOf K (F_Machine_go K)) E0 (tVar 6) (tCons (tC (.int 1)) tNil))) (tSeq (tIfS ((tOr (tTest (tOp (uNe K) (tPropR 6 (He.ga K "Machine") (spOf K (F_Machine_row K)) E0 (tVar 6)) (tVar 14))) (tOr (tTest (tOp (uNe K) (tPropR 6 (He.ga K "Machine") (spOf K (F_Machine_slots K)) E0 (tVar 6)) (tVar 12))) (tTest (tOp (uNe K) (tPropR 6 (He.ga K "Machine") (spOf K (F_Machine_left K)) E0 (tVar 6)) (tSl (rSlU K) (tVar 9) (tPart (tOp (uAdd K) (tVar 3) (tC (.int 1)))) tNoPart)))))) (tRet (tC (.bl false))) tNext) (tFor (iRng1 (tCons (tVar 10) tNil)) (gName 17) (tIfS ((tOr (tTest (tOp (uNe K) (tMethR 6 (He.ga K "Machine") "registers" (spOf K (F_Machine_registers K)) E0 (tVar 6) (tCons (tVar 17) tNil)) (tCB (rTupU K) (tCons (tOp (uIx K) (tVar 13) (tVar 17)) tNil)))) (tTest (tOp (uNe K) (tMethR 6 (He.ga K "Machine") "cells" (spOf K (F_Machine_cells K)) E0 (tVar 6) (tCons (tVar 17) tNil)) (tTup (tCons (tC (.int 1)) tNil)))))) (tRet (tC (.bl false))) tNext))))))))) (tSeq (tDrop (tMethR 6 (He.ga K "Machine") "go" (spOf K (F_Machine_go K)) E0 (tVar 6) (tCons (tC (.int 5)) tNil))) (tIfS ((tOr (tTest (tOp (uNe K) (tPropR 6 (He.ga K "Machine") (spOf K (F_Machine_row K)) E0 (tVar 6)) (tOp (uAdd K) (tVar 14) (tLst (tCons (tTup (tCons (tC (.str (PySem.Str.ofString "stop"))) tNil)) tNil))))) (tOr (tTest (tOp (uNe K) (tPropR 6 (He.ga K "Machine") (spOf K (F_Machine_state K)) E0 (tVar 6)) (tC (.str (PySem.Str.ofString "stopped"))))) (tTest (tOp (uNe K) (tPropR 6 (He.ga K "Machine") (spOf K (F_Machine_slots K)) E0 (tVar 6)) (tVar 12)))))) (tRet (tC (.bl false))) tNext))))
def t_lawC (K : Frag) : TS := (tSeq (tAsg (tIf (tTest (tOp (uLt K) (tVar 3) (tCB (Dl.rLen K) (tCons (tVar 9) tNil)))) (tOp (uIx K) (tVar 9) (tVar 3)) (tC (.int 0))) (gName 16)) (tSeq (tAsg (tOp (uSub K) (tVar 16) (tOp (uMul K) (tOp (uFDiv K) (tVar 16) (tVar 8)) (tVar 8))) (gName 16)) (tSeq (tDrop (tBM K "list" rAppend (tVar 14) (tCons (tTup (tCons (tC (.str (PySem.Str.ofString "take"))) (tCons (tVar 16) tNil))) tNil))) (tSeq (tFor (iRng1 (tCons (tOp (uIx K) (tVar 15) (tC (.int 2))) tNil)) (gName 17) (tSeq (tAsg (tOp (uIx K) (tVar 13) (tVar 17)) (gName 18)) (tAsg (tVar 16) (gSub (tVar 18) (tOp (uIx K) (tVar 15) (tC (.int 1))) rSetL)))) (tSeq (tDrop (tMethR 6 (He.ga K "Machine") "go" (spOf K (F_Machine_go K)) E0 (tVar 6) (tCons (tC (.int 1)) tNil))) (tSeq (tIfS ((tOr (tTest (tOp (uNe K) (tPropR 6 (He.ga K "Machine") (spOf K (F_Machine_row K)) E0 (tVar 6)) (tVar 14))) (tOr (tTest (tOp (uNe K) (tPropR 6 (He.ga K "Machine") (spOf K (F_Machine_slots K)) E0 (tVar 6)) (tVar 12))) (tTest (tOp (uNe K) (tPropR 6 (He.ga K "Machine") (spOf K (F_Machine_left K)) E0 (tVar 6)) (tSl (rSlU K) (tVar 9) (tPart (tOp (uAdd K) (tVar 3) (tC (.int 1)))) tNoPart)))))) (tRet (tC (.bl false))) tNext) (tFor (iRng1 (tCons (tVar 10) tNil)) (gName 17) (tIfS ((tOr (tTest (tOp (uNe K) (tMethR 6 (He.ga K "Machine") "registers" (spOf K (F_Machine_registers K)) E0 (tVar 6) (tCons (tVar 17) tNil)) (tCB (rTupU K) (tCons (tOp (uIx K) (tVar 13) (tVar 17)) tNil)))) (tTest (tOp (uNe K) (tMethR 6 (He.ga K "Machine") "cells" (spOf K (F_Machine_cells K)) E0 (tVar 6) (tCons (tVar 17) tNil)) (tTup (tCons (tC (.int 1)) tNil)))))) (tRet (tC (.bl false))) tNext))))))))
def t_lawD (K : Frag) : TS := (tSeq (tDrop (tMethR 6 (He.ga K "Machine") "go" (spOf K (F_Machine_go K)) E0 (tVar 6) (tCons (tC (.int 5)) tNil))) (tIfS ((tOr (tTest (tOp (uNe K) (tPropR 6 (He.ga K "Machine") (spOf K (F_Machine_row K)) E0 (tVar 6)) (tOp (uAdd K) (tVar 14) (tLst (tCons (tTup (tCons (tC (.str (PySem.Str.ofString "stop"))) tNil)) tNil))))) (tOr (tTest (tOp (uNe K) (tPropR 6 (He.ga K "Machine") (spOf K (F_Machine_state K)) E0 (tVar 6)) (tC (.str (PySem.Str.ofString "stopped"))))) (tTest (tOp (uNe K) (tPropR 6 (He.ga K "Machine") (spOf K (F_Machine_slots K)) E0 (tVar 6)) (tVar 12)))))) (tRet (tC (.bl false))) tNext))
def t_lawE (K : Frag) : TS := (tSeq (tAsg (tOp (uSub K) (tVar 16) (tOp (uMul K) (tOp (uFDiv K) (tVar 16) (tVar 8)) (tVar 8))) (gName 16)) (tSeq (tDrop (tBM K "list" rAppend (tVar 14) (tCons (tTup (tCons (tC (.str (PySem.Str.ofString "take"))) (tCons (tVar 16) tNil))) tNil))) (tSeq (tFor (iRng1 (tCons (tOp (uIx K) (tVar 15) (tC (.int 2))) tNil)) (gName 17) (tSeq (tAsg (tOp (uIx K) (tVar 13) (tVar 17)) (gName 18)) (tAsg (tVar 16) (gSub (tVar 18) (tOp (uIx K) (tVar 15) (tC (.int 1))) rSetL)))) (tSeq (tDrop (tMethR 6 (He.ga K "Machine") "go" (spOf K (F_Machine_go K)) E0 (tVar 6) (tCons (tC (.int 1)) tNil))) (tSeq (tIfS ((tOr (tTest (tOp (uNe K) (tPropR 6 (He.ga K "Machine") (spOf K (F_Machine_row K)) E0 (tVar 6)) (tVar 14))) (tOr (tTest (tOp (uNe K) (tPropR 6 (He.ga K "Machine") (spOf K (F_Machine_slots K)) E0 (tVar 6)) (tVar 12))) (tTest (tOp (uNe K) (tPropR 6 (He.ga K "Machine") (spOf K (F_Machine_left K)) E0 (tVar 6)) (tSl (rSlU K) (tVar 9) (tPart (tOp (uAdd K) (tVar 3) (tC (.int 1)))) tNoPart)))))) (tRet (tC (.bl false))) tNext) (tFor (iRng1 (tCons (tVar 10) tNil)) (gName 17) (tIfS ((tOr (tTest (tOp (uNe K) (tMethR 6 (He.ga K "Machine") "registers" (spOf K (F_Machine_registers K)) E0 (tVar 6) (tCons (tVar 17) tNil)) (tCB (rTupU K) (tCons (tOp (uIx K) (tVar 13) (tVar 17)) tNil)))) (tTest (tOp (uNe K) (tMethR 6 (He.ga K "Machine") "cells" (spOf K (F_Machine_cells K)) E0 (tVar 6) (tCons (tVar 17) tNil)) (tTup (tCons (tC (.int 1)) tNil)))))) (tRet (tC (.bl false))) tNext)))))))
def t_lawF (K : Frag) : TS := (tFor (iRng1 (tCons (tOp (uIx K) (tVar 15) (tC (.int 2))) tNil)) (gName 17) (tSeq (tAsg (tOp (uIx K) (tVar 13) (tVar 17)) (gName 18)) (tAsg (tVar 16) (gSub (tVar 18) (tOp (uIx K) (tVar 15) (tC (.int 1))) rSetL))))
section
variable {K : Frag} {mg : Str → Option Value} {Γ : List Sl} {k : Sl → List Sl → Prop} {O : Out}
theorem u_Machine_row {m : Mach} {k : Sl → List Sl → Prop} (hk : k (.dat (.list m.row)) [.res (m.R K)]) : F_Machine_row K [.res (m.R K)] k := ⟨m, rfl, hk⟩
theorem u_Machine_state {m : Mach} {k : Sl → List Sl → Prop} (hk : k (.dat (.str m.state)) [.res (m.R K)]) : F_Machine_state K [.res (m.R K)] k := ⟨m, rfl, hk⟩
theorem u_Machine_left {m : Mach} {k : Sl → List Sl → Prop} (hk : k (.dat (.list (iL m.left))) [.res (m.R K)]) : F_Machine_left K [.res (m.R K)] k := ⟨m, rfl, hk⟩
theorem u_Machine_slots {m : Mach} {k : Sl → List Sl → Prop} (hl : m.hues.length ≤ 5) (hk : k (.dat (.tuple (m.hues.map (·.slot)))) [.res (m.R K)]) : F_Machine_slots K [.res (m.R K)] k := ⟨m, hl, rfl, hk⟩
theorem u_Machine_registers {m : Mach} {i : Nat} {h : Hue} {k : Sl → List Sl → Prop} (hi : m.hues[i]? = some h) (hl : m.hues.length = m.code.votes.length) (hk : k (.dat (.tuple (iL h.regs))) [.res (m.R K), .dat (.int i)]) : F_Machine_registers K [.res (m.R K), .dat (.int i)] k := ⟨m, i, h, hi, hl, rfl, hk⟩
theorem u_Machine_cells {m : Mach} {i : Nat} {h : Hue} {k : Sl → List Sl → Prop} (hi : m.hues[i]? = some h) (hl : m.hues.length = m.code.votes.length) (hk : k (.dat (.tuple (iL h.bank))) [.res (m.R K), .dat (.int i)]) : F_Machine_cells K [.res (m.R K), .dat (.int i)] k := ⟨m, i, h, hi, hl, rfl, hk⟩
theorem e_prop6 {m : Mach} {F : Frag → FSpec} (hj : Γ[6]? = some (.res (m.R K))) (h : F K [.res (m.R K)] fun r0 as' => ∃ r' : Res, as'[0]? = some (.res r') ∧ r'.v = (m.R K).v ∧ as'.length = 1 ∧ k r0 (Γ.set 6 (.res r'))) :
    EvP K (tPropR 6 (He.ga K "Machine") (spOf K (F K)) E0 (tVar 6)) Γ k := e_propR hj (isIns_star (n := 0) rfl (by decide)) h
theorem law_D (T : TX K mg) {O : Out} {s0 s1 s2 s3 s4 s5 s7 s8 s9 s10 s11 s13 s15 s16 s17 s18 : Sl} {vs ins left fs : List Int} {size : Int} {ts : List (Int × Int)} {regs : List (List Int)} {xm ar : Addr} {m : Mach} {slots row : List PyData}
    (A : m.At ((fs.length + ts.length : Nat) : Int)) (I : Is m xm (mkCode vs size fs ts) left row sRun regs slots) (hn5 : vs.length ≤ 5) (hss : ∀ s ∈ slots, Shp 1 s) (hrow : row.length ≤ 8) (hrs : ∀ s ∈ row, Shp 1 s)
    (h : ∀ m2 : Mach, O.nx [s0, s1, s2, s3, s4, s5, .res (m2.R K), s7, s8, s9, s10, s11, .dat (.tuple slots), s13, .dat (.list row), s15, s16, s17, s18]) :
    ExS K (t_lawD K) [s0, s1, s2, s3, s4, s5, .res (m.R K), s7, s8, s9, s10, s11, .dat (.tuple slots), s13, .res (ownL ar row), s15, s16, s17, s18] O := by
  unfold t_lawD
  have hml : m.hues.length = vs.length := by rw [A.hues, I.code]; rfl
  have hcell : m.code.cells[(((fs.length + ts.length : Nat) : Int)).toNat]? = some .stop := by rw [I.code, Int.toNat_natCast]; exact cells_stop
  have A1 := at_stop A (by rw [I.row]; omega)
  have I1 := is_stop (p := ((fs.length + ts.length : Nat) : Int)) I
  have G : Goes 5 m _ _ _ := .step A I.state (by omega) hcell (.halt A1 (by rw [I1.state]; decide +kernel))
  have hv : (endAt (stepM m ((fs.length + ts.length : Nat) : Int) .stop) (((fs.length + ts.length : Nat) : Int) + 1)).a = m.a := I1.a.trans I.a.symm
  have A2 := A1.endAt (q := ((fs.length + ts.length : Nat) : Int) + 1)
  have I2 := I1.endAt (p := ((fs.length + ts.length : Nat) : Int) + 1)
  refine x_seq (x_expr (e_methR (r := m.R K) rfl (isIns_star (n := 0) rfl (by decide)) ?_))
  refine a_cons (e_int (a_nil ⟨_, rfl, rfl, u_Machine_go (n := 5) G (fun e => absurd (I1.state.symm.trans e) (by decide +kernel)) (by decide) ⟨_, rfl, congrArg V.ref hv, rfl, ?_⟩⟩))
  generalize endAt (stepM m ((fs.length + ts.length : Nat) : Int) .stop) (((fs.length + ts.length : Nat) : Int) + 1) = m2 at A2 I2 hv
  have hml2 : m2.hues.length = vs.length := by rw [A2.hues, I2.code]; rfl
  refine x_frz 14 rfl ?_
  show ExS K _ [s0, s1, s2, s3, s4, s5, .res (m2.R K), s7, s8, s9, s10, s11, .dat (.tuple slots), s13, .dat (.list row), s15, s16, s17, s18] _
  refine x_if' (b_or' ?_)
  refine b_test (e_op (e_prop6 (F := F_Machine_row) (m := m2) rfl (u_Machine_row ⟨_, rfl, rfl, rfl, ?_⟩)))
  rw [I2.row]
  have hstop : Shp 1 (.tuple [.str wStop]) := .tuple fun x hx => by
    simp only [List.mem_singleton] at hx
    subst hx
    exact .str (by decide +kernel)
  have hall : Shp 2 (.list (row ++ [.tuple [.str wStop]])) := .list fun x hx => by
    rcases List.mem_append.mp hx with q | q
    · exact hrs x q
    · simp only [List.mem_singleton] at q
      subst q
      exact hstop
  repeat' walk_at "d1"
  refine op_add_l (Nat.le_trans (by show row.length + 1 ≤ 100; omega) (by decide)) ?_
  refine op_ne_same hall.le ⟨_, rfl, ?_⟩
  refine iteF (b_or' (b_test (e_op (e_prop6 (F := F_Machine_state) (m := m2) rfl (u_Machine_state ⟨_, rfl, rfl, rfl, ?_⟩)))))
  rw [I2.state]
  repeat' walk_at "d1"
  refine e_prop6 (F := F_Machine_slots) (m := m2) rfl (u_Machine_slots (by omega) ⟨_, rfl, rfl, rfl, ?_⟩)
  rw [I2.slots]
  repeat' walk_at "d1"
  refine op_ne_same (Shp.tuple hss).le ⟨_, rfl, ?_⟩
  repeat' walk_at "d1"
  exact h m2
theorem due_at {dl : List (Addr × List Int)} {d : Addr} {i : Nat} {p : Addr × List Int} (e : dl[i]? = some p) : ((d, Cell.lst (dl.map fun p => .raw (.ref p.1))) :: dueC dl)[1 + i]? = some (p.1, .lst ((iL p.2).map .dat)) := by
  rw [show 1 + i = i + 1 by omega, List.getElem?_cons_succ]
  unfold dueC
  rw [List.getElem?_map, e]
  rfl
theorem due_refs {dl : List (Addr × List Int)} {i : Nat} {p : Addr × List Int} (e : dl[i]? = some p) : atI (dl.map fun p => Sl.raw (.ref p.1)) (i : Int) = some (.raw (.ref p.1)) := by
  have hlt : i < dl.length := (List.getElem?_eq_some_iff.mp e).1
  unfold atI ixN
  rw [List.length_map, if_pos (by omega), if_pos (by omega)]
  show (dl.map _)[(i : Int).toNat]? = _
  rw [Int.toNat_natCast, List.getElem?_map, e]
  rfl
theorem due_set {dl : List (Addr × List Int)} {d : Addr} {i : Nat} {p : Addr × List Int} {l : List Int} (e : dl[i]? = some p) : ((d, Cell.lst (dl.map fun p => .raw (.ref p.1))) :: dueC dl).set (1 + i) (p.1, .lst ((iL l).map .dat)) = (d, Cell.lst ((dl.set i (p.1, l)).map fun p => .raw (.ref p.1))) :: dueC (dl.set i (p.1, l)) := by
  rw [show 1 + i = i + 1 by omega, List.set_cons_succ]
  unfold dueC
  rw [List.map_set, List.map_set]
  congr 3
  symm
  exact setSame (by rw [List.getElem?_map, e]; rfl)
def dueTo (r : Nat) (n : Int) (i : Nat) (dl : List (Addr × List Int)) : List (Addr × List Int) := (dl.take i).map (fun p => (p.1, p.2.set r n)) ++ dl.drop i
theorem dueTo_get {r : Nat} {n : Int} {dl : List (Addr × List Int)} {i : Nat} {h : Addr × List Int} (e : dl[i]? = some h) : (dueTo r n i dl)[i]? = some h := by
  have hl : i < dl.length := (List.getElem?_eq_some_iff.mp e).1
  have h1 : ((dl.take i).map (fun p => (p.1, p.2.set r n))).length = i := by simp; omega
  unfold dueTo
  rw [List.getElem?_append_right (by omega), h1, Nat.sub_self, List.getElem?_drop]
  exact e
theorem dueTo_set {r : Nat} {n : Int} {dl : List (Addr × List Int)} {i : Nat} {h : Addr × List Int} (e : dl[i]? = some h) : (dueTo r n i dl).set i (h.1, h.2.set r n) = dueTo r n (i + 1) dl := by
  have hl : i < dl.length := (List.getElem?_eq_some_iff.mp e).1
  have h1 : ((dl.take i).map (fun p => (p.1, p.2.set r n))).length = i := by simp; omega
  have h2 : dl[i] = h := (List.getElem?_eq_some_iff.mp e).2
  unfold dueTo
  rw [List.set_append_right _ _ (by omega), h1, Nat.sub_self, List.drop_eq_getElem_cons hl, List.set_cons_zero, List.take_succ_eq_append_getElem hl, h2]
  simp
theorem dueTo_snd {r : Nat} {n : Int} {dl : List (Addr × List Int)} {i : Nat} : (dueTo r n i dl).map (·.2) = ((dl.map (·.2)).take i).map (fun l => l.set r n) ++ (dl.map (·.2)).drop i := by
  unfold dueTo
  simp only [List.map_append, List.map_map, List.map_take, List.map_drop]
  rfl
theorem dueTo_len {r : Nat} {n : Int} {dl : List (Addr × List Int)} {i : Nat} : (dueTo r n i dl).length = dl.length := by simp [dueTo]; omega
theorem law_F (T : TX K mg) {O : Out} {s0 s1 s2 s3 s4 s5 s6 s7 s8 s9 s10 s11 s12 s14 z17 z18 : Sl} {d : Addr} {dl : List (Addr × List Int)} {t : Int × Int} {n : Int}
    (htb : (0 ≤ t.1 ∧ t.1 ≤ 7) ∧ 1 ≤ t.2 ∧ t.2 ≤ dl.length) (hn5 : dl.length ≤ 5) (h8 : ∀ p ∈ dl, p.2.length = 8)
    (h : ∀ z17 z18, O.nx [s0, s1, s2, s3, s4, s5, s6, s7, s8, s9, s10, s11, s12, .res (dueR d (dueTo t.1.toNat n t.2.toNat dl)), s14, .dat (takD t), .dat (.int n), z17, z18]) :
    ExS K (t_lawF K) [s0, s1, s2, s3, s4, s5, s6, s7, s8, s9, s10, s11, s12, .res (dueR d dl), s14, .dat (takD t), .dat (.int n), z17, z18] O := by
  unfold t_lawF
  refine x_for (i_rng1 ?_)
  unfold takD
  repeat' walk_at "d1"
  refine ⟨by omega, by omega, fun i Γ => ∃ z17 z18, Γ = [s0, s1, s2, s3, s4, s5, s6, s7, s8, s9, s10, s11, s12, .res (dueR d (dueTo t.1.toNat n i dl)), s14, .dat (takD t), .dat (.int n), z17, z18], ⟨z17, z18, by unfold dueTo takD; simp⟩, fun _ _ _ _ => trivial, ?_, ?_⟩
  · rintro i Γ hi ⟨z17, z18, rfl⟩
    obtain ⟨p, hp⟩ : ∃ p, dl[i]? = some p := ⟨_, List.getElem?_eq_getElem (by omega)⟩
    have hp8 := h8 p (List.mem_of_getElem? hp)
    have hg := dueTo_get (r := t.1.toNat) (n := n) hp
    refine g_name ?_
    repeat' walk_at "d1"
    refine op_ixL (.s 13 0 rfl rfl) (due_refs hg) ?_
    repeat' walk_at "d1"
    refine g_subC 13 (1 + i) trivial (e_raw rfl ?_)
    unfold takD
    repeat' walk_at "d1"
    refine ⟨_, _, _, _, _, t.1.toNat, rfl, rfl, rfl, due_at hg, ?_, .dat (.int i), .raw (.ref p.1), ?_⟩
    · unfold ixN iL
      rw [List.length_map, List.length_map, hp8, if_pos htb.1.1, if_pos (by have := htb.1.2; omega)]
    · have e : ((iL p.2).map Sl.dat).set t.1.toNat (.dat (.int n)) = (iL (p.2.set t.1.toNat n)).map .dat := by
        unfold iL
        simp only [List.map_set]
      rw [e, due_set hg, dueTo_set hp]
      rfl
  · rintro Γ ⟨z17, z18, rfl⟩
    exact h z17 z18
theorem cut_from {ins : List Int} {j : Nat} : cutG (iL ins) (some ((j : Int) + 1)) none = iL (ins.drop (j + 1)) := by
  unfold cutG
  have hli : (iL ins).length = ins.length := List.length_map ..
  show ((iL ins).drop (if (j : Int) + 1 < 0 then ((j : Int) + 1 + ((iL ins).length : Int)).toNat else min ((j : Int) + 1).toNat (iL ins).length)).take ((iL ins).length - (if (j : Int) + 1 < 0 then ((j : Int) + 1 + ((iL ins).length : Int)).toNat else min ((j : Int) + 1).toNat (iL ins).length)) = _
  rw [if_neg (by omega), show ((j : Int) + 1).toNat = j + 1 by omega]
  rw [List.take_of_length_le (by rw [List.length_drop]; exact Nat.le_refl _)]
  have e : (iL ins).drop (min (j + 1) (iL ins).length) = (iL ins).drop (j + 1) := by
    by_cases q : j + 1 ≤ (iL ins).length
    · rw [Nat.min_eq_left q]
    · rw [Nat.min_eq_right (by omega), List.drop_of_length_le (Nat.le_refl _), List.drop_of_length_le (by omega)]
  rw [e]
  unfold iL
  rw [List.map_drop]
theorem law_E (T : TX K mg) {O : Out} {s0 s1 s2 s4 s5 s10 s11 z16 z17 z18 : Sl} {vs ins fs : List Int} {size : Int} {ts : List (Int × Int)} {xm ar d : Addr} {m : Mach} {dl : List (Addr × List Int)} {slots row : List PyData} {j : Nat} {t : Int × Int}
    (A : m.At ((fs.length + j : Nat) : Int)) (I : Is m xm (mkCode vs size fs ts) (ins.drop j) row sRun (dl.map (·.2)) slots) (hdl : dl.length = vs.length) (hn5 : vs.length ≤ 5) (hss : ∀ s ∈ slots, Shp 1 s) (hrow : row.length = j) (hj8 : j < 8) (hrs : ∀ s ∈ row, Shp 1 s)
    (ht : ts[j]? = some t) (htb : (0 ≤ t.1 ∧ t.1 ≤ 7) ∧ 1 ≤ t.2 ∧ t.2 ≤ vs.length) (hs0 : 2 ≤ size) (hs1 : size ≤ 10000) (hin : ins.length ≤ 6)
    (h : ∀ (m2 : Mach) dl row z16 z17 z18, m2.At ((fs.length + (j + 1) : Nat) : Int) → Is m2 xm (mkCode vs size fs ts) (ins.drop (j + 1)) row sRun (dl.map (·.2)) slots → dl.length = vs.length → row.length = j + 1 → (∀ s ∈ row, Shp 1 s) →
      O.nx [s0, s1, s2, .dat (.int j), s4, s5, .res (m2.R K), .dat (.tuple (iL vs)), .dat (.int size), .dat (.list (iL ins)), .dat (.int vs.length), s11, .dat (.tuple slots), .res (dueR d dl), .res (ownL ar row), .dat (takD t), z16, z17, z18]) :
    ExS K (t_lawE K) [s0, s1, s2, .dat (.int j), s4, s5, .res (m.R K), .dat (.tuple (iL vs)), .dat (.int size), .dat (.list (iL ins)), .dat (.int vs.length), s11, .dat (.tuple slots), .res (dueR d dl), .res (ownL ar row), .dat (takD t), .dat (.int ((ins.drop j).headD 0)), z17, z18] O := by
  unfold t_lawE
  generalize hn : (ins.drop j).headD 0 = n
  have hnum : n - n / size * size = n % size := by rw [Int.emod_def, Int.mul_comm]
  repeat' walk_at "d1"
  refine op_fdiv_i ⟨by omega, by omega⟩ ?_
  repeat' walk_at "d1"
  refine op_mul_i (.inr ⟨by omega, by omega⟩) ?_
  repeat' walk_at "d1"
  rw [hnum]
  refine e_append 14 (e_res rfl ⟨ar, rfl, ⟨row, rfl⟩, ?_⟩)
  repeat' walk_at "d1"
  have h8 : ∀ p ∈ dl, p.2.length = 8 := fun p hp => by
    have q : p.2 ∈ m.hues.map (·.regs) := by rw [I.regs]; exact List.mem_map.mpr ⟨p, hp, rfl⟩
    obtain ⟨g, hg, e⟩ := List.mem_map.mp q
    rw [← e]
    exact A.regs g hg
  refine ⟨by rw [hrow]; exact Nat.lt_of_lt_of_le hj8 (by decide), x_seq (law_F T (by rw [hdl]; exact htb) (by omega) h8 fun z17 z18 => ?_)⟩
  have hcell : m.code.cells[(((fs.length + j : Nat) : Int)).toNat]? = some (.take t.1 t.2) := by rw [I.code, Int.toNat_natCast]; exact cells_tak ht
  have hjt : j < ts.length := (List.getElem?_eq_some_iff.mp ht).1
  have A1 := at_take (r := t.1) (w := t.2) A (by rw [I.row]; omega)
  have I1 := is_take (p := ((fs.length + j : Nat) : Int)) (r := t.1) (w := t.2) I
  rw [hn, ← dueTo_snd, List.tail_drop] at I1
  have hsz : (mkCode vs size fs ts).size = size := rfl
  rw [hsz] at I1
  rw [show (((fs.length + j : Nat) : Int) + 1) = ((fs.length + (j + 1) : Nat) : Int) by omega] at A1
  have G : Goes 1 m _ _ ((fs.length + (j + 1) : Nat) : Int) := .step A I.state (by omega) hcell (by rw [show (((fs.length + j : Nat) : Int) + 1) = ((fs.length + (j + 1) : Nat) : Int) by omega]; exact .zero A1)
  have hv : (endAt (stepM m ((fs.length + j : Nat) : Int) (.take t.1 t.2)) ((fs.length + (j + 1) : Nat) : Int)).a = m.a := I1.a.trans I.a.symm
  have A2 := A1.endAt (q := ((fs.length + (j + 1) : Nat) : Int))
  have I2 := I1.endAt (p := ((fs.length + (j + 1) : Nat) : Int))
  refine x_seq (x_expr (e_methR (r := m.R K) rfl (isIns_star (n := 0) rfl (by decide)) ?_))
  refine a_cons (e_int (a_nil ⟨_, rfl, rfl, u_Machine_go (n := 1) G (fun _ => ⟨by omega, by rw [I1.code, cells_len]; omega⟩) (by decide) ⟨_, rfl, congrArg V.ref hv, rfl, ?_⟩⟩))
  generalize endAt (stepM m ((fs.length + j : Nat) : Int) (.take t.1 t.2)) ((fs.length + (j + 1) : Nat) : Int) = m2 at A2 I2 hv
  generalize hdl3 : dueTo t.1.toNat (n % size) t.2.toNat dl = dl3 at I2
  have hdl3l : dl3.length = vs.length := by rw [← hdl3, dueTo_len, hdl]
  have hml2 : m2.hues.length = vs.length := by rw [A2.hues, I2.code]; rfl
  have hrs2 : ∀ s ∈ row ++ [PyData.tuple [.str wTake, .int (n % size)]], Shp 1 s := fun s hs => by
    rcases List.mem_append.mp hs with q | q
    · exact hrs s q
    · simp only [List.mem_singleton] at q
      subst q
      refine .tuple fun x hx => ?_
      simp only [List.mem_cons, List.not_mem_nil, or_false] at hx
      rcases hx with rfl | rfl
      · exact .str (by decide +kernel)
      · exact .int
  show ExS K _ [s0, s1, s2, .dat (.int j), s4, s5, .res (m2.R K), .dat (.tuple (iL vs)), .dat (.int size), .dat (.list (iL ins)), .dat (.int vs.length), s11, .dat (.tuple slots), .res (dueR d dl3), .res (ownL ar (row ++ [PyData.tuple [.str wTake, .int (n % size)]])), .dat (takD t), .dat (.int (n % size)), z17, z18] _
  generalize hrow3 : row ++ [PyData.tuple [.str wTake, .int (n % size)]] = row3 at I2 hrs2
  have hrow3l : row3.length = j + 1 := by rw [← hrow3, List.length_append, hrow]; rfl
  refine x_seq (x_if' (b_or' (b_test (e_op (e_prop6 (F := F_Machine_row) (m := m2) rfl (u_Machine_row ⟨_, rfl, rfl, rfl, ?_⟩))))))
  rw [I2.row]
  repeat' walk_at "d1"
  refine op_neR_same (HasL.o 14 rfl) (Shp.list hrs2).le ⟨_, rfl, ?_⟩
  refine iteF (b_or' (b_test (e_op (e_prop6 (F := F_Machine_slots) (m := m2) rfl (u_Machine_slots (by omega) ⟨_, rfl, rfl, rfl, ?_⟩)))))
  rw [I2.slots]
  repeat' walk_at "d1"
  refine op_ne_same (Shp.tuple hss).le ⟨_, rfl, ?_⟩
  refine iteF (b_test (e_op (e_prop6 (F := F_Machine_left) (m := m2) rfl (u_Machine_left ⟨_, rfl, rfl, rfl, ?_⟩))))
  rw [I2.left]
  repeat' walk_at "d1"
  rw [cut_from]
  refine op_ne_same (Shp.list (n := 1) shp_ints).le ⟨_, rfl, ?_⟩
  repeat' walk_at "d1"
  refine x_for (i_rng1 ?_)
  repeat' walk_at "d1"
  refine ⟨by omega, by omega, fun i Γ => ∃ z17, Γ = [s0, s1, s2, .dat (.int j), s4, s5, .res (m2.R K), .dat (.tuple (iL vs)), .dat (.int size), .dat (.list (iL ins)), .dat (.int vs.length), s11, .dat (.tuple slots), .res (dueR d dl3), .res (ownL ar row3), .dat (takD t), .dat (.int (n % size)), z17, z18], ⟨z17, rfl⟩, fun _ _ _ _ => trivial, ?_, ?_⟩
  · rintro i Γ hi ⟨y17, rfl⟩
    obtain ⟨g, hg⟩ := hue_at (hs := m2.hues) (i := i) (by omega)
    obtain ⟨p, hp⟩ : ∃ p, dl3[i]? = some p := ⟨_, List.getElem?_eq_getElem (by omega)⟩
    have hgp : g.regs = p.2 := by
      have q : (m2.hues.map (·.regs))[i]? = (dl3.map (·.2))[i]? := by rw [I2.regs]
      rw [List.getElem?_map, List.getElem?_map, hg, hp] at q
      exact Option.some.inj q
    have hgb : g.bank = [1] := I2.bank g (List.mem_of_getElem? hg)
    refine g_name (x_if' (b_or' (b_test (e_op (e_methR (r := m2.R K) rfl (isIns_star (n := 0) rfl (by decide)) ?_)))))
    repeat' walk_at "d1"
    refine ⟨rfl, u_Machine_registers hg (by rw [A2.hues]) ⟨_, rfl, rfl, rfl, ?_⟩⟩
    rw [hgp]
    repeat' walk_at "d1"
    refine op_ixL (.s 13 0 rfl rfl) (due_refs hp) ?_
    repeat' walk_at "d1"
    refine cb_tupleC (ds := iL p.2) (.s 13 (1 + i) rfl (due_at hp)) ?_
    refine op_ne_same (Shp.tuple (n := 1) shp_ints).le ⟨_, rfl, ?_⟩
    refine iteF (b_test (e_op (e_methR (r := m2.R K) rfl (isIns_star (n := 0) rfl (by decide)) ?_)))
    repeat' walk_at "d1"
    refine ⟨rfl, u_Machine_cells hg (by rw [A2.hues]) ⟨_, rfl, rfl, rfl, ?_⟩⟩
    rw [hgb]
    repeat' walk_at "d1"
    exact ⟨_, rfl⟩
  · rintro Γ ⟨y17, rfl⟩
    exact h m2 dl3 row3 _ y17 z18 A2 I2 hdl3l hrow3l hrs2
theorem law_C (T : TX K mg) {O : Out} {s0 s1 s2 s4 s5 s11 z16 z17 z18 : Sl} {vs ins fs : List Int} {size : Int} {ts : List (Int × Int)} {xm ar d : Addr} {m : Mach} {dl : List (Addr × List Int)} {slots row : List PyData} {j : Nat} {t : Int × Int}
    (A : m.At ((fs.length + j : Nat) : Int)) (I : Is m xm (mkCode vs size fs ts) (ins.drop j) row sRun (dl.map (·.2)) slots) (hdl : dl.length = vs.length) (hn5 : vs.length ≤ 5) (hss : ∀ s ∈ slots, Shp 1 s) (hrow : row.length = j) (hj8 : j < 8) (hrs : ∀ s ∈ row, Shp 1 s)
    (ht : ts[j]? = some t) (htb : (0 ≤ t.1 ∧ t.1 ≤ 7) ∧ 1 ≤ t.2 ∧ t.2 ≤ vs.length) (hs0 : 2 ≤ size) (hs1 : size ≤ 10000) (hin : ins.length ≤ 6)
    (h : ∀ (m2 : Mach) dl row z16 z17 z18, m2.At ((fs.length + (j + 1) : Nat) : Int) → Is m2 xm (mkCode vs size fs ts) (ins.drop (j + 1)) row sRun (dl.map (·.2)) slots → dl.length = vs.length → row.length = j + 1 → (∀ s ∈ row, Shp 1 s) →
      O.nx [s0, s1, s2, .dat (.int j), s4, s5, .res (m2.R K), .dat (.tuple (iL vs)), .dat (.int size), .dat (.list (iL ins)), .dat (.int vs.length), s11, .dat (.tuple slots), .res (dueR d dl), .res (ownL ar row), .dat (takD t), z16, z17, z18]) :
    ExS K (t_lawC K) [s0, s1, s2, .dat (.int j), s4, s5, .res (m.R K), .dat (.tuple (iL vs)), .dat (.int size), .dat (.list (iL ins)), .dat (.int vs.length), s11, .dat (.tuple slots), .res (dueR d dl), .res (ownL ar row), .dat (takD t), z16, z17, z18] O := by
  have hE := fun z16 => law_E (z16 := z16) (s10 := .no) T (O := O) (s0 := s0) (s1 := s1) (s2 := s2) (s4 := s4) (s5 := s5) (s11 := s11) (z17 := z17) (z18 := z18) (ar := ar) (d := d) A I hdl hn5 hss hrow hj8 hrs ht htb hs0 hs1 hin h
  unfold t_lawC
  have hli : (iL ins).length = ins.length := List.length_map ..
  repeat' walk_at "d1"
  rw [hli]
  refine iteB (fun hb => ?_) (fun hb => ?_)
  · have hlt : j < ins.length := by simpa using hb
    have hx : atI (iL ins) (j : Int) = some (.int ((ins.drop j).headD 0)) := by
      unfold atI ixN
      rw [hli, if_pos (by omega), if_pos (by omega)]
      show (iL ins)[(j : Int).toNat]? = _
      rw [Int.toNat_natCast]
      unfold iL
      rw [List.getElem?_map, List.getElem?_eq_getElem hlt, List.drop_eq_getElem_cons hlt]
      rfl
    refine e_op (e_dat rfl (e_dat rfl (op_ix_d rfl hx ?_)))
    refine g_name ?_
    exact hE z16
  · have hge : ¬ j < ins.length := by simpa using hb
    have hx : (ins.drop j).headD 0 = 0 := by rw [List.drop_of_length_le (by omega)]; rfl
    refine e_int (g_name ?_)
    have := hE z16
    rw [hx] at this
    exact this
theorem law_B (T : TX K mg) {O : Out} {s0 y3 x12 x13 x14 x15 x16 x18 : Sl} {r : Res} {turn : Int} {vs ins fs : List Int} {size : Int} {ts : List (Int × Int)} {a11 xm : Addr} {m : Mach} {slots : List PyData}
    (A : m.At fs.length) (I : Is m xm (mkCode vs size fs ts) ins [] sRun (List.replicate vs.length (List.replicate 8 0)) slots) (hsl : slots.length = vs.length) (hss : ∀ s ∈ slots, Shp 1 s)
    (hvs : votesOk vs) (hs0 : 2 ≤ size) (hs1 : size ≤ 10000) (hin : ins.length ≤ 6) (htb : ∀ t ∈ ts, (0 ≤ t.1 ∧ t.1 ≤ 7) ∧ 1 ≤ t.2 ∧ t.2 ≤ vs.length) (ht8 : ts.length ≤ 8) (hf5 : fs.length ≤ 5)
    (h : ∀ z3 z4 z5 z6 z7 z8 z9 z10 z11 z12 z13 z14 z15 z16 z17 z18, O.nx [s0, .res r, .dat (.int turn), z3, z4, z5, z6, z7, z8, z9, z10, z11, z12, z13, z14, z15, z16, z17, z18]) :
    ExS K (t_lawB K) [s0, .res r, .dat (.int turn), y3, .dat (.tuple (fs.map offD)), .dat (mkCode vs size fs ts).d, .res (m.R K), .dat (.tuple (iL vs)), .dat (.int size), .dat (.list (iL ins)), .dat (.int vs.length), .res (ownL a11 (ts.map takD)), x12, x13, x14, x15, x16, .no, x18] O := by
  unfold t_lawB
  have hml : m.hues.length = vs.length := by rw [A.hues, I.code]; rfl
  have hn5 := hvs.2.1
  refine x_seq (x_par3 (a_cons (e_prop6 (F := F_Machine_slots) (m := m) rfl (u_Machine_slots (by omega) ⟨_, rfl, rfl, rfl, ?_⟩))))
  rw [I.slots]
  refine a_cons (e_split 6 (e_lcS (sets_name (by simp)) gm_name (i_sq ?_)))
  repeat' walk_at "d1"
  intro hz
  refine ⟨fun i acc Γ => ∃ dl : List (Addr × List Int), dl.length = i ∧ (∀ p ∈ dl, p.2 = List.replicate 8 0) ∧ acc = dl.map (fun p => .raw (.ref p.1)) ∧
    Γ = [s0, .res r, .dat (.int turn), y3, .dat (.tuple (fs.map offD)), .dat (mkCode vs size fs ts).d, .res (star (.ref m.a) (m.cs K ++ dueC dl)), .dat (.tuple (iL vs)), .dat (.int size), .dat (.list (iL ins)), .dat (.int vs.length), .res (ownL a11 (ts.map takD)), x12, x13, x14, x15, x16, .no, x18],
    hz, ⟨[], rfl, (fun p h => by cases h), rfl, by simp [dueC, Mach.R, wipeA]⟩, fun _ _ _ _ _ => trivial, ?_, ?_⟩
  · rintro i acc Γ hi hal ⟨dl, hdl, hdz, rfl, hΓ⟩
    rw [hΓ]
    refine g_name (b_yes ⟨fun _ => ?_, fun z => by cases z⟩)
    refine e_absorb 6 (e_op (e_lstO' (a_cons (e_int (a_nil ⟨[.int 0], rfl, rfl, fun a => e_int ?_⟩)))))
    refine op_repO (by decide) (by decide) (by decide) fun b => ⟨_, _, m.cs K ++ dueC dl, _, rfl, cells_own, rfl, trivial, dl ++ [(b, List.replicate 8 0)], by simp [hdl], ?_, ?_, ?_⟩
    · intro p hp
      rcases List.mem_append.mp hp with q | q
      · exact hdz p q
      · simp only [List.mem_singleton] at q
        subst q
        rfl
    · rw [List.map_append]
      rfl
    · simp only [dueC, List.map_append, List.append_assoc]
      rfl
  · rintro acc Γ hal ⟨dl, hdl, hdz, rfl, hΓ⟩ d
    rw [hΓ]
    refine ⟨_, _, _, m.cs K, dueC dl, rfl, rfl, ?_⟩
    refine a_cons (e_lstO' (a_nil ⟨[], rfl, rfl, fun ar => a_nil ⟨_, _, _, rfl, ?_⟩⟩))
    have hdr : dl.map (·.2) = List.replicate vs.length (List.replicate 8 0) := by
      refine List.eq_replicate_iff.mpr ⟨by rw [List.length_map, hdl]; exact List.length_map .., fun l hl => ?_⟩
      obtain ⟨p, hp, rfl⟩ := List.mem_map.mp hl
      exact hdz p hp
    show ExS K _ [s0, .res r, .dat (.int turn), y3, .dat (.tuple (fs.map offD)), .dat (mkCode vs size fs ts).d, .res (m.R K), .dat (.tuple (iL vs)), .dat (.int size), .dat (.list (iL ins)), .dat (.int vs.length), .res (ownL a11 (ts.map takD)), .dat (.tuple slots), .res (dueR d dl), .res (ownL ar []), x15, x16, .no, x18] _
    refine x_frz 11 rfl ?_
    show ExS K _ [s0, .res r, .dat (.int turn), y3, .dat (.tuple (fs.map offD)), .dat (mkCode vs size fs ts).d, .res (m.R K), .dat (.tuple (iL vs)), .dat (.int size), .dat (.list (iL ins)), .dat (.int vs.length), .dat (.list (ts.map takD)), .dat (.tuple slots), .res (dueR d dl), .res (ownL ar []), x15, x16, .no, x18] _
    refine x_seq (x_for (i_enumU ?_))
    repeat' walk_at "d1"
    intro hz2
    refine ⟨fun j Γ => ∃ (m2 : Mach) (dl : List (Addr × List Int)) (row : List PyData) (z3 z15 z16 z17 z18 : Sl), m2.At ((fs.length + j : Nat) : Int) ∧ Is m2 xm (mkCode vs size fs ts) (ins.drop j) row sRun (dl.map (·.2)) slots ∧ dl.length = vs.length ∧ row.length = j ∧ (∀ s ∈ row, Shp 1 s) ∧
      Γ = [s0, .res r, .dat (.int turn), z3, .dat (.tuple (fs.map offD)), .dat (mkCode vs size fs ts).d, .res (m2.R K), .dat (.tuple (iL vs)), .dat (.int size), .dat (.list (iL ins)), .dat (.int vs.length), .dat (.list (ts.map takD)), .dat (.tuple slots), .res (dueR d dl), .res (ownL ar row), z15, z16, z17, z18],
      ⟨m, dl, [], _, _, _, _, _, by simpa using A, by rw [hdr]; exact I, by rw [hdl]; exact List.length_map .., rfl, (fun s h => by cases h), rfl⟩, fun _ _ _ _ => trivial, ?_, ?_⟩
    · rintro j Γ hj ⟨m2, dl, row, z3, z15, z16, z17, z18, A2, I2, hdl2, hrow, hrs, rfl⟩
      have hjl : j < ts.length := by simpa using hj
      obtain ⟨t, ht⟩ : ∃ t, ts[j]? = some t := ⟨_, List.getElem?_eq_getElem hjl⟩
      have hgd : (ts.map takD).getD j .none = takD t := by rw [List.getD_eq_getElem?_getD, List.getElem?_map, ht]; rfl
      rw [hgd]
      refine g_tup rfl (gs_cons (g_name (gs_cons (g_name (gs_nil ?_)))))
      refine law_C T A2 I2 hdl2 hn5 hss hrow (by omega) hrs ht (htb t (List.mem_of_getElem? ht)) hs0 hs1 hin fun m3 dl3 row3 z16 z17 z18 A3 I3 hd3 hr3 hs3 => ?_
      exact ⟨m3, dl3, row3, _, _, _, _, _, A3, I3, hd3, hr3, hs3, rfl⟩
    · rintro Γ ⟨m2, dl, row, z3, z15, z16, z17, z18, A2, I2, hdl2, hrow, hrs, rfl⟩
      rw [List.length_map] at A2 I2 hrow
      refine law_D (ins := ins) T A2 I2 hn5 hss (by omega) hrs fun m3 => ?_
      exact h _ _ _ _ _ _ _ _ _ _ _ _ _ _ _ _
end
end Hw
namespace Hw
open PySem PySem.Spec PyProof.Rows L2 Dl
local macro_rules | `(tactic| walk_at "dbt") => `(tactic| first | assumption | rfl | (decide +kernel) | (simp [isFromD, *]; done) | (simp [isFromD, *]; omega))
local macro_rules | `(tactic| walk_at "d1") => `(tactic| first
  | with_reducible refine x_seq ?_ | with_reducible refine x_if' ?_ | with_reducible refine x_ret ?_ | with_reducible refine x_asg ?_ | with_reducible refine x_next ?_ | with_reducible refine x_expr ?_
  | with_reducible refine e_isi2 (by decide) (by decide) ?_
  | with_reducible refine e_dat rfl ?_ | with_reducible refine e_int ?_ | with_reducible refine e_str ?_ | with_reducible refine e_bl ?_ | with_reducible refine e_non ?_ | with_reducible refine e_op ?_ | with_reducible refine e_cb ?_ | with_reducible refine e_call ?_
  | with_reducible refine a_cons ?_ | with_reducible refine a_nil ?_
  | with_reducible refine b_test ?_ | with_reducible refine b_not ?_ | with_reducible refine b_and' ?_ | with_reducible refine b_or' ?_ | with_reducible refine b_tru ?_
  | with_reducible refine e_andV' ?_ | with_reducible refine e_orV' ?_ | with_reducible refine e_notV ?_ | with_reducible refine e_chain' ?_ | with_reducible refine e_if' ?_ | with_reducible refine e_c ?_ | with_reducible refine e_sl ?_ | with_reducible refine o_no ?_ | with_reducible refine o_some ?_ | with_reducible refine e_neg ?_
  | with_reducible refine e_raw rfl ?_ | with_reducible refine e_res rfl ?_ | with_reducible refine g_name ?_
  | with_reducible refine op_add_i ?_ | with_reducible refine op_sub_i ?_ | with_reducible refine op_lt_i ?_ | with_reducible refine op_le_i ?_ | with_reducible refine op_gt_i ?_ | with_reducible refine op_ge_i ?_ | with_reducible refine op_isnone ?_ | with_reducible refine op_notnone ?_
  | with_reducible refine cb_isi (by decide) ?_ | with_reducible refine cb_max2 ?_ | with_reducible refine cb_min2 ?_ | with_reducible refine cb_abs ?_ | with_reducible refine cb_int ?_ | with_reducible refine cb_len rfl ?_
  | with_reducible refine iteT ?_ | with_reducible refine iteF ?_ | ((with_reducible refine iT ?_ ?_); focus (walk_at "dbt"; done)) | ((with_reducible refine iF ?_ ?_); focus (walk_at "dbt"; done))
  | ((with_reducible refine g_tup ?_ ?_); (focus rfl)) | with_reducible refine gs_cons ?_ | with_reducible refine gs_nil ?_
  | with_reducible refine e_tup' ?_ | with_reducible refine e_lst' ?_ | with_reducible refine op_in2 ?_ | with_reducible refine op_ni3 ?_
  | with_reducible refine op_eq_ii ?_ | with_reducible refine op_ne_ii ?_ | ((with_reducible refine op_eq_ss ?_ ?_ ?_); (focus (decide +kernel)); (focus (decide +kernel))) | ((with_reducible refine op_ne_ss ?_ ?_ ?_); (focus (decide +kernel)); (focus (decide +kernel)))
  | ((with_reducible refine op_eq_d ?_ ?_ ?_); (focus (walk_at "dbt")); (focus (walk_at "dbt")))
  | ((with_reducible refine op_ne_d ?_ ?_ ?_); (focus (walk_at "dbt")); (focus (walk_at "dbt")))
  | ((with_reducible refine op_ix' ?_); refine Exists.intro _ (Exists.intro _ (And.intro rfl (And.intro rfl ?_))))
  | ((with_reducible refine op_mul_il ?_ ?_); (focus (decide +kernel))) | ((with_reducible refine op_mul_ir ?_ ?_); (focus (decide +kernel)))
  | ((with_reducible refine And.intro (a := smallL _ = true) ?_ ?_); (focus rfl)) | ((with_reducible refine And.intro (a := Pers _) ?_ ?_); (focus trivial)) | with_reducible refine d_cons ?_ | with_reducible refine d_nil ?_
  | (with_reducible refine Exists.intro _ (And.intro rfl ?_)) | (with_reducible refine Exists.intro _ (Exists.intro _ (And.intro rfl (And.intro rfl ?_)))) | refine Exists.intro _ (And.intro rfl (And.intro (by rfl) ?_)) | refine Exists.intro _ (Exists.intro _ (And.intro rfl (And.intro rfl ?_))) | with_reducible refine dat_ok ?_ | dsimp only | fail)
local macro_rules | `(tactic| walk_at "d1") => `(tactic| with_reducible refine e_callR ?_)
section
variable {K : Frag} {mg : Str → Option Value} {Γ : List Sl} {k : Sl → List Sl → Prop} {O : Out}
theorem u__law_begun {ns : List Int} {s : Sl} {k : Sl → List Sl → Prop} (hl : ns.length ≤ 63) (hs : Scr K ns s) (hk : ∀ r, PS 0 r → k (.res r) [s]) : F__law_begun K [s] k := ⟨ns, s, hl, hs, rfl, hk⟩
theorem u__law_size {r : Res} {t : Nat} {k : Sl → List Sl → Prop} (h : PS t r) (ht : t < 1000000) (hk : ∀ (n : Int) r', r'.v = r.v → PS (t + 1) r' → 2 ≤ n → n ≤ 10000 → k (.dat (.int n)) [.res r']) : F__law_size K [.res r] k := ⟨r, t, h, ht, rfl, hk⟩
theorem u__law_inputs {r : Res} {t : Nat} {k : Sl → List Sl → Prop} (h : PS t r) (ht : t < 900000) (hk : ∀ (ns : List Int) r', r'.v = r.v → PS (t + 10) r' → ns.length ≤ 6 → (∀ n ∈ ns, 0 ≤ n ∧ n ≤ 9999) → k (.dat (.list (iL ns))) [.res r']) : F__law_inputs K [.res r] k := ⟨r, t, h, ht, rfl, hk⟩
theorem u__law_votes {r : Res} {t : Nat} {k : Sl → List Sl → Prop} (h : PS t r) (ht : t < 900000) (hk : ∀ (vs : List Int) r', r'.v = r.v → PS (t + 20) r' → votesOk vs → k (.dat (.tuple (iL vs))) [.res r']) : F__law_votes K [.res r] k := ⟨r, t, h, ht, rfl, hk⟩
theorem b_law (T : TX K mg) : ∀ args k, F_law K args k → ExS K (t_law K) (args ++ List.replicate (19 - args.length) .no) (fnOut args k) := by
  rintro args k ⟨ns, s0, hl, hs0, rfl, hk⟩
  show ExS K _ [s0, .no, .no, .no, .no, .no, .no, .no, .no, .no, .no, .no, .no, .no, .no, .no, .no, .no, .no] _
  unfold t_law
  refine x_seq (x_asg (e_call (a_cons (e_scr hs0 rfl (a_nil (u__law_begun hl hs0 fun r0 hr0 => ?_))))))
  repeat' walk_at "d1"
  refine x_for (i_rng1 ?_)
  repeat' walk_at "d1"
  refine ⟨by decide, by decide, fun i Γ => ∃ r x2 x3 x4 x5 x6 x7 x8 x9 x10 x11 x12 x13 x14 x15 x16 x17 x18, PS (100 * i) r ∧ Γ = [s0, .res r, x2, x3, x4, x5, x6, x7, x8, x9, x10, x11, x12, x13, x14, x15, x16, x17, x18],
    ⟨r0, _, _, _, _, _, _, _, _, _, _, _, _, _, _, _, _, _, hr0, rfl⟩, fun _ _ _ _ => trivial, ?_, ?_⟩
  · rintro turn Γ ht ⟨r, x2, x3, x4, x5, x6, x7, x8, x9, x10, x11, x12, x13, x14, x15, x16, x17, x18, hr, rfl⟩
    have ht4 : turn < 4 := ht
    refine g_name (x_seq (x_par3 ?_))
    repeat' walk_at "d1"
    refine u__law_votes hr (by omega) fun vs r1 hv1 hp1 hvs => ⟨_, rfl, hv1, rfl, ?_⟩
    repeat' walk_at "d1"
    refine u__law_size hp1 (by omega) fun size r2 hv2 hp2 hs0 hs1 => ⟨_, rfl, hv2, rfl, ?_⟩
    repeat' walk_at "d1"
    refine u__law_inputs hp2 (by omega) fun ins r3 hv3 hp3 hi6 hin => ⟨_, rfl, hv3, rfl, ?_⟩
    refine a_nil ⟨_, _, _, rfl, ?_⟩
    refine x_seq (x_par (by decide) (a_cons (e_cb (a_cons (e_dat rfl (a_nil (cb_len rfl ?_)))))))
    refine a_cons (e_lstO' (a_nil ⟨[], rfl, rfl, fun a11 => a_nil ⟨_, _, rfl, g_name (g_name ?_)⟩⟩))
    have hlv : (iL vs).length = vs.length := List.length_map ..
    rw [hlv]
    have hn5 := hvs.2.1
    have hn1 := hvs.1
    refine x_seq (x_for (i_rng1 ?_))
    repeat' walk_at "d1"
    refine u__law_pick hp3 (by omega) ⟨by decide, by decide⟩ fun d r4 hv4 hp4 hd => ⟨_, rfl, hv4, rfl, ?_⟩
    obtain ⟨nt, rfl, hnt0, hnt1⟩ : ∃ j : Int, d = .int j ∧ 0 ≤ j ∧ j ≤ 8 := by
      simp only [List.mem_cons, List.not_mem_nil, or_false] at hd
      rcases hd with rfl | rfl | rfl | rfl <;> exact ⟨_, rfl, by decide, by decide⟩
    repeat' walk_at "d1"
    refine ⟨by omega, by omega, fun j Γ => ∃ (ts : List (Int × Int)) (r : Res) (y3 : Sl), ts.length = j ∧ (∀ t ∈ ts, (0 ≤ t.1 ∧ t.1 ≤ 7) ∧ 1 ≤ t.2 ∧ t.2 ≤ vs.length) ∧ PS (100 * turn + 40 + 2 * j) r ∧
      Γ = [s0, .res r, .dat (.int turn), y3, x4, x5, x6, .dat (.tuple (iL vs)), .dat (.int size), .dat (.list (iL ins)), .dat (.int vs.length), .res (ownL a11 (ts.map takD)), x12, x13, x14, x15, x16, x17, x18],
      ⟨[], r4, _, rfl, (fun t h => by cases h), hp4.mono (by omega), rfl⟩, fun _ _ _ _ => trivial, ?_, ?_⟩
    · rintro j Γ hj ⟨ts, r5, y3, hts, htb, hp5, rfl⟩
      have hj8 : j < 8 := by omega
      refine g_name (x_expr (e_append 11 (e_res rfl ⟨a11, rfl, ⟨_, rfl⟩, ?_⟩)))
      repeat' walk_at "d1"
      refine u__law_draw hp5 (by omega) ⟨by decide, by decide⟩ fun rg r6 hv6 hp6 hg0 hg1 => ⟨_, rfl, hv6, rfl, ?_⟩
      repeat' walk_at "d1"
      refine u__law_draw hp6 (by omega) ⟨by omega, by omega⟩ fun wd r7 hv7 hp7 hw0 hw1 => ⟨_, rfl, hv7, rfl, ?_⟩
      repeat' walk_at "d1"
      have hln : (ts.map takD).length = ts.length := List.length_map ..
      refine ⟨by rw [hln]; exact Nat.lt_of_lt_of_le (by omega : ts.length < 8) (by decide), ts ++ [(rg, 1 + wd)], r7, .dat (.int j), by simp [hts], ?_, hp7.mono (by omega), ?_⟩
      · intro t ht
        rcases List.mem_append.mp ht with q | q
        · exact htb t q
        · simp only [List.mem_singleton] at q
          subst q
          exact ⟨⟨hg0, by omega⟩, by omega, by omega⟩
      · rw [List.map_append]
        rfl
    · rintro Γ ⟨ts, r5, y3, hts, htb, hp5, rfl⟩
      refine x_seq (x_asg (e_cb (a_cons (e_lc (sets_name (by simp)) gm_name (i_rng1 ?_)))))
      repeat' walk_at "d1"
      refine ⟨by omega, by omega, fun j acc Γ => ∃ (fs : List Int) (r : Res), acc = fs.map offD ∧ (∀ h ∈ fs, 0 ≤ h ∧ h < vs.length) ∧ PS (100 * turn + 60 + j) r ∧
        Γ = [s0, .res r, .dat (.int turn), y3, x4, x5, x6, .dat (.tuple (iL vs)), .dat (.int size), .dat (.list (iL ins)), .dat (.int vs.length), .res (ownL a11 (ts.map takD)), x12, x13, x14, x15, x16, .no, x18],
        Nat.le_trans (by omega : (vs.length : Int).toNat ≤ 5) (by decide), ⟨[], r5, rfl, (fun h z => by cases z), hp5.mono (by omega), rfl⟩, fun _ _ _ _ _ => trivial, ?_, ?_⟩
      · rintro j acc Γ hj hal ⟨fs, r6, rfl, hfs, hp6, hΓ⟩
        rw [hΓ]
        refine g_name ?_
        repeat' walk_at "d1"
        refine u__law_draw hp6 (by omega) ⟨by decide, by decide⟩ fun n r7 hv7 hp7 hn0 hn1 => ⟨_, rfl, hv7, rfl, ?_⟩
        repeat' walk_at "d1"
        refine ⟨fun _ => ?_, fun _ => ⟨fs, r7, rfl, hfs, hp7.mono (by omega), rfl⟩⟩
        repeat' walk_at "d1"
        refine ⟨fs ++ [(j : Int)], r7, ?_, ?_, hp7.mono (by omega), rfl⟩
        · rw [List.map_append]
          rfl
        · intro h hh
          rcases List.mem_append.mp hh with q | q
          · exact hfs h q
          · simp only [List.mem_singleton] at q
            subst q
            omega
      · rintro acc Γ hal ⟨fs, r6, rfl, hfs, hp6, hΓ⟩
        rw [hΓ]
        have hf5 : fs.length ≤ 5 := by
          rw [List.length_map] at hal
          omega
        have ht8 : ts.length ≤ 8 := by omega
        refine a_nil (cb_tuple rfl (g_name ?_))
        clear hΓ hal
        have small : ∀ n : Nat, n ≤ 100 → n ≤ sizeLine := fun n h => Nat.le_trans h (by decide)
        refine x_seq (x_asg ?_)
        repeat' walk_at "d1"
        refine cb_tupleC (HasL.o 11 rfl) ?_
        refine op_add_t (small _ (by rw [List.length_map, List.length_map]; omega)) ?_
        repeat' walk_at "d1"
        refine op_add_t (small _ (by rw [List.length_append, List.length_map, List.length_map]; show fs.length + ts.length + 1 ≤ 100; omega)) ?_
        repeat' walk_at "d1"
        have hcd : (PyData.tuple [.tuple (iL vs), .int size, .tuple (fs.map offD ++ ts.map takD ++ [.tuple [.str (PySem.Str.ofString "stop")]]), .tuple [.int 1]]) = (mkCode vs size fs ts).d := mkCode_d.symm
        rw [hcd]
        have hok : (mkCode vs size fs ts).Ok := mkCode_ok hvs ⟨hs0, hs1⟩ ⟨hf5, hfs⟩ ⟨ht8, htb⟩
        refine e_make (dvs := dv_Machine K) (dss := [.dat (.tuple [])]) (fun S => .cons (T.e_dflt S) .nil) ?_
        repeat' walk_at "d1"
        refine cb_tuple rfl ?_
        repeat' walk_at "d1"
        intro xm
        refine ⟨xm, mkCode vs size fs ts, ins, hok, ⟨by omega, hin⟩, rfl, fun m ⟨ah, al, as_, ar, hs, em, hlen, hall⟩ => ⟨rfl, _, rfl, by rw [em]; rfl, ?_⟩⟩
        have A0 := new_at em hok hlen hall
        have I0 := new_is em rfl hlen hall
        refine g_name ?_
        refine x_seq (x_expr (e_methR (r := m.R K) rfl (isIns_star (n := 0) rfl (by decide)) ?_))
        repeat' walk_at "d1"
        obtain ⟨m1, slots, G1, A1, I1, hsl, hss⟩ := go_offers (fun l hl => by rw [List.eq_of_mem_replicate hl]; rfl) fs 0 m _ A0 I0 fun i h e => by rw [Nat.zero_add]; exact cells_off e
        have hss := hss fun s hs => by rw [List.eq_of_mem_replicate hs]; exact .none
        rw [Nat.zero_add] at G1 A1
        have hfl : (fs.map offD).length = fs.length := List.length_map ..
        rw [hfl]
        refine ⟨rfl, u_Machine_go G1 (fun _ => ⟨by omega, by rw [I1.code, cells_len]; omega⟩) (by omega) ⟨_, rfl, (by show V.ref m1.a = V.ref m.a; rw [I1.a, em]; rfl), rfl, ?_⟩⟩
        have A1 := A1.endAt (q := (fs.length : Int))
        have I1 := I1.endAt (p := (fs.length : Int))
        generalize endAt m1 (fs.length : Int) = m2 at A1 I1
        clear G1 A0 I0
        exact law_B T A1 I1 (by rw [hsl, List.length_replicate]; rfl) hss hvs hs0 hs1 hi6 htb ht8 hf5 fun z3 z4 z5 z6 z7 z8 z9 z10 z11 z12 z13 z14 z15 z16 z17 z18 => ⟨r6, _, _, _, _, _, _, _, _, _, _, _, _, _, _, _, _, _, hp6.mono (by omega), rfl⟩
  · rintro Γ ⟨r, x2, x3, x4, x5, x6, x7, x8, x9, x10, x11, x12, x13, x14, x15, x16, x17, x18, hr, rfl⟩
    repeat' walk_at "d1"
    exact ⟨_, hk, keep_scr hs0⟩
end
end Hw
namespace Hw
open PySem PySem.Spec PyProof.Rows L2 Dl
section
variable {P : Program} {w : World} {K : Frag} {mg : Str → Option Value} {base : Heap}
theorem ok__wall (T : TX K mg)  : Callee P w K mg base "_wall" 1 ["k"] (spOf K (F__wall K)) := by
  refine callee_mk T.f__wall sc__wall (by intro kV doc pm an cdv ct us hl; exact match us, hl with | [_], _ => rfl) T.g__wall n__wall (t__wall K) (b__wall T) ?_
  intro cdv A outer s H E hr
  exact (pss_one (ps_while PassesOwn.never (pt_truth (pe_bl) (fun _ => rfl)) (pss_one (ps_pass))))
theorem ok_is_whole (T : TX K mg)  : Callee P w K mg base "is_whole" 1 ["value"] (spOf K (F_is_whole K)) := by
  refine callee_mk T.f_is_whole sc_is_whole (by intro kV doc pm an cdv ct us hl; exact match us, hl with | [_], _ => rfl) T.g_is_whole n_is_whole (t_is_whole K) (b_is_whole T) ?_
  intro cdv A outer s H E hr
  exact (pss_one (ps_ret ((pe_and (pe_callB cIsi (by rfl) T.n_isinstance (by decide +kernel) (pa_cons (pv 0) (pa_cons (pe_bltn (v := .ty "int") (by rfl) T.n_int (by decide +kernel) rfl) pa_nil))) (pe_one (pe_not (pe_callB cIsi (by rfl) T.n_isinstance (by decide +kernel) (pa_cons (pv 0) (pa_cons (pe_bltn (v := .ty "bool") (by rfl) T.n_bool (by decide +kernel) rfl) pa_nil)))))))))
theorem ok_is_from (T : TX K mg) (C_is_whole : Callee P w K mg base "is_whole" 1 ["value"] (spOf K (F_is_whole K))) : Callee P w K mg base "is_from" 2 ["value", "low", "high"] (spOf K (F_is_from K)) := by
  refine callee_mk T.f_is_from sc_is_from (by intro kV doc pm an cdv ct us hl; exact match us, hl with | [_, _, _], _ => rfl) T.g_is_from n_is_from (t_is_from K) (b_is_from T) ?_
  intro cdv A outer s H E hr
  exact (pss_one (ps_ret ((pe_and (pe_u C_is_whole hr (by decide) (by rfl) (pa_cons (pv 0) pa_nil)) (pe_one (pe_chain (opLe hr) (opLe hr) (pv 1) (pv 0) (pv 2)))))))
theorem ok_are_inputs (T : TX K mg) (C_is_from : Callee P w K mg base "is_from" 2 ["value", "low", "high"] (spOf K (F_is_from K))) : Callee P w K mg base "are_inputs" 3 ["value"] (spOf K (F_are_inputs K)) := by
  refine callee_mk T.f_are_inputs sc_are_inputs (by intro kV doc pm an cdv ct us hl; exact match us, hl with | [_], _ => rfl) T.g_are_inputs n_are_inputs (t_are_inputs K) (b_are_inputs T) ?_
  intro cdv A outer s H E hr
  exact (pss_cons (ps_if (PW.pt (pw_or (pt_not (pt_truth (pe_callB cIsi (by rfl) T.n_isinstance (by decide +kernel) (pa_cons (pv 0) (pa_cons (pe_tup (pa_cons (pe_bltn (v := .ty "list") (by rfl) T.n_list (by decide +kernel) rfl) (pa_cons (pe_bltn (v := .ty "tuple") (by rfl) T.n_tuple (by decide +kernel) rfl) pa_nil))) pa_nil))) (fun _ => rfl))) (pw_or1 (pt_cmpR (opGt hr) (pe_callB call_len (by rfl) T.n_len (by decide +kernel) (pa_cons (pv 0) pa_nil)) (pe_gc (by rfl) T.c_MOST_INPUTS) (nomark _))))) (pss_one (ps_ret (pe_bl))) pss_nil) (pss_one (ps_ret (pe_cmpR (opEq hr) (pe_lc (own := [("one", 1)]) (g := gName 1) (tt := (tNot (tTru' K (tCall (spOf K (F_is_from K)) [] E0 (tCons (tVar 1) (tCons (tC (.int 0)) (tCons (tC (.int 9999)) tNil))))))) (by rfl) sc_are_inputs.nd (pi_sq (pv 0)) (blkOk_by (own := [("one", 1)]) (N := ["value", "one"]) (sc := defScope s_are_inputs) (by decide +kernel)) (fun _ _ _ _ _ => pg_name (i := 1) sc_are_inputs.nd rfl (by first | exact Or.inl rfl | exact Or.inr rfl)) (fun _ _ _ _ _ => (pts_one (pt_not (pt_truth (pe_u C_is_from hr (by decide) (by rfl) (pa_cons (pv 1) (pa_cons (pe_int) (pa_cons (pe_gc (by rfl) T.c_MOST_INPUT) pa_nil)))) (fun _ => rfl))))) (fun _ _ _ _ _ => (pv 1))) (pe_lst pa_nil) (nomark _)))))
theorem ok_is_votes (T : TX K mg) (C_is_whole : Callee P w K mg base "is_whole" 1 ["value"] (spOf K (F_is_whole K))) : Callee P w K mg base "is_votes" 2 ["value"] (spOf K (F_is_votes K)) := by
  refine callee_mk T.f_is_votes sc_is_votes (by intro kV doc pm an cdv ct us hl; exact match us, hl with | [_], _ => rfl) T.g_is_votes n_is_votes (t_is_votes K) (b_is_votes T) ?_
  intro cdv A outer s H E hr
  exact (pss_cons (ps_if (PW.pt (pw_or (pt_not (pt_truth (pe_callB cIsi (by rfl) T.n_isinstance (by decide +kernel) (pa_cons (pv 0) (pa_cons (pe_bltn (v := .ty "tuple") (by rfl) T.n_tuple (by decide +kernel) rfl) pa_nil))) (fun _ => rfl))) (pw_or1 (pt_not (pt_chain (opLe hr) (opLe hr) (pe_int) (pe_callB call_len (by rfl) T.n_len (by decide +kernel) (pa_cons (pv 0) pa_nil)) (pe_gc (by rfl) T.c_MOST_HUES)))))) (pss_one (ps_ret (pe_bl))) pss_nil) (pss_cons (ps_for PassesOwn.never (by rfl) (pi_enumS (by rfl) T.n_enumerate (pa_cons (pv 0) (pa_cons (pe_int) pa_nil))) (pg_tup (by rfl) (pgs_cons (pg_name (i := 1) sc_is_votes.nd rfl (by first | exact Or.inl rfl | exact Or.inr rfl)) (pgs_cons (pg_name (i := 2) sc_is_votes.nd rfl (by first | exact Or.inl rfl | exact Or.inr rfl)) pgs_nil))) (pss_one (ps_if (PW.pt (pw_or (pt_not (pt_truth (pe_u C_is_whole hr (by decide) (by rfl) (pa_cons (pv 2) pa_nil)) (fun _ => rfl))) (pw_or1 (pt_not (pt_chain (opLt hr) (opLe hr) (pv 1) (pe_op opMul (pe_int) (pv 2)) (pe_op opMul (pe_int) (pv 1))))))) (pss_one (ps_ret (pe_bl))) pss_nil))) (pss_one (ps_ret (pe_bl)))))
theorem ok_are_registers (T : TX K mg) (C_is_from : Callee P w K mg base "is_from" 2 ["value", "low", "high"] (spOf K (F_is_from K))) : Callee P w K mg base "are_registers" 3 ["values"] (spOf K (F_are_registers K)) := by
  refine callee_mk T.f_are_registers sc_are_registers (by intro kV doc pm an cdv ct us hl; exact match us, hl with | [_], _ => rfl) T.g_are_registers n_are_registers (t_are_registers K) (b_are_registers T) ?_
  intro cdv A outer s H E hr
  exact (pss_one (ps_ret (pe_cmpR (opEq hr) (pe_lc (own := [("one", 1)]) (g := gName 1) (tt := (tNot (tTru' K (tCall (spOf K (F_is_from K)) [] E0 (tCons (tVar 1) (tCons (tC (.int 0)) (tCons (tOp (uSub K) (tC (.int 8)) (tC (.int 1))) tNil))))))) (by rfl) sc_are_registers.nd (pi_sq (pv 0)) (blkOk_by (own := [("one", 1)]) (N := ["values", "one"]) (sc := defScope s_are_registers) (by decide +kernel)) (fun _ _ _ _ _ => pg_name (i := 1) sc_are_registers.nd rfl (by first | exact Or.inl rfl | exact Or.inr rfl)) (fun _ _ _ _ _ => (pts_one (pt_not (pt_truth (pe_u C_is_from hr (by decide) (by rfl) (pa_cons (pv 1) (pa_cons (pe_int) (pa_cons (pe_op opSub (pe_gc (by rfl) T.c_MANY_REGISTERS) (pe_int)) pa_nil)))) (fun _ => rfl))))) (fun _ _ _ _ _ => (pv 1))) (pe_lst pa_nil) (nomark _))))
theorem ok_instruction_fits (T : TX K mg) (C_is_from : Callee P w K mg base "is_from" 2 ["value", "low", "high"] (spOf K (F_is_from K))) (C_are_registers : Callee P w K mg base "are_registers" 3 ["values"] (spOf K (F_are_registers K))) : Callee P w K mg base "instruction_fits" 4 ["value", "hue", "size", "many"] (spOf K (F_instruction_fits K)) := by
  refine callee_mk T.f_instruction_fits sc_instruction_fits (by intro kV doc pm an cdv ct us hl; exact match us, hl with | [_, _, _, _], _ => rfl) T.g_instruction_fits n_instruction_fits (t_instruction_fits K) (b_instruction_fits T) ?_
  intro cdv A outer s H E hr
  exact (pss_cons (ps_if (PW.pt (pw_or (pt_not (pt_truth (pe_callB cIsi (by rfl) T.n_isinstance (by decide +kernel) (pa_cons (pv 0) (pa_cons (pe_bltn (v := .ty "tuple") (by rfl) T.n_tuple (by decide +kernel) rfl) pa_nil))) (fun _ => rfl))) (pw_or (pt_cmpR (opLt hr) (pe_callB call_len (by rfl) T.n_len (by decide +kernel) (pa_cons (pv 0) pa_nil)) (pe_int) (nomark _)) (pw_or1 (pt_not (pt_truth (pe_u C_is_from hr (by decide) (by rfl) (pa_cons (pe_ix ixU (pv 0) (pe_int) (fun _ _ => rfl)) (pa_cons (pv 1) (pa_cons (pv 1) pa_nil)))) (fun _ => rfl))))))) (pss_one (ps_ret (pe_bl))) pss_nil) (pss_cons (ps_if (pt_not (pt_truth (pe_callB cIsi (by rfl) T.n_isinstance (by decide +kernel) (pa_cons (pe_ix ixU (pv 0) (pe_int) (fun _ _ => rfl)) (pa_cons (pe_bltn (v := .ty "str") (by rfl) T.n_str (by decide +kernel) rfl) pa_nil))) (fun _ => rfl))) (pss_one (ps_ret (pe_bl))) pss_nil) (pss_cons (ps_set (i := 4) sc_instruction_fits.nd rfl (by first | exact Or.inl rfl | exact Or.inr rfl) (pe_ix ixU (pv 0) (pe_int) (fun _ _ => rfl))) (pss_cons (ps_if (pt_cmpR (opEq hr) (pv 4) (pe_str) (nomark _)) (pss_one (ps_ret ((pe_and (pe_cmpR (opEq hr) (pe_callB call_len (by rfl) T.n_len (by decide +kernel) (pa_cons (pv 0) pa_nil)) (pe_int) (nomark _)) (pe_and (pe_u C_are_registers hr (by decide) (by rfl) (pa_cons (pe_slice slU (pv 0) (po_some (pe_int)) (po_some (pe_int))) pa_nil)) (pe_one (pe_u C_is_from hr (by decide) (by rfl) (pa_cons (pe_ix ixU (pv 0) (pe_int) (fun _ _ => rfl)) (pa_cons (pe_int) (pa_cons (pe_op opSub (pv 2) (pe_int)) pa_nil)))))))))) pss_nil) (pss_cons (ps_if (pt_cmpR (opEq hr) (pv 4) (pe_str) (nomark _)) (pss_one (ps_ret ((pe_and (pe_cmpR (opEq hr) (pe_callB call_len (by rfl) T.n_len (by decide +kernel) (pa_cons (pv 0) pa_nil)) (pe_int) (nomark _)) (pe_one (pe_u C_are_registers hr (by decide) (by rfl) (pa_cons (pe_slice slU (pv 0) (po_some (pe_int)) po_none) pa_nil))))))) pss_nil) (pss_cons (ps_if (pt_cmpR (opIn hr) (pv 4) (pe_tup (pa_cons (pe_str) (pa_cons (pe_str) pa_nil))) (by rfl)) (pss_cons (ps_if (PW.pt (pw_or (pt_cmpR (opNe hr) (pe_callB call_len (by rfl) T.n_len (by decide +kernel) (pa_cons (pv 0) pa_nil)) (pe_int) (nomark _)) (pw_or1 (pt_not (pt_truth (pe_u C_are_registers hr (by decide) (by rfl) (pa_cons (pe_slice slU (pv 0) (po_some (pe_int)) (po_some (pe_int))) pa_nil)) (fun _ => rfl)))))) (pss_one (ps_ret (pe_bl))) pss_nil) (pss_one (ps_ret ((pe_and (pe_u C_is_from hr (by decide) (by rfl) (pa_cons (pe_ix ixU (pv 0) (pe_int) (fun _ _ => rfl)) (pa_cons (pe_int) (pa_cons (pv 3) pa_nil)))) (pe_one (pe_u C_is_from hr (by decide) (by rfl) (pa_cons (pe_ix ixU (pv 0) (pe_int) (fun _ _ => rfl)) (pa_cons (pe_int) (pa_cons (pe_op opSub (pv 3) (pe_ix ixU (pv 0) (pe_int) (fun _ _ => rfl))) pa_nil)))))))))) pss_nil) (pss_one (ps_ret ((pe_and (pe_cmpR (opIn hr) (pv 4) (pe_gc (by rfl) T.c_TWOS) (by rfl)) (pe_and (pe_cmpR (opEq hr) (pe_callB call_len (by rfl) T.n_len (by decide +kernel) (pa_cons (pv 0) pa_nil)) (pe_int) (nomark _)) (pe_one (pe_u C_are_registers hr (by decide) (by rfl) (pa_cons (pe_slice slU (pv 0) (po_some (pe_int)) po_none) pa_nil))))))))))))))
theorem ok_settle_fits (T : TX K mg) (C_is_from : Callee P w K mg base "is_from" 2 ["value", "low", "high"] (spOf K (F_is_from K))) : Callee P w K mg base "settle_fits" 3 ["value", "hues", "many"] (spOf K (F_settle_fits K)) := by
  refine callee_mk T.f_settle_fits sc_settle_fits (by intro kV doc pm an cdv ct us hl; exact match us, hl with | [_, _, _], _ => rfl) T.g_settle_fits n_settle_fits (t_settle_fits K) (b_settle_fits T) ?_
  intro cdv A outer s H E hr
  exact (pss_cons (ps_if (PW.pt (pw_or (pt_not (pt_truth (pe_callB cIsi (by rfl) T.n_isinstance (by decide +kernel) (pa_cons (pv 0) (pa_cons (pe_bltn (v := .ty "tuple") (by rfl) T.n_tuple (by decide +kernel) rfl) pa_nil))) (fun _ => rfl))) (pw_or (pt_cmpR (opEq hr) (pe_callB call_len (by rfl) T.n_len (by decide +kernel) (pa_cons (pv 0) pa_nil)) (pe_int) (nomark _)) (pw_or1 (pt_not (pt_truth (pe_callB cIsi (by rfl) T.n_isinstance (by decide +kernel) (pa_cons (pe_ix ixU (pv 0) (pe_int) (fun _ _ => rfl)) (pa_cons (pe_bltn (v := .ty "str") (by rfl) T.n_str (by decide +kernel) rfl) pa_nil))) (fun _ => rfl))))))) (pss_one (ps_ret (pe_bl))) pss_nil) (pss_cons (ps_set (i := 3) sc_settle_fits.nd rfl (by first | exact Or.inl rfl | exact Or.inr rfl) (pe_ix ixU (pv 0) (pe_int) (fun _ _ => rfl))) (pss_cons (ps_if (pt_cmpR (opIn hr) (pv 3) (pe_tup (pa_cons (pe_str) (pa_cons (pe_str) pa_nil))) (by rfl)) (pss_one (ps_ret (pe_cmpR (opEq hr) (pe_callB call_len (by rfl) T.n_len (by decide +kernel) (pa_cons (pv 0) pa_nil)) (pe_int) (nomark _)))) pss_nil) (pss_cons (ps_if (pt_cmpR (opEq hr) (pv 3) (pe_str) (nomark _)) (pss_one (ps_ret ((pe_and (pe_cmpR (opEq hr) (pe_callB call_len (by rfl) T.n_len (by decide +kernel) (pa_cons (pv 0) pa_nil)) (pe_int) (nomark _)) (pe_one (pe_u C_is_from hr (by decide) (by rfl) (pa_cons (pe_ix ixU (pv 0) (pe_int) (fun _ _ => rfl)) (pa_cons (pe_int) (pa_cons (pe_op opSub (pv 2) (pe_int)) pa_nil))))))))) pss_nil) (pss_cons (ps_if (PW.pt (pw_or (pt_cmpR (opNotIn hr) (pv 3) (pe_tup (pa_cons (pe_str) (pa_cons (pe_str) (pa_cons (pe_str) pa_nil)))) (by rfl)) (pw_or (pt_cmpR (opNe hr) (pe_callB call_len (by rfl) T.n_len (by decide +kernel) (pa_cons (pv 0) pa_nil)) (pe_int) (nomark _)) (pw_or1 (pt_not (pt_truth (pe_u C_is_from hr (by decide) (by rfl) (pa_cons (pe_ix ixU (pv 0) (pe_int) (fun _ _ => rfl)) (pa_cons (pe_int) (pa_cons (pv 1) pa_nil)))) (fun _ => rfl))))))) (pss_one (ps_ret (pe_bl))) pss_nil) (pss_cons (ps_set (i := 4) sc_settle_fits.nd rfl (by first | exact Or.inl rfl | exact Or.inr rfl) (pe_dget (hu_of hr) (pe_disp (pps_cons (pe_str) (pe_gc (by rfl) T.c_MOST_PORT) (pps_cons (pe_str) (pe_op opSub (pv 2) (pe_int)) (pps_cons (pe_str) (pe_op opSub (pe_gc (by rfl) T.c_MANY_REGISTERS) (pe_int)) pps_nil))) (by rfl) (by rfl) (fun z => by cases z) (by decide)) (pv 3) (fun _ _ => rfl))) (pss_one (ps_ret (pe_u C_is_from hr (by decide) (by rfl) (pa_cons (pe_ix ixU (pv 0) (pe_int) (fun _ _ => rfl)) (pa_cons (pe_int) (pa_cons (pv 4) pa_nil))))))))))))
theorem ok_is_settle (T : TX K mg)  : Callee P w K mg base "is_settle" 1 ["cell"] (spOf K (F_is_settle K)) := by
  refine callee_mk T.f_is_settle sc_is_settle (by intro kV doc pm an cdv ct us hl; exact match us, hl with | [_], _ => rfl) T.g_is_settle n_is_settle (t_is_settle K) (b_is_settle T) ?_
  intro cdv A outer s H E hr
  exact (pss_one (ps_ret (pe_callB cIsi (by rfl) T.n_isinstance (by decide +kernel) (pa_cons (pe_ix ixU (pv 0) (pe_int) (fun _ _ => rfl)) (pa_cons (pe_bltn (v := .ty "str") (by rfl) T.n_str (by decide +kernel) rfl) pa_nil)))))
theorem ok_cell_fits (T : TX K mg) (C_is_from : Callee P w K mg base "is_from" 2 ["value", "low", "high"] (spOf K (F_is_from K))) (C_instruction_fits : Callee P w K mg base "instruction_fits" 4 ["value", "hue", "size", "many"] (spOf K (F_instruction_fits K))) (C_settle_fits : Callee P w K mg base "settle_fits" 3 ["value", "hues", "many"] (spOf K (F_settle_fits K))) : Callee P w K mg base "cell_fits" 5 ["value", "hues", "size", "many", "bank"] (spOf K (F_cell_fits K)) := by
  refine callee_mk T.f_cell_fits sc_cell_fits (by intro kV doc pm an cdv ct us hl; exact match us, hl with | [_, _, _, _, _], _ => rfl) T.g_cell_fits n_cell_fits (t_cell_fits K) (b_cell_fits T) ?_
  intro cdv A outer s H E hr
  exact (pss_cons (ps_if (PW.pt (pw_or (pt_not (pt_truth (pe_callB cIsi (by rfl) T.n_isinstance (by decide +kernel) (pa_cons (pv 0) (pa_cons (pe_bltn (v := .ty "tuple") (by rfl) T.n_tuple (by decide +kernel) rfl) pa_nil))) (fun _ => rfl))) (pw_or1 (pt_cmpR (opEq hr) (pe_callB call_len (by rfl) T.n_len (by decide +kernel) (pa_cons (pv 0) pa_nil)) (pe_int) (nomark _))))) (pss_one (ps_ret (pe_bl))) pss_nil) (pss_cons (ps_if (pt_truth (pe_u C_is_from hr (by decide) (by rfl) (pa_cons (pe_ix ixU (pv 0) (pe_int) (fun _ _ => rfl)) (pa_cons (pe_int) (pa_cons (pe_op opSub (pv 1) (pe_int)) pa_nil)))) (fun _ => rfl)) (pss_one (ps_ret (pe_u C_instruction_fits hr (by decide) (by rfl) (pa_cons (pv 0) (pa_cons (pe_ix ixU (pv 0) (pe_int) (fun _ _ => rfl)) (pa_cons (pv 2) (pa_cons (pv 4) pa_nil))))))) pss_nil) (pss_one (ps_ret (pe_u C_settle_fits hr (by decide) (by rfl) (pa_cons (pv 0) (pa_cons (pv 1) (pa_cons (pv 3) pa_nil))))))))
theorem ok_is_code (T : TX K mg) (C_is_votes : Callee P w K mg base "is_votes" 2 ["value"] (spOf K (F_is_votes K))) (C_is_from : Callee P w K mg base "is_from" 2 ["value", "low", "high"] (spOf K (F_is_from K))) (C_cell_fits : Callee P w K mg base "cell_fits" 5 ["value", "hues", "size", "many", "bank"] (spOf K (F_cell_fits K))) : Callee P w K mg base "is_code" 6 ["value"] (spOf K (F_is_code K)) := by
  refine callee_mk T.f_is_code sc_is_code (by intro kV doc pm an cdv ct us hl; exact match us, hl with | [_], _ => rfl) T.g_is_code n_is_code (t_is_code K) (b_is_code T) ?_
  intro cdv A outer s H E hr
  exact (pss_cons (ps_if (PW.pt (pw_or (pt_not (pt_truth (pe_callB cIsi (by rfl) T.n_isinstance (by decide +kernel) (pa_cons (pv 0) (pa_cons (pe_bltn (v := .ty "tuple") (by rfl) T.n_tuple (by decide +kernel) rfl) pa_nil))) (fun _ => rfl))) (pw_or (pt_cmpR (opNe hr) (pe_callB call_len (by rfl) T.n_len (by decide +kernel) (pa_cons (pv 0) pa_nil)) (pe_int) (nomark _)) (pw_or1 (pt_not (pt_truth (pe_u C_is_votes hr (by decide) (by rfl) (pa_cons (pe_ix ixU (pv 0) (pe_int) (fun _ _ => rfl)) pa_nil)) (fun _ => rfl))))))) (pss_one (ps_ret (pe_bl))) pss_nil) (pss_cons (ps_asg (pv 0) (pg_tup (by rfl) (pgs_cons (pg_name (i := 2) sc_is_code.nd rfl (by first | exact Or.inl rfl | exact Or.inr rfl)) (pgs_cons (pg_name (i := 3) sc_is_code.nd rfl (by first | exact Or.inl rfl | exact Or.inr rfl)) (pgs_cons (pg_name (i := 4) sc_is_code.nd rfl (by first | exact Or.inl rfl | exact Or.inr rfl)) (pgs_cons (pg_name (i := 5) sc_is_code.nd rfl (by first | exact Or.inl rfl | exact Or.inr rfl)) pgs_nil)))))) (pss_cons (ps_if (PW.pt (pw_or (pt_not (pt_truth (pe_u C_is_from hr (by decide) (by rfl) (pa_cons (pv 3) (pa_cons (pe_gc (by rfl) T.c_LEAST_SIZE) (pa_cons (pe_gc (by rfl) T.c_MOST_SIZE) pa_nil)))) (fun _ => rfl))) (pw_or (pt_not (pt_truth (pe_callB cIsi (by rfl) T.n_isinstance (by decide +kernel) (pa_cons (pv 5) (pa_cons (pe_bltn (v := .ty "tuple") (by rfl) T.n_tuple (by decide +kernel) rfl) pa_nil))) (fun _ => rfl))) (pw_or1 (pt_cmpR (opGt hr) (pe_callB call_len (by rfl) T.n_len (by decide +kernel) (pa_cons (pv 5) pa_nil)) (pe_gc (by rfl) T.c_MOST_BANK) (nomark _)))))) (pss_one (ps_ret (pe_bl))) pss_nil) (pss_cons (ps_if (pt_cmpR (opNe hr) (pe_lc (own := [("one", 6)]) (g := gName 6) (tt := (tNot (tTru' K (tCall (spOf K (F_is_from K)) [] E0 (tCons (tVar 6) (tCons (tC (.int 0)) (tCons (tOp (uSub K) (tVar 3) (tC (.int 1))) tNil))))))) (by rfl) sc_is_code.nd (pi_sq (pv 5)) (blkOk_by (own := [("one", 6)]) (N := ["value", "many", "votes", "size", "cells", "bank", "one", "cell"]) (sc := defScope s_is_code) (by decide +kernel)) (fun _ _ _ _ _ => pg_name (i := 6) sc_is_code.nd rfl (by first | exact Or.inl rfl | exact Or.inr rfl)) (fun _ _ _ _ _ => (pts_one (pt_not (pt_truth (pe_u C_is_from hr (by decide) (by rfl) (pa_cons (pv 6) (pa_cons (pe_int) (pa_cons (pe_op opSub (pv 3) (pe_int)) pa_nil)))) (fun _ => rfl))))) (fun _ _ _ _ _ => (pv 6))) (pe_lst pa_nil) (nomark _)) (pss_one (ps_ret (pe_bl))) pss_nil) (pss_cons (ps_if (PW.pt (pw_or (pt_not (pt_truth (pe_callB cIsi (by rfl) T.n_isinstance (by decide +kernel) (pa_cons (pv 4) (pa_cons (pe_bltn (v := .ty "tuple") (by rfl) T.n_tuple (by decide +kernel) rfl) pa_nil))) (fun _ => rfl))) (pw_or1 (pt_not (pt_chain (opLe hr) (opLe hr) (pe_int) (pe_callB call_len (by rfl) T.n_len (by decide +kernel) (pa_cons (pv 4) pa_nil)) (pe_gc (by rfl) T.c_MOST_CELLS)))))) (pss_one (ps_ret (pe_bl))) pss_nil) (pss_cons (ps_set (i := 1) sc_is_code.nd rfl (by first | exact Or.inl rfl | exact Or.inr rfl) (pe_callB call_len (by rfl) T.n_len (by decide +kernel) (pa_cons (pv 4) pa_nil))) (pss_one (ps_ret (pe_cmpR (opEq hr) (pe_lc (own := [("cell", 7)]) (g := gName 7) (tt := (tNot (tTru' K (tCall (spOf K (F_cell_fits K)) [] E0 (tCons (tVar 7) (tCons (tCB (Dl.rLen K) (tCons (tVar 2) tNil)) (tCons (tVar 3) (tCons (tVar 1) (tCons (tCB (Dl.rLen K) (tCons (tVar 5) tNil)) tNil))))))))) (by rfl) sc_is_code.nd (pi_sq (pv 4)) (blkOk_by (own := [("cell", 7)]) (N := ["value", "many", "votes", "size", "cells", "bank", "one", "cell"]) (sc := defScope s_is_code) (by decide +kernel)) (fun _ _ _ _ _ => pg_name (i := 7) sc_is_code.nd rfl (by first | exact Or.inl rfl | exact Or.inr rfl)) (fun _ _ _ _ _ => (pts_one (pt_not (pt_truth (pe_u C_cell_fits hr (by decide) (by rfl) (pa_cons (pv 7) (pa_cons (pe_callB call_len (by rfl) T.n_len (by decide +kernel) (pa_cons (pv 2) pa_nil)) (pa_cons (pv 3) (pa_cons (pv 1) (pa_cons (pe_callB call_len (by rfl) T.n_len (by decide +kernel) (pa_cons (pv 5) pa_nil)) pa_nil)))))) (fun _ => rfl))))) (fun _ _ _ _ _ => (pv 7))) (pe_lst pa_nil) (nomark _))))))))))
theorem ok_need_code (T : TX K mg) (C_is_code : Callee P w K mg base "is_code" 6 ["value"] (spOf K (F_is_code K))) : Callee P w K mg base "need_code" 7 ["code"] (spOf K (F_need_code K)) := by
  refine callee_mk T.f_need_code sc_need_code (by intro kV doc pm an cdv ct us hl; exact match us, hl with | [_], _ => rfl) T.g_need_code n_need_code (t_need_code K) (b_need_code T) ?_
  intro cdv A outer s H E hr
  exact (pss_one (ps_if (pt_not (pt_truth (pe_u C_is_code hr (by decide) (by rfl) (pa_cons (pv 0) pa_nil)) (fun _ => rfl))) (pss_one (ps_never)) pss_nil))
theorem ok_need_hue (T : TX K mg) (C_is_from : Callee P w K mg base "is_from" 2 ["value", "low", "high"] (spOf K (F_is_from K))) : Callee P w K mg base "need_hue" 3 ["code", "hue"] (spOf K (F_need_hue K)) := by
  refine callee_mk T.f_need_hue sc_need_hue (by intro kV doc pm an cdv ct us hl; exact match us, hl with | [_, _], _ => rfl) T.g_need_hue n_need_hue (t_need_hue K) (b_need_hue T) ?_
  intro cdv A outer s H E hr
  exact (pss_one (ps_if (pt_not (pt_truth (pe_u C_is_from hr (by decide) (by rfl) (pa_cons (pv 1) (pa_cons (pe_int) (pa_cons (pe_op opSub (pe_callB call_len (by rfl) T.n_len (by decide +kernel) (pa_cons (pe_ix ixU (pv 0) (pe_int) (fun _ _ => rfl)) pa_nil)) (pe_int)) pa_nil)))) (fun _ => rfl))) (pss_one (ps_never)) pss_nil))
theorem ok_first_misfit (T : TX K mg)  : Callee P w K mg base "first_misfit" 1 ["code", "strikes"] (spOf K (F_first_misfit K)) := by
  refine callee_mk T.f_first_misfit sc_first_misfit (by intro kV doc pm an cdv ct us hl; exact match us, hl with | [_, _], _ => rfl) T.g_first_misfit n_first_misfit (t_first_misfit K) (b_first_misfit T) ?_
  intro cdv A outer s H E hr
  exact (pss_cons (ps_set (i := 2) sc_first_misfit.nd rfl (by first | exact Or.inl rfl | exact Or.inr rfl) (pe_int)) (pss_cons (ps_for PassesOwn.never (by rfl) (pi_enumU (by rfl) T.n_enumerate (pa_cons (pv 1) pa_nil)) (pg_tup (by rfl) (pgs_cons (pg_name (i := 3) sc_first_misfit.nd rfl (by first | exact Or.inl rfl | exact Or.inr rfl)) (pgs_cons (pg_name (i := 4) sc_first_misfit.nd rfl (by first | exact Or.inl rfl | exact Or.inr rfl)) pgs_nil))) (pss_cons (ps_never) (pss_one (ps_never)))) (pss_one (ps_ret (pe_non)))))
theorem ok_is_strike_list (T : TX K mg)  : Callee P w K mg base "is_strike_list" 1 ["value"] (spOf K (F_is_strike_list K)) := by
  refine callee_mk T.f_is_strike_list sc_is_strike_list (by intro kV doc pm an cdv ct us hl; exact match us, hl with | [_], _ => rfl) T.g_is_strike_list n_is_strike_list (t_is_strike_list K) (b_is_strike_list T) ?_
  intro cdv A outer s H E hr
  exact (pss_one (ps_ret ((pe_and (pe_callB cIsi (by rfl) T.n_isinstance (by decide +kernel) (pa_cons (pv 0) (pa_cons (pe_tup (pa_cons (pe_bltn (v := .ty "list") (by rfl) T.n_list (by decide +kernel) rfl) (pa_cons (pe_bltn (v := .ty "tuple") (by rfl) T.n_tuple (by decide +kernel) rfl) pa_nil))) pa_nil))) (pe_one (pe_cmpR (opLe hr) (pe_callB call_len (by rfl) T.n_len (by decide +kernel) (pa_cons (pv 0) pa_nil)) (pe_gc (by rfl) T.c_MOST_STRIKES) (nomark _)))))))
theorem ok_need_strikes (T : TX K mg) (C_is_strike_list : Callee P w K mg base "is_strike_list" 1 ["value"] (spOf K (F_is_strike_list K))) (C_first_misfit : Callee P w K mg base "first_misfit" 1 ["code", "strikes"] (spOf K (F_first_misfit K))) : Callee P w K mg base "need_strikes" 2 ["code", "strikes"] (spOf K (F_need_strikes K)) := by
  refine callee_mk T.f_need_strikes sc_need_strikes (by intro kV doc pm an cdv ct us hl; exact match us, hl with | [_, _], _ => rfl) T.g_need_strikes n_need_strikes (t_need_strikes K) (b_need_strikes T) ?_
  intro cdv A outer s H E hr
  exact (pss_cons (ps_if (pt_not (pt_truth (pe_u C_is_strike_list hr (by decide) (by rfl) (pa_cons (pv 1) pa_nil)) (fun _ => rfl))) (pss_one (ps_never)) pss_nil) (pss_cons (ps_set (i := 2) sc_need_strikes.nd rfl (by first | exact Or.inl rfl | exact Or.inr rfl) (pe_u C_first_misfit hr (by decide) (by rfl) (pa_cons (pv 0) (pa_cons (pv 1) pa_nil)))) (pss_one (ps_if (pt_cmpR (opIsNot hr) (pv 2) (pe_non) (nomark _)) (pss_one (ps_never)) pss_nil))))
theorem ok_need_inputs (T : TX K mg) (C_are_inputs : Callee P w K mg base "are_inputs" 3 ["value"] (spOf K (F_are_inputs K))) : Callee P w K mg base "need_inputs" 4 ["inputs"] (spOf K (F_need_inputs K)) := by
  refine callee_mk T.f_need_inputs sc_need_inputs (by intro kV doc pm an cdv ct us hl; exact match us, hl with | [_], _ => rfl) T.g_need_inputs n_need_inputs (t_need_inputs K) (b_need_inputs T) ?_
  intro cdv A outer s H E hr
  exact (pss_one (ps_if (pt_not (pt_truth (pe_u C_are_inputs hr (by decide) (by rfl) (pa_cons (pv 0) pa_nil)) (fun _ => rfl))) (pss_one (ps_never)) pss_nil))
theorem ok_need_steps (T : TX K mg) (C_is_from : Callee P w K mg base "is_from" 2 ["value", "low", "high"] (spOf K (F_is_from K))) : Callee P w K mg base "need_steps" 3 ["steps"] (spOf K (F_need_steps K)) := by
  refine callee_mk T.f_need_steps sc_need_steps (by intro kV doc pm an cdv ct us hl; exact match us, hl with | [_], _ => rfl) T.g_need_steps n_need_steps (t_need_steps K) (b_need_steps T) ?_
  intro cdv A outer s H E hr
  exact (pss_one (ps_if (pt_not (pt_truth (pe_u C_is_from hr (by decide) (by rfl) (pa_cons (pv 0) (pa_cons (pe_int) (pa_cons (pe_gc (by rfl) T.c_MOST_TRIES) pa_nil)))) (fun _ => rfl))) (pss_one (ps_never)) pss_nil))
theorem ok_most_agreed (T : TX K mg)  : Callee P w K mg base "most_agreed" 1 ["values", "need"] (spOf K (F_most_agreed K)) := by
  refine callee_mk T.f_most_agreed sc_most_agreed (by intro kV doc pm an cdv ct us hl; exact match us, hl with | [_, _], _ => rfl) T.g_most_agreed n_most_agreed (t_most_agreed K) (b_most_agreed T) ?_
  intro cdv A outer s H E hr
  exact (pss_cons (ps_set (i := 2) sc_most_agreed.nd rfl (by first | exact Or.inl rfl | exact Or.inr rfl) (pe_ix ixU (pv 0) (pe_int) (fun _ _ => rfl))) (pss_cons (ps_if (pt_cmpR (opGe hr) (pe_bm PySem.F.plainAttrs_list PySem.F.slot_list_count PySem.F.type_list_count mt_lcount (pv 0) (pa_cons (pv 2) pa_nil)) (pv 1) (nomark _)) (pss_one (ps_ret (pv 2))) pss_nil) (pss_cons (ps_for PassesOwn.never (by rfl) (pi_sq (pe_slice slU (pv 0) (po_some (pe_int)) po_none)) (pg_name (i := 3) sc_most_agreed.nd rfl (by first | exact Or.inl rfl | exact Or.inr rfl)) (pss_one (ps_if (pt_cmpR (opGe hr) (pe_bm PySem.F.plainAttrs_list PySem.F.slot_list_count PySem.F.type_list_count mt_lcount (pv 0) (pa_cons (pv 3) pa_nil)) (pv 1) (nomark _)) (pss_one (ps_ret (pv 3))) pss_nil))) (pss_one (ps_ret (pe_non))))))
theorem ok_worked_out (T : TX K mg)  : Callee P w K mg base "worked_out" 1 ["word", "one", "other", "size"] (spOf K (F_worked_out K)) := by
  refine callee_mk T.f_worked_out sc_worked_out (by intro kV doc pm an cdv ct us hl; exact match us, hl with | [_, _, _, _], _ => rfl) T.g_worked_out n_worked_out (t_worked_out K) (b_worked_out T) ?_
  intro cdv A outer s H E hr
  exact (pss_cons (ps_if (pt_cmpR (opEq hr) (pv 0) (pe_str) (nomark _)) (pss_one (ps_ret (pe_op opMod (pe_op opAdd (pv 1) (pv 2)) (pv 3)))) pss_nil) (pss_cons (ps_if (pt_cmpR (opEq hr) (pv 0) (pe_str) (nomark _)) (pss_one (ps_ret (pe_op opMod (pe_op opSub (pv 1) (pv 2)) (pv 3)))) pss_nil) (pss_cons (ps_if (pt_cmpR (opEq hr) (pv 0) (pe_str) (nomark _)) (pss_one (ps_ret (pe_op opMod (pe_op opMul (pv 1) (pv 2)) (pv 3)))) pss_nil) (pss_cons (ps_if (pt_cmpR (opEq hr) (pv 0) (pe_str) (nomark _)) (pss_one (ps_ret (pe_ifExp (pt_cmpR (opNe hr) (pv 2) (pe_int) (nomark _)) (pe_op opMod (pv 1) (pv 2)) (pe_int)))) pss_nil) (pss_cons (ps_if (pt_cmpR (opEq hr) (pv 0) (pe_str) (nomark _)) (pss_one (ps_ret (pe_ifExp (pt_cmpR (opLt hr) (pv 1) (pv 2) (nomark _)) (pe_int) (pe_int)))) pss_nil) (pss_one (ps_ret (pe_ifExp (pt_cmpR (opEq hr) (pv 1) (pv 2) (nomark _)) (pe_int) (pe_int)))))))))
theorem ok_HueState___init__ (T : TX K mg)  : CalleeJ P w K mg base "HueState" (He.ga K "HueState") 1 ["self", "bank"] (dv_HueState K) (spOf K (F_HueState___init__ K)) := by
  refine calleeJ_mk T.g_HueState T.m_HueState___init__ T.f_HueState___init__ sc_HueState___init__ (fun fd FD => ⟨[], .nil, FD.bindsN (by intro kV doc pm an cdv ct us hl; exact match us, hl with | [_, _], _ => rfl)⟩) n_HueState___init__ (t_HueState___init__ K) (b_HueState___init__ T) ?_
  intro cdv A outer s H E hr
  exact (pss_cons (ps_fld (pv 0) (pe_op opMul (pe_lst (pa_cons (pe_int) pa_nil)) (pe_gc (by rfl) T.c_MANY_REGISTERS)) rfl) (pss_cons (ps_fld (pv 0) (pe_callTy cList (by rfl) T.n_list (by decide +kernel) (pa_cons (pv 1) pa_nil)) rfl) (pss_cons (ps_fld (pv 0) (pe_int) rfl) (pss_cons (ps_fld (pv 0) (pe_non) rfl) (pss_one (ps_fld (pv 0) (pe_dnewK) rfl))))))
theorem ok_HueState_instructed (T : TX K mg) (C_worked_out : Callee P w K mg base "worked_out" 1 ["word", "one", "other", "size"] (spOf K (F_worked_out K))) : CalleeM P w K mg base (He.ga K "HueState") "instructed" 2 ["self", "cell", "size"] (spOf K (F_HueState_instructed K)) := by
  refine calleeM_mk T.m_HueState_instructed T.f_HueState_instructed sc_HueState_instructed (by intro kV doc pm an cdv ct us hl; exact match us, hl with | [_, _, _], _ => rfl) n_HueState_instructed (t_HueState_instructed K) (b_HueState_instructed T) ?_
  intro cdv A outer s H E hr
  exact (pss_cons (ps_par3 (i := 3) (j := 4) (l := 5) (by rfl) sc_HueState_instructed.nd rfl rfl rfl (by decide) (by decide) (by decide) rfl rfl rfl (pa_cons (pe_fld (pv 0) rfl) (pa_cons (pe_ix ixU (pv 1) (pe_int) (fun _ _ => rfl)) (pa_cons (pe_ix ixU (pv 1) (pe_int) (fun _ _ => rfl)) pa_nil))) (by rfl)) (pss_one (ps_if (pt_cmpR (opEq hr) (pv 4) (pe_str) (nomark _)) (pss_one (ps_asg (pe_ix ixU (pv 1) (pe_int) (fun _ _ => rfl)) (pg_sub (pv 3) (pv 5) set_list))) (pss_one (ps_if (pt_cmpR (opEq hr) (pv 4) (pe_str) (nomark _)) (pss_one (ps_fld (pv 0) (pe_ix ixU (pv 3) (pv 5) (fun _ _ => rfl)) rfl)) (pss_one (ps_if (pt_cmpR (opEq hr) (pv 4) (pe_str) (nomark _)) (pss_one (ps_asg (pe_ix ixU (pe_fld (pv 0) rfl) (pe_op opAdd (pe_ix ixU (pv 1) (pe_int) (fun _ _ => rfl)) (pe_op opMod (pe_ix ixU (pv 3) (pe_ix ixU (pv 1) (pe_int) (fun _ _ => rfl)) (fun _ _ => rfl)) (pe_ix ixU (pv 1) (pe_int) (fun _ _ => rfl)))) (fun _ _ => rfl)) (pg_sub (pv 3) (pv 5) set_list))) (pss_one (ps_if (pt_cmpR (opEq hr) (pv 4) (pe_str) (nomark _)) (pss_cons (ps_set (i := 6) sc_HueState_instructed.nd rfl (by first | exact Or.inl rfl | exact Or.inr rfl) (pe_fld (pv 0) rfl)) (pss_one (ps_asg (pe_ix ixU (pv 3) (pv 5) (fun _ _ => rfl)) (pg_sub (pv 6) (pe_op opAdd (pe_ix ixU (pv 1) (pe_int) (fun _ _ => rfl)) (pe_op opMod (pe_ix ixU (pv 3) (pe_ix ixU (pv 1) (pe_int) (fun _ _ => rfl)) (fun _ _ => rfl)) (pe_ix ixU (pv 1) (pe_int) (fun _ _ => rfl)))) set_list)))) (pss_one (ps_asg (pe_u C_worked_out hr (by decide) (by rfl) (pa_cons (pv 4) (pa_cons (pe_ix ixU (pv 3) (pe_ix ixU (pv 1) (pe_int) (fun _ _ => rfl)) (fun _ _ => rfl)) (pa_cons (pe_ix ixU (pv 3) (pe_ix ixU (pv 1) (pe_int) (fun _ _ => rfl)) (fun _ _ => rfl)) (pa_cons (pv 2) pa_nil))))) (pg_sub (pv 3) (pv 5) set_list))))))))))))
theorem ok_Machine___init__ (T : TX K mg) (C_need_code : Callee P w K mg base "need_code" 7 ["code"] (spOf K (F_need_code K))) (C_need_inputs : Callee P w K mg base "need_inputs" 4 ["inputs"] (spOf K (F_need_inputs K))) (C_need_strikes : Callee P w K mg base "need_strikes" 2 ["code", "strikes"] (spOf K (F_need_strikes K))) (C_HueState___init__ : CalleeJ P w K mg base "HueState" (He.ga K "HueState") 1 ["self", "bank"] (dv_HueState K) (spOf K (F_HueState___init__ K))) : CalleeJ P w K mg base "Machine" (He.ga K "Machine") 8 ["self", "code", "inputs", "strikes"] (dv_Machine K) (spOf K (F_Machine___init__ K)) := by
  refine calleeJ_mk T.g_Machine T.m_Machine___init__ T.f_Machine___init__ sc_Machine___init__ (fun fd FD => FunD.binds1 (ps := ["self", "code", "inputs", "strikes"]) FD 3 0 (by simp [dv_Machine]) rfl (fun T kV doc pm an cdv ct us its hu hi => match us, hu, its, hi with | [_, _, _], _, [_], _ => ⟨_, rfl, rfl⟩)) n_Machine___init__ (t_Machine___init__ K) (b_Machine___init__ T) ?_
  intro cdv A outer s H E hr
  exact (pss_cons (ps_expr (pe_u C_need_code hr (by decide) (by rfl) (pa_cons (pv 1) pa_nil))) (pss_cons (ps_expr (pe_u C_need_inputs hr (by decide) (by rfl) (pa_cons (pv 2) pa_nil))) (pss_cons (ps_expr (pe_u C_need_strikes hr (by decide) (by rfl) (pa_cons (pv 1) (pa_cons (pv 3) pa_nil)))) (pss_cons (ps_fld (pv 0) (pv 1) rfl) (pss_cons (ps_fld (pv 0) (pe_lc (own := [("need", 4)]) (g := gName 4) (tt := tYes) (by rfl) sc_Machine___init__.nd (pi_sq (pe_ix ixU (pv 1) (pe_int) (fun _ _ => rfl))) (blkOk_by (own := [("need", 4)]) (N := ["self", "code", "inputs", "strikes", "need"]) (sc := defScope s_Machine___init__) (by decide +kernel)) (fun _ _ _ _ _ => pg_name (i := 4) sc_Machine___init__.nd rfl (by first | exact Or.inl rfl | exact Or.inr rfl)) (fun _ _ _ _ _ => pts_nil) (fun _ _ _ _ _ => (pe_mkj C_HueState___init__ hr (by decide) (by rfl) (pa_cons (pe_ix ixU (pv 1) (pe_int) (fun _ _ => rfl)) pa_nil)))) rfl) (pss_cons (ps_fld (pv 0) (pe_callTy cList (by rfl) T.n_list (by decide +kernel) (pa_cons (pv 2) pa_nil)) rfl) (pss_cons (ps_fld (pv 0) (pe_callTy cList (by rfl) T.n_list (by decide +kernel) (pa_cons (pv 3) pa_nil)) rfl) (pss_cons (ps_fld (pv 0) (pe_lst pa_nil) rfl) (pss_cons (ps_fld (pv 0) (pe_int) rfl) (pss_cons (ps_fld (pv 0) (pe_str) rfl) (pss_one (ps_fld (pv 0) (pe_int) rfl))))))))))))
theorem ok_Machine_row (T : TX K mg)  : CalleeP P w K mg base (He.ga K "Machine") "row" 1 ["self"] (spOf K (F_Machine_row K)) := by
  refine calleeP_mk T.m_Machine_row T.f_Machine_row sc_Machine_row (by intro kV doc pm an cdv ct us hl; exact match us, hl with | [_], _ => rfl) n_Machine_row (t_Machine_row K) (b_Machine_row T) ?_
  intro cdv A outer s H E hr
  exact (pss_one (ps_ret (pe_callTy cList (by rfl) T.n_list (by decide +kernel) (pa_cons (pe_fld (pv 0) rfl) pa_nil))))
theorem ok_Machine_state (T : TX K mg)  : CalleeP P w K mg base (He.ga K "Machine") "state" 1 ["self"] (spOf K (F_Machine_state K)) := by
  refine calleeP_mk T.m_Machine_state T.f_Machine_state sc_Machine_state (by intro kV doc pm an cdv ct us hl; exact match us, hl with | [_], _ => rfl) n_Machine_state (t_Machine_state K) (b_Machine_state T) ?_
  intro cdv A outer s H E hr
  exact (pss_one (ps_ret (pe_fld (pv 0) rfl)))
theorem ok_Machine_left (T : TX K mg)  : CalleeP P w K mg base (He.ga K "Machine") "left" 1 ["self"] (spOf K (F_Machine_left K)) := by
  refine calleeP_mk T.m_Machine_left T.f_Machine_left sc_Machine_left (by intro kV doc pm an cdv ct us hl; exact match us, hl with | [_], _ => rfl) n_Machine_left (t_Machine_left K) (b_Machine_left T) ?_
  intro cdv A outer s H E hr
  exact (pss_one (ps_ret (pe_callTy cList (by rfl) T.n_list (by decide +kernel) (pa_cons (pe_fld (pv 0) rfl) pa_nil))))
theorem ok_Machine_slots (T : TX K mg)  : CalleeP P w K mg base (He.ga K "Machine") "slots" 1 ["self"] (spOf K (F_Machine_slots K)) := by
  refine calleeP_mk T.m_Machine_slots T.f_Machine_slots sc_Machine_slots (by intro kV doc pm an cdv ct us hl; exact match us, hl with | [_], _ => rfl) n_Machine_slots (t_Machine_slots K) (b_Machine_slots T) ?_
  intro cdv A outer s H E hr
  exact (pss_one (ps_ret (pe_callTy cTuple (by rfl) T.n_tuple (by decide +kernel) (pa_cons (pe_lc (own := [("hue", 1)]) (g := gName 1) (tt := tYes) (by rfl) sc_Machine_slots.nd (pi_sq (pe_fld (pv 0) rfl)) (blkOk_by (own := [("hue", 1)]) (N := ["self", "hue"]) (sc := defScope s_Machine_slots) (by decide +kernel)) (fun _ _ _ _ _ => pg_name (i := 1) sc_Machine_slots.nd rfl (by first | exact Or.inl rfl | exact Or.inr rfl)) (fun _ _ _ _ _ => pts_nil) (fun _ _ _ _ _ => (pe_fld (pv 1) rfl))) pa_nil))))
theorem ok_Machine_registers (T : TX K mg) (C_need_hue : Callee P w K mg base "need_hue" 3 ["code", "hue"] (spOf K (F_need_hue K))) : CalleeM P w K mg base (He.ga K "Machine") "registers" 4 ["self", "hue"] (spOf K (F_Machine_registers K)) := by
  refine calleeM_mk T.m_Machine_registers T.f_Machine_registers sc_Machine_registers (by intro kV doc pm an cdv ct us hl; exact match us, hl with | [_, _], _ => rfl) n_Machine_registers (t_Machine_registers K) (b_Machine_registers T) ?_
  intro cdv A outer s H E hr
  exact (pss_cons (ps_expr (pe_u C_need_hue hr (by decide) (by rfl) (pa_cons (pe_fld (pv 0) rfl) (pa_cons (pv 1) pa_nil)))) (pss_one (ps_ret (pe_callTy cTuple (by rfl) T.n_tuple (by decide +kernel) (pa_cons (pe_fld (pe_ix ixU (pe_fld (pv 0) rfl) (pv 1) (fun _ _ => rfl)) rfl) pa_nil)))))
theorem ok_Machine_cells (T : TX K mg) (C_need_hue : Callee P w K mg base "need_hue" 3 ["code", "hue"] (spOf K (F_need_hue K))) : CalleeM P w K mg base (He.ga K "Machine") "cells" 4 ["self", "hue"] (spOf K (F_Machine_cells K)) := by
  refine calleeM_mk T.m_Machine_cells T.f_Machine_cells sc_Machine_cells (by intro kV doc pm an cdv ct us hl; exact match us, hl with | [_, _], _ => rfl) n_Machine_cells (t_Machine_cells K) (b_Machine_cells T) ?_
  intro cdv A outer s H E hr
  exact (pss_cons (ps_expr (pe_u C_need_hue hr (by decide) (by rfl) (pa_cons (pe_fld (pv 0) rfl) (pa_cons (pv 1) pa_nil)))) (pss_one (ps_ret (pe_callTy cTuple (by rfl) T.n_tuple (by decide +kernel) (pa_cons (pe_fld (pe_ix ixU (pe_fld (pv 0) rfl) (pv 1) (fun _ _ => rfl)) rfl) pa_nil)))))
theorem ok_Machine_go (T : TX K mg) (C_need_steps : Callee P w K mg base "need_steps" 3 ["steps"] (spOf K (F_need_steps K))) (C_strikes_due : Callee P w K mg base "strikes_due" 1 ["machine"] (spOf K (F_strikes_due K))) (C_machine_step : Callee P w K mg base "machine_step" 3 ["machine"] (spOf K (F_machine_step K))) (C_next_address : Callee P w K mg base "next_address" 3 ["machine"] (spOf K (F_next_address K))) : CalleeM P w K mg base (He.ga K "Machine") "go" 4 ["self", "steps"] (spOf K (F_Machine_go K)) := by
  refine calleeM_mk T.m_Machine_go T.f_Machine_go sc_Machine_go (by intro kV doc pm an cdv ct us hl; exact match us, hl with | [_, _], _ => rfl) n_Machine_go (t_Machine_go K) (b_Machine_go T) ?_
  intro cdv A outer s H E hr
  exact (pss_cons (ps_expr (pe_u C_need_steps hr (by decide) (by rfl) (pa_cons (pv 1) pa_nil))) (pss_cons (ps_set (i := 2) sc_Machine_go.nd rfl (by first | exact Or.inl rfl | exact Or.inr rfl) (pv 1)) (pss_cons (ps_while PassesOwn.never (PW.pt (pw_and (pt_cmpR (opGt hr) (pv 2) (pe_int) (nomark _)) (pw_and1 (pt_cmpR (opEq hr) (pe_fld (pv 0) rfl) (pe_str) (nomark _))))) (pss_cons (ps_set (i := 2) sc_Machine_go.nd rfl (by first | exact Or.inl rfl | exact Or.inr rfl) (pe_op opSub (pv 2) (pe_int))) (pss_cons (ps_expr (pe_u C_strikes_due hr (by decide) (by rfl) (pa_cons (pv 0) pa_nil))) (pss_one (ps_expr (pe_u C_machine_step hr (by decide) (by rfl) (pa_cons (pv 0) pa_nil))))))) (pss_one (ps_fld (pv 0) (pe_u C_next_address hr (by decide) (by rfl) (pa_cons (pv 0) pa_nil)) rfl)))))
theorem ok_machine_address (T : TX K mg) (C_most_agreed : Callee P w K mg base "most_agreed" 1 ["values", "need"] (spOf K (F_most_agreed K))) : Callee P w K mg base "machine_address" 2 ["machine"] (spOf K (F_machine_address K)) := by
  refine callee_mk T.f_machine_address sc_machine_address (by intro kV doc pm an cdv ct us hl; exact match us, hl with | [_], _ => rfl) T.g_machine_address n_machine_address (t_machine_address K) (b_machine_address T) ?_
  intro cdv A outer s H E hr
  exact (pss_cons (ps_par (i := 2) (j := 3) (by rfl) sc_machine_address.nd rfl rfl (by decide) rfl rfl (pa_cons (pe_ix ixU (pe_fld (pv 0) rfl) (pe_int) (fun _ _ => rfl)) (pa_cons (pe_ix ixU (pe_fld (pv 0) rfl) (pe_int) (fun _ _ => rfl)) pa_nil)) (by rfl)) (pss_cons (ps_set (i := 1) sc_machine_address.nd rfl (by first | exact Or.inl rfl | exact Or.inr rfl) (pe_u C_most_agreed hr (by decide) (by rfl) (pa_cons (pe_lc (own := [("hue", 4)]) (g := gName 4) (tt := tYes) (by rfl) sc_machine_address.nd (pi_sq (pe_fld (pv 0) rfl)) (blkOk_by (own := [("hue", 4)]) (N := ["machine", "found", "votes", "cells", "hue"]) (sc := defScope s_machine_address) (by decide +kernel)) (fun _ _ _ _ _ => pg_name (i := 4) sc_machine_address.nd rfl (by first | exact Or.inl rfl | exact Or.inr rfl)) (fun _ _ _ _ _ => pts_nil) (fun _ _ _ _ _ => (pe_fld (pv 4) rfl))) (pa_cons (pe_ix ixU (pv 2) (pe_op opSub (pe_callB call_len (by rfl) T.n_len (by decide +kernel) (pa_cons (pv 2) pa_nil)) (pe_int)) (fun _ _ => rfl)) pa_nil)))) (pss_one (ps_ret (pe_ifExp (PW.pt (pw_and (pt_cmpR (opIsNot hr) (pv 1) (pe_non) (nomark _)) (pw_and1 (pt_cmpR (opLt hr) (pv 1) (pe_callB call_len (by rfl) T.n_len (by decide +kernel) (pa_cons (pv 3) pa_nil)) (nomark _))))) (pv 1) (pe_non))))))
theorem ok_next_address (T : TX K mg) (C_machine_address : Callee P w K mg base "machine_address" 2 ["machine"] (spOf K (F_machine_address K))) : Callee P w K mg base "next_address" 3 ["machine"] (spOf K (F_next_address K)) := by
  refine callee_mk T.f_next_address sc_next_address (by intro kV doc pm an cdv ct us hl; exact match us, hl with | [_], _ => rfl) T.g_next_address n_next_address (t_next_address K) (b_next_address T) ?_
  intro cdv A outer s H E hr
  exact (pss_one (ps_ret (pe_ifExp (pt_cmpR (opEq hr) (pe_fld (pv 0) rfl) (pe_str) (nomark _)) (pe_u C_machine_address hr (by decide) (by rfl) (pa_cons (pv 0) pa_nil)) (pe_non))))
theorem ok_strikes_due (T : TX K mg)  : Callee P w K mg base "strikes_due" 1 ["machine"] (spOf K (F_strikes_due K)) := by
  refine callee_mk T.f_strikes_due sc_strikes_due (by intro kV doc pm an cdv ct us hl; exact match us, hl with | [_], _ => rfl) T.g_strikes_due n_strikes_due (t_strikes_due K) (b_strikes_due T) ?_
  intro cdv A outer s H E hr
  exact (pss_cons (ps_set (i := 1) sc_strikes_due.nd rfl (by first | exact Or.inl rfl | exact Or.inr rfl) (pe_fld (pv 0) rfl)) (pss_one (ps_while PassesOwn.never (PW.pt (pw_and (pt_cmpR (opNe hr) (pv 1) (pe_lst pa_nil) (nomark _)) (pw_and1 (pt_cmpR (opLe hr) (pe_ix ixU (pe_ix ixU (pv 1) (pe_int) (fun _ _ => rfl)) (pe_int) (fun _ _ => rfl)) (pe_fld (pv 0) rfl) (nomark _))))) (pss_cons (ps_never) (pss_one (ps_never))))))
theorem ok_machine_step (T : TX K mg) (C_machine_address : Callee P w K mg base "machine_address" 2 ["machine"] (spOf K (F_machine_address K))) (C_is_settle : Callee P w K mg base "is_settle" 1 ["cell"] (spOf K (F_is_settle K))) (C_settle_done : Callee P w K mg base "settle_done" 2 ["machine", "cell", "behind"] (spOf K (F_settle_done K))) (C_point_all : Callee P w K mg base "point_all" 1 ["machine", "address"] (spOf K (F_point_all K))) (C_HueState_instructed : CalleeM P w K mg base (He.ga K "HueState") "instructed" 2 ["self", "cell", "size"] (spOf K (F_HueState_instructed K))) : Callee P w K mg base "machine_step" 3 ["machine"] (spOf K (F_machine_step K)) := by
  refine callee_mk T.f_machine_step sc_machine_step (by intro kV doc pm an cdv ct us hl; exact match us, hl with | [_], _ => rfl) T.g_machine_step n_machine_step (t_machine_step K) (b_machine_step T) ?_
  intro cdv A outer s H E hr
  exact (pss_cons (ps_par (i := 3) (j := 4) (by rfl) sc_machine_step.nd rfl rfl (by decide) rfl rfl (pa_cons (pe_fld (pv 0) rfl) (pa_cons (pe_u C_machine_address hr (by decide) (by rfl) (pa_cons (pv 0) pa_nil)) pa_nil)) (by rfl)) (pss_cons (ps_fld (pv 0) (pe_op opAdd (pe_fld (pv 0) rfl) (pe_int)) rfl) (pss_cons (ps_if (pt_cmpR (opIs hr) (pv 4) (pe_non) (nomark _)) (pss_cons (ps_fld (pv 0) (pe_str) rfl) (pss_one (ps_retN))) pss_nil) (pss_cons (ps_set (i := 1) sc_machine_step.nd rfl (by first | exact Or.inl rfl | exact Or.inr rfl) (pe_ix ixU (pe_ix ixU (pv 3) (pe_int) (fun _ _ => rfl)) (pv 4) (fun _ _ => rfl))) (pss_cons (ps_if (pt_truth (pe_u C_is_settle hr (by decide) (by rfl) (pa_cons (pv 1) pa_nil)) (fun _ => rfl)) (pss_cons (ps_expr (pe_u C_settle_done hr (by decide) (by rfl) (pa_cons (pv 0) (pa_cons (pv 1) (pa_cons (pe_op opAdd (pv 4) (pe_int)) pa_nil))))) (pss_one (ps_retN))) pss_nil) (pss_cons (ps_expr (pe_u C_point_all hr (by decide) (by rfl) (pa_cons (pv 0) (pa_cons (pe_op opAdd (pv 4) (pe_int)) pa_nil)))) (pss_cons (ps_set (i := 2) sc_machine_step.nd rfl (by first | exact Or.inl rfl | exact Or.inr rfl) (pe_ix ixU (pe_fld (pv 0) rfl) (pe_ix ixU (pv 1) (pe_int) (fun _ _ => rfl)) (fun _ _ => rfl))) (pss_one (ps_expr (pe_um (pv 2) T.k_HueState C_HueState_instructed hr (by decide) (pa_cons (pe_dget2 (hu_of hr) (pe_fld (pv 2) rfl) (pv 4) (pv 1) ⟨rfl, rfl, rfl, rfl⟩) (pa_cons (pe_ix ixU (pv 3) (pe_int) (fun _ _ => rfl)) pa_nil))))))))))))
theorem ok_point_all (T : TX K mg)  : Callee P w K mg base "point_all" 1 ["machine", "address"] (spOf K (F_point_all K)) := by
  refine callee_mk T.f_point_all sc_point_all (by intro kV doc pm an cdv ct us hl; exact match us, hl with | [_, _], _ => rfl) T.g_point_all n_point_all (t_point_all K) (b_point_all T) ?_
  intro cdv A outer s H E hr
  exact (pss_one (ps_for PassesOwn.never (by rfl) (pi_sq (pe_fld (pv 0) rfl)) (pg_name (i := 2) sc_point_all.nd rfl (by first | exact Or.inl rfl | exact Or.inr rfl)) (pss_one (ps_fld (pv 2) (pv 1) rfl))))
theorem ok_empty_slots (T : TX K mg)  : Callee P w K mg base "empty_slots" 1 ["machine"] (spOf K (F_empty_slots K)) := by
  refine callee_mk T.f_empty_slots sc_empty_slots (by intro kV doc pm an cdv ct us hl; exact match us, hl with | [_], _ => rfl) T.g_empty_slots n_empty_slots (t_empty_slots K) (b_empty_slots T) ?_
  intro cdv A outer s H E hr
  exact (pss_one (ps_for PassesOwn.never (by rfl) (pi_sq (pe_fld (pv 0) rfl)) (pg_name (i := 1) sc_empty_slots.nd rfl (by first | exact Or.inl rfl | exact Or.inr rfl)) (pss_one (ps_fld (pv 1) (pe_non) rfl))))
theorem ok_settle_done (T : TX K mg) (C_most_agreed : Callee P w K mg base "most_agreed" 1 ["values", "need"] (spOf K (F_most_agreed K))) (C_point_all : Callee P w K mg base "point_all" 1 ["machine", "address"] (spOf K (F_point_all K))) (C_empty_slots : Callee P w K mg base "empty_slots" 1 ["machine"] (spOf K (F_empty_slots K))) : Callee P w K mg base "settle_done" 2 ["machine", "cell", "behind"] (spOf K (F_settle_done K)) := by
  refine callee_mk T.f_settle_done sc_settle_done (by intro kV doc pm an cdv ct us hl; exact match us, hl with | [_, _, _], _ => rfl) T.g_settle_done n_settle_done (t_settle_done K) (b_settle_done T) ?_
  intro cdv A outer s H E hr
  exact (pss_cons (ps_par (i := 3) (j := 4) (by rfl) sc_settle_done.nd rfl rfl (by decide) rfl rfl (pa_cons (pe_ix ixU (pv 1) (pe_int) (fun _ _ => rfl)) (pa_cons (pe_fld (pv 0) rfl) pa_nil)) (by rfl)) (pss_one (ps_if (pt_cmpR (opIn hr) (pv 3) (pe_tup (pa_cons (pe_str) (pa_cons (pe_str) pa_nil))) (by rfl)) (pss_cons (ps_set (i := 5) sc_settle_done.nd rfl (by first | exact Or.inl rfl | exact Or.inr rfl) (pe_ix ixU (pe_fld (pv 0) rfl) (pe_int) (fun _ _ => rfl))) (pss_cons (ps_setLc (i := 6) (own := [("hue", 9)]) (g := gName 9) (tt := (tTest (tOp (uIsNot K) (tFld K (tVar 9) (PySem.Str.ofString "m_slot")) (tC .non)))) (by rfl) sc_settle_done.nd rfl rfl (sw_true rfl rfl rfl (by decide +kernel)) (pi_sq (pe_slice slU (pe_fld (pv 0) rfl) po_none (po_some (pe_ix ixU (pv 1) (pe_int) (fun _ _ => rfl))))) (blkOk_by (own := [("hue", 9)]) (N := ["machine", "cell", "behind", "word", "row", "votes", "slots", "agreed", "number", "hue", "registers"]) (sc := defScope s_settle_done) (by decide +kernel)) (fun _ _ _ _ _ => pg_name (i := 9) sc_settle_done.nd rfl (by first | exact Or.inl rfl | exact Or.inr rfl)) (fun _ _ _ _ _ => (pts_one (pt_cmpR (opIsNot hr) (pe_fld (pv 9) rfl) (pe_non) (nomark _)))) (fun _ _ _ _ _ => (pe_fld (pv 9) rfl))) (pss_cons (ps_set (i := 7) sc_settle_done.nd rfl (by first | exact Or.inl rfl | exact Or.inr rfl) (pe_ifExp (pt_cmpR (opNe hr) (pv 6) (pe_lst pa_nil) (nomark _)) (pe_u C_most_agreed hr (by decide) (by rfl) (pa_cons (pv 6) (pa_cons (pe_ix ixU (pv 5) (pe_op opSub (pe_ix ixU (pv 1) (pe_int) (fun _ _ => rfl)) (pe_int)) (fun _ _ => rfl)) pa_nil))) (pe_non))) (pss_cons (ps_if (pt_cmpR (opIs hr) (pv 7) (pe_non) (nomark _)) (pss_cons (ps_fld (pv 0) (pe_str) rfl) (pss_one (ps_retN))) pss_nil) (pss_cons (ps_expr (pe_u C_point_all hr (by decide) (by rfl) (pa_cons (pv 0) (pa_cons (pe_ifExp (PW.pt (pw_and (pt_cmpR (opEq hr) (pv 3) (pe_str) (nomark _)) (pw_and1 (pt_cmpR (opNe hr) (pv 7) (pe_int) (nomark _))))) (pe_ix ixU (pv 1) (pe_int) (fun _ _ => rfl)) (pv 2)) pa_nil)))) (pss_cons (ps_expr (pe_u C_empty_slots hr (by decide) (by rfl) (pa_cons (pv 0) pa_nil))) (pss_one (ps_if (pt_cmpR (opEq hr) (pv 3) (pe_str) (nomark _)) (pss_one (ps_expr (pe_bm PySem.F.plainAttrs_list PySem.F.slot_list_append PySem.F.type_list_append mt_append (pv 4) (pa_cons (pe_tup (pa_cons (pe_str) (pa_cons (pe_ix ixU (pv 1) (pe_int) (fun _ _ => rfl)) (pa_cons (pv 7) pa_nil)))) pa_nil)))) pss_nil)))))))) (pss_one (ps_if (pt_cmpR (opEq hr) (pv 3) (pe_str) (nomark _)) (pss_cons (ps_set (i := 8) sc_settle_done.nd rfl (by first | exact Or.inl rfl | exact Or.inr rfl) (pe_ifExp (pt_cmpR (opNe hr) (pe_fld (pv 0) rfl) (pe_lst pa_nil) (nomark _)) (pe_op opMod (pe_bm PySem.F.plainAttrs_list PySem.F.slot_list_pop PySem.F.type_list_pop mt_popAt (pe_fld (pv 0) rfl) (pa_cons (pe_int) pa_nil)) (pe_ix ixU (pe_fld (pv 0) rfl) (pe_int) (fun _ _ => rfl))) (pe_int))) (pss_cons (ps_expr (pe_u C_point_all hr (by decide) (by rfl) (pa_cons (pv 0) (pa_cons (pv 2) pa_nil)))) (pss_cons (ps_expr (pe_bm PySem.F.plainAttrs_list PySem.F.slot_list_append PySem.F.type_list_append mt_append (pv 4) (pa_cons (pe_tup (pa_cons (pe_str) (pa_cons (pv 8) pa_nil))) pa_nil))) (pss_one (ps_for PassesOwn.never (by rfl) (pi_sq (pe_slice slU (pe_fld (pv 0) rfl) po_none (po_some (pe_ix ixU (pv 1) (pe_int) (fun _ _ => rfl))))) (pg_name (i := 9) sc_settle_done.nd rfl (by first | exact Or.inl rfl | exact Or.inr rfl)) (pss_cons (ps_set (i := 10) sc_settle_done.nd rfl (by first | exact Or.inl rfl | exact Or.inr rfl) (pe_fld (pv 9) rfl)) (pss_one (ps_asg (pv 8) (pg_sub (pv 10) (pe_ix ixU (pv 1) (pe_int) (fun _ _ => rfl)) set_list))))))))) (pss_one (ps_if (pt_cmpR (opEq hr) (pv 3) (pe_str) (nomark _)) (pss_one (ps_never)) (pss_cons (ps_expr (pe_u C_point_all hr (by decide) (by rfl) (pa_cons (pv 0) (pa_cons (pe_ifExp (pt_cmpR (opEq hr) (pv 3) (pe_str) (nomark _)) (pe_ix ixU (pv 1) (pe_int) (fun _ _ => rfl)) (pv 2)) pa_nil)))) (pss_one (ps_if (pt_cmpR (opEq hr) (pv 3) (pe_str) (nomark _)) (pss_cons (ps_expr (pe_bm PySem.F.plainAttrs_list PySem.F.slot_list_append PySem.F.type_list_append mt_append (pv 4) (pa_cons (pe_tup (pa_cons (pe_str) pa_nil)) pa_nil))) (pss_one (ps_fld (pv 0) (pe_str) rfl))) pss_nil))))))))))
theorem ok__law_begun (T : TX K mg)  : Callee P w K mg base "_law_begun" 1 ["_law_script"] (spOf K (F__law_begun K)) := by
  refine callee_mk T.f__law_begun sc__law_begun (by intro kV doc pm an cdv ct us hl; exact match us, hl with | [_], _ => rfl) T.g__law_begun n__law_begun (t__law_begun K) (b__law_begun T) ?_
  intro cdv A outer s H E hr
  exact (pss_cons (ps_setLc (i := 1) (own := [("_law_cell", 2)]) (g := gName 2) (tt := (tTest (tOp (uGe K) (tCB (rAbs K) (tCons (tVar 2) tNil)) (tOp (uPow K) (tC (.int 10)) (tC (.int 18)))))) (by rfl) sc__law_begun.nd rfl rfl (sw_true rfl rfl rfl (by decide +kernel)) (pi_sq (pv 0)) (blkOk_by (own := [("_law_cell", 2)]) (N := ["_law_script", "_law_great", "_law_cell"]) (sc := defScope s__law_begun) (by decide +kernel)) (fun _ _ _ _ _ => pg_name (i := 2) sc__law_begun.nd rfl (by first | exact Or.inl rfl | exact Or.inr rfl)) (fun _ _ _ _ _ => (pts_one (pt_cmpR (opGe hr) (pe_callB call_abs (by rfl) T.n_abs (by decide +kernel) (pa_cons (pv 2) pa_nil)) (pe_op opPow (pe_int) (pe_int)) (nomark _)))) (fun _ _ _ _ _ => (pe_op opSub (pe_callB call_abs (by rfl) T.n_abs (by decide +kernel) (pa_cons (pv 2) pa_nil)) (pe_op opPow (pe_int) (pe_int))))) (pss_one (ps_ret (pe_disp (pps_cons (pe_str) (pv 1) (pps_cons (pe_str) (pe_lc (own := [("_law_cell", 2)]) (g := gName 2) (tt := tYes) (by rfl) sc__law_begun.nd (pi_sq (pv 0)) (blkOk_by (own := [("_law_cell", 2)]) (N := ["_law_script", "_law_great", "_law_cell"]) (sc := defScope s__law_begun) (by decide +kernel)) (fun _ _ _ _ _ => pg_name (i := 2) sc__law_begun.nd rfl (by first | exact Or.inl rfl | exact Or.inr rfl)) (fun _ _ _ _ _ => pts_nil) (fun _ _ _ _ _ => (pe_callB call_abs (by rfl) T.n_abs (by decide +kernel) (pa_cons (pv 2) pa_nil)))) (pps_cons (pe_str) (pe_int) (pps_cons (pe_str) (pe_int) pps_nil)))) (by rfl) (by rfl) (fun z => by cases z) (by decide)))))
theorem ok__law_mixed (T : TX K mg)  : Callee P w K mg base "_law_mixed" 1 ["_law_state"] (spOf K (F__law_mixed K)) := by
  refine callee_mk T.f__law_mixed sc__law_mixed (by intro kV doc pm an cdv ct us hl; exact match us, hl with | [_], _ => rfl) T.g__law_mixed n__law_mixed (t__law_mixed K) (b__law_mixed T) ?_
  intro cdv A outer s H E hr
  exact (pss_cons (ps_par (i := 2) (j := 3) (by rfl) sc__law_mixed.nd rfl rfl (by decide) rfl rfl (pa_cons (pe_op opAdd (pe_dget (hu_of hr) (pv 0) (pe_str) (fun _ _ => rfl)) (pe_int)) (pa_cons (pe_int) pa_nil)) (by rfl)) (pss_cons (ps_dput (hu_of hr) (pv 0) (pe_str) (pv 2) rfl) (pss_cons (ps_for PassesOwn.never (by rfl) (pi_sq (pe_lst (pa_cons (pe_int) (pa_cons (pe_int) (pa_cons (pe_int) (pa_cons (pe_int) pa_nil)))))) (pg_name (i := 1) sc__law_mixed.nd rfl (by first | exact Or.inl rfl | exact Or.inr rfl)) (pss_cons (ps_set (i := 4) sc__law_mixed.nd rfl (by first | exact Or.inl rfl | exact Or.inr rfl) (pe_op opAdd (pe_op opMul (pe_int) (pv 2)) (pe_op opFDiv (pv 1) (pe_int)))) (pss_cons (ps_for PassesOwn.never (by rfl) (pi_sq (pe_dget (hu_of hr) (pv 0) (pe_str) (fun _ _ => rfl))) (pg_name (i := 5) sc__law_mixed.nd rfl (by first | exact Or.inl rfl | exact Or.inr rfl)) (pss_one (ps_set (i := 4) sc__law_mixed.nd rfl (by first | exact Or.inl rfl | exact Or.inr rfl) (pe_op opMod (pe_callTy call_int1 (by rfl) T.n_int (by decide +kernel) (pa_cons (pe_op opAdd (pe_op opAdd (pe_op opMul (pv 4) (pe_int)) (pv 5)) (pv 2)) pa_nil)) (pv 1))))) (pss_one (ps_set (i := 3) sc__law_mixed.nd rfl (by first | exact Or.inl rfl | exact Or.inr rfl) (pe_op opAdd (pe_op opMul (pv 3) (pe_int)) (pe_op opMod (pe_callTy call_int1 (by rfl) T.n_int (by decide +kernel) (pa_cons (pe_op opPow (pv 4) (pe_int)) pa_nil)) (pv 1)))))))) (pss_one (ps_ret (pv 3))))))
theorem ok__law_draw (T : TX K mg) (C__law_mixed : Callee P w K mg base "_law_mixed" 1 ["_law_state"] (spOf K (F__law_mixed K))) : Callee P w K mg base "_law_draw" 2 ["_law_state", "_law_room"] (spOf K (F__law_draw K)) := by
  refine callee_mk T.f__law_draw sc__law_draw (by intro kV doc pm an cdv ct us hl; exact match us, hl with | [_, _], _ => rfl) T.g__law_draw n__law_draw (t__law_draw K) (b__law_draw T) ?_
  intro cdv A outer s H E hr
  exact (pss_cons (ps_if (pt_cmpR (opEq hr) (pe_dget (hu_of hr) (pv 0) (pe_str) (fun _ _ => rfl)) (pe_int) (nomark _)) (pss_one (ps_dput (hu_of hr) (pv 0) (pe_str) (pe_ifExp (pt_cmpR (opNe hr) (pe_dget (hu_of hr) (pv 0) (pe_str) (fun _ _ => rfl)) (pe_lst pa_nil) (nomark _)) (pe_bm PySem.F.plainAttrs_list PySem.F.slot_list_pop PySem.F.type_list_pop mt_popAt (pe_dget (hu_of hr) (pv 0) (pe_str) (fun _ _ => rfl)) (pa_cons (pe_int) pa_nil)) (pe_u C__law_mixed hr (by decide) (by rfl) (pa_cons (pv 0) pa_nil))) rfl)) pss_nil) (pss_cons (ps_set (i := 2) sc__law_draw.nd rfl (by first | exact Or.inl rfl | exact Or.inr rfl) (pe_op opMod (pe_callTy call_int1 (by rfl) T.n_int (by decide +kernel) (pa_cons (pe_dget (hu_of hr) (pv 0) (pe_str) (fun _ _ => rfl)) pa_nil)) (pv 1))) (pss_cons (ps_dput (hu_of hr) (pv 0) (pe_str) (pe_op opFDiv (pe_dget (hu_of hr) (pv 0) (pe_str) (fun _ _ => rfl)) (pv 1)) rfl) (pss_one (ps_ret (pv 2))))))
theorem ok__law_pick (T : TX K mg) (C__law_draw : Callee P w K mg base "_law_draw" 2 ["_law_state", "_law_room"] (spOf K (F__law_draw K))) : Callee P w K mg base "_law_pick" 3 ["_law_state", "_law_some"] (spOf K (F__law_pick K)) := by
  refine callee_mk T.f__law_pick sc__law_pick (by intro kV doc pm an cdv ct us hl; exact match us, hl with | [_, _], _ => rfl) T.g__law_pick n__law_pick (t__law_pick K) (b__law_pick T) ?_
  intro cdv A outer s H E hr
  exact (pss_one (ps_ret (pe_ix ixU (pv 1) (pe_u C__law_draw hr (by decide) (by rfl) (pa_cons (pv 0) (pa_cons (pe_callB call_len (by rfl) T.n_len (by decide +kernel) (pa_cons (pv 1) pa_nil)) pa_nil))) (fun _ _ => rfl))))
theorem ok__law_size (T : TX K mg) (C__law_pick : Callee P w K mg base "_law_pick" 3 ["_law_state", "_law_some"] (spOf K (F__law_pick K))) : Callee P w K mg base "_law_size" 4 ["_law_state"] (spOf K (F__law_size K)) := by
  refine callee_mk T.f__law_size sc__law_size (by intro kV doc pm an cdv ct us hl; exact match us, hl with | [_], _ => rfl) T.g__law_size n__law_size (t__law_size K) (b__law_size T) ?_
  intro cdv A outer s H E hr
  exact (pss_one (ps_ret (pe_u C__law_pick hr (by decide) (by rfl) (pa_cons (pv 0) (pa_cons (pe_lst (pa_cons (pe_int) (pa_cons (pe_int) (pa_cons (pe_int) (pa_cons (pe_int) (pa_cons (pe_int) (pa_cons (pe_int) (pa_cons (pe_int) (pa_cons (pe_int) pa_nil))))))))) pa_nil)))))
theorem ok__law_inputs (T : TX K mg) (C__law_pick : Callee P w K mg base "_law_pick" 3 ["_law_state", "_law_some"] (spOf K (F__law_pick K))) : Callee P w K mg base "_law_inputs" 4 ["_law_state"] (spOf K (F__law_inputs K)) := by
  refine callee_mk T.f__law_inputs sc__law_inputs (by intro kV doc pm an cdv ct us hl; exact match us, hl with | [_], _ => rfl) T.g__law_inputs n__law_inputs (t__law_inputs K) (b__law_inputs T) ?_
  intro cdv A outer s H E hr
  exact (pss_cons (ps_set (i := 1) sc__law_inputs.nd rfl (by first | exact Or.inl rfl | exact Or.inr rfl) (pe_lst (pa_cons (pe_int) (pa_cons (pe_int) (pa_cons (pe_int) (pa_cons (pe_int) (pa_cons (pe_int) (pa_cons (pe_int) (pa_cons (pe_int) (pa_cons (pe_int) (pa_cons (pe_int) (pa_cons (pe_int) pa_nil)))))))))))) (pss_one (ps_ret (pe_lc (own := [("_law_turn", 2)]) (g := gName 2) (tt := tYes) (by rfl) sc__law_inputs.nd (pi_range1 (by rfl) T.n_range (pa_cons (pe_u C__law_pick hr (by decide) (by rfl) (pa_cons (pv 0) (pa_cons (pe_lst (pa_cons (pe_int) (pa_cons (pe_int) (pa_cons (pe_int) (pa_cons (pe_int) (pa_cons (pe_int) pa_nil)))))) pa_nil))) pa_nil)) (blkOk_by (own := [("_law_turn", 2)]) (N := ["_law_state", "_law_some", "_law_turn"]) (sc := defScope s__law_inputs) (by decide +kernel)) (fun _ _ _ _ _ => pg_name (i := 2) sc__law_inputs.nd rfl (by first | exact Or.inl rfl | exact Or.inr rfl)) (fun _ _ _ _ _ => pts_nil) (fun _ _ _ _ _ => (pe_u C__law_pick hr (by decide) (by rfl) (pa_cons (pv 0) (pa_cons (pv 1) pa_nil))))))))
theorem ok__law_votes (T : TX K mg) (C__law_pick : Callee P w K mg base "_law_pick" 3 ["_law_state", "_law_some"] (spOf K (F__law_pick K))) (C__law_draw : Callee P w K mg base "_law_draw" 2 ["_law_state", "_law_room"] (spOf K (F__law_draw K))) : Callee P w K mg base "_law_votes" 4 ["_law_state"] (spOf K (F__law_votes K)) := by
  refine callee_mk T.f__law_votes sc__law_votes (by intro kV doc pm an cdv ct us hl; exact match us, hl with | [_], _ => rfl) T.g__law_votes n__law_votes (t__law_votes K) (b__law_votes T) ?_
  intro cdv A outer s H E hr
  exact (pss_cons (ps_par (i := 2) (j := 3) (by rfl) sc__law_votes.nd rfl rfl (by decide) rfl rfl (pa_cons (pe_u C__law_pick hr (by decide) (by rfl) (pa_cons (pv 0) (pa_cons (pe_lst (pa_cons (pe_int) (pa_cons (pe_int) (pa_cons (pe_int) (pa_cons (pe_int) (pa_cons (pe_int) (pa_cons (pe_int) (pa_cons (pe_int) pa_nil)))))))) pa_nil))) (pa_cons (pe_lst pa_nil) pa_nil)) (by rfl)) (pss_cons (ps_for PassesOwn.never (by rfl) (pi_range2 (by rfl) T.n_range (pa_cons (pe_int) (pa_cons (pe_op opAdd (pv 2) (pe_int)) pa_nil))) (pg_name (i := 1) sc__law_votes.nd rfl (by first | exact Or.inl rfl | exact Or.inr rfl)) (pss_cons (ps_set (i := 4) sc__law_votes.nd rfl (by first | exact Or.inl rfl | exact Or.inr rfl) (pe_op opAdd (pe_op opFDiv (pv 1) (pe_int)) (pe_int))) (pss_one (ps_expr (pe_bm PySem.F.plainAttrs_list PySem.F.slot_list_append PySem.F.type_list_append mt_append (pv 3) (pa_cons (pe_u C__law_pick hr (by decide) (by rfl) (pa_cons (pv 0) (pa_cons (pe_lst (pa_cons (pv 4) (pa_cons (pv 1) (pa_cons (pe_op opAdd (pv 4) (pe_u C__law_draw hr (by decide) (by rfl) (pa_cons (pv 0) (pa_cons (pe_op opSub (pv 1) (pe_op opFDiv (pv 1) (pe_int))) pa_nil)))) pa_nil)))) pa_nil))) pa_nil)))))) (pss_one (ps_ret (pe_callTy cTuple (by rfl) T.n_tuple (by decide +kernel) (pa_cons (pv 3) pa_nil))))))
end
end Hw
namespace Hw
open PySem PySem.Spec PyProof.Rows L2 Dl
def fa : List He.Fa := [.glo "_wall", .glo "is_whole", .glo "is_from", .glo "are_inputs", .glo "is_votes", .glo "are_registers", .glo "instruction_fits", .glo "settle_fits", .glo "is_settle", .glo "cell_fits", .glo "is_code", .glo "need_code", .glo "need_hue", .glo "first_misfit", .glo "is_strike_list", .glo "need_strikes", .glo "need_inputs", .glo "need_steps", .glo "most_agreed", .glo "worked_out", .mkr "HueState", .meth "HueState" "instructed", .mkr "Machine", .meth "Machine" "registers", .meth "Machine" "cells", .meth "Machine" "go", .glo "machine_address", .glo "next_address", .glo "strikes_due", .glo "machine_step", .glo "point_all", .glo "empty_slots", .glo "settle_done", .glo "_law_begun", .glo "_law_mixed", .glo "_law_draw", .glo "_law_pick", .glo "_law_size", .glo "_law_inputs", .glo "_law_votes", .glo "HueState", .cls "HueState", .noat "HueState" "m_registers", .noat "HueState" "m_bank", .noat "HueState" "m_pointer", .noat "HueState" "m_slot", .noat "HueState" "m_changed", .glo "Machine", .cls "Machine", .noat "Machine" "m_code", .noat "Machine" "m_hues", .noat "Machine" "m_left", .noat "Machine" "m_strikes", .noat "Machine" "m_row", .noat "Machine" "m_steps", .noat "Machine" "m_state", .noat "Machine" "address", .free "abs", .free "bool", .free "enumerate", .free "int", .free "isinstance", .free "len", .free "list", .free "range", .free "str", .free "tuple", .int "LEAST_SIZE" 2, .int "MANY_REGISTERS" 8, .int "MOST_BANK" 600, .int "MOST_CELLS" 4000, .int "MOST_HUES" 5, .int "MOST_INPUT" 9999, .int "MOST_INPUTS" 400, .int "MOST_PORT" 5, .int "MOST_SIZE" 10000, .int "MOST_STRIKES" 400, .int "MOST_TRIES" 1000000, .glo "TWOS", .glo "law"]
def dLaw : DefX := ⟨fun K => He.fAd K ("law", none), "law", "law", defArgs s_law, defBody s_law, defScope s_law, []⟩
def fn : List DefX := [⟨fun K => He.fAd K ("_wall", none), "_wall", "_wall", defArgs s__wall, defBody s__wall, defScope s__wall, []⟩,
  ⟨fun K => He.fAd K ("is_whole", none), "is_whole", "is_whole", defArgs s_is_whole, defBody s_is_whole, defScope s_is_whole, []⟩,
  ⟨fun K => He.fAd K ("is_from", none), "is_from", "is_from", defArgs s_is_from, defBody s_is_from, defScope s_is_from, []⟩,
  ⟨fun K => He.fAd K ("are_inputs", none), "are_inputs", "are_inputs", defArgs s_are_inputs, defBody s_are_inputs, defScope s_are_inputs, []⟩,
  ⟨fun K => He.fAd K ("is_votes", none), "is_votes", "is_votes", defArgs s_is_votes, defBody s_is_votes, defScope s_is_votes, []⟩,
  ⟨fun K => He.fAd K ("are_registers", none), "are_registers", "are_registers", defArgs s_are_registers, defBody s_are_registers, defScope s_are_registers, []⟩,
  ⟨fun K => He.fAd K ("instruction_fits", none), "instruction_fits", "instruction_fits", defArgs s_instruction_fits, defBody s_instruction_fits, defScope s_instruction_fits, []⟩,
  ⟨fun K => He.fAd K ("settle_fits", none), "settle_fits", "settle_fits", defArgs s_settle_fits, defBody s_settle_fits, defScope s_settle_fits, []⟩,
  ⟨fun K => He.fAd K ("is_settle", none), "is_settle", "is_settle", defArgs s_is_settle, defBody s_is_settle, defScope s_is_settle, []⟩,
  ⟨fun K => He.fAd K ("cell_fits", none), "cell_fits", "cell_fits", defArgs s_cell_fits, defBody s_cell_fits, defScope s_cell_fits, []⟩,
  ⟨fun K => He.fAd K ("is_code", none), "is_code", "is_code", defArgs s_is_code, defBody s_is_code, defScope s_is_code, []⟩,
  ⟨fun K => He.fAd K ("need_code", none), "need_code", "need_code", defArgs s_need_code, defBody s_need_code, defScope s_need_code, []⟩,
  ⟨fun K => He.fAd K ("need_hue", none), "need_hue", "need_hue", defArgs s_need_hue, defBody s_need_hue, defScope s_need_hue, []⟩,
  ⟨fun K => He.fAd K ("first_misfit", none), "first_misfit", "first_misfit", defArgs s_first_misfit, defBody s_first_misfit, defScope s_first_misfit, []⟩,
  ⟨fun K => He.fAd K ("is_strike_list", none), "is_strike_list", "is_strike_list", defArgs s_is_strike_list, defBody s_is_strike_list, defScope s_is_strike_list, []⟩,
  ⟨fun K => He.fAd K ("need_strikes", none), "need_strikes", "need_strikes", defArgs s_need_strikes, defBody s_need_strikes, defScope s_need_strikes, []⟩,
  ⟨fun K => He.fAd K ("need_inputs", none), "need_inputs", "need_inputs", defArgs s_need_inputs, defBody s_need_inputs, defScope s_need_inputs, []⟩,
  ⟨fun K => He.fAd K ("need_steps", none), "need_steps", "need_steps", defArgs s_need_steps, defBody s_need_steps, defScope s_need_steps, []⟩,
  ⟨fun K => He.fAd K ("most_agreed", none), "most_agreed", "most_agreed", defArgs s_most_agreed, defBody s_most_agreed, defScope s_most_agreed, []⟩,
  ⟨fun K => He.fAd K ("worked_out", none), "worked_out", "worked_out", defArgs s_worked_out, defBody s_worked_out, defScope s_worked_out, []⟩,
  ⟨fun K => He.fAd K ("HueState", some "__init__"), "__init__", "HueState.__init__", defArgs s_HueState___init__, defBody s_HueState___init__, defScope s_HueState___init__, []⟩,
  ⟨fun K => He.fAd K ("HueState", some "instructed"), "instructed", "HueState.instructed", defArgs s_HueState_instructed, defBody s_HueState_instructed, defScope s_HueState_instructed, []⟩,
  ⟨fun K => He.fAd K ("Machine", some "__init__"), "__init__", "Machine.__init__", defArgs s_Machine___init__, defBody s_Machine___init__, defScope s_Machine___init__, [.adr (He.dflAt ("Machine", some "__init__") 0)]⟩,
  ⟨fun K => pgA K "Machine" "row", "row", "Machine.row", defArgs s_Machine_row, defBody s_Machine_row, defScope s_Machine_row, []⟩,
  ⟨fun K => pgA K "Machine" "state", "state", "Machine.state", defArgs s_Machine_state, defBody s_Machine_state, defScope s_Machine_state, []⟩,
  ⟨fun K => pgA K "Machine" "left", "left", "Machine.left", defArgs s_Machine_left, defBody s_Machine_left, defScope s_Machine_left, []⟩,
  ⟨fun K => pgA K "Machine" "slots", "slots", "Machine.slots", defArgs s_Machine_slots, defBody s_Machine_slots, defScope s_Machine_slots, []⟩,
  ⟨fun K => He.fAd K ("Machine", some "registers"), "registers", "Machine.registers", defArgs s_Machine_registers, defBody s_Machine_registers, defScope s_Machine_registers, []⟩,
  ⟨fun K => He.fAd K ("Machine", some "cells"), "cells", "Machine.cells", defArgs s_Machine_cells, defBody s_Machine_cells, defScope s_Machine_cells, []⟩,
  ⟨fun K => He.fAd K ("Machine", some "go"), "go", "Machine.go", defArgs s_Machine_go, defBody s_Machine_go, defScope s_Machine_go, []⟩,
  ⟨fun K => He.fAd K ("machine_address", none), "machine_address", "machine_address", defArgs s_machine_address, defBody s_machine_address, defScope s_machine_address, []⟩,
  ⟨fun K => He.fAd K ("next_address", none), "next_address", "next_address", defArgs s_next_address, defBody s_next_address, defScope s_next_address, []⟩,
  ⟨fun K => He.fAd K ("strikes_due", none), "strikes_due", "strikes_due", defArgs s_strikes_due, defBody s_strikes_due, defScope s_strikes_due, []⟩,
  ⟨fun K => He.fAd K ("machine_step", none), "machine_step", "machine_step", defArgs s_machine_step, defBody s_machine_step, defScope s_machine_step, []⟩,
  ⟨fun K => He.fAd K ("point_all", none), "point_all", "point_all", defArgs s_point_all, defBody s_point_all, defScope s_point_all, []⟩,
  ⟨fun K => He.fAd K ("empty_slots", none), "empty_slots", "empty_slots", defArgs s_empty_slots, defBody s_empty_slots, defScope s_empty_slots, []⟩,
  ⟨fun K => He.fAd K ("settle_done", none), "settle_done", "settle_done", defArgs s_settle_done, defBody s_settle_done, defScope s_settle_done, []⟩,
  ⟨fun K => He.fAd K ("_law_begun", none), "_law_begun", "_law_begun", defArgs s__law_begun, defBody s__law_begun, defScope s__law_begun, []⟩,
  ⟨fun K => He.fAd K ("_law_mixed", none), "_law_mixed", "_law_mixed", defArgs s__law_mixed, defBody s__law_mixed, defScope s__law_mixed, []⟩,
  ⟨fun K => He.fAd K ("_law_draw", none), "_law_draw", "_law_draw", defArgs s__law_draw, defBody s__law_draw, defScope s__law_draw, []⟩,
  ⟨fun K => He.fAd K ("_law_pick", none), "_law_pick", "_law_pick", defArgs s__law_pick, defBody s__law_pick, defScope s__law_pick, []⟩,
  ⟨fun K => He.fAd K ("_law_size", none), "_law_size", "_law_size", defArgs s__law_size, defBody s__law_size, defScope s__law_size, []⟩,
  ⟨fun K => He.fAd K ("_law_inputs", none), "_law_inputs", "_law_inputs", defArgs s__law_inputs, defBody s__law_inputs, defScope s__law_inputs, []⟩,
  ⟨fun K => He.fAd K ("_law_votes", none), "_law_votes", "_law_votes", defArgs s__law_votes, defBody s__law_votes, defScope s__law_votes, []⟩,
  dLaw]
def ex (K : Frag) : Bool := (prB K "Machine" "row") && (prB K "Machine" "state") && (prB K "Machine" "left") && (prB K "Machine" "slots") && (He.tupB K "TWOS" ([(PySem.Str.ofString "plus"), (PySem.Str.ofString "minus"), (PySem.Str.ofString "times"), (PySem.Str.ofString "rest"), (PySem.Str.ofString "less"), (PySem.Str.ofString "same")].map .str)) && (tup0B K (He.dflAt ("Machine", some "__init__") 0 K))
section
variable {K : Frag} {h : Heap} {mg : Str → Option Value}
theorem tx (X : K.In h) (G : h.Ns mainGlobals mg) (c : SaysX fa fn ex K) : TX K mg := by
  have m := c.more
  simp only [ex, Bool.and_eq_true] at m
  obtain ⟨⟨⟨⟨⟨EX0, EX1⟩, EX2⟩, EX3⟩, EX4⟩, EX5⟩ := m
  exact ⟨He.glo_ok X G (c.fact 0 (f := .glo "_wall") rfl),
    c.def_ 0 (d := fn.getD 0 ⟨fun _ => 0, "", "", defArgs s__wall, [], defScope s__wall, []⟩) rfl,
    He.glo_ok X G (c.fact 1 (f := .glo "is_whole") rfl),
    c.def_ 1 (d := fn.getD 1 ⟨fun _ => 0, "", "", defArgs s_is_whole, [], defScope s_is_whole, []⟩) rfl,
    He.glo_ok X G (c.fact 2 (f := .glo "is_from") rfl),
    c.def_ 2 (d := fn.getD 2 ⟨fun _ => 0, "", "", defArgs s_is_from, [], defScope s_is_from, []⟩) rfl,
    He.glo_ok X G (c.fact 3 (f := .glo "are_inputs") rfl),
    c.def_ 3 (d := fn.getD 3 ⟨fun _ => 0, "", "", defArgs s_are_inputs, [], defScope s_are_inputs, []⟩) rfl,
    He.glo_ok X G (c.fact 4 (f := .glo "is_votes") rfl),
    c.def_ 4 (d := fn.getD 4 ⟨fun _ => 0, "", "", defArgs s_is_votes, [], defScope s_is_votes, []⟩) rfl,
    He.glo_ok X G (c.fact 5 (f := .glo "are_registers") rfl),
    c.def_ 5 (d := fn.getD 5 ⟨fun _ => 0, "", "", defArgs s_are_registers, [], defScope s_are_registers, []⟩) rfl,
    He.glo_ok X G (c.fact 6 (f := .glo "instruction_fits") rfl),
    c.def_ 6 (d := fn.getD 6 ⟨fun _ => 0, "", "", defArgs s_instruction_fits, [], defScope s_instruction_fits, []⟩) rfl,
    He.glo_ok X G (c.fact 7 (f := .glo "settle_fits") rfl),
    c.def_ 7 (d := fn.getD 7 ⟨fun _ => 0, "", "", defArgs s_settle_fits, [], defScope s_settle_fits, []⟩) rfl,
    He.glo_ok X G (c.fact 8 (f := .glo "is_settle") rfl),
    c.def_ 8 (d := fn.getD 8 ⟨fun _ => 0, "", "", defArgs s_is_settle, [], defScope s_is_settle, []⟩) rfl,
    He.glo_ok X G (c.fact 9 (f := .glo "cell_fits") rfl),
    c.def_ 9 (d := fn.getD 9 ⟨fun _ => 0, "", "", defArgs s_cell_fits, [], defScope s_cell_fits, []⟩) rfl,
    He.glo_ok X G (c.fact 10 (f := .glo "is_code") rfl),
    c.def_ 10 (d := fn.getD 10 ⟨fun _ => 0, "", "", defArgs s_is_code, [], defScope s_is_code, []⟩) rfl,
    He.glo_ok X G (c.fact 11 (f := .glo "need_code") rfl),
    c.def_ 11 (d := fn.getD 11 ⟨fun _ => 0, "", "", defArgs s_need_code, [], defScope s_need_code, []⟩) rfl,
    He.glo_ok X G (c.fact 12 (f := .glo "need_hue") rfl),
    c.def_ 12 (d := fn.getD 12 ⟨fun _ => 0, "", "", defArgs s_need_hue, [], defScope s_need_hue, []⟩) rfl,
    He.glo_ok X G (c.fact 13 (f := .glo "first_misfit") rfl),
    c.def_ 13 (d := fn.getD 13 ⟨fun _ => 0, "", "", defArgs s_first_misfit, [], defScope s_first_misfit, []⟩) rfl,
    He.glo_ok X G (c.fact 14 (f := .glo "is_strike_list") rfl),
    c.def_ 14 (d := fn.getD 14 ⟨fun _ => 0, "", "", defArgs s_is_strike_list, [], defScope s_is_strike_list, []⟩) rfl,
    He.glo_ok X G (c.fact 15 (f := .glo "need_strikes") rfl),
    c.def_ 15 (d := fn.getD 15 ⟨fun _ => 0, "", "", defArgs s_need_strikes, [], defScope s_need_strikes, []⟩) rfl,
    He.glo_ok X G (c.fact 16 (f := .glo "need_inputs") rfl),
    c.def_ 16 (d := fn.getD 16 ⟨fun _ => 0, "", "", defArgs s_need_inputs, [], defScope s_need_inputs, []⟩) rfl,
    He.glo_ok X G (c.fact 17 (f := .glo "need_steps") rfl),
    c.def_ 17 (d := fn.getD 17 ⟨fun _ => 0, "", "", defArgs s_need_steps, [], defScope s_need_steps, []⟩) rfl,
    He.glo_ok X G (c.fact 18 (f := .glo "most_agreed") rfl),
    c.def_ 18 (d := fn.getD 18 ⟨fun _ => 0, "", "", defArgs s_most_agreed, [], defScope s_most_agreed, []⟩) rfl,
    He.glo_ok X G (c.fact 19 (f := .glo "worked_out") rfl),
    c.def_ 19 (d := fn.getD 19 ⟨fun _ => 0, "", "", defArgs s_worked_out, [], defScope s_worked_out, []⟩) rfl,
    c.def_ 20 (d := fn.getD 20 ⟨fun _ => 0, "", "", defArgs s_HueState___init__, [], defScope s_HueState___init__, []⟩) rfl,
    He.mkr_ok (c.fact 20 (f := .mkr "HueState") rfl),
    c.def_ 21 (d := fn.getD 21 ⟨fun _ => 0, "", "", defArgs s_HueState_instructed, [], defScope s_HueState_instructed, []⟩) rfl,
    He.meth_ok (c.fact 21 (f := .meth "HueState" "instructed") rfl),
    c.def_ 22 (d := fn.getD 22 ⟨fun _ => 0, "", "", defArgs s_Machine___init__, [], defScope s_Machine___init__, []⟩) rfl,
    He.mkr_ok (c.fact 22 (f := .mkr "Machine") rfl),
    c.def_ 23 (d := fn.getD 23 ⟨fun _ => 0, "", "", defArgs s_Machine_row, [], defScope s_Machine_row, []⟩) rfl,
    prB_ok EX0,
    c.def_ 24 (d := fn.getD 24 ⟨fun _ => 0, "", "", defArgs s_Machine_state, [], defScope s_Machine_state, []⟩) rfl,
    prB_ok EX1,
    c.def_ 25 (d := fn.getD 25 ⟨fun _ => 0, "", "", defArgs s_Machine_left, [], defScope s_Machine_left, []⟩) rfl,
    prB_ok EX2,
    c.def_ 26 (d := fn.getD 26 ⟨fun _ => 0, "", "", defArgs s_Machine_slots, [], defScope s_Machine_slots, []⟩) rfl,
    prB_ok EX3,
    c.def_ 27 (d := fn.getD 27 ⟨fun _ => 0, "", "", defArgs s_Machine_registers, [], defScope s_Machine_registers, []⟩) rfl,
    He.meth_ok (c.fact 23 (f := .meth "Machine" "registers") rfl),
    c.def_ 28 (d := fn.getD 28 ⟨fun _ => 0, "", "", defArgs s_Machine_cells, [], defScope s_Machine_cells, []⟩) rfl,
    He.meth_ok (c.fact 24 (f := .meth "Machine" "cells") rfl),
    c.def_ 29 (d := fn.getD 29 ⟨fun _ => 0, "", "", defArgs s_Machine_go, [], defScope s_Machine_go, []⟩) rfl,
    He.meth_ok (c.fact 25 (f := .meth "Machine" "go") rfl),
    He.glo_ok X G (c.fact 26 (f := .glo "machine_address") rfl),
    c.def_ 30 (d := fn.getD 30 ⟨fun _ => 0, "", "", defArgs s_machine_address, [], defScope s_machine_address, []⟩) rfl,
    He.glo_ok X G (c.fact 27 (f := .glo "next_address") rfl),
    c.def_ 31 (d := fn.getD 31 ⟨fun _ => 0, "", "", defArgs s_next_address, [], defScope s_next_address, []⟩) rfl,
    He.glo_ok X G (c.fact 28 (f := .glo "strikes_due") rfl),
    c.def_ 32 (d := fn.getD 32 ⟨fun _ => 0, "", "", defArgs s_strikes_due, [], defScope s_strikes_due, []⟩) rfl,
    He.glo_ok X G (c.fact 29 (f := .glo "machine_step") rfl),
    c.def_ 33 (d := fn.getD 33 ⟨fun _ => 0, "", "", defArgs s_machine_step, [], defScope s_machine_step, []⟩) rfl,
    He.glo_ok X G (c.fact 30 (f := .glo "point_all") rfl),
    c.def_ 34 (d := fn.getD 34 ⟨fun _ => 0, "", "", defArgs s_point_all, [], defScope s_point_all, []⟩) rfl,
    He.glo_ok X G (c.fact 31 (f := .glo "empty_slots") rfl),
    c.def_ 35 (d := fn.getD 35 ⟨fun _ => 0, "", "", defArgs s_empty_slots, [], defScope s_empty_slots, []⟩) rfl,
    He.glo_ok X G (c.fact 32 (f := .glo "settle_done") rfl),
    c.def_ 36 (d := fn.getD 36 ⟨fun _ => 0, "", "", defArgs s_settle_done, [], defScope s_settle_done, []⟩) rfl,
    He.glo_ok X G (c.fact 33 (f := .glo "_law_begun") rfl),
    c.def_ 37 (d := fn.getD 37 ⟨fun _ => 0, "", "", defArgs s__law_begun, [], defScope s__law_begun, []⟩) rfl,
    He.glo_ok X G (c.fact 34 (f := .glo "_law_mixed") rfl),
    c.def_ 38 (d := fn.getD 38 ⟨fun _ => 0, "", "", defArgs s__law_mixed, [], defScope s__law_mixed, []⟩) rfl,
    He.glo_ok X G (c.fact 35 (f := .glo "_law_draw") rfl),
    c.def_ 39 (d := fn.getD 39 ⟨fun _ => 0, "", "", defArgs s__law_draw, [], defScope s__law_draw, []⟩) rfl,
    He.glo_ok X G (c.fact 36 (f := .glo "_law_pick") rfl),
    c.def_ 40 (d := fn.getD 40 ⟨fun _ => 0, "", "", defArgs s__law_pick, [], defScope s__law_pick, []⟩) rfl,
    He.glo_ok X G (c.fact 37 (f := .glo "_law_size") rfl),
    c.def_ 41 (d := fn.getD 41 ⟨fun _ => 0, "", "", defArgs s__law_size, [], defScope s__law_size, []⟩) rfl,
    He.glo_ok X G (c.fact 38 (f := .glo "_law_inputs") rfl),
    c.def_ 42 (d := fn.getD 42 ⟨fun _ => 0, "", "", defArgs s__law_inputs, [], defScope s__law_inputs, []⟩) rfl,
    He.glo_ok X G (c.fact 39 (f := .glo "_law_votes") rfl),
    c.def_ 43 (d := fn.getD 43 ⟨fun _ => 0, "", "", defArgs s__law_votes, [], defScope s__law_votes, []⟩) rfl,
    He.glo_ok X G (c.fact 40 (f := .glo "HueState") rfl),
    He.cls_ok (c.fact 41 (f := .cls "HueState") rfl),
    He.noat_ok (c.fact 42 (f := .noat "HueState" "m_registers") rfl),
    He.noat_ok (c.fact 43 (f := .noat "HueState" "m_bank") rfl),
    He.noat_ok (c.fact 44 (f := .noat "HueState" "m_pointer") rfl),
    He.noat_ok (c.fact 45 (f := .noat "HueState" "m_slot") rfl),
    He.noat_ok (c.fact 46 (f := .noat "HueState" "m_changed") rfl),
    He.glo_ok X G (c.fact 47 (f := .glo "Machine") rfl),
    He.cls_ok (c.fact 48 (f := .cls "Machine") rfl),
    He.noat_ok (c.fact 49 (f := .noat "Machine" "m_code") rfl),
    He.noat_ok (c.fact 50 (f := .noat "Machine" "m_hues") rfl),
    He.noat_ok (c.fact 51 (f := .noat "Machine" "m_left") rfl),
    He.noat_ok (c.fact 52 (f := .noat "Machine" "m_strikes") rfl),
    He.noat_ok (c.fact 53 (f := .noat "Machine" "m_row") rfl),
    He.noat_ok (c.fact 54 (f := .noat "Machine" "m_steps") rfl),
    He.noat_ok (c.fact 55 (f := .noat "Machine" "m_state") rfl),
    He.noat_ok (c.fact 56 (f := .noat "Machine" "address") rfl),
    He.free_ok X G (c.fact 57 (f := .free "abs") rfl),
    He.free_ok X G (c.fact 58 (f := .free "bool") rfl),
    He.free_ok X G (c.fact 59 (f := .free "enumerate") rfl),
    He.free_ok X G (c.fact 60 (f := .free "int") rfl),
    He.free_ok X G (c.fact 61 (f := .free "isinstance") rfl),
    He.free_ok X G (c.fact 62 (f := .free "len") rfl),
    He.free_ok X G (c.fact 63 (f := .free "list") rfl),
    He.free_ok X G (c.fact 64 (f := .free "range") rfl),
    He.free_ok X G (c.fact 65 (f := .free "str") rfl),
    He.free_ok X G (c.fact 66 (f := .free "tuple") rfl),
    ⟨_, He.glo_ok X G (c.fact 40 (f := .glo "HueState") rfl), rfl⟩,
    (let ⟨t, h⟩ := He.int_ok X G (c.fact 67 (f := .int "LEAST_SIZE" 2) rfl); ⟨_, h, ⟨t, rfl⟩⟩),
    (let ⟨t, h⟩ := He.int_ok X G (c.fact 68 (f := .int "MANY_REGISTERS" 8) rfl); ⟨_, h, ⟨t, rfl⟩⟩),
    (let ⟨t, h⟩ := He.int_ok X G (c.fact 69 (f := .int "MOST_BANK" 600) rfl); ⟨_, h, ⟨t, rfl⟩⟩),
    (let ⟨t, h⟩ := He.int_ok X G (c.fact 70 (f := .int "MOST_CELLS" 4000) rfl); ⟨_, h, ⟨t, rfl⟩⟩),
    (let ⟨t, h⟩ := He.int_ok X G (c.fact 71 (f := .int "MOST_HUES" 5) rfl); ⟨_, h, ⟨t, rfl⟩⟩),
    (let ⟨t, h⟩ := He.int_ok X G (c.fact 72 (f := .int "MOST_INPUT" 9999) rfl); ⟨_, h, ⟨t, rfl⟩⟩),
    (let ⟨t, h⟩ := He.int_ok X G (c.fact 73 (f := .int "MOST_INPUTS" 400) rfl); ⟨_, h, ⟨t, rfl⟩⟩),
    (let ⟨t, h⟩ := He.int_ok X G (c.fact 74 (f := .int "MOST_PORT" 5) rfl); ⟨_, h, ⟨t, rfl⟩⟩),
    (let ⟨t, h⟩ := He.int_ok X G (c.fact 75 (f := .int "MOST_SIZE" 10000) rfl); ⟨_, h, ⟨t, rfl⟩⟩),
    (let ⟨t, h⟩ := He.int_ok X G (c.fact 76 (f := .int "MOST_STRIKES" 400) rfl); ⟨_, h, ⟨t, rfl⟩⟩),
    (let ⟨t, h⟩ := He.int_ok X G (c.fact 77 (f := .int "MOST_TRIES" 1000000) rfl); ⟨_, h, ⟨t, rfl⟩⟩),
    ⟨_, He.glo_ok X G (c.fact 47 (f := .glo "Machine") rfl), rfl⟩,
    tupS_ok EX4,
    ⟨_, He.glo_ok X G (c.fact 78 (f := .glo "TWOS") rfl), rfl⟩,
    tup0B_ok EX5⟩
end
abbrev Rr : PySem.W.OpenRow := PySem.W.OpenLaw.row PySem.Challenge.rw_hueward_k14_takes_for_all_hues
abbrev hk : PySem.W.Hook := hookX 6 fa fn ex
def ob (s : PySem.W.SharedT) : AlX := obsXG 6 fa fn ex (HandSHeadRun.getT s)
theorem ob_eq (s : PySem.W.SharedT) : ob s = hk.obs s.abs := obsXG_eq (HandSHeadRun.getT_eq s)
abbrev loose : List Str := (["_wall", "HueError", "BadInputs", "BadCode", "BadSteps", "BadHue", "BadPlace", "BadNew", "BadStrikes", "TWOS", "LEAST_SIZE", "MOST_SIZE", "MOST_PORT", "MOST_INPUTS", "MOST_INPUT", "is_whole", "is_from", "are_inputs", "MOST_HUES", "MOST_BANK", "MOST_CELLS", "MANY_REGISTERS", "MOST_STRIKES", "MOST_STEPS", "MOST_POINTER", "is_votes", "are_registers", "instruction_fits", "settle_fits", "is_settle"] : List Str) ++ (["cell_fits", "is_code", "need_code", "need_hue", "place_fits", "new_fits", "strike_fits", "first_misfit", "is_strike_list", "need_strikes", "MOST_TRIES", "need_inputs", "need_steps", "most_agreed", "worked_out", "HueState", "Machine", "machine_address", "next_address", "strikes_due", "machine_step", "point_all", "empty_slots", "settle_done", "mark_done", "_law_begun", "_law_mixed", "_law_draw", "_law_pick", "_law_size"] : List Str) ++ (["_law_inputs", "_law_votes"] : List Str)
theorem run (w : World) : HandSHeadRun.RunEq Rr (PySem.W.view Rr.prog [68]) hk ob 20000 loose w := by
  intro os
  kernel_rfl
end Hw
namespace Hw
open PySem PySem.Spec PyProof.Rows L2 Dl
theorem ok_law {P : Program} {w : World} {K : Frag} {mg : Str → Option Value} {base : Heap} {f : Addr} {fd : FuncData} (T : TX K mg) (F : FunD K "law" "law" (defArgs s_law) (defBody s_law) (defScope s_law) [] [] f fd) (C__law_begun : Callee P w K mg base "_law_begun" 1 ["_law_script"] (spOf K (F__law_begun K))) (C__law_inputs : Callee P w K mg base "_law_inputs" 4 ["_law_state"] (spOf K (F__law_inputs K))) (C__law_size : Callee P w K mg base "_law_size" 4 ["_law_state"] (spOf K (F__law_size K))) (C__law_votes : Callee P w K mg base "_law_votes" 4 ["_law_state"] (spOf K (F__law_votes K))) (C__law_pick : Callee P w K mg base "_law_pick" 3 ["_law_state", "_law_some"] (spOf K (F__law_pick K))) (C__law_draw : Callee P w K mg base "_law_draw" 2 ["_law_state", "_law_room"] (spOf K (F__law_draw K))) (C_Machine___init__ : CalleeJ P w K mg base "Machine" (He.ga K "Machine") 8 ["self", "code", "inputs", "strikes"] (dv_Machine K) (spOf K (F_Machine___init__ K))) (C_Machine_go : CalleeM P w K mg base (He.ga K "Machine") "go" 4 ["self", "steps"] (spOf K (F_Machine_go K))) (C_Machine_slots : CalleeP P w K mg base (He.ga K "Machine") "slots" 1 ["self"] (spOf K (F_Machine_slots K))) (C_Machine_left : CalleeP P w K mg base (He.ga K "Machine") "left" 1 ["self"] (spOf K (F_Machine_left K))) (C_Machine_row : CalleeP P w K mg base (He.ga K "Machine") "row" 1 ["self"] (spOf K (F_Machine_row K))) (C_Machine_cells : CalleeM P w K mg base (He.ga K "Machine") "cells" 4 ["self", "hue"] (spOf K (F_Machine_cells K))) (C_Machine_registers : CalleeM P w K mg base (He.ga K "Machine") "registers" 4 ["self", "hue"] (spOf K (F_Machine_registers K))) (C_Machine_state : CalleeP P w K mg base (He.ga K "Machine") "state" 1 ["self"] (spOf K (F_Machine_state K))) : FnOk P w K mg base CX0 10 f fd ["_law_script"] (spOf K (F_law K)) := by
  refine fn_mk F sc_law n_law (t_law K) (b_law T) ?_
  intro cdv A outer s H E hr
  exact (pss_cons (ps_set (i := 1) sc_law.nd rfl (by first | exact Or.inl rfl | exact Or.inr rfl) (pe_u C__law_begun hr (by decide) (by rfl) (pa_cons (pv 0) pa_nil))) (pss_cons (ps_for PassesOwn.never (by rfl) (pi_range1 (by rfl) T.n_range (pa_cons (pe_int) pa_nil)) (pg_name (i := 2) sc_law.nd rfl (by first | exact Or.inl rfl | exact Or.inr rfl)) (pss_cons (ps_par3 (i := 7) (j := 8) (l := 9) (by rfl) sc_law.nd rfl rfl rfl (by decide) (by decide) (by decide) rfl rfl rfl (pa_cons (pe_u C__law_votes hr (by decide) (by rfl) (pa_cons (pv 1) pa_nil)) (pa_cons (pe_u C__law_size hr (by decide) (by rfl) (pa_cons (pv 1) pa_nil)) (pa_cons (pe_u C__law_inputs hr (by decide) (by rfl) (pa_cons (pv 1) pa_nil)) pa_nil))) (by rfl)) (pss_cons (ps_par (i := 10) (j := 11) (by rfl) sc_law.nd rfl rfl (by decide) rfl rfl (pa_cons (pe_callB call_len (by rfl) T.n_len (by decide +kernel) (pa_cons (pv 7) pa_nil)) (pa_cons (pe_lst pa_nil) pa_nil)) (by rfl)) (pss_cons (ps_for PassesOwn.never (by rfl) (pi_range1 (by rfl) T.n_range (pa_cons (pe_u C__law_pick hr (by decide) (by rfl) (pa_cons (pv 1) (pa_cons (pe_lst (pa_cons (pe_int) (pa_cons (pe_int) (pa_cons (pe_int) (pa_cons (pe_int) pa_nil))))) pa_nil))) pa_nil)) (pg_name (i := 3) sc_law.nd rfl (by first | exact Or.inl rfl | exact Or.inr rfl)) (pss_one (ps_expr (pe_bm PySem.F.plainAttrs_list PySem.F.slot_list_append PySem.F.type_list_append mt_append (pv 11) (pa_cons (pe_tup (pa_cons (pe_str) (pa_cons (pe_u C__law_draw hr (by decide) (by rfl) (pa_cons (pv 1) (pa_cons (pe_int) pa_nil))) (pa_cons (pe_op opAdd (pe_int) (pe_u C__law_draw hr (by decide) (by rfl) (pa_cons (pv 1) (pa_cons (pv 10) pa_nil)))) pa_nil)))) pa_nil))))) (pss_cons (ps_set (i := 4) sc_law.nd rfl (by first | exact Or.inl rfl | exact Or.inr rfl) (pe_callTy cTuple (by rfl) T.n_tuple (by decide +kernel) (pa_cons (pe_lc (own := [("_law_hue", 17)]) (g := gName 17) (tt := (tTest (tOp (uEq K) (tCallR 1 (spOf K (F__law_draw K)) E0 (tCons (tVar 1) (tCons (tC (.int 2)) tNil))) (tC (.int 0))))) (by rfl) sc_law.nd (pi_range1 (by rfl) T.n_range (pa_cons (pv 10) pa_nil)) (blkOk_by (own := [("_law_hue", 17)]) (N := ["_law_script", "_law_state", "_law_turn", "_law_spot", "_law_filled", "_law_code", "_law_machine", "_law_votes_here", "_law_size_here", "_law_inputs_here", "_law_hues", "_law_takes", "_law_slots", "_law_due", "_law_row", "_law_take", "_law_number", "_law_hue", "_law_registers"]) (sc := defScope s_law) (by decide +kernel)) (fun _ _ _ _ _ => pg_name (i := 17) sc_law.nd rfl (by first | exact Or.inl rfl | exact Or.inr rfl)) (fun _ _ _ _ _ => (pts_one (pt_cmpR (opEq hr) (pe_u C__law_draw hr (by decide) (by rfl) (pa_cons (pv 1) (pa_cons (pe_int) pa_nil))) (pe_int) (nomark _)))) (fun _ _ _ _ _ => (pe_tup (pa_cons (pv 17) (pa_cons (pe_str) (pa_cons (pe_int) pa_nil)))))) pa_nil))) (pss_cons (ps_set (i := 5) sc_law.nd rfl (by first | exact Or.inl rfl | exact Or.inr rfl) (pe_tup (pa_cons (pv 7) (pa_cons (pv 8) (pa_cons (pe_op opAdd (pe_op opAdd (pv 4) (pe_callTy cTuple (by rfl) T.n_tuple (by decide +kernel) (pa_cons (pv 11) pa_nil))) (pe_tup (pa_cons (pe_tup (pa_cons (pe_str) pa_nil)) pa_nil))) (pa_cons (pe_tup (pa_cons (pe_int) pa_nil)) pa_nil)))))) (pss_cons (ps_set (i := 6) sc_law.nd rfl (by first | exact Or.inl rfl | exact Or.inr rfl) (pe_mkj C_Machine___init__ hr (by decide) (by rfl) (pa_cons (pv 5) (pa_cons (pe_callTy cTuple (by rfl) T.n_tuple (by decide +kernel) (pa_cons (pv 9) pa_nil)) pa_nil)))) (pss_cons (ps_expr (pe_um (pv 6) T.k_Machine C_Machine_go hr (by decide) (pa_cons (pe_callB call_len (by rfl) T.n_len (by decide +kernel) (pa_cons (pv 4) pa_nil)) pa_nil))) (pss_cons (ps_par3 (i := 12) (j := 13) (l := 14) (by rfl) sc_law.nd rfl rfl rfl (by decide) (by decide) (by decide) rfl rfl rfl (pa_cons (pe_up (pv 6) T.k_Machine C_Machine_slots hr (by decide) rfl) (pa_cons (pe_lc (own := [("_law_hue", 17)]) (g := gName 17) (tt := tYes) (by rfl) sc_law.nd (pi_sq (pv 7)) (blkOk_by (own := [("_law_hue", 17)]) (N := ["_law_script", "_law_state", "_law_turn", "_law_spot", "_law_filled", "_law_code", "_law_machine", "_law_votes_here", "_law_size_here", "_law_inputs_here", "_law_hues", "_law_takes", "_law_slots", "_law_due", "_law_row", "_law_take", "_law_number", "_law_hue", "_law_registers"]) (sc := defScope s_law) (by decide +kernel)) (fun _ _ _ _ _ => pg_name (i := 17) sc_law.nd rfl (by first | exact Or.inl rfl | exact Or.inr rfl)) (fun _ _ _ _ _ => pts_nil) (fun _ _ _ _ _ => (pe_op opMul (pe_lst (pa_cons (pe_int) pa_nil)) (pe_int)))) (pa_cons (pe_lst pa_nil) pa_nil))) (by rfl)) (pss_cons (ps_for PassesOwn.never (by rfl) (pi_enumU (by rfl) T.n_enumerate (pa_cons (pv 11) pa_nil)) (pg_tup (by rfl) (pgs_cons (pg_name (i := 3) sc_law.nd rfl (by first | exact Or.inl rfl | exact Or.inr rfl)) (pgs_cons (pg_name (i := 15) sc_law.nd rfl (by first | exact Or.inl rfl | exact Or.inr rfl)) pgs_nil))) (pss_cons (ps_set (i := 16) sc_law.nd rfl (by first | exact Or.inl rfl | exact Or.inr rfl) (pe_ifExp (pt_cmpR (opLt hr) (pv 3) (pe_callB call_len (by rfl) T.n_len (by decide +kernel) (pa_cons (pv 9) pa_nil)) (nomark _)) (pe_ix ixU (pv 9) (pv 3) (fun _ _ => rfl)) (pe_int))) (pss_cons (ps_set (i := 16) sc_law.nd rfl (by first | exact Or.inl rfl | exact Or.inr rfl) (pe_op opSub (pv 16) (pe_op opMul (pe_op opFDiv (pv 16) (pv 8)) (pv 8)))) (pss_cons (ps_expr (pe_bm PySem.F.plainAttrs_list PySem.F.slot_list_append PySem.F.type_list_append mt_append (pv 14) (pa_cons (pe_tup (pa_cons (pe_str) (pa_cons (pv 16) pa_nil))) pa_nil))) (pss_cons (ps_for PassesOwn.never (by rfl) (pi_range1 (by rfl) T.n_range (pa_cons (pe_ix ixU (pv 15) (pe_int) (fun _ _ => rfl)) pa_nil)) (pg_name (i := 17) sc_law.nd rfl (by first | exact Or.inl rfl | exact Or.inr rfl)) (pss_cons (ps_set (i := 18) sc_law.nd rfl (by first | exact Or.inl rfl | exact Or.inr rfl) (pe_ix ixU (pv 13) (pv 17) (fun _ _ => rfl))) (pss_one (ps_asg (pv 16) (pg_sub (pv 18) (pe_ix ixU (pv 15) (pe_int) (fun _ _ => rfl)) set_list))))) (pss_cons (ps_expr (pe_um (pv 6) T.k_Machine C_Machine_go hr (by decide) (pa_cons (pe_int) pa_nil))) (pss_cons (ps_if (PW.pt (pw_or (pt_cmpR (opNe hr) (pe_up (pv 6) T.k_Machine C_Machine_row hr (by decide) rfl) (pv 14) (nomark _)) (pw_or (pt_cmpR (opNe hr) (pe_up (pv 6) T.k_Machine C_Machine_slots hr (by decide) rfl) (pv 12) (nomark _)) (pw_or1 (pt_cmpR (opNe hr) (pe_up (pv 6) T.k_Machine C_Machine_left hr (by decide) rfl) (pe_slice slU (pv 9) (po_some (pe_op opAdd (pv 3) (pe_int))) po_none) (nomark _)))))) (pss_one (ps_ret (pe_bl))) pss_nil) (pss_one (ps_for PassesOwn.never (by rfl) (pi_range1 (by rfl) T.n_range (pa_cons (pv 10) pa_nil)) (pg_name (i := 17) sc_law.nd rfl (by first | exact Or.inl rfl | exact Or.inr rfl)) (pss_one (ps_if (PW.pt (pw_or (pt_cmpR (opNe hr) (pe_um (pv 6) T.k_Machine C_Machine_registers hr (by decide) (pa_cons (pv 17) pa_nil)) (pe_callTy cTuple (by rfl) T.n_tuple (by decide +kernel) (pa_cons (pe_ix ixU (pv 13) (pv 17) (fun _ _ => rfl)) pa_nil)) (nomark _)) (pw_or1 (pt_cmpR (opNe hr) (pe_um (pv 6) T.k_Machine C_Machine_cells hr (by decide) (pa_cons (pv 17) pa_nil)) (pe_tup (pa_cons (pe_int) pa_nil)) (nomark _))))) (pss_one (ps_ret (pe_bl))) pss_nil))))))))))) (pss_cons (ps_expr (pe_um (pv 6) T.k_Machine C_Machine_go hr (by decide) (pa_cons (pe_int) pa_nil))) (pss_one (ps_if (PW.pt (pw_or (pt_cmpR (opNe hr) (pe_up (pv 6) T.k_Machine C_Machine_row hr (by decide) rfl) (pe_op opAdd (pv 14) (pe_lst (pa_cons (pe_tup (pa_cons (pe_str) pa_nil)) pa_nil))) (nomark _)) (pw_or (pt_cmpR (opNe hr) (pe_up (pv 6) T.k_Machine C_Machine_state hr (by decide) rfl) (pe_str) (nomark _)) (pw_or1 (pt_cmpR (opNe hr) (pe_up (pv 6) T.k_Machine C_Machine_slots hr (by decide) rfl) (pv 12) (nomark _)))))) (pss_one (ps_ret (pe_bl))) pss_nil))))))))))))) (pss_one (ps_ret (pe_bl)))))
theorem facts {P : Program} {w : World} {K : Frag} {h : Heap} {mg : Str → Option Value} {f : Addr} (X : K.In h) (G : h.Ns mainGlobals mg) (hfa : mg ("law" : Str) = some (.ref f)) (c : SaysX fa fn ex K) :
    ∃ fd : FuncData, (∀ (s : Shared) (v : Value), BindsTo s fd ⟨[v], []⟩ [("_law_script", v)]) ∧ ∀ base : Heap, K.In base → base.Ns mainGlobals mg → FnOk P w K mg base CX0 10 f fd ["_law_script"] (spOf K (F_law K)) := by
  have T : TX K mg := tx X G c
  obtain ⟨fd, F⟩ := c.def_ 44 (d := dLaw) rfl
  have e := hfa.symm.trans (He.glo_ok X G (c.fact 79 (f := .glo "law") rfl))
  cases e
  have b := FunD.bindsA (ps := ["_law_script"]) F fun _ _ _ _ _ _ us hl => match us, hl with | [_], _ => rfl
  refine ⟨fd, fun s v => b s [v] rfl, fun base _ _ => ?_⟩
  have C__law_begun : Callee P w K mg base "_law_begun" 1 ["_law_script"] (spOf K (F__law_begun K)) := ok__law_begun T 
  have C__law_mixed : Callee P w K mg base "_law_mixed" 1 ["_law_state"] (spOf K (F__law_mixed K)) := ok__law_mixed T 
  have C__law_draw : Callee P w K mg base "_law_draw" 2 ["_law_state", "_law_room"] (spOf K (F__law_draw K)) := ok__law_draw T C__law_mixed
  have C__law_pick : Callee P w K mg base "_law_pick" 3 ["_law_state", "_law_some"] (spOf K (F__law_pick K)) := ok__law_pick T C__law_draw
  have C__law_inputs : Callee P w K mg base "_law_inputs" 4 ["_law_state"] (spOf K (F__law_inputs K)) := ok__law_inputs T C__law_pick
  have C__law_size : Callee P w K mg base "_law_size" 4 ["_law_state"] (spOf K (F__law_size K)) := ok__law_size T C__law_pick
  have C__law_votes : Callee P w K mg base "_law_votes" 4 ["_law_state"] (spOf K (F__law_votes K)) := ok__law_votes T C__law_pick C__law_draw
  have C_is_whole : Callee P w K mg base "is_whole" 1 ["value"] (spOf K (F_is_whole K)) := ok_is_whole T 
  have C_is_votes : Callee P w K mg base "is_votes" 2 ["value"] (spOf K (F_is_votes K)) := ok_is_votes T C_is_whole
  have C_is_from : Callee P w K mg base "is_from" 2 ["value", "low", "high"] (spOf K (F_is_from K)) := ok_is_from T C_is_whole
  have C_are_registers : Callee P w K mg base "are_registers" 3 ["values"] (spOf K (F_are_registers K)) := ok_are_registers T C_is_from
  have C_instruction_fits : Callee P w K mg base "instruction_fits" 4 ["value", "hue", "size", "many"] (spOf K (F_instruction_fits K)) := ok_instruction_fits T C_is_from C_are_registers
  have C_settle_fits : Callee P w K mg base "settle_fits" 3 ["value", "hues", "many"] (spOf K (F_settle_fits K)) := ok_settle_fits T C_is_from
  have C_cell_fits : Callee P w K mg base "cell_fits" 5 ["value", "hues", "size", "many", "bank"] (spOf K (F_cell_fits K)) := ok_cell_fits T C_is_from C_instruction_fits C_settle_fits
  have C_is_code : Callee P w K mg base "is_code" 6 ["value"] (spOf K (F_is_code K)) := ok_is_code T C_is_votes C_is_from C_cell_fits
  have C_need_code : Callee P w K mg base "need_code" 7 ["code"] (spOf K (F_need_code K)) := ok_need_code T C_is_code
  have C_are_inputs : Callee P w K mg base "are_inputs" 3 ["value"] (spOf K (F_are_inputs K)) := ok_are_inputs T C_is_from
  have C_need_inputs : Callee P w K mg base "need_inputs" 4 ["inputs"] (spOf K (F_need_inputs K)) := ok_need_inputs T C_are_inputs
  have C_is_strike_list : Callee P w K mg base "is_strike_list" 1 ["value"] (spOf K (F_is_strike_list K)) := ok_is_strike_list T 
  have C_first_misfit : Callee P w K mg base "first_misfit" 1 ["code", "strikes"] (spOf K (F_first_misfit K)) := ok_first_misfit T 
  have C_need_strikes : Callee P w K mg base "need_strikes" 2 ["code", "strikes"] (spOf K (F_need_strikes K)) := ok_need_strikes T C_is_strike_list C_first_misfit
  have C_HueState___init__ : CalleeJ P w K mg base "HueState" (He.ga K "HueState") 1 ["self", "bank"] (dv_HueState K) (spOf K (F_HueState___init__ K)) := ok_HueState___init__ T 
  have C_Machine___init__ : CalleeJ P w K mg base "Machine" (He.ga K "Machine") 8 ["self", "code", "inputs", "strikes"] (dv_Machine K) (spOf K (F_Machine___init__ K)) := ok_Machine___init__ T C_need_code C_need_inputs C_need_strikes C_HueState___init__
  have C_need_steps : Callee P w K mg base "need_steps" 3 ["steps"] (spOf K (F_need_steps K)) := ok_need_steps T C_is_from
  have C_strikes_due : Callee P w K mg base "strikes_due" 1 ["machine"] (spOf K (F_strikes_due K)) := ok_strikes_due T 
  have C_most_agreed : Callee P w K mg base "most_agreed" 1 ["values", "need"] (spOf K (F_most_agreed K)) := ok_most_agreed T 
  have C_machine_address : Callee P w K mg base "machine_address" 2 ["machine"] (spOf K (F_machine_address K)) := ok_machine_address T C_most_agreed
  have C_is_settle : Callee P w K mg base "is_settle" 1 ["cell"] (spOf K (F_is_settle K)) := ok_is_settle T 
  have C_point_all : Callee P w K mg base "point_all" 1 ["machine", "address"] (spOf K (F_point_all K)) := ok_point_all T 
  have C_empty_slots : Callee P w K mg base "empty_slots" 1 ["machine"] (spOf K (F_empty_slots K)) := ok_empty_slots T 
  have C_settle_done : Callee P w K mg base "settle_done" 2 ["machine", "cell", "behind"] (spOf K (F_settle_done K)) := ok_settle_done T C_most_agreed C_point_all C_empty_slots
  have C_worked_out : Callee P w K mg base "worked_out" 1 ["word", "one", "other", "size"] (spOf K (F_worked_out K)) := ok_worked_out T 
  have C_HueState_instructed : CalleeM P w K mg base (He.ga K "HueState") "instructed" 2 ["self", "cell", "size"] (spOf K (F_HueState_instructed K)) := ok_HueState_instructed T C_worked_out
  have C_machine_step : Callee P w K mg base "machine_step" 3 ["machine"] (spOf K (F_machine_step K)) := ok_machine_step T C_machine_address C_is_settle C_settle_done C_point_all C_HueState_instructed
  have C_next_address : Callee P w K mg base "next_address" 3 ["machine"] (spOf K (F_next_address K)) := ok_next_address T C_machine_address
  have C_Machine_go : CalleeM P w K mg base (He.ga K "Machine") "go" 4 ["self", "steps"] (spOf K (F_Machine_go K)) := ok_Machine_go T C_need_steps C_strikes_due C_machine_step C_next_address
  have C_Machine_slots : CalleeP P w K mg base (He.ga K "Machine") "slots" 1 ["self"] (spOf K (F_Machine_slots K)) := ok_Machine_slots T 
  have C_Machine_left : CalleeP P w K mg base (He.ga K "Machine") "left" 1 ["self"] (spOf K (F_Machine_left K)) := ok_Machine_left T 
  have C_Machine_row : CalleeP P w K mg base (He.ga K "Machine") "row" 1 ["self"] (spOf K (F_Machine_row K)) := ok_Machine_row T 
  have C_need_hue : Callee P w K mg base "need_hue" 3 ["code", "hue"] (spOf K (F_need_hue K)) := ok_need_hue T C_is_from
  have C_Machine_cells : CalleeM P w K mg base (He.ga K "Machine") "cells" 4 ["self", "hue"] (spOf K (F_Machine_cells K)) := ok_Machine_cells T C_need_hue
  have C_Machine_registers : CalleeM P w K mg base (He.ga K "Machine") "registers" 4 ["self", "hue"] (spOf K (F_Machine_registers K)) := ok_Machine_registers T C_need_hue
  have C_Machine_state : CalleeP P w K mg base (He.ga K "Machine") "state" 1 ["self"] (spOf K (F_Machine_state K)) := ok_Machine_state T 
  exact ok_law T F C__law_begun C__law_inputs C__law_size C__law_votes C__law_pick C__law_draw C_Machine___init__ C_Machine_go C_Machine_slots C_Machine_left C_Machine_row C_Machine_cells C_Machine_registers C_Machine_state
end Hw
open PySem PySem.W PySem.Calls PyProof.Rows
theorem PySem.Challenge.cw_hueward_k14_takes_for_all_hues_holds : PySem.Challenge.rw_hueward_k14_takes_for_all_hues.Holds := by
  w_on; o_law
  refine HandSHeadRun.head_any (r := OpenLaw.row PySem.Challenge.rw_hueward_k14_takes_for_all_hues) (q := view (OpenLaw.row PySem.Challenge.rw_hueward_k14_takes_for_all_hues).prog [68]) (H := Hw.hk) (ob := Hw.ob) (M := 20000) (loose := Hw.loose) (d := HandSHeadRun.topDef (OpenLaw.row PySem.Challenge.rw_hueward_k14_takes_for_all_hues).prog 68) (kwd := []) Hw.ob_eq
    (by kernel_rfl) (fun s => by kernel_rfl) Hw.run (by kernel_rfl) (by kernel_rfl) (by kernel_rfl) (by rfl) (by first | assumption | decide +kernel) (by decide +kernel) ⟨rfl, rfl, rfl, rfl, rfl, by decide +kernel⟩ ?hw ?hc
  case hw => w_witness2
  case hc =>
    refine L2.walk_ofE (l := PySem.Challenge.rw_hueward_k14_takes_for_all_hues) (n := 63) (k := 10) (x := "_law_script") (CX := L2.CX0) rfl (by decide) (by kernel_rfl) ⟨rfl, by decide, by decide⟩ ?F (fun _ _ _ _ z => z)
    intro w mg fa h Y G hmg0
    obtain ⟨K, KX, c⟩ := Y
    have hmg : mg ("law" : PySem.Str) = some (.ref fa) := by
      have e : (HandSHeadRun.topDef (OpenLaw.row PySem.Challenge.rw_hueward_k14_takes_for_all_hues).prog 68).name = ("law" : PySem.Str) := by kernel_rfl
      rw [← e]
      exact hmg0
    obtain ⟨fd, hb, hF⟩ := Hw.facts (P := (PySem.Challenge.rw_hueward_k14_takes_for_all_hues).prog) (w := w) KX G hmg c
    exact ⟨K, fd, _, KX, hb, fun H a ns hl _ hS => Dl.law_sp hS fun s k hs hk => ⟨ns, s, hl, hs, rfl, hk _⟩, hF⟩
