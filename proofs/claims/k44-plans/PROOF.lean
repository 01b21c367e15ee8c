import PyProof.Rows.All
import Wide.All
import OpenK.AllK
import Wide.FinOn
import HandS.ForMost
import HandS.Flow
import HandS.Style
import HandS.IsInst
import HandS.Defaults
import HandS.Property
import HandS.TupAny
import HandS.Wide
import HandS.Deep
import HandS.HeadHook2
import HandS.Head0
import HandS.Head1
import HandS.Head2
import HandS.HeadEnd
import KE.GoesEnum
import HandS.SetFor
import HandS.HeadHook1
import KE.KStateDown
import PyProof.P3Eq
import KE.DataFind
import HandS.RaiseMore
import HandS.TupMul
import PyProof.ReprRoads
import HandS.Small
import HandS.Conv
import HandS.SortInts
import PyProof.Rows.ReprOcc
import PyProof.ReprLen
import HandS.Exc
import HandS.ExcOwn
import HandS.ExcIs
import HandS.ExcValue
import HandS.TryOnly
import HandS.WordsExc
import HandS.Lambda
import HandS.EndTab
import HandS.HeadHook4
import PySem.Challenge.RW_hueward_k44_plans_are_the_least
set_option Elab.async false
set_option linter.all false
set_option maxRecDepth 100000
set_option maxHeartbeats 8000000
namespace Dl
open PySem L2
abbrev Frag := PySem.W.Frag
def Le (H H' : Hp) : Prop := ∀ a o, H a = some o → H' a = some o
theorem Le.refl (H : Hp) : Le H H := fun _ _ h => h
theorem Le.trans {H H1 H2 : Hp} (a : Le H H1) (b : Le H1 H2) : Le H H2 := fun x o h => b x o (a x o h)
theorem Le.none {H H' : Hp} (e : Le H H') {a : Addr} (h : H' a = Option.none) : H a = Option.none := by
  cases q : H a with
  | none => rfl
  | some o => rw [e a o q] at h; cases h
theorem Le.sqL {K : Frag} {H H' : Hp} {a : Addr} {xs : List V} (e : Le H H') (h : SqL K H a xs) : SqL K H' a xs := by
  rcases h with (h | ⟨o, h⟩) | h
  · exact .inl (.inl (e _ _ h))
  · exact .inl (.inr ⟨o, e _ _ h⟩)
  · exact .inr h
theorem Le.sqT {K : Frag} {H H' : Hp} {a : Addr} {xs : List V} (e : Le H H') (h : SqT K H a xs) : SqT K H' a xs := by
  rcases h with (h | ⟨o, h⟩) | h
  · exact .inl (.inl (e _ _ h))
  · exact .inl (.inr ⟨o, e _ _ h⟩)
  · exact .inr h
theorem Le.rd {H H' : Hp} {a : Addr} {u : HO} (e : Le H H') (h : Rd H a u) : Rd H' a u := by
  rcases h with h | ⟨o, h⟩
  · exact .inl (e _ _ h)
  · exact .inr ⟨o, e _ _ h⟩
mutual
inductive Dd (K : Frag) (H : Hp) : V → PyData → Prop
  | non : Dd K H .non .none
  | bl (b : Bool) : Dd K H (.bl b) (.bool b)
  | int (i : Int) : Dd K H (.int i) (.int i)
  | str (x : Str) : Dd K H (.str x) (.str x)
  | lst {a : Addr} {xs : List V} {ds : List PyData} : Rd H a (.lst xs) → DdAll K H xs ds → Dd K H (.ref a) (.list ds)
  | tup {a : Addr} {xs : List V} {ds : List PyData} : SqT K H a xs → DdAll K H xs ds → Dd K H (.ref a) (.tuple ds)
inductive DdAll (K : Frag) (H : Hp) : List V → List PyData → Prop
  | nil : DdAll K H [] []
  | cons {v : V} {vs : List V} {d : PyData} {ds : List PyData} : Dd K H v d → DdAll K H vs ds → DdAll K H (v :: vs) (d :: ds)
end
mutual
theorem Dd.dp {K : Frag} {H : Hp} : ∀ {v : V} {d : PyData}, Dd K H v d → Dp K H v d
  | _, _, .non => .non
  | _, _, .bl b => .bl b
  | _, _, .int i => .int i
  | _, _, .str x => .str x
  | _, _, .lst h hs => .lst (.inl h) (DdAll.dps hs)
  | _, _, .tup h hs => .tup h (DdAll.dps hs)
theorem DdAll.dps {K : Frag} {H : Hp} : ∀ {vs : List V} {ds : List PyData}, DdAll K H vs ds → DpAll K H vs ds
  | _, _, .nil => .nil
  | _, _, .cons h hs => .cons (Dd.dp h) (DdAll.dps hs)
end
mutual
theorem Le.dp {K : Frag} {H H' : Hp} (e : Le H H') : ∀ {v : V} {d : PyData}, Dd K H v d → Dd K H' v d
  | _, _, .non => .non
  | _, _, .bl b => .bl b
  | _, _, .int i => .int i
  | _, _, .str x => .str x
  | _, _, .lst h hs => .lst (e.rd h) (Le.dps e hs)
  | _, _, .tup h hs => .tup (e.sqT h) (Le.dps e hs)
theorem Le.dps {K : Frag} {H H' : Hp} (e : Le H H') : ∀ {vs : List V} {ds : List PyData}, DdAll K H vs ds → DdAll K H' vs ds
  | _, _, .nil => .nil
  | _, _, .cons h hs => .cons (Le.dp e h) (Le.dps e hs)
end
structure Res where
  v : V
  p : Frag → Hp → Hp → List Addr → Prop
  loc : ∀ {K S H fp S' H'}, p K S H fp → Le S S' → (∀ a ∈ fp, H' a = H a) → p K S' H' fp
inductive Sl where
  | no
  | dat (d : PyData)
  | raw (v : V)
  | res (r : Res)
def SlOk (K : Frag) (S H : Hp) (x : Option V) (fp : List Addr) : Sl → Prop
  | .no => fp = []
  | .dat d => fp = [] ∧ ∃ v, x = some v ∧ Dd K S v d
  | .raw v => fp = [] ∧ x = some v
  | .res r => x = some r.v ∧ r.p K S H fp
theorem SlOk.step {K : Frag} {S H S' H' : Hp} {x : Option V} {fp : List Addr} {s : Sl} (h : SlOk K S H x fp s) (e : Le S S') (k : ∀ a ∈ fp, H' a = H a) : SlOk K S' H' x fp s := by
  cases s with
  | no => exact h
  | dat d => obtain ⟨a, v, b, c⟩ := h; exact ⟨a, v, b, e.dp c⟩
  | raw v => exact h
  | res r => exact ⟨h.1, r.loc h.2 e k⟩
inductive SatL (K : Frag) (S H : Hp) : List (Option V) → List Sl → List (List Addr) → Prop
  | nil : SatL K S H [] [] []
  | cons {x : Option V} {s : Sl} {fp : List Addr} {xs : List (Option V)} {ss : List Sl} {fs : List (List Addr)} : SlOk K S H x fp s → SatL K S H xs ss fs → SatL K S H (x :: xs) (s :: ss) (fp :: fs)
theorem SatL.step {K : Frag} {S H S' H' : Hp} (e : Le S S') : ∀ {xs : List (Option V)} {ss : List Sl} {fs : List (List Addr)}, SatL K S H xs ss fs → (∀ a ∈ fs.flatten, H' a = H a) → SatL K S' H' xs ss fs
  | _, _, _, .nil, _ => .nil
  | _, _, _, .cons h hs, k => .cons (h.step e fun a ha => k a (by simp [ha])) (SatL.step e hs fun a ha => k a (by
      rw [List.flatten_cons]; exact List.mem_append_right _ ha))
theorem SatL.append {K : Frag} {S H : Hp} : ∀ {xs : List (Option V)} {ss : List Sl} {fs : List (List Addr)} {ys : List (Option V)} {ts : List Sl} {gs : List (List Addr)},
    SatL K S H xs ss fs → SatL K S H ys ts gs → SatL K S H (xs ++ ys) (ss ++ ts) (fs ++ gs)
  | _, _, _, _, _, _, .nil, h => h
  | _, _, _, _, _, _, .cons a b, h => .cons a (SatL.append b h)
theorem SatL.split {K : Frag} {S H : Hp} : ∀ {xs : List (Option V)} {ss : List Sl} {fs : List (List Addr)} {ys : List (Option V)} {ts : List Sl} {gs : List (List Addr)},
    SatL K S H (xs ++ ys) (ss ++ ts) (fs ++ gs) → xs.length = ss.length → fs.length = ss.length → SatL K S H xs ss fs ∧ SatL K S H ys ts gs
  | [], [], [], _, _, _, h, _, _ => ⟨.nil, h⟩
  | x :: xs, s :: ss, f :: fs, _, _, _, h, h1, h2 => by
    cases h with
    | cons a b =>
      obtain ⟨c, d⟩ := SatL.split (xs := xs) (ss := ss) (fs := fs) b (by simpa using h1) (by simpa using h2)
      exact ⟨.cons a c, d⟩
  | [], _ :: _, _, _, _, _, _, h1, _ => by simp at h1
  | _ :: _, [], _, _, _, _, _, h1, _ => by simp at h1
  | [], [], _ :: _, _, _, _, _, _, h2 => by simp at h2
  | _ :: _, _ :: _, [], _, _, _, _, _, h2 => by simp at h2
theorem SatL.lens {K : Frag} {S H : Hp} : ∀ {xs : List (Option V)} {ss : List Sl} {fs : List (List Addr)}, SatL K S H xs ss fs → xs.length = ss.length ∧ fs.length = ss.length
  | _, _, _, .nil => ⟨rfl, rfl⟩
  | _, _, _, .cons _ h => by obtain ⟨a, b⟩ := h.lens; simp [a, b]
structure Good (S H : Hp) (F : List Addr) : Prop where
  sub : Le S H
  nd : F.Nodup
  dis : ∀ a ∈ F, S a = none
  al : ∀ a ∈ F, H a ≠ none
theorem Good.perm {S H : Hp} {F F' : List Addr} (g : Good S H F) (p : F.Perm F') : Good S H F' :=
  ⟨g.sub, p.nodup_iff.mp g.nd, fun a h => g.dis a (p.mem_iff.mpr h), fun a h => g.al a (p.mem_iff.mpr h)⟩
theorem Good.sublist {S H : Hp} {F F' : List Addr} (g : Good S H F) (p : F'.Sublist F) : Good S H F' :=
  ⟨g.sub, g.nd.sublist p, fun a h => g.dis a (p.subset h), fun a h => g.al a (p.subset h)⟩
theorem Good.right {S H : Hp} {F G : List Addr} (g : Good S H (F ++ G)) : Good S H G := g.sublist (List.sublist_append_right _ _)
theorem Good.left {S H : Hp} {F G : List Addr} (g : Good S H (F ++ G)) : Good S H F := g.sublist (List.sublist_append_left _ _)
structure Step (S H : Hp) (F : List Addr) (S' H' : Hp) (F' : List Addr) : Prop where
  le : Le S S'
  fr : ∀ a o, H a = some o → a ∉ F → H' a = some o
  new : ∀ a, S' a ≠ none → S a ≠ none ∨ H a = none ∨ a ∈ F
  own : ∀ a ∈ F', H a = none ∨ a ∈ F
  al : ∀ a, H a ≠ none → H' a ≠ none
theorem Step.refl {S H : Hp} {F : List Addr} : Step S H F S H F := ⟨Le.refl _, fun _ _ h _ => h, fun _ h => .inl h, fun _ h => .inr h, fun _ h => h⟩
theorem Step.sub {S H S' H' : Hp} {F F' F'' : List Addr} (s : Step S H F S' H' F') (h : ∀ a ∈ F'', a ∈ F') : Step S H F S' H' F'' :=
  ⟨s.le, s.fr, s.new, fun a ha => s.own a (h a ha), s.al⟩
theorem Step.weak {S H S' H' : Hp} {F G F' : List Addr} (s : Step S H F S' H' F') (h : ∀ a ∈ F, a ∈ G) : Step S H G S' H' F' :=
  ⟨s.le, fun a o e n => s.fr a o e fun q => n (h a q), fun a e => (s.new a e).imp id fun q => q.imp id (h a), fun a ha => (s.own a ha).imp id (h a), s.al⟩
theorem Step.trans {S H S1 H1 S2 H2 : Hp} {F F1 F2 : List Addr} (a : Step S H F S1 H1 F1) (b : Step S1 H1 F1 S2 H2 F2) : Step S H F S2 H2 F2 := by
  have back : ∀ x, H1 x = none → H x = none := fun x h => by
    cases q : H x with
    | none => rfl
    | some o => exact absurd h (a.al x (by rw [q]; simp))
  refine ⟨a.le.trans b.le, fun x o h n => b.fr x o (a.fr x o h n) fun q => ?_, fun x h => ?_, fun x h => ?_, fun x h => b.al x (a.al x h)⟩
  · rcases a.own x q with e | e
    · rw [h] at e; cases e
    · exact n e
  · rcases b.new x h with e | e | e
    · exact a.new x e
    · exact .inr (.inl (back x e))
    · exact .inr (a.own x e)
  · rcases b.own x h with e | e
    · exact .inl (back x e)
    · exact a.own x e
structure Wd (K : Frag) (σ : List (Option V)) (Γ : List Sl) (S H : Hp) (fs : List (List Addr)) : Prop where
  good : Good S H fs.flatten
  sat : SatL K S H σ Γ fs
theorem frame {K : Frag} {ts σ σ' : List (Option V)} {Θ Γ Γ' : List Sl} {S H S' H' : Hp} {ft fs fs' : List (List Addr)} (l1 : ts.length = Θ.length) (l2 : ft.length = Θ.length) (w : Wd K (ts ++ σ) (Θ ++ Γ) S H (ft ++ fs))
    (w' : Wd K σ' Γ' S' H' fs') (s : Step S H fs.flatten S' H' fs'.flatten) :
    Wd K (ts ++ σ') (Θ ++ Γ') S' H' (ft ++ fs') ∧ Step S H (ft ++ fs).flatten S' H' (ft ++ fs').flatten := by
  obtain ⟨g, sat⟩ := w
  obtain ⟨s1, s2⟩ := sat.split l1 l2
  rw [List.flatten_append] at g
  have dj : ∀ a ∈ ft.flatten, a ∉ fs.flatten := fun a h1 h2 => (List.nodup_append.mp g.nd).2.2 a h1 a h2 rfl
  have keep : ∀ a ∈ ft.flatten, H' a = H a := fun a ha => by
    cases q : H a with
    | none => exact absurd q (g.al a (List.mem_append_left _ ha))
    | some o => exact s.fr a o q (dj a ha)
  have nF : ∀ a ∈ ft.flatten, a ∉ fs'.flatten := fun a h1 h2 => by
    rcases s.own a h2 with e | e
    · exact g.al a (List.mem_append_left _ h1) e
    · exact dj a h1 e
  refine ⟨⟨?_, (s1.step s.le keep).append w'.sat⟩, ?_⟩
  · rw [List.flatten_append]
    refine ⟨w'.good.sub, List.nodup_append.mpr ⟨g.left.nd, w'.good.nd, fun a h1 b h2 e => nF a h1 (e ▸ h2)⟩, fun a ha => ?_, fun a ha => ?_⟩
    · rcases List.mem_append.mp ha with h | h
      · cases q : S' a with
        | none => rfl
        | some o =>
          rcases s.new a (by rw [q]; simp) with e | e | e
          · exact absurd (g.dis a (List.mem_append_left _ h)) e
          · exact absurd e (g.al a (List.mem_append_left _ h))
          · exact absurd e (dj a h)
      · exact w'.good.dis a h
    · rcases List.mem_append.mp ha with h | h
      · exact s.al a (g.al a (List.mem_append_left _ h))
      · exact w'.good.al a h
  · rw [List.flatten_append, List.flatten_append]
    refine ⟨s.le, fun a o e n => s.fr a o e fun q => n (List.mem_append_right _ q), fun a e => (s.new a e).imp id fun q => q.imp id (List.mem_append_right _), fun a ha => ?_, s.al⟩
    rcases List.mem_append.mp ha with h | h
    · exact .inr (List.mem_append_left _ h)
    · exact (s.own a h).imp id (List.mem_append_right _)
theorem Wd.tail {K : Frag} {ts σ : List (Option V)} {Θ Γ : List Sl} {S H : Hp} {ft fs : List (List Addr)} (l1 : ts.length = Θ.length) (l2 : ft.length = Θ.length) (w : Wd K (ts ++ σ) (Θ ++ Γ) S H (ft ++ fs)) : Wd K σ Γ S H fs := by
  obtain ⟨g, sat⟩ := w
  rw [List.flatten_append] at g
  exact ⟨g.right, (sat.split l1 l2).2⟩
theorem Wd.tl {K : Frag} {x : Option V} {σ : List (Option V)} {s : Sl} {Γ : List Sl} {S H : Hp} {f : List Addr} {fs : List (List Addr)} (w : Wd K (x :: σ) (s :: Γ) S H (f :: fs)) : Wd K σ Γ S H fs :=
  Wd.tail (ts := [x]) (Θ := [s]) (ft := [f]) rfl rfl w
theorem Wd.hd {K : Frag} {x : Option V} {σ : List (Option V)} {s : Sl} {Γ : List Sl} {S H : Hp} {f : List Addr} {fs : List (List Addr)} (w : Wd K (x :: σ) (s :: Γ) S H (f :: fs)) : SlOk K S H x f s := by
  cases w.sat with | cons a _ => exact a
def Post (K : Frag) (σ : List (Option V)) (S H : Hp) (F : List Addr) (k : Sl → List Sl → Prop) (Q : VK) : Prop :=
  ∀ v r Γ' S' H' fr fs', k r Γ' → Wd K (some v :: σ) (r :: Γ') S' H' (fr :: fs') → Step S H F S' H' (fr :: fs').flatten → Q v H'
def EvP (K : Frag) (te : TE) (Γ : List Sl) (k : Sl → List Sl → Prop) : Prop :=
  ∀ σ S H fs Q, Wd K σ Γ S H fs → Post K σ S H fs.flatten k Q → te σ H Q
def EvB (K : Frag) (tt : TT) (Γ : List Sl) (k : Bool → List Sl → Prop) : Prop :=
  ∀ σ S H fs Q, Wd K σ Γ S H fs → (∀ b Γ' S' H' fs', k b Γ' → Wd K σ Γ' S' H' fs' → Step S H fs.flatten S' H' fs'.flatten → Q b H') → tt σ H Q
def EvA (K : Frag) (ta : TA) (Γ : List Sl) (k : List Sl → List Sl → Prop) : Prop :=
  ∀ σ S H fs Q, Wd K σ Γ S H fs → (∀ vs rs Γ' S' H' frs fs', k rs Γ' → vs.length = rs.length → frs.length = rs.length → Wd K (vs.map some ++ σ) (rs ++ Γ') S' H' (frs ++ fs') → Step S H fs.flatten S' H' (frs ++ fs').flatten → Q vs H') → ta σ H Q
structure Out where
  nx : List Sl → Prop
  rt : Sl → List Sl → Prop
  bk : List Sl → Prop := fun _ => False
  ct : List Sl → Prop := fun _ => False
def EndN (K : Frag) (S H : Hp) (F : List Addr) (o : List Sl → Prop) (q : St → Hp → Prop) : Prop := ∀ σ' Γ' S' H' fs', o Γ' → Wd K σ' Γ' S' H' fs' → Step S H F S' H' fs'.flatten → q σ' H'
def EndR (K : Frag) (S H : Hp) (F : List Addr) (o : Sl → List Sl → Prop) (q : VK) : Prop := ∀ v r σ' Γ' S' H' fr fs', o r Γ' → Wd K (some v :: σ') (r :: Γ') S' H' (fr :: fs') → Step S H F S' H' (fr :: fs').flatten → q v H'
structure EndsOk (K : Frag) (S H : Hp) (F : List Addr) (O : Out) (D : Ends) : Prop where
  nx : EndN K S H F O.nx D.nx
  rt : EndR K S H F O.rt D.rt
  bk : EndN K S H F O.bk D.bk
  ct : EndN K S H F O.ct D.ct
def ExS (K : Frag) (t : TS) (Γ : List Sl) (O : Out) : Prop := ∀ σ S H fs D, Wd K σ Γ S H fs → EndsOk K S H fs.flatten O D → t D σ H
theorem EndN.step {K : Frag} {S H S1 H1 : Hp} {F F1 : List Addr} {o : List Sl → Prop} {q : St → Hp → Prop} (e : EndN K S H F o q) (s : Step S H F S1 H1 F1) : EndN K S1 H1 F1 o q := fun σ' Γ' S' H' fs' h w s' => e σ' Γ' S' H' fs' h w (s.trans s')
theorem EndR.step {K : Frag} {S H S1 H1 : Hp} {F F1 : List Addr} {o : Sl → List Sl → Prop} {q : VK} (e : EndR K S H F o q) (s : Step S H F S1 H1 F1) : EndR K S1 H1 F1 o q := fun v r σ' Γ' S' H' fr fs' h w s' => e v r σ' Γ' S' H' fr fs' h w (s.trans s')
theorem EndsOk.step {K : Frag} {S H S1 H1 : Hp} {F F1 : List Addr} {O : Out} {D : Ends} (e : EndsOk K S H F O D) (s : Step S H F S1 H1 F1) : EndsOk K S1 H1 F1 O D := ⟨e.nx.step s, e.rt.step s, e.bk.step s, e.ct.step s⟩
end Dl
namespace Dl
open PySem L2
variable {K : Frag} {Γ : List Sl} {k : Sl → List Sl → Prop}
theorem SatL.get {S H : Hp} : ∀ {xs : List (Option V)} {ss : List Sl} {fs : List (List Addr)} {i : Nat} {s : Sl}, SatL K S H xs ss fs → ss[i]? = some s → ∃ x fp, xs[i]? = some x ∧ fs[i]? = some fp ∧ SlOk K S H x fp s
  | _, _, _, 0, _, .cons a _, h => by
    simp only [List.getElem?_cons_zero, Option.some.injEq] at h
    subst h
    exact ⟨_, _, rfl, rfl, a⟩
  | _, _, _, i + 1, _, .cons _ b, h => by
    simp only [List.getElem?_cons_succ] at h
    obtain ⟨x, fp, h1, h2, h3⟩ := SatL.get b h
    exact ⟨x, fp, by simpa using h1, by simpa using h2, h3⟩
  | _, _, _, _, _, .nil, h => by simp at h
theorem SatL.set {S H : Hp} : ∀ {xs : List (Option V)} {ss : List Sl} {fs : List (List Addr)} {x : Option V} {s : Sl} {fp : List Addr} (i : Nat), SatL K S H xs ss fs → SlOk K S H x fp s → SatL K S H (xs.set i x) (ss.set i s) (fs.set i fp)
  | _, _, _, _, _, _, _, .nil, _ => .nil
  | _, _, _, _, _, _, 0, .cons _ b, h => .cons h b
  | _, _, _, _, _, _, i + 1, .cons a b, h => .cons a (SatL.set i b h)
theorem flat_set : ∀ (fs : List (List Addr)) (i : Nat) (fp : List Addr), (fs.set i []).flatten.Sublist fs.flatten
  | [], _, _ => by simp
  | f :: fs, 0, _ => by simp
  | f :: fs, i + 1, fp => by
    simp only [List.set_cons_succ, List.flatten_cons]
    exact List.Sublist.append (List.Sublist.refl _) (flat_set fs i fp)
theorem flat_take : ∀ (fs : List (List Addr)) (i : Nat) (fp : List Addr), fs[i]? = some fp → fs.flatten.Perm (fp ++ (fs.set i []).flatten)
  | f :: fs, 0, fp, h => by
    simp only [List.getElem?_cons_zero, Option.some.injEq] at h
    subst h
    simp
  | f :: fs, i + 1, fp, h => by
    simp only [List.getElem?_cons_succ] at h
    simp only [List.set_cons_succ, List.flatten_cons]
    have := flat_take fs i fp h
    refine (this.append_left f).trans ?_
    rw [← List.append_assoc, ← List.append_assoc]
    exact (List.perm_append_comm).append_right _
  | [], _, _, h => by simp at h
theorem flat_put : ∀ (fs : List (List Addr)) (i : Nat) (fp : List Addr), fs[i]? = some [] → (fs.set i fp).flatten.Perm (fp ++ fs.flatten)
  | f :: fs, 0, fp, h => by
    simp only [List.getElem?_cons_zero, Option.some.injEq] at h
    subst h
    simp
  | f :: fs, i + 1, fp, h => by
    simp only [List.getElem?_cons_succ] at h
    simp only [List.set_cons_succ, List.flatten_cons]
    have := flat_put fs i fp h
    refine (this.append_left f).trans ?_
    rw [← List.append_assoc, ← List.append_assoc]
    exact (List.perm_append_comm).append_right _
  | [], _, _, h => by simp at h
theorem Wd.put {σ : List (Option V)} {S H : Hp} {fs : List (List Addr)} {v : V} {r : Sl} (w : Wd K σ Γ S H fs) (h : SlOk K S H (some v) [] r) : Wd K (some v :: σ) (r :: Γ) S H ([] :: fs) :=
  ⟨by simpa using w.good, .cons h w.sat⟩
theorem Post.dat {σ : List (Option V)} {S H : Hp} {fs : List (List Addr)} {d : PyData} {v : V} {Q : VK} (P : Post K σ S H fs.flatten k Q) (w : Wd K σ Γ S H fs) (hk : k (.dat d) Γ) (h : Dd K S v d) : Q v H :=
  P v (.dat d) Γ S H [] fs hk (w.put ⟨rfl, v, rfl, h⟩) (by simpa using Step.refl)
theorem Post.raw {σ : List (Option V)} {S H : Hp} {fs : List (List Addr)} {v : V} {Q : VK} (P : Post K σ S H fs.flatten k Q) (w : Wd K σ Γ S H fs) (hk : k (.raw v) Γ) : Q v H :=
  P v (.raw v) Γ S H [] fs hk (w.put ⟨rfl, rfl⟩) (by simpa using Step.refl)
theorem e_dat {i : Nat} {d : PyData} (h : Γ[i]? = some (.dat d)) (hk : k (.dat d) Γ) : EvP K (tVar i) Γ k := by
  intro σ S H fs Q w P
  obtain ⟨x, fp, h1, h2, _, v, rfl, h3⟩ := w.sat.get h
  exact ⟨v, h1, P.dat w hk h3⟩
theorem e_raw {i : Nat} {v : V} (h : Γ[i]? = some (.raw v)) (hk : k (.raw v) Γ) : EvP K (tVar i) Γ k := by
  intro σ S H fs Q w P
  obtain ⟨x, fp, h1, h2, _, rfl⟩ := w.sat.get h
  exact ⟨v, h1, P.raw w hk⟩
theorem e_res {i : Nat} {r : Res} (h : Γ[i]? = some (.res r)) (hk : k (.raw r.v) Γ) : EvP K (tVar i) Γ k := by
  intro σ S H fs Q w P
  obtain ⟨x, fp, h1, h2, rfl, h3⟩ := w.sat.get h
  exact ⟨r.v, h1, P.raw w hk⟩
theorem e_int {i : Int} (hk : k (.dat (.int i)) Γ) : EvP K (tC (.int i)) Γ k := fun _ _ _ _ _ w P => P.dat w hk (.int i)
theorem e_str {i : Str} (hk : k (.dat (.str i)) Γ) : EvP K (tC (.str i)) Γ k := fun _ _ _ _ _ w P => P.dat w hk (.str i)
theorem e_bl {i : Bool} (hk : k (.dat (.bool i)) Γ) : EvP K (tC (.bl i)) Γ k := fun _ _ _ _ _ w P => P.dat w hk (.bl i)
theorem e_non (hk : k (.dat .none) Γ) : EvP K (tC .non) Γ k := fun _ _ _ _ _ w P => P.dat w hk .non
theorem e_c {v : V} (hk : k (.raw v) Γ) : EvP K (tC v) Γ k := fun _ _ _ _ _ w P => P.raw w hk
def OpK (K : Frag) (r : R2) (s1 s2 : Sl) (Γ : List Sl) (k : Sl → List Sl → Prop) : Prop :=
  ∀ σ S H f1 f2 fs x y Q, Wd K (some x :: some y :: σ) (s1 :: s2 :: Γ) S H (f1 :: f2 :: fs) → Post K σ S H (f1 :: f2 :: fs).flatten k Q → r x y H Q
theorem Post.trans {σ : List (Option V)} {S H S1 H1 : Hp} {F F1 : List Addr} {Q : VK} (P : Post K σ S H F k Q) (s : Step S H F S1 H1 F1) : Post K σ S1 H1 F1 k Q :=
  fun v r Γ' S' H' fr fs' hk w s' => P v r Γ' S' H' fr fs' hk w (s.trans s')
theorem e_op {r : R2} {ta tb : TE} (h : EvP K ta Γ fun s1 Γ1 => EvP K tb Γ1 fun s2 Γ2 => OpK K r s1 s2 Γ2 k) : EvP K (tOp r ta tb) Γ k := by
  intro σ S H fs Q w P
  refine h σ S H fs _ w fun v r1 Γ1 S1 H1 f1 fs1 hb w1 st1 => ?_
  refine hb σ S1 H1 fs1 _ w1.tl fun u r2 Γ2 S2 H2 f2 fs2 ho w2 st2 => ?_
  obtain ⟨w3, st3⟩ := frame (ts := [some v]) (Θ := [r1]) (ft := [f1]) rfl rfl w1 w2 st2
  exact ho σ S2 H2 f1 f2 fs2 v u Q w3 (P.trans (st1.trans st3))
theorem Post.drop2 {σ : List (Option V)} {S H : Hp} {f1 f2 : List Addr} {fs : List (List Addr)} {Q : VK} (P : Post K σ S H (f1 :: f2 :: fs).flatten k Q) : Post K σ S H fs.flatten k Q :=
  P.trans (Step.refl.sub fun a ha => by simp only [List.flatten_cons]; exact List.mem_append_right _ (List.mem_append_right _ ha))
theorem op_pure {r : R2} {d1 d2 d : PyData} (hr : ∀ S H x y Q, Le S H → Dd K S x d1 → Dd K S y d2 → (∀ v, Dd K S v d → Q v H) → r x y H Q) (hk : k (.dat d) Γ) : OpK K r (.dat d1) (.dat d2) Γ k := by
  intro σ S H f1 f2 fs x y Q w P
  obtain ⟨_, x', e1, h1⟩ := w.hd
  obtain ⟨_, y', e2, h2⟩ := w.tl.hd
  cases e1; cases e2
  exact hr S H x y Q w.good.sub h1 h2 fun v hv => (Post.drop2 P).dat w.tl.tl hk hv
theorem op_I0 {g : Int → Int → V} {i j : Int} {d : PyData} (hd : ∀ S, Dd K S (g i j) d) (hk : k (.dat d) Γ) : OpK K (rI0 g) (.dat (.int i)) (.dat (.int j)) Γ k :=
  op_pure (fun S H x y Q _ h1 h2 q => by cases h1; cases h2; exact ⟨i, j, rfl, rfl, q _ (hd S)⟩) hk
theorem op_I {C : Int → Int → Prop} {g : Int → Int → V} {i j : Int} {d : PyData} (hc : C i j) (hd : ∀ S, Dd K S (g i j) d) (hk : k (.dat d) Γ) : OpK K (rI C g) (.dat (.int i)) (.dat (.int j)) Γ k :=
  op_pure (fun S H x y Q _ h1 h2 q => by cases h1; cases h2; exact ⟨i, j, rfl, rfl, hc, q _ (hd S)⟩) hk
theorem op_or_l {r r' : R2} {s1 s2 : Sl} (h : OpK K r s1 s2 Γ k) : OpK K (fun x y H Q => r x y H Q ∨ r' x y H Q) s1 s2 Γ k := fun σ S H f1 f2 fs x y Q w P => .inl (h σ S H f1 f2 fs x y Q w P)
theorem op_or_r {r r' : R2} {s1 s2 : Sl} (h : OpK K r' s1 s2 Γ k) : OpK K (fun x y H Q => r x y H Q ∨ r' x y H Q) s1 s2 Γ k := fun σ S H f1 f2 fs x y Q w P => .inr (h σ S H f1 f2 fs x y Q w P)
theorem op_eqD' {d e : PyData} (h1 : SeqAt.shaped d = true) (h2 : SeqAt.shaped e = true) (hk : k (.dat (.bool (PyData.eqv d e))) Γ) : OpK K (rEqD K) (.dat d) (.dat e) Γ k :=
  op_pure (fun S H x y Q l a b q => ⟨d, e, (l.dp a).dp, (l.dp b).dp, h1, h2, q _ (.bl _)⟩) hk
theorem op_neD' {d e : PyData} (h1 : SeqAt.shaped d = true) (h2 : SeqAt.shaped e = true) (hk : k (.dat (.bool (!PyData.eqv d e))) Γ) : OpK K (rNeD K) (.dat d) (.dat e) Γ k :=
  op_pure (fun S H x y Q l a b q => ⟨d, e, (l.dp a).dp, (l.dp b).dp, h1, h2, q _ (.bl _)⟩) hk
theorem b_test {te : TE} {kb : Bool → List Sl → Prop} (h : EvP K te Γ fun r Γ1 => ∃ b, r = .dat (.bool b) ∧ kb b Γ1) : EvB K (tTest te) Γ kb := by
  intro σ S H fs Q w P
  refine h σ S H fs _ w fun v r Γ1 S1 H1 f1 fs1 hb w1 st1 => ?_
  obtain ⟨b, rfl, hk⟩ := hb
  obtain ⟨e, v', e1, h1⟩ := w1.hd
  cases e1; cases h1
  exact ⟨b, rfl, P b Γ1 S1 H1 fs1 hk w1.tl (st1.sub fun a ha => List.mem_append_right _ ha)⟩
def truD : PyData → Option Bool
  | .none => some false
  | .bool b => some b
  | .int i => some (i != 0)
  | .str y => if y.length ≤ sizeLine then some ((y.length : Int) != 0) else Option.none
  | .list xs => some (!xs.isEmpty)
  | .tuple xs => some (!xs.isEmpty)
  | .dict _ => Option.none
theorem dps_len {S : Hp} : ∀ {vs : List V} {ds : List PyData}, DdAll K S vs ds → vs.length = ds.length
  | _, _, .nil => rfl
  | _, _, .cons _ h => by simp [dps_len h]
theorem dps_empty {S : Hp} {vs : List V} {ds : List PyData} (h : DdAll K S vs ds) : vs.isEmpty = ds.isEmpty := by cases h <;> rfl
theorem tru_dat {S H : Hp} {v : V} {d : PyData} {b : Bool} (l : Le S H) (h : Dd K S v d) (e : truD d = some b) : TruV K v H b := by
  cases h with
  | non => exact (Option.some.inj e).symm
  | bl b => exact (Option.some.inj e).symm
  | int i => exact (Option.some.inj e).symm
  | str x =>
    have e' : (if x.length ≤ sizeLine then some ((x.length : Int) != 0) else Option.none) = some b := e
    by_cases hx : x.length ≤ sizeLine
    · rw [if_pos hx] at e'
      exact ⟨hx, (Option.some.inj e').symm⟩
    · rw [if_neg hx] at e'
      cases e'
  | lst h hs => exact .inl ⟨_, .inl (l.rd h), by rw [dps_empty hs]; exact (Option.some.inj e).symm⟩
  | tup h hs => exact .inr (.inl ⟨_, l.sqT h, by rw [dps_empty hs]; exact (Option.some.inj e).symm⟩)
def tTru' (K : Frag) (te : TE) : TT := fun σ H Q => te σ H fun x H' => ∃ k, TruV K x H' k ∧ Q k H'
theorem b_tru {te : TE} {kb : Bool → List Sl → Prop} (h : EvP K te Γ fun r Γ1 => ∃ d b, r = .dat d ∧ truD d = some b ∧ kb b Γ1) : EvB K (tTru' K te) Γ kb := by
  intro σ S H fs Q w P
  refine h σ S H fs _ w fun v r Γ1 S1 H1 f1 fs1 hb w1 st1 => ?_
  obtain ⟨d, b, rfl, e, hk⟩ := hb
  obtain ⟨e0, v', e1, h1⟩ := w1.hd
  cases e1
  exact ⟨b, tru_dat w1.good.sub h1 e, P b Γ1 S1 H1 fs1 hk w1.tl (st1.sub fun a ha => List.mem_append_right _ ha)⟩
theorem b_not {tt : TT} {kb : Bool → List Sl → Prop} (h : EvB K tt Γ fun b Γ1 => kb (!b) Γ1) : EvB K (tNot tt) Γ kb := fun σ S H fs Q w P =>
  h σ S H fs _ w fun b Γ1 S1 H1 fs1 hk w1 st1 => P (!b) Γ1 S1 H1 fs1 hk w1 st1
theorem b_and {t u : TT} {kb : Bool → List Sl → Prop} (h : EvB K t Γ fun b Γ1 => (b = true → EvB K u Γ1 kb) ∧ (b = false → kb false Γ1)) : EvB K (tAnd t u) Γ kb := fun σ S H fs Q w P =>
  h σ S H fs _ w fun b Γ1 S1 H1 fs1 hk w1 st1 => by
    cases b with
    | true => exact hk.1 rfl σ S1 H1 fs1 Q w1 fun b' Γ2 S2 H2 fs2 hk2 w2 st2 => P b' Γ2 S2 H2 fs2 hk2 w2 (st1.trans st2)
    | false => exact P false Γ1 S1 H1 fs1 (hk.2 rfl) w1 st1
theorem b_or {t u : TT} {kb : Bool → List Sl → Prop} (h : EvB K t Γ fun b Γ1 => (b = false → EvB K u Γ1 kb) ∧ (b = true → kb true Γ1)) : EvB K (tOr t u) Γ kb := fun σ S H fs Q w P =>
  h σ S H fs _ w fun b Γ1 S1 H1 fs1 hk w1 st1 => by
    cases b with
    | false => exact hk.1 rfl σ S1 H1 fs1 Q w1 fun b' Γ2 S2 H2 fs2 hk2 w2 st2 => P b' Γ2 S2 H2 fs2 hk2 w2 (st1.trans st2)
    | true => exact P true Γ1 S1 H1 fs1 (hk.2 rfl) w1 st1
theorem e_if {tt : TT} {ta tb : TE} (h : EvB K tt Γ fun b Γ1 => (b = true → EvP K ta Γ1 k) ∧ (b = false → EvP K tb Γ1 k)) : EvP K (tIf tt ta tb) Γ k := fun σ S H fs Q w P =>
  h σ S H fs _ w fun b Γ1 S1 H1 fs1 hk w1 st1 => by
    cases b with
    | true => exact hk.1 rfl σ S1 H1 fs1 Q w1 (P.trans st1)
    | false => exact hk.2 rfl σ S1 H1 fs1 Q w1 (P.trans st1)
theorem e_andV {ta tb : TE} (h : EvP K ta Γ fun r Γ1 => ∃ b, r = .dat (.bool b) ∧ (b = true → EvP K tb Γ1 k) ∧ (b = false → k (.dat (.bool false)) Γ1)) : EvP K (tAndV ta tb) Γ k := by
  intro σ S H fs Q w P
  refine h σ S H fs _ w fun v r Γ1 S1 H1 f1 fs1 hb w1 st1 => ?_
  obtain ⟨b, rfl, hk1, hk2⟩ := hb
  obtain ⟨e, v', e1, h1⟩ := w1.hd
  cases e1; cases h1
  have st2 := st1.sub (F'' := fs1.flatten) fun a ha => List.mem_append_right _ ha
  refine ⟨b, rfl, ?_⟩
  cases b with
  | true => exact hk1 rfl σ S1 H1 fs1 Q w1.tl (P.trans st2)
  | false => exact (P.trans st2).dat w1.tl (hk2 rfl) (.bl false)
theorem e_orV {ta tb : TE} (h : EvP K ta Γ fun r Γ1 => ∃ b, r = .dat (.bool b) ∧ (b = false → EvP K tb Γ1 k) ∧ (b = true → k (.dat (.bool true)) Γ1)) : EvP K (tOrV ta tb) Γ k := by
  intro σ S H fs Q w P
  refine h σ S H fs _ w fun v r Γ1 S1 H1 f1 fs1 hb w1 st1 => ?_
  obtain ⟨b, rfl, hk1, hk2⟩ := hb
  obtain ⟨e, v', e1, h1⟩ := w1.hd
  cases e1; cases h1
  have st2 := st1.sub (F'' := fs1.flatten) fun a ha => List.mem_append_right _ ha
  refine ⟨b, rfl, ?_⟩
  cases b with
  | false => exact hk1 rfl σ S1 H1 fs1 Q w1.tl (P.trans st2)
  | true => exact (P.trans st2).dat w1.tl (hk2 rfl) (.bl true)
theorem e_notV {ta : TE} (h : EvP K ta Γ fun r Γ1 => ∃ b, r = .dat (.bool b) ∧ k (.dat (.bool (!b))) Γ1) : EvP K (tNotV ta) Γ k := by
  intro σ S H fs Q w P
  refine h σ S H fs _ w fun v r Γ1 S1 H1 f1 fs1 hb w1 st1 => ?_
  obtain ⟨b, rfl, hk⟩ := hb
  obtain ⟨e, v', e1, h1⟩ := w1.hd
  cases e1; cases h1
  have st2 := st1.sub (F'' := fs1.flatten) fun a ha => List.mem_append_right _ ha
  exact ⟨b, rfl, (P.trans st2).dat w1.tl hk (.bl _)⟩
theorem e_chain {r r' : R2} {ta tb tc : TE} (h : EvP K ta Γ fun s1 Γ1 => EvP K tb Γ1 fun s2 Γ2 => ∃ d1 d2, s1 = .dat d1 ∧ s2 = .dat d2 ∧ OpK K r (.dat d1) (.dat d2) Γ2 fun s3 Γ3 => ∃ b, s3 = .dat (.bool b) ∧ (b = true → EvP K tc Γ3 fun s4 Γ4 => OpK K r' (.dat d2) s4 Γ4 k) ∧ (b = false → k (.dat (.bool false)) Γ3)) :
    EvP K (tChain r r' ta tb tc) Γ k := by
  intro σ S H fs Q w P
  refine h σ S H fs _ w fun v r1 Γ1 S1 H1 f1 fs1 hb w1 st1 => ?_
  refine hb σ S1 H1 fs1 _ w1.tl fun u r2 Γ2 S2 H2 f2 fs2 ho w2 st2 => ?_
  obtain ⟨d1, d2, rfl, rfl, ho⟩ := ho
  obtain ⟨w3, st3⟩ := frame (ts := [some v]) (Θ := [.dat d1]) (ft := [f1]) rfl rfl w1 w2 st2
  obtain ⟨_, u', e2, hu⟩ := w2.hd
  cases e2
  refine ho σ S2 H2 f1 f2 fs2 v u _ w3 fun z r3 Γ3 S3 H3 f3 fs3 hb3 w4 st4 => ?_
  obtain ⟨b, rfl, hk1, hk2⟩ := hb3
  obtain ⟨_, z', e3, hz⟩ := w4.hd
  cases e3; cases hz
  have stA := (st1.trans st3).trans st4
  have st5 := stA.sub (F'' := fs3.flatten) fun a ha => List.mem_append_right _ ha
  refine ⟨b, rfl, ?_⟩
  cases b with
  | true =>
    refine hk1 rfl σ S3 H3 fs3 _ w4.tl fun t r4 Γ4 S4 H4 f4 fs4 ho4 w5 st6 => ?_
    have l := st4.le.trans st6.le
    have w6 : Wd K (some u :: some t :: σ) (.dat d2 :: r4 :: Γ4) S4 H4 ([] :: f4 :: fs4) := w5.put ⟨rfl, u, rfl, l.dp hu⟩
    exact ho4 σ S4 H4 [] f4 fs4 u t Q w6 (P.trans ((st5.trans st6).sub fun a ha => by simpa using ha))
  | false => exact (P.trans st5).dat w4.tl (hk2 rfl) (.bl false)
theorem a_nil {ka : List Sl → List Sl → Prop} (hk : ka [] Γ) : EvA K tNil Γ ka := fun σ S H fs Q w P => P [] [] Γ S H [] fs hk rfl rfl w Step.refl
theorem a_cons {te : TE} {ta : TA} {ka : List Sl → List Sl → Prop} (h : EvP K te Γ fun s Γ1 => EvA K ta Γ1 fun ss Γ2 => ka (s :: ss) Γ2) : EvA K (tCons te ta) Γ ka := by
  intro σ S H fs Q w P
  refine h σ S H fs _ w fun v r1 Γ1 S1 H1 f1 fs1 hb w1 st1 => ?_
  refine hb σ S1 H1 fs1 _ w1.tl fun vs rs Γ2 S2 H2 frs fs2 hk l1 l2 w2 st2 => ?_
  obtain ⟨w3, st3⟩ := frame (ts := [some v]) (Θ := [r1]) (ft := [f1]) rfl rfl w1 w2 st2
  exact P (v :: vs) (r1 :: rs) Γ2 S2 H2 (f1 :: frs) fs2 hk (by simp [l1]) (by simp [l2]) w3 (st1.trans st3)
theorem sat_dats {S H : Hp} : ∀ {ds : List PyData} {vs : List V} {frs : List (List Addr)}, SatL K S H (vs.map some) (ds.map .dat) frs → DdAll K S vs ds ∧ frs.flatten = []
  | [], [], [], _ => ⟨.nil, rfl⟩
  | d :: ds, v :: vs, f :: frs, h => by
    cases h with
    | cons a b =>
      obtain ⟨e, v', e1, h1⟩ := a
      cases e1
      obtain ⟨h2, h3⟩ := sat_dats b
      exact ⟨.cons h1 h2, by simp [e, h3]⟩
  | [], _ :: _, _, h => by cases h
  | _ :: _, [], _, h => by cases h
  | [], [], _ :: _, h => by cases h
  | _ :: _, _ :: _, [], h => by cases h
theorem alloc {σ : List (Option V)} {S H : Hp} {fs : List (List Addr)} {p : Addr} (o : HO) (w : Wd K σ Γ S H fs) (hp : H p = none) : Wd K σ Γ (upd S p o) (upd H p o) fs ∧ Step S H fs.flatten (upd S p o) (upd H p o) fs.flatten := by
  have nS : S p = none := w.good.sub.none hp
  have le : Le S (upd S p o) := fun a u e => by rw [upd_ne (ne_of_none e nS)]; exact e
  have leH : Le H (upd H p o) := fun a u e => by rw [upd_ne (ne_of_none e hp)]; exact e
  have nF : ∀ a ∈ fs.flatten, a ≠ p := fun a ha e => w.good.al a ha (by rw [e]; exact hp)
  refine ⟨⟨⟨fun a u e => ?_, w.good.nd, fun a ha => ?_, fun a ha => ?_⟩, w.sat.step le fun a ha => upd_ne (nF a ha)⟩, le, fun a u e _ => leH a u e, fun a e => ?_, fun a ha => .inr ha, fun a e => ?_⟩
  · by_cases q : a = p
    · subst q
      rw [upd_same] at e ⊢
      exact e
    · rw [upd_ne q] at e ⊢
      exact w.good.sub a u e
  · rw [upd_ne (nF a ha)]
    exact w.good.dis a ha
  · rw [upd_ne (nF a ha)]
    exact w.good.al a ha
  · by_cases q : a = p
    · subst q
      exact .inr (.inl hp)
    · rw [upd_ne q] at e
      exact .inl e
  · by_cases q : a = p
    · subst q
      rw [upd_same]
      simp
    · rw [upd_ne q]
      exact e
theorem Post.new {σ : List (Option V)} {S H : Hp} {fs : List (List Addr)} {d : PyData} {p : Addr} {o : HO} {Q : VK} (P : Post K σ S H fs.flatten k Q) (w : Wd K σ Γ S H fs) (hk : k (.dat d) Γ) (hp : H p = none) (h : Dd K (upd S p o) (.ref p) d) : Q (.ref p) (upd H p o) := by
  obtain ⟨w1, st⟩ := alloc o w hp
  exact (P.trans st).dat w1 hk h
theorem dp_tup_new {S : Hp} {p : Addr} {vs : List V} {ds : List PyData} (nS : S p = none) (h : DdAll K S vs ds) : Dd K (upd S p (.tup vs)) (.ref p) (.tuple ds) :=
  .tup (SqT.of upd_same) (Le.dps (fun a u e => by rw [upd_ne (ne_of_none e nS)]; exact e) h)
theorem dp_lst_new {S : Hp} {p : Addr} {vs : List V} {ds : List PyData} (nS : S p = none) (h : DdAll K S vs ds) : Dd K (upd S p (.lst vs)) (.ref p) (.list ds) :=
  .lst (.inl upd_same) (Le.dps (fun a u e => by rw [upd_ne (ne_of_none e nS)]; exact e) h)
theorem e_tup {ta : TA} (h : EvA K ta Γ fun rs Γ1 => ∃ ds : List PyData, rs = ds.map .dat ∧ ds.length ≤ sizeLine ∧ k (.dat (.tuple ds)) Γ1) : EvP K (tTup ta) Γ k := by
  intro σ S H fs Q w P
  refine h σ S H fs _ w fun vs rs Γ1 S1 H1 frs fs1 hb l1 l2 w1 st1 => ?_
  obtain ⟨ds, rfl, hz, hk⟩ := hb
  obtain ⟨s1, s2⟩ := w1.sat.split (by simpa using l1) l2
  obtain ⟨hd, hf⟩ := sat_dats s1
  have w2 : Wd K σ Γ1 S1 H1 fs1 := Wd.tail (by simpa using l1) l2 w1
  refine ⟨by rw [dps_len hd]; exact hz, fun p hp => ?_⟩
  exact (P.trans (st1.sub (F'' := fs1.flatten) fun a ha => by simp [hf]; simpa using ha)).new w2 hk hp (dp_tup_new (w2.good.sub.none hp) hd)
theorem e_lst {ta : TA} (h : EvA K ta Γ fun rs Γ1 => ∃ ds : List PyData, rs = ds.map .dat ∧ ds.length ≤ sizeLine ∧ k (.dat (.list ds)) Γ1) : EvP K (tLst ta) Γ k := by
  intro σ S H fs Q w P
  refine h σ S H fs _ w fun vs rs Γ1 S1 H1 frs fs1 hb l1 l2 w1 st1 => ?_
  obtain ⟨ds, rfl, hz, hk⟩ := hb
  obtain ⟨s1, s2⟩ := w1.sat.split (by simpa using l1) l2
  obtain ⟨hd, hf⟩ := sat_dats s1
  have w2 : Wd K σ Γ1 S1 H1 fs1 := Wd.tail (by simpa using l1) l2 w1
  refine ⟨by rw [dps_len hd]; exact hz, fun p hp => ?_⟩
  exact (P.trans (st1.sub (F'' := fs1.flatten) fun a ha => by simp [hf]; simpa using ha)).new w2 hk hp (dp_lst_new (w2.good.sub.none hp) hd)
end Dl
namespace Dl
open PySem L2
variable {K : Frag} {Γ : List Sl} {k : Sl → List Sl → Prop}
abbrev FSpec := List Sl → (Sl → List Sl → Prop) → Prop
def spOf (K : Frag) (F : FSpec) : Sp := fun vs H Q _ => ∃ (args : List Sl) (S : Hp) (fs : List (List Addr)) (k : Sl → List Sl → Prop),
  Wd K (vs.map some) args S H fs ∧ F args k ∧ Post K (vs.map some) S H fs.flatten k Q
inductive Keep : List Sl → List Sl → List Sl → Prop
  | nil {Γ : List Sl} : Keep [] [] Γ
  | dat {d : PyData} {as as' : List Sl} {Γ : List Sl} : Keep as as' (Γ.drop 1) → Keep (.dat d :: as) (.dat d :: as') Γ
  | raw {v : V} {as as' : List Sl} {Γ : List Sl} : Keep as as' (Γ.drop 1) → Keep (.raw v :: as) (.raw v :: as') Γ
  | res {r r' : Res} {as as' : List Sl} {Γ : List Sl} (h : r'.v = r.v) : Keep as as' Γ → Keep (.res r :: as) (.res r' :: as') (.res r' :: Γ)
  | drop {r : Res} {as as' : List Sl} {Γ : List Sl} : Keep as as' (Γ.drop 1) → Keep (.res r :: as) (.no :: as') Γ
  | no {as as' : List Sl} {Γ : List Sl} : Keep as as' (Γ.drop 1) → Keep (.no :: as) (.no :: as') Γ
theorem SatL.drop1 {S H : Hp} {xs : List (Option V)} {ss : List Sl} {fs : List (List Addr)} (h : SatL K S H xs ss fs) : SatL K S H (xs.drop 1) (ss.drop 1) (fs.drop 1) := by
  cases h with
  | nil => exact .nil
  | cons a b => exact b
theorem flat_drop1 (fs : List (List Addr)) : (fs.drop 1).flatten.Sublist fs.flatten := by
  cases fs with
  | nil => exact List.Sublist.refl _
  | cons f fs => simp
theorem Keep.sat {S H S' H' : Hp} (l : Le S S') : ∀ {as as' Γ : List Sl} {xs σ : List (Option V)} {fs gs : List (List Addr)}, Keep as as' Γ → SatL K S H xs as fs → SatL K S' H' σ Γ gs → ∃ fs', SatL K S' H' xs as' fs' ∧ fs'.flatten.Sublist gs.flatten
  | _, _, _, _, _, _, _, .nil, .nil, _ => ⟨[], .nil, by simp⟩
  | _, _, _, _, _, _, gs, .dat h, .cons a b, q => by
    obtain ⟨fs', h1, h2⟩ := Keep.sat l h b q.drop1
    obtain ⟨_, v, e, q⟩ := a
    exact ⟨[] :: fs', .cons ⟨rfl, v, e, l.dp q⟩ h1, by simpa using h2.trans (flat_drop1 gs)⟩
  | _, _, _, _, _, _, gs, .raw h, .cons a b, q => by
    obtain ⟨fs', h1, h2⟩ := Keep.sat l h b q.drop1
    exact ⟨[] :: fs', .cons ⟨rfl, a.2⟩ h1, by simpa using h2.trans (flat_drop1 gs)⟩
  | _, _, _, _, _, _, _, .res e h, .cons a b, .cons (fp := fp) c d => by
    obtain ⟨fs', h1, h2⟩ := Keep.sat l h b d
    exact ⟨fp :: fs', .cons ⟨by rw [a.1, e], c.2⟩ h1, by simpa using h2⟩
  | _, _, _, _, _, _, gs, .drop h, .cons a b, q => by
    obtain ⟨fs', h1, h2⟩ := Keep.sat l h b q.drop1
    exact ⟨[] :: fs', .cons rfl h1, by simpa using h2.trans (flat_drop1 gs)⟩
  | _, _, _, _, _, _, gs, .no h, .cons a b, q => by
    obtain ⟨fs', h1, h2⟩ := Keep.sat l h b q.drop1
    exact ⟨[] :: fs', .cons rfl h1, by simpa using h2.trans (flat_drop1 gs)⟩
theorem keep_dats : ∀ (ds : List PyData) (Γ : List Sl), Keep (ds.map .dat) (ds.map .dat) Γ
  | [], _ => .nil
  | _ :: ds, Γ => .dat (keep_dats ds _)
def fnOut (args : List Sl) (k : Sl → List Sl → Prop) : Out where
  nx := fun Γ' => ∃ as', k (.dat .none) as' ∧ Keep args as' Γ'
  rt := fun r Γ' => ∃ as', k r as' ∧ Keep args as' Γ'
theorem sat_start {S H : Hp} {N : List Str} {vs : List V} {args : List Sl} {fs : List (List Addr)} (h : SatL K S H (vs.map some) args fs) :
    SatL K S H (L2.start N vs) (args ++ List.replicate (N.length - args.length) .no) (fs ++ List.replicate (N.length - args.length) []) := by
  have l := h.lens
  unfold L2.start
  rw [show vs.length = args.length by simpa using l.1]
  refine h.append ?_
  have : ∀ n : Nat, SatL K S H (List.replicate n none) (List.replicate n Sl.no) (List.replicate n []) := fun n => by
    induction n with
    | zero => exact .nil
    | succ n ih => exact .cons rfl ih
  exact this _
theorem flat_nils (n : Nat) : (List.replicate n ([] : List Addr)).flatten = [] := by induction n <;> simp_all [List.replicate_succ]
theorem fn_body {F : FSpec} {t : TS} {N : List Str} {vs : List V} {H : Hp} {Q : VK} {E : XK}
    (hb : ∀ args k, F args k → ExS K t (args ++ List.replicate (N.length - args.length) .no) (fnOut args k)) (h : spOf K F vs H Q E) :
    t { nx := fun _ H' => Q .non H', rt := Q } (L2.start N vs) H := by
  obtain ⟨args, S, fs, k, w, hF, P⟩ := h
  have fl : (fs ++ List.replicate (N.length - args.length) []).flatten = fs.flatten := by rw [List.flatten_append, flat_nils, List.append_nil]
  refine hb args k hF _ S H (fs ++ List.replicate (N.length - args.length) []) _ ⟨by rw [fl]; exact w.good, sat_start w.sat⟩ ?_
  rw [fl]
  refine ⟨fun σ' Γ' S' H' fs' ho w' st => ?_, fun v r σ' Γ' S' H' fr fs' ho w' st => ?_, fun _ _ _ _ _ ho _ _ => ho.elim, fun _ _ _ _ _ ho _ _ => ho.elim⟩
  · obtain ⟨as', hk, kp⟩ := ho
    obtain ⟨gs, h1, h2⟩ := kp.sat st.le w.sat w'.sat
    exact P .non (.dat .none) as' S' H' [] gs hk ⟨by simpa using w'.good.sublist h2, .cons ⟨rfl, .non, rfl, .non⟩ h1⟩ (st.sub fun a ha => h2.subset (by simpa using ha))
  · obtain ⟨as', hk, kp⟩ := ho
    obtain ⟨gs, h1, h2⟩ := kp.sat st.le w.sat w'.tl.sat
    have h3 : (fr :: gs).flatten.Sublist (fr :: fs').flatten := by
      simp only [List.flatten_cons]
      exact (List.Sublist.refl _).append h2
    exact P v r as' S' H' fr gs hk ⟨w'.good.sublist h3, .cons w'.hd h1⟩ (st.sub fun a ha => h3.subset ha)
theorem sp_len {F : FSpec} {n : Nat} (hn : ∀ args k, F args k → args.length = n) {vs : List V} {H : Hp} {Q : VK} {E : XK} (h : spOf K F vs H Q E) : vs.length = n := by
  obtain ⟨args, S, fs, k, w, hF, P⟩ := h
  rw [← hn args k hF]
  simpa using w.sat.lens.1
theorem Wd.swap {a b : List (Option V)} {A B : List Sl} {S H : Hp} {fa fb : List (List Addr)} (l1 : a.length = A.length) (l2 : fa.length = A.length) (w : Wd K (a ++ b) (A ++ B) S H (fa ++ fb)) : Wd K (b ++ a) (B ++ A) S H (fb ++ fa) := by
  obtain ⟨s1, s2⟩ := w.sat.split l1 l2
  refine ⟨w.good.perm ?_, s2.append s1⟩
  rw [List.flatten_append, List.flatten_append]
  exact List.perm_append_comm
theorem e_call {F : FSpec} {ta : TA} {E : XK} (h : EvA K ta Γ fun rs Γ1 => F rs fun r as' => k r Γ1) : EvP K (tCall (spOf K F) [] E ta) Γ k := by
  intro σ S H fs Q w P
  refine h σ S H fs _ w fun vs rs Γ1 S1 H1 frs fs1 hF l1 l2 w1 st1 => ?_
  rw [List.append_nil]
  have lv : (vs.map some).length = rs.length := by simpa using l1
  have wA : Wd K (vs.map some) rs S1 H1 frs := by
    have q := w1.swap lv l2
    have l3 := w1.sat.split lv l2
    exact Wd.tail (l3.2.lens.1) (l3.2.lens.2) q
  refine ⟨rs, S1, frs, _, wA, hF, fun v r as' S2 H2 fr fs2 hk w2 st2 => ?_⟩
  have l3 := w1.sat.split lv l2
  obtain ⟨w3, st3⟩ := frame l3.2.lens.1 l3.2.lens.2 (w1.swap lv l2) w2 st2
  have w4 : Wd K (σ ++ [some v]) (Γ1 ++ [r]) S2 H2 (fs1 ++ [fr]) := by
    have q : Wd K ((σ ++ [some v]) ++ vs.map some) ((Γ1 ++ [r]) ++ as') S2 H2 ((fs1 ++ [fr]) ++ fs2) := by simpa using w3
    have q2 := q.swap (by simp [l3.2.lens.1]) (by simp [l3.2.lens.2])
    have q3 := w2.tl.sat.lens
    exact Wd.tail q3.1 q3.2 q2
  have w5 : Wd K (some v :: σ) (r :: Γ1) S2 H2 (fr :: fs1) := by simpa using w4.swap l3.2.lens.1 l3.2.lens.2
  refine P v r Γ1 S2 H2 fr fs1 hk w5 ?_
  have e1 : ∀ a, a ∈ (fs1 ++ frs).flatten → a ∈ (frs ++ fs1).flatten := fun a ha => by
    rw [List.flatten_append] at ha ⊢
    exact (List.mem_append.mp ha).elim (List.mem_append_right _) (List.mem_append_left _)
  exact st1.trans ((st3.weak e1).sub fun a ha => by
    simp only [List.flatten_cons, List.flatten_append, List.mem_append] at ha ⊢
    exact ha.elim (fun q => .inr (.inl q)) .inl)
theorem lend {ts σ : List (Option V)} {Θ : List Sl} {S H : Hp} {ft fs : List (List Addr)} {i j : Nat} {r : Res} (l1 : ts.length = Θ.length) (l2 : ft.length = Θ.length) (w : Wd K (ts ++ σ) (Θ ++ Γ) S H (ft ++ fs)) (hi : Θ[i]? = some (.raw r.v)) (hj : Γ[j]? = some (.res r)) :
    ∃ fp, Wd K (ts ++ σ) (Θ.set i (.res r) ++ Γ.set j .no) S H (ft.set i fp ++ fs.set j []) ∧ (∀ a, a ∈ (ft.set i fp ++ fs.set j []).flatten ↔ a ∈ (ft ++ fs).flatten) ∧ σ[j]? = some (some r.v) := by
  obtain ⟨s1, s2⟩ := w.sat.split l1 l2
  obtain ⟨x, fp0, hx, hf, e0, rfl⟩ := s1.get hi
  subst e0
  obtain ⟨y, fp, hy, hg, rfl, hp⟩ := s2.get hj
  have p1 := flat_put ft i fp hf
  have p2 := flat_take fs j fp hg
  have pm : (ft.set i fp ++ fs.set j []).flatten.Perm (ft ++ fs).flatten := by
    rw [List.flatten_append, List.flatten_append]
    refine (p1.append_right _).trans ?_
    refine List.Perm.trans ?_ (p2.symm.append_left _)
    rw [← List.append_assoc]
    exact (List.perm_append_comm).append_right _
  refine ⟨fp, ⟨w.good.perm pm.symm, ?_⟩, fun a => pm.mem_iff, hy⟩
  have e1 : ts.set i (some r.v) = ts := by
    apply List.ext_getElem?
    intro n
    by_cases hn : i = n
    · subst hn
      rw [List.getElem?_set_self (List.getElem?_eq_some_iff.mp hx).1, hx]
    · rw [List.getElem?_set_ne hn]
  have e2 : σ.set j (some r.v) = σ := by
    apply List.ext_getElem?
    intro n
    by_cases hn : j = n
    · subst hn
      rw [List.getElem?_set_self (List.getElem?_eq_some_iff.mp hy).1, hy]
    · rw [List.getElem?_set_ne hn]
  have a1 := s1.set (x := some r.v) (s := .res r) (fp := fp) i ⟨rfl, hp⟩
  have a2 := s2.set (x := some r.v) (s := .no) (fp := []) j rfl
  rw [e1] at a1
  rw [e2] at a2
  exact a1.append a2
theorem setSame {α : Type} {l : List α} {i : Nat} {x : α} (h : l[i]? = some x) : l.set i x = l := by
  apply List.ext_getElem?
  intro n
  by_cases hn : i = n
  · subst hn
    rw [List.getElem?_set_self (List.getElem?_eq_some_iff.mp h).1, h]
  · rw [List.getElem?_set_ne hn]
theorem back {ts σ : List (Option V)} {Θ : List Sl} {S H : Hp} {ft fs : List (List Addr)} {i j : Nat} {r : Res} (l1 : ts.length = Θ.length) (l2 : ft.length = Θ.length) (w : Wd K (ts ++ σ) (Θ ++ Γ) S H (ft ++ fs)) (hi : Θ[i]? = some (.res r)) (hj : Γ[j]? = some .no) (hv : σ[j]? = some (some r.v)) :
    ∃ fp, Wd K (ts ++ σ) (Θ.set i .no ++ Γ.set j (.res r)) S H (ft.set i [] ++ fs.set j fp) ∧ (∀ a, a ∈ (ft.set i [] ++ fs.set j fp).flatten ↔ a ∈ (ft ++ fs).flatten) := by
  obtain ⟨s1, s2⟩ := w.sat.split l1 l2
  obtain ⟨x, fp, hx, hf, rfl, hp⟩ := s1.get hi
  obtain ⟨y, fp0, hy, hg, e0⟩ := s2.get hj
  have e0 : fp0 = [] := e0
  subst e0
  have p1 := flat_take ft i fp hf
  have p2 := flat_put fs j fp hg
  have pm : (ft.set i [] ++ fs.set j fp).flatten.Perm (ft ++ fs).flatten := by
    rw [List.flatten_append, List.flatten_append]
    refine (p2.append_left _).trans ?_
    refine List.Perm.trans ?_ (p1.symm.append_right _)
    rw [← List.append_assoc]
    exact (List.perm_append_comm).append_right _
  refine ⟨fp, ⟨w.good.perm pm.symm, ?_⟩, fun a => pm.mem_iff⟩
  have a1 := s1.set (x := some r.v) (s := .no) (fp := []) i rfl
  have a2 := s2.set (x := some r.v) (s := .res r) (fp := fp) j ⟨rfl, hp⟩
  rw [setSame hx] at a1
  rw [setSame hv] at a2
  exact a1.append a2
theorem e_call1 {F : FSpec} {ta : TA} {E : XK} (i j : Nat) (h : EvA K ta Γ fun rs Γ1 => ∃ r : Res, rs[i]? = some (.raw r.v) ∧ Γ1[j]? = some (.res r) ∧ F (rs.set i (.res r)) fun r0 as' => ∃ r' : Res, as'[i]? = some (.res r') ∧ r'.v = r.v ∧ as'.length = rs.length ∧ k r0 (Γ1.set j (.res r'))) :
    EvP K (tCall (spOf K F) [] E ta) Γ k := by
  intro σ S H fs Q w P
  refine h σ S H fs _ w fun vs rs Γ1 S1 H1 frs fs1 hF l1 l2 w1 st1 => ?_
  obtain ⟨r, hi, hj, hF⟩ := hF
  rw [List.append_nil]
  have lv : (vs.map some).length = rs.length := by simpa using l1
  obtain ⟨fp, wl, hm, hσ⟩ := lend lv l2 w1 hi hj
  have lv' : (vs.map some).length = (rs.set i (.res r)).length := by simpa using l1
  have l2' : (frs.set i fp).length = (rs.set i (.res r)).length := by simpa using l2
  have ls := wl.sat.split lv' l2'
  have wsw := wl.swap lv' l2'
  have wA : Wd K (vs.map some) (rs.set i (.res r)) S1 H1 (frs.set i fp) := Wd.tail ls.2.lens.1 ls.2.lens.2 wsw
  refine ⟨_, S1, _, _, wA, hF, fun v r0 as' S2 H2 fr fs2 hk w2 st2 => ?_⟩
  obtain ⟨r', ha, hv, hl, hk⟩ := hk
  obtain ⟨w3, st3⟩ := frame ls.2.lens.1 ls.2.lens.2 wsw w2 st2
  have w4 : Wd K (vs.map some ++ (some v :: σ)) (as' ++ (r0 :: Γ1.set j .no)) S2 H2 (fs2 ++ (fr :: fs1.set j [])) := by
    have q : Wd K ((σ ++ [some v]) ++ vs.map some) ((Γ1.set j .no ++ [r0]) ++ as') S2 H2 ((fs1.set j [] ++ [fr]) ++ fs2) := by simpa using w3
    have q2 := q.swap (by simpa using ls.2.lens.1) (by simpa using ls.2.lens.2)
    have q3 := w2.tl.sat.lens
    have q4 : Wd K (vs.map some ++ (σ ++ [some v])) (as' ++ (Γ1.set j .no ++ [r0])) S2 H2 (fs2 ++ (fs1.set j [] ++ [fr])) := q2
    obtain ⟨g, st⟩ := q4
    obtain ⟨a, b⟩ := st.split q3.1 q3.2
    obtain ⟨c, d⟩ := b.split (xs := σ) (ss := Γ1.set j .no) (fs := fs1.set j []) ls.2.lens.1 ls.2.lens.2
    refine ⟨g.perm ?_, a.append ?_⟩
    · simp only [List.flatten_append, List.flatten_cons, List.flatten_nil, List.append_nil]
      exact List.Perm.append_left _ List.perm_append_comm
    · cases d with
      | cons d1 d2 => exact .cons d1 c
  have q3 := w2.tl.sat.lens
  obtain ⟨fp', w5, hm2⟩ := back (i := i) (j := j + 1) (r := r') q3.1 q3.2 w4 ha (by
      simp only [List.getElem?_cons_succ]
      exact List.getElem?_set_self (List.getElem?_eq_some_iff.mp hj).1) (by simp only [List.getElem?_cons_succ]; rw [hσ, hv])
  simp only [List.set_cons_succ, List.set_set] at w5 hm2
  have w6 := Wd.tail (by simpa using q3.1) (by simpa using q3.2) w5
  refine P v r0 _ S2 H2 fr _ hk w6 ?_
  have e1 : ∀ a, a ∈ (fs1.set j [] ++ frs.set i fp).flatten → a ∈ (frs ++ fs1).flatten := fun a ha => by
    rw [← hm]
    rw [List.flatten_append] at ha ⊢
    exact (List.mem_append.mp ha).elim (List.mem_append_right _) (List.mem_append_left _)
  refine st1.trans ((st3.weak e1).sub fun a ha => ?_)
  have hb : a ∈ (fs2.set i [] ++ (fr :: fs1.set j fp')).flatten := by
    rw [List.flatten_append]
    exact List.mem_append_right _ ha
  have hc := (hm2 a).mp hb
  simp only [List.flatten_cons, List.flatten_append, List.mem_append] at hc ⊢
  rcases hc with q | q | q
  · exact .inr (.inr q)
  · exact .inr (.inl q)
  · exact .inl q
end Dl
namespace Dl
open PySem L2
variable {K : Frag} {Γ : List Sl} {k : Sl → List Sl → Prop} {O : Out}
theorem x_seq {t u : TS} (h : ExS K t Γ { O with nx := fun Γ1 => ExS K u Γ1 O }) : ExS K (tSeq t u) Γ O := fun σ S H fs D w e =>
  h σ S H fs { D with nx := u D } w ⟨fun σ' Γ' S' H' fs' ho w' st => ho σ' S' H' fs' D w' (e.step st), e.rt, e.bk, e.ct⟩
theorem x_next (h : O.nx Γ) : ExS K tNext Γ O := fun σ S H fs D w e => e.nx σ Γ S H fs h w Step.refl
theorem x_ret {te : TE} (h : EvP K te Γ O.rt) : ExS K (tRet te) Γ O := fun σ S H fs D w e =>
  h σ S H fs _ w fun v r Γ' S' H' fr fs' hk w' st => e.rt v r σ Γ' S' H' fr fs' hk w' st
theorem x_expr {te : TE} (h : EvP K te Γ fun _ Γ1 => O.nx Γ1) : ExS K (tDrop te) Γ O := fun σ S H fs D w e =>
  h σ S H fs _ w fun v r Γ' S' H' fr fs' hk w' st => e.nx σ Γ' S' H' fs' hk w'.tl (st.sub fun a ha => List.mem_append_right _ ha)
theorem x_if {tt : TT} {t u : TS} (h : EvB K tt Γ fun b Γ1 => (b = true → ExS K t Γ1 O) ∧ (b = false → ExS K u Γ1 O)) : ExS K (tIfS tt t u) Γ O := fun σ S H fs D w e =>
  h σ S H fs _ w fun b Γ1 S1 H1 fs1 hk w1 st1 => by
    cases b with
    | true => exact hk.1 rfl σ S1 H1 fs1 D w1 (e.step st1)
    | false => exact hk.2 rfl σ S1 H1 fs1 D w1 (e.step st1)
def EvG (K : Frag) (g : TG) (s : Sl) (Γ : List Sl) (kn : List Sl → Prop) : Prop :=
  ∀ σ S H f fs v q, Wd K (some v :: σ) (s :: Γ) S H (f :: fs) → EndN K S H (f :: fs).flatten kn q → g v σ H q
theorem g_name {i : Nat} {s : Sl} {kn : List Sl → Prop} (h : kn (Γ.set i s)) : EvG K (gName i) s Γ kn := by
  intro σ S H f fs v q w e
  have gs : SatL K S H (σ.set i (some v)) (Γ.set i s) (fs.set i f) := w.tl.sat.set i w.hd
  have pm : (fs.set i f).flatten.Perm (f ++ (fs.set i []).flatten) ∨ (fs.set i f).flatten = fs.flatten := by
    by_cases hi : i < fs.length
    · left
      have q := flat_put (fs.set i []) i f (List.getElem?_set_self hi)
      rwa [List.set_set] at q
    · right
      rw [List.set_eq_of_length_le (Nat.le_of_not_lt hi)]
  have sub : ∀ a, a ∈ (fs.set i f).flatten → a ∈ (f :: fs).flatten := fun a ha => by
    rcases pm with p | p
    · rcases List.mem_append.mp (p.mem_iff.mp ha) with z | z
      · exact List.mem_append_left _ z
      · exact List.mem_append_right _ ((flat_set fs i f).subset z)
    · rw [p] at ha
      exact List.mem_append_right _ ha
  have gd : Good S H (fs.set i f).flatten := by
    rcases pm with p | p
    · refine Good.perm ?_ p.symm
      refine w.good.sublist ?_
      simp only [List.flatten_cons]
      exact (List.Sublist.refl _).append (flat_set fs i f)
    · rw [p]
      exact w.tl.good
  exact e _ _ S H _ h ⟨gd, gs⟩ (Step.refl.sub sub)
theorem x_asg {te : TE} {g : TG} (h : EvP K te Γ fun r Γ1 => EvG K g r Γ1 O.nx) : ExS K (tAsg te g) Γ O := fun σ S H fs D w e =>
  h σ S H fs _ w fun v r Γ' S' H' fr fs' hk w' st => hk σ S' H' fr fs' v _ w' (e.nx.step st)
def EvGs (K : Frag) (g : TGs) (ds : List PyData) (Γ : List Sl) (kn : List Sl → Prop) : Prop :=
  ∀ σ S H fs vs q, Wd K σ Γ S H fs → DdAll K S vs ds → EndN K S H fs.flatten kn q → g vs σ H q
theorem gs_nil {kn : List Sl → Prop} (h : kn Γ) : EvGs K gNil [] Γ kn := fun σ S H fs vs q w hd e => by
  cases hd
  exact ⟨rfl, e σ Γ S H fs h w Step.refl⟩
theorem gs_cons {g : TG} {gs : TGs} {d : PyData} {ds : List PyData} {kn : List Sl → Prop} (h : EvG K g (.dat d) Γ fun Γ1 => EvGs K gs ds Γ1 kn) : EvGs K (gCons g gs) (d :: ds) Γ kn := fun σ S H fs vs q w hd e => by
  cases hd with
  | cons h1 h2 =>
    refine ⟨_, _, rfl, h σ S H [] fs _ _ (w.put ⟨rfl, _, rfl, h1⟩) ?_⟩
    intro σ' Γ' S' H' fs' hk w' st
    have st' : Step S H fs.flatten S' H' fs'.flatten := by simpa using st
    exact hk σ' S' H' fs' _ q w' (Le.dps st'.le h2) (e.step st')
theorem g_tup {n : Nat} {gs : TGs} {ds : List PyData} {kn : List Sl → Prop} (hn : ds.length = n) (h : EvGs K gs ds Γ kn) : EvG K (gTup K n gs) (.dat (.tuple ds)) Γ kn := by
  intro σ S H f fs v q w e
  obtain ⟨e0, v', e1, hd⟩ := w.hd
  subst e0
  cases e1
  cases hd with
  | tup hs ha =>
    refine ⟨_, _, rfl, w.good.sub.sqT hs, by rw [dps_len ha]; exact hn, h σ S H fs _ q w.tl ha ?_⟩
    simpa using e
theorem x_par {i j : Nat} {ta : TA} (hij : i ≠ j) (h : EvA K ta Γ fun rs Γ1 => ∃ s1 s2, rs = [s1, s2] ∧ EvG K (gName i) s1 Γ1 fun Γ2 => EvG K (gName j) s2 Γ2 O.nx) : ExS K (tPar i j ta) Γ O := by
  intro σ S H fs D w e
  refine h σ S H fs _ w fun vs rs Γ1 S1 H1 frs fs1 hk l1 l2 w1 st1 => ?_
  obtain ⟨s1, s2, rfl, hk⟩ := hk
  match vs, frs, l1, l2, w1, st1 with
  | [v, u], [f1, f2], _, _, w1, st1 =>
    refine ⟨v, u, rfl, ?_⟩
    have w1' : Wd K (some v :: some u :: σ) (s1 :: s2 :: Γ1) S1 H1 (f1 :: f2 :: fs1) := w1
    have wsw : Wd K (some u :: some v :: σ) (s2 :: s1 :: Γ1) S1 H1 (f2 :: f1 :: fs1) := by
      refine ⟨w1'.good.perm ?_, .cons w1'.tl.hd (.cons w1'.hd w1'.tl.tl.sat)⟩
      simp only [List.flatten_cons]
      rw [← List.append_assoc, ← List.append_assoc]
      exact List.perm_append_comm.append_right _
    have mm : ∀ a, a ∈ (f2 :: f1 :: fs1).flatten ↔ a ∈ (f1 :: f2 :: fs1).flatten := fun a => by
      simp only [List.flatten_cons, List.mem_append]
      constructor <;> (intro q; rcases q with q | q | q <;> simp [q])
    have hw1 : Wd K (some v :: σ) (s1 :: Γ1) S1 H1 (f1 :: fs1) := wsw.tl
    refine hk σ S1 H1 f1 fs1 v (fun σ' H' => D.nx (σ'.set j (some u)) H') hw1 ?_
    intro σ2 Γ2 S2 H2 fs2 hk2 w2 st2
    obtain ⟨w3, st3⟩ := frame (ts := [some u]) (Θ := [s2]) (ft := [f2]) rfl rfl wsw w2 st2
    have w3' : Wd K (some u :: σ2) (s2 :: Γ2) S2 H2 (f2 :: fs2) := w3
    refine hk2 σ2 S2 H2 f2 fs2 u (fun σ' H' => D.nx σ' H') w3' ?_
    have q1 : Step S1 H1 (f1 :: f2 :: fs1).flatten S2 H2 (f2 :: fs2).flatten := st3.weak fun a ha => (mm a).mp ha
    exact e.nx.step (st1.trans q1)
  | [], _, l1, _, _, _ => simp at l1
  | [_], _, l1, _, _, _ => simp at l1
  | _ :: _ :: _ :: _, _, l1, _, _, _ => simp at l1
  | [_, _], [], _, l2, _, _ => simp at l2
  | [_, _], [_], _, l2, _, _ => simp at l2
  | [_, _], _ :: _ :: _ :: _, _, l2, _, _ => simp at l2
def seqD : PyData → Option (List PyData)
  | .list ds => some ds
  | .tuple ds => some ds
  | _ => none
theorem dps_get {S : Hp} : ∀ {vs : List V} {ds : List PyData} {i : Nat} {v : V}, DdAll K S vs ds → vs[i]? = some v → ∃ d, ds[i]? = some d ∧ Dd K S v d
  | _, _, 0, _, .cons h _, e => by
    simp only [List.getElem?_cons_zero, Option.some.injEq] at e
    subst e
    exact ⟨_, rfl, h⟩
  | _, _, i + 1, _, .cons _ h, e => by
    simp only [List.getElem?_cons_succ] at e
    obtain ⟨d, h1, h2⟩ := dps_get h e
    exact ⟨d, by simpa using h1, h2⟩
  | _, _, _, _, .nil, e => by simp at e
theorem dps_get' {S : Hp} : ∀ {vs : List V} {ds : List PyData} {i : Nat} {d : PyData}, DdAll K S vs ds → ds[i]? = some d → ∃ v, vs[i]? = some v ∧ Dd K S v d
  | _, _, 0, _, .cons h _, e => by
    simp only [List.getElem?_cons_zero, Option.some.injEq] at e
    subst e
    exact ⟨_, rfl, h⟩
  | _, _, i + 1, _, .cons _ h, e => by
    simp only [List.getElem?_cons_succ] at e
    obtain ⟨d, h1, h2⟩ := dps_get' h e
    exact ⟨d, by simpa using h1, h2⟩
  | _, _, _, _, .nil, e => by simp at e
def EvI (K : Frag) (wi : TI) (Γ : List Sl) (ki : (Nat → Sl) → Nat → (List Sl → Prop) → List Sl → Prop) : Prop :=
  ∀ σ S H fs R, Wd K σ Γ S H fs → (∀ (J : It) (f : Nat → Sl) (n : Nat) (G : List Sl → Prop) Γ1 S1 H1 fs1, (∀ s Γ, G Γ → G (s :: Γ)) → ki f n G Γ1 → Wd K σ Γ1 S1 H1 fs1 → Step S H fs.flatten S1 H1 fs1.flatten →
    (∀ i σ2 Γ2 S2 H2 fs2, i ≤ n → G Γ2 → Wd K σ2 Γ2 S2 H2 fs2 → Step S1 H1 fs1.flatten S2 H2 fs2.flatten →
      (i < n → J.go i H2 ∧ ∀ x H', J.yld i H2 x H' → ∃ S', Wd K (some x :: σ2) (f i :: Γ2) S' H' ([] :: fs2) ∧ Step S2 H2 fs2.flatten S' H' fs2.flatten) ∧ (i = n → J.stop i H2)) → R J H1) → wi σ H R
theorem x_for {wi : TI} {g : TG} {tb : TS} (h : EvI K wi Γ fun f n G Γ1 => ∃ W : Nat → List Sl → Prop, W 0 Γ1 ∧ (∀ i Γ, i ≤ n → W i Γ → G Γ) ∧
    (∀ i Γ, i < n → W i Γ → EvG K g (f i) Γ fun Γ2 => ExS K tb Γ2 { O with nx := W (i + 1), ct := W (i + 1), bk := O.nx }) ∧ (∀ Γ, W n Γ → O.nx Γ)) : ExS K (tFor wi g tb) Γ O := by
  intro σ S H fs D w e
  refine h σ S H fs _ w fun J f n G Γ1 S1 H1 fs1 hG hk w1 st1 tn => ?_
  obtain ⟨W, h0, hWG, hs, hd⟩ := hk
  refine ⟨fun i m σ2 H2 => m = n - i ∧ i ≤ n ∧ ∃ Γ2 S2 fs2, W i Γ2 ∧ Wd K σ2 Γ2 S2 H2 fs2 ∧ Step S1 H1 fs1.flatten S2 H2 fs2.flatten, ⟨n, by simp, Nat.zero_le _, Γ1, S1, fs1, h0, w1, Step.refl⟩, ?_⟩
  rintro i m σ2 H2 ⟨rfl, hi, Γ2, S2, fs2, hW, w2, st2⟩
  obtain ⟨t1, t2⟩ := tn i σ2 Γ2 S2 H2 fs2 hi (hWG i Γ2 hi hW) w2 st2
  by_cases hlt : i < n
  · obtain ⟨hgo, hy⟩ := t1 hlt
    refine .inr ⟨hgo, fun σ' H' => ∃ Γ2 S2 fs2, W (i + 1) Γ2 ∧ Wd K σ' Γ2 S2 H' fs2 ∧ Step S1 H1 fs1.flatten S2 H' fs2.flatten, fun σ' H' q => ⟨n - (i + 1), by omega, rfl, hlt, q⟩, fun x H' y => ?_⟩
    obtain ⟨S', w3, st3⟩ := hy x H' y
    refine hs i Γ2 hlt hW σ2 S' H' [] fs2 x _ w3 ?_
    intro σ4 Γ4 S4 H4 fs4 hk4 w4 st4
    have st4' : Step S' H' fs2.flatten S4 H4 fs4.flatten := by simpa using st4
    have sA := (st2.trans st3).trans st4'
    have sB := st1.trans sA
    refine hk4 σ4 S4 H4 fs4 _ w4 ⟨?_, e.rt.step sB, e.nx.step sB, ?_⟩
    all_goals
      intro σ5 Γ5 S5 H5 fs5 hk5 w5 st5
      exact ⟨Γ5, S5, fs5, hk5, w5, sA.trans st5⟩
  · have e1 : i = n := by omega
    subst e1
    exact .inl ⟨t2 rfl, (e.nx.step (st1.trans st2)) σ2 Γ2 S2 H2 fs2 (hd Γ2 hW) w2 Step.refl⟩
theorem i_rng1 {ta : TA} {ki : (Nat → Sl) → Nat → (List Sl → Prop) → List Sl → Prop} (h : EvA K ta Γ fun rs Γ1 => ∃ j : Int, rs = [.dat (.int j)] ∧ -(2 ^ 62) ≤ j ∧ j < 2 ^ 62 ∧ ki (fun i => .dat (.int (i : Int))) j.toNat (fun _ => True) Γ1) : EvI K (iRng1 ta) Γ ki := by
  intro σ S H fs R w P
  refine h σ S H fs _ w fun vs rs Γ1 S1 H1 frs fs1 hb l1 l2 w1 st1 => ?_
  obtain ⟨j, rfl, hj1, hj2, hk⟩ := hb
  match vs, frs, l1, l2, w1, st1 with
  | [v], [f], _, _, w1, st1 =>
    have w1' : Wd K (some v :: σ) (.dat (.int j) :: Γ1) S1 H1 (f :: fs1) := w1
    obtain ⟨e0, v', e1, hd⟩ := w1'.hd
    subst e0
    cases e1; cases hd
    refine ⟨j, rfl, hj1, hj2, P _ _ _ _ Γ1 S1 H1 fs1 (fun _ _ h => h) hk w1'.tl (by simpa using st1) fun i σ2 Γ2 S2 H2 fs2 hi _ w2 st2 => ⟨fun hlt => ⟨hlt, fun x H' y => ?_⟩, fun he => Nat.le_of_eq he.symm⟩⟩
    obtain ⟨rfl, rfl⟩ := y
    exact ⟨S2, w2.put ⟨rfl, _, rfl, by simpa using Dd.int (K := K) (H := S2) (i : Int)⟩, Step.refl⟩
  | [], _, l1, _, _, _ => simp at l1
  | _ :: _ :: _, _, l1, _, _, _ => simp at l1
  | [_], [], _, l2, _, _ => simp at l2
  | [_], _ :: _ :: _, _, l2, _, _ => simp at l2
theorem i_rng2 {ta : TA} {ki : (Nat → Sl) → Nat → (List Sl → Prop) → List Sl → Prop} (h : EvA K ta Γ fun rs Γ1 => ∃ lo hi : Int, rs = [.dat (.int lo), .dat (.int hi)] ∧ (-(2 ^ 62) ≤ lo ∧ lo < 2 ^ 62 ∧ -(2 ^ 62) ≤ hi ∧ hi < 2 ^ 62) ∧ ki (fun i => .dat (.int (lo + (i : Int)))) (hi - lo).toNat (fun _ => True) Γ1) : EvI K (iRng2 ta) Γ ki := by
  intro σ S H fs R w P
  refine h σ S H fs _ w fun vs rs Γ1 S1 H1 frs fs1 hb l1 l2 w1 st1 => ?_
  obtain ⟨lo, hi, rfl, hj, hk⟩ := hb
  match vs, frs, l1, l2, w1, st1 with
  | [v, u], [f, f'], _, _, w1, st1 =>
    have w1' : Wd K (some v :: some u :: σ) (.dat (.int lo) :: .dat (.int hi) :: Γ1) S1 H1 (f :: f' :: fs1) := w1
    obtain ⟨e0, v', e1, hd⟩ := w1'.hd
    obtain ⟨e0', u', e1', hd'⟩ := w1'.tl.hd
    subst e0 e0'
    cases e1; cases hd; cases e1'; cases hd'
    refine ⟨lo, hi, rfl, hj, P _ _ _ _ Γ1 S1 H1 fs1 (fun _ _ h => h) hk w1'.tl.tl (by simpa using st1) fun i σ2 Γ2 S2 H2 fs2 hi _ w2 st2 => ⟨fun hlt => ⟨hlt, fun x H' y => ?_⟩, fun he => Nat.le_of_eq he.symm⟩⟩
    obtain ⟨rfl, rfl⟩ := y
    exact ⟨S2, w2.put ⟨rfl, _, rfl, Dd.int _⟩, Step.refl⟩
  | [], _, l1, _, _, _ => simp at l1
  | [_], _, l1, _, _, _ => simp at l1
  | _ :: _ :: _ :: _, _, l1, _, _, _ => simp at l1
  | [_, _], [], _, l2, _, _ => simp at l2
  | [_, _], [_], _, l2, _, _ => simp at l2
  | [_, _], _ :: _ :: _ :: _, _, l2, _, _ => simp at l2
end Dl
namespace Dl
open PySem L2
def iSq (K : Frag) (tl : TE) : TI := fun σ H R => tl σ H fun x H1 => (∃ a xs, x = .ref a ∧ SqL K H1 a xs ∧ (xs.length ≤ sizeLine → R (Itl K a) H1)) ∨ ∃ a xs, x = .ref a ∧ SqT K H1 a xs ∧ (xs.length ≤ sizeLine → R (Itt K a) H1)
section
variable {X : Cx} {tg : Expr}
theorem pi_sq {l : Expr} {tl : TE} (hl : PE X l tl) : PI X tg l (iSq X.K tl) := by
  refine ⟨fun pins s σ H R I h => ?_⟩
  refine thn (hl.run pins s σ H _ I h) fun v s1 ⟨x, H1, I1, r1, q1⟩ => ?_
  rcases q1 with ⟨a, xs, e, hq, q⟩ | ⟨a, xs, e, hq, q⟩
  · subst e
    cases r1
    obtain ⟨its, rv, p, hz⟩ := I1.list hq
    refine wpAny_pyIter_list p.isList ?_
    refine ⟨s1.heap.objs.size, [s1.heap.objs.size], _, _, H1, rfl, I1.kept (t' := s1.toks) fun b o e => Heap.get?_push_of_some _ e, turn_list a _, ⟨_, Heap.get?_push_size _ rfl, rfl, rfl⟩, fun b hb => ?_, q hz⟩
    have e : b = s1.heap.objs.size := by simpa using hb
    subst e
    exact I1.fpOk (Nat.le_refl _) (I1.hok.fresh (Nat.le_refl _))
  · subst e
    cases r1
    obtain ⟨its, rv, p, hz⟩ := I1.tuple hq
    refine wpAny_pyIter_tuple (show s1.heap.IsTuple a its.toArray from p) ?_
    refine ⟨s1.heap.objs.size, [s1.heap.objs.size], _, _, H1, rfl, I1.kept (t' := s1.toks) fun b o e => Heap.get?_push_of_some _ e, turn_tuple a _, ⟨_, Heap.get?_push_size _ rfl, rfl, rfl⟩, fun b hb => ?_, q hz⟩
    have e : b = s1.heap.objs.size := by simpa using hb
    subst e
    exact I1.fpOk (Nat.le_refl _) (I1.hok.fresh (Nat.le_refl _))
end
variable {K : Frag} {Γ : List Sl} {k : Sl → List Sl → Prop} {O : Out}
theorem i_sq {tl : TE} {ki : (Nat → Sl) → Nat → (List Sl → Prop) → List Sl → Prop} (h : EvP K tl Γ fun r Γ1 => ∃ d ds, r = .dat d ∧ seqD d = some ds ∧ (ds.length ≤ sizeLine → ki (fun i => .dat (ds.getD i .none)) ds.length (fun _ => True) Γ1)) : EvI K (iSq K tl) Γ ki := by
  intro σ S H fs R w P
  refine h σ S H fs _ w fun v r Γ1 S1 H1 f1 fs1 hb w1 st1 => ?_
  obtain ⟨d, ds, rfl, hs, hk⟩ := hb
  obtain ⟨e0, v', e1, hd⟩ := w1.hd
  subst e0
  cases e1
  have turns : ∀ (vs : List V), DdAll K S1 vs ds → ∀ i (S2 H2 : Hp) (σ2 : List (Option V)) (Γ2 : List Sl) (fs2 : List (List Addr)) (x : V), Le S1 S2 → Wd K σ2 Γ2 S2 H2 fs2 → vs[i]? = some x → Wd K (some x :: σ2) (.dat (ds.getD i .none) :: Γ2) S2 H2 ([] :: fs2) := fun vs ha i S2 H2 σ2 Γ2 fs2 x l w2 hx => by
    obtain ⟨d', h1, h2⟩ := dps_get ha hx
    refine w2.put ⟨rfl, x, rfl, ?_⟩
    rw [List.getD_eq_getElem?_getD, h1]
    exact l.dp h2
  cases hd with
  | lst h1 ha =>
    cases hs
    have hl := dps_len ha
    refine .inl ⟨_, _, rfl, w1.good.sub.sqL (.inl h1), fun hz => P _ _ _ _ Γ1 S1 H1 fs1 (fun _ _ h => h) (hk (by omega)) w1.tl (by simpa using st1) fun i σ2 Γ2 S2 H2 fs2 hi _ w2 st2 => ⟨fun hlt => ?_, fun he => ?_⟩⟩
    · have hq : SqL K H2 _ _ := w2.good.sub.sqL (st2.le.sqL (.inl h1))
      refine ⟨⟨_, _, hq, List.getElem?_eq_getElem (by omega)⟩, fun x H' y => ?_⟩
      obtain ⟨rfl, y⟩ := y
      exact ⟨S2, turns _ ha i S2 _ σ2 Γ2 fs2 x st2.le w2 (y _ hq), Step.refl⟩
    · exact ⟨_, w2.good.sub.sqL (st2.le.sqL (.inl h1)), by omega⟩
  | tup h1 ha =>
    cases hs
    have hl := dps_len ha
    refine .inr ⟨_, _, rfl, w1.good.sub.sqT h1, fun hz => P _ _ _ _ Γ1 S1 H1 fs1 (fun _ _ h => h) (hk (by omega)) w1.tl (by simpa using st1) fun i σ2 Γ2 S2 H2 fs2 hi _ w2 st2 => ⟨fun hlt => ?_, fun he => ?_⟩⟩
    · have hq := w2.good.sub.sqT (st2.le.sqT h1)
      refine ⟨⟨_, _, hq, List.getElem?_eq_getElem (by omega)⟩, fun x H' y => ?_⟩
      obtain ⟨rfl, y⟩ := y
      exact ⟨S2, turns _ ha i S2 _ σ2 Γ2 fs2 x st2.le w2 (y _ hq), Step.refl⟩
    · exact ⟨_, w2.good.sub.sqT (st2.le.sqT h1), by omega⟩
  | _ => cases hs
def ownL (a : Addr) (xs : List PyData) : Res where
  v := .ref a
  p := fun K S H fp => fp = [a] ∧ ∃ vs, H a = some (.lst vs) ∧ DdAll K S vs xs
  loc := fun ⟨h1, vs, h2, h3⟩ l k => ⟨h1, vs, by rw [k _ (by simp [h1])]; exact h2, Le.dps l h3⟩
theorem allocOwn {σ : List (Option V)} {S H : Hp} {fs : List (List Addr)} {p : Addr} {vs : List V} {xs : List PyData} (w : Wd K σ Γ S H fs) (hp : H p = none) (hd : DdAll K S vs xs) :
    Wd K (some (.ref p) :: σ) (.res (ownL p xs) :: Γ) S (upd H p (.lst vs)) ([p] :: fs) ∧ Step S H fs.flatten S (upd H p (.lst vs)) ([p] :: fs).flatten := by
  have nS : S p = none := w.good.sub.none hp
  have nF : ∀ a ∈ fs.flatten, a ≠ p := fun a ha e => w.good.al a ha (by rw [e]; exact hp)
  have leH : Le H (upd H p (.lst vs)) := fun a u e => by rw [upd_ne (ne_of_none e hp)]; exact e
  refine ⟨⟨⟨w.good.sub.trans leH, ?_, fun a ha => ?_, fun a ha => ?_⟩, .cons ⟨rfl, rfl, vs, upd_same, hd⟩ (w.sat.step (Le.refl _) fun a ha => upd_ne (nF a ha))⟩, Le.refl _, fun a u e _ => leH a u e, fun a e => .inl e, fun a ha => ?_, fun a e => ?_⟩
  · simp only [List.flatten_cons]
    exact List.nodup_cons.mpr ⟨fun q => nF p q rfl, w.good.nd⟩
  · rcases List.mem_cons.mp (show a ∈ p :: fs.flatten by simpa using ha) with rfl | q
    · exact nS
    · exact w.good.dis a q
  · rcases List.mem_cons.mp (show a ∈ p :: fs.flatten by simpa using ha) with rfl | q
    · rw [upd_same]; simp
    · rw [upd_ne (nF a q)]
      exact w.good.al a q
  · rcases List.mem_cons.mp (show a ∈ p :: fs.flatten by simpa using ha) with rfl | q
    · exact .inl hp
    · exact .inr q
  · by_cases q : a = p
    · subst q
      rw [upd_same]
      simp
    · rw [upd_ne q]
      exact e
theorem freezeW {σ : List (Option V)} {S H : Hp} {f : List Addr} {fs : List (List Addr)} {a : Addr} {xs : List PyData} {v : V} (w : Wd K (some v :: σ) (.res (ownL a xs) :: Γ) S H (f :: fs)) :
    ∃ S', Wd K (some v :: σ) (.dat (.list xs) :: Γ) S' H ([] :: fs) ∧ Step S H (f :: fs).flatten S' H fs.flatten := by
  obtain ⟨e1, e2, vs, e3, hd⟩ := w.hd
  have e2 : f = [a] := e2
  have e3 : H a = some (.lst vs) := e3
  subst e2
  cases e1
  have nS : S a = none := w.good.dis a (by simp)
  have le : Le S (upd S a (.lst vs)) := fun b u e => by rw [upd_ne (ne_of_none e nS)]; exact e
  have nd := w.good.nd
  simp only [List.flatten_cons] at nd
  have nF : ∀ b ∈ fs.flatten, b ≠ a := fun b hb e => (List.nodup_cons.mp nd).1 (e ▸ hb)
  refine ⟨upd S a (.lst vs), ⟨⟨fun b u e => ?_, ?_, fun b hb => ?_, fun b hb => w.good.al b ?_⟩, .cons ⟨rfl, _, rfl, dp_lst_new nS hd⟩ (w.tl.sat.step le fun _ _ => rfl)⟩, le, fun _ _ e _ => e, fun b e => ?_, fun b hb => .inr ?_, fun _ e => e⟩
  · by_cases q : b = a
    · subst q
      rw [upd_same] at e
      exact e3.trans e
    · rw [upd_ne q] at e
      exact w.good.sub b u e
  · simpa using w.tl.good.nd
  · have hb' : b ∈ fs.flatten := by simpa using hb
    rw [upd_ne (nF b hb')]
    exact w.tl.good.dis b hb'
  · simpa using Or.inr (by simpa using hb)
  · by_cases q : b = a
    · subst q
      exact .inr (.inr (by simp))
    · rw [upd_ne q] at e
      exact .inl e
  · simp only [List.flatten_cons]
    exact List.mem_append_right _ hb
theorem upd_own {σ : List (Option V)} {S H : Hp} {fs : List (List Addr)} {j : Nat} {a : Addr} {xs ys : List PyData} {ws : List V} (w : Wd K σ Γ S H fs) (hj : Γ[j]? = some (.res (ownL a xs))) (hd : DdAll K S ws ys) :
    Wd K σ (Γ.set j (.res (ownL a ys))) S (upd H a (.lst ws)) fs ∧ Step S H fs.flatten S (upd H a (.lst ws)) fs.flatten := by
  obtain ⟨x, fp, hx, hf, e1, e2, vs, e3, hv⟩ := w.sat.get hj
  have e2 : fp = [a] := e2
  have e3 : H a = some (.lst vs) := e3
  subst e2
  have pm := flat_take fs j [a] hf
  have gp := w.good.perm pm
  have nd := gp.nd
  have aF : a ∈ fs.flatten := pm.mem_iff.mpr (by simp)
  have nS : S a = none := w.good.dis a aF
  have nF : ∀ b ∈ (fs.set j []).flatten, b ≠ a := fun b hb e => (List.nodup_cons.mp nd).1 (e ▸ hb)
  have sat1 : SatL K S H σ (Γ.set j .no) (fs.set j []) := by
    have q := w.sat.set (x := x) (s := .no) (fp := []) j rfl
    rwa [setSame hx] at q
  have sat2 := sat1.step (Le.refl S) (H' := upd H a (.lst ws)) fun b hb => upd_ne (nF b hb)
  have sat3 := sat2.set (x := x) (s := .res (ownL a ys)) (fp := [a]) j ⟨e1, rfl, ws, upd_same, hd⟩
  rw [setSame hx, List.set_set, List.set_set, setSame hf] at sat3
  refine ⟨⟨⟨fun b u e => ?_, w.good.nd, w.good.dis, fun b hb => ?_⟩, sat3⟩, Le.refl _, fun b u e n => ?_, fun b e => .inl e, fun b hb => .inr hb, fun b e => ?_⟩
  · rw [upd_ne (ne_of_none e nS)]
    exact w.good.sub b u e
  · by_cases q : b = a
    · subst q; rw [upd_same]; simp
    · rw [upd_ne q]; exact w.good.al b hb
  · rw [upd_ne fun q => n (by rw [q]; exact aF)]
    exact e
  · by_cases q : b = a
    · subst q; rw [upd_same]; simp
    · rw [upd_ne q]; exact e
end Dl
namespace Dl
open PySem PySem.Spec PyProof.Rows L2
section
variable {X : Cx} {x : Str} {j k : Nat} {ps : List Str} {sp : Sp} {p pos : Pos} {e : Expr} {es : List Expr} {t : TA}
theorem pe_gc {v : V} (hg : Gl X x) (hm : ∃ u, X.mg x = some u ∧ RelV v u) (hd : (x == ("__debug__" : Str)) = false := by decide) : PE X (.Name x pos) (tC v) := by
  obtain ⟨u, h1, h2⟩ := hm
  exact pe_glob hg h1 h2 hd
end
def rAddS : R2 := fun x y H Q => ∃ i j, x = .str i ∧ y = .str j ∧ i.length + j.length ≤ sizeLine ∧ Q (.str (i ++ j)) H
def rCatR : R2 := fun x y H Q => ∃ l b xs zs, x = .ref l ∧ y = .ref b ∧ Rd H l (.lst xs) ∧ Rd H b (.lst zs) ∧ xs.length + zs.length ≤ sizeLine ∧ ∀ p, H p = none → Q (.ref p) (upd H p (.lst (xs ++ zs)))
def uAdd (K : Frag) : R2 := fun x y H Q => rI0 (fun i j => .int (i + j)) x y H Q ∨ (rAddS x y H Q ∨ (rCatR x y H Q ∨ rCatA K x y H Q))
def uSub (K : Frag) : R2 := rI0 fun i j => .int (i - j)
def uMul (K : Frag) : R2 := fun x y H Q => rI CMul (fun i j => .int (i * j)) x y H Q ∨ (rI CMulW (fun i j => .int (i * j)) x y H Q ∨ rRep x y H Q)
def uFDiv (K : Frag) : R2 := fun x y H Q => rI CDiv (fun i j => .int (i / j)) x y H Q ∨ rI CDivW (fun i j => .int (i / j)) x y H Q
def uMod (K : Frag) : R2 := rI (fun _ j => 0 < j) fun i j => .int (i % j)
def uPow (K : Frag) : R2 := rI CPow fun i j => .int (i ^ j.toNat)
def rIsNn : R2 := fun x y H Q => y = .non ∧ Q (.bl (decide (x = .non))) H
def rNotNn : R2 := fun x y H Q => y = .non ∧ Q (.bl (!decide (x = .non))) H
def rIsRf : R2 := fun x y H Q => ∃ a b oa ob, x = .ref a ∧ y = .ref b ∧ H a = some oa ∧ isObj oa = true ∧ H b = some ob ∧ isObj ob = true ∧ Q (.bl (decide (a = b))) H
def rNotRf : R2 := fun x y H Q => ∃ a b oa ob, x = .ref a ∧ y = .ref b ∧ H a = some oa ∧ isObj oa = true ∧ H b = some ob ∧ isObj ob = true ∧ Q (.bl (!decide (a = b))) H
def uIs (K : Frag) : R2 := fun x y H Q => rIsNn x y H Q ∨ (rIsB x y H Q ∨ rIsRf x y H Q)
def uIsNot (K : Frag) : R2 := fun x y H Q => rNotNn x y H Q ∨ (rNotB x y H Q ∨ rNotRf x y H Q)
def rInStr : R2 := fun x y H Q => ∃ i j, x = .str i ∧ y = .str j ∧ Q (.bl (!(Builtin.Str.occurrences j i 0 j.length 1).isEmpty)) H
def rNiStr : R2 := fun x y H Q => ∃ i j, x = .str i ∧ y = .str j ∧ Q (.bl (!(!(Builtin.Str.occurrences j i 0 j.length 1).isEmpty))) H
def uIn (K : Frag) : R2 := fun x y H Q => rIn K false x y H Q ∨ (rInStr x y H Q ∨ rInD K x y H Q)
def uNotIn (K : Frag) : R2 := fun x y H Q => rIn K true x y H Q ∨ (rNiStr x y H Q ∨ rNotInD K x y H Q)
def rLtS : R2 := fun x y H Q => ∃ i j, x = .str i ∧ y = .str j ∧ Q (.bl (decide (i.cps.toList < j.cps.toList))) H
def uLt (K : Frag) : R2 := fun x y H Q => rI0 (fun i j => .bl (decide (i < j))) x y H Q ∨ rLtS x y H Q
def uLe (K : Frag) : R2 := rI0 fun i j => .bl (decide (i ≤ j))
def uGt (K : Frag) : R2 := rI0 fun i j => .bl (decide (j < i))
def uGe (K : Frag) : R2 := rI0 fun i j => .bl (decide (j ≤ i))
def uEq (K : Frag) : R2 := rEqD K
def uNe (K : Frag) : R2 := rNeD K
def uIx (K : Frag) : R2 := rIx K
def rSlU (K : Frag) : V → Option Int → Option Int → Hp → VK → Prop := fun x lo hi H Q => rSlL K x lo hi H Q ∨ (rSlA K x lo hi H Q ∨ rSlS x lo hi H Q)
def rLen (K : Frag) : List V → Hp → VK → Prop := fun xs H Q => ∃ x n, xs = [x] ∧ LenV K x H n ∧ Q (.int n) H
def rIsiU (K : Frag) : List V → Hp → VK → Prop := fun xs H Q => rIsi K xs H Q ∨ (rIsiT K xs H Q ∨ rIsiK K xs H Q)
def rMax2 : List V → Hp → VK → Prop := fun xs H Q => ∃ i j, xs = [.int i, .int j] ∧ Q (.int (if j > i then j else i)) H
def rMin2 : List V → Hp → VK → Prop := fun xs H Q => ∃ i j, xs = [.int i, .int j] ∧ Q (.int (if j < i then j else i)) H
def rMaxU (K : Frag) : List V → Hp → VK → Prop := fun xs H Q => rMax2 xs H Q ∨ rMax K xs H Q
def rMinU (K : Frag) : List V → Hp → VK → Prop := fun xs H Q => rMin2 xs H Q ∨ rMin K xs H Q
def rAbs (_ : Frag) : List V → Hp → VK → Prop := fun xs H Q => ∃ i, xs = [.int i] ∧ Q (.int (if i < 0 then -i else i)) H
def rInt1 (_ : Frag) : List V → Hp → VK → Prop := fun xs H Q => (∃ i, xs = [.int i] ∧ Q (.int i) H) ∨ ∃ k, xs = [.bl k] ∧ Q (.int (if k then 1 else 0)) H
def rListU (K : Frag) : List V → Hp → VK → Prop := fun xs H Q => ∃ p ys, xs = [.ref p] ∧ (SqL K H p ys ∨ SqT K H p ys) ∧ ∀ l, H l = none → Q (.ref l) (upd H l (.lst ys))
def rTupU (K : Frag) : List V → Hp → VK → Prop := fun xs H Q => ∃ p ys, xs = [.ref p] ∧ ((SqL K H p ys ∧ ∀ l, H l = none → Q (.ref l) (upd H l (.tup ys))) ∨ (SqT K H p ys ∧ Q (.ref p) H))
section
variable {X : Cx} {k : Nat}
theorem op_catR : OpR X (binaryOp .Add) rCatR := by
  intro pins s σ H x y v u Q I rx ry h
  obtain ⟨l, b, xs, zs, rfl, rfl, hH, hB, hz, q⟩ := h
  cases rx
  cases ry
  obtain ⟨z, its, n, r, e⟩ := hH.ok I.hok
  obtain ⟨z2, its2, n2, r2, e2⟩ := hB.ok I.hok
  have l1 := r.length
  have l2 := r2.length
  refine PySem.P.add_list e e2 ?_ (by rw [List.size_toArray, List.size_toArray]; omega)
  have ea : its.toArray ++ its2.toArray = (its ++ its2).toArray := by simp
  rw [ea]
  exact ⟨.ref _, _, I.lnew (t' := s.toks) (r.append r2) (by rw [List.length_append]; omega), rfl, q _ I.fresh⟩
theorem opAdd : OpR X (binaryOp .Add) (uAdd X.K) := op_add.or (op_add_str.or (op_catR.or op_catA))
theorem opSub : OpR X (binaryOp .Sub) (uSub X.K) := op_sub
theorem opMul : OpR X (binaryOp .Mult) (uMul X.K) := op_mul.or (op_mulW.or op_rep)
theorem opFDiv : OpR X (binaryOp .FloorDiv) (uFDiv X.K) := op_fdiv.or op_fdivW
theorem opMod : OpR X (binaryOp .Mod) (uMod X.K) := op_mod
theorem opPow : OpR X (binaryOp .Pow) (uPow X.K) := op_pow
theorem opIs (hr : Room k X.A) : OpR X (compareOp .Is) (uIs X.K) := op_isN.or (op_isBl.or op_is_ref)
theorem opIsNot (hr : Room k X.A) : OpR X (compareOp .IsNot) (uIsNot X.K) := op_notN.or (op_notBl.or op_isnot_ref)
theorem opLt (hr : Room k X.A) : OpR X (compareOp .Lt) (uLt X.K) := op_lt.or op_lt_str
theorem opLe (hr : Room k X.A) : OpR X (compareOp .LtE) (uLe X.K) := op_le
theorem opGe (hr : Room k X.A) : OpR X (compareOp .GtE) (uGe X.K) := op_ge
theorem opEq (hr : Room k X.A) : OpR X (compareOp .Eq) (uEq X.K) := op_eqD hr.units
theorem opNe (hr : Room k X.A) : OpR X (compareOp .NotEq) (uNe X.K) := op_neD hr.units
theorem ixU : IxR X (uIx X.K) := ix_seq
theorem cIsi : CallR X (.builtin "isinstance") (rIsiU X.K) := call_isi.or (call_isiT.or call_isiK)
theorem cMax (hc : X.calm = true := by rfl) : CallR X (.builtin "max") (rMaxU X.K) := (call_max2 hc).or (cr_max hc)
theorem cList : CallR X (.type "list") (rListU X.K) := call_list_of
theorem cTuple : CallR X (.type "tuple") (rTupU X.K) := call_tuple_of
end
end Dl
namespace PySem
end PySem
namespace Dl
open PySem PySem.Spec PyProof.Rows L2
def sqB (b : Bool) (K : Frag) (H : Hp) (a : Addr) (xs : List V) : Prop := if b then SqL K H a xs else SqT K H a xs
def itB (b : Bool) (h : Heap) (it a : Addr) (i : Nat) : Prop := if b then h.IsListIter it a i else h.IsTupleIter it a i
def isB (b : Bool) (h : Heap) (a : Addr) (its : Array Value) : Prop := if b then h.IsList a its else h.IsTuple a its
theorem isB_lt {b : Bool} {h : Heap} {a : Addr} {its : Array Value} (x : isB b h a its) : ∃ o, h.get? a = some o := by
  cases b with
  | true => obtain ⟨o, e, _⟩ := (show h.IsList a its from x); exact ⟨o, e⟩
  | false => obtain ⟨o, e, _⟩ := (show h.IsTuple a its from x); exact ⟨o, e⟩
theorem itB_obj {b : Bool} {h : Heap} {it a : Addr} {i : Nat} (x : itB b h it a i) : ∃ o, h.get? it = some o ∧ ∀ v, o.data ≠ .cell v := by
  cases b with
  | true => obtain ⟨o, e, _, d⟩ := (show h.IsListIter it a i from x); exact ⟨o, e, fun v q => by rw [d] at q; cases q⟩
  | false => obtain ⟨o, e, _, d⟩ := (show h.IsTupleIter it a i from x); exact ⟨o, e, fun v q => by rw [d] at q; cases q⟩
theorem itB_at {b : Bool} {h h' : Heap} {it a : Addr} {i : Nat} (x : itB b h it a i) (k : ∀ o, h.get? it = some o → h'.get? it = some o) : itB b h' it a i := by
  cases b with
  | true => exact Heap.IsListIter.at (show h.IsListIter it a i from x) k
  | false => exact Heap.IsTupleIter.at (show h.IsTupleIter it a i from x) k
theorem drawsB (b : Bool) {prog : Program} {w : World} {A : Around} (hh : A.handled = none) (it l : Addr) (hne : l ≠ it) (items : Array Value) :
    Draws prog w A it [it, l] items.size (fun i v => items[i]? = some v) (fun i h => itB b h it l i ∧ isB b h l items) := by
  cases b with
  | true => exact Draws.list hh it l hne items
  | false => exact Draws.tuple hh it l hne items
def objB (b : Bool) (a : Addr) : Obj := if b then { cls := .type "list_iterator", data := .fields #[.ref a, .int 0 0] } else { cls := .type "tuple_iterator", data := .fields #[.ref a, .int 0 0] }
theorem beginsB (b : Bool) (l : Addr) (items : Array Value) : Begins (.ref l) (objB b l) fun h => isB b h l items := by
  cases b with
  | true => exact begins_list l items
  | false => exact begins_tuple l items
theorem itB_new {b : Bool} {h : Heap} {it a : Addr} (e : h.get? it = some (objB b a)) : itB b h it a 0 := by
  cases b with
  | true => exact ⟨_, e, rfl, rfl⟩
  | false => exact ⟨_, e, rfl, rfl⟩
section
variable {X : Cx} {pins : List (Addr × Obj)} {σ : L2.St} {H : Hp} {s : Shared}
theorem invSqB {b : Bool} {a : Addr} {xs : List V} (I : L2.Inv X pins σ H s) (h : sqB b X.K H a xs) : ∃ its : List Value, Vals xs its ∧ isB b s.heap a its.toArray ∧ xs.length ≤ sizeLine := by
  cases b with
  | true =>
    obtain ⟨its, r, p, z⟩ := I.list (show SqL X.K H a xs from h)
    exact ⟨its, r, p.isList, z⟩
  | false =>
    obtain ⟨its, r, p, z⟩ := I.tuple (show SqT X.K H a xs from h)
    exact ⟨its, r, p, z⟩
theorem invSqB_inj {b : Bool} {a : Addr} {xs ys : List V} (I : L2.Inv X pins σ H s) (h : sqB b X.K H a xs) (h' : sqB b X.K H a ys) : xs = ys := by
  cases b with
  | true => exact I.list_inj h h'
  | false => exact I.tuple_inj h h'
end
def Itb (b : Bool) (k0 : Int) (K : Frag) (a : Addr) : It :=
  ⟨fun i H => ∃ (xs : List V) (x : V), sqB b K H a xs ∧ xs[i]? = some x, fun i H v H' => ∃ T x, v = .ref T ∧ H T = none ∧ H' = upd H T (.tup [.int (k0 + (i : Nat)), x]) ∧ ∀ xs, sqB b K H a xs → xs[i]? = some x, fun i H => ∃ xs : List V, sqB b K H a xs ∧ xs.length = i⟩
theorem turn_enumB {P : Program} {w : World} {K : Frag} {elts : List Expr} {kk : Nat} {tpos : Pos} (b : Bool) (k0 : Int) (a e it : Addr) (hna : a ≠ e ∧ a ≠ it) :
    Turn P w K (.Tuple elts kk tpos) (Itb b k0 K a) [e, it] e (fun i h => (∃ old, IsEnum h e it (k0 + ((i : Nat) : Int)) old) ∧ itB b h it a i ∧ e ≠ it) where
  mem := by simp
  obj := fun i h st c hb => by
    obtain ⟨⟨old, he⟩, hit, _⟩ := st
    have e' : c = e ∨ c = it := by simpa using hb
    rcases e' with z | z
    · rw [z]; exact ⟨_, he, fun v q => nomatch q⟩
    · rw [z]; exact itB_obj hit
  keep := fun i h h' st k => let ⟨⟨old, he⟩, hi, hne⟩ := st; ⟨⟨old, k e (by simp) _ he⟩, itB_at hi fun o q => k it (by simp) o q, hne⟩
  item := by
    intro X hP hw hK hc i pins s σ H E I hf st hg
    subst hP hw hK
    obtain ⟨⟨old, he⟩, hit, hne⟩ := st
    obtain ⟨xs, x, hq, hx⟩ := hg
    obtain ⟨its, rv, p, hz⟩ := invSqB I hq
    obtain ⟨u, hu, ru⟩ := rv.get hx
    have hel : e < s.heap.objs.size := Heap.lt_size he
    have hil : it < s.heap.objs.size := by obtain ⟨_, q, _⟩ := itB_obj hit; exact Heap.lt_size q
    have hlen : i < its.toArray.size := by
      have := (List.getElem?_eq_some_iff.mp hu).1
      simpa using this
    refine wpAny_pyNext_enum_itemC (drawsB b (A := X.A.in1) (I.ok.hd hc) it a hna.2 its.toArray) he ⟨hit, p⟩ hlen hne (by
      simp only [List.mem_cons, List.not_mem_nil, or_false, not_or]
      exact ⟨hne, fun z => hna.1 z.symm⟩) fun x' h' tk hx' ho hst' hT hsz hk => ?_
    obtain ⟨hit', _⟩ := hst'
    have ex : x' = u := by
      have : its[i]? = some x' := by simpa using hx'
      rw [hu] at this
      exact (Option.some.inj this).symm
    subst ex
    refine ⟨_, rfl, wpAny_letOwnedTupleGo_enum (s := { s with heap := h', toks := tk + 1 }) ho fun h'' he' sb => ?_⟩
    have hT2 : h''.get? s.heap.objs.size = some { cls := .type "tuple", data := .seq #[.int (k0 + (i : Nat)) tk, x'] } := (sb.2 _ (Nat.ne_of_gt hel)).trans hT
    have new : ObjOk X.prog X.w (upd H s.heap.objs.size (.tup [.int (k0 + (i : Nat)), x])) h'' s.heap.objs.size (.tup [.int (k0 + (i : Nat)), x]) :=
      ⟨by show 2 ≤ sizeLine; decide, [.int (k0 + (i : Nat)) tk, x'], .cons ⟨_, rfl⟩ (.cons ru .nil), ⟨_, hT2, rfl, _, rfl⟩⟩
    have I1 : L2.Inv X pins σ (upd H s.heap.objs.size (.tup [.int (k0 + (i : Nat)), x])) { s with heap := h'', toks := tk + 1 } :=
      I.turnedNew (ch := [e, it]) (fun b ob hb q => (sb.2 b (fun z => hb (by simp [z]))).trans (hk b ob (fun z => hb (by simp [z])) (fun z => hb (by simp [z])) q)) hf (Nat.le_refl _) new
    refine ⟨.ref s.heap.objs.size, _, I1, rfl, ⟨_, x, rfl, I.hok.fresh (Nat.le_refl _), rfl, fun ys hy => by rw [invSqB_inj I hy hq]; exact hx⟩, ⟨⟨x', ?_⟩, itB_at hit' fun o q => (sb.2 it (Ne.symm hne)).trans q, hne⟩, fun c hb => ?_⟩
    · have e1 : k0 + ((i + 1 : Nat) : Int) = k0 + (i : Int) + 1 := by omega
      rw [e1]; exact he'
    · have hb' : c < s.heap.objs.size := by
        have e' : c = e ∨ c = it := by simpa using hb
        rcases e' with z | z
        · rw [z]; exact hel
        · rw [z]; exact hil
      rw [upd_ne (Nat.ne_of_lt hb')]
      exact (hf c hb).1
  done := by
    intro X hP hw hK hc i pins s σ H E I hf st hg
    subst hP hw hK
    obtain ⟨⟨old, he⟩, hit, hne⟩ := st
    obtain ⟨xs, hq, hx⟩ := hg
    obtain ⟨its, rv, p, hz⟩ := invSqB I hq
    obtain ⟨f0, f1, f2, f3, f4, f5⟩ := hf it (by simp)
    have hl := rv.length
    have hi : its.toArray.size = i := by simp; omega
    have D := drawsB b (prog := X.prog) (w := X.w) (A := X.A.in1) (I.ok.hd hc) it a hna.2 its.toArray
    rw [hi] at D
    exact wpAny_pyNext_enum_endD D he ⟨hit, p⟩ fun h' eb => ⟨rfl, I.turned (t' := s.toks) (fun b o hb q => eb b o hb q) f0 f1 f3 f4 f5⟩
  self := fun A i s Q E st h => let ⟨⟨_, he⟩, _⟩ := st; wpAny_pyIter_enum he h
def iEnB (K : Frag) (k0 : Int) (x : V) (H : Hp) (R : It → Hp → Prop) : Prop := ∃ (b : Bool) (a : Addr) (xs : List V), x = .ref a ∧ sqB b K H a xs ∧ (xs.length ≤ sizeLine → R (Itb b k0 K a) H)
def iEnumS (K : Frag) (ta : TA) : TI := fun σ H R => ta σ H fun vs H1 => ∃ x k0, vs = [x, .int k0] ∧ -(2 ^ 63) ≤ k0 ∧ k0 < 2 ^ 63 ∧ iEnB K k0 x H1 R
section
variable {X : Cx} {e e2 : Expr} {ta : TA} {p pos tpos : Pos} {elts : List Expr} {kk : Nat}
theorem pi_enB {pins : List (Addr × Obj)} {σ : L2.St} {H1 : Hp} {s1 : Shared} {R : It → Hp → Prop} {b : Bool} {k0 : Int} {a : Addr} {xs : List V} {h' : Heap} (I1 : L2.Inv X pins σ H1 s1) (hq : sqB b X.K H1 a xs) (q : xs.length ≤ sizeLine → R (Itb b k0 X.K a) H1)
    (he : IsEnum h' (s1.heap.objs.size + 1) s1.heap.objs.size k0 .none) (hit : h'.get? s1.heap.objs.size = some (objB b a)) (hk : ∀ b o, s1.heap.get? b = some o → h'.get? b = some o) :
    wpAny (model X.prog X.w) X.A (pyIter (.ref (s1.heap.objs.size + 1))) (PIE X pins σ (.Tuple elts kk tpos) R) X.xe { s1 with heap := h' } := by
  obtain ⟨its, rv, p', hz⟩ := invSqB I1 hq
  refine wpAny_pyIter_enum he ?_
  have I2 : L2.Inv X pins σ H1 { s1 with heap := h' } := I1.kept (t' := s1.toks) hk
  have ha : a < s1.heap.objs.size := by obtain ⟨o, e⟩ := isB_lt p'; exact Heap.lt_size e
  refine ⟨s1.heap.objs.size + 1, [s1.heap.objs.size + 1, s1.heap.objs.size], _, _, H1, rfl, I2, turn_enumB b k0 a (s1.heap.objs.size + 1) s1.heap.objs.size ⟨Nat.ne_of_lt (Nat.lt_succ_of_lt ha), Nat.ne_of_lt ha⟩, ⟨⟨.none, by simpa using he⟩, itB_new hit, Nat.succ_ne_self _⟩, fun c hb => ?_, q hz⟩
  have e' : c = s1.heap.objs.size + 1 ∨ c = s1.heap.objs.size := by simpa using hb
  have hle : s1.heap.objs.size ≤ c := by
    rcases e' with z | z
    · rw [z]; exact Nat.le_add_right _ _
    · rw [z]; exact Nat.le_refl _
  exact I1.fpOk hle (I1.hok.fresh hle)
theorem pi_enumS (hg : Gl X "enumerate") (hm : X.mg "enumerate" = none) (ha : PA X [e, e2] ta) (hs : starEach [e, e2] X.env = (false, eval e X.env) :: starEach [e2] X.env := by rfl) (hpl : (backTo pos (starEach [e2] X.env)).any (·.1) = false := by rfl) :
    PI X (.Tuple elts kk tpos) (.Call (.Name "enumerate" p) [e, e2] [] pos) (iEnumS X.K ta) := by
  refine ⟨fun pins s σ H R I h => ?_⟩
  refine Call_ (ld_blt I hg hm boot_enumerate (PyProof.Rows.callWith_type1 (thn (ha.run pos pins s σ H _ I h) fun us s1 ⟨vs, H1, I1, r1, q1⟩ => ?_) hs hpl))
  obtain ⟨x, k0, ex, hk1, hk2, b, a, xs, rfl, hq, q⟩ := q1
  subst ex
  cases r1 with
  | cons r rr =>
    cases rr with
    | cons r2 rr =>
      cases rr
      cases r
      obtain ⟨t, rfl⟩ := r2
      obtain ⟨its, rv, p', hz⟩ := invSqB I1 hq
      exact enum_begins (beginsB b a its.toArray) p' hk1 hk2 fun h' he hit hsz hk => pi_enB I1 hq q he hit hk
end
end Dl
namespace Dl
open PySem PySem.Spec PyProof.Rows L2
variable {K : Frag} {Γ : List Sl} {k : Sl → List Sl → Prop} {O : Out}
theorem sq_of_dat {S H : Hp} {v : V} {d : PyData} {ds : List PyData} (l : Le S H) (h : Dd K S v d) (e : seqD d = some ds) : ∃ (b : Bool) (a : Addr) (xs : List V), v = .ref a ∧ sqB b K H a xs ∧ DdAll K S xs ds ∧ (∀ H', Le S H' → sqB b K H' a xs) ∧ (b = true → Rd S a (.lst xs) ∧ d = .list ds) ∧ (b = false → SqT K S a xs ∧ d = .tuple ds) := by
  cases h with
  | lst h1 h2 => cases e; exact ⟨true, _, _, rfl, l.sqL (.inl h1), h2, fun H' l' => l'.sqL (.inl h1), fun _ => ⟨h1, rfl⟩, fun q => nomatch q⟩
  | tup h1 h2 => cases e; exact ⟨false, _, _, rfl, l.sqT h1, h2, fun H' l' => l'.sqT h1, (fun q => nomatch q), fun _ => ⟨h1, rfl⟩⟩
  | _ => cases e
theorem i_enB {k0 : Int} {σ : List (Option V)} {S1 H1 : Hp} {fs1 : List (List Addr)} {v : V} {d : PyData} {ds : List PyData} {Γ1 : List Sl} {R : It → Hp → Prop} {σ' : List (Option V)} (w1 : Wd K σ Γ1 S1 H1 fs1) (hd : Dd K S1 v d) (hs : seqD d = some ds)
    (P : ds.length ≤ sizeLine → ∀ J : It, (∀ i σ2 Γ2 S2 H2 fs2, i ≤ ds.length → Wd K σ2 Γ2 S2 H2 fs2 → Step S1 H1 fs1.flatten S2 H2 fs2.flatten →
      (i < ds.length → J.go i H2 ∧ ∀ x H', J.yld i H2 x H' → ∃ S', Wd K (some x :: σ2) (.dat (.tuple [.int (k0 + (i : Int)), ds.getD i .none]) :: Γ2) S' H' ([] :: fs2) ∧ Step S2 H2 fs2.flatten S' H' fs2.flatten) ∧ (i = ds.length → J.stop i H2)) → R J H1) : iEnB K k0 v H1 R := by
  obtain ⟨b, a, xs, rfl, hq, ha, hq', _, _⟩ := sq_of_dat w1.good.sub hd hs
  have hl := dps_len ha
  refine ⟨b, a, xs, rfl, hq, fun hz => P (by omega) _ fun i σ2 Γ2 S2 H2 fs2 hi w2 st2 => ⟨fun hlt => ?_, fun he => ?_⟩⟩
  · have hq2 := hq' H2 (st2.le.trans w2.good.sub)
    refine ⟨⟨xs, xs[i]'(by omega), hq2, List.getElem?_eq_getElem (by omega)⟩, fun x H' y => ?_⟩
    obtain ⟨T, u, rfl, hT, rfl, hy⟩ := y
    have hu := hy xs hq2
    obtain ⟨d', h1, h2⟩ := dps_get ha hu
    obtain ⟨w3, st3⟩ := alloc (.tup [.int (k0 + (i : Nat)), u]) w2 hT
    refine ⟨_, w3.put ⟨rfl, _, rfl, ?_⟩, st3⟩
    rw [List.getD_eq_getElem?_getD, h1]
    exact dp_tup_new (w2.good.sub.none hT) (.cons (.int _) (.cons (st2.le.dp h2) .nil))
  · exact ⟨xs, hq' H2 (st2.le.trans w2.good.sub), by omega⟩
theorem i_enumS {ta : TA} {ki : (Nat → Sl) → Nat → (List Sl → Prop) → List Sl → Prop} (h : EvA K ta Γ fun rs Γ1 => ∃ d ds k0, rs = [.dat d, .dat (.int k0)] ∧ -(2 ^ 63) ≤ k0 ∧ k0 < 2 ^ 63 ∧ seqD d = some ds ∧ (ds.length ≤ sizeLine → ki (fun i => .dat (.tuple [.int (k0 + (i : Int)), ds.getD i .none])) ds.length (fun _ => True) Γ1)) : EvI K (iEnumS K ta) Γ ki := by
  intro σ S H fs R w P
  refine h σ S H fs _ w fun vs rs Γ1 S1 H1 frs fs1 hb l1 l2 w1 st1 => ?_
  obtain ⟨d, ds, k0, rfl, hk1, hk2, hs, hk⟩ := hb
  match vs, frs, l1, l2, w1, st1 with
  | [v, u], [f, f'], _, _, w1, st1 =>
    have w1' : Wd K (some v :: some u :: σ) (.dat d :: .dat (.int k0) :: Γ1) S1 H1 (f :: f' :: fs1) := w1
    obtain ⟨e0, v', e1, hd⟩ := w1'.hd
    obtain ⟨e0', u', e1', hu⟩ := w1'.tl.hd
    subst e0 e0'
    cases e1; cases e1'; cases hu
    refine ⟨v, k0, rfl, hk1, hk2, i_enB (σ' := σ) w1'.tl.tl hd hs fun hz J hJ => P J _ _ _ Γ1 S1 H1 fs1 (fun _ _ h => h) (hk hz) w1'.tl.tl (by simpa using st1) fun i σ2 Γ2 S2 H2 fs2 hi _ w2 st2 => hJ i σ2 Γ2 S2 H2 fs2 hi w2 st2⟩
  | [], _, l1, _, _, _ => simp at l1
  | [_], _, l1, _, _, _ => simp at l1
  | _ :: _ :: _ :: _, _, l1, _, _, _ => simp at l1
  | [_, _], [], _, l2, _, _ => simp at l2
  | [_, _], [_], _, l2, _, _ => simp at l2
  | [_, _], _ :: _ :: _ :: _, _, l2, _, _ => simp at l2
def CbK (K : Frag) (r : List V → Hp → VK → Prop) (rs : List Sl) (Γ : List Sl) (k : Sl → List Sl → Prop) : Prop :=
  ∀ σ S H frs fs vs Q, vs.length = rs.length → frs.length = rs.length → Wd K (vs.map some ++ σ) (rs ++ Γ) S H (frs ++ fs) → Post K σ S H (frs ++ fs).flatten k Q → r vs H Q
theorem e_cb {r : List V → Hp → VK → Prop} {ta : TA} (h : EvA K ta Γ fun rs Γ1 => CbK K r rs Γ1 k) : EvP K (tCB r ta) Γ k := fun σ S H fs Q w P =>
  h σ S H fs _ w fun vs rs Γ1 S1 H1 frs fs1 hc l1 l2 w1 st1 => hc σ S1 H1 frs fs1 vs Q l1 l2 w1 (P.trans st1)
theorem cb1 {r : List V → Hp → VK → Prop} {d : PyData} (h : ∀ σ S H fs v Q, Wd K σ Γ S H fs → Dd K S v d → Post K σ S H fs.flatten k Q → r [v] H Q) : CbK K r [.dat d] Γ k := by
  intro σ S H frs fs vs Q l1 l2 w P
  match vs, frs, l1, l2, w, P with
  | [v], [f], _, _, w, P =>
    have w' : Wd K (some v :: σ) (.dat d :: Γ) S H (f :: fs) := w
    obtain ⟨e0, v', e1, hd⟩ := w'.hd
    subst e0
    cases e1
    exact h σ S H fs v Q w'.tl hd (P.trans (Step.refl.sub fun a ha => by simpa using ha))
  | [], _, l1, _, _, _ => simp at l1
  | _ :: _ :: _, _, l1, _, _, _ => simp at l1
  | [_], [], _, l2, _, _ => simp at l2
  | [_], _ :: _ :: _, _, l2, _, _ => simp at l2
theorem cb1r {r : List V → Hp → VK → Prop} {d : PyData} {u : V} (h : ∀ σ S H fs v Q, Wd K σ Γ S H fs → Dd K S v d → Post K σ S H fs.flatten k Q → r [v, u] H Q) : CbK K r [.dat d, .raw u] Γ k := by
  intro σ S H frs fs vs Q l1 l2 w P
  match vs, frs, l1, l2, w, P with
  | [v, u'], [f, f'], _, _, w, P =>
    have w' : Wd K (some v :: some u' :: σ) (.dat d :: .raw u :: Γ) S H (f :: f' :: fs) := w
    obtain ⟨e0, v', e1, hd⟩ := w'.hd
    obtain ⟨e0', e1'⟩ := w'.tl.hd
    subst e0 e0'
    cases e1; cases e1'
    exact h σ S H fs v Q w'.tl.tl hd (P.trans (Step.refl.sub fun a ha => by simpa using ha))
  | [], _, l1, _, _, _ => simp at l1
  | [_], _, l1, _, _, _ => simp at l1
  | _ :: _ :: _ :: _, _, l1, _, _, _ => simp at l1
  | [_, _], [], _, l2, _, _ => simp at l2
  | [_, _], [_], _, l2, _, _ => simp at l2
  | [_, _], _ :: _ :: _ :: _, _, l2, _, _ => simp at l2
theorem cb2 {r : List V → Hp → VK → Prop} {d d2 : PyData} (h : ∀ σ S H fs v u Q, Wd K σ Γ S H fs → Dd K S v d → Dd K S u d2 → Post K σ S H fs.flatten k Q → r [v, u] H Q) : CbK K r [.dat d, .dat d2] Γ k := by
  intro σ S H frs fs vs Q l1 l2 w P
  match vs, frs, l1, l2, w, P with
  | [v, u'], [f, f'], _, _, w, P =>
    have w' : Wd K (some v :: some u' :: σ) (.dat d :: .dat d2 :: Γ) S H (f :: f' :: fs) := w
    obtain ⟨e0, v', e1, hd⟩ := w'.hd
    obtain ⟨e0', v'', e1', hu⟩ := w'.tl.hd
    subst e0 e0'
    cases e1; cases e1'
    exact h σ S H fs v u' Q w'.tl.tl hd hu (P.trans (Step.refl.sub fun a ha => by simpa using ha))
  | [], _, l1, _, _, _ => simp at l1
  | [_], _, l1, _, _, _ => simp at l1
  | _ :: _ :: _ :: _, _, l1, _, _, _ => simp at l1
  | [_, _], [], _, l2, _, _ => simp at l2
  | [_, _], [_], _, l2, _, _ => simp at l2
  | [_, _], _ :: _ :: _ :: _, _, l2, _, _ => simp at l2
def tyD : PyData → String
  | .none => "NoneType"
  | .bool _ => "bool"
  | .int _ => "int"
  | .str _ => "str"
  | .list _ => "list"
  | .tuple _ => "tuple"
  | .dict _ => "dict"
theorem dd_ty {S H : Hp} {v : V} {d : PyData} (l : Le S H) (h : Dd K S v d) : TyX K H v (.type (tyD d)) := by
  cases h with
  | non => exact .base .non
  | bl b => exact .base (.bl b)
  | int i => exact .base (.int i)
  | str x => exact .base (.str x)
  | lst h _ =>
    rcases h with h | ⟨o, h⟩
    · exact .base (.lst (l _ _ h))
    · exact .base (.frz (l _ _ h))
  | tup h _ =>
    rcases h with (h | ⟨o, h⟩) | ⟨o, its, n, h1, h2, _⟩
    · exact .base (.tup (l _ _ h))
    · exact .fTuple (l _ _ h)
    · exact .kTuple h1 h2
def isT (T : String) (d : PyData) : Bool := match d with
  | .none => T == "NoneType"
  | .bool _ => T == "bool" || T == "int"
  | .int _ => T == "int"
  | .str _ => T == "str"
  | .list _ => T == "list"
  | .tuple _ => T == "tuple"
  | .dict _ => T == "dict"
theorem kit_isT (d : PyData) {T : String} (hT : T = "int" ∨ T = "bool" ∨ T = "str" ∨ T = "list" ∨ T = "tuple" ∨ T = "dict") : kitB (tyD d) T = some (isT T d) := by
  rcases hT with rfl | rfl | rfl | rfl | rfl | rfl <;> cases d <;> (simp only [tyD, isT]; decide +kernel)
theorem cb_isi {T : String} {d : PyData} (hT : T = "int" ∨ T = "bool" ∨ T = "str" ∨ T = "list" ∨ T = "tuple" ∨ T = "dict" := by decide) (hk : k (.dat (.bool (isT T d))) Γ) : CbK K (rIsiU K) [.dat d, .raw (.ty T)] Γ k :=
  cb1r fun σ S H fs v Q w hd P => .inl ⟨v, .ty T, _, _, _, rfl, .ty T, dd_ty w.good.sub hd, kit_ty (kit_isT d hT), P.dat w hk (.bl _)⟩
def lenD : PyData → Option Nat
  | .str y => if y.length ≤ sizeLine then some y.length else none
  | .list ds => some ds.length
  | .tuple ds => some ds.length
  | _ => none
theorem cb_len {d : PyData} {n : Nat} (e : lenD d = some n) (hk : k (.dat (.int n)) Γ) : CbK K (rLen K) [.dat d] Γ k :=
  cb1 fun σ S H fs v Q w hd P => by
    refine ⟨v, n, rfl, ?_, P.dat w hk (.int _)⟩
    cases hd with
    | str x =>
      have e' : (if x.length ≤ sizeLine then some x.length else none) = some n := e
      by_cases hx : x.length ≤ sizeLine
      · rw [if_pos hx] at e'
        exact ⟨hx, (Option.some.inj e').symm⟩
      · rw [if_neg hx] at e'
        cases e'
    | lst h hs => exact .inl ⟨_, w.good.sub.sqL (.inl h), by rw [dps_len hs]; exact (Option.some.inj e).symm⟩
    | tup h hs => exact .inr ⟨_, w.good.sub.sqT h, by rw [dps_len hs]; exact (Option.some.inj e).symm⟩
    | _ => cases e
theorem cb_list {d : PyData} {ds : List PyData} (e : seqD d = some ds) (hk : k (.dat (.list ds)) Γ) : CbK K (rListU K) [.dat d] Γ k :=
  cb1 fun σ S H fs v Q w hd P => by
    obtain ⟨b, a, xs, rfl, hq, ha, _, h1, h2⟩ := sq_of_dat w.good.sub hd e
    refine ⟨a, xs, rfl, ?_, fun p hp => P.new w hk hp (dp_lst_new (w.good.sub.none hp) ha)⟩
    cases b with
    | true => exact .inl hq
    | false => exact .inr hq
theorem cb_tuple {d : PyData} {ds : List PyData} (e : seqD d = some ds) (hk : k (.dat (.tuple ds)) Γ) : CbK K (rTupU K) [.dat d] Γ k :=
  cb1 fun σ S H fs v Q w hd P => by
    obtain ⟨b, a, xs, rfl, hq, ha, _, h1, h2⟩ := sq_of_dat w.good.sub hd e
    refine ⟨a, xs, rfl, ?_⟩
    cases b with
    | true => exact .inl ⟨hq, fun p hp => P.new w hk hp (dp_tup_new (w.good.sub.none hp) ha)⟩
    | false =>
      obtain ⟨_, rfl⟩ := h2 rfl
      exact .inr ⟨hq, P.dat w hk hd⟩
theorem cb_max2 {i j : Int} (hk : k (.dat (.int (if j > i then j else i))) Γ) : CbK K (rMaxU K) [.dat (.int i), .dat (.int j)] Γ k :=
  cb2 fun σ S H fs v u Q w hd hu P => by cases hd; cases hu; exact .inl ⟨i, j, rfl, P.dat w hk (.int _)⟩
theorem cb_min2 {i j : Int} (hk : k (.dat (.int (if j < i then j else i))) Γ) : CbK K (rMinU K) [.dat (.int i), .dat (.int j)] Γ k :=
  cb2 fun σ S H fs v u Q w hd hu P => by cases hd; cases hu; exact .inl ⟨i, j, rfl, P.dat w hk (.int _)⟩
theorem cb_abs {i : Int} (hk : k (.dat (.int (if i < 0 then -i else i))) Γ) : CbK K (rAbs K) [.dat (.int i)] Γ k :=
  cb1 fun σ S H fs v Q w hd P => by cases hd; exact ⟨i, rfl, P.dat w hk (.int _)⟩
theorem cb_int {i : Int} (hk : k (.dat (.int i)) Γ) : CbK K (rInt1 K) [.dat (.int i)] Γ k :=
  cb1 fun σ S H fs v Q w hd P => by cases hd; exact .inl ⟨i, rfl, P.dat w hk (.int _)⟩
theorem op_add_i {i j : Int} (hk : k (.dat (.int (i + j))) Γ) : OpK K (uAdd K) (.dat (.int i)) (.dat (.int j)) Γ k := op_or_l (op_I0 (fun _ => .int _) hk)
theorem dps_app {S : Hp} : ∀ {as bs : List V} {cs ds : List PyData}, DdAll K S as cs → DdAll K S bs ds → DdAll K S (as ++ bs) (cs ++ ds)
  | _, _, _, _, .nil, h => h
  | _, _, _, _, .cons a b, h => .cons a (dps_app b h)
theorem op_new {r : R2} {d1 d2 d : PyData} (hr : ∀ σ S H fs x y Q, Wd K σ Γ S H fs → Dd K S x d1 → Dd K S y d2 → Post K σ S H fs.flatten k Q → r x y H Q) : OpK K r (.dat d1) (.dat d2) Γ k := by
  intro σ S H f1 f2 fs x y Q w P
  obtain ⟨_, x', e1, h1⟩ := w.hd
  obtain ⟨_, y', e2, h2⟩ := w.tl.hd
  cases e1; cases e2
  exact hr σ S H fs x y Q w.tl.tl h1 h2 (Post.drop2 P)
theorem op_sub_i {i j : Int} (hk : k (.dat (.int (i - j))) Γ) : OpK K (uSub K) (.dat (.int i)) (.dat (.int j)) Γ k := op_I0 (fun _ => .int _) hk
theorem op_mul_i {i j : Int} (hc : CMul i j) (hk : k (.dat (.int (i * j))) Γ) : OpK K (uMul K) (.dat (.int i)) (.dat (.int j)) Γ k := op_or_l (op_I hc (fun _ => .int _) hk)
theorem op_fdiv_i {i j : Int} (hc : 0 < j ∧ j < 1073741824) (hk : k (.dat (.int (i / j))) Γ) : OpK K (uFDiv K) (.dat (.int i)) (.dat (.int j)) Γ k := op_or_l (op_I hc (fun _ => .int _) hk)
theorem op_mod_i {i j : Int} (hc : 0 < j) (hk : k (.dat (.int (i % j))) Γ) : OpK K (uMod K) (.dat (.int i)) (.dat (.int j)) Γ k := op_I hc (fun _ => .int _) hk
theorem op_pow_i {i j : Int} (hc : CPow i j) (hk : k (.dat (.int (i ^ j.toNat))) Γ) : OpK K (uPow K) (.dat (.int i)) (.dat (.int j)) Γ k := op_I hc (fun _ => .int _) hk
theorem op_lt_i {i j : Int} (hk : k (.dat (.bool (decide (i < j)))) Γ) : OpK K (uLt K) (.dat (.int i)) (.dat (.int j)) Γ k := op_or_l (op_I0 (fun _ => .bl _) hk)
theorem op_le_i {i j : Int} (hk : k (.dat (.bool (decide (i ≤ j)))) Γ) : OpK K (uLe K) (.dat (.int i)) (.dat (.int j)) Γ k := op_I0 (fun _ => .bl _) hk
theorem op_gt_i {i j : Int} (hk : k (.dat (.bool (decide (j < i)))) Γ) : OpK K (uGt K) (.dat (.int i)) (.dat (.int j)) Γ k := op_I0 (fun _ => .bl _) hk
theorem op_ge_i {i j : Int} (hk : k (.dat (.bool (decide (j ≤ i)))) Γ) : OpK K (uGe K) (.dat (.int i)) (.dat (.int j)) Γ k := op_I0 (fun _ => .bl _) hk
theorem op_eq_d {d e : PyData} (h1 : SeqAt.shaped d = true) (h2 : SeqAt.shaped e = true) (hk : k (.dat (.bool (PyData.eqv d e))) Γ) : OpK K (uEq K) (.dat d) (.dat e) Γ k := op_eqD' h1 h2 hk
theorem op_ne_d {d e : PyData} (h1 : SeqAt.shaped d = true) (h2 : SeqAt.shaped e = true) (hk : k (.dat (.bool (!PyData.eqv d e))) Γ) : OpK K (uNe K) (.dat d) (.dat e) Γ k := op_neD' h1 h2 hk
def isNoneD : PyData → Bool
  | .none => true
  | _ => false
theorem op_isnone {d : PyData} (hk : k (.dat (.bool (isNoneD d))) Γ) : OpK K (uIs K) (.dat d) (.dat .none) Γ k :=
  op_or_l (op_pure (fun S H x y Q _ h1 h2 q => by
    cases h2
    refine ⟨rfl, q _ ?_⟩
    cases h1 <;> exact .bl _) hk)
theorem op_notnone {d : PyData} (hk : k (.dat (.bool (!isNoneD d))) Γ) : OpK K (uIsNot K) (.dat d) (.dat .none) Γ k :=
  op_or_l (op_pure (fun S H x y Q _ h1 h2 q => by
    cases h2
    refine ⟨rfl, q _ ?_⟩
    cases h1 <;> exact .bl _) hk)
theorem op_notb {a b : Bool} (hk : k (.dat (.bool (!decide (a = b)))) Γ) : OpK K (uIsNot K) (.dat (.bool a)) (.dat (.bool b)) Γ k :=
  op_or_r (op_or_l (op_pure (fun S H x y Q _ h1 h2 q => by cases h1; cases h2; exact ⟨a, b, rfl, rfl, q _ (.bl _)⟩) hk))
theorem atI_dps {S : Hp} {vs : List V} {ds : List PyData} {i : Int} {d : PyData} (h : DdAll K S vs ds) (e : atI ds i = some d) : ∃ v, atI vs i = some v ∧ Dd K S v d := by
  unfold atI at e ⊢
  rw [dps_len h]
  cases q : ixN ds.length i with
  | none => rw [q] at e; cases e
  | some j =>
    rw [q] at e
    exact dps_get' h e
theorem op_ix_d {d d' : PyData} {ds : List PyData} {i : Int} (e : seqD d = some ds) (h : atI ds i = some d') (hk : k (.dat d') Γ) : OpK K (uIx K) (.dat d) (.dat (.int i)) Γ k :=
  op_new (d := .none) fun σ S H fs x y Q w h1 h2 P => by
    cases h2
    obtain ⟨b, a, xs, rfl, hq, ha, _, _, _⟩ := sq_of_dat w.good.sub h1 e
    obtain ⟨v, hv, hd⟩ := atI_dps ha h
    cases b with
    | true => exact .inl ⟨a, xs, i, v, rfl, rfl, hq, hv, P.dat w hk hd⟩
    | false => exact .inr (.inl ⟨a, xs, i, v, rfl, rfl, hq, hv, P.dat w hk hd⟩)
def EvO (K : Frag) (to : TO) (Γ : List Sl) (ko : Option Int → List Sl → Prop) : Prop := ∀ σ S H fs (Q : Option Int → Hp → Prop), Wd K σ Γ S H fs → (∀ o Γ' S' H' fs', ko o Γ' → Wd K σ Γ' S' H' fs' → Step S H fs.flatten S' H' fs'.flatten → Q o H') → to σ H Q
theorem o_no {ko : Option Int → List Sl → Prop} (h : ko none Γ) : EvO K tNoPart Γ ko := fun σ S H fs Q w P => P none Γ S H fs h w Step.refl
theorem o_some {te : TE} {ko : Option Int → List Sl → Prop} (h : EvP K te Γ fun r Γ1 => ∃ i, r = .dat (.int i) ∧ ko (some i) Γ1) : EvO K (tPart te) Γ ko := fun σ S H fs Q w P =>
  h σ S H fs _ w fun v r Γ1 S1 H1 f1 fs1 hb w1 st1 => by
    obtain ⟨i, rfl, hk⟩ := hb
    obtain ⟨e0, v', e1, hd⟩ := w1.hd
    cases e1; cases hd
    exact ⟨i, rfl, P _ Γ1 S1 H1 fs1 hk w1.tl (st1.sub fun a ha => List.mem_append_right _ ha)⟩
def cutG {α : Type} (xs : List α) (lo hi : Option Int) : List α := (xs.drop (HT.sIx xs.length 0 lo)).take (HT.sIx xs.length xs.length hi - HT.sIx xs.length 0 lo)
theorem dps_drop {S : Hp} : ∀ {vs : List V} {ds : List PyData} (n : Nat), DdAll K S vs ds → DdAll K S (vs.drop n) (ds.drop n)
  | _, _, 0, h => h
  | _, _, _ + 1, .nil => .nil
  | _, _, n + 1, .cons _ h => dps_drop n h
theorem dps_take {S : Hp} : ∀ {vs : List V} {ds : List PyData} (n : Nat), DdAll K S vs ds → DdAll K S (vs.take n) (ds.take n)
  | _, _, 0, _ => .nil
  | _, _, _ + 1, .nil => .nil
  | _, _, n + 1, .cons a h => .cons a (dps_take n h)
theorem dps_cut {S : Hp} {vs : List V} {ds : List PyData} {lo hi : Option Int} (h : DdAll K S vs ds) : DdAll K S (cutV vs lo hi) (cutG ds lo hi) := by
  unfold cutV cutG
  rw [dps_len h]
  exact dps_take _ (dps_drop _ h)
theorem cut_whole {ds : List PyData} {lo hi : Option Int} (h : HT.sIx ds.length 0 lo = 0 ∧ HT.sIx ds.length ds.length hi = ds.length) : cutG ds lo hi = ds := by
  unfold cutG
  rw [h.1, h.2]
  simp
def slD (d : PyData) (lo hi : Option Int) : Option PyData := match d with
  | .list ds => some (.list (cutG ds lo hi))
  | .tuple ds => some (.tuple (cutG ds lo hi))
  | .str z => if z.length ≤ sizeLine then some (.str (cutS z lo hi)) else none
  | _ => none
theorem e_sl {te : TE} {tl th : TO} (h : EvP K te Γ fun r Γ1 => EvO K tl Γ1 fun lo Γ2 => EvO K th Γ2 fun hi Γ3 => ∃ d d', r = .dat d ∧ slD d lo hi = some d' ∧ k (.dat d') Γ3) : EvP K (tSl (rSlU K) te tl th) Γ k := by
  intro σ S H fs Q w P
  refine h σ S H fs _ w fun v r Γ1 S1 H1 f1 fs1 hl w1 st1 => ?_
  refine hl σ S1 H1 fs1 _ w1.tl fun lo Γ2 S2 H2 fs2 hh w2 st2 => ?_
  refine hh σ S2 H2 fs2 _ w2 fun hi Γ3 S3 H3 fs3 hk w3 st3 => ?_
  obtain ⟨d, d', rfl, e, hk⟩ := hk
  obtain ⟨e0, v', e1, hd⟩ := w1.hd
  subst e0
  cases e1
  have hd3 : Dd K S3 v d := (st2.le.trans st3.le).dp hd
  have P3 : Post K σ S3 H3 fs3.flatten k Q := P.trans (((by simpa using st1 : Step S H fs.flatten S1 H1 fs1.flatten).trans st2).trans st3)
  cases hd3 with
  | lst h1 h2 =>
    cases e
    exact .inl ⟨_, _, rfl, w3.good.sub.sqL (.inl h1), fun p hp => P3.new w3 hk hp (dp_lst_new (w3.good.sub.none hp) (dps_cut h2))⟩
  | tup h1 h2 =>
    cases e
    refine .inr (.inl ⟨_, _, rfl, w3.good.sub.sqT h1, fun hw => ?_, fun _ p hp => P3.new w3 hk hp (dp_tup_new (w3.good.sub.none hp) (dps_cut h2))⟩)
    rw [dps_len h2] at hw
    rw [cut_whole hw] at hk
    exact P3.dat w3 hk (.tup h1 h2)
  | str z =>
    have e' : (if z.length ≤ sizeLine then some (PyData.str (cutS z lo hi)) else none) = some d' := e
    by_cases hz : z.length ≤ sizeLine
    · rw [if_pos hz] at e'
      cases e'
      exact .inr (.inr ⟨z, rfl, hz, P3.dat w3 hk (.str _)⟩)
    · rw [if_neg hz] at e'
      cases e'
  | _ => cases e
theorem e_neg {te : TE} (h : EvP K te Γ fun r Γ1 => ∃ i, r = .dat (.int i) ∧ k (.dat (.int (-i))) Γ1) : EvP K (tUn (rU fun i => .int (-i)) te) Γ k := by
  intro σ S H fs Q w P
  refine h σ S H fs _ w fun v r Γ1 S1 H1 f1 fs1 hl w1 st1 => ?_
  obtain ⟨i, rfl, hk⟩ := hl
  obtain ⟨e0, v', e1, hd⟩ := w1.hd
  subst e0
  cases e1; cases hd
  exact ⟨i, rfl, (P.trans (by simpa using st1 : Step S H fs.flatten S1 H1 fs1.flatten)).dat w1.tl hk (.int _)⟩
end Dl
namespace Dl
open PySem PySem.Spec PyProof.Rows L2
variable {K : Frag} {Γ : List Sl} {k : Sl → List Sl → Prop} {O : Out}
def wipeA {α : Type} (z : α) (l : List α) : List Nat → List α
  | [] => l
  | v :: vs => (wipeA z l vs).set v z
abbrev wipeG (Γ : List Sl) (vs : List Nat) : List Sl := wipeA .no Γ vs
theorem wipe_eq (σ : L2.St) : ∀ vs : List Nat, wipe σ vs = wipeA none σ vs
  | [] => rfl
  | v :: vs => by unfold wipe wipeA; rw [wipe_eq σ vs]
theorem wipeA_len {α : Type} {z : α} {l : List α} : ∀ vs : List Nat, (wipeA z l vs).length = l.length
  | [] => rfl
  | v :: vs => by unfold wipeA; rw [List.length_set, wipeA_len vs]
theorem wipeA_get {α : Type} {z : α} {l : List α} {j : Nat} : ∀ vs : List Nat, (wipeA z l vs)[j]? = if j ∈ vs then (if j < l.length then some z else none) else l[j]?
  | [] => by simp [wipeA]
  | v :: vs => by
    unfold wipeA
    by_cases hj : v = j
    · subst hj
      rw [if_pos List.mem_cons_self]
      by_cases hl : v < l.length
      · rw [if_pos hl, List.getElem?_set_self (by rw [wipeA_len]; exact hl)]
      · rw [if_neg hl]
        rw [List.getElem?_eq_none_iff]
        rw [List.length_set, wipeA_len]
        omega
    · rw [List.getElem?_set_ne hj, wipeA_get vs]
      by_cases hm : j ∈ vs
      · rw [if_pos hm, if_pos (List.mem_cons_of_mem _ hm)]
      · rw [if_neg hm, if_neg (by simp [hm, Ne.symm hj])]
theorem wipeA_idem {α : Type} {z : α} {l : List α} {vs : List Nat} : wipeA z (wipeA z l vs) vs = wipeA z l vs := by
  apply List.ext_getElem?
  intro j
  rw [wipeA_get, wipeA_len, wipeA_get]
  by_cases h : j ∈ vs <;> simp [h]
theorem wipeA_set {α : Type} {z x : α} {l : List α} {vs : List Nat} {i : Nat} (hi : i ∈ vs) : wipeA z (l.set i x) vs = wipeA z l vs := by
  apply List.ext_getElem?
  intro j
  rw [wipeA_get, wipeA_get, List.length_set]
  by_cases h : j ∈ vs
  · simp [h]
  · rw [if_neg h, if_neg h, List.getElem?_set_ne]
    rintro rfl
    exact h hi
theorem satL_iff {S H : Hp} : ∀ {xs : List (Option V)} {ss : List Sl} {fs : List (List Addr)}, SatL K S H xs ss fs ↔ (xs.length = ss.length ∧ fs.length = ss.length ∧ ∀ (i : Nat) (s : Sl), ss[i]? = some s → ∃ x fp, xs[i]? = some x ∧ fs[i]? = some fp ∧ SlOk K S H x fp s) := by
  intro xs ss fs
  constructor
  · intro h
    exact ⟨h.lens.1, h.lens.2, fun i s e => h.get e⟩
  · rintro ⟨l1, l2, h⟩
    induction ss generalizing xs fs with
    | nil =>
      cases xs with
      | nil =>
        cases fs with
        | nil => exact .nil
        | cons _ _ => simp at l2
      | cons _ _ => simp at l1
    | cons s ss ih =>
      cases xs with
      | nil => simp at l1
      | cons x xs =>
        cases fs with
        | nil => simp at l2
        | cons f fs =>
          obtain ⟨x', fp, e1, e2, e3⟩ := h 0 s rfl
          simp at e1 e2
          subst e1 e2
          exact .cons e3 (ih (by simpa using l1) (by simpa using l2) fun i s e => by
            obtain ⟨x', fp, e1, e2, e3⟩ := h (i + 1) s (by simpa using e)
            exact ⟨x', fp, by simpa using e1, by simpa using e2, e3⟩)
theorem sat_wipe {S H : Hp} {σ : List (Option V)} {fs : List (List Addr)} {vs : List Nat} (h : SatL K S H σ Γ fs) : SatL K S H (wipe σ vs) (wipeG Γ vs) (wipeA [] fs vs) := by
  obtain ⟨l1, l2, hg⟩ := satL_iff.mp h
  refine satL_iff.mpr ⟨by rw [wipe_eq, wipeA_len, wipeA_len]; exact l1, by rw [wipeA_len, wipeA_len]; exact l2, fun i s e => ?_⟩
  rw [wipe_eq, wipeA_get, wipeA_get]
  rw [wipeA_get] at e
  by_cases hi : i ∈ vs
  · rw [if_pos hi] at e ⊢
    by_cases hl : i < Γ.length
    · rw [if_pos hl] at e
      cases e
      rw [if_pos (by omega), if_pos hi, if_pos (by omega)]
      exact ⟨none, [], rfl, rfl, rfl⟩
    · rw [if_neg hl] at e
      cases e
  · rw [if_neg hi] at e ⊢
    rw [if_neg hi]
    exact hg i s e
theorem sat_unwipe {S H : Hp} {σ : List (Option V)} {fs : List (List Addr)} {vs : List Nat} (h : SatL K S H (wipe σ vs) (wipeG Γ vs) fs) : SatL K S H σ (wipeG Γ vs) fs := by
  obtain ⟨l1, l2, hg⟩ := satL_iff.mp h
  refine satL_iff.mpr ⟨by rw [wipe_eq, wipeA_len] at l1; exact l1, l2, fun i s e => ?_⟩
  obtain ⟨x, fp, e1, e2, e3⟩ := hg i s e
  rw [wipe_eq, wipeA_get] at e1
  rw [wipeA_get] at e
  by_cases hi : i ∈ vs
  · rw [if_pos hi] at e1 e
    by_cases hl : i < σ.length
    · by_cases hl2 : i < Γ.length
      · rw [if_pos hl2] at e
        cases e
        exact ⟨σ[i], fp, List.getElem?_eq_getElem hl, e2, e3⟩
      · rw [if_neg hl2] at e
        cases e
    · rw [if_neg hl] at e1
      cases e1
  · rw [if_neg hi] at e1
    exact ⟨x, fp, e1, e2, e3⟩
theorem flat_wipe {fs : List (List Addr)} : ∀ vs : List Nat, (wipeA [] fs vs).flatten.Sublist fs.flatten
  | [] => List.Sublist.refl _
  | v :: vs => (flat_set (wipeA [] fs vs) v []).trans (flat_wipe vs)
def Sets (g : TG) (vs : List Nat) : Prop := ∀ v σ H (q : L2.St → Hp → Prop), g v σ H q → g v σ H fun σ' H' => wipe σ' vs = wipe σ vs ∧ q σ' H'
theorem sets_name {i : Nat} {vs : List Nat} (hi : i ∈ vs) : Sets (gName i) vs := fun v σ H q h => ⟨by rw [wipe_eq, wipe_eq, wipeA_set hi], h⟩
def GMono (g : TG) : Prop := ∀ v σ H (q q' : L2.St → Hp → Prop), (∀ σ H, q σ H → q' σ H) → g v σ H q → g v σ H q'
theorem gm_name {i : Nat} : GMono (gName i) := fun v σ H q q' h p => h _ _ p
theorem Wd.swap2 {x y : Option V} {s t : Sl} {f g : List Addr} {σ : List (Option V)} {S H : Hp} {fs : List (List Addr)} (w : Wd K (x :: y :: σ) (s :: t :: Γ) S H (f :: g :: fs)) : Wd K (y :: x :: σ) (t :: s :: Γ) S H (g :: f :: fs) := by
  refine ⟨w.good.perm ?_, .cons w.tl.hd (.cons w.hd w.tl.tl.sat)⟩
  simp only [List.flatten_cons]
  rw [← List.append_assoc, ← List.append_assoc]
  exact List.perm_append_comm.append_right _
theorem Wd.wipe {σ : List (Option V)} {S H : Hp} {fs : List (List Addr)} (vs : List Nat) (w : Wd K σ Γ S H fs) : Wd K (L2.wipe σ vs) (wipeG Γ vs) S H (wipeA [] fs vs) := ⟨w.good.sublist (flat_wipe vs), sat_wipe w.sat⟩
theorem mem2 {f : List Addr} {fs gs : List (List Addr)} {a : Addr} (h : ∀ b, b ∈ fs.flatten → b ∈ gs.flatten) : a ∈ (f :: fs).flatten → a ∈ (f :: gs).flatten := fun ha => by
  simp only [List.flatten_cons, List.mem_append] at ha ⊢
  exact ha.imp id (h a)
theorem e_lc {wi : TI} {g : TG} {tt : TT} {te : TE} {vs : List Nat} (hg : Sets g vs) (gm : GMono g) (h : EvI K wi Γ fun f n G Γ1 => ∃ W : Nat → List PyData → List Sl → Prop, n ≤ sizeLine ∧ W 0 [] (wipeG Γ1 vs) ∧ (∀ i acc Γ, i ≤ n → W i acc (wipeG Γ vs) → G (wipeG Γ vs)) ∧
    (∀ i acc Γ, i < n → acc.length ≤ i → W i acc (wipeG Γ vs) → EvG K g (f i) (wipeG Γ vs) fun Γ2 => EvB K tt Γ2 fun b Γ3 => (b = true → EvP K te Γ3 fun r Γ4 => ∃ y, r = .dat y ∧ W (i + 1) (acc ++ [y]) (wipeG Γ4 vs)) ∧ (b = false → W (i + 1) acc (wipeG Γ3 vs))) ∧
    (∀ acc Γ, acc.length ≤ n → W n acc (wipeG Γ vs) → k (.dat (.list acc)) (wipeG Γ vs))) : EvP K (tLc wi g tt te vs) Γ k := by
  intro σ S H fs Q w P
  refine h σ S H fs _ w fun J f n G Γ1 S1 H1 fs1 hG hk w1 st1 tn => ?_
  obtain ⟨W, hn, h0, hWG, hs, hd⟩ := hk
  intro D hD
  refine ⟨fun i m H2 => m = n - i ∧ i ≤ n ∧ ∃ acc Γ2 S2 fs2, W i acc (wipeG Γ2 vs) ∧ acc.length ≤ i ∧ Wd K (some (.ref D) :: σ) (.res (ownL D acc) :: wipeG Γ2 vs) S2 H2 ([D] :: fs2) ∧ Step S1 H1 fs1.flatten S2 H2 ([D] :: fs2).flatten, ⟨n, by simp, Nat.zero_le _, ?_⟩, ?_⟩
  · obtain ⟨w2, st2⟩ := allocOwn (vs := []) (xs := []) w1 hD .nil
    have w3 : Wd K σ (wipeG Γ1 vs) S1 (upd H1 D (.lst [])) (wipeA [] fs1 vs) := ⟨w2.tl.good.sublist (flat_wipe vs), sat_unwipe (sat_wipe w2.tl.sat)⟩
    refine ⟨[], Γ1, S1, wipeA [] fs1 vs, h0, Nat.le_refl _, ⟨w2.good.sublist ?_, .cons w2.hd w3.sat⟩, st2.sub fun a => mem2 fun b hb => (flat_wipe vs).subset hb⟩
    simp only [List.flatten_cons]
    exact (List.Sublist.refl _).append (flat_wipe vs)
  · rintro i m H2 ⟨rfl, hi, acc, Γ2, S2, fs2, hW, hal, w2, st2⟩
    obtain ⟨t1, t2⟩ := tn i _ _ S2 H2 _ hi (hG _ _ (hWG i acc Γ2 hi hW)) w2 st2
    by_cases hlt : i < n
    · obtain ⟨hgo, hy⟩ := t1 hlt
      refine .inr ⟨hgo, fun H' => ∃ acc Γ2 S2 fs2, W (i + 1) acc (wipeG Γ2 vs) ∧ acc.length ≤ i + 1 ∧ Wd K (some (.ref D) :: σ) (.res (ownL D acc) :: wipeG Γ2 vs) S2 H' ([D] :: fs2) ∧ Step S1 H1 fs1.flatten S2 H' ([D] :: fs2).flatten, fun H' q => ⟨n - (i + 1), by omega, rfl, hlt, q⟩, fun x H' y => ?_⟩
      obtain ⟨S', w3, st3⟩ := hy x H' y
      have st23 := st2.trans st3
      have w4 := w3.swap2
      have w5 : Wd K (some x :: wipe σ vs) (f i :: wipeG Γ2 vs) S' H' ([] :: wipeA [] fs2 vs) := by
        have q := w3.tl.tl.wipe vs
        rw [show wipeG (wipeG Γ2 vs) vs = wipeG Γ2 vs from wipeA_idem] at q
        exact q.put w3.hd
      have fsub : ∀ a, a ∈ ([] :: wipeA [] fs2 vs).flatten → a ∈ fs2.flatten := fun a ha => (flat_wipe vs).subset (by simpa using ha)
      have wD : Wd K (some (.ref D) :: (some x :: wipe σ vs)) (.res (ownL D acc) :: (f i :: wipeG Γ2 vs)) S' H' ([D] :: ([] :: wipeA [] fs2 vs)) := by
        refine ⟨w3.tl.good.sublist ?_, .cons w3.tl.hd w5.sat⟩
        simp only [List.flatten_cons, List.nil_append]
        exact (List.Sublist.refl _).append (flat_wipe vs)
      have stD : Step S1 H1 fs1.flatten S' H' ([D] :: ([] :: wipeA [] fs2 vs)).flatten := st23.sub fun a ha => by
        have := mem2 (f := [D]) fsub ha
        simpa using this
      have key : g x (wipe σ vs) H' fun σ2 H2' => wipe σ2 vs = wipe σ vs → tt σ2 H2' fun b H3 => if b = true then te σ2 H3 fun y H4 => ∃ acc, H4 D = some (.lst acc) ∧ acc.length < sizeLine ∧ (∃ acc' Γ2 S2 fs2, W (i + 1) acc' (wipeG Γ2 vs) ∧ acc'.length ≤ i + 1 ∧ Wd K (some (.ref D) :: σ) (.res (ownL D acc') :: wipeG Γ2 vs) S2 (upd H4 D (.lst (acc ++ [y]))) ([D] :: fs2) ∧ Step S1 H1 fs1.flatten S2 (upd H4 D (.lst (acc ++ [y]))) ([D] :: fs2).flatten)
          else (∃ acc' Γ2 S2 fs2, W (i + 1) acc' (wipeG Γ2 vs) ∧ acc'.length ≤ i + 1 ∧ Wd K (some (.ref D) :: σ) (.res (ownL D acc') :: wipeG Γ2 vs) S2 H3 ([D] :: fs2) ∧ Step S1 H1 fs1.flatten S2 H3 ([D] :: fs2).flatten) := by
        refine hs i acc Γ2 hlt hal hW (wipe σ vs) S' H' [] _ x _ w5 fun σ2 Γ3 S3 H3 fs3 hB w6 st6 => ?_
        obtain ⟨w7, st7⟩ := frame (ts := [some (.ref D)]) (Θ := [.res (ownL D acc)]) (ft := [[D]]) rfl rfl wD w6 st6
        have st8 := stD.trans st7
        intro hw
        refine hB σ2 S3 H3 fs3 _ w6 fun b Γ4 S4 H4 fs4 hT w8 st9 => ?_
        obtain ⟨w9, st10⟩ := frame (ts := [some (.ref D)]) (Θ := [.res (ownL D acc)]) (ft := [[D]]) rfl rfl w7 w8 st9
        have st11 := st8.trans st10
        have back : ∀ (Γx : List Sl) (Sx Hx : Hp) (fx : List (List Addr)) (accx : List PyData), Wd K (some (.ref D) :: σ2) (.res (ownL D accx) :: Γx) Sx Hx ([D] :: fx) → Wd K (some (.ref D) :: σ) (.res (ownL D accx) :: wipeG Γx vs) Sx Hx ([D] :: wipeA [] fx vs) := fun Γx Sx Hx fx accx wx => by
          have q := wx.tl.wipe vs
          rw [hw] at q
          refine ⟨wx.good.sublist ?_, .cons wx.hd (sat_unwipe q.sat)⟩
          simp only [List.flatten_cons]
          exact (List.Sublist.refl _).append (flat_wipe vs)
        cases b with
        | true =>
          rw [if_pos rfl]
          refine hT.1 rfl σ2 S4 H4 fs4 _ w8 fun y r Γ5 S5 H5 f5 fs5 hE w10 st12 => ?_
          obtain ⟨yd, rfl, hW'⟩ := hE
          obtain ⟨w11, st13⟩ := frame (ts := [some (.ref D)]) (Θ := [.res (ownL D acc)]) (ft := [[D]]) rfl rfl w9 w10 st12
          obtain ⟨e0, y', e1, hyd⟩ := w10.hd
          subst e0
          cases e1
          have w11' : Wd K (some (.ref D) :: some y :: σ2) (.res (ownL D acc) :: .dat yd :: Γ5) S5 H5 ([D] :: [] :: fs5) := w11
          have w12 : Wd K (some (.ref D) :: σ2) (.res (ownL D acc) :: Γ5) S5 H5 ([D] :: fs5) := w11'.swap2.tl
          obtain ⟨_, _, ws, hws, hda⟩ := w12.hd
          have hws : H5 D = some (.lst ws) := hws
          have hlen := dps_len hda
          refine ⟨ws, hws, by omega, acc ++ [yd], Γ5, S5, wipeA [] fs5 vs, hW', by simp; omega, ?_⟩
          obtain ⟨w13, st14⟩ := upd_own (j := 0) (ws := ws ++ [y]) (ys := acc ++ [yd]) w12 rfl (dps_app hda (.cons hyd .nil))
          refine ⟨back _ _ _ _ _ w13, ?_⟩
          have st15 : Step S1 H1 fs1.flatten S5 H5 ([D] :: fs5).flatten := (st11.trans st13).sub fun a ha => by simpa using ha
          exact (st15.trans st14).sub fun a => mem2 fun b hb => (flat_wipe vs).subset hb
        | false =>
          rw [if_neg (by decide)]
          exact ⟨acc, Γ4, S4, wipeA [] fs4 vs, hT.2 rfl, Nat.le_succ_of_le hal, back _ _ _ _ _ w9, st11.sub fun a => mem2 fun b hb => (flat_wipe vs).subset hb⟩
      refine gm x _ H' _ _ (fun σ' H'' ⟨e, q⟩ => ?_) (hg x _ H' _ key)
      have e' : wipe σ' vs = wipe σ vs := by rw [e, wipe_eq, wipe_eq, wipeA_idem]
      exact ⟨e', q e'⟩
    · have e1 : i = n := by omega
      subst e1
      refine .inl ⟨t2 rfl, ?_⟩
      obtain ⟨S', w3, st3⟩ := freezeW w2
      exact P _ _ _ S' H2 [] fs2 (hd acc Γ2 hal hW) w3 (by simpa using st1.trans (st2.trans st3))
end Dl
namespace Dl
open PySem PySem.Spec PyProof.Rows L2
def pure1 (g : PyData → Option PyData) : FSpec := fun args k => ∃ a d, args = [.dat a] ∧ g a = some d ∧ k (.dat d) args
def pure2 (g : PyData → PyData → Option PyData) : FSpec := fun args k => ∃ a b d, args = [.dat a, .dat b] ∧ g a b = some d ∧ k (.dat d) args
def pure3 (g : PyData → PyData → PyData → Option PyData) : FSpec := fun args k => ∃ a b c d, args = [.dat a, .dat b, .dat c] ∧ g a b c = some d ∧ k (.dat d) args
def pure4 (g : PyData → PyData → PyData → PyData → Option PyData) : FSpec := fun args k => ∃ a b c e d, args = [.dat a, .dat b, .dat c, .dat e] ∧ g a b c e = some d ∧ k (.dat d) args
def pure5 (g : PyData → PyData → PyData → PyData → PyData → Option PyData) : FSpec := fun args k => ∃ a b c e f d, args = [.dat a, .dat b, .dat c, .dat e, .dat f] ∧ g a b c e f = some d ∧ k (.dat d) args
theorem n1 {g : PyData → Option PyData} : ∀ args k, pure1 g args k → args.length = 1 := fun args k ⟨a, d, e, _⟩ => by rw [e]; rfl
theorem n2 {g : PyData → PyData → Option PyData} : ∀ args k, pure2 g args k → args.length = 2 := fun args k ⟨a, b, d, e, _⟩ => by rw [e]; rfl
theorem n3 {g : PyData → PyData → PyData → Option PyData} : ∀ args k, pure3 g args k → args.length = 3 := fun args k ⟨a, b, c, d, e, _⟩ => by rw [e]; rfl
theorem n4 {g : PyData → PyData → PyData → PyData → Option PyData} : ∀ args k, pure4 g args k → args.length = 4 := fun args k ⟨a, b, c, x, d, e, _⟩ => by rw [e]; rfl
theorem n5 {g : PyData → PyData → PyData → PyData → PyData → Option PyData} : ∀ args k, pure5 g args k → args.length = 5 := fun args k ⟨a, b, c, x, y, d, e, _⟩ => by rw [e]; rfl
variable {K : Frag} {t : TS}
def datOut (d : PyData) : Out := { nx := fun _ => PyData.none = d, rt := fun r _ => r = .dat d }
theorem body_dats {N : List Str} {ds : List PyData} {d : PyData} {k : Sl → List Sl → Prop} (hk : k (.dat d) (ds.map .dat)) (h : ExS K t (ds.map .dat ++ List.replicate (N.length - ds.length) .no) (datOut d)) :
    ExS K t (ds.map .dat ++ List.replicate (N.length - (ds.map Sl.dat).length) .no) (fnOut (ds.map .dat) k) := by
  intro σ S H fs D w E
  rw [List.length_map] at w
  refine h σ S H fs D w ⟨fun σ' Γ' S' H' fs' ho w' st => ?_, fun v r σ' Γ' S' H' fr fs' ho w' st => ?_, fun _ _ _ _ _ ho => ho.elim, fun _ _ _ _ _ ho => ho.elim⟩
  · have ho : PyData.none = d := ho
    subst ho
    exact E.nx σ' Γ' S' H' fs' ⟨_, hk, keep_dats ds Γ'⟩ w' st
  · have ho : r = .dat d := ho
    subst ho
    exact E.rt v _ σ' Γ' S' H' fr fs' ⟨_, hk, keep_dats ds Γ'⟩ w' st
variable {Γ : List Sl} {k : Sl → List Sl → Prop}
theorem EvP.mono {te : TE} {k k' : Sl → List Sl → Prop} (h : EvP K te Γ k) (m : ∀ r Γ, k r Γ → k' r Γ) : EvP K te Γ k' := fun σ S H fs Q w P => h σ S H fs Q w fun v r Γ' S' H' fr fs' hk => P v r Γ' S' H' fr fs' (m _ _ hk)
theorem EvB.mono {tt : TT} {k k' : Bool → List Sl → Prop} (h : EvB K tt Γ k) (m : ∀ r Γ, k r Γ → k' r Γ) : EvB K tt Γ k' := fun σ S H fs Q w P => h σ S H fs Q w fun b Γ' S' H' fs' hk => P b Γ' S' H' fs' (m _ _ hk)
theorem EvA.mono {ta : TA} {k k' : List Sl → List Sl → Prop} (h : EvA K ta Γ k) (m : ∀ r Γ, k r Γ → k' r Γ) : EvA K ta Γ k' := fun σ S H fs Q w P => h σ S H fs Q w fun vs rs Γ' S' H' frs fs' hk => P vs rs Γ' S' H' frs fs' (m _ _ hk)
theorem OpK.mono {r : R2} {s1 s2 : Sl} {k k' : Sl → List Sl → Prop} (h : OpK K r s1 s2 Γ k) (m : ∀ r Γ, k r Γ → k' r Γ) : OpK K r s1 s2 Γ k' := fun σ S H f1 f2 fs x y Q w P => h σ S H f1 f2 fs x y Q w fun v r Γ' S' H' fr fs' hk => P v r Γ' S' H' fr fs' (m _ _ hk)
theorem CbK.mono {r : List V → Hp → VK → Prop} {rs : List Sl} {k k' : Sl → List Sl → Prop} (h : CbK K r rs Γ k) (m : ∀ r Γ, k r Γ → k' r Γ) : CbK K r rs Γ k' := fun σ S H frs fs vs Q l1 l2 w P => h σ S H frs fs vs Q l1 l2 w fun v r Γ' S' H' fr fs' hk => P v r Γ' S' H' fr fs' (m _ _ hk)
theorem ExS.mono {O O' : Out} (h : ExS K t Γ O) (m1 : ∀ Γ, O.nx Γ → O'.nx Γ) (m2 : ∀ r Γ, O.rt r Γ → O'.rt r Γ) (m3 : ∀ Γ, O.bk Γ → O'.bk Γ) (m4 : ∀ Γ, O.ct Γ → O'.ct Γ) : ExS K t Γ O' := fun σ S H fs D w E => h σ S H fs D w
  ⟨fun σ' Γ' S' H' fs' ho => E.nx σ' Γ' S' H' fs' (m1 _ ho), fun v r σ' Γ' S' H' fr fs' ho => E.rt v r σ' Γ' S' H' fr fs' (m2 _ _ ho), fun σ' Γ' S' H' fs' ho => E.bk σ' Γ' S' H' fs' (m3 _ ho), fun σ' Γ' S' H' fs' ho => E.ct σ' Γ' S' H' fs' (m4 _ ho)⟩
theorem ifB {b : Bool} {A B : Prop} (h : if b = true then A else B) : (b = true → A) ∧ (b = false → B) := by
  cases b with
  | true => exact ⟨fun _ => by simpa using h, fun e => nomatch e⟩
  | false => exact ⟨fun e => (nomatch e), fun _ => by simpa using h⟩
theorem b_and' {t u : TT} {kb : Bool → List Sl → Prop} (h : EvB K t Γ fun b Γ1 => if b = true then EvB K u Γ1 kb else kb false Γ1) : EvB K (tAnd t u) Γ kb := b_and (h.mono fun b Γ1 q => ifB q)
theorem b_or' {t u : TT} {kb : Bool → List Sl → Prop} (h : EvB K t Γ fun b Γ1 => if b = true then kb true Γ1 else EvB K u Γ1 kb) : EvB K (tOr t u) Γ kb := b_or (h.mono fun b Γ1 q => ⟨(ifB q).2, (ifB q).1⟩)
theorem x_if' {O : Out} {tt : TT} {t u : TS} (h : EvB K tt Γ fun b Γ1 => if b = true then ExS K t Γ1 O else ExS K u Γ1 O) : ExS K (tIfS tt t u) Γ O := x_if (h.mono fun b Γ1 q => ifB q)
theorem e_if' {tt : TT} {ta tb : TE} (h : EvB K tt Γ fun b Γ1 => if b = true then EvP K ta Γ1 k else EvP K tb Γ1 k) : EvP K (tIf tt ta tb) Γ k := e_if (h.mono fun b Γ1 q => ifB q)
theorem e_andV' {ta tb : TE} (h : EvP K ta Γ fun r Γ1 => ∃ b, r = .dat (.bool b) ∧ if b = true then EvP K tb Γ1 k else k (.dat (.bool false)) Γ1) : EvP K (tAndV ta tb) Γ k := e_andV (h.mono fun r Γ1 ⟨b, e, q⟩ => ⟨b, e, ifB q⟩)
theorem e_orV' {ta tb : TE} (h : EvP K ta Γ fun r Γ1 => ∃ b, r = .dat (.bool b) ∧ if b = true then k (.dat (.bool true)) Γ1 else EvP K tb Γ1 k) : EvP K (tOrV ta tb) Γ k := e_orV (h.mono fun r Γ1 ⟨b, e, q⟩ => ⟨b, e, (ifB q).2, (ifB q).1⟩)
theorem e_chain' {r r' : R2} {ta tb tc : TE} (h : EvP K ta Γ fun s1 Γ1 => EvP K tb Γ1 fun s2 Γ2 => ∃ d1 d2, s1 = .dat d1 ∧ s2 = .dat d2 ∧ OpK K r (.dat d1) (.dat d2) Γ2 fun s3 Γ3 => ∃ b, s3 = .dat (.bool b) ∧ if b = true then EvP K tc Γ3 fun s4 Γ4 => OpK K r' (.dat d2) s4 Γ4 k else k (.dat (.bool false)) Γ3) :
    EvP K (tChain r r' ta tb tc) Γ k := e_chain (h.mono fun s1 Γ1 q => q.mono fun s2 Γ2 ⟨d1, d2, e1, e2, q⟩ => ⟨d1, d2, e1, e2, q.mono fun s3 Γ3 ⟨b, e, q⟩ => ⟨b, e, ifB q⟩⟩)
theorem iteB {b : Bool} {A B : Prop} (h1 : b = true → A) (h2 : b = false → B) : if b = true then A else B := by
  cases b with
  | true => exact iteT (h1 rfl)
  | false => exact iteF (h2 rfl)
theorem dat_ok {d e : PyData} (h : d = e) : (datOut e).rt (.dat d) Γ := by rw [h]; exact rfl
end Dl
namespace Dl
open PySem PySem.Spec PyProof.Rows L2
def Pers : Sl → Prop
  | .dat _ => True
  | .raw _ => True
  | _ => False
def VS (K : Frag) (S : Hp) (v : V) : Sl → Prop
  | .dat d => Dd K S v d
  | .raw u => v = u
  | _ => False
theorem VS.mono {K : Frag} {S S' : Hp} {v : V} {s : Sl} (l : Le S S') (h : VS K S v s) : VS K S' v s := by
  cases s with
  | dat d => exact l.dp h
  | raw u => exact h
  | no => exact h
  | res r => exact h
theorem VS.ok {K : Frag} {S H : Hp} {v : V} {s : Sl} (h : VS K S v s) : SlOk K S H (some v) [] s := by
  cases s with
  | dat d => exact ⟨rfl, v, rfl, h⟩
  | raw u => exact ⟨rfl, by rw [show v = u from h]⟩
  | no => exact h.elim
  | res r => exact h.elim
theorem VS.of {K : Frag} {S H : Hp} {v : V} {s : Sl} {f : List Addr} (h : SlOk K S H (some v) f s) (p : Pers s) : VS K S v s ∧ f = [] := by
  cases s with
  | dat d => obtain ⟨e, v', e1, hd⟩ := h; cases e1; exact ⟨hd, e⟩
  | raw u => obtain ⟨e, e1⟩ := h; cases e1; exact ⟨rfl, e⟩
  | no => exact p.elim
  | res r => exact p.elim
abbrev VSs (K : Frag) (S : Hp) : List V → List Sl → Prop := Paired (VS K S)
theorem VSs.mono {K : Frag} {S S' : Hp} (l : Le S S') : ∀ {vs : List V} {ss : List Sl}, VSs K S vs ss → VSs K S' vs ss
  | _, _, .nil => .nil
  | _, _, .cons h t => .cons (h.mono l) (VSs.mono l t)
theorem VSs.get {K : Frag} {S : Hp} : ∀ {vs : List V} {ss : List Sl} {i : Nat} {s : Sl}, VSs K S vs ss → ss[i]? = some s → ∃ v, vs[i]? = some v ∧ VS K S v s
  | _, _, 0, _, .cons h _, e => by
    simp only [List.getElem?_cons_zero, Option.some.injEq] at e
    subst e
    exact ⟨_, rfl, h⟩
  | _, _, i + 1, _, .cons _ t, e => by
    simp only [List.getElem?_cons_succ] at e
    obtain ⟨v, h1, h2⟩ := VSs.get t e
    exact ⟨v, by simpa using h1, h2⟩
  | _, _, _, _, .nil, e => by simp at e
theorem VSs.set {K : Frag} {S : Hp} {v : V} {s : Sl} (h : VS K S v s) : ∀ {vs : List V} {ss : List Sl} (i : Nat), VSs K S vs ss → VSs K S (vs.set i v) (ss.set i s)
  | _, _, _, .nil => .nil
  | _, _, 0, .cons _ t => .cons h t
  | _, _, i + 1, .cons a t => .cons a (VSs.set h i t)
theorem VSs.snoc {K : Frag} {S : Hp} {v : V} {s : Sl} (h : VS K S v s) : ∀ {vs : List V} {ss : List Sl}, VSs K S vs ss → VSs K S (vs ++ [v]) (ss ++ [s])
  | _, _, .nil => .cons h .nil
  | _, _, .cons a t => .cons a (VSs.snoc h t)
theorem VSs.dats {K : Frag} {S : Hp} : ∀ {vs : List V} {ds : List PyData}, VSs K S vs (ds.map .dat) → DdAll K S vs ds
  | _, [], .nil => .nil
  | _, _ :: _, .cons h t => .cons h (VSs.dats t)
theorem VSs.of_dats {K : Frag} {S : Hp} : ∀ {vs : List V} {ds : List PyData}, DdAll K S vs ds → VSs K S vs (ds.map .dat)
  | _, [], .nil => .nil
  | _, _ :: _, .cons h t => .cons h (VSs.of_dats t)
inductive Cell where
  | ins (C : Addr) (ns : List Str) (ss : List Sl)
  | lst (ss : List Sl)
  | dS (ns : List Str) (ss : List Sl)
  | dI (kvs : List (Int × PyData))
  | tup (ss : List Sl)
def CellOk (K : Frag) (S H : Hp) (a : Addr) : Cell → Prop
  | .ins C ns ss => ns.Nodup ∧ ns.length = ss.length ∧ ∃ dx vs, H a = some (.ins C dx (ns.zip vs)) ∧ VSs K S vs ss
  | .lst ss => ∃ vs, H a = some (.lst vs) ∧ VSs K S vs ss
  | .dS ns ss => ns.Nodup ∧ ns.length = ss.length ∧ ∃ vs, H a = some (.dK ((ns.map Sum.inr).zip vs)) ∧ VSs K S vs ss
  | .dI kvs => ∃ vs, H a = some (.dK ((kvs.map fun p => (Sum.inl p.1 : Key)).zip vs)) ∧ DdAll K S vs (kvs.map (·.2))
  | .tup ss => ∃ vs, H a = some (.tup vs) ∧ VSs K S vs ss
theorem CellOk.step {K : Frag} {S H S' H' : Hp} {a : Addr} {c : Cell} (h : CellOk K S H a c) (l : Le S S') (e : H' a = H a) : CellOk K S' H' a c := by
  cases c with
  | ins C ns ss => obtain ⟨h0, h1, dx, vs, h2, h3⟩ := h; exact ⟨h0, h1, dx, vs, e.trans h2, VSs.mono l h3⟩
  | lst ss => obtain ⟨vs, h2, h3⟩ := h; exact ⟨vs, e.trans h2, VSs.mono l h3⟩
  | dS ns ss => obtain ⟨h0, h1, vs, h2, h3⟩ := h; exact ⟨h0, h1, vs, e.trans h2, VSs.mono l h3⟩
  | dI kvs => obtain ⟨vs, h2, h3⟩ := h; exact ⟨vs, e.trans h2, Le.dps l h3⟩
  | tup ss => obtain ⟨vs, h2, h3⟩ := h; exact ⟨vs, e.trans h2, VSs.mono l h3⟩
def star (v : V) (Θ : List (Addr × Cell)) : Res where
  v := v
  p := fun K S H fp => fp = Θ.map (·.1) ∧ ∀ p ∈ Θ, CellOk K S H p.1 p.2
  loc := fun ⟨h1, h2⟩ l k => ⟨h1, fun p hp => (h2 p hp).step l (k _ (by rw [h1]; exact List.mem_map.mpr ⟨p, hp, rfl⟩))⟩
variable {K : Frag} {Γ : List Sl} {k : Sl → List Sl → Prop} {O : Out}
theorem nodup_ix2 : ∀ {l : List Addr}, l.Nodup → ∀ {i j : Nat} {x : Addr}, l[i]? = some x → l[j]? = some x → i = j
  | [], _, _, _, _, h, _ => by simp at h
  | a :: l, nd, 0, 0, _, _, _ => rfl
  | a :: l, nd, 0, j + 1, x, h1, h2 => by
    simp only [List.getElem?_cons_zero, Option.some.injEq, List.getElem?_cons_succ] at h1 h2
    exact absurd (List.mem_of_getElem? h2) (by rw [← h1]; exact (List.nodup_cons.mp nd).1)
  | a :: l, nd, i + 1, 0, x, h1, h2 => by
    simp only [List.getElem?_cons_zero, Option.some.injEq, List.getElem?_cons_succ] at h1 h2
    exact absurd (List.mem_of_getElem? h1) (by rw [← h2]; exact (List.nodup_cons.mp nd).1)
  | a :: l, nd, i + 1, j + 1, x, h1, h2 => by
    simp only [List.getElem?_cons_succ] at h1 h2
    rw [nodup_ix2 (List.nodup_cons.mp nd).2 h1 h2]
theorem star_cell {σ : List (Option V)} {S H : Hp} {fs : List (List Addr)} {j n : Nat} {v : V} {Θ : List (Addr × Cell)} {a : Addr} {c : Cell} (w : Wd K σ Γ S H fs) (hj : Γ[j]? = some (.res (star v Θ))) (hn : Θ[n]? = some (a, c)) : CellOk K S H a c := by
  obtain ⟨x, fp, hx, hf, e1, e2, hc⟩ := w.sat.get hj
  exact hc (a, c) (List.mem_of_getElem? hn)
theorem star_upd {σ : List (Option V)} {S H : Hp} {fs : List (List Addr)} {j n : Nat} {v : V} {Θ : List (Addr × Cell)} {a : Addr} {c c' : Cell} {o : HO} (w : Wd K σ Γ S H fs) (hj : Γ[j]? = some (.res (star v Θ))) (hn : Θ[n]? = some (a, c)) (hc : CellOk K S (upd H a o) a c') :
    Wd K σ (Γ.set j (.res (star v (Θ.set n (a, c'))))) S (upd H a o) fs ∧ Step S H fs.flatten S (upd H a o) fs.flatten := by
  obtain ⟨x, fp, hx, hf, e1, e2, hcs⟩ := w.sat.get hj
  have e2 : fp = Θ.map (·.1) := e2
  have e1 : x = some v := e1
  subst e2
  have pm := flat_take fs j _ hf
  have gp := w.good.perm pm
  have aT : a ∈ Θ.map (·.1) := List.mem_map.mpr ⟨(a, c), List.mem_of_getElem? hn, rfl⟩
  have aF : a ∈ fs.flatten := pm.mem_iff.mpr (List.mem_append_left _ aT)
  have nS : S a = none := w.good.dis a aF
  have ndT : (Θ.map (·.1)).Nodup := (List.nodup_append.mp gp.nd).1
  have nF : ∀ b ∈ (fs.set j []).flatten, b ≠ a := fun b hb e => (List.nodup_append.mp gp.nd).2.2 a aT b hb e.symm
  have sat1 : SatL K S H σ (Γ.set j .no) (fs.set j []) := by
    have q := w.sat.set (x := x) (s := .no) (fp := []) j rfl
    rwa [setSame hx] at q
  have sat2 := sat1.step (Le.refl S) (H' := upd H a o) fun b hb => upd_ne (nF b hb)
  have e3 : (Θ.set n (a, c')).map (·.1) = Θ.map (·.1) := by
    rw [List.map_set]
    exact setSame (by rw [List.getElem?_map, hn]; rfl)
  have sat3 := sat2.set (x := x) (s := .res (star v (Θ.set n (a, c')))) (fp := Θ.map (·.1)) j ⟨e1, e3.symm, fun p hp => by
    obtain ⟨m, hm⟩ := List.getElem?_of_mem hp
    by_cases hmn : n = m
    · subst hmn
      rw [List.getElem?_set_self (List.getElem?_eq_some_iff.mp hn).1] at hm
      cases hm
      exact hc
    · rw [List.getElem?_set_ne hmn] at hm
      refine (hcs p (List.mem_of_getElem? hm)).step (Le.refl _) (upd_ne fun e => hmn ?_)
      refine nodup_ix2 ndT (x := a) ?_ ?_
      · rw [List.getElem?_map, hn]; rfl
      · rw [List.getElem?_map, hm]; show some p.1 = some a; rw [e]⟩
  rw [setSame hx, List.set_set, List.set_set, setSame hf] at sat3
  refine ⟨⟨⟨fun b u e => ?_, w.good.nd, w.good.dis, fun b hb => ?_⟩, sat3⟩, Le.refl _, fun b u e n => ?_, fun b e => .inl e, fun b hb => .inr hb, fun b e => ?_⟩
  · rw [upd_ne (ne_of_none e nS)]
    exact w.good.sub b u e
  · by_cases q : b = a
    · subst q; rw [upd_same]; simp
    · rw [upd_ne q]; exact w.good.al b hb
  · rw [upd_ne fun q => n (by rw [q]; exact aF)]
    exact e
  · by_cases q : b = a
    · subst q; rw [upd_same]; simp
    · rw [upd_ne q]; exact e
theorem vss_len {S : Hp} {vs : List V} {ss : List Sl} (h : VSs K S vs ss) : vs.length = ss.length := Paired.length h
theorem e_pop0C (j n : Nat) {to : TE} {ta : TA} (h : EvP K to Γ fun s Γ1 => ∃ a, s = .raw (.ref a) ∧ (∃ v Θ ss, Γ1[j]? = some (.res (star v Θ)) ∧ Θ[n]? = some (a, .lst ss)) ∧ EvA K ta Γ1 fun rs Γ2 => ∃ v Θ s0 ss, Γ2[j]? = some (.res (star v Θ)) ∧ Θ[n]? = some (a, .lst (s0 :: ss)) ∧ rs = [.dat (.int 0)] ∧ k s0 (Γ2.set j (.res (star v (Θ.set n (a, .lst ss)))))) :
    EvP K (tBM K "list" rPopAt to ta) Γ k := by
  intro σ S H fs Q w P
  refine h σ S H fs _ w fun x r1 Γ1 S1 H1 f1 fs1 hb w1 st1 => ?_
  obtain ⟨a, rfl, ⟨v0, Θ0, ss0, hj0, hn0⟩, hA⟩ := hb
  obtain ⟨e0, e1⟩ := w1.hd
  subst e0
  cases e1
  obtain ⟨vs0, q3, q4⟩ := star_cell w1.tl hj0 hn0
  refine ⟨.inl ⟨rfl, vs0, .inl (.inl q3)⟩, ?_⟩
  refine hA σ S1 H1 fs1 _ w1.tl fun vs rs Γ2 S2 H2 frs fs2 hk l1 l2 w2 st2 => ?_
  obtain ⟨v, Θ, s0, ss, hj, hn, rfl, hk⟩ := hk
  match vs, frs, l1, l2, w2, st2 with
  | [u], [f], _, _, w2, st2 =>
    have w2' : Wd K (some u :: σ) (.dat (.int 0) :: Γ2) S2 H2 (f :: fs2) := w2
    obtain ⟨e4, u', e5, hu⟩ := w2'.hd
    subst e4
    cases e5; cases hu
    obtain ⟨ws, q7, q8⟩ := star_cell w2'.tl hj hn
    cases q8 with
    | @cons y _ ys _ hy hys =>
      obtain ⟨w3, st3⟩ := star_upd (o := .lst ys) (c' := .lst ss) w2'.tl hj hn ⟨_, upd_same, hys⟩
      refine ⟨a, y :: ys, 0, 0, y, rfl, rfl, q7, by decide, by decide, by simp [seqIndex?], rfl, ?_⟩
      have st12 : Step S H fs.flatten S2 H2 fs2.flatten := (by simpa using st1 : Step S H fs.flatten S1 H1 fs1.flatten).trans (by simpa using st2)
      have P3 := P.trans (st12.trans st3)
      exact P3 y s0 _ S2 _ [] fs2 hk (w3.put hy.ok) (by simpa using Step.refl)
  | [], _, l1, _, _, _ => simp at l1
  | _ :: _ :: _, _, l1, _, _, _ => simp at l1
  | [_], [], _, l2, _, _ => simp at l2
  | [_], _ :: _ :: _, _, l2, _, _ => simp at l2
end Dl
namespace Dl
open PySem PySem.Spec PyProof.Rows L2
variable {K : Frag} {Γ : List Sl} {k : Sl → List Sl → Prop} {O : Out}
def HasL (Γ : List Sl) (a : Addr) (ss : List Sl) : Prop := (∃ (j n : Nat) (v : V) (Θ : List (Addr × Cell)), Γ[j]? = some (.res (star v Θ)) ∧ Θ[n]? = some (a, .lst ss)) ∨ ∃ (j : Nat) (ds : List PyData), Γ[j]? = some (.res (ownL a ds)) ∧ ss = ds.map .dat
theorem HasL.s (j n : Nat) {v : V} {Θ : List (Addr × Cell)} {a : Addr} {ss : List Sl} (h1 : Γ[j]? = some (.res (star v Θ))) (h2 : Θ[n]? = some (a, .lst ss)) : HasL Γ a ss := .inl ⟨j, n, v, Θ, h1, h2⟩
theorem HasL.cons {s : Sl} {a : Addr} {ss : List Sl} (h : HasL Γ a ss) : HasL (s :: Γ) a ss := by
  rcases h with ⟨j, n, v, Θ, h1, h2⟩ | ⟨j, ds, h1, h2⟩
  · exact .inl ⟨j + 1, n, v, Θ, by simpa using h1, h2⟩
  · exact .inr ⟨j + 1, ds, by simpa using h1, h2⟩
theorem HasL.at {σ : List (Option V)} {S H : Hp} {fs : List (List Addr)} {a : Addr} {ss : List Sl} (h : HasL Γ a ss) (w : Wd K σ Γ S H fs) : ∃ vs, H a = some (.lst vs) ∧ VSs K S vs ss := by
  rcases h with ⟨j, n, v, Θ, h1, h2⟩ | ⟨j, ds, h1, rfl⟩
  · exact star_cell w h1 h2
  · obtain ⟨x, fp, hx, hf, e1, e2, vs, h3, h4⟩ := w.sat.get h1
    exact ⟨vs, h3, VSs.of_dats h4⟩
theorem cb1raw {r : List V → Hp → VK → Prop} {u : V} (h : ∀ σ S H fs Q, Wd K σ Γ S H fs → Post K σ S H fs.flatten k Q → r [u] H Q) : CbK K r [.raw u] Γ k := by
  intro σ S H frs fs vs Q l1 l2 w P
  match vs, frs, l1, l2, w, P with
  | [v], [f], _, _, w, P =>
    have w' : Wd K (some v :: σ) (.raw u :: Γ) S H (f :: fs) := w
    obtain ⟨e0, e1⟩ := w'.hd
    subst e0
    cases e1
    exact h σ S H fs Q w'.tl (P.trans (Step.refl.sub fun a ha => by simpa using ha))
  | [], _, l1, _, _, _ => simp at l1
  | _ :: _ :: _, _, l1, _, _, _ => simp at l1
  | [_], [], _, l2, _, _ => simp at l2
  | [_], _ :: _ :: _, _, l2, _, _ => simp at l2
theorem cb_lenC {a : Addr} {ss : List Sl} (hL : HasL Γ a ss) (hk : k (.dat (.int ss.length)) Γ) : CbK K (rLen K) [.raw (.ref a)] Γ k :=
  cb1raw fun σ S H fs Q w P => by
    obtain ⟨vs, hH, hvs⟩ := hL.at w
    exact ⟨.ref a, ss.length, rfl, .inl ⟨vs, .inl (.inl hH), (vss_len hvs).symm⟩, P.dat w hk (.int _)⟩
theorem op_ixL {a : Addr} {ss : List Sl} {i : Int} {u : Sl} (hL : HasL Γ a ss) (hi : atI ss i = some u) (hk : k u Γ) : OpK K (uIx K) (.raw (.ref a)) (.dat (.int i)) Γ k := by
  intro σ S H f1 f2 fs x y Q w P
  obtain ⟨e0, e1⟩ := w.hd
  obtain ⟨e2, y', e3, hy⟩ := w.tl.hd
  subst e0 e2
  cases e1; cases e3; cases hy
  obtain ⟨vs, hH, hvs⟩ := hL.at w.tl.tl
  have hl := vss_len hvs
  unfold atI at hi
  rw [← hl] at hi
  cases q : ixN vs.length i with
  | none => rw [q] at hi; cases hi
  | some m =>
    rw [q] at hi
    obtain ⟨z, hz, hzs⟩ := VSs.get hvs hi
    refine .inl ⟨a, vs, i, z, rfl, rfl, .inl (.inl hH), by unfold atI; rw [q]; exact hz, ?_⟩
    exact (Post.drop2 P) z u Γ S H [] fs hk (w.tl.tl.put hzs.ok) (by simpa using Step.refl)
theorem own_dd {σ : List (Option V)} {S H : Hp} {fs : List (List Addr)} {a : Addr} {ds : List PyData} (hL : HasL Γ a (ds.map .dat)) (w : Wd K σ Γ S H fs) : Dp K H (.ref a) (.list ds) := by
  obtain ⟨vs, hH, hvs⟩ := hL.at w
  exact .lst (.inl (.inl hH)) (DdAll.dps (Le.dps w.good.sub (VSs.dats hvs)))
theorem op_neC {a : Addr} {ds : List PyData} {e : PyData} (hL : HasL Γ a (ds.map .dat)) (h1 : SeqAt.shaped (.list ds) = true) (h2 : SeqAt.shaped e = true) (hk : k (.dat (.bool (!PyData.eqv (.list ds) e))) Γ) : OpK K (uNe K) (.raw (.ref a)) (.dat e) Γ k := by
  intro σ S H f1 f2 fs x y Q w P
  obtain ⟨e0, e1⟩ := w.hd
  obtain ⟨e2, y', e3, hy⟩ := w.tl.hd
  subst e0 e2
  cases e1; cases e3
  exact ⟨_, _, own_dd hL w.tl.tl, (w.good.sub.dp hy).dp, h1, h2, (Post.drop2 P).dat w.tl.tl hk (.bl _)⟩
theorem valV_zip : ∀ {ns : List Str} {vs : List V} {q : Nat} {f : Str} {v : V}, ns.Nodup → ns[q]? = some f → vs[q]? = some v → valV ((ns.map (Sum.inr : Str → Key)).zip vs) (Sum.inr f) = some v
  | [], _, _, _, _, _, h, _ => by simp at h
  | _ :: _, [], _, _, _, _, _, h => by simp at h
  | n :: ns, u :: vs, 0, f, v, _, h1, h2 => by
    simp at h1 h2
    subst h1 h2
    exact valV_pos (p := (Sum.inr n, u)) rfl
  | n :: ns, u :: vs, q + 1, f, v, nd, h1, h2 => by
    simp only [List.getElem?_cons_succ] at h1 h2
    have hne : ¬ n = f := fun e => (List.nodup_cons.mp nd).1 (by rw [e]; exact List.mem_of_getElem? h1)
    rw [List.map_cons, List.zip_cons_cons]
    rw [valV_neg (p := (Sum.inr n, u)) fun e => hne (Sum.inr.inj e)]
    exact valV_zip (List.nodup_cons.mp nd).2 h1 h2
theorem map_zip_set : ∀ {ns : List Str} {vs : List V} {q : Nat} {f : Str} {v : V}, ns.Nodup → ns.length = vs.length → ns[q]? = some f → ((ns.map (Sum.inr : Str → Key)).zip vs).map (fun kv => if kv.1 = Sum.inr f then (kv.1, v) else kv) = (ns.map Sum.inr).zip (vs.set q v)
  | [], _, _, _, _, _, _, h => by simp at h
  | _ :: _, [], _, _, _, _, h, _ => by simp at h
  | n :: ns, u :: vs, 0, f, v, nd, hl, h1 => by
    simp at h1
    subst h1
    have hh : ∀ {ms : List Str} {us : List V}, n ∉ ms → ((ms.map (Sum.inr : Str → Key)).zip us).map (fun kv => if kv.1 = Sum.inr n then (kv.1, v) else kv) = (ms.map Sum.inr).zip us := by
      intro ms
      induction ms with
      | nil => intro us _; simp
      | cons m ms ih =>
        intro us hn
        cases us with
        | nil => simp
        | cons z us =>
          simp only [List.map_cons, List.zip_cons_cons]
          rw [if_neg (fun e => hn (by rw [← Sum.inr.inj e]; exact List.mem_cons_self)), ih fun q => hn (List.mem_cons_of_mem _ q)]
    simp only [List.map_cons, List.zip_cons_cons, List.set_cons_zero]
    rw [hh (List.nodup_cons.mp nd).1]
    simp
  | n :: ns, u :: vs, q + 1, f, v, nd, hl, h1 => by
    simp only [List.getElem?_cons_succ] at h1
    have hne : ¬ n = f := fun e => (List.nodup_cons.mp nd).1 (by rw [e]; exact List.mem_of_getElem? h1)
    simp only [List.map_cons, List.zip_cons_cons, List.set_cons_succ]
    rw [if_neg fun e => hne (Sum.inr.inj e), map_zip_set (List.nodup_cons.mp nd).2 (by simpa using hl) h1]
theorem putK_zip {ns : List Str} {vs : List V} {q : Nat} {f : Str} {v : V} (nd : ns.Nodup) (hl : ns.length = vs.length) (h : ns[q]? = some f) : putK ((ns.map (Sum.inr : Str → Key)).zip vs) (Sum.inr f) v = (ns.map Sum.inr).zip (vs.set q v) := by
  unfold putK
  rw [if_pos, map_zip_set nd hl h]
  rw [valV_any]
  have hq : q < vs.length := by rw [← hl]; exact (List.getElem?_eq_some_iff.mp h).1
  rw [valV_zip nd h (List.getElem?_eq_getElem hq)]
  rfl
theorem e_dgetC (j n q : Nat) {to ti : TE} (h : EvP K to Γ fun s Γ1 => EvP K ti Γ1 fun s2 Γ2 => ∃ a v Θ ns ss f u, s = .raw (.ref a) ∧ s2 = .dat (.str f) ∧ Γ2[j]? = some (.res (star v Θ)) ∧ Θ[n]? = some (a, .dS ns ss) ∧ ns[q]? = some f ∧ ss[q]? = some u ∧ k u Γ2) : EvP K (tDGet to ti) Γ k := by
  intro σ S H fs Q w P
  refine h σ S H fs _ w fun x r Γ1 S1 H1 f1 fs1 hb w1 st1 => ?_
  refine hb σ S1 H1 fs1 _ w1.tl fun y r2 Γ2 S2 H2 f2 fs2 hc w2 st2 => ?_
  obtain ⟨a, v, Θ, ns, ss, f, u, rfl, rfl, hj, hn, hq, hu, hk⟩ := hc
  obtain ⟨e0, e1⟩ := w1.hd
  obtain ⟨e2, y', e3, hy⟩ := w2.hd
  subst e0 e2
  cases e1; cases e3; cases hy
  obtain ⟨nd, hl, vs, hH, hvs⟩ := star_cell w2.tl hj hn
  obtain ⟨z, hz, hzs⟩ := VSs.get hvs hu
  refine ⟨a, z, rfl, ?_, ?_⟩
  · have := DGet.k (k := Sum.inr f) hH
    rw [valV_zip nd hq hz] at this
    exact this
  · have P2 := P.trans ((by simpa using st1 : Step S H fs.flatten S1 H1 fs1.flatten).trans (by simpa using st2 : Step S1 H1 fs1.flatten S2 H2 fs2.flatten))
    exact P2 z u Γ2 S2 H2 [] fs2 hk (w2.tl.put hzs.ok) (by simpa using Step.refl)
theorem x_dputC (j n q : Nat) {to ti te : TE} (h : EvP K te Γ fun s Γ1 => Pers s ∧ EvP K to Γ1 fun s2 Γ2 => EvP K ti Γ2 fun s3 Γ3 => ∃ a v Θ ns ss f, s2 = .raw (.ref a) ∧ s3 = .dat (.str f) ∧ Γ3[j]? = some (.res (star v Θ)) ∧ Θ[n]? = some (a, .dS ns ss) ∧ ns[q]? = some f ∧ ns.length < 1000 ∧ O.nx (Γ3.set j (.res (star v (Θ.set n (a, .dS ns (ss.set q s))))))) : ExS K (sDPut to ti te) Γ O := by
  intro σ S H fs D w E
  refine h σ S H fs _ w fun y s Γ1 S1 H1 f1 fs1 hb w1 st1 => ?_
  obtain ⟨hp, hb⟩ := hb
  obtain ⟨hv, e0⟩ := VS.of w1.hd hp
  subst e0
  refine hb σ S1 H1 fs1 _ w1.tl fun x s2 Γ2 S2 H2 f2 fs2 hc w2 st2 => ?_
  refine hc σ S2 H2 fs2 _ w2.tl fun z s3 Γ3 S3 H3 f3 fs3 hd w3 st3 => ?_
  obtain ⟨a, v, Θ, ns, ss, f, rfl, rfl, hj, hn, hq, hz, hk⟩ := hd
  obtain ⟨e1, e2⟩ := w2.hd
  obtain ⟨e3, z', e4, hz'⟩ := w3.hd
  subst e1 e3
  cases e2; cases e4; cases hz'
  obtain ⟨nd, hl, vs, hH, hvs⟩ := star_cell w3.tl hj hn
  have hlen := vss_len hvs
  refine ⟨a, _, rfl, DPut.k (k := Sum.inr f) hH (by rw [List.length_zip, List.length_map, sizeLine_eq]; omega), ?_⟩
  rw [putK_zip nd (by omega) hq]
  have hv2 := ((hv.mono st2.le).mono st3.le)
  obtain ⟨w4, st4⟩ := star_upd (o := .dK ((ns.map Sum.inr).zip (vs.set q y))) (c' := .dS ns (ss.set q s)) w3.tl hj hn ⟨nd, by simpa using hl, _, upd_same, VSs.set hv2 q hvs⟩
  have stA : Step S H fs.flatten S3 H3 fs3.flatten := ((by simpa using st1 : Step S H fs.flatten S1 H1 fs1.flatten).trans (by simpa using st2)).trans (by simpa using st3)
  exact (E.nx.step (stA.trans st4)) σ _ S3 _ fs3 hk w4 Step.refl
end Dl
namespace Dl
open PySem PySem.Spec PyProof.Rows L2
end Dl
namespace Dl
open PySem PySem.Spec PyProof.Rows L2
variable {K : Frag} {Γ : List Sl} {k : Sl → List Sl → Prop} {O : Out}
theorem allocStar {σ : List (Option V)} {S H : Hp} {fs : List (List Addr)} {p : Addr} {o : HO} {c : Cell} (w : Wd K σ Γ S H fs) (hp : H p = none) (hd : CellOk K S (upd H p o) p c) :
    Wd K (some (.ref p) :: σ) (.res (star (.ref p) [(p, c)]) :: Γ) S (upd H p o) ([p] :: fs) ∧ Step S H fs.flatten S (upd H p o) ([p] :: fs).flatten := by
  have nS : S p = none := w.good.sub.none hp
  have nF : ∀ a ∈ fs.flatten, a ≠ p := fun a ha e => w.good.al a ha (by rw [e]; exact hp)
  have leH : Le H (upd H p o) := fun a u e => by rw [upd_ne (ne_of_none e hp)]; exact e
  refine ⟨⟨⟨w.good.sub.trans leH, ?_, fun a ha => ?_, fun a ha => ?_⟩, .cons ⟨rfl, rfl, fun q hq => by simp only [List.mem_singleton] at hq; subst hq; exact hd⟩ (w.sat.step (Le.refl _) fun a ha => upd_ne (nF a ha))⟩, Le.refl _, fun a u e _ => leH a u e, fun a e => .inl e, fun a ha => ?_, fun a e => ?_⟩
  · simp only [List.flatten_cons]
    exact List.nodup_cons.mpr ⟨fun q => nF p q rfl, w.good.nd⟩
  · rcases List.mem_cons.mp (show a ∈ p :: fs.flatten by simpa using ha) with rfl | q
    · exact nS
    · exact w.good.dis a q
  · rcases List.mem_cons.mp (show a ∈ p :: fs.flatten by simpa using ha) with rfl | q
    · rw [upd_same]; simp
    · rw [upd_ne (nF a q)]
      exact w.good.al a q
  · rcases List.mem_cons.mp (show a ∈ p :: fs.flatten by simpa using ha) with rfl | q
    · exact .inl hp
    · exact .inr q
  · by_cases q : a = p
    · subst q
      rw [upd_same]
      simp
    · rw [upd_ne q]
      exact e
theorem e_lcS {wi : TI} {g : TG} {tt : TT} {te : TE} {vs : List Nat} (hg : Sets g vs) (gm : GMono g) (h : EvI K wi Γ fun f n G Γ1 => ∃ W : Nat → List Sl → List Sl → Prop, n ≤ sizeLine ∧ W 0 [] (wipeG Γ1 vs) ∧ (∀ i acc Γ, i ≤ n → W i acc (wipeG Γ vs) → G (wipeG Γ vs)) ∧
    (∀ i acc Γ, i < n → acc.length ≤ i → W i acc (wipeG Γ vs) → EvG K g (f i) (wipeG Γ vs) fun Γ2 => EvB K tt Γ2 fun b Γ3 => (b = true → EvP K te Γ3 fun r Γ4 => Pers r ∧ W (i + 1) (acc ++ [r]) (wipeG Γ4 vs)) ∧ (b = false → W (i + 1) acc (wipeG Γ3 vs))) ∧
    (∀ acc Γ, acc.length ≤ n → W n acc (wipeG Γ vs) → ∀ D, k (.res (star (.ref D) [(D, .lst acc)])) (wipeG Γ vs))) : EvP K (tLc wi g tt te vs) Γ k := by
  intro σ S H fs Q w P
  refine h σ S H fs _ w fun J f n G Γ1 S1 H1 fs1 hG hk w1 st1 tn => ?_
  obtain ⟨W, hn, h0, hWG, hs, hd⟩ := hk
  intro D hD
  refine ⟨fun i m H2 => m = n - i ∧ i ≤ n ∧ ∃ acc Γ2 S2 fs2, W i acc (wipeG Γ2 vs) ∧ acc.length ≤ i ∧ Wd K (some (.ref D) :: σ) (.res (star (.ref D) [(D, .lst acc)]) :: wipeG Γ2 vs) S2 H2 ([D] :: fs2) ∧ Step S1 H1 fs1.flatten S2 H2 ([D] :: fs2).flatten, ⟨n, by simp, Nat.zero_le _, ?_⟩, ?_⟩
  · obtain ⟨w2, st2⟩ := allocStar (o := .lst []) (c := .lst []) w1 hD ⟨[], upd_same, .nil⟩
    have w3 : Wd K σ (wipeG Γ1 vs) S1 (upd H1 D (.lst [])) (wipeA [] fs1 vs) := ⟨w2.tl.good.sublist (flat_wipe vs), sat_unwipe (sat_wipe w2.tl.sat)⟩
    refine ⟨[], Γ1, S1, wipeA [] fs1 vs, h0, Nat.le_refl _, ⟨w2.good.sublist ?_, .cons w2.hd w3.sat⟩, st2.sub fun a => mem2 fun b hb => (flat_wipe vs).subset hb⟩
    simp only [List.flatten_cons]
    exact (List.Sublist.refl _).append (flat_wipe vs)
  · rintro i m H2 ⟨rfl, hi, acc, Γ2, S2, fs2, hW, hal, w2, st2⟩
    obtain ⟨t1, t2⟩ := tn i _ _ S2 H2 _ hi (hG _ _ (hWG i acc Γ2 hi hW)) w2 st2
    by_cases hlt : i < n
    · obtain ⟨hgo, hy⟩ := t1 hlt
      refine .inr ⟨hgo, fun H' => ∃ acc Γ2 S2 fs2, W (i + 1) acc (wipeG Γ2 vs) ∧ acc.length ≤ i + 1 ∧ Wd K (some (.ref D) :: σ) (.res (star (.ref D) [(D, .lst acc)]) :: wipeG Γ2 vs) S2 H' ([D] :: fs2) ∧ Step S1 H1 fs1.flatten S2 H' ([D] :: fs2).flatten, fun H' q => ⟨n - (i + 1), by omega, rfl, hlt, q⟩, fun x H' y => ?_⟩
      obtain ⟨S', w3, st3⟩ := hy x H' y
      have st23 := st2.trans st3
      have w4 := w3.swap2
      have w5 : Wd K (some x :: wipe σ vs) (f i :: wipeG Γ2 vs) S' H' ([] :: wipeA [] fs2 vs) := by
        have q := w3.tl.tl.wipe vs
        rw [show wipeG (wipeG Γ2 vs) vs = wipeG Γ2 vs from wipeA_idem] at q
        exact q.put w3.hd
      have fsub : ∀ a, a ∈ ([] :: wipeA [] fs2 vs).flatten → a ∈ fs2.flatten := fun a ha => (flat_wipe vs).subset (by simpa using ha)
      have wD : Wd K (some (.ref D) :: (some x :: wipe σ vs)) (.res (star (.ref D) [(D, .lst acc)]) :: (f i :: wipeG Γ2 vs)) S' H' ([D] :: ([] :: wipeA [] fs2 vs)) := by
        refine ⟨w3.tl.good.sublist ?_, .cons w3.tl.hd w5.sat⟩
        simp only [List.flatten_cons, List.nil_append]
        exact (List.Sublist.refl _).append (flat_wipe vs)
      have stD : Step S1 H1 fs1.flatten S' H' ([D] :: ([] :: wipeA [] fs2 vs)).flatten := st23.sub fun a ha => by
        have := mem2 (f := [D]) fsub ha
        simpa using this
      have key : g x (wipe σ vs) H' fun σ2 H2' => wipe σ2 vs = wipe σ vs → tt σ2 H2' fun b H3 => if b = true then te σ2 H3 fun y H4 => ∃ acc, H4 D = some (.lst acc) ∧ acc.length < sizeLine ∧ (∃ acc' Γ2 S2 fs2, W (i + 1) acc' (wipeG Γ2 vs) ∧ acc'.length ≤ i + 1 ∧ Wd K (some (.ref D) :: σ) (.res (star (.ref D) [(D, .lst acc')]) :: wipeG Γ2 vs) S2 (upd H4 D (.lst (acc ++ [y]))) ([D] :: fs2) ∧ Step S1 H1 fs1.flatten S2 (upd H4 D (.lst (acc ++ [y]))) ([D] :: fs2).flatten)
          else (∃ acc' Γ2 S2 fs2, W (i + 1) acc' (wipeG Γ2 vs) ∧ acc'.length ≤ i + 1 ∧ Wd K (some (.ref D) :: σ) (.res (star (.ref D) [(D, .lst acc')]) :: wipeG Γ2 vs) S2 H3 ([D] :: fs2) ∧ Step S1 H1 fs1.flatten S2 H3 ([D] :: fs2).flatten) := by
        refine hs i acc Γ2 hlt hal hW (wipe σ vs) S' H' [] _ x _ w5 fun σ2 Γ3 S3 H3 fs3 hB w6 st6 => ?_
        obtain ⟨w7, st7⟩ := frame (ts := [some (.ref D)]) (Θ := [.res (star (.ref D) [(D, .lst acc)])]) (ft := [[D]]) rfl rfl wD w6 st6
        have st8 := stD.trans st7
        intro hw
        refine hB σ2 S3 H3 fs3 _ w6 fun b Γ4 S4 H4 fs4 hT w8 st9 => ?_
        obtain ⟨w9, st10⟩ := frame (ts := [some (.ref D)]) (Θ := [.res (star (.ref D) [(D, .lst acc)])]) (ft := [[D]]) rfl rfl w7 w8 st9
        have st11 := st8.trans st10
        have back : ∀ (Γx : List Sl) (Sx Hx : Hp) (fx : List (List Addr)) (accx : List Sl), Wd K (some (.ref D) :: σ2) (.res (star (.ref D) [(D, .lst accx)]) :: Γx) Sx Hx ([D] :: fx) → Wd K (some (.ref D) :: σ) (.res (star (.ref D) [(D, .lst accx)]) :: wipeG Γx vs) Sx Hx ([D] :: wipeA [] fx vs) := fun Γx Sx Hx fx accx wx => by
          have q := wx.tl.wipe vs
          rw [hw] at q
          refine ⟨wx.good.sublist ?_, .cons wx.hd (sat_unwipe q.sat)⟩
          simp only [List.flatten_cons]
          exact (List.Sublist.refl _).append (flat_wipe vs)
        cases b with
        | true =>
          rw [if_pos rfl]
          refine hT.1 rfl σ2 S4 H4 fs4 _ w8 fun y r Γ5 S5 H5 f5 fs5 hE w10 st12 => ?_
          obtain ⟨hpr, hW'⟩ := hE
          obtain ⟨w11, st13⟩ := frame (ts := [some (.ref D)]) (Θ := [.res (star (.ref D) [(D, .lst acc)])]) (ft := [[D]]) rfl rfl w9 w10 st12
          obtain ⟨hyd, e0⟩ := VS.of w10.hd hpr
          subst e0
          have w11' : Wd K (some (.ref D) :: some y :: σ2) (.res (star (.ref D) [(D, .lst acc)]) :: r :: Γ5) S5 H5 ([D] :: [] :: fs5) := w11
          have w12 : Wd K (some (.ref D) :: σ2) (.res (star (.ref D) [(D, .lst acc)]) :: Γ5) S5 H5 ([D] :: fs5) := w11'.swap2.tl
          obtain ⟨ws, hws, hda⟩ := star_cell (n := 0) (j := 0) w12 rfl rfl
          have hlen := vss_len hda
          refine ⟨ws, hws, by omega, acc ++ [r], Γ5, S5, wipeA [] fs5 vs, hW', by simp; omega, ?_⟩
          obtain ⟨w13, st14⟩ := star_upd (j := 0) (n := 0) (o := .lst (ws ++ [y])) (c' := .lst (acc ++ [r])) w12 rfl rfl ⟨_, upd_same, VSs.snoc hyd hda⟩
          refine ⟨back _ _ _ _ _ w13, ?_⟩
          have st15 : Step S1 H1 fs1.flatten S5 H5 ([D] :: fs5).flatten := (st11.trans st13).sub fun a ha => by simpa using ha
          exact (st15.trans st14).sub fun a => mem2 fun b hb => (flat_wipe vs).subset hb
        | false =>
          rw [if_neg (by decide)]
          exact ⟨acc, Γ4, S4, wipeA [] fs4 vs, hT.2 rfl, Nat.le_succ_of_le hal, back _ _ _ _ _ w9, st11.sub fun a => mem2 fun b hb => (flat_wipe vs).subset hb⟩
      refine gm x _ H' _ _ (fun σ' H'' ⟨e, q⟩ => ?_) (hg x _ H' _ key)
      have e' : wipe σ' vs = wipe σ vs := by rw [e, wipe_eq, wipe_eq, wipeA_idem]
      exact ⟨e', q e'⟩
    · have e1 : i = n := by omega
      subst e1
      refine .inl ⟨t2 rfl, ?_⟩
      exact P _ _ _ S2 H2 [D] fs2 (hd acc Γ2 hal hW D) w2 (by simpa using st1.trans st2)
def Cells (r : Res) (Θ : List (Addr × Cell)) : Prop := ∀ K S H fp, r.p K S H fp → fp = Θ.map (·.1) ∧ ∀ p ∈ Θ, CellOk K S H p.1 p.2
theorem cells_star {v : V} {Θ : List (Addr × Cell)} : Cells (star v Θ) Θ := fun _ _ _ _ h => h
theorem e_absorb {te : TE} (j : Nat) (h : EvP K te Γ fun r Γ1 => ∃ (rr : Res) (v : V) (Θ Θ' : List (Addr × Cell)), r = .res rr ∧ Cells rr Θ' ∧ Γ1[j]? = some (.res (star v Θ)) ∧ k (.raw rr.v) (Γ1.set j (.res (star v (Θ ++ Θ'))))) : EvP K te Γ k := by
  intro σ S H fs Q w P
  refine h σ S H fs _ w fun u r Γ1 S1 H1 f1 fs1 hb w1 st1 => ?_
  obtain ⟨rr, v, Θ, Θ', rfl, hC, hj, hk⟩ := hb
  obtain ⟨e1, hp⟩ := w1.hd
  cases e1
  obtain ⟨hf, hc⟩ := hC K S1 H1 f1 hp
  subst hf
  obtain ⟨x, fp, hx, hg, e2, e3, hcs⟩ := w1.tl.sat.get hj
  have e3 : fp = Θ.map (·.1) := e3
  have e2 : x = some v := e2
  subst e3
  have pm := flat_take fs1 j _ hg
  have jl : j < fs1.length := (List.getElem?_eq_some_iff.mp hg).1
  have pm2 := flat_put (fs1.set j []) j ((Θ ++ Θ').map (·.1)) (List.getElem?_set_self jl)
  rw [List.set_set] at pm2
  have perm : (Θ'.map (·.1) :: fs1).flatten.Perm ([] :: fs1.set j ((Θ ++ Θ').map (·.1))).flatten := by
    simp only [List.flatten_cons, List.nil_append]
    refine List.Perm.trans (pm.append_left _) (List.Perm.trans ?_ pm2.symm)
    rw [List.map_append, ← List.append_assoc]
    exact (List.perm_append_comm).append_right _
  have sat := w1.tl.sat.set (x := x) (s := .res (star v (Θ ++ Θ'))) (fp := (Θ ++ Θ').map (·.1)) j ⟨e2, rfl, fun p hp => by
    rcases List.mem_append.mp hp with q | q
    · exact hcs p q
    · exact hc p q⟩
  rw [setSame hx] at sat
  exact P rr.v _ _ S1 H1 [] _ hk ⟨w1.good.perm perm, .cons ⟨rfl, rfl⟩ sat⟩ (st1.sub fun a ha => perm.mem_iff.mpr ha)
end Dl
namespace Dl
open PySem PySem.Spec PyProof.Rows L2
variable {K : Frag} {Γ : List Sl} {k : Sl → List Sl → Prop} {O : Out}
theorem dps_strs {S : Hp} : ∀ {vs : List V} {ws : List Str}, DdAll K S vs (ws.map .str) → vs = ws.map .str
  | _, [], .nil => rfl
  | _, _ :: _, .cons h t => by cases h; rw [dps_strs t]; rfl
theorem flat_strs (ws : List Str) : (ws.map V.str).all flatV = true := by simp [flatV]
theorem inV_strs (w : Str) (ws : List Str) : inV (.str w) (ws.map V.str) = decide (w ∈ ws) := by
  unfold inV
  induction ws with
  | nil => simp
  | cons a ws ih =>
    rw [List.map_cons, List.any_cons, ih]
    show ((a == w) || _) = _
    by_cases h : a = w
    · subst h; simp
    · have : (a == w) = false := beq_eq_false_iff_ne.mpr h
      rw [this, Bool.false_or]
      simp [Ne.symm h]
theorem op_in_strs {w : Str} {d : PyData} {ws : List Str} (e : seqD d = some (ws.map .str)) (hk : k (.dat (.bool (decide (w ∈ ws)))) Γ) : OpK K (uIn K) (.dat (.str w)) (.dat d) Γ k :=
  op_or_l (op_pure (fun S H x y Q l h1 h2 q => by
    cases h1
    obtain ⟨b, a, xs, rfl, hq, ha, _, _, _⟩ := sq_of_dat l h2 e
    rw [dps_strs ha] at hq
    refine ⟨a, _, rfl, ?_, rfl, flat_strs ws, ?_⟩
    · cases b with
      | true => exact .inl hq
      | false => exact .inr hq
    · rw [if_neg (by decide), inV_strs]
      exact q _ (.bl _)) hk)
theorem op_ni_strs {w : Str} {d : PyData} {ws : List Str} (e : seqD d = some (ws.map .str)) (hk : k (.dat (.bool (!decide (w ∈ ws)))) Γ) : OpK K (uNotIn K) (.dat (.str w)) (.dat d) Γ k :=
  op_or_l (op_pure (fun S H x y Q l h1 h2 q => by
    cases h1
    obtain ⟨b, a, xs, rfl, hq, ha, _, _, _⟩ := sq_of_dat l h2 e
    rw [dps_strs ha] at hq
    refine ⟨a, _, rfl, ?_, rfl, flat_strs ws, ?_⟩
    · cases b with
      | true => exact .inl hq
      | false => exact .inr hq
    · rw [if_pos rfl, inV_strs]
      exact q _ (.bl _)) hk)
theorem zip_kV : ∀ {ns : List Str} {vs : List V}, (ns.map V.str).zip vs = ((ns.map (Sum.inr : Str → Key)).zip vs).map fun kv => (kV kv.1, kv.2)
  | [], _ => by simp
  | _ :: _, [] => by simp
  | n :: ns, v :: vs => by
    simp only [List.map_cons, List.zip_cons_cons]
    rw [zip_kV]
    rfl
def EvD (K : Frag) (trs : List (TE × TE)) (Γ : List Sl) (kd : List Str → List Sl → List Sl → Prop) : Prop :=
  ∀ σ S H fs (Q : List (V × V) → Hp → Prop), Wd K σ Γ S H fs → (∀ (ns : List Str) vs ss Γ' S' H' fs', kd ns ss Γ' → ns.length = ss.length → VSs K S' vs ss → Wd K σ Γ' S' H' fs' → Step S H fs.flatten S' H' fs'.flatten → Q ((ns.map V.str).zip vs) H') → tPairs trs σ H Q
theorem d_nil {kd : List Str → List Sl → List Sl → Prop} (h : kd [] [] Γ) : EvD K [] Γ kd := fun σ S H fs Q w P => P [] [] [] Γ S H fs h rfl .nil w Step.refl
theorem d_cons {n : Str} {te : TE} {trs : List (TE × TE)} {kd : List Str → List Sl → List Sl → Prop} (h : EvP K te Γ fun s Γ1 => Pers s ∧ EvD K trs Γ1 fun ns ss Γ2 => kd (n :: ns) (s :: ss) Γ2) : EvD K ((tC (.str n), te) :: trs) Γ kd := by
  intro σ S H fs Q w P
  refine h σ S H fs _ w fun v s Γ1 S1 H1 f1 fs1 hb w1 st1 => ?_
  obtain ⟨hp, hd⟩ := hb
  obtain ⟨hv, e0⟩ := VS.of w1.hd hp
  subst e0
  refine hd σ S1 H1 fs1 _ w1.tl fun ns vs ss Γ2 S2 H2 fs2 hk hl hvs w2 st2 => ?_
  have := P (n :: ns) (v :: vs) (s :: ss) Γ2 S2 H2 fs2 hk (by simp [hl]) (.cons (hv.mono st2.le) hvs) w2 ((by simpa using st1 : Step S H fs.flatten S1 H1 fs1.flatten).trans st2)
  exact this
theorem putK_fresh {acc : List (Key × V)} {n : Key} {v : V} (h : n ∉ acc.map (·.1)) : putK acc n v = acc ++ [(n, v)] := by
  unfold putK
  rw [if_neg]
  intro q
  obtain ⟨p, hp, e⟩ := List.any_eq_true.mp q
  exact h (List.mem_map.mpr ⟨p, hp, of_decide_eq_true e⟩)
theorem mergeK_nd : ∀ (more acc : List (Key × V)), (acc.map (·.1) ++ more.map (·.1)).Nodup → mergeK acc more = acc ++ more
  | [], acc, _ => by simp [mergeK]
  | p :: more, acc, nd => by
    have hn : p.1 ∉ acc.map (·.1) := fun h => (List.nodup_append.mp nd).2.2 _ h p.1 (by simp) rfl
    show mergeK (putK acc p.1 p.2) more = _
    rw [putK_fresh hn, mergeK_nd more]
    · simp
    · rw [List.map_append, List.append_assoc]
      exact nd
theorem zip_keys {ns : List Str} {vs : List V} (h : ns.length = vs.length) : ((ns.map (Sum.inr : Str → Key)).zip vs).map (·.1) = ns.map Sum.inr := by
  rw [List.map_fst_zip]
  simp [h]
theorem nd_inr {ns : List Str} (h : ns.Nodup) : (ns.map (Sum.inr : Str → Key)).Nodup := by
  induction ns with
  | nil => simp
  | cons n ns ih =>
    obtain ⟨h1, h2⟩ := List.nodup_cons.mp h
    rw [List.map_cons]
    refine List.nodup_cons.mpr ⟨fun q => ?_, ih h2⟩
    obtain ⟨m, hm, e⟩ := List.mem_map.mp q
    rw [Sum.inr.inj e] at hm
    exact h1 hm
theorem e_disp {trs : List (TE × TE)} (h : EvD K trs Γ fun ns ss Γ1 => ns.Nodup ∧ ns.length ≤ 15 ∧ ∀ p, k (.res (star (.ref p) [(p, .dS ns ss)])) Γ1) : EvP K (tDisp trs) Γ k := by
  intro σ S H fs Q w P
  intro p hp
  obtain ⟨w1, st1⟩ := allocStar (o := .dK []) (c := .dS [] []) w hp ⟨List.nodup_nil, rfl, [], upd_same, .nil⟩
  refine h σ S _ fs _ w1.tl fun ns vs ss Γ2 S2 H2 fs2 hk hl hvs w2 st2 => ?_
  obtain ⟨nd, h15, hk⟩ := hk
  obtain ⟨w3, st3⟩ := frame (ts := [some (.ref p)]) (Θ := [.res (star (.ref p) [(p, .dS [] [])])]) (ft := [[p]]) rfl rfl w1 w2 st2
  have hvl := vss_len hvs
  obtain ⟨_, _, us, hH, hus⟩ := star_cell (n := 0) (j := 0) w3 rfl rfl
  have hH : H2 p = some (.dK (([] : List Key).zip us)) := hH
  rw [List.zip_nil_left] at hH
  refine ⟨hH, (ns.map Sum.inr).zip vs, ?_, by rw [List.length_zip, List.length_map]; omega, ?_⟩
  · exact zip_kV
  · have em : mergeK [] ((ns.map (Sum.inr : Str → Key)).zip vs) = (ns.map Sum.inr).zip vs := by
      rw [mergeK_nd]
      · simp
      · rw [List.map_nil, List.nil_append, zip_keys (by omega)]
        exact nd_inr nd
    rw [em]
    obtain ⟨w4, st4⟩ := star_upd (n := 0) (j := 0) (o := .dK ((ns.map Sum.inr).zip vs)) (c' := .dS ns ss) w3 rfl rfl ⟨nd, hl, vs, upd_same, hvs⟩
    exact P _ _ Γ2 S2 _ [p] fs2 (hk p) w4 ((st1.trans st3).trans st4)
end Dl
namespace Dl
open PySem PySem.Spec PyProof.Rows L2
variable {K : Frag} {Γ : List Sl} {k : Sl → List Sl → Prop} {O : Out}
theorem dd_ints {S : Hp} : ∀ {vs : List V} {ns : List Int}, DdAll K S vs (ns.map .int) → vs = ns.map .int
  | _, [], .nil => rfl
  | _, n :: ns, .cons (.int _) h => by rw [List.map_cons, dd_ints h]
def Res.at (r : Res) (u : V) : Res := { v := u, p := r.p, loc := r.loc }
def tCallR (_ : Nat) (sp : Sp) (E : XK) (ta : TA) : TE := tCall sp [] E ta
theorem e_callR {F : FSpec} {ta : TA} {E : XK} {j : Nat} (h : EvA K (tCons (tVar j) ta) Γ fun rs Γ1 => ∃ (r : Res) (rt : List Sl), rs = .raw r.v :: rt ∧ Γ1[j]? = some (.res r) ∧ F (.res r :: rt) fun r0 as' => ∃ r' : Res, as'[0]? = some (.res r') ∧ r'.v = r.v ∧ as'.length = rs.length ∧ k r0 (Γ1.set j (.res r'))) :
    EvP K (tCallR j (spOf K F) E (tCons (tVar j) ta)) Γ k :=
  e_call1 0 j (h.mono fun rs Γ1 ⟨r, rt, e, h1, h2⟩ => by subst e; exact ⟨r, rfl, h1, h2⟩)
def pD (args : List Sl) (k : Sl → List Sl → Prop) (ds : List PyData) (r : PyData) : Prop := args = ds.map .dat ∧ k (.dat r) args
theorem bodyD {t : TS} {args : List Sl} {k : Sl → List Sl → Prop} {ds : List PyData} {r : PyData} {n : Nat} {Γ : List Sl} (h : pD args k ds r) (e : ds.map Sl.dat ++ List.replicate (n - ds.length) .no = Γ) (hx : ExS K t Γ (datOut r)) : ExS K t (args ++ List.replicate (n - args.length) .no) (fnOut args k) := by
  obtain ⟨rfl, hk⟩ := h
  have q := body_dats (t := t) (K := K) (N := List.replicate n (PySem.Str.ofString "")) hk (by rw [List.length_replicate, e]; exact hx)
  rwa [List.length_replicate] at q
end Dl
namespace Dl
open PySem PySem.Spec PyProof.Rows L2
structure DefX where
  adr : Frag → Addr
  name : Str
  qual : Str
  params : Arguments
  body : List Stmt
  scope : Scope
  dfl : List He.Dv := []
def fnX (K : Frag) (a : Addr) : He.FnW := match K.lookup a with
  | some ⟨_, _, .func fd, _⟩ => some (fd.name, fd.qualname, fd.params, fd.body, fd.scope, fd.globals, fd.closure, fd.builtins)
  | _ => none
def DefX.val (d : DefX) : He.FnW := some (d.name, d.qual, d.params, .stmts d.body, d.scope, mainGlobals, [], builtinsNs)
def DefX.dvs (K : Frag) (d : DefX) : List V := d.dfl.map (He.Dv.v K)
def DefX.ok (K : Frag) (d : DefX) : Bool := PySem.W.keepIn K (.ref (d.adr K)) && (match K.lookup (d.adr K) with
  | some ⟨_, _, .func fd, _⟩ => PySem.W.codeIn K fd.code d.qual && He.dflB K fd.defaults (d.dvs K)
  | _ => false)
theorem DefX.funD {K : Frag} {d : DefX} (e : fnX K (d.adr K) = d.val) (c : d.ok K = true) : ∃ fd, FunD K d.name d.qual d.params d.body d.scope (d.dvs K) [] (d.adr K) fd := by
  obtain ⟨kp, c2⟩ := He.ba c
  unfold fnX at e
  cases q : K.lookup (d.adr K) with
  | none =>
    rw [q] at c2
    cases c2
  | some o =>
    obtain ⟨oc, od, dt, osl⟩ := o
    rw [q] at c2 e
    cases dt with
    | func fd =>
      obtain ⟨n1, n2, n3, n4, n5, n6, n7, n8, n9, n10, n11, n12, n13, n14, n15⟩ := fd
      have e2 : (some (n1, n2, n3, n4, n5, n6, n7, n15) : He.FnW) = some (d.name, d.qual, d.params, .stmts d.body, d.scope, mainGlobals, [], builtinsNs) := e
      simp only [Option.some.injEq, Prod.mk.injEq] at e2
      obtain ⟨h1, h2, h3, h4, h5, h6, h7, h8⟩ := e2
      subst h1 h2 h3 h4 h5 h6 h7 h8
      have c3 : (PySem.W.codeIn K n13 d.qual && He.dflB K n8 (d.dvs K)) = true := c2
      obtain ⟨k1, k2⟩ := He.ba c3
      exact ⟨_, ⟨oc, od, n8, n9, n10, n11, n12, n13, n14, osl, rfl, q, k1, He.dflB_ok k2, .inl rfl⟩, kp⟩
    | _ => cases c2
abbrev AlX : Type := Bool × List He.FnW
def obsX (fa : List He.Fa) (fn : List DefX) (ex : Frag → Bool) (K : Frag) : AlX := ((fa.all fun f => f.ok K) && ((fn.all fun d => d.ok K) && ex K), fn.map fun d => fnX K (d.adr K))
def valX (fn : List DefX) : AlX := (true, fn.map DefX.val)
def SaysX (fa : List He.Fa) (fn : List DefX) (ex : Frag → Bool) (K : Frag) : Prop := obsX fa fn ex K = valX fn
section
variable {fa : List He.Fa} {fn : List DefX} {ex : Frag → Bool} {K : Frag}
theorem SaysX.fact (c : SaysX fa fn ex K) (i : Nat) {f : He.Fa} (h : fa[i]? = some f := by rfl) : f.ok K = true := by
  have c1 := (He.ba (show ((fa.all fun f => f.ok K) && ((fn.all fun d => d.ok K) && ex K)) = true from congrArg (fun z : AlX => z.1) c)).1
  exact List.all_eq_true.mp c1 f (List.mem_of_getElem? h)
theorem SaysX.more (c : SaysX fa fn ex K) : ex K = true :=
  (He.ba (He.ba (show ((fa.all fun f => f.ok K) && ((fn.all fun d => d.ok K) && ex K)) = true from congrArg (fun z : AlX => z.1) c)).2).2
theorem SaysX.def_ (c : SaysX fa fn ex K) (i : Nat) {d : DefX} (h : fn[i]? = some d := by rfl) : ∃ fd, FunD K d.name d.qual d.params d.body d.scope (d.dvs K) [] (d.adr K) fd := by
  have c2 := (He.ba (He.ba (show ((fa.all fun f => f.ok K) && ((fn.all fun d => d.ok K) && ex K)) = true from congrArg (fun z : AlX => z.1) c)).2).1
  have e : fn.map (fun d => fnX K (d.adr K)) = fn.map DefX.val := congrArg (fun z : AlX => z.2) c
  have e2 : (fn.map fun d => fnX K (d.adr K))[i]? = (fn.map DefX.val)[i]? := by rw [e]
  rw [List.getElem?_map, List.getElem?_map, h] at e2
  exact DefX.funD (Option.some.inj e2) (List.all_eq_true.mp c2 d (List.mem_of_getElem? h))
end
end Dl
namespace Dl
open PySem PySem.Spec PyProof.Rows L2
variable {K : Frag} {Γ : List Sl} {k : Sl → List Sl → Prop} {O : Out}
theorem kit_any2 (d : PyData) {A B : String} (hA : A = "int" ∨ A = "bool" ∨ A = "str" ∨ A = "list" ∨ A = "tuple" ∨ A = "dict") (hB : B = "int" ∨ B = "bool" ∨ B = "str" ∨ B = "list" ∨ B = "tuple" ∨ B = "dict") :
    PySem.W.kitAny K (.type (tyD d)) [.type A, .type B] = some (isT A d || isT B d) := by
  refine kitAny_cons (kit_ty (kit_isT d hA)) (fun e => ?_) (fun e => by rw [e]; rfl)
  refine kitAny_cons (kit_ty (kit_isT d hB)) (fun e2 => ?_) (fun e2 => by rw [e2, Bool.or_true])
  rw [e, e2]
  rfl
theorem e_isi2 {te : TE} {A B : String} (hA : A = "int" ∨ A = "bool" ∨ A = "str" ∨ A = "list" ∨ A = "tuple" ∨ A = "dict" := by decide) (hB : B = "int" ∨ B = "bool" ∨ B = "str" ∨ B = "list" ∨ B = "tuple" ∨ B = "dict" := by decide)
    (h : EvP K te Γ fun r Γ1 => ∃ d, r = .dat d ∧ k (.dat (.bool (isT A d || isT B d))) Γ1) : EvP K (tCB (rIsiU K) (tCons te (tCons (tTup (tCons (tC (.ty A)) (tCons (tC (.ty B)) tNil))) tNil))) Γ k := by
  intro σ S H fs Q w P
  refine h σ S H fs _ w fun v r Γ1 S1 H1 f1 fs1 hb w1 st1 => ?_
  obtain ⟨d, rfl, hk⟩ := hb
  obtain ⟨e0, v', e1, hd⟩ := w1.hd
  subst e0
  cases e1
  refine ⟨(show (2 : Nat) ≤ sizeLine by decide), fun p hp => ?_⟩
  obtain ⟨w3, st3⟩ := alloc (.tup [V.ty A, V.ty B]) w1.tl hp
  refine .inr (.inl ⟨v, p, [V.ty A, V.ty B], _, [.type A, .type B], _, rfl, upd_same, .cons (.ty A) (.cons (.ty B) .nil), dd_ty (w1.good.sub.trans fun b o e => by rw [upd_ne (ne_of_none e hp)]; exact e) hd, kit_any2 d hA hB, ?_⟩)
  exact ((P.trans (by simpa using st1)).trans st3).dat w3 hk (.bl _)
theorem iT {b : Bool} {A B : Prop} (e : b = true) (h : A) : if b = true then A else B := by rw [if_pos e]; exact h
theorem iF {b : Bool} {A B : Prop} (e : b = false) (h : B) : if b = true then A else B := by rw [if_neg (by rw [e]; decide)]; exact h
theorem op_ix' {d : PyData} {i : Int} (h : ∃ ds d', seqD d = some ds ∧ atI ds i = some d' ∧ k (.dat d') Γ) : OpK K (uIx K) (.dat d) (.dat (.int i)) Γ k := by
  obtain ⟨ds, d', h1, h2, h3⟩ := h
  exact op_ix_d h1 h2 h3
def datsOf : List Sl → Option (List PyData)
  | [] => some []
  | .dat d :: r => match datsOf r with
    | some ds => some (d :: ds)
    | none => none
  | _ :: _ => none
theorem datsOf_eq : ∀ {rs : List Sl} {ds : List PyData}, datsOf rs = some ds → rs = ds.map .dat
  | [], ds, h => by cases h; rfl
  | .dat d :: r, ds, h => by
    unfold datsOf at h
    cases q : datsOf r with
    | none => rw [q] at h; cases h
    | some es => rw [q] at h; cases h; rw [datsOf_eq q]; rfl
  | .no :: _, _, h => by cases h
  | .raw _ :: _, _, h => by cases h
  | .res _ :: _, _, h => by cases h
def smallL (ds : List PyData) : Bool := Nat.ble ds.length 1000
theorem smallL_ok {ds : List PyData} (h : smallL ds = true) : ds.length ≤ sizeLine := Nat.le_trans (Nat.le_of_ble_eq_true h) (by decide)
theorem e_tup' {ta : TA} (h : EvA K ta Γ fun rs Γ1 => ∃ ds : List PyData, datsOf rs = some ds ∧ smallL ds = true ∧ k (.dat (.tuple ds)) Γ1) : EvP K (tTup ta) Γ k := e_tup (h.mono fun rs Γ1 ⟨ds, e, z, q⟩ => ⟨ds, datsOf_eq e, smallL_ok z, q⟩)
theorem e_lst' {ta : TA} (h : EvA K ta Γ fun rs Γ1 => ∃ ds : List PyData, datsOf rs = some ds ∧ smallL ds = true ∧ k (.dat (.list ds)) Γ1) : EvP K (tLst ta) Γ k := e_lst (h.mono fun rs Γ1 ⟨ds, e, z, q⟩ => ⟨ds, datsOf_eq e, smallL_ok z, q⟩)
theorem op_in2 {w a b : Str} (hk : k (.dat (.bool (decide (w ∈ [a, b])))) Γ) : OpK K (uIn K) (.dat (.str w)) (.dat (.tuple [.str a, .str b])) Γ k := op_in_strs (ws := [a, b]) rfl hk
theorem op_ni3 {w a b c : Str} (hk : k (.dat (.bool (!decide (w ∈ [a, b, c])))) Γ) : OpK K (uNotIn K) (.dat (.str w)) (.dat (.tuple [.str a, .str b, .str c])) Γ k := op_ni_strs (ws := [a, b, c]) rfl hk
theorem op_mul_il {i j : Int} (h : (decide (-(2 ^ 64) < i) && decide (i < 2 ^ 64)) = true) (hk : k (.dat (.int (i * j))) Γ) : OpK K (uMul K) (.dat (.int i)) (.dat (.int j)) Γ k := by
  simp only [Bool.and_eq_true, decide_eq_true_eq] at h
  exact op_mul_i (.inl h) hk
theorem op_mul_ir {i j : Int} (h : (decide (-(2 ^ 64) < j) && decide (j < 2 ^ 64)) = true) (hk : k (.dat (.int (i * j))) Γ) : OpK K (uMul K) (.dat (.int i)) (.dat (.int j)) Γ k := by
  simp only [Bool.and_eq_true, decide_eq_true_eq] at h
  exact op_mul_i (.inr h) hk
structure Shp (n : Nat) (d : PyData) : Prop where
  lay : d.canLay0 = true
  dep : d.depth ≤ n
theorem Shp.shaped {n : Nat} {d : PyData} (h : Shp n d) (hn : n ≤ 64 := by decide) : SeqAt.shaped d = true := by
  unfold SeqAt.shaped
  rw [h.lay, decide_eq_true (Nat.le_trans h.dep hn)]
  rfl
theorem Shp.int {n : Nat} {i : Int} : Shp n (.int i) := ⟨by simp only [PyData.canLay0], by simp only [PyData.depth]; exact Nat.zero_le _⟩
theorem Shp.none {n : Nat} : Shp n .none := ⟨by simp only [PyData.canLay0], by simp only [PyData.depth]; exact Nat.zero_le _⟩
theorem Shp.bool {n : Nat} {b : Bool} : Shp n (.bool b) := ⟨by simp only [PyData.canLay0], by simp only [PyData.depth]; exact Nat.zero_le _⟩
theorem Shp.str {n : Nat} {x : Str} (h : PyData.strOk x = true) : Shp n (.str x) := ⟨by simp only [PyData.canLay0]; exact h, by simp only [PyData.depth]; exact Nat.zero_le _⟩
theorem shp_all {n : Nat} : ∀ {xs : List PyData}, (∀ x ∈ xs, Shp n x) → PyData.canLayAll0 xs = true ∧ PyData.depthAll xs ≤ n
  | [], _ => ⟨by simp only [PyData.canLayAll0], by simp only [PyData.depthAll]; exact Nat.zero_le _⟩
  | x :: xs, h => by
    obtain ⟨a, b⟩ := h x List.mem_cons_self
    obtain ⟨c, d⟩ := shp_all fun y hy => h y (List.mem_cons_of_mem _ hy)
    exact ⟨by simp only [PyData.canLayAll0, a, c, Bool.and_true], by simp only [PyData.depthAll]; exact Nat.max_le.mpr ⟨b, d⟩⟩
theorem Shp.list {n : Nat} {xs : List PyData} (h : ∀ x ∈ xs, Shp n x) : Shp (n + 1) (.list xs) := by
  obtain ⟨a, b⟩ := shp_all h
  exact ⟨by simp only [PyData.canLay0]; exact a, by simp only [PyData.depth]; omega⟩
theorem Shp.tuple {n : Nat} {xs : List PyData} (h : ∀ x ∈ xs, Shp n x) : Shp (n + 1) (.tuple xs) := by
  obtain ⟨a, b⟩ := shp_all h
  exact ⟨by simp only [PyData.canLay0]; exact a, by simp only [PyData.depth]; omega⟩
theorem shaped_int {i : Int} : SeqAt.shaped (.int i) = true := (Shp.int (n := 0)).shaped
theorem shaped_list {xs : List PyData} (h : ∀ x ∈ xs, Shp 5 x) : SeqAt.shaped (.list xs) = true := (Shp.list h).shaped
theorem shp_ints {n : Nat} {ns : List Int} : ∀ x ∈ ns.map PyData.int, Shp n x := fun x hx => by
  obtain ⟨i, _, rfl⟩ := List.mem_map.mp hx
  exact .int
theorem op_eq_ii {i j : Int} (hk : k (.dat (.bool (decide (i = j)))) Γ) : OpK K (uEq K) (.dat (.int i)) (.dat (.int j)) Γ k := by
  refine op_eq_d shaped_int shaped_int ?_
  rwa [show PyData.eqv (.int i) (.int j) = decide (i = j) by simp only [PyData.eqv]; by_cases h : i = j <;> simp [h]]
theorem op_ne_ii {i j : Int} (hk : k (.dat (.bool (!decide (i = j)))) Γ) : OpK K (uNe K) (.dat (.int i)) (.dat (.int j)) Γ k := by
  refine op_ne_d shaped_int shaped_int ?_
  rwa [show PyData.eqv (.int i) (.int j) = decide (i = j) by simp only [PyData.eqv]; by_cases h : i = j <;> simp [h]]
theorem op_eq_ss {x y : Str} (h1 : PyData.strOk x = true) (h2 : PyData.strOk y = true) (hk : k (.dat (.bool (x == y))) Γ) : OpK K (uEq K) (.dat (.str x)) (.dat (.str y)) Γ k := by
  refine op_eq_d (Shp.str (n := 0) h1).shaped (Shp.str (n := 0) h2).shaped ?_
  rwa [show PyData.eqv (.str x) (.str y) = (x == y) by simp only [PyData.eqv]]
theorem op_ne_ss {x y : Str} (h1 : PyData.strOk x = true) (h2 : PyData.strOk y = true) (hk : k (.dat (.bool (!(x == y)))) Γ) : OpK K (uNe K) (.dat (.str x)) (.dat (.str y)) Γ k := by
  refine op_ne_d (Shp.str (n := 0) h1).shaped (Shp.str (n := 0) h2).shaped ?_
  rwa [show PyData.eqv (.str x) (.str y) = (x == y) by simp only [PyData.eqv]]
end Dl
namespace Dl
open PySem PySem.Spec PyProof.Rows L2
variable {K : Frag} {Γ : List Sl} {k : Sl → List Sl → Prop} {O : Out}
theorem e_moveP (j : Nat) {te : TE} (h : EvP K te Γ fun s Γ1 => ∃ (r : Res) (u : V), s = .raw u ∧ Γ1[j]? = some (.res r) ∧ k (.res (r.at u)) (Γ1.set j .no)) : EvP K te Γ k := by
  intro σ S H fs Q w P
  refine h σ S H fs _ w fun v s Γ1 S1 H1 f1 fs1 hb w1 st1 => ?_
  obtain ⟨r, u, rfl, hj, hk⟩ := hb
  obtain ⟨e0, e1⟩ := w1.hd
  subst e0
  cases e1
  obtain ⟨x, fp, hx, hf, e2, hp⟩ := w1.tl.sat.get hj
  have pm := flat_take fs1 j fp hf
  have sat1 := w1.tl.sat.set (x := x) (s := .no) (fp := []) j rfl
  rw [setSame hx] at sat1
  have pp : (fp :: fs1.set j []).flatten.Perm fs1.flatten := by
    rw [List.flatten_cons]
    exact pm.symm
  exact P _ _ _ S1 H1 fp (fs1.set j []) hk ⟨w1.tl.good.perm pp.symm, .cons ⟨rfl, hp⟩ sat1⟩ (st1.sub fun a ha => by simpa using pp.mem_iff.mp ha)
end Dl
namespace Dl
open PySem PySem.Spec PyProof.Rows L2
variable {K : Frag} {Γ : List Sl} {k : Sl → List Sl → Prop} {O : Out}
theorem op_ne_same {d : PyData} (h : Shp 60 d) (hk : k (.dat (.bool false)) Γ) : OpK K (uNe K) (.dat d) (.dat d) Γ k := by
  refine op_ne_d h.shaped h.shaped ?_
  rw [SeqAt.eqv_refl d h.lay]
  exact hk
theorem Shp.le {n m : Nat} {d : PyData} (h : Shp n d) (l : n ≤ m := by decide) : Shp m d := ⟨h.lay, Nat.le_trans h.dep l⟩
end Dl
namespace Dl
open PySem PySem.Spec PyProof.Rows L2
variable {K : Frag} {Γ : List Sl} {k : Sl → List Sl → Prop} {O : Out}
def Scr (K : Frag) (ns : List Int) (s : Sl) : Prop := s = .dat (.list (ns.map .int)) ∨ ∃ a, s = .raw (.ref a) ∧ ∀ H, SqL K H a (ns.map V.int)
theorem e_scr {i : Nat} {s : Sl} {ns : List Int} (hs : Scr K ns s) (h : Γ[i]? = some s) (hk : k s Γ) : EvP K (tVar i) Γ k := by
  rcases hs with rfl | ⟨a, rfl, _⟩
  · exact e_dat h hk
  · exact e_raw h hk
theorem keep_scr {s : Sl} {ns : List Int} (hs : Scr K ns s) : Keep [s] [s] Γ := by
  rcases hs with rfl | ⟨a, rfl, _⟩
  · exact .dat .nil
  · exact .raw .nil
theorem ints_at {ns : List Int} {i : Nat} {x : V} (h : (ns.map V.int)[i]? = some x) : x = .int (ns.getD i 0) := by
  rw [List.getElem?_map] at h
  cases q : ns[i]? with
  | none => rw [q] at h; cases h
  | some n =>
    rw [q] at h
    cases h
    rw [List.getD_eq_getElem?_getD, q]
    rfl
theorem i_scr {tl : TE} {ns : List Int} {ki : (Nat → Sl) → Nat → (List Sl → Prop) → List Sl → Prop} (h : EvP K tl Γ fun r Γ1 => Scr K ns r ∧ (ns.length ≤ sizeLine → ∀ f : Nat → Sl, (∀ i, i < ns.length → f i = .dat (.int (ns.getD i 0))) → ki f ns.length (fun _ => True) Γ1)) : EvI K (iSq K tl) Γ ki := by
  intro σ S H fs R w P
  by_cases hz : ns.length ≤ sizeLine
  case neg =>
    refine h σ S H fs _ w fun v r Γ1 S1 H1 f1 fs1 hb w1 st1 => ?_
    obtain ⟨hs, hk⟩ := hb
    rcases hs with rfl | ⟨a, rfl, hA⟩
    · obtain ⟨e0, v', e1, hd⟩ := w1.hd
      subst e0; cases e1
      cases hd with
      | lst h1 ha =>
        have hl := dps_len ha
        rw [List.length_map] at hl
        exact .inl ⟨_, _, rfl, w1.good.sub.sqL (.inl h1), fun q => absurd (by omega) hz⟩
    · obtain ⟨e0, e1⟩ := w1.hd
      subst e0; cases e1
      exact .inl ⟨_, _, rfl, hA H1, fun q => absurd (by rw [List.length_map] at q; exact q) hz⟩
  refine h σ S H fs _ w fun v r Γ1 S1 H1 f1 fs1 hb w1 st1 => ?_
  obtain ⟨hs, hk⟩ := hb
  have hk := hk hz
  have mk : ∀ (a : Addr), (∀ H2, Le H1 H2 ∨ Le S1 H2 → SqL K H2 a (ns.map V.int)) → f1 = [] → v = .ref a → (∃ a xs, v = .ref a ∧ SqL K H1 a xs ∧ (xs.length ≤ sizeLine → R (Itl K a) H1)) := fun a hA e0 ev => by
    subst e0 ev
    refine ⟨a, ns.map V.int, rfl, hA H1 (.inl (Le.refl _)), fun hz => P _ _ _ _ Γ1 S1 H1 fs1 (fun _ _ h => h) (hk (fun i => .dat (.int (ns.getD i 0))) fun i _ => rfl) w1.tl (by simpa using st1) fun i σ2 Γ2 S2 H2 fs2 hi _ w2 st2 => ⟨fun hlt => ?_, fun he => ?_⟩⟩
    · have hq : SqL K H2 a (ns.map V.int) := hA H2 (.inr (st2.le.trans w2.good.sub))
      refine ⟨⟨_, _, hq, List.getElem?_eq_getElem (by rw [List.length_map]; exact hlt)⟩, fun x H' y => ?_⟩
      obtain ⟨rfl, y⟩ := y
      exact ⟨S2, w2.put ⟨rfl, x, rfl, by rw [ints_at (y _ hq)]; exact .int _⟩, Step.refl⟩
    · exact ⟨_, hA H2 (.inr (st2.le.trans w2.good.sub)), by rw [List.length_map]; omega⟩
  rcases hs with rfl | ⟨a, rfl, hA⟩
  · obtain ⟨e0, v', e1, hd⟩ := w1.hd
    cases e1
    cases hd with
    | @lst a xs _ h1 ha =>
      have hx : xs = ns.map V.int := dd_ints ha
      subst hx
      refine .inl (mk a (fun H2 q => ?_) e0 rfl)
      rcases q with q | q
      · exact q.sqL (w1.good.sub.sqL (.inl h1))
      · exact q.sqL (.inl h1)
  · obtain ⟨e0, e1⟩ := w1.hd
    cases e1
    exact .inl (mk a (fun H2 _ => hA H2) e0 rfl)
theorem e_lcScr {i : Nat} {tl te : TE} {tt : TT} {ns : List Int} (c : Int → Bool) (f : Int → PyData) (h : EvP K tl Γ fun r Γ1 => Scr K ns r ∧
    (∀ x ∈ ns, EvB K tt ((Γ1.set i .no).set i (.dat (.int x))) fun b Γ2 => b = c x ∧ if c x = true then EvP K te Γ2 fun r Γ3 => r = .dat (f x) ∧ Γ3.set i .no = Γ1.set i .no else Γ2.set i .no = Γ1.set i .no) ∧ k (.dat (.list ((ns.filter c).map f))) (Γ1.set i .no)) : EvP K (tLc (iSq K tl) (gName i) tt te [i]) Γ k := by
  refine e_lc (sets_name (by simp)) gm_name (i_scr (ns := ns) (h.mono fun r Γ1 ⟨e1, h1, h2⟩ => ⟨e1, fun hz ff hff => ?_⟩))
  refine ⟨fun j acc Γ => acc = ((ns.take j).filter c).map f ∧ Γ = Γ1.set i .no, hz, ⟨by simp, rfl⟩, fun _ _ _ _ _ => trivial, fun j acc Γx hj hl ⟨ha, hΓ⟩ => ?_, fun acc Γx hl ⟨ha, hΓ⟩ => ?_⟩
  · have hx : ns[j]? = some (ns.getD j 0) := by
      rw [List.getD_eq_getElem?_getD, List.getElem?_eq_getElem hj]
      rfl
    have hm := List.mem_of_getElem? hx
    have ht : ((ns.take (j + 1)).filter c).map f = ((ns.take j).filter c).map f ++ (if c (ns.getD j 0) then [f (ns.getD j 0)] else []) := by
      have hj' : j < ns.length := hj
      have e : ns[j] = ns.getD j 0 := by rw [List.getD_eq_getElem?_getD, List.getElem?_eq_getElem hj']; rfl
      rw [List.take_succ_eq_append_getElem hj', List.filter_append, List.map_append, e]
      generalize ns.getD j 0 = v
      cases q : c v <;> simp [q]
    rw [hΓ, hff j hj]
    refine g_name ((h1 _ hm).mono fun b Γ2 ⟨hb, hc⟩ => ⟨fun hb1 => ?_, fun hb0 => ?_⟩)
    · rw [← hb, hb1, if_pos rfl] at hc
      refine hc.mono fun r Γ3 ⟨hr, h3⟩ => ⟨_, hr, ?_, h3⟩
      rw [ht, ha, if_pos (by rw [← hb, hb1])]
    · rw [← hb, hb0, if_neg (by decide)] at hc
      refine ⟨?_, hc⟩
      rw [ht, ha, if_neg (by rw [← hb, hb0]; decide), List.append_nil]
  · rw [hΓ, ha, List.take_length]
    exact h2
theorem dps_of_ints {S : Hp} : ∀ (ns : List Int), DdAll K S (ns.map V.int) (ns.map .int)
  | [] => .nil
  | n :: ns => .cons (.int n) (dps_of_ints ns)
end Dl
namespace Dl
open PySem PySem.Spec PyProof.Rows L2
variable {K : Frag} {Γ : List Sl} {k : Sl → List Sl → Prop} {O : Out}
def ValD (K : Frag) (Γ : List Sl) (s : Sl) (d : PyData) : Prop := ∀ σ S H fs v, Wd K σ Γ S H fs → VS K S v s → Dp K H v d
inductive ValDs (K : Frag) (Γ : List Sl) : List Sl → List PyData → Prop
  | nil : ValDs K Γ [] []
  | cons {s : Sl} {d : PyData} {ss : List Sl} {ds : List PyData} : ValD K Γ s d → ValDs K Γ ss ds → ValDs K Γ (s :: ss) (d :: ds)
theorem ValDs.all {σ : List (Option V)} {S H : Hp} {fs : List (List Addr)} (w : Wd K σ Γ S H fs) : ∀ {ss : List Sl} {ds : List PyData} {vs : List V}, ValDs K Γ ss ds → VSs K S vs ss → DpAll K H vs ds
  | _, _, _, .nil, .nil => .nil
  | _, _, _, .cons a b, .cons c d => .cons (a _ _ _ _ _ w c) (ValDs.all w b d)
theorem ValDs.len : ∀ {ss : List Sl} {ds : List PyData}, ValDs K Γ ss ds → ss.length = ds.length
  | _, _, .nil => rfl
  | _, _, .cons _ b => by simp [b.len]
def HasT (Γ : List Sl) (a : Addr) (ss : List Sl) : Prop := ∃ (j n : Nat) (v : V) (Θ : List (Addr × Cell)), Γ[j]? = some (.res (star v Θ)) ∧ Θ[n]? = some (a, .tup ss)
theorem HasT.s (j n : Nat) {v : V} {Θ : List (Addr × Cell)} {a : Addr} {ss : List Sl} (h1 : Γ[j]? = some (.res (star v Θ))) (h2 : Θ[n]? = some (a, .tup ss)) : HasT Γ a ss := ⟨j, n, v, Θ, h1, h2⟩
theorem HasT.at {σ : List (Option V)} {S H : Hp} {fs : List (List Addr)} {a : Addr} {ss : List Sl} (h : HasT Γ a ss) (w : Wd K σ Γ S H fs) : ∃ vs, H a = some (.tup vs) ∧ VSs K S vs ss := by
  obtain ⟨j, n, v, Θ, h1, h2⟩ := h
  exact star_cell w h1 h2
end Dl
namespace Hw
open PySem PySem.Spec PyProof.Rows L2 Dl
def iL (ns : List Int) : List PyData := ns.map .int
theorem iL_len {ns : List Int} : (iL ns).length = ns.length := List.length_map ..
inductive Ins where
  | set (g v : Int)
  | offer (r : Int)
  | get (g c b l : Int)
  | put (g c b l : Int)
  | two (w : Str) (g a b : Int)
inductive CellT where
  | ins (h : Int) (i : Ins)
  | shw (p w : Int)
  | turn (g w : Int)
  | take (r w : Int)
  | goto (g : Int)
  | mark
  | stop
structure Code where
  votes : List Int
  size : Int
  cells : List CellT
  bank : List Int
def votesOk (vs : List Int) : Prop := 1 ≤ vs.length ∧ vs.length ≤ 5 ∧ ∀ (i : Nat) (v : Int), vs[i]? = some v → (i : Int) + 1 < 2 * v ∧ 2 * v ≤ 2 * ((i : Int) + 1)
inductive Thing where
  | reg (r n : Int)
  | cell (a n : Int)
  | pointer (n : Int)
  | slot (n : Option Int)
  | code (a h : Int) (i : Ins)
structure Strike where
  step : Int
  hue : Int
  th : Thing
structure HueD where
  regs : List Int
  bank : List Int
  ptr : Int
  slot : Option Int
  chg : List (Int × CellT)
inductive St where
  | running
  | caught
  | stopped
deriving DecidableEq
inductive Item where
  | shw (p n : Int)
  | take (n : Int)
  | stop
structure MD where
  code : Code
  left : List Int
  strikes : List Strike
  row : List Item
  steps : Int
  state : St
  addr : Option Int
  hues : List HueD
def agreedI (vs : List Int) (need : Int) : Option Int := vs.find? fun v => decide (need ≤ ((vs.count v : Nat) : Int))
abbrev Pair := List Int × List Int
def agreedP (vs : List Pair) (need : Int) : Option Pair := vs.find? fun v => decide (need ≤ ((vs.count v : Nat) : Int))
def needAt (c : Code) (w : Nat) : Int := c.votes.getD (w - 1) 0
def MD.need (d : MD) : Int := needAt d.code d.code.votes.length
def MD.fetch (d : MD) : Option Int := match agreedI (d.hues.map (·.ptr)) d.need with
  | some p => if p < d.code.cells.length then some p else none
  | none => none
def pointH (p : Int) (h : HueD) : HueD := { h with ptr := p }
def emptyH (h : HueD) : HueD := { h with slot := none }
def MD.point (d : MD) (p : Int) : MD := { d with hues := d.hues.map (pointH p) }
def MD.empty (d : MD) : MD := { d with hues := d.hues.map emptyH }
def worth (w : Str) (x y size : Int) : Int :=
  if w = PySem.Str.ofString "plus" then (x + y) % size else if w = PySem.Str.ofString "minus" then (x - y) % size else if w = PySem.Str.ofString "times" then x * y % size
  else if w = PySem.Str.ofString "rest" then (if y ≠ 0 then x % y else 0) else if w = PySem.Str.ofString "less" then (if x < y then 1 else 0) else (if x = y then 1 else 0)
def HueD.reg (h : HueD) (r : Int) : Int := h.regs.getD r.toNat 0
def HueD.setReg (h : HueD) (r n : Int) : HueD := { h with regs := h.regs.set r.toNat n }
def runIns (size : Int) (h : HueD) : Ins → HueD
  | .set g v => h.setReg g v
  | .offer r => { h with slot := some (h.reg r) }
  | .get g c b l => h.setReg g (h.bank.getD (b + h.reg c % l).toNat 0)
  | .put g c b l => { h with bank := h.bank.set (b + h.reg c % l).toNat (h.reg g) }
  | .two w g a b => h.setReg g (worth w (h.reg a) (h.reg b) size)
def runCell (size : Int) (h : HueD) : CellT → HueD
  | .ins _ i => runIns size h i
  | _ => h
def getC (l : List (Int × CellT)) (a : Int) : Option CellT := (l.find? fun p => decide (p.1 = a)).map (·.2)
def putC (l : List (Int × CellT)) (a : Int) (c : CellT) : List (Int × CellT) := if (l.any fun p => decide (p.1 = a)) = true then l.map (fun p => if p.1 = a then (p.1, c) else p) else l ++ [(a, c)]
def MD.onHue (d : MD) (i : Nat) (f : HueD → HueD) : MD := { d with hues := d.hues.modify i f }
def MD.slots (d : MD) (w : Int) : List Int := (d.hues.take w.toNat).filterMap (·.slot)
def MD.takeNo (d : MD) : Int := d.left.headD 0 % d.code.size
def markH (p : Pair) (h : HueD) : HueD := { h with regs := p.1, bank := p.2, chg := [] }
def upToL {α : Type} (f : α → α) (i : Nat) (l : List α) : List α := (l.take i).map f ++ l.drop i
def MD.settle (d : MD) (p : Int) : CellT → MD
  | .ins _ _ => d
  | .shw q w => match agreedI (d.slots w) (needAt d.code w.toNat) with
    | none => { d with state := .caught }
    | some n => { (d.point (p + 1)).empty with row := d.row ++ [.shw q n] }
  | .turn g w => match agreedI (d.slots w) (needAt d.code w.toNat) with
    | none => { d with state := .caught }
    | some n => (d.point (if n ≠ 0 then g else p + 1)).empty
  | .take r w => { d with left := d.left.tail, row := d.row ++ [.take d.takeNo], hues := upToL (fun h => h.setReg r d.takeNo) w.toNat (d.hues.map (pointH (p + 1))) }
  | .goto g => d.point g
  | .mark => match agreedP (d.hues.map fun h => (h.regs, h.bank)) d.need with
    | none => { d with state := .caught }
    | some q => (({ d with hues := d.hues.map (markH q) } : MD).point (p + 1)).empty
  | .stop => { d.point (p + 1) with row := d.row ++ [.stop], state := .stopped }
def MD.at (d : MD) (p : Int) : CellT → MD
  | .ins h i => (d.point (p + 1)).onHue h.toNat fun g => runCell d.code.size g ((getC g.chg p).getD (.ins h i))
  | c => d.settle p c
def MD.step (d : MD) : MD := match d.fetch with
  | none => { d with steps := d.steps + 1, state := .caught }
  | some p => match d.code.cells[p.toNat]? with
    | none => { d with steps := d.steps + 1 }
    | some c => ({ d with steps := d.steps + 1 } : MD).at p c
def strikeH (t : Thing) (h : HueD) : HueD := match t with
  | .reg r n => h.setReg r n
  | .cell a n => { h with bank := h.bank.set a.toNat n }
  | .pointer n => { h with ptr := n }
  | .slot n => { h with slot := n }
  | .code a hu i => { h with chg := putC h.chg a (.ins hu i) }
def dueL (n : Int) : List Strike → List HueD → List Strike × List HueD
  | [], hs => ([], hs)
  | s :: ss, hs => if s.step ≤ n then dueL n ss (hs.modify s.hue.toNat (strikeH s.th)) else (s :: ss, hs)
def MD.due (d : MD) : MD := { d with strikes := (dueL d.steps d.strikes d.hues).1, hues := (dueL d.steps d.strikes d.hues).2 }
def MD.run : Nat → MD → MD
  | 0, d => d
  | n + 1, d => if d.state = .running then MD.run n d.due.step else d
def MD.next (d : MD) : Option Int := if d.state = .running then d.fetch else none
def MD.go (n : Nat) (d : MD) : MD := { MD.run n d with addr := (MD.run n d).next }
def freshH (bank : List Int) : HueD := ⟨List.replicate 8 0, bank, 0, none, []⟩
def MD.new (c : Code) (left : List Int) (ss : List Strike) : MD := ⟨c, left, ss, [], 0, .running, some 0, c.votes.map fun _ => freshH c.bank⟩
end Hw
namespace Dl
open PySem PySem.Spec PyProof.Rows L2
end Dl
namespace Dl
open PySem PySem.Spec PyProof.Rows L2
end Dl
namespace Dl
open PySem PySem.Spec PyProof.Rows L2
end Dl
namespace Dl
open PySem PySem.Spec PyProof.Rows L2
def pick {α : Type} (js : List Nat) (l : List α) : List α := js.filterMap fun j => l[j]?
theorem pick_rel {js : List Nat} : ∀ {vs : List V} {us : List Value}, Vals vs us → Vals (pick js vs) (pick js us) := fun {vs us} r => by
  unfold pick
  induction js with
  | nil => exact .nil
  | cons j js ih =>
    cases hv : vs[j]? with
    | none =>
      have hu : us[j]? = none := by
        rw [List.getElem?_eq_none_iff] at hv ⊢
        rw [← r.length]
        exact hv
      rw [List.filterMap_cons_none hv, List.filterMap_cons_none hu]
      exact ih
    | some v =>
      obtain ⟨u, hu, ru⟩ := r.get hv
      rw [List.filterMap_cons_some hv, List.filterMap_cons_some hu]
      exact .cons ru ih
def tPerm (n : Nat) (js : List Nat) (tk : TA) : TA := fun σ H Q => tk σ H fun zs H1 => zs.length = n ∧ Q (pick js zs) H1
variable {K : Frag} {Γ : List Sl} {k : Sl → List Sl → Prop} {O : Out}
theorem pick_len {α : Type} {n : Nat} {l : List α} (hl : l.length = n) : ∀ (js : List Nat), (∀ j ∈ js, j < n) → (pick js l).length = js.length ∧ ∀ (i : Nat), (pick js l)[i]? = (js[i]?).bind fun (j : Nat) => l[j]? := fun js h => by
  induction js with
  | nil => exact ⟨rfl, fun i => by simp [pick]⟩
  | cons j js ih =>
    obtain ⟨i1, i2⟩ := ih fun x hx => h x (by simp [hx])
    have hj : j < l.length := by rw [hl]; exact h j (by simp)
    have e : pick (j :: js) l = l[j] :: pick js l := by
      unfold pick
      rw [List.filterMap_cons_some (List.getElem?_eq_getElem hj)]
    rw [e]
    refine ⟨by simp [i1], fun i => ?_⟩
    cases i with
    | zero => simp [hj]
    | succ i => simpa using i2 i
theorem pick_range {α : Type} (l : List α) : pick (List.range l.length) l = l := by
  apply List.ext_getElem?
  intro i
  rw [(pick_len rfl _ fun j hj => List.mem_range.mp hj).2 i]
  by_cases hi : i < l.length
  · rw [List.getElem?_range hi]
    rfl
  · rw [List.getElem?_eq_none (by simp; omega), List.getElem?_eq_none (by omega)]
    rfl
theorem pick_perm {α : Type} {n : Nat} {js : List Nat} {l : List α} (p : js.Perm (List.range n)) (hl : l.length = n) : (pick js l).Perm l := by
  have q := p.filterMap fun j => l[j]?
  have e : (List.range n).filterMap (fun j => l[j]?) = l := by
    have := pick_range l
    rw [hl] at this
    exact this
  rw [e] at q
  exact q
theorem pick_map {α β : Type} (f : α → β) (js : List Nat) (l : List α) : pick js (l.map f) = (pick js l).map f := by
  unfold pick
  rw [List.map_filterMap]
  congr 1
  funext j
  simp
theorem a_perm {n : Nat} {js : List Nat} {tk : TA} {k : List Sl → List Sl → Prop} (p : js.Perm (List.range n)) (h : EvA K tk Γ fun rs Γ1 => rs.length = n ∧ k (pick js rs) Γ1) : EvA K (tPerm n js tk) Γ k := by
  intro σ S H fs Q w P
  refine h σ S H fs _ w fun vs rs Γ' S' H' frs fs' ⟨hn, hk⟩ l1 l2 w' st => ?_
  have hb : ∀ j ∈ js, j < n := fun j hj => List.mem_range.mp (p.mem_iff.mp hj)
  have hv : vs.length = n := by omega
  have hf : frs.length = n := by omega
  obtain ⟨a1, a2⟩ := pick_len hv js hb
  obtain ⟨b1, b2⟩ := pick_len hn js hb
  obtain ⟨c1, c2⟩ := pick_len hf js hb
  have pf : (pick js frs ++ fs').flatten.Perm (frs ++ fs').flatten := by
    rw [List.flatten_append, List.flatten_append]
    exact ((pick_perm p hf).flatten).append_right _
  refine ⟨hv, P (pick js vs) (pick js rs) Γ' S' H' (pick js frs) fs' hk (by rw [a1, b1]) (by rw [c1, b1]) ⟨w'.good.perm pf.symm, ?_⟩ (st.sub fun x hx => pf.mem_iff.mp hx)⟩
  obtain ⟨m1, m2, hg⟩ := satL_iff.mp w'.sat
  refine satL_iff.mpr ⟨?_, ?_, fun i s e => ?_⟩
  · simp only [List.length_append, List.length_map] at m1 ⊢
    omega
  · simp only [List.length_append] at m2 ⊢
    omega
  by_cases hi : i < js.length
  · rw [List.getElem?_append_left (by omega), b2 i] at e
    obtain ⟨j, hj⟩ : ∃ j, js[i]? = some j := ⟨_, List.getElem?_eq_getElem hi⟩
    have hjn := hb j (List.mem_of_getElem? hj)
    rw [hj] at e
    obtain ⟨x, fp, e1, e2, e3⟩ := hg j s (by rw [List.getElem?_append_left (by omega)]; exact e)
    rw [List.getElem?_append_left (by simp; omega)] at e1
    rw [List.getElem?_append_left (by omega)] at e2
    refine ⟨x, fp, ?_, ?_, e3⟩
    · rw [List.getElem?_append_left (by simp; omega), ← pick_map, (pick_len (n := n) (by simp [hv]) js hb).2 i, hj]
      exact e1
    · rw [List.getElem?_append_left (by omega), c2 i, hj]
      exact e2
  · have hjl : js.length = n := by have := p.length_eq; simpa using this
    obtain ⟨x, fp, e1, e2, e3⟩ := hg i s (by
      rw [List.getElem?_append_right (by omega)] at e ⊢
      rw [b1] at e
      rw [hn]
      rw [hjl] at e
      exact e)
    refine ⟨x, fp, ?_, ?_, e3⟩
    · rw [List.getElem?_append_right (by simp; omega)] at e1 ⊢
      simpa [a1, hjl, hv] using e1
    · rw [List.getElem?_append_right (by omega)] at e2 ⊢
      rw [c1, hjl]
      rw [hf] at e2
      exact e2
end Dl
namespace Dl
open PySem PySem.Spec PyProof.Rows L2
end Dl
namespace Dl
open PySem PySem.Spec PyProof.Rows L2
end Dl
namespace Dl
open PySem PySem.Spec PyProof.Rows L2
structure RoomG (k : Nat) (A : Around) : Prop where
  room : Room k A
  g : A.guards = some []
theorem RoomG.mono {j k : Nat} {A : Around} (r : RoomG k A) (h : j ≤ k) : RoomG j A := ⟨r.room.mono h, r.g⟩
theorem RoomG.deeper {k : Nat} {A : Around} (r : RoomG (k + 1) A) (env : Env) : RoomG k (A.deeper env) := ⟨r.room.deeper env, r.g⟩
theorem RoomG.in1 {k : Nat} {A : Around} (r : RoomG (k + 1) A) : RoomG k A.in1 := ⟨r.room.in1, r.g⟩
structure FnG (P : Program) (w : World) (K : Frag) (mg : Str → Option Value) (base : Heap) (k : Nat) (f : Addr) (fd : FuncData) (ps : List Str) (sp : Sp) : Prop where
  len : ∀ vs H Q E, sp vs H Q E → vs.length = ps.length
  run : ∀ (A : Around) (outer : List Env) (s : Shared) (H : Hp) (args : Args) (us : List Value) (vs : List V) (Q : VK) (E : XK), RoomG k A → Env0 P w K mg base A outer s H → BindsTo s fd args (ps.zip us) → Vals vs us → sp vs H Q E →
    codeAny (model P w) A (.call (.ref f) args) (CR CX0 outer P w H s Q E) s
theorem FnG.of {P : Program} {w : World} {K : Frag} {mg : Str → Option Value} {base : Heap} {k : Nat} {f : Addr} {fd : FuncData} {ps : List Str} {sp : Sp} (F : FnOk P w K mg base CX0 k f fd ps sp) : FnG P w K mg base k f fd ps sp :=
  ⟨F.len, fun A outer s H args us vs Q E hr => F.run A outer s H args us vs Q E hr.room⟩
theorem FnG.mono {P : Program} {w : World} {K : Frag} {mg : Str → Option Value} {base : Heap} {j k : Nat} {f : Addr} {fd : FuncData} {ps : List Str} {sp : Sp} (F : FnG P w K mg base j f fd ps sp) (h : j ≤ k) : FnG P w K mg base k f fd ps sp :=
  ⟨F.len, fun A outer s H args us vs Q E hr => F.run A outer s H args us vs Q E (hr.mono h)⟩
section
variable {X : Cx} {k : Nat} {f : Addr} {fd : FuncData} {ps : List Str} {sp : Sp} {ds : List Value} {dvs : List V}
theorem run_g {pins : List (Addr × Obj)} {σ : L2.St} {H : Hp} {s : Shared} {Q : VK} {us : List Value} {vs : List V} (F : FnG X.prog X.w X.K X.mg X.base k f fd ps sp) (hr : RoomG k X.A) (hb : Binds X.K fd ps ds) (hd : Vals dvs ds)
    (I : Inv X pins σ H s) (r : Vals vs us) (h : sp (vs ++ dvs) H Q E0) : wpAny (model X.prog X.w) X.A (call (.ref f) us) (EP X pins σ Q) X.xe s := by
  have r2 : Vals (vs ++ dvs) (us ++ ds) := r.append hd
  have hl : (us ++ ds).length = ps.length := by rw [← r2.length]; exact F.len _ _ _ _ h
  refine wpAny_call (codeAny_mono (F.run X.A X.stack s H ⟨us, []⟩ (us ++ ds) (vs ++ dvs) Q E0 hr I.env0 (hb s us I.kIn hl) r2 h) fun res s' hq => ?_)
  cases res with
  | error e => exact pass0 pins σ H s e s' I hq
  | ok fl =>
    cases fl with
    | ret u => exact I.after hq
    | next => exact hq.elim
    | brk => exact hq.elim
    | cont => exact hq.elim
end
structure GCallee (P : Program) (w : World) (K : Frag) (mg : Str → Option Value) (base : Heap) (x : Str) (k : Nat) (ps : List Str) (sp : Sp) : Prop where
  ex : ∃ f fd, FnG P w K mg base k f fd ps sp ∧ mg x = some (.ref f) ∧ PySem.W.keepIn K (.ref f) = true ∧ Binds K fd ps []
section
variable {X : Cx} {x m : Str} {j k : Nat} {C : Addr} {ps : List Str} {sp : Sp} {p pos apos : Pos} {e o : Expr} {es : List Expr} {ta : TE} {t : TA} {dvs : List V}
theorem pg_u (F : GCallee X.prog X.w X.K X.mg X.base x j ps sp) (hr : RoomG k X.A) (hj : j ≤ k) (hg : Gl X x) (ha : PA X (e :: es) t) (hdb : (x == ("__debug__" : Str)) = false := by decide) (he : starEach (e :: es) X.env = (false, eval e X.env) :: starEach es X.env := by rfl) (hpl : (backTo pos (starEach es X.env)).any (·.1) = false := by rfl) :
    PE X (.Call (.Name x p) (e :: es) [] pos) (tCall sp [] E0 t) := by
  obtain ⟨f, fd, F, hm, hk, hb⟩ := F.ex
  refine ⟨fun pins s σ H Q I h => ?_⟩
  refine wpAny_Call_Name_kw (ld_glob I hg hm ?_ hdb)
  exact PySem.W.callWith_K (h₀ := X.base) I.ok.mod.kin hk (thn (ha.run pos pins s σ H _ I h) fun us s1 ⟨vs, H1, I1, r, q⟩ => ⟨I1.kIn, run_g F (hr.mono hj) hb .nil I1 r q⟩) he hpl
end
theorem fng_mk {P : Program} {w : World} {K : Frag} {mg : Str → Option Value} {base : Heap} {x qual : Str} {params : Arguments} {body : List Stmt} {scope : Scope} {f : Addr} {fd : FuncData} {N ps : List Str} {k : Nat} {F : FSpec} {dvs : List V} {kws : List (Str × V)}
    (FD : FunD K x qual params body scope dvs kws f fd) (S : FnScope N ps scope)
    (hn : ∀ args k, F args k → args.length = ps.length) (t : TS) (ht : ∀ args k, F args k → ExS K t (args ++ List.replicate (N.length - args.length) .no) (fnOut args k))
    (hd : ∀ (cdv : Value) (A : Around) (outer : List Env) (s : Shared) (H : Hp) (E : XK), RoomG k (A.deeper (envOfC qual scope s.heap.objs.size f cdv)) → PSs (cxOf CX0 P w K mg base N qual scope f cdv A outer s H E).nox body t) :
    FnG P w K mg base (k + 1) f fd ps (spOf K F) := by
  obtain ⟨oc, od, dV, kV, doc, pm, an, cdv, ct, osl, rfl, lk, hcd, _, _⟩ := FD.ex
  refine ⟨fun vs H Q E h => sp_len hn h, fun A outer s H args us vs Q E hr e0 hb r hsp => ?_⟩
  have hl : vs.length = ps.length := sp_len hn hsp
  have KX : K.In s.heap := e0.mod.kin.keeps fun b o e => (e0.bs b o e).1
  have lim : s.heap.NoLimit := e0.mod.nolimit.keeps fun b o e => (e0.bs b o e).1
  have hkind : ∀ y ∈ ps.zip us, scope.names.lookup y.1 = some .local ∨ (scope.names.lookup y.1 = some .cell ∧ ((cellsFrom (s.heap.objs.size + 1) scope.names []).lookup y.1).isSome = true) := fun ⟨n, v⟩ hy => by
    rcases S.par n (List.of_mem_zip hy).1 with q | q
    · exact .inl q
    · exact .inr ⟨q, PySem.W.cellsFrom_some _ _ _ (.inl q)⟩
  refine codeAny_call_function hr.room.depth (KX _ _ lk) rfl S.co S.gen rfl (PySem.W.codeRec_of KX hcd) (hb _ _ _ _ ?_)
  refine wpAny_newFunctionEnv_cells S.kind hkind fun env he s1 x1 => ?_
  subst he
  refine ⟨lim.keeps x1.toInCall.keep, codeAny_func ?_⟩
  have hq := fn_body ht hsp
  have I : Inv (cxOf CX0 P w K mg base N qual scope f cdv A outer s H E) [] (start N vs) H s1 := inv_start S hr.room.hd e0 hl r x1
  refine wpAny_mono (((hd cdv A outer s H E (hr.deeper _)).nox).run [] s1 (start N vs) H _ I hq) (fun fl s' hs => ?_) fun e s' hs => hs
  cases fl with
  | ret u =>
    obtain ⟨v, σ', H', J, rv, q⟩ := hs
    exact ⟨v, H', J.os, J.bare, J.base, J.hok, rv, q⟩
  | next =>
    obtain ⟨σ', H', J, q⟩ := hs
    exact ⟨V.non, H', J.os, J.bare, J.base, J.hok, rfl, q⟩
  | brk =>
    obtain ⟨_, _, _, q⟩ := hs
    exact q.elim
  | cont =>
    obtain ⟨_, _, _, q⟩ := hs
    exact q.elim
theorem gcallee_mk {P : Program} {w : World} {K : Frag} {mg : Str → Option Value} {base : Heap} {x qual : Str} {params : Arguments} {body : List Stmt} {scope : Scope} {f : Addr} {N ps : List Str} {k : Nat} {F : FSpec}
    (hf : ∃ fd, FunD K x qual params body scope [] [] f fd) (S : FnScope N ps scope)
    (hb : ∀ (kV doc pm : Value) (an : Option Addr) (cdv ct : Value) (us : List Value), us.length = ps.length → bindArgs (PySem.W.fnOf x qual params body scope .none kV doc pm an cdv ct) ⟨us, []⟩ = pure (ps.zip us))
    (g : mg x = some (.ref f)) (hn : ∀ args k, F args k → args.length = ps.length) (t : TS) (ht : ∀ args k, F args k → ExS K t (args ++ List.replicate (N.length - args.length) .no) (fnOut args k))
    (hd : ∀ (cdv : Value) (A : Around) (outer : List Env) (s : Shared) (H : Hp) (E : XK), RoomG k (A.deeper (envOfC qual scope s.heap.objs.size f cdv)) → PSs (cxOf CX0 P w K mg base N qual scope f cdv A outer s H E).nox body t) :
    GCallee P w K mg base x (k + 1) ps (spOf K F) := by
  obtain ⟨fd, FD⟩ := hf
  exact ⟨f, fd, fng_mk FD S hn t ht hd, g, FD.kp, FD.bindsN hb⟩
end Dl
namespace Dl
open PySem PySem.Spec PyProof.Rows L2
end Dl
namespace Dl
open PySem PySem.Spec PyProof.Rows L2
end Dl
namespace Dl
open PySem PySem.Spec PyProof.Rows L2
end Dl
namespace Dl
open PySem PySem.Spec PyProof.Rows L2
end Dl
namespace Dl
open PySem PySem.Spec PyProof.Rows L2
end Dl
namespace Dl
open PySem PySem.Spec PyProof.Rows L2
structure GCalleeK (P : Program) (w : World) (K : Frag) (mg : Str → Option Value) (base : Heap) (x : Str) (k : Nat) (ps ks : List Str) (js : List Nat) (sp : Sp) : Prop where
  ex : ∃ f fd, FnG P w K mg base k f fd ps sp ∧ mg x = some (.ref f) ∧ PySem.W.keepIn K (.ref f) = true ∧ ∀ (s : Shared) (ws : List Value), ws.length = ks.length → BindsTo s fd ⟨[], ks.zip ws⟩ (ps.zip (pick js ws))
theorem gcalleeK_mk {P : Program} {w : World} {K : Frag} {mg : Str → Option Value} {base : Heap} {x qual : Str} {params : Arguments} {body : List Stmt} {scope : Scope} {f : Addr} {N ps ks : List Str} {js : List Nat} {k : Nat} {F : FSpec}
    (FD : ∃ fd, FunD K x qual params body scope [] [] f fd) (S : FnScope N ps scope)
    (hb : ∀ (kV doc pm : Value) (an : Option Addr) (cdv ct : Value) (ws : List Value), ws.length = ks.length → bindArgs (PySem.W.fnOf x qual params body scope .none kV doc pm an cdv ct) ⟨[], ks.zip ws⟩ = pure (ps.zip (pick js ws)))
    (g : mg x = some (.ref f)) (hn : ∀ args k, F args k → args.length = ps.length) (t : TS) (ht : ∀ args k, F args k → ExS K t (args ++ List.replicate (N.length - args.length) .no) (fnOut args k))
    (hd : ∀ (cdv : Value) (A : Around) (outer : List Env) (s : Shared) (H : Hp) (E : XK), RoomG k (A.deeper (envOfC qual scope s.heap.objs.size f cdv)) → PSs (cxOf CX0 P w K mg base N qual scope f cdv A outer s H E).nox body t) :
    GCalleeK P w K mg base x (k + 1) ps ks js (spOf K F) := by
  obtain ⟨fd, FD⟩ := FD
  refine ⟨f, fd, fng_mk FD S hn t ht hd, g, FD.kp, ?_⟩
  obtain ⟨oc, od, dV, kV, doc, pm, an, cdv, ct, osl, rfl, lk, hcd, hD, hK⟩ := FD.ex
  rcases hD with ⟨_, rfl⟩ | ⟨e, _⟩
  · exact fun s ws hl => .of_eq (hb kV doc pm an cdv ct ws hl)
  · exact absurd rfl e
section
variable {X : Cx} {x m : Str} {j k : Nat} {C : Addr} {ps ks : List Str} {js : List Nat} {sp : Sp} {p pos apos : Pos} {o : Expr} {kws : List Keyword} {ta : TE} {tk : TA}
theorem pg_uk {n : Nat} (F : GCalleeK X.prog X.w X.K X.mg X.base x j ps ks js sp) (hr : RoomG k X.A) (hj : j ≤ k) (hg : Gl X x) (hkw : PK X kws tk)
    (hall : (backToKw pos (keywordEach kws X.env)).all (·.1.isSome) = true) (hks : (backToKw pos (keywordEach kws X.env)).filterMap (·.1) = ks)
    (hpl : ((backTo pos (starEach [] X.env)).any (·.1) || (backToKw pos (keywordEach kws X.env)).any (·.1.isNone)) = false)
    (hn : ks.length = n) (hdb : (x == ("__debug__" : Str)) = false := by decide) :
    PE X (.Call (.Name x p) [] kws pos) (tCall sp [] E0 (tPerm n js tk)) := by
  subst hn
  obtain ⟨f, fd, F, hm, hk, hb⟩ := F.ex
  refine ⟨fun pins s σ H Q I h => ?_⟩
  refine wpAny_Call_Name_kw (ld_glob I hg hm ?_ hdb)
  refine PySem.W.callWith_KW0 (first := []) (h₀ := X.base) I.ok.mod.kin hk hall (thn (hkw.run pos pins s σ H _ I h) fun ws st2 ⟨zs, H2, I2, rz, hl, q2⟩ => ⟨I2.kIn, ?_⟩) hpl
  rw [hks]
  have hlw : ws.length = ks.length := by rw [← rz.length]; exact hl
  have q3 : sp (pick js zs) H2 Q E0 := by
    have z : sp (pick js zs ++ []) H2 Q E0 := q2
    rwa [List.append_nil] at z
  refine wpAny_call (codeAny_mono (F.run X.A X.stack st2 H2 ⟨[], ks.zip ws⟩ (pick js ws) (pick js zs) Q E0 (hr.mono hj) I2.env0 (hb st2 ws hlw) (pick_rel rz) q3) fun res st' hq => ?_)
  cases res with
  | error e => exact pass0 pins σ H2 st2 e st' I2 hq
  | ok fl =>
    cases fl with
    | ret u => exact I2.after hq
    | next => exact hq.elim
    | brk => exact hq.elim
    | cont => exact hq.elim
end
end Dl
namespace Dl
open PySem PySem.Spec PyProof.Rows L2
end Dl
namespace Dl
open PySem PySem.Spec PyProof.Rows L2
end Dl
namespace Dl
open PySem PySem.Spec PyProof.Rows L2
end Dl
namespace Dl
open PySem PySem.Spec PyProof.Rows L2
structure Rp (n W : Nat) (d : PyData) : Prop where
  shp : Shp n d
  short : d.intsShort 13 = true
  shw : d.showable = true
  w : d.weight ≤ W
  ok : ∀ c ∈ d.shown.cps.toList, c < 1114112
theorem Rp.le {n m W X : Nat} {d : PyData} (h : Rp n W d) (l : n ≤ m) (lw : W ≤ X) : Rp m X d := ⟨h.shp.le l, h.short, h.shw, Nat.le_trans h.w lw, h.ok⟩
theorem Rp.int {n : Nat} {i : Int} (h0 : 0 ≤ i) (h1 : i ≤ 20000) : Rp n 15 (.int i) := by
  have hn : i.natAbs ≤ 20000 := by omega
  have hl : i.natAbs.log2 ≤ 14 := by
    by_cases hz : i.natAbs = 0
    · rw [hz]; decide
    · have := (Nat.log2_lt hz).mpr (show i.natAbs < 2 ^ 15 by omega)
      omega
  refine ⟨.int, ?_, ?_, ?_, ?_⟩
  · simp only [PyData.intsShort, decide_eq_true_eq]
    exact PyData.shown_int_le (by have : (10 : Nat) ^ 12 = 1000000000000 := by decide
                                  omega)
  · simp only [PyData.showable, decide_eq_true_eq]
    omega
  · simp only [PyData.weight]
    split <;> omega
  · intro c hc
    by_cases hlt : c < 1114112
    · exact hlt
    · exact absurd hc (shown_int_free' ⟨by omega, .inr (by omega)⟩ i)
theorem Rp.none {n : Nat} : Rp n 0 .none := ⟨.none, rfl, rfl, Nat.le_refl _, by decide +kernel⟩
theorem Rp.str {n W : Nat} {x : Str} (h1 : PyData.strOk x = true) (h2 : x.cps.size ≤ W) (h3 : ∀ c ∈ (PyData.str x).shown.cps.toList, c < 1114112) : Rp n W (.str x) := ⟨.str h1, rfl, rfl, h2, h3⟩
theorem rp_all {n : Nat} : ∀ {xs : List PyData}, (∀ x ∈ xs, ∃ W, Rp n W x) → PyData.intsShortAll 13 xs = true ∧ PyData.showableAll xs = true
  | [], _ => ⟨rfl, rfl⟩
  | x :: xs, h => by
    obtain ⟨q1, q2⟩ := rp_all fun y hy => h y (List.mem_cons_of_mem _ hy)
    obtain ⟨W, r⟩ := h x (List.mem_cons_self ..)
    exact ⟨by simp only [PyData.intsShortAll, r.short, q1, Bool.and_self], by simp only [PyData.showableAll, r.shw, q2, Bool.and_self]⟩
theorem weight_all {W : Nat} : ∀ {xs : List PyData}, (∀ x ∈ xs, x.weight ≤ W) → PyData.weightAll xs ≤ xs.length * (W + 1)
  | [], _ => by simp [PyData.weightAll]
  | x :: xs, h => by
    have h1 := h x (List.mem_cons_self ..)
    have h2 := weight_all fun y hy => h y (List.mem_cons_of_mem _ hy)
    simp only [PyData.weightAll, List.length_cons, Nat.succ_mul]
    omega
theorem shownAll_mem : ∀ {xs : List PyData} {t : Str}, t ∈ PyData.shownAll xs → ∃ x ∈ xs, t = x.shown
  | [], _, h => by cases h
  | x :: xs, t, h => by
    simp only [PyData.shownAll] at h
    rcases List.mem_cons.mp h with rfl | q
    · exact ⟨x, List.mem_cons_self .., rfl⟩
    · obtain ⟨y, hy, e⟩ := shownAll_mem q
      exact ⟨y, List.mem_cons_of_mem _ hy, e⟩
theorem Rp.tupW {n W : Nat} {xs : List PyData} (h : ∀ x ∈ xs, ∃ W, Rp n W x) (hw : PyData.weightAll xs ≤ W) : Rp (n + 1) W (.tuple xs) := by
  obtain ⟨q1, q2⟩ := rp_all h
  refine ⟨.tuple fun x hx => (h x hx).elim fun _ r => r.shp, q1, q2, hw, ?_⟩
  intro c hc
  have e : (PyData.tuple xs).shown = tupleText (PyData.shownAll xs) := rfl
  rw [e] at hc
  unfold tupleText at hc
  rw [mem_cps_append, mem_cps_append, mem_join] at hc
  rcases hc with (hc | (⟨t, ht, hc⟩ | ⟨_, hc⟩)) | hc
  · revert hc; revert c; decide
  · obtain ⟨x, hx, rfl⟩ := shownAll_mem ht
    obtain ⟨W, r⟩ := h x hx
    exact r.ok c hc
  · revert hc; revert c; decide
  · split at hc
    · revert hc; revert c; decide
    · revert hc; revert c; decide
theorem Rp.tup {n W : Nat} {xs : List PyData} (h : ∀ x ∈ xs, Rp n W x) : Rp (n + 1) (xs.length * (W + 1)) (.tuple xs) := .tupW (fun x hx => ⟨W, h x hx⟩) (weight_all fun x hx => (h x hx).w)
theorem Rp.lay {n W : Nat} {d : PyData} (h : Rp n W d) (hn : n ≤ 64) (hW : W ≤ 1048576) : PyData.layable0 d = true := by
  unfold PyData.layable0
  simp only [Bool.and_eq_true, decide_eq_true_eq]
  exact ⟨⟨h.shp.lay, Nat.le_trans h.shp.dep hn⟩, Nat.le_trans h.w (Nat.le_trans hW (by decide))⟩
theorem Rp.strOk {n W : Nat} {d : PyData} (h : Rp n W d) : PyData.strOk d.shown = true := by
  unfold PyData.strOk
  rw [Array.all_eq_true_iff_forall_mem]
  intro c hc
  exact decide_eq_true (h.ok c (Array.mem_toList_iff.mpr hc))
variable {K : Frag} {Γ : List Sl} {k : Sl → List Sl → Prop} {O : Out}
end Dl
namespace Dl
open PySem PySem.Spec PyProof.Rows L2
section
variable {K : Frag} {Γ : List Sl} {k : Sl → List Sl → Prop} {O : Out}
theorem x_seqP {t u : TS} (P : List Sl → Prop) (h1 : ExS K t Γ { O with nx := P }) (h2 : ∀ Γ1, P Γ1 → ExS K u Γ1 O) : ExS K (tSeq t u) Γ O := x_seq (h1.mono h2 (fun _ _ h => h) (fun _ h => h) (fun _ h => h))
end
end Dl
namespace Dl
open PySem PySem.Spec PyProof.Rows L2
end Dl
namespace Dl
open PySem PySem.Spec PyProof.Rows L2
section
variable {X : Cx} {pins : List (Addr × Obj)} {σ : L2.St} {H : Hp} {s : Shared} {a C : Addr}
def ExT (C a : Addr) : HO := .ext fun h => ∃ (oe : Obj) (vs : Array Value), h.get? a = some oe ∧ Zc (.ref C) none oe ∧ oe.data = .fields vs
theorem exT_ok {P : Program} {w : World} {h : Heap} {oe : Obj} {vs : Array Value} (e : h.get? a = some oe) (z : Zc (.ref C) none oe) (d : oe.data = .fields vs) : ObjOk P w H h a (ExT C a) :=
  ⟨⟨oe, vs, e, z, d⟩, ⟨oe, e⟩, fun _ _ ⟨o, us, q, z', d'⟩ st => ⟨o, us, st _ q, z', d'⟩⟩
theorem inv_told {oe : Obj} {vs : Array Value} (I : Inv X pins σ H s) (e : s.heap.get? a = some oe) (z : Zc (.ref C) none oe) (d : oe.data = .fields vs) (na : H a = none) (n0 : X.s_0.heap.get? a = none) (nL : a ≠ X.env.locals) (np : ∀ p ∈ X.pn ++ pins, p.1 ≠ a) :
    Inv X pins σ (upd H a (ExT C a)) s := by
  have off : ∀ {b : Addr} {u : HO}, H b = some u → upd H a (ExT C a) b = some u := fun q => by rw [upd_ne (ne_of_none q na)]; exact q
  refine ⟨I.ok, I.os, I.bare, ⟨I.base.keep, I.base.slot, fun b o q n hx => ?_, I.base.there, fun b xs q => off (I.base.tups b xs q), fun b o u q => off (I.base.frzs b o u q), fun b ps q => ?_⟩, I.loc, I.cell, ?_, fun x c q => ?_, fun p hp => ?_, I.hok.laidN (fun _ _ q => q) na (exT_ok e z d), I.len⟩
  · rw [upd_ne (fun y => by rw [y, n0] at q; cases q)]
    exact I.base.free b o q n hx
  · obtain ⟨more, hm⟩ := I.base.tbls b ps q
    exact ⟨more, off hm⟩
  · rw [upd_ne nL.symm]; exact I.free
  · rw [upd_ne fun y => ?_]
    · exact I.freeC x c q
    · obtain ⟨v, o, ho, hv⟩ := I.cell x c q
      rw [y, e] at ho
      cases ho
      rw [d] at hv
      cases hv
  · obtain ⟨h1, h2, h3⟩ := I.pin p hp
    exact ⟨h1, by rw [upd_ne (np p hp)]; exact h2, h3⟩
def rIsT (K : PySem.W.Frag) : List V → Hp → VK → Prop := fun xs H Q => ∃ (a C : Addr) (c : V) (cv : Value) (b : Bool), xs = [.ref a, c] ∧ H a = some (ExT C a) ∧ ExcC K C ∧ (∀ u, RelV c u → u = cv) ∧ PySem.W.kitOne K (.ref C) cv = some b ∧ Q (.bl b) H
theorem call_isT {X : Cx} : CallR X (.builtin "isinstance") (rIsT X.K) := by
  intro pins s σ H xs us Q I r h
  obtain ⟨a, C, c, cv, b, rfl, hH, F, hcv, hk, q⟩ := h
  match us, r with
  | [_, _], .cons ra (.cons rc .nil) =>
    cases ra
    rw [hcv _ rc]
    obtain ⟨⟨oe, vs, e, ⟨z1, z2⟩, d⟩, _, _⟩ := I.hok a _ hH
    have at_ : PySem.W.InstAt s.heap a oe C none := by
      cases oe
      cases z1
      cases z2
      cases d
      exact ⟨e, rfl, rfl, trivial⟩
    exact PySem.W.kia_one (PySem.W.handS_kitx_exc F.hg F.hk F.hs F.hd F.ha F.hn F.ht F.hm) I.kIn at_ hk (fun y => nomatch y) fun tk => ⟨.bl b, H, I.kept (t' := tk) fun _ _ y => y, rfl, q⟩
end
def wAsT (K : PySem.W.Frag) (c : Value) (i : Nat) (ts : Addr → Value → Option Addr → TS) (Wout : WX) (D : Ends) : WX := fun cls d σ H =>
  ∃ b, PySem.W.exmOne K cls c = some b ∧ (b = true → ∃ C, cls = .ref C ∧ d = none ∧ ∀ a, H a = none → ts a cls d { nx := fun σ1 H1 => H1 a = none → D.nx (σ1.set i none) (upd H1 a (ExT C a)), rt := fun _ _ => False, bk := fun _ _ => False, ct := fun _ _ => False } (σ.set i (some (.ref a))) H) ∧ (b = false → Wout cls d σ H)
section
variable {X : Cx} {x n : Str} {c : Value} {i : Nat} {body suite : List Stmt} {b₀ : Stmt} {np pos pos' : Pos} {tb : WX → TS} {ts : Addr → Value → Option Addr → TS} {Wout : WX}
theorem ps_try_told (hst : X.stack = X.env :: X.outer) (hf : X.env.frame = some X.env.locals) (hex : X.ex = []) (hN : X.N.Nodup) (hi : X.N[i]? = some n) (hln : X.env.kindOf n = some .local) (hc : Names X x c) (tk : Takes X Wout)
    (hb : ∀ (W : WX) (pn : List (Addr × Obj)) (xe : Value → Shared → Prop), Takes (X.tr pn xe) W → PassesOwn (model X.prog X.w) X.A X.env xe → PSs (X.tr pn xe) body (tb W))
    (hsu : ∀ (a : Addr) (oe : Obj) (cls : Value) (d : Option Addr) (pn : List (Addr × Obj)), Zc cls d oe → (∃ vs, oe.data = .fields vs) → PSs (X.suite a ((a, oe) :: pn)) (b₀ :: suite) (ts a cls d)) :
    PS X (.Try body [.ExceptHandler (some (.Name x np)) (some n) (b₀ :: suite) pos'] [] [] pos) (fun D σ H => tb (wAsT X.K c i ts Wout D) D σ H) := by
  refine ⟨fun pins s σ H D I h => wpAny_Try_except ?_⟩
  have ok := I.ok
  have hfr : X.A.frames = some (X.env :: X.outer) := ok.frames.trans (congrArg some hst)
  have run := (hb (wAsT X.K c i ts Wout D) (X.pn ++ pins) (fun e s1 => wpAny (model X.prog X.w) X.A (noteFrame e X.env) (fun _ s2 => wpAny (model X.prog X.w) X.A (setFlight e none) (fun _ s3 =>
    wpAny (model X.prog X.w) X.A (handleBy e X.env [.ExceptHandler (some (.Name x np)) (some n) (b₀ :: suite) pos']) (SP X pins D) X.xe s3) X.xe s2) X.xe s1) (fun u s' xx => ?_) PassesOwn.looking).run [] s σ H D (I.toTry _) h
  · refine wpAny_mono run (fun f s1 hsp => ?_) fun _ _ y => y
    cases f with
    | next =>
      obtain ⟨σ1, H1, J1, q⟩ := hsp
      exact wpAny_execs_nil ⟨σ1, H1, J1.ofTry ok, q⟩
    | brk => obtain ⟨σ1, H1, J1, q⟩ := hsp; exact ⟨σ1, H1, J1.ofTry ok, q⟩
    | cont => obtain ⟨σ1, H1, J1, q⟩ := hsp; exact ⟨σ1, H1, J1.ofTry ok, q⟩
    | ret u => obtain ⟨v, σ1, H1, J1, r1, q⟩ := hsp; exact ⟨v, σ1, H1, J1.ofTry ok, r1, q⟩
  obtain ⟨a, B, sI, pins', σ', H', cls, d, rfl, J', nb, up, sky, na, os, ag, b, hexm, hyes, hno⟩ := xx
  have J : Inv X pins σ' H' sI := J'.ofTry ok
  rw [hst] at sky
  refine Sky.land Zc.steady hfr hf sky fun hA flA upA => ?_
  have JA : Inv X pins σ' H' { s' with heap := hA } := J.landed nb flA.1 (up.trans upA) os ag
  have offFr : ∀ {h : Heap}, HandSPX.FlyingZ B (X.env :: X.outer) a (Zc cls d) h → a ∉ frs (X.env :: X.outer) := fun {h} fl hm => by
    obtain ⟨oe, vs, he, _, hd⟩ := fl.there
    obtain ⟨_, o, ho, hnf⟩ := fl.2.2.1.mem hm
    rw [he] at ho
    cases ho
    exact hnf _ hd
  have nFr := offFr flA
  have nL : a ≠ X.env.locals := fun y => nFr (List.mem_filterMap.mpr ⟨X.env, List.mem_cons_self, by rw [hf, y]⟩)
  have nF : a ∉ X.fs := fun hm => by
    obtain ⟨e, he, q⟩ := List.mem_filterMap.mp hm
    exact nFr (List.mem_filterMap.mpr ⟨e, List.mem_cons_of_mem _ he, q⟩)
  have nI : sI.heap.get? a = none := by
    cases q : sI.heap.get? a with
    | none => rfl
    | some o =>
      have y := nb a o q (by rw [hst]; exact nFr)
      rw [flA.2.1] at y
      cases y
  have n0 : X.s_0.heap.get? a = none := by
    cases q : X.s_0.heap.get? a with
    | none => rfl
    | some o =>
      obtain ⟨o', y⟩ := J.base.there a o q (by rw [hex]; simp)
      rw [nI] at y
      cases y
  have np' : ∀ p ∈ X.pn ++ pins, p.1 ≠ a := fun p hp y => by
    have q := (J.pin p hp).1
    rw [y, nI] at q
    cases q
  obtain ⟨oA, vA, eA, zA, dA⟩ := flA.there
  have SA := JA.suite eA dA na nL nF
  refine wpAny_handleBy_cons (codeAny_handlers_test ?_) (by intro q; cases q)
  have LT : PySem.W.Looks (model X.prog X.w) hA (typeOf (.ref a)) cls := fun A Q E s k q => wpAny_typeOf_ref (k _ _ eA) (by rw [zA.1]; exact q)
  have LM := PySem.W.exm_one (M := model X.prog X.w) JA.kIn LT hexm
  have clause : ∀ {Q : Value → Shared → Prop} {E : Value → Shared → Prop}, Q c { s' with heap := hA } → wpAny (model X.prog X.w) (X.A.mark (some (.ref a))) (eval (.Name x np) X.env) Q E { s' with heap := hA } := fun {Q E} q => by
    obtain ⟨hg, hdb, hm | ⟨hm, hv, hn⟩⟩ := hc
    · exact ld_glob (X := X.suite a ((a, oA) :: (X.pn ++ pins))) SA hg hm q hdb
    · exact ld_blt (X := X.suite a ((a, oA) :: (X.pn ++ pins))) SA hg hm hv q hn hdb
  refine clause (LM.here ?_)
  cases b with
  | true =>
    obtain ⟨C, rfl, rfl, hgo⟩ := hyes rfl
    refine codeAny_handlers_suite_as (HandSPX.lands_againZ flA fun hB flB upB => ?_)
    have JB : Inv X pins σ' H' { s' with heap := hB } := J.landed nb flB.1 ((up.trans upA).trans upB) os ag
    obtain ⟨oB, vB, eB, zB, dB⟩ := flB.there
    have SB := JB.suite eB dB na nL nF
    refine store_ok (X := X.suite a ((a, oB) :: (X.pn ++ pins))) (v := .ref a) SB hN hi (.inl hln) rfl (fun sC SC => ?_) (.inr hln)
    refine wpAny_mono ((hsu a oB (.ref C) none (X.pn ++ pins) zB ⟨_, dB⟩).run [] sC _ H' _ SC (hgo a na)) (fun f sD hsp => ?_) (fun _ _ y => False.elim y)
    cases f with
    | next =>
      obtain ⟨σD, HD, SD, qD⟩ := hsp
      refine gone_ok (X := X.suite a ((a, oB) :: (X.pn ++ pins))) SD hN hi hln fun sE SE => ?_
      obtain ⟨gE, nE, _⟩ := SE.pin (a, oB) (List.mem_append_left _ List.mem_cons_self)
      exact ⟨_, _, inv_told (SE.unsuite ok) gE zB dB nE n0 nL np', qD nE⟩
    | brk => obtain ⟨_, _, _, y⟩ := hsp; exact y.elim
    | cont => obtain ⟨_, _, _, y⟩ := hsp; exact y.elim
    | ret u => obtain ⟨_, _, _, _, _, y⟩ := hsp; exact y.elim
  | false =>
    refine wpAny_handleBy_nil ?_
    obtain ⟨k1, k2, k3, oe, vs, T, oT, us, he, hz, hd, h1, hr⟩ := id flA
    have fly : wpAny (model X.prog X.w) X.A (setFlight (.ref a) X.env.frame) (fun _ sB => wpAny (model X.prog X.w) X.A (throw (.ref a) : Sem Flow) (SP X pins D) X.xe sB) X.xe { s' with heap := hA } := by
      rw [hf]
      refine HandSPX.setFlight_upZ flA fun hB heB upB => wpAny_throw (tk _ _ ?_)
      refine ⟨a, B, sI, pins, σ', H', cls, d, rfl, J, nb, (up.trans upA).trans upB, .inr (.inr ?_), na, os, ag, hno rfl⟩
      rw [hst]
      exact heB
    unfold PySem.passOn
    refine wpAny_bind (wpAny_field he hd h1 ?_)
    rw [if_neg (show ¬ ((Value.ref T == Value.none) = true) from by simp)]
    first
      | exact wpAny_bind (wpAny_pure (wpAny_bind fly))
      | exact wpAny_bind fly
end
end Dl
namespace Dl
open PySem PySem.Spec PyProof.Rows L2
abbrev XSpec := List Sl → (Value → List Sl → Prop) → Prop
abbrev FSpecX := List Sl → (Sl → List Sl → Prop) → (Value → List Sl → Prop) → Prop
def EndX (K : Frag) (S H : Hp) (F : List Addr) (ox : Value → List Sl → Prop) (E : XK) : Prop := ∀ cls σ' Γ' S' H' fs', ox cls Γ' → Wd K σ' Γ' S' H' fs' → Step S H F S' H' fs'.flatten → E cls none H'
def PostX (K : Frag) (σ : List (Option V)) (S H : Hp) (F : List Addr) (ox : Value → List Sl → Prop) (E : XK) : Prop := ∀ cls Γ' S' H' fs', ox cls Γ' → Wd K σ Γ' S' H' fs' → Step S H F S' H' fs'.flatten → E cls none H'
def spX (K : Frag) (F : FSpecX) : Sp := fun vs H Q E => ∃ (args : List Sl) (S : Hp) (fs : List (List Addr)) (k : Sl → List Sl → Prop) (kx : Value → List Sl → Prop),
  Wd K (vs.map some) args S H fs ∧ F args k kx ∧ Post K (vs.map some) S H fs.flatten k Q ∧ PostX K (vs.map some) S H fs.flatten kx E
def orX (F : FSpec) (R : XSpec) : FSpecX := fun args k kx => F args k ∨ R args kx
section
variable {K : Frag} {Γ : List Sl} {k : Sl → List Sl → Prop} {O : Out} {ox : Value → List Sl → Prop}
theorem EndX.step {S H S1 H1 : Hp} {F F1 : List Addr} {E : XK} (e : EndX K S H F ox E) (s : Step S H F S1 H1 F1) : EndX K S1 H1 F1 ox E := fun cls σ' Γ' S' H' fs' h w s' => e cls σ' Γ' S' H' fs' h w (s.trans s')
theorem PostX.step {S H S1 H1 : Hp} {F F1 : List Addr} {E : XK} {σ : List (Option V)} (e : PostX K σ S H F ox E) (s : Step S H F S1 H1 F1) : PostX K σ S1 H1 F1 ox E := fun cls Γ' S' H' fs' h w s' => e cls Γ' S' H' fs' h w (s.trans s')
def ExX (K : Frag) (t : XK → TS) (Γ : List Sl) (O : Out) (ox : Value → List Sl → Prop) : Prop := ∀ σ S H fs D E, Wd K σ Γ S H fs → EndsOk K S H fs.flatten O D → EndX K S H fs.flatten ox E → t E D σ H
def EvX (K : Frag) (te : XK → TE) (Γ : List Sl) (k : Sl → List Sl → Prop) (ox : Value → List Sl → Prop) : Prop := ∀ σ S H fs Q E, Wd K σ Γ S H fs → Post K σ S H fs.flatten k Q → PostX K σ S H fs.flatten ox E → te E σ H Q
theorem ex_of {t : TS} (h : ExS K t Γ O) : ExX K (fun _ => t) Γ O ox := fun σ S H fs D _ w e _ => h σ S H fs D w e
theorem ex_seqX {t u : XK → TS} (h : ExX K t Γ { O with nx := fun Γ1 => ExX K u Γ1 O ox } ox) : ExX K (fun E => tSeq (t E) (u E)) Γ O ox := fun σ S H fs D E w e x =>
  h σ S H fs { D with nx := u E D } E w ⟨fun σ1 Γ1 S1 H1 fs1 ho w1 st => ho σ1 S1 H1 fs1 D E w1 (e.step st) (x.step st), e.rt, e.bk, e.ct⟩ x
theorem ex_if {tt : TT} {t u : XK → TS} (h : EvB K tt Γ fun b Γ1 => if b = true then ExX K t Γ1 O ox else ExX K u Γ1 O ox) : ExX K (fun E => tIfS tt (t E) (u E)) Γ O ox := fun σ S H fs D E w e x =>
  h σ S H fs _ w fun b Γ1 S1 H1 fs1 hk w1 st => by
    cases b with
    | true => exact (show ExX K t Γ1 O ox from hk) σ S1 H1 fs1 D E w1 (e.step st) (x.step st)
    | false => exact (show ExX K u Γ1 O ox from hk) σ S1 H1 fs1 D E w1 (e.step st) (x.step st)
def tRaiseC (C : Addr) : XK → TS := fun E _ _ H => E (.ref C) none H
theorem ex_raise {C : Addr} (h : ox (.ref C) Γ) : ExX K (tRaiseC C) Γ O ox := fun σ S H fs D E w _ x => x (.ref C) σ Γ S H fs h w Step.refl
theorem ev_call {F : FSpecX} {ta : TA} (h : EvA K ta Γ fun rs Γ1 => F rs (fun r _ => k r Γ1) fun cls _ => ox cls Γ1) : EvX K (fun E => tCall (spX K F) [] E ta) Γ k ox := by
  intro σ S H fs Q E w P x
  refine h σ S H fs _ w fun vs rs Γ1 S1 H1 frs fs1 hF l1 l2 w1 st1 => ?_
  rw [List.append_nil]
  have lv : (vs.map some).length = rs.length := by simpa using l1
  have l3 := w1.sat.split lv l2
  have ws := w1.swap lv l2
  have e1 : ∀ a, a ∈ (fs1 ++ frs).flatten → a ∈ (frs ++ fs1).flatten := fun a ha => by
    rw [List.flatten_append] at ha ⊢
    exact (List.mem_append.mp ha).elim (List.mem_append_right _) (List.mem_append_left _)
  refine ⟨rs, S1, frs, _, _, Wd.tail l3.2.lens.1 l3.2.lens.2 ws, hF, fun v r as' S2 H2 fr fs2 hk w2 st2 => ?_, fun cls as' S2 H2 fs2 hk w2 st2 => ?_⟩
  · obtain ⟨w3, st3⟩ := frame l3.2.lens.1 l3.2.lens.2 ws w2 st2
    have w4 : Wd K (σ ++ [some v]) (Γ1 ++ [r]) S2 H2 (fs1 ++ [fr]) := by
      have q : Wd K ((σ ++ [some v]) ++ vs.map some) ((Γ1 ++ [r]) ++ as') S2 H2 ((fs1 ++ [fr]) ++ fs2) := by simpa using w3
      have q3 := w2.tl.sat.lens
      exact Wd.tail q3.1 q3.2 (q.swap (by simp [l3.2.lens.1]) (by simp [l3.2.lens.2]))
    have w5 : Wd K (some v :: σ) (r :: Γ1) S2 H2 (fr :: fs1) := by simpa using w4.swap l3.2.lens.1 l3.2.lens.2
    refine P v r Γ1 S2 H2 fr fs1 hk w5 (st1.trans ((st3.weak e1).sub fun a ha => ?_))
    simp only [List.flatten_cons, List.flatten_append, List.mem_append] at ha ⊢
    exact ha.elim (fun q => .inr (.inl q)) .inl
  · obtain ⟨w3, st3⟩ := frame l3.2.lens.1 l3.2.lens.2 ws w2 st2
    have q3 := w2.sat.lens
    have w4 : Wd K σ Γ1 S2 H2 fs1 := Wd.tail q3.1 q3.2 (w3.swap l3.2.lens.1 l3.2.lens.2)
    refine x cls Γ1 S2 H2 fs1 hk w4 (st1.trans ((st3.weak e1).sub fun a ha => ?_))
    rw [List.flatten_append]
    exact List.mem_append_left _ ha
def fnRaise (args : List Sl) (kx : Value → List Sl → Prop) : Value → List Sl → Prop := fun cls Γ' => ∃ as', kx cls as' ∧ Keep args as' Γ'
theorem keep_same : ∀ {ds : List PyData} {Γ : List Sl}, Keep (ds.map .dat) (ds.map .dat) Γ := keep_dats _ _
theorem fn_raises {R : XSpec} {t : XK → TS} {N : List Str} {vs : List V} {H : Hp} {Q : VK} {E : XK}
    (hb : ∀ args kx, R args kx → ExX K t (args ++ List.replicate (N.length - args.length) .no) { nx := fun _ => False, rt := fun _ _ => False } (fnRaise args kx)) (h : spX K (orX (fun _ _ => False) R) vs H Q E) :
    t E { nx := fun _ H' => Q .non H', rt := Q } (L2.start N vs) H := by
  obtain ⟨args, S, fs, k, kx, w, hF, _, P⟩ := h
  have hR : R args kx := hF.elim False.elim id
  have fl : (fs ++ List.replicate (N.length - args.length) []).flatten = fs.flatten := by rw [List.flatten_append, flat_nils, List.append_nil]
  refine hb args kx hR _ S H (fs ++ List.replicate (N.length - args.length) []) _ E ⟨by rw [fl]; exact w.good, sat_start w.sat⟩ ⟨fun _ _ _ _ _ y => y.elim, fun _ _ _ _ _ _ _ _ y => y.elim, fun _ _ _ _ _ y => y.elim, fun _ _ _ _ _ y => y.elim⟩ ?_
  rw [fl]
  rintro cls σ' Γ' S' H' fs' ⟨as', hk, kp⟩ w' st
  obtain ⟨gs, h1, h2⟩ := kp.sat st.le w.sat w'.sat
  exact P cls as' S' H' gs hk ⟨w'.good.sublist h2, h1⟩ (st.sub fun a ha => h2.subset ha)
theorem spX_len {F : FSpecX} {n : Nat} (hn : ∀ args k kx, F args k kx → args.length = n) {vs : List V} {H : Hp} {Q : VK} {E : XK} (h : spX K F vs H Q E) : vs.length = n := by
  obtain ⟨args, S, fs, k, kx, w, hF, _⟩ := h
  rw [← hn args k kx hF]
  simpa using w.sat.lens.1
end
structure FnX (P : Program) (w : World) (K : Frag) (mg : Str → Option Value) (base : Heap) (k : Nat) (f : Addr) (fd : FuncData) (ps : List Str) (sp : Sp) : Prop where
  len : ∀ vs H Q E, sp vs H Q E → vs.length = ps.length
  run : ∀ (A : Around) (outer : List Env) (s : Shared) (H : Hp) (args : Args) (us : List Value) (vs : List V) (Q : VK) (E : XK), RoomG k A → Env0 P w K mg base A outer s H → BindsTo s fd args (ps.zip us) → Vals vs us → sp vs H Q E →
    codeAny (model P w) A (.call (.ref f) args) (CR (L2.CX P w) outer P w H s Q E) s
theorem FnX.or {P : Program} {w : World} {K : Frag} {mg : Str → Option Value} {base : Heap} {k : Nat} {f : Addr} {fd : FuncData} {ps : List Str} {F : FSpec} {R : XSpec} (h1 : FnG P w K mg base k f fd ps (spOf K F)) (h2 : FnX P w K mg base k f fd ps (spX K (orX (fun _ _ => False) R))) :
    FnX P w K mg base k f fd ps (spX K (orX F R)) := by
  have cut : ∀ {vs H Q E}, spX K (orX F R) vs H Q E → spOf K F vs H Q E ∨ spX K (orX (fun _ _ => False) R) vs H Q E := fun ⟨args, S, fs, k, kx, w, hF, p1, p2⟩ => hF.elim (fun q => .inl ⟨args, S, fs, k, w, q, p1⟩) fun q => .inr ⟨args, S, fs, k, kx, w, .inr q, p1, p2⟩
  refine ⟨fun vs H Q E h => (cut h).elim (h1.len vs H Q E) (h2.len vs H Q E), fun A outer s H args us vs Q E hr e0 hb r h => ?_⟩
  rcases cut h with q | q
  · refine codeAny_mono (h1.run A outer s H args us vs Q E hr e0 hb r q) fun res s' hq => ?_
    cases res with
    | ok fl =>
      cases fl with
      | ret u => exact hq
      | next => exact hq
      | brk => exact hq
      | cont => exact hq
    | error e => exact False.elim hq
  · exact h2.run A outer s H args us vs Q E hr e0 hb r q
theorem fnx_mk {P : Program} {w : World} {K : Frag} {mg : Str → Option Value} {base : Heap} {x qual : Str} {params : Arguments} {body : List Stmt} {scope : Scope} {f : Addr} {fd : FuncData} {N ps : List Str} {k : Nat} {R : XSpec} {dvs : List V} {kws : List (Str × V)}
    (FD : FunD K x qual params body scope dvs kws f fd) (S : FnScope N ps scope)
    (hn : ∀ args kx, R args kx → args.length = ps.length) (t : XK → TS) (ht : ∀ args kx, R args kx → ExX K t (args ++ List.replicate (N.length - args.length) .no) { nx := fun _ => False, rt := fun _ _ => False } (fnRaise args kx))
    (hd : ∀ (cdv : Value) (A : Around) (outer : List Env) (s : Shared) (H : Hp) (E : XK), RoomG k (A.deeper (envOfC qual scope s.heap.objs.size f cdv)) → PSs (cxOf (L2.CX P w) P w K mg base N qual scope f cdv A outer s H E) body (t E)) :
    FnX P w K mg base (k + 1) f fd ps (spX K (orX (fun _ _ => False) R)) := by
  obtain ⟨oc, od, dV, kV, doc, pm, an, cdv, ct, osl, rfl, lk, hcd, _, _⟩ := FD.ex
  have hlen : ∀ vs H Q E, spX K (orX (fun _ _ => False) R) vs H Q E → vs.length = ps.length := fun vs H Q E h => spX_len (fun args k kx q => hn args kx (q.elim False.elim id)) h
  refine ⟨hlen, fun A outer s H args us vs Q E hr e0 hb r hsp => ?_⟩
  have hl := hlen vs H Q E hsp
  have kpS : ∀ b o, base.get? b = some o → s.heap.get? b = some o := fun b o e => (e0.bs b o e).1
  have hkind : ∀ y ∈ ps.zip us, scope.names.lookup y.1 = some .local ∨ (scope.names.lookup y.1 = some .cell ∧ ((cellsFrom (s.heap.objs.size + 1) scope.names []).lookup y.1).isSome = true) := fun ⟨n, v⟩ hy =>
    (S.par n (List.of_mem_zip hy).1).imp id fun q => ⟨q, PySem.W.cellsFrom_some _ _ _ (.inl q)⟩
  refine codeAny_call_function hr.room.depth ((e0.mod.kin.keeps kpS) _ _ lk) rfl S.co S.gen rfl (PySem.W.codeRec_of (e0.mod.kin.keeps kpS) hcd) (hb _ _ _ _ (wpAny_newFunctionEnv_cells S.kind hkind fun env he s1 x1 => ?_))
  subst he
  refine ⟨(e0.mod.nolimit.keeps kpS).keeps x1.toInCall.keep, codeAny_func ?_⟩
  have I : Inv (cxOf (L2.CX P w) P w K mg base N qual scope f cdv A outer s H E) [] (start N vs) H s1 := inv_start S hr.room.hd e0 hl r x1
  refine wpAny_mono ((hd cdv A outer s H E (hr.deeper _)).run [] s1 (start N vs) H _ I (fn_raises ht hsp)) (fun fl s' hs => ?_) fun e s' hs => hs
  cases fl with
  | ret u =>
    obtain ⟨v, σ', H', J, rv, q⟩ := hs
    exact ⟨v, H', J.os, J.bare, J.base, J.hok, rv, q⟩
  | next =>
    obtain ⟨σ', H', J, q⟩ := hs
    exact ⟨V.non, H', J.os, J.bare, J.base, J.hok, rfl, q⟩
  | brk => obtain ⟨_, _, _, q⟩ := hs; exact q.elim
  | cont => obtain ⟨_, _, _, q⟩ := hs; exact q.elim
structure XCallee (P : Program) (w : World) (K : Frag) (mg : Str → Option Value) (base : Heap) (x : Str) (k : Nat) (ps : List Str) (sp : Sp) : Prop where
  ex : ∃ f fd, FnX P w K mg base k f fd ps sp ∧ mg x = some (.ref f) ∧ PySem.W.keepIn K (.ref f) = true ∧ Binds K fd ps []
section
variable {X : Cx} {x : Str} {j k : Nat} {ps : List Str} {sp : Sp} {p pos : Pos} {e : Expr} {es : List Expr} {t : TA} {f : Addr} {fd : FuncData} {ds : List Value} {dvs : List V}
theorem run_x {pins : List (Addr × Obj)} {σ : L2.St} {H : Hp} {s : Shared} {Q : VK} {E : XK} {W : WX} {us : List Value} {vs : List V} (F : FnX X.prog X.w X.K X.mg X.base k f fd ps sp) (hr : RoomG k X.A) (hb : Binds X.K fd ps ds) (hd : Vals dvs ds) (tk : Takes X W) (hW : ∀ cls d σ' H', E cls d H' → W cls d σ' H')
    (I : Inv X pins σ H s) (r : Vals vs us) (h : sp (vs ++ dvs) H Q E) : wpAny (model X.prog X.w) X.A (call (.ref f) us) (EP X pins σ Q) X.xe s := by
  have r2 : Vals (vs ++ dvs) (us ++ ds) := r.append hd
  have hl : (us ++ ds).length = ps.length := r2.length.symm.trans (F.len _ _ _ _ h)
  refine wpAny_call (codeAny_mono (F.run X.A X.stack s H ⟨us, []⟩ (us ++ ds) (vs ++ dvs) Q E hr I.env0 (hb s us I.kIn hl) r2 h) fun res s' hq => ?_)
  cases res with
  | error e => exact passes_call tk hW pins σ H s e s' I hq
  | ok fl =>
    cases fl with
    | ret u => exact I.after hq
    | next => exact hq.elim
    | brk => exact hq.elim
    | cont => exact hq.elim
theorem px_u {E : XK} {W : WX} (F : XCallee X.prog X.w X.K X.mg X.base x j ps sp) (tk : Takes X W) (hW : ∀ cls d σ' H', E cls d H' → W cls d σ' H') (hr : RoomG k X.A) (hj : j ≤ k) (hg : Gl X x) (ha : PA X (e :: es) t) (hdb : (x == ("__debug__" : Str)) = false := by decide) (he : starEach (e :: es) X.env = (false, eval e X.env) :: starEach es X.env := by rfl) (hpl : (backTo pos (starEach es X.env)).any (·.1) = false := by rfl) :
    PE X (.Call (.Name x p) (e :: es) [] pos) (tCall sp [] E t) := by
  obtain ⟨f, fd, F, hm, hk, hb⟩ := F.ex
  refine ⟨fun pins s σ H Q I h => wpAny_Call_Name_kw (ld_glob I hg hm ?_ hdb)⟩
  exact PySem.W.callWith_K (h₀ := X.base) I.ok.mod.kin hk (thn (ha.run pos pins s σ H _ I h) fun us s1 ⟨vs, H1, I1, r, q⟩ => ⟨I1.kIn, run_x F (hr.mono hj) hb .nil tk hW I1 r q⟩) he hpl
end
end Dl
namespace Dl
open PySem PySem.Spec PyProof.Rows L2 LamX
structure TabIn (H : Hp) (q : Str) (ps : Array Value) : Prop where
  tri : TriplesOk ps.toList
  all : ∀ (pos : Pos) (cv : Value), codeAmong pos ps.toList = some cv → ∃ c, cv = .ref c ∧ H c = some (CodeO c q)
def Grown (H : Hp) (P : Addr) (ps : Array Value) (q : Str) (H1 : Hp) : Prop := H1 = H ∨ ∃ (more : Array Value) (c : Addr), H c = none ∧ c ≠ P ∧ H1 = upd (upd H P (.tbl (ps ++ more))) c (CodeO c q) ∧ TriplesOk (ps ++ more).toList ∧ ∀ (pos : Pos) (cv : Value), codeAmong pos (ps ++ more).toList = some cv → codeAmong pos ps.toList = some cv ∨ cv = .ref c
def GrownC (H : Hp) (P : Addr) (ps : Array Value) (q : Str) (c' : Addr) (H1 : Hp) : Prop := (H1 = H ∧ ∃ pos : Pos, codeAmong pos ps.toList = some (.ref c')) ∨ ∃ (more : Array Value), H c' = none ∧ c' ≠ P ∧ H1 = upd (upd H P (.tbl (ps ++ more))) c' (CodeO c' q) ∧ TriplesOk (ps ++ more).toList ∧ ∀ (pos : Pos) (cv : Value), codeAmong pos (ps ++ more).toList = some cv → codeAmong pos ps.toList = some cv ∨ cv = .ref c'
section
variable {X : Cx} {pins : List (Addr × Obj)} {σ : L2.St} {H HZ : Hp} {s s1 : Shared}
theorem lam_grown {c P : Addr} {ps : Array Value} {params : Arguments} {body : Expr} {scope : Scope} {pos : Pos} {E : Value → Shared → Prop} {Q : Value → Shared → Prop} (I : Inv X pins σ H s) (TB : TabB X.base X.mg c P) (hcode : X.env.code = .ref c)
    (hP : H P = some (.tbl ps)) (hT : TabIn H (X.env.qual ++ "<lambda>") ps) (hdef : defaultsOf params X.env = ([], [])) (hfree : ∀ y ∈ scope.names, y.2 = .free → ∃ c, X.env.cells.lookup y.1 = some c)
    (h : ∀ (f c' : Addr) (pm ctv : Value) (H1 : Hp) (s' : Shared), Inv X pins σ H1 s' → Grown H P ps (X.env.qual ++ "<lambda>") H1 →
      s'.heap.get? f = some (PySem.W.kla_obj "<lambda>" (X.env.qual ++ "<lambda>") params body scope (cloFrom X.env.cells scope.names []) pm c' ctv) → H1 f = none → f ∉ frs X.stack → H1 c' = some (CodeO c' (X.env.qual ++ "<lambda>")) → s.heap.get? f = none ∧ GrownC H P ps (X.env.qual ++ "<lambda>") c' H1 → Q (.ref f) s') :
    wpAny (model X.prog X.w) X.A (eval (.Lambda params body scope pos) X.env) Q E s := by
  obtain ⟨tri, all⟩ := hT
  have atP : s.heap.get? P = some { cls := .none, data := .fields ps } := I.hok P _ hP
  have offFr : ∀ f, s.heap.objs.size ≤ f → f ∉ frs X.stack := fun f hf y => (List.mem_cons.mp (I.stkSub _ y)).elim
    (fun e => by have := I.lt; rw [← e] at this; exact Nat.lt_irrefl _ (Nat.lt_of_lt_of_le this hf)) fun e => I.nofs hf e
  refine PySem.W.kla_eval hdef ?_
  cases hc : codeAmong pos ps.toList with
  | some cv =>
    obtain ⟨c', rfl, hco⟩ := all pos cv hc
    refine PySem.W.kla_makeFunctionHit (mg := X.mg) (c := c) (P := P) (ps := ps) (closure_ok hfree) I.ok.glob (I.mod.glob.keeps I.bk) hcode (TB.code.keeps I.bk) atP tri hc (TB.bm.keeps I.bk) fun ctv h' tk hx hsz => ?_
    have J : Inv X pins σ H { s with heap := h'.push (PySem.W.kla_obj "<lambda>" (X.env.qual ++ "<lambda>") params body scope (cloFrom X.env.cells scope.names []) ((X.mg "__name__").getD .none) c' ctv), toks := tk } := I.kept fun b o e => Heap.get?_push_of_some _ (hx b o e)
    exact h _ c' _ ctv H _ J (.inl rfl) (Heap.get?_push_size _ rfl) (I.hok.fresh hsz) (offFr _ hsz) hco ⟨Heap.get?_none_of_le hsz, .inl ⟨rfl, pos, hc⟩⟩
  | none =>
    refine PySem.W.kla_makeFunction (mg := X.mg) (c := c) (P := P) (ps := ps) (closure_ok hfree) I.ok.glob (I.mod.glob.keeps I.bk) hcode (TB.code.keeps I.bk) atP tri hc TB.gP (TB.bm.keeps I.bk) fun c' ctv h' tk hx hge hlt hrec htb => ?_
    obtain ⟨_, oc, vs, t, e2, hoc, hd, hv⟩ := hrec
    cases e2
    have nC : H c' = none := I.hok.fresh hge
    have hsz : s.heap.objs.size ≤ h'.objs.size := Nat.le_trans hge (Nat.le_of_lt hlt)
    have J := inv_table (t' := tk) (more := #[rawInt pos.line, rawInt pos.col, .ref c']) (h' := h'.push (PySem.W.kla_obj "<lambda>" (X.env.qual ++ "<lambda>") params body scope (cloFrom X.env.cells scope.names []) ((X.mg "__name__").getD .none) c' ctv)) I hP
      (fun b o hb e => Heap.get?_push_of_some _ (hx b o hb e)) (Heap.get?_push_of_some _ htb) hge ⟨oc, vs, t, Heap.get?_push_of_some _ hoc, hd, hv⟩
    have nCP : c' ≠ P := fun y => by rw [y, hP] at nC; cases nC
    have eL : (ps ++ #[rawInt pos.line, rawInt pos.col, .ref c']).toList = ps.toList ++ [rawInt pos.line, rawInt pos.col, .ref c'] := by simp
    have amg : ∀ (p2 : Pos) (cv : Value), codeAmong p2 (ps ++ #[rawInt pos.line, rawInt pos.col, .ref c']).toList = some cv → codeAmong p2 ps.toList = some cv ∨ cv = .ref c' := fun p2 cv hcv => by
      rw [eL] at hcv
      exact among_app _ tri hcv
    have trp : TriplesOk (ps ++ #[rawInt pos.line, rawInt pos.col, .ref c']).toList := by rw [eL]; exact PySem.TriplesOk_snoc _ _ _ _ tri
    refine h h'.objs.size c' _ ctv _ _ J (.inr ⟨_, c', nC, nCP, rfl, trp, amg⟩) (Heap.get?_push_size _ rfl) ?_ (offFr _ hsz) upd_same ⟨Heap.get?_none_of_le hsz, .inr ⟨_, nC, nCP, rfl, trp, amg⟩⟩
    · have n2 : h'.objs.size ≠ P := Nat.ne_of_gt (Nat.lt_of_lt_of_le (Heap.lt_size atP) hsz)
      rw [upd_ne (Nat.ne_of_gt hlt), upd_ne n2]
      exact I.hok.fresh hsz
theorem pg_act {CXg : CXT} {Eg : XK} {Ng : List Str} {qg : Str} {sg : Scope} {g f c' : Addr} {cdg pm ctv : Value} {params : Arguments} {body : Expr} {scope : Scope} {k i : Nat} {a : Str} {pn : List (Addr × Obj)} {xe : Value → Shared → Prop} {W : WX} {E : XK} {tb : TE} {p1 p2 : Pos}
    (I : Inv X pins σ H s) (L : LamS X.env.scope scope) (hf : s.heap.get? f = some (PySem.W.kla_obj "<lambda>" (X.env.qual ++ "<lambda>") params body scope (cloFrom X.env.cells scope.names []) pm c' ctv)) (hfn : H f = none) (hfr : f ∉ frs X.stack)
    (hbind : bindArgs (PySem.W.kla_fn "<lambda>" (X.env.qual ++ "<lambda>") params body scope (cloFrom X.env.cells scope.names []) pm (.ref c') ctv) ⟨[], []⟩ = pure [])
    (tk : Takes ((cxOf CXg X.prog X.w X.K X.mg X.base Ng qg sg g cdg X.A X.stack s H Eg).tr pn xe) W) (hr : RoomG (k + 1) (X.A.deeper (envOfC qg sg s.heap.objs.size g cdg)))
    (hbody : ∀ (A : Around) (outer : List Env) (s : Shared) (H : Hp), RoomG k (A.deeper (lamEnv X scope s.heap.objs.size f c')) → PE (lamCx X A outer s H E scope f c') body tb)
    (hN : Ng[i]? = some a) (hv : Vis sg a) (hd : (a == ("__debug__" : Str)) = false := by decide) (hcd : (a == ("__classdict__" : Str)) = false := by decide) :
    PE ((cxOf CXg X.prog X.w X.K X.mg X.base Ng qg sg g cdg X.A X.stack s H Eg).tr pn xe) (.Call (.Name a p1) [] [] p2)
      (fun σZ HZ Q => σZ[i]? = some (some (.ref f)) ∧ HZ c' = some (CodeO c' (X.env.qual ++ "<lambda>")) ∧ (∀ cls d H', E cls d H' → W cls d σZ H') ∧ tb σ HZ Q) := by
  refine ⟨fun pinsZ sZ σZ HZ Q IZ ⟨hs, hc, hW, ht⟩ => ?_⟩
  refine wpAny_Call_Name_kw (thn ((pe_var (pos := p1) (i := i) hN hv hd hcd).run pinsZ sZ σZ HZ (fun v H1 => v = .ref f ∧ H1 = HZ) IZ ⟨.ref f, hs, rfl, rfl⟩) fun u s1 ⟨v, H1, I1, r1, ev, eH⟩ => ?_)
  subst ev eH
  cases (show u = Value.ref f from r1)
  have of1 := I1.base.keep f _ hf hfn hfr fun y => nomatch (show f ∈ ([] : List Addr) from y)
  have un : Un (frs X.stack) [] H H1 s.heap s1.heap := I1.base
  obtain ⟨⟨oc, vs, t, hoc, hdc, hvc⟩, _, _⟩ := I1.hok c' _ hc
  refine PySem.W.callWith_F0 ⟨_, _, _, _, of1⟩ (wpAny_call (codeAny_mono (R := CR (L2.CX X.prog X.w) (envOfC qg sg s.heap.objs.size g cdg :: X.stack) X.prog X.w H1 s1 Q E) ?_ fun r s' hq => ?_))
  · refine PySem.W.kla_callFunE hr.room.depth of1 rfl L.co L.gen rfl ⟨c', oc, vs, t, rfl, hoc, hdc, hvc⟩ ?_
    rw [List.append_nil, hbind]
    refine wpAny_pure (wpAny_newFunctionEnv (fun y hy => (L.own y hy).2) (fun y hy => absurd hy (by simp)) (fun hA hns hsb => ⟨I1.nolimit.fresh _ hsb, ?_⟩) L.kind)
    have kp : ∀ b o, s1.heap.get? b = some o → hA.get? b = some o := fun b o e => hsb.extBut b o (Nat.ne_of_lt (Heap.lt_size e)) (Heap.get?_push_of_some _ e)
    have J := lam_start2 (E := E) (c' := c') (f := f) (tk := s1.toks + ([] : List (Str × Value)).length) I L I1.env0 hr.room.hd un hns kp
    refine PySem.W.kla_codeExpr (wpAny_mono ((hbody _ _ s1 H1 (hr.deeper _)).run [] _ _ H1 Q J ht) (fun v s' hq => ?_) fun e s' hq => hq)
    obtain ⟨w', H', J', rv, q⟩ := hq
    exact ⟨w', H', J'.os, J'.bare, J'.base, J'.hok, rv, q⟩
  · cases r with
    | error e => exact tk e s' (XE.of_call I1 hW hq)
    | ok fl =>
      cases fl with
      | ret u => exact I1.after hq
      | next => exact hq.elim
      | brk => exact hq.elim
      | cont => exact hq.elim
end
def GivesG (X : Cx) (Ng : List Str) (x : Str) (sg : Scope) (g : Addr) (cdg : Value) (bg : List Stmt) (a : Str) (q : Str) (TT : (XK → Hp → VK → Prop) → Hp → VK → Prop) : Prop :=
  ∀ (f c' : Addr) (s : Shared) (H : Hp) (Q : VK) (tl : XK → Hp → VK → Prop),
    (∀ (W : WX) (pn : List (Addr × Obj)) (xe : Value → Shared → Prop) (E : XK) (p1 p2 : Pos), Takes ((cxOf C8.CX0 X.prog X.w X.K X.mg X.base Ng x sg g cdg X.A X.stack s H C8.E0).tr pn xe) W →
      PE ((cxOf C8.CX0 X.prog X.w X.K X.mg X.base Ng x sg g cdg X.A X.stack s H C8.E0).tr pn xe) (.Call (.Name a p1) [] [] p2) (fun σZ HZ Q => σZ[0]? = some (some (.ref f)) ∧ HZ c' = some (CodeO c' q) ∧ (∀ cls d H', E cls d H' → W cls d σZ H') ∧ tl E HZ Q)) →
    H c' = some (CodeO c' q) → TT tl H Q → ∃ t, PSs (cxOf C8.CX0 X.prog X.w X.K X.mg X.base Ng x sg g cdg X.A X.stack s H C8.E0).nox bg t ∧ t { nx := fun _ H' => Q .non H', rt := Q } (L2.start Ng [.ref f]) H
def tLamG (P : Addr) (q : Str) (TT : (XK → Hp → VK → Prop) → Hp → VK → Prop) (t : XK → TE) : TE := fun σ H Q => ∃ ps, H P = some (.tbl ps) ∧ TabIn H q ps ∧ ∀ H1, Grown H P ps q H1 → TT (fun E H' Q' => t E σ H' Q') H1 Q
section
variable {X : Cx}
theorem pg_lamcall {TT : (XK → Hp → VK → Prop) → Hp → VK → Prop} {x a : Str} {g c P : Addr} {k : Nat} {pg : Arguments} {bg : List Stmt} {sg : Scope} {dV kV doc pm cdv ct oc : Value} {an od : Option Addr} {osl : Array (Option Value)} {Ng : List Str}
    {params : Arguments} {body : Expr} {scope : Scope} {t : XK → TE} {p lpos pos : Pos} (hg : Gl X x) (hm : X.mg x = some (.ref g)) (hk : PySem.W.keepIn X.K (.ref g) = true)
    (lk : X.K.lookup g = some ⟨oc, od, .func (PySem.W.fnOf x x pg bg sg dV kV doc pm an cdv ct), osl⟩) (hcg : PySem.W.codeIn X.K cdv x = true) (hb : L2.Binds X.K (PySem.W.fnOf x x pg bg sg dV kV doc pm an cdv ct) [a] []) (Sg : FnScope Ng [a] sg) (hNg : Ng[0]? = some a) (hva : Vis sg a)
    (hG : GivesG X Ng x sg g cdv bg a (X.env.qual ++ "<lambda>") TT)
    (TB : TabB X.base X.mg c P) (hcode : X.env.code = .ref c) (hr : RoomG (k + 2) X.A) (L : LamS X.env.scope scope) (hdef : defaultsOf params X.env = ([], []))
    (hbind : ∀ (q : Str) (cl : List (Str × Addr)) (pm cv ctv : Value), bindArgs (PySem.W.kla_fn "<lambda>" q params body scope cl pm cv ctv) ⟨[], []⟩ = pure [])
    (hbody : ∀ (A : Around) (outer : List Env) (s : Shared) (H : Hp) (E : XK) (f c' : Addr), RoomG k (A.deeper (lamEnv X scope s.heap.objs.size f c')) → PE (lamCx X A outer s H E scope f c') body (t E))
    (hdb : (x == ("__debug__" : Str)) = false := by decide) (hd : (a == ("__debug__" : Str)) = false := by decide) (hcd : (a == ("__classdict__" : Str)) = false := by decide) :
    PE X (.Call (.Name x p) [.Lambda params body scope lpos] [] pos) (tLamG P (X.env.qual ++ "<lambda>") TT t) := by
  refine ⟨fun pins s σ H Q I ⟨ps, hP, hT, h⟩ => wpAny_Call_Name_kw (ld_glob I hg hm ?_ hdb)⟩
  refine PySem.W.callWith_K (h₀ := X.base) I.ok.mod.kin hk ?_ (by rfl) (by rfl)
  show wpAny _ _ (spliced ((false, eval (.Lambda params body scope lpos) X.env) :: backTo pos (starEach [] X.env))) _ _ s
  refine Calls.spliced_cons (lam_grown I TB hcode hP hT hdef (L.has I.ok) fun f c' pm' ctv H1 s' I1 gr hf hfn hfr hco _ => Calls.spliced_nil ⟨I1.kIn, ?_⟩)
  refine wpAny_call (codeAny_mono (R := CR C8.CX0 X.stack X.prog X.w H1 s' Q C8.E0) ?_ fun r s2 hq => ?_)
  · refine run_ofS (N := Ng) (ps := [a]) (us := [.ref f]) (vs := [.ref f]) lk hcg Sg hr.room I1.env0 (hb s' [.ref f] I1.kIn rfl) (.cons rfl .nil) rfl fun _ => ?_
    obtain ⟨t', ht', hq'⟩ := hG f c' s' H1 Q (fun E H' Q' => t E σ H' Q') (fun W pn xe E p1 p2 tk => pg_act (i := 0) I1 L hf hfn hfr (hbind _ _ _ _ _) tk (hr.deeper _) (fun A outer s H hr2 => hbody A outer s H E f c' hr2) hNg hva hd hcd) hco (h H1 gr)
    exact ⟨t', ht'.nox, hq'⟩
  · cases r with
    | error e => exact (show False from hq).elim
    | ok fl =>
      cases fl with
      | ret u => exact I1.after hq
      | next => exact hq.elim
      | brk => exact hq.elim
      | cont => exact hq.elim
end
def TCaught (K : Frag) (CS : Addr) : (XK → Hp → VK → Prop) → Hp → VK → Prop := fun tl H Q =>
  tl (fun cls d H' => ∃ C, cls = .ref C ∧ d = none ∧ PySem.W.exmOne K cls (.ref CS) = some true ∧ ∀ a, H' a = none → Q (.ref a) (upd H' a (ExT C a))) H fun _ H' => ∃ v, (some (some V.non) : Option (Option V)) = some (some v) ∧ Q v H'
theorem caught_gives {X : Cx} {x a fnd n e q : Str} {sg : Scope} {g CS : Addr} {cdg : Value} {j : Nat} {p1 p2 p3 p4 p5 p6 p7 p8 p9 p10 p11 p12 p13 p14 : Pos} (nd : [a, fnd, n].Nodup) (lf : sg.names.lookup fnd = some .local) (ln : sg.names.lookup n = some .local) (hge : sg.names.lookup e = some .globalImplicit) (hme : X.mg e = some (.ref CS))
    (hdf : (fnd == ("__debug__" : Str)) = false := by decide) (hcf : (fnd == ("__classdict__" : Str)) = false := by decide) (hdn : (n == ("__debug__" : Str)) = false := by decide) (hcn : (n == ("__classdict__" : Str)) = false := by decide) (hde : (e == ("__debug__" : Str)) = false := by decide) :
    GivesG X [a, fnd, n] x sg g cdg [.Assign [.Name fnd p1] (.Constant .none j p2) p3, .Try [.Expr (.Call (.Name a p4) [] [] p5) p6] [.ExceptHandler (some (.Name e p7)) (some n) [.Assign [.Name fnd p8] (.Name n p9) p10] p11] [] [] p12, .Return (some (.Name fnd p13)) p14] a q (TCaught X.K CS) := by
  intro f c' s H Q tl act hc h
  refine ⟨_, pss_cons (ps_asg pe_non (pg_name (i := 1) nd rfl (.inl lf) (.inr lf))) (pss_cons (ps_try_told (X := (cxOf C8.CX0 X.prog X.w X.K X.mg X.base [a, fnd, n] x sg g cdg X.A X.stack s H C8.E0).nox) (c := .ref CS) (i := 2) (Wout := fun _ _ _ _ => False)
      (tb := fun W D σ H => ∃ Ech : XK, σ[0]? = some (some (.ref f)) ∧ H c' = some (CodeO c' q) ∧ (∀ cls d H', Ech cls d H' → W cls d σ H') ∧ tl Ech H fun _ H1 => D.nx σ H1) (ts := fun _ _ _ => tAsg (tVar 2) (gName 1))
      rfl rfl rfl nd rfl ln ⟨hge, hde, .inl hme⟩ L2.takes0 (fun W pn xe tk _ => ?_) fun a' oe cls d pn _ _ => pss_one (ps_asg (pe_var (i := 2) rfl (.inl ln) hdn hcn) (pg_name (i := 1) nd rfl (.inl lf) (.inr lf)))) (pss_one (ps_ret (pe_var (i := 1) rfl (.inl lf) hdf hcf)))), ?_⟩
  · refine ⟨fun pins s' σ H' D I ⟨Ech, h1, h2, h3, h4⟩ => ?_⟩
    have hp := act W pn xe Ech p4 p5 tk
    exact (pss_one (ps_expr (pos := p6) hp)).run pins s' σ H' D I ⟨h1, h2, h3, h4⟩
  · refine ⟨_, rfl, hc, fun cls d H' y => ?_, h⟩
    obtain ⟨C, rfl, rfl, hx, hQ⟩ := y
    exact ⟨true, hx, fun _ => ⟨C, rfl, rfl, fun a' na => ⟨.ref a', rfl, fun n1 => ⟨.ref a', rfl, hQ a' na⟩⟩⟩, fun y => by cases y⟩
end Dl
namespace Dl
open PySem PySem.Spec PyProof.Rows L2 LamX
def tabR (v : V) (P : Addr) (q : Str) (d : Option PyData) : Res where
  v := v
  p := fun K S H fp => fp = [P] ∧ (∀ d', d = some d' → Dd K S v d') ∧ ∃ ps, H P = some (.tbl ps) ∧ TabIn S q ps
  loc := fun {K S H fp S' H'} ⟨e, hd, ps, hP, hT⟩ le kp => ⟨e, fun d' h => le.dp (hd d' h), ps, by rw [kp P (by rw [e]; simp)]; exact hP, hT.tri, fun pos cv h => by
    obtain ⟨c, e1, e2⟩ := hT.all pos cv h
    exact ⟨c, e1, le _ _ e2⟩⟩
def excR (a C : Addr) : Res where
  v := .ref a
  p := fun _ S _ fp => fp = [] ∧ S a = some (ExT C a)
  loc := fun ⟨e, h⟩ le _ => ⟨e, le _ _ h⟩
section
variable {K : Frag} {Γ : List Sl} {k : Sl → List Sl → Prop}
theorem TabIn.up {S H : Hp} {q : Str} {ps : Array Value} (t : TabIn S q ps) (e : Le S H) : TabIn H q ps := ⟨t.tri, fun pos cv h => by
  obtain ⟨c, e1, e2⟩ := t.all pos cv h
  exact ⟨c, e1, e _ _ e2⟩⟩
theorem new_seen {σ : List (Option V)} {S H : Hp} {fs : List (List Addr)} {a : Addr} {o : HO} (w : Wd K σ Γ S H fs) (n : H a = none) : Wd K σ Γ (upd S a o) (upd H a o) fs ∧ Step S H fs.flatten (upd S a o) (upd H a o) fs.flatten := by
  have nS : S a = none := w.good.sub.none n
  have nF : ∀ b ∈ fs.flatten, b ≠ a := fun b hb e => w.good.al b hb (by rw [e]; exact n)
  have le : Le S (upd S a o) := fun b u e => by rw [upd_ne (ne_of_none e nS)]; exact e
  refine ⟨⟨⟨fun b u e => ?_, w.good.nd, fun b hb => by rw [upd_ne (nF b hb)]; exact w.good.dis b hb, fun b hb => by rw [upd_ne (nF b hb)]; exact w.good.al b hb⟩, w.sat.step le fun b hb => upd_ne (nF b hb)⟩,
    le, fun b u e _ => by rw [upd_ne (ne_of_none e n)]; exact e, fun b e => ?_, fun b hb => .inr hb, fun b e => ?_⟩
  · by_cases q : b = a
    · rw [q, upd_same] at e ⊢; exact e
    · rw [upd_ne q] at e ⊢; exact w.good.sub b u e
  · by_cases q : b = a
    · exact .inr (.inl (by rw [q]; exact n))
    · rw [upd_ne q] at e; exact .inl e
  · by_cases q : b = a
    · rw [q, upd_same]; simp
    · rw [upd_ne q]; exact e
theorem tab_grown {σ : List (Option V)} {S H H1 : Hp} {fs : List (List Addr)} {j : Nat} {v : V} {P : Addr} {q : Str} {d : Option PyData} {ps : Array Value} (w : Wd K σ Γ S H fs) (hj : Γ[j]? = some (.res (tabR v P q d))) (hP : H P = some (.tbl ps)) (g : Grown H P ps q H1) :
    ∃ S1, Wd K σ Γ S1 H1 fs ∧ Step S H fs.flatten S1 H1 fs.flatten := by
  rcases g with rfl | ⟨more, c, nC, nCP, rfl, tri, among⟩
  · exact ⟨S, w, Step.refl⟩
  obtain ⟨x, fp, hx, hf, e1, e2, hd, ps0, hP0, hT⟩ := w.sat.get hj
  have e2 : fp = [P] := e2
  subst e2
  have hP0 : H P = some (.tbl ps0) := hP0
  rw [hP] at hP0
  cases hP0
  have pm := flat_take fs j [P] hf
  have nd := (w.good.perm pm).nd
  have pF : P ∈ fs.flatten := pm.mem_iff.mpr (by simp)
  have nS : S c = none := w.good.sub.none nC
  have nSP : S P = none := w.good.dis P pF
  have nF : ∀ b ∈ fs.flatten, b ≠ c := fun b hb e => w.good.al b hb (by rw [e]; exact nC)
  have nP : ∀ b ∈ (fs.set j []).flatten, b ≠ P := fun b hb e => (List.nodup_cons.mp nd).1 (e ▸ hb)
  have sF : ∀ b ∈ (fs.set j []).flatten, b ∈ fs.flatten := fun b hb => pm.mem_iff.mpr (List.mem_append_right _ hb)
  have le : Le S (upd S c (CodeO c q)) := fun b u e => by rw [upd_ne (ne_of_none e nS)]; exact e
  have sat1 : SatL K S H σ (Γ.set j .no) (fs.set j []) := by
    have y := w.sat.set (x := x) (s := .no) (fp := []) j rfl
    rwa [setSame hx] at y
  have sat2 := sat1.step le (H' := upd (upd H P (.tbl (ps ++ more))) c (CodeO c q)) fun b hb => by rw [upd_ne (nF b (sF b hb)), upd_ne (nP b hb)]
  have atP : upd (upd H P (.tbl (ps ++ more))) c (CodeO c q) P = some (.tbl (ps ++ more)) := by rw [upd_ne nCP.symm, upd_same]
  have sat3 := sat2.set (x := x) (s := .res (tabR v P q d)) (fp := [P]) j ⟨e1, rfl, fun d' h => le.dp (hd d' h), _, atP, tri, fun pos cv h => by
    rcases among pos cv h with y | y
    · obtain ⟨c0, y1, y2⟩ := hT.all pos cv y
      exact ⟨c0, y1, le _ _ y2⟩
    · exact ⟨c, y, upd_same⟩⟩
  rw [setSame hx, List.set_set, List.set_set, setSame hf, setSame hj] at sat3
  refine ⟨upd S c (CodeO c q), ⟨⟨fun b u e => ?_, w.good.nd, fun b hb => by rw [upd_ne (nF b hb)]; exact w.good.dis b hb, fun b hb => ?_⟩, sat3⟩, le, fun b u e n => ?_, fun b e => ?_, fun b hb => .inr hb, fun b e => ?_⟩
  · by_cases y : b = c
    · rw [y, upd_same] at e ⊢; exact e
    · rw [upd_ne y] at e ⊢
      rw [upd_ne (ne_of_none e nSP)]
      exact w.good.sub b u e
  · rw [upd_ne (nF b hb)]
    by_cases y : b = P
    · rw [y, upd_same]; simp
    · rw [upd_ne y]; exact w.good.al b hb
  · rw [upd_ne (ne_of_none e nC), upd_ne fun y => n (by rw [y]; exact pF)]
    exact e
  · by_cases y : b = c
    · exact .inr (.inl (by rw [y]; exact nC))
    · rw [upd_ne y] at e; exact .inl e
  · by_cases y : b = c
    · rw [y, upd_same]; simp
    · rw [upd_ne y]
      by_cases y2 : b = P
      · rw [y2, upd_same]; simp
      · rw [upd_ne y2]; exact e
theorem e_caught {P CS : Addr} {q : Str} {tb : XK → TE} {v : V} {d : Option PyData} (j : Nat) (hj : Γ[j]? = some (.res (tabR v P q d)))
    (h : EvX K tb Γ (fun _ Γ1 => k (.dat .none) Γ1) fun cls Γ1 => ∃ C, cls = .ref C ∧ PySem.W.exmOne K cls (.ref CS) = some true ∧ ∀ a, k (.res (excR a C)) Γ1) : EvP K (tLamG P q (TCaught K CS) tb) Γ k := by
  intro σ S H fs Q w Pp
  obtain ⟨x, fp, hx, hf, e1, e2, hd, ps, hP, hT⟩ := w.sat.get hj
  refine ⟨ps, hP, hT.up w.good.sub, fun H1 gr => ?_⟩
  obtain ⟨S1, w1, st1⟩ := tab_grown w hj hP gr
  refine h σ S1 H1 fs _ _ w1 (fun u r Γ2 S2 H2 fr fs2 hk w2 st2 => ?_) fun cls Γ2 S2 H2 fs2 hk w2 st2 => ?_
  · refine ⟨.non, rfl, Pp .non (.dat .none) Γ2 S2 H2 [] fs2 hk (w2.tl.put ⟨rfl, .non, rfl, .non⟩) (st1.trans (st2.sub fun b hb => ?_))⟩
    rw [List.flatten_cons] at hb ⊢
    exact List.mem_append_right _ (by simpa using hb)
  · obtain ⟨C, rfl, hx2, hk⟩ := hk
    refine ⟨C, rfl, rfl, hx2, fun a na => ?_⟩
    obtain ⟨w3, st3⟩ := new_seen (o := ExT C a) w2 na
    exact Pp (.ref a) (.res (excR a C)) Γ2 _ _ [] fs2 (hk a) (w3.put ⟨rfl, rfl, upd_same⟩) (by simpa using st1.trans (st2.trans st3))
end
end Dl
namespace Dl
open PySem PySem.Spec PyProof.Rows L2
end Dl
namespace Dl
open PySem PySem.Spec PyProof.Rows L2 LamX
def OnlyT (T : Addr) (H : Hp) : Prop := H T = some (.tbl #[]) ∧ ∀ b, b ≠ T → H b = none ∨ ∃ o xs, H b = some (.frz o (.lst xs))
theorem law_callGT {P : Program} {w : World} {K : Frag} {mg mb : Str → Option Value} {k : Nat} {fa a c T : Addr} {fd : FuncData} {x : Str} {sp : Sp} {s1 : Shared} {vs : List Value} {ns : List Int}
    (KX : K.In s1.heap) (hns : s1.heap.Ns mainGlobals mg) (hb : s1.heap.Ns builtinsNs mb) (hbb : ∀ x : Str, x ≠ "__name__" → mb x = bootBuiltins x) (hlim : s1.heap.NoLimit) (hg : s1.gens = #[])
    (hT : s1.heap.get? T = some { cls := .none, data := .fields #[] }) (nT : K.lookup T = none) (C : PySem.W.CodeHd s1.heap c T)
    (hbm : ∃ (bm : Addr) (ob : Obj), mg "__builtins__" = some (.ref bm) ∧ bm ≠ builtinsNs ∧ s1.heap.get? bm = some ob ∧ ob.cls = .type "module" ∧ ob.dict = some builtinsNs ∧ ob.data = .plain)
    (ha : s1.heap.get? a = some { cls := .type "list", data := .seq vs.toArray }) (hi : IntsAre vs ns) (hl : ns.length ≤ sizeLine) (hr : RoomG k callerA)
    (F : ∀ base : Heap, K.In base → base.Ns mainGlobals mg → TabB base mg c T → FnG P w K mg base k fa fd [x] sp) (hbind : ∀ (s : Shared) (u : Value), BindsTo s fd ⟨[u], []⟩ [(x, u)])
    (hsp : ∀ H : Hp, OnlyT T H → SqL K H a (ns.map V.int) → sp [.ref a] H (fun v _ => v = .bl true) fun _ _ _ => False) :
    codeAny (model P w) callerA (.call (.ref fa) ⟨[.ref a], []⟩) (fun r s' => r = .ok (.ret (.bool true)) ∧ OldK s1.heap s'.heap ∧ s'.os = s1.os ∧ AllBare s'.gens) s1 := by
  have rv := vals_ints hi
  have aT : a ≠ T := fun y => by
    rw [y, hT] at ha
    have z : Data.fields #[] = Data.seq vs.toArray _ := congrArg Obj.data (Option.some.inj ha)
    cases z
  have key : ∀ H : Hp, OnlyT T H → SqL K H a (ns.map V.int) → HOk P w H s1.heap → (∀ b, H b ≠ none → b = a ∨ b = T) → (H a ≠ none → K.lookup a = none) →
      codeAny (model P w) callerA (.call (.ref fa) ⟨[.ref a], []⟩) (fun r s' => r = .ok (.ret (.bool true)) ∧ OldK s1.heap s'.heap ∧ s'.os = s1.os ∧ AllBare s'.gens) s1 := by
    intro H hO hS hok hA hK
    have off : ∀ {b : Addr} {o : Obj}, s1.heap.get? b = some o → (∀ us n, o.data ≠ .seq us n) → o.data ≠ .fields #[] → H b = none := fun {b o} e h1 h2 => by
      by_cases q : H b = none
      · exact q
      · rcases hA b q with y | y
        · rw [y, ha] at e
          cases e
          exact (h1 _ _ rfl).elim
        · rw [y, hT] at e
          cases e
          exact (h2 rfl).elim
    have offD : ∀ {b : Addr} {o : Obj} {es : Array DictEntry} {ep : Nat}, s1.heap.get? b = some o → o.data = .dict es ep → H b = none := fun {b o es ep} e d =>
      off e (fun us n y => by rw [d] at y; cases y) fun y => by rw [d] at y; cases y
    have base_of : ∀ {b : Addr} {o : Obj}, s1.heap.get? b = some o → H b = none → (hidT s1.heap H).get? b = some o := fun e n => hidT_get e n
    have nsK : ∀ {b : Addr} {m : Str → Option Value}, s1.heap.Ns b m → (hidT s1.heap H).Ns b m := fun {b m} ⟨o, es, ep, e, d, r⟩ => ⟨o, es, ep, base_of e (offD e d), d, r⟩
    have hKb : K.In (hidT s1.heap H) := fun b o e => base_of (KX b o e) (by
      by_cases q : H b = none
      · exact q
      · rcases hA b q with y | y
        · rw [y] at e q
          rw [hK q] at e
          cases e
        · rw [y, nT] at e
          cases e)
    have hM : Mod K mg (hidT s1.heap H) := ⟨hKb, nsK hns, ⟨mb, nsK hb, hbb⟩, let ⟨mc, h1, h2⟩ := hlim; ⟨mc, nsK h1, h2⟩⟩
    have TB : TabB (hidT s1.heap H) mg c T := by
      refine ⟨?_, ?_, fun y => ?_⟩
      · obtain ⟨o, us, file, tf, flags, tg, inF, text, tt, e1, r1, r2, r3, rest⟩ := C
        refine ⟨o, us, file, tf, flags, tg, inF, text, tt, base_of e1 (off e1 (fun vs n y => ?_) fun y => ?_), r1, r2, r3, rest⟩
        · rw [r2] at y
          cases y
        · rw [r2] at y
          cases y
          simp at r3
      · obtain ⟨bm, ob, b1, b2, b3, b4, b5, b6⟩ := hbm
        refine ⟨bm, ob, b1, b2, fun y => ?_, fun y => ?_, base_of b3 (off b3 (fun vs n y => ?_) fun y => ?_), b4, b5, b6⟩
        · obtain ⟨o, es, ep, e, hd, _⟩ := hns
          rw [y, e] at b3
          cases b3
          rw [hd] at b6
          cases b6
        · rw [y, hT] at b3
          cases b3
          cases b6
        · rw [b6] at y
          cases y
        · rw [b6] at y
          cases y
      · obtain ⟨o, es, ep, e, hd, _⟩ := hns
        rw [y, hT] at e
        cases e
        cases hd
    have e0 : Env0 P w K mg (hidT s1.heap H) callerA [] s1 H := ⟨rfl, hM, fun b o e => of_hidT e, Nat.le_of_eq (hidT_size _ _), trivial, fun b hb => absurd (show b ∈ ([] : List Addr) from hb) (by simp), hok, .of_eq hg⟩
    refine codeAny_mono ((F _ hKb (nsK hns) TB).run callerA [] s1 H ⟨[.ref a], []⟩ [.ref a] [.ref a] _ _ hr e0 (hbind s1 (.ref a)) (.cons rfl .nil) (hsp H hO hS)) fun res s' h => ?_
    cases res with
    | error e => exact False.elim h
    | ok fl =>
      cases fl with
      | next => exact h.elim
      | brk => exact h.elim
      | cont => exact h.elim
      | ret u =>
        obtain ⟨v, H', os, bare, un, hok', r', q⟩ := h
        have q' : v = .bl true := q
        subst q'
        cases (show u = Value.bool true from r')
        have stays : ∀ b o, b ≠ T → s1.heap.get? b = some o → s'.heap.get? b = some o := fun b o nb e => by
          rcases hO.2 b nb with y | ⟨ob, xs, y⟩
          · exact un.keep b o e y (by intro z; exact absurd (show b ∈ ([] : List Addr) from z) (by simp)) (by simp)
          · obtain ⟨e1, _⟩ := hok b _ y
            obtain ⟨e2, _⟩ := hok' b _ (un.frzs b ob _ y)
            rw [e] at e1
            cases e1
            exact e2
        obtain ⟨more, hm⟩ : ∃ more : Array Value, s'.heap.get? T = some { cls := .none, data := .fields more } := by
          obtain ⟨more, y⟩ := un.tbls T #[] hO.1
          exact ⟨_, hok' T _ y⟩
        refine ⟨rfl, ⟨fun b o e => ?_, fun b o e => ?_⟩, os, bare⟩
        · by_cases y : b = T
          · rw [y] at e ⊢
            rw [hT] at e
            cases e
            exact .inr (.inl ⟨(C.tab hT).isCodeTable, rfl, #[], more, rfl, by rw [Array.empty_append]; exact hm⟩)
          · exact .inl (stays b o y e)
        · by_cases y : b = T
          · rw [y]
            exact ⟨_, hm⟩
          · exact ⟨o, stays b o y e⟩
  cases hk : K.lookup a with
  | some o =>
    have e := KX a o hk
    rw [ha] at e
    cases e
    refine key (fun b => if b = T then some (.tbl #[]) else none) ⟨if_pos rfl, fun b n => .inl (if_neg n)⟩ (.inr ⟨_, vs.toArray, _, hk, rfl, rfl, rfl, by rw [List.size_toArray, hi.length]; exact hl, by simpa using rv⟩) (fun b u y => ?_) (fun b y => ?_) fun y => absurd (if_neg aT) y
    · by_cases q : b = T
      · have z := (if_pos q).symm.trans y
        cases z
        rw [q]
        exact hT
      · have z := (if_neg q).symm.trans y
        cases z
    · by_cases q : b = T
      · exact .inr q
      · exact absurd (if_neg q) y
  | none =>
    refine key (fun b => if b = a then some (.frz { cls := .type "list", data := .seq vs.toArray } (.lst (ns.map V.int))) else if b = T then some (.tbl #[]) else none) ⟨(if_neg aT.symm).trans (if_pos rfl), fun b n => ?_⟩ (.inl (.inr ⟨{ cls := .type "list", data := .seq vs.toArray }, if_pos rfl⟩)) (fun b u y => ?_) (fun b y => ?_) fun _ => hk
    · by_cases q : b = a
      · exact .inr ⟨_, _, if_pos q⟩
      · exact .inl ((if_neg q).trans (if_neg n))
    · by_cases q : b = a
      · have z := (if_pos q).symm.trans y
        cases z
        rw [q]
        exact ⟨ha, by rw [List.length_map]; exact hl, vs, _, rv, ha⟩
      · have z1 := (if_neg q).symm.trans y
        by_cases q2 : b = T
        · have z := (if_pos q2).symm.trans z1
          cases z
          rw [q2]
          exact hT
        · have z := (if_neg q2).symm.trans z1
          cases z
    · by_cases q : b = a
      · exact .inl q
      · by_cases q2 : b = T
        · exact .inr q2
        · exact absurd ((if_neg q).trans (if_neg q2)) y
def FinGT (l : PySem.W.OpenLaw) (YP : World → Heap → Prop) (nm : Str) (n k : Nat) (x : Str) : Prop := ∀ (w : World) (mg : Str → Option Value) (fa : Addr) (h : Heap), YP w h → h.Ns mainGlobals mg → mg nm = some (.ref fa) →
  ∃ (K : Frag) (fd : FuncData) (c T : Addr) (sp : Sp), K.In h ∧ h.get? T = some { cls := .none, data := .fields #[] } ∧ K.lookup T = none ∧ PySem.W.CodeHd h c T ∧ (∀ (s : Shared) (u : Value), BindsTo s fd ⟨[u], []⟩ [(x, u)]) ∧
    (∀ (H : Hp) (a : Addr) (ns : List Int), ns.length ≤ n → OnlyT T H → SqL K H a (ns.map V.int) → sp [.ref a] H (fun v _ => v = .bl true) fun _ _ _ => False) ∧
    ∀ base : Heap, K.In base → base.Ns mainGlobals mg → TabB base mg c T → FnG l.prog w K mg base k fa fd [x] sp
theorem walk_ofGT {l : PySem.W.OpenLaw} {n k : Nat} {q : Program} {loose : List Str} {XP : (Str → Option Value) → Heap → Prop} {YP : World → Heap → Prop} {d : DefRec} {x : Str}
    (hn : l.most = some n) (hn2 : n ≤ sizeLine) (hdf : d.params.defaults = []) (hr : RoomG k callerA) (F : FinGT l YP d.name n k x) : PySem.W.WalkO q loose XP YP l.row.toRowW d [] (fun f vs => PySem.call f vs) := by
  refine Att.attach_callB hn hdf fun w s0 s1 mg mb fa o pm cd doc a vs ns G Y ho hd hcd hmg hobj hints hlen hbits hg => ?_
  obtain ⟨K, fd, c, T, sp, KX, hT, nT, C, hb, hsp, hF⟩ := F w mg fa _ Y G.T.g hmg
  exact law_callGT KX G.T.g G.T.b G.T.builtins G.T.nolimit hg hT nT C G.T.bmain hobj hints (Nat.le_trans hlen hn2) hr hF hb fun H hO hS => hsp H a ns hlen hO hS
end Dl
namespace Dl
open PySem PySem.Spec PyProof.Rows L2 LamX
def rIsiX (K : Frag) : List V → Hp → VK → Prop := fun xs H Q => rIsiU K xs H Q ∨ rIsT K xs H Q
theorem cIsX {X : Cx} : CallR X (.builtin "isinstance") (rIsiX X.K) := cIsi.or call_isT
section
variable {K : Frag} {Γ : List Sl} {k : Sl → List Sl → Prop}
theorem cb_isX {a C D : Addr} {b : Bool} (F : ExcC K C) (hk : PySem.W.kitOne K (.ref C) (.ref D) = some b) (h : k (.dat (.bool b)) Γ) : CbK K (rIsiX K) [.res (excR a C), .raw (.ref D)] Γ k := by
  intro σ S H frs fs vs Q l1 l2 w P
  match vs, frs, l1, l2, w, P with
  | [v, u], [f1, f2], _, _, w, P =>
    have w' : Wd K (some v :: some u :: σ) (.res (excR a C) :: .raw (.ref D) :: Γ) S H (f1 :: f2 :: fs) := w
    obtain ⟨e1, e2, e3⟩ := w'.hd
    obtain ⟨e4, e5⟩ := w'.tl.hd
    have e1 : some v = some (V.ref a) := e1
    cases e1
    cases e5
    have e2 : f1 = [] := e2
    subst e2 e4
    refine .inr ⟨a, C, .ref D, .ref D, b, rfl, w'.good.sub _ _ e3, F, fun y hy => hy, hk, ?_⟩
    exact P (.bl b) (.dat (.bool b)) Γ S H [] fs h (w'.tl.tl.put ⟨rfl, .bl b, rfl, .bl b⟩) (by simpa using Step.refl)
theorem e_scrT {v : V} {P : Addr} {q : Str} {j : Nat} (h : Γ[j]? = some (.res (tabR v P q none))) (hk : k (.raw v) Γ) : EvP K (tVar j) Γ k := e_res h hk
theorem e_scrD {v : V} {P : Addr} {q : Str} {d : PyData} {j : Nat} (h : Γ[j]? = some (.res (tabR v P q (some d)))) (hk : k (.dat d) Γ) : EvP K (tVar j) Γ k := by
  intro σ S H fs Q w Pp
  obtain ⟨x, fp, hx, hf, e1, e2, hd, _⟩ := w.sat.get h
  have e1 : x = some v := e1
  subst e1
  exact ⟨v, hx, Pp v (.dat d) Γ S H [] fs hk (w.put ⟨rfl, v, rfl, hd d rfl⟩) (by simpa using Step.refl)⟩
def ScrT (K : Frag) (ns : List Int) (P : Addr) (q : Str) (s : Sl) : Prop := ∃ (a : Addr) (d : Option PyData), s = .res (tabR (.ref a) P q d) ∧ (d = some (.list (ns.map .int)) ∨ d = none ∧ ∀ H, SqL K H a (ns.map V.int))
theorem e_tab {i : Nat} {s : Sl} {ns : List Int} {P : Addr} {q : Str} (hs : ScrT K ns P q s) (h : Γ[i]? = some s) (hk : ∀ s', Scr K ns s' → k s' Γ) : EvP K (tVar i) Γ k := by
  obtain ⟨a, d, rfl, rfl | ⟨rfl, hq⟩⟩ := hs
  · exact e_scrD h (hk _ (.inl rfl))
  · exact e_scrT h (hk _ (.inr ⟨a, rfl, hq⟩))
theorem keep_tab {s : Sl} {ns : List Int} {P : Addr} {q : Str} (hs : ScrT K ns P q s) : Keep [s] [s] (s :: Γ) := by
  obtain ⟨a, d, rfl, _⟩ := hs
  exact .res rfl .nil
theorem tabIn_nil {H : Hp} {q : Str} : TabIn H q #[] := ⟨True.intro, fun pos cv h => by
  have y : codeAmong pos [] = some cv := h
  simp [codeAmong] at y⟩
theorem law_spT {F : FSpec} {H : Hp} {a T : Addr} {q : Str} {ns : List Int} {E : XK} (hO : OnlyT T H) (hS : SqL K H a (ns.map V.int)) (hF : ∀ s k, ScrT K ns T q s → (∀ Γ, k (.dat (.bool true)) Γ) → F [s] k) : spOf K F [.ref a] H (fun v _ => v = .bl true) E := by
  let S : Hp := fun b => if b = T then none else H b
  have sT : S T = none := if_pos rfl
  have sN : ∀ {b : Addr}, b ≠ T → S b = H b := fun n => if_neg n
  have le : Le S H := fun b o e => by
    by_cases y : b = T
    · rw [y, sT] at e; cases e
    · rw [← sN y]; exact e
  have core : ∀ d : Option PyData, (∀ d', d = some d' → Dd K S (.ref a) d') → ScrT K ns T q (.res (tabR (.ref a) T q d)) → spOf K F [.ref a] H (fun v _ => v = .bl true) E := fun d hd hs => by
    refine ⟨[.res (tabR (.ref a) T q d)], S, [[T]], fun r _ => r = .dat (.bool true), ⟨⟨le, by simp, fun b hb => ?_, fun b hb => ?_⟩, .cons ⟨rfl, rfl, hd, #[], hO.1, tabIn_nil⟩ .nil⟩, hF _ _ hs fun _ => rfl, ?_⟩
    · rw [show b = T by simpa using hb]; exact sT
    · rw [show b = T by simpa using hb, hO.1]; simp
    intro v r Γ' S' H' fr fs' hk w st
    have hk : r = .dat (.bool true) := hk
    subst hk
    obtain ⟨_, v', e1, hd⟩ := w.hd
    cases e1; cases hd
    rfl
  have aT : ∀ {xs : List V}, (H a = some (.lst xs) ∨ ∃ o, H a = some (.frz o (.lst xs))) → a ≠ T := fun h y => by
    rw [y, hO.1] at h
    rcases h with z | ⟨o, z⟩ <;> cases z
  rcases hS with h | ⟨o, its, n, h⟩
  · have n := aT h
    exact core (some (.list (ns.map .int))) (fun d' e => by cases e; exact .lst (h.imp (fun z => by rw [sN n]; exact z) fun ⟨o, z⟩ => ⟨o, by rw [sN n]; exact z⟩) (dps_of_ints ns)) ⟨a, _, rfl, .inl rfl⟩
  · exact core none (fun d' e => by cases e) ⟨a, _, rfl, .inr ⟨rfl, fun H => .inr ⟨o, its, n, h⟩⟩⟩
end
end Dl
namespace Dl
open PySem PySem.Spec PyProof.Rows L2 LamX
theorem pg_caught {X : Cx} {x a fnd n e : Str} {g c P CS : Addr} {k : Nat} {pg : Arguments} {bg : List Stmt} {sg : Scope} {params : Arguments} {body : Expr} {scope : Scope} {t : XK → TE} {p lpos pos : Pos}
    (FD : ∃ fd, FunD X.K x x pg bg sg [] [] g fd) (hbl : ∀ (kV doc pm : Value) (an : Option Addr) (cdv ct : Value) (us : List Value), us.length = [a].length → bindArgs (PySem.W.fnOf x x pg bg sg .none kV doc pm an cdv ct) ⟨us, []⟩ = pure ([a].zip us))
    (hbg : ∃ (j : Nat) (p1 p2 p3 p4 p5 p6 p7 p8 p9 p10 p11 p12 p13 p14 : Pos), bg = [.Assign [.Name fnd p1] (.Constant .none j p2) p3, .Try [.Expr (.Call (.Name a p4) [] [] p5) p6] [.ExceptHandler (some (.Name e p7)) (some n) [.Assign [.Name fnd p8] (.Name n p9) p10] p11] [] [] p12, .Return (some (.Name fnd p13)) p14])
    (Sg : FnScope [a, fnd, n] [a] sg) (la : sg.names.lookup a = some .local) (lf : sg.names.lookup fnd = some .local) (ln : sg.names.lookup n = some .local) (hge : sg.names.lookup e = some .globalImplicit) (hme : X.mg e = some (.ref CS))
    (hg : Gl X x) (hm : X.mg x = some (.ref g)) (TB : TabB X.base X.mg c P) (hcode : X.env.code = .ref c) (hr : RoomG (k + 2) X.A) (L : LamS X.env.scope scope) (hdef : defaultsOf params X.env = ([], []))
    (hbind : ∀ (q : Str) (cl : List (Str × Addr)) (pm cv ctv : Value), bindArgs (PySem.W.kla_fn "<lambda>" q params body scope cl pm cv ctv) ⟨[], []⟩ = pure [])
    (hbody : ∀ (A : Around) (outer : List Env) (s : Shared) (H : Hp) (E : XK) (f c' : Addr), RoomG k (A.deeper (lamEnv X scope s.heap.objs.size f c')) → PE (lamCx X A outer s H E scope f c') body (t E))
    (hdb : (x == ("__debug__" : Str)) = false := by decide) (hd : (a == ("__debug__" : Str)) = false := by decide) (hcd : (a == ("__classdict__" : Str)) = false := by decide)
    (hdf : (fnd == ("__debug__" : Str)) = false := by decide) (hcf : (fnd == ("__classdict__" : Str)) = false := by decide) (hdn : (n == ("__debug__" : Str)) = false := by decide) (hcn : (n == ("__classdict__" : Str)) = false := by decide) (hde : (e == ("__debug__" : Str)) = false := by decide) :
    PE X (.Call (.Name x p) [.Lambda params body scope lpos] [] pos) (tLamG P (X.env.qual ++ "<lambda>") (TCaught X.K CS) t) := by
  obtain ⟨fd, F⟩ := FD
  have B := F.bindsN hbl
  obtain ⟨j, p1, p2, p3, p4, p5, p6, p7, p8, p9, p10, p11, p12, p13, p14, rfl⟩ := hbg
  obtain ⟨oc, od, dV, kV, doc, pm, an, cdv, ct, osl, rfl, lk, hco, _, _⟩ := F.ex
  exact pg_lamcall hg hm F.kp lk hco B Sg rfl (.inl la) (caught_gives Sg.nd lf ln hge hme hdf hcf hdn hcn hde) TB hcode hr L hdef hbind hbody hdb hd hcd
end Dl
namespace Dl
open PySem PySem.Spec PyProof.Rows L2
def pickM (k : Nat → List Addr → List Addr) : List Addr → Nat → List Addr → List Addr
  | [], m, acc => k m acc
  | a :: r, m, acc => bif Nat.beq (Nat.land 1 (Nat.shiftRight m a)) 1 then pickM k r m acc else pickM k r (Nat.lor m (Nat.shiftLeft 1 a)) (a :: acc)
def refsM (g : Addr → Option Obj) (a : Addr) : List Addr := match g a with
  | some o => He.refsD o
  | none => []
def asM (g : Addr → Option Obj) : Nat → Nat → List Addr → List Addr
  | 0, _, fr => fr
  | n + 1, m, fr => fr ++ pickM (asM g n) (fr.flatMap (refsM g)) m []
end Dl
namespace Dl
open PySem PySem.Spec PyProof.Rows L2
abbrev AlT : Type := AlX × Bool
def obsMT (n : Nat) (fa : List He.Fa) (fn : List DefX) (tf : List He.Defn) (ex : Frag → Bool) (g : Addr → Option Obj) : AlT :=
  (fun K => (obsX fa fn ex K, He.tabsB g tf K)) (He.frT g (asM g n (Nat.shiftLeft 1 mainGlobals) [mainGlobals]))
structure SaysT (fa : List He.Fa) (fn : List DefX) (tf : List He.Defn) (ex : Frag → Bool) (h : Heap) (K : Frag) : Prop where
  x : SaysX fa fn ex K
  hd : ∀ p ∈ tf, PySem.W.codeHdIn K (He.cT K p).1 (He.cT K p).2 = true
  out : ∀ p ∈ tf, K.lookup (He.cT K p).2 = none
  empty : ∀ p ∈ tf, h.get? (He.cT K p).2 = some { cls := .none, data := .fields #[] }
theorem saysT_of {n : Nat} {fa : List He.Fa} {fn : List DefX} {tf : List He.Defn} {ex : Frag → Bool} {h : Heap} (e : obsMT n fa fn tf ex h.get? = (valX fn, true)) : SaysT fa fn tf ex h (He.frT h.get? (asM h.get? n (Nat.shiftLeft 1 mainGlobals) [mainGlobals])) := by
  generalize hK : He.frT h.get? (asM h.get? n (Nat.shiftLeft 1 mainGlobals) [mainGlobals]) = K
  have e1 : obsX fa fn ex K = valX fn := by rw [← hK]; exact congrArg (fun z : AlT => z.1) e
  have e2 : He.tabsB h.get? tf K = true := by rw [← hK]; exact congrArg (fun z : AlT => z.2) e
  have each : ∀ p ∈ tf, PySem.W.codeHdIn K (He.cT K p).1 (He.cT K p).2 = true ∧ ∃ o, h.get? (He.cT K p).2 = some o ∧ He.emptyTab o = true := fun p hp => by
    have y := List.all_eq_true.mp e2 p hp
    rw [Bool.and_eq_true] at y
    refine ⟨y.1, ?_⟩
    cases q : h.get? (He.cT K p).2 with
    | none => rw [q] at y; cases y.2
    | some o => rw [q] at y; exact ⟨o, rfl, y.2⟩
  refine ⟨e1, fun p hp => (each p hp).1, fun p hp => ?_, fun p hp => ?_⟩
  · obtain ⟨_, o, q, z⟩ := each p hp
    rw [← hK] at q ⊢
    exact He.frT_none q z
  · obtain ⟨_, o, q, z⟩ := each p hp
    rw [q, He.emptyTab_eq z]
def hookMT (n : Nat) (fa : List He.Fa) (fn : List DefX) (tf : List He.Defn) (ex : Frag → Bool) : PySem.W.Hook where
  α := AlT
  obs := fun s => obsMT n fa fn tf ex s.heap.get?
  val := fun _ => (valX fn, true)
  says := fun _ h => ∃ K : Frag, K.In h ∧ SaysT fa fn tf ex h K
  of := fun _ _ e => ⟨_, He.frT_in, saysT_of e⟩
  keeps := fun _ _ _ ⟨K, hK, c⟩ k => ⟨K, PySem.W.Frag.In.keeps hK k, c.x, c.hd, c.out, fun p hp => k _ _ (c.empty p hp)⟩
theorem obsMT_eq {n : Nat} {fa : List He.Fa} {fn : List DefX} {tf : List He.Defn} {ex : Frag → Bool} {g : Addr → Option Obj} {s : Shared} (h : ∀ a, g a = s.heap.get? a) : obsMT n fa fn tf ex g = (hookMT n fa fn tf ex).obs s := by
  have e : g = s.heap.get? := funext h
  rw [e] <;> rfl
end Dl
namespace Dl
open PySem PySem.Spec PyProof.Rows L2 LamX
def excCB (K : Frag) (D : Addr) : Bool :=
  decide (PySem.W.findIn K (.ref D) "__getattribute__" = some (some (.builtin "BaseException.__getattribute__"))) && (decide (PySem.W.findIn K (.ref D) "__getattr__" = some none) && (decide (PySem.W.subIn K (.ref D) (.type "BaseException") = some true) && (PySem.W.hasDictIn K D &&
  (decide (PySem.W.findIn K (.ref D) "__class__" = some (some (.builtin "object.__class__"))) && (decide (PySem.W.specialIn K (.builtin "object.__class__") "__get__" = some (some (.builtin "getset_descriptor.__get__"))) && (decide (PySem.W.takesIn K (.builtin "object.__class__") = some true) && decide (PySem.W.mroIn K D (.type "object") = some true)))))))
theorem excCB_ok {K : Frag} {D : Addr} (h : excCB K D = true) : ExcC K D := by
  unfold excCB at h
  simp only [Bool.and_eq_true, decide_eq_true_eq] at h
  obtain ⟨h1, h2, h3, h4, h5, h6, h7, h8⟩ := h
  exact ⟨h1, h2, h3, h4, h5, h6, h7, h8⟩
end Dl
namespace Dl
open PySem PySem.Spec PyProof.Rows L2 LamX
def LamO (q : Str) (clos : List (Str × Addr)) (params : Arguments) (body : Expr) (scope : Scope) (f c' : Addr) : HO := .ext fun h => ∃ pm ctv, h.get? f = some (PySem.W.kla_obj "<lambda>" q params body scope clos pm c' ctv)
abbrev LFam := Nat → Addr → Addr → HO
abbrev LamE := Arguments × Expr × Scope
def lamFam (q : Str) (cells : List (Str × Addr)) (Ls : List LamE) : LFam := fun i f c' => match Ls[i]? with
  | some z => LamO q (cloFrom cells z.2.2.names []) z.1 z.2.1 z.2.2 f c'
  | none => .ext fun _ => False
def tLamV (P : Addr) (q : Str) (Li : Addr → Addr → HO) : TE := fun σ H Q => ∃ ps, H P = some (.tbl ps) ∧ TabIn H q ps ∧ ∀ H1 f c', GrownC H P ps q c' H1 → H1 f = none → Q (.ref f) (upd H1 f (Li f c'))
section
variable {X : Cx} {pins : List (Addr × Obj)} {σ : L2.St} {H HZ : Hp} {s s1 : Shared}
theorem lamO_ok {P : Program} {w : World} {h : Heap} {q : Str} {clos : List (Str × Addr)} {params : Arguments} {body : Expr} {scope : Scope} {f c' : Addr} {pm ctv : Value} (e : h.get? f = some (PySem.W.kla_obj "<lambda>" q params body scope clos pm c' ctv)) : ObjOk P w H h f (LamO q clos params body scope f c') :=
  ⟨⟨pm, ctv, e⟩, ⟨_, e⟩, fun _ _ ⟨pm, ctv, q⟩ st => ⟨pm, ctv, st _ q⟩⟩
theorem inv_new {a : Addr} {oe : Obj} {u : HO} {s0 : Shared} {H0 : Hp} (I : Inv X pins σ H s) (I0 : Inv X pins σ H0 s0) (hex : X.ex = []) (n0 : s0.heap.get? a = none) (e : s.heap.get? a = some oe) (ok : ObjOk X.prog X.w (upd H a u) s.heap a u) (na : H a = none) (nL : a ≠ X.env.locals) (nc : ∀ v, oe.data ≠ .cell v) :
    Inv X pins σ (upd H a u) s := by
  have off : ∀ {b : Addr} {u' : HO}, H b = some u' → upd H a u b = some u' := fun q => by rw [upd_ne (ne_of_none q na)]; exact q
  have nS : X.s_0.heap.get? a = none := by
    cases q : X.s_0.heap.get? a with
    | none => rfl
    | some o =>
      obtain ⟨o', y⟩ := I0.base.there a o q (by rw [hex]; simp)
      rw [n0] at y
      cases y
  refine ⟨I.ok, I.os, I.bare, ⟨I.base.keep, I.base.slot, fun b o q n hx => ?_, I.base.there, fun b xs q => off (I.base.tups b xs q), fun b o u q => off (I.base.frzs b o u q), fun b ps q => ?_⟩, I.loc, I.cell, ?_, fun x c q => ?_, fun p hp => ?_, I.hok.laidN (fun _ _ q => q) na ok, I.len⟩
  · rw [upd_ne (fun y => by rw [y, nS] at q; cases q)]
    exact I.base.free b o q n hx
  · obtain ⟨more, hm⟩ := I.base.tbls b ps q
    exact ⟨more, off hm⟩
  · rw [upd_ne nL.symm]; exact I.free
  · rw [upd_ne fun y => ?_]
    · exact I.freeC x c q
    · obtain ⟨v, o, ho, hv⟩ := I.cell x c q
      rw [y, e] at ho
      cases ho
      exact nc _ hv
  · obtain ⟨h1, h2, h3⟩ := I.pin p hp
    refine ⟨h1, ?_, h3⟩
    rw [upd_ne fun y => ?_]
    · exact h2
    · have := (I0.pin p hp).1
      rw [y, n0] at this
      cases this
theorem pg_lamV {c P : Addr} {Ls : List LamE} {i : Nat} {params : Arguments} {body : Expr} {scope : Scope} {pos : Pos} (hi : Ls[i]? = some (params, body, scope)) (TB : TabB X.base X.mg c P) (hcode : X.env.code = .ref c) (hex : X.ex = []) (hdef : defaultsOf params X.env = ([], []))
    (L : LamS X.env.scope scope) (hfr : X.env.frame = some X.env.locals) (hst : X.stack = X.env :: X.outer) :
    PE X (.Lambda params body scope pos) (tLamV P (X.env.qual ++ "<lambda>") (lamFam (X.env.qual ++ "<lambda>") X.env.cells Ls i)) := by
  refine ⟨fun pins s σ H Q I ⟨ps, hP, hT, h⟩ => ?_⟩
  refine lam_grown I TB hcode hP hT hdef (L.has I.ok) fun f c' pm ctv H1 s' I1 gr hf hfn hfs hco ⟨hn0, grC⟩ => ?_
  have nL : f ≠ X.env.locals := fun y => hfs (by
    rw [hst]
    exact List.mem_filterMap.mpr ⟨X.env, List.mem_cons_self, by rw [hfr, y]⟩)
  have eL : lamFam (X.env.qual ++ "<lambda>") X.env.cells Ls i f c' = LamO (X.env.qual ++ "<lambda>") (cloFrom X.env.cells scope.names []) params body scope f c' := by
    unfold lamFam
    rw [hi]
  refine ⟨.ref f, _, inv_new I1 I hex hn0 hf (lamO_ok hf) hfn nL (fun v y => by cases y), rfl, ?_⟩
  have := h H1 f c' grC hfn
  rw [eL] at this
  exact this
theorem pg_actV {CXg : CXT} {Eg : XK} {Ng : List Str} {qg : Str} {sg : Scope} {g f c' : Addr} {cdg : Value} {params : Arguments} {body : Expr} {scope : Scope} {k i : Nat} {a : Str} {pn : List (Addr × Obj)} {xe : Value → Shared → Prop} {W : WX} {E : XK} {tb : TE} {p1 p2 : Pos}
    (I : Inv X pins σ H s) (L : LamS X.env.scope scope)
    (hbind : ∀ pm ctv, bindArgs (PySem.W.kla_fn "<lambda>" (X.env.qual ++ "<lambda>") params body scope (cloFrom X.env.cells scope.names []) pm (.ref c') ctv) ⟨[], []⟩ = pure [])
    (tk : Takes ((cxOf CXg X.prog X.w X.K X.mg X.base Ng qg sg g cdg X.A X.stack s H Eg).tr pn xe) W) (hr : RoomG (k + 1) (X.A.deeper (envOfC qg sg s.heap.objs.size g cdg)))
    (hbody : ∀ (A : Around) (outer : List Env) (s : Shared) (H : Hp), RoomG k (A.deeper (lamEnv X scope s.heap.objs.size f c')) → PE (lamCx X A outer s H E scope f c') body tb)
    (hN : Ng[i]? = some a) (hv : Vis sg a) (hd : (a == ("__debug__" : Str)) = false := by decide) (hcd : (a == ("__classdict__" : Str)) = false := by decide) :
    PE ((cxOf CXg X.prog X.w X.K X.mg X.base Ng qg sg g cdg X.A X.stack s H Eg).tr pn xe) (.Call (.Name a p1) [] [] p2)
      (fun σZ HZ Q => σZ[i]? = some (some (.ref f)) ∧ (HZ f = some (LamO (X.env.qual ++ "<lambda>") (cloFrom X.env.cells scope.names []) params body scope f c') ∧ HZ c' = some (CodeO c' (X.env.qual ++ "<lambda>"))) ∧ (∀ cls d H', E cls d H' → W cls d σZ H') ∧ tb σ HZ Q) := by
  refine ⟨fun pinsZ sZ σZ HZ Q IZ ⟨hs, ⟨hfO, hc⟩, hW, ht⟩ => ?_⟩
  refine wpAny_Call_Name_kw (thn ((pe_var (pos := p1) (i := i) hN hv hd hcd).run pinsZ sZ σZ HZ (fun v H1 => v = .ref f ∧ H1 = HZ) IZ ⟨.ref f, hs, rfl, rfl⟩) fun u s1 ⟨v, H1, I1, r1, ev, eH⟩ => ?_)
  subst ev eH
  cases (show u = Value.ref f from r1)
  obtain ⟨⟨pm, ctv, of1⟩, _, _⟩ := I1.hok f _ hfO
  have un : Un (frs X.stack) [] H H1 s.heap s1.heap := I1.base
  obtain ⟨⟨oc, vs, t, hoc, hdc, hvc⟩, _, _⟩ := I1.hok c' _ hc
  refine PySem.W.callWith_F0 ⟨_, _, _, _, of1⟩ (wpAny_call (codeAny_mono (R := CR (L2.CX X.prog X.w) (envOfC qg sg s.heap.objs.size g cdg :: X.stack) X.prog X.w H1 s1 Q E) ?_ fun r s' hq => ?_))
  · refine PySem.W.kla_callFunE hr.room.depth of1 rfl L.co L.gen rfl ⟨c', oc, vs, t, rfl, hoc, hdc, hvc⟩ ?_
    rw [List.append_nil, hbind]
    refine wpAny_pure (wpAny_newFunctionEnv (fun y hy => (L.own y hy).2) (fun y hy => absurd hy (by simp)) (fun hA hns hsb => ⟨I1.nolimit.fresh _ hsb, ?_⟩) L.kind)
    have kp : ∀ b o, s1.heap.get? b = some o → hA.get? b = some o := fun b o e => hsb.extBut b o (Nat.ne_of_lt (Heap.lt_size e)) (Heap.get?_push_of_some _ e)
    have J := lam_start2 (E := E) (c' := c') (f := f) (tk := s1.toks + ([] : List (Str × Value)).length) I L I1.env0 hr.room.hd un hns kp
    refine PySem.W.kla_codeExpr (wpAny_mono ((hbody _ _ s1 H1 (hr.deeper _)).run [] _ _ H1 Q J ht) (fun v s' hq => ?_) fun e s' hq => hq)
    obtain ⟨w', H', J', rv, q⟩ := hq
    exact ⟨w', H', J'.os, J'.bare, J'.base, J'.hok, rv, q⟩
  · cases r with
    | error e => exact tk e s' (XE.of_call I1 hW hq)
    | ok fl =>
      cases fl with
      | ret u => exact I1.after hq
      | next => exact hq.elim
      | brk => exact hq.elim
      | cont => exact hq.elim
end
def GivesV (X : Cx) (Ng : List Str) (x : Str) (sg : Scope) (g : Addr) (cdg : Value) (bg : List Stmt) (a : Str) (TT : (XK → Hp → VK → Prop) → Hp → VK → Prop) : Prop :=
  ∀ (f : Addr) (φ : Hp → Prop) (s : Shared) (H : Hp) (Q : VK) (tl : XK → Hp → VK → Prop),
    (∀ (W : WX) (pn : List (Addr × Obj)) (xe : Value → Shared → Prop) (E : XK) (p1 p2 : Pos), Takes ((cxOf C8.CX0 X.prog X.w X.K X.mg X.base Ng x sg g cdg X.A X.stack s H C8.E0).tr pn xe) W →
      PE ((cxOf C8.CX0 X.prog X.w X.K X.mg X.base Ng x sg g cdg X.A X.stack s H C8.E0).tr pn xe) (.Call (.Name a p1) [] [] p2) (fun σZ HZ Q => σZ[0]? = some (some (.ref f)) ∧ φ HZ ∧ (∀ cls d H', E cls d H' → W cls d σZ H') ∧ tl E HZ Q)) →
    φ H → TT tl H Q → ∃ t, PSs (cxOf C8.CX0 X.prog X.w X.K X.mg X.base Ng x sg g cdg X.A X.stack s H C8.E0).nox bg t ∧ t { nx := fun _ H' => Q .non H', rt := Q } (L2.start Ng [.ref f]) H
theorem caught_givesV {X : Cx} {x a fnd n e : Str} {sg : Scope} {g CS : Addr} {cdg : Value} {j : Nat} {p1 p2 p3 p4 p5 p6 p7 p8 p9 p10 p11 p12 p13 p14 : Pos} (nd : [a, fnd, n].Nodup) (lf : sg.names.lookup fnd = some .local) (ln : sg.names.lookup n = some .local) (hge : sg.names.lookup e = some .globalImplicit) (hme : X.mg e = some (.ref CS))
    (hdf : (fnd == ("__debug__" : Str)) = false := by decide) (hcf : (fnd == ("__classdict__" : Str)) = false := by decide) (hdn : (n == ("__debug__" : Str)) = false := by decide) (hcn : (n == ("__classdict__" : Str)) = false := by decide) (hde : (e == ("__debug__" : Str)) = false := by decide) :
    GivesV X [a, fnd, n] x sg g cdg [.Assign [.Name fnd p1] (.Constant .none j p2) p3, .Try [.Expr (.Call (.Name a p4) [] [] p5) p6] [.ExceptHandler (some (.Name e p7)) (some n) [.Assign [.Name fnd p8] (.Name n p9) p10] p11] [] [] p12, .Return (some (.Name fnd p13)) p14] a (TCaught X.K CS) := by
  intro f φ s H Q tl act hc h
  refine ⟨_, pss_cons (ps_asg pe_non (pg_name (i := 1) nd rfl (.inl lf) (.inr lf))) (pss_cons (ps_try_told (X := (cxOf C8.CX0 X.prog X.w X.K X.mg X.base [a, fnd, n] x sg g cdg X.A X.stack s H C8.E0).nox) (c := .ref CS) (i := 2) (Wout := fun _ _ _ _ => False)
      (tb := fun W D σ H => ∃ Ech : XK, σ[0]? = some (some (.ref f)) ∧ φ H ∧ (∀ cls d H', Ech cls d H' → W cls d σ H') ∧ tl Ech H fun _ H1 => D.nx σ H1) (ts := fun _ _ _ => tAsg (tVar 2) (gName 1))
      rfl rfl rfl nd rfl ln ⟨hge, hde, .inl hme⟩ L2.takes0 (fun W pn xe tk _ => ?_) fun a' oe cls d pn _ _ => pss_one (ps_asg (pe_var (i := 2) rfl (.inl ln) hdn hcn) (pg_name (i := 1) nd rfl (.inl lf) (.inr lf)))) (pss_one (ps_ret (pe_var (i := 1) rfl (.inl lf) hdf hcf)))), ?_⟩
  · refine ⟨fun pins s' σ H' D I ⟨Ech, h1, h2, h3, h4⟩ => ?_⟩
    have hp := act W pn xe Ech p4 p5 tk
    exact (pss_one (ps_expr (pos := p6) hp)).run pins s' σ H' D I ⟨h1, h2, h3, h4⟩
  · refine ⟨_, rfl, hc, fun cls d H' y => ?_, h⟩
    obtain ⟨C, rfl, rfl, hx, hQ⟩ := y
    exact ⟨true, hx, fun _ => ⟨C, rfl, rfl, fun a' na => ⟨.ref a', rfl, fun n1 => ⟨.ref a', rfl, hQ a' na⟩⟩⟩, fun y => by cases y⟩
inductive LamsOk (X : Cx) (k : Nat) : List LamE → List (XK → TE) → Prop
  | nil : LamsOk X k [] []
  | cons {z : LamE} {t : XK → TE} {Ls : List LamE} {ts : List (XK → TE)} : LamS X.env.scope z.2.2 →
      (∀ (q : Str) (cl : List (Str × Addr)) (pm cv ctv : Value), bindArgs (PySem.W.kla_fn "<lambda>" q z.1 z.2.1 z.2.2 cl pm cv ctv) ⟨[], []⟩ = pure []) →
      (∀ (A : Around) (outer : List Env) (s : Shared) (H : Hp) (E : XK) (f c' : Addr), RoomG k (A.deeper (lamEnv X z.2.2 s.heap.objs.size f c')) → PE (lamCx X A outer s H E z.2.2 f c') z.2.1 (t E)) → LamsOk X k Ls ts → LamsOk X k (z :: Ls) (t :: ts)
theorem LamsOk.get {X : Cx} {k : Nat} {Ls : List LamE} {ts : List (XK → TE)} (h : LamsOk X k Ls ts) : ∀ {i : Nat} {t : XK → TE}, ts[i]? = some t → ∃ z, Ls[i]? = some z ∧ LamS X.env.scope z.2.2 ∧
    (∀ (q : Str) (cl : List (Str × Addr)) (pm cv ctv : Value), bindArgs (PySem.W.kla_fn "<lambda>" q z.1 z.2.1 z.2.2 cl pm cv ctv) ⟨[], []⟩ = pure []) ∧
    (∀ (A : Around) (outer : List Env) (s : Shared) (H : Hp) (E : XK) (f c' : Addr), RoomG k (A.deeper (lamEnv X z.2.2 s.heap.objs.size f c')) → PE (lamCx X A outer s H E z.2.2 f c') z.2.1 (t E)) := by
  induction h with
  | nil => intro i t e; simp at e
  | cons h1 h2 h3 _ ih =>
    intro i t e
    cases i with
    | zero =>
      simp only [List.getElem?_cons_zero, Option.some.injEq] at e
      subst e
      exact ⟨_, rfl, h1, h2, h3⟩
    | succ i => exact ih (by simpa using e)
def rCaughtV (K : Frag) (CS : Addr) (q : Str) (L : LFam) (ts : List (XK → TE)) : L2.St → List V → Hp → VK → Prop := fun σ vs H Q => ∃ (i : Nat) (t : XK → TE) (f c' : Addr), vs = [.ref f] ∧ ts[i]? = some t ∧ H f = some (L i f c') ∧ H c' = some (CodeO c' q) ∧ TCaught K CS (fun E H' Q' => t E σ H' Q') H Q
def tCaughtV (K : Frag) (CS : Addr) (q : Str) (L : LFam) (ts : List (XK → TE)) (ta : TA) : TE := fun σ H Q => ta σ H fun vs H1 => rCaughtV K CS q L ts σ vs H1 Q
theorem pg_caughtV {X : Cx} {x a fnd n e : Str} {g CS : Addr} {k : Nat} {pg : Arguments} {bg : List Stmt} {sg : Scope} {Ls : List LamE} {ts : List (XK → TE)} {ta : TA} {e0 : Expr} {p pos : Pos}
    (FD : ∃ fd, FunD X.K x x pg bg sg [] [] g fd) (hbl : ∀ (kV doc pm : Value) (an : Option Addr) (cdv ct : Value) (us : List Value), us.length = [a].length → bindArgs (PySem.W.fnOf x x pg bg sg .none kV doc pm an cdv ct) ⟨us, []⟩ = pure ([a].zip us))
    (hbg : ∃ (j : Nat) (p1 p2 p3 p4 p5 p6 p7 p8 p9 p10 p11 p12 p13 p14 : Pos), bg = [.Assign [.Name fnd p1] (.Constant .none j p2) p3, .Try [.Expr (.Call (.Name a p4) [] [] p5) p6] [.ExceptHandler (some (.Name e p7)) (some n) [.Assign [.Name fnd p8] (.Name n p9) p10] p11] [] [] p12, .Return (some (.Name fnd p13)) p14])
    (Sg : FnScope [a, fnd, n] [a] sg) (la : sg.names.lookup a = some .local) (lf : sg.names.lookup fnd = some .local) (ln : sg.names.lookup n = some .local) (hge : sg.names.lookup e = some .globalImplicit) (hme : X.mg e = some (.ref CS))
    (hg : Gl X x) (hm : X.mg x = some (.ref g)) (hr : RoomG (k + 2) X.A) (ha : PA X [e0] ta) (hL : LamsOk X k Ls ts)
    (hdb : (x == ("__debug__" : Str)) = false := by decide) (hd : (a == ("__debug__" : Str)) = false := by decide) (hcd : (a == ("__classdict__" : Str)) = false := by decide)
    (hdf : (fnd == ("__debug__" : Str)) = false := by decide) (hcf : (fnd == ("__classdict__" : Str)) = false := by decide) (hdn : (n == ("__debug__" : Str)) = false := by decide) (hcn : (n == ("__classdict__" : Str)) = false := by decide) (hde : (e == ("__debug__" : Str)) = false := by decide)
    (he : starEach [e0] X.env = (false, eval e0 X.env) :: starEach [] X.env := by rfl) (hpl : (backTo pos (starEach [] X.env)).any (·.1) = false := by rfl) :
    PE X (.Call (.Name x p) [e0] [] pos) (tCaughtV X.K CS (X.env.qual ++ "<lambda>") (lamFam (X.env.qual ++ "<lambda>") X.env.cells Ls) ts ta) := by
  obtain ⟨fd, F⟩ := FD
  have B := F.bindsN hbl
  obtain ⟨j, p1, p2, p3, p4, p5, p6, p7, p8, p9, p10, p11, p12, p13, p14, rfl⟩ := hbg
  obtain ⟨oc, od, dV, kV, doc, pm, an, cdv, ct, osl, rfl, lk, hco, _, _⟩ := F.ex
  refine ⟨fun pins s σ H Q I h => wpAny_Call_Name_kw (ld_glob I hg hm ?_ hdb)⟩
  refine PySem.W.callWith_K (h₀ := X.base) I.ok.mod.kin F.kp (thn (ha.run pos pins s σ H _ I h) fun us s' ⟨vs, H1, I1, r, q⟩ => ⟨I1.kIn, ?_⟩) he hpl
  obtain ⟨i, t, f, c', rfl, ht, hfO, hc, hq⟩ := q
  obtain ⟨u, rfl, ru⟩ := vals1 r
  obtain rfl : u = Value.ref f := ru
  obtain ⟨z, hz, LS, hbind, hbody⟩ := hL.get ht
  have eL : lamFam (X.env.qual ++ "<lambda>") X.env.cells Ls i f c' = LamO (X.env.qual ++ "<lambda>") (cloFrom X.env.cells z.2.2.names []) z.1 z.2.1 z.2.2 f c' := by
    unfold lamFam
    rw [hz]
  rw [eL] at hfO
  refine wpAny_call (codeAny_mono (R := CR C8.CX0 X.stack X.prog X.w H1 s' Q C8.E0) ?_ fun r s2 hq => ?_)
  · refine run_ofS (N := [a, fnd, n]) (ps := [a]) (us := [.ref f]) (vs := [.ref f]) lk hco Sg hr.room I1.env0 (B s' [.ref f] I1.kIn rfl) (.cons rfl .nil) rfl fun _ => ?_
    obtain ⟨t', ht', hq'⟩ := caught_givesV (X := X) (x := x) (cdg := cdv) Sg.nd lf ln hge hme hdf hcf hdn hcn hde f (fun HZ => HZ f = some (LamO (X.env.qual ++ "<lambda>") (cloFrom X.env.cells z.2.2.names []) z.1 z.2.1 z.2.2 f c') ∧ HZ c' = some (CodeO c' (X.env.qual ++ "<lambda>"))) s' H1 Q (fun E H' Q' => t E σ H' Q')
      (fun W pn xe E p1 p2 tk => pg_actV (i := 0) I1 LS (fun _ _ => hbind _ _ _ _ _) tk (hr.deeper _) (fun A outer s H hr2 => hbody A outer s H E f c' hr2) rfl (.inl la) hd hcd) ⟨hfO, hc⟩ hq
    exact ⟨t', ht'.nox, hq'⟩
  · cases r with
    | error e => exact (show False from hq).elim
    | ok fl =>
      cases fl with
      | ret u => exact I1.after hq
      | next => exact hq.elim
      | brk => exact hq.elim
      | cont => exact hq.elim
end Dl
namespace Dl
open PySem PySem.Spec PyProof.Rows L2 LamX
structure Lm where
  i : Nat
  f : Addr
  c : Addr
def LamAt (S : Hp) (L : LFam) (q : Str) (z : Lm) : Prop := S z.f = some (L z.i z.f z.c) ∧ S z.c = some (CodeO z.c q)
def lamR (L : LFam) (q : Str) (z : Lm) : Res where
  v := .ref z.f
  p := fun _ S _ fp => fp = [] ∧ LamAt S L q z
  loc := fun ⟨e, h1, h2⟩ le _ => ⟨e, le _ _ h1, le _ _ h2⟩
def lamsR (L : LFam) (q : Str) (D : Addr) (zs : List Lm) : Res where
  v := .ref D
  p := fun _ S _ fp => fp = [] ∧ S D = some (.lst (zs.map fun z => .ref z.f)) ∧ ∀ z ∈ zs, LamAt S L q z
  loc := fun ⟨e, h1, h2⟩ le _ => ⟨e, le _ _ h1, fun z hz => ⟨le _ _ (h2 z hz).1, le _ _ (h2 z hz).2⟩⟩
def tLams (P : Addr) (q : Str) (L : LFam) : List Nat → TA
  | [] => tNil
  | i :: is => tCons (tLamV P q (L i)) (tLams P q L is)
section
variable {K : Frag} {Γ : List Sl} {k : Sl → List Sl → Prop} {O : Out}
theorem tab_grownC {σ : List (Option V)} {S H H1 : Hp} {fs : List (List Addr)} {j : Nat} {v : V} {P c : Addr} {q : Str} {d : Option PyData} {ps : Array Value} (w : Wd K σ Γ S H fs) (hj : Γ[j]? = some (.res (tabR v P q d))) (hP : H P = some (.tbl ps)) (g : GrownC H P ps q c H1) :
    ∃ S1, Wd K σ Γ S1 H1 fs ∧ Step S H fs.flatten S1 H1 fs.flatten ∧ S1 c = some (CodeO c q) := by
  obtain ⟨x, fp, hx, hf, e1, e2, hd, ps0, hP0, hT⟩ := w.sat.get hj
  have hP0 : H P = some (.tbl ps0) := hP0
  rw [hP] at hP0
  cases hP0
  rcases g with ⟨rfl, pos, hc⟩ | ⟨more, nC, nCP, rfl, tri, among⟩
  · obtain ⟨c0, y1, y2⟩ := hT.all pos _ hc
    cases y1
    exact ⟨S, w, Step.refl, y2⟩
  have e2 : fp = [P] := e2
  subst e2
  have pm := flat_take fs j [P] hf
  have nd := (w.good.perm pm).nd
  have pF : P ∈ fs.flatten := pm.mem_iff.mpr (by simp)
  have nS : S c = none := w.good.sub.none nC
  have nSP : S P = none := w.good.dis P pF
  have nF : ∀ b ∈ fs.flatten, b ≠ c := fun b hb e => w.good.al b hb (by rw [e]; exact nC)
  have nP : ∀ b ∈ (fs.set j []).flatten, b ≠ P := fun b hb e => (List.nodup_cons.mp nd).1 (e ▸ hb)
  have sF : ∀ b ∈ (fs.set j []).flatten, b ∈ fs.flatten := fun b hb => pm.mem_iff.mpr (List.mem_append_right _ hb)
  have le : Le S (upd S c (CodeO c q)) := fun b u e => by rw [upd_ne (ne_of_none e nS)]; exact e
  have sat1 : SatL K S H σ (Γ.set j .no) (fs.set j []) := by
    have y := w.sat.set (x := x) (s := .no) (fp := []) j rfl
    rwa [setSame hx] at y
  have sat2 := sat1.step le (H' := upd (upd H P (.tbl (ps ++ more))) c (CodeO c q)) fun b hb => by rw [upd_ne (nF b (sF b hb)), upd_ne (nP b hb)]
  have atP : upd (upd H P (.tbl (ps ++ more))) c (CodeO c q) P = some (.tbl (ps ++ more)) := by rw [upd_ne nCP.symm, upd_same]
  have sat3 := sat2.set (x := x) (s := .res (tabR v P q d)) (fp := [P]) j ⟨e1, rfl, fun d' h => le.dp (hd d' h), _, atP, tri, fun pos cv h => by
    rcases among pos cv h with y | y
    · obtain ⟨c0, y1, y2⟩ := hT.all pos cv y
      exact ⟨c0, y1, le _ _ y2⟩
    · exact ⟨c, y, upd_same⟩⟩
  rw [setSame hx, List.set_set, List.set_set, setSame hf, setSame hj] at sat3
  refine ⟨upd S c (CodeO c q), ⟨⟨fun b u e => ?_, w.good.nd, fun b hb => by rw [upd_ne (nF b hb)]; exact w.good.dis b hb, fun b hb => ?_⟩, sat3⟩, ⟨le, fun b u e n => ?_, fun b e => ?_, fun b hb => .inr hb, fun b e => ?_⟩, upd_same⟩
  · by_cases y : b = c
    · rw [y, upd_same] at e ⊢; exact e
    · rw [upd_ne y] at e ⊢
      rw [upd_ne (ne_of_none e nSP)]
      exact w.good.sub b u e
  · rw [upd_ne (nF b hb)]
    by_cases y : b = P
    · rw [y, upd_same]; simp
    · rw [upd_ne y]; exact w.good.al b hb
  · rw [upd_ne (ne_of_none e nC), upd_ne fun y => n (by rw [y]; exact pF)]
    exact e
  · by_cases y : b = c
    · exact .inr (.inl (by rw [y]; exact nC))
    · rw [upd_ne y] at e; exact .inl e
  · by_cases y : b = c
    · rw [y, upd_same]; simp
    · rw [upd_ne y]
      by_cases y2 : b = P
      · rw [y2, upd_same]; simp
      · rw [upd_ne y2]; exact e
theorem lams_run {L : LFam} {v : V} {P : Addr} {q : Str} {d : Option PyData} {j : Nat} (hj : Γ[j]? = some (.res (tabR v P q d))) : ∀ (is : List Nat) {σ : List (Option V)} {S H : Hp} {fs : List (List Addr)} {Qa : List V → Hp → Prop}, Wd K σ Γ S H fs →
    (∀ (zs : List Lm) S1 H1, zs.map (·.i) = is → Wd K σ Γ S1 H1 fs → Step S H fs.flatten S1 H1 fs.flatten → (∀ z ∈ zs, LamAt S1 L q z) → Qa (zs.map fun z => .ref z.f) H1) → tLams P q L is σ H Qa
  | [], σ, S, H, fs, Qa, w, h => h [] S H rfl w Step.refl fun z hz => by cases hz
  | i :: is, σ, S, H, fs, Qa, w, h => by
    obtain ⟨x, fp, hx, hf, e1, e2, hd, ps, hP, hT⟩ := w.sat.get hj
    refine ⟨ps, hP, hT.up w.good.sub, fun H1 f c' gr hn => ?_⟩
    obtain ⟨S1, w1, st1, hc⟩ := tab_grownC w hj hP gr
    obtain ⟨w2, st2⟩ := new_seen (o := L i f c') w1 hn
    have nS1 : S1 f = none := w1.good.sub.none hn
    refine lams_run hj is w2 fun zs S3 H3 hz w3 st3 hl => ?_
    refine h (⟨i, f, c'⟩ :: zs) S3 H3 (by rw [List.map_cons, hz]) w3 ((st1.trans st2).trans st3) fun z hm => ?_
    rcases List.mem_cons.mp hm with rfl | y
    · refine ⟨st3.le _ _ upd_same, st3.le _ _ ?_⟩
      show upd S1 f (L i f c') c' = _
      rw [upd_ne (ne_of_none hc nS1)]
      exact hc
    · exact hl z y
theorem e_lamLst {L : LFam} {v : V} {P : Addr} {q : Str} {d : Option PyData} {is : List Nat} (j : Nat) (hj : Γ[j]? = some (.res (tabR v P q d))) (hs : is.length ≤ 1000)
    (hk : ∀ (D : Addr) (zs : List Lm), zs.map (·.i) = is → k (.res (lamsR L q D zs)) Γ) : EvP K (tLst (tLams P q L is)) Γ k := by
  intro σ S H fs Q w Pp
  refine lams_run hj is w fun zs S1 H1 hz w1 st1 hl => ?_
  have hzl : zs.length = is.length := by rw [← hz, List.length_map]
  refine ⟨by rw [List.length_map, hzl, sizeLine_eq]; omega, fun p hp => ?_⟩
  obtain ⟨w2, st2⟩ := new_seen (o := .lst (zs.map fun z => V.ref z.f)) w1 hp
  have nS1 : S1 p = none := w1.good.sub.none hp
  refine Pp (.ref p) (.res (lamsR L q p zs)) Γ _ _ [] fs (hk p zs hz) (w2.put ⟨rfl, rfl, upd_same, fun z hm => ?_⟩) (by simpa using st1.trans st2)
  obtain ⟨h1, h2⟩ := hl z hm
  exact ⟨by rw [upd_ne (ne_of_none h1 nS1)]; exact h1, by rw [upd_ne (ne_of_none h2 nS1)]; exact h2⟩
theorem e_lam {L : LFam} {q : Str} {z : Lm} {i : Nat} (h : Γ[i]? = some (.res (lamR L q z))) (hk : k (.res (lamR L q z)) Γ) : EvP K (tVar i) Γ k := by
  intro σ S H fs Q w Pp
  obtain ⟨x, fp, hx, hf, e1, e2, hl⟩ := w.sat.get h
  exact ⟨_, by rw [← e1]; exact hx, Pp _ _ Γ S H [] fs hk (w.put ⟨rfl, rfl, hl⟩) (by simpa using Step.refl)⟩
def Lm.at (zs : List Lm) (i : Nat) : Lm := zs.getD i ⟨0, 0, 0⟩
theorem i_sqLam {tl : TE} {ki : (Nat → Sl) → Nat → (List Sl → Prop) → List Sl → Prop} (h : EvP K tl Γ fun r Γ1 => ∃ (L : LFam) (q : Str) (D : Addr) (zs : List Lm), r = .res (lamsR L q D zs) ∧ ki (fun i => .res (lamR L q (Lm.at zs i))) zs.length (fun _ => True) Γ1) : EvI K (iSq K tl) Γ ki := by
  intro σ S H fs R w P
  refine h σ S H fs _ w fun v r Γ1 S1 H1 f1 fs1 hb w1 st1 => ?_
  obtain ⟨L, q, D, zs, rfl, hk⟩ := hb
  obtain ⟨e0, e1, hD, hl⟩ := w1.hd
  have e0 : some v = some (V.ref D) := e0
  have e1 : f1 = [] := e1
  subst e1
  cases e0
  have hD1 : SqL K S1 D (zs.map fun z => V.ref z.f) := .of hD
  refine .inl ⟨_, _, rfl, w1.good.sub.sqL hD1, fun hz => P _ _ _ _ Γ1 S1 H1 fs1 (fun _ _ h => h) hk w1.tl (by simpa using st1) fun i σ2 Γ2 S2 H2 fs2 hi _ w2 st2 => ⟨fun hlt => ?_, fun he => ?_⟩⟩
  · have hq : SqL K H2 _ _ := w2.good.sub.sqL (st2.le.sqL hD1)
    refine ⟨⟨_, _, hq, List.getElem?_eq_getElem (by rw [List.length_map]; omega)⟩, fun x H' y => ?_⟩
    obtain ⟨rfl, y⟩ := y
    have hx := y _ hq
    have e : zs[i]? = some (Lm.at zs i) := by
      unfold Lm.at
      rw [List.getD_eq_getElem?_getD, List.getElem?_eq_getElem hlt]
      rfl
    rw [List.getElem?_map, e] at hx
    cases hx
    obtain ⟨h1, h2⟩ := hl _ (List.mem_of_getElem? e)
    exact ⟨S2, w2.put ⟨rfl, rfl, st2.le _ _ h1, st2.le _ _ h2⟩, Step.refl⟩
  · exact ⟨_, w2.good.sub.sqL (st2.le.sqL hD1), by rw [List.length_map]; omega⟩
theorem e_caughtV {CS : Addr} {q : Str} {L : LFam} {ts : List (XK → TE)} {ta : TA} (h : EvA K ta Γ fun rs Γ1 => ∃ (z : Lm) (t : XK → TE), rs = [.res (lamR L q z)] ∧ ts[z.i]? = some t ∧
    EvX K t Γ1 (fun _ Γ2 => k (.dat .none) Γ2) fun cls Γ2 => ∃ C, cls = .ref C ∧ PySem.W.exmOne K cls (.ref CS) = some true ∧ ∀ a, k (.res (excR a C)) Γ2) : EvP K (tCaughtV K CS q L ts ta) Γ k := by
  intro σ S H fs Q w Pp
  refine h σ S H fs _ w fun vs rs Γ1 S1 H1 frs fs1 hb l1 l2 w1 st1 => ?_
  obtain ⟨z, t, rfl, ht, hx⟩ := hb
  match vs, frs, l1, l2, w1, st1 with
  | [v], [f1], _, _, w1, st1 =>
    have w1' : Wd K (some v :: σ) (.res (lamR L q z) :: Γ1) S1 H1 (f1 :: fs1) := w1
    obtain ⟨e0, e1, hl1, hl2⟩ := w1'.hd
    have e0 : some v = some (V.ref z.f) := e0
    have e1 : f1 = [] := e1
    subst e1
    cases e0
    have st1' : Step S H fs.flatten S1 H1 fs1.flatten := by simpa using st1
    refine ⟨z.i, t, z.f, z.c, rfl, ht, w1'.good.sub _ _ hl1, w1'.good.sub _ _ hl2, ?_⟩
    refine hx σ S1 H1 fs1 _ _ w1'.tl (fun u r Γ2 S2 H2 fr fs2 hk w2 st2 => ?_) fun cls Γ2 S2 H2 fs2 hk w2 st2 => ?_
    · refine ⟨.non, rfl, Pp .non (.dat .none) Γ2 S2 H2 [] fs2 hk (w2.tl.put ⟨rfl, .non, rfl, .non⟩) (st1'.trans (st2.sub fun b hb => ?_))⟩
      rw [List.flatten_cons] at hb ⊢
      exact List.mem_append_right _ (by simpa using hb)
    · obtain ⟨C, rfl, hx2, hk⟩ := hk
      refine ⟨C, rfl, rfl, hx2, fun a na => ?_⟩
      obtain ⟨w3, st3⟩ := new_seen (o := ExT C a) w2 na
      exact Pp (.ref a) (.res (excR a C)) Γ2 _ _ [] fs2 (hk a) (w3.put ⟨rfl, rfl, upd_same⟩) (by simpa using st1'.trans (st2.trans st3))
end
theorem fng_mkL {P : Program} {w : World} {K : Frag} {mg : Str → Option Value} {base : Heap} {x qual : Str} {params : Arguments} {body : List Stmt} {scope : Scope} {at_ : He.Defn} {fd : FuncData} {N ps : List Str} {k : Nat} {F : FSpec} {dvs : List V} {kws : List (Str × V)}
    (FD : FunD K x qual params body scope dvs kws (He.fAd K at_) fd) (S : FnScope N ps scope)
    (hn : ∀ args k, F args k → args.length = ps.length) (t : LFam → TS) (ht : ∀ L args k, F args k → ExS K (t L) (args ++ List.replicate (N.length - args.length) .no) (fnOut args k))
    (hd : ∀ (A : Around) (outer : List Env) (s : Shared) (H : Hp) (E : XK), RoomG k (A.deeper (envOfC qual scope s.heap.objs.size (He.fAd K at_) (.ref (He.cT K at_).1))) → ∃ Ls : List LamE, PSs (cxOf CX0 P w K mg base N qual scope (He.fAd K at_) (.ref (He.cT K at_).1) A outer s H E).nox body (t (lamFam ((cxOf CX0 P w K mg base N qual scope (He.fAd K at_) (.ref (He.cT K at_).1) A outer s H E).env.qual ++ "<lambda>") (cxOf CX0 P w K mg base N qual scope (He.fAd K at_) (.ref (He.cT K at_).1) A outer s H E).env.cells Ls))) :
    FnG P w K mg base (k + 1) (He.fAd K at_) fd ps (spOf K F) := by
  obtain ⟨oc, od, dV, kV, doc, pm, an, cdv, ct, osl, rfl, lk, hcd, _, _⟩ := FD.ex
  obtain ⟨c, rfl⟩ := He.codeIn_ref hcd
  have ec : (He.cT K at_).1 = c := He.codeOf_eq lk rfl
  rw [ec] at hd
  refine ⟨fun vs H Q E h => sp_len hn h, fun A outer s H args us vs Q E hr e0 hb r hsp => ?_⟩
  have hl : vs.length = ps.length := sp_len hn hsp
  have kpS : ∀ b o, base.get? b = some o → s.heap.get? b = some o := fun b o e => (e0.bs b o e).1
  have hkind : ∀ y ∈ ps.zip us, scope.names.lookup y.1 = some .local ∨ (scope.names.lookup y.1 = some .cell ∧ ((cellsFrom (s.heap.objs.size + 1) scope.names []).lookup y.1).isSome = true) := fun ⟨n, v⟩ hy =>
    (S.par n (List.of_mem_zip hy).1).imp id fun q => ⟨q, PySem.W.cellsFrom_some _ _ _ (.inl q)⟩
  refine codeAny_call_function hr.room.depth ((e0.mod.kin.keeps kpS) _ _ lk) rfl S.co S.gen rfl (PySem.W.codeRec_of (e0.mod.kin.keeps kpS) hcd) (hb _ _ _ _ (wpAny_newFunctionEnv_cells S.kind hkind fun env he s1 x1 => ?_))
  subst he
  refine ⟨(e0.mod.nolimit.keeps kpS).keeps x1.toInCall.keep, codeAny_func ?_⟩
  have I : Inv (cxOf CX0 P w K mg base N qual scope (He.fAd K at_) (.ref c) A outer s H E) [] (start N vs) H s1 := inv_start S hr.room.hd e0 hl r x1
  obtain ⟨Ls, hp⟩ := hd A outer s H E (hr.deeper _)
  refine wpAny_mono ((hp.nox).run [] s1 (start N vs) H _ I (fn_body (ht _) hsp)) (fun fl s' hs => ?_) fun e s' hs => hs
  cases fl with
  | ret u => obtain ⟨v, σ', H', J, rv, q⟩ := hs; exact ⟨v, H', J.os, J.bare, J.base, J.hok, rv, q⟩
  | next => obtain ⟨σ', H', J, q⟩ := hs; exact ⟨V.non, H', J.os, J.bare, J.base, J.hok, rfl, q⟩
  | brk => obtain ⟨_, _, _, q⟩ := hs; exact q.elim
  | cont => obtain ⟨_, _, _, q⟩ := hs; exact q.elim
end Dl
namespace Dl
open PySem PySem.Spec PyProof.Rows L2 LamX
section
variable {X : Cx} {k : Nat}
def rIsAB : R2 := fun x y H Q => ∃ b : Bool, y = .bl b ∧ (x = .non ∨ (∃ i, x = .int i) ∨ (∃ z, x = .str z) ∨ ∃ c, x = .bl c) ∧ Q (.bl (decide (x = .bl b))) H
theorem op_isAB : OpR X (compareOp .Is) rIsAB := by
  intro pins s σ H x y v u Q I rx ry h
  obtain ⟨b, rfl, hx, q⟩ := h
  cases (show u = Value.bool b from ry)
  rcases hx with rfl | ⟨i, rfl⟩ | ⟨z, rfl⟩ | ⟨c, rfl⟩
  · cases (show v = Value.none from rx)
    exact wpAny_is_other rfl (fun z => by cases z) ⟨.bl false, H, I, rfl, by simpa using q⟩
  · obtain ⟨t, rfl⟩ := rx
    exact wpAny_is_other rfl (fun z => by cases z) ⟨.bl false, H, I, rfl, by simpa using q⟩
  · obtain ⟨t, rfl⟩ := rx
    exact wpAny_is_other rfl (fun z => by cases z) ⟨.bl false, H, I, rfl, by simpa using q⟩
  · cases (show v = Value.bool c from rx)
    by_cases e : c = b
    · subst e
      exact wpAny_is_self rfl ⟨.bl true, H, I, rfl, by simpa using q⟩
    · exact wpAny_is_other rfl (fun z => e (Value.bool.inj z)) ⟨.bl false, H, I, rfl, by simpa [e] using q⟩
def uIsX (K : Frag) : R2 := fun x y H Q => uIs K x y H Q ∨ rIsAB x y H Q
theorem opIsX (hr : Room k X.A) : OpR X (compareOp .Is) (uIsX X.K) := (opIs hr).or op_isAB
end
section
variable {K : Frag} {Γ : List Sl} {k : Sl → List Sl → Prop} {O : Out} {ox : Value → List Sl → Prop}
def plainD : PyData → Bool
  | .none => true
  | .int _ => true
  | .str _ => true
  | .bool _ => true
  | _ => false
theorem op_isAny {d : PyData} {b : Bool} (hd : plainD d = true) (hk : k (.dat (.bool (match d with | .bool c => decide (c = b) | _ => false))) Γ) : OpK K (uIsX K) (.dat d) (.dat (.bool b)) Γ k :=
  op_or_r (op_pure (fun S H x y Q _ h1 h2 q => by
    cases h2
    cases h1 with
    | non => exact ⟨b, rfl, .inl rfl, by simpa using q _ (.bl false)⟩
    | int i => exact ⟨b, rfl, .inr (.inl ⟨i, rfl⟩), by simpa using q _ (.bl false)⟩
    | str z => exact ⟨b, rfl, .inr (.inr (.inl ⟨z, rfl⟩)), by simpa using q _ (.bl false)⟩
    | bl c =>
      refine ⟨b, rfl, .inr (.inr (.inr ⟨c, rfl⟩)), ?_⟩
      have e : decide (V.bl c = V.bl b) = decide (c = b) := by by_cases z : c = b <;> simp [z]
      rw [e]
      exact q _ (.bl _)
    | _ => cases hd) hk)
theorem ex_for {wi : TI} {g : TG} {tb : XK → TS} (h : EvI K wi Γ fun f n G Γ1 => ∃ W : Nat → List Sl → Prop, W 0 Γ1 ∧ (∀ i Γ, i ≤ n → W i Γ → G Γ) ∧
    (∀ i Γ, i < n → W i Γ → EvG K g (f i) Γ fun Γ2 => ExX K tb Γ2 { O with nx := W (i + 1), ct := W (i + 1), bk := O.nx } ox) ∧ (∀ Γ, W n Γ → O.nx Γ)) : ExX K (fun E => tFor wi g (tb E)) Γ O ox := by
  intro σ S H fs D E w e x
  refine h σ S H fs _ w fun J f n G Γ1 S1 H1 fs1 hG hk w1 st1 tn => ?_
  obtain ⟨W, h0, hWG, hs, hd⟩ := hk
  refine ⟨fun i m σ2 H2 => m = n - i ∧ i ≤ n ∧ ∃ Γ2 S2 fs2, W i Γ2 ∧ Wd K σ2 Γ2 S2 H2 fs2 ∧ Step S1 H1 fs1.flatten S2 H2 fs2.flatten, ⟨n, by simp, Nat.zero_le _, Γ1, S1, fs1, h0, w1, Step.refl⟩, ?_⟩
  rintro i m σ2 H2 ⟨rfl, hi, Γ2, S2, fs2, hW, w2, st2⟩
  obtain ⟨t1, t2⟩ := tn i σ2 Γ2 S2 H2 fs2 hi (hWG i Γ2 hi hW) w2 st2
  by_cases hlt : i < n
  · obtain ⟨hgo, hy⟩ := t1 hlt
    refine .inr ⟨hgo, fun σ' H' => ∃ Γ2 S2 fs2, W (i + 1) Γ2 ∧ Wd K σ' Γ2 S2 H' fs2 ∧ Step S1 H1 fs1.flatten S2 H' fs2.flatten, fun σ' H' q => ⟨n - (i + 1), by omega, rfl, hlt, q⟩, fun x' H' y => ?_⟩
    obtain ⟨S', w3, st3⟩ := hy x' H' y
    refine hs i Γ2 hlt hW σ2 S' H' [] fs2 x' _ w3 ?_
    intro σ4 Γ4 S4 H4 fs4 hk4 w4 st4
    have st4' : Step S' H' fs2.flatten S4 H4 fs4.flatten := by simpa using st4
    have sA := (st2.trans st3).trans st4'
    have sB := st1.trans sA
    refine hk4 σ4 S4 H4 fs4 _ E w4 ⟨?_, e.rt.step sB, e.nx.step sB, ?_⟩ (x.step sB)
    all_goals
      intro σ5 Γ5 S5 H5 fs5 hk5 w5 st5
      exact ⟨Γ5, S5, fs5, hk5, w5, sA.trans st5⟩
  · have e1 : i = n := by omega
    subst e1
    exact .inl ⟨t2 rfl, (e.nx.step (st1.trans st2)) σ2 Γ2 S2 H2 fs2 (hd Γ2 hW) w2 Step.refl⟩
end
theorem exCons {α : Type} {p : List α → Prop} {a : α} (h : ∃ l, p (a :: l)) : ∃ l, p l := h.elim fun l q => ⟨_, q⟩
theorem exNil {α : Type} {p : List α → Prop} (h : p []) : ∃ l, p l := ⟨_, h⟩
end Dl
namespace Hw
open PySem PySem.Spec PyProof.Rows L2 Dl
def top (i : Nat) : Stmt := PySem.Challenge.pw_hueward_k44_plans_are_the_least.main.body.getD i (.Pass ⟨0, 0, 0, 0⟩)
abbrev s_is_whole : Stmt := top 6
theorem sc_is_whole : FnScope ["value"] ["value"] (defScope s_is_whole) := ⟨rfl, rfl, rfl, by decide +kernel, rfl, by decide +kernel, by decide +kernel⟩
abbrev s_is_votes : Stmt := top 9
theorem sc_is_votes : FnScope ["value", "width", "need"] ["value"] (defScope s_is_votes) := ⟨rfl, rfl, rfl, by decide +kernel, rfl, by decide +kernel, by decide +kernel⟩
abbrev s_plan : Stmt := top 12
theorem sc_plan : FnScope ["told", "whole", "wish", "need"] ["told", "whole"] (defScope s_plan) := ⟨rfl, rfl, rfl, by decide +kernel, rfl, by decide +kernel, by decide +kernel⟩
abbrev s_even_votes : Stmt := top 13
theorem sc_even_votes : FnScope ["hues", "need", "width"] ["hues", "need"] (defScope s_even_votes) := ⟨rfl, rfl, rfl, by decide +kernel, rfl, by decide +kernel, by decide +kernel⟩
abbrev s__law_begun : Stmt := top 15
theorem sc__law_begun : FnScope ["_law_script", "_law_great", "_law_cell"] ["_law_script"] (defScope s__law_begun) := ⟨rfl, rfl, rfl, by decide +kernel, rfl, by decide +kernel, by decide +kernel⟩
abbrev s__law_mixed : Stmt := top 16
theorem sc__law_mixed : FnScope ["_law_state", "_law_prime", "_law_turn", "_law_found", "_law_blend", "_law_cell"] ["_law_state"] (defScope s__law_mixed) := ⟨rfl, rfl, rfl, by decide +kernel, rfl, by decide +kernel, by decide +kernel⟩
abbrev s__law_draw : Stmt := top 17
theorem sc__law_draw : FnScope ["_law_state", "_law_room", "_law_found"] ["_law_state", "_law_room"] (defScope s__law_draw) := ⟨rfl, rfl, rfl, by decide +kernel, rfl, by decide +kernel, by decide +kernel⟩
abbrev s__law_pick : Stmt := top 18
theorem sc__law_pick : FnScope ["_law_state", "_law_some"] ["_law_state", "_law_some"] (defScope s__law_pick) := ⟨rfl, rfl, rfl, by decide +kernel, rfl, by decide +kernel, by decide +kernel⟩
abbrev s__law_caught : Stmt := top 19
theorem sc__law_caught : FnScope ["_law_action", "_law_found", "error"] ["_law_action"] (defScope s__law_caught) := ⟨rfl, rfl, rfl, by decide +kernel, rfl, by decide +kernel, by decide +kernel⟩
abbrev s__law_least_plan : Stmt := top 20
theorem sc__law_least_plan : FnScope ["_law_told", "_law_whole", "_law_hues", "_law_need"] ["_law_told", "_law_whole"] (defScope s__law_least_plan) := ⟨rfl, rfl, rfl, by decide +kernel, rfl, by decide +kernel, by decide +kernel⟩
abbrev s_law : Stmt := top 21
theorem sc_law : FnScope ["_law_script", "_law_state", "_law_told", "_law_hues", "_law_bad", "_law_task", "_law_odd", "_law_low", "_law_whole", "_law_need", "_law_votes", "_law_due", "_law_width"] ["_law_script"] (defScope s_law) := ⟨rfl, rfl, rfl, by decide +kernel, rfl, by decide +kernel, by decide +kernel⟩
structure TX (K : Frag) (mg : Str → Option Value) : Prop where
  g_is_whole : mg "is_whole" = some (.ref (He.ga K "is_whole"))
  f_is_whole : ∃ fd, FunD K "is_whole" "is_whole" (defArgs s_is_whole) (defBody s_is_whole) (defScope s_is_whole) [] [] (He.fAd K ("is_whole", none)) fd
  g_is_votes : mg "is_votes" = some (.ref (He.ga K "is_votes"))
  f_is_votes : ∃ fd, FunD K "is_votes" "is_votes" (defArgs s_is_votes) (defBody s_is_votes) (defScope s_is_votes) [] [] (He.fAd K ("is_votes", none)) fd
  g_plan : mg "plan" = some (.ref (He.ga K "plan"))
  f_plan : ∃ fd, FunD K "plan" "plan" (defArgs s_plan) (defBody s_plan) (defScope s_plan) [] [] (He.fAd K ("plan", none)) fd
  g_even_votes : mg "even_votes" = some (.ref (He.ga K "even_votes"))
  f_even_votes : ∃ fd, FunD K "even_votes" "even_votes" (defArgs s_even_votes) (defBody s_even_votes) (defScope s_even_votes) [] [] (He.fAd K ("even_votes", none)) fd
  g__law_begun : mg "_law_begun" = some (.ref (He.ga K "_law_begun"))
  f__law_begun : ∃ fd, FunD K "_law_begun" "_law_begun" (defArgs s__law_begun) (defBody s__law_begun) (defScope s__law_begun) [] [] (He.fAd K ("_law_begun", none)) fd
  g__law_mixed : mg "_law_mixed" = some (.ref (He.ga K "_law_mixed"))
  f__law_mixed : ∃ fd, FunD K "_law_mixed" "_law_mixed" (defArgs s__law_mixed) (defBody s__law_mixed) (defScope s__law_mixed) [] [] (He.fAd K ("_law_mixed", none)) fd
  g__law_draw : mg "_law_draw" = some (.ref (He.ga K "_law_draw"))
  f__law_draw : ∃ fd, FunD K "_law_draw" "_law_draw" (defArgs s__law_draw) (defBody s__law_draw) (defScope s__law_draw) [] [] (He.fAd K ("_law_draw", none)) fd
  g__law_pick : mg "_law_pick" = some (.ref (He.ga K "_law_pick"))
  f__law_pick : ∃ fd, FunD K "_law_pick" "_law_pick" (defArgs s__law_pick) (defBody s__law_pick) (defScope s__law_pick) [] [] (He.fAd K ("_law_pick", none)) fd
  g__law_caught : mg "_law_caught" = some (.ref (He.ga K "_law_caught"))
  f__law_caught : ∃ fd, FunD K "_law_caught" "_law_caught" (defArgs s__law_caught) (defBody s__law_caught) (defScope s__law_caught) [] [] (He.fAd K ("_law_caught", none)) fd
  g__law_least_plan : mg "_law_least_plan" = some (.ref (He.ga K "_law_least_plan"))
  f__law_least_plan : ∃ fd, FunD K "_law_least_plan" "_law_least_plan" (defArgs s__law_least_plan) (defBody s__law_least_plan) (defScope s__law_least_plan) [] [] (He.fAd K ("_law_least_plan", none)) fd
  n_abs : mg "abs" = none
  n_bool : mg "bool" = none
  n_enumerate : mg "enumerate" = none
  n_int : mg "int" = none
  n_isinstance : mg "isinstance" = none
  n_len : mg "len" = none
  n_list : mg "list" = none
  n_max : mg "max" = none
  n_range : mg "range" = none
  n_tuple : mg "tuple" = none
  c_BadHues : ∃ u, mg "BadHues" = some u ∧ RelV (.ref (He.ga K "BadHues")) u
  c_BadVotes : ∃ u, mg "BadVotes" = some u ∧ RelV (.ref (He.ga K "BadVotes")) u
  c_BadWish : ∃ u, mg "BadWish" = some u ∧ RelV (.ref (He.ga K "BadWish")) u
  c_HueError : ∃ u, mg "HueError" = some u ∧ RelV (.ref (He.ga K "HueError")) u
  c_MOST_HUES_codes : ∃ u, mg "MOST_HUES_codes" = some u ∧ RelV (.int 5) u
  c_MOST_HUES_thresholds : ∃ u, mg "MOST_HUES_thresholds" = some u ∧ RelV (.int 5) u
  g_BadHues : mg "BadHues" = some (.ref (He.ga K "BadHues"))
  g_BadVotes : mg "BadVotes" = some (.ref (He.ga K "BadVotes"))
  g_BadWish : mg "BadWish" = some (.ref (He.ga K "BadWish"))
  g_HueError : mg "HueError" = some (.ref (He.ga K "HueError"))
  x_BadHues : PySem.W.excIn K (He.ga K "BadHues") He.veBase "ValueError.__new__" = true ∧ PySem.W.keepIn K (.ref (He.ga K "BadHues")) = true ∧ PySem.W.subIn K (.ref (He.ga K "BadHues")) (.type "BaseException") = some true ∧ PySem.W.typeIn K (.ref (He.ga K "BadHues")) = some (.type "type")
  xm_BadHues : PySem.W.exmOne K (.ref (He.ga K "BadHues")) (.ref (He.ga K "HueError")) = some true
  xc_BadHues : ExcC K (He.ga K "BadHues")
  x_BadVotes : PySem.W.excIn K (He.ga K "BadVotes") He.veBase "ValueError.__new__" = true ∧ PySem.W.keepIn K (.ref (He.ga K "BadVotes")) = true ∧ PySem.W.subIn K (.ref (He.ga K "BadVotes")) (.type "BaseException") = some true ∧ PySem.W.typeIn K (.ref (He.ga K "BadVotes")) = some (.type "type")
  xm_BadVotes : PySem.W.exmOne K (.ref (He.ga K "BadVotes")) (.ref (He.ga K "HueError")) = some true
  xc_BadVotes : ExcC K (He.ga K "BadVotes")
  x_BadWish : PySem.W.excIn K (He.ga K "BadWish") He.veBase "ValueError.__new__" = true ∧ PySem.W.keepIn K (.ref (He.ga K "BadWish")) = true ∧ PySem.W.subIn K (.ref (He.ga K "BadWish")) (.type "BaseException") = some true ∧ PySem.W.typeIn K (.ref (He.ga K "BadWish")) = some (.type "type")
  xm_BadWish : PySem.W.exmOne K (.ref (He.ga K "BadWish")) (.ref (He.ga K "HueError")) = some true
  xc_BadWish : ExcC K (He.ga K "BadWish")
  xk_BadWish_BadWish : PySem.W.kitOne K (.ref (He.ga K "BadWish")) (.ref (He.ga K "BadWish")) = some true
  xk_BadHues_BadHues : PySem.W.kitOne K (.ref (He.ga K "BadHues")) (.ref (He.ga K "BadHues")) = some true
  xk_BadVotes_BadVotes : PySem.W.kitOne K (.ref (He.ga K "BadVotes")) (.ref (He.ga K "BadVotes")) = some true
end Hw
namespace Hw
open PySem PySem.Spec PyProof.Rows L2 Dl
def fa : List He.Fa := [.glo "is_whole", .glo "is_votes", .glo "plan", .glo "even_votes", .glo "_law_begun", .glo "_law_mixed", .glo "_law_draw", .glo "_law_pick", .glo "_law_caught", .glo "_law_least_plan", .free "abs", .free "bool", .free "enumerate", .free "int", .free "isinstance", .free "len", .free "list", .free "max", .free "range", .free "tuple", .glo "BadHues", .glo "BadVotes", .glo "BadWish", .glo "HueError", .int "MOST_HUES_codes" 5, .int "MOST_HUES_thresholds" 5, .exc "BadHues", .exm "BadHues" "HueError" true, .exc "BadVotes", .exm "BadVotes" "HueError" true, .exc "BadWish", .exm "BadWish" "HueError" true, .glo "law"]
def dLaw : DefX := ⟨fun K => He.fAd K ("law", none), "law", "law", defArgs s_law, defBody s_law, defScope s_law, []⟩
def fn : List DefX := [⟨fun K => He.fAd K ("is_whole", none), "is_whole", "is_whole", defArgs s_is_whole, defBody s_is_whole, defScope s_is_whole, []⟩,
  ⟨fun K => He.fAd K ("is_votes", none), "is_votes", "is_votes", defArgs s_is_votes, defBody s_is_votes, defScope s_is_votes, []⟩,
  ⟨fun K => He.fAd K ("plan", none), "plan", "plan", defArgs s_plan, defBody s_plan, defScope s_plan, []⟩,
  ⟨fun K => He.fAd K ("even_votes", none), "even_votes", "even_votes", defArgs s_even_votes, defBody s_even_votes, defScope s_even_votes, []⟩,
  ⟨fun K => He.fAd K ("_law_begun", none), "_law_begun", "_law_begun", defArgs s__law_begun, defBody s__law_begun, defScope s__law_begun, []⟩,
  ⟨fun K => He.fAd K ("_law_mixed", none), "_law_mixed", "_law_mixed", defArgs s__law_mixed, defBody s__law_mixed, defScope s__law_mixed, []⟩,
  ⟨fun K => He.fAd K ("_law_draw", none), "_law_draw", "_law_draw", defArgs s__law_draw, defBody s__law_draw, defScope s__law_draw, []⟩,
  ⟨fun K => He.fAd K ("_law_pick", none), "_law_pick", "_law_pick", defArgs s__law_pick, defBody s__law_pick, defScope s__law_pick, []⟩,
  ⟨fun K => He.fAd K ("_law_caught", none), "_law_caught", "_law_caught", defArgs s__law_caught, defBody s__law_caught, defScope s__law_caught, []⟩,
  ⟨fun K => He.fAd K ("_law_least_plan", none), "_law_least_plan", "_law_least_plan", defArgs s__law_least_plan, defBody s__law_least_plan, defScope s__law_least_plan, []⟩,
  dLaw]
def ex (K : Frag) : Bool := (excCB K (He.ga K "BadHues")) && (excCB K (He.ga K "BadVotes")) && (excCB K (He.ga K "BadWish")) && (decide (PySem.W.kitOne K (.ref (He.ga K "BadWish")) (.ref (He.ga K "BadWish")) = some true)) && (decide (PySem.W.kitOne K (.ref (He.ga K "BadHues")) (.ref (He.ga K "BadHues")) = some true)) && (decide (PySem.W.kitOne K (.ref (He.ga K "BadVotes")) (.ref (He.ga K "BadVotes")) = some true))
section
variable {K : Frag} {h : Heap} {mg : Str → Option Value}
theorem tx (X : K.In h) (G : h.Ns mainGlobals mg) (c : SaysX fa fn ex K) : TX K mg := by
  have m := c.more
  simp only [ex, Bool.and_eq_true] at m
  obtain ⟨⟨⟨⟨⟨EX0, EX1⟩, EX2⟩, EX3⟩, EX4⟩, EX5⟩ := m
  exact ⟨He.glo_ok X G (c.fact 0 (f := .glo "is_whole") rfl),
    c.def_ 0 (d := fn.getD 0 ⟨fun _ => 0, "", "", defArgs s_is_whole, [], defScope s_is_whole, []⟩) rfl,
    He.glo_ok X G (c.fact 1 (f := .glo "is_votes") rfl),
    c.def_ 1 (d := fn.getD 1 ⟨fun _ => 0, "", "", defArgs s_is_votes, [], defScope s_is_votes, []⟩) rfl,
    He.glo_ok X G (c.fact 2 (f := .glo "plan") rfl),
    c.def_ 2 (d := fn.getD 2 ⟨fun _ => 0, "", "", defArgs s_plan, [], defScope s_plan, []⟩) rfl,
    He.glo_ok X G (c.fact 3 (f := .glo "even_votes") rfl),
    c.def_ 3 (d := fn.getD 3 ⟨fun _ => 0, "", "", defArgs s_even_votes, [], defScope s_even_votes, []⟩) rfl,
    He.glo_ok X G (c.fact 4 (f := .glo "_law_begun") rfl),
    c.def_ 4 (d := fn.getD 4 ⟨fun _ => 0, "", "", defArgs s__law_begun, [], defScope s__law_begun, []⟩) rfl,
    He.glo_ok X G (c.fact 5 (f := .glo "_law_mixed") rfl),
    c.def_ 5 (d := fn.getD 5 ⟨fun _ => 0, "", "", defArgs s__law_mixed, [], defScope s__law_mixed, []⟩) rfl,
    He.glo_ok X G (c.fact 6 (f := .glo "_law_draw") rfl),
    c.def_ 6 (d := fn.getD 6 ⟨fun _ => 0, "", "", defArgs s__law_draw, [], defScope s__law_draw, []⟩) rfl,
    He.glo_ok X G (c.fact 7 (f := .glo "_law_pick") rfl),
    c.def_ 7 (d := fn.getD 7 ⟨fun _ => 0, "", "", defArgs s__law_pick, [], defScope s__law_pick, []⟩) rfl,
    He.glo_ok X G (c.fact 8 (f := .glo "_law_caught") rfl),
    c.def_ 8 (d := fn.getD 8 ⟨fun _ => 0, "", "", defArgs s__law_caught, [], defScope s__law_caught, []⟩) rfl,
    He.glo_ok X G (c.fact 9 (f := .glo "_law_least_plan") rfl),
    c.def_ 9 (d := fn.getD 9 ⟨fun _ => 0, "", "", defArgs s__law_least_plan, [], defScope s__law_least_plan, []⟩) rfl,
    He.free_ok X G (c.fact 10 (f := .free "abs") rfl),
    He.free_ok X G (c.fact 11 (f := .free "bool") rfl),
    He.free_ok X G (c.fact 12 (f := .free "enumerate") rfl),
    He.free_ok X G (c.fact 13 (f := .free "int") rfl),
    He.free_ok X G (c.fact 14 (f := .free "isinstance") rfl),
    He.free_ok X G (c.fact 15 (f := .free "len") rfl),
    He.free_ok X G (c.fact 16 (f := .free "list") rfl),
    He.free_ok X G (c.fact 17 (f := .free "max") rfl),
    He.free_ok X G (c.fact 18 (f := .free "range") rfl),
    He.free_ok X G (c.fact 19 (f := .free "tuple") rfl),
    ⟨_, He.glo_ok X G (c.fact 20 (f := .glo "BadHues") rfl), rfl⟩,
    ⟨_, He.glo_ok X G (c.fact 21 (f := .glo "BadVotes") rfl), rfl⟩,
    ⟨_, He.glo_ok X G (c.fact 22 (f := .glo "BadWish") rfl), rfl⟩,
    ⟨_, He.glo_ok X G (c.fact 23 (f := .glo "HueError") rfl), rfl⟩,
    (let ⟨t, h⟩ := He.int_ok X G (c.fact 24 (f := .int "MOST_HUES_codes" 5) rfl); ⟨_, h, ⟨t, rfl⟩⟩),
    (let ⟨t, h⟩ := He.int_ok X G (c.fact 25 (f := .int "MOST_HUES_thresholds" 5) rfl); ⟨_, h, ⟨t, rfl⟩⟩),
    He.glo_ok X G (c.fact 20 (f := .glo "BadHues") rfl),
    He.glo_ok X G (c.fact 21 (f := .glo "BadVotes") rfl),
    He.glo_ok X G (c.fact 22 (f := .glo "BadWish") rfl),
    He.glo_ok X G (c.fact 23 (f := .glo "HueError") rfl),
    He.exc_ok (c.fact 26 (f := .exc "BadHues") rfl),
    He.exm_ok (c.fact 27 (f := .exm "BadHues" "HueError" true) rfl),
    excCB_ok EX0,
    He.exc_ok (c.fact 28 (f := .exc "BadVotes") rfl),
    He.exm_ok (c.fact 29 (f := .exm "BadVotes" "HueError" true) rfl),
    excCB_ok EX1,
    He.exc_ok (c.fact 30 (f := .exc "BadWish") rfl),
    He.exm_ok (c.fact 31 (f := .exm "BadWish" "HueError" true) rfl),
    excCB_ok EX2,
    of_decide_eq_true EX3,
    of_decide_eq_true EX4,
    of_decide_eq_true EX5⟩
end
abbrev Rr : PySem.W.OpenRow := PySem.W.OpenLaw.row PySem.Challenge.rw_hueward_k44_plans_are_the_least
abbrev hk : PySem.W.Hook := hookMT 6 fa fn [("law", none)] ex
def ob (s : PySem.W.SharedT) : AlT := obsMT 6 fa fn [("law", none)] ex (HandSHeadRun.getT s)
theorem ob_eq (s : PySem.W.SharedT) : ob s = hk.obs s.abs := obsMT_eq (HandSHeadRun.getT_eq s)
abbrev loose : List Str := (["HueError", "BadVotes", "BadWish", "BadHues", "is_whole", "MOST_HUES_codes", "is_votes", "MOST_HUES_thresholds", "plan", "even_votes", "_law_begun", "_law_mixed", "_law_draw", "_law_pick", "_law_caught", "_law_least_plan"] : List Str)
theorem run (w : World) : HandSHeadRun.RunEq Rr (PySem.W.view Rr.prog [21]) hk ob 20000 loose w := by
  intro os
  kernel_rfl
end Hw
section
open PySem PySem.W PySem.Calls PyProof.Rows
theorem Hw.fin (F : Dl.FinGT PySem.Challenge.rw_hueward_k44_plans_are_the_least Hw.hk.says (HandSHeadRun.topDef (OpenLaw.row PySem.Challenge.rw_hueward_k44_plans_are_the_least).prog 21).name 63 6 "_law_script") : PySem.Challenge.rw_hueward_k44_plans_are_the_least.Holds := by
  w_on; o_law
  refine HandSHeadRun.head_any (r := OpenLaw.row PySem.Challenge.rw_hueward_k44_plans_are_the_least) (q := view (OpenLaw.row PySem.Challenge.rw_hueward_k44_plans_are_the_least).prog [21]) (H := Hw.hk) (ob := Hw.ob) (M := 20000) (loose := Hw.loose) (d := HandSHeadRun.topDef (OpenLaw.row PySem.Challenge.rw_hueward_k44_plans_are_the_least).prog 21) (kwd := []) Hw.ob_eq
    (by kernel_rfl) (fun s => by kernel_rfl) Hw.run (by kernel_rfl) (by kernel_rfl) (by kernel_rfl) (by rfl) (by first | assumption | decide +kernel) (by decide +kernel) ⟨rfl, rfl, rfl, rfl, rfl, by decide +kernel⟩ ?hw ?hc
  case hw => w_witness2
  case hc => exact Dl.walk_ofGT (l := PySem.Challenge.rw_hueward_k44_plans_are_the_least) (n := 63) (k := 6) (x := "_law_script") rfl (by decide) (by kernel_rfl) ⟨⟨rfl, by decide, by decide⟩, rfl⟩ F
end
namespace Hw
open PySem PySem.Spec PyProof.Rows L2 Dl
def lN : List Str := ["great", "cells", "rest", "turn"]
def pst (a g : Addr) (gr cs : List Int) (rest turn : Int) : Res := star (.ref a) [(g, .lst ((iL gr).map .dat)), (a, .dS lN [.raw (.ref g), .dat (.list (iL cs)), .dat (.int rest), .dat (.int turn)])]
def PS (t : Nat) (r : Res) : Prop := ∃ a g gr cs rest turn, r = pst a g gr cs rest turn ∧ 0 ≤ turn ∧ turn ≤ t ∧ cs.length ≤ 63
def F__law_begun (K : Frag) : FSpec := fun args k => ∃ (ns : List Int) (s : Sl), ns.length ≤ 63 ∧ Scr K ns s ∧ args = [s] ∧ ∀ r, PS 0 r → k (.res r) args
def F__law_mixed (_ : Frag) : FSpec := fun args k => ∃ a g gr cs rest turn, (0 ≤ turn ∧ turn < 2000000) ∧ args = [.res (pst a g gr cs rest turn)] ∧ ∀ n : Int, k (.dat (.int n)) [.res (pst a g gr cs rest (turn + 1))]
def F__law_draw (_ : Frag) : FSpec := fun args k => ∃ (r : Res) (t : Nat) (room : Int), PS t r ∧ t < 1000000 ∧ (0 < room ∧ room < 1073741824) ∧ args = [.res r, .dat (.int room)] ∧ ∀ (n : Int) r', r'.v = r.v → PS (t + 1) r' → 0 ≤ n → n < room → k (.dat (.int n)) [.res r', .dat (.int room)]
def rawsR (S : Addr) (us : List V) : Res := star (.ref S) [(S, .lst (us.map .raw))]
def F__law_pick (_ : Frag) : FSpec := fun args k => (∃ (r : Res) (t : Nat) (ds : List PyData), PS t r ∧ t < 1000000 ∧ (0 < ds.length ∧ ds.length < 1000) ∧ args = [.res r, .dat (.list ds)] ∧ ∀ d r', r'.v = r.v → PS (t + 1) r' → d ∈ ds → k (.dat d) [.res r', .dat (.list ds)]) ∨
  ∃ (r : Res) (t : Nat) (S : Addr) (us : List V), PS t r ∧ t < 1000000 ∧ (0 < us.length ∧ us.length < 1000) ∧ args = [.res r, .res (rawsR S us)] ∧ ∀ (i : Nat) u r', r'.v = r.v → PS (t + 1) r' → us[i]? = some u → k (.raw u) [.res r', .res (rawsR S us)]
theorem n__law_pick {K : Frag} : ∀ args k, F__law_pick K args k → args.length = 2 := by
  rintro args k (⟨_, _, _, _, _, _, h, _⟩ | ⟨_, _, _, _, _, _, _, h, _⟩) <;> rw [h] <;> rfl
theorem b_yesD {K : Frag} {Γ : List Sl} {kb : Bool → List Sl → Prop} (h : kb true Γ) : EvB K tYes Γ kb := fun σ S H fs Q w P => P true Γ S H fs h w Step.refl
end Hw
namespace Hw
open PySem PySem.Spec PyProof.Rows L2 Dl
def t__law_begun (K : Frag) : TS := (tSeq (tAsg (tLc (iSq K (tVar 0)) (gName 2) (tTest (tOp (uGe K) (tCB (rAbs K) (tCons (tVar 2) tNil)) (tOp (uPow K) (tC (.int 10)) (tC (.int 18))))) (tOp (uSub K) (tCB (rAbs K) (tCons (tVar 2) tNil)) (tOp (uPow K) (tC (.int 10)) (tC (.int 18)))) [2]) (gName 1)) (tRet (tDisp (((tC (.str (PySem.Str.ofString "great"))), (tVar 1)) :: (((tC (.str (PySem.Str.ofString "cells"))), (tLc (iSq K (tVar 0)) (gName 2) tYes (tCB (rAbs K) (tCons (tVar 2) tNil)) [2])) :: (((tC (.str (PySem.Str.ofString "rest"))), (tC (.int 0))) :: (((tC (.str (PySem.Str.ofString "turn"))), (tC (.int 0))) :: [])))))))
theorem n__law_begun {K : Frag} : ∀ args k, F__law_begun K args k → args.length = 1 := by
  intro args k h
  simp only [F__law_begun, pD] at h
  all_goals first
    | (exact False.elim h)
    | (repeat (obtain ⟨_, h⟩ := h)
       subst_vars
       rfl)
def t__law_mixed (K : Frag) : TS := (tSeq (tPar 2 3 (tCons (tOp (uAdd K) (tDGet (tVar 0) (tC (.str (PySem.Str.ofString "turn")))) (tC (.int 1))) (tCons (tC (.int 0)) tNil))) (tSeq (sDPut (tVar 0) (tC (.str (PySem.Str.ofString "turn"))) (tVar 2)) (tSeq (tFor (iSq K (tLst (tCons (tC (.int 2147483629)) (tCons (tC (.int 2147483647)) (tCons (tC (.int 2147483563)) (tCons (tC (.int 2147483587)) tNil)))))) (gName 1) (tSeq (tAsg (tOp (uAdd K) (tOp (uMul K) (tC (.int 69621)) (tVar 2)) (tOp (uFDiv K) (tVar 1) (tC (.int 41)))) (gName 4)) (tSeq (tFor (iSq K (tDGet (tVar 0) (tC (.str (PySem.Str.ofString "cells"))))) (gName 5) (tAsg (tOp (uMod K) (tCB (rInt1 K) (tCons (tOp (uAdd K) (tOp (uAdd K) (tOp (uMul K) (tVar 4) (tC (.int 48271))) (tVar 5)) (tVar 2)) tNil)) (tVar 1)) (gName 4))) (tAsg (tOp (uAdd K) (tOp (uMul K) (tVar 3) (tC (.int 2147483659))) (tOp (uMod K) (tCB (rInt1 K) (tCons (tOp (uPow K) (tVar 4) (tC (.int 5))) tNil)) (tVar 1))) (gName 3))))) (tRet (tVar 3)))))
theorem n__law_mixed {K : Frag} : ∀ args k, F__law_mixed K args k → args.length = 1 := by
  intro args k h
  simp only [F__law_mixed, pD] at h
  all_goals first
    | (exact False.elim h)
    | (repeat (obtain ⟨_, h⟩ := h)
       subst_vars
       rfl)
def t__law_draw (K : Frag) : TS := (tSeq (tIfS (tTest (tOp (uEq K) (tDGet (tVar 0) (tC (.str (PySem.Str.ofString "rest")))) (tC (.int 0)))) (sDPut (tVar 0) (tC (.str (PySem.Str.ofString "rest"))) (tIf (tTest (tOp (uNe K) (tDGet (tVar 0) (tC (.str (PySem.Str.ofString "great")))) (tLst tNil))) (tBM K "list" rPopAt (tDGet (tVar 0) (tC (.str (PySem.Str.ofString "great")))) (tCons (tC (.int 0)) tNil)) (tCallR 0 (spOf K (F__law_mixed K)) E0 (tCons (tVar 0) tNil)))) tNext) (tSeq (tAsg (tOp (uMod K) (tCB (rInt1 K) (tCons (tDGet (tVar 0) (tC (.str (PySem.Str.ofString "rest")))) tNil)) (tVar 1)) (gName 2)) (tSeq (sDPut (tVar 0) (tC (.str (PySem.Str.ofString "rest"))) (tOp (uFDiv K) (tDGet (tVar 0) (tC (.str (PySem.Str.ofString "rest")))) (tVar 1))) (tRet (tVar 2)))))
theorem n__law_draw {K : Frag} : ∀ args k, F__law_draw K args k → args.length = 2 := by
  intro args k h
  simp only [F__law_draw, pD] at h
  all_goals first
    | (exact False.elim h)
    | (repeat (obtain ⟨_, h⟩ := h)
       subst_vars
       rfl)
def t__law_pick (K : Frag) : TS := (tRet (tOp (uIx K) (tVar 1) (tCallR 0 (spOf K (F__law_draw K)) E0 (tCons (tVar 0) (tCons (tCB (Dl.rLen K) (tCons (tVar 1) tNil)) tNil)))))
end Hw
namespace Hw
open PySem PySem.Spec PyProof.Rows L2 Dl
local macro_rules | `(tactic| walk_at "dbt") => `(tactic| first | assumption | rfl | (decide +kernel) | (simp [isFromD, *]; done) | (simp [isFromD, *]; omega))
local macro_rules | `(tactic| walk_at "d1") => `(tactic| first
  | with_reducible refine x_seq ?_ | with_reducible refine x_if' ?_ | with_reducible refine x_ret ?_ | with_reducible refine x_asg ?_ | with_reducible refine x_next ?_ | with_reducible refine x_expr ?_
  | with_reducible refine e_isi2 (by decide) (by decide) ?_
  | with_reducible refine e_dat rfl ?_ | with_reducible refine e_int ?_ | with_reducible refine e_str ?_ | with_reducible refine e_bl ?_ | with_reducible refine e_non ?_ | with_reducible refine e_op ?_ | with_reducible refine e_cb ?_ | with_reducible refine e_call ?_
  | with_reducible refine a_cons ?_ | with_reducible refine a_nil ?_
  | with_reducible refine b_test ?_ | with_reducible refine b_not ?_ | with_reducible refine b_and' ?_ | with_reducible refine b_or' ?_ | with_reducible refine b_tru ?_
  | with_reducible refine e_andV' ?_ | with_reducible refine e_orV' ?_ | with_reducible refine e_notV ?_ | with_reducible refine e_chain' ?_ | with_reducible refine e_if' ?_ | with_reducible refine e_c ?_ | with_reducible refine e_sl ?_ | with_reducible refine o_no ?_ | with_reducible refine o_some ?_ | with_reducible refine e_neg ?_
  | with_reducible refine e_raw rfl ?_ | with_reducible refine e_res rfl ?_ | with_reducible refine g_name ?_
  | with_reducible refine op_add_i ?_ | with_reducible refine op_sub_i ?_ | with_reducible refine op_lt_i ?_ | with_reducible refine op_le_i ?_ | with_reducible refine op_gt_i ?_ | with_reducible refine op_ge_i ?_ | with_reducible refine op_isnone ?_ | with_reducible refine op_notnone ?_
  | with_reducible refine cb_isi (by decide) ?_ | with_reducible refine cb_max2 ?_ | with_reducible refine cb_min2 ?_ | with_reducible refine cb_abs ?_ | with_reducible refine cb_int ?_ | with_reducible refine cb_len rfl ?_
  | with_reducible refine iteT ?_ | with_reducible refine iteF ?_ | ((with_reducible refine iT ?_ ?_); focus (walk_at "dbt"; done)) | ((with_reducible refine iF ?_ ?_); focus (walk_at "dbt"; done))
  | ((with_reducible refine g_tup ?_ ?_); (focus rfl)) | with_reducible refine gs_cons ?_ | with_reducible refine gs_nil ?_
  | with_reducible refine e_tup' ?_ | with_reducible refine e_lst' ?_ | with_reducible refine op_in2 ?_ | with_reducible refine op_ni3 ?_
  | with_reducible refine op_eq_ii ?_ | with_reducible refine op_ne_ii ?_ | ((with_reducible refine op_eq_ss ?_ ?_ ?_); (focus (decide +kernel)); (focus (decide +kernel))) | ((with_reducible refine op_ne_ss ?_ ?_ ?_); (focus (decide +kernel)); (focus (decide +kernel)))
  | ((with_reducible refine op_eq_d ?_ ?_ ?_); (focus (walk_at "dbt")); (focus (walk_at "dbt")))
  | ((with_reducible refine op_ne_d ?_ ?_ ?_); (focus (walk_at "dbt")); (focus (walk_at "dbt")))
  | ((with_reducible refine op_ix' ?_); refine Exists.intro _ (Exists.intro _ (And.intro rfl (And.intro rfl ?_))))
  | ((with_reducible refine op_mul_il ?_ ?_); (focus (decide +kernel))) | ((with_reducible refine op_mul_ir ?_ ?_); (focus (decide +kernel)))
  | ((with_reducible refine And.intro (a := smallL _ = true) ?_ ?_); (focus rfl)) | ((with_reducible refine And.intro (a := Pers _) ?_ ?_); (focus trivial)) | with_reducible refine d_cons ?_ | with_reducible refine d_nil ?_
  | (with_reducible refine Exists.intro _ (And.intro rfl ?_)) | (with_reducible refine Exists.intro _ (Exists.intro _ (And.intro rfl (And.intro rfl ?_)))) | refine Exists.intro _ (And.intro rfl (And.intro (by rfl) ?_)) | refine Exists.intro _ (Exists.intro _ (And.intro rfl (And.intro rfl ?_))) | with_reducible refine dat_ok ?_ | dsimp only | fail)
section
variable {K : Frag} {Γ : List Sl} {k : Sl → List Sl → Prop} {O : Out}
theorem PS.mono {t t' : Nat} {r : Res} (h : PS t r) (l : t ≤ t') : PS t' r := by
  obtain ⟨a, g, gr, cs, rest, turn, h1, h2, h3, h4⟩ := h
  exact ⟨a, g, gr, cs, rest, turn, h1, h2, by omega, h4⟩
theorem st_get {j q : Nat} {a g : Addr} {gr cs : List Int} {rest turn : Int} {f : Str} {u : Sl} (hj : Γ[j]? = some (.res (pst a g gr cs rest turn))) (h1 : lN[q]? = some f)
    (h2 : ([.raw (.ref g), .dat (.list (iL cs)), .dat (.int rest), .dat (.int turn)] : List Sl)[q]? = some u) (hk : k u Γ) : EvP K (tDGet (tVar j) (tC (.str f))) Γ k :=
  e_dgetC j 1 q (e_res hj (e_str ⟨_, _, _, _, _, _, u, rfl, rfl, hj, rfl, h1, h2, hk⟩))
theorem st_great {j : Nat} {a g : Addr} {gr cs : List Int} {rest turn : Int} (hj : Γ[j]? = some (.res (pst a g gr cs rest turn))) (hk : k (.raw (.ref g)) Γ) : EvP K (tDGet (tVar j) (tC (.str "great"))) Γ k := st_get (q := 0) hj rfl rfl hk
theorem st_cells {j : Nat} {a g : Addr} {gr cs : List Int} {rest turn : Int} (hj : Γ[j]? = some (.res (pst a g gr cs rest turn))) (hk : k (.dat (.list (iL cs))) Γ) : EvP K (tDGet (tVar j) (tC (.str "cells"))) Γ k := st_get (q := 1) hj rfl rfl hk
theorem st_rest {j : Nat} {a g : Addr} {gr cs : List Int} {rest turn : Int} (hj : Γ[j]? = some (.res (pst a g gr cs rest turn))) (hk : k (.dat (.int rest)) Γ) : EvP K (tDGet (tVar j) (tC (.str "rest"))) Γ k := st_get (q := 2) hj rfl rfl hk
theorem st_turn {j : Nat} {a g : Addr} {gr cs : List Int} {rest turn : Int} (hj : Γ[j]? = some (.res (pst a g gr cs rest turn))) (hk : k (.dat (.int turn)) Γ) : EvP K (tDGet (tVar j) (tC (.str "turn"))) Γ k := st_get (q := 3) hj rfl rfl hk
theorem st_setTurn {j : Nat} {te : TE} (h : EvP K te Γ fun s Γ1 => ∃ a g gr cs rest turn n, s = .dat (.int n) ∧ Γ1[j]? = some (.res (pst a g gr cs rest turn)) ∧ O.nx (Γ1.set j (.res (pst a g gr cs rest n)))) : ExS K (sDPut (tVar j) (tC (.str "turn")) te) Γ O :=
  x_dputC j 1 3 (h.mono fun s Γ1 ⟨a, g, gr, cs, rest, turn, n, e, hj, ho⟩ => ⟨by rw [e]; trivial, e_res hj (e_str ⟨_, _, _, _, _, _, rfl, rfl, hj, rfl, rfl, by decide, by subst e; exact ho⟩)⟩)
theorem st_setRest {j : Nat} {te : TE} (h : EvP K te Γ fun s Γ1 => ∃ a g gr cs rest turn n, s = .dat (.int n) ∧ Γ1[j]? = some (.res (pst a g gr cs rest turn)) ∧ O.nx (Γ1.set j (.res (pst a g gr cs n turn)))) : ExS K (sDPut (tVar j) (tC (.str "rest")) te) Γ O :=
  x_dputC j 1 2 (h.mono fun s Γ1 ⟨a, g, gr, cs, rest, turn, n, e, hj, ho⟩ => ⟨by rw [e]; trivial, e_res hj (e_str ⟨_, _, _, _, _, _, rfl, rfl, hj, rfl, rfl, by decide, by subst e; exact ho⟩)⟩)
local macro_rules | `(tactic| walk_at "d1") => `(tactic| first | with_reducible refine e_callR ?_ | with_reducible refine st_great rfl ?_ | with_reducible refine st_cells rfl ?_ | with_reducible refine st_rest rfl ?_ | with_reducible refine st_turn rfl ?_ | ((with_reducible refine op_pow_i ?_ ?_); (focus (exact ⟨by decide, by decide, by decide⟩))) | with_reducible refine op_mod_i (by omega) ?_ | with_reducible refine op_fdiv_i (by omega) ?_)
theorem b__law_begun : ∀ args k, F__law_begun K args k → ExS K (t__law_begun K) (args ++ List.replicate (3 - args.length) .no) (fnOut args k) := by
  rintro args k ⟨ns, s0, hl0, hs0, rfl, hk⟩
  show ExS K _ [s0, .no, .no] _
  unfold t__law_begun
  refine x_seq (x_asg (e_lcS (sets_name (by simp)) gm_name (i_scr (ns := ns) (e_scr hs0 rfl ⟨hs0, fun hz ff hff => ?_⟩))))
  refine ⟨fun i acc Γ => ∃ gs : List Int, acc = (iL gs).map .dat ∧ Γ = [s0, .no, .no], hz, ⟨[], rfl, rfl⟩, fun _ _ _ _ _ => trivial, ?_, ?_⟩
  · rintro i acc Γ hi hl ⟨gs, rfl, hΓ⟩
    rw [hΓ, hff i hi]
    generalize ns.getD i 0 = v
    refine g_name ?_
    repeat' walk_at "d1"
    refine ⟨fun _ => ?_, fun _ => ⟨gs, rfl, rfl⟩⟩
    repeat' walk_at "d1"
    refine ⟨gs ++ [((if v < 0 then -v else v) - 10 ^ Int.toNat 18)], ?_, rfl⟩
    unfold iL
    rw [List.map_append, List.map_append]
    rfl
  · rintro acc Γ hl ⟨gs, rfl, hΓ⟩ D
    rw [hΓ]
    refine g_name (x_ret (e_moveP 1 (e_absorb 1 (e_disp ?_))))
    repeat' walk_at "d1"
    refine e_lcScr (ns := ns) (fun _ => true) (fun v => .int (if v < 0 then -v else v)) (e_scr hs0 rfl ⟨hs0, ?_⟩)
    refine ⟨fun x hx => ?_, ?_⟩
    · refine b_yesD ⟨rfl, ?_⟩
      rw [if_pos rfl]
      repeat' walk_at "d1"
      exact ⟨rfl, rfl⟩
    repeat' walk_at "d1"
    refine ⟨by decide, by decide, fun p => ?_⟩
    have ec : (ns.filter fun _ => true).map (fun v => PyData.int (if v < 0 then -v else v)) = iL (ns.map fun v => if v < 0 then -v else v) := by
      rw [List.filter_eq_self.mpr (fun _ _ => rfl)]
      unfold iL
      rw [List.map_map]
      rfl
    rw [ec]
    refine ⟨_, _, _, _, rfl, cells_star, rfl, _, _, rfl, rfl, _, hk _ ⟨p, D, gs, _, 0, 0, rfl, by decide, by decide, ?_⟩, keep_scr hs0⟩
    rw [List.length_map]
    exact hl0
theorem b__law_mixed : ∀ args k, F__law_mixed K args k → ExS K (t__law_mixed K) (args ++ List.replicate (6 - args.length) .no) (fnOut args k) := by
  rintro args k ⟨a, g, gr, cs, rest, turn, ⟨ht0, ht1⟩, rfl, hk⟩
  show ExS K _ [.res (pst a g gr cs rest turn), .no, .no, .no, .no, .no] _
  unfold t__law_mixed
  refine x_seq (x_par (by decide) ?_)
  repeat' walk_at "d1"
  refine ⟨_, _, rfl, ?_⟩
  repeat' walk_at "d1"
  refine st_setTurn ?_
  repeat' walk_at "d1"
  refine ⟨_, _, _, _, _, _, _, rfl, rfl, ?_⟩
  refine x_seq (x_for (i_sq ?_))
  repeat' walk_at "d1"
  intro hz
  refine ⟨fun i Γ => ∃ (x : Sl) (f : Int) (y z : Sl), Γ = [.res (pst a g gr cs rest (turn + 1)), x, .dat (.int (turn + 1)), .dat (.int f), y, z], ⟨_, _, _, _, rfl⟩, fun _ _ _ _ => trivial, ?_, ?_⟩
  · rintro i Γ hi ⟨x, f, y, z, rfl⟩
    obtain ⟨pr, hpr, hp0, hp1⟩ : ∃ pr : Int, ([PyData.int 2147483629, .int 2147483647, .int 2147483563, .int 2147483587].getD i .none) = .int pr ∧ 0 < pr ∧ pr < 2147483648 := by
      match i, hi with
      | 0, _ => exact ⟨_, rfl, by decide, by decide⟩
      | 1, _ => exact ⟨_, rfl, by decide, by decide⟩
      | 2, _ => exact ⟨_, rfl, by decide, by decide⟩
      | 3, _ => exact ⟨_, rfl, by decide, by decide⟩
      | n + 4, h => exact absurd h (by simp)
    show EvG K (gName 1) (.dat ([PyData.int 2147483629, .int 2147483647, .int 2147483563, .int 2147483587].getD i .none)) _ _
    rw [hpr]
    refine g_name ?_
    repeat' walk_at "d1"
    refine x_for (i_sq ?_)
    repeat' walk_at "d1"
    intro hz2
    refine ⟨fun i Γ => ∃ (bl : Int) (z : Sl), (-10000000000000 < bl ∧ bl < 10000000000000) ∧ Γ = [.res (pst a g gr cs rest (turn + 1)), .dat (.int pr), .dat (.int (turn + 1)), .dat (.int f), .dat (.int bl), z], ⟨_, _, ?_, rfl⟩, fun _ _ _ _ => trivial, ?_, ?_⟩
    · constructor <;> omega
    · rintro j Γ hj ⟨bl, z, hb, rfl⟩
      have hln : (iL cs).length = cs.length := List.length_map ..
      obtain ⟨c, hc⟩ : ∃ c, cs[j]? = some c := ⟨_, List.getElem?_eq_getElem (by omega)⟩
      have hd : (iL cs).getD j .none = .int c := by
        rw [List.getD_eq_getElem?_getD, iL, List.getElem?_map, hc]; rfl
      show EvG K (gName 5) (.dat ((iL cs).getD j .none)) _ _
      rw [hd]
      refine g_name ?_
      repeat' walk_at "d1"
      refine ⟨_, _, ?_, rfl⟩
      have e0 := Int.emod_nonneg (bl * 48271 + c + (turn + 1)) (b := pr) (by omega)
      have e1 := Int.emod_lt_of_pos (bl * 48271 + c + (turn + 1)) hp0
      constructor <;> omega
    · rintro Γ ⟨bl, z, hb, rfl⟩
      repeat' walk_at "d1"
      refine op_pow_i ⟨by decide, by decide, by omega⟩ ?_
      repeat' walk_at "d1"
      exact ⟨_, _, _, _, rfl⟩
  · rintro Γ ⟨x, f, y, z, rfl⟩
    repeat' walk_at "d1"
    exact ⟨_, hk f, .res rfl .nil⟩
theorem u__law_mixed {a g : Addr} {gr cs : List Int} {rest turn : Int} {k : Sl → List Sl → Prop} (ht : 0 ≤ turn ∧ turn < 2000000) (hk : ∀ n : Int, k (.dat (.int n)) [.res (pst a g gr cs rest (turn + 1))]) : F__law_mixed K [.res (pst a g gr cs rest turn)] k := ⟨a, g, gr, cs, rest, turn, ht, rfl, hk⟩
theorem b__law_draw : ∀ args k, F__law_draw K args k → ExS K (t__law_draw K) (args ++ List.replicate (3 - args.length) .no) (fnOut args k) := by
  rintro args k ⟨r, t, room, ⟨a, g, gr, cs, rest, turn, rfl, ht0, ht1, hcs⟩, ht, ⟨hr0, hr1⟩, rfl, hk⟩
  show ExS K _ [.res (pst a g gr cs rest turn), .dat (.int room), .no] _
  unfold t__law_draw
  refine x_seq ?_
  have fin : ∀ gr' rest' turn', 0 ≤ turn' → turn' ≤ ((t + 1 : Nat) : Int) → ExS K (tSeq (tAsg (tOp (uMod K) (tCB (rInt1 K) (tCons (tDGet (tVar 0) (tC (.str (PySem.Str.ofString "rest")))) tNil)) (tVar 1)) (gName 2)) (tSeq (sDPut (tVar 0) (tC (.str (PySem.Str.ofString "rest"))) (tOp (uFDiv K) (tDGet (tVar 0) (tC (.str (PySem.Str.ofString "rest")))) (tVar 1))) (tRet (tVar 2)))) [.res (pst a g gr' cs rest' turn'), .dat (.int room), .no] (fnOut [.res (pst a g gr cs rest turn), .dat (.int room)] k) := by
    intro gr' rest' turn' h0 h1
    repeat' walk_at "d1"
    refine st_setRest ?_
    repeat' walk_at "d1"
    refine ⟨_, _, _, _, _, _, _, rfl, rfl, ?_⟩
    repeat' walk_at "d1"
    exact ⟨_, hk (rest' % room) (pst a g gr' cs (rest' / room) turn') rfl ⟨a, g, gr', cs, _, turn', rfl, h0, h1, hcs⟩ (Int.emod_nonneg _ (by omega)) (Int.emod_lt_of_pos _ hr0), .res rfl (.dat .nil)⟩
  refine x_if' ?_
  repeat' walk_at "d1"
  refine iteB (fun _ => ?_) (fun _ => x_next (fin gr rest turn ht0 (by omega)))
  refine st_setRest ?_
  repeat' walk_at "d1"
  refine op_neC (ds := iL gr) (.s 0 0 rfl rfl) (shaped_list shp_ints) (by decide +kernel) ?_
  cases gr with
  | nil =>
    refine ⟨false, rfl, ?_⟩
    repeat' walk_at "d1"
    refine u__law_mixed ⟨ht0, by omega⟩ fun n => ⟨_, rfl, rfl, rfl, ?_⟩
    repeat' walk_at "d1"
    exact ⟨_, _, _, _, _, _, _, rfl, rfl, fin [] n (turn + 1) (by omega) (by omega)⟩
  | cons n rs =>
    refine ⟨true, rfl, ?_⟩
    repeat' walk_at "d1"
    refine e_pop0C 0 0 (st_great rfl ⟨_, rfl, ⟨_, _, _, rfl, rfl⟩, ?_⟩)
    repeat' walk_at "d1"
    exact ⟨_, _, .dat (.int n), (iL rs).map .dat, rfl, rfl, rfl, _, _, _, _, _, _, _, rfl, rfl, fin rs n turn ht0 (by omega)⟩
theorem u__law_draw {r : Res} {t : Nat} {room : Int} {k : Sl → List Sl → Prop} (h : PS t r) (ht : t < 1000000) (hr : 0 < room ∧ room < 1073741824) (hk : ∀ (n : Int) r', r'.v = r.v → PS (t + 1) r' → 0 ≤ n → n < room → k (.dat (.int n)) [.res r', .dat (.int room)]) : F__law_draw K [.res r, .dat (.int room)] k := ⟨r, t, room, h, ht, hr, rfl, hk⟩
theorem b__law_pick : ∀ args k, F__law_pick K args k → ExS K (t__law_pick K) (args ++ List.replicate (2 - args.length) .no) (fnOut args k) := by
  rintro args k (⟨r, t, ds, h, ht, ⟨hd0, hd1⟩, rfl, hk⟩ | ⟨r, t, S, us, h, ht, ⟨hd0, hd1⟩, rfl, hk⟩)
  · show ExS K _ [.res r, .dat (.list ds)] _
    unfold t__law_pick
    repeat' walk_at "d1"
    refine u__law_draw h ht ⟨by omega, by omega⟩ fun n r' hv hp h0 h1 => ⟨_, rfl, hv, rfl, ?_⟩
    have hlt : n.toNat < ds.length := by omega
    repeat' walk_at "d1"
    refine op_ix_d (d' := ds[n.toNat]'hlt) rfl ?_ ?_
    · unfold atI ixN
      rw [if_pos h0, if_pos h1]
      exact List.getElem?_eq_getElem hlt
    · exact ⟨_, hk _ r' hv hp (List.getElem_mem hlt), .res hv (.dat .nil)⟩
  · show ExS K _ [.res r, .res (rawsR S us)] _
    unfold t__law_pick
    have hl : (us.map Sl.raw).length = us.length := List.length_map ..
    refine x_ret (e_op (e_res rfl (e_callR (a_cons (e_res rfl (a_cons ?_))))))
    refine e_cb (a_cons (e_res rfl (a_nil (cb_lenC (HasL.s 1 0 rfl rfl) (a_nil ⟨r, _, rfl, rfl, ?_⟩)))))
    refine u__law_draw h ht ⟨by omega, by omega⟩ fun n r' hv hp h0 h1 => ⟨_, rfl, hv, rfl, ?_⟩
    have hlt : n.toNat < us.length := by omega
    refine op_ixL (u := .raw (us[n.toNat]'hlt)) (HasL.s 1 0 rfl rfl) ?_ ?_
    · unfold atI ixN
      rw [if_pos h0, if_pos h1]
      show (us.map Sl.raw)[n.toNat]? = _
      rw [List.getElem?_map, List.getElem?_eq_getElem hlt]
      rfl
    · exact ⟨_, hk n.toNat _ r' hv hp (List.getElem?_eq_getElem hlt), .res hv (.res rfl .nil)⟩
theorem u__law_pick {r : Res} {t : Nat} {ds : List PyData} {k : Sl → List Sl → Prop} (h : PS t r) (ht : t < 1000000) (hd : 0 < ds.length ∧ ds.length < 1000) (hk : ∀ d r', r'.v = r.v → PS (t + 1) r' → d ∈ ds → k (.dat d) [.res r', .dat (.list ds)]) : F__law_pick K [.res r, .dat (.list ds)] k := .inl ⟨r, t, ds, h, ht, hd, rfl, hk⟩
theorem u__law_begun {ns : List Int} {s : Sl} {k : Sl → List Sl → Prop} (hl : ns.length ≤ 63) (hs : Scr K ns s) (hk : ∀ r, PS 0 r → k (.res r) [s]) : F__law_begun K [s] k := ⟨ns, s, hl, hs, rfl, hk⟩
end
end Hw
namespace Hw
open PySem PySem.Spec PyProof.Rows L2 Dl
def isWholeD (d : PyData) : Bool := isT "int" d && !isT "bool" d
def isFromD (d : PyData) (lo hi : Int) : Bool := match d with
  | .int n => decide (lo ≤ n) && decide (n ≤ hi)
  | _ => false
def wishD (d : PyData) : Bool := match d with
  | .int i => decide (0 ≤ i) && decide (i ≤ 4)
  | _ => false
def huesD (d : PyData) : Bool := match d with
  | .int i => decide (1 ≤ i) && decide (i ≤ 5)
  | _ => false
def planD (a b : Int) : PyData := if (max a b + 1) + b ≤ 5 then .tuple [.int ((max a b + 1) + b), .int (max a b + 1)] else .none
def evens (h n : Int) : List Int := (List.range h.toNat).map fun (i : Nat) => max (((i : Int) + 1) / 2 + 1) ((i : Int) + 1 - (h - n))
def goodHN (h n : Int) : Prop := (1 ≤ h ∧ h ≤ 5) ∧ n ≤ h ∧ h < 2 * n
def needD (h : Int) (d : PyData) : Bool := match d with
  | .int n => decide (n ≤ h) && decide (h < 2 * n)
  | _ => false
def F_is_whole (_ : Frag) : FSpec := fun args k => ∃ d, pD args k [d] (.bool (isWholeD d))
def F_is_votes (_ : Frag) : FSpec := fun args k => ∃ vs, votesOk vs ∧ pD args k [.tuple (iL vs)] (.bool true)
def F_plan (_ : Frag) : FSpec := fun args k => ∃ a b : Int, (0 ≤ a ∧ a ≤ 4) ∧ (0 ≤ b ∧ b ≤ 4) ∧ pD args k [.int a, .int b] (planD a b)
def R_plan (K : Frag) : XSpec := fun args kx => ∃ a b : PyData, (wishD a && wishD b) = false ∧ args = [.dat a, .dat b] ∧ kx (.ref (He.ga K "BadWish")) args
def F_even_votes (_ : Frag) : FSpec := fun args k => ∃ h n : Int, goodHN h n ∧ pD args k [.int h, .int n] (.tuple (iL (evens h n)))
def evenBad (K : Frag) (a b : PyData) (C : Value) : Prop := (huesD a = false ∧ C = .ref (He.ga K "BadHues")) ∨ ∃ h : Int, a = .int h ∧ huesD a = true ∧ needD h b = false ∧ C = .ref (He.ga K "BadVotes")
def R_even_votes (K : Frag) : XSpec := fun args kx => ∃ (a b : PyData) (C : Value), evenBad K a b C ∧ args = [.dat a, .dat b] ∧ kx C args
def F__law_least_plan (_ : Frag) : FSpec := fun args k => ∃ a b : Int, (0 ≤ a ∧ a ≤ 4) ∧ (0 ≤ b ∧ b ≤ 4) ∧ pD args k [.int a, .int b] (planD a b)
def F_law (K : Frag) : FSpec := fun args k => ∃ (ns : List Int) (s : Sl), ns.length ≤ 63 ∧ ScrT K ns (He.cT K ("law", none)).2 (PySem.Str.ofString "law.<locals>.<lambda>") s ∧ args = [s] ∧ k (.dat (.bool true)) args
end Hw
namespace Hw
open PySem PySem.Spec PyProof.Rows L2 Dl
def t_is_whole (K : Frag) : TS := (tRet ((tAndV (tCB (rIsiU K) (tCons (tVar 0) (tCons (tC (.ty "int")) tNil))) (tNotV (tCB (rIsiU K) (tCons (tVar 0) (tCons (tC (.ty "bool")) tNil)))))))
theorem n_is_whole {K : Frag} : ∀ args k, F_is_whole K args k → args.length = 1 := by
  intro args k h
  simp only [F_is_whole, pD] at h
  all_goals first
    | (exact False.elim h)
    | (repeat (obtain ⟨_, h⟩ := h)
       subst_vars
       rfl)
def t_is_votes (K : Frag) : TS := (tSeq (tIfS ((tOr (tNot (tTru' K (tCB (rIsiU K) (tCons (tVar 0) (tCons (tC (.ty "tuple")) tNil))))) (tNot (tTest (tChain (uLe K) (uLe K) (tC (.int 1)) (tCB (Dl.rLen K) (tCons (tVar 0) tNil)) (tC (.int 5))))))) (tRet (tC (.bl false))) tNext) (tSeq (tFor (iEnumS K (tCons (tVar 0) (tCons (tC (.int 1)) tNil))) (gTup K 2 (gCons (gName 1) (gCons (gName 2) gNil))) (tIfS ((tOr (tNot (tTru' K (tCall (spOf K (F_is_whole K)) [] E0 (tCons (tVar 2) tNil)))) (tNot (tTest (tChain (uLt K) (uLe K) (tVar 1) (tOp (uMul K) (tC (.int 2)) (tVar 2)) (tOp (uMul K) (tC (.int 2)) (tVar 1))))))) (tRet (tC (.bl false))) tNext)) (tRet (tC (.bl true)))))
theorem n_is_votes {K : Frag} : ∀ args k, F_is_votes K args k → args.length = 1 := by
  intro args k h
  simp only [F_is_votes, pD] at h
  all_goals first
    | (exact False.elim h)
    | (repeat (obtain ⟨_, h⟩ := h)
       subst_vars
       rfl)
def t_plan (K : Frag) : TS := (tSeq (tFor (iSq K (tTup (tCons (tVar 0) (tCons (tVar 1) tNil)))) (gName 2) (tIfS ((tOr (tNot (tTru' K (tCall (spOf K (F_is_whole K)) [] E0 (tCons (tVar 2) tNil)))) (tNot (tTest (tChain (uLe K) (uLe K) (tC (.int 0)) (tVar 2) (tC (.int 4))))))) (tNever) tNext)) (tSeq (tAsg (tOp (uAdd K) (tCB (rMaxU K) (tCons (tVar 0) (tCons (tVar 1) tNil))) (tC (.int 1))) (gName 3)) (tRet (tIf (tTest (tOp (uLe K) (tOp (uAdd K) (tVar 3) (tVar 1)) (tC (.int 5)))) (tTup (tCons (tOp (uAdd K) (tVar 3) (tVar 1)) (tCons (tVar 3) tNil))) (tC .non)))))
theorem n_plan {K : Frag} : ∀ args k, F_plan K args k → args.length = 2 := by
  intro args k h
  simp only [F_plan, pD] at h
  all_goals first
    | (exact False.elim h)
    | (repeat (obtain ⟨_, h⟩ := h)
       subst_vars
       rfl)
def t_even_votes (K : Frag) : TS := (tSeq (tIfS ((tOr (tNot (tTru' K (tCall (spOf K (F_is_whole K)) [] E0 (tCons (tVar 0) tNil)))) (tNot (tTest (tChain (uLe K) (uLe K) (tC (.int 1)) (tVar 0) (tC (.int 5))))))) (tNever) tNext) (tSeq (tIfS ((tOr (tNot (tTru' K (tCall (spOf K (F_is_whole K)) [] E0 (tCons (tVar 1) tNil)))) (tNot (tTest (tChain (uLe K) (uLt K) (tVar 1) (tVar 0) (tOp (uMul K) (tC (.int 2)) (tVar 1))))))) (tNever) tNext) (tRet (tCB (rTupU K) (tCons (tLc (iRng2 (tCons (tC (.int 1)) (tCons (tOp (uAdd K) (tVar 0) (tC (.int 1))) tNil))) (gName 2) tYes (tCB (rMaxU K) (tCons (tOp (uAdd K) (tOp (uFDiv K) (tVar 2) (tC (.int 2))) (tC (.int 1))) (tCons (tOp (uSub K) (tVar 2) (tOp (uSub K) (tVar 0) (tVar 1))) tNil))) [2]) tNil)))))
theorem n_even_votes {K : Frag} : ∀ args k, F_even_votes K args k → args.length = 2 := by
  intro args k h
  simp only [F_even_votes, pD] at h
  all_goals first
    | (exact False.elim h)
    | (repeat (obtain ⟨_, h⟩ := h)
       subst_vars
       rfl)
def t__law_least_plan (K : Frag) : TS := (tSeq (tFor (iRng2 (tCons (tC (.int 1)) (tCons (tC (.int 6)) tNil))) (gName 2) (tFor (iRng2 (tCons (tOp (uAdd K) (tOp (uFDiv K) (tVar 2) (tC (.int 2))) (tC (.int 1))) (tCons (tOp (uAdd K) (tVar 2) (tC (.int 1))) tNil))) (gName 3) (tIfS ((tAnd (tTest (tOp (uGe K) (tOp (uSub K) (tVar 3) (tC (.int 1))) (tVar 0))) (tTest (tOp (uGe K) (tOp (uSub K) (tVar 2) (tVar 3)) (tVar 1))))) (tRet (tTup (tCons (tVar 2) (tCons (tVar 3) tNil)))) tNext))) (tRet (tC .non)))
theorem n__law_least_plan {K : Frag} : ∀ args k, F__law_least_plan K args k → args.length = 2 := by
  intro args k h
  simp only [F__law_least_plan, pD] at h
  all_goals first
    | (exact False.elim h)
    | (repeat (obtain ⟨_, h⟩ := h)
       subst_vars
       rfl)
def ts_law (K : Frag) : List (XK → TE) := [(fun E => (tCall (spX K (orX (F_plan K) (R_plan K))) [] E (tCons (tVar 4) (tCons (tC (.int 0)) tNil)))), (fun E => (tCall (spX K (orX (F_plan K) (R_plan K))) [] E (tCons (tC (.int 0)) (tCons (tVar 4) tNil)))), (fun E => (tCall (spX K (orX (F_plan K) (R_plan K))) [] E (tCons (tVar 4) (tCons (tC .non) tNil))))]
def t_law (K : Frag) (L : LFam) : TS := (tSeq (tAsg (tCall (spOf K (F__law_begun K)) [] E0 (tCons (tVar 0) tNil)) (gName 1)) (tSeq (tFor (iRng1 (tCons (tC (.int 5)) tNil)) (gName 2) (tFor (iRng1 (tCons (tC (.int 5)) tNil)) (gName 8) (tIfS ((tOr (tTest (tOp (uNe K) (tCall (spOf K (F_plan K)) [] E0 (tCons (tVar 2) (tCons (tVar 8) tNil))) (tCall (spOf K (F__law_least_plan K)) [] E0 (tCons (tVar 2) (tCons (tVar 8) tNil))))) (tTest (tOp (uNe K) (tCall (spOf K (F_plan K)) [] E0 (tPerm 2 [1, 0] (tCons (tVar 8) (tCons (tVar 2) tNil)))) (tCall (spOf K (F_plan K)) [] E0 (tCons (tVar 2) (tCons (tVar 8) tNil))))))) (tRet (tC (.bl false))) tNext))) (tSeq (tFor (iRng2 (tCons (tC (.int 1)) (tCons (tC (.int 6)) tNil))) (gName 3) (tFor (iRng2 (tCons (tOp (uAdd K) (tOp (uFDiv K) (tVar 3) (tC (.int 2))) (tC (.int 1))) (tCons (tOp (uAdd K) (tVar 3) (tC (.int 1))) tNil))) (gName 9) (tSeq (tAsg (tCall (spOf K (F_even_votes K)) [] E0 (tCons (tVar 3) (tCons (tVar 9) tNil))) (gName 10)) (tSeq (tIfS ((tOr (tTest (tOp (uIsNot K) (tCall (spOf K (F_is_votes K)) [] E0 (tCons (tVar 10) tNil)) (tC (.bl true)))) (tOr (tTest (tOp (uNe K) (tCB (Dl.rLen K) (tCons (tVar 10) tNil)) (tVar 3))) (tTest (tOp (uNe K) (tOp (uIx K) (tVar 10) (tOp (uSub K) (tVar 3) (tC (.int 1)))) (tVar 9)))))) (tRet (tC (.bl false))) tNext) (tSeq (tIfS (tTest (tOp (uNe K) (tCall (spOf K (F_even_votes K)) [] E0 (tPerm 2 [1, 0] (tCons (tVar 9) (tCons (tVar 3) tNil)))) (tVar 10))) (tRet (tC (.bl false))) tNext) (tSeq (tAsg (tLc (iRng2 (tCons (tC (.int 1)) (tCons (tOp (uAdd K) (tVar 3) (tC (.int 1))) tNil))) (gName 12) tYes (tCB (rMaxU K) (tCons (tOp (uAdd K) (tOp (uFDiv K) (tVar 12) (tC (.int 2))) (tC (.int 1))) (tCons (tOp (uSub K) (tVar 12) (tOp (uSub K) (tVar 3) (tVar 9))) tNil))) [12]) (gName 11)) (tIfS (tTest (tOp (uNe K) (tCB (rListU K) (tCons (tVar 10) tNil)) (tVar 11))) (tRet (tC (.bl false))) tNext))))))) (tSeq (tAsg (tCallR 1 (spOf K (F__law_pick K)) E0 (tCons (tVar 1) (tCons (tLst (tCons (tUn (rU fun i => .int (-i)) (tC (.int 1))) (tCons (tC (.int 5)) (tCons (tC (.bl true)) (tCons (tC .non) (tCons (tC (.str (PySem.Str.ofString "1"))) (tCons (tTup (tCons (tC (.int 1)) tNil)) (tCons (tLst (tCons (tC (.int 2)) tNil)) (tCons (tOp (uPow K) (tC (.int 10)) (tC (.int 30))) tNil))))))))) tNil))) (gName 4)) (tSeq (tFor (iSq K (tLst (tLams (He.cT K ("law", none)).2 (PySem.Str.ofString "law.<locals>.<lambda>") L [0, 1, 2]))) (gName 5) (tIfS (tNot (tTru' K (tCB (rIsiX K) (tCons (tCaughtV K (He.ga K "HueError") (PySem.Str.ofString "law.<locals>.<lambda>") L (ts_law K) (tCons (tVar 5) tNil)) (tCons (tC (.ref (He.ga K "BadWish"))) tNil))))) (tRet (tC (.bl false))) tNext)) (tSeq (tAsg (tCallR 1 (spOf K (F__law_pick K)) E0 (tCons (tVar 1) (tCons (tLst (tCons (tC (.int 0)) (tCons (tC (.int 6)) (tCons (tC (.bl true)) (tCons (tC .non) (tCons (tC (.str (PySem.Str.ofString "3"))) (tCons (tUn (rU fun i => .int (-i)) (tC (.int 2))) tNil))))))) tNil))) (gName 6)) (tSeq (tAsg (tOp (uAdd K) (tC (.int 1)) (tCallR 1 (spOf K (F__law_draw K)) E0 (tCons (tVar 1) (tCons (tC (.int 5)) tNil)))) (gName 3)) (tSeq (tAsg (tCallR 1 (spOf K (F__law_pick K)) E0 (tCons (tVar 1) (tCons (tLst (tCons (tOp (uFDiv K) (tVar 3) (tC (.int 2))) (tCons (tOp (uAdd K) (tVar 3) (tC (.int 1))) (tCons (tC .non) (tCons (tC (.bl true)) (tCons (tC (.int 0)) (tCons (tUn (rU fun i => .int (-i)) (tC (.int 1))) tNil))))))) tNil))) (gName 7)) (tSeq (tIfS ((tAnd (tTest (tOp (uIsX K) (tVar 7) (tC (.bl true)))) (tTest (tOp (uEq K) (tVar 3) (tC (.int 1)))))) (tAsg (tC (.int 0)) (gName 7)) tNext) (tSeq (tIfS (tNot (tTru' K (tCB (rIsiX K) (tCons (tLamG (He.cT K ("law", none)).2 (PySem.Str.ofString "law.<locals>.<lambda>") (TCaught K (He.ga K "HueError")) (fun E => (tCall (spX K (orX (F_even_votes K) (R_even_votes K))) [] E (tCons (tVar 6) (tCons (tVar 7) tNil))))) (tCons (tC (.ref (He.ga K "BadHues"))) tNil))))) (tRet (tC (.bl false))) tNext) (tRet (tCB (rIsiX K) (tCons (tLamG (He.cT K ("law", none)).2 (PySem.Str.ofString "law.<locals>.<lambda>") (TCaught K (He.ga K "HueError")) (fun E => (tCall (spX K (orX (F_even_votes K) (R_even_votes K))) [] E (tCons (tVar 3) (tCons (tVar 7) tNil))))) (tCons (tC (.ref (He.ga K "BadVotes"))) tNil))))))))))))))
theorem n_law {K : Frag} : ∀ args k, F_law K args k → args.length = 1 := by
  intro args k h
  simp only [F_law, pD] at h
  all_goals first
    | (exact False.elim h)
    | (repeat (obtain ⟨_, h⟩ := h)
       subst_vars
       rfl)
def tx_plan (K : Frag) (E : XK) : TS := (tSeq (tFor (iSq K (tTup (tCons (tVar 0) (tCons (tVar 1) tNil)))) (gName 2) (tIfS ((tOr (tNot (tTru' K (tCall (spOf K (F_is_whole K)) [] E0 (tCons (tVar 2) tNil)))) (tNot (tTest (tChain (uLe K) (uLe K) (tC (.int 0)) (tVar 2) (tC (.int 4))))))) (tRaiseC (He.ga K "BadWish") E) tNext)) (tSeq (tAsg (tOp (uAdd K) (tCB (rMaxU K) (tCons (tVar 0) (tCons (tVar 1) tNil))) (tC (.int 1))) (gName 3)) (tRet (tIf (tTest (tOp (uLe K) (tOp (uAdd K) (tVar 3) (tVar 1)) (tC (.int 5)))) (tTup (tCons (tOp (uAdd K) (tVar 3) (tVar 1)) (tCons (tVar 3) tNil))) (tC .non)))))
theorem nx_plan {K : Frag} : ∀ args kx, R_plan K args kx → args.length = 2 := by
  intro args kx h
  simp only [R_plan] at h
  all_goals first
    | (exact False.elim h)
    | (repeat (obtain ⟨_, h⟩ := h)
       subst_vars
       rfl)
def tx_even_votes (K : Frag) (E : XK) : TS := (tSeq (tIfS ((tOr (tNot (tTru' K (tCall (spOf K (F_is_whole K)) [] E0 (tCons (tVar 0) tNil)))) (tNot (tTest (tChain (uLe K) (uLe K) (tC (.int 1)) (tVar 0) (tC (.int 5))))))) (tRaiseC (He.ga K "BadHues") E) tNext) (tSeq (tIfS ((tOr (tNot (tTru' K (tCall (spOf K (F_is_whole K)) [] E0 (tCons (tVar 1) tNil)))) (tNot (tTest (tChain (uLe K) (uLt K) (tVar 1) (tVar 0) (tOp (uMul K) (tC (.int 2)) (tVar 1))))))) (tRaiseC (He.ga K "BadVotes") E) tNext) (tRet (tCB (rTupU K) (tCons (tLc (iRng2 (tCons (tC (.int 1)) (tCons (tOp (uAdd K) (tVar 0) (tC (.int 1))) tNil))) (gName 2) tYes (tCB (rMaxU K) (tCons (tOp (uAdd K) (tOp (uFDiv K) (tVar 2) (tC (.int 2))) (tC (.int 1))) (tCons (tOp (uSub K) (tVar 2) (tOp (uSub K) (tVar 0) (tVar 1))) tNil))) [2]) tNil)))))
theorem nx_even_votes {K : Frag} : ∀ args kx, R_even_votes K args kx → args.length = 2 := by
  intro args kx h
  simp only [R_even_votes] at h
  all_goals first
    | (exact False.elim h)
    | (repeat (obtain ⟨_, h⟩ := h)
       subst_vars
       rfl)
end Hw
namespace Hw
open PySem PySem.Spec PyProof.Rows L2 Dl
local macro_rules | `(tactic| walk_at "dbt") => `(tactic| first | assumption | rfl | (decide +kernel) | (simp [isFromD, *]; done) | (simp [isFromD, *]; omega))
local macro_rules | `(tactic| walk_at "d1") => `(tactic| first
  | with_reducible refine x_seq ?_ | with_reducible refine x_if' ?_ | with_reducible refine x_ret ?_ | with_reducible refine x_asg ?_ | with_reducible refine x_next ?_ | with_reducible refine x_expr ?_
  | with_reducible refine e_isi2 (by decide) (by decide) ?_
  | with_reducible refine e_dat rfl ?_ | with_reducible refine e_int ?_ | with_reducible refine e_str ?_ | with_reducible refine e_bl ?_ | with_reducible refine e_non ?_ | with_reducible refine e_op ?_ | with_reducible refine e_cb ?_ | with_reducible refine e_call ?_
  | with_reducible refine a_cons ?_ | with_reducible refine a_nil ?_
  | with_reducible refine b_test ?_ | with_reducible refine b_not ?_ | with_reducible refine b_and' ?_ | with_reducible refine b_or' ?_ | with_reducible refine b_tru ?_
  | with_reducible refine e_andV' ?_ | with_reducible refine e_orV' ?_ | with_reducible refine e_notV ?_ | with_reducible refine e_chain' ?_ | with_reducible refine e_if' ?_ | with_reducible refine e_c ?_ | with_reducible refine e_sl ?_ | with_reducible refine o_no ?_ | with_reducible refine o_some ?_ | with_reducible refine e_neg ?_
  | with_reducible refine e_raw rfl ?_ | with_reducible refine e_res rfl ?_ | with_reducible refine g_name ?_
  | with_reducible refine op_add_i ?_ | with_reducible refine op_sub_i ?_ | with_reducible refine op_lt_i ?_ | with_reducible refine op_le_i ?_ | with_reducible refine op_gt_i ?_ | with_reducible refine op_ge_i ?_ | with_reducible refine op_isnone ?_ | with_reducible refine op_notnone ?_
  | with_reducible refine cb_isi (by decide) ?_ | with_reducible refine cb_max2 ?_ | with_reducible refine cb_min2 ?_ | with_reducible refine cb_abs ?_ | with_reducible refine cb_int ?_ | with_reducible refine cb_len rfl ?_
  | with_reducible refine iteT ?_ | with_reducible refine iteF ?_ | ((with_reducible refine iT ?_ ?_); focus (walk_at "dbt"; done)) | ((with_reducible refine iF ?_ ?_); focus (walk_at "dbt"; done))
  | ((with_reducible refine g_tup ?_ ?_); (focus rfl)) | with_reducible refine gs_cons ?_ | with_reducible refine gs_nil ?_
  | with_reducible refine e_tup' ?_ | with_reducible refine e_lst' ?_ | with_reducible refine op_in2 ?_ | with_reducible refine op_ni3 ?_
  | with_reducible refine op_eq_ii ?_ | with_reducible refine op_ne_ii ?_ | ((with_reducible refine op_eq_ss ?_ ?_ ?_); (focus (decide +kernel)); (focus (decide +kernel))) | ((with_reducible refine op_ne_ss ?_ ?_ ?_); (focus (decide +kernel)); (focus (decide +kernel)))
  | ((with_reducible refine op_eq_d ?_ ?_ ?_); (focus (walk_at "dbt")); (focus (walk_at "dbt")))
  | ((with_reducible refine op_ne_d ?_ ?_ ?_); (focus (walk_at "dbt")); (focus (walk_at "dbt")))
  | ((with_reducible refine op_ix' ?_); refine Exists.intro _ (Exists.intro _ (And.intro rfl (And.intro rfl ?_))))
  | ((with_reducible refine op_mul_il ?_ ?_); (focus (decide +kernel))) | ((with_reducible refine op_mul_ir ?_ ?_); (focus (decide +kernel)))
  | ((with_reducible refine And.intro (a := smallL _ = true) ?_ ?_); (focus rfl)) | ((with_reducible refine And.intro (a := Pers _) ?_ ?_); (focus trivial)) | with_reducible refine d_cons ?_ | with_reducible refine d_nil ?_
  | (with_reducible refine Exists.intro _ (And.intro rfl ?_)) | (with_reducible refine Exists.intro _ (Exists.intro _ (And.intro rfl (And.intro rfl ?_)))) | refine Exists.intro _ (And.intro rfl (And.intro (by rfl) ?_)) | refine Exists.intro _ (Exists.intro _ (And.intro rfl (And.intro rfl ?_))) | with_reducible refine dat_ok ?_ | dsimp only | fail)
local macro_rules | `(tactic| walk_at "d1") => `(tactic| first | with_reducible refine e_callR ?_)
local macro_rules | `(tactic| walk_at "d2") => `(tactic| first | walk_at "d1" | with_reducible refine iteB (fun _ => ?_) (fun _ => ?_))
section
variable {K : Frag} {mg : Str → Option Value} {Γ : List Sl} {k : Sl → List Sl → Prop} {O : Out}
theorem b_is_whole (T : TX K mg) : ∀ args k, F_is_whole K args k → ExS K (t_is_whole K) (args ++ List.replicate (1 - args.length) .no) (fnOut args k) := by
  rintro args k ⟨d, h⟩
  refine bodyD (Γ := [.dat d]) h rfl ?_
  unfold t_is_whole
  repeat' walk_at "d2"
  all_goals (congr 1; simp [isWholeD, *])
theorem u_is_whole {d : PyData} {k : Sl → List Sl → Prop} (h : k (.dat (.bool (isWholeD d))) [.dat d]) : F_is_whole K [.dat d] k := ⟨d, rfl, h⟩
local macro_rules | `(tactic| walk_at "d1") => `(tactic| with_reducible refine u_is_whole ?_)
theorem b_is_votes (T : TX K mg) : ∀ args k, F_is_votes K args k → ExS K (t_is_votes K) (args ++ List.replicate (3 - args.length) .no) (fnOut args k) := by
  rintro args k ⟨vs, ⟨h1, h5, hv⟩, h⟩
  refine bodyD (Γ := [.dat (.tuple (iL vs)), .no, .no]) h rfl ?_
  unfold t_is_votes
  have hl : (iL vs).length = vs.length := List.length_map ..
  repeat' walk_at "d1"
  refine x_for (i_enumS ?_)
  repeat' walk_at "d1"
  refine ⟨_, _, _, rfl, by decide, by decide, rfl, fun _ => ?_⟩
  refine ⟨fun i Γ => ∃ x y, Γ = [.dat (.tuple (iL vs)), x, y], ⟨_, _, rfl⟩, fun _ _ _ _ => trivial, fun i Γ hi ⟨x, y, e⟩ => ?_, fun Γ ⟨x, y, e⟩ => ?_⟩
  · subst e
    rw [hl] at hi
    obtain ⟨v, hvi⟩ : ∃ v, vs[i]? = some v := ⟨_, List.getElem?_eq_getElem hi⟩
    have hd : (iL vs).getD i .none = .int v := by
      rw [List.getD_eq_getElem?_getD, iL, List.getElem?_map, hvi]; rfl
    show EvG K _ (.dat (.tuple [.int (1 + (i : Int)), (iL vs).getD i .none])) _ _
    rw [hd]
    refine g_tup rfl (gs_cons (g_name (gs_cons (g_name (gs_nil ?_)))))
    have q := hv i v hvi
    repeat' walk_at "d1"
    exact ⟨_, _, rfl⟩
  · subst e
    repeat' walk_at "d1"
theorem b_wish {d : PyData} {j : Nat} {kb : Bool → List Sl → Prop} (hj : Γ[j]? = some (.dat d)) (h : kb (!wishD d) Γ) : EvB K (tOr (tNot (tTru' K (tCall (spOf K (F_is_whole K)) [] E0 (tCons (tVar j) tNil)))) (tNot (tTest (tChain (uLe K) (uLe K) (tC (.int 0)) (tVar j) (tC (.int 4)))))) Γ kb := by
  refine b_or' (b_not (b_tru (e_call (a_cons (e_dat hj (a_nil (u_is_whole ⟨_, _, rfl, rfl, ?_⟩)))))))
  cases d with
  | int i =>
    refine iteF (b_not (b_test (e_chain' (e_int (e_dat hj ⟨_, _, rfl, rfl, op_le_i ⟨_, rfl, ?_⟩⟩)))))
    by_cases h0 : 0 ≤ i
    · rw [decide_eq_true h0]
      refine iteT (e_int (op_le_i ⟨_, rfl, ?_⟩))
      have e : wishD (.int i) = decide (i ≤ 4) := by simp [wishD, h0]
      rw [e] at h
      exact h
    · rw [decide_eq_false h0]
      have e : wishD (.int i) = false := by simp [wishD, h0]
      rw [e] at h
      exact iteF ⟨_, rfl, h⟩
  | _ => exact iteT h
theorem b_plan (T : TX K mg) : ∀ args k, F_plan K args k → ExS K (t_plan K) (args ++ List.replicate (4 - args.length) .no) (fnOut args k) := by
  rintro args k ⟨a, b, ha, hb, h⟩
  refine bodyD (Γ := [.dat (.int a), .dat (.int b), .no, .no]) h rfl ?_
  have wa : wishD (.int a) = true := by simp [wishD, ha.1, ha.2]
  have wb : wishD (.int b) = true := by simp [wishD, hb.1, hb.2]
  unfold t_plan
  refine x_seq (x_for (i_sq (e_tup' (a_cons (e_dat rfl (a_cons (e_dat rfl (a_nil ⟨[.int a, .int b], rfl, rfl, _, _, rfl, rfl, fun _ => ?_⟩)))))))) 
  refine ⟨fun i Γ => ∃ x, Γ = [.dat (.int a), .dat (.int b), x, .no], ⟨_, rfl⟩, fun _ _ _ _ => trivial, ?_, ?_⟩
  · rintro i Γ hi ⟨x, rfl⟩
    have hi2 : i < 2 := hi
    have hd : wishD ([PyData.int a, .int b].getD i .none) = true := by
      match i, hi2 with
      | 0, _ => exact wa
      | 1, _ => exact wb
    refine g_name (x_if' (b_wish (j := 2) rfl ?_))
    rw [hd]
    exact iteF (x_next ⟨_, rfl⟩)
  · rintro Γ ⟨x, rfl⟩
    refine x_seq (x_asg (e_op (e_cb (a_cons (e_dat rfl (a_cons (e_dat rfl (a_nil (cb_max2 (e_int (op_add_i (g_name ?_))))))))))))
    have em : (if b > a then b else a) + 1 = max a b + 1 := by
      split <;> omega
    rw [em]
    refine x_ret (e_if' (b_test (e_op (e_op (e_dat rfl (e_dat rfl (op_add_i (e_int (op_le_i ⟨_, rfl, iteB (fun h5 => ?_) fun h5 => ?_⟩)))))))))
    · refine e_tup' (a_cons (e_op (e_dat rfl (e_dat rfl (op_add_i (a_cons (e_dat rfl (a_nil ⟨[.int (max a b + 1 + b), .int (max a b + 1)], rfl, rfl, ?_⟩))))))))
      refine dat_ok ?_
      unfold planD
      rw [if_pos (of_decide_eq_true h5)]
    · refine e_non (dat_ok ?_)
      unfold planD
      rw [if_neg (of_decide_eq_false h5)]
theorem bx_plan (T : TX K mg) : ∀ args kx, R_plan K args kx → ExX K (tx_plan K) (args ++ List.replicate (4 - args.length) .no) { nx := fun _ => False, rt := fun _ _ => False } (fnRaise args kx) := by
  rintro args kx ⟨a, b, hab, rfl, hk⟩
  show ExX K (fun E => tx_plan K E) [.dat a, .dat b, .no, .no] _ _
  unfold tx_plan
  refine ex_seqX (ex_for (i_sq (e_tup' (a_cons (e_dat rfl (a_cons (e_dat rfl (a_nil ⟨[a, b], rfl, rfl, _, _, rfl, rfl, fun _ => ?_⟩))))))))
  refine ⟨fun i Γ => (∀ j, j < i → wishD ([a, b].getD j .none) = true) ∧ ∃ x, Γ = [.dat a, .dat b, x, .no], ⟨fun j hj => absurd hj (Nat.not_lt_zero _), _, rfl⟩, fun _ _ _ _ => trivial, ?_, ?_⟩
  · rintro i Γ hi ⟨hw, x, rfl⟩
    refine g_name (ex_if (b_wish (j := 2) rfl ?_))
    cases hd : wishD ([a, b].getD i .none) with
    | false => exact iteT (ex_raise ⟨_, hk, keep_same (ds := [a, b])⟩)
    | true =>
      refine iteF (ex_of (x_next ⟨fun j hj => ?_, _, rfl⟩))
      by_cases e : j = i
      · rw [e]; exact hd
      · exact hw j (by omega)
  · rintro Γ ⟨hw, x, rfl⟩
    have h0 : wishD a = true := hw 0 (by show 0 < 2; decide)
    have h1 : wishD b = true := hw 1 (by show 1 < 2; decide)
    rw [h0, h1] at hab
    cases hab
end
end Hw
namespace Hw
open PySem PySem.Spec PyProof.Rows L2 Dl
local macro_rules | `(tactic| walk_at "dbt") => `(tactic| first | assumption | rfl | (decide +kernel) | (simp [isFromD, *]; done) | (simp [isFromD, *]; omega))
local macro_rules | `(tactic| walk_at "d1") => `(tactic| first
  | with_reducible refine x_seq ?_ | with_reducible refine x_if' ?_ | with_reducible refine x_ret ?_ | with_reducible refine x_asg ?_ | with_reducible refine x_next ?_ | with_reducible refine x_expr ?_
  | with_reducible refine e_isi2 (by decide) (by decide) ?_
  | with_reducible refine e_dat rfl ?_ | with_reducible refine e_int ?_ | with_reducible refine e_str ?_ | with_reducible refine e_bl ?_ | with_reducible refine e_non ?_ | with_reducible refine e_op ?_ | with_reducible refine e_cb ?_ | with_reducible refine e_call ?_
  | with_reducible refine a_cons ?_ | with_reducible refine a_nil ?_
  | with_reducible refine b_test ?_ | with_reducible refine b_not ?_ | with_reducible refine b_and' ?_ | with_reducible refine b_or' ?_ | with_reducible refine b_tru ?_
  | with_reducible refine e_andV' ?_ | with_reducible refine e_orV' ?_ | with_reducible refine e_notV ?_ | with_reducible refine e_chain' ?_ | with_reducible refine e_if' ?_ | with_reducible refine e_c ?_ | with_reducible refine e_sl ?_ | with_reducible refine o_no ?_ | with_reducible refine o_some ?_ | with_reducible refine e_neg ?_
  | with_reducible refine e_raw rfl ?_ | with_reducible refine e_res rfl ?_ | with_reducible refine g_name ?_
  | with_reducible refine op_add_i ?_ | with_reducible refine op_sub_i ?_ | with_reducible refine op_lt_i ?_ | with_reducible refine op_le_i ?_ | with_reducible refine op_gt_i ?_ | with_reducible refine op_ge_i ?_ | with_reducible refine op_isnone ?_ | with_reducible refine op_notnone ?_
  | with_reducible refine cb_isi (by decide) ?_ | with_reducible refine cb_max2 ?_ | with_reducible refine cb_min2 ?_ | with_reducible refine cb_abs ?_ | with_reducible refine cb_int ?_ | with_reducible refine cb_len rfl ?_
  | with_reducible refine iteT ?_ | with_reducible refine iteF ?_ | ((with_reducible refine iT ?_ ?_); focus (walk_at "dbt"; done)) | ((with_reducible refine iF ?_ ?_); focus (walk_at "dbt"; done))
  | ((with_reducible refine g_tup ?_ ?_); (focus rfl)) | with_reducible refine gs_cons ?_ | with_reducible refine gs_nil ?_
  | with_reducible refine e_tup' ?_ | with_reducible refine e_lst' ?_ | with_reducible refine op_in2 ?_ | with_reducible refine op_ni3 ?_
  | with_reducible refine op_eq_ii ?_ | with_reducible refine op_ne_ii ?_ | ((with_reducible refine op_eq_ss ?_ ?_ ?_); (focus (decide +kernel)); (focus (decide +kernel))) | ((with_reducible refine op_ne_ss ?_ ?_ ?_); (focus (decide +kernel)); (focus (decide +kernel)))
  | ((with_reducible refine op_eq_d ?_ ?_ ?_); (focus (walk_at "dbt")); (focus (walk_at "dbt")))
  | ((with_reducible refine op_ne_d ?_ ?_ ?_); (focus (walk_at "dbt")); (focus (walk_at "dbt")))
  | ((with_reducible refine op_ix' ?_); refine Exists.intro _ (Exists.intro _ (And.intro rfl (And.intro rfl ?_))))
  | ((with_reducible refine op_mul_il ?_ ?_); (focus (decide +kernel))) | ((with_reducible refine op_mul_ir ?_ ?_); (focus (decide +kernel)))
  | ((with_reducible refine And.intro (a := smallL _ = true) ?_ ?_); (focus rfl)) | ((with_reducible refine And.intro (a := Pers _) ?_ ?_); (focus trivial)) | with_reducible refine d_cons ?_ | with_reducible refine d_nil ?_
  | (with_reducible refine Exists.intro _ (And.intro rfl ?_)) | (with_reducible refine Exists.intro _ (Exists.intro _ (And.intro rfl (And.intro rfl ?_)))) | refine Exists.intro _ (And.intro rfl (And.intro (by rfl) ?_)) | refine Exists.intro _ (Exists.intro _ (And.intro rfl (And.intro rfl ?_))) | with_reducible refine dat_ok ?_ | dsimp only | fail)
local macro_rules | `(tactic| walk_at "d1") => `(tactic| first | with_reducible refine e_callR ?_)
section
variable {K : Frag} {mg : Str → Option Value} {Γ : List Sl} {k : Sl → List Sl → Prop} {O : Out}
theorem b_hues {d : PyData} {j : Nat} {kb : Bool → List Sl → Prop} (hj : Γ[j]? = some (.dat d)) (h : kb (!huesD d) Γ) : EvB K (tOr (tNot (tTru' K (tCall (spOf K (F_is_whole K)) [] E0 (tCons (tVar j) tNil)))) (tNot (tTest (tChain (uLe K) (uLe K) (tC (.int 1)) (tVar j) (tC (.int 5)))))) Γ kb := by
  refine b_or' (b_not (b_tru (e_call (a_cons (e_dat hj (a_nil (u_is_whole ⟨_, _, rfl, rfl, ?_⟩)))))))
  cases d with
  | int i =>
    refine iteF (b_not (b_test (e_chain' (e_int (e_dat hj ⟨_, _, rfl, rfl, op_le_i ⟨_, rfl, ?_⟩⟩)))))
    by_cases h0 : 1 ≤ i
    · rw [decide_eq_true h0]
      refine iteT (e_int (op_le_i ⟨_, rfl, ?_⟩))
      have e : huesD (.int i) = decide (i ≤ 5) := by simp [huesD, h0]
      rw [e] at h
      exact h
    · rw [decide_eq_false h0]
      have e : huesD (.int i) = false := by simp [huesD, h0]
      rw [e] at h
      exact iteF ⟨_, rfl, h⟩
  | _ => exact iteT h
theorem b_need {d : PyData} {g : Int} {i j : Nat} {kb : Bool → List Sl → Prop} (hj : Γ[j]? = some (.dat d)) (hi : Γ[i]? = some (.dat (.int g))) (h : kb (!needD g d) Γ) : EvB K (tOr (tNot (tTru' K (tCall (spOf K (F_is_whole K)) [] E0 (tCons (tVar j) tNil)))) (tNot (tTest (tChain (uLe K) (uLt K) (tVar j) (tVar i) (tOp (uMul K) (tC (.int 2)) (tVar j)))))) Γ kb := by
  refine b_or' (b_not (b_tru (e_call (a_cons (e_dat hj (a_nil (u_is_whole ⟨_, _, rfl, rfl, ?_⟩)))))))
  cases d with
  | int n =>
    refine iteF (b_not (b_test (e_chain' (e_dat hj (e_dat hi ⟨_, _, rfl, rfl, op_le_i ⟨_, rfl, ?_⟩⟩)))))
    by_cases h0 : n ≤ g
    · rw [decide_eq_true h0]
      refine iteT (e_op (e_int (e_dat hj (op_mul_il (by decide +kernel) (op_lt_i ⟨_, rfl, ?_⟩)))))
      have e : needD g (.int n) = decide (g < 2 * n) := by simp [needD, h0]
      rw [e] at h
      exact h
    · rw [decide_eq_false h0]
      have e : needD g (.int n) = false := by simp [needD, h0]
      rw [e] at h
      exact iteF ⟨_, rfl, h⟩
  | _ => exact iteT h
theorem max_if {a b : Int} : (if b > a then b else a) = max a b := by split <;> omega
theorem e_evens {h n : Int} {i j v : Nat} (hh : 1 ≤ h ∧ h ≤ 5) (hi : Γ[i]? = some (.dat (.int h))) (hj : Γ[j]? = some (.dat (.int n))) (hv : v < Γ.length) (hvi : v ≠ i) (hvj : v ≠ j) (hk : k (.dat (.list (iL (evens h n)))) (Γ.set v .no)) :
    EvP K (tLc (iRng2 (tCons (tC (.int 1)) (tCons (tOp (uAdd K) (tVar i) (tC (.int 1))) tNil))) (gName v) tYes (tCB (rMaxU K) (tCons (tOp (uAdd K) (tOp (uFDiv K) (tVar v) (tC (.int 2))) (tC (.int 1))) (tCons (tOp (uSub K) (tVar v) (tOp (uSub K) (tVar i) (tVar j))) tNil))) [v]) Γ k := by
  refine e_lc (sets_name (by simp)) gm_name (i_rng2 (a_cons (e_int (a_cons (e_op (e_dat hi (e_int (op_add_i (a_nil ⟨1, h + 1, rfl, ⟨by decide, by decide, by omega, by omega⟩, ?_⟩)))))))))
  have en : (h + 1 - 1).toNat = h.toNat := by congr 1; omega
  refine ⟨fun m acc Γx => acc = iL ((List.range m).map fun (i : Nat) => max (((i : Int) + 1) / 2 + 1) ((i : Int) + 1 - (h - n))) ∧ Γx = Γ.set v .no, by rw [sizeLine_eq]; omega, ⟨rfl, rfl⟩, fun _ _ _ _ _ => trivial, ?_, ?_⟩
  · rintro m acc Γx hm _ ⟨rfl, hΓ⟩
    rw [hΓ]
    refine g_name (b_yesD ⟨fun _ => ?_, fun z => by cases z⟩)
    have gi : ((Γ.set v .no).set v (.dat (.int (1 + (m : Int)))))[i]? = some (.dat (.int h)) := by
      rw [List.set_set, List.getElem?_set_ne hvi]; exact hi
    have gj : ((Γ.set v .no).set v (.dat (.int (1 + (m : Int)))))[j]? = some (.dat (.int n)) := by
      rw [List.set_set, List.getElem?_set_ne hvj]; exact hj
    have gv : ((Γ.set v .no).set v (.dat (.int (1 + (m : Int)))))[v]? = some (.dat (.int (1 + (m : Int)))) := by
      rw [List.set_set, List.getElem?_set_self hv]
    refine e_cb (a_cons (e_op (e_op (e_dat gv (e_int (op_fdiv_i (by decide) (e_int (op_add_i (a_cons (e_op (e_dat gv (e_op (e_dat gi (e_dat gj (op_sub_i (op_sub_i (a_nil (cb_max2 ⟨_, rfl, ?_, ?_⟩))))))))))))))))))
    · rw [max_if, List.range_succ, List.map_append]
      unfold iL
      rw [List.map_append]
      have e : (1 + (m : Int)) = (m : Int) + 1 := by omega
      rw [e]
      rfl
    · show (wipeG _ _) = _
      simp [wipeG, wipeA, List.set_set]
  · rintro acc Γx _ ⟨rfl, hΓ⟩
    rw [hΓ, en]
    exact hk
theorem b_even_votes (T : TX K mg) : ∀ args k, F_even_votes K args k → ExS K (t_even_votes K) (args ++ List.replicate (3 - args.length) .no) (fnOut args k) := by
  rintro args k ⟨h, n, ⟨hh, h1, h2⟩, hp⟩
  refine bodyD (Γ := [.dat (.int h), .dat (.int n), .no]) hp rfl ?_
  have e1 : huesD (.int h) = true := by simp [huesD, hh.1, hh.2]
  have e2 : needD h (.int n) = true := by simp [needD, h1, h2]
  unfold t_even_votes
  refine x_seq (x_if' (b_hues (j := 0) rfl ?_))
  rw [e1]
  refine iteF (x_next (x_seq (x_if' (b_need (j := 1) (i := 0) rfl rfl ?_))))
  rw [e2]
  refine iteF (x_next (x_ret (e_cb (a_cons (e_evens hh rfl rfl (by show 2 < 3; decide) (by decide) (by decide) (a_nil (cb_tuple rfl (dat_ok rfl))))))))
theorem bx_even_votes (T : TX K mg) : ∀ args kx, R_even_votes K args kx → ExX K (tx_even_votes K) (args ++ List.replicate (3 - args.length) .no) { nx := fun _ => False, rt := fun _ _ => False } (fnRaise args kx) := by
  rintro args kx ⟨a, b, C, hC, rfl, hk⟩
  show ExX K (fun E => tx_even_votes K E) [.dat a, .dat b, .no] _ _
  unfold tx_even_votes
  rcases hC with ⟨ha, rfl⟩ | ⟨h, rfl, hh, hb, rfl⟩
  · refine ex_seqX (ex_if (b_hues (j := 0) rfl ?_))
    rw [ha]
    exact iteT (ex_raise ⟨_, hk, keep_same (ds := [a, b])⟩)
  · refine ex_seqX (ex_if (b_hues (j := 0) rfl ?_))
    rw [hh]
    refine iteF (ex_of (x_next (ex_seqX (ex_if (b_need (j := 1) (i := 0) rfl rfl ?_)))))
    rw [hb]
    exact iteT (ex_raise ⟨_, hk, keep_same (ds := [.int h, b])⟩)
def noPlan (a b h n : Int) : Prop := ∀ h' n' : Int, 1 ≤ h' → h' ≤ 5 → h' / 2 + 1 ≤ n' → n' ≤ h' → (h' < h ∨ (h' = h ∧ n' < n)) → ¬ (a ≤ n' - 1 ∧ b ≤ h' - n')
theorem plan_found {a b h n : Int} (ha : 0 ≤ a) (hb : 0 ≤ b) (hh : 1 ≤ h ∧ h ≤ 5) (hn : h / 2 + 1 ≤ n ∧ n ≤ h) (hf : a ≤ n - 1 ∧ b ≤ h - n) (hno : noPlan a b h n) : planD a b = .tuple [.int h, .int n] := by
  have hm : max a b + 1 ≤ n := by omega
  have key : ¬ ((max a b + 1) + b < h ∨ ((max a b + 1) + b = h ∧ max a b + 1 < n)) := fun z => hno ((max a b + 1) + b) (max a b + 1) (by omega) (by omega) (by omega) (by omega) z ⟨by omega, by omega⟩
  have e1 : (max a b + 1) + b = h := by omega
  have e2 : max a b + 1 = n := by omega
  unfold planD
  rw [e1, e2, if_pos (by omega)]
theorem plan_none {a b : Int} (ha : 0 ≤ a) (hb : 0 ≤ b) (hno : noPlan a b 6 0) : planD a b = .none := by
  unfold planD
  rw [if_neg fun z => hno ((max a b + 1) + b) (max a b + 1) (by omega) (by omega) (by omega) (by omega) (.inl (by omega)) ⟨by omega, by omega⟩]
theorem b__law_least_plan (T : TX K mg) : ∀ args k, F__law_least_plan K args k → ExS K (t__law_least_plan K) (args ++ List.replicate (4 - args.length) .no) (fnOut args k) := by
  rintro args k ⟨a, b, ha, hb, hp⟩
  refine bodyD (Γ := [.dat (.int a), .dat (.int b), .no, .no]) hp rfl ?_
  unfold t__law_least_plan
  refine x_seq (x_for (i_rng2 (a_cons (e_int (a_cons (e_int (a_nil ⟨1, 6, rfl, ⟨by decide, by decide, by decide, by decide⟩, ?_⟩)))))))
  refine ⟨fun i Γ => ∃ x y, noPlan a b (1 + (i : Int)) 0 ∧ Γ = [.dat (.int a), .dat (.int b), x, y], ⟨_, _, ?_, rfl⟩, fun _ _ _ _ => trivial, ?_, ?_⟩
  · intro h' n' h1 _ h3 _ hlt
    omega
  · rintro i Γ hi ⟨x, y, hno, rfl⟩
    have hi5 : i < 5 := hi
    generalize hgh : (1 + (i : Int)) = h at hno
    have eh : ((1 + ((i + 1 : Nat) : Int))) = h + 1 := by omega
    have hh : 1 ≤ h ∧ h ≤ 5 := by omega
    show EvG K (gName 2) (.dat (.int (1 + (i : Int)))) _ _
    rw [hgh]
    refine g_name (x_for (i_rng2 (a_cons (e_op (e_op (e_dat rfl (e_int (op_fdiv_i (by decide) (e_int (op_add_i (a_cons (e_op (e_dat rfl (e_int (op_add_i (a_nil ⟨h / 2 + 1, h + 1, rfl, ⟨by omega, by omega, by omega, by omega⟩, ?_⟩))))))))))))))))
    refine ⟨fun m Γ => ∃ y, noPlan a b h (h / 2 + 1 + (m : Int)) ∧ Γ = [.dat (.int a), .dat (.int b), .dat (.int h), y], ⟨_, ?_, rfl⟩, fun _ _ _ _ => trivial, ?_, ?_⟩
    · intro h' n' h1 h2 h3 h4 hlt
      exact hno h' n' h1 h2 h3 h4 (by omega)
    · rintro m Γ hm ⟨y, hno2, rfl⟩
      have hm2 : (m : Int) < h + 1 - (h / 2 + 1) := by omega
      generalize hgn : h / 2 + 1 + (m : Int) = n at hno2
      have en : h / 2 + 1 + ((m + 1 : Nat) : Int) = n + 1 := by omega
      have hn : h / 2 + 1 ≤ n ∧ n ≤ h := by omega
      show EvG K (gName 3) (.dat (.int (h / 2 + 1 + (m : Int)))) _ _
      rw [hgn]
      have hnext : ¬ (a ≤ n - 1 ∧ b ≤ h - n) → noPlan a b h (h / 2 + 1 + ((m + 1 : Nat) : Int)) := fun hf h' n' h1 h2 h3 h4 hlt => by
        by_cases e : h' = h ∧ n' = n
        · rw [e.1, e.2]; exact hf
        · exact hno2 h' n' h1 h2 h3 h4 (by omega)
      refine g_name (x_if' (b_and' (b_test (e_op (e_op (e_dat rfl (e_int (op_sub_i (e_dat rfl (op_ge_i ⟨_, rfl, iteB (fun h1 => ?_) fun h1 => iteF (x_next ⟨_, hnext fun z => of_decide_eq_false h1 z.1, rfl⟩)⟩))))))))))
      refine b_test (e_op (e_op (e_dat rfl (e_dat rfl (op_sub_i (e_dat rfl (op_ge_i ⟨_, rfl, iteB (fun h2 => ?_) fun h2 => x_next ⟨_, hnext fun z => of_decide_eq_false h2 z.2, rfl⟩⟩)))))))
      refine x_ret (e_tup' (a_cons (e_dat rfl (a_cons (e_dat rfl (a_nil ⟨[.int h, .int n], rfl, rfl, dat_ok (Γ := [.dat (.int a), .dat (.int b), .dat (.int h), .dat (.int n)]) ?_⟩))))))
      exact (plan_found ha.1 hb.1 hh hn ⟨of_decide_eq_true h1, of_decide_eq_true h2⟩ hno2).symm
    · rintro Γ ⟨y, hno2, rfl⟩
      refine ⟨_, _, fun h' n' h1 h2 h3 h4 hlt => hno2 h' n' h1 h2 h3 h4 (by omega), rfl⟩
  · rintro Γ ⟨x, y, hno, rfl⟩
    exact x_ret (e_non (dat_ok (plan_none ha.1 hb.1 fun h' n' h1 h2 h3 h4 hlt => hno h' n' h1 h2 h3 h4 (by
      have e : (6 - 1 : Int).toNat = 5 := rfl
      rw [e]
      omega)).symm))
end
end Hw
namespace Hw
open PySem PySem.Spec PyProof.Rows L2 Dl
local macro_rules | `(tactic| walk_at "dbt") => `(tactic| first | assumption | rfl | (decide +kernel) | (simp [isFromD, *]; done) | (simp [isFromD, *]; omega))
local macro_rules | `(tactic| walk_at "d1") => `(tactic| first
  | with_reducible refine x_seq ?_ | with_reducible refine x_if' ?_ | with_reducible refine x_ret ?_ | with_reducible refine x_asg ?_ | with_reducible refine x_next ?_ | with_reducible refine x_expr ?_
  | with_reducible refine e_isi2 (by decide) (by decide) ?_
  | with_reducible refine e_dat rfl ?_ | with_reducible refine e_int ?_ | with_reducible refine e_str ?_ | with_reducible refine e_bl ?_ | with_reducible refine e_non ?_ | with_reducible refine e_op ?_ | with_reducible refine e_cb ?_ | with_reducible refine e_call ?_
  | with_reducible refine a_cons ?_ | with_reducible refine a_nil ?_
  | with_reducible refine b_test ?_ | with_reducible refine b_not ?_ | with_reducible refine b_and' ?_ | with_reducible refine b_or' ?_ | with_reducible refine b_tru ?_
  | with_reducible refine e_andV' ?_ | with_reducible refine e_orV' ?_ | with_reducible refine e_notV ?_ | with_reducible refine e_chain' ?_ | with_reducible refine e_if' ?_ | with_reducible refine e_c ?_ | with_reducible refine e_sl ?_ | with_reducible refine o_no ?_ | with_reducible refine o_some ?_ | with_reducible refine e_neg ?_
  | with_reducible refine e_raw rfl ?_ | with_reducible refine e_res rfl ?_ | with_reducible refine g_name ?_
  | with_reducible refine op_add_i ?_ | with_reducible refine op_sub_i ?_ | with_reducible refine op_lt_i ?_ | with_reducible refine op_le_i ?_ | with_reducible refine op_gt_i ?_ | with_reducible refine op_ge_i ?_ | with_reducible refine op_isnone ?_ | with_reducible refine op_notnone ?_
  | with_reducible refine cb_isi (by decide) ?_ | with_reducible refine cb_max2 ?_ | with_reducible refine cb_min2 ?_ | with_reducible refine cb_abs ?_ | with_reducible refine cb_int ?_ | with_reducible refine cb_len rfl ?_
  | with_reducible refine iteT ?_ | with_reducible refine iteF ?_ | ((with_reducible refine iT ?_ ?_); focus (walk_at "dbt"; done)) | ((with_reducible refine iF ?_ ?_); focus (walk_at "dbt"; done))
  | ((with_reducible refine g_tup ?_ ?_); (focus rfl)) | with_reducible refine gs_cons ?_ | with_reducible refine gs_nil ?_
  | with_reducible refine e_tup' ?_ | with_reducible refine e_lst' ?_ | with_reducible refine op_in2 ?_ | with_reducible refine op_ni3 ?_
  | with_reducible refine op_eq_ii ?_ | with_reducible refine op_ne_ii ?_ | ((with_reducible refine op_eq_ss ?_ ?_ ?_); (focus (decide +kernel)); (focus (decide +kernel))) | ((with_reducible refine op_ne_ss ?_ ?_ ?_); (focus (decide +kernel)); (focus (decide +kernel)))
  | ((with_reducible refine op_eq_d ?_ ?_ ?_); (focus (walk_at "dbt")); (focus (walk_at "dbt")))
  | ((with_reducible refine op_ne_d ?_ ?_ ?_); (focus (walk_at "dbt")); (focus (walk_at "dbt")))
  | ((with_reducible refine op_ix' ?_); refine Exists.intro _ (Exists.intro _ (And.intro rfl (And.intro rfl ?_))))
  | ((with_reducible refine op_mul_il ?_ ?_); (focus (decide +kernel))) | ((with_reducible refine op_mul_ir ?_ ?_); (focus (decide +kernel)))
  | ((with_reducible refine And.intro (a := smallL _ = true) ?_ ?_); (focus rfl)) | ((with_reducible refine And.intro (a := Pers _) ?_ ?_); (focus trivial)) | with_reducible refine d_cons ?_ | with_reducible refine d_nil ?_
  | (with_reducible refine Exists.intro _ (And.intro rfl ?_)) | (with_reducible refine Exists.intro _ (Exists.intro _ (And.intro rfl (And.intro rfl ?_)))) | refine Exists.intro _ (And.intro rfl (And.intro (by rfl) ?_)) | refine Exists.intro _ (Exists.intro _ (And.intro rfl (And.intro rfl ?_))) | with_reducible refine dat_ok ?_ | dsimp only | fail)
local macro_rules | `(tactic| walk_at "d1") => `(tactic| first | with_reducible refine e_callR ?_)
section
variable {K : Frag} {mg : Str → Option Value} {Γ : List Sl} {k : Sl → List Sl → Prop} {O : Out}
theorem atI_map {α β : Type} {f : α → β} {l : List α} {i : Int} {x : α} (h0 : 0 ≤ i) (h : l[i.toNat]? = some x) : atI (l.map f) i = some (f x) := by
  have hl : i.toNat < l.length := (List.getElem?_eq_some_iff.mp h).1
  unfold atI ixN
  rw [List.length_map, if_pos h0, if_pos (by omega)]
  show (l.map f)[i.toNat]? = _
  rw [List.getElem?_map, h]
  rfl
theorem shp_plan {a b : Int} : Shp 60 (planD a b) := by
  unfold planD
  split
  · exact Shp.tuple (n := 59) fun x hx => by
      simp only [List.mem_cons, List.not_mem_nil, or_false] at hx
      rcases hx with rfl | rfl <;> exact .int
  · exact .none
theorem evens_len {h n : Int} : (evens h n).length = h.toNat := by
  unfold evens
  rw [List.length_map, List.length_range]
theorem evens_at {h n : Int} {i : Nat} {v : Int} (e : (evens h n)[i]? = some v) : i < h.toNat ∧ v = max (((i : Int) + 1) / 2 + 1) ((i : Int) + 1 - (h - n)) := by
  unfold evens at e
  rw [List.getElem?_map] at e
  by_cases hi : i < h.toNat
  · rw [List.getElem?_range hi] at e
    exact ⟨hi, (Option.some.inj e).symm⟩
  · rw [List.getElem?_eq_none (by rw [List.length_range]; omega)] at e
    cases e
theorem evens_ok {h n : Int} (g : goodHN h n) : votesOk (evens h n) := by
  obtain ⟨⟨h1, h5⟩, h2, h3⟩ := g
  refine ⟨by rw [evens_len]; omega, by rw [evens_len]; omega, fun i v e => ?_⟩
  obtain ⟨hi, rfl⟩ := evens_at e
  omega
theorem evens_last {h n : Int} (g : goodHN h n) : atI (iL (evens h n)) (h - 1) = some (.int n) := by
  obtain ⟨⟨h1, h5⟩, h2, h3⟩ := g
  refine atI_map (f := PyData.int) (by omega) ?_
  unfold evens
  rw [List.getElem?_map, List.getElem?_range (by omega)]
  refine congrArg some ?_
  show max (((((h - 1).toNat : Nat) : Int) + 1) / 2 + 1) ((((h - 1).toNat : Nat) : Int) + 1 - (h - n)) = n
  omega
theorem b_law (T : TX K mg) : ∀ L args k, F_law K args k → ExS K (t_law K L) (args ++ List.replicate (13 - args.length) .no) (fnOut args k) := by
  rintro L args k ⟨ns, s0, hl, hs0, rfl, hk⟩
  show ExS K _ [s0, .no, .no, .no, .no, .no, .no, .no, .no, .no, .no, .no, .no] _
  have hs0' := hs0
  obtain ⟨a0, d0, e0, -⟩ := hs0'
  have shI : ∀ {l : List Int}, Shp 60 (.tuple (iL l)) := fun {l} => Shp.tuple (n := 59) shp_ints
  unfold t_law
  refine x_seq (x_asg (e_call (a_cons (e_tab hs0 rfl fun s' hs' => a_nil (u__law_begun hl hs' fun r0 hr0 => g_name ?_)))))
  refine x_seq (x_for (i_rng1 (a_cons (e_int (a_nil ⟨_, rfl, by decide, by decide, ?_⟩)))))
  refine ⟨fun i Γ => ∃ x2 x8, Γ = [s0, .res r0, x2, .no, .no, .no, .no, .no, x8, .no, .no, .no, .no], ⟨_, _, rfl⟩, fun _ _ _ _ => trivial, ?_, ?_⟩
  · rintro i Γ hi ⟨x2, x8, rfl⟩
    have hi5 : i < 5 := hi
    refine g_name (x_for (i_rng1 (a_cons (e_int (a_nil ⟨_, rfl, by decide, by decide, ?_⟩)))))
    refine ⟨fun j Γ => ∃ x8, Γ = [s0, .res r0, .dat (.int i), .no, .no, .no, .no, .no, x8, .no, .no, .no, .no], ⟨_, rfl⟩, fun _ _ _ _ => trivial, ?_, ?_⟩
    · rintro j Γ hj ⟨x8, rfl⟩
      have hj5 : j < 5 := hj
      refine g_name (x_if' (b_or' (b_test (e_op (e_call (a_cons (e_dat rfl (a_cons (e_dat rfl (a_nil ⟨i, j, ⟨by omega, by omega⟩, ⟨by omega, by omega⟩, rfl, ?_⟩))))))))))
      refine e_call (a_cons (e_dat rfl (a_cons (e_dat rfl (a_nil ⟨i, j, ⟨by omega, by omega⟩, ⟨by omega, by omega⟩, rfl, ?_⟩)))))
      refine op_ne_same shp_plan ⟨_, rfl, iteF (b_test (e_op (e_call (a_perm (by decide) (a_cons (e_dat rfl (a_cons (e_dat rfl (a_nil ⟨rfl, ?_⟩)))))))))⟩
      show F_plan K [.dat (.int i), .dat (.int j)] _
      refine ⟨i, j, ⟨by omega, by omega⟩, ⟨by omega, by omega⟩, rfl, e_call (a_cons (e_dat rfl (a_cons (e_dat rfl (a_nil ⟨i, j, ⟨by omega, by omega⟩, ⟨by omega, by omega⟩, rfl, ?_⟩)))))⟩
      exact op_ne_same shp_plan ⟨_, rfl, iteF (x_next ⟨_, rfl⟩)⟩
    · rintro Γ ⟨x8, rfl⟩
      exact ⟨_, _, rfl⟩
  rintro Γ ⟨x2, x8, rfl⟩
  refine x_seq (x_for (i_rng2 (a_cons (e_int (a_cons (e_int (a_nil ⟨1, 6, rfl, ⟨by decide, by decide, by decide, by decide⟩, ?_⟩)))))))
  refine ⟨fun i Γ => ∃ x3 x9 x10 x11, Γ = [s0, .res r0, x2, x3, .no, .no, .no, .no, x8, x9, x10, x11, .no], ⟨_, _, _, _, rfl⟩, fun _ _ _ _ => trivial, ?_, ?_⟩
  · rintro i Γ hi ⟨x3, x9, x10, x11, rfl⟩
    have hi5 : i < 5 := hi
    show EvG K (gName 3) (.dat (.int (1 + (i : Int)))) _ _
    generalize hgh : (1 + (i : Int)) = h
    have hh : 1 ≤ h ∧ h ≤ 5 := by omega
    refine g_name (x_for (i_rng2 (a_cons (e_op (e_op (e_dat rfl (e_int (op_fdiv_i (by decide) (e_int (op_add_i (a_cons (e_op (e_dat rfl (e_int (op_add_i (a_nil ⟨h / 2 + 1, h + 1, rfl, ⟨by omega, by omega, by omega, by omega⟩, ?_⟩))))))))))))))))
    refine ⟨fun m Γ => ∃ x9 x10 x11, Γ = [s0, .res r0, x2, .dat (.int h), .no, .no, .no, .no, x8, x9, x10, x11, .no], ⟨_, _, _, rfl⟩, fun _ _ _ _ => trivial, ?_, ?_⟩
    · rintro m Γ hm ⟨x9, x10, x11, rfl⟩
      have hm2 : (m : Int) < h + 1 - (h / 2 + 1) := by omega
      show EvG K (gName 9) (.dat (.int (h / 2 + 1 + (m : Int)))) _ _
      generalize hgn : h / 2 + 1 + (m : Int) = n
      have g : goodHN h n := ⟨hh, by omega, by omega⟩
      refine g_name (x_seq (x_asg (e_call (a_cons (e_dat rfl (a_cons (e_dat rfl (a_nil ⟨h, n, g, rfl, g_name ?_⟩))))))))
      show ExS K _ [s0, .res r0, x2, .dat (.int h), .no, .no, .no, .no, x8, .dat (.int n), .dat (.tuple (iL (evens h n))), x11, .no] _
      refine x_seq (x_if' (b_or' (b_test (e_op (e_call (a_cons (e_dat rfl (a_nil ⟨evens h n, evens_ok g, rfl, e_bl (op_notb ⟨_, rfl, iteF ?_⟩)⟩))))))))
      refine b_or' (b_test (e_op (e_cb (a_cons (e_dat rfl (a_nil (cb_len rfl (e_dat rfl (op_ne_ii ⟨_, rfl, ?_⟩)))))))))
      rw [iL_len, evens_len, decide_eq_true (show ((h.toNat : Nat) : Int) = h by omega)]
      refine iteF (b_test (e_op (e_op (e_dat rfl (e_op (e_dat rfl (e_int (op_sub_i (op_ix_d (d := .tuple (iL (evens h n))) (d' := .int n) rfl (evens_last g) (e_dat rfl (op_ne_ii ⟨_, rfl, ?_⟩)))))))))))
      rw [decide_eq_true rfl]
      refine iteF (x_next (x_seq (x_if' (b_test (e_op (e_call (a_perm (by decide) (a_cons (e_dat rfl (a_cons (e_dat rfl (a_nil ⟨rfl, ?_⟩))))))))))))
      show F_even_votes K [.dat (.int h), .dat (.int n)] _
      refine ⟨h, n, g, rfl, e_dat rfl (op_ne_same shI ⟨_, rfl, iteF (x_next ?_)⟩)⟩
      refine x_seq (x_asg (e_evens (v := 12) hh rfl rfl (by show 12 < 13; decide) (by decide) (by decide) (g_name ?_)))
      show ExS K _ [s0, .res r0, x2, .dat (.int h), .no, .no, .no, .no, x8, .dat (.int n), .dat (.tuple (iL (evens h n))), .dat (.list (iL (evens h n))), .no] _
      refine x_if' (b_test (e_op (e_cb (a_cons (e_dat rfl (a_nil (cb_list rfl (e_dat rfl (op_ne_same (Shp.list (n := 59) shp_ints) ⟨_, rfl, iteF (x_next ⟨_, _, _, rfl⟩)⟩)))))))))
    · rintro Γ ⟨x9, x10, x11, rfl⟩
      exact ⟨_, _, _, _, rfl⟩
  rintro Γ ⟨x3, x9, x10, x11, rfl⟩
  refine x_seq (x_asg (e_callR (a_cons (e_res rfl (a_cons (e_lst' ?_))))))
  refine a_cons (e_neg (e_int ⟨1, rfl, ?_⟩))
  refine a_cons (e_int (a_cons (e_bl (a_cons (e_non (a_cons (e_str ?_)))))))
  refine a_cons (e_tup' (a_cons (e_int (a_nil ⟨[.int 1], rfl, rfl, ?_⟩))))
  refine a_cons (e_lst' (a_cons (e_int (a_nil ⟨[.int 2], rfl, rfl, ?_⟩))))
  refine a_cons (e_op (e_int (e_int (op_pow_i ?_ ?_))))
  · unfold CPow; decide
  refine a_nil ⟨[.int (-1), .int 5, .bool true, .none, .str (PySem.Str.ofString "1"), .tuple [.int 1], .list [.int 2], .int (10 ^ 30)], rfl, rfl, a_nil ⟨r0, [_], rfl, rfl, ?_⟩⟩
  refine u__law_pick hr0 (by omega) ⟨by decide, by decide⟩ fun bad r1 hv1 hp1 hmem => ⟨r1, rfl, hv1, rfl, g_name ?_⟩
  have hbad : wishD bad = false := by
    simp only [List.mem_cons, List.not_mem_nil, or_false] at hmem
    rcases hmem with rfl | rfl | rfl | rfl | rfl | rfl | rfl | rfl <;> decide
  show ExS K _ [s0, .res r1, x2, x3, .dat bad, .no, .no, .no, x8, x9, x10, x11, .no] _
  refine x_seq (x_for (i_sqLam (e_lamLst 0 (by show some s0 = _; rw [e0]) (by decide) fun D zs hz => ⟨L, _, D, zs, rfl, ?_⟩)))
  have hzl : zs.length = 3 := by
    have := congrArg List.length hz
    simpa using this
  refine ⟨fun i Γ => ∃ x5, Γ = [s0, .res r1, x2, x3, .dat bad, x5, .no, .no, x8, x9, x10, x11, .no], ⟨_, rfl⟩, fun _ _ _ _ => trivial, ?_, ?_⟩
  · rintro i Γ hi ⟨x5, rfl⟩
    have hzi : (Lm.at zs i).i = i := by
      have e : zs[i]? = some (Lm.at zs i) := by
        unfold Lm.at
        rw [List.getD_eq_getElem?_getD, List.getElem?_eq_getElem hi]
        rfl
      have e2 : (zs.map (·.i))[i]? = some (Lm.at zs i).i := by rw [List.getElem?_map, e]; rfl
      rw [hz] at e2
      rw [hzl] at hi
      match i, hi, e2 with
      | 0, _, e2 => simpa using e2.symm
      | 1, _, e2 => simpa using e2.symm
      | 2, _, e2 => simpa using e2.symm
    generalize hz0 : Lm.at zs i = z at hzi
    show EvG K _ (.res (lamR L _ (Lm.at zs i))) _ _
    rw [hz0]
    have fin : ∀ a : Addr, ∃ b v : Bool, True := fun _ => ⟨true, true, trivial⟩
    refine g_name (x_if' (b_not (b_tru (e_cb (a_cons (e_caughtV (a_cons (e_lam (z := z) rfl ?_))))))))
    have ends : ∀ (t : XK → TE), (ts_law K)[z.i]? = some t → (∃ ta, t = (fun E => tCall (spX K (orX (F_plan K) (R_plan K))) [] E ta) ∧ ∀ (kk : List Sl → List Sl → Prop), (∀ a b : PyData, (wishD a && wishD b) = false → kk [.dat a, .dat b] [s0, .res r1, x2, x3, .dat bad, .res (lamR L (PySem.Str.ofString "law.<locals>.<lambda>") z), .no, .no, x8, x9, x10, x11, .no]) → EvA K ta [s0, .res r1, x2, x3, .dat bad, .res (lamR L (PySem.Str.ofString "law.<locals>.<lambda>") z), .no, .no, x8, x9, x10, x11, .no] kk) := by
      intro t ht
      rw [hzi] at ht
      rw [hzl] at hi
      match i, hi, ht with
      | 0, _, ht =>
        cases ht
        exact ⟨_, rfl, fun kk hkk => a_cons (e_dat rfl (a_cons (e_int (a_nil (hkk _ _ (by rw [hbad]; rfl))))))⟩
      | 1, _, ht =>
        cases ht
        exact ⟨_, rfl, fun kk hkk => a_cons (e_int (a_cons (e_dat rfl (a_nil (hkk _ _ (by rw [hbad]; rfl))))))⟩
      | 2, _, ht =>
        cases ht
        exact ⟨_, rfl, fun kk hkk => a_cons (e_dat rfl (a_cons (e_non (a_nil (hkk _ _ (by rw [hbad]; rfl))))))⟩
    obtain ⟨t, ht⟩ : ∃ t, (ts_law K)[z.i]? = some t := by
      rw [hzi]
      rw [hzl] at hi
      match i, hi with
      | 0, _ => exact ⟨_, rfl⟩
      | 1, _ => exact ⟨_, rfl⟩
      | 2, _ => exact ⟨_, rfl⟩
    obtain ⟨ta, rfl, hta⟩ := ends t ht
    refine a_nil ⟨z, _, rfl, ht, ev_call (hta _ fun a b hab => .inr ⟨a, b, hab, rfl, He.ga K "BadWish", rfl, T.xm_BadWish, fun ex => ?_⟩)⟩
    exact a_cons (e_c (a_nil (cb_isX T.xc_BadWish T.xk_BadWish_BadWish ⟨_, true, rfl, rfl, iteF (x_next ⟨_, rfl⟩)⟩)))
  · rintro Γ ⟨x5, rfl⟩
    refine x_seq (x_asg (e_callR (a_cons (e_res rfl (a_cons (e_lst' (a_cons (e_int (a_cons (e_int (a_cons (e_bl (a_cons (e_non (a_cons (e_str ?_))))))))))))))))
    refine a_cons (e_neg (e_int ⟨2, rfl, a_nil ⟨[.int 0, .int 6, .bool true, .none, .str (PySem.Str.ofString "3"), .int (-2)], rfl, rfl, a_nil ⟨r1, [_], rfl, rfl, ?_⟩⟩⟩))
    refine u__law_pick hp1 (by omega) ⟨by decide, by decide⟩ fun odd r2 hv2 hp2 hmem2 => ⟨r2, rfl, hv2, rfl, g_name ?_⟩
    have hodd : huesD odd = false := by
      simp only [List.mem_cons, List.not_mem_nil, or_false] at hmem2
      rcases hmem2 with rfl | rfl | rfl | rfl | rfl | rfl <;> decide
    show ExS K _ [s0, .res r2, x2, x3, .dat bad, x5, .dat odd, .no, x8, x9, x10, x11, .no] _
    refine x_seq (x_asg (e_op (e_int (e_callR (a_cons (e_res rfl (a_cons (e_int (a_nil ⟨r2, [_], rfl, rfl, ?_⟩)))))))))
    refine u__law_draw hp2 (by omega) ⟨by decide, by decide⟩ fun q r3 hv3 hp3 q0 q1 => ⟨r3, rfl, hv3, rfl, op_add_i (g_name ?_)⟩
    generalize hgh : 1 + q = h
    have hh : 1 ≤ h ∧ h ≤ 5 := by omega
    show ExS K _ [s0, .res r3, x2, .dat (.int h), .dat bad, x5, .dat odd, .no, x8, x9, x10, x11, .no] _
    refine x_seq (x_asg (e_callR (a_cons (e_res rfl (a_cons (e_lst' (a_cons (e_op (e_dat rfl (e_int (op_fdiv_i (by decide) ?_)))))))))))
    refine a_cons (e_op (e_dat rfl (e_int (op_add_i (a_cons (e_non (a_cons (e_bl (a_cons (e_int ?_)))))))))) 
    refine a_cons (e_neg (e_int ⟨1, rfl, a_nil ⟨[.int (h / 2), .int (h + 1), .none, .bool true, .int 0, .int (-1)], rfl, rfl, a_nil ⟨r3, [_], rfl, rfl, ?_⟩⟩⟩))
    refine u__law_pick hp3 (by omega) ⟨by show 0 < 6; decide, by show 6 < 1000; decide⟩ fun low r4 hv4 hp4 hmem3 => ⟨r4, rfl, hv4, rfl, g_name ?_⟩
    have hpl : plainD low = true := by
      simp only [List.mem_cons, List.not_mem_nil, or_false] at hmem3
      rcases hmem3 with rfl | rfl | rfl | rfl | rfl | rfl <;> rfl
    have hnd : needD h low = false := by
      simp only [List.mem_cons, List.not_mem_nil, or_false] at hmem3
      rcases hmem3 with rfl | rfl | rfl | rfl | rfl | rfl
      · show (decide (h / 2 ≤ h) && decide (h < 2 * (h / 2))) = false
        rw [decide_eq_false (show ¬ h < 2 * (h / 2) by omega), Bool.and_false]
      · show (decide (h + 1 ≤ h) && decide (h < 2 * (h + 1))) = false
        rw [decide_eq_false (show ¬ h + 1 ≤ h by omega), Bool.false_and]
      · rfl
      · rfl
      · show (decide (0 ≤ h) && decide (h < 2 * 0)) = false
        rw [decide_eq_false (show ¬ h < 2 * 0 by omega), Bool.and_false]
      · show (decide (-1 ≤ h) && decide (h < 2 * (-1))) = false
        rw [decide_eq_false (show ¬ h < 2 * (-1) by omega), Bool.and_false]
    show ExS K _ [s0, .res r4, x2, .dat (.int h), .dat bad, x5, .dat odd, .dat low, x8, x9, x10, x11, .no] _
    refine x_seqP (fun Γ => ∃ low : PyData, needD h low = false ∧ Γ = [s0, .res r4, x2, .dat (.int h), .dat bad, x5, .dat odd, .dat low, x8, x9, x10, x11, .no]) ?_ ?_
    · refine x_if' (b_and' (b_test (e_op (e_dat rfl (e_bl (op_isAny hpl ⟨_, rfl, iteB (fun _ => ?_) fun _ => iteF (x_next ⟨low, hnd, rfl⟩)⟩))))))
      refine b_test (e_op (e_dat rfl (e_int (op_eq_ii ⟨_, rfl, iteB (fun _ => ?_) fun _ => x_next ⟨low, hnd, rfl⟩⟩))))
      refine x_asg (e_int (g_name ⟨.int 0, ?_, rfl⟩))
      show (decide (0 ≤ h) && decide (h < 2 * 0)) = false
      rw [decide_eq_false (show ¬ h < 2 * 0 by omega), Bool.and_false]
    · rintro Γ ⟨low, hnd, rfl⟩
      have e0' : [s0, .res r4, x2, .dat (.int h), .dat bad, x5, .dat odd, .dat low, x8, x9, x10, x11, Sl.no][0]? = some (.res (tabR (V.ref a0) (He.cT K ("law", none)).2 (PySem.Str.ofString "law.<locals>.<lambda>") d0)) := by
        show some s0 = _
        rw [e0]
      have hhu : huesD (.int h) = true := by simp [huesD, hh.1, hh.2]
      refine x_seq (x_if' (b_not (b_tru (e_cb (a_cons (e_caught 0 e0' (ev_call (a_cons (e_dat rfl (a_cons (e_dat rfl (a_nil (.inr ⟨odd, low, _, .inl ⟨hodd, rfl⟩, rfl, He.ga K "BadHues", rfl, T.xm_BadHues, fun ex => ?_⟩))))))))))))) 
      refine a_cons (e_c (a_nil (cb_isX T.xc_BadHues T.xk_BadHues_BadHues ⟨_, true, rfl, rfl, iteF (x_next ?_)⟩)))
      refine x_ret (e_cb (a_cons (e_caught 0 e0' (ev_call (a_cons (e_dat rfl (a_cons (e_dat rfl (a_nil (.inr ⟨.int h, low, _, .inr ⟨h, rfl, hhu, hnd, rfl⟩, rfl, He.ga K "BadVotes", rfl, T.xm_BadVotes, fun ex => ?_⟩))))))))))
      exact a_cons (e_c (a_nil (cb_isX T.xc_BadVotes T.xk_BadVotes_BadVotes ⟨_, hk, keep_tab hs0⟩)))
end
end Hw
namespace Hw
open PySem PySem.Spec PyProof.Rows L2 Dl
section
variable {P : Program} {w : World} {K : Frag} {mg : Str → Option Value} {base : Heap}
theorem ok_is_whole (T : TX K mg)  : GCallee P w K mg base "is_whole" 1 ["value"] (spOf K (F_is_whole K)) := by
  refine gcallee_mk T.f_is_whole sc_is_whole (by intro kV doc pm an cdv ct us hl; exact match us, hl with | [_], _ => rfl) T.g_is_whole n_is_whole (t_is_whole K) (b_is_whole T) ?_
  intro cdv A outer s H E hg
  have hr := hg.room
  exact (pss_one (ps_ret ((pe_and (pe_callB cIsi (by rfl) T.n_isinstance (by decide +kernel) (pa_cons (pv 0) (pa_cons (pe_bltn (v := .ty "int") (by rfl) T.n_int (by decide +kernel) rfl) pa_nil))) (pe_one (pe_not (pe_callB cIsi (by rfl) T.n_isinstance (by decide +kernel) (pa_cons (pv 0) (pa_cons (pe_bltn (v := .ty "bool") (by rfl) T.n_bool (by decide +kernel) rfl) pa_nil)))))))))
theorem ok_is_votes (T : TX K mg) (C_is_whole : GCallee P w K mg base "is_whole" 1 ["value"] (spOf K (F_is_whole K))) : GCallee P w K mg base "is_votes" 2 ["value"] (spOf K (F_is_votes K)) := by
  refine gcallee_mk T.f_is_votes sc_is_votes (by intro kV doc pm an cdv ct us hl; exact match us, hl with | [_], _ => rfl) T.g_is_votes n_is_votes (t_is_votes K) (b_is_votes T) ?_
  intro cdv A outer s H E hg
  have hr := hg.room
  exact (pss_cons (ps_if (PW.pt (pw_or (pt_not (pt_truth (pe_callB cIsi (by rfl) T.n_isinstance (by decide +kernel) (pa_cons (pv 0) (pa_cons (pe_bltn (v := .ty "tuple") (by rfl) T.n_tuple (by decide +kernel) rfl) pa_nil))) (fun _ => rfl))) (pw_or1 (pt_not (pt_chain (opLe hr) (opLe hr) (pe_int) (pe_callB call_len (by rfl) T.n_len (by decide +kernel) (pa_cons (pv 0) pa_nil)) (pe_gc (by rfl) T.c_MOST_HUES_codes)))))) (pss_one (ps_ret (pe_bl))) pss_nil) (pss_cons (ps_for PassesOwn.never (by rfl) (pi_enumS (by rfl) T.n_enumerate (pa_cons (pv 0) (pa_cons (pe_int) pa_nil))) (pg_tup (by rfl) (pgs_cons (pg_name (i := 1) sc_is_votes.nd rfl (by first | exact Or.inl rfl | exact Or.inr rfl)) (pgs_cons (pg_name (i := 2) sc_is_votes.nd rfl (by first | exact Or.inl rfl | exact Or.inr rfl)) pgs_nil))) (pss_one (ps_if (PW.pt (pw_or (pt_not (pt_truth (pg_u C_is_whole hg (by decide) (by rfl) (pa_cons (pv 2) pa_nil)) (fun _ => rfl))) (pw_or1 (pt_not (pt_chain (opLt hr) (opLe hr) (pv 1) (pe_op opMul (pe_int) (pv 2)) (pe_op opMul (pe_int) (pv 1))))))) (pss_one (ps_ret (pe_bl))) pss_nil))) (pss_one (ps_ret (pe_bl)))))
theorem ok_plan (T : TX K mg) (C_is_whole : GCallee P w K mg base "is_whole" 1 ["value"] (spOf K (F_is_whole K))) : GCallee P w K mg base "plan" 2 ["told", "whole"] (spOf K (F_plan K)) := by
  refine gcallee_mk T.f_plan sc_plan (by intro kV doc pm an cdv ct us hl; exact match us, hl with | [_, _], _ => rfl) T.g_plan n_plan (t_plan K) (b_plan T) ?_
  intro cdv A outer s H E hg
  have hr := hg.room
  exact (pss_cons (ps_for PassesOwn.never (by rfl) (pi_sq (pe_tup (pa_cons (pv 0) (pa_cons (pv 1) pa_nil)))) (pg_name (i := 2) sc_plan.nd rfl (by first | exact Or.inl rfl | exact Or.inr rfl)) (pss_one (ps_if (PW.pt (pw_or (pt_not (pt_truth (pg_u C_is_whole hg (by decide) (by rfl) (pa_cons (pv 2) pa_nil)) (fun _ => rfl))) (pw_or1 (pt_not (pt_chain (opLe hr) (opLe hr) (pe_int) (pv 2) (pe_int)))))) (pss_one (ps_never)) pss_nil))) (pss_cons (ps_set (i := 3) sc_plan.nd rfl (by first | exact Or.inl rfl | exact Or.inr rfl) (pe_op opAdd (pe_callB cMax (by rfl) T.n_max (by decide +kernel) (pa_cons (pv 0) (pa_cons (pv 1) pa_nil))) (pe_int))) (pss_one (ps_ret (pe_ifExp (pt_cmpR (opLe hr) (pe_op opAdd (pv 3) (pv 1)) (pe_gc (by rfl) T.c_MOST_HUES_thresholds) (nomark _)) (pe_tup (pa_cons (pe_op opAdd (pv 3) (pv 1)) (pa_cons (pv 3) pa_nil))) (pe_non))))))
theorem okX_plan (T : TX K mg) (C_is_whole : GCallee P w K mg base "is_whole" 1 ["value"] (spOf K (F_is_whole K))) : XCallee P w K mg base "plan" 2 ["told", "whole"] (spX K (orX (F_plan K) (R_plan K))) := by
  obtain ⟨fd, FD⟩ := T.f_plan
  refine ⟨_, fd, FnX.or (fng_mk FD sc_plan n_plan (t_plan K) (b_plan T) ?_) (fnx_mk FD sc_plan nx_plan (tx_plan K) (bx_plan T) ?_), T.g_plan, FD.kp, FD.bindsN (by intro kV doc pm an cdv ct us hl; exact match us, hl with | [_, _], _ => rfl)⟩
  · intro cdv A outer s H E hg
    have hr := hg.room
    exact (pss_cons (ps_for PassesOwn.never (by rfl) (pi_sq (pe_tup (pa_cons (pv 0) (pa_cons (pv 1) pa_nil)))) (pg_name (i := 2) sc_plan.nd rfl (by first | exact Or.inl rfl | exact Or.inr rfl)) (pss_one (ps_if (PW.pt (pw_or (pt_not (pt_truth (pg_u C_is_whole hg (by decide) (by rfl) (pa_cons (pv 2) pa_nil)) (fun _ => rfl))) (pw_or1 (pt_not (pt_chain (opLe hr) (opLe hr) (pe_int) (pv 2) (pe_int)))))) (pss_one (ps_never)) pss_nil))) (pss_cons (ps_set (i := 3) sc_plan.nd rfl (by first | exact Or.inl rfl | exact Or.inr rfl) (pe_op opAdd (pe_callB cMax (by rfl) T.n_max (by decide +kernel) (pa_cons (pv 0) (pa_cons (pv 1) pa_nil))) (pe_int))) (pss_one (ps_ret (pe_ifExp (pt_cmpR (opLe hr) (pe_op opAdd (pv 3) (pv 1)) (pe_gc (by rfl) T.c_MOST_HUES_thresholds) (nomark _)) (pe_tup (pa_cons (pe_op opAdd (pv 3) (pv 1)) (pa_cons (pv 3) pa_nil))) (pe_non))))))
  · intro cdv A outer s H E hg
    have hr := hg.room
    exact (pss_cons (ps_for (passes_of rfl) (by rfl) (pi_sq (pe_tup (pa_cons (pv 0) (pa_cons (pv 1) pa_nil)))) (pg_name (i := 2) sc_plan.nd rfl (by first | exact Or.inl rfl | exact Or.inr rfl)) (pss_one (ps_if (PW.pt (pw_or (pt_not (pt_truth (pg_u C_is_whole hg (by decide) (by rfl) (pa_cons (pv 2) pa_nil)) (fun _ => rfl))) (pw_or1 (pt_not (pt_chain (opLe hr) (opLe hr) (pe_int) (pv 2) (pe_int)))))) (pss_one (ps_raise rfl (takes_of rfl rfl rfl rfl) (pmk_own PySem.F.excBase_ValueError T.x_BadWish.1 T.g_BadWish T.x_BadWish.2.1 (raises_own T.x_BadWish.2.2.1 T.x_BadWish.2.2.2) (by rfl)))) pss_nil))) (pss_cons (ps_set (i := 3) sc_plan.nd rfl (by first | exact Or.inl rfl | exact Or.inr rfl) (pe_op opAdd (pe_callB cMax (by rfl) T.n_max (by decide +kernel) (pa_cons (pv 0) (pa_cons (pv 1) pa_nil))) (pe_int))) (pss_one (ps_ret (pe_ifExp (pt_cmpR (opLe hr) (pe_op opAdd (pv 3) (pv 1)) (pe_gc (by rfl) T.c_MOST_HUES_thresholds) (nomark _)) (pe_tup (pa_cons (pe_op opAdd (pv 3) (pv 1)) (pa_cons (pv 3) pa_nil))) (pe_non))))))
theorem okK_plan (T : TX K mg) (C_is_whole : GCallee P w K mg base "is_whole" 1 ["value"] (spOf K (F_is_whole K))) : GCalleeK P w K mg base "plan" 2 ["told", "whole"] ["whole", "told"] [1, 0] (spOf K (F_plan K)) := by
  refine gcalleeK_mk T.f_plan sc_plan (by intro kV doc pm an cdv ct ws hl; exact match ws, hl with | [_, _], _ => rfl) T.g_plan n_plan (t_plan K) (b_plan T) ?_
  intro cdv A outer s H E hg
  have hr := hg.room
  exact (pss_cons (ps_for PassesOwn.never (by rfl) (pi_sq (pe_tup (pa_cons (pv 0) (pa_cons (pv 1) pa_nil)))) (pg_name (i := 2) sc_plan.nd rfl (by first | exact Or.inl rfl | exact Or.inr rfl)) (pss_one (ps_if (PW.pt (pw_or (pt_not (pt_truth (pg_u C_is_whole hg (by decide) (by rfl) (pa_cons (pv 2) pa_nil)) (fun _ => rfl))) (pw_or1 (pt_not (pt_chain (opLe hr) (opLe hr) (pe_int) (pv 2) (pe_int)))))) (pss_one (ps_never)) pss_nil))) (pss_cons (ps_set (i := 3) sc_plan.nd rfl (by first | exact Or.inl rfl | exact Or.inr rfl) (pe_op opAdd (pe_callB cMax (by rfl) T.n_max (by decide +kernel) (pa_cons (pv 0) (pa_cons (pv 1) pa_nil))) (pe_int))) (pss_one (ps_ret (pe_ifExp (pt_cmpR (opLe hr) (pe_op opAdd (pv 3) (pv 1)) (pe_gc (by rfl) T.c_MOST_HUES_thresholds) (nomark _)) (pe_tup (pa_cons (pe_op opAdd (pv 3) (pv 1)) (pa_cons (pv 3) pa_nil))) (pe_non))))))
theorem ok_even_votes (T : TX K mg) (C_is_whole : GCallee P w K mg base "is_whole" 1 ["value"] (spOf K (F_is_whole K))) : GCallee P w K mg base "even_votes" 2 ["hues", "need"] (spOf K (F_even_votes K)) := by
  refine gcallee_mk T.f_even_votes sc_even_votes (by intro kV doc pm an cdv ct us hl; exact match us, hl with | [_, _], _ => rfl) T.g_even_votes n_even_votes (t_even_votes K) (b_even_votes T) ?_
  intro cdv A outer s H E hg
  have hr := hg.room
  exact (pss_cons (ps_if (PW.pt (pw_or (pt_not (pt_truth (pg_u C_is_whole hg (by decide) (by rfl) (pa_cons (pv 0) pa_nil)) (fun _ => rfl))) (pw_or1 (pt_not (pt_chain (opLe hr) (opLe hr) (pe_int) (pv 0) (pe_gc (by rfl) T.c_MOST_HUES_thresholds)))))) (pss_one (ps_never)) pss_nil) (pss_cons (ps_if (PW.pt (pw_or (pt_not (pt_truth (pg_u C_is_whole hg (by decide) (by rfl) (pa_cons (pv 1) pa_nil)) (fun _ => rfl))) (pw_or1 (pt_not (pt_chain (opLe hr) (opLt hr) (pv 1) (pv 0) (pe_op opMul (pe_int) (pv 1))))))) (pss_one (ps_never)) pss_nil) (pss_one (ps_ret (pe_callTy cTuple (by rfl) T.n_tuple (by decide +kernel) (pa_cons (pe_lc (own := [("width", 2)]) (g := gName 2) (tt := tYes) (by rfl) sc_even_votes.nd (pi_range2 (by rfl) T.n_range (pa_cons (pe_int) (pa_cons (pe_op opAdd (pv 0) (pe_int)) pa_nil))) (blkOk_by (own := [("width", 2)]) (N := ["hues", "need", "width"]) (sc := defScope s_even_votes) (by decide +kernel)) (fun _ _ _ _ _ => pg_name (i := 2) sc_even_votes.nd rfl (by first | exact Or.inl rfl | exact Or.inr rfl)) (fun _ _ _ _ _ => pts_nil) (fun _ _ _ _ _ => (pe_callB cMax (by rfl) T.n_max (by decide +kernel) (pa_cons (pe_op opAdd (pe_op opFDiv (pv 2) (pe_int)) (pe_int)) (pa_cons (pe_op opSub (pv 2) (pe_op opSub (pv 0) (pv 1))) pa_nil))))) pa_nil))))))
theorem okX_even_votes (T : TX K mg) (C_is_whole : GCallee P w K mg base "is_whole" 1 ["value"] (spOf K (F_is_whole K))) : XCallee P w K mg base "even_votes" 2 ["hues", "need"] (spX K (orX (F_even_votes K) (R_even_votes K))) := by
  obtain ⟨fd, FD⟩ := T.f_even_votes
  refine ⟨_, fd, FnX.or (fng_mk FD sc_even_votes n_even_votes (t_even_votes K) (b_even_votes T) ?_) (fnx_mk FD sc_even_votes nx_even_votes (tx_even_votes K) (bx_even_votes T) ?_), T.g_even_votes, FD.kp, FD.bindsN (by intro kV doc pm an cdv ct us hl; exact match us, hl with | [_, _], _ => rfl)⟩
  · intro cdv A outer s H E hg
    have hr := hg.room
    exact (pss_cons (ps_if (PW.pt (pw_or (pt_not (pt_truth (pg_u C_is_whole hg (by decide) (by rfl) (pa_cons (pv 0) pa_nil)) (fun _ => rfl))) (pw_or1 (pt_not (pt_chain (opLe hr) (opLe hr) (pe_int) (pv 0) (pe_gc (by rfl) T.c_MOST_HUES_thresholds)))))) (pss_one (ps_never)) pss_nil) (pss_cons (ps_if (PW.pt (pw_or (pt_not (pt_truth (pg_u C_is_whole hg (by decide) (by rfl) (pa_cons (pv 1) pa_nil)) (fun _ => rfl))) (pw_or1 (pt_not (pt_chain (opLe hr) (opLt hr) (pv 1) (pv 0) (pe_op opMul (pe_int) (pv 1))))))) (pss_one (ps_never)) pss_nil) (pss_one (ps_ret (pe_callTy cTuple (by rfl) T.n_tuple (by decide +kernel) (pa_cons (pe_lc (own := [("width", 2)]) (g := gName 2) (tt := tYes) (by rfl) sc_even_votes.nd (pi_range2 (by rfl) T.n_range (pa_cons (pe_int) (pa_cons (pe_op opAdd (pv 0) (pe_int)) pa_nil))) (blkOk_by (own := [("width", 2)]) (N := ["hues", "need", "width"]) (sc := defScope s_even_votes) (by decide +kernel)) (fun _ _ _ _ _ => pg_name (i := 2) sc_even_votes.nd rfl (by first | exact Or.inl rfl | exact Or.inr rfl)) (fun _ _ _ _ _ => pts_nil) (fun _ _ _ _ _ => (pe_callB cMax (by rfl) T.n_max (by decide +kernel) (pa_cons (pe_op opAdd (pe_op opFDiv (pv 2) (pe_int)) (pe_int)) (pa_cons (pe_op opSub (pv 2) (pe_op opSub (pv 0) (pv 1))) pa_nil))))) pa_nil))))))
  · intro cdv A outer s H E hg
    have hr := hg.room
    exact (pss_cons (ps_if (PW.pt (pw_or (pt_not (pt_truth (pg_u C_is_whole hg (by decide) (by rfl) (pa_cons (pv 0) pa_nil)) (fun _ => rfl))) (pw_or1 (pt_not (pt_chain (opLe hr) (opLe hr) (pe_int) (pv 0) (pe_gc (by rfl) T.c_MOST_HUES_thresholds)))))) (pss_one (ps_raise rfl (takes_of rfl rfl rfl rfl) (pmk_own PySem.F.excBase_ValueError T.x_BadHues.1 T.g_BadHues T.x_BadHues.2.1 (raises_own T.x_BadHues.2.2.1 T.x_BadHues.2.2.2) (by rfl)))) pss_nil) (pss_cons (ps_if (PW.pt (pw_or (pt_not (pt_truth (pg_u C_is_whole hg (by decide) (by rfl) (pa_cons (pv 1) pa_nil)) (fun _ => rfl))) (pw_or1 (pt_not (pt_chain (opLe hr) (opLt hr) (pv 1) (pv 0) (pe_op opMul (pe_int) (pv 1))))))) (pss_one (ps_raise rfl (takes_of rfl rfl rfl rfl) (pmk_own PySem.F.excBase_ValueError T.x_BadVotes.1 T.g_BadVotes T.x_BadVotes.2.1 (raises_own T.x_BadVotes.2.2.1 T.x_BadVotes.2.2.2) (by rfl)))) pss_nil) (pss_one (ps_ret (pe_callTy cTuple (by rfl) T.n_tuple (by decide +kernel) (pa_cons (pe_lc (own := [("width", 2)]) (g := gName 2) (tt := tYes) (by rfl) sc_even_votes.nd (pi_range2 (by rfl) T.n_range (pa_cons (pe_int) (pa_cons (pe_op opAdd (pv 0) (pe_int)) pa_nil))) (blkOk_by (own := [("width", 2)]) (N := ["hues", "need", "width"]) (sc := defScope s_even_votes) (by decide +kernel)) (fun _ _ _ _ _ => pg_name (i := 2) sc_even_votes.nd rfl (by first | exact Or.inl rfl | exact Or.inr rfl)) (fun _ _ _ _ _ => pts_nil) (fun _ _ _ _ _ => (pe_callB cMax (by rfl) T.n_max (by decide +kernel) (pa_cons (pe_op opAdd (pe_op opFDiv (pv 2) (pe_int)) (pe_int)) (pa_cons (pe_op opSub (pv 2) (pe_op opSub (pv 0) (pv 1))) pa_nil))))) pa_nil))))))
theorem okK_even_votes (T : TX K mg) (C_is_whole : GCallee P w K mg base "is_whole" 1 ["value"] (spOf K (F_is_whole K))) : GCalleeK P w K mg base "even_votes" 2 ["hues", "need"] ["need", "hues"] [1, 0] (spOf K (F_even_votes K)) := by
  refine gcalleeK_mk T.f_even_votes sc_even_votes (by intro kV doc pm an cdv ct ws hl; exact match ws, hl with | [_, _], _ => rfl) T.g_even_votes n_even_votes (t_even_votes K) (b_even_votes T) ?_
  intro cdv A outer s H E hg
  have hr := hg.room
  exact (pss_cons (ps_if (PW.pt (pw_or (pt_not (pt_truth (pg_u C_is_whole hg (by decide) (by rfl) (pa_cons (pv 0) pa_nil)) (fun _ => rfl))) (pw_or1 (pt_not (pt_chain (opLe hr) (opLe hr) (pe_int) (pv 0) (pe_gc (by rfl) T.c_MOST_HUES_thresholds)))))) (pss_one (ps_never)) pss_nil) (pss_cons (ps_if (PW.pt (pw_or (pt_not (pt_truth (pg_u C_is_whole hg (by decide) (by rfl) (pa_cons (pv 1) pa_nil)) (fun _ => rfl))) (pw_or1 (pt_not (pt_chain (opLe hr) (opLt hr) (pv 1) (pv 0) (pe_op opMul (pe_int) (pv 1))))))) (pss_one (ps_never)) pss_nil) (pss_one (ps_ret (pe_callTy cTuple (by rfl) T.n_tuple (by decide +kernel) (pa_cons (pe_lc (own := [("width", 2)]) (g := gName 2) (tt := tYes) (by rfl) sc_even_votes.nd (pi_range2 (by rfl) T.n_range (pa_cons (pe_int) (pa_cons (pe_op opAdd (pv 0) (pe_int)) pa_nil))) (blkOk_by (own := [("width", 2)]) (N := ["hues", "need", "width"]) (sc := defScope s_even_votes) (by decide +kernel)) (fun _ _ _ _ _ => pg_name (i := 2) sc_even_votes.nd rfl (by first | exact Or.inl rfl | exact Or.inr rfl)) (fun _ _ _ _ _ => pts_nil) (fun _ _ _ _ _ => (pe_callB cMax (by rfl) T.n_max (by decide +kernel) (pa_cons (pe_op opAdd (pe_op opFDiv (pv 2) (pe_int)) (pe_int)) (pa_cons (pe_op opSub (pv 2) (pe_op opSub (pv 0) (pv 1))) pa_nil))))) pa_nil))))))
theorem ok__law_begun (T : TX K mg)  : GCallee P w K mg base "_law_begun" 1 ["_law_script"] (spOf K (F__law_begun K)) := by
  refine gcallee_mk T.f__law_begun sc__law_begun (by intro kV doc pm an cdv ct us hl; exact match us, hl with | [_], _ => rfl) T.g__law_begun n__law_begun (t__law_begun K) (b__law_begun ) ?_
  intro cdv A outer s H E hg
  have hr := hg.room
  exact (pss_cons (ps_setLc (i := 1) (own := [("_law_cell", 2)]) (g := gName 2) (tt := (tTest (tOp (uGe K) (tCB (rAbs K) (tCons (tVar 2) tNil)) (tOp (uPow K) (tC (.int 10)) (tC (.int 18)))))) (by rfl) sc__law_begun.nd rfl rfl (sw_true rfl rfl rfl (by decide +kernel)) (pi_sq (pv 0)) (blkOk_by (own := [("_law_cell", 2)]) (N := ["_law_script", "_law_great", "_law_cell"]) (sc := defScope s__law_begun) (by decide +kernel)) (fun _ _ _ _ _ => pg_name (i := 2) sc__law_begun.nd rfl (by first | exact Or.inl rfl | exact Or.inr rfl)) (fun _ _ _ _ _ => (pts_one (pt_cmpR (opGe hr) (pe_callB call_abs (by rfl) T.n_abs (by decide +kernel) (pa_cons (pv 2) pa_nil)) (pe_op opPow (pe_int) (pe_int)) (nomark _)))) (fun _ _ _ _ _ => (pe_op opSub (pe_callB call_abs (by rfl) T.n_abs (by decide +kernel) (pa_cons (pv 2) pa_nil)) (pe_op opPow (pe_int) (pe_int))))) (pss_one (ps_ret (pe_disp (pps_cons (pe_str) (pv 1) (pps_cons (pe_str) (pe_lc (own := [("_law_cell", 2)]) (g := gName 2) (tt := tYes) (by rfl) sc__law_begun.nd (pi_sq (pv 0)) (blkOk_by (own := [("_law_cell", 2)]) (N := ["_law_script", "_law_great", "_law_cell"]) (sc := defScope s__law_begun) (by decide +kernel)) (fun _ _ _ _ _ => pg_name (i := 2) sc__law_begun.nd rfl (by first | exact Or.inl rfl | exact Or.inr rfl)) (fun _ _ _ _ _ => pts_nil) (fun _ _ _ _ _ => (pe_callB call_abs (by rfl) T.n_abs (by decide +kernel) (pa_cons (pv 2) pa_nil)))) (pps_cons (pe_str) (pe_int) (pps_cons (pe_str) (pe_int) pps_nil)))) (by rfl) (by rfl) (fun z => by cases z) (by decide)))))
theorem ok__law_mixed (T : TX K mg)  : GCallee P w K mg base "_law_mixed" 1 ["_law_state"] (spOf K (F__law_mixed K)) := by
  refine gcallee_mk T.f__law_mixed sc__law_mixed (by intro kV doc pm an cdv ct us hl; exact match us, hl with | [_], _ => rfl) T.g__law_mixed n__law_mixed (t__law_mixed K) (b__law_mixed ) ?_
  intro cdv A outer s H E hg
  have hr := hg.room
  exact (pss_cons (ps_par (i := 2) (j := 3) (by rfl) sc__law_mixed.nd rfl rfl (by decide) rfl rfl (pa_cons (pe_op opAdd (pe_dget (hu_of hr) (pv 0) (pe_str) (fun _ _ => rfl)) (pe_int)) (pa_cons (pe_int) pa_nil)) (by rfl)) (pss_cons (ps_dput (hu_of hr) (pv 0) (pe_str) (pv 2) rfl) (pss_cons (ps_for PassesOwn.never (by rfl) (pi_sq (pe_lst (pa_cons (pe_int) (pa_cons (pe_int) (pa_cons (pe_int) (pa_cons (pe_int) pa_nil)))))) (pg_name (i := 1) sc__law_mixed.nd rfl (by first | exact Or.inl rfl | exact Or.inr rfl)) (pss_cons (ps_set (i := 4) sc__law_mixed.nd rfl (by first | exact Or.inl rfl | exact Or.inr rfl) (pe_op opAdd (pe_op opMul (pe_int) (pv 2)) (pe_op opFDiv (pv 1) (pe_int)))) (pss_cons (ps_for PassesOwn.never (by rfl) (pi_sq (pe_dget (hu_of hr) (pv 0) (pe_str) (fun _ _ => rfl))) (pg_name (i := 5) sc__law_mixed.nd rfl (by first | exact Or.inl rfl | exact Or.inr rfl)) (pss_one (ps_set (i := 4) sc__law_mixed.nd rfl (by first | exact Or.inl rfl | exact Or.inr rfl) (pe_op opMod (pe_callTy call_int1 (by rfl) T.n_int (by decide +kernel) (pa_cons (pe_op opAdd (pe_op opAdd (pe_op opMul (pv 4) (pe_int)) (pv 5)) (pv 2)) pa_nil)) (pv 1))))) (pss_one (ps_set (i := 3) sc__law_mixed.nd rfl (by first | exact Or.inl rfl | exact Or.inr rfl) (pe_op opAdd (pe_op opMul (pv 3) (pe_int)) (pe_op opMod (pe_callTy call_int1 (by rfl) T.n_int (by decide +kernel) (pa_cons (pe_op opPow (pv 4) (pe_int)) pa_nil)) (pv 1)))))))) (pss_one (ps_ret (pv 3))))))
theorem ok__law_draw (T : TX K mg) (C__law_mixed : GCallee P w K mg base "_law_mixed" 1 ["_law_state"] (spOf K (F__law_mixed K))) : GCallee P w K mg base "_law_draw" 2 ["_law_state", "_law_room"] (spOf K (F__law_draw K)) := by
  refine gcallee_mk T.f__law_draw sc__law_draw (by intro kV doc pm an cdv ct us hl; exact match us, hl with | [_, _], _ => rfl) T.g__law_draw n__law_draw (t__law_draw K) (b__law_draw ) ?_
  intro cdv A outer s H E hg
  have hr := hg.room
  exact (pss_cons (ps_if (pt_cmpR (opEq hr) (pe_dget (hu_of hr) (pv 0) (pe_str) (fun _ _ => rfl)) (pe_int) (nomark _)) (pss_one (ps_dput (hu_of hr) (pv 0) (pe_str) (pe_ifExp (pt_cmpR (opNe hr) (pe_dget (hu_of hr) (pv 0) (pe_str) (fun _ _ => rfl)) (pe_lst pa_nil) (nomark _)) (pe_bm PySem.F.plainAttrs_list PySem.F.slot_list_pop PySem.F.type_list_pop mt_popAt (pe_dget (hu_of hr) (pv 0) (pe_str) (fun _ _ => rfl)) (pa_cons (pe_int) pa_nil)) (pg_u C__law_mixed hg (by decide) (by rfl) (pa_cons (pv 0) pa_nil))) rfl)) pss_nil) (pss_cons (ps_set (i := 2) sc__law_draw.nd rfl (by first | exact Or.inl rfl | exact Or.inr rfl) (pe_op opMod (pe_callTy call_int1 (by rfl) T.n_int (by decide +kernel) (pa_cons (pe_dget (hu_of hr) (pv 0) (pe_str) (fun _ _ => rfl)) pa_nil)) (pv 1))) (pss_cons (ps_dput (hu_of hr) (pv 0) (pe_str) (pe_op opFDiv (pe_dget (hu_of hr) (pv 0) (pe_str) (fun _ _ => rfl)) (pv 1)) rfl) (pss_one (ps_ret (pv 2))))))
theorem ok__law_pick (T : TX K mg) (C__law_draw : GCallee P w K mg base "_law_draw" 2 ["_law_state", "_law_room"] (spOf K (F__law_draw K))) : GCallee P w K mg base "_law_pick" 3 ["_law_state", "_law_some"] (spOf K (F__law_pick K)) := by
  refine gcallee_mk T.f__law_pick sc__law_pick (by intro kV doc pm an cdv ct us hl; exact match us, hl with | [_, _], _ => rfl) T.g__law_pick n__law_pick (t__law_pick K) (b__law_pick ) ?_
  intro cdv A outer s H E hg
  have hr := hg.room
  exact (pss_one (ps_ret (pe_ix ixU (pv 1) (pg_u C__law_draw hg (by decide) (by rfl) (pa_cons (pv 0) (pa_cons (pe_callB call_len (by rfl) T.n_len (by decide +kernel) (pa_cons (pv 1) pa_nil)) pa_nil))) (fun _ _ => rfl))))
theorem ok__law_least_plan (T : TX K mg)  : GCallee P w K mg base "_law_least_plan" 1 ["_law_told", "_law_whole"] (spOf K (F__law_least_plan K)) := by
  refine gcallee_mk T.f__law_least_plan sc__law_least_plan (by intro kV doc pm an cdv ct us hl; exact match us, hl with | [_, _], _ => rfl) T.g__law_least_plan n__law_least_plan (t__law_least_plan K) (b__law_least_plan T) ?_
  intro cdv A outer s H E hg
  have hr := hg.room
  exact (pss_cons (ps_for PassesOwn.never (by rfl) (pi_range2 (by rfl) T.n_range (pa_cons (pe_int) (pa_cons (pe_int) pa_nil))) (pg_name (i := 2) sc__law_least_plan.nd rfl (by first | exact Or.inl rfl | exact Or.inr rfl)) (pss_one (ps_for PassesOwn.never (by rfl) (pi_range2 (by rfl) T.n_range (pa_cons (pe_op opAdd (pe_op opFDiv (pv 2) (pe_int)) (pe_int)) (pa_cons (pe_op opAdd (pv 2) (pe_int)) pa_nil))) (pg_name (i := 3) sc__law_least_plan.nd rfl (by first | exact Or.inl rfl | exact Or.inr rfl)) (pss_one (ps_if (PW.pt (pw_and (pt_cmpR (opGe hr) (pe_op opSub (pv 3) (pe_int)) (pv 0) (nomark _)) (pw_and1 (pt_cmpR (opGe hr) (pe_op opSub (pv 2) (pv 3)) (pv 1) (nomark _))))) (pss_one (ps_ret (pe_tup (pa_cons (pv 2) (pa_cons (pv 3) pa_nil))))) pss_nil))))) (pss_one (ps_ret (pe_non))))
end
end Hw
namespace Hw
open PySem PySem.Spec PyProof.Rows L2 Dl
theorem ok_law {P : Program} {w : World} {K : Frag} {mg : Str → Option Value} {base : Heap} {fd : FuncData} (T : TX K mg) (TB : LamX.TabB base mg (He.cT K ("law", none)).1 (He.cT K ("law", none)).2) (F : FunD K "law" "law" (defArgs s_law) (defBody s_law) (defScope s_law) [] [] (He.fAd K ("law", none)) fd) (C__law_begun : GCallee P w K mg base "_law_begun" 1 ["_law_script"] (spOf K (F__law_begun K))) (CK_plan : GCalleeK P w K mg base "plan" 2 ["told", "whole"] ["whole", "told"] [1, 0] (spOf K (F_plan K))) (C_plan : GCallee P w K mg base "plan" 2 ["told", "whole"] (spOf K (F_plan K))) (C__law_least_plan : GCallee P w K mg base "_law_least_plan" 1 ["_law_told", "_law_whole"] (spOf K (F__law_least_plan K))) (C_even_votes : GCallee P w K mg base "even_votes" 2 ["hues", "need"] (spOf K (F_even_votes K))) (C_is_votes : GCallee P w K mg base "is_votes" 2 ["value"] (spOf K (F_is_votes K))) (CK_even_votes : GCalleeK P w K mg base "even_votes" 2 ["hues", "need"] ["need", "hues"] [1, 0] (spOf K (F_even_votes K))) (C__law_pick : GCallee P w K mg base "_law_pick" 3 ["_law_state", "_law_some"] (spOf K (F__law_pick K))) (CX_plan : XCallee P w K mg base "plan" 2 ["told", "whole"] (spX K (orX (F_plan K) (R_plan K)))) (C__law_draw : GCallee P w K mg base "_law_draw" 2 ["_law_state", "_law_room"] (spOf K (F__law_draw K))) (CX_even_votes : XCallee P w K mg base "even_votes" 2 ["hues", "need"] (spX K (orX (F_even_votes K) (R_even_votes K)))) : FnG P w K mg base 6 (He.fAd K ("law", none)) fd ["_law_script"] (spOf K (F_law K)) := by
  refine fng_mkL F sc_law n_law (fun L => t_law K L) (b_law T) ?_
  intro A outer s H E hg
  have hr := hg.room
  apply exCons
  apply exCons
  apply exCons
  apply exNil
  refine (pss_cons (ps_set (i := 1) sc_law.nd rfl (by first | exact Or.inl rfl | exact Or.inr rfl) (pg_u C__law_begun hg (by decide) (by rfl) (pa_cons (pv 0) pa_nil))) (pss_cons (ps_for PassesOwn.never (by rfl) (pi_range1 (by rfl) T.n_range (pa_cons (pe_int) pa_nil)) (pg_name (i := 2) sc_law.nd rfl (by first | exact Or.inl rfl | exact Or.inr rfl)) (pss_one (ps_for PassesOwn.never (by rfl) (pi_range1 (by rfl) T.n_range (pa_cons (pe_int) pa_nil)) (pg_name (i := 8) sc_law.nd rfl (by first | exact Or.inl rfl | exact Or.inr rfl)) (pss_one (ps_if (PW.pt (pw_or (pt_cmpR (opNe hr) (pg_u C_plan hg (by decide) (by rfl) (pa_cons (pv 2) (pa_cons (pv 8) pa_nil))) (pg_u C__law_least_plan hg (by decide) (by rfl) (pa_cons (pv 2) (pa_cons (pv 8) pa_nil))) (nomark _)) (pw_or1 (pt_cmpR (opNe hr) (pg_uk CK_plan hg (by decide) (by rfl) (pk_cons (pv 8) (pk_cons (pv 2) pk_nil)) (by rfl) (by rfl) (by rfl) rfl) (pg_u C_plan hg (by decide) (by rfl) (pa_cons (pv 2) (pa_cons (pv 8) pa_nil))) (nomark _))))) (pss_one (ps_ret (pe_bl))) pss_nil))))) (pss_cons (ps_for PassesOwn.never (by rfl) (pi_range2 (by rfl) T.n_range (pa_cons (pe_int) (pa_cons (pe_int) pa_nil))) (pg_name (i := 3) sc_law.nd rfl (by first | exact Or.inl rfl | exact Or.inr rfl)) (pss_one (ps_for PassesOwn.never (by rfl) (pi_range2 (by rfl) T.n_range (pa_cons (pe_op opAdd (pe_op opFDiv (pv 3) (pe_int)) (pe_int)) (pa_cons (pe_op opAdd (pv 3) (pe_int)) pa_nil))) (pg_name (i := 9) sc_law.nd rfl (by first | exact Or.inl rfl | exact Or.inr rfl)) (pss_cons (ps_set (i := 10) sc_law.nd rfl (by first | exact Or.inl rfl | exact Or.inr rfl) (pg_u C_even_votes hg (by decide) (by rfl) (pa_cons (pv 3) (pa_cons (pv 9) pa_nil)))) (pss_cons (ps_if (PW.pt (pw_or (pt_cmpR (opIsNot hr) (pg_u C_is_votes hg (by decide) (by rfl) (pa_cons (pv 10) pa_nil)) (pe_bl) (nomark _)) (pw_or (pt_cmpR (opNe hr) (pe_callB call_len (by rfl) T.n_len (by decide +kernel) (pa_cons (pv 10) pa_nil)) (pv 3) (nomark _)) (pw_or1 (pt_cmpR (opNe hr) (pe_ix ixU (pv 10) (pe_op opSub (pv 3) (pe_int)) (fun _ _ => rfl)) (pv 9) (nomark _)))))) (pss_one (ps_ret (pe_bl))) pss_nil) (pss_cons (ps_if (pt_cmpR (opNe hr) (pg_uk CK_even_votes hg (by decide) (by rfl) (pk_cons (pv 9) (pk_cons (pv 3) pk_nil)) (by rfl) (by rfl) (by rfl) rfl) (pv 10) (nomark _)) (pss_one (ps_ret (pe_bl))) pss_nil) (pss_cons (ps_setLc (i := 11) (own := [("_law_width", 12)]) (g := gName 12) (tt := tYes) (by rfl) sc_law.nd rfl rfl (sw_true rfl rfl rfl (by decide +kernel)) (pi_range2 (by rfl) T.n_range (pa_cons (pe_int) (pa_cons (pe_op opAdd (pv 3) (pe_int)) pa_nil))) (blkOk_by (own := [("_law_width", 12)]) (N := ["_law_script", "_law_state", "_law_told", "_law_hues", "_law_bad", "_law_task", "_law_odd", "_law_low", "_law_whole", "_law_need", "_law_votes", "_law_due", "_law_width"]) (sc := defScope s_law) (by decide +kernel)) (fun _ _ _ _ _ => pg_name (i := 12) sc_law.nd rfl (by first | exact Or.inl rfl | exact Or.inr rfl)) (fun _ _ _ _ _ => pts_nil) (fun _ _ _ _ _ => (pe_callB cMax (by rfl) T.n_max (by decide +kernel) (pa_cons (pe_op opAdd (pe_op opFDiv (pv 12) (pe_int)) (pe_int)) (pa_cons (pe_op opSub (pv 12) (pe_op opSub (pv 3) (pv 9))) pa_nil))))) (pss_one (ps_if (pt_cmpR (opNe hr) (pe_callTy cList (by rfl) T.n_list (by decide +kernel) (pa_cons (pv 10) pa_nil)) (pv 11) (nomark _)) (pss_one (ps_ret (pe_bl))) pss_nil))))))))) (pss_cons (ps_set (i := 4) sc_law.nd rfl (by first | exact Or.inl rfl | exact Or.inr rfl) (pg_u C__law_pick hg (by decide) (by rfl) (pa_cons (pv 1) (pa_cons (pe_lst (pa_cons (pe_un un_neg (pe_int)) (pa_cons (pe_int) (pa_cons (pe_bl) (pa_cons (pe_non) (pa_cons (pe_str) (pa_cons (pe_tup (pa_cons (pe_int) pa_nil)) (pa_cons (pe_lst (pa_cons (pe_int) pa_nil)) (pa_cons (pe_op opPow (pe_int) (pe_int)) pa_nil))))))))) pa_nil)))) (pss_cons (ps_for PassesOwn.never (by rfl) (pi_sq (pe_lst (pa_cons (pg_lamV (i := 0) rfl TB rfl rfl rfl (LamX.lamS_by (sc := defScope s_law) (by decide +kernel)) rfl rfl) (pa_cons (pg_lamV (i := 1) rfl TB rfl rfl rfl (LamX.lamS_by (sc := defScope s_law) (by decide +kernel)) rfl rfl) (pa_cons (pg_lamV (i := 2) rfl TB rfl rfl rfl (LamX.lamS_by (sc := defScope s_law) (by decide +kernel)) rfl rfl) pa_nil))))) (pg_name (i := 5) sc_law.nd rfl (by first | exact Or.inl rfl | exact Or.inr rfl)) (pss_one (ps_if (pt_not (pt_truth (pe_callB cIsX (by rfl) T.n_isinstance (by decide +kernel) (pa_cons (pg_caughtV T.f__law_caught (by intro kV doc pm an cdv ct us hl; exact match us, hl with | [_], _ => rfl) ⟨_, _, _, _, _, _, _, _, _, _, _, _, _, _, _, rfl⟩ sc__law_caught (by decide +kernel) (by decide +kernel) (by decide +kernel) (by decide +kernel) T.g_HueError (by rfl) T.g__law_caught (hg.mono (by decide)) (pa_cons (pv 5) pa_nil) (k := 3) ?lok1) (pa_cons (pe_gc (by rfl) T.c_BadWish) pa_nil))) (fun _ => rfl))) (pss_one (ps_ret (pe_bl))) pss_nil))) (pss_cons (ps_set (i := 6) sc_law.nd rfl (by first | exact Or.inl rfl | exact Or.inr rfl) (pg_u C__law_pick hg (by decide) (by rfl) (pa_cons (pv 1) (pa_cons (pe_lst (pa_cons (pe_int) (pa_cons (pe_int) (pa_cons (pe_bl) (pa_cons (pe_non) (pa_cons (pe_str) (pa_cons (pe_un un_neg (pe_int)) pa_nil))))))) pa_nil)))) (pss_cons (ps_set (i := 3) sc_law.nd rfl (by first | exact Or.inl rfl | exact Or.inr rfl) (pe_op opAdd (pe_int) (pg_u C__law_draw hg (by decide) (by rfl) (pa_cons (pv 1) (pa_cons (pe_int) pa_nil))))) (pss_cons (ps_set (i := 7) sc_law.nd rfl (by first | exact Or.inl rfl | exact Or.inr rfl) (pg_u C__law_pick hg (by decide) (by rfl) (pa_cons (pv 1) (pa_cons (pe_lst (pa_cons (pe_op opFDiv (pv 3) (pe_int)) (pa_cons (pe_op opAdd (pv 3) (pe_int)) (pa_cons (pe_non) (pa_cons (pe_bl) (pa_cons (pe_int) (pa_cons (pe_un un_neg (pe_int)) pa_nil))))))) pa_nil)))) (pss_cons (ps_if (PW.pt (pw_and (pt_cmpR (opIsX hr) (pv 7) (pe_bl) (nomark _)) (pw_and1 (pt_cmpR (opEq hr) (pv 3) (pe_int) (nomark _))))) (pss_one (ps_set (i := 7) sc_law.nd rfl (by first | exact Or.inl rfl | exact Or.inr rfl) (pe_int))) pss_nil) (pss_cons (ps_if (pt_not (pt_truth (pe_callB cIsX (by rfl) T.n_isinstance (by decide +kernel) (pa_cons (pg_caught T.f__law_caught (by intro kV doc pm an cdv ct us hl; exact match us, hl with | [_], _ => rfl) ⟨_, _, _, _, _, _, _, _, _, _, _, _, _, _, _, rfl⟩ sc__law_caught (by decide +kernel) (by decide +kernel) (by decide +kernel) (by decide +kernel) T.g_HueError (by rfl) T.g__law_caught TB rfl (hg.mono (by decide)) (LamX.lamS_by (sc := defScope s_law) (by decide +kernel)) rfl (fun _ _ _ _ _ => rfl) (k := 3) (fun A outer s H E f c hg => have hr := hg.room; (px_u CX_even_votes (takes_of rfl rfl rfl rfl) (fun _ _ _ _ h => h) hg (by decide) (by rfl) (pa_cons (pv 6) (pa_cons (pv 7) pa_nil))))) (pa_cons (pe_gc (by rfl) T.c_BadHues) pa_nil))) (fun _ => rfl))) (pss_one (ps_ret (pe_bl))) pss_nil) (pss_one (ps_ret (pe_callB cIsX (by rfl) T.n_isinstance (by decide +kernel) (pa_cons (pg_caught T.f__law_caught (by intro kV doc pm an cdv ct us hl; exact match us, hl with | [_], _ => rfl) ⟨_, _, _, _, _, _, _, _, _, _, _, _, _, _, _, rfl⟩ sc__law_caught (by decide +kernel) (by decide +kernel) (by decide +kernel) (by decide +kernel) T.g_HueError (by rfl) T.g__law_caught TB rfl (hg.mono (by decide)) (LamX.lamS_by (sc := defScope s_law) (by decide +kernel)) rfl (fun _ _ _ _ _ => rfl) (k := 3) (fun A outer s H E f c hg => have hr := hg.room; (px_u CX_even_votes (takes_of rfl rfl rfl rfl) (fun _ _ _ _ h => h) hg (by decide) (by rfl) (pa_cons (pv 3) (pa_cons (pv 7) pa_nil))))) (pa_cons (pe_gc (by rfl) T.c_BadVotes) pa_nil)))))))))))))))
  all_goals exact (LamsOk.cons (LamX.lamS_by (sc := defScope s_law) (by decide +kernel)) (fun _ _ _ _ _ => rfl) (fun A outer s H E f c hg => have hr := hg.room; (px_u CX_plan (takes_of rfl rfl rfl rfl) (fun _ _ _ _ h => h) hg (by decide) (by rfl) (pa_cons (pv 4) (pa_cons (pe_int) pa_nil)))) (LamsOk.cons (LamX.lamS_by (sc := defScope s_law) (by decide +kernel)) (fun _ _ _ _ _ => rfl) (fun A outer s H E f c hg => have hr := hg.room; (px_u CX_plan (takes_of rfl rfl rfl rfl) (fun _ _ _ _ h => h) hg (by decide) (by rfl) (pa_cons (pe_int) (pa_cons (pv 4) pa_nil)))) (LamsOk.cons (LamX.lamS_by (sc := defScope s_law) (by decide +kernel)) (fun _ _ _ _ _ => rfl) (fun A outer s H E f c hg => have hr := hg.room; (px_u CX_plan (takes_of rfl rfl rfl rfl) (fun _ _ _ _ h => h) hg (by decide) (by rfl) (pa_cons (pv 4) (pa_cons (pe_non) pa_nil)))) LamsOk.nil)))
theorem facts {P : Program} {w : World} {K : Frag} {h : Heap} {mg : Str → Option Value} {f : Addr} (X : K.In h) (G : h.Ns mainGlobals mg) (hfa : mg ("law" : Str) = some (.ref f)) (c0 : SaysT fa fn [("law", none)] ex h K) :
    ∃ fd : FuncData, (∀ (s : Shared) (v : Value), BindsTo s fd ⟨[v], []⟩ [("_law_script", v)]) ∧ ∀ base : Heap, K.In base → base.Ns mainGlobals mg → LamX.TabB base mg (He.cT K ("law", none)).1 (He.cT K ("law", none)).2 → FnG P w K mg base 6 f fd ["_law_script"] (spOf K (F_law K)) := by
  have c := c0.x
  have T : TX K mg := tx X G c
  obtain ⟨fd, F⟩ := c.def_ 10 (d := dLaw) rfl
  have e := hfa.symm.trans (He.glo_ok X G (c.fact 32 (f := .glo "law") rfl))
  cases e
  have b := FunD.bindsA (ps := ["_law_script"]) F fun _ _ _ _ _ _ us hl => match us, hl with | [_], _ => rfl
  refine ⟨fd, fun s v => b s [v] rfl, fun base _ _ TB => ?_⟩
  have C__law_begun : GCallee P w K mg base "_law_begun" 1 ["_law_script"] (spOf K (F__law_begun K)) := ok__law_begun T 
  have C_is_whole : GCallee P w K mg base "is_whole" 1 ["value"] (spOf K (F_is_whole K)) := ok_is_whole T 
  have CK_plan : GCalleeK P w K mg base "plan" 2 ["told", "whole"] ["whole", "told"] [1, 0] (spOf K (F_plan K)) := okK_plan T C_is_whole
  have C_plan : GCallee P w K mg base "plan" 2 ["told", "whole"] (spOf K (F_plan K)) := ok_plan T C_is_whole
  have C__law_least_plan : GCallee P w K mg base "_law_least_plan" 1 ["_law_told", "_law_whole"] (spOf K (F__law_least_plan K)) := ok__law_least_plan T 
  have C_even_votes : GCallee P w K mg base "even_votes" 2 ["hues", "need"] (spOf K (F_even_votes K)) := ok_even_votes T C_is_whole
  have C_is_votes : GCallee P w K mg base "is_votes" 2 ["value"] (spOf K (F_is_votes K)) := ok_is_votes T C_is_whole
  have CK_even_votes : GCalleeK P w K mg base "even_votes" 2 ["hues", "need"] ["need", "hues"] [1, 0] (spOf K (F_even_votes K)) := okK_even_votes T C_is_whole
  have C__law_mixed : GCallee P w K mg base "_law_mixed" 1 ["_law_state"] (spOf K (F__law_mixed K)) := ok__law_mixed T 
  have C__law_draw : GCallee P w K mg base "_law_draw" 2 ["_law_state", "_law_room"] (spOf K (F__law_draw K)) := ok__law_draw T C__law_mixed
  have C__law_pick : GCallee P w K mg base "_law_pick" 3 ["_law_state", "_law_some"] (spOf K (F__law_pick K)) := ok__law_pick T C__law_draw
  have CX_plan : XCallee P w K mg base "plan" 2 ["told", "whole"] (spX K (orX (F_plan K) (R_plan K))) := okX_plan T C_is_whole
  have CX_even_votes : XCallee P w K mg base "even_votes" 2 ["hues", "need"] (spX K (orX (F_even_votes K) (R_even_votes K))) := okX_even_votes T C_is_whole
  exact ok_law T TB F C__law_begun CK_plan C_plan C__law_least_plan C_even_votes C_is_votes CK_even_votes C__law_pick CX_plan C__law_draw CX_even_votes
end Hw
open PySem PySem.W PySem.Calls PyProof.Rows
theorem PySem.Challenge.cw_hueward_k44_plans_are_the_least_holds : PySem.Challenge.rw_hueward_k44_plans_are_the_least.Holds := by
  refine Hw.fin fun w mg fa h Y G hmg0 => ?_
  obtain ⟨K, KX, c⟩ := Y
  have hmg : mg ("law" : PySem.Str) = some (.ref fa) := by
    have e : (HandSHeadRun.topDef (OpenLaw.row PySem.Challenge.rw_hueward_k44_plans_are_the_least).prog 21).name = ("law" : PySem.Str) := by kernel_rfl
    rw [← e]
    exact hmg0
  obtain ⟨fd, hb, hF⟩ := Hw.facts (P := (PySem.Challenge.rw_hueward_k44_plans_are_the_least).prog) (w := w) KX G hmg c
  exact ⟨K, fd, _, _, _, KX, c.empty _ (by simp), c.out _ (by simp), PySem.W.codeHd_of_K KX (c.hd _ (by simp)), hb, fun H a ns hl hO hS => Dl.law_spT hO hS fun s k hs hk => ⟨ns, s, hl, hs, rfl, hk _⟩, hF⟩
