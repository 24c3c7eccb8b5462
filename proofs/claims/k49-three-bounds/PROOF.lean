import PyProof.Rows.All
import Wide.All
import OpenK.AllK
import Wide.FinOn
import HandS.ForMost
import HandS.Exc
import HandS.TryOnly
import HandS.TryMany
import HandS.ExcOwn
import HandS.WordsExc
import HandS.Wide
import HandS.HeadHook1
import HandS.TupAny
import HandS.TupLe
import HandS.IsInst
import HandS.More
import HandS.Style
import HandS.Rev
import HandS.Zip
import HandS.Defaults
import HandS.Head0
import HandS.Head1
import HandS.Head2
import HandS.HeadEnd
import HandS.HeadHook2
import HandS.HeadHook4
import HandS.EndBits
import PySem.Challenge.RW_wayskept_k49_the_three_bounds_in_rounds
set_option Elab.async false
set_option linter.all false
set_option maxRecDepth 100000
set_option maxHeartbeats 2000000
/-! Dn1: values, slots, what represents them in the abstract heap. -/
namespace Dn
open PySem L2

/-- a value -/
inductive D where
  | non | bl (b : Bool) | int (i : Int) | str (s : Str)
  | tup (ds : List D) | lst (ds : List D) | ml (ds : List D)
  /-- a list from outside -/
  | kl (ds : List D)
  | ins (c : Str) (ns : List Str) (ds : List D)

def D.pure : D → Bool
  | .ml _ => false
  | .ins _ _ _ => false
  | _ => true

/-- a list that stands still -/
def FzL (H : Hp) (a : Addr) (vs : List V) : Prop := ∃ o, H a = some (.frz o (.lst vs))
/-- .. or is an object of the module -/
def KlL (K : PySem.W.Frag) (H : Hp) (a : Addr) (vs : List V) : Prop :=
  (∃ o, H a = some (.frz o (.lst vs))) ∨
    ∃ (o : Obj) (its : Array Value) (n : Nat), K.lookup a = some o ∧ o.cls = .type "list" ∧ o.dict = none ∧ o.data = .seq its n ∧ its.size ≤ sizeLine ∧ Vals vs its.toList
theorem FzL.sq {K : PySem.W.Frag} {H : Hp} {a : Addr} {vs : List V} (h : FzL H a vs) : SqL K H a vs := by
  obtain ⟨o, h⟩ := h
  exact .inl (.inr ⟨o, h⟩)
theorem KlL.sq {K : PySem.W.Frag} {H : Hp} {a : Addr} {vs : List V} (h : KlL K H a vs) : SqL K H a vs := by
  rcases h with ⟨o, h⟩ | h
  · exact .inl (.inr ⟨o, h⟩)
  · exact .inr h

mutual
def Lay (K : PySem.W.Frag) (H : Hp) : D → V → List Addr → Prop
  | .non, v, A => v = .non ∧ A = []
  | .bl b, v, A => v = .bl b ∧ A = []
  | .int i, v, A => v = .int i ∧ A = []
  | .str s, v, A => v = .str s ∧ A = []
  | .tup ds, v, A => A = [] ∧ ∃ a vs, v = .ref a ∧ SqT K H a vs ∧ LayL K H ds vs []
  | .lst ds, v, A => A = [] ∧ ∃ a vs, v = .ref a ∧ FzL H a vs ∧ LayL K H ds vs []
  | .kl ds, v, A => A = [] ∧ ∃ a vs, v = .ref a ∧ KlL K H a vs ∧ LayL K H ds vs []
  | .ml ds, v, A => ∃ a vs B, v = .ref a ∧ H a = some (.lst vs) ∧ LayL K H ds vs B ∧ A = a :: B
  | .ins c ns ds, v, A => ∃ a dx vs B, v = .ref a ∧ H a = some (.ins (He.ga K c) dx (ns.zip vs)) ∧ ns.length = ds.length ∧ LayL K H ds vs B ∧ A = a :: B
def LayL (K : PySem.W.Frag) (H : Hp) : List D → List V → List Addr → Prop
  | [], vs, A => vs = [] ∧ A = []
  | d :: ds, vs, A => ∃ v ws A1 A2, vs = v :: ws ∧ A = A1 ++ A2 ∧ Lay K H d v A1 ∧ LayL K H ds ws A2
end

section
variable {K : PySem.W.Frag} {H H' : Hp}
/-- tuples and still lists stay -/
structure Kp (H H' : Hp) : Prop where
  tups : ∀ b xs, H b = some (.tup xs) → H' b = some (.tup xs)
  frzs : ∀ b o u, H b = some (.frz o u) → H' b = some (.frz o u)
theorem Kp.refl (H : Hp) : Kp H H := ⟨fun _ _ h => h, fun _ _ _ h => h⟩
theorem Kp.trans {H1 H2 H3 : Hp} (a : Kp H1 H2) (b : Kp H2 H3) : Kp H1 H3 := ⟨fun c xs h => b.tups _ _ (a.tups _ _ h), fun c o u h => b.frzs _ _ _ (a.frzs _ _ _ h)⟩
theorem Kp.sqT {a : Addr} {vs : List V} (k : Kp H H') (h : SqT K H a vs) : SqT K H' a vs := by
  rcases h with (h | ⟨o, h⟩) | h
  · exact .inl (.inl (k.tups _ _ h))
  · exact .inl (.inr ⟨o, k.frzs _ _ _ h⟩)
  · exact .inr h
theorem Kp.fzL {a : Addr} {vs : List V} (k : Kp H H') (h : FzL H a vs) : FzL H' a vs := let ⟨o, h⟩ := h; ⟨o, k.frzs _ _ _ h⟩
theorem Kp.klL {a : Addr} {vs : List V} (k : Kp H H') (h : KlL K H a vs) : KlL K H' a vs := by
  rcases h with ⟨o, h⟩ | h
  · exact .inl ⟨o, k.frzs _ _ _ h⟩
  · exact .inr h
mutual
theorem Lay.step (k : Kp H H') : ∀ (d : D) (v : V) (A : List Addr), (∀ a ∈ A, ∀ o, H a = some o → H' a = some o) → Lay K H d v A → Lay K H' d v A
  | .non, _, _, _, h => h
  | .bl _, _, _, _, h => h
  | .int _, _, _, _, h => h
  | .str _, _, _, _, h => h
  | .tup ds, v, A, _, h => by
    obtain ⟨e, a, vs, e1, h1, h2⟩ := h
    exact ⟨e, a, vs, e1, k.sqT h1, LayL.step k ds vs [] (fun a ha => nomatch ha) h2⟩
  | .lst ds, v, A, _, h => by
    obtain ⟨e, a, vs, e1, h1, h2⟩ := h
    exact ⟨e, a, vs, e1, k.fzL h1, LayL.step k ds vs [] (fun a ha => nomatch ha) h2⟩
  | .kl ds, v, A, _, h => by
    obtain ⟨e, a, vs, e1, h1, h2⟩ := h
    exact ⟨e, a, vs, e1, k.klL h1, LayL.step k ds vs [] (fun a ha => nomatch ha) h2⟩
  | .ml ds, v, A, ha, h => by
    obtain ⟨a, vs, B, e1, h1, h2, e2⟩ := h
    subst e2
    exact ⟨a, vs, B, e1, ha a List.mem_cons_self _ h1, LayL.step k ds vs B (fun b hb => ha b (List.mem_cons_of_mem _ hb)) h2, rfl⟩
  | .ins c ns ds, v, A, ha, h => by
    obtain ⟨a, dx, vs, B, e1, h1, hl, h2, e2⟩ := h
    subst e2
    exact ⟨a, dx, vs, B, e1, ha a List.mem_cons_self _ h1, hl, LayL.step k ds vs B (fun b hb => ha b (List.mem_cons_of_mem _ hb)) h2, rfl⟩
theorem LayL.step (k : Kp H H') : ∀ (ds : List D) (vs : List V) (A : List Addr), (∀ a ∈ A, ∀ o, H a = some o → H' a = some o) → LayL K H ds vs A → LayL K H' ds vs A
  | [], _, _, _, h => h
  | d :: ds, vs, A, ha, h => by
    obtain ⟨v, ws, A1, A2, e1, e2, h1, h2⟩ := h
    subst e2
    exact ⟨v, ws, A1, A2, e1, rfl, Lay.step k d v A1 (fun b hb => ha b (List.mem_append_left _ hb)) h1, LayL.step k ds ws A2 (fun b hb => ha b (List.mem_append_right _ hb)) h2⟩
end
theorem Lay.emp {d : D} {v : V} {A : List Addr} (h : Lay K H d v A) (p : d.pure = true) : A = [] := by
  cases d with
  | non => exact h.2
  | bl => exact h.2
  | int => exact h.2
  | str => exact h.2
  | tup => exact h.1
  | lst => exact h.1
  | kl => exact h.1
  | ml => cases p
  | ins => cases p
/-- a pure value stays -/
theorem Lay.keep {d : D} {v : V} (k : Kp H H') (h : Lay K H d v []) : Lay K H' d v [] := Lay.step k d v [] (fun _ z => nomatch z) h
theorem LayL.keep {ds : List D} {vs : List V} (k : Kp H H') (h : LayL K H ds vs []) : LayL K H' ds vs [] := LayL.step k ds vs [] (fun _ z => nomatch z) h
/-- what is owned stands and is no tuple -/
def Mu (o : HO) : Prop := (∃ xs, o = .lst xs) ∨ ∃ C dx fs, o = .ins C dx fs
mutual
theorem Lay.mu : ∀ (d : D) (v : V) (A : List Addr), Lay K H d v A → ∀ a ∈ A, ∃ o, H a = some o ∧ Mu o
  | .non, _, _, h => fun a ha => by rw [h.2] at ha; exact nomatch ha
  | .bl _, _, _, h => fun a ha => by rw [h.2] at ha; exact nomatch ha
  | .int _, _, _, h => fun a ha => by rw [h.2] at ha; exact nomatch ha
  | .str _, _, _, h => fun a ha => by rw [h.2] at ha; exact nomatch ha
  | .tup _, _, _, h => fun a ha => by rw [h.1] at ha; exact nomatch ha
  | .lst _, _, _, h => fun a ha => by rw [h.1] at ha; exact nomatch ha
  | .kl _, _, _, h => fun a ha => by rw [h.1] at ha; exact nomatch ha
  | .ml ds, v, A, h => fun b hb => by
    obtain ⟨a, vs, B, e1, h1, h2, e2⟩ := h
    subst e2
    rcases List.mem_cons.mp hb with e | hb
    · subst e; exact ⟨_, h1, .inl ⟨_, rfl⟩⟩
    · exact LayL.mu ds vs B h2 b hb
  | .ins c ns ds, v, A, h => fun b hb => by
    obtain ⟨a, dx, vs, B, e1, h1, hl, h2, e2⟩ := h
    subst e2
    rcases List.mem_cons.mp hb with e | hb
    · subst e; exact ⟨_, h1, .inr ⟨_, _, _, rfl⟩⟩
    · exact LayL.mu ds vs B h2 b hb
theorem LayL.mu : ∀ (ds : List D) (vs : List V) (A : List Addr), LayL K H ds vs A → ∀ a ∈ A, ∃ o, H a = some o ∧ Mu o
  | [], _, _, h => fun a ha => by rw [h.2] at ha; exact nomatch ha
  | d :: ds, vs, A, h => fun b hb => by
    obtain ⟨v, ws, A1, A2, e1, e2, h1, h2⟩ := h
    subst e2
    rcases List.mem_append.mp hb with hb | hb
    · exact Lay.mu d v A1 h1 b hb
    · exact LayL.mu ds ws A2 h2 b hb
end
theorem LayL.len : ∀ {ds : List D} {vs : List V} {A : List Addr}, LayL K H ds vs A → vs.length = ds.length
  | [], _, _, h => by rw [h.1]; rfl
  | d :: ds, vs, A, h => by
    obtain ⟨v, ws, A1, A2, e1, e2, h1, h2⟩ := h
    subst e1
    rw [List.length_cons, List.length_cons, LayL.len h2]
theorem LayL.cons {d : D} {v : V} {ds : List D} {vs : List V} {A B : List Addr} (h1 : Lay K H d v A) (h2 : LayL K H ds vs B) : LayL K H (d :: ds) (v :: vs) (A ++ B) := ⟨v, vs, A, B, rfl, rfl, h1, h2⟩
theorem LayL.cons0 {d : D} {v : V} {ds : List D} {vs : List V} (h1 : Lay K H d v []) (h2 : LayL K H ds vs []) : LayL K H (d :: ds) (v :: vs) [] := ⟨v, vs, [], [], rfl, rfl, h1, h2⟩
theorem LayL.nil : LayL K H [] [] [] := ⟨rfl, rfl⟩
theorem LayL.uncons0 {d : D} {ds : List D} {vs : List V} (h : LayL K H (d :: ds) vs []) : ∃ v ws, vs = v :: ws ∧ Lay K H d v [] ∧ LayL K H ds ws [] := by
  obtain ⟨v, ws, A1, A2, e1, e2, h1, h2⟩ := h
  obtain ⟨z1, z2⟩ := List.append_eq_nil_iff.mp e2.symm
  subst z1; subst z2
  exact ⟨v, ws, e1, h1, h2⟩
theorem LayL.get0 : ∀ {ds : List D} {vs : List V} {i : Nat} {d : D}, LayL K H ds vs [] → ds[i]? = some d → ∃ v, vs[i]? = some v ∧ Lay K H d v []
  | [], _, _, _, _, e => by simp at e
  | d :: ds, vs, 0, d', h, e => by
    obtain ⟨v, ws, e1, h1, h2⟩ := h.uncons0
    subst e1
    simp at e; subst e
    exact ⟨v, rfl, h1⟩
  | d :: ds, vs, i + 1, d', h, e => by
    obtain ⟨v, ws, e1, h1, h2⟩ := h.uncons0
    subst e1
    obtain ⟨u, q1, q2⟩ := LayL.get0 (i := i) (d := d') h2 (by simpa using e)
    exact ⟨u, by simpa using q1, q2⟩
theorem LayL.getV0 : ∀ {ds : List D} {vs : List V} {i : Nat} {v : V}, LayL K H ds vs [] → vs[i]? = some v → ∃ d, ds[i]? = some d ∧ Lay K H d v []
  | [], _, i, _, h, e => by rw [h.1] at e; simp at e
  | d :: ds, vs, 0, v', h, e => by
    obtain ⟨v, ws, e1, h1, h2⟩ := h.uncons0
    subst e1
    simp at e; subst e
    exact ⟨d, rfl, h1⟩
  | d :: ds, vs, i + 1, v', h, e => by
    obtain ⟨v, ws, e1, h1, h2⟩ := h.uncons0
    subst e1
    obtain ⟨u, q1, q2⟩ := LayL.getV0 (i := i) (v := v') h2 (by simpa using e)
    exact ⟨u, by simpa using q1, q2⟩
theorem LayL.append0 : ∀ {ds es : List D} {vs ws : List V}, LayL K H ds vs [] → LayL K H es ws [] → LayL K H (ds ++ es) (vs ++ ws) []
  | [], es, vs, ws, h, g => by rw [h.1]; exact g
  | d :: ds, es, vs, ws, h, g => by
    obtain ⟨v, us, e1, h1, h2⟩ := h.uncons0
    subst e1
    exact LayL.cons0 h1 (LayL.append0 h2 g)
theorem LayL.take0 : ∀ {ds : List D} {vs : List V} (n : Nat), LayL K H ds vs [] → LayL K H (ds.take n) (vs.take n) []
  | _, _, 0, _ => LayL.nil
  | [], vs, n + 1, h => by rw [h.1]; exact LayL.nil
  | d :: ds, vs, n + 1, h => by
    obtain ⟨v, us, e1, h1, h2⟩ := h.uncons0
    subst e1
    exact LayL.cons0 h1 (LayL.take0 n h2)
theorem LayL.drop0 : ∀ {ds : List D} {vs : List V} (n : Nat), LayL K H ds vs [] → LayL K H (ds.drop n) (vs.drop n) []
  | ds, vs, 0, h => h
  | [], vs, n + 1, h => by rw [h.1]; exact LayL.nil
  | d :: ds, vs, n + 1, h => by
    obtain ⟨v, us, e1, h1, h2⟩ := h.uncons0
    subst e1
    exact LayL.drop0 n h2
theorem LayL.set0 : ∀ {ds : List D} {vs : List V} {d : D} {v : V} (n : Nat), LayL K H ds vs [] → Lay K H d v [] → LayL K H (ds.set n d) (vs.set n v) []
  | [], vs, _, _, n, h, _ => by rw [h.1]; exact LayL.nil
  | d :: ds, vs, d', v', 0, h, g => by
    obtain ⟨v, us, e1, h1, h2⟩ := h.uncons0
    subst e1
    exact LayL.cons0 g h2
  | d :: ds, vs, d', v', n + 1, h, g => by
    obtain ⟨v, us, e1, h1, h2⟩ := h.uncons0
    subst e1
    exact LayL.cons0 h1 (LayL.set0 n h2 g)
end

/-! ### slots -/
abbrev Sl := List (Option D)
def Own (Af : Nat → List Addr) (b : Addr) : Prop := ∃ i, b ∈ Af i

structure Rep (K : PySem.W.Frag) (H : Hp) (ss : Sl) (σ : St) (Af : Nat → List Addr) : Prop where
  len : ss.length = σ.length
  lay : ∀ i d, ss[i]? = some (some d) → ∃ v, σ[i]? = some (some v) ∧ Lay K H d v (Af i)
  emp : ∀ i, (∀ d, ss[i]? ≠ some (some d)) → Af i = []
  nd : ∀ i, (Af i).Nodup
  dis : ∀ i j a, a ∈ Af i → a ∈ Af j → i = j

/-- from H (what may change: F) to H' (what is owned there: F') -/
structure Stp (H : Hp) (F : Addr → Prop) (H' : Hp) (F' : Addr → Prop) : Prop where
  kp : Kp H H'
  keep : ∀ b o, ¬ F b → H b = some o → H' b = some o
  new : ∀ b, F' b → F b ∨ H b = none
theorem Stp.refl {H : Hp} {F : Addr → Prop} : Stp H F H F := ⟨Kp.refl H, fun _ _ _ h => h, fun _ h => .inl h⟩
theorem Stp.sub {H H' : Hp} {F F' G : Addr → Prop} (s : Stp H F H' F') (h : ∀ b, G b → F' b) : Stp H F H' G := ⟨s.kp, s.keep, fun b g => s.new b (h b g)⟩
theorem Stp.trans {H H1 H2 : Hp} {F F1 G1 F2 : Addr → Prop} (a : Stp H F H1 F1) (b : Stp H1 G1 H2 F2) (hs : ∀ x, G1 x → F1 x) : Stp H F H2 F2 := by
  refine ⟨a.kp.trans b.kp, fun x o nf h => ?_, fun x hx => ?_⟩
  · have h1 := a.keep x o nf h
    refine b.keep x o (fun g => ?_) h1
    rcases a.new x (hs x g) with q | q
    · exact nf q
    · rw [h] at q; cases q
  · rcases b.new x hx with q | q
    · exact a.new x (hs x q)
    · cases e : H x with
      | none => exact .inr rfl
      | some o =>
        refine .inl ((Classical.em (F x)).resolve_right fun nf => ?_)
        have := a.keep x o nf e
        rw [q] at this; cases this
/-- what is not owned and stands is not owned behind, and stays -/
theorem Stp.out {H H' : Hp} {F F' : Addr → Prop} (s : Stp H F H' F') {b : Addr} {o : HO} (n : ¬ F b) (h : H b = some o) : ¬ F' b := fun f => by
  rcases s.new b f with q | q
  · exact n q
  · rw [h] at q; cases q
/-- a temporary's value behind a step -/
theorem Stp.lay {K : PySem.W.Frag} {H H' : Hp} {F F' : Addr → Prop} (s : Stp H F H' F') {d : D} {v : V} {B : List Addr} (h : Lay K H d v B) (n : ∀ a ∈ B, ¬ F a) : Lay K H' d v B :=
  Lay.step s.kp d v B (fun a ha o e => s.keep a o (n a ha) e) h
theorem Stp.layL {K : PySem.W.Frag} {H H' : Hp} {F F' : Addr → Prop} (s : Stp H F H' F') {ds : List D} {vs : List V} {B : List Addr} (h : LayL K H ds vs B) (n : ∀ a ∈ B, ¬ F a) : LayL K H' ds vs B :=
  LayL.step s.kp ds vs B (fun a ha o e => s.keep a o (n a ha) e) h
/-- a new object -/
theorem Stp.laid {H : Hp} {F : Addr → Prop} {p : Addr} {o : HO} (h : H p = none) : Stp H F (upd H p o) (fun b => F b ∨ b = p) := by
  have ne : ∀ {b : Addr} {u : HO}, H b = some u → b ≠ p := fun e z => by rw [z, h] at e; cases e
  refine ⟨⟨fun b xs e => by rw [upd_ne (ne e)]; exact e, fun b o u e => by rw [upd_ne (ne e)]; exact e⟩, fun b u _ e => by rw [upd_ne (ne e)]; exact e, fun b hb => ?_⟩
  rcases hb with hb | rfl
  · exact .inl hb
  · exact .inr h
/-- an owned object written -/
theorem Stp.wrote {H : Hp} {F : Addr → Prop} {p : Addr} {o u : HO} (f : F p) (h : H p = some u) (m : Mu u) : Stp H F (upd H p o) F := by
  have ne : ∀ {b : Addr} {w : HO}, H b = some w → ¬ Mu w → b ≠ p := fun e n z => by
    subst z
    rw [h] at e; cases e
    exact n m
  refine ⟨⟨fun b xs e => ?_, fun b o u e => ?_⟩, fun b w nf e => ?_, fun b hb => .inl hb⟩
  · rw [upd_ne (ne e (by rintro (⟨_, z⟩ | ⟨_, _, _, z⟩) <;> cases z))]; exact e
  · rw [upd_ne (ne e (by rintro (⟨_, z⟩ | ⟨_, _, _, z⟩) <;> cases z))]; exact e
  · rw [upd_ne (fun z => by subst z; exact nf f)]; exact e

section
variable {K : PySem.W.Frag} {H H' : Hp} {ss : Sl} {σ : St} {Af : Nat → List Addr}
theorem Rep.there (r : Rep K H ss σ Af) {b : Addr} (h : Own Af b) : ∃ o, H b = some o ∧ Mu o := by
  obtain ⟨i, hi⟩ := h
  by_cases e : ∃ d, ss[i]? = some (some d)
  · obtain ⟨d, e⟩ := e
    obtain ⟨v, _, hl⟩ := r.lay i d e
    exact Lay.mu d v _ hl b hi
  · rw [r.emp i (fun d z => e ⟨d, z⟩)] at hi
    exact nomatch hi
/-- the slots behind a step of others -/
theorem Rep.step {F F' : Addr → Prop} (r : Rep K H ss σ Af) (s : Stp H F H' F') (n : ∀ b, Own Af b → ¬ F b) : Rep K H' ss σ Af :=
  ⟨r.len, fun i d e => let ⟨v, h1, h2⟩ := r.lay i d e; ⟨v, h1, s.lay h2 fun a ha => n a ⟨i, ha⟩⟩, r.emp, r.nd, r.dis⟩
/-- one slot's value anew -/
def put (Af : Nat → List Addr) (i : Nat) (B : List Addr) : Nat → List Addr := fun j => if j = i then B else Af j
theorem put_self {i : Nat} {B : List Addr} : put Af i B i = B := if_pos rfl
theorem put_ne {i j : Nat} {B : List Addr} (h : j ≠ i) : put Af i B j = Af j := if_neg h
theorem own_put {i : Nat} {B : List Addr} {b : Addr} (h : Own (put Af i B) b) : Own Af b ∨ b ∈ B := by
  obtain ⟨j, hj⟩ := h
  by_cases e : j = i
  · subst e; rw [put_self] at hj; exact .inr hj
  · rw [put_ne e] at hj; exact .inl ⟨j, hj⟩
theorem put_own_ne {i : Nat} {B : List Addr} {b : Addr} (h : Own Af b) (n : b ∉ Af i) : Own (put Af i B) b := by
  obtain ⟨j, hj⟩ := h
  refine ⟨j, ?_⟩
  have z : j ≠ i := fun e => by subst e; exact n hj
  rw [put_ne z]
  exact hj
/-- a value into a slot -/
theorem Rep.set {i : Nat} {d : D} {v : V} {B : List Addr} (r : Rep K H ss σ Af) (h : Lay K H d v B) (hn : B.Nodup) (ha : ∀ a ∈ B, ¬ Own Af a ∨ a ∈ Af i) (hi : i < ss.length) : Rep K H (ss.set i (some d)) (σ.set i (some v)) (put Af i B) := by
  have hi2 : i < σ.length := r.len ▸ hi
  refine ⟨by rw [List.length_set, List.length_set]; exact r.len, fun j d' e => ?_, fun j e => ?_, fun j => ?_, fun j k a h1 h2 => ?_⟩
  · by_cases z : j = i
    · subst z
      rw [List.getElem?_set_self hi] at e
      cases e
      exact ⟨v, List.getElem?_set_self hi2, by rw [put_self]; exact h⟩
    · rw [List.getElem?_set_ne (Ne.symm z)] at e
      rw [List.getElem?_set_ne (Ne.symm z), put_ne z]
      exact r.lay j d' e
  · by_cases z : j = i
    · subst z
      exact absurd (List.getElem?_set_self hi) (e d)
    · rw [put_ne z]
      exact r.emp j fun d' q => e d' (by rw [List.getElem?_set_ne (Ne.symm z)]; exact q)
  · by_cases z : j = i
    · subst z; rw [put_self]; exact hn
    · rw [put_ne z]; exact r.nd j
  · by_cases z1 : j = i
    · by_cases z2 : k = i
      · rw [z1, z2]
      · subst z1
        rw [put_self] at h1; rw [put_ne z2] at h2
        rcases ha a h1 with q | q
        · exact absurd ⟨k, h2⟩ q
        · exact r.dis _ _ a q h2
    · by_cases z2 : k = i
      · subst z2
        rw [put_self] at h2; rw [put_ne z1] at h1
        rcases ha a h2 with q | q
        · exact absurd ⟨j, h1⟩ q
        · exact r.dis _ _ a h1 q
      · rw [put_ne z1] at h1; rw [put_ne z2] at h2
        exact r.dis j k a h1 h2
/-- a slot forgotten -/
theorem Rep.clear (i : Nat) (r : Rep K H ss σ Af) : Rep K H (ss.set i none) σ (put Af i []) := by
  refine ⟨by rw [List.length_set]; exact r.len, fun j d' e => ?_, fun j e => ?_, fun j => ?_, fun j k a h1 h2 => ?_⟩
  · by_cases z : j = i
    · subst z
      by_cases hj : j < ss.length
      · rw [List.getElem?_set_self hj] at e; cases e
      · rw [List.getElem?_eq_none (by simpa using hj)] at e; cases e
    · rw [List.getElem?_set_ne (Ne.symm z)] at e
      rw [put_ne z]
      exact r.lay j d' e
  · by_cases z : j = i
    · subst z; rw [put_self]
    · rw [put_ne z]
      exact r.emp j fun d' q => e d' (by rw [List.getElem?_set_ne (Ne.symm z)]; exact q)
  · by_cases z : j = i
    · subst z; rw [put_self]; exact List.nodup_nil
    · rw [put_ne z]; exact r.nd j
  · by_cases z1 : j = i
    · subst z1; rw [put_self] at h1; exact nomatch h1
    · by_cases z2 : k = i
      · subst z2; rw [put_self] at h2; exact nomatch h2
      · rw [put_ne z1] at h1; rw [put_ne z2] at h2
        exact r.dis j k a h1 h2
theorem own_clear {i : Nat} {b : Addr} (h : Own (put Af i []) b) : Own Af b := (own_put h).elim id fun z => nomatch z
end
end Dn

set_option Elab.async false
set_option linter.all false
set_option maxRecDepth 100000
set_option maxHeartbeats 2000000
/-! Dn2: results, what is wanted of a result, binding. -/
namespace Dn
open PySem L2

structure Ex where
  c : Str
  ns : List Str
  ds : List D

inductive R (α : Type) where
  | ok (a : α) (ss : Sl) | exc (e : Ex) (ss : Sl) | err
def R.bind {α β : Type} (r : R α) (k : α → Sl → R β) : R β := match r with
  | .ok a ss => k a ss
  | .exc e ss => .exc e ss
  | .err => .err
@[simp] theorem R.bind_ok {α β : Type} (a : α) (ss : Sl) (k : α → Sl → R β) : (R.ok a ss).bind k = k a ss := rfl
@[simp] theorem R.bind_exc {α β : Type} (e : Ex) (ss : Sl) (k : α → Sl → R β) : (R.exc e ss : R α).bind k = .exc e ss := rfl
@[simp] theorem R.bind_err {α β : Type} (k : α → Sl → R β) : (R.err : R α).bind k = .err := rfl

/-- a value at hand: a fresh one, or what stands in a slot -/
inductive Vx where
  | val (d : D) | plc (i : Nat)
def Vx.get (x : Vx) (ss : Sl) : Option D := match x with
  | .val d => some d
  | .plc i => match ss[i]? with
    | some (some d) => some d
    | _ => none
theorem get_plc {i : Nat} {ss : Sl} {d : D} (g : (Vx.plc i).get ss = some d) : ss[i]? = some (some d) := by
  have g' : (match ss[i]? with
    | some (some d) => some d
    | _ => none) = some d := g
  cases e : ss[i]? with
  | none => rw [e] at g'; cases g'
  | some o =>
    cases o with
    | none => rw [e] at g'; cases g'
    | some d' => rw [e] at g'; cases g'; rfl
abbrev EV := Sl → R Vx
abbrev AV := Sl → R (List Vx)
abbrev TV := Sl → R Bool

def LayX (K : PySem.W.Frag) (σ : St) (H : Hp) : Vx → V → List Addr → Prop
  | .val d, v, B => Lay K H d v B
  | .plc i, v, B => B = [] ∧ σ[i]? = some (some v)
def LayXL (K : PySem.W.Frag) (σ : St) (H : Hp) : List Vx → List V → List Addr → Prop
  | [], vs, B => vs = [] ∧ B = []
  | x :: xs, vs, B => ∃ v ws B1 B2, vs = v :: ws ∧ B = B1 ++ B2 ∧ LayX K σ H x v B1 ∧ LayXL K σ H xs ws B2
def LayB (_ : Hp) (b b' : Bool) (B : List Addr) : Prop := b' = b ∧ B = []

def ExL (K : PySem.W.Frag) (H : Hp) (e : Ex) (cls : Value) (d : Option Addr) : Prop :=
  cls = .ref (He.ga K e.c) ∧ (e.ns = [] ∨ ∃ a vs, d = some a ∧ H a = some (.xd (e.ns.zip vs)) ∧ e.ns.length = e.ds.length ∧ LayL K H e.ds vs [])

section
variable {α β γ δ : Type}
def Got (LX : Hp → α → β → List Addr → Prop) (K : PySem.W.Frag) (σ : St) (H0 : Hp) (F0 : Addr → Prop) (H : Hp) (ss : Sl) (x : α) (v : β) : Prop :=
  ∃ Af B, Rep K H ss σ Af ∧ LX H x v B ∧ B.Nodup ∧ (∀ a ∈ B, ¬ Own Af a) ∧ Stp H0 F0 H (fun b => Own Af b ∨ b ∈ B)
def GotE (K : PySem.W.Frag) (σ : St) (H0 : Hp) (F0 : Addr → Prop) (H : Hp) (ss : Sl) (e : Ex) (cls : Value) (d : Option Addr) : Prop :=
  ∃ Af, Rep K H ss σ Af ∧ ExL K H e cls d ∧ Stp H0 F0 H (Own Af)
/-- what is wanted of a result, from the base H0, F0 -/
def Wn (LX : Hp → α → β → List Addr → Prop) (K : PySem.W.Frag) (W : WX) (σ : St) (H0 : Hp) (F0 : Addr → Prop) (r : R α) (Q : β → Hp → Prop) : Prop := match r with
  | .ok x ss => ∀ v H, Got LX K σ H0 F0 H ss x v → Q v H
  | .exc e ss => ∀ cls d H, GotE K σ H0 F0 H ss e cls d → W cls d σ H
  | .err => False
/-- the reading of a denotation -/
def tD (LX : Hp → α → β → List Addr → Prop) (K : PySem.W.Frag) (W : WX) (f : Sl → R α) : St → Hp → (β → Hp → Prop) → Prop := fun σ H Q =>
  ∃ ss Af, Rep K H ss σ Af ∧ Wn LX K W σ H (Own Af) (f ss) Q

variable {LX : Hp → α → β → List Addr → Prop} {LY : Hp → γ → δ → List Addr → Prop} {K : PySem.W.Frag} {W : WX} {σ : St} {H H0 H1 : Hp} {F0 : Addr → Prop} {ss : Sl} {Af : Nat → List Addr}
theorem Wn.rebase {Af1 : Nat → List Addr} {r : R α} {Q : β → Hp → Prop} {F1 : Addr → Prop} (h : Wn LX K W σ H0 F0 r Q) (s : Stp H0 F0 H1 F1) (hs : ∀ b, Own Af1 b → F1 b) : Wn LX K W σ H1 (Own Af1) r Q := by
  cases r with
  | err => exact h
  | exc e s1 => exact fun cls d H2 ⟨Af2, r2, x2, st2⟩ => h cls d H2 ⟨Af2, r2, x2, s.trans st2 hs⟩
  | ok x s1 => exact fun v H2 ⟨Af2, B2, r2, l2, n2, d2, st2⟩ => h v H2 ⟨Af2, B2, r2, l2, n2, d2, s.trans st2 hs⟩
/-- THE BINDING -/
theorem bindW {f : Sl → R α} {k : α → Sl → R γ} {Q : δ → Hp → Prop} {Q' : β → Hp → Prop} (r : Rep K H ss σ Af) (h : Wn LY K W σ H (Own Af) ((f ss).bind k) Q)
    (hk : ∀ x v H1 ss1 Af1 B1, f ss = .ok x ss1 → Rep K H1 ss1 σ Af1 → LX H1 x v B1 → B1.Nodup → (∀ a ∈ B1, ¬ Own Af1 a) → Stp H (Own Af) H1 (fun b => Own Af1 b ∨ b ∈ B1) → Wn LY K W σ H1 (Own Af1) (k x ss1) Q → Q' v H1) :
    tD LX K W f σ H Q' := by
  refine ⟨ss, Af, r, ?_⟩
  cases e : f ss with
  | err => rw [e] at h; exact h
  | exc x s1 => rw [e] at h; exact h
  | ok x s1 =>
    rw [e] at h
    intro v H1 ⟨Af1, B1, r1, l1, n1, d1, st1⟩
    exact hk x v H1 s1 Af1 B1 e r1 l1 n1 d1 st1 (Wn.rebase h st1 fun b hb => .inl hb)
/-- .. from an elder base, kept -/
theorem bindB {f : Sl → R α} {k : α → Sl → R γ} {Q : δ → Hp → Prop} {Q' : β → Hp → Prop} {F1 : Addr → Prop} (s0 : Stp H0 F0 H F1) (hs : ∀ b, Own Af b → F1 b) (r : Rep K H ss σ Af) (h : Wn LY K W σ H0 F0 ((f ss).bind k) Q)
    (hk : ∀ x v H1 ss1 Af1 B1, f ss = .ok x ss1 → Rep K H1 ss1 σ Af1 → LX H1 x v B1 → B1.Nodup → (∀ a ∈ B1, ¬ Own Af1 a) → Stp H (Own Af) H1 (fun b => Own Af1 b ∨ b ∈ B1) → Wn LY K W σ H0 F0 (k x ss1) Q → Q' v H1) :
    tD LX K W f σ H Q' := by
  refine ⟨ss, Af, r, ?_⟩
  cases e : f ss with
  | err => rw [e] at h; exact h
  | exc x s1 =>
    rw [e] at h
    exact Wn.rebase (r := R.exc x s1) h s0 hs
  | ok x s1 =>
    rw [e] at h
    intro v H1 ⟨Af1, B1, r1, l1, n1, d1, st1⟩
    exact hk x v H1 s1 Af1 B1 e r1 l1 n1 d1 st1 h
/-- a result without a new object -/
theorem Wn.done {x : α} {v : β} {Q : β → Hp → Prop} (r : Rep K H ss σ Af) (h : Wn LX K W σ H (Own Af) (.ok x ss) Q) (l : LX H x v []) : Q v H :=
  h v H ⟨Af, [], r, l, List.nodup_nil, fun a z => (nomatch z), Stp.refl.sub fun b hb => hb.elim id fun z => nomatch z⟩
end

section
variable {K : PySem.W.Frag} {W : WX} {σ : St} {H H' H1 H2 : Hp} {F F' : Addr → Prop} {ss : Sl} {Af : Nat → List Addr} {x : Vx} {v : V} {B : List Addr} {d : D}
abbrev tE (K : PySem.W.Frag) (W : WX) (f : EV) : TE := fun σ H Q => tD (LayX K σ) K W f σ H Q
abbrev tA (K : PySem.W.Frag) (W : WX) (f : AV) : TA := fun σ H Q => tD (LayXL K σ) K W f σ H Q
abbrev tT (K : PySem.W.Frag) (W : WX) (f : TV) : TT := fun σ H Q => tD LayB K W f σ H Q
/-- a temporary behind a step -/
theorem LayX.stay (s : Stp H F H' F') (l : LayX K σ H x v B) (n : ∀ a ∈ B, ¬ F a) : LayX K σ H' x v B := by
  cases x with
  | val d => exact s.lay l n
  | plc i => exact l
theorem LayX.there (l : LayX K σ H x v B) {a : Addr} (h : a ∈ B) : ∃ o, H a = some o ∧ Mu o := by
  cases x with
  | val d => exact Lay.mu d v B l a h
  | plc i => rw [l.1] at h; exact nomatch h
theorem LayX.out (s : Stp H F H' F') (l : LayX K σ H x v B) (n : ∀ a ∈ B, ¬ F a) : ∀ a ∈ B, ¬ F' a := fun a ha =>
  let ⟨_, e, _⟩ := l.there ha
  s.out (n a ha) e
theorem LayXL.stay (s : Stp H F H' F') : ∀ (xs : List Vx) (vs : List V) (B : List Addr), LayXL K σ H xs vs B → (∀ a ∈ B, ¬ F a) → LayXL K σ H' xs vs B
  | [], _, _, l, _ => l
  | x :: xs, vs, B, l, n => by
    obtain ⟨v, ws, B1, B2, e1, e2, l1, l2⟩ := l
    subst e2
    exact ⟨v, ws, B1, B2, e1, rfl, l1.stay s fun a ha => n a (List.mem_append_left _ ha), LayXL.stay s xs ws B2 l2 fun a ha => n a (List.mem_append_right _ ha)⟩
theorem LayXL.there : ∀ (xs : List Vx) (vs : List V) (B : List Addr), LayXL K σ H xs vs B → ∀ a ∈ B, ∃ o, H a = some o ∧ Mu o
  | [], _, _, l, a, ha => by rw [l.2] at ha; exact nomatch ha
  | x :: xs, vs, B, l, a, ha => by
    obtain ⟨v, ws, B1, B2, e1, e2, l1, l2⟩ := l
    subst e2
    rcases List.mem_append.mp ha with q | q
    · exact l1.there q
    · exact LayXL.there xs ws B2 l2 a q
/-- what a value at hand is, to be read -/
theorem LayX.read (r : Rep K H ss σ Af) (l : LayX K σ H x v B) (g : x.get ss = some d) : ∃ A, Lay K H d v A := by
  cases x with
  | val d' => cases g; exact ⟨B, l⟩
  | plc i =>
    obtain ⟨v', q1, q2⟩ := r.lay i d (get_plc g)
    rw [l.2] at q1
    cases q1
    exact ⟨_, q2⟩
end
end Dn

set_option Elab.async false
set_option linter.all false
set_option maxRecDepth 100000
set_option maxHeartbeats 2000000
/-! Dn3: operations on values, and that L2's readings give them. -/
namespace Dn
open PySem L2

def flatD : D → Option V
  | .non => some .non
  | .bl b => some (.bl b)
  | .int i => some (.int i)
  | .str s => some (.str s)
  | _ => none
def seqD : D → Option (List D)
  | .tup ds => some ds
  | .lst ds => some ds
  | .ml ds => some ds
  | .kl ds => some ds
  | _ => none
def intsD : List D → Option (List Int)
  | [] => some []
  | .int i :: r => match intsD r with
    | some ns => some (i :: ns)
    | none => none
  | _ => none
def allPure (ds : List D) : Bool := ds.all D.pure
mutual
def toPy : D → Option PyData
  | .non => some .none
  | .bl b => some (.bool b)
  | .int i => some (.int i)
  | .str s => some (.str s)
  | .tup ds => match toPyL ds with
    | some ps => some (.tuple ps)
    | none => none
  | .lst ds => match toPyL ds with
    | some ps => some (.list ps)
    | none => none
  | .ml ds => match toPyL ds with
    | some ps => some (.list ps)
    | none => none
  | .kl ds => match toPyL ds with
    | some ps => some (.list ps)
    | none => none
  | .ins _ _ _ => none
def toPyL : List D → Option (List PyData)
  | [] => some []
  | d :: ds => match toPy d, toPyL ds with
    | some p, some ps => some (p :: ps)
    | _, _ => none
end

section
variable {K : PySem.W.Frag} {H : Hp}
theorem lay_flat {d : D} {u v : V} {A : List Addr} (f : flatD d = some u) (l : Lay K H d v A) : v = u := by
  cases d with
  | non => cases f; exact l.1
  | bl => cases f; exact l.1
  | int => cases f; exact l.1
  | str => cases f; exact l.1
  | _ => cases f
theorem flat_lay {d : D} {u : V} (f : flatD d = some u) : Lay K H d u [] := by
  cases d with
  | non => cases f; exact ⟨rfl, rfl⟩
  | bl => cases f; exact ⟨rfl, rfl⟩
  | int => cases f; exact ⟨rfl, rfl⟩
  | str => cases f; exact ⟨rfl, rfl⟩
  | _ => cases f
theorem flat_flat {d : D} {u : V} (f : flatD d = some u) : flatV u = true := by
  cases d with
  | non => cases f; rfl
  | bl => cases f; rfl
  | int => cases f; rfl
  | str => cases f; rfl
  | _ => cases f
theorem lay_int {i : Int} {v : V} {A : List Addr} (l : Lay K H (.int i) v A) : v = .int i := l.1
theorem layL_ints : ∀ {ds : List D} {ns : List Int} {vs : List V} {A : List Addr}, intsD ds = some ns → LayL K H ds vs A → vs = ns.map V.int
  | [], ns, vs, A, e, l => by
    cases e
    exact l.1
  | d :: r, ns, vs, A, e, l => by
    obtain ⟨v, ws, A1, A2, e1, e2, l1, l2⟩ := l
    cases d with
    | int i =>
      unfold intsD at e
      cases q : intsD r with
      | none => rw [q] at e; cases e
      | some ms =>
        rw [q] at e
        cases e
        rw [e1, layL_ints q l2, l1.1]
        rfl
    | _ => cases e
theorem layL_pure : ∀ {ds : List D} {vs : List V} {A : List Addr}, allPure ds = true → LayL K H ds vs A → A = []
  | [], vs, A, _, l => l.2
  | d :: r, vs, A, p, l => by
    obtain ⟨v, ws, A1, A2, e1, e2, l1, l2⟩ := l
    have p' : (d.pure && allPure r) = true := p
    obtain ⟨p1, p2⟩ := Bool.and_eq_true_iff.mp p'
    rw [e2, l1.emp p1, layL_pure p2 l2]
    rfl
mutual
theorem toPy_dp : ∀ (d : D) (p : PyData) (v : V) (A : List Addr), toPy d = some p → Lay K H d v A → Dp K H v p
  | .non, p, v, A, e, l => by unfold toPy at e; cases e; rw [l.1]; exact .non
  | .bl b, p, v, A, e, l => by unfold toPy at e; cases e; rw [l.1]; exact .bl b
  | .int i, p, v, A, e, l => by unfold toPy at e; cases e; rw [l.1]; exact .int i
  | .str s, p, v, A, e, l => by unfold toPy at e; cases e; rw [l.1]; exact .str s
  | .tup ds, p, v, A, e, l => by
    unfold toPy at e
    obtain ⟨_, a, vs, e1, h1, h2⟩ := l
    cases q : toPyL ds with
    | none => rw [q] at e; cases e
    | some ps => rw [q] at e; cases e; rw [e1]; exact .tup h1 (toPyL_dp ds ps vs [] q h2)
  | .lst ds, p, v, A, e, l => by
    unfold toPy at e
    obtain ⟨_, a, vs, e1, h1, h2⟩ := l
    cases q : toPyL ds with
    | none => rw [q] at e; cases e
    | some ps => rw [q] at e; cases e; rw [e1]; exact .lst h1.sq (toPyL_dp ds ps vs [] q h2)
  | .kl ds, p, v, A, e, l => by
    unfold toPy at e
    obtain ⟨_, a, vs, e1, h1, h2⟩ := l
    cases q : toPyL ds with
    | none => rw [q] at e; cases e
    | some ps => rw [q] at e; cases e; rw [e1]; exact .lst h1.sq (toPyL_dp ds ps vs [] q h2)
  | .ml ds, p, v, A, e, l => by
    unfold toPy at e
    obtain ⟨a, vs, B, e1, h1, h2, _⟩ := l
    cases q : toPyL ds with
    | none => rw [q] at e; cases e
    | some ps => rw [q] at e; cases e; rw [e1]; exact .lst (SqL.of h1) (toPyL_dp ds ps vs B q h2)
  | .ins _ _ _, p, v, A, e, l => by unfold toPy at e; cases e
theorem toPyL_dp : ∀ (ds : List D) (ps : List PyData) (vs : List V) (A : List Addr), toPyL ds = some ps → LayL K H ds vs A → DpAll K H vs ps
  | [], ps, vs, A, e, l => by unfold toPyL at e; cases e; rw [l.1]; exact .nil
  | d :: ds, ps, vs, A, e, l => by
    unfold toPyL at e
    obtain ⟨v, ws, A1, A2, e1, e2, l1, l2⟩ := l
    cases q1 : toPy d with
    | none => rw [q1] at e; cases e
    | some p =>
      cases q2 : toPyL ds with
      | none => rw [q1, q2] at e; cases e
      | some qs =>
        rw [q1, q2] at e; cases e
        rw [e1]
        exact .cons (toPy_dp d p v A1 q1 l1) (toPyL_dp ds qs ws A2 q2 l2)
end
/-- a list or tuple, read -/
theorem lay_seq {d : D} {ds : List D} {v : V} {A : List Addr} (e : seqD d = some ds) (l : Lay K H d v A) : ∃ a vs B, v = .ref a ∧ (SqL K H a vs ∨ SqT K H a vs) ∧ LayL K H ds vs B := by
  cases d with
  | tup xs => cases e; obtain ⟨_, a, vs, e1, h1, h2⟩ := l; exact ⟨a, vs, [], e1, .inr h1, h2⟩
  | lst xs => cases e; obtain ⟨_, a, vs, e1, h1, h2⟩ := l; exact ⟨a, vs, [], e1, .inl h1.sq, h2⟩
  | kl xs => cases e; obtain ⟨_, a, vs, e1, h1, h2⟩ := l; exact ⟨a, vs, [], e1, .inl h1.sq, h2⟩
  | ml xs => cases e; obtain ⟨a, vs, B, e1, h1, h2, _⟩ := l; exact ⟨a, vs, B, e1, .inl (SqL.of h1), h2⟩
  | _ => cases e
theorem LayL.get : ∀ {ds : List D} {vs : List V} {A : List Addr} {i : Nat} {d : D}, LayL K H ds vs A → ds[i]? = some d → ∃ v B, vs[i]? = some v ∧ Lay K H d v B
  | [], _, _, _, _, _, e => by simp at e
  | d :: ds, vs, A, 0, d', h, e => by
    obtain ⟨v, ws, A1, A2, e1, _, h1, h2⟩ := h
    subst e1
    simp at e; subst e
    exact ⟨v, A1, rfl, h1⟩
  | d :: ds, vs, A, i + 1, d', h, e => by
    obtain ⟨v, ws, A1, A2, e1, _, h1, h2⟩ := h
    subst e1
    obtain ⟨u, B, q1, q2⟩ := LayL.get (i := i) (d := d') h2 (by simpa using e)
    exact ⟨u, B, by simpa using q1, q2⟩
end

/-! ### what an operation may give -/
def Fn (K : PySem.W.Frag) (H : Hp) (d : D) (Q : VK) : Prop :=
  (∀ v, Lay K H d v [] → Q v H) ∧ (∀ ds vs p, d = .ml ds → H p = none → LayL K H ds vs [] → Q (.ref p) (upd H p (.lst vs))) ∧
    (∀ ds vs p, d = .tup ds → H p = none → LayL K H ds vs [] → Q (.ref p) (upd H p (.tup vs)))
theorem Kp.new {H : Hp} {p : Addr} {o : HO} (h : H p = none) : Kp H (upd H p o) := (Stp.laid (F := fun _ => False) (o := o) h).kp
section
variable {K : PySem.W.Frag} {W : WX} {σ : St} {H : Hp} {ss : Sl} {Af : Nat → List Addr} {d : D} {Q : VK}
theorem Rep.fresh (r : Rep K H ss σ Af) {p : Addr} (hp : H p = none) : ¬ Own Af p := fun z => by
  obtain ⟨o, e, _⟩ := r.there z
  rw [hp] at e; cases e
theorem Rep.laid (r : Rep K H ss σ Af) {p : Addr} {o : HO} (hp : H p = none) : Rep K (upd H p o) ss σ Af :=
  r.step (F := fun _ => False) (Stp.laid hp) fun _ _ z => z
theorem Wn.fn (r : Rep K H ss σ Af) (h : Wn (LayX K σ) K W σ H (Own Af) (.ok (.val d) ss) Q) : Fn K H d Q := by
  refine ⟨fun v l => Wn.done r h l, fun ds vs p e hp l => ?_, fun ds vs p e hp l => ?_⟩
  · subst e
    refine h _ _ ⟨Af, [p], r.laid hp, ⟨p, vs, [], rfl, upd_same, LayL.keep (Kp.new hp) l, rfl⟩, by simp, fun a ha => ?_, (Stp.laid hp).sub fun b hb => hb.elim .inl fun z => .inr (by simpa using z)⟩
    have : a = p := by simpa using ha
    subst this
    exact r.fresh hp
  · subst e
    refine h _ _ ⟨Af, [], r.laid hp, ⟨rfl, p, vs, rfl, SqT.of upd_same, LayL.keep (Kp.new hp) l⟩, List.nodup_nil, fun a ha => (nomatch ha), (Stp.laid hp).sub fun b hb => hb.elim .inl fun z => nomatch z⟩
theorem Fn.val (h : Fn K H d Q) {v : V} (f : flatD d = some v) : Q v H := h.1 v (flat_lay f)
end

/-! ### binary operators -/
def bigD (i : Int) : Bool := decide (-(2 ^ 64) < i) && decide (i < 2 ^ 64)
def binD : Operator → D → D → Option D
  | .Add, .int i, .int j => some (.int (i + j))
  | .Add, .str s, .str t => if s.length + t.length ≤ sizeLine then some (.str (s ++ t)) else none
  | .Add, .tup a, .tup b => if a.length + b.length ≤ sizeLine then some (.tup (a ++ b)) else none
  | .Add, .ml a, .ml b => if a.length + b.length ≤ sizeLine ∧ allPure a = true ∧ allPure b = true then some (.ml (a ++ b)) else none
  | .Add, .ml a, .lst b => if a.length + b.length ≤ sizeLine ∧ allPure a = true then some (.ml (a ++ b)) else none
  | .Add, .lst a, .ml b => if a.length + b.length ≤ sizeLine ∧ allPure b = true then some (.ml (a ++ b)) else none
  | .Add, .lst a, .lst b => if a.length + b.length ≤ sizeLine then some (.ml (a ++ b)) else none
  | .Sub, .int i, .int j => some (.int (i - j))
  | .Mult, .int i, .int j => if (bigD i || bigD j) = true then some (.int (i * j)) else none
  | .FloorDiv, .int i, .int j => if 0 < j ∧ j < 2 ^ 64 then some (.int (i / j)) else none
  | .Mod, .int i, .int j => if 0 < j then some (.int (i % j)) else none
  | .Pow, .int i, .int j => if 0 ≤ j ∧ j ≤ 1000000 ∧ i.natAbs < 2 ^ 64 then some (.int (i ^ j.toNat)) else none
  | _, _, _ => none

section
variable {X : Cx}
def rCatS : R2 := fun x y H Q => ∃ l b xs zs, x = .ref l ∧ y = .ref b ∧ Rd H l (.lst xs) ∧ Rd H b (.lst zs) ∧ xs.length + zs.length ≤ sizeLine ∧ ∀ p, H p = none → Q (.ref p) (upd H p (.lst (xs ++ zs)))
theorem op_catS : OpR X (binaryOp .Add) rCatS := by
  intro pins s σ H x y v u Q I rx ry h
  obtain ⟨l, b, xs, zs, rfl, rfl, hH, hB, hz, q⟩ := h
  cases rx
  cases ry
  obtain ⟨z, its, n, r, e⟩ := hH.ok I.hok
  obtain ⟨z2, its2, n2, r2, e2⟩ := hB.ok I.hok
  have hl := r.length
  have hl2 := r2.length
  refine PySem.P.add_list e e2 ?_ (by rw [List.size_toArray, List.size_toArray]; omega)
  have ea : its.toArray ++ its2.toArray = (its ++ its2).toArray := by simp
  rw [ea]
  exact ⟨.ref _, _, I.lnew (t' := s.toks) (r.append r2) (by rw [List.length_append]; omega), rfl, q _ I.fresh⟩
def rAddAny (K : PySem.W.Frag) : R2 := fun x y H Q => rI0 (fun i j => .int (i + j)) x y H Q ∨ (∃ i j, x = .str i ∧ y = .str j ∧ i.length + j.length ≤ sizeLine ∧ Q (.str (i ++ j)) H) ∨ rCatA K x y H Q ∨ rCatS x y H Q
theorem op_addAny : OpR X (binaryOp .Add) (rAddAny X.K) := op_add.or (op_add_str.or (op_catA.or op_catS))
def rBin (K : PySem.W.Frag) : Operator → R2
  | .Add => rAddAny K
  | .Sub => rI0 fun i j => .int (i - j)
  | .Mult => rI CMul fun i j => .int (i * j)
  | .FloorDiv => rI CDivW fun i j => .int (i / j)
  | .Mod => rI (fun _ j => 0 < j) fun i j => .int (i % j)
  | .Pow => rI CPow fun i j => .int (i ^ j.toNat)
  | _ => fun _ _ _ _ => False
theorem op_bin (op : Operator) : OpR X (binaryOp op) (rBin X.K op) := by
  cases op with
  | Add => exact op_addAny
  | Sub => exact op_sub
  | Mult => exact op_mul
  | FloorDiv => exact op_fdivW
  | Mod => exact op_mod
  | Pow => exact op_pow
  | _ => exact fun _ _ _ _ _ _ _ _ _ _ _ _ h => h.elim
end

/-- op is what r gives -/
def OpS (K : PySem.W.Frag) (op : D → D → Option D) (r : R2) : Prop := ∀ (H : Hp) (x y d : D) (v w : V) (A B : List Addr) (Q : VK), Lay K H x v A → Lay K H y w B → op x y = some d → Fn K H d Q → r v w H Q
section
variable {K : PySem.W.Frag}
theorem len_of {H : Hp} {ds : List D} {vs : List V} {A : List Addr} (l : LayL K H ds vs A) : vs.length = ds.length := LayL.len l
theorem rd_lst {H : Hp} {ds : List D} {v : V} {A : List Addr} (l : Lay K H (.lst ds) v A) : ∃ a vs, v = .ref a ∧ Rd H a (.lst vs) ∧ LayL K H ds vs [] :=
  let ⟨_, a, vs, e, h1, h2⟩ := l
  ⟨a, vs, e, .inr h1, h2⟩
theorem rd_ml {H : Hp} {ds : List D} {v : V} {A : List Addr} (l : Lay K H (.ml ds) v A) (p : allPure ds = true) : ∃ a vs, v = .ref a ∧ Rd H a (.lst vs) ∧ LayL K H ds vs [] :=
  let ⟨a, vs, B, e, h1, h2, _⟩ := l
  ⟨a, vs, e, .inl h1, by rw [layL_pure p h2] at h2; exact h2⟩
theorem cat_s {H : Hp} {a b : List D} {v w : V} {Q : VK} (f : Fn K H (.ml (a ++ b)) Q) (h1 : ∃ l vs, v = .ref l ∧ Rd H l (.lst vs) ∧ LayL K H a vs []) (h2 : ∃ l vs, w = .ref l ∧ Rd H l (.lst vs) ∧ LayL K H b vs [])
    (hz : a.length + b.length ≤ sizeLine) : rCatS v w H Q := by
  obtain ⟨l, vs, e1, r1, l1⟩ := h1
  obtain ⟨m, ws, e2, r2, l2⟩ := h2
  exact ⟨l, m, vs, ws, e1, e2, r1, r2, by rw [len_of l1, len_of l2]; exact hz, fun p hp => f.2.1 _ _ p rfl hp (l1.append0 l2)⟩
theorem ops_bin (op : Operator) : OpS K (binD op) (rBin K op) := by
  intro H x y d v w A B Q l1 l2 e f
  unfold binD at e
  split at e
  · cases e; exact .inl ⟨_, _, l1.1, l2.1, f.val rfl⟩
  · split at e
    · cases e; exact .inr (.inl ⟨_, _, l1.1, l2.1, ‹_›, f.val rfl⟩)
    · cases e
  · split at e
    · cases e
      obtain ⟨_, a, vs, e1, h1, h2⟩ := l1
      obtain ⟨_, b, ws, e2, h3, h4⟩ := l2
      refine .inr (.inr (.inl ⟨a, b, vs, ws, e1, e2, h1, h3, by rw [len_of h2, len_of h4]; assumption, fun z => ?_, fun _ z => ?_, fun _ _ p hp => f.2.2 _ _ p rfl hp (h2.append0 h4)⟩))
      · subst z
        have q := h2.append0 h4
        refine f.1 _ ⟨rfl, b, ws, rfl, h3, ?_⟩
        simpa using q
      · subst z
        have q := h2.append0 h4
        refine f.1 _ ⟨rfl, a, vs, rfl, h1, ?_⟩
        simpa using q
    · cases e
  · split at e
    · rename_i c; obtain ⟨c1, c2, c3⟩ := c; cases e; exact .inr (.inr (.inr (cat_s f (rd_ml l1 c2) (rd_ml l2 c3) c1)))
    · cases e
  · split at e
    · rename_i c; obtain ⟨c1, c2⟩ := c; cases e; exact .inr (.inr (.inr (cat_s f (rd_ml l1 c2) (rd_lst l2) c1)))
    · cases e
  · split at e
    · rename_i c; obtain ⟨c1, c2⟩ := c; cases e; exact .inr (.inr (.inr (cat_s f (rd_lst l1) (rd_ml l2 c2) c1)))
    · cases e
  · split at e
    · cases e; exact .inr (.inr (.inr (cat_s f (rd_lst l1) (rd_lst l2) ‹_›)))
    · cases e
  · cases e; exact ⟨_, _, l1.1, l2.1, f.val rfl⟩
  · split at e
    · rename_i c
      cases e
      refine ⟨_, _, l1.1, l2.1, ?_, f.val rfl⟩
      unfold bigD at c
      simp only [Bool.or_eq_true, Bool.and_eq_true, decide_eq_true_eq] at c
      exact c
    · cases e
  · split at e
    · rename_i c
      cases e
      refine ⟨_, _, l1.1, l2.1, wide_div (b := 64) c.1 ?_ (by decide) (by decide), f.val rfl⟩
      have h1 := c.1
      have h2 := c.2
      omega
    · cases e
  · split at e
    · cases e; exact ⟨_, _, l1.1, l2.1, ‹_›, f.val rfl⟩
    · cases e
  · split at e
    · cases e; exact ⟨_, _, l1.1, l2.1, ‹_›, f.val rfl⟩
    · cases e
  · cases e
end
end Dn

set_option Elab.async false
set_option linter.all false
set_option maxRecDepth 100000
set_option maxHeartbeats 2000000
/-! Dn4: comparisons, indices, slices, truth; the combinators of expressions. -/
namespace Dn
open PySem L2

def flatsD : List D → Option (List V)
  | [] => some []
  | d :: r => match flatD d, flatsD r with
    | some v, some vs => some (v :: vs)
    | _, _ => none
def eqD : D → D → Option Bool
  | .int i, .int j => some (decide (i = j))
  | .str s, .str t => some (decide (s = t))
  | .bl a, .bl b => some (decide (a = b))
  | .non, .non => some true
  | x, y => match flatD x, flatD y with
    | some u, some v => if scal u v = true then some (decide (u = v)) else none
    | _, _ => match toPy x, toPy y with
      | some p, some q => if (SeqAt.shaped p && SeqAt.shaped q) = true then some (PyData.eqv p q) else none
      | _, _ => none
def ltD : D → D → Option Bool
  | .int i, .int j => some (decide (i < j))
  | .str s, .str t => some (decide (s.cps.toList < t.cps.toList))
  | .tup a, .tup b => match intsD a, intsD b with
    | some ns, some ms => some (HT.lexLt ns ms)
    | _, _ => none
  | _, _ => none
def inD (x y : D) : Option Bool := match flatD x, seqD y with
  | some u, some ys => match flatsD ys with
    | some vs => some (inV u vs)
    | none => none
  | _, _ => none
def isNonD : D → Bool
  | .non => true
  | _ => false
def isD : D → D → Option Bool
  | x, .non => some (isNonD x)
  | .bl a, .bl b => some (decide (a = b))
  | _, _ => none
def cmpD : CmpOp → D → D → Option Bool
  | .Eq, x, y => eqD x y
  | .NotEq, x, y => (eqD x y).map (!·)
  | .Lt, x, y => ltD x y
  | .LtE, .int i, .int j => some (decide (i ≤ j))
  | .Gt, .int i, .int j => some (decide (j < i))
  | .GtE, .int i, .int j => some (decide (j ≤ i))
  | .Is, x, y => isD x y
  | .IsNot, x, y => (isD x y).map (!·)
  | .In, x, y => inD x y
  | .NotIn, x, y => (inD x y).map (!·)
  | _, _, _ => none
def cmpD' (op : CmpOp) (x y : D) : Option D := (cmpD op x y).map D.bl

section
variable {K : PySem.W.Frag} {H : Hp}
theorem layL_flats : ∀ {ds : List D} {us vs : List V} {A : List Addr}, flatsD ds = some us → LayL K H ds vs A → vs = us ∧ us.all flatV = true
  | [], us, vs, A, e, l => by cases e; exact ⟨l.1, rfl⟩
  | d :: r, us, vs, A, e, l => by
    obtain ⟨v, ws, A1, A2, e1, e2, l1, l2⟩ := l
    unfold flatsD at e
    cases q1 : flatD d with
    | none => rw [q1] at e; cases e
    | some u =>
      cases q2 : flatsD r with
      | none => rw [q1, q2] at e; cases e
      | some ws' =>
        rw [q1, q2] at e
        cases e
        obtain ⟨h1, h2⟩ := layL_flats q2 l2
        rw [e1, lay_flat q1 l1, h1]
        exact ⟨rfl, by rw [List.all_cons, flat_flat q1, h2]; rfl⟩
def rCmp (K : PySem.W.Frag) : CmpOp → R2
  | .Eq => fun x y H Q => rEq x y H Q ∨ rEqD K x y H Q
  | .NotEq => fun x y H Q => rNe x y H Q ∨ rNeD K x y H Q
  | .Lt => fun x y H Q => rI0 (fun i j => .bl (decide (i < j))) x y H Q ∨ (∃ i j, x = .str i ∧ y = .str j ∧ Q (.bl (decide (i.cps.toList < j.cps.toList))) H) ∨ rLtT K x y H Q
  | .LtE => rI0 fun i j => .bl (decide (i ≤ j))
  | .Gt => rI0 fun i j => .bl (decide (j < i))
  | .GtE => rI0 fun i j => .bl (decide (j ≤ i))
  | .Is => fun x y H Q => (y = .non ∧ Q (.bl (decide (x = .non))) H) ∨ (∃ a b, x = .bl a ∧ y = .bl b ∧ Q (.bl (decide (a = b))) H)
  | .IsNot => fun x y H Q => (y = .non ∧ Q (.bl (!decide (x = .non))) H) ∨ (∃ a b, x = .bl a ∧ y = .bl b ∧ Q (.bl (!decide (a = b))) H)
  | .In => rIn K false
  | .NotIn => rIn K true
theorem op_cmpA {X : Cx} (hu : X.A.units + 64 < cLine) (op : CmpOp) : OpR X (compareOp op) (rCmp X.K op) := by
  cases op with
  | Eq => exact op_eq.or (op_eqD hu)
  | NotEq => exact op_ne.or (op_neD hu)
  | Lt => exact op_lt.or (op_lt_str.or (op_ltT (by omega)))
  | LtE => exact op_le
  | Gt => exact op_gt
  | GtE => exact op_ge
  | Is => exact op_isN.or op_is_bl
  | IsNot => exact op_notN.or op_isnot_bl
  | In => exact op_in_seq
  | NotIn => exact op_notIn_seq
theorem lay_non {d : D} {v : V} {A : List Addr} (l : Lay K H d v A) : decide (v = .non) = isNonD d := by
  cases d with
  | non => rw [l.1]; rfl
  | bl => rw [l.1]; exact decide_eq_false (fun z => nomatch z)
  | int => rw [l.1]; exact decide_eq_false (fun z => nomatch z)
  | str => rw [l.1]; exact decide_eq_false (fun z => nomatch z)
  | tup => obtain ⟨_, a, vs, e, _⟩ := l; rw [e]; exact decide_eq_false (fun z => nomatch z)
  | lst => obtain ⟨_, a, vs, e, _⟩ := l; rw [e]; exact decide_eq_false (fun z => nomatch z)
  | kl => obtain ⟨_, a, vs, e, _⟩ := l; rw [e]; exact decide_eq_false (fun z => nomatch z)
  | ml => obtain ⟨a, vs, B, e, _⟩ := l; rw [e]; exact decide_eq_false (fun z => nomatch z)
  | ins => obtain ⟨a, dx, vs, B, e, _⟩ := l; rw [e]; exact decide_eq_false (fun z => nomatch z)
theorem fbl {b : Bool} {Q : VK} (f : Fn K H (.bl b) Q) : Q (.bl b) H := f.val rfl
theorem eq_two {x y : D} {v w : V} {A B : List Addr} {b : Bool} (l1 : Lay K H x v A) (l2 : Lay K H y w B) (e : eqD x y = some b) :
    (scal v w = true ∧ decide (v = w) = b) ∨ ∃ p q, Dp K H v p ∧ Dp K H w q ∧ SeqAt.shaped p = true ∧ SeqAt.shaped q = true ∧ PyData.eqv p q = b := by
  unfold eqD at e
  split at e
  · cases e; left; rw [l1.1, l2.1]; exact ⟨rfl, by simp⟩
  · cases e; left; rw [l1.1, l2.1]; exact ⟨rfl, by simp⟩
  · cases e; left; rw [l1.1, l2.1]; exact ⟨rfl, by simp⟩
  · cases e; left; rw [l1.1, l2.1]; exact ⟨rfl, by simp⟩
  · split at e
    · rename_i u u' f1 f2
      split at e
      · cases e; left; rw [lay_flat f1 l1, lay_flat f2 l2]; exact ⟨‹_›, rfl⟩
      · cases e
    · split at e
      · rename_i p q f1 f2
        split at e
        · rename_i c
          obtain ⟨c1, c2⟩ := Bool.and_eq_true_iff.mp c
          cases e
          exact .inr ⟨p, q, toPy_dp _ _ _ _ f1 l1, toPy_dp _ _ _ _ f2 l2, c1, c2, rfl⟩
        · cases e
      · cases e
theorem is_two {x y : D} {v w : V} {A B : List Addr} {b : Bool} (l1 : Lay K H x v A) (l2 : Lay K H y w B) (e : isD x y = some b) :
    (w = .non ∧ decide (v = .non) = b) ∨ ∃ a c, v = .bl a ∧ w = .bl c ∧ decide (a = c) = b := by
  unfold isD at e
  split at e
  · cases e; exact .inl ⟨l2.1, lay_non l1⟩
  · cases e; exact .inr ⟨_, _, l1.1, l2.1, rfl⟩
  · cases e
theorem in_two {x y : D} {v w : V} {A B : List Addr} {b : Bool} (l1 : Lay K H x v A) (l2 : Lay K H y w B) (e : inD x y = some b) :
    ∃ p xs, w = .ref p ∧ (SqL K H p xs ∨ SqT K H p xs) ∧ flatV v = true ∧ xs.all flatV = true ∧ inV v xs = b := by
  unfold inD at e
  split at e
  · rename_i u ys f1 f2
    split at e
    · rename_i vs f3
      cases e
      obtain ⟨a, ws, C, e1, h1, h2⟩ := lay_seq f2 l2
      obtain ⟨q1, q2⟩ := layL_flats f3 h2
      subst q1
      rw [lay_flat f1 l1]
      exact ⟨a, ws, e1, h1, flat_flat f1, q2, rfl⟩
    · cases e
  · cases e
theorem map_bl {o : Option Bool} {d : D} (e : o.map D.bl = some d) : ∃ b, o = some b ∧ d = .bl b := by
  cases o with
  | none => cases e
  | some b => cases e; exact ⟨b, rfl, rfl⟩
theorem map_not {o : Option Bool} {b : Bool} (e : o.map (!·) = some b) : o = some (!b) := by
  cases o with
  | none => cases e
  | some c => cases e; simp
theorem ops_cmp (op : CmpOp) : OpS K (cmpD' op) (rCmp K op) := by
  intro H x y d v w A B Q l1 l2 e f
  obtain ⟨b, e', rfl⟩ := map_bl e
  clear e
  have e := e'
  clear e'
  have q : Q (.bl b) H := fbl f
  cases op with
  | Eq =>
    rcases eq_two l1 l2 e with ⟨h1, h2⟩ | ⟨p, p', h1, h2, h3, h4, h5⟩
    · exact .inl ⟨h1, by rw [h2]; exact q⟩
    · exact .inr ⟨p, p', h1, h2, h3, h4, by rw [h5]; exact q⟩
  | NotEq =>
    rcases eq_two l1 l2 (map_not e) with ⟨h1, h2⟩ | ⟨p, p', h1, h2, h3, h4, h5⟩
    · exact .inl ⟨h1, by rw [h2, Bool.not_not]; exact q⟩
    · exact .inr ⟨p, p', h1, h2, h3, h4, by rw [h5, Bool.not_not]; exact q⟩
  | Lt =>
    have e : ltD x y = some b := e
    unfold ltD at e
    split at e
    · cases e; exact .inl ⟨_, _, l1.1, l2.1, q⟩
    · cases e; exact .inr (.inl ⟨_, _, l1.1, l2.1, q⟩)
    · split at e
      · rename_i f1 f2
        cases e
        obtain ⟨_, a, vs, e1, h1, h2⟩ := l1
        obtain ⟨_, c, ws, e2, h3, h4⟩ := l2
        rw [layL_ints f1 h2] at h1
        rw [layL_ints f2 h4] at h3
        exact .inr (.inr ⟨a, c, _, _, e1, e2, h1, h3, q⟩)
      · cases e
    · cases e
  | LtE =>
    cases x <;> cases y <;> first | (cases e; exact ⟨_, _, l1.1, l2.1, q⟩) | cases e
  | Gt =>
    cases x <;> cases y <;> first | (cases e; exact ⟨_, _, l1.1, l2.1, q⟩) | cases e
  | GtE =>
    cases x <;> cases y <;> first | (cases e; exact ⟨_, _, l1.1, l2.1, q⟩) | cases e
  | Is =>
    rcases is_two l1 l2 e with ⟨h1, h2⟩ | ⟨a, c, h1, h2, h3⟩
    · exact .inl ⟨h1, by rw [h2]; exact q⟩
    · exact .inr ⟨a, c, h1, h2, by rw [h3]; exact q⟩
  | IsNot =>
    rcases is_two l1 l2 (map_not e) with ⟨h1, h2⟩ | ⟨a, c, h1, h2, h3⟩
    · exact .inl ⟨h1, by rw [h2, Bool.not_not]; exact q⟩
    · exact .inr ⟨a, c, h1, h2, by rw [h3, Bool.not_not]; exact q⟩
  | In =>
    obtain ⟨p, xs, h1, h2, h3, h4, h5⟩ := in_two l1 l2 e
    exact ⟨p, xs, h1, h2, h3, h4, by show Q (.bl (inV v xs)) H; rw [h5]; exact q⟩
  | NotIn =>
    obtain ⟨p, xs, h1, h2, h3, h4, h5⟩ := in_two l1 l2 (map_not e)
    exact ⟨p, xs, h1, h2, h3, h4, by show Q (.bl (!inV v xs)) H; rw [h5, Bool.not_not]; exact q⟩

/-! ### subscripts -/
def ixD (x y : D) : Option D := match y with
  | .int i => match x with
    | .str s => if s.length ≤ sizeLine then (atI s.cps.toList i).map fun c => .str ⟨#[c]⟩ else none
    | _ => match seqD x with
      | some ds => match atI ds i with
        | some d => if d.pure = true then some d else none
        | none => none
      | none => none
  | _ => none
theorem atI_lay {ds : List D} {vs : List V} {A : List Addr} {i : Int} {d : D} (l : LayL K H ds vs A) (e : atI ds i = some d) : ∃ v B, atI vs i = some v ∧ Lay K H d v B := by
  unfold atI at e ⊢
  rw [LayL.len l]
  cases q : ixN ds.length i with
  | none => rw [q] at e; cases e
  | some j =>
    rw [q] at e
    exact l.get e
theorem ops_ix : OpS K ixD (rIx K) := by
  intro H x y d v w A B Q l1 l2 e f
  unfold ixD at e
  split at e
  · rename_i i
    split at e
    · rename_i s
      split at e
      · cases q : atI s.cps.toList i with
        | none => rw [q] at e; cases e
        | some c =>
          rw [q] at e; cases e
          exact .inr (.inr ⟨s, i, c, l1.1, l2.1, ‹_›, q, f.val rfl⟩)
      · cases e
    · split at e
      · rename_i ds f1
        split at e
        · rename_i d' f2
          split at e
          · rename_i p
            cases e
            obtain ⟨a, vs, C, e1, h1, h2⟩ := lay_seq f1 l1
            obtain ⟨u, C', q1, q2⟩ := atI_lay h2 f2
            have z := q2.emp p
            subst z
            have q : Q u H := f.1 u q2
            rcases h1 with h1 | h1
            · exact .inl ⟨a, vs, i, u, e1, l2.1, h1, q1, q⟩
            · exact .inr (.inl ⟨a, vs, i, u, e1, l2.1, h1, q1, q⟩)
          · cases e
        · cases e
      · cases e
  · cases e
end

/-! ### truth, length -/
def truthD : D → Option Bool
  | .non => some false
  | .bl b => some b
  | .int i => some (i != 0)
  | .str s => if s.length ≤ sizeLine then some ((s.length : Int) != 0) else none
  | .tup ds => some (!ds.isEmpty)
  | .lst ds => some (!ds.isEmpty)
  | .ml ds => some (!ds.isEmpty)
  | .kl ds => some (!ds.isEmpty)
  | .ins _ _ _ => none
theorem emp_of {K : PySem.W.Frag} {H : Hp} {ds : List D} {vs : List V} {A : List Addr} (l : LayL K H ds vs A) : (!vs.isEmpty) = !ds.isEmpty := by
  cases ds with
  | nil => rw [l.1]; rfl
  | cons d r => obtain ⟨v, ws, _, _, e, _⟩ := l; rw [e]; rfl
theorem truth_lay {K : PySem.W.Frag} {H : Hp} {d : D} {v : V} {A : List Addr} {b : Bool} (l : Lay K H d v A) (e : truthD d = some b) : TruV K v H b := by
  cases d with
  | non => cases e; rw [l.1]; rfl
  | bl => cases e; rw [l.1]; rfl
  | int => cases e; rw [l.1]; rfl
  | str s =>
    have e : (if s.length ≤ sizeLine then some ((s.length : Int) != 0) else none) = some b := e
    split at e
    · cases e; rw [l.1]; exact ⟨‹_›, rfl⟩
    · cases e
  | tup => cases e; obtain ⟨_, a, vs, e1, h1, h2⟩ := l; rw [e1]; exact .inr (.inl ⟨vs, h1, (emp_of h2).symm⟩)
  | lst => cases e; obtain ⟨_, a, vs, e1, h1, h2⟩ := l; rw [e1]; exact .inl ⟨vs, h1.sq, (emp_of h2).symm⟩
  | kl => cases e; obtain ⟨_, a, vs, e1, h1, h2⟩ := l; rw [e1]; exact .inl ⟨vs, h1.sq, (emp_of h2).symm⟩
  | ml => cases e; obtain ⟨a, vs, B, e1, h1, h2, _⟩ := l; rw [e1]; exact .inl ⟨vs, SqL.of h1, (emp_of h2).symm⟩
  | ins => cases e

/-! ### the combinators -/
def ofD (o : Option D) (ss : Sl) : R Vx := match o with
  | some d => .ok (.val d) ss
  | none => .err
def dErr : EV := fun _ => .err
def dCst (d : D) : EV := fun ss => .ok (.val d) ss
def dVar (i : Nat) : EV := fun ss => match ss[i]? with
  | some (some d) => if d.pure = true then .ok (.val d) ss else .ok (.plc i) ss
  | _ => .err
def get2 (x y : Vx) (ss : Sl) : Option (D × D) := match x.get ss, y.get ss with
  | some a, some b => some (a, b)
  | _, _ => none
def op2 (op : D → D → Option D) (x y : Vx) (ss : Sl) : R Vx := match get2 x y ss with
  | some (a, b) => ofD (op a b) ss
  | none => .err
def d2 (op : D → D → Option D) (a b : EV) : EV := fun ss => (a ss).bind fun x s1 => (b s1).bind fun y s2 => op2 op x y s2
def op1 (op : D → Option D) (x : Vx) (ss : Sl) : R Vx := match x.get ss with
  | some a => ofD (op a) ss
  | none => .err
def d1 (op : D → Option D) (a : EV) : EV := fun ss => (a ss).bind fun x s1 => op1 op x s1
/-- a value that must be a truth value, as a test -/
def asB (x : Vx) (ss : Sl) : R Bool := match x with
  | .val (.bl b) => .ok b ss
  | _ => .err
def dTB (a : EV) : TV := fun ss => (a ss).bind fun x s1 => asB x s1
/-- truth of a value -/
def asT (x : Vx) (ss : Sl) : R Bool := match x.get ss with
  | some d => match truthD d with
    | some b => .ok b ss
    | none => .err
  | none => .err
def dTr (a : EV) : TV := fun ss => (a ss).bind fun x s1 => asT x s1
def dNotT (t : TV) : TV := fun ss => (t ss).bind fun b s1 => .ok (!b) s1
def dAndT (t u : TV) : TV := fun ss => (t ss).bind fun b s1 => if b = true then u s1 else .ok false s1
def dOrT (t u : TV) : TV := fun ss => (t ss).bind fun b s1 => if b = true then .ok true s1 else u s1
/-- and, or as values: all but the last are truth values -/
def dAndE (a b : EV) : EV := fun ss => (a ss).bind fun x s1 => (asB x s1).bind fun c s2 => if c = true then b s2 else .ok (.val (.bl false)) s2
def dOrE (a b : EV) : EV := fun ss => (a ss).bind fun x s1 => (asB x s1).bind fun c s2 => if c = true then .ok (.val (.bl true)) s2 else b s2
def dNotE (a : EV) : EV := fun ss => (a ss).bind fun x s1 => (asB x s1).bind fun c s2 => .ok (.val (.bl (!c))) s2
def dIfE (t : TV) (a b : EV) : EV := fun ss => (t ss).bind fun c s1 => if c = true then a s1 else b s1
def op3 (o1 o2 : CmpOp) (c : EV) (x y : Vx) (s2 : Sl) : R Vx := match get2 x y s2 with
  | some (p, q) => match cmpD o1 p q with
    | some true => (c s2).bind fun z s3 => op2 (cmpD' o2) y z s3
    | some false => .ok (.val (.bl false)) s2
    | none => .err
  | none => .err
def dChain (o1 o2 : CmpOp) (a b c : EV) : EV := fun ss => (a ss).bind fun x s1 => (b s1).bind fun y s2 => op3 o1 o2 c x y s2
def dNilA : AV := fun ss => .ok [] ss
def dConsA (a : EV) (t : AV) : AV := fun ss => (a ss).bind fun x s1 => (t s1).bind fun xs s2 => .ok (x :: xs) s2
def pures : List Vx → Option (List D)
  | [] => some []
  | .val d :: r => if d.pure = true then match pures r with
      | some ds => some (d :: ds)
      | none => none
    else none
  | .plc _ :: _ => none
def mkTup (xs : List Vx) (ss : Sl) : R Vx := match pures xs with
  | some ds => if ds.length ≤ sizeLine then .ok (.val (.tup ds)) ss else .err
  | none => .err
def mkLst (xs : List Vx) (ss : Sl) : R Vx := match pures xs with
  | some ds => if ds.length ≤ sizeLine then .ok (.val (.ml ds)) ss else .err
  | none => .err
def dTup (t : AV) : EV := fun ss => (t ss).bind mkTup
def dLst (t : AV) : EV := fun ss => (t ss).bind mkLst
/-- a fresh list stands still from now on -/
def frz (x : Vx) : Vx := match x with
  | .val (.ml ds) => if allPure ds = true then .val (.lst ds) else x
  | _ => x
def dFrz (a : EV) : EV := fun ss => (a ss).bind fun x s1 => .ok (frz x) s1

section
variable {K : PySem.W.Frag} {W : WX} {σ : St} {H : Hp} {Q : VK}
theorem s_cst {d : D} {v : V} (f : flatD d = some v) (h : tE K W (dCst d) σ H Q) : tC v σ H Q := by
  obtain ⟨ss, Af, r, h⟩ := h
  exact Wn.done r h (flat_lay f)
theorem s_var {i : Nat} (h : tE K W (dVar i) σ H Q) : tVar i σ H Q := by
  obtain ⟨ss, Af, r, h⟩ := h
  unfold dVar at h
  split at h
  · rename_i d e
    obtain ⟨v, h1, h2⟩ := r.lay i d e
    refine ⟨v, h1, ?_⟩
    split at h
    · rename_i p
      have z := h2.emp p
      rw [z] at h2
      exact Wn.done r h h2
    · exact Wn.done r h ⟨rfl, h1⟩
  · exact h.elim
theorem op2_get {op : D → D → Option D} {x y : Vx} {ss : Sl} {σ : St} {H : Hp} {F : Addr → Prop} (h : Wn (LayX K σ) K W σ H F (op2 op x y ss) Q) :
    ∃ a b d, x.get ss = some a ∧ y.get ss = some b ∧ op a b = some d ∧ Wn (LayX K σ) K W σ H F (.ok (.val d) ss) Q := by
  unfold op2 get2 at h
  split at h
  · rename_i p a b e
    split at e
    · rename_i c d f1 f2
      cases e
      cases q : op a b with
      | none => rw [q] at h; exact h.elim
      | some z => rw [q] at h; exact ⟨a, b, z, f1, f2, q, h⟩
    · cases e
  · exact h.elim
theorem s_two {op : D → D → Option D} {r : R2} {fa fb : EV} (hr : OpS K op r) (h : tE K W (d2 op fa fb) σ H Q) : tOp r (tE K W fa) (tE K W fb) σ H Q := by
  obtain ⟨ss, Af, rp, h⟩ := h
  refine bindW rp h fun x v H1 s1 Af1 B1 e1 r1 l1 n1 d1 st1 h => ?_
  refine bindW r1 h fun y w H2 s2 Af2 B2 e2 r2 l2 n2 d2 st2 h => ?_
  obtain ⟨a, b, d, g1, g2, g3, h⟩ := op2_get h
  obtain ⟨A1, q1⟩ := (l1.stay st2 d1).read r2 g1
  obtain ⟨A2, q2⟩ := l2.read r2 g2
  exact hr H2 a b d v w A1 A2 Q q1 q2 g3 (Wn.fn r2 h)
theorem s_tb {f : EV} {Q : Bool → Hp → Prop} (h : tT K W (dTB f) σ H Q) : tE K W f σ H fun x H' => ∃ k, x = .bl k ∧ Q k H' := by
  obtain ⟨ss, Af, rp, h⟩ := h
  refine bindW rp h fun x v H1 s1 Af1 B1 e1 r1 l1 n1 d1 st1 h => ?_
  unfold asB at h
  split at h
  · rename_i b
    exact ⟨b, l1.1, Wn.done r1 h ⟨rfl, rfl⟩⟩
  · exact h.elim
theorem s_tr {f : EV} {Q : Bool → Hp → Prop} (h : tT K W (dTr f) σ H Q) : tE K W f σ H fun x H' => ∃ k, TruV K x H' k ∧ Q k H' := by
  obtain ⟨ss, Af, rp, h⟩ := h
  refine bindW rp h fun x v H1 s1 Af1 B1 e1 r1 l1 n1 d1 st1 h => ?_
  unfold asT at h
  split at h
  · rename_i d g
    split at h
    · rename_i b q
      obtain ⟨A, l⟩ := l1.read r1 g
      exact ⟨b, truth_lay l q, Wn.done r1 h ⟨rfl, rfl⟩⟩
    · exact h.elim
  · exact h.elim
theorem s_not {t : TV} {Q : Bool → Hp → Prop} (h : tT K W (dNotT t) σ H Q) : tNot (tT K W t) σ H Q := by
  obtain ⟨ss, Af, rp, h⟩ := h
  refine bindW rp h fun x v H1 s1 Af1 B1 e1 r1 l1 n1 d1 st1 h => ?_
  obtain ⟨q, _⟩ := l1
  subst q
  exact Wn.done r1 h ⟨rfl, rfl⟩
theorem s_and {t u : TV} {Q : Bool → Hp → Prop} (h : tT K W (dAndT t u) σ H Q) : tAnd (tT K W t) (tT K W u) σ H Q := by
  obtain ⟨ss, Af, rp, h⟩ := h
  refine bindW rp h fun x v H1 s1 Af1 B1 e1 r1 l1 n1 d1 st1 h => ?_
  obtain ⟨q, _⟩ := l1
  subst q
  cases v with
  | true => exact ⟨s1, Af1, r1, h⟩
  | false => exact Wn.done r1 h ⟨rfl, rfl⟩
theorem s_or {t u : TV} {Q : Bool → Hp → Prop} (h : tT K W (dOrT t u) σ H Q) : tOr (tT K W t) (tT K W u) σ H Q := by
  obtain ⟨ss, Af, rp, h⟩ := h
  refine bindW rp h fun x v H1 s1 Af1 B1 e1 r1 l1 n1 d1 st1 h => ?_
  obtain ⟨q, _⟩ := l1
  subst q
  cases v with
  | false => exact ⟨s1, Af1, r1, h⟩
  | true => exact Wn.done r1 h ⟨rfl, rfl⟩
theorem asB_get {γ δ : Type} {LY : Hp → γ → δ → List Addr → Prop} {x : Vx} {ss : Sl} {F : Addr → Prop} {k : Bool → Sl → R γ} {Q : δ → Hp → Prop} (h : Wn LY K W σ H F ((asB x ss).bind k) Q) : ∃ b, x = .val (.bl b) ∧ Wn LY K W σ H F (k b ss) Q := by
  unfold asB at h
  split at h
  · rename_i b; exact ⟨b, rfl, h⟩
  · exact h.elim
theorem s_andE {fa fb : EV} (h : tE K W (dAndE fa fb) σ H Q) : tAndV (tE K W fa) (tE K W fb) σ H Q := by
  obtain ⟨ss, Af, rp, h⟩ := h
  refine bindW rp h fun x v H1 s1 Af1 B1 e1 r1 l1 n1 d1 st1 h => ?_
  obtain ⟨b, e, h⟩ := asB_get h
  subst e
  refine ⟨b, l1.1, ?_⟩
  cases b with
  | true => exact ⟨s1, Af1, r1, h⟩
  | false => exact Wn.done r1 h ⟨rfl, rfl⟩
theorem s_orE {fa fb : EV} (h : tE K W (dOrE fa fb) σ H Q) : tOrV (tE K W fa) (tE K W fb) σ H Q := by
  obtain ⟨ss, Af, rp, h⟩ := h
  refine bindW rp h fun x v H1 s1 Af1 B1 e1 r1 l1 n1 d1 st1 h => ?_
  obtain ⟨b, e, h⟩ := asB_get h
  subst e
  refine ⟨b, l1.1, ?_⟩
  cases b with
  | false => exact ⟨s1, Af1, r1, h⟩
  | true => exact Wn.done r1 h ⟨rfl, rfl⟩
theorem s_notE {fa : EV} (h : tE K W (dNotE fa) σ H Q) : tNotV (tE K W fa) σ H Q := by
  obtain ⟨ss, Af, rp, h⟩ := h
  refine bindW rp h fun x v H1 s1 Af1 B1 e1 r1 l1 n1 d1 st1 h => ?_
  obtain ⟨b, e, h⟩ := asB_get h
  subst e
  exact ⟨b, l1.1, Wn.done r1 h ⟨rfl, rfl⟩⟩
theorem s_ifE {t : TV} {fa fb : EV} (h : tE K W (dIfE t fa fb) σ H Q) : tIf (tT K W t) (tE K W fa) (tE K W fb) σ H Q := by
  obtain ⟨ss, Af, rp, h⟩ := h
  refine bindW rp h fun x v H1 s1 Af1 B1 e1 r1 l1 n1 d1 st1 h => ?_
  obtain ⟨q, _⟩ := l1
  subst q
  cases v with
  | true => exact ⟨s1, Af1, r1, h⟩
  | false => exact ⟨s1, Af1, r1, h⟩
theorem s_chain {o1 o2 : CmpOp} {fa fb fc : EV} (h : tE K W (dChain o1 o2 fa fb fc) σ H Q) : tChain (rCmp K o1) (rCmp K o2) (tE K W fa) (tE K W fb) (tE K W fc) σ H Q := by
  obtain ⟨ss, Af, rp, h⟩ := h
  refine bindW rp h fun x v H1 s1 Af1 B1 e1 r1 l1 n1 d1 st1 h => ?_
  refine bindW r1 h fun y w H2 s2 Af2 B2 e2 r2 l2 n2 d2 st2 h => ?_
  unfold op3 get2 at h
  split at h
  · rename_i pq a b e
    split at e
    · rename_i c d f1 f2
      cases e
      obtain ⟨A1, q1⟩ := (l1.stay st2 d1).read r2 f1
      obtain ⟨A2, q2⟩ := l2.read r2 f2
      split at h
      · rename_i z
        refine ops_cmp o1 H2 a b (.bl true) v w A1 A2 _ q1 q2 (by unfold cmpD'; rw [z]; rfl) ⟨fun u l => ?_, fun _ _ _ z => (nomatch z), fun _ _ _ z => (nomatch z)⟩
        refine ⟨true, l.1, ?_⟩
        rw [if_pos rfl]
        refine bindW r2 h fun z' w' H3 s3 Af3 B3 e3 r3 l3 n3 d3 st3 h => ?_
        obtain ⟨a', b', d', g1, g2, g3, h⟩ := op2_get h
        obtain ⟨A3, q3⟩ := (l2.stay st3 d2).read r3 g1
        obtain ⟨A4, q4⟩ := l3.read r3 g2
        exact ops_cmp o2 H3 a' b' d' w w' A3 A4 Q q3 q4 g3 (Wn.fn r3 h)
      · rename_i z
        refine ops_cmp o1 H2 a b (.bl false) v w A1 A2 _ q1 q2 (by unfold cmpD'; rw [z]; rfl) ⟨fun u l => ?_, fun _ _ _ z => (nomatch z), fun _ _ _ z => (nomatch z)⟩
        refine ⟨false, l.1, ?_⟩
        rw [if_neg Bool.false_ne_true]
        exact Wn.done r2 h ⟨rfl, rfl⟩
      · exact h.elim
    · cases e
  · exact h.elim
theorem s_nil {Q : List V → Hp → Prop} (h : tA K W dNilA σ H Q) : tNil σ H Q := by
  obtain ⟨ss, Af, r, h⟩ := h
  exact Wn.done r h ⟨rfl, rfl⟩
theorem s_cons {f : EV} {g : AV} {Q : List V → Hp → Prop} (h : tA K W (dConsA f g) σ H Q) : tCons (tE K W f) (tA K W g) σ H Q := by
  obtain ⟨ss, Af, rp, h⟩ := h
  refine bindB Stp.refl (fun _ z => z) rp h fun x v H1 s1 Af1 B1 e1 r1 l1 n1 d1 st1 h => ?_
  refine bindB st1 (fun _ z => .inl z) r1 h fun xs vs H2 s2 Af2 B2 e2 r2 l2 n2 d2 st2 h => ?_
  have l1' := l1.stay st2 d1
  have o1 := l1.out st2 d1
  have st : Stp H (Own Af) H2 (fun b => Own Af2 b ∨ b ∈ B2) := st1.trans st2 fun _ z => .inl z
  refine h _ _ ⟨Af2, B1 ++ B2, r2, ⟨v, vs, B1, B2, rfl, rfl, l1', l2⟩, ?_, fun a ha => ?_, ⟨st.kp, st.keep, fun b hb => ?_⟩⟩
  · refine List.nodup_append.mpr ⟨n1, n2, fun a ha b hb e => ?_⟩
    subst e
    exact o1 a ha (.inr hb)
  · rcases List.mem_append.mp ha with q | q
    · exact fun z => o1 a q (.inl z)
    · exact d2 a q
  · rcases hb with q | q
    · exact st.new b (.inl q)
    · rcases List.mem_append.mp q with q | q
      · exact st1.new b (.inr q)
      · exact st.new b (.inr q)
theorem pures_lay : ∀ {xs : List Vx} {ds : List D} {vs : List V} {B : List Addr}, pures xs = some ds → LayXL K σ H xs vs B → LayL K H ds vs [] ∧ B = []
  | [], ds, vs, B, e, l => by cases e; rw [l.1, l.2]; exact ⟨LayL.nil, rfl⟩
  | .plc _ :: _, ds, vs, B, e, l => by cases e
  | .val d :: r, ds, vs, B, e, l => by
    obtain ⟨v, ws, B1, B2, e1, e2, l1, l2⟩ := l
    unfold pures at e
    split at e
    · rename_i p
      cases q : pures r with
      | none => rw [q] at e; cases e
      | some es =>
        rw [q] at e; cases e
        obtain ⟨q1, q2⟩ := pures_lay q l2
        have l1 : Lay K H d v B1 := l1
        have z := l1.emp p
        subst z; subst q2
        rw [e1]
        exact ⟨LayL.cons0 l1 q1, e2⟩
    · cases e
theorem s_tup {g : AV} (h : tE K W (dTup g) σ H Q) : tTup (tA K W g) σ H Q := by
  obtain ⟨ss, Af, rp, h⟩ := h
  refine bindW rp h fun xs vs H1 s1 Af1 B1 e1 r1 l1 n1 d1 st1 h => ?_
  unfold mkTup at h
  split at h
  · rename_i ds q
    split at h
    · obtain ⟨q1, _⟩ := pures_lay q l1
      exact ⟨by rw [LayL.len q1]; assumption, fun p hp => (Wn.fn r1 h).2.2 ds vs p rfl hp q1⟩
    · exact h.elim
  · exact h.elim
theorem s_lst {g : AV} (h : tE K W (dLst g) σ H Q) : tLst (tA K W g) σ H Q := by
  obtain ⟨ss, Af, rp, h⟩ := h
  refine bindW rp h fun xs vs H1 s1 Af1 B1 e1 r1 l1 n1 d1 st1 h => ?_
  unfold mkLst at h
  split at h
  · rename_i ds q
    split at h
    · obtain ⟨q1, _⟩ := pures_lay q l1
      exact ⟨by rw [LayL.len q1]; assumption, fun p hp => (Wn.fn r1 h).2.1 ds vs p rfl hp q1⟩
    · exact h.elim
  · exact h.elim
end

/-! ### a list stands still from now on -/
section
variable {X : Cx} {pins : List (Addr × Obj)} {σ : St} {H : Hp} {s : Shared}
theorem inv_frz {a : Addr} {xs : List V} (I : Inv X pins σ H s) (h : H a = some (.lst xs)) : ∃ o, Inv X pins σ (upd H a (.frz o (.lst xs))) s := by
  obtain ⟨z, its, n, r, e⟩ := I.hok a _ h
  refine ⟨{ cls := .type "list", data := .seq its.toArray n }, ?_⟩
  have nn : ∀ {b : Addr}, H b = none → b ≠ a := fun q w => by subst w; rw [h] at q; cases q
  have nt : ∀ {b : Addr} {u : HO}, H b = some u → (∀ ys, u ≠ .lst ys) → b ≠ a := fun q n w => by subst w; rw [h] at q; cases q; exact n _ rfl
  refine ⟨I.ok, I.os, I.bare, ⟨I.base.keep, I.base.slot, fun b o q1 q2 q3 => ?_, I.base.there, fun b ys q => ?_, fun b o u q => ?_, fun b ps q => ?_⟩, I.loc, I.cell, ?_, fun x c q => ?_, fun p hp => ?_, fun b u q => ?_, I.len⟩
  · have := I.base.free b o q1 q2 q3
    rw [upd_ne (nn this)]; exact this
  · have := I.base.tups b ys q
    rw [upd_ne (nt this fun _ z => nomatch z)]; exact this
  · have := I.base.frzs b o u q
    rw [upd_ne (nt this fun _ z => nomatch z)]; exact this
  · obtain ⟨m, this⟩ := I.base.tbls b ps q
    exact ⟨m, by rw [upd_ne (nt this fun _ z => nomatch z)]; exact this⟩
  · rw [upd_ne (nn I.free)]; exact I.free
  · rw [upd_ne (nn (I.freeC x c q))]; exact I.freeC x c q
  · obtain ⟨q1, q2, q3⟩ := I.pin p hp
    exact ⟨q1, by rw [upd_ne (nn q2)]; exact q2, q3⟩
  · have keepO : ∀ c o', H c = some o' → (∀ ys, o' ≠ .lst ys) → upd H a (.frz { cls := .type "list", data := .seq its.toArray n } (.lst xs)) c = some o' := fun c o' q n => by rw [upd_ne (nt q n)]; exact q
    by_cases hb : b = a
    · subst hb
      rw [upd_same] at q; cases q
      exact ⟨e, z, its, n, r, e⟩
    · rw [upd_ne hb] at q
      exact (I.hok b u q).stay (fun _ _ _ q => q) (fun c q => keepO c _ q fun _ z => nomatch z) fun c ys q => keepO c _ q fun _ z => nomatch z
theorem pe_frz {e : Expr} {t : TE} (h : PE X e t) : PE X e (fun σ H Q => t σ H fun v H' => Q v H' ∨ ∃ a xs, v = .ref a ∧ H' a = some (.lst xs) ∧ ∀ o, Q v (upd H' a (.frz o (.lst xs)))) := by
  refine ⟨fun pins s σ H Q I hw => ?_⟩
  refine thn (h.run pins s σ H _ I hw) fun u s1 ⟨v, H1, I1, r1, q1⟩ => ?_
  rcases q1 with q | ⟨a, xs, e1, e2, q⟩
  · exact ⟨v, H1, I1, r1, q⟩
  · obtain ⟨o, J⟩ := inv_frz I1 e2
    exact ⟨v, _, J, r1, q o⟩
end
section
variable {K : PySem.W.Frag} {W : WX} {σ : St} {H : Hp} {Q : VK}
theorem s_frz {f : EV} (h : tE K W (dFrz f) σ H Q) : tE K W f σ H fun v H' => Q v H' ∨ ∃ a xs, v = .ref a ∧ H' a = some (.lst xs) ∧ ∀ o, Q v (upd H' a (.frz o (.lst xs))) := by
  obtain ⟨ss, Af, rp, h⟩ := h
  refine bindB Stp.refl (fun _ z => z) rp h fun x v H1 s1 Af1 B1 e1 r1 l1 n1 d1 st1 h => ?_
  unfold frz at h
  split at h
  · rename_i ds
    split at h
    · rename_i p
      obtain ⟨a, vs, B, e2, h1, h2, e3⟩ := l1
      have z := layL_pure p h2
      subst z; subst e3
      refine .inr ⟨a, vs, e2, h1, fun o => ?_⟩
      have hk : Stp H1 (fun b => Own Af1 b ∨ b ∈ [a]) (upd H1 a (.frz o (.lst vs))) (fun b => Own Af1 b ∨ b ∈ [a]) := Stp.wrote (.inr (by simp)) h1 (.inl ⟨_, rfl⟩)
      have na : ¬ Own Af1 a := d1 a (by simp)
      have hk2 : Stp H1 (fun b => b = a) (upd H1 a (.frz o (.lst vs))) (fun b => b = a) := Stp.wrote rfl h1 (.inl ⟨_, rfl⟩)
      refine h _ _ ⟨Af1, [], r1.step hk2 fun b hb e => by subst e; exact na hb, ⟨rfl, a, vs, e2, ⟨o, upd_same⟩, LayL.keep hk2.kp h2⟩, List.nodup_nil, fun a z => (nomatch z), ?_⟩
      exact (st1.trans hk fun _ z => z).sub fun b hb => hb.elim .inl fun z => nomatch z
    · exact .inl (h v H1 ⟨Af1, B1, r1, l1, n1, d1, st1⟩)
  · exact .inl (h v H1 ⟨Af1, B1, r1, l1, n1, d1, st1⟩)
end
end Dn

set_option Elab.async false
set_option linter.all false
set_option maxRecDepth 100000
set_option maxHeartbeats 2000000
/-! Dn5: functions: what a call does; builtins. -/
namespace Dn
open PySem L2

inductive RF where
  | ok (d : D) (as : List D) | exc (e : Ex) (as : List D) | err
abbrev FV := List D → RF

def GotF (K : PySem.W.Frag) (vs : List V) (H0 : Hp) (F0 : Addr → Prop) (H : Hp) (as : List D) (d : D) (v : V) : Prop :=
  ∃ Af B, Rep K H (as.map some) (vs.map some) Af ∧ Lay K H d v B ∧ B.Nodup ∧ (∀ a ∈ B, ¬ Own Af a) ∧ Stp H0 F0 H (fun b => Own Af b ∨ b ∈ B)
def GotFE (K : PySem.W.Frag) (vs : List V) (H0 : Hp) (F0 : Addr → Prop) (H : Hp) (as : List D) (e : Ex) (cls : Value) (x : Option Addr) : Prop :=
  ∃ Af, Rep K H (as.map some) (vs.map some) Af ∧ ExL K H e cls x ∧ Stp H0 F0 H (Own Af)
def WnF (K : PySem.W.Frag) (vs : List V) (H0 : Hp) (F0 : Addr → Prop) (r : RF) (Q : VK) (E : XK) : Prop := match r with
  | .ok d as => ∀ v H, GotF K vs H0 F0 H as d v → Q v H
  | .exc e as => ∀ cls x H, GotFE K vs H0 F0 H as e cls x → E cls x H
  | .err => False
/-- the promise of a def of n parameters that does as F says -/
def spD (K : PySem.W.Frag) (n : Nat) (F : FV) : Sp := fun vs H Q E =>
  ∃ ds Af, ds.length = n ∧ Rep K H (ds.map some) (vs.map some) Af ∧ WnF K vs H (Own Af) (F ds) Q E
theorem spD_len {K : PySem.W.Frag} {n : Nat} {F : FV} {vs : List V} {H : Hp} {Q : VK} {E : XK} (h : spD K n F vs H Q E) : vs.length = n := by
  obtain ⟨ds, Af, e, r, _⟩ := h
  have := r.len
  rw [List.length_map, List.length_map] at this
  omega

def getAll : List Vx → Sl → Option (List D)
  | [], _ => some []
  | x :: xs, ss => match x.get ss, getAll xs ss with
    | some d, some ds => some (d :: ds)
    | _, _ => none
def plcs : List Vx → List Nat
  | [] => []
  | .plc i :: r => i :: plcs r
  | .val _ :: r => plcs r
def wb : List Vx → List D → Sl → Sl
  | .plc i :: xs, a :: as, ss => wb xs as (ss.set i (some a))
  | .val _ :: xs, _ :: as, ss => wb xs as ss
  | _, _, ss => ss
def callF (n : Nat) (F : FV) (xs : List Vx) (ss : Sl) : R Vx := match getAll xs ss with
  | some ds => if ds.length = n ∧ (plcs xs).Nodup then match F ds with
      | .ok d as => .ok (.val d) (wb xs as ss)
      | .exc e as => .exc e (wb xs as ss)
      | .err => .err
    else .err
  | none => .err
def dCall (n : Nat) (F : FV) (g : AV) : EV := fun ss => (g ss).bind (callF n F)

/-- where the slot i is among the arguments -/
def kOf : List Vx → Nat → Option Nat
  | [], _ => none
  | .plc j :: r, i => if j = i then some 0 else (kOf r i).map (· + 1)
  | .val _ :: r, i => (kOf r i).map (· + 1)

theorem kOf_some : ∀ {xs : List Vx} {i k : Nat}, kOf xs i = some k → xs[k]? = some (.plc i)
  | [], _, _, e => by cases e
  | .plc j :: r, i, k, e => by
    unfold kOf at e
    by_cases h : j = i
    · rw [if_pos h] at e; cases e; subst h; rfl
    · rw [if_neg h] at e
      cases q : kOf r i with
      | none => rw [q] at e; cases e
      | some m => rw [q] at e; cases e; simpa using kOf_some q
  | .val _ :: r, i, k, e => by
    unfold kOf at e
    cases q : kOf r i with
    | none => rw [q] at e; cases e
    | some m => rw [q] at e; cases e; simpa using kOf_some q
theorem mem_plcs : ∀ {xs : List Vx} {i k : Nat}, xs[k]? = some (.plc i) → i ∈ plcs xs
  | [], _, _, e => by simp at e
  | .plc j :: r, i, 0, e => by simp at e; subst e; exact List.mem_cons_self
  | .val _ :: r, i, 0, e => by simp at e
  | .plc j :: r, i, k + 1, e => List.mem_cons_of_mem _ (mem_plcs (k := k) (by simpa using e))
  | .val _ :: r, i, k + 1, e => mem_plcs (xs := r) (k := k) (by simpa using e)
theorem kOf_none : ∀ {xs : List Vx} {i : Nat}, kOf xs i = none → i ∉ plcs xs
  | [], _, _ => fun z => nomatch z
  | .plc j :: r, i, e => by
    unfold kOf at e
    by_cases h : j = i
    · rw [if_pos h] at e; cases e
    · rw [if_neg h] at e
      cases q : kOf r i with
      | some m => rw [q] at e; cases e
      | none =>
        intro z
        rcases List.mem_cons.mp z with z | z
        · exact h z.symm
        · exact kOf_none q z
  | .val _ :: r, i, e => by
    unfold kOf at e
    cases q : kOf r i with
    | some m => rw [q] at e; cases e
    | none => exact kOf_none (xs := r) q
theorem kOf_of : ∀ {xs : List Vx} {i k : Nat}, (plcs xs).Nodup → xs[k]? = some (.plc i) → kOf xs i = some k
  | [], _, _, _, e => by simp at e
  | .plc j :: r, i, 0, _, e => by
    simp at e; subst e
    unfold kOf; rw [if_pos rfl]
  | .val _ :: r, i, 0, _, e => by simp at e
  | .plc j :: r, i, k + 1, nd, e => by
    have nd' := List.nodup_cons.mp nd
    have e' : r[k]? = some (.plc i) := by simpa using e
    have h : j ≠ i := fun z => by subst z; exact nd'.1 (mem_plcs e')
    unfold kOf
    rw [if_neg h, kOf_of nd'.2 e']
    rfl
  | .val _ :: r, i, k + 1, nd, e => by
    have e' : r[k]? = some (.plc i) := by simpa using e
    unfold kOf
    rw [kOf_of (xs := r) nd e']
    rfl
theorem wb_len : ∀ (xs : List Vx) (as : List D) (ss : Sl), (wb xs as ss).length = ss.length
  | [], _, _ => rfl
  | .plc i :: xs, [], ss => rfl
  | .val _ :: xs, [], ss => rfl
  | .plc i :: xs, a :: as, ss => by unfold wb; rw [wb_len, List.length_set]
  | .val _ :: xs, _ :: as, ss => by unfold wb; rw [wb_len]
theorem wb_get : ∀ (xs : List Vx) (as : List D) (ss : Sl) (i : Nat), (plcs xs).Nodup → as.length = xs.length → i < ss.length →
    (wb xs as ss)[i]? = match kOf xs i with
      | some k => (as[k]?).map some
      | none => ss[i]?
  | [], as, ss, i, _, hl, _ => by
    cases as with
    | nil => rfl
    | cons a r => simp at hl
  | .plc j :: xs, [], ss, i, _, hl, _ => by simp at hl
  | .val _ :: xs, [], ss, i, _, hl, _ => by simp at hl
  | .plc j :: xs, a :: as, ss, i, nd, hl, hi => by
    have nd' := List.nodup_cons.mp nd
    unfold wb
    rw [wb_get xs as _ i nd'.2 (by simpa using hl) (by rw [List.length_set]; exact hi)]
    have key : kOf (.plc j :: xs) i = if j = i then some 0 else (kOf xs i).map (· + 1) := rfl
    rw [key]
    by_cases h : j = i
    · subst h
      rw [if_pos rfl]
      cases q : kOf xs j with
      | some k => exact absurd (mem_plcs (kOf_some q)) nd'.1
      | none =>
        show (ss.set j (some a))[j]? = _
        rw [List.getElem?_set_self hi]
        rfl
    · rw [if_neg h]
      cases q : kOf xs i with
      | some k => simp
      | none =>
        show (ss.set j (some a))[i]? = _
        rw [List.getElem?_set_ne h]
        rfl
  | .val _ :: xs, a :: as, ss, i, nd, hl, hi => by
    unfold wb
    rw [wb_get xs as ss i nd (by simpa using hl) hi]
    rename_i d0
    have key : kOf (.val d0 :: xs) i = (kOf xs i).map (· + 1) := rfl
    rw [key]
    cases q : kOf xs i with
    | some k => simp
    | none => rfl

section
variable {K : PySem.W.Frag} {σ : St} {H : Hp} {ss : Sl} {Af : Nat → List Addr}
/-- the arguments one by one -/
theorem argsB : ∀ {xs : List Vx} {vs : List V} {B : List Addr}, LayXL K σ H xs vs B → vs.length = xs.length ∧ (B.Nodup → ∃ Bf : Nat → List Addr, (∀ k x, xs[k]? = some x → ∃ v, vs[k]? = some v ∧ LayX K σ H x v (Bf k)) ∧ (∀ k a, a ∈ Bf k → a ∈ B) ∧ (∀ k, (Bf k).Nodup) ∧
    (∀ j k a, a ∈ Bf j → a ∈ Bf k → j = k) ∧ ∀ a ∈ B, ∃ k, a ∈ Bf k)
  | [], vs, B, l => by
    obtain ⟨e1, e2⟩ := l
    subst e1; subst e2
    exact ⟨rfl, fun _ => ⟨fun _ => [], fun k x e => by simp at e, fun _ _ z => z, fun _ => List.nodup_nil, fun _ _ _ z => (nomatch z), fun _ z => nomatch z⟩⟩
  | x :: xs, vs, B, l => by
    obtain ⟨v, ws, B1, B2, e1, e2, l1, l2⟩ := l
    subst e1; subst e2
    obtain ⟨hl, hB⟩ := argsB l2
    refine ⟨by simp [hl], fun nd => ?_⟩
    obtain ⟨n1, n2, n3⟩ := List.nodup_append.mp nd
    obtain ⟨Bf, b1, b2, b3, b4, b5⟩ := hB n2
    refine ⟨fun k => match k with
      | 0 => B1
      | k + 1 => Bf k, fun k y e => ?_, fun k a h => ?_, fun k => ?_, fun j k a h1 h2 => ?_, fun a h => ?_⟩
    · cases k with
      | zero => simp at e; subst e; exact ⟨v, rfl, l1⟩
      | succ k =>
        obtain ⟨u, q1, q2⟩ := b1 k y (by simpa using e)
        exact ⟨u, by simpa using q1, q2⟩
    · cases k with
      | zero => exact List.mem_append_left _ h
      | succ k => exact List.mem_append_right _ (b2 k a h)
    · cases k with
      | zero => exact n1
      | succ k => exact b3 k
    · cases j with
      | zero =>
        cases k with
        | zero => rfl
        | succ k => exact absurd rfl (n3 a h1 a (b2 k a h2))
      | succ j =>
        cases k with
        | zero => exact absurd rfl (n3 a h2 a (b2 j a h1))
        | succ k => rw [b4 j k a h1 h2]
    · rcases List.mem_append.mp h with h | h
      · exact ⟨0, h⟩
      · obtain ⟨k, hk⟩ := b5 a h
        exact ⟨k + 1, hk⟩
theorem getAll_len : ∀ {xs : List Vx} {ds : List D}, getAll xs ss = some ds → ds.length = xs.length
  | [], ds, e => by cases e; rfl
  | x :: xs, ds, e => by
    unfold getAll at e
    cases q1 : x.get ss with
    | none => rw [q1] at e; cases e
    | some d =>
      cases q2 : getAll xs ss with
      | none => rw [q1, q2] at e; cases e
      | some es => rw [q1, q2] at e; cases e; simp [getAll_len q2]
theorem getAll_at : ∀ {xs : List Vx} {ds : List D} {k : Nat} {d : D}, getAll xs ss = some ds → ds[k]? = some d → ∃ x, xs[k]? = some x ∧ x.get ss = some d
  | [], ds, k, d, e, h => by cases e; simp at h
  | x :: xs, ds, k, d, e, h => by
    unfold getAll at e
    cases q1 : x.get ss with
    | none => rw [q1] at e; cases e
    | some d0 =>
      cases q2 : getAll xs ss with
      | none => rw [q1, q2] at e; cases e
      | some es =>
        rw [q1, q2] at e; cases e
        cases k with
        | zero => simp at h; subst h; exact ⟨x, rfl, q1⟩
        | succ k =>
          obtain ⟨y, z1, z2⟩ := getAll_at (k := k) (d := d) q2 (by simpa using h)
          exact ⟨y, by simpa using z1, z2⟩
/-- the callee's view -/
def argF (xs : List Vx) (Af Bf : Nat → List Addr) : Nat → List Addr := fun k => match xs[k]? with
  | some (.plc i) => Af i
  | some (.val _) => Bf k
  | none => []
theorem args_rep {xs : List Vx} {ds : List D} {vs : List V} {B : List Addr} (r : Rep K H ss σ Af) (l : LayXL K σ H xs vs B) (nd : B.Nodup) (dj : ∀ a ∈ B, ¬ Own Af a) (g : getAll xs ss = some ds) (np : (plcs xs).Nodup) :
    ∃ Bf, Rep K H (ds.map some) (vs.map some) (argF xs Af Bf) ∧ (∀ k a, a ∈ Bf k → a ∈ B) := by
  obtain ⟨hl, hB⟩ := argsB l
  obtain ⟨Bf, b1, b2, b3, b4, b5⟩ := hB nd
  have hd := getAll_len g
  refine ⟨Bf, ⟨by rw [List.length_map, List.length_map, hd, hl], fun k d e => ?_, fun k e => ?_, fun k => ?_, fun j k a h1 h2 => ?_⟩, b2⟩
  · rw [List.getElem?_map] at e
    cases q : ds[k]? with
    | none => rw [q] at e; simp at e
    | some d0 =>
      rw [q] at e; simp at e; subst e
      obtain ⟨x, z1, z2⟩ := getAll_at g q
      obtain ⟨v, z3, z4⟩ := b1 k x z1
      refine ⟨v, by rw [List.getElem?_map, z3]; rfl, ?_⟩
      unfold argF
      rw [z1]
      cases x with
      | val d1 => cases z2; exact z4
      | plc i =>
        obtain ⟨v', w1, w2⟩ := r.lay i d0 (get_plc z2)
        rw [z4.2] at w1; cases w1
        exact w2
  · have hk : xs[k]? = none := by
      rw [List.getElem?_eq_none_iff]
      rcases Nat.lt_or_ge k xs.length with q | q
      · have : k < ds.length := by omega
        exact absurd (show (ds.map some)[k]? = some (some ds[k]) by simp [this]) (e _)
      · exact q
    unfold argF; rw [hk]
  · unfold argF
    cases q : xs[k]? with
    | none => exact List.nodup_nil
    | some x =>
      cases x with
      | val d1 => exact b3 k
      | plc i => exact r.nd i
  · unfold argF at h1 h2
    cases q1 : xs[j]? with
    | none => rw [q1] at h1; exact nomatch h1
    | some x =>
      cases q2 : xs[k]? with
      | none => rw [q2] at h2; exact nomatch h2
      | some y =>
        rw [q1] at h1; rw [q2] at h2
        cases x with
        | val d1 =>
          cases y with
          | val d2 => exact b4 j k a h1 h2
          | plc i => exact absurd ⟨i, h2⟩ (dj a (b2 j a h1))
        | plc i =>
          cases y with
          | val d2 => exact absurd ⟨i, h1⟩ (dj a (b2 k a h2))
          | plc i' =>
            have e := r.dis i i' a h1 h2
            subst e
            have z1 := kOf_of np q1
            have z2 := kOf_of np q2
            rw [z1] at z2
            exact Option.some.inj z2
theorem argF_own {xs : List Vx} {Bf : Nat → List Addr} {B : List Addr} (hb : ∀ k a, a ∈ Bf k → a ∈ B) {b : Addr} (h : Own (argF xs Af Bf) b) : Own Af b ∨ b ∈ B := by
  obtain ⟨k, hk⟩ := h
  unfold argF at hk
  cases q : xs[k]? with
  | none => rw [q] at hk; exact nomatch hk
  | some x =>
    rw [q] at hk
    cases x with
    | val d => exact .inr (hb k b hk)
    | plc i => exact .inl ⟨i, hk⟩
/-- the caller's view behind it -/
def backF (xs : List Vx) (Af Af' : Nat → List Addr) : Nat → List Addr := fun i => match kOf xs i with
  | some k => Af' k
  | none => Af i
theorem back_rep {H' : Hp} {xs : List Vx} {as : List D} {vs : List V} {B : List Addr} {Bf Af' : Nat → List Addr} {F' : Addr → Prop} (r : Rep K H ss σ Af) (l : LayXL K σ H xs vs B) (np : (plcs xs).Nodup) (hp : ∀ i ∈ plcs xs, ∃ d, ss[i]? = some (some d))
    (hb : ∀ k a, a ∈ Bf k → a ∈ B) (dj : ∀ a ∈ B, ¬ Own Af a)
    (r' : Rep K H' (as.map some) (vs.map some) Af') (st : Stp H (Own (argF xs Af Bf)) H' F') (hF : ∀ b, Own Af' b → F' b) :
    Rep K H' (wb xs as ss) σ (backF xs Af Af') ∧ (∀ b, Own (backF xs Af Af') b → (Own Af b ∧ ¬ Own (argF xs Af Bf) b) ∨ Own Af' b) := by
  obtain ⟨hl, hB⟩ := argsB l
  have ha : as.length = xs.length := by
    have := r'.len
    rw [List.length_map, List.length_map] at this
    omega
  have vOf : ∀ {k i : Nat}, xs[k]? = some (.plc i) → ∃ v, vs[k]? = some v ∧ σ[i]? = some (some v) := by
    have aux : ∀ {xs : List Vx} {vs : List V} {B : List Addr} {k i : Nat}, LayXL K σ H xs vs B → xs[k]? = some (.plc i) → ∃ v, vs[k]? = some v ∧ σ[i]? = some (some v) := by
      intro xs
      induction xs with
      | nil => intro vs B k i _ e; simp at e
      | cons x xs ih =>
        intro vs B k i l e
        obtain ⟨v, ws, B1, B2, e1, e2, l1, l2⟩ := l
        subst e1
        cases k with
        | zero => simp at e; subst e; exact ⟨v, rfl, l1.2⟩
        | succ k =>
          obtain ⟨u, q1, q2⟩ := ih (k := k) l2 (by simpa using e)
          exact ⟨u, by simpa using q1, q2⟩
    exact fun {k i} e => aux l e
  -- a slot that was not handed in
  have out : ∀ {i : Nat} {b : Addr}, kOf xs i = none → b ∈ Af i → ¬ Own (argF xs Af Bf) b := fun {i b} hk hbi ⟨k, hx⟩ => by
    unfold argF at hx
    cases q : xs[k]? with
    | none => rw [q] at hx; exact nomatch hx
    | some x =>
      rw [q] at hx
      cases x with
      | val d => exact dj b (hb k b hx) ⟨i, hbi⟩
      | plc j =>
        have e := r.dis i j b hbi hx
        subst e
        exact kOf_none hk (mem_plcs q)
  refine ⟨⟨by rw [wb_len]; exact r.len, fun i d e => ?_, fun i e => ?_, fun i => ?_, fun i j a h1 h2 => ?_⟩, fun b ⟨i, hi⟩ => ?_⟩
  · have hi : i < ss.length := by
      have := (List.getElem?_eq_some_iff.mp e).1
      rwa [wb_len] at this
    rw [wb_get xs as ss i np ha hi] at e
    unfold backF
    cases q : kOf xs i with
    | some k =>
      rw [q] at e
      obtain ⟨v, z1, z2⟩ := vOf (kOf_some q)
      have e' : (as.map some)[k]? = some (some d) := by
        rw [List.getElem?_map]; exact e
      obtain ⟨v', w1, w2⟩ := r'.lay k d e'
      rw [List.getElem?_map, z1] at w1
      cases w1
      exact ⟨v, z2, w2⟩
    | none =>
      rw [q] at e
      obtain ⟨v, z1, z2⟩ := r.lay i d e
      exact ⟨v, z1, st.lay z2 fun a ha' => out q ha'⟩
  · unfold backF
    cases q : kOf xs i with
    | some k =>
      obtain ⟨d0, hd0⟩ := hp i (mem_plcs (kOf_some q))
      have hi : i < ss.length := (List.getElem?_eq_some_iff.mp hd0).1
      have hk : k < as.length := by
        rw [ha]
        exact (List.getElem?_eq_some_iff.mp (kOf_some q)).1
      refine absurd ?_ (e as[k])
      rw [wb_get xs as ss i np ha hi, q]
      simp [hk]
    | none =>
      refine r.emp i fun d z => e d ?_
      have hi : i < ss.length := (List.getElem?_eq_some_iff.mp z).1
      rw [wb_get xs as ss i np ha hi, q]
      exact z
  · unfold backF
    cases q : kOf xs i with
    | some k => exact r'.nd k
    | none => exact r.nd i
  · unfold backF at h1 h2
    cases q1 : kOf xs i with
    | some k1 =>
      cases q2 : kOf xs j with
      | some k2 =>
        rw [q1] at h1; rw [q2] at h2
        have e := r'.dis k1 k2 a h1 h2
        subst e
        have z1 := kOf_some q1
        have z2 := kOf_some q2
        rw [z1] at z2
        cases z2; rfl
      | none =>
        rw [q1] at h1; rw [q2] at h2
        obtain ⟨o, eo, _⟩ := r.there ⟨j, h2⟩
        exact absurd (hF a ⟨k1, h1⟩) (st.out (out q2 h2) eo)
    | none =>
      cases q2 : kOf xs j with
      | some k2 =>
        rw [q1] at h1; rw [q2] at h2
        obtain ⟨o, eo, _⟩ := r.there ⟨i, h1⟩
        exact absurd (hF a ⟨k2, h2⟩) (st.out (out q1 h1) eo)
      | none =>
        rw [q1] at h1; rw [q2] at h2
        exact r.dis i j a h1 h2
  · unfold backF at hi
    cases q : kOf xs i with
    | some k => rw [q] at hi; exact .inr ⟨k, hi⟩
    | none => rw [q] at hi; exact .inl ⟨⟨i, hi⟩, out q hi⟩
theorem plcs_there : ∀ {xs : List Vx} {ds : List D}, getAll xs ss = some ds → ∀ i ∈ plcs xs, ∃ d, ss[i]? = some (some d)
  | [], _, _, i, h => nomatch h
  | .plc j :: xs, ds, e, i, h => by
    unfold getAll at e
    cases q1 : (Vx.plc j).get ss with
    | none => rw [q1] at e; cases e
    | some d =>
      cases q2 : getAll xs ss with
      | none => rw [q1, q2] at e; cases e
      | some es =>
        rcases List.mem_cons.mp h with h | h
        · subst h; exact ⟨d, get_plc q1⟩
        · exact plcs_there q2 i h
  | .val d :: xs, ds, e, i, h => by
    unfold getAll at e
    cases q2 : getAll xs ss with
    | none => rw [q2] at e; cases e
    | some es => exact plcs_there q2 i h
end
theorem s_call {K : PySem.W.Frag} {W : WX} {σ : St} {H : Hp} {Q : VK} {n : Nat} {F : FV} {g : AV} (h : tE K W (dCall n F g) σ H Q) : tCallS (spD K n F) (WE W) (tA K W g) σ H Q := by
  obtain ⟨ss, Af, rp, h⟩ := h
  refine bindB Stp.refl (fun _ z => z) rp h fun xs vs H1 s1 Af1 B1 e1 r1 l1 n1 d1 st1 h => ?_
  unfold callF at h
  split at h
  · rename_i ds g1
    split at h
    · rename_i c
      obtain ⟨hn, np⟩ := c
      obtain ⟨Bf, ra, hb⟩ := args_rep r1 l1 n1 d1 g1 np
      have hp := plcs_there g1
      refine ⟨ds, _, hn, ra, ?_⟩
      -- the step of the callee, told of the caller's slots
      have lift : ∀ {H2 : Hp} {F2 G2 : Addr → Prop}, Stp H1 (Own (argF xs Af1 Bf)) H2 F2 → (∀ b, G2 b → Own Af1 b ∨ F2 b) → Stp H1 (fun b => Own Af1 b ∨ b ∈ B1) H2 G2 := fun {H2 F2 G2} s hs =>
        ⟨s.kp, fun b o nf e => s.keep b o (fun z => nf (argF_own hb z)) e, fun b g => (hs b g).elim (fun z => .inl (.inl z)) fun z => (s.new b z).elim (fun y => .inl (argF_own hb y)) .inr⟩
      cases q : F ds with
      | err => rw [q] at h; exact h
      | ok d as =>
        rw [q] at h
        rintro v H2 ⟨Af2, B2, r2, l2, n2, d2, st2⟩
        obtain ⟨rb, ob⟩ := back_rep r1 l1 np hp hb d1 r2 st2 fun b z => .inl z
        refine h v H2 ⟨backF xs Af1 Af2, B2, rb, l2, n2, fun a ha z => ?_, st1.trans (lift st2 fun b z => ?_) fun _ z => z⟩
        · rcases ob a z with ⟨q1, q2⟩ | q
          · obtain ⟨o, eo, _⟩ := r1.there q1
            exact st2.out q2 eo (.inr ha)
          · exact d2 a ha q
        · rcases z with z | z
          · exact (ob b z).elim (fun y => .inl y.1) fun y => .inr (.inl y)
          · exact .inr (.inr z)
      | exc e as =>
        rw [q] at h
        rintro cls x H2 ⟨Af2, r2, x2, st2⟩
        obtain ⟨rb, ob⟩ := back_rep r1 l1 np hp hb d1 r2 st2 fun b z => z
        exact h cls x H2 ⟨backF xs Af1 Af2, rb, x2, st1.trans (lift st2 fun b z => (ob b z).elim (fun y => .inl y.1) .inr) fun _ z => z⟩
    · exact h.elim
  · exact h.elim
end Dn

set_option Elab.async false
set_option linter.all false
set_option maxRecDepth 100000
set_option maxHeartbeats 2000000
/-! Dn6: builtins by name, isinstance, slices, keyword calls. -/
namespace Dn
open PySem L2

/-! ### values in a row, read -/
def RdL (K : PySem.W.Frag) (H : Hp) : List D → List V → Prop
  | [], vs => vs = []
  | d :: ds, vs => ∃ v ws A, vs = v :: ws ∧ Lay K H d v A ∧ RdL K H ds ws
section
variable {K : PySem.W.Frag} {σ : St} {H : Hp} {ss : Sl} {Af : Nat → List Addr}
theorem rd_args (r : Rep K H ss σ Af) : ∀ {xs : List Vx} {ds : List D} {vs : List V} {B : List Addr}, LayXL K σ H xs vs B → getAll xs ss = some ds → RdL K H ds vs
  | [], ds, vs, B, l, e => by cases e; exact l.1
  | x :: xs, ds, vs, B, l, e => by
    obtain ⟨v, ws, B1, B2, e1, e2, l1, l2⟩ := l
    unfold getAll at e
    cases q1 : x.get ss with
    | none => rw [q1] at e; cases e
    | some d =>
      cases q2 : getAll xs ss with
      | none => rw [q1, q2] at e; cases e
      | some es =>
        rw [q1, q2] at e; cases e
        obtain ⟨A, z⟩ := l1.read r q1
        exact ⟨v, ws, A, e1, z, rd_args r l2 q2⟩
end
def OpSL (K : PySem.W.Frag) (op : List D → Option D) (r : List V → Hp → VK → Prop) : Prop := ∀ (H : Hp) (ds : List D) (d : D) (vs : List V) (Q : VK), RdL K H ds vs → op ds = some d → Fn K H d Q → r vs H Q
def opL (op : List D → Option D) (xs : List Vx) (ss : Sl) : R Vx := match getAll xs ss with
  | some ds => ofD (op ds) ss
  | none => .err
def dPrim (op : List D → Option D) (g : AV) : EV := fun ss => (g ss).bind (opL op)
theorem s_prim {K : PySem.W.Frag} {W : WX} {σ : St} {H : Hp} {Q : VK} {op : List D → Option D} {r : List V → Hp → VK → Prop} {g : AV} (hr : OpSL K op r) (h : tE K W (dPrim op g) σ H Q) : tCB r (tA K W g) σ H Q := by
  obtain ⟨ss, Af, rp, h⟩ := h
  refine bindW rp h fun xs vs H1 s1 Af1 B1 e1 r1 l1 n1 d1 st1 h => ?_
  unfold opL at h
  split at h
  · rename_i ds g1
    cases q : op ds with
    | none => rw [q] at h; exact h.elim
    | some d => rw [q] at h; exact hr H1 ds d vs Q (rd_args r1 l1 g1) q (Wn.fn r1 h)
  · exact h.elim

/-! ### builtins -/
inductive Blt where
  | abs | int | len | max | min | tuple | list
  deriving DecidableEq
def Blt.name : Blt → Str
  | .abs => "abs" | .int => "int" | .len => "len" | .max => "max" | .min => "min" | .tuple => "tuple" | .list => "list"
def Blt.val : Blt → Value
  | .abs => .builtin "abs" | .int => .type "int" | .len => .builtin "len" | .max => .builtin "max" | .min => .builtin "min" | .tuple => .type "tuple" | .list => .type "list"
def Blt.all : List Blt := [.abs, .int, .len, .max, .min, .tuple, .list]
def bltOf (x : Str) : Option Blt := Blt.all.find? fun b => decide (b.name = x)
theorem bltOf_name {x : Str} {b : Blt} (h : bltOf x = some b) : b.name = x := by
  have := List.find?_some h
  simpa using this
theorem Blt.boot (b : Blt) : bootBuiltins b.name = some b.val := by cases b <;> decide +kernel
theorem Blt.nm (b : Blt) : b.name ≠ "__name__" := by cases b <;> decide +kernel
theorem Blt.db (b : Blt) : (b.name == ("__debug__" : Str)) = false := by cases b <;> decide +kernel
def lenD : D → Option Nat
  | .str s => if s.length ≤ sizeLine then some s.length else none
  | d => match seqD d with
    | some ds => some ds.length
    | none => none
def bltD : Blt → List D → Option D
  | .abs, [.int i] => some (.int (if i < 0 then -i else i))
  | .int, [.int i] => some (.int i)
  | .int, [.bl b] => some (.int (if b then 1 else 0))
  | .len, [d] => match lenD d with
    | some n => some (.int n)
    | none => none
  | .max, [.int i, .int j] => some (.int (if j > i then j else i))
  | .min, [.int i, .int j] => some (.int (if j < i then j else i))
  | .tuple, [d] => match seqD d with
    | some ds => if allPure ds = true then some (.tup ds) else none
    | none => none
  | .list, [d] => match seqD d with
    | some ds => if allPure ds = true then some (.ml ds) else none
    | none => none
  | _, _ => none
def bltR (K : PySem.W.Frag) : Blt → List V → Hp → VK → Prop
  | .abs => fun xs H Q => ∃ i, xs = [.int i] ∧ Q (.int (if i < 0 then -i else i)) H
  | .int => fun xs H Q => (∃ i, xs = [.int i] ∧ Q (.int i) H) ∨ ∃ k, xs = [.bl k] ∧ Q (.int (if k then 1 else 0)) H
  | .len => fun xs H Q => ∃ x n, xs = [x] ∧ LenV K x H n ∧ Q (.int n) H
  | .max => fun xs H Q => ∃ i j, xs = [.int i, .int j] ∧ Q (.int (if j > i then j else i)) H
  | .min => fun xs H Q => ∃ i j, xs = [.int i, .int j] ∧ Q (.int (if j < i then j else i)) H
  | .tuple => fun xs H Q => ∃ p ys, xs = [.ref p] ∧ ((SqL K H p ys ∧ ∀ l, H l = none → Q (.ref l) (upd H l (.tup ys))) ∨ (SqT K H p ys ∧ Q (.ref p) H))
  | .list => fun xs H Q => ∃ p ys, xs = [.ref p] ∧ (SqL K H p ys ∨ SqT K H p ys) ∧ ∀ l, H l = none → Q (.ref l) (upd H l (.lst ys))
theorem call_blt {X : Cx} (hc : X.calm = true) (b : Blt) : CallR X b.val (bltR X.K b) := by
  cases b with
  | abs => exact call_abs
  | int => exact call_int1
  | len => exact call_len
  | max => exact call_max2 hc
  | min => exact call_min2 hc
  | tuple => exact call_tuple_of
  | list => exact call_list_of
section
variable {K : PySem.W.Frag} {H : Hp}
theorem rd1 {d : D} {vs : List V} (h : RdL K H [d] vs) : ∃ v A, vs = [v] ∧ Lay K H d v A := by
  obtain ⟨v, ws, A, e, l, z⟩ := h
  have z : ws = [] := z
  subst z
  exact ⟨v, A, e, l⟩
theorem rd2 {d d' : D} {vs : List V} (h : RdL K H [d, d'] vs) : ∃ v v' A A', vs = [v, v'] ∧ Lay K H d v A ∧ Lay K H d' v' A' := by
  obtain ⟨v, ws, A, e, l, z⟩ := h
  obtain ⟨v', A', e', l'⟩ := rd1 z
  subst e'
  exact ⟨v, v', A, A', e, l, l'⟩
theorem len_lay {d : D} {v : V} {A : List Addr} {n : Nat} (l : Lay K H d v A) (e : lenD d = some n) : LenV K v H n := by
  unfold lenD at e
  split at e
  · split at e
    · cases e; rw [l.1]; exact ⟨‹_›, rfl⟩
    · cases e
  · split at e
    · rename_i ds f
      cases e
      obtain ⟨a, vs, B, e1, h1, h2⟩ := lay_seq f l
      rw [e1]
      rcases h1 with h1 | h1
      · exact .inl ⟨vs, h1, (LayL.len h2).symm⟩
      · exact .inr ⟨vs, h1, (LayL.len h2).symm⟩
    · cases e
theorem ops_blt (b : Blt) : OpSL K (bltD b) (bltR K b) := by
  intro H ds d vs Q l e f
  unfold bltD at e
  split at e
  · cases e; obtain ⟨v, A, e1, l1⟩ := rd1 l; exact ⟨_, by rw [e1, l1.1], f.val rfl⟩
  · cases e; obtain ⟨v, A, e1, l1⟩ := rd1 l; exact .inl ⟨_, by rw [e1, l1.1], f.val rfl⟩
  · cases e; obtain ⟨v, A, e1, l1⟩ := rd1 l; exact .inr ⟨_, by rw [e1, l1.1], f.val rfl⟩
  · split at e
    · rename_i n q
      cases e
      obtain ⟨v, A, e1, l1⟩ := rd1 l
      exact ⟨v, n, e1, len_lay l1 q, f.val rfl⟩
    · cases e
  · cases e; obtain ⟨v, v', A, A', e1, l1, l2⟩ := rd2 l; exact ⟨_, _, by rw [e1, l1.1, l2.1], f.val rfl⟩
  · cases e; obtain ⟨v, v', A, A', e1, l1, l2⟩ := rd2 l; exact ⟨_, _, by rw [e1, l1.1, l2.1], f.val rfl⟩
  · split at e
    · rename_i es q
      split at e
      · rename_i p
        cases e
        obtain ⟨v, A, e1, l1⟩ := rd1 l
        obtain ⟨a, ws, B, e2, h1, h2⟩ := lay_seq q l1
        have z := layL_pure p h2
        subst z; subst e2
        refine ⟨a, ws, e1, ?_⟩
        rcases h1 with h1 | h1
        · exact .inl ⟨h1, fun t ht => f.2.2 _ _ t rfl ht h2⟩
        · exact .inr ⟨h1, f.1 _ ⟨rfl, a, ws, rfl, h1, h2⟩⟩
      · cases e
    · cases e
  · split at e
    · rename_i es q
      split at e
      · rename_i p
        cases e
        obtain ⟨v, A, e1, l1⟩ := rd1 l
        obtain ⟨a, ws, B, e2, h1, h2⟩ := lay_seq q l1
        have z := layL_pure p h2
        subst z; subst e2
        exact ⟨a, ws, e1, h1, fun t ht => f.2.1 _ _ t rfl ht h2⟩
      · cases e
    · cases e
  · cases e
end

/-! ### isinstance of built-in types -/
inductive Ty where
  | non | bl | int | str | tup | lst
inductive Cl where
  | int | bool | str | tuple | list
  deriving DecidableEq
def Ty.nm : Ty → String
  | .non => "NoneType" | .bl => "bool" | .int => "int" | .str => "str" | .tup => "tuple" | .lst => "list"
def Cl.nm : Cl → String
  | .int => "int" | .bool => "bool" | .str => "str" | .tuple => "tuple" | .list => "list"
def Cl.sn : Cl → Str
  | .int => "int" | .bool => "bool" | .str => "str" | .tuple => "tuple" | .list => "list"
def Cl.all : List Cl := [.int, .bool, .str, .tuple, .list]
def clOf (x : Str) : Option Cl := Cl.all.find? fun b => decide (b.sn = x)
theorem clOf_name {x : Str} {b : Cl} (h : clOf x = some b) : b.sn = x := by
  have := List.find?_some h
  simpa using this
theorem Cl.boot (b : Cl) : bootBuiltins b.sn = some (.type b.nm) := by cases b <;> decide +kernel
theorem Cl.nmn (b : Cl) : b.sn ≠ "__name__" := by cases b <;> decide +kernel
theorem Cl.db (b : Cl) : (b.sn == ("__debug__" : Str)) = false := by cases b <;> decide +kernel
def tyD : D → Option Ty
  | .non => some .non | .bl _ => some .bl | .int _ => some .int | .str _ => some .str | .tup _ => some .tup
  | .lst _ => some .lst | .ml _ => some .lst | .kl _ => some .lst | .ins _ _ _ => none
def isTy : Ty → Cl → Bool
  | .bl, .int => true | .bl, .bool => true | .int, .int => true | .str, .str => true | .tup, .tuple => true | .lst, .list => true
  | _, _ => false
theorem kit_all (t : Ty) (c : Cl) : kitB t.nm c.nm = some (isTy t c) := by cases t <;> cases c <;> decide +kernel
def isiD (d : D) (c : Cl) : Option Bool := match tyD d with
  | some t => some (isTy t c)
  | none => none
def asI (c : Cl) (x : Vx) (ss : Sl) : R Vx := match x.get ss with
  | some d => match isiD d c with
    | some b => .ok (.val (.bl b)) ss
    | none => .err
  | none => .err
def dIsi (c : Cl) (f : EV) : EV := fun ss => (f ss).bind (asI c)
section
variable {K : PySem.W.Frag} {W : WX} {σ : St} {H : Hp} {Q : VK}
theorem sqT_ty {a : Addr} {xs : List V} (h : SqT K H a xs) : TyX K H (.ref a) (.type "tuple") := by
  rcases h with (h | ⟨o, h⟩) | ⟨o, its, n, h1, h2, _⟩
  · exact .base (.tup h)
  · exact .fTuple h
  · exact .kTuple h1 h2
theorem sqL_ty {a : Addr} {xs : List V} (h : SqL K H a xs) : TyX K H (.ref a) (.type "list") := by
  rcases h with (h | ⟨o, h⟩) | ⟨o, its, n, h1, h2, _⟩
  · exact .base (.lst h)
  · exact .base (.frz h)
  · exact .kList h1 h2
theorem lay_ty {d : D} {t : Ty} {v : V} {A : List Addr} (e : tyD d = some t) (l : Lay K H d v A) : TyX K H v (.type t.nm) := by
  cases d with
  | non => cases e; rw [l.1]; exact .base .non
  | bl => cases e; rw [l.1]; exact .base (.bl _)
  | int => cases e; rw [l.1]; exact .base (.int _)
  | str => cases e; rw [l.1]; exact .base (.str _)
  | tup => cases e; obtain ⟨_, a, vs, e1, h1, _⟩ := l; rw [e1]; exact sqT_ty h1
  | lst => cases e; obtain ⟨_, a, vs, e1, h1, _⟩ := l; rw [e1]; exact sqL_ty h1.sq
  | kl => cases e; obtain ⟨_, a, vs, e1, h1, _⟩ := l; rw [e1]; exact sqL_ty h1.sq
  | ml => cases e; obtain ⟨a, vs, B, e1, h1, _⟩ := l; rw [e1]; exact sqL_ty (SqL.of h1)
  | ins => cases e
theorem s_isi {c : Cl} {f : EV} (h : tE K W (dIsi c f) σ H Q) : tCB (rIsi K) (tCons (tE K W f) (tCons (tC (.ty c.nm)) tNil)) σ H Q := by
  obtain ⟨ss, Af, rp, h⟩ := h
  refine bindW rp h fun x v H1 s1 Af1 B1 e1 r1 l1 n1 d1 st1 h => ?_
  unfold asI at h
  split at h
  · rename_i d g
    split at h
    · rename_i b q
      obtain ⟨A, l⟩ := l1.read r1 g
      unfold isiD at q
      split at q
      · rename_i t qt
        cases q
        exact ⟨v, .ty c.nm, .type t.nm, .type c.nm, isTy t c, rfl, .ty _, lay_ty qt l, kit_ty (kit_all t c), Wn.done r1 h ⟨rfl, rfl⟩⟩
      · cases q
    · exact h.elim
  · exact h.elim

/-! ### slices -/
def optI : Option D → Option (Option Int)
  | none => some none
  | some (.int i) => some (some i)
  | some _ => none
def cutL {α : Type} (xs : List α) (lo hi : Option Int) : List α := (xs.drop (HT.sIx xs.length 0 lo)).take (HT.sIx xs.length xs.length hi - HT.sIx xs.length 0 lo)
def slD (d : D) (lo hi : Option Int) : Option D := match d with
  | .str s => if s.length ≤ sizeLine then some (.str (cutS s lo hi)) else none
  | .tup ds => some (.tup (cutL ds lo hi))
  | .lst ds => some (.ml (cutL ds lo hi))
  | .kl ds => some (.ml (cutL ds lo hi))
  | .ml ds => if allPure ds = true then some (.ml (cutL ds lo hi)) else none
  | _ => none
abbrev OV := Sl → R (Option Int)
def dNoP : OV := fun ss => .ok none ss
def asP (x : Vx) (ss : Sl) : R (Option Int) := match x with
  | .val (.int i) => .ok (some i) ss
  | _ => .err
def dPart (f : EV) : OV := fun ss => (f ss).bind asP
def op3s (x : Vx) (lo hi : Option Int) (ss : Sl) : R Vx := match x.get ss with
  | some d => ofD (slD d lo hi) ss
  | none => .err
def dSl (f : EV) (lo hi : OV) : EV := fun ss => (f ss).bind fun x s1 => (lo s1).bind fun l s2 => (hi s2).bind fun u s3 => op3s x l u s3
def LayO (_ : Hp) (o o' : Option Int) (B : List Addr) : Prop := o' = o ∧ B = []
abbrev tO (K : PySem.W.Frag) (W : WX) (f : OV) : TO := fun σ H Q => tD LayO K W f σ H Q
theorem s_noP {Q : Option Int → Hp → Prop} (h : tO K W dNoP σ H Q) : tNoPart σ H Q := by
  obtain ⟨ss, Af, r, h⟩ := h
  exact Wn.done r h ⟨rfl, rfl⟩
theorem s_part {f : EV} {Q : Option Int → Hp → Prop} (h : tO K W (dPart f) σ H Q) : tPart (tE K W f) σ H Q := by
  obtain ⟨ss, Af, rp, h⟩ := h
  refine bindW rp h fun x v H1 s1 Af1 B1 e1 r1 l1 n1 d1 st1 h => ?_
  unfold asP at h
  split at h
  · rename_i i
    exact ⟨i, l1.1, Wn.done r1 h ⟨rfl, rfl⟩⟩
  · exact h.elim
def rSlAny (K : PySem.W.Frag) : V → Option Int → Option Int → Hp → VK → Prop := fun x lo hi H Q => rSlL K x lo hi H Q ∨ rSlA K x lo hi H Q ∨ rSlS x lo hi H Q
theorem sl_any {X : Cx} : SlR X (rSlAny X.K) := sl_list.or (sl_tupA.or sl_str)
theorem cutL_lay {ds : List D} {vs : List V} (lo hi : Option Int) (l : LayL K H ds vs []) : LayL K H (cutL ds lo hi) (cutV vs lo hi) [] := by
  unfold cutL cutV
  rw [LayL.len l]
  exact LayL.take0 _ (LayL.drop0 _ l)
theorem cutL_whole {α : Type} {xs : List α} {lo hi : Option Int} (h : HT.sIx xs.length 0 lo = 0 ∧ HT.sIx xs.length xs.length hi = xs.length) : cutL xs lo hi = xs := by
  unfold cutL
  rw [h.1, h.2]
  simp
theorem s_sl {f : EV} {lo hi : OV} (h : tE K W (dSl f lo hi) σ H Q) : tSl (rSlAny K) (tE K W f) (tO K W lo) (tO K W hi) σ H Q := by
  obtain ⟨ss, Af, rp, h⟩ := h
  refine bindW rp h fun x v H1 s1 Af1 B1 e1 r1 l1 n1 d1 st1 h => ?_
  refine bindW r1 h fun l l' H2 s2 Af2 B2 e2 r2 l2 n2 d2 st2 h => ?_
  refine bindW r2 h fun u u' H3 s3 Af3 B3 e3 r3 l3 n3 d3 st3 h => ?_
  obtain ⟨q1, q2⟩ := l2
  subst q1; subst q2
  obtain ⟨q1, q2⟩ := l3
  subst q1; subst q2
  have o2 := l1.stay st2 d1
  have lx : LayX K σ H3 x v B1 := o2.stay st3 (fun a ha z => (l1.out st2 d1 a ha) (.inl z))
  unfold op3s at h
  split at h
  · rename_i d g
    obtain ⟨A, lay⟩ := lx.read r3 g
    cases q : slD d l' u' with
    | none => rw [q] at h; exact h.elim
    | some e =>
      rw [q] at h
      have f := Wn.fn r3 h
      cases d with
      | str s =>
        have q : (if s.length ≤ sizeLine then some (D.str (cutS s l' u')) else none) = some e := q
        split at q
        · cases q; exact .inr (.inr ⟨s, lay.1, ‹_›, f.val rfl⟩)
        · cases q
      | tup ds =>
        cases q
        obtain ⟨_, a, vs, e1, h1, h2⟩ := lay
        have hl := LayL.len h2
        refine .inr (.inl ⟨a, vs, e1, h1, fun z => ?_, fun _ p hp => f.2.2 _ _ p rfl hp (cutL_lay _ _ h2)⟩)
        rw [hl] at z
        rw [cutL_whole z] at f
        exact f.1 _ ⟨rfl, a, vs, rfl, h1, h2⟩
      | lst ds =>
        cases q
        obtain ⟨_, a, vs, e1, h1, h2⟩ := lay
        exact .inl ⟨a, vs, e1, h1.sq, fun p hp => f.2.1 _ _ p rfl hp (cutL_lay _ _ h2)⟩
      | kl ds =>
        cases q
        obtain ⟨_, a, vs, e1, h1, h2⟩ := lay
        exact .inl ⟨a, vs, e1, h1.sq, fun p hp => f.2.1 _ _ p rfl hp (cutL_lay _ _ h2)⟩
      | ml ds =>
        have q : (if allPure ds = true then some (D.ml (cutL ds l' u')) else none) = some e := q
        split at q
        · rename_i p
          cases q
          obtain ⟨a, vs, B, e1, h1, h2, _⟩ := lay
          have z := layL_pure p h2
          subst z
          exact .inl ⟨a, vs, e1, SqL.of h1, fun p hp => f.2.1 _ _ p rfl hp (cutL_lay _ _ h2)⟩
        · cases q
      | _ => cases q
  · exact h.elim
end

/-! ### calls by keywords alone -/
def permL {α : Type} (ks : List Str) : List Str → List α → Option (List α)
  | [], _ => some []
  | p :: ps, xs => match ks.findIdx? (fun k => decide (k = p)) with
    | some i => match xs[i]?, permL ks ps xs with
      | some x, some r => some (x :: r)
      | _, _ => none
    | none => none
def callK (ps ks : List Str) (F : FV) (xs : List Vx) (ss : Sl) : R Vx := match pures xs with
  | some ds => if ds.length = ks.length then match permL ks ps ds with
      | some es => match F es with
        | .ok d _ => .ok (.val d) ss
        | .exc e _ => .exc e ss
        | .err => .err
      | none => .err
    else .err
  | none => .err
def dCallK (ps ks : List Str) (F : FV) (g : AV) : EV := fun ss => (g ss).bind (callK ps ks F)
section
variable {K : PySem.W.Frag} {W : WX} {σ : St} {H : Hp} {Q : VK}
theorem permL_lay : ∀ {ks ps : List Str} {ds es : List D} {vs : List V}, LayL K H ds vs [] → permL ks ps ds = some es → ∃ ws, permL ks ps vs = some ws ∧ LayL K H es ws []
  | ks, [], ds, es, vs, l, e => by cases e; exact ⟨[], rfl, LayL.nil⟩
  | ks, p :: ps, ds, es, vs, l, e => by
    unfold permL at e ⊢
    cases q1 : ks.findIdx? (fun k => decide (k = p)) with
    | none => rw [q1] at e; cases e
    | some i =>
      rw [q1] at e
      cases q2 : ds[i]? with
      | none => simp only [q2] at e; cases e
      | some d =>
        cases q3 : permL ks ps ds with
        | none => simp only [q2, q3] at e; cases e
        | some r =>
          simp only [q2, q3] at e
          cases e
          obtain ⟨v, z1, z2⟩ := l.get0 q2
          obtain ⟨ws, z3, z4⟩ := permL_lay l q3
          exact ⟨v :: ws, by simp only [z1, z3], LayL.cons0 z2 z4⟩
theorem permL_vals : ∀ {ks ps : List Str} {vs ws : List V} {us : List Value}, Vals vs us → permL ks ps vs = some ws → ∃ zs, permL ks ps us = some zs ∧ Vals ws zs
  | ks, [], vs, ws, us, r, e => by cases e; exact ⟨[], rfl, .nil⟩
  | ks, p :: ps, vs, ws, us, r, e => by
    unfold permL at e ⊢
    cases q1 : ks.findIdx? (fun k => decide (k = p)) with
    | none => rw [q1] at e; cases e
    | some i =>
      rw [q1] at e
      cases q2 : vs[i]? with
      | none => simp only [q2] at e; cases e
      | some d =>
        cases q3 : permL ks ps vs with
        | none => simp only [q2, q3] at e; cases e
        | some r' =>
          simp only [q2, q3] at e
          cases e
          obtain ⟨v, z1, z2⟩ := r.get q2
          obtain ⟨zs, z3, z4⟩ := permL_vals r q3
          exact ⟨v :: zs, by simp only [z1, z3], .cons z2 z4⟩
/-- pure arguments, the callee's view -/
theorem pure_rep : ∀ {ds : List D} {vs : List V}, LayL K H ds vs [] → Rep K H (ds.map some) (vs.map some) (fun _ => []) := fun {ds vs} l =>
  ⟨by rw [List.length_map, List.length_map, LayL.len l], fun i d e => by
    rw [List.getElem?_map] at e
    cases q : ds[i]? with
    | none => rw [q] at e; simp at e
    | some d0 =>
      rw [q] at e; simp at e; subst e
      obtain ⟨v, z1, z2⟩ := l.get0 q
      exact ⟨v, by rw [List.getElem?_map, z1]; rfl, z2⟩, fun _ _ => rfl, fun _ => List.nodup_nil, fun _ _ _ z => nomatch z⟩
def tCallKS (ks ps : List Str) (sp : Sp) (E : St → XK) (t : TA) : TE := fun σ H Q => t σ H fun vs H1 => vs.length = ks.length ∧ ∃ ws, permL ks ps vs = some ws ∧ sp ws H1 Q (E σ)
theorem permL_len {α : Type} : ∀ {ks ps : List Str} {xs ys : List α}, permL ks ps xs = some ys → ys.length = ps.length
  | ks, [], xs, ys, e => by cases e; rfl
  | ks, p :: ps, xs, ys, e => by
    unfold permL at e
    cases q1 : ks.findIdx? (fun k => decide (k = p)) with
    | none => rw [q1] at e; cases e
    | some i =>
      rw [q1] at e
      cases q2 : xs[i]? with
      | none => simp only [q2] at e; cases e
      | some d =>
        cases q3 : permL ks ps xs with
        | none => simp only [q2, q3] at e; cases e
        | some r' =>
          simp only [q2, q3] at e
          cases e
          simp [permL_len q3]
theorem s_callK {ks ps : List Str} {F : FV} {g : AV} (h : tE K W (dCallK ps ks F g) σ H Q) : tCallKS ks ps (spD K ps.length F) (WE W) (tA K W g) σ H Q := by
  obtain ⟨ss, Af, rp, h⟩ := h
  refine bindW rp h fun xs vs H1 s1 Af1 B1 e1 r1 l1 n1 d1 st1 h => ?_
  unfold callK at h
  split at h
  · rename_i ds q
    split at h
    rotate_left
    · exact h.elim
    rename_i hlen
    split at h
    · rename_i es q2
      obtain ⟨lp, hB⟩ := pures_lay q l1
      obtain ⟨ws, z1, z2⟩ := permL_lay lp q2
      refine ⟨by rw [LayL.len lp]; exact hlen, ws, z1, es, fun _ => [], permL_len q2, pure_rep z2, ?_⟩
      cases q3 : F es with
      | err => rw [q3] at h; exact h
      | ok d as =>
        rw [q3] at h
        rintro v H2 ⟨Af2, B2, r2, l2, n2, d2, st2⟩
        have st : Stp H1 (fun _ => False) H2 (fun b => b ∈ B2) := ⟨st2.kp, fun b o nf e => st2.keep b o (fun ⟨_, z⟩ => nomatch z) e, fun b z => (st2.new b (.inr z)).elim (fun ⟨_, y⟩ => nomatch y) .inr⟩
        have stF : Stp H1 (Own Af1) H2 (fun b => Own Af1 b ∨ b ∈ B2) := ⟨st.kp, fun b o _ e => st.keep b o id e, fun b z => z.elim .inl fun y => (st.new b y).elim False.elim .inr⟩
        refine h v H2 ⟨Af1, B2, r1.step st fun _ _ z => z, l2, n2, fun a ha z => ?_, stF⟩
        obtain ⟨o, eo, _⟩ := r1.there z
        exact st.out id eo ha
      | exc e as =>
        rw [q3] at h
        rintro cls x H2 ⟨Af2, r2, x2, st2⟩
        have st : Stp H1 (fun _ => False) H2 (fun _ => False) := ⟨st2.kp, fun b o nf e => st2.keep b o (fun ⟨_, z⟩ => nomatch z) e, fun b z => z.elim⟩
        have stF : Stp H1 (Own Af1) H2 (Own Af1) := ⟨st.kp, fun b o _ e => st.keep b o id e, fun b z => .inl z⟩
        exact h cls x H2 ⟨Af1, r1.step st fun _ _ z => z, x2, stF⟩
    · exact h.elim
  · exact h.elim
end
end Dn

set_option Elab.async false
set_option linter.all false
set_option maxRecDepth 100000
set_option maxHeartbeats 4000000
/-! Dn7: the denotation of expressions, and that it is sound. -/
namespace Dn
open PySem L2

structure FnE where
  ps : List Str
  F : FV
/-- the context: slots, scope, what the module's names are -/
structure Cc where
  N : List Str
  sc : Scope
  k : Nat
  fn : List (Str × FnE)
  kw : List (Str × List Str)
  cst : List (Str × D)

def Cc.slot (C : Cc) (x : Str) : Option Nat := match C.sc.names.lookup x with
  | some .local => C.N.findIdx? fun y => decide (y = x)
  | some .cell => C.N.findIdx? fun y => decide (y = x)
  | some .free => C.N.findIdx? fun y => decide (y = x)
  | _ => none
def Cc.glob (C : Cc) (x : Str) : Bool := match C.sc.names.lookup x with
  | some .globalImplicit => !(x == ("__debug__" : Str))
  | _ => false
def notStar : Expr → Bool
  | .Starred _ _ => false
  | _ => true
def isSlice : Expr → Bool
  | .Slice _ _ _ _ => true
  | _ => false

/-! ### more combinators -/
def negD : D → Option D
  | .int i => some (.int (-i))
  | _ => none
def dConst : Const → EV
  | .none => dCst .non
  | .bool b => dCst (.bl b)
  | .int i => dCst (.int i)
  | .str s => dCst (.str s)
  | _ => dErr
def okName (x : Str) : Bool := !(x == ("__debug__" : Str)) && !(x == ("__classdict__" : Str))
def dName (C : Cc) (x : Str) : EV := if okName x = true then match C.slot x with
    | some i => dVar i
    | none => if C.glob x = true then match C.cst.lookup x with
        | some d => dCst d
        | none => dErr
      else dErr
  else dErr
def foldA : List EV → AV
  | [] => dNilA
  | f :: fs => dConsA f (foldA fs)
def boolE (op : BoolOp) : List EV → EV
  | [] => dErr
  | [f] => f
  | f :: g :: fs => match op with
    | .And => dAndE f (boolE op (g :: fs))
    | .Or => dOrE f (boolE op (g :: fs))
def dErrT : TV := fun _ => .err
def boolT (op : BoolOp) : List TV → TV
  | [] => dErrT
  | [f] => f
  | f :: g :: fs => match op with
    | .And => dAndT f (boolT op (g :: fs))
    | .Or => dOrT f (boolT op (g :: fs))
def cmpE (ops : List CmpOp) (bs : List Expr) (a : EV) (fs : List EV) : EV := match ops, bs, fs with
  | [o], [b], [f] => if behindInMarks o b = false then d2 (cmpD' o) a f else dErr
  | [o1, o2], [b, c], [f, g] => if lastMarks [o1, o2] [b, c] = false then dChain o1 o2 a f g else dErr
  | _, _, _ => dErr
def frzArg : Expr → EV → EV
  | .List _ _, f => dFrz f
  | .ListComp _ _ _ _, f => dFrz f
  | .BinOp _ _ _ _, f => dFrz f
  | .Subscript _ _ _, f => dFrz f
  | _, f => f
def frzArgs : List Expr → List EV → List EV
  | e :: es, f :: fs => frzArg e f :: frzArgs es fs
  | _, _ => []
def kwNames (kws : List Keyword) : Option (List Str) := kws.mapM (·.arg)
def callE (C : Cc) (x : Str) (args : List Expr) (kws : List Keyword) (fs ks : List EV) : EV :=
  if C.glob x = true then
    if x = "isinstance" then match args, fs, kws with
      | [a, .Name T _], [f, _], [] => if C.glob T = true ∧ notStar a = true then match clOf T with
          | some c => dIsi c f
          | none => dErr
        else dErr
      | _, _, _ => dErr
    else match C.fn.lookup x with
      | some e => match kws with
        | [] => if args.all notStar = true then dCall e.ps.length e.F (foldA (frzArgs args fs)) else dErr
        | _ :: _ => match args, kwNames kws with
          | [], some nm => if (x, nm) ∈ C.kw then dCallK e.ps nm e.F (foldA (ks.map dFrz)) else dErr
          | _, _ => dErr
      | none => match bltOf x, args, kws with
        | some b, _ :: _, [] => if args.all notStar = true then dPrim (bltD b) (foldA fs) else dErr
        | _, _, _ => dErr
  else dErr
def isMl (o : Option (Option D)) : Bool := match o with
  | some (some (.ml _)) => true
  | _ => false
def appendX (i : Nat) (ys : List Vx) (ss : Sl) : R Vx := match ys, ss[i]? with
  | [.val d], some (some (.ml ds)) => if d.pure = true ∧ ds.length < sizeLine then .ok (.val .non) (ss.set i (some (.ml (ds ++ [d])))) else .err
  | _, _ => .err
def dAppend (i : Nat) (f : EV) : EV := fun ss => if isMl ss[i]? = true then (foldA [f] ss).bind (appendX i) else .err
def methE (C : Cc) (o m : Str) (ap cp : Pos) (args : List Expr) (kws : List Keyword) (fs : List EV) : EV :=
  match C.slot o, args, kws, fs with
  | some i, [e], [], [f] => if okName o = true ∧ m = "append" ∧ notStar e = true ∧ (ap.endLine == cp.line) = true then dAppend i (dFrz f) else dErr
  | _, _, _, _ => dErr
abbrev ET := EV × TV
def E1 (f : EV) : ET := (f, dTr f)

mutual
def dn (C : Cc) : Expr → ET
  | .Name x _ => E1 (dName C x)
  | .Constant c _ _ => E1 (dConst c)
  | .BinOp a op b _ => E1 (d2 (binD op) (dn C a).1 (dn C b).1)
  | .UnaryOp op a _ => match op with
    | .Not => (dNotE (dn C a).1, dNotT (dn C a).2)
    | .USub => E1 (d1 negD (dn C a).1)
    | _ => E1 dErr
  | .BoolOp op es _ => (boolE op ((dnL C es).map (·.1)), boolT op ((dnL C es).map (·.2)))
  | .Compare a ops bs _ => (cmpE ops bs (dn C a).1 ((dnL C bs).map (·.1)), dTB (cmpE ops bs (dn C a).1 ((dnL C bs).map (·.1))))
  | .IfExp t a b _ => (dIfE (dn C t).2 (dn C a).1 (dn C b).1, dErrT)
  | .Tuple es _ _ => E1 (if es.all notStar = true then dTup (foldA ((dnL C es).map fun p => dFrz p.1)) else dErr)
  | .List es _ => E1 (if es.all notStar = true then dLst (foldA ((dnL C es).map fun p => dFrz p.1)) else dErr)
  | .Subscript a b _ => match b with
    | .Slice lo hi none _ => E1 (dSl (dn C a).1 (dnO C lo) (dnO C hi))
    | b => E1 (if isSlice b = true then dErr else d2 ixD (dn C a).1 (dn C b).1)
  | .Call f args kws cp => match f with
    | .Name x _ => E1 (callE C x args kws ((dnL C args).map (·.1)) ((dnK C kws).map (·.1)))
    | .Attribute (.Name o _) m ap => E1 (methE C o m ap cp args kws ((dnL C args).map (·.1)))
    | _ => E1 dErr
  | _ => (dErr, dErrT)
def dnL (C : Cc) : List Expr → List ET
  | [] => []
  | e :: es => dn C e :: dnL C es
def dnO (C : Cc) : Option Expr → OV
  | none => dNoP
  | some e => dPart (dn C e).1
def dnK (C : Cc) : List Keyword → List ET
  | [] => []
  | ⟨_, e, _⟩ :: ks => dn C e :: dnK C ks
end

/-! ### the module behind the context -/
structure FnG (C : Cc) (X : Cx) (x : Str) (e : FnE) (f : Addr) (fd : FuncData) : Prop where
  mg : X.mg x = some (.ref f)
  kp : PySem.W.keepIn X.K (.ref f) = true
  bd : Binds X.K fd e.ps []
  ok : FnOk X.prog X.w X.K X.mg X.base (L2.CX X.prog X.w) C.k f fd e.ps (spD X.K e.ps.length e.F)
  kb : ∀ ks, (x, ks) ∈ C.kw → ∀ (s : Shared) (ws us : List Value), X.K.In s.heap → ws.length = ks.length → permL ks e.ps ws = some us → BindsTo s fd ⟨[], ks.zip ws⟩ (e.ps.zip us)
structure Good (C : Cc) (X : Cx) (W : WX) : Prop where
  N : X.N = C.N
  nd : C.N.Nodup
  sc : X.env.scope = C.sc
  un : X.A.units + 200 < cLine
  tk : Takes X W
  calm : X.calm = true
  room : Room C.k X.A
  blt : ∀ b : Blt, X.mg b.name = none
  cls : ∀ c : Cl, X.mg c.sn = none
  isi : X.mg "isinstance" = none
  fns : ∀ x e, C.fn.lookup x = some e → ∃ f fd, FnG C X x e f fd
  cst : ∀ x d, C.cst.lookup x = some d → ∃ u v, X.mg x = some u ∧ RelV v u ∧ flatD d = some v

section
variable {X : Cx} {W : WX} {C : Cc}
theorem _root_.L2.PE.impD {e : Expr} {t t' : TE} (h : PE X e t) (i : ∀ σ H Q, t' σ H Q → t σ H Q) : PE X e t' := ⟨fun pins s σ H Q I hw => h.run pins s σ H Q I (i σ H Q hw)⟩
theorem _root_.L2.PT.impD {e : Expr} {t t' : TT} (h : PT X e t) (i : ∀ σ H Q, t' σ H Q → t σ H Q) : PT X e t' := ⟨fun pins s σ H Q I hw => h.run pins s σ H Q I (i σ H Q hw)⟩
theorem _root_.L2.PW.impD {e : Expr} {t t' : TT} (h : PW X e t) (i : ∀ σ H Q, t' σ H Q → t σ H Q) : PW X e t' := ⟨fun wh pins s σ H Q I hw => h.run wh pins s σ H Q I (i σ H Q hw)⟩
theorem _root_.L2.PA.impD {es : List Expr} {t t' : TA} (h : PA X es t) (i : ∀ σ H Q, t' σ H Q → t σ H Q) : PA X es t' := ⟨fun pos pins s σ H Q I hw => h.run pos pins s σ H Q I (i σ H Q hw)⟩
theorem pe_err {e : Expr} : PE X e (tE X.K W dErr) := ⟨fun pins s σ H Q I h => by obtain ⟨_, _, _, h⟩ := h; exact h.elim⟩
theorem pt_err {e : Expr} : PT X e (tT X.K W dErrT) := ⟨fun pins s σ H Q I h => by obtain ⟨_, _, _, h⟩ := h; exact h.elim⟩
theorem pt_trErr {e : Expr} : PT X e (tT X.K W (dTr dErr)) := ⟨fun pins s σ H Q I h => by obtain ⟨_, _, _, h⟩ := h; exact h.elim⟩
theorem slot_vis (G : Good C X W) {x : Str} {i : Nat} (h : C.slot x = some i) : X.N[i]? = some x ∧ Vis X.env.scope x := by
  have fnd : ∀ {i : Nat}, C.N.findIdx? (fun y => decide (y = x)) = some i → X.N[i]? = some x := fun {i} q => by
    rw [List.findIdx?_eq_some_iff_getElem] at q
    obtain ⟨h1, h2, _⟩ := q
    rw [G.N]
    have : C.N[i] = x := by simpa using h2
    rw [List.getElem?_eq_getElem h1, this]
  unfold Cc.slot at h
  unfold Vis
  rw [G.sc]
  split at h
  · exact ⟨fnd h, .inl ‹_›⟩
  · exact ⟨fnd h, .inr (.inl ‹_›)⟩
  · exact ⟨fnd h, .inr (.inr ‹_›)⟩
  · cases h
theorem glob_gl (G : Good C X W) {x : Str} (h : C.glob x = true) : Gl X x ∧ (x == ("__debug__" : Str)) = false := by
  unfold Cc.glob at h
  split at h
  · refine ⟨?_, by simpa using h⟩
    show X.env.scope.names.lookup x = some .globalImplicit
    rw [G.sc]; assumption
  · cases h
theorem okName_spec {x : Str} (h : okName x = true) : (x == ("__debug__" : Str)) = false ∧ (x == ("__classdict__" : Str)) = false := by
  unfold okName at h
  obtain ⟨h1, h2⟩ := Bool.and_eq_true_iff.mp h
  exact ⟨by simpa using h1, by simpa using h2⟩
theorem pe_nameD (G : Good C X W) {x : Str} {pos : Pos} : PE X (.Name x pos) (tE X.K W (dName C x)) := by
  unfold dName
  split
  · rename_i ok
    obtain ⟨k1, k2⟩ := okName_spec ok
    split
    · rename_i i e
      obtain ⟨h1, h2⟩ := slot_vis G e
      exact (pe_var h1 h2 k1 k2).impD fun _ _ _ h => s_var h
    · split
      · rename_i g
        split
        · rename_i d e
          obtain ⟨u, v, h1, h2, h3⟩ := G.cst x d e
          obtain ⟨g1, g2⟩ := glob_gl G g
          exact (pe_glob g1 h1 h2 g2).impD fun _ _ _ h => s_cst h3 h
        · exact pe_err
      · exact pe_err
  · exact pe_err
theorem pe_constD {c : Const} {k : Nat} {pos : Pos} : PE X (.Constant c k pos) (tE X.K W (dConst c)) := by
  cases c with
  | none => exact pe_non.impD fun _ _ _ h => s_cst rfl h
  | bool b => exact pe_bl.impD fun _ _ _ h => s_cst rfl h
  | int i => exact pe_int.impD fun _ _ _ h => s_cst rfl h
  | str s => exact pe_str.impD fun _ _ _ h => s_cst rfl h
  | _ => exact pe_err
theorem star_cons {e : Expr} {es : List Expr} {env : Env} (h : notStar e = true) : starEach (e :: es) env = (false, eval e env) :: starEach es env := by
  cases e <;> first | rfl | cases h
theorem star_plain {pos : Pos} {env : Env} : ∀ {es : List Expr}, es.all notStar = true → (backTo pos (starEach es env)).any (·.1) = false
  | [], _ => rfl
  | e :: es, h => by
    obtain ⟨h1, h2⟩ := Bool.and_eq_true_iff.mp (show (notStar e && es.all notStar) = true from h)
    rw [star_cons h1]
    show (false || (backTo pos (starEach es env)).any (·.1)) = false
    rw [star_plain h2]; rfl
theorem all_cons {e : Expr} {es : List Expr} (h : (e :: es).all notStar = true) : notStar e = true ∧ es.all notStar = true := Bool.and_eq_true_iff.mp (show (notStar e && es.all notStar) = true from h)
/-- a row of expressions and their denotations -/
def AllE (X : Cx) (W : WX) : List Expr → List EV → Prop
  | [], [] => True
  | e :: es, f :: fs => PE X e (tE X.K W f) ∧ AllE X W es fs
  | _, _ => False
theorem pa_all : ∀ {es : List Expr} {fs : List EV}, AllE X W es fs → es.all notStar = true → PA X es (tA X.K W (foldA fs))
  | [], [], _, _ => pa_nil.impD fun _ _ _ h => s_nil h
  | e :: es, f :: fs, a, h => by
    obtain ⟨h1, h2⟩ := all_cons h
    exact (pa_cons a.1 (pa_all a.2 h2) (star_cons h1)).impD fun _ _ _ h => s_cons h
theorem pe_frzD {e : Expr} {f : EV} (h : PE X e (tE X.K W f)) : PE X e (tE X.K W (dFrz f)) := (pe_frz h).impD fun _ _ _ h => s_frz h
theorem pe_frzArg {e : Expr} {f : EV} (h : PE X e (tE X.K W f)) : PE X e (tE X.K W (frzArg e f)) := by
  unfold frzArg
  split
  · exact pe_frzD h
  · exact pe_frzD h
  · exact pe_frzD h
  · exact pe_frzD h
  · exact h
theorem all_frzArgs : ∀ {es : List Expr} {fs : List EV}, AllE X W es fs → AllE X W es (frzArgs es fs)
  | [], [], a => a
  | e :: es, f :: fs, a => ⟨pe_frzArg a.1, all_frzArgs a.2⟩
theorem all_frz : ∀ {es : List Expr} {fs : List EV}, AllE X W es fs → AllE X W es (fs.map dFrz)
  | [], [], a => a
  | e :: es, f :: fs, a => ⟨pe_frzD a.1, all_frz a.2⟩
theorem un_neg1 {f : EV} {σ : St} {H : Hp} {Q : VK} (h : tE X.K W (d1 negD f) σ H Q) : tUn (rU fun i => .int (-i)) (tE X.K W f) σ H Q := by
  obtain ⟨ss, Af, rp, h⟩ := h
  refine bindW rp h fun x v H1 s1 Af1 B1 e1 r1 l1 n1 d1 st1 h => ?_
  unfold op1 at h
  split at h
  · rename_i a g
    obtain ⟨A, l⟩ := l1.read r1 g
    cases a with
    | int i => exact ⟨i, l.1, (Wn.fn r1 h).val rfl⟩
    | _ => exact h.elim
  · exact h.elim
/-! ### and, or -/
theorem pe_boolD {op : BoolOp} {pos : Pos} : ∀ {es : List Expr} {fs : List EV}, AllE X W es fs → PE X (.BoolOp op es pos) (tE X.K W (boolE op fs))
  | [], [], _ => pe_err
  | [e], [f], a => by exact (pe_one (op := op) a.1)
  | e :: e' :: es, f :: f' :: fs, a => by
    have ih := pe_boolD (op := op) (pos := pos) (es := e' :: es) (fs := f' :: fs) a.2
    cases op with
    | And => exact (pe_and a.1 ih).impD fun _ _ _ h => s_andE h
    | Or => exact (pe_or a.1 ih).impD fun _ _ _ h => s_orE h
def AllT (X : Cx) (W : WX) : List Expr → List TV → Prop
  | [], [] => True
  | e :: es, f :: fs => PT X e (tT X.K W f) ∧ AllT X W es fs
  | _, _ => False
theorem pw_boolD {op : BoolOp} {pos : Pos} : ∀ {es : List Expr} {fs : List TV}, AllT X W es fs → PW X (.BoolOp op es pos) (tT X.K W (boolT op fs))
  | [], [], _ => ⟨fun wh pins s σ H Q I h => by obtain ⟨_, _, _, h⟩ := h; exact h.elim⟩
  | [e], [f], a => by
    cases op with
    | And => exact pw_and1 a.1
    | Or => exact pw_or1 a.1
  | e :: e' :: es, f :: f' :: fs, a => by
    have ih := pw_boolD (op := op) (pos := pos) (es := e' :: es) (fs := f' :: fs) a.2
    cases op with
    | And => exact (pw_and a.1 ih).impD fun _ _ _ h => s_and h
    | Or => exact (pw_or a.1 ih).impD fun _ _ _ h => s_or h
/-! ### comparisons -/
theorem pe_cmpD (G : Good C X W) {a : Expr} {fa : EV} {ops : List CmpOp} {bs : List Expr} {fs : List EV} {pos : Pos} (ha : PE X a (tE X.K W fa)) (hb : AllE X W bs fs) :
    PE X (.Compare a ops bs pos) (tE X.K W (cmpE ops bs fa fs)) ∧ PT X (.Compare a ops bs pos) (tT X.K W (dTB (cmpE ops bs fa fs))) := by
  have hu : X.A.units + 64 < cLine := by have := G.un; omega
  have ptErr : PT X (.Compare a ops bs pos) (tT X.K W (dTB dErr)) := ⟨fun pins s σ H Q I h => by obtain ⟨_, _, _, h⟩ := h; exact h.elim⟩
  unfold cmpE
  split
  · rename_i o b f
    split
    · rename_i hm
      exact ⟨(pe_cmpR (op_cmpA hu o) ha hb.1 hm).impD fun _ _ _ h => s_two (ops_cmp o) h,
        (pt_cmpR (op_cmpA hu o) ha hb.1 hm).impD fun σ H Q h => by
          obtain ⟨ss, Af, r, h⟩ := h
          refine s_two (ops_cmp o) (W := W) ?_
          exact s_tb ⟨ss, Af, r, h⟩⟩
    · exact ⟨pe_err, ptErr⟩
  · rename_i o1 o2 b c f g
    split
    · rename_i hm
      exact ⟨(pe_chain (op_cmpA hu o1) (op_cmpA hu o2) ha hb.1 hb.2.1 hm).impD fun _ _ _ h => s_chain h,
        (pt_chain (op_cmpA hu o1) (op_cmpA hu o2) ha hb.1 hb.2.1 hm).impD fun σ H Q h => s_chain (W := W) (s_tb h)⟩
    · exact ⟨pe_err, ptErr⟩
  · exact ⟨pe_err, ptErr⟩
end
end Dn

set_option Elab.async false
set_option linter.all false
set_option maxRecDepth 100000
set_option maxHeartbeats 4000000
/-! Dn8: calls, methods; the theorem of expressions. -/
namespace Dn
open PySem L2

section
variable {K : PySem.W.Frag} {H H' : Hp} {ss : Sl} {σ : St} {Af : Nat → List Addr}
/-- what a slot owns is written -/
theorem Rep.write {j : Nat} {d' : D} {v : V} {A' : List Addr} (r : Rep K H ss σ Af) (hj : j < ss.length) (hv : σ[j]? = some (some v)) (s : Stp H (fun b => b ∈ Af j) H' (fun b => b ∈ A')) (l : Lay K H' d' v A') (nd : A'.Nodup) :
    Rep K H' (ss.set j (some d')) σ (put Af j A') ∧ Stp H (Own Af) H' (Own (put Af j A')) := by
  have hj2 : j < σ.length := r.len ▸ hj
  have out : ∀ {i : Nat} {a : Addr}, i ≠ j → a ∈ Af i → a ∉ Af j := fun {i a} n h1 h2 => n (r.dis i j a h1 h2)
  have disA : ∀ {i : Nat} {a : Addr}, i ≠ j → a ∈ Af i → a ∉ A' := fun {i a} n h1 h2 => by
    obtain ⟨o, e, _⟩ := r.there ⟨i, h1⟩
    exact s.out (out n h1) e h2
  refine ⟨⟨by rw [List.length_set]; exact r.len, fun i d e => ?_, fun i e => ?_, fun i => ?_, fun i k a h1 h2 => ?_⟩, ⟨s.kp, fun b o nf e => s.keep b o (fun z => nf ⟨j, z⟩) e, fun b hb => ?_⟩⟩
  · by_cases z : i = j
    · subst z
      rw [List.getElem?_set_self hj] at e
      cases e
      exact ⟨v, hv, by rw [put_self]; exact l⟩
    · rw [List.getElem?_set_ne (Ne.symm z)] at e
      obtain ⟨w, h1, h2⟩ := r.lay i d e
      exact ⟨w, h1, by rw [put_ne z]; exact s.lay h2 fun a ha => out z ha⟩
  · by_cases z : i = j
    · subst z
      exact absurd (List.getElem?_set_self hj) (e d')
    · rw [put_ne z]
      exact r.emp i fun d q => e d (by rw [List.getElem?_set_ne (Ne.symm z)]; exact q)
  · by_cases z : i = j
    · subst z; rw [put_self]; exact nd
    · rw [put_ne z]; exact r.nd i
  · by_cases z1 : i = j
    · by_cases z2 : k = j
      · rw [z1, z2]
      · subst z1
        rw [put_self] at h1; rw [put_ne z2] at h2
        exact absurd h1 (disA z2 h2)
    · by_cases z2 : k = j
      · subst z2
        rw [put_self] at h2; rw [put_ne z1] at h1
        exact absurd h2 (disA z1 h1)
      · rw [put_ne z1] at h1; rw [put_ne z2] at h2
        exact r.dis i k a h1 h2
  · obtain ⟨i, hi⟩ := hb
    by_cases z : i = j
    · subst z; rw [put_self] at hi
      exact (s.new b hi).elim (fun q => .inl ⟨_, q⟩) .inr
    · rw [put_ne z] at hi; exact .inl ⟨i, hi⟩
theorem LayL.append : ∀ {ds es : List D} {vs ws : List V} {A B : List Addr}, LayL K H ds vs A → LayL K H es ws B → LayL K H (ds ++ es) (vs ++ ws) (A ++ B)
  | [], es, vs, ws, A, B, h, g => by rw [h.1, h.2]; exact g
  | d :: ds, es, vs, ws, A, B, h, g => by
    obtain ⟨v, us, A1, A2, e1, e2, h1, h2⟩ := h
    subst e1; subst e2
    have := LayL.cons h1 (LayL.append h2 g)
    rw [List.append_assoc]
    exact this
theorem isMl_spec {o : Option (Option D)} (h : isMl o = true) : ∃ ds, o = some (some (.ml ds)) := by
  unfold isMl at h
  split at h
  · exact ⟨_, rfl⟩
  · cases h
theorem s_append {W : WX} {Q : VK} {i : Nat} {f : EV} (h : tE K W (dAppend i f) σ H Q) : tBM K "list" rAppend (tVar i) (tA K W (foldA [f])) σ H Q := by
  obtain ⟨ss, Af, rp, h⟩ := h
  unfold dAppend at h
  split at h
  · rename_i c
    obtain ⟨ds0, c⟩ := isMl_spec c
    obtain ⟨v, h1, l, vs0, B0, e1, h2, h3, h4⟩ := rp.lay i _ c
    subst e1
    refine ⟨.ref l, h1, .inl ⟨rfl, vs0, SqL.of h2⟩, ?_⟩
    refine bindW rp h fun xs ws H1 s1 Af1 B1 e1 r1 l1 n1 d1 st1 h => ?_
    unfold appendX at h
    split at h
    · rename_i d ds e
      split at h
      · rename_i p
        obtain ⟨p1, p2⟩ := p
        obtain ⟨w, us, C1, C2, z1, z2, z3, z4⟩ := l1
        obtain ⟨z5, z6⟩ := z4
        subst z5; subst z1
        have z3 : Lay K H1 d w C1 := z3
        have z7 := z3.emp p1
        subst z7
        obtain ⟨v', q1, m, vs, B, q2, q3, q4, q5⟩ := r1.lay i _ e
        rw [h1] at q1; cases q1
        cases q2
        have hi : i < s1.length := (List.getElem?_eq_some_iff.mp e).1
        have hnd : (l :: B).Nodup := by rw [← q5]; exact r1.nd i
        have lB : l ∉ B := (List.nodup_cons.mp hnd).1
        have st : Stp H1 (fun b => b ∈ Af1 i) (upd H1 l (.lst (vs ++ [w]))) (fun b => b ∈ l :: B) := by
          have := Stp.wrote (H := H1) (F := fun b => b ∈ l :: B) (o := .lst (vs ++ [w])) List.mem_cons_self q3 (.inl ⟨_, rfl⟩)
          rw [q5]
          exact this
        have lay : Lay K (upd H1 l (.lst (vs ++ [w]))) (.ml (ds ++ [d])) (.ref l) (l :: B) := by
          refine ⟨l, vs ++ [w], B, rfl, upd_same, ?_, rfl⟩
          have a1 : LayL K (upd H1 l (.lst (vs ++ [w]))) ds vs B := LayL.step st.kp ds vs B (fun a ha o eo => by rw [upd_ne (fun z => by subst z; exact lB ha)]; exact eo) q4
          have a2 := LayL.append a1 (LayL.cons0 (Lay.keep st.kp z3) LayL.nil)
          rw [List.append_nil] at a2
          exact a2
        obtain ⟨rw', sw⟩ := r1.write hi h1 st lay hnd
        refine ⟨l, vs, w, rfl, rfl, q3, by rw [LayL.len q4]; exact p2, ?_⟩
        refine h _ _ ⟨put Af1 i (l :: B), [], rw', ⟨rfl, rfl⟩, List.nodup_nil, fun a ha => (nomatch ha), sw.sub fun b hb => hb.elim id fun z => nomatch z⟩
      · exact h.elim
    · exact h.elim
  · exact h.elim
end

section
variable {X : Cx} {W : WX} {C : Cc}
theorem pe_callS0 {CX : CXT} {k : Nat} {f : Addr} {fd : FuncData} {ps : List Str} {sp : Sp} {E : St → XK} {x : Str} {p pos : Pos} (F : FnOk X.prog X.w X.K X.mg X.base CX k f fd ps sp) (hr : Room k X.A) (hg : Gl X x) (hm : X.mg x = some (.ref f))
    (hk : PySem.W.keepIn X.K (.ref f) = true) (hb : Binds X.K fd ps []) (hx : ∀ σ, PassesAt CX X σ (E σ)) (hdb : (x == ("__debug__" : Str)) = false) : PE X (.Call (.Name x p) [] [] pos) (tCallS sp E tNil) := by
  refine ⟨fun pins s σ H Q I h => ?_⟩
  refine wpAny_Call_Name_kw (ld_glob I hg hm ?_ hdb)
  exact PySem.W.callWith_K0 I.kIn hk (run_fnS (us := []) F hr hb (hx σ) I .nil h)
theorem kw_facts {pos : Pos} {env : Env} : ∀ {kws : List Keyword} {nm : List Str}, kwNames kws = some nm → (backToKw pos (keywordEach kws env)).all (·.1.isSome) = true ∧ (backToKw pos (keywordEach kws env)).filterMap (·.1) = nm ∧ (backToKw pos (keywordEach kws env)).any (·.1.isNone) = false
  | [], nm, h => by cases h; exact ⟨rfl, rfl, rfl⟩
  | ⟨none, e, p⟩ :: kws, nm, h => by
    unfold kwNames at h
    simp at h
  | ⟨some a, e, p⟩ :: kws, nm, h => by
    cases q : kwNames kws with
    | none =>
      unfold kwNames at h q
      rw [List.mapM_cons, q] at h
      simp at h
    | some nm' =>
      have e1 : nm = a :: nm' := by
        unfold kwNames at h q
        rw [List.mapM_cons, q] at h
        simpa using h.symm
      obtain ⟨h1, h2, h3⟩ := kw_facts (pos := pos) (env := env) q
      subst e1
      refine ⟨?_, ?_, ?_⟩
      · show (true && (backToKw pos (keywordEach kws env)).all (·.1.isSome)) = true
        rw [h1]; rfl
      · show List.filterMap (fun x : Option Str × Sem Value => x.1) ((some a, _) :: backToKw pos (keywordEach kws env)) = _
        rw [List.filterMap_cons]
        show a :: _ = _
        rw [h2]
      · show (false || (backToKw pos (keywordEach kws env)).any (·.1.isNone)) = false
        rw [h3]; rfl
def AllK (X : Cx) (W : WX) : List Keyword → List EV → Prop
  | [], [] => True
  | ⟨_, e, _⟩ :: es, f :: fs => PE X e (tE X.K W f) ∧ AllK X W es fs
  | _, _ => False
theorem pk_all : ∀ {kws : List Keyword} {fs : List EV}, AllK X W kws fs → PK X kws (tA X.K W (foldA fs))
  | [], [], _ => ⟨fun pos pins s σ H Q I h => pk_nil.run pos pins s σ H Q I (s_nil h)⟩
  | ⟨nm, e, p⟩ :: kws, f :: fs, a => ⟨fun pos pins s σ H Q I h => (pk_cons a.1 (pk_all a.2)).run pos pins s σ H Q I (s_cons h)⟩
theorem allK_frz : ∀ {es : List Keyword} {fs : List EV}, AllK X W es fs → AllK X W es (fs.map dFrz)
  | [], [], a => a
  | ⟨_, _, _⟩ :: es, f :: fs, a => ⟨pe_frzD a.1, allK_frz a.2⟩
theorem pe_callKS0 {k : Nat} {f : Addr} {fd : FuncData} {ps ks : List Str} {sp : Sp} {x : Str} {p pos : Pos} {kws : List Keyword} {t : TA} (F : FnOk X.prog X.w X.K X.mg X.base (L2.CX X.prog X.w) k f fd ps sp) (tk : Takes X W) (hr : Room k X.A) (hg : Gl X x) (hm : X.mg x = some (.ref f))
    (hk : PySem.W.keepIn X.K (.ref f) = true) (hb : ∀ (s : Shared) (ws us : List Value), X.K.In s.heap → ws.length = ks.length → permL ks ps ws = some us → BindsTo s fd ⟨[], ks.zip ws⟩ (ps.zip us))
    (hkw : PK X kws t) (hn : kwNames kws = some ks) (hdb : (x == ("__debug__" : Str)) = false) : PE X (.Call (.Name x p) [] kws pos) (tCallKS ks ps sp (WE W) t) := by
  refine ⟨fun pins s σ H Q I h => ?_⟩
  refine wpAny_Call_Name_kw (ld_glob I hg hm ?_ hdb)
  obtain ⟨k1, k2, k3⟩ := kw_facts (pos := pos) (env := X.env) hn
  refine PySem.W.callWith_KW0 (h₀ := X.base) I.ok.mod.kin hk k1 (thn (hkw.run pos pins s σ H _ I h) fun ws s1 ⟨zs, H1, I1, rz, hzl, vs, e1, q⟩ => ⟨I1.kIn, ?_⟩) (by rw [k3, Bool.or_false]; rfl)
  rw [k2]
  obtain ⟨us, e2, r2⟩ := permL_vals rz e1
  have hl : zs.length = ws.length := rz.length
  have hlw : ws.length = ks.length := by omega
  refine wpAny_call (codeAny_mono (F.run X.A X.stack s1 H1 ⟨[] ++ [], ks.zip ws⟩ us vs Q (WE W σ) hr I1.env0 (hb s1 ws us I1.kIn hlw e2) r2 q) fun r s' hq => ?_)
  cases r with
  | error e => exact passAt tk σ pins H1 s1 e s' I1 hq
  | ok fl =>
    cases fl with
    | ret u => exact I1.after hq
    | next => exact False.elim hq
    | brk => exact False.elim hq
    | cont => exact False.elim hq
end
end Dn

set_option Elab.async false
set_option linter.all false
set_option maxRecDepth 100000
set_option maxHeartbeats 4000000
/-! Dn9: the theorem of expressions. -/
namespace Dn
open PySem L2
section
variable {X : Cx} {W : WX} {C : Cc}
theorem allE_cons {e : Expr} {es : List Expr} {fs : List EV} (a : AllE X W (e :: es) fs) : ∃ f gs, fs = f :: gs ∧ PE X e (tE X.K W f) ∧ AllE X W es gs := by
  cases fs with
  | nil => exact a.elim
  | cons f gs => exact ⟨f, gs, rfl, a.1, a.2⟩
theorem allE_nil {fs : List EV} (a : AllE X W [] fs) : fs = [] := by
  cases fs with
  | nil => rfl
  | cons f gs => exact a.elim
theorem pe_callBlt (G : Good C X W) (b : Blt) {x : Str} {p pos : Pos} {e : Expr} {es : List Expr} {t : TA} (hx : b.name = x) (hg : Gl X x) (ha : PA X (e :: es) t) (hs : (e :: es).all notStar = true) :
    PE X (.Call (.Name x p) (e :: es) [] pos) (tCB (bltR X.K b) t) := by
  subst hx
  obtain ⟨h1, h2⟩ := all_cons hs
  have c := call_blt G.calm b
  have m := G.blt b
  have bo := b.boot
  have n1 := b.nm
  have n2 := b.db
  cases b with
  | abs => exact pe_callB c hg m bo ha n1 n2 (star_cons h1) (star_plain h2)
  | int => exact pe_callTy c hg m bo ha n1 n2 (star_cons h1) (star_plain h2)
  | len => exact pe_callB c hg m bo ha n1 n2 (star_cons h1) (star_plain h2)
  | max => exact pe_callB c hg m bo ha n1 n2 (star_cons h1) (star_plain h2)
  | min => exact pe_callB c hg m bo ha n1 n2 (star_cons h1) (star_plain h2)
  | tuple => exact pe_callTy c hg m bo ha n1 n2 (star_cons h1) (star_plain h2)
  | list => exact pe_callTy c hg m bo ha n1 n2 (star_cons h1) (star_plain h2)
theorem pe_isi (G : Good C X W) {c : Cl} {T : Str} {a : Expr} {f : EV} {p q pos : Pos} (hT : c.sn = T) (gi : Gl X "isinstance") (gT : C.glob T = true) (hs : notStar a = true) (ha : PE X a (tE X.K W f)) :
    PE X (.Call (.Name "isinstance" p) [a, .Name T q] [] pos) (tE X.K W (dIsi c f)) := by
  subst hT
  obtain ⟨g1, g2⟩ := glob_gl G gT
  have pT : PE X (.Name c.sn q) (tC (.ty c.nm)) := pe_bltn g1 (G.cls c) c.boot rfl c.nmn g2
  exact (pe_callB call_isi gi G.isi PyProof.Rows.boot_isinstance (pa_cons ha (pa_cons pT pa_nil (star_cons rfl)) (star_cons hs)) (by decide +kernel) (by decide +kernel) (star_cons hs) (star_plain (by rfl))).impD fun _ _ _ h => s_isi h
theorem pe_callD (G : Good C X W) {x : Str} {args : List Expr} {kws : List Keyword} {fs ks : List EV} {p pos : Pos} (ha : AllE X W args fs) (hk : AllK X W kws ks) :
    PE X (.Call (.Name x p) args kws pos) (tE X.K W (callE C x args kws fs ks)) := by
  unfold callE
  split
  rotate_left
  · exact pe_err
  rename_i g
  obtain ⟨g1, g2⟩ := glob_gl G g
  split
  · rename_i hx
    subst hx
    split
    · rename_i a T q f f'
      split
      · rename_i c
        split
        · rename_i cl e
          exact pe_isi G (clOf_name e) g1 c.1 c.2 ha.1
        · exact pe_err
      · exact pe_err
    · exact pe_err
  · split
    · rename_i e he
      obtain ⟨f, fd, F⟩ := G.fns x e he
      split
      · split
        · rename_i hs
          cases args with
          | nil =>
            have z := allE_nil ha
            subst z
            exact (pe_callS0 F.ok G.room g1 F.mg F.kp F.bd (fun σ => passAt G.tk σ) g2).impD fun σ H Q h => by
              have h := s_call h
              exact s_nil (W := W) h
          | cons a es =>
            obtain ⟨f0, gs, e1, h1, h2⟩ := allE_cons ha
            subst e1
            obtain ⟨s1, s2⟩ := all_cons hs
            exact (pe_callS F.ok G.room g1 F.mg F.kp F.bd (fun σ => passAt G.tk σ) (pa_all (all_frzArgs ha) hs) g2 (star_cons s1) (star_plain s2)).impD fun _ _ _ h => s_call h
        · exact pe_err
      · rename_i kw0 kws0
        split
        · rename_i nm hn
          split
          · rename_i hm
            exact (pe_callKS0 F.ok G.tk G.room g1 F.mg F.kp (F.kb nm hm) (pk_all (allK_frz hk)) hn g2).impD fun _ _ _ h => s_callK h
          · exact pe_err
        · exact pe_err
    · split
      · rename_i b a es hb
        split
        · rename_i hs
          exact (pe_callBlt G b (bltOf_name hb) g1 (pa_all ha hs) hs).impD fun _ _ _ h => s_prim (ops_blt b) h
        · exact pe_err
      · exact pe_err
theorem pe_methD (G : Good C X W) {o m : Str} {args : List Expr} {kws : List Keyword} {fs : List EV} {p ap cp : Pos} (ha : AllE X W args fs) :
    PE X (.Call (.Attribute (.Name o p) m ap) args kws cp) (tE X.K W (methE C o m ap cp args kws fs)) := by
  unfold methE
  split
  · rename_i i e f hi
    split
    · rename_i c
      obtain ⟨c1, c2, c3, c4⟩ := c
      subst c2
      obtain ⟨k1, k2⟩ := okName_spec c1
      obtain ⟨h1, h2⟩ := slot_vis G hi
      have pa : PA X [e] (tA X.K W (foldA [dFrz f])) := pa_all (X := X) (W := W) (es := [e]) (fs := [dFrz f]) ⟨pe_frzD ha.1, trivial⟩ (by show (notStar e && true) = true; rw [c3]; rfl)
      refine (pe_bm PySem.F.plainAttrs_list PySem.F.slot_list_append PySem.F.type_list_append mt_append (pe_var h1 h2 k1 k2) pa rfl ?_ c4 (star_cons c3) rfl).impD fun _ _ _ h => s_append h
      rw [star_cons c3]
      rfl
    · exact pe_err
  · exact pe_err

/-! ### the theorem -/
def OkT (X : Cx) (W : WX) (e : Expr) (p : ET) : Prop := PE X e (tE X.K W p.1) ∧ PT X e (tT X.K W p.2)
def AllD (X : Cx) (W : WX) : List Expr → List ET → Prop
  | [], [] => True
  | e :: es, p :: ps => OkT X W e p ∧ AllD X W es ps
  | _, _ => False
theorem allD_e : ∀ {es : List Expr} {ps : List ET}, AllD X W es ps → AllE X W es (ps.map (·.1))
  | [], [], a => a
  | e :: es, p :: ps, a => ⟨a.1.1, allD_e a.2⟩
theorem allD_t : ∀ {es : List Expr} {ps : List ET}, AllD X W es ps → AllT X W es (ps.map (·.2))
  | [], [], a => a
  | e :: es, p :: ps, a => ⟨a.1.2, allD_t a.2⟩
theorem allD_f : ∀ {es : List Expr} {ps : List ET}, AllD X W es ps → AllE X W es (ps.map fun p => dFrz p.1)
  | [], [], a => a
  | e :: es, p :: ps, a => ⟨pe_frzD a.1.1, allD_f a.2⟩
def AllKD (X : Cx) (W : WX) : List Keyword → List ET → Prop
  | [], [] => True
  | ⟨_, e, _⟩ :: es, p :: ps => OkT X W e p ∧ AllKD X W es ps
  | _, _ => False
theorem allKD_e : ∀ {es : List Keyword} {ps : List ET}, AllKD X W es ps → AllK X W es (ps.map (·.1))
  | [], [], a => a
  | ⟨_, e, _⟩ :: es, p :: ps, a => ⟨a.1.1, allKD_e a.2⟩
/-- an expression whose test is the truth of its value -/
theorem ok_E1 {e : Expr} {f : EV} (h : PE X e (tE X.K W f)) (he : ∀ whole, isTrue e X.env whole = (do let v ← whole; standAt e.pos; holding [v] (truthy v))) : OkT X W e (E1 f) :=
  ⟨h, (pt_truth h he).impD fun _ _ _ q => s_tr q⟩
theorem ok_err {e : Expr} : OkT X W e (dErr, dErrT) := ⟨pe_err, pt_err⟩
theorem ok_E1err {e : Expr} : OkT X W e (E1 dErr) := ⟨pe_err, pt_trErr⟩

mutual
theorem dn_ok (G : Good C X W) : ∀ e : Expr, OkT X W e (dn C e)
  | .Name x p => by unfold dn; exact ok_E1 (pe_nameD G) fun _ => rfl
  | .Constant c k p => by unfold dn; exact ok_E1 pe_constD fun _ => rfl
  | .BinOp a op b p => by
    unfold dn
    exact ok_E1 ((pe_op (op_bin op) (dn_ok G a).1 (dn_ok G b).1).impD fun _ _ _ h => s_two (ops_bin op) h) fun _ => rfl
  | .UnaryOp op a p => by
    unfold dn
    cases op with
    | Not => exact ⟨(pe_not (dn_ok G a).1).impD fun _ _ _ h => s_notE h, (pt_not (dn_ok G a).2).impD fun _ _ _ h => s_not h⟩
    | USub => exact ok_E1 ((pe_un un_neg (dn_ok G a).1).impD fun _ _ _ h => un_neg1 h) fun _ => rfl
    | _ => exact ok_E1err
  | .BoolOp op es p => by
    unfold dn
    have h := dnL_ok G es
    exact ⟨pe_boolD (allD_e h), (pw_boolD (allD_t h)).pt⟩
  | .Compare a ops bs p => by
    unfold dn
    exact pe_cmpD G (dn_ok G a).1 (allD_e (dnL_ok G bs))
  | .IfExp t a b p => by
    unfold dn
    exact ⟨(pe_ifExp (dn_ok G t).2 (dn_ok G a).1 (dn_ok G b).1).impD fun _ _ _ h => s_ifE h, pt_err⟩
  | .Tuple es k p => by
    unfold dn
    split
    · exact ok_E1 ((pe_tup (pa_all (allD_f (dnL_ok G es)) ‹_›)).impD fun _ _ _ h => s_tup h) fun _ => rfl
    · exact ok_E1err
  | .List es p => by
    unfold dn
    split
    · exact ok_E1 ((pe_lst (pa_all (allD_f (dnL_ok G es)) ‹_›)).impD fun _ _ _ h => s_lst h) fun _ => rfl
    · exact ok_E1err
  | .Subscript a b p => by
    unfold dn
    split
    · rename_i lo hi q
      exact ok_E1 ((pe_slice sl_any (dn_ok G a).1 (dnO_ok G lo) (dnO_ok G hi)).impD fun _ _ _ h => s_sl h) fun _ => rfl
    · split
      · exact ok_E1err
      · rename_i hb
        have pl : PlainIx b := fun o i => by cases b <;> first | rfl | exact absurd rfl hb
        exact ok_E1 ((pe_ix ix_seq (dn_ok G a).1 (dn_ok G b).1 pl).impD fun _ _ _ h => s_two ops_ix h) fun _ => rfl
  | .Call f args kws cp => by
    unfold dn
    split
    · exact ok_E1 (pe_callD G (allD_e (dnL_ok G args)) (allKD_e (dnK_ok G kws))) fun _ => rfl
    · exact ok_E1 (pe_methD G (allD_e (dnL_ok G args))) fun _ => rfl
    · exact ok_E1err
  | .NamedExpr _ _ _ => by unfold dn; exact ok_err
  | .Lambda _ _ _ _ => by unfold dn; exact ok_err
  | .Dict _ _ _ => by unfold dn; exact ok_err
  | .Set _ _ _ => by unfold dn; exact ok_err
  | .ListComp _ _ _ _ => by unfold dn; exact ok_err
  | .SetComp _ _ _ _ => by unfold dn; exact ok_err
  | .DictComp _ _ _ _ _ => by unfold dn; exact ok_err
  | .GeneratorExp _ _ _ _ => by unfold dn; exact ok_err
  | .Await _ _ => by unfold dn; exact ok_err
  | .Yield _ _ => by unfold dn; exact ok_err
  | .YieldFrom _ _ => by unfold dn; exact ok_err
  | .FormattedValue _ _ _ _ => by unfold dn; exact ok_err
  | .JoinedStr _ _ => by unfold dn; exact ok_err
  | .Attribute _ _ _ => by unfold dn; exact ok_err
  | .Starred _ _ => by unfold dn; exact ok_err
  | .Slice _ _ _ _ => by unfold dn; exact ok_err
theorem dnL_ok (G : Good C X W) : ∀ es : List Expr, AllD X W es (dnL C es)
  | [] => trivial
  | e :: es => ⟨dn_ok G e, dnL_ok G es⟩
theorem dnO_ok (G : Good C X W) : ∀ o : Option Expr, PO X o (tO X.K W (dnO C o))
  | none => ⟨fun pins s σ H Q I h => po_none.run pins s σ H Q I (s_noP h)⟩
  | some e => ⟨fun pins s σ H Q I h => (po_some (dn_ok G e).1).run pins s σ H Q I (s_part h)⟩
theorem dnK_ok (G : Good C X W) : ∀ ks : List Keyword, AllKD X W ks (dnK C ks)
  | [] => trivial
  | ⟨_, e, _⟩ :: ks => ⟨dn_ok G e, dnK_ok G ks⟩
end
end
end Dn

set_option Elab.async false
set_option linter.all false
set_option maxRecDepth 100000
set_option maxHeartbeats 4000000
/-! Dn10: statements but loops. -/
namespace Dn
open PySem L2

inductive RS where
  | nx (ss : Sl) | bk (ss : Sl) | ct (ss : Sl) | rt (d : D) (ss : Sl) | exc (e : Ex) (ss : Sl) | err
abbrev SV := List Nat → Sl → RS
def R.toS {α : Type} (r : R α) (k : α → Sl → RS) : RS := match r with
  | .ok a ss => k a ss
  | .exc e ss => .exc e ss
  | .err => .err
@[simp] theorem R.toS_ok {α : Type} (a : α) (ss : Sl) (k : α → Sl → RS) : (R.ok a ss).toS k = k a ss := rfl
@[simp] theorem R.toS_exc {α : Type} (e : Ex) (ss : Sl) (k : α → Sl → RS) : (R.exc e ss : R α).toS k = .exc e ss := rfl
@[simp] theorem R.toS_err {α : Type} (k : α → Sl → RS) : (R.err : R α).toS k = .err := rfl
def RS.seq (r : RS) (k : Sl → RS) : RS := match r with
  | .nx ss => k ss
  | o => o
@[simp] theorem RS.seq_nx (ss : Sl) (k : Sl → RS) : (RS.nx ss).seq k = k ss := rfl
@[simp] theorem RS.seq_bk (ss : Sl) (k : Sl → RS) : (RS.bk ss).seq k = .bk ss := rfl
@[simp] theorem RS.seq_ct (ss : Sl) (k : Sl → RS) : (RS.ct ss).seq k = .ct ss := rfl
@[simp] theorem RS.seq_rt (d : D) (ss : Sl) (k : Sl → RS) : (RS.rt d ss).seq k = .rt d ss := rfl
@[simp] theorem RS.seq_exc (e : Ex) (ss : Sl) (k : Sl → RS) : (RS.exc e ss).seq k = .exc e ss := rfl
@[simp] theorem RS.seq_err (k : Sl → RS) : RS.err.seq k = .err := rfl

def Lk (L : List Nat) (σ σ' : St) : Prop := ∀ i ∈ L, σ'[i]? = σ[i]?
section
variable (K : PySem.W.Frag) (L : List Nat) (σ0 : St) (H0 : Hp) (F0 : Addr → Prop)
def GotS (ss : Sl) (σ' : St) (H' : Hp) : Prop := ∃ Af, Rep K H' ss σ' Af ∧ Stp H0 F0 H' (Own Af) ∧ Lk L σ0 σ'
def GotR (ss : Sl) (d : D) (v : V) (H' : Hp) : Prop := ∃ σ' Af B, Rep K H' ss σ' Af ∧ Lay K H' d v B ∧ B.Nodup ∧ (∀ a ∈ B, ¬ Own Af a) ∧ Stp H0 F0 H' (fun b => Own Af b ∨ b ∈ B) ∧ Lk L σ0 σ'
def GotX (ss : Sl) (e : Ex) (cls : Value) (x : Option Addr) (σ' : St) (H' : Hp) : Prop := ∃ Af, Rep K H' ss σ' Af ∧ ExL K H' e cls x ∧ Stp H0 F0 H' (Own Af) ∧ Lk L σ0 σ'
def WnS (W : WX) (r : RS) (D : Ends) : Prop := match r with
  | .nx ss => ∀ σ' H', GotS K L σ0 H0 F0 ss σ' H' → D.nx σ' H'
  | .bk ss => ∀ σ' H', GotS K L σ0 H0 F0 ss σ' H' → D.bk σ' H'
  | .ct ss => ∀ σ' H', GotS K L σ0 H0 F0 ss σ' H' → D.ct σ' H'
  | .rt d ss => ∀ v H', GotR K L σ0 H0 F0 ss d v H' → D.rt v H'
  | .exc e ss => ∀ cls x σ' H', GotX K L σ0 H0 F0 ss e cls x σ' H' → W cls x σ' H'
  | .err => False
end
def tS (K : PySem.W.Frag) (W : WX) (L : List Nat) (g : SV) : TS := fun D σ H => ∃ ss Af, Rep K H ss σ Af ∧ WnS K L σ H (Own Af) W (g L ss) D

section
variable {K : PySem.W.Frag} {L L' : List Nat} {σ σ0 σ1 : St} {H H0 H1 : Hp} {F0 F1 : Addr → Prop} {W : WX} {ss : Sl} {Af Af1 : Nat → List Addr} {D : Ends}
theorem Lk.refl : Lk L σ σ := fun _ _ => rfl
theorem Lk.trans {σ2 : St} (a : Lk L σ0 σ1) (b : Lk L σ1 σ2) : Lk L σ0 σ2 := fun i hi => (b i hi).trans (a i hi)
theorem WnS.rebase {r : RS} (h : WnS K L σ0 H0 F0 W r D) (s : Stp H0 F0 H1 F1) (hs : ∀ b, Own Af1 b → F1 b) (lk : Lk L σ0 σ1) : WnS K L σ1 H1 (Own Af1) W r D := by
  cases r with
  | err => exact h
  | nx s1 => exact fun σ' H' ⟨Af2, r2, st2, l2⟩ => h σ' H' ⟨Af2, r2, s.trans st2 hs, lk.trans l2⟩
  | bk s1 => exact fun σ' H' ⟨Af2, r2, st2, l2⟩ => h σ' H' ⟨Af2, r2, s.trans st2 hs, lk.trans l2⟩
  | ct s1 => exact fun σ' H' ⟨Af2, r2, st2, l2⟩ => h σ' H' ⟨Af2, r2, s.trans st2 hs, lk.trans l2⟩
  | rt d s1 => exact fun v H' ⟨σ', Af2, B2, r2, y2, n2, d2, st2, l2⟩ => h v H' ⟨σ', Af2, B2, r2, y2, n2, d2, s.trans st2 hs, lk.trans l2⟩
  | exc e s1 => exact fun cls x σ' H' ⟨Af2, r2, x2, st2, l2⟩ => h cls x σ' H' ⟨Af2, r2, x2, s.trans st2 hs, lk.trans l2⟩
/-- the same ends, more -/
theorem WnS.ends {D' : Ends} {r : RS} (h : WnS K L σ0 H0 F0 W r D) (h1 : ∀ σ H, D.nx σ H → D'.nx σ H) (h2 : ∀ σ H, D.bk σ H → D'.bk σ H) (h3 : ∀ σ H, D.ct σ H → D'.ct σ H) (h4 : ∀ v H, D.rt v H → D'.rt v H) : WnS K L σ0 H0 F0 W r D' := by
  cases r with
  | err => exact h
  | nx s1 => exact fun σ' H' g => h1 _ _ (h σ' H' g)
  | bk s1 => exact fun σ' H' g => h2 _ _ (h σ' H' g)
  | ct s1 => exact fun σ' H' g => h3 _ _ (h σ' H' g)
  | rt d s1 => exact fun v H' g => h4 _ _ (h v H' g)
  | exc e s1 => exact h
/-- an expression, then the rest of the statement -/
theorem bindES {α β : Type} {LX : Hp → α → β → List Addr → Prop} {f : Sl → R α} {k : α → Sl → RS} {Q' : β → Hp → Prop} (s0 : Stp H0 F0 H F1) (hs : ∀ b, Own Af b → F1 b) (lk : Lk L σ0 σ) (r : Rep K H ss σ Af) (h : WnS K L σ0 H0 F0 W ((f ss).toS k) D)
    (hk : ∀ x v H1 ss1 Af1 B1, f ss = .ok x ss1 → Rep K H1 ss1 σ Af1 → LX H1 x v B1 → B1.Nodup → (∀ a ∈ B1, ¬ Own Af1 a) → Stp H (Own Af) H1 (fun b => Own Af1 b ∨ b ∈ B1) → WnS K L σ0 H0 F0 W (k x ss1) D → Q' v H1) :
    tD LX K W f σ H Q' := by
  refine ⟨ss, Af, r, ?_⟩
  cases e : f ss with
  | err => rw [e] at h; exact h
  | exc x s1 =>
    rw [e] at h
    exact fun cls d H2 ⟨Af2, r2, x2, st2⟩ => h cls d σ H2 ⟨Af2, r2, x2, s0.trans st2 hs, lk⟩
  | ok x s1 =>
    rw [e] at h
    intro v H1 ⟨Af1, B1, r1, l1, n1, d1, st1⟩
    exact hk x v H1 s1 Af1 B1 e r1 l1 n1 d1 st1 h

/-! ### small statements -/
def dPass : SV := fun _ ss => .nx ss
def dBreak : SV := fun _ ss => .bk ss
def dCont : SV := fun _ ss => .ct ss
def dErrS : SV := fun _ _ => .err
def dDrop (f : EV) : SV := fun _ ss => (f ss).toS fun _ s1 => .nx s1
def retX (L : List Nat) (x : Vx) (ss : Sl) : RS := match x with
  | .val d => .rt d ss
  | .plc i => if i ∈ L then .err else match ss[i]? with
    | some (some d) => .rt d (ss.set i none)
    | _ => .err
def dRet (f : EV) : SV := fun L ss => (f ss).toS (retX L)
def dRetN : SV := fun _ ss => .rt .non ss
def dIf (t : TV) (a b : SV) : SV := fun L ss => (t ss).toS fun c s1 => if c = true then a L s1 else b L s1
def dSeq (a b : SV) : SV := fun L ss => (a L ss).seq (b L)
def setX (L : List Nat) (i : Nat) (x : Vx) (ss : Sl) : RS := match x with
  | .val d => if i ∈ L ∨ ss.length ≤ i then .err else .nx (ss.set i (some d))
  | .plc _ => .err
def dSet (i : Nat) (f : EV) : SV := fun L ss => (f ss).toS (setX L i)
def setMany (L : List Nat) : List Nat → List Vx → Sl → RS
  | [], [], ss => .nx ss
  | i :: is, x :: xs, ss => (setX L i x ss).seq (setMany L is xs)
  | _, _, _ => .err
def dPar (is : List Nat) (g : AV) : SV := fun L ss => (g ss).toS (setMany L is)
def asg2 (i : Nat) (x y : Vx) (ss : Sl) : RS := match x, y, ss[i]? with
  | .val d, .val (.int k), some (some (.ml ds)) => if d.pure = true ∧ allPure ds = true then match ixN ds.length k with
      | some j => .nx (ss.set i (some (.ml (ds.set j d))))
      | none => .err
    else .err
  | _, _, _ => .err
/-- xs[k] = e, xs a name -/
def dSetIx (i : Nat) (k f : EV) : SV := fun _ ss => (f ss).toS fun x s1 => if isMl s1[i]? = true then (k s1).toS fun y s2 => asg2 i x y s2 else .err
def augD (op : Operator) : Dn.D → Dn.D → Option Dn.D
  | .int a, .int b => match op with
    | .Add => some (.int (a + b))
    | .Sub => some (.int (a - b))
    | .Mult => if (bigD a || bigD b) = true then some (.int (a * b)) else none
    | .FloorDiv => if 0 < b ∧ b < 2 ^ 64 then some (.int (a / b)) else none
    | .Mod => if 0 < b then some (.int (a % b)) else none
    | _ => none
  | .str s, .str t => match op with
    | .Add => if s.length + t.length ≤ sizeLine then some (.str (s ++ t)) else none
    | _ => none
  | _, _ => none
def augX (L : List Nat) (op : Operator) (i : Nat) (d : Dn.D) (y : Vx) (ss : Sl) : RS := match y with
  | .val e => match augD op d e with
    | some z => if i ∈ L ∨ ss.length ≤ i then .err else .nx (ss.set i (some z))
    | none => .err
  | .plc _ => .err
def dAug (op : Operator) (i : Nat) (f : EV) : SV := fun L ss => match ss[i]? with
  | some (some d) => (f ss).toS (augX L op i d)
  | _ => .err

theorem s_pass (h : tS K W L dPass D σ H) : tNext D σ H := by
  obtain ⟨ss, Af, r, h⟩ := h
  exact h σ H ⟨Af, r, Stp.refl, Lk.refl⟩
theorem s_break (h : tS K W L dBreak D σ H) : tBreak D σ H := by
  obtain ⟨ss, Af, r, h⟩ := h
  exact h σ H ⟨Af, r, Stp.refl, Lk.refl⟩
theorem s_cont (h : tS K W L dCont D σ H) : tCont D σ H := by
  obtain ⟨ss, Af, r, h⟩ := h
  exact h σ H ⟨Af, r, Stp.refl, Lk.refl⟩
theorem s_drop {f : EV} (h : tS K W L (dDrop f) D σ H) : L2.tDrop (tE K W f) D σ H := by
  obtain ⟨ss, Af, r, h⟩ := h
  refine bindES Stp.refl (fun _ z => z) Lk.refl r h fun x v H1 s1 Af1 B1 e1 r1 l1 n1 d1 st1 h => ?_
  exact h σ H1 ⟨Af1, r1, st1.sub fun b z => .inl z, Lk.refl⟩
theorem s_retN (h : tS K W L dRetN D σ H) : tRetN D σ H := by
  obtain ⟨ss, Af, r, h⟩ := h
  exact h .non H ⟨σ, Af, [], r, ⟨rfl, rfl⟩, List.nodup_nil, fun a z => (nomatch z), Stp.refl.sub (G := fun b => Own Af b ∨ b ∈ ([] : List Addr)) (fun b z => Or.elim z id fun y => nomatch y), Lk.refl⟩
theorem s_ret {f : EV} (h : tS K W L (dRet f) D σ H) : tRet (tE K W f) D σ H := by
  obtain ⟨ss, Af, r, h⟩ := h
  refine bindES Stp.refl (fun _ z => z) Lk.refl r h fun x v H1 s1 Af1 B1 e1 r1 l1 n1 d1 st1 h => ?_
  cases x with
  | val d => exact h v H1 ⟨σ, Af1, B1, r1, l1, n1, d1, st1, Lk.refl⟩
  | plc i =>
    unfold retX at h
    dsimp only at h
    split at h
    · exact h.elim
    · split at h
      · rename_i d e
        obtain ⟨q1, q2⟩ := l1
        subst q1
        obtain ⟨v', w1, w2⟩ := r1.lay i d e
        rw [q2] at w1; cases w1
        refine h v H1 ⟨σ, put Af1 i [], Af1 i, Rep.clear i r1, w2, r1.nd i, fun a ha ⟨j, hj⟩ => ?_, st1.sub fun b hb => ?_, Lk.refl⟩
        · by_cases z : j = i
          · subst z; rw [put_self] at hj; exact nomatch hj
          · rw [put_ne z] at hj; exact z (r1.dis j i a hj ha)
        · rcases hb with hb | hb
          · exact .inl (own_clear hb)
          · exact .inl ⟨i, hb⟩
      · exact h.elim
theorem s_if {t : TV} {a b : SV} (h : tS K W L (dIf t a b) D σ H) : tIfS (tT K W t) (tS K W L a) (tS K W L b) D σ H := by
  obtain ⟨ss, Af, r, h⟩ := h
  refine bindES Stp.refl (fun _ z => z) Lk.refl r h fun x v H1 s1 Af1 B1 e1 r1 l1 n1 d1 st1 h => ?_
  obtain ⟨q, _⟩ := l1
  subst q
  have h := h.rebase (Af1 := Af1) st1 (fun b z => .inl z) (σ1 := σ) Lk.refl
  cases v with
  | true => exact ⟨s1, Af1, r1, h⟩
  | false => exact ⟨s1, Af1, r1, h⟩
theorem s_seq {a b : SV} (h : tS K W L (dSeq a b) D σ H) : tSeq (tS K W L a) (tS K W L b) D σ H := by
  obtain ⟨ss, Af, r, h⟩ := h
  refine ⟨ss, Af, r, ?_⟩
  unfold dSeq at h
  cases e : a L ss with
  | nx s1 =>
    rw [e] at h
    rintro σ' H' ⟨Af1, r1, st1, l1⟩
    exact ⟨s1, Af1, r1, h.rebase st1 (fun _ z => z) l1⟩
  | bk s1 => rw [e] at h; exact h
  | ct s1 => rw [e] at h; exact h
  | rt d s1 => rw [e] at h; exact h
  | exc x s1 => rw [e] at h; exact h
  | err => rw [e] at h; exact h
/-- a value into a slot -/
theorem setX_ok {i : Nat} {x : Vx} {v : V} {B : List Addr} {k : Sl → RS} (s0 : Stp H0 F0 H F1) (hs : ∀ b, F1 b ↔ (Own Af b ∨ b ∈ B)) (lk : Lk L σ0 σ) (r : Rep K H ss σ Af) (l : LayX K σ H x v B) (n : B.Nodup) (d : ∀ a ∈ B, ¬ Own Af a)
    (h : WnS K L σ0 H0 F0 W ((setX L i x ss).seq k) D) : ∃ d0, x = .val d0 ∧ i ∉ L ∧ i < ss.length ∧ Rep K H (ss.set i (some d0)) (σ.set i (some v)) (put Af i B) ∧ Stp H0 F0 H (Own (put Af i B)) ∧ Lk L σ0 (σ.set i (some v)) ∧
      WnS K L σ0 H0 F0 W (k (ss.set i (some d0))) D := by
  unfold setX at h
  split at h
  · rename_i d0
    split at h
    · exact h.elim
    · rename_i c
      have c1 : i ∉ L := fun z => c (.inl z)
      have c2 : i < ss.length := Nat.lt_of_not_le fun z => c (.inr z)
      refine ⟨d0, rfl, c1, c2, r.set l n (fun a ha => .inl (d a ha)) c2, s0.sub fun b hb => (hs b).mpr ((own_put hb).elim .inl .inr), fun j hj => ?_, h⟩
      rw [List.getElem?_set_ne (fun z => c1 (by rw [z]; exact hj))]
      exact lk j hj
  · exact h.elim
theorem s_set {i : Nat} {f : EV} (h : tS K W L (dSet i f) D σ H) : tAsg (tE K W f) (gName i) D σ H := by
  obtain ⟨ss, Af, r, h⟩ := h
  refine bindES Stp.refl (fun _ z => z) Lk.refl r h fun x v H1 s1 Af1 B1 e1 r1 l1 n1 d1 st1 h => ?_
  have h : WnS K L σ H (Own Af) W ((setX L i x s1).seq .nx) D := by
    cases q : setX L i x s1 <;> rw [q] at h <;> exact h
  obtain ⟨d0, _, _, _, r2, st2, lk2, h⟩ := setX_ok st1 (fun b => Iff.rfl) Lk.refl r1 l1 n1 d1 h
  exact h _ _ ⟨_, r2, st2, lk2⟩
/-- many values into slots; the temporaries apart -/
theorem setMany_ok : ∀ {is : List Nat} {xs : List Vx} {vs : List V} {B : List Addr} {ss : Sl} {σ : St} {Af : Nat → List Addr} {F1 : Addr → Prop}, Stp H0 F0 H F1 → (∀ b, (Own Af b ∨ b ∈ B) → F1 b) → Lk L σ0 σ → Rep K H ss σ Af → LayXL K σ H xs vs B → B.Nodup → (∀ a ∈ B, ¬ Own Af a) →
    WnS K L σ0 H0 F0 W (setMany L is xs ss) D → vs.length = is.length ∧ D.nx ((is.zip vs).foldl (fun s p => s.set p.1 (some p.2)) σ) H
  | [], [], vs, B, ss, σ, Af, F1, s0, hs, lk, r, l, n, d, h => by
    obtain ⟨e1, e2⟩ := l
    subst e1; subst e2
    exact ⟨rfl, h _ _ ⟨Af, r, s0.sub fun b hb => hs b (.inl hb), lk⟩⟩
  | [], x :: xs, vs, B, ss, σ, Af, F1, s0, hs, lk, r, l, n, d, h => h.elim
  | i :: is, [], vs, B, ss, σ, Af, F1, s0, hs, lk, r, l, n, d, h => h.elim
  | i :: is, x :: xs, vs, B, ss, σ, Af, F1, s0, hs, lk, r, l, n, d, h => by
    obtain ⟨v, ws, B1, B2, e1, e2, l1, l2⟩ := l
    subst e1; subst e2
    obtain ⟨n1, n2, n3⟩ := List.nodup_append.mp n
    obtain ⟨d0, ex, hiL, hi, r2, st2, lk2, h⟩ := setX_ok (F1 := fun b => Own Af b ∨ b ∈ B1) (s0.sub fun b hb => hs b (hb.elim .inl fun z => .inr (List.mem_append_left _ z))) (fun b => Iff.rfl) lk r l1 n1 (fun a ha => d a (List.mem_append_left _ ha)) h
    have l3 : LayXL K (σ.set i (some v)) H xs ws B2 := by
      -- no place of xs is a slot: each is a value, or the end fails; the values do not ask the slots
      have aux : ∀ {is : List Nat} {xs : List Vx} {ws : List V} {B2 : List Addr} {ss : Sl}, LayXL K σ H xs ws B2 → WnS K L σ0 H0 F0 W (setMany L is xs ss) D → LayXL K (σ.set i (some v)) H xs ws B2 := by
        intro is xs
        induction xs generalizing is with
        | nil => intro ws B2 ss l _; exact l
        | cons y ys ih =>
          intro ws B2 ss l hw
          obtain ⟨u, us, C1, C2, z1, z2, z3, z4⟩ := l
          cases is with
          | nil => exact hw.elim
          | cons j js =>
            have hw : WnS K L σ0 H0 F0 W ((setX L j y ss).seq (setMany L js ys)) D := hw
            unfold setX at hw
            split at hw
            · split at hw
              · exact hw.elim
              · exact ⟨u, us, C1, C2, z1, z2, z3, ih z4 hw⟩
            · exact hw.elim
      exact aux l2 h
    have q1 : ∀ b, (Own (put Af i B1) b ∨ b ∈ B2) → F1 b := fun b hb => by
      rcases hb with hb | hb
      · exact (own_put hb).elim (fun z => hs b (.inl z)) fun z => hs b (.inr (List.mem_append_left _ z))
      · exact hs b (.inr (List.mem_append_right _ hb))
    have q2 : ∀ a ∈ B2, ¬ Own (put Af i B1) a := fun a ha z => by
      rcases own_put z with z | z
      · exact d a (List.mem_append_right _ ha) z
      · exact n3 a z a ha rfl
    obtain ⟨hl, hn⟩ := setMany_ok (is := is) (xs := xs) (vs := ws) (B := B2) (F1 := F1) s0 q1 lk2 r2 l3 n2 q2 h
    exact ⟨by simp [hl], hn⟩
def tParN (is : List Nat) (ta : TA) : TS := fun D σ H => ta σ H fun vs H1 => vs.length = is.length ∧ D.nx ((is.zip vs).foldl (fun s p => s.set p.1 (some p.2)) σ) H1
theorem s_par {is : List Nat} {g : AV} (h : tS K W L (dPar is g) D σ H) : tParN is (tA K W g) D σ H := by
  obtain ⟨ss, Af, r, h⟩ := h
  refine bindES Stp.refl (fun _ z => z) Lk.refl r h fun xs vs H1 s1 Af1 B1 e1 r1 l1 n1 d1 st1 h => ?_
  exact setMany_ok st1 (fun b z => z) Lk.refl r1 l1 n1 d1 h
theorem asg2_get {i : Nat} {x y : Vx} (h : WnS K L σ0 H0 F0 W (asg2 i x y ss) D) : ∃ d k ds j, x = .val d ∧ y = .val (.int k) ∧ ss[i]? = some (some (.ml ds)) ∧ d.pure = true ∧ allPure ds = true ∧ ixN ds.length k = some j ∧
    WnS K L σ0 H0 F0 W (.nx (ss.set i (some (.ml (ds.set j d))))) D := by
  unfold asg2 at h
  split at h
  · rename_i d kk ds e
    split at h
    · rename_i p
      split at h
      · rename_i j hj
        exact ⟨d, kk, ds, j, rfl, rfl, e, p.1, p.2, hj, h⟩
      · exact h.elim
    · exact h.elim
  · exact h.elim
theorem s_setIx {i : Nat} {k f : EV} (h : tS K W L (dSetIx i k f) D σ H) : tAsg (tE K W f) (gSub (tVar i) (tE K W k) rSetL) D σ H := by
  obtain ⟨ss, Af, r, h⟩ := h
  refine bindES Stp.refl (fun _ z => z) Lk.refl r h fun x v H1 s1 Af1 B1 e1 r1 l1 n1 d1 st1 h => ?_
  split at h
  · rename_i c
    obtain ⟨ds0, c⟩ := isMl_spec c
    obtain ⟨w, h1, l, vs0, B0, e2, h2, h3, h4⟩ := r1.lay i _ c
    subst e2
    refine ⟨.ref l, h1, ?_⟩
    refine bindES st1 (fun b z => .inl z) Lk.refl r1 h fun y u H2 s2 Af2 B2 e3 r2 l2 n2 d2 st2 h => ?_
    have l1' := l1.stay st2 d1
    obtain ⟨d, kk, ds, j, ex, ey, e, p1, p2, hj, hN⟩ := asg2_get h
    subst ex; subst ey
    obtain ⟨v', q1, m, vs, B, q2, q3, q4, q5⟩ := r2.lay i _ e
    rw [h1] at q1; cases q1
    cases q2
    have z := layL_pure p2 q4
    subst z
    have lx : Lay K H2 d v B1 := l1'
    have z := lx.emp p1
    subst z
    have hi : i < s2.length := (List.getElem?_eq_some_iff.mp e).1
    refine ⟨l, vs, kk, j, rfl, l2.1, q3, by rw [LayL.len q4]; exact hj, ?_⟩
    have st : Stp H2 (fun b => b ∈ Af2 i) (upd H2 l (.lst (vs.set j v))) (fun b => b ∈ [l]) := by
      have := Stp.wrote (H := H2) (F := fun b => b ∈ [l]) (o := .lst (vs.set j v)) List.mem_cons_self q3 (.inl ⟨_, rfl⟩)
      rw [q5]
      exact this
    have lay : Lay K (upd H2 l (.lst (vs.set j v))) (.ml (ds.set j d)) (.ref l) [l] :=
      ⟨l, _, [], rfl, upd_same, LayL.set0 j (LayL.keep st.kp q4) (Lay.keep st.kp lx), rfl⟩
    obtain ⟨rw', sw⟩ := r2.write hi h1 st lay (by simp)
    exact hN σ _ ⟨_, rw', (st1.trans st2 fun _ z => .inl z).trans sw fun _ z => .inl z, Lk.refl⟩
  · exact h.elim
def rAug : Operator → R2
  | .Add => fun x y H Q => rI0 (fun i j => .int (i + j)) x y H Q ∨ (∃ i j, x = .str i ∧ y = .str j ∧ i.length + j.length ≤ sizeLine ∧ Q (.str (i ++ j)) H)
  | .Sub => rI0 fun i j => .int (i - j)
  | .Mult => rI CMul fun i j => .int (i * j)
  | .FloorDiv => rI CDivW fun i j => .int (i / j)
  | .Mod => rI (fun _ j => 0 < j) fun i j => .int (i % j)
  | _ => fun _ _ _ _ => False
theorem iop_fdivW' {X : Cx} : OpR X (inplaceOp .FloorDiv) (rI CDivW fun i j => .int (i / j)) := opI fun i j _ _ _ _ _ hc q => by
  have h1 : (0 : Int) < j := hc.1
  exact PyProof.Rows.ifloordiv_int (by omega) (by rw [Int.fdiv_eq_ediv_of_nonneg i (by omega)]; exact q) (.inl (PyProof.noPylong_of_log2 hc.2))
theorem pip_aug {X : Cx} (op : Operator) : PIp X op (rAug op) := by
  cases op with
  | Add => exact iop_add.or iop_add_str
  | Sub => exact iop_sub
  | Mult => exact iop_mul
  | FloorDiv => exact iop_fdivW'
  | Mod => exact iop_mod
  | _ => exact fun _ _ _ _ _ _ _ _ _ _ _ _ h => h.elim
theorem ops_aug (op : Operator) {x y d : Dn.D} {v w : V} {A B : List Addr} {Q : VK} (l1 : Lay K H x v A) (l2 : Lay K H y w B) (e : augD op x y = some d) (f : ∀ u, flatD d = some u → Q u H) : rAug op v w H Q := by
  unfold augD at e
  split at e
  · split at e
    · cases e; exact .inl ⟨_, _, l1.1, l2.1, f _ rfl⟩
    · cases e; exact ⟨_, _, l1.1, l2.1, f _ rfl⟩
    · split at e
      · rename_i c
        cases e
        refine ⟨_, _, l1.1, l2.1, ?_, f _ rfl⟩
        unfold bigD at c
        simp only [Bool.or_eq_true, Bool.and_eq_true, decide_eq_true_eq] at c
        exact c
      · cases e
    · split at e
      · rename_i c
        cases e
        refine ⟨_, _, l1.1, l2.1, wide_div (b := 64) c.1 ?_ (by decide) (by decide), f _ rfl⟩
        have h1 := c.1
        have h2 := c.2
        omega
      · cases e
    · split at e
      · cases e; exact ⟨_, _, l1.1, l2.1, ‹_›, f _ rfl⟩
      · cases e
    · cases e
  · split at e
    · split at e
      · cases e; exact .inr ⟨_, _, l1.1, l2.1, ‹_›, f _ rfl⟩
      · cases e
    · cases e
  · cases e
theorem augD_flat {op : Operator} {x y d : Dn.D} (e : augD op x y = some d) : x.pure = true ∧ ∃ u, flatD d = some u := by
  unfold augD at e
  split at e
  · refine ⟨rfl, ?_⟩
    split at e
    · cases e; exact ⟨_, rfl⟩
    · cases e; exact ⟨_, rfl⟩
    · split at e <;> first | (cases e; exact ⟨_, rfl⟩) | cases e
    · split at e <;> first | (cases e; exact ⟨_, rfl⟩) | cases e
    · split at e <;> first | (cases e; exact ⟨_, rfl⟩) | cases e
    · cases e
  · refine ⟨rfl, ?_⟩
    split at e
    · split at e <;> first | (cases e; exact ⟨_, rfl⟩) | cases e
    · cases e
  · cases e
theorem s_aug {op : Operator} {i : Nat} {f : EV} (h : tS K W L (dAug op i f) D σ H) : tAug i (tE K W f) (rAug op) D σ H := by
  obtain ⟨ss, Af, r, h⟩ := h
  unfold dAug at h
  split at h
  · rename_i d e
    obtain ⟨v, h1, h2⟩ := r.lay i d e
    refine ⟨v, h1, ?_⟩
    refine bindES Stp.refl (fun _ z => z) Lk.refl r h fun y w H1 s1 Af1 B1 e1 r1 l1 n1 d1 st1 h => ?_
    unfold augX at h
    split at h
    · rename_i e2
      split at h
      · rename_i z hz
        split at h
        · exact h.elim
        · rename_i c
          have c1 : i ∉ L := fun z => c (.inl z)
          have c2 : i < s1.length := Nat.lt_of_not_le fun z => c (.inr z)
          obtain ⟨p, u0, fu⟩ := augD_flat hz
          have z0 := h2.emp p
          rw [z0] at h2
          refine ops_aug op (Lay.keep st1.kp h2) l1 hz fun u hu => ?_
          have rs := r1.set (flat_lay (K := K) (H := H1) hu) List.nodup_nil (fun a z => nomatch z) c2
          refine h _ _ ⟨_, rs, st1.sub fun b hb => .inl ((own_put hb).elim id fun z => nomatch z), fun j hj => ?_⟩
          rw [List.getElem?_set_ne (fun z => c1 (by rw [z]; exact hj))]
      · exact h.elim
    · exact h.elim
  · exact h.elim
end
end Dn

set_option Elab.async false
set_option linter.all false
set_option maxRecDepth 100000
set_option maxHeartbeats 4000000
/-! Dn11: loops: targets, what is walked, for and while. -/
namespace Dn
open PySem L2

/-! ### targets of pure values -/
inductive Tg where
  | nm (i : Nat) | tp (is : List Nat)
def set1 (L : List Nat) (i : Nat) (d : D) (ss : Sl) : Option Sl := if i ∈ L ∨ ss.length ≤ i then none else some (ss.set i (some d))
def setL (L : List Nat) : List Nat → List D → Sl → Option Sl
  | [], [], ss => some ss
  | i :: is, d :: ds, ss => match set1 L i d ss with
    | some s1 => setL L is ds s1
    | none => none
  | _, _, _ => none
def tgSet (L : List Nat) : Tg → D → Sl → Option Sl
  | .nm i, d, ss => set1 L i d ss
  | .tp is, .tup ds, ss => if ds.length = is.length then setL L is ds ss else none
  | .tp _, _, _ => none
def gMany : List Nat → TGs
  | [] => gNil
  | i :: is => gCons (gName i) (gMany is)
def tgG (K : PySem.W.Frag) : Tg → TG
  | .nm i => gName i
  | .tp is => gTup K is.length (gMany is)
section
variable {K : PySem.W.Frag} {L : List Nat} {H : Hp} {W : WX}
theorem set1_ok {i : Nat} {d : D} {ss s1 : Sl} {σ : St} {Af : Nat → List Addr} {v : V} (r : Rep K H ss σ Af) (l : Lay K H d v []) (e : set1 L i d ss = some s1) :
    Rep K H s1 (σ.set i (some v)) (put Af i []) ∧ Lk L σ (σ.set i (some v)) := by
  unfold set1 at e
  split at e
  · cases e
  · rename_i c
    cases e
    have c1 : i ∉ L := fun z => c (.inl z)
    have c2 : i < ss.length := Nat.lt_of_not_le fun z => c (.inr z)
    exact ⟨r.set l List.nodup_nil (fun a z => nomatch z) c2, fun j hj => List.getElem?_set_ne fun z => c1 (by rw [z]; exact hj)⟩
theorem setL_ok : ∀ {is : List Nat} {ds : List D} {vs : List V} {ss s1 : Sl} {σ : St} {Af : Nat → List Addr} {Q : St → Hp → Prop}, Rep K H ss σ Af → LayL K H ds vs [] → setL L is ds ss = some s1 →
    (∀ σ1 Af1, Rep K H s1 σ1 Af1 → (∀ b, Own Af1 b → Own Af b) → Lk L σ σ1 → Q σ1 H) → gMany is vs σ H Q
  | [], [], vs, ss, s1, σ, Af, Q, r, l, e, q => by
    cases e
    exact ⟨l.1, q σ Af r (fun _ z => z) Lk.refl⟩
  | [], d :: ds, vs, ss, s1, σ, Af, Q, r, l, e, q => by cases e
  | i :: is, [], vs, ss, s1, σ, Af, Q, r, l, e, q => by cases e
  | i :: is, d :: ds, vs, ss, s1, σ, Af, Q, r, l, e, q => by
    obtain ⟨v, ws, e1, l1, l2⟩ := l.uncons0
    unfold setL at e
    cases z : set1 L i d ss with
    | none => rw [z] at e; cases e
    | some s0 =>
      rw [z] at e
      obtain ⟨r1, k1⟩ := set1_ok r l1 z
      exact ⟨v, ws, e1, setL_ok r1 l2 e fun σ1 Af1 r2 o2 k2 => q σ1 Af1 r2 (fun b hb => own_clear (o2 b hb)) (k1.trans k2)⟩
theorem tg_ok {tg : Tg} {d : D} {ss s1 : Sl} {σ : St} {Af : Nat → List Addr} {v : V} {Q : St → Hp → Prop} (r : Rep K H ss σ Af) (l : Lay K H d v []) (e : tgSet L tg d ss = some s1)
    (q : ∀ σ1 Af1, Rep K H s1 σ1 Af1 → (∀ b, Own Af1 b → Own Af b) → Lk L σ σ1 → Q σ1 H) : tgG K tg v σ H Q := by
  cases tg with
  | nm i =>
    obtain ⟨r1, k1⟩ := set1_ok r l e
    exact q _ _ r1 (fun b hb => own_clear hb) k1
  | tp is =>
    cases d with
    | tup ds =>
      have e : (if ds.length = is.length then setL L is ds ss else none) = some s1 := e
      split at e
      · rename_i hl
        obtain ⟨_, a, vs, e1, h1, h2⟩ := l
        exact ⟨a, vs, e1, h1, by rw [LayL.len h2]; exact hl, setL_ok r h2 e q⟩
      · cases e
    | _ => cases e

/-! ### what is walked -/
structure ItD where
  ds : List D
  src : Option (Nat × List D)
abbrev IV := Sl → R ItD
def Src (K : PySem.W.Frag) (σ : St) (H1 : Hp) (it : ItD) (H : Hp) : Prop := match it.src with
  | none => Kp H1 H
  | some (j, es) => ∃ v B, σ[j]? = some (some v) ∧ Lay K H (.ml es) v B
def ItOk (K : PySem.W.Frag) (σ : St) (H1 : Hp) (it : ItD) (J : It) : Prop :=
  (∀ i H, Src K σ H1 it H → it.ds.length ≤ i → J.stop i H) ∧
    ∀ i H d, Src K σ H1 it H → it.ds[i]? = some d → J.go i H ∧ ∀ x H', J.yld i H x H' → Lay K H' d x [] ∧ Stp H (fun _ => False) H' (fun _ => False)
def LayI (K : PySem.W.Frag) (σ : St) (H : Hp) (it : ItD) (J : It) (B : List Addr) : Prop := B = [] ∧ ItOk K σ H it J
abbrev tI (K : PySem.W.Frag) (W : WX) (f : IV) : TI := fun σ H R => tD (LayI K σ) K W f σ H R
/-- walked over a list or tuple -/
def seqIt (x : Vx) (ss : Sl) : R ItD := match x with
  | .val (.tup ds) => .ok ⟨ds, none⟩ ss
  | .val (.lst ds) => .ok ⟨ds, none⟩ ss
  | .val (.kl ds) => .ok ⟨ds, none⟩ ss
  | .plc j => match ss[j]? with
    | some (some (.ml ds)) => if allPure ds = true then .ok ⟨ds, some (j, ds)⟩ ss else .err
    | _ => .err
  | _ => .err
def dSeqIt (f : EV) : IV := fun ss => (f ss).bind seqIt
def revIt (x : Vx) (ss : Sl) : R ItD := match x with
  | .val (.tup ds) => .ok ⟨ds.reverse, none⟩ ss
  | .val (.lst ds) => .ok ⟨ds.reverse, none⟩ ss
  | .val (.kl ds) => .ok ⟨ds.reverse, none⟩ ss
  | .plc j => match ss[j]? with
    | some (some (.ml ds)) => if allPure ds = true then .ok ⟨ds.reverse, some (j, ds)⟩ ss else .err
    | _ => .err
  | _ => .err
def dRevIt (f : EV) : IV := fun ss => (f ss).bind revIt
def rngD (lo : Int) (n : Nat) : List D := (List.range n).map fun (i : Nat) => D.int (lo + (i : Int))
def smallI (i : Int) : Bool := decide (-(2 ^ 62) ≤ i) && decide (i < 2 ^ 62)
def rngIt (xs : List Vx) (ss : Sl) : R ItD := match xs with
  | [.val (.int j)] => if smallI j = true then .ok ⟨rngD 0 j.toNat, none⟩ ss else .err
  | [.val (.int i), .val (.int j)] => if (smallI i && smallI j) = true then .ok ⟨rngD i (j - i).toNat, none⟩ ss else .err
  | _ => .err
def dRng (g : AV) : IV := fun ss => (g ss).bind rngIt
theorem stpF {H : Hp} : Stp H (fun _ => False) H (fun _ => False) := Stp.refl
theorem it_list {σ : St} {H1 : Hp} {it : ItD} {a : Addr} (h : ∀ H, Src K σ H1 it H → ∃ vs, SqL K H a vs ∧ LayL K H it.ds vs []) : ItOk K σ H1 it (Itl K a) := by
  refine ⟨fun i H s hl => ?_, fun i H d s hd => ?_⟩
  · obtain ⟨vs, h1, h2⟩ := h H s
    exact ⟨vs, h1, by rw [LayL.len h2]; exact hl⟩
  · obtain ⟨vs, h1, h2⟩ := h H s
    obtain ⟨v, q1, q2⟩ := h2.get0 hd
    refine ⟨⟨vs, v, h1, q1⟩, fun x H' y => ?_⟩
    obtain ⟨e, y⟩ := y
    subst e
    have := y vs h1
    rw [q1] at this; cases this
    exact ⟨q2, stpF⟩
theorem it_tup {σ : St} {H1 : Hp} {it : ItD} {a : Addr} (h : ∀ H, Src K σ H1 it H → ∃ vs, SqT K H a vs ∧ LayL K H it.ds vs []) : ItOk K σ H1 it (Itt K a) := by
  refine ⟨fun i H s hl => ?_, fun i H d s hd => ?_⟩
  · obtain ⟨vs, h1, h2⟩ := h H s
    exact ⟨vs, h1, by rw [LayL.len h2]; exact hl⟩
  · obtain ⟨vs, h1, h2⟩ := h H s
    obtain ⟨v, q1, q2⟩ := h2.get0 hd
    refine ⟨⟨vs, v, h1, q1⟩, fun x H' y => ?_⟩
    obtain ⟨e, y⟩ := y
    subst e
    have := y vs h1
    rw [q1] at this; cases this
    exact ⟨q2, stpF⟩
theorem rngD_get {lo : Int} {n i : Nat} {d : D} (h : (rngD lo n)[i]? = some d) : i < n ∧ d = .int (lo + (i : Int)) := by
  unfold rngD at h
  rw [List.getElem?_map] at h
  by_cases hi : i < n
  · rw [List.getElem?_range hi] at h
    exact ⟨hi, by simpa using h.symm⟩
  · rw [List.getElem?_eq_none (by simpa using hi)] at h; cases h
theorem rngD_len {lo : Int} {n : Nat} : (rngD lo n).length = n := by unfold rngD; simp
theorem it_rng {σ : St} {H1 : Hp} {lo : Int} {n : Nat} : ItOk K σ H1 ⟨rngD lo n, none⟩ (Itr lo n) := by
  refine ⟨fun i H s hl => ?_, fun i H d s hd => ?_⟩
  · have hl : (rngD lo n).length ≤ i := hl
    rw [rngD_len] at hl
    exact hl
  · obtain ⟨h1, h2⟩ := rngD_get hd
    subst h2
    refine ⟨h1, fun x H' y => ?_⟩
    obtain ⟨e, y⟩ := y
    subst e; subst y
    exact ⟨⟨rfl, rfl⟩, stpF⟩
theorem s_seqIt {σ : St} {H : Hp} {RR : It → Hp → Prop} {f : EV} (h : tI K W (dSeqIt f) σ H RR) : iList K (tE K W f) σ H RR ∨ iTup K (tE K W f) σ H RR := by
  obtain ⟨ss, Af, rp, h⟩ := h
  by_cases tup : ∃ ds s1, f ss = .ok (.val (.tup ds)) s1
  · obtain ⟨ds, s1, e⟩ := tup
    refine .inr (bindW rp h fun x v H1 s1' Af1 B1 e1 r1 l1 n1 d1 st1 h => ?_)
    rw [e] at e1
    cases e1
    have h : Wn (LayI K σ) K W σ H1 (Own Af1) (.ok ⟨ds, none⟩ s1) RR := h
    obtain ⟨z, a, vs, e2, h1, h2⟩ := l1
    refine ⟨a, e2, ⟨vs, h1⟩, Wn.done r1 h ⟨rfl, it_tup fun H2 s => ?_⟩⟩
    have s : Kp H1 H2 := s
    exact ⟨vs, s.sqT h1, LayL.keep s h2⟩
  · refine .inl (bindW rp h fun x v H1 s1' Af1 B1 e1 r1 l1 n1 d1 st1 h => ?_)
    cases x with
    | val d =>
      cases d with
      | tup ds => exact absurd ⟨ds, s1', e1⟩ tup
      | lst ds =>
        have h : Wn (LayI K σ) K W σ H1 (Own Af1) (.ok ⟨ds, none⟩ s1') RR := h
        obtain ⟨z, a, vs, e2, h1, h2⟩ := l1
        refine ⟨a, e2, ⟨vs, h1.sq⟩, Wn.done r1 h ⟨rfl, it_list fun H2 s => ?_⟩⟩
        have s : Kp H1 H2 := s
        exact ⟨vs, (s.fzL h1).sq, LayL.keep s h2⟩
      | kl ds =>
        have h : Wn (LayI K σ) K W σ H1 (Own Af1) (.ok ⟨ds, none⟩ s1') RR := h
        obtain ⟨z, a, vs, e2, h1, h2⟩ := l1
        refine ⟨a, e2, ⟨vs, h1.sq⟩, Wn.done r1 h ⟨rfl, it_list fun H2 s => ?_⟩⟩
        have s : Kp H1 H2 := s
        exact ⟨vs, (s.klL h1).sq, LayL.keep s h2⟩
      | _ => exact h.elim
    | plc j =>
      unfold seqIt at h
      dsimp only at h
      split at h
      · rename_i ds e
        split at h
        · rename_i p
          obtain ⟨z1, z2⟩ := l1
          subst z1
          obtain ⟨v', w1, a, vs, B, e2, h1, h2, h3⟩ := r1.lay j _ e
          rw [z2] at w1; cases w1
          subst e2
          refine ⟨a, rfl, ⟨vs, SqL.of h1⟩, Wn.done r1 h ⟨rfl, it_list fun H2 s => ?_⟩⟩
          obtain ⟨u, B', y1, a', vs', B'', y2, y3, y4, y5⟩ := s
          rw [z2] at y1; cases y1
          cases y2
          have q := layL_pure p y4
          subst q
          exact ⟨vs', SqL.of y3, y4⟩
        · exact h.elim
      · exact h.elim
theorem rev_get {α : Type} {xs : List α} {i : Nat} (h : i < xs.length) : xs.reverse[i]? = xs[xs.length - 1 - i]? := List.getElem?_reverse h
theorem s_revIt {σ : St} {H : Hp} {RR : It → Hp → Prop} {f : EV} (h : tI K W (dRevIt f) σ H RR) : RT.iRevA K (tE K W f) σ H RR := by
  obtain ⟨ss, Af, rp, h⟩ := h
  refine bindW rp h fun x v H1 s1' Af1 B1 e1 r1 l1 n1 d1 st1 h => ?_
  cases x with
  | plc j =>
      unfold revIt at h
      dsimp only at h
      split at h
      · rename_i ds e
        split at h
        · rename_i p
          obtain ⟨z1, z2⟩ := l1
          subst z1
          obtain ⟨v', w1, a, vs, B, e2, h1, h2, h3⟩ := r1.lay j _ e
          rw [z2] at w1; cases w1
          subst e2
          have hl := LayL.len h2
          have src : ∀ {H}, Src K σ H1 ⟨ds.reverse, some (j, ds)⟩ H → ∃ vs', SqL K H a vs' ∧ LayL K H ds vs' [] := fun {H} s => by
            obtain ⟨u, B', y1, a', vs', B'', y2, y3, y4, y5⟩ := s
            rw [z2] at y1; cases y1
            cases y2
            have q := layL_pure p y4
            subst q
            exact ⟨vs', SqL.of y3, y4⟩
          refine ⟨a, vs, rfl, .inl ⟨SqL.of h1, Wn.done r1 h ⟨rfl, fun i H s hi => ?_, fun i H d s hd => ?_⟩⟩⟩
          · have hi : ds.reverse.length ≤ i := hi
            rw [List.length_reverse] at hi
            exact hl ▸ hi
          · obtain ⟨vs', q0, q3⟩ := src s
            have hl' := LayL.len q3
            have hi : i < ds.length := by have := (List.getElem?_eq_some_iff.mp hd).1; simpa using this
            have hd : ds.reverse[i]? = some d := hd
            rw [rev_get hi] at hd
            obtain ⟨u, q1, q2⟩ := q3.get0 hd
            have hll : vs.length = vs'.length := by omega
            rw [← hl] at q1
            refine ⟨⟨hl ▸ hi, vs', u, q0, q1⟩, fun x H' y => ?_⟩
            obtain ⟨e, y⟩ := y
            subst e
            have := y vs' q0
            rw [q1] at this; cases this
            exact ⟨q2, stpF⟩
        · exact h.elim
      · exact h.elim
  | val d =>
    have fin : ∀ {ds : List D} {vs : List V} {a : Addr}, LayL K H1 ds vs [] → (∀ H2, Kp H1 H2 → SqL K H2 a vs) → ItOk K σ H1 ⟨ds.reverse, none⟩ (Itv K a vs.length) := fun {ds vs a} l hs => by
      have hl := LayL.len l
      refine ⟨fun i H s hi => ?_, fun i H d s hd => ?_⟩
      · have hi : ds.reverse.length ≤ i := hi
        rw [List.length_reverse] at hi
        exact hl ▸ hi
      · have s : Kp H1 H := s
        have hi : i < ds.length := by have := (List.getElem?_eq_some_iff.mp hd).1; simpa using this
        have hd : ds.reverse[i]? = some d := hd
        rw [rev_get hi] at hd
        obtain ⟨u, q1, q2⟩ := (LayL.keep s l).get0 hd
        rw [← hl] at q1
        refine ⟨⟨hl ▸ hi, vs, u, hs H s, q1⟩, fun x H' y => ?_⟩
        obtain ⟨e, y⟩ := y
        subst e
        have := y vs (hs _ s)
        rw [q1] at this; cases this
        exact ⟨q2, stpF⟩
    have finT : ∀ {ds : List D} {vs : List V} {a : Addr}, LayL K H1 ds vs [] → (∀ H2, Kp H1 H2 → SqT K H2 a vs) → ItOk K σ H1 ⟨ds.reverse, none⟩ (RT.ItvT K a vs.length) := fun {ds vs a} l hs => by
      have hl := LayL.len l
      refine ⟨fun i H s hi => ?_, fun i H d s hd => ?_⟩
      · have hi : ds.reverse.length ≤ i := hi
        rw [List.length_reverse] at hi
        exact hl ▸ hi
      · have s : Kp H1 H := s
        have hi : i < ds.length := by have := (List.getElem?_eq_some_iff.mp hd).1; simpa using this
        have hd : ds.reverse[i]? = some d := hd
        rw [rev_get hi] at hd
        obtain ⟨u, q1, q2⟩ := (LayL.keep s l).get0 hd
        rw [← hl] at q1
        refine ⟨⟨hl ▸ hi, vs, u, hs H s, q1⟩, fun x H' y => ?_⟩
        obtain ⟨e, y⟩ := y
        subst e
        have := y vs (hs _ s)
        rw [q1] at this; cases this
        exact ⟨q2, stpF⟩
    cases d with
    | tup ds =>
      have h : Wn (LayI K σ) K W σ H1 (Own Af1) (.ok ⟨ds.reverse, none⟩ s1') RR := h
      obtain ⟨z, a, vs, e2, h1, h2⟩ := l1
      exact ⟨a, vs, e2, .inr ⟨h1, Wn.done r1 h ⟨rfl, finT h2 fun _ s => s.sqT h1⟩⟩⟩
    | lst ds =>
      have h : Wn (LayI K σ) K W σ H1 (Own Af1) (.ok ⟨ds.reverse, none⟩ s1') RR := h
      obtain ⟨z, a, vs, e2, h1, h2⟩ := l1
      exact ⟨a, vs, e2, .inl ⟨h1.sq, Wn.done r1 h ⟨rfl, fin h2 fun _ s => (s.fzL h1).sq⟩⟩⟩
    | kl ds =>
      have h : Wn (LayI K σ) K W σ H1 (Own Af1) (.ok ⟨ds.reverse, none⟩ s1') RR := h
      obtain ⟨z, a, vs, e2, h1, h2⟩ := l1
      exact ⟨a, vs, e2, .inl ⟨h1.sq, Wn.done r1 h ⟨rfl, fin h2 fun _ s => (s.klL h1).sq⟩⟩⟩
    | _ => exact h.elim
theorem layXL_1 {σ : St} {x : Vx} {vs : List V} {B : List Addr} (l : LayXL K σ H [x] vs B) : ∃ v, vs = [v] ∧ LayX K σ H x v B := by
  obtain ⟨v, ws, B1, B2, e1, e2, l1, z1, z2⟩ := l
  subst z1; subst z2
  exact ⟨v, e1, by rw [e2, List.append_nil]; exact l1⟩
theorem layXL_2 {σ : St} {x y : Vx} {vs : List V} {B : List Addr} (l : LayXL K σ H [x, y] vs B) : ∃ v w B1 B2, vs = [v, w] ∧ LayX K σ H x v B1 ∧ LayX K σ H y w B2 := by
  obtain ⟨v, ws, B1, B2, e1, e2, l1, l2⟩ := l
  obtain ⟨w, e3, l3⟩ := layXL_1 l2
  subst e3
  exact ⟨v, w, B1, B2, e1, l1, l3⟩
theorem small_of {i : Int} (h : smallI i = true) : -(2 ^ 62) ≤ i ∧ i < 2 ^ 62 := by
  unfold smallI at h
  obtain ⟨h1, h2⟩ := Bool.and_eq_true_iff.mp h
  exact ⟨of_decide_eq_true h1, of_decide_eq_true h2⟩
theorem s_rng1 {σ : St} {H : Hp} {RR : It → Hp → Prop} {f : EV} (h : tI K W (dRng (foldA [f])) σ H RR) : iRng1 (tA K W (foldA [f])) σ H RR := by
  obtain ⟨ss, Af, rp, h⟩ := h
  refine bindW rp h fun x v H1 s1' Af1 B1 e1 r1 l1 n1 d1 st1 h => ?_
  unfold rngIt at h
  split at h
  · rename_i j
    split at h
    · rename_i c
      obtain ⟨c1, c2⟩ := small_of c
      obtain ⟨u, q1, q2⟩ := layXL_1 l1
      have q2 : u = .int j ∧ _ := q2
      exact ⟨j, by rw [q1, q2.1], c1, c2, Wn.done r1 h ⟨rfl, it_rng⟩⟩
    · exact h.elim
  · rename_i i j
    exfalso
    -- one expression gives one value
    have : (foldA [f] ss) = (f ss).bind fun x s1 => .ok [x] s1 := by
      show (f ss).bind _ = _
      cases f ss <;> rfl
    rw [this] at e1
    cases q : f ss with
    | err => rw [q] at e1; cases e1
    | exc e s => rw [q] at e1; cases e1
    | ok x s => rw [q] at e1; cases e1
  · exact h.elim
theorem s_rng2 {σ : St} {H : Hp} {RR : It → Hp → Prop} {f g : EV} (h : tI K W (dRng (foldA [f, g])) σ H RR) : iRng2 (tA K W (foldA [f, g])) σ H RR := by
  obtain ⟨ss, Af, rp, h⟩ := h
  refine bindW rp h fun x v H1 s1' Af1 B1 e1 r1 l1 n1 d1 st1 h => ?_
  unfold rngIt at h
  split at h
  · rename_i j
    exfalso
    have : (foldA [f, g] ss) = (f ss).bind fun x s1 => (g s1).bind fun y s2 => .ok [x, y] s2 := by
      show (f ss).bind _ = _
      cases f ss with
      | err => rfl
      | exc e s => rfl
      | ok x s =>
        show R.bind ((g s).bind _) _ = (g s).bind _
        cases g s <;> rfl
    rw [this] at e1
    cases q : f ss with
    | err => rw [q] at e1; cases e1
    | exc e s => rw [q] at e1; cases e1
    | ok x s =>
      rw [q] at e1
      dsimp only [R.bind_ok] at e1
      cases q2 : g s with
      | err => rw [q2] at e1; cases e1
      | exc e s => rw [q2] at e1; cases e1
      | ok y s => rw [q2] at e1; cases e1
  · rename_i i j
    split at h
    · rename_i c
      obtain ⟨c, c'⟩ := Bool.and_eq_true_iff.mp c
      obtain ⟨c1, c2⟩ := small_of c
      obtain ⟨c3, c4⟩ := small_of c'
      obtain ⟨u, w, C1, C2, q1, q2, q3⟩ := layXL_2 l1
      have q2 : u = .int i ∧ _ := q2
      have q3 : w = .int j ∧ _ := q3
      exact ⟨i, j, by rw [q1, q2.1, q3.1], ⟨c1, c2, c3, c4⟩, Wn.done r1 h ⟨rfl, it_rng⟩⟩
    · exact h.elim
  · exact h.elim

/-! ### for -/
open Classical in
noncomputable def srcOk (it : ItD) (ss : Sl) : Bool := match it.src with
  | none => true
  | some (j, es) => if ss[j]? = some (some (.ml es)) then true else false
def lkOf (L : List Nat) (it : ItD) : List Nat := match it.src with
  | none => L
  | some (j, _) => j :: L
noncomputable def forGo (tg : Tg) (g : SV) (it : ItD) (L : List Nat) : List D → Sl → RS
  | [], ss => if srcOk it ss = true then .nx ss else .err
  | d :: r, ss => if srcOk it ss = true then match tgSet L tg d ss with
      | some s1 => match g L s1 with
        | .nx s2 => forGo tg g it L r s2
        | .ct s2 => forGo tg g it L r s2
        | .bk s2 => .nx s2
        | o => o
      | none => .err
    else .err
noncomputable def dFor (f : IV) (tg : Tg) (g : SV) : SV := fun L ss => (f ss).toS fun it s1 => forGo tg g it (lkOf L it) it.ds s1
theorem src_of {σ σ1 : St} {H H1 : Hp} {it : ItD} {ss : Sl} {Af : Nat → List Addr} (r : Rep K H ss σ1 Af) (c : srcOk it ss = true) (s : Kp H1 H) (lk : Lk (lkOf L it) σ σ1) : Src K σ H1 it H := by
  unfold srcOk at c
  unfold Src
  unfold lkOf at lk
  cases q : it.src with
  | none => exact s
  | some je =>
    obtain ⟨j, es⟩ := je
    rw [q] at c lk
    dsimp only at c lk ⊢
    split at c
    · rename_i e
      obtain ⟨v, h1, h2⟩ := r.lay j _ e
      exact ⟨v, Af j, by rw [← lk j List.mem_cons_self]; exact h1, h2⟩
    · cases c
theorem lk_sub {σ σ1 : St} {it : ItD} (h : Lk (lkOf L it) σ σ1) : Lk L σ σ1 := fun i hi => h i (by
  unfold lkOf
  cases it.src with
  | none => exact hi
  | some je => exact List.mem_cons_of_mem _ hi)
theorem s_for {σ : St} {H : Hp} {Z : Ends} {f : IV} {tg : Tg} {g : SV} (h : tS K W L (dFor f tg g) Z σ H) : ∃ L', tFor (tI K W f) (tgG K tg) (tS K W L' g) Z σ H := by
  obtain ⟨ss, Af, rp, h⟩ := h
  unfold dFor at h
  cases e : f ss with
  | err => rw [e] at h; exact h.elim
  | exc x s1 =>
    rw [e] at h
    refine ⟨L, ⟨ss, Af, rp, ?_⟩⟩
    rw [e]
    exact fun cls d H2 ⟨Af2, r2, x2, st2⟩ => h cls d σ H2 ⟨Af2, r2, x2, st2, Lk.refl⟩
  | ok it s1 =>
    rw [e] at h
    refine ⟨lkOf L it, ss, Af, rp, ?_⟩
    rw [e]
    rintro J H1 ⟨Af1, B1, r1, ⟨z, ok⟩, _, _, st1⟩
    subst z
    have h : WnS K L σ H (Own Af) W (forGo tg g it (lkOf L it) it.ds s1) Z := h
    refine ⟨fun i m σ' H' => m + i = it.ds.length ∧ ∃ ss' Af', Rep K H' ss' σ' Af' ∧ Stp H (Own Af) H' (Own Af') ∧ Kp H1 H' ∧ Lk (lkOf L it) σ σ' ∧ WnS K L σ H (Own Af) W (forGo tg g it (lkOf L it) (it.ds.drop i) ss') Z,
      ⟨it.ds.length, rfl, s1, Af1, r1, st1.sub fun b hb => .inl hb, Kp.refl _, Lk.refl, by rw [List.drop_zero]; exact h⟩, ?_⟩
    rintro i m σ' H' ⟨hm, ss', Af', r', st', kp', lk', h'⟩
    by_cases hi : i < it.ds.length
    · right
      have hd : it.ds.drop i = it.ds[i] :: it.ds.drop (i + 1) := List.drop_eq_getElem_cons hi
      rw [hd] at h'
      unfold forGo at h'
      split at h'
      rotate_left
      · exact h'.elim
      rename_i c
      have hs : Src K σ H1 it H' := src_of r' c kp' lk'
      obtain ⟨hgo, hy⟩ := ok.2 i H' it.ds[i] hs (List.getElem?_eq_getElem hi)
      refine ⟨hgo, fun σ2 H2 => ∃ m', m' < m ∧ m' + (i + 1) = it.ds.length ∧ ∃ ss2 Af2, Rep K H2 ss2 σ2 Af2 ∧ Stp H (Own Af) H2 (Own Af2) ∧ Kp H1 H2 ∧ Lk (lkOf L it) σ σ2 ∧ WnS K L σ H (Own Af) W (forGo tg g it (lkOf L it) (it.ds.drop (i + 1)) ss2) Z,
        fun σ2 H2 ⟨m', a, b⟩ => ⟨m', a, b⟩, fun x H2 y => ?_⟩
      obtain ⟨lx, sx⟩ := hy x H2 y
      have r2 : Rep K H2 ss' σ' Af' := r'.step sx fun _ _ z => z
      have sx' : Stp H' (Own Af') H2 (Own Af') := ⟨sx.kp, fun b o _ e => sx.keep b o id e, fun b hb => .inl hb⟩
      cases q : tgSet (lkOf L it) tg it.ds[i] ss' with
      | none => rw [q] at h'; exact h'.elim
      | some s2 =>
        rw [q] at h'
        dsimp only at h'
        refine tg_ok r2 lx q fun σ3 Af3 r3 o3 k3 => ?_
        have st3 : Stp H (Own Af) H2 (Own Af3) := (st'.trans sx' fun _ z => z).sub fun b hb => o3 b hb
        have lk3 : Lk (lkOf L it) σ σ3 := lk'.trans k3
        refine ⟨s2, Af3, r3, ?_⟩
        have nxt : ∀ {s4 : Sl} {σ4 : St} {H4 : Hp}, WnS K L σ H (Own Af) W (forGo tg g it (lkOf L it) (it.ds.drop (i + 1)) s4) Z → GotS K (lkOf L it) σ3 H2 (Own Af3) s4 σ4 H4 →
            ∃ m', m' < m ∧ m' + (i + 1) = it.ds.length ∧ ∃ ss2 Af2, Rep K H4 ss2 σ4 Af2 ∧ Stp H (Own Af) H4 (Own Af2) ∧ Kp H1 H4 ∧ Lk (lkOf L it) σ σ4 ∧ WnS K L σ H (Own Af) W (forGo tg g it (lkOf L it) (it.ds.drop (i + 1)) ss2) Z := fun {s4 σ4 H4} w ⟨Af4, r4, st4, lk4⟩ =>
          ⟨m - 1, by omega, by omega, s4, Af4, r4, st3.trans st4 fun _ z => z, (kp'.trans sx.kp).trans st4.kp, lk3.trans lk4, w⟩
        cases q2 : g (lkOf L it) s2 with
        | err => rw [q2] at h'; exact h'
        | nx s4 => rw [q2] at h'; exact fun σ4 H4 g4 => nxt h' g4
        | ct s4 => rw [q2] at h'; exact fun σ4 H4 g4 => nxt h' g4
        | bk s4 => rw [q2] at h'; exact fun σ4 H4 ⟨Af4, r4, st4, lk4⟩ => h' σ4 H4 ⟨Af4, r4, st3.trans st4 fun _ z => z, lk_sub (lk3.trans lk4)⟩
        | rt d s4 => rw [q2] at h'; exact fun v H4 ⟨σ4, Af4, B4, r4, l4, n4, d4, st4, lk4⟩ => h' v H4 ⟨σ4, Af4, B4, r4, l4, n4, d4, st3.trans st4 fun _ z => z, lk_sub (lk3.trans lk4)⟩
        | exc x s4 => rw [q2] at h'; exact fun cls u σ4 H4 ⟨Af4, r4, x4, st4, lk4⟩ => h' cls u σ4 H4 ⟨Af4, r4, x4, st3.trans st4 fun _ z => z, lk_sub (lk3.trans lk4)⟩
    · left
      have hd : it.ds.drop i = [] := List.drop_eq_nil_of_le (Nat.le_of_not_lt hi)
      rw [hd] at h'
      unfold forGo at h'
      split at h'
      · rename_i c
        have hs : Src K σ H1 it H' := src_of r' c kp' lk'
        exact ⟨ok.1 i H' hs (Nat.le_of_not_lt hi), h' σ' H' ⟨Af', r', st', lk_sub lk'⟩⟩
      · exact h'.elim

/-! ### while -/
def whGo (t : TV) (g : SV) (L : List Nat) : Nat → Sl → RS
  | 0, _ => .err
  | n + 1, ss => (t ss).toS fun c s1 => if c = true then match g L s1 with
      | .nx s2 => whGo t g L n s2
      | .ct s2 => whGo t g L n s2
      | .bk s2 => .nx s2
      | o => o
    else .nx s1
open Classical in
noncomputable def dWhile (t : TV) (g : SV) : SV := fun L ss => if h : ∃ n, whGo t g L n ss ≠ .err then whGo t g L (choose h) ss else .err
theorem wh_mono {t : TV} {g : SV} {L : List Nat} : ∀ {n m : Nat} {ss : Sl}, whGo t g L n ss ≠ .err → n ≤ m → whGo t g L m ss = whGo t g L n ss
  | 0, _, ss, h, _ => absurd rfl h
  | n + 1, 0, ss, h, hm => absurd hm (Nat.not_succ_le_zero _)
  | n + 1, m + 1, ss, h, hm => by
    have hm' : n ≤ m := Nat.le_of_succ_le_succ hm
    unfold whGo at h ⊢
    cases q : t ss with
    | err => rfl
    | exc e s => rfl
    | ok c s1 =>
      rw [q] at h
      dsimp only [R.toS_ok] at h ⊢
      cases c with
      | false => rfl
      | true =>
        rw [if_pos rfl] at h ⊢
        rw [if_pos rfl]
        cases q2 : g L s1 with
        | nx s2 => rw [q2] at h; exact wh_mono h hm'
        | ct s2 => rw [q2] at h; exact wh_mono h hm'
        | _ => rfl
theorem dWhile_eq {t : TV} {g : SV} {L : List Nat} {n : Nat} {ss : Sl} {r : RS} (h : whGo t g L n ss = r) (hr : r ≠ .err) : dWhile t g L ss = r := by
  have hn : whGo t g L n ss ≠ .err := by rw [h]; exact hr
  have ex : ∃ n, whGo t g L n ss ≠ .err := ⟨n, hn⟩
  unfold dWhile
  rw [dif_pos ex]
  have hc := Classical.choose_spec ex
  rcases Nat.le_total n (Classical.choose ex) with q | q
  · rw [wh_mono hn q, h]
  · rw [← wh_mono hc q, h]
theorem s_while {σ : St} {H : Hp} {Z : Ends} {t : TV} {g : SV} (h : tS K W L (dWhile t g) Z σ H) : tWhile (tT K W t) (tS K W L g) Z σ H := by
  obtain ⟨ss, Af, rp, h⟩ := h
  unfold dWhile at h
  split at h
  rotate_left
  · exact h.elim
  rename_i ex
  generalize Classical.choose ex = n at h
  refine ⟨fun m σ' H' => ∃ ss' Af', Rep K H' ss' σ' Af' ∧ WnS K L σ' H' (Own Af') W (whGo t g L m ss') Z, ⟨n, ss, Af, rp, h⟩, ?_⟩
  rintro m σ' H' ⟨ss', Af', r', h'⟩
  cases m with
  | zero => exact h'.elim
  | succ m =>
    unfold whGo at h'
    refine bindES Stp.refl (fun _ z => z) Lk.refl r' h' fun x v H1 s1 Af1 B1 e1 r1 l1 n1 d1 st1 h' => ?_
    obtain ⟨q, _⟩ := l1
    subst q
    have h' := h'.rebase (Af1 := Af1) st1 (fun b z => .inl z) (σ1 := σ') Lk.refl
    cases v with
    | false =>
      rw [if_neg Bool.false_ne_true] at h' ⊢
      exact h' σ' H1 ⟨Af1, r1, Stp.refl, Lk.refl⟩
    | true =>
      rw [if_pos rfl] at h' ⊢
      refine ⟨fun σ2 H2 => ∃ ss2 Af2, Rep K H2 ss2 σ2 Af2 ∧ WnS K L σ2 H2 (Own Af2) W (whGo t g L m ss2) Z, fun σ2 H2 q => ⟨m, Nat.lt_succ_self _, q⟩, s1, Af1, r1, ?_⟩
      cases q2 : g L s1 with
      | err => rw [q2] at h'; exact h'
      | nx s4 => rw [q2] at h'; exact fun σ4 H4 ⟨Af4, r4, st4, lk4⟩ => ⟨s4, Af4, r4, h'.rebase st4 (fun _ z => z) lk4⟩
      | ct s4 => rw [q2] at h'; exact fun σ4 H4 ⟨Af4, r4, st4, lk4⟩ => ⟨s4, Af4, r4, h'.rebase st4 (fun _ z => z) lk4⟩
      | bk s4 => rw [q2] at h'; exact h'
      | rt d s4 => rw [q2] at h'; exact h'
      | exc x s4 => rw [q2] at h'; exact h'
end
end Dn

set_option Elab.async false
set_option linter.all false
set_option maxRecDepth 100000
set_option maxHeartbeats 4000000
/-! Dn12: the denotation of statements, and that it is sound. -/
namespace Dn
open PySem L2

def isComp : Expr → Bool
  | .ListComp _ _ _ _ => true
  | .SetComp _ _ _ _ => true
  | .DictComp _ _ _ _ _ => true
  | _ => false
theorem swap_no {e : Expr} {t : Option Expr} {l : Nat} {env : Env} (h : isComp e = false) : swapsWith e t l env = pure false := by
  cases e <;> first | rfl | cases h
theorem swap_sole {ts : List Expr} {e : Expr} {l : Nat} {env : Env} (h : isComp e = false) : swapsWithSole ts e l env = pure false := by
  unfold swapsWithSole
  split
  · exact swap_no h
  · rfl
def Cc.stS (C : Cc) (x : Str) : Option Nat := match C.sc.names.lookup x with
  | some .local => C.N.findIdx? fun y => decide (y = x)
  | some .cell => C.N.findIdx? fun y => decide (y = x)
  | _ => none
def namesOf (C : Cc) : List Expr → Option (List Nat)
  | [] => some []
  | .Name x _ :: es => match C.stS x, namesOf C es with
    | some i, some is => some (i :: is)
    | _, _ => none
  | _ => none
def tgOf (C : Cc) : Expr → Option Tg
  | .Name x _ => (C.stS x).map .nm
  | .Tuple es _ _ => (namesOf C es).map .tp
  | _ => none
def dIt (C : Cc) : Expr → IV
  | .Call (.Name f p) [a] [] q => if f = "range" ∧ C.glob f = true ∧ notStar a = true then dRng (foldA [(dn C a).1])
      else if f = "reversed" ∧ C.glob f = true ∧ notStar a = true then dRevIt (dn C a).1
      else dSeqIt (dFrz (dn C (.Call (.Name f p) [a] [] q)).1)
  | .Call (.Name f p) [a, b] [] q => if f = "range" ∧ C.glob f = true ∧ notStar a = true ∧ notStar b = true then dRng (foldA [(dn C a).1, (dn C b).1])
      else dSeqIt (dFrz (dn C (.Call (.Name f p) [a, b] [] q)).1)
  | .Set _ _ _ => fun _ => .err
  | e => dSeqIt (dFrz (dn C e).1)
/-- unpacking -/
def unpX (L : List Nat) (tg : Tg) (x : Vx) (ss : Sl) : RS := match x with
  | .val d => if d.pure = true then match tgSet L tg d ss with
      | some s1 => .nx s1
      | none => .err
    else .err
  | _ => .err
def dUnp (tg : Tg) (f : EV) : SV := fun L ss => (f ss).toS (unpX L tg)
/-- is this the kind of a pair whose stores are turned? some true: turned; some false: plain; none: not told -/
def turned (C : Cc) (ts vs : List Expr) : Option Bool :=
  if ts.length = 2 ∨ ts.length = 3 then
    if vs.all (foldedForSure 8) = true then some false
    else if vs.all (constantsAlone 8) = true then none
    else match ts with
      | [.Name x p, .Name y q] => if C.sc.names.lookup x = some .local ∧ C.sc.names.lookup y = some .local ∧ x ≠ y ∧ p.line = q.line then some true else none
      | [.Name x p, .Name y q, .Name z r] => if C.sc.names.lookup x = some .local ∧ C.sc.names.lookup y = some .local ∧ C.sc.names.lookup z = some .local ∧ x ≠ y ∧ x ≠ z ∧ y ≠ z ∧ p.line = q.line ∧ p.line = r.line then some true else none
      | _ => none
  else some false
def asgE (C : Cc) (t : Expr) (e : Expr) (f : EV) (fs : List EV) (k : EV) : SV :=
  if isComp e = true then dErrS else match t with
  | .Name x _ => match C.stS x with
    | some i => dSet i f
    | none => dErrS
  | .Subscript (.Name x _) b _ => match C.slot x with
    | some i => if okName x = true ∧ isSlice b = false then dSetIx i k f else dErrS
    | none => dErrS
  | .Tuple ts kt pt => match tgOf C (.Tuple ts kt pt) with
    | some (.tp is) => match e with
      | .Tuple vs _ _ => if vs.all notStar = true ∧ vs.length = ts.length ∧ is.Nodup then match turned C ts vs with
          | some true => dPar is (foldA fs)
          | some false => dUnp (.tp is) f
          | none => dErrS
        else dErrS
      | _ => dUnp (.tp is) f
    | _ => dErrS
  | _ => dErrS
def tupOf : Expr → List Expr
  | .Tuple vs _ _ => vs
  | _ => []
def ixOf : Expr → Expr
  | .Subscript _ b _ => b
  | e => e

mutual
noncomputable def dS (C : Cc) : Stmt → SV
  | .Pass _ => dPass
  | .Break _ => dBreak
  | .Continue _ => dCont
  | .Expr e _ => if isComp e = true then dErrS else dDrop (dn C e).1
  | .Return none _ => dRetN
  | .Return (some e) _ => dRet (dn C e).1
  | .If c a b _ => dIf (dn C c).2 (dSs C a) (dSs C b)
  | .Assign [t] e _ => asgE C t e (dn C e).1 ((dnL C (tupOf e)).map (·.1)) (dn C (ixOf t)).1
  | .AugAssign (.Name x _) op e _ => match C.stS x with
    | some i => dAug op i (dn C e).1
    | none => dErrS
  | .While c b [] _ => dWhile (dn C c).2 (dSs C b)
  | .For t it b [] _ => match tgOf C t with
    | some tg => dFor (dIt C it) tg (dSs C b)
    | none => dErrS
  | _ => dErrS
noncomputable def dSs (C : Cc) : List Stmt → SV
  | [] => dPass
  | [s] => dS C s
  | s :: ss => dSeq (dS C s) (dSs C ss)
end

structure GoodS (C : Cc) (X : Cx) (W : WX) : Prop extends Good C X W where
  po : PassesOwn (model X.prog X.w) X.A X.env X.xe
  fnT : ∀ x, X.fn x = true
  kd : C.sc.kind = .function
  rng : X.mg "range" = none
  rev : X.mg "reversed" = none

section
variable {X : Cx} {W : WX} {C : Cc} {L : List Nat}
theorem _root_.L2.PS.of {st : Stmt} {t' : TS} (h : ∀ D σ H, t' D σ H → ∃ t, PS X st t ∧ t D σ H) : PS X st t' := ⟨fun pins s σ H D I hw => by
  obtain ⟨t, a, b⟩ := h D σ H hw
  exact a.run pins s σ H D I b⟩
theorem _root_.L2.PSs.of {st : List Stmt} {t' : TS} (h : ∀ D σ H, t' D σ H → ∃ t, PSs X st t ∧ t D σ H) : PSs X st t' := ⟨fun pins s σ H D I hw => by
  obtain ⟨t, a, b⟩ := h D σ H hw
  exact a.run pins s σ H D I b⟩
theorem _root_.L2.PI.of {tg it : Expr} {t' : TI} (h : ∀ σ H R, t' σ H R → ∃ t, PI X tg it t ∧ t σ H R) : PI X tg it t' := ⟨fun pins s σ H R I hw => by
  obtain ⟨t, a, b⟩ := h σ H R hw
  exact a.run pins s σ H R I b⟩
theorem _root_.L2.PS.impD {st : Stmt} {t t' : TS} (a : PS X st t) (h : ∀ D σ H, t' D σ H → t D σ H) : PS X st t' := .of fun D σ H q => ⟨t, a, h D σ H q⟩
theorem ps_errD {st : Stmt} : PS X st (tS X.K W L dErrS) := ⟨fun pins s σ H D I h => by obtain ⟨_, _, _, h⟩ := h; exact h.elim⟩
theorem stS_loc (G : Good C X W) {x : Str} {i : Nat} (h : C.stS x = some i) : X.N[i]? = some x ∧ L2.Loc X.env.scope x := by
  have h2 : C.slot x = some i := by
    unfold Cc.stS at h
    unfold Cc.slot
    split at h
    · rename_i q; rw [q]; exact h
    · rename_i q; rw [q]; exact h
    · cases h
  refine ⟨(slot_vis G h2).1, ?_⟩
  unfold L2.Loc
  rw [G.sc]
  unfold Cc.stS at h
  split at h
  · exact .inl ‹_›
  · exact .inr ‹_›
  · cases h
theorem pg_nm (G : GoodS C X W) {x : Str} {i : Nat} {pos : Pos} (h : C.stS x = some i) : PG X (.Name x pos) (gName i) := by
  obtain ⟨h1, h2⟩ := stS_loc G.toGood h
  exact pg_name (G.N ▸ G.nd) h1 h2 (.inl (G.fnT x))
theorem pgs_nm (G : GoodS C X W) : ∀ {es : List Expr} {is : List Nat}, namesOf C es = some is → PGs X es (gMany is) ∧ (assignEach es X.env).length = is.length ∧ (assignEach es X.env).findIdx? (·.1) = none
  | [], is, h => by
    cases h
    exact ⟨pgs_nil, rfl, rfl⟩
  | e :: es, is, h => by
    cases e with
    | Name x p =>
      unfold namesOf at h
      split at h
      · rename_i i is' h1 h2
        cases h
        obtain ⟨a, b, c⟩ := pgs_nm G h2
        refine ⟨pgs_cons (pg_nm G h1) a, ?_, ?_⟩
        · show (assignEach es X.env).length + 1 = is'.length + 1
          rw [b]
        · show List.findIdx? (fun y : Bool × (Value → Sem Unit) => y.1) ((false, _) :: assignEach es X.env) = none
          rw [List.findIdx?_cons, c]
          rfl
      · cases h
    | _ => cases h
theorem pg_tg (G : GoodS C X W) {t : Expr} {tg : Tg} (h : tgOf C t = some tg) : PG X t (tgG X.K tg) := by
  unfold tgOf at h
  split at h
  · rename_i x p
    cases q : C.stS x with
    | none => rw [q] at h; cases h
    | some i => rw [q] at h; cases h; exact pg_nm G q
  · rename_i es k p
    cases q : namesOf C es with
    | none => rw [q] at h; cases h
    | some is =>
      rw [q] at h; cases h
      obtain ⟨a, b, c⟩ := pgs_nm G q
      exact pg_tup G.calm a b c
  · cases h
theorem s_unp {tg : Tg} {f : EV} {D : Ends} {σ : St} {H : Hp} (h : tS X.K W L (dUnp tg f) D σ H) : tAsg (tE X.K W f) (tgG X.K tg) D σ H := by
  obtain ⟨ss, Af, r, h⟩ := h
  refine bindES Stp.refl (fun _ z => z) Lk.refl r h fun x v H1 s1 Af1 B1 e1 r1 l1 n1 d1 st1 h => ?_
  unfold unpX at h
  split at h
  · rename_i d
    split at h
    · rename_i p
      split at h
      · rename_i s2 e2
        have z := (show Lay X.K H1 d v B1 from l1).emp p
        subst z
        exact tg_ok r1 l1 e2 fun σ1 Af1 r2 o2 k2 => h σ1 H1 ⟨_, r2, st1.sub fun b hb => .inl (o2 b hb), k2⟩
      · exact h.elim
    · exact h.elim
  · exact h.elim

/-! ### pairs -/
theorem bk_fun (G : GoodS C X W) : X.env.blockKind = .function := by
  unfold Env.blockKind
  rw [G.sc, G.kd]; rfl
theorem star_any : ∀ {vs : List Expr}, vs.all notStar = true → (vs.any fun | .Starred .. => true | _ => false) = false
  | [], _ => rfl
  | v :: vs, h => by
    obtain ⟨h1, h2⟩ := all_cons h
    rw [List.any_cons, star_any h2]
    cases v <;> first | rfl | cases h1
theorem turned_no (G : GoodS C X W) {ts vs : List Expr} {kt k2 : Nat} {pt p2 : Pos} (h : turned C ts vs = some false) (hs : vs.all notStar = true) : swappedStores [.Tuple ts kt pt] (.Tuple vs k2 p2) X.env = pure none := by
  unfold turned at h
  unfold swappedStores
  by_cases c : ts.length = 2 ∨ ts.length = 3
  · rw [if_pos c] at h
    by_cases f : vs.all (foldedForSure 8) = true
    · dsimp only
      repeat' first | rfl | (rw [if_pos f]) | split
    · rw [if_neg f] at h
      split at h
      · cases h
      · split at h <;> first | cases h | (split at h <;> cases h)
  · have c2 : (!(ts.length == 2 || ts.length == 3)) = true := by
      cases q1 : ts.length == 2 <;> cases q2 : ts.length == 3 <;> first | rfl | (exfalso; apply c; simp_all)
    dsimp only
    rw [if_pos (by rw [c2]; rfl)]
theorem turned_2 (G : GoodS C X W) {x y : Str} {p q : Pos} {vs : List Expr} {kt k2 : Nat} {pt p2 : Pos} (h : turned C [.Name x p, .Name y q] vs = some true) (hs : vs.all notStar = true) (hl : vs.length = 2) :
    C.sc.names.lookup x = some .local ∧ C.sc.names.lookup y = some .local ∧ x ≠ y ∧ swappedStores [.Tuple [.Name x p, .Name y q] kt pt] (.Tuple vs k2 p2) X.env = pure (some [x, y]) := by
  unfold turned at h
  rw [if_pos (.inl rfl)] at h
  by_cases f : vs.all (foldedForSure 8) = true
  · rw [if_pos f] at h; cases h
  rw [if_neg f] at h
  by_cases g : vs.all (constantsAlone 8) = true
  · rw [if_pos g] at h; cases h
  rw [if_neg g] at h
  dsimp only at h
  split at h
  rotate_left
  · cases h
  rename_i c
  obtain ⟨c1, c2, c3, c4⟩ := c
  refine ⟨c1, c2, c3, ?_⟩
  unfold swappedStores
  have e1 : X.env.kindOf x = some .local := by unfold Env.kindOf; rw [G.sc]; exact c1
  have e2 : X.env.kindOf y = some .local := by unfold Env.kindOf; rw [G.sc]; exact c2
  have n1 : (y == x) = false := by simpa using fun z => c3 z.symm
  dsimp only
  rw [if_neg (by rw [hl, bk_fun G]; exact Bool.false_ne_true)]
  split
  · rename_i z; exact absurd ((star_any hs).symm.trans z) Bool.false_ne_true
  · have l1 : ([Expr.Name x p, Expr.Name y q].head?.map (·.pos.line)).getD 0 = p.line := rfl
    rw [l1, List.filterMap_cons, List.filterMap_cons, List.filterMap_nil]
    dsimp only
    simp only [e1, e2, ← c4, beq_self_eq_true, Bool.and_self, if_true, List.eraseDups_cons, List.filter_cons, List.filter_nil, n1, Bool.not_false, List.eraseDups_nil, List.length_cons, List.length_nil, bne_self_eq_false, Bool.or_self, Bool.false_eq_true, if_false]
    try rw [if_neg f, if_neg g]
theorem turned_3 (G : GoodS C X W) {x y z : Str} {p q r : Pos} {vs : List Expr} {kt k2 : Nat} {pt p2 : Pos} (h : turned C [.Name x p, .Name y q, .Name z r] vs = some true) (hs : vs.all notStar = true) (hl : vs.length = 3) :
    (C.sc.names.lookup x = some .local ∧ C.sc.names.lookup y = some .local ∧ C.sc.names.lookup z = some .local) ∧ (x ≠ y ∧ x ≠ z ∧ y ≠ z) ∧ swappedStores [.Tuple [.Name x p, .Name y q, .Name z r] kt pt] (.Tuple vs k2 p2) X.env = pure (some [x, y, z]) := by
  unfold turned at h
  rw [if_pos (.inr rfl)] at h
  by_cases f : vs.all (foldedForSure 8) = true
  · rw [if_pos f] at h; cases h
  rw [if_neg f] at h
  by_cases g : vs.all (constantsAlone 8) = true
  · rw [if_pos g] at h; cases h
  rw [if_neg g] at h
  dsimp only at h
  split at h
  rotate_left
  · cases h
  rename_i c
  obtain ⟨c1, c2, c3, c4, c5, c6, c7, c8⟩ := c
  refine ⟨⟨c1, c2, c3⟩, ⟨c4, c5, c6⟩, ?_⟩
  unfold swappedStores
  have e1 : X.env.kindOf x = some .local := by unfold Env.kindOf; rw [G.sc]; exact c1
  have e2 : X.env.kindOf y = some .local := by unfold Env.kindOf; rw [G.sc]; exact c2
  have e3 : X.env.kindOf z = some .local := by unfold Env.kindOf; rw [G.sc]; exact c3
  have n1 : (y == x) = false := by simpa using fun z => c4 z.symm
  have n2 : (z == x) = false := by simpa using fun z => c5 z.symm
  have n3 : (z == y) = false := by simpa using fun z => c6 z.symm
  dsimp only
  rw [if_neg (by rw [hl, bk_fun G]; exact Bool.false_ne_true)]
  split
  · rename_i z; exact absurd ((star_any hs).symm.trans z) Bool.false_ne_true
  · have l1 : ([Expr.Name x p, Expr.Name y q, Expr.Name z r].head?.map (·.pos.line)).getD 0 = p.line := rfl
    rw [l1, List.filterMap_cons, List.filterMap_cons, List.filterMap_cons, List.filterMap_nil]
    dsimp only
    simp only [e1, e2, e3, ← c7, ← c8, beq_self_eq_true, Bool.and_self, if_true, List.eraseDups_cons, List.filter_cons, List.filter_nil, n1, n2, n3, Bool.not_false, List.eraseDups_nil, List.length_cons, List.length_nil, bne_self_eq_false, Bool.or_self, Bool.false_eq_true, if_false]
    try rw [if_neg f, if_neg g]
theorem par_two {i j : Nat} {ta : TA} {D : Ends} {σ : St} {H : Hp} {g : AV} (h : tParN [i, j] (tA X.K W g) D σ H) : tPar i j (tA X.K W g) D σ H := by
  obtain ⟨ss, Af, r, h⟩ := h
  refine ⟨ss, Af, r, ?_⟩
  revert h
  cases g ss with
  | err => exact id
  | exc e s => exact id
  | ok x s =>
    intro h v H1 q
    obtain ⟨hl, hn⟩ := h v H1 q
    match v, hl with
    | [a, b], _ => exact ⟨a, b, rfl, hn⟩
theorem par_three {i j l : Nat} {ta : TA} {D : Ends} {σ : St} {H : Hp} {g : AV} (h : tParN [i, j, l] (tA X.K W g) D σ H) : tPar3 i j l (tA X.K W g) D σ H := by
  obtain ⟨ss, Af, r, h⟩ := h
  refine ⟨ss, Af, r, ?_⟩
  revert h
  cases g ss with
  | err => exact id
  | exc e s => exact id
  | ok x s =>
    intro h v H1 q
    obtain ⟨hl, hn⟩ := h v H1 q
    match v, hl with
    | [a, b, c], _ => exact ⟨a, b, c, rfl, hn⟩
theorem names_2 (G : GoodS C X W) {x y : Str} {p q : Pos} {is : List Nat} (h : namesOf C [.Name x p, .Name y q] = some is) : ∃ i j, is = [i, j] ∧ X.N[i]? = some x ∧ X.N[j]? = some y := by
  unfold namesOf at h
  split at h
  · rename_i i is' h1 h2
    unfold namesOf at h2
    split at h2
    · rename_i j is'' h3 h4
      cases h4; cases h2; cases h
      exact ⟨i, j, rfl, (stS_loc G.toGood h1).1, (stS_loc G.toGood h3).1⟩
    · cases h2
  · cases h
theorem names_3 (G : GoodS C X W) {x y z : Str} {p q r : Pos} {is : List Nat} (h : namesOf C [.Name x p, .Name y q, .Name z r] = some is) : ∃ i j l, is = [i, j, l] ∧ X.N[i]? = some x ∧ X.N[j]? = some y ∧ X.N[l]? = some z := by
  unfold namesOf at h
  split at h
  · rename_i i is' h1 h2
    obtain ⟨j, l, e, h3, h4⟩ := names_2 G h2
    cases h; subst e
    exact ⟨i, j, l, rfl, (stS_loc G.toGood h1).1, h3, h4⟩
  · cases h
/-- an assignment -/
theorem ps_asgE (G : GoodS C X W) {t e : Expr} {pos : Pos} : PS X (.Assign [t] e pos) (tS X.K W L (asgE C t e (dn C e).1 ((dnL C (tupOf e)).map (·.1)) (dn C (ixOf t)).1)) := by
  have hN : X.N.Nodup := G.N ▸ G.nd
  unfold asgE
  split
  · exact ps_errD
  rename_i hc
  have hc : isComp e = false := by simpa using hc
  split
  · rename_i x p
    split
    · rename_i i hi
      obtain ⟨h1, h2⟩ := stS_loc G.toGood hi
      exact (ps_set hN h1 h2 (dn_ok G.toGood e).1 (swap_no hc) (.inl (G.fnT x))).impD fun _ _ _ h => s_set h
    · exact ps_errD
  · rename_i x p b q
    split
    · rename_i i hi
      split
      · rename_i c
        obtain ⟨k1, k2⟩ := okName_spec c.1
        obtain ⟨h1, h2⟩ := slot_vis G.toGood hi
        have ha : ∀ v, assign (.Subscript (.Name x p) b q) X.env v = (do
            let ov ← holding [v] (eval (.Name x p) X.env)
            let iv ← holding [v, ov] (eval b X.env)
            standAt q
            holding [v, ov, iv] (setItem ov iv v)
            release [v, ov, iv] []) := by
          intro v
          have := c.2
          cases b <;> first | rfl | cases this
        exact (ps_asg (dn_ok G.toGood e).1 (pg_sub (pe_var h1 h2 k1 k2) (dn_ok G.toGood b).1 set_list ha) (swap_sole hc) (by
          unfold swappedStores
          cases e <;> rfl) rfl).impD fun _ _ _ h => s_setIx h
      · exact ps_errD
    · exact ps_errD
  · rename_i ts kt pt
    split
    · rename_i is hi
      split
      · rename_i vs k2 p2 _
        split
        · rename_i c
          obtain ⟨c1, c2, c3⟩ := c
          have pa := pa_all (allD_e (dnL_ok G.toGood vs)) c1
          split
          · rename_i ht
            have hn : namesOf C ts = some is := by
              have hi' : (namesOf C ts).map Tg.tp = some (.tp is) := hi
              cases q : namesOf C ts with
              | none => rw [q] at hi'; cases hi'
              | some js => rw [q] at hi'; cases hi'; rfl
            have hts : (∃ x y p q, ts = [.Name x p, .Name y q]) ∨ (∃ x y z p q r, ts = [.Name x p, .Name y q, .Name z r]) := by
              unfold turned at ht
              split at ht
              · split at ht
                · cases ht
                · split at ht
                  · cases ht
                  · split at ht
                    · exact .inl ⟨_, _, _, _, rfl⟩
                    · exact .inr ⟨_, _, _, _, _, _, rfl⟩
                    · cases ht
              · cases ht
            rcases hts with ⟨x, y, p, q, e1⟩ | ⟨x, y, z, p, q, r, e1⟩
            · subst e1
              obtain ⟨i, j, e2, n1, n2⟩ := names_2 G hn
              subst e2
              obtain ⟨t1, t2, t3, t4⟩ := turned_2 (kt := kt) (pt := pt) (k2 := k2) (p2 := p2) G ht c1 c2
              have hij : i ≠ j := fun z => by subst z; rw [n1] at n2; cases n2; exact t3 rfl
              match vs, c2, pa, t4 with
              | [a, b], _, pa, t4 => exact (ps_par G.calm hN n1 n2 hij (by rw [G.sc]; exact t1) (by rw [G.sc]; exact t2) pa t4 rfl).impD fun _ _ _ h => par_two (ta := tA X.K W (foldA [])) (s_par h)
            · subst e1
              obtain ⟨i, j, l, e2, n1, n2, n3⟩ := names_3 G hn
              subst e2
              obtain ⟨⟨t1, t2, t3⟩, ⟨t4, t5, t6⟩, t7⟩ := turned_3 (kt := kt) (pt := pt) (k2 := k2) (p2 := p2) G ht c1 c2
              have hij : i ≠ j := fun z => by subst z; rw [n1] at n2; cases n2; exact t4 rfl
              have hil : i ≠ l := fun z => by subst z; rw [n1] at n3; cases n3; exact t5 rfl
              have hjl : j ≠ l := fun z => by subst z; rw [n2] at n3; cases n3; exact t6 rfl
              match vs, c2, pa, t7 with
              | [a, b, d], _, pa, t7 => exact (ps_par3 G.calm hN n1 n2 n3 hij hil hjl (by rw [G.sc]; exact t1) (by rw [G.sc]; exact t2) (by rw [G.sc]; exact t3) pa t7 rfl).impD fun _ _ _ h => par_three (ta := tA X.K W (foldA [])) (s_par h)
          · rename_i ht
            exact (ps_asg (dn_ok G.toGood (.Tuple vs k2 p2)).1 (pg_tg G hi) (swap_sole hc) (turned_no G ht c1) rfl).impD fun _ _ _ h => s_unp h
          · exact ps_errD
        · exact ps_errD
      · rename_i nt
        exact (ps_asg (dn_ok G.toGood e).1 (pg_tg G hi) (swap_sole hc) (by
          unfold swappedStores
          cases e <;> first | rfl | exact absurd rfl (nt _ _ _)) rfl).impD fun _ _ _ h => s_unp h
    · exact ps_errD
  · exact ps_errD
/-! ### what is walked -/
theorem s_frzI {f : EV} (e : Expr) (h : PE X e (tE X.K W f)) {tg : Expr} : PI X tg e (tI X.K W (dSeqIt (dFrz f))) := .of fun σ H R q => by
  rcases s_seqIt q with q | q
  · exact ⟨_, pi_list (pe_frzD h), q⟩
  · exact ⟨_, pi_tup (pe_frzD h), q⟩
theorem pi_it (G : GoodS C X W) (it tg : Expr) : PI X tg it (tI X.K W (dIt C it)) := by
  unfold dIt
  split
  · rename_i f p a q
    split
    · rename_i c
      obtain ⟨c1, c2, c3⟩ := c
      subst c1
      exact .of fun σ H R h => ⟨_, pi_range1 (glob_gl G.toGood c2).1 G.rng (pa_all (es := [a]) (fs := [(dn C a).1]) ⟨(dn_ok G.toGood a).1, trivial⟩ (by show (notStar a && true) = true; rw [c3]; rfl)) (star_cons c3), s_rng1 h⟩
    · split
      · rename_i c
        obtain ⟨c1, c2, c3⟩ := c
        subst c1
        exact .of fun σ H R h => ⟨_, RT.pi_revA (glob_gl G.toGood c2).1 G.rev (dn_ok G.toGood a).1 (star_cons c3), s_revIt h⟩
      · exact s_frzI _ (dn_ok G.toGood _).1
  · rename_i f p a b q
    split
    · rename_i c
      obtain ⟨c1, c2, c3, c4⟩ := c
      subst c1
      exact .of fun σ H R h => ⟨_, pi_range2 (glob_gl G.toGood c2).1 G.rng (pa_all (es := [a, b]) (fs := [(dn C a).1, (dn C b).1]) ⟨(dn_ok G.toGood a).1, (dn_ok G.toGood b).1, trivial⟩ (by show (notStar a && (notStar b && true)) = true; rw [c3, c4]; rfl)) (by rw [star_cons c3, star_cons c4]; rfl) (by rw [star_cons c4]; rfl), s_rng2 h⟩
    · exact s_frzI _ (dn_ok G.toGood _).1
  · exact .of fun σ H R h => by obtain ⟨_, _, _, h⟩ := h; exact h.elim
  · exact s_frzI _ (dn_ok G.toGood _).1
theorem fold_no {it : Expr} (h : ∀ es k p, it ≠ .Set es k p) {env : Env} : ∀ x, foldedSetIterable it env x = pure x := by
  intro x
  cases it <;> first | rfl | exact absurd rfl (h _ _ _)

mutual
theorem dS_ok (G : GoodS C X W) : ∀ (st : Stmt) (L : List Nat), PS X st (tS X.K W L (dS C st))
  | .Pass p, L => by unfold dS; exact ps_pass.impD fun _ _ _ h => s_pass h
  | .Break p, L => by unfold dS; exact ps_break.impD fun _ _ _ h => s_break h
  | .Continue p, L => by unfold dS; exact ps_continue.impD fun _ _ _ h => s_cont h
  | .Expr e p, L => by
    unfold dS
    split
    · exact ps_errD
    · rename_i hc
      exact (ps_expr (dn_ok G.toGood e).1 (swap_no (by simpa using hc))).impD fun _ _ _ h => s_drop h
  | .Return none p, L => by unfold dS; exact ps_retN.impD fun _ _ _ h => s_retN h
  | .Return (some e) p, L => by unfold dS; exact (ps_ret (dn_ok G.toGood e).1).impD fun _ _ _ h => s_ret h
  | .If c a b p, L => by unfold dS; exact (ps_if (dn_ok G.toGood c).2 (dSs_ok G a L) (dSs_ok G b L)).impD fun _ _ _ h => s_if h
  | .Assign [t] e p, L => by unfold dS; exact ps_asgE G
  | .Assign [] e p, L => by unfold dS; exact ps_errD
  | .Assign (_ :: _ :: _) e p, L => by unfold dS; exact ps_errD
  | .AugAssign t op e p, L => by
    cases t with
    | Name x q =>
      unfold dS
      split
      · rename_i i hi
        obtain ⟨h1, h2⟩ := stS_loc G.toGood hi
        exact (ps_aug (G.N ▸ G.nd) h1 h2 (dn_ok G.toGood e).1 (pip_aug op) (.inl (G.fnT _))).impD fun _ _ _ h => s_aug h
      · exact ps_errD
    | _ => unfold dS; exact ps_errD
  | .While c b [] p, L => by unfold dS; exact (ps_while G.po (dn_ok G.toGood c).2 (dSs_ok G b L)).impD fun _ _ _ h => s_while h
  | .While c b (_ :: _) p, L => by unfold dS; exact ps_errD
  | .For t it b [] p, L => by
    unfold dS
    split
    · rename_i tg ht
      by_cases hset : ∃ es k q, it = .Set es k q
      · obtain ⟨es, k, q, e⟩ := hset
        subst e
        exact .of fun D σ H h => by
          obtain ⟨ss, Af, r, h⟩ := h
          exact h.elim
      · exact .of fun D σ H h => by
          obtain ⟨L', h⟩ := s_for h
          exact ⟨_, ps_for G.po G.calm (pi_it G it t) (pg_tg G ht) (dSs_ok G b L') (fold_no fun es k q z => hset ⟨es, k, q, z⟩), h⟩
    · exact ps_errD
  | .For t it b (_ :: _) p, L => by unfold dS; exact ps_errD
  | .FunctionDef _ _ _ _ _ _ _ _ _ _, L => by unfold dS; exact ps_errD
  | .AsyncFunctionDef _ _ _ _ _ _ _ _ _ _, L => by unfold dS; exact ps_errD
  | .ClassDef _ _ _ _ _ _ _ _ _ _ _, L => by unfold dS; exact ps_errD
  | .Delete _ _, L => by unfold dS; exact ps_errD
  | .TypeAlias _ _ _ _ _ _ _, L => by unfold dS; exact ps_errD
  | .AnnAssign _ _ _ _ _, L => by unfold dS; exact ps_errD
  | .AsyncFor _ _ _ _ _, L => by unfold dS; exact ps_errD
  | .With _ _ _, L => by unfold dS; exact ps_errD
  | .AsyncWith _ _ _, L => by unfold dS; exact ps_errD
  | .Match _ _ _, L => by unfold dS; exact ps_errD
  | .Raise _ _ _, L => by unfold dS; exact ps_errD
  | .Try _ _ _ _ _, L => by unfold dS; exact ps_errD
  | .TryStar _ _ _ _ _, L => by unfold dS; exact ps_errD
  | .Assert _ _ _, L => by unfold dS; exact ps_errD
  | .Import _ _, L => by unfold dS; exact ps_errD
  | .ImportFrom _ _ _ _, L => by unfold dS; exact ps_errD
  | .Global _ _, L => by unfold dS; exact ps_errD
  | .Nonlocal _ _, L => by unfold dS; exact ps_errD
theorem dSs_ok (G : GoodS C X W) : ∀ (sts : List Stmt) (L : List Nat), PSs X sts (tS X.K W L (dSs C sts))
  | [], L => by unfold dSs; exact .of fun D σ H h => ⟨_, pss_nil, s_pass h⟩
  | [s], L => by unfold dSs; exact pss_one (dS_ok G s L)
  | s :: s' :: ss, L => by unfold dSs; exact .of fun D σ H h => ⟨_, pss_cons (dS_ok G s L) (dSs_ok G (s' :: ss) L), s_seq h⟩
end
end
end Dn

set_option Elab.async false
set_option linter.all false
set_option maxRecDepth 100000
set_option maxHeartbeats 4000000
/-! Dn13: a def of the text, the table of defs. -/
namespace Dn
open PySem L2 PyProof.Rows

def locksOf : Nat → List D → List Nat
  | _, [] => []
  | i, d :: ds => if d.pure = true then locksOf (i + 1) ds else i :: locksOf (i + 1) ds
def wbk : List D → Sl → Option (List D)
  | [], _ => some []
  | d :: ds, o :: ss => match (if d.pure = true then some d else o), wbk ds ss with
    | some e, some es => some (e :: es)
    | _, _ => none
  | _ :: _, [] => none
def endF (ds : List D) (r : RS) : RF := match r with
  | .nx ss => match wbk ds ss with
    | some as => .ok .non as
    | none => .err
  | .rt d ss => match wbk ds ss with
    | some as => .ok d as
    | none => .err
  | .exc e ss => match wbk ds ss with
    | some as => .exc e as
    | none => .err
  | _ => .err
def dFn (n N : Nat) (g : SV) : FV := fun ds => if ds.length = n ∧ n ≤ N then endF ds (g (locksOf 0 ds) (ds.map some ++ List.replicate (N - n) none)) else .err
theorem locks_mem : ∀ {ds : List D} {i k : Nat} {d : D}, ds[i]? = some d → d.pure ≠ true → k + i ∈ locksOf k ds
  | [], i, k, d, e, _ => by simp at e
  | d0 :: ds, 0, k, d, e, p => by
    simp at e; subst e
    unfold locksOf
    rw [if_neg p]
    exact List.mem_cons_self
  | d0 :: ds, i + 1, k, d, e, p => by
    have := locks_mem (k := k + 1) (show ds[i]? = some d by simpa using e) p
    rw [show k + (i + 1) = k + 1 + i by omega]
    unfold locksOf
    split
    · exact this
    · exact List.mem_cons_of_mem _ this
theorem wbk_spec : ∀ {ds : List D} {ss : Sl} {as : List D}, wbk ds ss = some as → as.length = ds.length ∧ ∀ (i : Nat) (d : D), ds[i]? = some d → (d.pure = true ∧ as[i]? = some d) ∨ (d.pure ≠ true ∧ ∃ e, ss[i]? = some (some e) ∧ as[i]? = some e)
  | [], ss, as, h => by
    cases h
    exact ⟨rfl, fun i d e => by simp at e⟩
  | d0 :: ds, [], as, h => by cases h
  | d0 :: ds, o :: ss, as, h => by
    unfold wbk at h
    split at h
    · rename_i e es h1 h2
      cases h
      obtain ⟨hl, hi⟩ := wbk_spec h2
      refine ⟨by simp [hl], fun i d hd => ?_⟩
      cases i with
      | zero =>
        simp at hd; subst hd
        by_cases p : d0.pure = true
        · rw [if_pos p] at h1; cases h1
          exact .inl ⟨p, rfl⟩
        · rw [if_neg p] at h1; subst h1
          exact .inr ⟨p, e, rfl, rfl⟩
      | succ i =>
        have := hi i d (by simpa using hd)
        simpa using this
    · cases h

section
variable {K : PySem.W.Frag} {H H' : Hp}
theorem start_rep {ds : List D} {vs : List V} {Af : Nat → List Addr} {N : List Str} (r : Rep K H (ds.map some) (vs.map some) Af) : Rep K H (ds.map some ++ List.replicate (N.length - ds.length) none) (L2.start N vs) Af := by
  have hl : ds.length = vs.length := by have := r.len; simpa using this
  have out : ∀ i, ds.length ≤ i → Af i = [] := fun i hi => r.emp i fun d e => by
    have := (List.getElem?_eq_some_iff.mp e).1
    simp at this; omega
  refine ⟨?_, fun i d e => ?_, fun i e => ?_, r.nd, r.dis⟩
  · unfold L2.start; simp [hl]
  · by_cases hi : i < ds.length
    · rw [List.getElem?_append_left (by simpa using hi)] at e
      obtain ⟨v, h1, h2⟩ := r.lay i d e
      refine ⟨v, ?_, h2⟩
      unfold L2.start
      rw [List.getElem?_append_left (by simpa using (hl ▸ hi))]
      exact h1
    · rw [List.getElem?_append_right (by simpa using hi), List.getElem?_replicate] at e
      split at e <;> cases e
  · by_cases hi : i < ds.length
    · refine r.emp i fun d q => e d ?_
      rw [List.getElem?_append_left (by simpa using hi)]
      exact q
    · exact out i (Nat.le_of_not_lt hi)
theorem end_rep {ds as : List D} {vs : List V} {Af0 Af1 : Nat → List Addr} {N : List Str} {ss : Sl} {σ' : L2.St} (r0 : Rep K H (ds.map some) (vs.map some) Af0) (r1 : Rep K H' ss σ' Af1) (kp : Kp H H') (lk : Lk (locksOf 0 ds) (L2.start N vs) σ') (w : wbk ds ss = some as) :
    ∃ Af', Rep K H' (as.map some) (vs.map some) Af' ∧ ∀ b, Own Af' b → Own Af1 b := by
  obtain ⟨hl, hi⟩ := wbk_spec w
  have hlv : ds.length = vs.length := by have := r0.len; simpa using this
  let imp : Nat → Bool := fun i => match ds[i]? with
    | some d => !d.pure
    | none => false
  let Af' : Nat → List Addr := fun i => if imp i = true then Af1 i else []
  have sub : ∀ i a, a ∈ Af' i → a ∈ Af1 i := fun i a h => by
    show a ∈ Af1 i
    by_cases c : imp i = true
    · simpa [Af', c] using h
    · simp [Af', c] at h
  refine ⟨Af', ⟨by simp [hl, hlv], fun i d e => ?_, fun i e => ?_, fun i => ?_, fun i j a h1 h2 => r1.dis i j a (sub i a h1) (sub j a h2)⟩, fun b ⟨i, h⟩ => ⟨i, sub i b h⟩⟩
  · rw [List.getElem?_map] at e
    cases q : as[i]? with
    | none => rw [q] at e; cases e
    | some d' =>
      rw [q] at e; cases e
      have hlt : i < ds.length := hl ▸ (List.getElem?_eq_some_iff.mp q).1
      obtain ⟨d0, hd0⟩ : ∃ d0, ds[i]? = some d0 := ⟨_, List.getElem?_eq_getElem hlt⟩
      obtain ⟨v, v1, v2⟩ := r0.lay i d0 (by rw [List.getElem?_map, hd0]; rfl)
      rcases hi i d0 hd0 with ⟨p, a1⟩ | ⟨p, e', s1, a1⟩
      · rw [q] at a1; cases a1
        have z := v2.emp p
        have c : imp i = false := by simp [imp, hd0, p]
        refine ⟨v, v1, ?_⟩
        have : Af' i = [] := by simp [Af', c]
        rw [this]
        rw [z] at v2
        exact Lay.keep kp v2
      · rw [q] at a1; cases a1
        have c : imp i = true := by simp [imp, hd0, p]
        have : Af' i = Af1 i := by simp [Af', c]
        rw [this]
        obtain ⟨u, u1, u2⟩ := r1.lay i _ s1
        have l := lk i (by have := locks_mem (k := 0) hd0 p; simpa using this)
        have st : (L2.start N vs)[i]? = some (some v) := by
          unfold L2.start
          rw [List.getElem?_append_left (by simpa using (hlv ▸ hlt))]
          exact v1
        rw [st, u1] at l
        cases l
        exact ⟨_, v1, u2⟩
  · show Af' i = []
    by_cases c : imp i = true
    · exfalso
      have hlt : i < ds.length := by
        by_cases z : i < ds.length
        · exact z
        · simp [imp, List.getElem?_eq_none (Nat.le_of_not_lt z)] at c
      refine e (as[i]'(hl ▸ hlt)) ?_
      rw [List.getElem?_map, List.getElem?_eq_getElem (hl ▸ hlt)]
      rfl
    · simp [Af', c]
  · show (Af' i).Nodup
    by_cases c : imp i = true
    · simp [Af', c]; exact r1.nd i
    · simp [Af', c]
/-- the body's end is the def's end -/
theorem fn_end {n : Nat} {N : List Str} {g : SV} {vs : List V} {Q : VK} {E : XK} (h : spD K n (dFn n N.length g) vs H Q E) :
    ∃ L, tS K (fun cls d _ H => E cls d H) L g { nx := fun _ H' => Q .non H', rt := Q } (L2.start N vs) H := by
  obtain ⟨ds, Af, hl, r, h⟩ := h
  unfold dFn at h
  split at h
  rotate_left
  · exact h.elim
  rename_i c
  refine ⟨locksOf 0 ds, _, Af, start_rep (N := N) r, ?_⟩
  have e : (ds.map some ++ List.replicate (N.length - n) none : Sl) = ds.map some ++ List.replicate (N.length - ds.length) none := by rw [hl]
  rw [e] at h
  cases q : g (locksOf 0 ds) (ds.map some ++ List.replicate (N.length - ds.length) none) with
  | err => rw [q] at h; exact h.elim
  | bk s => rw [q] at h; exact h.elim
  | ct s => rw [q] at h; exact h.elim
  | nx ss =>
    rw [q] at h
    unfold endF at h
    dsimp only at h
    cases w : wbk ds ss with
    | none => rw [w] at h; exact h.elim
    | some as =>
      rw [w] at h
      rintro σ' H' ⟨Af1, r1, st, lk⟩
      obtain ⟨Af', r2, o2⟩ := end_rep r r1 st.kp lk w
      exact h .non H' ⟨Af', [], r2, ⟨rfl, rfl⟩, List.nodup_nil, fun a z => (nomatch z), st.sub fun b hb => hb.elim (o2 b) fun z => nomatch z⟩
  | rt d ss =>
    rw [q] at h
    unfold endF at h
    dsimp only at h
    cases w : wbk ds ss with
    | none => rw [w] at h; exact h.elim
    | some as =>
      rw [w] at h
      rintro v H' ⟨σ', Af1, B, r1, l, nd, dj, st, lk⟩
      obtain ⟨Af', r2, o2⟩ := end_rep r r1 st.kp lk w
      exact h v H' ⟨Af', B, r2, l, nd, fun a ha z => dj a ha (o2 a z), st.sub fun b hb => hb.elim (fun z => .inl (o2 b z)) .inr⟩
  | exc e ss =>
    rw [q] at h
    unfold endF at h
    dsimp only at h
    cases w : wbk ds ss with
    | none => rw [w] at h; exact h.elim
    | some as =>
      rw [w] at h
      rintro cls x σ' H' ⟨Af1, r1, xl, st, lk⟩
      obtain ⟨Af', r2, o2⟩ := end_rep r r1 st.kp lk w
      exact h cls x H' ⟨Af', r2, xl, st.sub fun b hb => o2 b hb⟩
end

/-! ### the module -/
structure FnM (P : Program) (w : World) (K : PySem.W.Frag) (mg : Str → Option Value) (base : Heap) (kw : List (Str × List Str)) (k : Nat) (x : Str) (e : FnE) (f : Addr) (fd : FuncData) : Prop where
  hm : mg x = some (.ref f)
  kp : PySem.W.keepIn K (.ref f) = true
  bd : Binds K fd e.ps []
  ok : FnOk P w K mg base (L2.CX P w) k f fd e.ps (spD K e.ps.length e.F)
  kb : ∀ ks, (x, ks) ∈ kw → ∀ (s : Shared) (ws us : List Value), K.In s.heap → ws.length = ks.length → permL ks e.ps ws = some us → BindsTo s fd ⟨[], ks.zip ws⟩ (e.ps.zip us)
  ba : ∀ (s : Shared) (us : List Value), us.length = e.ps.length → BindsTo s fd ⟨us, []⟩ (e.ps.zip us)
  lk : ∃ (oc : Value) (od : Option Addr) (osl : Array (Option Value)), K.lookup f = some ⟨oc, od, .func fd, osl⟩
structure ModM (mg : Str → Option Value) (cst : List (Str × D)) : Prop where
  blt : ∀ b : Blt, mg b.name = none
  cls : ∀ c : Cl, mg c.sn = none
  isi : mg "isinstance" = none
  rng : mg "range" = none
  rev : mg "reversed" = none
  cst : ∀ x d, cst.lookup x = some d → ∃ u v, mg x = some u ∧ RelV v u ∧ flatD d = some v
section
variable {P : Program} {w : World} {K : PySem.W.Frag} {mg : Str → Option Value} {base : Heap} {kw : List (Str × List Str)} {cst : List (Str × D)}
theorem fn_okD {N ps : List Str} {sc : Scope} {k : Nat} {fns : List (Str × FnE)} {x qual : Str} {params : Arguments} {body : List Stmt} {dvs : List V} {kws : List (Str × V)} {f : Addr} {fd : FuncData} (M : ModM mg cst)
    (hf : ∀ y e, fns.lookup y = some e → ∃ f fd, FnM P w K mg base kw k y e f fd) (F : FunD K x qual params body sc dvs kws f fd) (S : FnScope N ps sc) :
    FnOk P w K mg base (L2.CX P w) (k + 1) f fd ps (spD K ps.length (dFn ps.length N.length (dSs ⟨N, sc, k, fns, kw, cst⟩ body))) := by
  refine F.ok S (fun vs H Q E h => spD_len h) fun cdv A outer s H vs Q E hr h => ?_
  obtain ⟨L, h⟩ := fn_end h
  have un : (cxOf (L2.CX P w) P w K mg base N qual sc f cdv A outer s H E).A.units + 200 < cLine := by
    have := hr.un
    show (A.deeper (envOfC qual sc s.heap.objs.size f cdv)).units + 200 < cLine
    omega
  have G : GoodS ⟨N, sc, k, fns, kw, cst⟩ (cxOf (L2.CX P w) P w K mg base N qual sc f cdv A outer s H E) (fun cls d _ H => E cls d H) := by
    refine ⟨⟨rfl, S.nd, rfl, un, takes_of rfl rfl rfl rfl, rfl, hr, M.blt, M.cls, M.isi, fun y e he => ?_, M.cst⟩, PassesOwn.leaving, fun _ => rfl, S.kind, M.rng, M.rev⟩
    obtain ⟨f', fd', F'⟩ := hf y e he
    exact ⟨f', fd', F'.hm, F'.kp, F'.bd, F'.ok, F'.kb⟩
  exact ⟨_, dSs_ok G body L, h⟩
theorem FnM.mono {j k : Nat} {x : Str} {e : FnE} {f : Addr} {fd : FuncData} (F : FnM P w K mg base kw j x e f fd) (h : j ≤ k) : FnM P w K mg base kw k x e f fd := ⟨F.hm, F.kp, F.bd, F.ok.mono h, F.kb, F.ba, F.lk⟩
end

/-! ### the table of defs -/
structure DI where
  nm : Str
  st : Stmt
  N : List Str
  ps : List Str
  fuel : Nat
def dErrF : FV := fun _ => .err
section
variable (kw : List (Str × List Str)) (cst : List (Str × D))
noncomputable def DI.step (d : DI) (k : Nat) (fns : List (Str × FnE)) : FV := dFn d.ps.length d.N.length (dSs ⟨d.N, defScope d.st, k, fns, kw, cst⟩ (defBody d.st))
noncomputable def DI.loop (d : DI) (k : Nat) (fns : List (Str × FnE)) : Nat → FV
  | 0 => dErrF
  | m + 1 => d.step kw cst (k + m) ((d.nm, ⟨d.ps, d.loop k fns m⟩) :: fns)
noncomputable def DI.F (d : DI) (k : Nat) (fns : List (Str × FnE)) : FV := match d.fuel with
  | 0 => d.step kw cst k fns
  | m => d.loop kw cst k fns m
def lev : List DI → Nat
  | [] => 0
  | d :: r => lev r + (d.fuel + 1)
noncomputable def tabR : List DI → List (Str × FnE)
  | [] => []
  | d :: r => (d.nm, ⟨d.ps, d.F kw cst (lev r) (tabR r)⟩) :: tabR r
end
structure TabH (K : PySem.W.Frag) (mg : Str → Option Value) (kw : List (Str × List Str)) (d : DI) : Prop where
  fn : ∃ f fd, mg d.nm = some (.ref f) ∧ FunD K d.nm d.nm (defArgs d.st) (defBody d.st) (defScope d.st) [] [] f fd
  sc : FnScope d.N d.ps (defScope d.st)
  bd : ∀ (kV doc pm : Value) (an : Option Addr) (cdv ct : Value) (us : List Value), us.length = d.ps.length → bindArgs (PySem.W.fnOf d.nm d.nm (defArgs d.st) (defBody d.st) (defScope d.st) .none kV doc pm an cdv ct) ⟨us, []⟩ = pure (d.ps.zip us)
  kb : ∀ ks, (d.nm, ks) ∈ kw → ∀ (kV doc pm : Value) (an : Option Addr) (cdv ct : Value) (ws us : List Value), ws.length = ks.length → permL ks d.ps ws = some us →
    bindArgs (PySem.W.fnOf d.nm d.nm (defArgs d.st) (defBody d.st) (defScope d.st) .none kV doc pm an cdv ct) ⟨[], ks.zip ws⟩ = pure (d.ps.zip us)
section
variable {P : Program} {w : World} {K : PySem.W.Frag} {mg : Str → Option Value} {base : Heap} {kw : List (Str × List Str)} {cst : List (Str × D)}
theorem lookup_cons' {α : Type} {x y : Str} {e e0 : α} {l : List (Str × α)} (h : List.lookup y ((x, e0) :: l) = some e) : (y = x ∧ e = e0) ∨ l.lookup y = some e := by
  rw [List.lookup_cons] at h
  split at h
  · rename_i c
    cases h
    exact .inl ⟨by simpa using c, rfl⟩
  · exact .inr h
theorem tab_ok (M : ModM mg cst) : ∀ {l : List DI}, (∀ d ∈ l, TabH K mg kw d) → ∀ y e, (tabR kw cst l).lookup y = some e → ∃ f fd, FnM P w K mg base kw (lev l) y e f fd
  | [], _, y, e, h => by cases h
  | d :: r, hl, y, e, h => by
    have ih := tab_ok M (l := r) fun d' hd => hl d' (List.mem_cons_of_mem _ hd)
    rcases lookup_cons' h with ⟨h1, h2⟩ | h
    rotate_left
    · obtain ⟨f, fd, F⟩ := ih y e h
      exact ⟨f, fd, F.mono (by show lev r ≤ lev r + _; omega)⟩
    subst h1; subst h2
    have T := hl d List.mem_cons_self
    obtain ⟨f, fd, hm, F⟩ := T.fn
    have kb : ∀ ks, (d.nm, ks) ∈ kw → ∀ (s : Shared) (ws us : List Value), K.In s.heap → ws.length = ks.length → permL ks d.ps ws = some us → BindsTo s fd ⟨[], ks.zip ws⟩ (d.ps.zip us) := fun ks hk s ws us _ h1 h2 => by
      obtain ⟨oc, od, dV, kV, doc, pm, an, cdv, ct, osl, rfl, lk, hcd, hD, hK⟩ := F.ex
      rcases hD with ⟨_, rfl⟩ | ⟨z, _⟩
      · exact .of_eq (T.kb ks hk kV doc pm an cdv ct ws us h1 h2)
      · exact absurd rfl z
    have bd : Binds K fd d.ps [] := F.bindsN T.bd
    have ba := fun s us hl => F.bindsA T.bd s us hl
    have lk : ∃ (oc : Value) (od : Option Addr) (osl : Array (Option Value)), K.lookup f = some ⟨oc, od, .func fd, osl⟩ := by
      obtain ⟨oc, od, dV, kV, doc, pm, an, cdv, ct, osl, z1, z2, _⟩ := F.ex
      exact ⟨oc, od, osl, z2⟩
    have main : ∀ m, FnM P w K mg base kw (lev r + m) d.nm ⟨d.ps, d.loop kw cst (lev r) (tabR kw cst r) m⟩ f fd := by
      intro m
      induction m with
      | zero => exact ⟨hm, F.kp, bd, ⟨fun vs H Q E h => spD_len h, fun A outer s H args us vs Q E _ _ _ _ h => by obtain ⟨_, _, _, _, h⟩ := h; exact h.elim⟩, kb, ba, lk⟩
      | succ m ihm =>
        refine ⟨hm, F.kp, bd, ?_, kb, ba, lk⟩
        exact fn_okD M (fun y e he => by
          rcases lookup_cons' he with ⟨h1, h2⟩ | he
          · subst h1; subst h2
            exact ⟨f, fd, ihm⟩
          · obtain ⟨f', fd', F'⟩ := ih y e he
            exact ⟨f', fd', F'.mono (Nat.le_add_right (lev r) m)⟩) F T.sc
    show ∃ f' fd', FnM P w K mg base kw (lev r + (d.fuel + 1)) d.nm ⟨d.ps, d.F kw cst (lev r) (tabR kw cst r)⟩ f' fd'
    refine ⟨f, fd, ?_⟩
    unfold DI.F
    split
    · rename_i q
      rw [q]
      exact ⟨hm, F.kp, bd, fn_okD M ih F T.sc, kb, ba, lk⟩
    · exact (main d.fuel).mono (by omega)
end
end Dn

set_option Elab.async false
set_option linter.all false
set_option maxRecDepth 100000
set_option maxHeartbeats 4000000
/-! Dn14: a law over the table of its defs. -/
namespace Dn
open PySem L2 PyProof.Rows

def DI.dd (d : DI) : He.DefD := ⟨(d.nm, none), d.nm, d.nm, defArgs d.st, defBody d.st, defScope d.st, [], []⟩
def freesD : List Str := ["abs", "int", "len", "max", "min", "tuple", "list", "bool", "str", "isinstance", "range", "reversed"]
def faOf (T : List DI) : List He.Fa := T.map (fun d => .glo d.nm) ++ freesD.map .free
structure TabS (kw : List (Str × List Str)) (d : DI) : Prop where
  sc : FnScope d.N d.ps (defScope d.st)
  bd : ∀ (kV doc pm : Value) (an : Option Addr) (cdv ct : Value) (us : List Value), us.length = d.ps.length → bindArgs (PySem.W.fnOf d.nm d.nm (defArgs d.st) (defBody d.st) (defScope d.st) .none kV doc pm an cdv ct) ⟨us, []⟩ = pure (d.ps.zip us)
  kb : ∀ ks, (d.nm, ks) ∈ kw → ∀ (kV doc pm : Value) (an : Option Addr) (cdv ct : Value) (ws us : List Value), ws.length = ks.length → permL ks d.ps ws = some us →
    bindArgs (PySem.W.fnOf d.nm d.nm (defArgs d.st) (defBody d.st) (defScope d.st) .none kV doc pm an cdv ct) ⟨[], ks.zip ws⟩ = pure (d.ps.zip us)
def kwOf (kw : List (Str × List Str)) (x : Str) : List (List Str) := (kw.filter fun p => decide (p.1 = x)).map (·.2)
theorem kw_in {kw : List (Str × List Str)} {x : Str} {ks : List Str} (h : (x, ks) ∈ kw) : ks ∈ kwOf kw x := List.mem_map.mpr ⟨(x, ks), List.mem_filter.mpr ⟨h, decide_eq_true rfl⟩, rfl⟩
theorem kb_no {kw : List (Str × List Str)} {x : Str} {ks : List Str} (e : kwOf kw x = []) (h : (x, ks) ∈ kw) : False := by
  have := kw_in h
  rw [e] at this
  exact nomatch this
theorem kb_one {kw : List (Str × List Str)} {x : Str} {ks k0 : List Str} (e : kwOf kw x = [k0]) (h : (x, ks) ∈ kw) : ks = k0 := by
  have := kw_in h
  rw [e] at this
  exact List.mem_singleton.mp this
def AllS (kw : List (Str × List Str)) : List DI → Prop
  | [] => True
  | d :: r => TabS kw d ∧ AllS kw r
theorem allS_mem {kw : List (Str × List Str)} : ∀ {T : List DI} {d : DI}, AllS kw T → d ∈ T → TabS kw d
  | [], d, _, h => nomatch h
  | d0 :: r, d, a, h => by
    rcases List.mem_cons.mp h with e | h
    · subst e; exact a.1
    · exact allS_mem a.2 h
section
variable {K : PySem.W.Frag} {h : Heap} {mg : Str → Option Value} {T : List DI} {kw : List (Str × List Str)}
theorem facts_tab (X : K.In h) (G : h.Ns mainGlobals mg) (c : He.SaysD (faOf T) (T.map DI.dd) K) (S : AllS kw T) : (∀ d ∈ T, TabH K mg kw d) ∧ ModM mg [] := by
  have fr : ∀ x ∈ freesD, mg x = none := fun x hx => He.free_ok X G (c.facts (f := .free x) (List.mem_append_right _ (List.mem_map.mpr ⟨x, hx, rfl⟩)))
  refine ⟨fun d hd => ?_, ⟨fun b => ?_, fun cl => ?_, fr _ (by decide), fr _ (by decide), fr _ (by decide), fun x d e => by cases e⟩⟩
  · obtain ⟨fd, F⟩ := c.defs (d := d.dd) (List.mem_map.mpr ⟨d, hd, rfl⟩)
    have g := He.glo_ok X G (c.facts (f := .glo d.nm) (List.mem_append_left _ (List.mem_map.mpr ⟨d, hd, rfl⟩)))
    have s := allS_mem S hd
    exact ⟨⟨_, fd, g, F⟩, s.sc, s.bd, s.kb⟩
  · cases b <;> exact fr _ (by decide)
  · cases cl <;> exact fr _ (by decide)
theorem layL_map {K : PySem.W.Frag} {H : Hp} : ∀ (ns : List Int), LayL K H (ns.map D.int) (ns.map V.int) []
  | [] => ⟨rfl, rfl⟩
  | n :: ns => ⟨.int n, ns.map V.int, [], [], rfl, rfl, ⟨rfl, rfl⟩, layL_map ns⟩
theorem sp_law {K : PySem.W.Frag} {H : Hp} {a : Addr} {ns : List Int} {G : FV} {as : List D} (hO : Only H) (hS : SqL K H a (ns.map V.int)) (e : G [.kl (ns.map .int)] = .ok (.bl true) as) :
    spD K 1 G [.ref a] H (fun v _ => v = .bl true) fun _ _ _ => False := by
  refine ⟨[.kl (ns.map .int)], fun _ => [], rfl, ⟨rfl, fun i d q => ?_, fun _ _ => rfl, fun _ => List.nodup_nil, fun i j b z => nomatch z⟩, ?_⟩
  · cases i with
    | succ i => simp at q
    | zero =>
      simp at q; subst q
      refine ⟨.ref a, rfl, rfl, a, ns.map V.int, rfl, ?_, layL_map ns⟩
      rcases hS with (h | ⟨o, h⟩) | h
      · rcases hO a with z | ⟨o, xs, z⟩
        · rw [h] at z; cases z
        · rw [h] at z; cases z
      · exact .inl ⟨o, h⟩
      · exact .inr h
  · rw [e]
    rintro v H' ⟨Af, B, _, l, _⟩
    exact l.1
theorem walkD {l : PySem.W.OpenLaw} {n : Nat} {q : Program} {loose : List Str} {XP : (Str → Option Value) → Heap → Prop} {d : DefRec} {dl : DI} {r : List DI} {x : Str} {m : Nat}
    (hn : l.most = some n) (hn2 : n ≤ sizeLine) (hdf : d.params.defaults = []) (hr : Room (lev (dl :: r)) callerA) (hdn : d.name = dl.nm) (hps : dl.ps = [x]) (S : AllS kw (dl :: r))
    (law : ∀ ns : List Int, ns.length ≤ n → (∀ z ∈ ns, Builtin.Int.intBits z ≤ 1048576) → ∃ as, dl.F kw [] (lev r) (tabR kw [] r) [.kl (ns.map .int)] = .ok (.bl true) as) :
    PySem.W.WalkO q loose XP (He.hookD m (faOf (dl :: r)) ((dl :: r).map DI.dd)).says l.row.toRowW d [] (fun f vs => PySem.call f vs) := by
  refine Att.attach_callB hn hdf fun w s₀ s₁ mg mb fa o pm cd doc a vs ns G Y ho hd hcd hmg hobj hints hlen hbits hg => ?_
  obtain ⟨K, KX, c⟩ := Y
  obtain ⟨TH, M⟩ := facts_tab KX G.T.g c S
  have lk : (tabR kw [] (dl :: r)).lookup dl.nm = some ⟨dl.ps, dl.F kw [] (lev r) (tabR kw [] r)⟩ := by
    show List.lookup dl.nm ((dl.nm, _) :: _) = _
    rw [List.lookup_cons_self]
  have all := fun (base : Heap) => tab_ok (P := l.prog) (w := w) (K := K) (base := base) M TH dl.nm _ lk
  obtain ⟨f, fd, F0⟩ := all s₁.heap
  have e : mg dl.nm = some (.ref fa) := hdn ▸ hmg
  obtain ⟨f', fd', hm', F'⟩ := (TH dl List.mem_cons_self).fn
  have hb : ∀ (s : Shared) (u : Value), BindsTo s fd' ⟨[u], []⟩ [(x, u)] := fun s u => by
    have := F'.bindsA (TH dl List.mem_cons_self).bd s [u] (by rw [hps]; rfl)
    rw [hps] at this
    exact this
  have ef : f' = fa := by
    rw [hm'] at e
    injection e with e
    injection e
  subst ef
  have hF : ∀ base : Heap, K.In base → base.Ns mainGlobals mg → FnOk l.prog w K mg base (L2.CX l.prog w) (lev (dl :: r)) f' fd' [x] (spD K 1 (dl.F kw [] (lev r) (tabR kw [] r))) := fun base _ _ => by
    obtain ⟨g, gd, Fb⟩ := all base
    have e1 : g = f' := by
      have := Fb.hm
      rw [hm'] at this
      injection this with this
      injection this with this
      exact this.symm
    subst e1
    have e2 : gd = fd' := by
      obtain ⟨oc, od, dV, kV, doc, pm, an, cdv, ct, osl, z1, z2, _⟩ := F'.ex
      obtain ⟨oc', od', osl', y⟩ := Fb.lk
      rw [z2] at y
      cases y
      rfl
    subst e2
    have := Fb.ok
    rw [hps] at this
    exact this
  exact law_call KX G.T.g G.T.b G.T.builtins G.T.nolimit hg hobj hints (Nat.le_trans hlen hn2) hr hF hb (fun H hO hS => by
    obtain ⟨as, e⟩ := law ns hlen hbits
    exact sp_law hO hS e) fun H e s' z => by
      obtain ⟨_, _, _, _, _, _, _, _, _, _, _, _, z⟩ := z
      exact z
end
end Dn

set_option Elab.async false
set_option linter.all false
set_option maxRecDepth 100000
set_option maxHeartbeats 4000000
/-! Dn15: the combinators computed: rules for simp. -/
namespace Dn
open PySem L2

/-! ### values -/
@[simp] theorem gz_zero {α : Type} {a : α} {l : List α} : (a :: l)[0]? = some a := rfl
@[simp] theorem gz_succ {α : Type} {a : α} {l : List α} {n : Nat} : (a :: l)[n + 1]? = l[n]? := rfl
@[simp] theorem pu_non : D.pure .non = true := rfl
@[simp] theorem pu_bl {b} : D.pure (.bl b) = true := rfl
@[simp] theorem pu_int {i} : D.pure (.int i) = true := rfl
@[simp] theorem pu_str {s} : D.pure (.str s) = true := rfl
@[simp] theorem pu_tup {ds} : D.pure (.tup ds) = true := rfl
@[simp] theorem pu_lst {ds} : D.pure (.lst ds) = true := rfl
@[simp] theorem pu_kl {ds} : D.pure (.kl ds) = true := rfl
@[simp] theorem pu_ml {ds} : D.pure (.ml ds) = false := rfl
@[simp] theorem pu_ins {c ns ds} : D.pure (.ins c ns ds) = false := rfl
@[simp] theorem ap_nil : allPure [] = true := rfl
@[simp] theorem ap_cons {d ds} : allPure (d :: ds) = (d.pure && allPure ds) := rfl
@[simp] theorem sz_line {n : Nat} (h : n ≤ 16777216) : (n ≤ sizeLine) = True := eq_true h
@[simp] theorem sz_lt {n : Nat} (h : n < 16777216) : (n < sizeLine) = True := eq_true h
def rdV (i : Nat) (o : Option (Option D)) (ss : Sl) : R Vx := match o with
  | some (some d) => if d.pure = true then .ok (.val d) ss else .ok (.plc i) ss
  | _ => .err
@[simp] theorem ev_var {i : Nat} {ss : Sl} : dVar i ss = rdV i ss[i]? ss := rfl
@[simp] theorem rdV_some {i : Nat} {d : D} {ss : Sl} : rdV i (some (some d)) ss = if d.pure = true then .ok (.val d) ss else .ok (.plc i) ss := rfl
@[simp] theorem rdV_none {i : Nat} {ss : Sl} : rdV i (some none) ss = .err := rfl
@[simp] theorem ev_cst {d : D} {ss : Sl} : dCst d ss = .ok (.val d) ss := rfl
def atV (o : Option (Option D)) : Option D := match o with
  | some (some d) => some d
  | _ => none
@[simp] theorem get_val' {d : D} {ss : Sl} : (Vx.val d).get ss = some d := rfl
@[simp] theorem get_plc' {i : Nat} {ss : Sl} : (Vx.plc i).get ss = atV ss[i]? := rfl
@[simp] theorem atV_some {d : D} : atV (some (some d)) = some d := rfl
def o2 (op : D → D → Option D) (a b : Option D) (ss : Sl) : R Vx := match a, b with
  | some a, some b => ofD (op a b) ss
  | _, _ => .err
@[simp] theorem op2_ap {op : D → D → Option D} {x y : Vx} {ss : Sl} : op2 op x y ss = o2 op (x.get ss) (y.get ss) ss := by
  unfold op2 get2 o2
  cases x.get ss <;> cases y.get ss <;> rfl
@[simp] theorem o2_some {op : D → D → Option D} {a b : D} {ss : Sl} : o2 op (some a) (some b) ss = ofD (op a b) ss := rfl
@[simp] theorem ofD_some {d : D} {ss : Sl} : ofD (some d) ss = .ok (.val d) ss := rfl
@[simp] theorem ev_d2 {op : D → D → Option D} {a b : EV} {ss : Sl} : d2 op a b ss = (a ss).bind fun x s1 => (b s1).bind fun y s2 => op2 op x y s2 := rfl
def o1 (op : D → Option D) (a : Option D) (ss : Sl) : R Vx := match a with
  | some a => ofD (op a) ss
  | none => .err
@[simp] theorem ev_d1 {op : D → Option D} {a : EV} {ss : Sl} : d1 op a ss = (a ss).bind fun x s1 => o1 op (x.get s1) s1 := rfl
@[simp] theorem o1_some {op : D → Option D} {a : D} {ss : Sl} : o1 op (some a) ss = ofD (op a) ss := rfl
@[simp] theorem neg_int {i : Int} : negD (.int i) = some (.int (-i)) := rfl
/-! ### arithmetic -/
@[simp] theorem bin_add {i j : Int} : binD .Add (.int i) (.int j) = some (.int (i + j)) := rfl
@[simp] theorem bin_sub {i j : Int} : binD .Sub (.int i) (.int j) = some (.int (i - j)) := rfl
theorem bin_mul {i j : Int} (h : (-18446744073709551616 < i ∧ i < 18446744073709551616) ∨ (-18446744073709551616 < j ∧ j < 18446744073709551616)) : binD .Mult (.int i) (.int j) = some (.int (i * j)) := by
  show (if (bigD i || bigD j) = true then _ else _) = _
  rw [if_pos]
  unfold bigD
  simp only [Bool.or_eq_true, Bool.and_eq_true, decide_eq_true_eq]
  exact h
@[simp] theorem bin_mulI {i j : Int} (h : -18446744073709551616 < i ∧ i < 18446744073709551616) : binD .Mult (.int i) (.int j) = some (.int (i * j)) := bin_mul (.inl h)
@[simp high] theorem bin_mulJ {i j : Int} (h : -18446744073709551616 < j ∧ j < 18446744073709551616) : binD .Mult (.int i) (.int j) = some (.int (i * j)) := bin_mul (.inr h)
@[simp] theorem bin_div {i j : Int} (h : 0 < j ∧ j < 18446744073709551616) : binD .FloorDiv (.int i) (.int j) = some (.int (i / j)) := if_pos h
@[simp] theorem bin_mod {i j : Int} (h : 0 < j) : binD .Mod (.int i) (.int j) = some (.int (i % j)) := if_pos h
theorem bin_pow {i j : Int} (h : 0 ≤ j ∧ j ≤ 1000000 ∧ i.natAbs < 2 ^ 64) : binD .Pow (.int i) (.int j) = some (.int (i ^ j.toNat)) := if_pos h
@[simp] theorem bin_p18 : binD .Pow (.int 10) (.int 18) = some (.int 1000000000000000000) := by rw [bin_pow (by decide)]; rfl
@[simp] theorem bin_p9 : binD .Pow (.int 10) (.int 9) = some (.int 1000000000) := by rw [bin_pow (by decide)]; rfl
/-! ### comparisons, truth -/
@[simp] theorem cm_lt {i j : Int} : cmpD' .Lt (.int i) (.int j) = some (.bl (decide (i < j))) := rfl
@[simp] theorem cm_le {i j : Int} : cmpD' .LtE (.int i) (.int j) = some (.bl (decide (i ≤ j))) := rfl
@[simp] theorem cm_gt {i j : Int} : cmpD' .Gt (.int i) (.int j) = some (.bl (decide (j < i))) := rfl
@[simp] theorem cm_ge {i j : Int} : cmpD' .GtE (.int i) (.int j) = some (.bl (decide (j ≤ i))) := rfl
@[simp] theorem cm_eq {i j : Int} : cmpD' .Eq (.int i) (.int j) = some (.bl (decide (i = j))) := rfl
@[simp] theorem cm_ne {i j : Int} : cmpD' .NotEq (.int i) (.int j) = some (.bl (!decide (i = j))) := rfl
@[simp] theorem cm_eqs {i j : Str} : cmpD' .Eq (.str i) (.str j) = some (.bl (decide (i = j))) := rfl
@[simp] theorem cm_nes {i j : Str} : cmpD' .NotEq (.str i) (.str j) = some (.bl (!decide (i = j))) := rfl
@[simp] theorem cm_eqb {i j : Bool} : cmpD' .Eq (.bl i) (.bl j) = some (.bl (decide (i = j))) := rfl
@[simp] theorem asB_bl {b : Bool} {ss : Sl} : asB (.val (.bl b)) ss = .ok b ss := rfl
@[simp] theorem ev_tb {a : EV} {ss : Sl} : dTB a ss = (a ss).bind fun x s1 => asB x s1 := rfl
def aT (o : Option D) (ss : Sl) : R Bool := match o with
  | some d => match truthD d with
    | some b => .ok b ss
    | none => .err
  | none => .err
@[simp] theorem asT_ap {x : Vx} {ss : Sl} : asT x ss = aT (x.get ss) ss := rfl
@[simp] theorem aT_bl {b : Bool} {ss : Sl} : aT (some (.bl b)) ss = .ok b ss := rfl
@[simp] theorem aT_int {i : Int} {ss : Sl} : aT (some (.int i)) ss = .ok (i != 0) ss := rfl
@[simp] theorem ev_tr {a : EV} {ss : Sl} : dTr a ss = (a ss).bind fun x s1 => asT x s1 := rfl
@[simp] theorem ev_notT {t : TV} {ss : Sl} : dNotT t ss = (t ss).bind fun b s1 => .ok (!b) s1 := rfl
@[simp] theorem ev_andT {t u : TV} {ss : Sl} : dAndT t u ss = (t ss).bind fun b s1 => if b = true then u s1 else .ok false s1 := rfl
@[simp] theorem ev_orT {t u : TV} {ss : Sl} : dOrT t u ss = (t ss).bind fun b s1 => if b = true then .ok true s1 else u s1 := rfl
@[simp] theorem ev_andE {a b : EV} {ss : Sl} : dAndE a b ss = (a ss).bind fun x s1 => (asB x s1).bind fun c s2 => if c = true then b s2 else .ok (.val (.bl false)) s2 := rfl
@[simp] theorem ev_orE {a b : EV} {ss : Sl} : dOrE a b ss = (a ss).bind fun x s1 => (asB x s1).bind fun c s2 => if c = true then .ok (.val (.bl true)) s2 else b s2 := rfl
@[simp] theorem ev_notE {a : EV} {ss : Sl} : dNotE a ss = (a ss).bind fun x s1 => (asB x s1).bind fun c s2 => .ok (.val (.bl (!c))) s2 := rfl
@[simp] theorem ev_ifE {t : TV} {a b : EV} {ss : Sl} : dIfE t a b ss = (t ss).bind fun c s1 => if c = true then a s1 else b s1 := rfl
@[simp] theorem ite_okI {c : Prop} [Decidable c] {x y : Int} {s : Sl} : (if c then R.ok (Vx.val (.int x)) s else R.ok (Vx.val (.int y)) s) = R.ok (Vx.val (.int (if c then x else y))) s := by split <;> rfl
/-! ### rows of values -/
@[simp] theorem ev_foldN {ss : Sl} : foldA [] ss = .ok [] ss := rfl
@[simp] theorem ev_foldC {f : EV} {fs : List EV} {ss : Sl} : foldA (f :: fs) ss = (f ss).bind fun x s1 => (foldA fs s1).bind fun xs s2 => .ok (x :: xs) s2 := rfl
@[simp] theorem frz_plc {i : Nat} : frz (.plc i) = .plc i := rfl
@[simp] theorem frz_ml {ds : List D} : frz (.val (.ml ds)) = if allPure ds = true then .val (.lst ds) else .val (.ml ds) := rfl
@[simp] theorem frz_non : frz (.val .non) = .val .non := rfl
@[simp] theorem frz_bl {b} : frz (.val (.bl b)) = .val (.bl b) := rfl
@[simp] theorem frz_int {b} : frz (.val (.int b)) = .val (.int b) := rfl
@[simp] theorem frz_str {b} : frz (.val (.str b)) = .val (.str b) := rfl
@[simp] theorem frz_tup {b} : frz (.val (.tup b)) = .val (.tup b) := rfl
@[simp] theorem frz_lst {b} : frz (.val (.lst b)) = .val (.lst b) := rfl
@[simp] theorem frz_kl {b} : frz (.val (.kl b)) = .val (.kl b) := rfl
@[simp] theorem ev_frz {a : EV} {ss : Sl} : dFrz a ss = (a ss).bind fun x s1 => .ok (frz x) s1 := rfl
@[simp] theorem pures_nil : pures [] = some [] := rfl
@[simp] theorem pures_cons {d : D} {r : List Vx} : pures (.val d :: r) = if d.pure = true then (pures r).map (d :: ·) else none := by
  show (if d.pure = true then (match pures r with | some ds => some (d :: ds) | none => none) else none) = _
  cases pures r <;> rfl
def mT (o : Option (List D)) (ss : Sl) : R Vx := match o with
  | some ds => if ds.length ≤ sizeLine then .ok (.val (.tup ds)) ss else .err
  | none => .err
def mL (o : Option (List D)) (ss : Sl) : R Vx := match o with
  | some ds => if ds.length ≤ sizeLine then .ok (.val (.ml ds)) ss else .err
  | none => .err
@[simp] theorem ev_tup {t : AV} {ss : Sl} : dTup t ss = (t ss).bind fun xs s1 => mT (pures xs) s1 := rfl
@[simp] theorem ev_lst {t : AV} {ss : Sl} : dLst t ss = (t ss).bind fun xs s1 => mL (pures xs) s1 := rfl
@[simp] theorem mT_some {ds : List D} {ss : Sl} : mT (some ds) ss = if ds.length ≤ sizeLine then .ok (.val (.tup ds)) ss else .err := rfl
@[simp] theorem mL_some {ds : List D} {ss : Sl} : mL (some ds) ss = if ds.length ≤ sizeLine then .ok (.val (.ml ds)) ss else .err := rfl
@[simp] theorem ga_nil {ss : Sl} : getAll [] ss = some [] := rfl
def ga2 (o : Option D) (r : Option (List D)) : Option (List D) := match o, r with
  | some d, some ds => some (d :: ds)
  | _, _ => none
@[simp] theorem ga_cons {x : Vx} {xs : List Vx} {ss : Sl} : getAll (x :: xs) ss = ga2 (x.get ss) (getAll xs ss) := rfl
@[simp] theorem ga2_some {d : D} {ds : List D} : ga2 (some d) (some ds) = some (d :: ds) := rfl
/-! ### calls -/
def oL (op : List D → Option D) (o : Option (List D)) (ss : Sl) : R Vx := match o with
  | some ds => match op ds with
    | some d => .ok (.val d) ss
    | none => .err
  | none => .err
theorem opL_eq {op : List D → Option D} {xs : List Vx} {ss : Sl} : opL op xs ss = oL op (getAll xs ss) ss := by
  unfold opL oL
  cases getAll xs ss with
  | none => rfl
  | some ds => rfl
@[simp] theorem ev_prim {op : List D → Option D} {g : AV} {ss : Sl} : dPrim op g ss = (g ss).bind fun xs s1 => oL op (getAll xs s1) s1 := by
  unfold dPrim
  have : opL op = fun xs s1 => oL op (getAll xs s1) s1 := by funext xs s1; exact opL_eq
  rw [this]
def oL2 (o : Option D) (ss : Sl) : R Vx := match o with
  | some d => .ok (.val d) ss
  | none => .err
@[simp] theorem oL_some {op : List D → Option D} {ds : List D} {ss : Sl} : oL op (some ds) ss = oL2 (op ds) ss := rfl
@[simp] theorem oL2_some {d : D} {ss : Sl} : oL2 (some d) ss = .ok (.val d) ss := rfl
/-- shut to the kernel: it would take the number apart -/
theorem absI_ex (i : Int) : ∃ j : Int, j = (i.natAbs : Int) := ⟨_, rfl⟩
noncomputable def absI (i : Int) : Int := Classical.choose (absI_ex i)
theorem absI_eq {i : Int} : absI i = (i.natAbs : Int) := Classical.choose_spec (absI_ex i)
theorem absI_nn {i : Int} : 0 ≤ absI i := by rw [absI_eq]; omega
@[simp] theorem bl_abs {i : Int} : bltD .abs [.int i] = some (.int (absI i)) := by
  rw [absI_eq]
  show some (D.int (if i < 0 then -i else i)) = _
  congr 2
  split <;> omega
@[simp] theorem bl_int {i : Int} : bltD .int [.int i] = some (.int i) := rfl
@[simp] theorem bl_max {i j : Int} : bltD .max [.int i, .int j] = some (.int (max i j)) := by
  show some (D.int (if j > i then j else i)) = _
  congr 2
  split <;> omega
@[simp] theorem bl_min {i j : Int} : bltD .min [.int i, .int j] = some (.int (min i j)) := by
  show some (D.int (if j < i then j else i)) = _
  congr 2
  split <;> omega
@[simp] theorem bl_lenT {ds : List D} : bltD .len [.tup ds] = some (.int ds.length) := rfl
@[simp] theorem bl_lenL {ds : List D} : bltD .len [.lst ds] = some (.int ds.length) := rfl
@[simp] theorem bl_lenM {ds : List D} : bltD .len [.ml ds] = some (.int ds.length) := rfl
@[simp] theorem bl_lenK {ds : List D} : bltD .len [.kl ds] = some (.int ds.length) := rfl
def endC (r : RF) (xs : List Vx) (ss : Sl) : R Vx := match r with
  | .ok d as => .ok (.val d) (wb xs as ss)
  | .exc e as => .exc e (wb xs as ss)
  | .err => .err
def cF (n : Nat) (F : FV) (xs : List Vx) (o : Option (List D)) (ss : Sl) : R Vx := match o with
  | some ds => if ds.length = n ∧ (plcs xs).Nodup then endC (F ds) xs ss else .err
  | none => .err
@[simp] theorem ev_call {n : Nat} {F : FV} {g : AV} {ss : Sl} : dCall n F g ss = (g ss).bind fun xs s1 => cF n F xs (getAll xs s1) s1 := by
  unfold dCall
  congr 1
@[simp] theorem cF_some {n : Nat} {F : FV} {xs : List Vx} {ds : List D} {ss : Sl} : cF n F xs (some ds) ss = if ds.length = n ∧ (plcs xs).Nodup then endC (F ds) xs ss else .err := rfl
@[simp] theorem endC_ok {d : D} {as : List D} {xs : List Vx} {ss : Sl} : endC (.ok d as) xs ss = .ok (.val d) (wb xs as ss) := rfl
@[simp] theorem plcs_nil : plcs [] = [] := rfl
@[simp] theorem plcs_val {d : D} {r : List Vx} : plcs (.val d :: r) = plcs r := rfl
@[simp] theorem plcs_plc {i : Nat} {r : List Vx} : plcs (.plc i :: r) = i :: plcs r := rfl
@[simp] theorem wb_nil {as : List D} {ss : Sl} : wb [] as ss = ss := by unfold wb; rfl
@[simp] theorem wb_val {d a : D} {r : List Vx} {as : List D} {ss : Sl} : wb (.val d :: r) (a :: as) ss = wb r as ss := rfl
@[simp] theorem wb_plc {i : Nat} {a : D} {r : List Vx} {as : List D} {ss : Sl} : wb (.plc i :: r) (a :: as) ss = wb r as (ss.set i (some a)) := rfl
def endK (r : RF) (ss : Sl) : R Vx := match r with
  | .ok d _ => .ok (.val d) ss
  | .exc e _ => .exc e ss
  | .err => .err
def kF2 (F : FV) (o : Option (List D)) (ss : Sl) : R Vx := match o with
  | some es => endK (F es) ss
  | none => .err
def kF (ps ks : List Str) (F : FV) (o : Option (List D)) (ss : Sl) : R Vx := match o with
  | some ds => if ds.length = ks.length then kF2 F (permL ks ps ds) ss else .err
  | none => .err
@[simp] theorem ev_callK {ps ks : List Str} {F : FV} {g : AV} {ss : Sl} : dCallK ps ks F g ss = (g ss).bind fun xs s1 => kF ps ks F (pures xs) s1 := rfl
@[simp] theorem kF_some {ps ks : List Str} {F : FV} {ds : List D} {ss : Sl} : kF ps ks F (some ds) ss = if ds.length = ks.length then kF2 F (permL ks ps ds) ss else .err := rfl
@[simp] theorem kF2_some {F : FV} {es : List D} {ss : Sl} : kF2 F (some es) ss = endK (F es) ss := rfl
@[simp] theorem endK_ok {d : D} {as : List D} {ss : Sl} : endK (.ok d as) ss = .ok (.val d) ss := rfl
def aI (c : Cl) (o : Option D) (ss : Sl) : R Vx := match o with
  | some d => match isiD d c with
    | some b => .ok (.val (.bl b)) ss
    | none => .err
  | none => .err
@[simp] theorem ev_isi {c : Cl} {f : EV} {ss : Sl} : dIsi c f ss = (f ss).bind fun x s1 => aI c (x.get s1) s1 := rfl
@[simp] theorem aI_int {i : Int} {c : Cl} {ss : Sl} : aI c (some (.int i)) ss = .ok (.val (.bl (isTy .int c))) ss := rfl
@[simp] theorem aI_bl {i : Bool} {c : Cl} {ss : Sl} : aI c (some (.bl i)) ss = .ok (.val (.bl (isTy .bl c))) ss := rfl
@[simp] theorem aI_str {i : Str} {c : Cl} {ss : Sl} : aI c (some (.str i)) ss = .ok (.val (.bl (isTy .str c))) ss := rfl
@[simp] theorem aI_tup {i} {c : Cl} {ss : Sl} : aI c (some (.tup i)) ss = .ok (.val (.bl (isTy .tup c))) ss := rfl
@[simp] theorem aI_lst {i} {c : Cl} {ss : Sl} : aI c (some (.lst i)) ss = .ok (.val (.bl (isTy .lst c))) ss := rfl
@[simp] theorem aI_kl {i} {c : Cl} {ss : Sl} : aI c (some (.kl i)) ss = .ok (.val (.bl (isTy .lst c))) ss := rfl
@[simp] theorem aI_ml {i} {c : Cl} {ss : Sl} : aI c (some (.ml i)) ss = .ok (.val (.bl (isTy .lst c))) ss := rfl
@[simp] theorem aI_non {c : Cl} {ss : Sl} : aI c (some .non) ss = .ok (.val (.bl (isTy .non c))) ss := rfl
@[simp] theorem ty1 : isTy .int .int = true := rfl
@[simp] theorem ty2 : isTy .int .bool = false := rfl
@[simp] theorem ty3 : isTy .tup .tuple = true := rfl
@[simp] theorem ty4 : isTy .lst .list = true := rfl
@[simp] theorem ty5 : isTy .bl .bool = true := rfl
@[simp] theorem ty6 : isTy .bl .int = true := rfl
@[simp] theorem ty7 : isTy .str .str = true := rfl
@[simp] theorem ty8 : isTy .lst .tuple = false := rfl
@[simp] theorem ty9 : isTy .tup .list = false := rfl
@[simp] theorem ty10 : isTy .str .int = false := rfl
@[simp] theorem ty11 : isTy .int .str = false := rfl
/-! ### subscripts -/
def ix1 (o : Option D) : Option D := match o with
  | some d => if d.pure = true then some d else none
  | none => none
@[simp] theorem ix_tup {ds : List D} {i : Int} : ixD (.tup ds) (.int i) = ix1 (atI ds i) := rfl
@[simp] theorem ix_lst {ds : List D} {i : Int} : ixD (.lst ds) (.int i) = ix1 (atI ds i) := rfl
@[simp] theorem ix_ml {ds : List D} {i : Int} : ixD (.ml ds) (.int i) = ix1 (atI ds i) := rfl
@[simp] theorem ix_kl {ds : List D} {i : Int} : ixD (.kl ds) (.int i) = ix1 (atI ds i) := rfl
@[simp] theorem ix1_some {d : D} : ix1 (some d) = if d.pure = true then some d else none := rfl
theorem atI_pos {α : Type} {xs : List α} {i : Int} {a : α} (h0 : 0 ≤ i) (h : xs[i.toNat]? = some a) : atI xs i = some a := by
  have hl := (List.getElem?_eq_some_iff.mp h).1
  unfold atI ixN
  rw [if_pos h0, if_pos (by omega)]
  exact h
@[simp] theorem at0 {α : Type} {a : α} {xs : List α} : atI (a :: xs) 0 = some a := atI_pos (by decide) rfl
@[simp] theorem at1 {α : Type} {a b : α} {xs : List α} : atI (a :: b :: xs) 1 = some b := atI_pos (by decide) rfl
@[simp] theorem at2 {α : Type} {a b c : α} {xs : List α} : atI (a :: b :: c :: xs) 2 = some c := atI_pos (by decide) rfl
@[simp] theorem at3 {α : Type} {a b c d : α} {xs : List α} : atI (a :: b :: c :: d :: xs) 3 = some d := atI_pos (by decide) rfl
/-! ### statements -/
variable {L : List Nat} {ss : Sl}
@[simp] theorem sv_pass : dPass L ss = .nx ss := rfl
@[simp] theorem sv_break : dBreak L ss = .bk ss := rfl
@[simp] theorem sv_cont : dCont L ss = .ct ss := rfl
@[simp] theorem sv_retN : dRetN L ss = .rt .non ss := rfl
@[simp] theorem sv_drop {f : EV} : dDrop f L ss = (f ss).toS fun _ s1 => .nx s1 := rfl
@[simp] theorem sv_ret {f : EV} : dRet f L ss = (f ss).toS fun x s1 => retX L x s1 := rfl
@[simp] theorem retX_val {d : D} : retX L (.val d) ss = .rt d ss := rfl
def rtO (i : Nat) (o : Option (Option D)) (ss : Sl) : RS := match o with
  | some (some d) => .rt d (ss.set i none)
  | _ => .err
@[simp] theorem retX_plc {i : Nat} : retX L (.plc i) ss = if i ∈ L then .err else rtO i ss[i]? ss := rfl
@[simp] theorem rtO_some {i : Nat} {d : D} : rtO i (some (some d)) ss = .rt d (ss.set i none) := rfl
@[simp] theorem sv_if {t : TV} {a b : SV} : dIf t a b L ss = (t ss).toS fun c s1 => if c = true then a L s1 else b L s1 := rfl
@[simp] theorem sv_seq {a b : SV} : dSeq a b L ss = (a L ss).seq (b L) := rfl
@[simp] theorem sv_set {i : Nat} {f : EV} : dSet i f L ss = (f ss).toS fun x s1 => setX L i x s1 := rfl
@[simp] theorem setX_val {i : Nat} {d : D} : setX L i (.val d) ss = if i ∈ L ∨ ss.length ≤ i then .err else .nx (ss.set i (some d)) := rfl
@[simp] theorem sv_par {is : List Nat} {g : AV} : dPar is g L ss = (g ss).toS fun xs s1 => setMany L is xs s1 := rfl
@[simp] theorem sm_nil : setMany L [] [] ss = .nx ss := rfl
@[simp] theorem sm_cons {i : Nat} {is : List Nat} {x : Vx} {xs : List Vx} : setMany L (i :: is) (x :: xs) ss = (setX L i x ss).seq (setMany L is xs) := rfl
@[simp] theorem isMl_ml {ds : List D} : isMl (some (some (.ml ds))) = true := rfl
@[simp] theorem sv_setIx {i : Nat} {k f : EV} : dSetIx i k f L ss = (f ss).toS fun x s1 => if isMl s1[i]? = true then (k s1).toS fun y s2 => asg2 i x y s2 else .err := rfl
def as3 (i : Nat) (d : D) (ds : List D) (o : Option Nat) (ss : Sl) : RS := match o with
  | some j => .nx (ss.set i (some (.ml (ds.set j d))))
  | none => .err
def as4 (i : Nat) (d : D) (k : Int) (o : Option (Option D)) (ss : Sl) : RS := match o with
  | some (some (.ml ds)) => if d.pure = true ∧ allPure ds = true then as3 i d ds (ixN ds.length k) ss else .err
  | _ => .err
@[simp] theorem asg2_ap {i : Nat} {d : D} {k : Int} : asg2 i (.val d) (.val (.int k)) ss = as4 i d k ss[i]? ss := by
  unfold asg2 as4
  split
  · rename_i d' k' ds e1 e2 e3
    cases e1; cases e2
    rw [e3]
    dsimp only
    split
    · unfold as3; cases ixN ds.length k <;> rfl
    · rfl
  · rename_i h
    split
    · rename_i ds e
      exact absurd e (h d k ds rfl rfl)
    · rfl
@[simp] theorem as4_ml {i : Nat} {d : D} {k : Int} {ds : List D} : as4 i d k (some (some (.ml ds))) ss = if d.pure = true ∧ allPure ds = true then as3 i d ds (ixN ds.length k) ss else .err := rfl
@[simp] theorem as3_some {i j : Nat} {d : D} {ds : List D} : as3 i d ds (some j) ss = .nx (ss.set i (some (.ml (ds.set j d)))) := rfl
@[simp] theorem ixN_0 {n : Nat} (h : 0 < n) : ixN n 0 = some 0 := by unfold ixN; rw [if_pos (by decide), if_pos (by omega)]; rfl
@[simp] theorem ixN_1 {n : Nat} (h : 1 < n) : ixN n 1 = some 1 := by unfold ixN; rw [if_pos (by decide), if_pos (by omega)]; rfl
def augO (L : List Nat) (op : Operator) (i : Nat) (f : EV) (o : Option (Option D)) (ss : Sl) : RS := match o with
  | some (some d) => (f ss).toS (augX L op i d)
  | _ => .err
@[simp] theorem sv_aug {op : Operator} {i : Nat} {f : EV} : dAug op i f L ss = augO L op i f ss[i]? ss := rfl
@[simp] theorem augO_some {op : Operator} {i : Nat} {f : EV} {d : D} : augO L op i f (some (some d)) ss = (f ss).toS (augX L op i d) := rfl
def augS (L : List Nat) (i : Nat) (o : Option D) (ss : Sl) : RS := match o with
  | some z => if i ∈ L ∨ ss.length ≤ i then .err else .nx (ss.set i (some z))
  | none => .err
@[simp] theorem augX_val {op : Operator} {i : Nat} {d e : D} : augX L op i d (.val e) ss = augS L i (augD op d e) ss := rfl
@[simp] theorem augS_some {i : Nat} {z : D} : augS L i (some z) ss = if i ∈ L ∨ ss.length ≤ i then .err else .nx (ss.set i (some z)) := rfl
@[simp] theorem aug_add {i j : Int} : augD .Add (.int i) (.int j) = some (.int (i + j)) := rfl
@[simp] theorem aug_sub {i j : Int} : augD .Sub (.int i) (.int j) = some (.int (i - j)) := rfl
@[simp] theorem ev_append {i : Nat} {f : EV} : dAppend i f ss = if isMl ss[i]? = true then (foldA [f] ss).bind fun xs s1 => appendX i xs s1 else .err := rfl
def apO (i : Nat) (d : D) (o : Option (Option D)) (ss : Sl) : R Vx := match o with
  | some (some (.ml ds)) => if d.pure = true ∧ ds.length < sizeLine then .ok (.val .non) (ss.set i (some (.ml (ds ++ [d])))) else .err
  | _ => .err
@[simp] theorem appendX_ap {i : Nat} {d : D} : appendX i [.val d] ss = apO i d ss[i]? ss := by
  unfold appendX apO
  split
  · rename_i d' ds e1 e2
    cases e1
    rw [e2]
  · rename_i h
    split
    · rename_i ds e
      exact absurd e (h d ds rfl)
    · rfl
@[simp] theorem apO_ml {i : Nat} {d : D} {ds : List D} : apO i d (some (some (.ml ds))) ss = if d.pure = true ∧ ds.length < sizeLine then .ok (.val .non) (ss.set i (some (.ml (ds ++ [d])))) else .err := rfl
def unpO (L : List Nat) (o : Option Sl) : RS := match o with
  | some s1 => .nx s1
  | none => .err
@[simp] theorem sv_unp {tg : Tg} {f : EV} : dUnp tg f L ss = (f ss).toS fun x s1 => unpX L tg x s1 := rfl
@[simp] theorem unpX_val {tg : Tg} {d : D} : unpX L tg (.val d) ss = if d.pure = true then unpO L (tgSet L tg d ss) else .err := rfl
@[simp] theorem unpO_some {s1 : Sl} : unpO L (some s1) = .nx s1 := rfl
@[simp] theorem set1_ap {i : Nat} {d : D} : set1 L i d ss = if i ∈ L ∨ ss.length ≤ i then none else some (ss.set i (some d)) := rfl
@[simp] theorem tg_nm {i : Nat} {d : D} : tgSet L (.nm i) d ss = set1 L i d ss := rfl
@[simp] theorem tg_tp {is : List Nat} {ds : List D} : tgSet L (.tp is) (.tup ds) ss = if ds.length = is.length then setL L is ds ss else none := rfl
@[simp] theorem setL_nil : setL L [] [] ss = some ss := rfl
@[simp] theorem setL_cons {i : Nat} {is : List Nat} {d : D} {ds : List D} : setL L (i :: is) (d :: ds) ss = (set1 L i d ss).bind fun s1 => setL L is ds s1 := by
  show (match set1 L i d ss with | some s1 => setL L is ds s1 | none => none) = _
  cases set1 L i d ss <;> rfl
/-! ### loops -/
@[simp] theorem sv_for {f : IV} {tg : Tg} {g : SV} : dFor f tg g L ss = (f ss).toS fun it s1 => forGo tg g it (lkOf L it) it.ds s1 := rfl
@[simp] theorem lk_none {ds : List D} : lkOf L ⟨ds, none⟩ = L := rfl
@[simp] theorem lk_some {ds es : List D} {j : Nat} : lkOf L ⟨ds, some (j, es)⟩ = j :: L := rfl
theorem src_none {ds : List D} : srcOk ⟨ds, none⟩ ss = true := rfl
theorem src_some {ds es : List D} {j : Nat} (h : ss[j]? = some (some (.ml es))) : srcOk ⟨ds, some (j, es)⟩ ss = true := by
  unfold srcOk
  dsimp only
  rw [if_pos h]
@[simp] theorem iv_seq {f : EV} : dSeqIt f ss = (f ss).bind fun x s1 => seqIt x s1 := rfl
@[simp] theorem seqIt_tup {ds : List D} : seqIt (.val (.tup ds)) ss = .ok ⟨ds, none⟩ ss := rfl
@[simp] theorem seqIt_lst {ds : List D} : seqIt (.val (.lst ds)) ss = .ok ⟨ds, none⟩ ss := rfl
@[simp] theorem seqIt_kl {ds : List D} : seqIt (.val (.kl ds)) ss = .ok ⟨ds, none⟩ ss := rfl
def sqO (j : Nat) (o : Option (Option D)) (ss : Sl) : R ItD := match o with
  | some (some (.ml ds)) => if allPure ds = true then .ok ⟨ds, some (j, ds)⟩ ss else .err
  | _ => .err
@[simp] theorem seqIt_plc {j : Nat} : seqIt (.plc j) ss = sqO j ss[j]? ss := rfl
@[simp] theorem sqO_ml {j : Nat} {ds : List D} : sqO j (some (some (.ml ds))) ss = if allPure ds = true then .ok ⟨ds, some (j, ds)⟩ ss else .err := rfl
@[simp] theorem iv_rev {f : EV} : dRevIt f ss = (f ss).bind fun x s1 => revIt x s1 := rfl
def rvO (j : Nat) (o : Option (Option D)) (ss : Sl) : R ItD := match o with
  | some (some (.ml ds)) => if allPure ds = true then .ok ⟨ds.reverse, some (j, ds)⟩ ss else .err
  | _ => .err
@[simp] theorem revIt_plc {j : Nat} : revIt (.plc j) ss = rvO j ss[j]? ss := rfl
@[simp] theorem rvO_ml {j : Nat} {ds : List D} : rvO j (some (some (.ml ds))) ss = if allPure ds = true then .ok ⟨ds.reverse, some (j, ds)⟩ ss else .err := rfl
@[simp] theorem revIt_tup {ds : List D} : revIt (.val (.tup ds)) ss = .ok ⟨ds.reverse, none⟩ ss := rfl
@[simp] theorem revIt_lst {ds : List D} : revIt (.val (.lst ds)) ss = .ok ⟨ds.reverse, none⟩ ss := rfl
@[simp] theorem revIt_kl {ds : List D} : revIt (.val (.kl ds)) ss = .ok ⟨ds.reverse, none⟩ ss := rfl
@[simp] theorem iv_rng {g : AV} : dRng g ss = (g ss).bind fun xs s1 => rngIt xs s1 := rfl
@[simp] theorem rng_1 {j : Int} (h : -4611686018427387904 ≤ j ∧ j < 4611686018427387904) : rngIt [.val (.int j)] ss = .ok ⟨rngD 0 j.toNat, none⟩ ss := by
  show (if smallI j = true then _ else _) = _
  rw [if_pos]
  unfold smallI
  simp only [Bool.and_eq_true, decide_eq_true_eq]
  exact h
@[simp] theorem rng_2 {i j : Int} (h : (-4611686018427387904 ≤ i ∧ i < 4611686018427387904) ∧ (-4611686018427387904 ≤ j ∧ j < 4611686018427387904)) : rngIt [.val (.int i), .val (.int j)] ss = .ok ⟨rngD i (j - i).toNat, none⟩ ss := by
  show (if (smallI i && smallI j) = true then _ else _) = _
  rw [if_pos]
  unfold smallI
  simp only [Bool.and_eq_true, decide_eq_true_eq]
  exact h
/-- a loop by its invariant over what is walked: I k holds before turn k -/
theorem for_inv {tg : Tg} {g : SV} {it : ItD} (I : Nat → Sl → Prop) (h0 : I 0 ss) (hs : ∀ k s, I k s → srcOk it s = true)
    (step : ∀ k s d, I k s → it.ds[k]? = some d → ∃ s1 s2, tgSet L tg d s = some s1 ∧ (g L s1 = .nx s2 ∨ g L s1 = .ct s2) ∧ I (k + 1) s2) : ∃ s', forGo tg g it L it.ds ss = .nx s' ∧ I it.ds.length s' := by
  have go : ∀ (r : List D) (k : Nat) (s : Sl), it.ds.drop k = r → k ≤ it.ds.length → I k s → ∃ s', forGo tg g it L r s = .nx s' ∧ I it.ds.length s' := by
    intro r
    induction r with
    | nil =>
      intro k s hr hk hI
      have : k = it.ds.length := by
        have := congrArg List.length hr
        rw [List.length_drop] at this
        simp at this
        omega
      subst this
      refine ⟨s, ?_, hI⟩
      unfold forGo
      rw [if_pos (hs _ _ hI)]
    | cons d r ih =>
      intro k s hr hk hI
      have hk' : k < it.ds.length := by
        have := congrArg List.length hr
        rw [List.length_drop] at this
        simp at this
        omega
      have hd : it.ds[k]? = some d := by
        rw [List.drop_eq_getElem_cons hk'] at hr
        injection hr with h1 h2
        rw [List.getElem?_eq_getElem hk', h1]
      have hr' : it.ds.drop (k + 1) = r := by
        rw [List.drop_eq_getElem_cons hk'] at hr
        injection hr with h1 h2
      obtain ⟨s1, s2, e1, e2, h2⟩ := step k s d hI hd
      obtain ⟨s', e3, h3⟩ := ih (k + 1) s2 hr' hk' h2
      refine ⟨s', ?_, h3⟩
      unfold forGo
      rw [if_pos (hs _ _ hI), e1]
      dsimp only
      rcases e2 with e2 | e2
      · rw [e2]; exact e3
      · rw [e2]; exact e3
  exact go it.ds 0 ss rfl (Nat.zero_le _) h0
theorem for_of {tg : Tg} {g : SV} {it : ItD} {r : RS} (hf : forGo tg g it L it.ds ss = r) (I : Nat → Sl → Prop) (h0 : I 0 ss) (hs : ∀ k s, I k s → srcOk it s = true)
    (step : ∀ k s d, I k s → it.ds[k]? = some d → ∃ s1 s2, tgSet L tg d s = some s1 ∧ (g L s1 = .nx s2 ∨ g L s1 = .ct s2) ∧ I (k + 1) s2) : ∃ s', r = .nx s' ∧ I it.ds.length s' := by
  obtain ⟨s', e, h⟩ := for_inv I h0 hs step
  exact ⟨s', hf.symm.trans e, h⟩
/-- a while by an invariant with its measure -/
theorem while_inv {t : TV} {g : SV} (I : Nat → Sl → Prop) {m : Nat} (h0 : I m ss) {Z : Sl → Prop}
    (step : ∀ m s, I m s → (∃ s1, t s = .ok false s1 ∧ Z s1) ∨ (∃ s1 s2, t s = .ok true s1 ∧ (g L s1 = .nx s2 ∨ g L s1 = .ct s2) ∧ ∃ m', m' < m ∧ I m' s2)) : ∃ s', dWhile t g L ss = .nx s' ∧ Z s' := by
  have go : ∀ (n m : Nat) (s : Sl), m < n → I m s → ∃ s', whGo t g L n s = .nx s' ∧ Z s' := by
    intro n
    induction n with
    | zero => intro m s h; omega
    | succ n ih =>
      intro m s hm hI
      rcases step m s hI with ⟨s1, e1, z⟩ | ⟨s1, s2, e1, e2, m', hm', h2⟩
      · refine ⟨s1, ?_, z⟩
        unfold whGo
        rw [e1]
        rfl
      · obtain ⟨s', e3, z⟩ := ih m' s2 (by omega) h2
        refine ⟨s', ?_, z⟩
        unfold whGo
        rw [e1]
        dsimp only [R.toS_ok]
        rw [if_pos rfl]
        rcases e2 with e2 | e2
        · rw [e2]; exact e3
        · rw [e2]; exact e3
  obtain ⟨s', e, z⟩ := go (m + 1) m ss (Nat.lt_succ_self _) h0
  exact ⟨s', dWhile_eq e (fun z => by cases z), z⟩
theorem while_of {t : TV} {g : SV} {r : RS} (hf : dWhile t g L ss = r) (I : Nat → Sl → Prop) (m : Nat) (h0 : I m ss) (Z : Sl → Prop)
    (step : ∀ m s, I m s → (∃ s1, t s = .ok false s1 ∧ Z s1) ∨ (∃ s1 s2, t s = .ok true s1 ∧ (g L s1 = .nx s2 ∨ g L s1 = .ct s2) ∧ ∃ m', m' < m ∧ I m' s2)) : ∃ s', r = .nx s' ∧ Z s' := by
  obtain ⟨s', e, h⟩ := while_inv (Z := Z) I h0 step
  exact ⟨s', hf.symm.trans e, h⟩
/-! ### defs -/
@[simp] theorem lo_nil {i : Nat} : locksOf i [] = [] := rfl
@[simp] theorem lo_cons {i : Nat} {d : D} {ds : List D} : locksOf i (d :: ds) = if d.pure = true then locksOf (i + 1) ds else i :: locksOf (i + 1) ds := rfl
@[simp] theorem fn_ap {n N : Nat} {g : SV} {ds : List D} : dFn n N g ds = if ds.length = n ∧ n ≤ N then endF ds (g (locksOf 0 ds) (ds.map some ++ List.replicate (N - n) none)) else .err := rfl
def enO (d : D) (o : Option (List D)) : RF := match o with
  | some as => .ok d as
  | none => .err
@[simp] theorem en_nx {ds : List D} : endF ds (.nx ss) = enO .non (wbk ds ss) := rfl
@[simp] theorem en_rt {ds : List D} {d : D} : endF ds (.rt d ss) = enO d (wbk ds ss) := rfl
@[simp] theorem enO_some {d : D} {as : List D} : enO d (some as) = .ok d as := rfl
@[simp] theorem wbk_nil : wbk [] ss = some [] := by unfold wbk; rfl
def wk2 (o : Option D) (r : Option (List D)) : Option (List D) := match o, r with
  | some e, some es => some (e :: es)
  | _, _ => none
@[simp] theorem wbk_cons {d : D} {ds : List D} {o : Option D} : wbk (d :: ds) (o :: ss) = wk2 (if d.pure = true then some d else o) (wbk ds ss) := rfl
@[simp] theorem wk2_some {d : D} {ds : List D} : wk2 (some d) (some ds) = some (d :: ds) := rfl
end Dn

set_option Elab.async false
set_option linter.all false
set_option maxRecDepth 100000
set_option maxHeartbeats 0
namespace K49
open PySem L2 Dn
def top (i : Nat) : Stmt := PySem.Challenge.pw_wayskept_k49_the_three_bounds_in_rounds.main.body.getD i (.Pass ⟨0, 0, 0, 0⟩)
def kw : List (Str × List Str) := [("told_bounds", ["cost", "distance", "n"]), ("dark_bound", ["n"])]
def d_dark_bound : DI := ⟨"dark_bound", top 1, ["n"], ["n"], 0⟩
def t_dark_bound : List DI := d_dark_bound :: []
noncomputable def F_dark_bound : FV := d_dark_bound.F kw [] (lev []) (tabR kw [] [])
theorem f_dark_bound : F_dark_bound = dFn 1 1 (dRet (d2 (binD .Add) (d2 (binD .Mult) (dCst (.int 2)) (dVar 0)) (dCst (.int 2)))) := by kernel_rfl
theorem s_dark_bound : TabS kw d_dark_bound := ⟨⟨rfl, rfl, rfl, by decide +kernel, rfl, by decide +kernel, by decide +kernel⟩, fun _ _ _ _ _ _ us hl => match us, hl with | [_], _ => rfl, by
  intro ks hk kV doc pm an cdv ct ws us hl e
  have hk2 : ks = (["n"] : List Str) := kb_one (by decide +kernel) hk
  subst hk2
  match ws, hl with
  | [a0], _ =>
    have e2 : us = [a0] := (Option.some.inj e).symm
    subst e2
    rfl⟩
def d_told_bounds : DI := ⟨"told_bounds", top 3, ["n", "distance", "cost"], ["n", "distance", "cost"], 0⟩
def t_told_bounds : List DI := d_told_bounds :: t_dark_bound
noncomputable def F_told_bounds : FV := d_told_bounds.F kw [] (lev t_dark_bound) (tabR kw [] t_dark_bound)
theorem f_told_bounds : F_told_bounds = dFn 3 3 (dRet (dTup (foldA [(dFrz (d2 (binD .Mult) (dCst (.int 2)) (dVar 0))), (dFrz (dCall 1 F_dark_bound (foldA [(dVar 0)]))), (dFrz (d2 (binD .Add) (d2 (binD .Add) (d2 (binD .FloorDiv) (dVar 1) (dVar 2)) (d2 (binD .Mult) (dCst (.int 5)) (dVar 0))) (dCst (.int 4))))]))) := by kernel_rfl
theorem s_told_bounds : TabS kw d_told_bounds := ⟨⟨rfl, rfl, rfl, by decide +kernel, rfl, by decide +kernel, by decide +kernel⟩, fun _ _ _ _ _ _ us hl => match us, hl with | [_, _, _], _ => rfl, by
  intro ks hk kV doc pm an cdv ct ws us hl e
  have hk2 : ks = (["cost", "distance", "n"] : List Str) := kb_one (by decide +kernel) hk
  subst hk2
  match ws, hl with
  | [a0, a1, a2], _ =>
    have e2 : us = [a2, a1, a0] := (Option.some.inj e).symm
    subst e2
    rfl⟩
def d__law_box : DI := ⟨"_law_box", top 5, ["script", "k", "cell", "great"], ["script", "k"], 0⟩
def t__law_box : List DI := d__law_box :: t_told_bounds
noncomputable def F__law_box : FV := d__law_box.F kw [] (lev t_told_bounds) (tabR kw [] t_told_bounds)
theorem f__law_box : F__law_box = dFn 2 4 (dSeq (dSet 2 (d2 (binD .Add) (d2 (binD .Mult) (dCst (.int 19183)) (dVar 1)) (dCst (.int 6211)))) (dSeq (dIf (dTB (d2 (cmpD' .Lt) (dVar 1) (dPrim (bltD .len) (foldA [(dVar 0)])))) (dSet 2 (dPrim (bltD .abs) (foldA [(dPrim (bltD .int) (foldA [(d2 ixD (dVar 0) (dVar 1))]))]))) (dIf (dTB (d2 (cmpD' .Gt) (dPrim (bltD .len) (foldA [(dVar 0)])) (dCst (.int 0)))) (dSet 2 (d2 (binD .Add) (dVar 2) (d2 (binD .Mult) (d2 (binD .Mod) (dPrim (bltD .int) (foldA [(dPrim (bltD .abs) (foldA [(dPrim (bltD .int) (foldA [(d2 ixD (dVar 0) (d2 (binD .Mod) (dPrim (bltD .int) (foldA [(dVar 1)])) (dPrim (bltD .len) (foldA [(dVar 0)]))))]))]))])) (dCst (.int 2147483563))) (dCst (.int 90007))))) dPass)) (dSeq (dSet 3 (dIfE (dTB (d2 (cmpD' .GtE) (dVar 2) (d2 (binD .Pow) (dCst (.int 10)) (dCst (.int 18))))) (dVar 2) (dCst (.int 0)))) (dRet (dLst (foldA [(dFrz (dVar 3)), (dFrz (d2 (binD .Add) (d2 (binD .Mod) (dPrim (bltD .int) (foldA [(d2 (binD .Add) (d2 (binD .Mult) (d2 (binD .Mod) (dPrim (bltD .int) (foldA [(dVar 2)])) (dCst (.int 2147483563))) (dCst (.int 54250003))) (d2 (binD .Mult) (dCst (.int 6211)) (dVar 1)))])) (dCst (.int 2147483563))) (dCst (.int 1))))])))))) := by kernel_rfl
theorem s__law_box : TabS kw d__law_box := ⟨⟨rfl, rfl, rfl, by decide +kernel, rfl, by decide +kernel, by decide +kernel⟩, fun _ _ _ _ _ _ us hl => match us, hl with | [_, _], _ => rfl, fun ks hk => (kb_no (by decide +kernel) hk).elim⟩
def d__law_take : DI := ⟨"_law_take", top 6, ["box", "many", "digit", "raw"], ["box", "many"], 0⟩
def t__law_take : List DI := d__law_take :: t__law_box
noncomputable def F__law_take : FV := d__law_take.F kw [] (lev t__law_box) (tabR kw [] t__law_box)
theorem f__law_take : F__law_take = dFn 2 4 (dSeq (dIf (dTB (d2 (cmpD' .Gt) (d2 ixD (dVar 0) (dCst (.int 0))) (dCst (.int 0)))) (dSeq (dSet 2 (d2 (binD .Mod) (dPrim (bltD .int) (foldA [(d2 ixD (dVar 0) (dCst (.int 0)))])) (dVar 1))) (dSeq (dSetIx 0 (dCst (.int 0)) (d2 (binD .FloorDiv) (d2 ixD (dVar 0) (dCst (.int 0))) (dVar 1))) (dRet (dVar 2)))) dPass) (dSeq (dSet 3 (d2 (binD .Mod) (dPrim (bltD .int) (foldA [(d2 (binD .Add) (d2 (binD .Mult) (d2 ixD (dVar 0) (dCst (.int 1))) (dCst (.int 39373))) (dCst (.int 101)))])) (dCst (.int 2147483647)))) (dSeq (dSetIx 0 (dCst (.int 1)) (d2 (binD .Add) (d2 (binD .Mod) (dPrim (bltD .int) (foldA [(d2 (binD .Add) (d2 (binD .Mult) (dVar 3) (dCst (.int 40692))) (dCst (.int 17)))])) (dCst (.int 2147483563))) (dCst (.int 1)))) (dRet (d2 (binD .Mod) (dPrim (bltD .int) (foldA [(d2 (binD .FloorDiv) (d2 (binD .Add) (d2 (binD .Mult) (dVar 3) (dCst (.int 2147483629))) (d2 ixD (dVar 0) (dCst (.int 1)))) (dCst (.int 8233)))])) (dVar 1)))))) := by kernel_rfl
theorem s__law_take : TabS kw d__law_take := ⟨⟨rfl, rfl, rfl, by decide +kernel, rfl, by decide +kernel, by decide +kernel⟩, fun _ _ _ _ _ _ us hl => match us, hl with | [_, _], _ => rfl, fun ks hk => (kb_no (by decide +kernel) hk).elim⟩
def d__law_pick : DI := ⟨"_law_pick", top 7, ["box", "some"], ["box", "some"], 0⟩
def t__law_pick : List DI := d__law_pick :: t__law_take
noncomputable def F__law_pick : FV := d__law_pick.F kw [] (lev t__law_take) (tabR kw [] t__law_take)
theorem f__law_pick : F__law_pick = dFn 2 2 (dRet (d2 ixD (dVar 1) (dCall 2 F__law_take (foldA [(dVar 0), (dPrim (bltD .len) (foldA [(dVar 1)]))])))) := by kernel_rfl
theorem s__law_pick : TabS kw d__law_pick := ⟨⟨rfl, rfl, rfl, by decide +kernel, rfl, by decide +kernel, by decide +kernel⟩, fun _ _ _ _ _ _ us hl => match us, hl with | [_, _], _ => rfl, fun ks hk => (kb_no (by decide +kernel) hk).elim⟩
def d__law_same : DI := ⟨"_law_same", top 8, ["told", "due"], ["told", "due"], 0⟩
def t__law_same : List DI := d__law_same :: t__law_pick
noncomputable def F__law_same : FV := d__law_same.F kw [] (lev t__law_pick) (tabR kw [] t__law_pick)
theorem f__law_same : F__law_same = dFn 2 2 (dRet (dAndE (dIsi .int (dVar 0)) (dAndE (dNotE (dIsi .bool (dVar 0))) (d2 (cmpD' .Eq) (dVar 0) (dVar 1))))) := by kernel_rfl
theorem s__law_same : TabS kw d__law_same := ⟨⟨rfl, rfl, rfl, by decide +kernel, rfl, by decide +kernel, by decide +kernel⟩, fun _ _ _ _ _ _ us hl => match us, hl with | [_, _], _ => rfl, fun ks hk => (kb_no (by decide +kernel) hk).elim⟩
def d__law_quotient : DI := ⟨"_law_quotient", top 9, ["distance", "cost", "found", "left", "steps", "piece", "many"], ["distance", "cost"], 0⟩
def t__law_quotient : List DI := d__law_quotient :: t__law_same
noncomputable def F__law_quotient : FV := d__law_quotient.F kw [] (lev t__law_same) (tabR kw [] t__law_same)
theorem f__law_quotient : F__law_quotient = dFn 2 7 (dSeq (dPar [2, 3, 4] (foldA [(dCst (.int 0)), (dVar 0), (dLst (foldA []))])) (dSeq (dPar [5, 6] (foldA [(dVar 1), (dCst (.int 1))])) (dSeq (dWhile (dTB (d2 (cmpD' .LtE) (dVar 5) (dVar 0))) (dSeq (dDrop (dAppend 4 (dFrz (dTup (foldA [(dFrz (dVar 5)), (dFrz (dVar 6))]))))) (dPar [5, 6] (foldA [(d2 (binD .Add) (dVar 5) (dVar 5)), (d2 (binD .Add) (dVar 6) (dVar 6))])))) (dSeq (dFor (dRevIt (dVar 4)) (.tp [5, 6]) (dIf (dTB (d2 (cmpD' .LtE) (dVar 5) (dVar 3))) (dSeq (dAug .Sub 3 (dVar 5)) (dAug .Add 2 (dVar 6))) dPass)) (dRet (dVar 2)))))) := by kernel_rfl
theorem s__law_quotient : TabS kw d__law_quotient := ⟨⟨rfl, rfl, rfl, by decide +kernel, rfl, by decide +kernel, by decide +kernel⟩, fun _ _ _ _ _ _ us hl => match us, hl with | [_, _], _ => rfl, fun ks hk => (kb_no (by decide +kernel) hk).elim⟩
def d__law_bounds : DI := ⟨"_law_bounds", top 10, ["box", "n", "cost", "whole", "distance", "due", "told", "at"], ["box", "n"], 0⟩
def t__law_bounds : List DI := d__law_bounds :: t__law_quotient
noncomputable def F__law_bounds : FV := d__law_bounds.F kw [] (lev t__law_quotient) (tabR kw [] t__law_quotient)
theorem f__law_bounds : F__law_bounds = dFn 2 8 (dSeq (dSet 2 (dCall 2 F__law_pick (foldA [(dVar 0), (dFrz (dLst (foldA [(dFrz (dCst (.int 1))), (dFrz (dCst (.int 2))), (dFrz (dCst (.int 3))), (dFrz (dCst (.int 1000))), (dFrz (dCst (.int 999))), (dFrz (d2 (binD .Add) (dCst (.int 1)) (dCall 2 F__law_take (foldA [(dVar 0), (dCst (.int 1000))])))), (dFrz (d2 (binD .Add) (dCst (.int 1)) (dCall 2 F__law_take (foldA [(dVar 0), (dFrz (d2 (binD .Pow) (dCst (.int 10)) (dCst (.int 9))))]))))])))]))) (dSeq (dSet 3 (d2 (binD .Mult) (dVar 2) (dCall 2 F__law_take (foldA [(dVar 0), (dCall 2 F__law_pick (foldA [(dVar 0), (dFrz (dLst (foldA [(dFrz (dCst (.int 2))), (dFrz (dCst (.int 9))), (dFrz (dCst (.int 7001))), (dFrz (d2 (binD .Add) (d2 (binD .FloorDiv) (d2 (binD .Pow) (dCst (.int 10)) (dCst (.int 9))) (dVar 2)) (dCst (.int 1))))])))]))])))) (dSeq (dSet 4 (dPrim (bltD .min) (foldA [(d2 (binD .Pow) (dCst (.int 10)) (dCst (.int 9))), (dPrim (bltD .max) (foldA [(dCst (.int 0)), (d2 (binD .Add) (dVar 3) (dCall 2 F__law_pick (foldA [(dVar 0), (dFrz (dLst (foldA [(dFrz (dCst (.int 0))), (dFrz (dCst (.int 0))), (dFrz (d2 (binD .Sub) (dCst (.int 0)) (dCst (.int 1)))), (dFrz (dCst (.int 1))), (dFrz (dCall 2 F__law_take (foldA [(dVar 0), (dVar 2)])))])))])))]))]))) (dSeq (dSet 5 (dLst (foldA [(dFrz (d2 (binD .Add) (dVar 1) (dVar 1))), (dFrz (d2 (binD .Add) (d2 (binD .Add) (dVar 1) (dVar 1)) (dCst (.int 2)))), (dFrz (d2 (binD .Add) (d2 (binD .Add) (d2 (binD .Add) (d2 (binD .Add) (d2 (binD .Add) (d2 (binD .Add) (dCall 2 F__law_quotient (foldA [(dVar 4), (dVar 2)])) (dVar 1)) (dVar 1)) (dVar 1)) (dVar 1)) (dVar 1)) (dCst (.int 4))))]))) (dSeq (dFor (dSeqIt (dFrz (dLst (foldA [(dFrz (dCall 3 F_told_bounds (foldA [(dVar 1), (dVar 4), (dVar 2)]))), (dFrz (dCallK ["n", "distance", "cost"] ["cost", "distance", "n"] F_told_bounds (foldA [(dFrz (dVar 2)), (dFrz (dVar 4)), (dFrz (dVar 1))])))])))) (.nm 6) (dSeq (dIf (dOrT (dNotT (dTr (dIsi .tuple (dVar 6)))) (dTB (d2 (cmpD' .NotEq) (dPrim (bltD .len) (foldA [(dVar 6)])) (dCst (.int 3))))) (dRet (dCst (.bl false))) dPass) (dFor (dRng (foldA [(dCst (.int 3))])) (.nm 7) (dIf (dNotT (dTr (dCall 2 F__law_same (foldA [(dFrz (d2 ixD (dVar 6) (dVar 7))), (dFrz (d2 ixD (dVar 5) (dVar 7)))])))) (dRet (dCst (.bl false))) dPass)))) (dRet (dAndE (dCall 2 F__law_same (foldA [(dCall 1 F_dark_bound (foldA [(dVar 1)])), (dFrz (d2 ixD (dVar 5) (dCst (.int 1))))])) (dCall 2 F__law_same (foldA [(dCallK ["n"] ["n"] F_dark_bound (foldA [(dFrz (dVar 1))])), (dFrz (d2 ixD (dVar 5) (dCst (.int 1))))]))))))))) := by kernel_rfl
theorem s__law_bounds : TabS kw d__law_bounds := ⟨⟨rfl, rfl, rfl, by decide +kernel, rfl, by decide +kernel, by decide +kernel⟩, fun _ _ _ _ _ _ us hl => match us, hl with | [_, _], _ => rfl, fun ks hk => (kb_no (by decide +kernel) hk).elim⟩
def d_law : DI := ⟨"law", top 11, ["script", "k", "box", "n"], ["script"], 0⟩
def t_law : List DI := d_law :: t__law_bounds
noncomputable def F_law : FV := d_law.F kw [] (lev t__law_bounds) (tabR kw [] t__law_bounds)
theorem f_law : F_law = dFn 1 4 (dSeq (dFor (dRng (foldA [(dPrim (bltD .max) (foldA [(dCst (.int 2)), (dPrim (bltD .min) (foldA [(dPrim (bltD .len) (foldA [(dVar 0)])), (dCst (.int 12))]))]))])) (.nm 1) (dSeq (dSet 2 (dCall 2 F__law_box (foldA [(dVar 0), (dVar 1)]))) (dFor (dSeqIt (dFrz (dLst (foldA [(dFrz (dCst (.int 1))), (dFrz (dCst (.int 2))), (dFrz (dCst (.int 8))), (dFrz (d2 (binD .Add) (dCst (.int 1)) (dCall 2 F__law_take (foldA [(dVar 2), (dCst (.int 8))])))), (dFrz (d2 (binD .Add) (dCst (.int 1)) (dCall 2 F__law_take (foldA [(dVar 2), (dCst (.int 32))])))), (dFrz (d2 (binD .Add) (dCst (.int 1)) (dCall 2 F__law_take (foldA [(dVar 2), (dFrz (d2 (binD .Pow) (dCst (.int 10)) (dCst (.int 9))))]))))])))) (.nm 3) (dIf (dNotT (dTr (dCall 2 F__law_bounds (foldA [(dVar 2), (dVar 3)])))) (dRet (dCst (.bl false))) dPass)))) (dRet (dCst (.bl true)))) := by kernel_rfl
theorem s_law : TabS kw d_law := ⟨⟨rfl, rfl, rfl, by decide +kernel, rfl, by decide +kernel, by decide +kernel⟩, fun _ _ _ _ _ _ us hl => match us, hl with | [_], _ => rfl, fun ks hk => (kb_no (by decide +kernel) hk).elim⟩
theorem allS : AllS kw t_law := ⟨s_law, s__law_bounds, s__law_quotient, s__law_same, s__law_pick, s__law_take, s__law_box, s_told_bounds, s_dark_bound, trivial⟩
abbrev R : PySem.W.OpenRow := PySem.W.OpenLaw.row PySem.Challenge.rw_wayskept_k49_the_three_bounds_in_rounds
abbrev hk : PySem.W.Hook := He.hookD 4 (faOf t_law) ((t_law).map DI.dd)
def ob (s : PySem.W.SharedT) : He.AlD := He.obsDG 4 (faOf t_law) ((t_law).map DI.dd) (HandSHeadRun.getT s)
theorem ob_eq (s : PySem.W.SharedT) : ob s = hk.obs s.abs := He.obsDG_eq (HandSHeadRun.getT_eq s)
theorem run (w : World) : HandSHeadRun.RunEq R (PySem.W.view R.prog [11]) hk ob 4000 ["dark_bound", "told_bounds", "_law_box", "_law_take", "_law_pick", "_law_same", "_law_quotient", "_law_bounds"] w := by
  intro os
  kernel_rfl
end K49

set_option Elab.async false
set_option linter.all false
set_option maxRecDepth 100000
set_option maxHeartbeats 4000000
namespace K49
open PySem L2 Dn
def stp (c : Int) (k : Nat) : List D := (List.range k).map fun j => D.tup [.int (c * 2 ^ j), .int (2 ^ j)]
theorem stp_len {c : Int} {k : Nat} : (stp c k).length = k := by simp [stp]
theorem stp_pure {c : Int} {k : Nat} : allPure (stp c k) = true := List.all_eq_true.mpr fun d hd => by
  obtain ⟨j, _, e⟩ := List.mem_map.mp hd
  subst e; rfl
theorem stp_succ {c : Int} {k : Nat} : stp c k ++ [.tup [.int (c * 2 ^ k), .int (2 ^ k)]] = stp c (k + 1) := by
  unfold stp
  rw [List.range_succ, List.map_append]; rfl
theorem stp_get {c : Int} {k i : Nat} (h : i < k) : (stp c k)[i]? = some (.tup [.int (c * 2 ^ i), .int (2 ^ i)]) := by
  unfold stp
  rw [List.getElem?_map, List.getElem?_range h]; rfl
theorem pow_lt {k : Nat} (h : (2 : Int) ^ k ≤ 1000000000) : k < 30 := by
  refine Nat.lt_of_not_le fun h2 => ?_
  have h3 : (2 : Nat) ^ 30 ≤ 2 ^ k := Nat.pow_le_pow_right (by decide) h2
  have e : ((2 ^ k : Nat) : Int) = (2 : Int) ^ k := by simp
  omega
theorem quotient_spec (d c : Int) (h0 : 0 ≤ d) (h1 : d ≤ 1000000000) (hc : 0 < c) : F__law_quotient [.int d, .int c] = .ok (.int (d / c)) [.int d, .int c] := by
  rw [f__law_quotient]
  simp (disch := omega)
  generalize hw : dWhile _ _ _ _ = r
  obtain ⟨s1, rfl, k, e1, hk⟩ := while_of hw (fun m s => ∃ k : Nat, s = [some (.int d), some (.int c), some (.int 0), some (.int d), some (.ml (stp c k)), some (.int (c * 2 ^ k)), some (.int (2 ^ k))] ∧ m = (d + 1 - c * 2 ^ k).toNat)
    _ ⟨0, by simp [stp], rfl⟩ (fun s => ∃ k : Nat, s = [some (.int d), some (.int c), some (.int 0), some (.int d), some (.ml (stp c k)), some (.int (c * 2 ^ k)), some (.int (2 ^ k))] ∧ d < c * 2 ^ k) (fun m s ⟨k, e, hm⟩ => by
      subst e
      have hp : (0 : Int) < 2 ^ k := Int.pow_pos (by decide)
      have hq : (2 : Int) ^ k ≤ c * 2 ^ k := by
        have : 1 * (2 : Int) ^ k ≤ c * 2 ^ k := Int.mul_le_mul_of_nonneg_right (by omega) (Int.le_of_lt hp)
        omega
      have e2 : (2 : Int) ^ (k + 1) = 2 ^ k + 2 ^ k := by rw [Int.pow_succ]; omega
      have e3 : c * (2 : Int) ^ (k + 1) = c * 2 ^ k + c * 2 ^ k := by rw [e2, Int.mul_add]
      by_cases h : c * 2 ^ k ≤ d
      · right
        have hk30 := pow_lt (k := k) (by omega)
        refine ⟨[some (.int d), some (.int c), some (.int 0), some (.int d), some (.ml (stp c k)), some (.int (c * 2 ^ k)), some (.int (2 ^ k))], [some (.int d), some (.int c), some (.int 0), some (.int d), some (.ml (stp c (k + 1))), some (.int (c * 2 ^ (k + 1))), some (.int (2 ^ (k + 1)))], ?_, .inl ?_, _, ?_, k + 1, rfl, rfl⟩
        · simp [h]
        · rw [e3, e2]
          simp (disch := omega) [stp_len, stp_succ]
        · omega
      · left
        refine ⟨[some (.int d), some (.int c), some (.int 0), some (.int d), some (.ml (stp c k)), some (.int (c * 2 ^ k)), some (.int (2 ^ k))], ?_, k, rfl, by omega⟩
        simp [h])
  subst e1
  have hlt : ∀ k : Nat, (stp c k).length = k := fun k => stp_len
  simp (disch := omega) [stp_pure]
  generalize hf : forGo _ _ _ _ _ _ = r
  obtain ⟨s2, rfl, f, l, x5, x6, e2, i1, i2, i3⟩ := for_of hf (fun t s => ∃ (f l : Int) (x5 x6 : Option D), s = [some (.int d), some (.int c), some (.int f), some (.int l), some (.ml (stp c k)), x5, x6] ∧ f * c + l = d ∧ 0 ≤ l ∧ l < c * 2 ^ (k - t))
    ⟨0, d, _, _, rfl, by omega, h0, hk⟩ (fun t s ⟨f, l, x5, x6, e, _⟩ => by subst e; exact src_some rfl) (fun t s dd ⟨f, l, x5, x6, e, i1, i2, i3⟩ hd => by
      subst e
      have hd : (stp c k).reverse[t]? = some dd := hd
      have ht : t < k := by have := (List.getElem?_eq_some_iff.mp hd).1; simpa [stp_len] using this
      rw [List.getElem?_reverse (by rw [stp_len]; exact ht), stp_len, stp_get (by omega)] at hd
      cases hd
      have e4 : k - t = (k - 1 - t) + 1 := by omega
      have e5 : k - (t + 1) = k - 1 - t := by omega
      rw [e4] at i3
      rw [e5]
      generalize k - 1 - t = j at *
      have e2 : (2 : Int) ^ (j + 1) = 2 ^ j + 2 ^ j := by rw [Int.pow_succ]; omega
      have e3 : c * (2 : Int) ^ (j + 1) = c * 2 ^ j + c * 2 ^ j := by rw [e2, Int.mul_add]
      rw [e3] at i3
      refine ⟨[some (.int d), some (.int c), some (.int f), some (.int l), some (.ml (stp c k)), some (.int (c * 2 ^ j)), some (.int (2 ^ j))], ?_⟩
      by_cases h : c * 2 ^ j ≤ l
      · refine ⟨[some (.int d), some (.int c), some (.int (f + 2 ^ j)), some (.int (l - c * 2 ^ j)), some (.ml (stp c k)), some (.int (c * 2 ^ j)), some (.int (2 ^ j))], ?_, .inl ?_, _, _, _, _, rfl, ?_, by omega, by omega⟩
        · simp
        · simp [h]
        · rw [Int.add_mul, Int.mul_comm (2 ^ j) c]; omega
      · refine ⟨[some (.int d), some (.int c), some (.int f), some (.int l), some (.ml (stp c k)), some (.int (c * 2 ^ j)), some (.int (2 ^ j))], ?_, .inl ?_, _, _, _, _, rfl, i1, i2, by omega⟩
        · simp
        · simp [h])
  subst e2
  have i3 : l < c * 2 ^ (k - (stp c k).reverse.length) := i3
  rw [List.length_reverse, stp_len, Nat.sub_self, Int.pow_zero, Int.mul_one] at i3
  have : f = d / c := by
    symm
    rw [← i1, Int.add_comm, Int.add_mul_ediv_right _ _ (by omega), Int.ediv_eq_zero_of_lt i2 i3]
    omega
  subst this
  simp (disch := omega)
end K49

set_option Elab.async false
set_option linter.all false
set_option maxRecDepth 100000
set_option maxHeartbeats 4000000
namespace K49
open PySem L2 Dn
theorem take_spec (a b m : Int) (h0 : 0 < m) (h1 : m < 18446744073709551616) : ∃ a' b' r, 0 ≤ r ∧ r < m ∧ F__law_take [.ml [.int a, .int b], .int m] = .ok (.int r) [.ml [.int a', .int b'], .int m] := by
  rw [f__law_take]
  by_cases h : 0 < a
  · simp (disch := omega) [h]
    exact ⟨_, _, _, Int.emod_nonneg _ (by omega), Int.emod_lt_of_pos _ h0, rfl, rfl, rfl⟩
  · simp (disch := omega) [h]
    exact ⟨_, _, _, Int.emod_nonneg _ (by omega), Int.emod_lt_of_pos _ h0, rfl, rfl, rfl⟩
theorem dark_spec (n : Int) : F_dark_bound [.int n] = .ok (.int (2 * n + 2)) [.int n] := by
  rw [f_dark_bound]
  simp (disch := omega)
theorem told_spec (n d c : Int) (h : 0 < c ∧ c < 18446744073709551616) : F_told_bounds [.int n, .int d, .int c] = .ok (.tup [.int (2 * n), .int (2 * n + 2), .int (d / c + 5 * n + 4)]) [.int n, .int d, .int c] := by
  rw [f_told_bounds]
  simp (disch := omega) [dark_spec]
theorem same_spec (a b : Int) : F__law_same [.int a, .int b] = .ok (.bl (decide (a = b))) [.int a, .int b] := by
  rw [f__law_same]
  simp (disch := omega)
theorem pick_spec (a b : Int) (ds : List D) (h0 : 0 < ds.length) (h1 : ds.length < 1000) (hp : allPure ds = true) : ∃ a' b' d, d ∈ ds ∧ F__law_pick [.ml [.int a, .int b], .lst ds] = .ok d [.ml [.int a', .int b'], .lst ds] := by
  obtain ⟨a', b', r, r0, r1, e⟩ := take_spec a b ds.length (by omega) (by omega)
  obtain ⟨d, hd⟩ : ∃ d, ds[r.toNat]? = some d := ⟨ds[r.toNat]'(by omega), List.getElem?_eq_getElem _⟩
  have hm := List.mem_of_getElem? hd
  have pd : d.pure = true := List.all_eq_true.mp hp d hm
  refine ⟨a', b', d, hm, ?_⟩
  rw [f__law_pick]
  simp (disch := omega) [e, atI_pos r0 hd, pd]
theorem bounds_spec (a b n : Int) (n0 : 1 ≤ n) (n1 : n ≤ 1000000000) : ∃ a' b', F__law_bounds [.ml [.int a, .int b], .int n] = .ok (.bl true) [.ml [.int a', .int b'], .int n] := by
  obtain ⟨a1, b1, r1, p1, q1, e1⟩ := take_spec a b 1000 (by decide) (by decide)
  obtain ⟨a2, b2, r2, p2, q2, e2⟩ := take_spec a1 b1 1000000000 (by decide) (by decide)
  obtain ⟨a3, b3, v3, m3, e3⟩ := pick_spec a2 b2 [.int 1, .int 2, .int 3, .int 1000, .int 999, .int (1 + r1), .int (1 + r2)] (Nat.succ_pos _) (by simp) rfl
  obtain ⟨cost, rfl, c0, c1⟩ : ∃ x : Int, v3 = .int x ∧ 1 ≤ x ∧ x ≤ 1000000000 := by
    simp only [List.mem_cons, List.not_mem_nil, or_false] at m3
    rcases m3 with h | h | h | h | h | h | h <;> exact ⟨_, h, by omega, by omega⟩
  have k1 : 0 ≤ 1000000000 / cost := Int.ediv_nonneg (by omega) (by omega)
  have k2 : 1000000000 / cost ≤ 1000000000 := Int.ediv_le_self _ (by omega)
  obtain ⟨a4, b4, v4, m4, e4⟩ := pick_spec a3 b3 [.int 2, .int 9, .int 7001, .int (1000000000 / cost + 1)] (Nat.succ_pos _) (by simp) rfl
  obtain ⟨many, rfl, y0, y1⟩ : ∃ x : Int, v4 = .int x ∧ 1 ≤ x ∧ x ≤ 1000000001 := by
    simp only [List.mem_cons, List.not_mem_nil, or_false] at m4
    rcases m4 with h | h | h | h <;> exact ⟨_, h, by omega, by omega⟩
  obtain ⟨a5, b5, r5, p5, q5, e5⟩ := take_spec a4 b4 many (by omega) (by omega)
  obtain ⟨a6, b6, r6, p6, q6, e6⟩ := take_spec a5 b5 cost (by omega) (by omega)
  obtain ⟨a7, b7, v7, m7, e7⟩ := pick_spec a6 b6 [.int 0, .int 0, .int (0 - 1), .int 1, .int r6] (Nat.succ_pos _) (by simp) rfl
  obtain ⟨off, rfl⟩ : ∃ x : Int, v7 = .int x := by
    simp only [List.mem_cons, List.not_mem_nil, or_false] at m7
    rcases m7 with h | h | h | h | h <;> exact ⟨_, h⟩
  have z : (0 : Int) - 1 = -1 := by decide
  rw [z] at e7
  obtain ⟨dist, hd⟩ : ∃ x, x = min 1000000000 (max 0 (cost * r5 + off)) := ⟨_, rfl⟩
  have d0 : 0 ≤ dist := by omega
  have d1 : dist ≤ 1000000000 := by omega
  have e8 := quotient_spec dist cost d0 d1 (by omega)
  have e9 := told_spec n dist cost ⟨by omega, by omega⟩
  have pl1 : permL (["cost", "distance", "n"] : List Str) (["n", "distance", "cost"] : List Str) [D.int cost, .int dist, .int n] = some [.int n, .int dist, .int cost] := rfl
  have pl2 : permL (["n"] : List Str) (["n"] : List Str) [D.int n] = some [.int n] := rfl
  have f0 : (n + n : Int) = 2 * n := by omega
  have f2 : (dist / cost + n + n + n + n + n + 4 : Int) = dist / cost + 5 * n + 4 := by omega
  rw [f__law_bounds]
  simp (disch := omega) [e1, e2, e3, e4, e5, e6, e7, ← hd, e8, e9, pl1]
  rw [f2, f0]
  generalize hf : forGo _ _ _ _ _ _ = r
  let due : List D := [.int (2 * n), .int (2 * n + 2), .int (dist / cost + 5 * n + 4)]
  obtain ⟨s2, rfl, x6, x7, es⟩ := for_of hf (fun t s => ∃ (x6 x7 : Option D), s = [some (.ml [.int a7, .int b7]), some (.int n), some (.int cost), some (.int (cost * r5)), some (.int dist), some (.ml due), x6, x7])
    ⟨_, _, rfl⟩ (fun _ _ _ => src_none) (fun t s d ⟨x6, x7, e⟩ hd => by
      subst e
      have hd : d = .tup due := by
        have hm := List.mem_of_getElem? hd
        simp only [List.mem_cons, List.not_mem_nil, or_false, or_self] at hm
        exact hm
      subst hd
      refine ⟨[some (.ml [.int a7, .int b7]), some (.int n), some (.int cost), some (.int (cost * r5)), some (.int dist), some (.ml due), some (.tup due), x7], ?_⟩
      simp (disch := omega) [due]
      generalize hg : forGo _ _ _ _ _ _ = r'
      obtain ⟨s3, rfl, x8, es⟩ := for_of hg (fun t s => ∃ (x7 : Option D), s = [some (.ml [.int a7, .int b7]), some (.int n), some (.int cost), some (.int (cost * r5)), some (.int dist), some (.ml due), some (.tup due), x7])
        ⟨_, rfl⟩ (fun _ _ _ => src_none) (fun t s d ⟨x7, e⟩ hd => by
          subst e
          obtain ⟨ht, rfl⟩ := rngD_get hd
          refine ⟨[some (.ml [.int a7, .int b7]), some (.int n), some (.int cost), some (.int (cost * r5)), some (.int dist), some (.ml due), some (.tup due), some (.int t)], [some (.ml [.int a7, .int b7]), some (.int n), some (.int cost), some (.int (cost * r5)), some (.int dist), some (.ml due), some (.tup due), some (.int t)], ?_, .inl ?_, _, rfl⟩
          · simp
          · rcases (by omega : t = 0 ∨ t = 1 ∨ t = 2) with rfl | rfl | rfl <;> simp (disch := omega) [due, same_spec])
      exact ⟨_, .inl rfl, _, _, es⟩)
  subst es
  simp (disch := omega) [due, dark_spec, same_spec, pl2]
end K49

set_option Elab.async false
set_option linter.all false
set_option maxRecDepth 100000
set_option maxHeartbeats 4000000
namespace K49
open PySem L2 Dn
theorem box_spec (ns : List Int) (k : Int) (h0 : 0 ≤ k) : ∃ a b, F__law_box [.kl (ns.map .int), .int k] = .ok (.ml [.int a, .int b]) [.kl (ns.map .int), .int k] := by
  obtain ⟨P, hP⟩ : ∃ P, binD .Pow (.int 10) (.int 18) = some (.int P) := ⟨_, bin_p18⟩
  rw [f__law_box]
  by_cases h : k < ns.length
  · have hd : atI (ns.map D.int) k = some (.int (ns[k.toNat]'(by omega))) := atI_pos h0 (by rw [List.getElem?_map, List.getElem?_eq_getElem (by omega)]; rfl)
    simp (disch := omega) [h, hd, -bin_p18, hP]
  · by_cases hz : 0 < ns.length
    · have hm0 : 0 ≤ k % ns.length := Int.emod_nonneg _ (by omega)
      have hm1 : k % ns.length < ns.length := Int.emod_lt_of_pos _ (by omega)
      have hd : atI (ns.map D.int) (k % ns.length) = some (.int (ns[(k % ns.length).toNat]'(by omega))) := atI_pos hm0 (by rw [List.getElem?_map, List.getElem?_eq_getElem (by omega)]; rfl)
      simp (disch := omega) [h, hd, hz, -bin_p18, hP]
    · simp (disch := omega) [h, hz, -bin_p18, hP]
theorem law_holds : ∀ ns : List Int, ns.length ≤ 63 → (∀ z ∈ ns, PySem.Builtin.Int.intBits z ≤ 1048576) → ∃ as, d_law.F kw [] (lev t__law_bounds) (tabR kw [] t__law_bounds) [.kl (ns.map .int)] = .ok (.bl true) as := by
  intro ns hl _
  show ∃ as, F_law [.kl (ns.map .int)] = .ok (.bl true) as
  rw [f_law]
  simp (disch := omega)
  generalize hf : forGo _ _ _ _ _ _ = r
  obtain ⟨s2, rfl, x1, x2, x3, es⟩ := for_of hf (fun t s => ∃ (x1 x2 x3 : Option D), s = [some (.kl (ns.map .int)), x1, x2, x3])
    ⟨_, _, _, rfl⟩ (fun _ _ _ => src_none) (fun t s d ⟨x1, x2, x3, e⟩ hd => by
      subst e
      obtain ⟨ht, rfl⟩ := rngD_get hd
      obtain ⟨a, b, e0⟩ := box_spec ns (0 + (t : Int)) (by omega)
      obtain ⟨a1, b1, r1, p1, q1, e1⟩ := take_spec a b 8 (by decide) (by decide)
      obtain ⟨a2, b2, r2, p2, q2, e2⟩ := take_spec a1 b1 32 (by decide) (by decide)
      obtain ⟨a3, b3, r3, p3, q3, e3⟩ := take_spec a2 b2 1000000000 (by decide) (by decide)
      have z : (0 : Int) + t = t := by omega
      rw [z] at e0
      refine ⟨[some (.kl (ns.map .int)), some (.int (0 + (t : Int))), x2, x3], ?_⟩
      simp (disch := omega) [e0, e1, e2, e3]
      generalize hg : forGo _ _ _ _ _ _ = r'
      obtain ⟨s3, rfl, u, v, x4, es⟩ := for_of hg (fun i s => ∃ (u v : Int) (x4 : Option D), s = [some (.kl (ns.map .int)), some (.int t), some (.ml [.int u, .int v]), x4])
        ⟨_, _, _, rfl⟩ (fun _ _ _ => src_none) (fun i s d ⟨u, v, x4, e⟩ hd => by
          subst e
          obtain ⟨n, rfl, n0, n1⟩ : ∃ n : Int, d = .int n ∧ 1 ≤ n ∧ n ≤ 1000000000 := by
            have hm := List.mem_of_getElem? hd
            simp only [List.mem_cons, List.not_mem_nil, or_false] at hm
            rcases hm with h | h | h | h | h | h <;> exact ⟨_, h, by omega, by omega⟩
          obtain ⟨u', v', eb⟩ := bounds_spec u v n n0 n1
          refine ⟨[some (.kl (ns.map .int)), some (.int t), some (.ml [.int u, .int v]), some (.int n)], [some (.kl (ns.map .int)), some (.int t), some (.ml [.int u', .int v']), some (.int n)], ?_, .inl ?_, _, _, _, rfl⟩
          · simp
          · simp [eb])
      exact ⟨_, .inl rfl, _, _, _, es⟩)
  subst es
  simp
end K49


open PySem PySem.W PySem.Calls PyProof.Rows
theorem PySem.Challenge.cw_wayskept_k49_the_three_bounds_in_rounds_holds : PySem.Challenge.rw_wayskept_k49_the_three_bounds_in_rounds.Holds := by
  w_on; o_law
  refine HandSHeadRun.head_any (r := OpenLaw.row PySem.Challenge.rw_wayskept_k49_the_three_bounds_in_rounds) (q := view (OpenLaw.row PySem.Challenge.rw_wayskept_k49_the_three_bounds_in_rounds).prog [11]) (H := K49.hk) (ob := K49.ob) (M := 4000) (loose := ["dark_bound", "told_bounds", "_law_box", "_law_take", "_law_pick", "_law_same", "_law_quotient", "_law_bounds"]) (d := HandSHeadRun.topDef (OpenLaw.row PySem.Challenge.rw_wayskept_k49_the_three_bounds_in_rounds).prog 11) (kwd := []) K49.ob_eq
    (by kernel_rfl) (fun s => by kernel_rfl) K49.run (by kernel_rfl) (by kernel_rfl) (by kernel_rfl) (by rfl) (by first | assumption | decide +kernel) (by decide +kernel) ⟨rfl, rfl, rfl, rfl, rfl, by decide +kernel⟩ ?hw ?hc
  case hw => w_witness2
  case hc => exact Dn.walkD (l := PySem.Challenge.rw_wayskept_k49_the_three_bounds_in_rounds) (n := 63) (x := "script") rfl (by decide) (by kernel_rfl) ⟨rfl, by decide +kernel, by decide +kernel⟩ (by kernel_rfl) rfl K49.allS K49.law_holds

