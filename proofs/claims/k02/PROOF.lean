import PyProof.Rows.All
import Wide.All
import OpenK.AllK
import Wide.FinOn
import HandS.ForMost
import HandS.ForExc
import HandS.Wide
import HandS.IsInst
import HandS.Defaults
import HandS.EndBits
import HandS.HeadHook1
import HandS.ExcOwn
import HandS.Deep
import HandS.Style
import HandS.ExcInit
import HandS.Nested
import KE.KExcInit
import KE.KExcSuper
import HandS.ClsMeth
import HandS.ExcField
import KE.KStateDown
import HandS.Head0
import HandS.Head1
import HandS.Head2
import HandS.HeadEnd
import HandS.HeadHook2
import PySem.Challenge.RW_everylot_k02_fractions_reckoned
set_option Elab.async false
set_option linter.all false
set_option maxRecDepth 100000
set_option maxHeartbeats 4000000
/-! Mi: a typed mirror over the hand layer. A program's def is told by a function into Except Er; each syntax form has one rule that builds that function. -/
namespace Mi
open PySem PySem.Spec PyProof.Rows L2

/-! ### data, errors -/
inductive D where
  | non | bl (b : Bool) | int (i : Int) | str (x : Str)
  | tup (l : List D) | lst (l : List D) | dct (l : List (D × D)) | obj (c : Str) (a : Addr)
  deriving Inhabited
inductive Er where
  | stuck | exc (c : Str) (fs : List (Str × D))
abbrev Fg := PySem.W.Frag

/-- x stands at v, read off the still part I of the heap -/
class Enc (α : Type) where
  rep : Fg → Hp → V → α → Prop
  up : ∀ {K : Fg} {I I' : Hp} {v : V} {x : α}, Same I I' → rep K I v x → rep K I' v x
instance : Enc Int := ⟨fun _ _ v x => v = .int x, fun _ h => h⟩
instance : Enc Bool := ⟨fun _ _ v x => v = .bl x, fun _ h => h⟩
instance : Enc Str := ⟨fun _ _ v x => v = .str x, fun _ h => h⟩
instance : Enc Unit := ⟨fun _ _ v _ => v = .non, fun _ h => h⟩
theorem sqT_up {K : Fg} {I I' : Hp} {a : Addr} {xs : List V} (e : Same I I') (h : SqT K I a xs) : SqT K I' a xs := by
  rcases h with (h | ⟨o, h⟩) | h
  · exact .inl (.inl (e _ _ h))
  · exact .inl (.inr ⟨o, e _ _ h⟩)
  · exact .inr h
instance {α β : Type} [Enc α] [Enc β] : Enc (α × β) :=
  ⟨fun K I v x => ∃ a u w, v = .ref a ∧ SqT K I a [u, w] ∧ Enc.rep K I u x.1 ∧ Enc.rep K I w x.2,
   fun e ⟨a, u, w, h, q, r1, r2⟩ => ⟨a, u, w, h, sqT_up e q, Enc.up e r1, Enc.up e r2⟩⟩
/-- all items -/
def All2 {α : Type} (R : V → α → Prop) : List V → List α → Prop
  | [], [] => True
  | v :: vs, x :: xs => R v x ∧ All2 R vs xs
  | _, _ => False
theorem All2.imp {α : Type} {R R' : V → α → Prop} (h : ∀ v x, R v x → R' v x) : ∀ {vs : List V} {xs : List α}, All2 R vs xs → All2 R' vs xs
  | [], [], _ => trivial
  | _ :: _, _ :: _, q => ⟨h _ _ q.1, All2.imp h q.2⟩
  | [], _ :: _, q => q.elim
  | _ :: _, [], q => q.elim
theorem All2.len {α : Type} {R : V → α → Prop} : ∀ {vs : List V} {xs : List α}, All2 R vs xs → vs.length = xs.length
  | [], [], _ => rfl
  | _ :: _, _ :: _, q => congrArg Nat.succ (All2.len q.2)
  | [], _ :: _, q => q.elim
  | _ :: _, [], q => q.elim
theorem All2.get {α : Type} {R : V → α → Prop} : ∀ {vs : List V} {xs : List α} {i : Nat} {v : V}, All2 R vs xs → vs[i]? = some v → ∃ x, xs[i]? = some x ∧ R v x
  | [], [], _, _, _, h => by simp at h
  | v :: vs, x :: xs, 0, w, q, h => by simp at h; subst h; exact ⟨x, rfl, q.1⟩
  | v :: vs, x :: xs, i + 1, w, q, h => by
    obtain ⟨y, h1, h2⟩ := All2.get (i := i) q.2 (by simpa using h)
    exact ⟨y, by simpa using h1, h2⟩
  | [], _ :: _, _, _, q, _ => q.elim
  | _ :: _, [], _, _, q, _ => q.elim
theorem All2.got {α : Type} {R : V → α → Prop} : ∀ {vs : List V} {xs : List α} {i : Nat} {x : α}, All2 R vs xs → xs[i]? = some x → ∃ v, vs[i]? = some v ∧ R v x
  | [], [], _, _, _, h => by simp at h
  | v :: vs, x :: xs, 0, w, q, h => by simp at h; subst h; exact ⟨v, rfl, q.1⟩
  | v :: vs, x :: xs, i + 1, w, q, h => by
    obtain ⟨y, h1, h2⟩ := All2.got (i := i) q.2 (by simpa using h)
    exact ⟨y, by simpa using h1, h2⟩
  | [], _ :: _, _, _, q, _ => q.elim
  | _ :: _, [], _, _, q, _ => q.elim
theorem All2.app {α : Type} {R : V → α → Prop} : ∀ {vs us : List V} {xs ys : List α}, All2 R vs xs → All2 R us ys → All2 R (vs ++ us) (xs ++ ys)
  | [], _, [], _, _, h => h
  | _ :: _, _, _ :: _, _, q, h => ⟨q.1, All2.app q.2 h⟩
  | [], _, _ :: _, _, q, _ => q.elim
  | _ :: _, _, [], _, q, _ => q.elim
theorem All2.setAt {α : Type} {R : V → α → Prop} {v : V} {x : α} (r : R v x) : ∀ {vs : List V} {xs : List α} (i : Nat), All2 R vs xs → All2 R (vs.set i v) (xs.set i x)
  | [], [], _, q => q
  | _ :: _, _ :: _, 0, q => ⟨r, q.2⟩
  | _ :: _, _ :: _, i + 1, q => ⟨q.1, All2.setAt r i q.2⟩
  | [], _ :: _, _, q => q.elim
  | _ :: _, [], _, q => q.elim
theorem All2.takeN {α : Type} {R : V → α → Prop} : ∀ {vs : List V} {xs : List α} (n : Nat), All2 R vs xs → All2 R (vs.take n) (xs.take n)
  | [], [], n, _ => by cases n <;> exact trivial
  | _ :: _, _ :: _, 0, _ => trivial
  | _ :: _, _ :: _, n + 1, q => ⟨q.1, All2.takeN n q.2⟩
  | [], _ :: _, _, q => q.elim
  | _ :: _, [], _, q => q.elim
theorem All2.dropN {α : Type} {R : V → α → Prop} : ∀ {vs : List V} {xs : List α} (n : Nat), All2 R vs xs → All2 R (vs.drop n) (xs.drop n)
  | [], [], n, _ => by cases n <;> exact trivial
  | _ :: _, _ :: _, 0, q => q
  | _ :: _, _ :: _, n + 1, q => All2.dropN n q.2
  | [], _ :: _, _, q => q.elim
  | _ :: _, [], _, q => q.elim
instance {α : Type} [Enc α] : Enc (List α) :=
  ⟨fun K I v xs => ∃ a vs, v = .ref a ∧ I a = some (.lst vs) ∧ All2 (Enc.rep K I) vs xs,
   fun e ⟨a, vs, h, q, r⟩ => ⟨a, vs, h, e _ _ q, r.imp fun _ _ z => Enc.up e z⟩⟩
/-- a list that is only read (the script) -/
structure Ro (α : Type) where
  l : List α
instance {α : Type} [Enc α] : Enc (Ro α) :=
  ⟨fun K I v xs => ∃ a vs, v = .ref a ∧ SqL K I a vs ∧ All2 (Enc.rep K I) vs xs.l,
   fun e ⟨a, vs, h, q, r⟩ => ⟨a, vs, h, e.seq q, r.imp fun _ _ z => Enc.up e z⟩⟩
/-- a tuple of any length, its items of one type -/
structure Tu (α : Type) where
  l : List α
instance {α : Type} [Enc α] : Enc (Tu α) :=
  ⟨fun K I v xs => ∃ a vs, v = .ref a ∧ SqT K I a vs ∧ All2 (Enc.rep K I) vs xs.l,
   fun e ⟨a, vs, h, q, r⟩ => ⟨a, vs, h, sqT_up e q, r.imp fun _ _ z => Enc.up e z⟩⟩
instance {α : Type} [Enc α] : Enc (Option α) :=
  ⟨fun K I v x => match x with
    | none => v = .non
    | some y => v ≠ .non ∧ Enc.rep K I v y,
   fun {K I I' v x} e h => by
    cases x with
    | none => exact h
    | some y => exact ⟨h.1, Enc.up e h.2⟩⟩

/-! ### the three heaps: I still, O owned by the def, H all that is tracked -/
structure St3 (I O H : Hp) : Prop where
  si : Same I H
  so : Same O H
  dj : ∀ b, I b = none ∨ O b = none
structure Go (I O H I' O' H' : Hp) : Prop where
  keep : ∀ b o, H b = some o → O b = none → H' b = some o
  ext : Same I I'
  ni : ∀ b, I' b ≠ none → I b ≠ none ∨ H b = none ∨ O b ≠ none
  no : ∀ b, O' b ≠ none → O b ≠ none ∨ H b = none
theorem nn {H : Hp} {b : Addr} {o : HO} (h : H b = some o) : H b ≠ none := by rw [h]; exact Option.some_ne_none o
theorem sn {H : Hp} {b : Addr} (h : H b ≠ none) : ∃ o, H b = some o := Option.ne_none_iff_exists'.mp h
theorem Go.refl (I O H : Hp) : Go I O H I O H := ⟨fun _ _ h _ => h, Same.refl I, fun _ h => .inl h, fun _ h => .inl h⟩
theorem Go.trans {I O H I1 O1 H1 I2 O2 H2 : Hp} (a : Go I O H I1 O1 H1) (b : Go I1 O1 H1 I2 O2 H2) : Go I O H I2 O2 H2 := by
  have k1 : ∀ c, O c = none → H c ≠ none → O1 c = none := fun c h1 h2 => by
    cases q : O1 c with
    | none => rfl
    | some o =>
      rcases a.no c (nn q) with z | z
      · exact absurd h1 z
      · exact absurd z h2
  have kh : ∀ c, H1 c = none → H c = none ∨ O c ≠ none := fun c h1 => by
    cases q : H c with
    | none => exact .inl rfl
    | some o =>
      cases r : O c with
      | none => rw [a.keep c o q r] at h1; cases h1
      | some u => exact .inr (Option.some_ne_none u)
  refine ⟨fun c o h1 h2 => b.keep c o (a.keep c o h1 h2) (k1 c h2 (nn h1)), a.ext.trans b.ext, fun c h => ?_, fun c h => ?_⟩
  · rcases b.ni c h with z | z | z
    · exact a.ni c z
    · rcases kh c z with y | y
      · exact .inr (.inl y)
      · exact .inr (.inr y)
    · rcases a.no c z with y | y
      · exact .inr (.inr y)
      · exact .inr (.inl y)
  · rcases b.no c h with z | z
    · exact a.no c z
    · rcases kh c z with y | y
      · exact .inr y
      · exact .inl y
section
variable {I O H I' O' H' O1 O2 : Hp} {p : Addr} {o : HO}
theorem St3.fi (s : St3 I O H) (h : H p = none) : I p = none := s.si.free h
theorem St3.fo (s : St3 I O H) (h : H p = none) : O p = none := s.so.free h
theorem Same.upd_new (h : H p = none) : Same H (upd H p o) := fun b u e => by rw [upd_ne (ne_of_none e h)]; exact e
/-- a still object laid -/
theorem St3.lay (s : St3 I O H) (h : H p = none) : St3 (upd I p o) O (upd H p o) := by
  refine ⟨fun b u e => ?_, s.so.trans (Same.upd_new h), fun b => ?_⟩
  · by_cases hb : b = p
    · subst hb; rw [upd_same] at e; rw [upd_same]; exact e
    · rw [upd_ne hb] at e; rw [upd_ne hb]; exact s.si b u e
  · by_cases hb : b = p
    · subst hb; exact .inr (s.fo h)
    · rw [upd_ne hb]; exact s.dj b
theorem Go.lay (s : St3 I O H) (h : H p = none) : Go I O H (upd I p o) O (upd H p o) := by
  refine ⟨fun b u e _ => Same.upd_new h b u e, Same.upd_new (s.fi h), fun b e => ?_, fun b e => .inl e⟩
  by_cases hb : b = p
  · subst hb; exact .inr (.inl h)
  · rw [upd_ne hb] at e; exact .inl e
/-- an owned object laid -/
theorem St3.layO (s : St3 I O H) (h : H p = none) : St3 I (upd O p o) (upd H p o) := by
  refine ⟨s.si.trans (Same.upd_new h), fun b u e => ?_, fun b => ?_⟩
  · by_cases hb : b = p
    · subst hb; rw [upd_same] at e; rw [upd_same]; exact e
    · rw [upd_ne hb] at e; rw [upd_ne hb]; exact s.so b u e
  · by_cases hb : b = p
    · subst hb; exact .inl (s.fi h)
    · rw [upd_ne hb]; exact s.dj b
theorem Go.layO (s : St3 I O H) (h : H p = none) : Go I O H I (upd O p o) (upd H p o) := by
  refine ⟨fun b u e _ => Same.upd_new h b u e, Same.refl I, fun b e => .inl e, fun b e => ?_⟩
  by_cases hb : b = p
  · subst hb; exact .inr h
  · rw [upd_ne hb] at e; exact .inl e
/-- an owned object written -/
theorem St3.wr {o' : HO} (s : St3 I O H) (h : O p = some o') : St3 I (upd O p o) (upd H p o) := by
  have hI : I p = none := by
    rcases s.dj p with z | z
    · exact z
    · rw [h] at z; cases z
  refine ⟨fun b u e => ?_, fun b u e => ?_, fun b => ?_⟩
  · rw [upd_ne (ne_of_none e hI)]; exact s.si b u e
  · by_cases hb : b = p
    · subst hb; rw [upd_same] at e; rw [upd_same]; exact e
    · rw [upd_ne hb] at e; rw [upd_ne hb]; exact s.so b u e
  · by_cases hb : b = p
    · subst hb; exact .inl hI
    · rw [upd_ne hb]; exact s.dj b
theorem Go.wr {o' : HO} (s : St3 I O H) (h : O p = some o') : Go I O H I (upd O p o) (upd H p o) := by
  refine ⟨fun b u e z => ?_, Same.refl I, fun b e => .inl e, fun b e => ?_⟩
  · rw [upd_ne (fun q => by rw [q, h] at z; cases z)]; exact e
  · by_cases hb : b = p
    · subst hb; exact .inl (nn h)
    · rw [upd_ne hb] at e; exact .inl e
/-- an owned object made still -/
theorem St3.pub (s : St3 I O H) (h : O p = some o) (h2 : Same O2 O) (h3 : O2 p = none) : St3 (upd I p o) O2 H := by
  refine ⟨fun b u e => ?_, h2.trans s.so, fun b => ?_⟩
  · by_cases hb : b = p
    · subst hb; rw [upd_same] at e; rw [← e]; exact s.so _ _ h
    · rw [upd_ne hb] at e; exact s.si b u e
  · by_cases hb : b = p
    · subst hb; exact .inr h3
    · rw [upd_ne hb]
      rcases s.dj b with z | z
      · exact .inl z
      · exact .inr (h2.free z)
theorem Go.pub (s : St3 I O H) (h : O p = some o) (h2 : Same O2 O) : Go I O H (upd I p o) O2 H := by
  have hI : I p = none := by
    rcases s.dj p with z | z
    · exact z
    · rw [h] at z; cases z
  refine ⟨fun b u e _ => e, Same.upd_new hI, fun b e => ?_, fun b e => ?_⟩
  · by_cases hb : b = p
    · subst hb; exact .inr (.inr (nn h))
    · rw [upd_ne hb] at e; exact .inl e
  · obtain ⟨u, q⟩ := sn e
    exact .inl (nn (h2 b u q))
/-- owned objects dropped -/
theorem St3.drop (s : St3 I O H) (h2 : Same O2 O) : St3 I O2 H := ⟨s.si, h2.trans s.so, fun b => (s.dj b).imp (fun z => z) fun z => h2.free z⟩
theorem Go.drop (h2 : Same O2 O) : Go I O H I O2 H := ⟨fun _ _ e _ => e, Same.refl I, fun _ e => .inl e, fun b e => let ⟨u, q⟩ := sn e; .inl (nn (h2 b u q))⟩
end
def uni (A B : Hp) : Hp := fun b => match A b with
  | some o => some o
  | none => B b
theorem uni_l {A B : Hp} : Same A (uni A B) := fun b o e => by unfold uni; rw [e]
theorem uni_r {A B : Hp} (d : ∀ b, A b = none ∨ B b = none) : Same B (uni A B) := fun b o e => by
  unfold uni
  rcases d b with z | z
  · rw [z]; exact e
  · rw [e] at z; cases z
theorem uni_of {A B : Hp} {b : Addr} (h : uni A B b ≠ none) : A b ≠ none ∨ B b ≠ none := by
  unfold uni at h
  cases q : A b with
  | none => rw [q] at h; exact .inr h
  | some o => exact .inl (Option.some_ne_none o)
theorem uni_none {A B : Hp} {b : Addr} (h : uni A B b = none) : A b = none ∧ B b = none := by
  unfold uni at h
  cases q : A b with
  | none => rw [q] at h; exact ⟨rfl, h⟩
  | some o => rw [q] at h; cases h

/-! ### slots -/
inductive Slot where
  | un
  | im (P : Hp → V → Prop) (up : ∀ I I' v, Same I I' → P I v → P I' v)
  | ow (R : Hp → Hp → V → Prop) (up : ∀ I I' O v, Same I I' → R I O v → R I' O v)
abbrev Gam := List Slot
def Gam.put : Gam → Nat → Slot → Gam
  | [], _, _ => []
  | _ :: g, 0, s => s :: g
  | t :: g, i + 1, s => t :: Gam.put g i s
def Gam.at : Gam → Nat → Slot
  | [], _ => .un
  | s :: _, 0 => s
  | _ :: g, i + 1 => Gam.at g i
def Gam.forg : Gam → List Nat → Gam
  | g, [] => g
  | g, i :: is => Gam.forg (g.put i .un) is
/-- the slots hold what they should; each owned one has its own part of O -/
def Sat : Gam → L2.St → Hp → Hp → Prop
  | [], [], _, _ => True
  | .un :: g, _ :: σ, I, O => Sat g σ I O
  | .im P _ :: g, x :: σ, I, O => (∃ v, x = some v ∧ P I v) ∧ Sat g σ I O
  | .ow R _ :: g, x :: σ, I, O => ∃ v O1 O2, x = some v ∧ (∀ b, O1 b = none ∨ O2 b = none) ∧ Same O1 O ∧ Same O2 O ∧ R I O1 v ∧ Sat g σ I O2
  | _, _, _, _ => False
theorem Sat.up {I I' : Hp} (e : Same I I') : ∀ {g : Gam} {σ : L2.St} {O : Hp}, Sat g σ I O → Sat g σ I' O
  | [], [], _, _ => trivial
  | .un :: g, _ :: σ, _, h => Sat.up e (g := g) h
  | .im P u :: g, _ :: σ, _, ⟨⟨v, h1, h2⟩, h3⟩ => ⟨⟨v, h1, u _ _ _ e h2⟩, Sat.up e h3⟩
  | .ow R u :: g, _ :: σ, _, ⟨v, O1, O2, h1, h2, h3, h4, h5, h6⟩ => ⟨v, O1, O2, h1, h2, h3, h4, u _ _ _ _ e h5, Sat.up e h6⟩
  | [], _ :: _, _, h => h.elim
  | .un :: _, [], _, h => h.elim
  | .im _ _ :: _, [], _, h => h.elim
  | .ow _ _ :: _, [], _, h => h.elim
theorem Sat.more {I : Hp} : ∀ {g : Gam} {σ : L2.St} {O O' : Hp}, Same O O' → Sat g σ I O → Sat g σ I O'
  | [], [], _, _, _, _ => trivial
  | .un :: g, _ :: σ, _, _, e, h => Sat.more (g := g) e h
  | .im P u :: g, _ :: σ, _, _, e, ⟨h1, h3⟩ => ⟨h1, Sat.more e h3⟩
  | .ow R u :: g, _ :: σ, _, _, e, ⟨v, O1, O2, h1, h2, h3, h4, h5, h6⟩ => ⟨v, O1, O2, h1, h2, h3.trans e, h4.trans e, h5, h6⟩
  | [], _ :: _, _, _, _, h => h.elim
  | .un :: _, [], _, _, _, h => h.elim
  | .im _ _ :: _, [], _, _, _, h => h.elim
  | .ow _ _ :: _, [], _, _, _, h => h.elim
theorem Sat.at_im {I : Hp} {P : Hp → V → Prop} {u} : ∀ {g : Gam} {σ : L2.St} {O : Hp} {i : Nat}, Sat g σ I O → g.at i = .im P u → ∃ v, σ[i]? = some (some v) ∧ P I v
  | [], [], _, _, _, e => by cases e
  | .un :: g, _ :: σ, _, 0, _, e => by cases e
  | .un :: g, _ :: σ, _, i + 1, h, e => Sat.at_im (g := g) (i := i) h e
  | .im P' u' :: g, x :: σ, _, 0, ⟨⟨v, h1, h2⟩, h3⟩, e => by
    have e' : Slot.im P' u' = Slot.im P u := e
    injection e' with e1
    subst e1; subst h1
    exact ⟨v, rfl, h2⟩
  | .im P' u' :: g, _ :: σ, _, i + 1, ⟨_, h3⟩, e => Sat.at_im (g := g) (i := i) h3 e
  | .ow R u' :: g, _ :: σ, _, 0, _, e => by cases e
  | .ow R u' :: g, _ :: σ, _, i + 1, ⟨v, O1, O2, h1, h2, h3, h4, h5, h6⟩, e => Sat.at_im (g := g) (i := i) h6 e
  | [], _ :: _, _, _, h, _ => h.elim
  | .un :: _, [], _, _, h, _ => h.elim
  | .im _ _ :: _, [], _, _, h, _ => h.elim
  | .ow _ _ :: _, [], _, _, h, _ => h.elim
theorem Sat.put_im {I : Hp} {P : Hp → V → Prop} {u} {v : V} (hp : P I v) : ∀ {g : Gam} {σ : L2.St} {O : Hp} {i : Nat}, Sat g σ I O → Sat (g.put i (.im P u)) (σ.set i (some v)) I O
  | [], [], _, _, _ => trivial
  | .un :: g, _ :: σ, _, 0, h => ⟨⟨v, rfl, hp⟩, h⟩
  | .un :: g, _ :: σ, _, i + 1, h => Sat.put_im hp (g := g) (i := i) h
  | .im P' u' :: g, x :: σ, _, 0, ⟨_, h3⟩ => ⟨⟨v, rfl, hp⟩, h3⟩
  | .im P' u' :: g, _ :: σ, _, i + 1, ⟨h1, h3⟩ => ⟨h1, Sat.put_im hp (g := g) (i := i) h3⟩
  | .ow R u' :: g, _ :: σ, _, 0, ⟨w, O1, O2, h1, h2, h3, h4, h5, h6⟩ => ⟨⟨v, rfl, hp⟩, Sat.more h4 h6⟩
  | .ow R u' :: g, _ :: σ, _, i + 1, ⟨w, O1, O2, h1, h2, h3, h4, h5, h6⟩ => ⟨w, O1, O2, h1, h2, h3, h4, h5, Sat.put_im hp (g := g) (i := i) h6⟩
  | [], _ :: _, _, _, h => h.elim
  | .un :: _, [], _, _, h => h.elim
  | .im _ _ :: _, [], _, _, h => h.elim
  | .ow _ _ :: _, [], _, _, h => h.elim
theorem Sat.put_un {I : Hp} {x : Option V} : ∀ {g : Gam} {σ : L2.St} {O : Hp} {i : Nat}, Sat g σ I O → Sat (g.put i .un) (σ.set i x) I O
  | [], [], _, _, _ => trivial
  | .un :: g, _ :: σ, _, 0, h => h
  | .un :: g, _ :: σ, _, i + 1, h => Sat.put_un (g := g) (i := i) h
  | .im P' u' :: g, y :: σ, _, 0, ⟨_, h3⟩ => h3
  | .im P' u' :: g, _ :: σ, _, i + 1, ⟨h1, h3⟩ => ⟨h1, Sat.put_un (g := g) (i := i) h3⟩
  | .ow R u' :: g, _ :: σ, _, 0, ⟨w, O1, O2, h1, h2, h3, h4, h5, h6⟩ => Sat.more h4 h6
  | .ow R u' :: g, _ :: σ, _, i + 1, ⟨w, O1, O2, h1, h2, h3, h4, h5, h6⟩ => ⟨w, O1, O2, h1, h2, h3, h4, h5, Sat.put_un (g := g) (i := i) h6⟩
  | [], _ :: _, _, _, h => h.elim
  | .un :: _, [], _, _, h => h.elim
  | .im _ _ :: _, [], _, _, h => h.elim
  | .ow _ _ :: _, [], _, _, h => h.elim
theorem set_self {α : Type} : ∀ {l : List α} {i : Nat} {x : α}, l[i]? = some x → l.set i x = l
  | [], _, _, h => by simp at h
  | a :: l, 0, x, h => by simp at h; simp [h]
  | a :: l, i + 1, x, h => by simp at h; simp [set_self h]
theorem Sat.len {I : Hp} : ∀ {g : Gam} {σ : L2.St} {O : Hp}, Sat g σ I O → σ.length = g.length
  | [], [], _, _ => rfl
  | .un :: g, _ :: σ, _, h => congrArg Nat.succ (Sat.len (g := g) h)
  | .im P u :: g, _ :: σ, _, ⟨_, h3⟩ => congrArg Nat.succ (Sat.len h3)
  | .ow R u :: g, _ :: σ, _, ⟨v, O1, O2, h1, h2, h3, h4, h5, h6⟩ => congrArg Nat.succ (Sat.len h6)
  | [], _ :: _, _, h => h.elim
  | .un :: _, [], _, h => h.elim
  | .im _ _ :: _, [], _, h => h.elim
  | .ow _ _ :: _, [], _, h => h.elim
theorem Sat.forget {I : Hp} {g : Gam} {σ : L2.St} {O : Hp} {i : Nat} (h : Sat g σ I O) : Sat (g.put i .un) σ I O := by
  by_cases hi : i < σ.length
  · have q := Sat.put_un (x := σ[i]) (i := i) h
    rw [set_self (by simp [hi])] at q
    exact q
  · have q := Sat.put_un (x := none) (i := i) h
    rw [List.set_eq_of_length_le (by omega)] at q
    exact q
theorem Sat.forg {I : Hp} {σ : L2.St} {O : Hp} : ∀ {is : List Nat} {g : Gam}, Sat g σ I O → Sat (g.forg is) σ I O
  | [], _, h => h
  | _ :: is, _, h => Sat.forg (is := is) (Sat.forget h)
theorem Sat.at_ow {I : Hp} {R : Hp → Hp → V → Prop} {u} : ∀ {g : Gam} {σ : L2.St} {O : Hp} {i : Nat}, Sat g σ I O → g.at i = .ow R u →
    ∃ v O1 O2, σ[i]? = some (some v) ∧ (∀ b, O1 b = none ∨ O2 b = none) ∧ Same O1 O ∧ Same O2 O ∧ R I O1 v ∧ Sat (g.put i .un) σ I O2
  | [], [], _, _, _, e => by cases e
  | .un :: g, _ :: σ, _, 0, _, e => by cases e
  | .un :: g, _ :: σ, _, i + 1, h, e => by
    obtain ⟨v, O1, O2, h1, h2, h3, h4, h5, h6⟩ := Sat.at_ow (g := g) (i := i) h e
    exact ⟨v, O1, O2, h1, h2, h3, h4, h5, h6⟩
  | .im P' u' :: g, x :: σ, _, 0, _, e => by cases e
  | .im P' u' :: g, _ :: σ, _, i + 1, ⟨h0, h⟩, e => by
    obtain ⟨v, O1, O2, h1, h2, h3, h4, h5, h6⟩ := Sat.at_ow (g := g) (i := i) h e
    exact ⟨v, O1, O2, h1, h2, h3, h4, h5, h0, h6⟩
  | .ow R' u' :: g, x :: σ, O, 0, ⟨v, O1, O2, h1, h2, h3, h4, h5, h6⟩, e => by
    have e' : Slot.ow R' u' = Slot.ow R u := e
    injection e' with e1
    subst e1; subst h1
    exact ⟨v, O1, O2, rfl, h2, h3, h4, h5, h6⟩
  | .ow R' u' :: g, x :: σ, O, i + 1, ⟨w, P1, P2, k1, k2, k3, k4, k5, k6⟩, e => by
    obtain ⟨v, O1, O2, h1, h2, h3, h4, h5, h6⟩ := Sat.at_ow (g := g) (i := i) k6 e
    have d1 : ∀ b, P1 b = none ∨ O2 b = none := fun b => (k2 b).imp (fun z => z) fun z => h4.free z
    have d2 : ∀ b, O1 b = none ∨ uni P1 O2 b = none := fun b => by
      rcases h2 b with z | z
      · exact .inl z
      · rcases k2 b with y | y
        · refine .inr ?_
          unfold uni
          rw [y]; exact z
        · exact .inl (h3.free y)
    have d3 : Same (uni P1 O2) O := fun b o z => by
      unfold uni at z
      cases q : P1 b with
      | none => rw [q] at z; exact (h4.trans k4) b o z
      | some y => rw [q] at z; exact k3 b o (by rw [q]; exact z)
    exact ⟨v, O1, uni P1 O2, h1, d2, h3.trans k4, d3, h5, w, P1, O2, k1, d1, uni_l, uni_r d1, k5, h6⟩
  | [], _ :: _, _, _, h, _ => h.elim
  | .un :: _, [], _, _, h, _ => h.elim
  | .im _ _ :: _, [], _, _, h, _ => h.elim
  | .ow _ _ :: _, [], _, _, h, _ => h.elim
theorem Sat.put_ow {I : Hp} {R : Hp → Hp → V → Prop} {u} {v : V} {O1 : Hp} (hp : R I O1 v) : ∀ {g : Gam} {σ : L2.St} {O : Hp} {i : Nat}, (∀ b, O1 b = none ∨ O b = none) → Sat g σ I O → Sat (g.put i (.ow R u)) (σ.set i (some v)) I (uni O1 O)
  | [], [], _, _, _, _ => trivial
  | .un :: g, _ :: σ, O, 0, d, h => ⟨v, O1, O, rfl, d, uni_l, uni_r d, hp, h⟩
  | .un :: g, _ :: σ, _, i + 1, d, h => Sat.put_ow hp (g := g) (i := i) d h
  | .im P' u' :: g, x :: σ, O, 0, d, ⟨_, h3⟩ => ⟨v, O1, O, rfl, d, uni_l, uni_r d, hp, h3⟩
  | .im P' u' :: g, _ :: σ, _, i + 1, d, ⟨h1, h3⟩ => ⟨h1, Sat.put_ow hp (g := g) (i := i) d h3⟩
  | .ow R' u' :: g, _ :: σ, O, 0, d, ⟨w, P1, P2, k1, k2, k3, k4, k5, k6⟩ => ⟨v, O1, O, rfl, d, uni_l, uni_r d, hp, Sat.more k4 k6⟩
  | .ow R' u' :: g, _ :: σ, O, i + 1, d, ⟨w, P1, P2, k1, k2, k3, k4, k5, k6⟩ => by
    have d2 : ∀ b, O1 b = none ∨ P2 b = none := fun b => (d b).imp (fun z => z) fun z => k4.free z
    have q := Sat.put_ow hp (u := u) (g := g) (i := i) d2 k6
    refine ⟨w, P1, uni O1 P2, k1, fun b => ?_, k3.trans (uni_r d), fun b o z => ?_, k5, q⟩
    · rcases k2 b with y | y
      · exact .inl y
      · rcases d b with z | z
        · refine .inr ?_
          unfold uni
          rw [z]; exact y
        · exact .inl (k3.free z)
    · unfold uni at z
      cases e : O1 b with
      | none => rw [e] at z; exact (uni_r d) b o (k4 b o z)
      | some y => rw [e] at z; exact uni_l b o (by rw [e]; exact z)
  | [], _ :: _, _, _, _, h => h.elim
  | .un :: _, [], _, _, _, h => h.elim
  | .im _ _ :: _, [], _, _, _, h => h.elim
  | .ow _ _ :: _, [], _, _, _, h => h.elim
theorem Gam.put_put (s t : Slot) : ∀ (g : Gam) (i : Nat), (g.put i s).put i t = g.put i t
  | [], _ => rfl
  | _ :: _, 0 => rfl
  | a :: g, i + 1 => congrArg (a :: ·) (Gam.put_put s t g i)
/-- an owned slot's part exchanged -/
theorem Sat.back {I : Hp} {R : Hp → Hp → V → Prop} {u} {v : V} {O1 O : Hp} {g : Gam} {σ : L2.St} {i : Nat} (hp : R I O1 v) (d : ∀ b, O1 b = none ∨ O b = none) (e : σ[i]? = some (some v)) (h : Sat (g.put i .un) σ I O) : Sat (g.put i (.ow R u)) σ I (uni O1 O) := by
  have q := Sat.put_ow hp (u := u) (i := i) d h
  rw [Gam.put_put, set_self e] at q
  exact q
/-- a name that holds x -/
def sI (K : Fg) {α : Type} [Enc α] (x : α) : Slot := .im (fun I v => Enc.rep K I v x) fun _ _ _ e h => Enc.up e h
/-- a name that holds a list of one's own -/
def sL (K : Fg) {α : Type} [Enc α] (xs : List α) : Slot := .ow (fun I O v => ∃ l vs, v = .ref l ∧ O l = some (.lst vs) ∧ All2 (Enc.rep K I) vs xs) fun _ _ _ _ e ⟨l, vs, h1, h2, h3⟩ => ⟨l, vs, h1, h2, h3.imp fun _ _ z => Enc.up e z⟩
end Mi

set_option Elab.async false
set_option linter.all false
set_option maxRecDepth 100000
set_option maxHeartbeats 4000000
namespace Mi
open PySem PySem.Spec PyProof.Rows L2

/-! ### any value -/
mutual
inductive RD (K : Fg) (I : Hp) : V → D → Prop where
  | non : RD K I .non .non
  | bl (b : Bool) : RD K I (.bl b) (.bl b)
  | int (i : Int) : RD K I (.int i) (.int i)
  | str (x : Str) : RD K I (.str x) (.str x)
  | tup {a : Addr} {vs : List V} {ds : List D} : SqT K I a vs → RDs K I vs ds → RD K I (.ref a) (.tup ds)
  | lst {a : Addr} {vs : List V} {ds : List D} : SqL K I a vs → RDs K I vs ds → RD K I (.ref a) (.lst ds)
  | dct {a : Addr} {kvs : List (Key × V)} {ds : List (D × D)} : I a = some (.dK kvs) → RDk K I kvs ds → RD K I (.ref a) (.dct ds)
  | obj {a dx : Addr} {c : Str} {fs : List (Str × V)} : I a = some (.ins (He.ga K c) dx fs) → RD K I (.ref a) (.obj c a)
inductive RDs (K : Fg) (I : Hp) : List V → List D → Prop where
  | nil : RDs K I [] []
  | cons {v : V} {vs : List V} {d : D} {ds : List D} : RD K I v d → RDs K I vs ds → RDs K I (v :: vs) (d :: ds)
inductive RDk (K : Fg) (I : Hp) : List (Key × V) → List (D × D) → Prop where
  | nil : RDk K I [] []
  | int {i : Int} {v : V} {vs : List (Key × V)} {d : D} {ds : List (D × D)} : RD K I v d → RDk K I vs ds → RDk K I ((.inl i, v) :: vs) ((.int i, d) :: ds)
  | str {x : Str} {v : V} {vs : List (Key × V)} {d : D} {ds : List (D × D)} : RD K I v d → RDk K I vs ds → RDk K I ((.inr x, v) :: vs) ((.str x, d) :: ds)
end
section
variable {K : Fg} {I I' : Hp}
mutual
theorem RD.up (e : Same I I') : ∀ {v : V} {d : D}, RD K I v d → RD K I' v d
  | _, _, .non => .non
  | _, _, .bl b => .bl b
  | _, _, .int i => .int i
  | _, _, .str x => .str x
  | _, _, .tup h r => .tup (sqT_up e h) (RDs.up e r)
  | _, _, .lst h r => .lst (e.seq h) (RDs.up e r)
  | _, _, .dct h r => .dct (e _ _ h) (RDk.up e r)
  | _, _, .obj h => .obj (e _ _ h)
theorem RDs.up (e : Same I I') : ∀ {vs : List V} {ds : List D}, RDs K I vs ds → RDs K I' vs ds
  | _, _, .nil => .nil
  | _, _, .cons h r => .cons (RD.up e h) (RDs.up e r)
theorem RDk.up (e : Same I I') : ∀ {vs : List (Key × V)} {ds : List (D × D)}, RDk K I vs ds → RDk K I' vs ds
  | _, _, .nil => .nil
  | _, _, .int h r => .int (RD.up e h) (RDk.up e r)
  | _, _, .str h r => .str (RD.up e h) (RDk.up e r)
end
end
instance : Enc D := ⟨fun K I v x => RD K I v x, fun e h => RD.up e h⟩

/-! ### the monad: a state, a value or an error -/
abbrev R (S α : Type) := S → Except Er (α × S)
def sr {S α : Type} (x : α) : R S α := fun s => .ok (x, s)
def sb {S α β : Type} (m : R S α) (k : α → R S β) : R S β := fun s => match m s with
  | .ok (x, s') => k x s'
  | .error e => .error e
def so {S α : Type} (o : Option α) : R S α := fun s => match o with
  | some x => .ok (x, s)
  | none => .error .stuck
def sl {S α : Type} (m : Except Er α) : R S α := fun s => match m with
  | .ok x => .ok (x, s)
  | .error e => .error e
def sx {S α : Type} (e : Er) : R S α := fun _ => .error e

/-! ### what is wanted behind -/
inductive FD (K : Fg) (I : Hp) : List (Str × V) → List (Str × D) → Prop where
  | nil : FD K I [] []
  | cons {f : Str} {v : V} {vs : List (Str × V)} {d : D} {ds : List (Str × D)} : RD K I v d → FD K I vs ds → FD K I ((f, v) :: vs) ((f, d) :: ds)
def XD (K : Fg) (I _ : Hp) (d : Addr) (fs : List (Str × D)) : Prop := ∃ vs, I d = some (.xd vs) ∧ FD K I vs fs
def Post {S α : Type} (K : Fg) (E : XK) (Γ : S → Gam) (σ : L2.St) (I O H : Hp) (F : α → Hp → Hp → Prop) : Except Er (α × S) → Prop
  | .ok (x, s') => ∀ I' O' H', St3 I' O' H' → Go I O H I' O' H' → Sat (Γ s') σ I' O' → F x I' H'
  | .error .stuck => False
  | .error (.exc c fs) => ∀ d I' O' H', St3 I' O' H' → Go I O H I' O' H' → XD K I' H' d fs → E (.ref (He.ga K c)) (some d) H'
section
variable {S α β : Type} {K : Fg} {E : XK} {Γ : S → Gam} {σ : L2.St} {I O H I1 O1 H1 : Hp} {F : α → Hp → Hp → Prop}
theorem Post.shift (g : Go I O H I1 O1 H1) : ∀ {r : Except Er (α × S)}, Post K E Γ σ I O H F r → Post K E Γ σ I1 O1 H1 F r
  | .ok (x, s'), h => fun I' O' H' t g' sat => h I' O' H' t (g.trans g') sat
  | .error .stuck, h => h
  | .error (.exc c fs), h => fun d I' O' H' t g' x => h d I' O' H' t (g.trans g') x
theorem Post.imp {F' : α → Hp → Hp → Prop} (f : ∀ x I' H', F x I' H' → F' x I' H') : ∀ {r : Except Er (α × S)}, Post K E Γ σ I O H F r → Post K E Γ σ I O H F' r
  | .ok (x, s'), h => fun I' O' H' t g' sat => f _ _ _ (h I' O' H' t g' sat)
  | .error .stuck, h => h
  | .error (.exc c fs), h => h
/-- what stands behind the first part -/
def Then (I : Hp) (Γ : S → Gam) (σ : L2.St) (W : S → Hp → Hp → Hp → Prop) (I1 H1 : Hp) : Prop := Same I I1 ∧ ∃ s1 O1, St3 I1 O1 H1 ∧ Sat (Γ s1) σ I1 O1 ∧ W s1 I1 O1 H1
theorem Post.bind {F : β → Hp → Hp → Prop} {m : R S α} {k : α → R S β} {s : S} (h : Post K E Γ σ I O H F (sb m k s)) :
    Post K E Γ σ I O H (fun x I1 H1 => Then I Γ σ (fun s1 I1 O1 H1 => Post K E Γ σ I1 O1 H1 F (k x s1)) I1 H1) (m s) := by
  unfold sb at h
  cases e : m s with
  | ok p =>
    obtain ⟨x, s1⟩ := p
    rw [e] at h
    exact fun I1 O1 H1 t g sat => ⟨g.ext, s1, O1, t, sat, Post.shift g h⟩
  | error z =>
    rw [e] at h
    cases z with
    | stuck => exact h
    | exc c fs => exact h
theorem Post.here {s : S} {x : α} (h : Post K E Γ σ I O H F (.ok (x, s))) (t : St3 I O H) (sat : Sat (Γ s) σ I O) : F x I H := h I O H t (Go.refl I O H) sat
theorem Post.at_ {s : S} {x : α} (h : Post K E Γ σ I O H F (sr x s)) (t : St3 I O H) (sat : Sat (Γ s) σ I O) : F x I H := h I O H t (Go.refl I O H) sat
/-- a still object laid -/
theorem Post.laid {s : S} {x : α} {p : Addr} {o : HO} (h : Post K E Γ σ I O H F (sr x s)) (t : St3 I O H) (sat : Sat (Γ s) σ I O) (hp : H p = none) : F x (upd I p o) (upd H p o) :=
  h _ O _ (t.lay hp) (Go.lay t hp) (sat.up (Same.upd_new (t.fi hp)))
theorem Post.some_ {o : Option α} {s : S} (h : Post K E Γ σ I O H F (so o s)) : ∃ x, o = some x ∧ Post K E Γ σ I O H F (sr x s) := by
  cases o with
  | none => exact False.elim h
  | some x => exact ⟨x, rfl, h⟩
end

/-! ### expressions -/
/-- what is wished where an exception leaves: by the slots -/
abbrev EW := L2.St → XK
abbrev kE (E : XK) : EW := fun _ => E
def tM {S α : Type} [Enc α] (K : Fg) (E : EW) (Γ : S → Gam) (m : R S α) : TE := fun σ H Q => ∃ s I O, St3 I O H ∧ Sat (Γ s) σ I O ∧ Post K (E σ) Γ σ I O H (fun x I' H' => ∀ v, Enc.rep K I' v x → Q v H') (m s)
def tMT {S : Type} (K : Fg) (E : EW) (Γ : S → Gam) (m : R S Bool) : TT := fun σ H Q => ∃ s I O, St3 I O H ∧ Sat (Γ s) σ I O ∧ Post K (E σ) Γ σ I O H (fun x _ H' => Q x H') (m s)
/-- the arguments of a call, packed -/
class Args (A : Type) where
  rep : Fg → Hp → List V → A → Prop
  up : ∀ {K : Fg} {I I' : Hp} {v : List V} {x : A}, Same I I' → rep K I v x → rep K I' v x
instance : Args Unit := ⟨fun _ _ vs _ => vs = [], fun _ h => h⟩
instance {α A : Type} [Enc α] [Args A] : Args (α × A) :=
  ⟨fun K I vs x => ∃ v ws, vs = v :: ws ∧ Enc.rep K I v x.1 ∧ Args.rep K I ws x.2, fun e ⟨v, ws, h, r, q⟩ => ⟨v, ws, h, Enc.up e r, Args.up e q⟩⟩
def tMA {S A : Type} [Args A] (K : Fg) (E : EW) (Γ : S → Gam) (m : R S A) : TA := fun σ H Q => ∃ s I O, St3 I O H ∧ Sat (Γ s) σ I O ∧ Post K (E σ) Γ σ I O H (fun x I' H' => ∀ vs, Args.rep K I' vs x → Q vs H') (m s)
def tML {S α : Type} [Enc α] (K : Fg) (E : EW) (Γ : S → Gam) (m : R S (List α)) : TA := fun σ H Q => ∃ s I O, St3 I O H ∧ Sat (Γ s) σ I O ∧ Post K (E σ) Γ σ I O H (fun xs I' H' => ∀ vs, All2 (Enc.rep K I') vs xs → Q vs H') (m s)
abbrev PX (X : Cx) (E : EW) {S α : Type} [Enc α] (Γ : S → Gam) (e : Expr) (m : R S α) : Prop := PE X e (tM X.K E Γ m)
abbrev PTx (X : Cx) (E : EW) {S : Type} (Γ : S → Gam) (e : Expr) (m : R S Bool) : Prop := PT X e (tMT X.K E Γ m)
abbrev PAx (X : Cx) (E : EW) {S A : Type} [Args A] (Γ : S → Gam) (es : List Expr) (m : R S A) : Prop := PA X es (tMA X.K E Γ m)
abbrev PLx (X : Cx) (E : EW) {S α : Type} [Enc α] (Γ : S → Gam) (es : List Expr) (m : R S (List α)) : Prop := PA X es (tML X.K E Γ m)
theorem _root_.L2.PE.mono {X : Cx} {e : Expr} {t t' : TE} (h : PE X e t) (f : ∀ σ H Q, t' σ H Q → t σ H Q) : PE X e t' := ⟨fun pins s σ H Q I q => h.run pins s σ H Q I (f σ H Q q)⟩
theorem _root_.L2.PT.mono {X : Cx} {e : Expr} {t t' : TT} (h : PT X e t) (f : ∀ σ H Q, t' σ H Q → t σ H Q) : PT X e t' := ⟨fun pins s σ H Q I q => h.run pins s σ H Q I (f σ H Q q)⟩
theorem _root_.L2.PA.mono {X : Cx} {e : List Expr} {t t' : TA} (h : PA X e t) (f : ∀ σ H Q, t' σ H Q → t σ H Q) : PA X e t' := ⟨fun po pins s σ H Q I q => h.run po pins s σ H Q I (f σ H Q q)⟩
/-- what a body knows of where it stands -/
structure Ctx (X : Cx) (E : EW) (k : Nat) : Prop where
  pas : ∀ σ, PassesAt (L2.CX X.prog X.w) X σ (E σ)
  own : PassesOwn (model X.prog X.w) X.A X.env X.xe
  room : Room k X.A
  nd : X.N.Nodup
  calm : X.calm = true
  tk : Takes X (fun cls d σ H => E σ cls d H)
section
variable {X : Cx} {E : EW} {S : Type} {Γ : S → Gam} {pos : Pos}
theorem px_var (i : Nat) {x : Str} {α : Type} [Enc α] {a : α} (hN : X.N[i]? = some x := by rfl) (hv : Vis X.env.scope x := by first | exact Or.inl rfl | exact Or.inr (Or.inl rfl) | exact Or.inr (Or.inr rfl))
    (hg : ∀ s, (Γ s).at i = sI X.K a := by exact fun _ => rfl) (hd : (x == ("__debug__" : Str)) = false := by decide) (hcd : (x == ("__classdict__" : Str)) = false := by decide) : PX X E Γ (.Name x pos) (sr a) :=
  (pe_var hN hv hd hcd).mono fun σ H Q ⟨s, I, O, t, sat, h⟩ => by
    obtain ⟨v, h1, h2⟩ := sat.at_im (hg s)
    exact ⟨v, h1, h.at_ t sat v h2⟩
theorem px_int {i : Int} {j} : PX X E Γ (.Constant (.int i) j pos) (sr i) := pe_int.mono fun σ H Q ⟨s, I, O, t, sat, h⟩ => h.at_ t sat _ rfl
theorem px_bl {b : Bool} {j} : PX X E Γ (.Constant (.bool b) j pos) (sr b) := pe_bl.mono fun σ H Q ⟨s, I, O, t, sat, h⟩ => h.at_ t sat _ rfl
theorem px_str {x : Str} {j} : PX X E Γ (.Constant (.str x) j pos) (sr x) := pe_str.mono fun σ H Q ⟨s, I, O, t, sat, h⟩ => h.at_ t sat _ rfl
theorem px_non {j} : PX X E Γ (.Constant .none j pos) (sr ()) := pe_non.mono fun σ H Q ⟨s, I, O, t, sat, h⟩ => h.at_ t sat _ rfl
theorem px_none {α : Type} [Enc α] {j} : PX X E Γ (.Constant .none j pos) (sr (none : Option α)) := pe_non.mono fun σ H Q ⟨s, I, O, t, sat, h⟩ => h.at_ t sat _ rfl
/-- a part whose value may not be there -/
theorem px_get {α : Type} [Enc α] {e : Expr} {m : R S (Option α)} (h : PX X E Γ e m) : PX X E Γ e (sb m so) :=
  L2.PE.mono h fun σ H Q ⟨s, I, O, t, sat, h⟩ => ⟨s, I, O, t, sat, h.bind.imp fun x I1 H1 ⟨_, s1, O1, t1, sat1, h1⟩ v r => by
    obtain ⟨y, rfl, h2⟩ := h1.some_
    exact h2.at_ t1 sat1 v r.2⟩
/-- two parts, by values -/
theorem px_bin {α β γ : Type} [Enc α] [Enc β] [Enc γ] {a b e : Expr} {r : R2} {ma : R S α} {mb : R S β} {f : α → β → R S γ} (rule : ∀ {ta tb : TE}, PE X a ta → PE X b tb → PE X e (tOp r ta tb)) (ha : PX X E Γ a ma) (hb : PX X E Γ b mb)
    (hr : ∀ x y v w s σ I O H Q, Enc.rep X.K I v x → Enc.rep X.K I w y → St3 I O H → Sat (Γ s) σ I O → Post X.K (E σ) Γ σ I O H (fun z I' H' => ∀ u, Enc.rep X.K I' u z → Q u H') (f x y s) → r v w H Q) :
    PX X E Γ e (sb ma fun x => sb mb fun y => f x y) :=
  L2.PE.mono (rule ha hb) fun σ H Q ⟨s, I, O, t, sat, h⟩ => ⟨s, I, O, t, sat, h.bind.imp fun x I1 H1 ⟨_, s1, O1, t1, sat1, h1⟩ v rv => ⟨s1, I1, O1, t1, sat1, h1.bind.imp fun y I2 H2 ⟨e2, s2, O2, t2, sat2, h2⟩ w rw =>
    hr x y v w s2 σ I2 O2 H2 Q (Enc.up e2 rv) rw t2 sat2 h2⟩⟩
theorem px_add {a b : Expr} {ma mb : R S Int} (ha : PX X E Γ a ma) (hb : PX X E Γ b mb) : PX X E Γ (.BinOp a .Add b pos) (sb ma fun x => sb mb fun y => sr (x + y)) :=
  px_bin (pe_op op_add) ha hb fun x y v w s σ I O H Q rv rw t sat h => ⟨x, y, rv, rw, h.at_ t sat _ rfl⟩
theorem px_sub {a b : Expr} {ma mb : R S Int} (ha : PX X E Γ a ma) (hb : PX X E Γ b mb) : PX X E Γ (.BinOp a .Sub b pos) (sb ma fun x => sb mb fun y => sr (x - y)) :=
  px_bin (pe_op op_sub) ha hb fun x y v w s σ I O H Q rv rw t sat h => ⟨x, y, rv, rw, h.at_ t sat _ rfl⟩
/-- sizes at which a product is reckoned -/
def mulOk (i j : Int) : Bool := decide (i.natAbs.log2 + j.natAbs.log2 < 1000000) || decide (-(2 ^ 64) < i ∧ i < 2 ^ 64) || decide (-(2 ^ 64) < j ∧ j < 2 ^ 64)
def pmul (i j : Int) : Option Int := if mulOk i j = true then some (i * j) else none
def pmod (i j : Int) : Option Int := if 0 < j then some (i % j) else none
def pdiv (i j : Int) : Option Int := if 0 < j ∧ j.natAbs.log2 < 9000 then some (i / j) else none
def CMulA (i j : Int) : Prop := mulOk i j = true
theorem op_mulA : OpR X (binaryOp .Mult) (rI CMulA fun i j => .int (i * j)) := opI fun i j _ _ _ _ _ hc q => by
  have hc' : mulOk i j = true := hc
  unfold mulOk at hc'
  simp only [Bool.or_eq_true, decide_eq_true_eq] at hc'
  rcases hc' with (z | z) | z
  · exact mul_int q (CMulW.ok z)
  · exact mul_int q (CMul.ok (.inl z))
  · exact mul_int q (CMul.ok (.inr z))
theorem px_mul {a b : Expr} {ma mb : R S Int} (ha : PX X E Γ a ma) (hb : PX X E Γ b mb) : PX X E Γ (.BinOp a .Mult b pos) (sb ma fun x => sb mb fun y => so (pmul x y)) :=
  px_bin (pe_op op_mulA) ha hb fun x y v w s σ I O H Q rv rw t sat h => by
    obtain ⟨z, e, h⟩ := h.some_
    unfold pmul at e
    split at e
    · rename_i c
      cases e
      exact ⟨x, y, rv, rw, c, h.at_ t sat _ rfl⟩
    · cases e
theorem px_mod {a b : Expr} {ma mb : R S Int} (ha : PX X E Γ a ma) (hb : PX X E Γ b mb) : PX X E Γ (.BinOp a .Mod b pos) (sb ma fun x => sb mb fun y => so (pmod x y)) :=
  px_bin (pe_op op_mod) ha hb fun x y v w s σ I O H Q rv rw t sat h => by
    obtain ⟨z, e, h⟩ := h.some_
    unfold pmod at e
    split at e
    · rename_i c
      cases e
      exact ⟨x, y, rv, rw, c, h.at_ t sat _ rfl⟩
    · cases e
theorem px_div {a b : Expr} {ma mb : R S Int} (ha : PX X E Γ a ma) (hb : PX X E Γ b mb) : PX X E Γ (.BinOp a .FloorDiv b pos) (sb ma fun x => sb mb fun y => so (pdiv x y)) :=
  px_bin (pe_op op_fdivW) ha hb fun x y v w s σ I O H Q rv rw t sat h => by
    obtain ⟨z, e, h⟩ := h.some_
    unfold pdiv at e
    split at e
    · rename_i c
      cases e
      exact ⟨x, y, rv, rw, c, h.at_ t sat _ rfl⟩
    · cases e
theorem px_un {α γ : Type} [Enc α] [Enc γ] {a e : Expr} {r : V → Hp → VK → Prop} {ma : R S α} {f : α → R S γ} (rule : ∀ {ta : TE}, PE X a ta → PE X e (tUn r ta)) (ha : PX X E Γ a ma)
    (hr : ∀ x v s σ I O H Q, Enc.rep X.K I v x → St3 I O H → Sat (Γ s) σ I O → Post X.K (E σ) Γ σ I O H (fun z I' H' => ∀ u, Enc.rep X.K I' u z → Q u H') (f x s) → r v H Q) :
    PX X E Γ e (sb ma f) :=
  L2.PE.mono (rule ha) fun σ H Q ⟨s, I, O, t, sat, h⟩ => ⟨s, I, O, t, sat, h.bind.imp fun x I1 H1 ⟨_, s1, O1, t1, sat1, h1⟩ v rv => hr x v s1 σ I1 O1 H1 Q rv t1 sat1 h1⟩
theorem px_neg {a : Expr} {ma : R S Int} (ha : PX X E Γ a ma) : PX X E Γ (.UnaryOp .USub a pos) (sb ma fun x => sr (-x)) :=
  px_un (pe_un un_neg) ha fun x v s σ I O H Q rv t sat h => ⟨x, rv, h.at_ t sat _ rfl⟩

/-! ### comparisons: as a value (e) and as a test (t) -/
structure CB (X : Cx) (E : EW) {S : Type} (Γ : S → Gam) (ex : Expr) (m : R S Bool) : Prop where
  e : PX X E Γ ex m
  t : PTx X E Γ ex m
theorem px_cmp {α β : Type} [Enc α] [Enc β] {op : CmpOp} {a b : Expr} {r : R2} {ma : R S α} {mb : R S β} {f : α → β → R S Bool} (ho : OpR X (compareOp op) r) (ha : PX X E Γ a ma) (hb : PX X E Γ b mb) (hm : behindInMarks op b = false)
    (hr : ∀ x y v w s σ I O H Q, Enc.rep X.K I v x → Enc.rep X.K I w y → St3 I O H → Sat (Γ s) σ I O → Post X.K (E σ) Γ σ I O H (fun z I' H' => ∀ u, Enc.rep X.K I' u z → Q u H') (f x y s) → r v w H Q) :
    CB X E Γ (.Compare a [op] [b] pos) (sb ma fun x => sb mb fun y => f x y) :=
  ⟨px_bin (fun p q => pe_cmpR ho p q hm) ha hb hr,
   (pt_cmpR ho ha hb hm).mono fun σ H Q ⟨s, I, O, t, sat, h⟩ => ⟨s, I, O, t, sat, h.bind.imp fun x I1 H1 ⟨_, s1, O1, t1, sat1, h1⟩ v rv => ⟨s1, I1, O1, t1, sat1, h1.bind.imp fun y I2 H2 ⟨e2, s2, O2, t2, sat2, h2⟩ w rw =>
    hr x y v w s2 σ I2 O2 H2 (fun u H' => ∃ k, u = .bl k ∧ Q k H') (Enc.up e2 rv) rw t2 sat2 (h2.imp fun z I3 H3 q u ru => ⟨z, ru, q⟩)⟩⟩⟩
section
variable {a b : Expr} {ma mb : R S Int}
theorem px_lt (ha : PX X E Γ a ma) (hb : PX X E Γ b mb) : CB X E Γ (.Compare a [.Lt] [b] pos) (sb ma fun x => sb mb fun y => sr (decide (x < y))) :=
  px_cmp op_lt ha hb (nomark _) fun x y v w s σ I O H Q rv rw t sat h => ⟨x, y, rv, rw, h.at_ t sat _ rfl⟩
theorem px_le (ha : PX X E Γ a ma) (hb : PX X E Γ b mb) : CB X E Γ (.Compare a [.LtE] [b] pos) (sb ma fun x => sb mb fun y => sr (decide (x ≤ y))) :=
  px_cmp op_le ha hb (nomark _) fun x y v w s σ I O H Q rv rw t sat h => ⟨x, y, rv, rw, h.at_ t sat _ rfl⟩
theorem px_gt (ha : PX X E Γ a ma) (hb : PX X E Γ b mb) : CB X E Γ (.Compare a [.Gt] [b] pos) (sb ma fun x => sb mb fun y => sr (decide (y < x))) :=
  px_cmp op_gt ha hb (nomark _) fun x y v w s σ I O H Q rv rw t sat h => ⟨x, y, rv, rw, h.at_ t sat _ rfl⟩
theorem px_ge (ha : PX X E Γ a ma) (hb : PX X E Γ b mb) : CB X E Γ (.Compare a [.GtE] [b] pos) (sb ma fun x => sb mb fun y => sr (decide (y ≤ x))) :=
  px_cmp op_ge ha hb (nomark _) fun x y v w s σ I O H Q rv rw t sat h => ⟨x, y, rv, rw, h.at_ t sat _ rfl⟩
end
/-- equality of numbers and texts -/
class Sca (α : Type) extends Enc α where
  v : α → V
  is : ∀ {K : Fg} {I : Hp} {u : V} {x : α}, rep K I u x → u = v x
  sc : ∀ x y : α, scal (v x) (v y) = true
  inj : ∀ x y : α, v x = v y → x = y
instance : Sca Int := ⟨.int, fun h => h, fun _ _ => rfl, fun _ _ h => V.int.inj h⟩
instance : Sca Str := ⟨.str, fun h => h, fun _ _ => rfl, fun _ _ h => V.str.inj h⟩
instance : Sca Bool := ⟨.bl, fun h => h, fun _ _ => rfl, fun _ _ h => V.bl.inj h⟩
theorem dec_iff {p q : Prop} [Decidable p] [Decidable q] (h : p ↔ q) : decide p = decide q := by
  by_cases hp : p
  · rw [decide_eq_true hp, decide_eq_true (h.mp hp)]
  · rw [decide_eq_false hp, decide_eq_false fun z => hp (h.mpr z)]
theorem px_eqS {α : Type} [Sca α] [DecidableEq α] {a b : Expr} {ma mb : R S α} (ha : PX X E Γ a ma) (hb : PX X E Γ b mb) : CB X E Γ (.Compare a [.Eq] [b] pos) (sb ma fun x => sb mb fun y => sr (decide (x = y))) :=
  px_cmp op_eq ha hb (nomark _) fun x y v w s σ I O H Q rv rw t sat h => by
    have e1 := Sca.is rv
    have e2 := Sca.is rw
    subst e1 e2
    refine ⟨Sca.sc x y, h.at_ t sat _ ?_⟩
    show V.bl _ = V.bl _
    rw [dec_iff (p := Sca.v x = Sca.v y) (q := x = y) ⟨Sca.inj x y, fun z => by rw [z]⟩]
theorem px_neS {α : Type} [Sca α] [DecidableEq α] {a b : Expr} {ma mb : R S α} (ha : PX X E Γ a ma) (hb : PX X E Γ b mb) : CB X E Γ (.Compare a [.NotEq] [b] pos) (sb ma fun x => sb mb fun y => sr (!decide (x = y))) :=
  px_cmp op_ne ha hb (nomark _) fun x y v w s σ I O H Q rv rw t sat h => by
    have e1 := Sca.is rv
    have e2 := Sca.is rw
    subst e1 e2
    refine ⟨Sca.sc x y, h.at_ t sat _ ?_⟩
    show V.bl _ = V.bl _
    rw [dec_iff (p := Sca.v x = Sca.v y) (q := x = y) ⟨Sca.inj x y, fun z => by rw [z]⟩]
/-- equality of data -/
class Dat (α : Type) extends Enc α where
  pd : α → PyData
  dp : ∀ {K : Fg} {I : Hp} {u : V} {x : α}, rep K I u x → Dp K I u (pd x)
  eqv : ∀ x y : α, PyData.eqv (pd x) (pd y) = true ↔ x = y
def peq {α : Type} [Dat α] [DecidableEq α] (x y : α) : Option Bool := if SeqAt.shaped (Dat.pd x) = true ∧ SeqAt.shaped (Dat.pd y) = true then some (decide (x = y)) else none
theorem peq_some {α : Type} [Dat α] [DecidableEq α] {x y : α} {b : Bool} (h : peq x y = some b) : SeqAt.shaped (Dat.pd x) = true ∧ SeqAt.shaped (Dat.pd y) = true ∧ b = PyData.eqv (Dat.pd x) (Dat.pd y) := by
  unfold peq at h
  split at h
  · rename_i c
    cases h
    refine ⟨c.1, c.2, ?_⟩
    by_cases e : x = y
    · rw [decide_eq_true e, (Dat.eqv x y).mpr e]
    · rw [decide_eq_false e]
      cases q : PyData.eqv (Dat.pd x) (Dat.pd y) with
      | false => rfl
      | true => exact absurd ((Dat.eqv x y).mp q) e
  · cases h
mutual
theorem Dp.up {K : Fg} {I I' : Hp} (e : Same I I') : ∀ {v : V} {d : PyData}, Dp K I v d → Dp K I' v d
  | _, _, .non => .non
  | _, _, .bl b => .bl b
  | _, _, .int i => .int i
  | _, _, .str x => .str x
  | _, _, .tup h r => .tup (sqT_up e h) (DpAll.up e r)
  | _, _, .lst h r => .lst (e.seq h) (DpAll.up e r)
theorem DpAll.up {K : Fg} {I I' : Hp} (e : Same I I') : ∀ {vs : List V} {ds : List PyData}, DpAll K I vs ds → DpAll K I' vs ds
  | _, _, .nil => .nil
  | _, _, .cons h r => .cons (Dp.up e h) (DpAll.up e r)
end
theorem px_eqD {α : Type} [Dat α] [DecidableEq α] {k : Nat} {a b : Expr} {ma mb : R S α} (C : Ctx X E k) (ha : PX X E Γ a ma) (hb : PX X E Γ b mb) : CB X E Γ (.Compare a [.Eq] [b] pos) (sb ma fun x => sb mb fun y => so (peq x y)) :=
  px_cmp (op_eqD C.room.units) ha hb (nomark _) fun x y v w s σ I O H Q rv rw t sat h => by
    obtain ⟨z, e, h⟩ := h.some_
    obtain ⟨h1, h2, rfl⟩ := peq_some e
    exact ⟨_, _, Dp.up t.si (Dat.dp rv), Dp.up t.si (Dat.dp rw), h1, h2, h.at_ t sat _ rfl⟩
theorem px_neD {α : Type} [Dat α] [DecidableEq α] {k : Nat} {a b : Expr} {ma mb : R S α} (C : Ctx X E k) (ha : PX X E Γ a ma) (hb : PX X E Γ b mb) : CB X E Γ (.Compare a [.NotEq] [b] pos) (sb ma fun x => sb mb fun y => sb (so (peq x y)) fun z => sr (!z)) :=
  px_cmp (op_neD C.room.units) ha hb (nomark _) fun x y v w s σ I O H Q rv rw t sat h => by
    cases e : peq x y with
    | none => rw [e] at h; exact False.elim h
    | some z =>
      rw [e] at h
      obtain ⟨h1, h2, rfl⟩ := peq_some e
      exact ⟨_, _, Dp.up t.si (Dat.dp rv), Dp.up t.si (Dat.dp rw), h1, h2, Post.at_ (x := !_) h t sat _ rfl⟩
theorem dec_isN {α : Type} [Enc α] {K : Fg} {I : Hp} {v : V} {x : Option α} (r : Enc.rep K I v x) : decide (v = .non) = x.isNone := by
  cases x with
  | none =>
    have e : v = V.non := r
    rw [e] <;> rfl
  | some y =>
    have e : ¬ v = V.non := r.1
    rw [decide_eq_false e] <;> rfl
theorem px_isN {α : Type} [Enc α] {a : Expr} {ma : R S (Option α)} {j pos'} (ha : PX X E Γ a ma) : CB X E Γ (.Compare a [.Is] [.Constant .none j pos'] pos) (sb ma fun x => sr x.isNone) :=
  ⟨L2.PE.mono (pe_cmp (pc_isN ha) rfl) fun σ H Q ⟨s, I, O, t, sat, h⟩ => ⟨s, I, O, t, sat, h.bind.imp fun x I1 H1 ⟨_, s1, O1, t1, sat1, h1⟩ v rv => h1.at_ t1 sat1 _ (congrArg V.bl (dec_isN rv))⟩,
   L2.PT.mono (pt_cmp (pc_isN ha) rfl) fun σ H Q ⟨s, I, O, t, sat, h⟩ => ⟨s, I, O, t, sat, h.bind.imp fun x I1 H1 ⟨_, s1, O1, t1, sat1, h1⟩ v rv => ⟨_, rfl, by rw [dec_isN rv]; exact h1.at_ t1 sat1⟩⟩⟩
theorem px_notN {α : Type} [Enc α] {a : Expr} {ma : R S (Option α)} {j pos'} (ha : PX X E Γ a ma) : CB X E Γ (.Compare a [.IsNot] [.Constant .none j pos'] pos) (sb ma fun x => sr x.isSome) :=
  ⟨L2.PE.mono (pe_cmp (pc_notN ha) rfl) fun σ H Q ⟨s, I, O, t, sat, h⟩ => ⟨s, I, O, t, sat, h.bind.imp fun x I1 H1 ⟨_, s1, O1, t1, sat1, h1⟩ v rv => h1.at_ t1 sat1 _ (congrArg V.bl (by rw [dec_isN rv]; cases x <;> rfl))⟩,
   L2.PT.mono (pt_cmp (pc_notN ha) rfl) fun σ H Q ⟨s, I, O, t, sat, h⟩ => ⟨s, I, O, t, sat, h.bind.imp fun x I1 H1 ⟨_, s1, O1, t1, sat1, h1⟩ v rv => ⟨_, rfl, by
    have e : (!decide (v = .non)) = x.isSome := by rw [dec_isN rv]; cases x <;> rfl
    rw [e]; exact h1.at_ t1 sat1⟩⟩⟩

/-! ### tests -/
/-- an expression whose value is a truth value, as a test -/
theorem pt_v {e : Expr} {m : R S Bool} (h : PX X E Γ e m) (he : ∀ whole, isTrue e X.env whole = (do let v ← whole; standAt e.pos; holding [v] (truthy v)) := by intro _; rfl) : PTx X E Γ e m :=
  L2.PT.mono (L2.pt_val h he) fun σ H Q ⟨s, I, O, t, sat, h⟩ => ⟨s, I, O, t, sat, h.imp fun x I1 H1 q v rv => ⟨x, rv, q⟩⟩
theorem pt_not {e : Expr} {m : R S Bool} (h : PTx X E Γ e m) : PTx X E Γ (.UnaryOp .Not e pos) (sb m fun x => sr (!x)) :=
  L2.PT.mono (L2.pt_not h) fun σ H Q ⟨s, I, O, t, sat, h⟩ => ⟨s, I, O, t, sat, h.bind.imp fun x I1 H1 ⟨_, s1, O1, t1, sat1, h1⟩ => h1.at_ t1 sat1⟩
/-- and, or over tests -/
abbrev PWx (X : Cx) (E : EW) {S : Type} (Γ : S → Gam) (e : Expr) (m : R S Bool) : Prop := PW X e (tMT X.K E Γ m)
theorem _root_.L2.PW.mono {X : Cx} {e : Expr} {t t' : TT} (h : PW X e t) (f : ∀ σ H Q, t' σ H Q → t σ H Q) : PW X e t' := ⟨fun wh pins s σ H Q I q => h.run wh pins s σ H Q I (f σ H Q q)⟩
def sAnd {S : Type} (a b : R S Bool) : R S Bool := sb a fun x => if x = true then b else sr false
def sOr {S : Type} (a b : R S Bool) : R S Bool := sb a fun x => if x = true then sr true else b
theorem pw_and1 {a : Expr} {ma : R S Bool} (ha : PTx X E Γ a ma) : PWx X E Γ (.BoolOp .And [a] pos) ma := L2.pw_and1 ha
theorem pw_or1 {a : Expr} {ma : R S Bool} (ha : PTx X E Γ a ma) : PWx X E Γ (.BoolOp .Or [a] pos) ma := L2.pw_or1 ha
theorem pw_and {a b : Expr} {rest : List Expr} {ma mb : R S Bool} (ha : PTx X E Γ a ma) (hb : PWx X E Γ (.BoolOp .And (b :: rest) pos) mb) : PWx X E Γ (.BoolOp .And (a :: b :: rest) pos) (sAnd ma mb) :=
  L2.PW.mono (L2.pw_and ha hb) fun σ H Q ⟨s, I, O, t, sat, h⟩ => ⟨s, I, O, t, sat, h.bind.imp fun x I1 H1 ⟨_, s1, O1, t1, sat1, h1⟩ => by
    cases x with
    | true => exact ⟨s1, I1, O1, t1, sat1, h1⟩
    | false => exact h1.at_ t1 sat1⟩
theorem pw_or {a b : Expr} {rest : List Expr} {ma mb : R S Bool} (ha : PTx X E Γ a ma) (hb : PWx X E Γ (.BoolOp .Or (b :: rest) pos) mb) : PWx X E Γ (.BoolOp .Or (a :: b :: rest) pos) (sOr ma mb) :=
  L2.PW.mono (L2.pw_or ha hb) fun σ H Q ⟨s, I, O, t, sat, h⟩ => ⟨s, I, O, t, sat, h.bind.imp fun x I1 H1 ⟨_, s1, O1, t1, sat1, h1⟩ => by
    cases x with
    | false => exact ⟨s1, I1, O1, t1, sat1, h1⟩
    | true => exact h1.at_ t1 sat1⟩
/-- and, or, not over truth values, as values -/
theorem px_and1 {op} {a : Expr} {ma : R S Bool} (ha : PX X E Γ a ma) : PX X E Γ (.BoolOp op [a] pos) ma := pe_one ha
theorem px_and {a b : Expr} {rest : List Expr} {ma mb : R S Bool} (ha : PX X E Γ a ma) (hb : PX X E Γ (.BoolOp .And (b :: rest) pos) mb) : PX X E Γ (.BoolOp .And (a :: b :: rest) pos) (sAnd ma mb) :=
  L2.PE.mono (pe_and ha hb) fun σ H Q ⟨s, I, O, t, sat, h⟩ => ⟨s, I, O, t, sat, h.bind.imp fun x I1 H1 ⟨_, s1, O1, t1, sat1, h1⟩ v rv => ⟨x, rv, by
    cases x with
    | true => exact ⟨s1, I1, O1, t1, sat1, h1⟩
    | false => exact h1.at_ t1 sat1 _ rfl⟩⟩
theorem px_or {a b : Expr} {rest : List Expr} {ma mb : R S Bool} (ha : PX X E Γ a ma) (hb : PX X E Γ (.BoolOp .Or (b :: rest) pos) mb) : PX X E Γ (.BoolOp .Or (a :: b :: rest) pos) (sOr ma mb) :=
  L2.PE.mono (pe_or ha hb) fun σ H Q ⟨s, I, O, t, sat, h⟩ => ⟨s, I, O, t, sat, h.bind.imp fun x I1 H1 ⟨_, s1, O1, t1, sat1, h1⟩ v rv => ⟨x, rv, by
    cases x with
    | false => exact ⟨s1, I1, O1, t1, sat1, h1⟩
    | true => exact h1.at_ t1 sat1 _ rfl⟩⟩
theorem px_not {a : Expr} {ma : R S Bool} (ha : PX X E Γ a ma) : PX X E Γ (.UnaryOp .Not a pos) (sb ma fun x => sr (!x)) :=
  L2.PE.mono (pe_not ha) fun σ H Q ⟨s, I, O, t, sat, h⟩ => ⟨s, I, O, t, sat, h.bind.imp fun x I1 H1 ⟨_, s1, O1, t1, sat1, h1⟩ v rv => ⟨x, rv, h1.at_ t1 sat1 _ rfl⟩⟩
def sIf {S α : Type} (c : R S Bool) (a b : R S α) : R S α := sb c fun x => if x = true then a else b
theorem px_ifExp {α : Type} [Enc α] {c a b : Expr} {mc : R S Bool} {ma mb : R S α} (hc : PTx X E Γ c mc) (ha : PX X E Γ a ma) (hb : PX X E Γ b mb) : PX X E Γ (.IfExp c a b pos) (sIf mc ma mb) :=
  L2.PE.mono (pe_ifExp hc ha hb) fun σ H Q ⟨s, I, O, t, sat, h⟩ => ⟨s, I, O, t, sat, h.bind.imp fun x I1 H1 ⟨_, s1, O1, t1, sat1, h1⟩ => by
    cases x with
    | true => exact ⟨s1, I1, O1, t1, sat1, h1⟩
    | false => exact ⟨s1, I1, O1, t1, sat1, h1⟩⟩
end
end Mi

set_option Elab.async false
set_option linter.all false
set_option maxRecDepth 100000
set_option maxHeartbeats 4000000
namespace Mi
open PySem PySem.Spec PyProof.Rows L2

/-! ### data that compares -/
instance : Dat Int := ⟨fun x => .int x, fun {K I u x} h => by have e : u = .int x := h; subst e; exact .int x, fun x y => by simp [PyData.eqv]⟩
instance : Dat Str := ⟨fun x => .str x, fun {K I u x} h => by have e : u = .str x := h; subst e; exact .str x, fun x y => by simp [PyData.eqv]⟩
instance : Dat Bool := ⟨fun x => .bool x, fun {K I u x} h => by have e : u = .bl x := h; subst e; exact .bl x, fun x y => by simp [PyData.eqv]⟩
instance {α β : Type} [Dat α] [Dat β] : Dat (α × β) := ⟨fun x => .tuple [Dat.pd x.1, Dat.pd x.2], fun {K I u x} h => by
  obtain ⟨a, v, w, rfl, q, r1, r2⟩ := h
  exact .tup q (.cons (Dat.dp r1) (.cons (Dat.dp r2) .nil)), fun x y => by
  obtain ⟨x1, x2⟩ := x
  obtain ⟨y1, y2⟩ := y
  simp only [PyData.eqv, PyData.eqvAll, Bool.and_true, Bool.and_eq_true, Dat.eqv, Prod.mk.injEq]⟩
theorem dpAll_of {α : Type} [Dat α] {K : Fg} {I : Hp} : ∀ {vs : List V} {xs : List α}, All2 (Enc.rep K I) vs xs → DpAll K I vs (xs.map Dat.pd)
  | [], [], _ => .nil
  | _ :: _, _ :: _, q => .cons (Dat.dp q.1) (dpAll_of q.2)
  | [], _ :: _, q => q.elim
  | _ :: _, [], q => q.elim
theorem eqvAll_of {α : Type} [Dat α] : ∀ (xs ys : List α), PyData.eqvAll (xs.map Dat.pd) (ys.map Dat.pd) = true ↔ xs = ys
  | [], [] => by simp [PyData.eqvAll]
  | x :: xs, y :: ys => by simp only [List.map_cons, PyData.eqvAll, Bool.and_eq_true, Dat.eqv, eqvAll_of xs ys, List.cons.injEq]
  | [], _ :: _ => by simp [PyData.eqvAll]
  | _ :: _, [] => by simp [PyData.eqvAll]
instance {α : Type} [Dat α] : Dat (List α) := ⟨fun x => .list (x.map Dat.pd), fun {K I u x} h => by
  obtain ⟨a, vs, rfl, q, r⟩ := h
  exact .lst (SqL.of q) (dpAll_of r), fun x y => by simp only [PyData.eqv]; exact eqvAll_of x y⟩

section
variable {X : Cx} {E : EW} {S : Type} {Γ : S → Gam} {pos : Pos}
/-! ### arguments -/
theorem pax_nil : PAx X E Γ [] (sr ()) := L2.PA.mono pa_nil fun σ H Q ⟨s, I, O, t, sat, h⟩ => h.at_ t sat _ rfl
theorem pax_cons {α A : Type} [Enc α] [Args A] {e : Expr} {es : List Expr} {m : R S α} {ms : R S A} (h1 : PX X E Γ e m) (h2 : PAx X E Γ es ms) (hs : starEach (e :: es) X.env = (false, eval e X.env) :: starEach es X.env := by rfl) :
    PAx X E Γ (e :: es) (sb m fun x => sb ms fun a => sr (x, a)) :=
  L2.PA.mono (pa_cons h1 h2 hs) fun σ H Q ⟨s, I, O, t, sat, h⟩ => ⟨s, I, O, t, sat, h.bind.imp fun x I1 H1 ⟨_, s1, O1, t1, sat1, h1⟩ v rv => ⟨s1, I1, O1, t1, sat1, h1.bind.imp fun a I2 H2 ⟨e2, s2, O2, t2, sat2, h2⟩ ws rw =>
    h2.at_ t2 sat2 (v :: ws) ⟨v, ws, rfl, Enc.up e2 rv, rw⟩⟩⟩
theorem plx_nil {α : Type} [Enc α] : PLx X E Γ [] (sr ([] : List α)) := L2.PA.mono pa_nil fun σ H Q ⟨s, I, O, t, sat, h⟩ => h.at_ t sat _ trivial
theorem plx_cons {α : Type} [Enc α] {e : Expr} {es : List Expr} {m : R S α} {ms : R S (List α)} (h1 : PX X E Γ e m) (h2 : PLx X E Γ es ms) (hs : starEach (e :: es) X.env = (false, eval e X.env) :: starEach es X.env := by rfl) :
    PLx X E Γ (e :: es) (sb m fun x => sb ms fun a => sr (x :: a)) :=
  L2.PA.mono (pa_cons h1 h2 hs) fun σ H Q ⟨s, I, O, t, sat, h⟩ => ⟨s, I, O, t, sat, h.bind.imp fun x I1 H1 ⟨_, s1, O1, t1, sat1, h1⟩ v rv => ⟨s1, I1, O1, t1, sat1, h1.bind.imp fun a I2 H2 ⟨e2, s2, O2, t2, sat2, h2⟩ ws rw =>
    h2.at_ t2 sat2 (v :: ws) ⟨Enc.up e2 rv, rw⟩⟩⟩

/-! ### tuples and lists that are written -/
theorem small_len {vs : List V} {n : Nat} (h : vs.length = n) (hn : n ≤ 1000) : vs.length ≤ sizeLine := by
  rw [h]; exact Nat.le_trans hn (by decide)
theorem px_tup2 {α β : Type} [Enc α] [Enc β] {es : List Expr} {x1} {m : R S (α × β × Unit)} (h : PAx X E Γ es m) : PX X E Γ (.Tuple es x1 pos) (sb m fun a => sr (a.1, a.2.1)) :=
  L2.PE.mono (pe_tup h) fun σ H Q ⟨s, I, O, t, sat, h⟩ => ⟨s, I, O, t, sat, h.bind.imp fun a I1 H1 ⟨_, s1, O1, t1, sat1, h1⟩ vs rv => by
    obtain ⟨v, ws, rfl, r1, u, us, rfl, r2, r3⟩ := rv
    have e : us = [] := r3
    subst e
    refine ⟨small_len (n := 2) rfl (by decide), fun p hp => ?_⟩
    have k := Same.upd_new (o := HO.tup [v, u]) (t1.fi hp)
    exact h1.laid (o := .tup [v, u]) t1 sat1 hp (.ref p) ⟨p, v, u, rfl, SqT.of upd_same, Enc.up k r1, Enc.up k r2⟩⟩
structure T3 (α β γ : Type) where
  a : α
  b : β
  c : γ
  deriving DecidableEq
instance {α β γ : Type} [Enc α] [Enc β] [Enc γ] : Enc (T3 α β γ) :=
  ⟨fun K I v x => ∃ a u w z, v = .ref a ∧ SqT K I a [u, w, z] ∧ Enc.rep K I u x.a ∧ Enc.rep K I w x.b ∧ Enc.rep K I z x.c,
   fun e ⟨a, u, w, z, h, q, r1, r2, r3⟩ => ⟨a, u, w, z, h, sqT_up e q, Enc.up e r1, Enc.up e r2, Enc.up e r3⟩⟩
theorem px_tup3 {α β γ : Type} [Enc α] [Enc β] [Enc γ] {es : List Expr} {x1} {m : R S (α × β × γ × Unit)} (h : PAx X E Γ es m) : PX X E Γ (.Tuple es x1 pos) (sb m fun a => sr (⟨a.1, a.2.1, a.2.2.1⟩ : T3 α β γ)) :=
  L2.PE.mono (pe_tup h) fun σ H Q ⟨s, I, O, t, sat, h⟩ => ⟨s, I, O, t, sat, h.bind.imp fun a I1 H1 ⟨_, s1, O1, t1, sat1, h1⟩ vs rv => by
    obtain ⟨v, ws, rfl, r1, u, us, rfl, r2, z, zs, rfl, r4, r3⟩ := rv
    have e : zs = [] := r3
    subst e
    refine ⟨small_len (n := 3) rfl (by decide), fun p hp => ?_⟩
    have k := Same.upd_new (o := HO.tup [v, u, z]) (t1.fi hp)
    exact h1.laid (o := .tup [v, u, z]) t1 sat1 hp (.ref p) ⟨p, v, u, z, rfl, SqT.of upd_same, Enc.up k r1, Enc.up k r2, Enc.up k r4⟩⟩
def plen {α : Type} (xs : List α) : Option (List α) := if xs.length ≤ 16777216 then some xs else none
theorem plen_some {α : Type} {xs ys : List α} (h : plen xs = some ys) : ys = xs ∧ xs.length ≤ sizeLine := by
  unfold plen at h
  split at h
  · rename_i c
    cases h
    exact ⟨rfl, by rw [sizeLine_eq]; exact c⟩
  · cases h
theorem px_lst {α : Type} [Enc α] {es : List Expr} {m : R S (List α)} (h : PLx X E Γ es m) : PX X E Γ (.List es pos) (sb m fun a => so (plen a)) :=
  L2.PE.mono (pe_lst h) fun σ H Q ⟨s, I, O, t, sat, h⟩ => ⟨s, I, O, t, sat, h.bind.imp fun a I1 H1 ⟨_, s1, O1, t1, sat1, h1⟩ vs rv => by
    obtain ⟨ys, e, h2⟩ := h1.some_
    obtain ⟨rfl, hl⟩ := plen_some e
    refine ⟨by rw [rv.len]; exact hl, fun p hp => ?_⟩
    have k := Same.upd_new (o := HO.lst vs) (t1.fi hp)
    exact h2.laid (o := .lst vs) t1 sat1 hp (.ref p) ⟨p, vs, rfl, upd_same, rv.imp fun _ _ z => Enc.up k z⟩⟩
def ptup {α : Type} (xs : List α) : Option (Tu α) := if xs.length ≤ 16777216 then some ⟨xs⟩ else none
theorem px_tupN {α : Type} [Enc α] {es : List Expr} {x1} {m : R S (List α)} (h : PLx X E Γ es m) : PX X E Γ (.Tuple es x1 pos) (sb m fun a => so (ptup a)) :=
  L2.PE.mono (pe_tup h) fun σ H Q ⟨s, I, O, t, sat, h⟩ => ⟨s, I, O, t, sat, h.bind.imp fun a I1 H1 ⟨_, s1, O1, t1, sat1, h1⟩ vs rv => by
    obtain ⟨ys, e, h1⟩ := h1.some_
    unfold ptup at e
    split at e
    · rename_i hl
      cases e
      refine ⟨by rw [rv.len, sizeLine_eq]; exact hl, fun p hp => ?_⟩
      have k := Same.upd_new (o := HO.tup vs) (t1.fi hp)
      exact h1.laid (o := .tup vs) t1 sat1 hp (.ref p) ⟨p, vs, rfl, SqT.of upd_same, rv.imp fun _ _ z => Enc.up k z⟩
    · cases e⟩

/-! ### items -/
def pix {α : Type} (xs : List α) (i : Int) : Option α := L2.atI xs i
theorem atI_rep {α : Type} {P : V → α → Prop} {vs : List V} {xs : List α} {i : Int} {x : α} (q : All2 P vs xs) (h : L2.atI xs i = some x) : ∃ v, L2.atI vs i = some v ∧ P v x := by
  unfold L2.atI at h ⊢
  rw [q.len]
  cases e : ixN xs.length i with
  | none => rw [e] at h; cases h
  | some j =>
    rw [e] at h
    exact q.got h
theorem px_ix {α : Type} [Enc α] {a b : Expr} {ma : R S (List α)} {mb : R S Int} (ha : PX X E Γ a ma) (hb : PX X E Γ b mb) (hs : PlainIx b := by exact fun _ _ => rfl) : PX X E Γ (.Subscript a b pos) (sb ma fun x => sb mb fun i => so (pix x i)) :=
  px_bin (fun p q => pe_ix ix_list p q hs) ha hb fun x y v w s σ I O H Q rv rw t sat h => by
    obtain ⟨z, e, h⟩ := h.some_
    obtain ⟨l, vs, rfl, q, r⟩ := rv
    have e2 : w = .int y := rw
    subst e2
    obtain ⟨u, h1, h2⟩ := atI_rep r e
    exact ⟨l, vs, y, u, rfl, rfl, SqL.of (t.si _ _ q), h1, h.at_ t sat u h2⟩
theorem px_ixR {α : Type} [Enc α] {a b : Expr} {ma : R S (Ro α)} {mb : R S Int} (ha : PX X E Γ a ma) (hb : PX X E Γ b mb) (hs : PlainIx b := by exact fun _ _ => rfl) : PX X E Γ (.Subscript a b pos) (sb ma fun x => sb mb fun i => so (pix x.l i)) :=
  px_bin (fun p q => pe_ix ix_list p q hs) ha hb fun x y v w s σ I O H Q rv rw t sat h => by
    obtain ⟨z, e, h⟩ := h.some_
    obtain ⟨l, vs, rfl, q, r⟩ := rv
    have e2 : w = .int y := rw
    subst e2
    obtain ⟨u, h1, h2⟩ := atI_rep r e
    exact ⟨l, vs, y, u, rfl, rfl, t.si.seq q, h1, h.at_ t sat u h2⟩
theorem px_ixT {α : Type} [Enc α] {a b : Expr} {ma : R S (Tu α)} {mb : R S Int} (ha : PX X E Γ a ma) (hb : PX X E Γ b mb) (hs : PlainIx b := by exact fun _ _ => rfl) : PX X E Γ (.Subscript a b pos) (sb ma fun x => sb mb fun i => so (pix x.l i)) :=
  px_bin (fun p q => pe_ix ix_tup p q hs) ha hb fun x y v w s σ I O H Q rv rw t sat h => by
    obtain ⟨z, e, h⟩ := h.some_
    obtain ⟨l, vs, rfl, q, r⟩ := rv
    have e2 : w = .int y := rw
    subst e2
    obtain ⟨u, h1, h2⟩ := atI_rep r e
    exact ⟨l, vs, y, u, rfl, rfl, sqT_up t.si q, h1, h.at_ t sat u h2⟩
/-- one part, then a written index -/
theorem px_fst {α β : Type} [Enc α] [Enc β] {a : Expr} {m : R S (α × β)} {j p} (ha : PX X E Γ a m) : PX X E Γ (.Subscript a (.Constant (.int 0) j p) pos) (sb m fun x => sr x.1) :=
  L2.PE.mono (pe_ix ix_tup ha pe_int fun _ _ => rfl) fun σ H Q ⟨s, I, O, t, sat, h⟩ => ⟨s, I, O, t, sat, h.bind.imp fun x I1 H1 ⟨_, s1, O1, t1, sat1, h1⟩ v rv => by
    obtain ⟨l, u, w, rfl, q, r1, r2⟩ := rv
    exact ⟨l, [u, w], 0, u, rfl, rfl, sqT_up t1.si q, rfl, h1.at_ t1 sat1 u r1⟩⟩
theorem px_snd {α β : Type} [Enc α] [Enc β] {a : Expr} {m : R S (α × β)} {j p} (ha : PX X E Γ a m) : PX X E Γ (.Subscript a (.Constant (.int 1) j p) pos) (sb m fun x => sr x.2) :=
  L2.PE.mono (pe_ix ix_tup ha pe_int fun _ _ => rfl) fun σ H Q ⟨s, I, O, t, sat, h⟩ => ⟨s, I, O, t, sat, h.bind.imp fun x I1 H1 ⟨_, s1, O1, t1, sat1, h1⟩ v rv => by
    obtain ⟨l, u, w, rfl, q, r1, r2⟩ := rv
    exact ⟨l, [u, w], 1, w, rfl, rfl, sqT_up t1.si q, rfl, h1.at_ t1 sat1 w r2⟩⟩
theorem px_t3a {α β γ : Type} [Enc α] [Enc β] [Enc γ] {a : Expr} {m : R S (T3 α β γ)} {j p} (ha : PX X E Γ a m) : PX X E Γ (.Subscript a (.Constant (.int 0) j p) pos) (sb m fun x => sr x.a) :=
  L2.PE.mono (pe_ix ix_tup ha pe_int fun _ _ => rfl) fun σ H Q ⟨s, I, O, t, sat, h⟩ => ⟨s, I, O, t, sat, h.bind.imp fun x I1 H1 ⟨_, s1, O1, t1, sat1, h1⟩ v rv => by
    obtain ⟨l, u, w, z, rfl, q, r1, r2, r3⟩ := rv
    exact ⟨l, [u, w, z], 0, u, rfl, rfl, sqT_up t1.si q, rfl, h1.at_ t1 sat1 u r1⟩⟩
theorem px_t3b {α β γ : Type} [Enc α] [Enc β] [Enc γ] {a : Expr} {m : R S (T3 α β γ)} {j p} (ha : PX X E Γ a m) : PX X E Γ (.Subscript a (.Constant (.int 1) j p) pos) (sb m fun x => sr x.b) :=
  L2.PE.mono (pe_ix ix_tup ha pe_int fun _ _ => rfl) fun σ H Q ⟨s, I, O, t, sat, h⟩ => ⟨s, I, O, t, sat, h.bind.imp fun x I1 H1 ⟨_, s1, O1, t1, sat1, h1⟩ v rv => by
    obtain ⟨l, u, w, z, rfl, q, r1, r2, r3⟩ := rv
    exact ⟨l, [u, w, z], 1, w, rfl, rfl, sqT_up t1.si q, rfl, h1.at_ t1 sat1 w r2⟩⟩
theorem px_t3c {α β γ : Type} [Enc α] [Enc β] [Enc γ] {a : Expr} {m : R S (T3 α β γ)} {j p} (ha : PX X E Γ a m) : PX X E Γ (.Subscript a (.Constant (.int 2) j p) pos) (sb m fun x => sr x.c) :=
  L2.PE.mono (pe_ix ix_tup ha pe_int fun _ _ => rfl) fun σ H Q ⟨s, I, O, t, sat, h⟩ => ⟨s, I, O, t, sat, h.bind.imp fun x I1 H1 ⟨_, s1, O1, t1, sat1, h1⟩ v rv => by
    obtain ⟨l, u, w, z, rfl, q, r1, r2, r3⟩ := rv
    exact ⟨l, [u, w, z], 2, z, rfl, rfl, sqT_up t1.si q, rfl, h1.at_ t1 sat1 z r3⟩⟩
/-- one sign of a text -/
def pixS (z : Str) (i : Int) : Option Str := if z.length ≤ 16777216 then (L2.atI z.cps.toList i).map fun c => ⟨#[c]⟩ else none
theorem px_ixS {a b : Expr} {ma : R S Str} {mb : R S Int} (ha : PX X E Γ a ma) (hb : PX X E Γ b mb) (hs : PlainIx b := by exact fun _ _ => rfl) : PX X E Γ (.Subscript a b pos) (sb ma fun x => sb mb fun i => so (pixS x i)) :=
  px_bin (fun p q => pe_ix ix_str p q hs) ha hb fun x y v w s σ I O H Q rv rw t sat h => by
    obtain ⟨z, e, h⟩ := h.some_
    have e1 : v = .str x := rv
    have e2 : w = .int y := rw
    subst e1 e2
    unfold pixS at e
    split at e
    · rename_i c
      cases q : L2.atI x.cps.toList y with
      | none => rw [q] at e; cases e
      | some k =>
        rw [q] at e
        cases e
        exact ⟨x, y, k, rfl, rfl, by rw [sizeLine_eq]; exact c, q, h.at_ t sat _ rfl⟩
    · cases e

/-! ### built-ins called by name -/
theorem px_b1 {α γ : Type} [Enc α] [Enc γ] {id : String} {x : Str} {e : Expr} {p : Pos} {r : List V → Hp → VK → Prop} {m : R S α} {f : α → R S γ} (hc : CallR X (.builtin id) r) (hm : X.mg x = none) (hv : bootBuiltins x = some (.builtin id)) (he : PX X E Γ e m)
    (hr : ∀ y v s σ I O H Q, Enc.rep X.K I v y → St3 I O H → Sat (Γ s) σ I O → Post X.K (E σ) Γ σ I O H (fun z I' H' => ∀ u, Enc.rep X.K I' u z → Q u H') (f y s) → r [v] H Q)
    (hg : Gl X x := by rfl) (hn : x ≠ "__name__" := by decide) (hdb : (x == ("__debug__" : Str)) = false := by decide) (h1 : starEach [e] X.env = (false, eval e X.env) :: starEach [] X.env := by rfl) (h2 : (backTo pos (starEach [] X.env)).any (·.1) = false := by rfl) :
    PX X E Γ (.Call (.Name x p) [e] [] pos) (sb m f) :=
  L2.PE.mono (pe_callB hc hg hm hv (pa_cons he pa_nil h1) hn hdb h1 h2) fun σ H Q ⟨s, I, O, t, sat, h⟩ => ⟨s, I, O, t, sat, h.bind.imp fun y I1 H1 ⟨_, s1, O1, t1, sat1, h1⟩ v rv => hr y v s1 σ I1 O1 H1 Q rv t1 sat1 h1⟩
theorem px_t1 {α γ : Type} [Enc α] [Enc γ] {id : String} {x : Str} {e : Expr} {p : Pos} {r : List V → Hp → VK → Prop} {m : R S α} {f : α → R S γ} (hc : CallR X (.type id) r) (hm : X.mg x = none) (hv : bootBuiltins x = some (.type id)) (he : PX X E Γ e m)
    (hr : ∀ y v s σ I O H Q, Enc.rep X.K I v y → St3 I O H → Sat (Γ s) σ I O → Post X.K (E σ) Γ σ I O H (fun z I' H' => ∀ u, Enc.rep X.K I' u z → Q u H') (f y s) → r [v] H Q)
    (hg : Gl X x := by rfl) (hn : x ≠ "__name__" := by decide) (hdb : (x == ("__debug__" : Str)) = false := by decide) (h1 : starEach [e] X.env = (false, eval e X.env) :: starEach [] X.env := by rfl) (h2 : (backTo pos (starEach [] X.env)).any (·.1) = false := by rfl) :
    PX X E Γ (.Call (.Name x p) [e] [] pos) (sb m f) :=
  L2.PE.mono (pe_callTy hc hg hm hv (pa_cons he pa_nil h1) hn hdb h1 h2) fun σ H Q ⟨s, I, O, t, sat, h⟩ => ⟨s, I, O, t, sat, h.bind.imp fun y I1 H1 ⟨_, s1, O1, t1, sat1, h1⟩ v rv => hr y v s1 σ I1 O1 H1 Q rv t1 sat1 h1⟩
section
variable {e : Expr} {p : Pos}
theorem px_len {α : Type} [Enc α] {m : R S (List α)} (hm : X.mg "len" = none) (he : PX X E Γ e m) (hg : Gl X "len" := by rfl) (h1 : starEach [e] X.env = (false, eval e X.env) :: starEach [] X.env := by rfl) (h2 : (backTo pos (starEach [] X.env)).any (·.1) = false := by rfl) :
    PX X E Γ (.Call (.Name "len" p) [e] [] pos) (sb m fun x => sr (x.length : Int)) :=
  px_b1 call_len_seq hm boot_len he (fun y v s σ I O H Q rv t sat h => by
    obtain ⟨l, vs, rfl, q, r⟩ := rv
    exact ⟨l, vs, rfl, .inl (SqL.of (t.si _ _ q)), h.at_ t sat _ (by show V.int _ = V.int _; rw [r.len])⟩) hg (by decide) (by decide) h1 h2
theorem px_lenR {α : Type} [Enc α] {m : R S (Ro α)} (hm : X.mg "len" = none) (he : PX X E Γ e m) (hg : Gl X "len" := by rfl) (h1 : starEach [e] X.env = (false, eval e X.env) :: starEach [] X.env := by rfl) (h2 : (backTo pos (starEach [] X.env)).any (·.1) = false := by rfl) :
    PX X E Γ (.Call (.Name "len" p) [e] [] pos) (sb m fun x => sr (x.l.length : Int)) :=
  px_b1 call_len_seq hm boot_len he (fun y v s σ I O H Q rv t sat h => by
    obtain ⟨l, vs, rfl, q, r⟩ := rv
    exact ⟨l, vs, rfl, .inl (t.si.seq q), h.at_ t sat _ (by show V.int _ = V.int _; rw [r.len])⟩) hg (by decide) (by decide) h1 h2
theorem px_lenT {α : Type} [Enc α] {m : R S (Tu α)} (hm : X.mg "len" = none) (he : PX X E Γ e m) (hg : Gl X "len" := by rfl) (h1 : starEach [e] X.env = (false, eval e X.env) :: starEach [] X.env := by rfl) (h2 : (backTo pos (starEach [] X.env)).any (·.1) = false := by rfl) :
    PX X E Γ (.Call (.Name "len" p) [e] [] pos) (sb m fun x => sr (x.l.length : Int)) :=
  px_b1 call_len_seq hm boot_len he (fun y v s σ I O H Q rv t sat h => by
    obtain ⟨l, vs, rfl, q, r⟩ := rv
    exact ⟨l, vs, rfl, .inr (sqT_up t.si q), h.at_ t sat _ (by show V.int _ = V.int _; rw [r.len])⟩) hg (by decide) (by decide) h1 h2
def plenS (x : Str) : Option Int := if x.length ≤ 16777216 then some (x.length : Int) else none
theorem px_lenS {m : R S Str} (hm : X.mg "len" = none) (he : PX X E Γ e m) (hg : Gl X "len" := by rfl) (h1 : starEach [e] X.env = (false, eval e X.env) :: starEach [] X.env := by rfl) (h2 : (backTo pos (starEach [] X.env)).any (·.1) = false := by rfl) :
    PX X E Γ (.Call (.Name "len" p) [e] [] pos) (sb m fun x => so (plenS x)) :=
  px_b1 call_len hm boot_len he (fun y v s σ I O H Q rv t sat h => by
    have e1 : v = .str y := rv
    subst e1
    obtain ⟨z, e, h⟩ := h.some_
    unfold plenS at e
    split at e
    · rename_i c
      cases e
      exact ⟨.str y, y.length, rfl, ⟨by rw [sizeLine_eq]; exact c, rfl⟩, h.at_ t sat _ rfl⟩
    · cases e) hg (by decide) (by decide) h1 h2
theorem px_abs {m : R S Int} (hm : X.mg "abs" = none) (he : PX X E Γ e m) (hg : Gl X "abs" := by rfl) (h1 : starEach [e] X.env = (false, eval e X.env) :: starEach [] X.env := by rfl) (h2 : (backTo pos (starEach [] X.env)).any (·.1) = false := by rfl) :
    PX X E Γ (.Call (.Name "abs" p) [e] [] pos) (sb m fun x => sr (if x < 0 then -x else x)) :=
  px_b1 call_abs hm (by decide +kernel) he (fun y v s σ I O H Q rv t sat h => ⟨y, by rw [show v = V.int y from rv], h.at_ t sat _ rfl⟩) hg (by decide) (by decide) h1 h2
theorem px_intI {m : R S Int} (hm : X.mg "int" = none) (he : PX X E Γ e m) (hg : Gl X "int" := by rfl) (h1 : starEach [e] X.env = (false, eval e X.env) :: starEach [] X.env := by rfl) (h2 : (backTo pos (starEach [] X.env)).any (·.1) = false := by rfl) :
    PX X E Γ (.Call (.Name "int" p) [e] [] pos) (sb m fun x => sr x) :=
  px_t1 call_int1 hm (by decide +kernel) he (fun y v s σ I O H Q rv t sat h => .inl ⟨y, by rw [show v = V.int y from rv], h.at_ t sat _ rfl⟩) hg (by decide) (by decide) h1 h2
/-- list(xs): a copy -/
theorem px_listL {α : Type} [Enc α] {m : R S (List α)} (hm : X.mg "list" = none) (he : PX X E Γ e m) (hg : Gl X "list" := by rfl) (h1 : starEach [e] X.env = (false, eval e X.env) :: starEach [] X.env := by rfl) (h2 : (backTo pos (starEach [] X.env)).any (·.1) = false := by rfl) :
    PX X E Γ (.Call (.Name "list" p) [e] [] pos) (sb m fun x => sr x) :=
  px_t1 call_list_of hm (by decide +kernel) he (fun y v s σ I O H Q rv t sat h => by
    obtain ⟨l, vs, rfl, q, r⟩ := rv
    refine ⟨l, vs, rfl, .inl (SqL.of (t.si _ _ q)), fun z hz => ?_⟩
    have k := Same.upd_new (o := HO.lst vs) (t.fi hz)
    exact h.laid (o := .lst vs) t sat hz (.ref z) ⟨z, vs, rfl, upd_same, r.imp fun _ _ z => Enc.up k z⟩) hg (by decide) (by decide) h1 h2
end
theorem px_max2 {k : Nat} {a b : Expr} {p : Pos} {m : R S (Int × Int × Unit)} (C : Ctx X E k) (hm : X.mg "max" = none) (he : PAx X E Γ [a, b] m) (hg : Gl X "max" := by rfl) (h1 : starEach [a, b] X.env = (false, eval a X.env) :: starEach [b] X.env := by rfl) (h2 : (backTo pos (starEach [b] X.env)).any (·.1) = false := by rfl) :
    PX X E Γ (.Call (.Name "max" p) [a, b] [] pos) (sb m fun x => sr (if x.2.1 > x.1 then x.2.1 else x.1)) :=
  L2.PE.mono (pe_callB (call_max2 C.calm) hg hm (by decide +kernel) he (by decide) (by decide) h1 h2) fun σ H Q ⟨s, I, O, t, sat, h⟩ => ⟨s, I, O, t, sat, h.bind.imp fun y I1 H1 ⟨_, s1, O1, t1, sat1, h1⟩ vs rv => by
    obtain ⟨v, ws, rfl, r1, u, us, rfl, r2, r3⟩ := rv
    have e : us = [] := r3
    have e1 : v = .int y.1 := r1
    have e2 : u = .int y.2.1 := r2
    subst e e1 e2
    exact ⟨_, _, rfl, h1.at_ t1 sat1 _ rfl⟩⟩
theorem px_min2 {k : Nat} {a b : Expr} {p : Pos} {m : R S (Int × Int × Unit)} (C : Ctx X E k) (hm : X.mg "min" = none) (he : PAx X E Γ [a, b] m) (hg : Gl X "min" := by rfl) (h1 : starEach [a, b] X.env = (false, eval a X.env) :: starEach [b] X.env := by rfl) (h2 : (backTo pos (starEach [b] X.env)).any (·.1) = false := by rfl) :
    PX X E Γ (.Call (.Name "min" p) [a, b] [] pos) (sb m fun x => sr (if x.2.1 < x.1 then x.2.1 else x.1)) :=
  L2.PE.mono (pe_callB (call_min2 C.calm) hg hm (by decide +kernel) he (by decide) (by decide) h1 h2) fun σ H Q ⟨s, I, O, t, sat, h⟩ => ⟨s, I, O, t, sat, h.bind.imp fun y I1 H1 ⟨_, s1, O1, t1, sat1, h1⟩ vs rv => by
    obtain ⟨v, ws, rfl, r1, u, us, rfl, r2, r3⟩ := rv
    have e : us = [] := r3
    have e1 : v = .int y.1 := r1
    have e2 : u = .int y.2.1 := r2
    subst e e1 e2
    exact ⟨_, _, rfl, h1.at_ t1 sat1 _ rfl⟩⟩

/-! ### in -/
def pin {α : Type} [Dat α] [DecidableEq α] (x : α) (xs : List α) : Option Bool := if SeqAt.shaped (Dat.pd x) = true ∧ SeqAt.shaped (Dat.pd xs) = true then some (decide (x ∈ xs)) else none
theorem any_mem {α : Type} [Dat α] [DecidableEq α] (x : α) : ∀ xs : List α, ((xs.map Dat.pd).any fun z => PyData.eqv z (Dat.pd x)) = decide (x ∈ xs)
  | [] => by simp
  | y :: ys => by
    rw [List.map_cons, List.any_cons, any_mem x ys]
    by_cases e : y = x
    · rw [(Dat.eqv y x).mpr e]; simp [e]
    · have q : PyData.eqv (Dat.pd y) (Dat.pd x) = false := by
        cases q : PyData.eqv (Dat.pd y) (Dat.pd x) with
        | false => rfl
        | true => exact absurd ((Dat.eqv y x).mp q) e
      rw [q]
      have e' : ¬ x = y := fun z => e z.symm
      simp [e']
theorem pin_some {α : Type} [Dat α] [DecidableEq α] {x : α} {xs : List α} {b : Bool} (h : pin x xs = some b) : SeqAt.shaped (Dat.pd x) = true ∧ SeqAt.shaped (Dat.pd xs) = true ∧ b = ((xs.map Dat.pd).any fun z => PyData.eqv z (Dat.pd x)) := by
  unfold pin at h
  split at h
  · rename_i c
    cases h
    exact ⟨c.1, c.2, (any_mem x xs).symm⟩
  · cases h
theorem px_in {α : Type} [Dat α] [DecidableEq α] {k : Nat} {a b : Expr} {ma : R S α} {mb : R S (List α)} (C : Ctx X E (k + 1)) (ha : PX X E Γ a ma) (hb : PX X E Γ b mb) (hm : behindInMarks .In b = false := by rfl) : CB X E Γ (.Compare a [.In] [b] pos) (sb ma fun x => sb mb fun y => so (pin x y)) :=
  px_cmp (op_inD (by have := C.room.un; omega)) ha hb hm fun x y v w s σ I O H Q rv rw t sat h => by
    obtain ⟨z, e, h⟩ := h.some_
    obtain ⟨h1, h2, rfl⟩ := pin_some e
    exact ⟨_, _, Dp.up t.si (Dat.dp rv), Dp.up t.si (Dat.dp rw), h1, h2, h.at_ t sat _ rfl⟩
theorem px_notIn {α : Type} [Dat α] [DecidableEq α] {k : Nat} {a b : Expr} {ma : R S α} {mb : R S (List α)} (C : Ctx X E (k + 1)) (ha : PX X E Γ a ma) (hb : PX X E Γ b mb) (hm : behindInMarks .NotIn b = false := by rfl) : CB X E Γ (.Compare a [.NotIn] [b] pos) (sb ma fun x => sb mb fun y => sb (so (pin x y)) fun z => sr (!z)) :=
  px_cmp (op_notInD (by have := C.room.un; omega)) ha hb hm fun x y v w s σ I O H Q rv rw t sat h => by
    cases e : pin x y with
    | none => rw [e] at h; exact False.elim h
    | some z =>
      rw [e] at h
      obtain ⟨h1, h2, rfl⟩ := pin_some e
      exact ⟨_, _, Dp.up t.si (Dat.dp rv), Dp.up t.si (Dat.dp rw), h1, h2, Post.at_ (x := !_) h t sat _ rfl⟩
end
end Mi

set_option Elab.async false
set_option linter.all false
set_option maxRecDepth 100000
set_option maxHeartbeats 4000000
namespace Mi
open PySem PySem.Spec PyProof.Rows L2

/-! ### blocks -/
inductive Out (ρ τ β : Type) where
  | nx (r : ρ) | bk (r : τ) | ct (r : τ) | rt (b : β)
def PostB {S ρ τ β : Type} (K : Fg) (E : XK) (Λ : τ → S → Gam) (Res : S → Hp → Hp → V → β → Prop) (Δ : ρ → S → Gam) (I O H : Hp) (D : Ends) : Except Er (Out ρ τ β × S) → Prop
  | .ok (.nx r, s') => ∀ σ' I' O' H', St3 I' O' H' → Go I O H I' O' H' → Sat (Δ r s') σ' I' O' → D.nx σ' H'
  | .ok (.bk r, s') => ∀ σ' I' O' H', St3 I' O' H' → Go I O H I' O' H' → Sat (Λ r s') σ' I' O' → D.bk σ' H'
  | .ok (.ct r, s') => ∀ σ' I' O' H', St3 I' O' H' → Go I O H I' O' H' → Sat (Λ r s') σ' I' O' → D.ct σ' H'
  | .ok (.rt b, s') => ∀ v I' O' H', St3 I' O' H' → Go I O H I' O' H' → Res s' I' O' v b → D.rt v H'
  | .error .stuck => False
  | .error (.exc c fs) => ∀ d I' O' H', St3 I' O' H' → Go I O H I' O' H' → XD K I' H' d fs → E (.ref (He.ga K c)) (some d) H'
def tB {S ρ τ β : Type} (K : Fg) (E : EW) (Λ : τ → S → Gam) (Res : S → Hp → Hp → V → β → Prop) (Γ : S → Gam) (Δ : ρ → S → Gam) (m : R S (Out ρ τ β)) : TS :=
  fun D σ H => ∃ s I O, St3 I O H ∧ Sat (Γ s) σ I O ∧ PostB K (E σ) Λ Res Δ I O H D (m s)
abbrev PB (X : Cx) (E : EW) {S ρ τ β : Type} (Λ : τ → S → Gam) (Res : S → Hp → Hp → V → β → Prop) (Γ : S → Gam) (body : List Stmt) (Δ : ρ → S → Gam) (m : R S (Out ρ τ β)) : Prop :=
  PSs X body (tB X.K E Λ Res Γ Δ m)
theorem _root_.L2.PSs.mono {X : Cx} {b : List Stmt} {t t' : TS} (h : PSs X b t) (f : ∀ D σ H, t' D σ H → t D σ H) : PSs X b t' := ⟨fun pins s σ H D I q => h.run pins s σ H D I (f D σ H q)⟩
theorem _root_.L2.PSs.ex {X : Cx} {b : List Stmt} {α : Type} {t : α → TS} (h : ∀ x, PSs X b (t x)) : PSs X b (fun D σ H => ∃ x, t x D σ H) := ⟨fun pins s σ H D I ⟨x, q⟩ => (h x).run pins s σ H D I q⟩
theorem _root_.L2.PT.ex {X : Cx} {e : Expr} {α : Type} {t : α → TT} (h : ∀ x, PT X e (t x)) : PT X e (fun σ H Q => ∃ x, t x σ H Q) := ⟨fun pins s σ H Q I ⟨x, q⟩ => (h x).run pins s σ H Q I q⟩
/-- one block behind another -/
def obd {S ρ ρ1 τ β : Type} (m : R S (Out ρ1 τ β)) (k : ρ1 → R S (Out ρ τ β)) : R S (Out ρ τ β) := fun s => match m s with
  | .ok (.nx r, s') => k r s'
  | .ok (.bk r, s') => .ok (.bk r, s')
  | .ok (.ct r, s') => .ok (.ct r, s')
  | .ok (.rt b, s') => .ok (.rt b, s')
  | .error e => .error e
section
variable {S ρ ρ1 τ β α : Type} {K : Fg} {E : XK} {Λ : τ → S → Gam} {Res : S → Hp → Hp → V → β → Prop} {Δ : ρ → S → Gam} {Δ1 : ρ1 → S → Gam} {Γ : S → Gam} {I O H I1 O1 H1 : Hp} {D : Ends} {σ : L2.St}
theorem PostB.shift (g : Go I O H I1 O1 H1) : ∀ {r : Except Er (Out ρ τ β × S)}, PostB K E Λ Res Δ I O H D r → PostB K E Λ Res Δ I1 O1 H1 D r
  | .ok (.nx r, s'), h => fun σ' I' O' H' t g' sat => h σ' I' O' H' t (g.trans g') sat
  | .ok (.bk r, s'), h => fun σ' I' O' H' t g' sat => h σ' I' O' H' t (g.trans g') sat
  | .ok (.ct r, s'), h => fun σ' I' O' H' t g' sat => h σ' I' O' H' t (g.trans g') sat
  | .ok (.rt b, s'), h => fun v I' O' H' t g' x => h v I' O' H' t (g.trans g') x
  | .error .stuck, h => h
  | .error (.exc c fs), h => fun d I' O' H' t g' x => h d I' O' H' t (g.trans g') x
theorem PostB.bind {m : R S α} {k : α → R S (Out ρ τ β)} {s : S} (h : PostB K E Λ Res Δ I O H D (sb m k s)) :
    Post K E Γ σ I O H (fun x I1 H1 => Then I Γ σ (fun s1 I1 O1 H1 => PostB K E Λ Res Δ I1 O1 H1 D (k x s1)) I1 H1) (m s) := by
  unfold sb at h
  cases e : m s with
  | ok p =>
    obtain ⟨x, s1⟩ := p
    rw [e] at h
    exact fun I1 O1 H1 t g sat => ⟨g.ext, s1, O1, t, sat, h.shift g⟩
  | error z =>
    rw [e] at h
    cases z with
    | stuck => exact h
    | exc c fs => exact h
/-- the first of two blocks; u is what the second wants -/
theorem PostB.first {m : R S (Out ρ1 τ β)} {k : ρ1 → R S (Out ρ τ β)} {s : S} (h : PostB K E Λ Res Δ I O H D (obd m k s)) :
    PostB K E Λ Res Δ1 I O H { D with nx := fun σ' H' => ∃ r, tB K (kE E) Λ Res (Δ1 r) Δ (k r) D σ' H' } (m s) := by
  unfold obd at h
  cases e : m s with
  | ok p =>
    obtain ⟨x, s1⟩ := p
    rw [e] at h
    cases x with
    | nx r => exact fun σ' I' O' H' t g sat => ⟨r, s1, I', O', t, sat, h.shift g⟩
    | bk r => exact h
    | ct r => exact h
    | rt b => exact h
  | error z =>
    rw [e] at h
    cases z with
    | stuck => exact h
    | exc c fs => exact h
theorem PostB.some_ {o : Option α} {k : α → R S (Out ρ τ β)} {s : S} (h : PostB K E Λ Res Δ I O H D (sb (so o) k s)) : ∃ x, o = some x ∧ PostB K E Λ Res Δ I O H D (k x s) := by
  cases o with
  | none => exact False.elim h
  | some x => exact ⟨x, rfl, h⟩
end
section
variable {X : Cx} {E : EW} {S ρ ρ1 τ β α : Type} {Γ : S → Gam} {Λ : τ → S → Gam} {Res : S → Hp → Hp → V → β → Prop} {Δ : ρ → S → Gam} {Δ1 : ρ1 → S → Gam} {pos pos' : Pos} {rest : List Stmt} {k : Nat}
theorem pb_nil (is : List Nat) {r : ρ} (h : ∀ s, Δ r s = (Γ s).forg is := by exact fun _ => rfl) : PB X E Λ Res Γ [] Δ (sr (.nx r)) :=
  pss_nil.mono fun D σ H ⟨s, I, O, t, sat, q⟩ => q σ I O H t (Go.refl I O H) (by rw [h s]; exact sat.forg)
theorem pb_set {E : XK} (i : Nat) {x : Str} {e : Expr} [Enc α] {m : R S α} {kk : α → R S (Out ρ τ β)} (C : Ctx X (kE E) k) (he : PX X (kE E) Γ e m) (hk : ∀ a, PB X (kE E) Λ Res (fun s => (Γ s).put i (sI X.K a)) rest Δ (kk a))
    (hi : X.N[i]? = some x := by rfl) (hx : Loc X.env.scope x := by first | exact Or.inl rfl | exact Or.inr rfl) (hs : swapsWith e (some (.Name x pos')) pos.line X.env = pure false := by rfl) (hf : X.fn x = true ∨ X.env.scope.names.lookup x = some .local := by first | exact .inl rfl | exact .inr rfl) :
    PB X (kE E) Λ Res Γ (.Assign [.Name x pos'] e pos :: rest) Δ (sb m kk) :=
  (pss_cons (ps_set C.nd hi hx he hs hf) (L2.PSs.ex hk)).mono fun D σ H ⟨s, I, O, t, sat, q⟩ => ⟨s, I, O, t, sat, q.bind.imp fun a I1 H1 ⟨_, s1, O1, t1, sat1, h1⟩ v rv => ⟨a, s1, I1, O1, t1, sat1.put_im rv, h1⟩⟩
theorem pb_expr {e : Expr} [Enc α] {m : R S α} {kk : R S (Out ρ τ β)} (he : PX X E Γ e m) (hk : PB X E Λ Res Γ rest Δ kk) (hs : swapsWith e none pos.line X.env = pure false := by rfl) :
    PB X E Λ Res Γ (.Expr e pos :: rest) Δ (sb m fun _ => kk) :=
  (pss_cons (ps_expr he hs) hk).mono fun D σ H ⟨s, I, O, t, sat, q⟩ => ⟨s, I, O, t, sat, q.bind.imp fun a I1 H1 ⟨_, s1, O1, t1, sat1, h1⟩ v rv => ⟨s1, I1, O1, t1, sat1, h1⟩⟩
/-- what a def hands back, where nothing is handed in to be changed -/
def resI (K : Fg) [Enc β] : S → Hp → Hp → V → β → Prop := fun _ I _ v b => Enc.rep K I v b
theorem pb_ret {e : Expr} [Enc α] {m : R S α} (f : α → β) (he : PX X E Γ e m) (hr : ∀ s σ I O v x, Sat (Γ s) σ I O → Enc.rep X.K I v x → Res s I O v (f x)) : PB X E Λ Res Γ (.Return (some e) pos :: rest) Δ (sb m fun x => sr (.rt (f x))) :=
  (pss_cons (ps_ret he) pss_never).mono fun D σ H ⟨s, I, O, t, sat, q⟩ => ⟨s, I, O, t, sat, q.bind.imp fun a I1 H1 ⟨_, s1, O1, t1, sat1, h1⟩ v rv => h1 v I1 O1 H1 t1 (Go.refl ..) (hr s1 σ I1 O1 v a sat1 rv)⟩
theorem pb_retI {e : Expr} [Enc β] {m : R S β} (he : PX X E Γ e m) : PB X E Λ (resI X.K) Γ (.Return (some e) pos :: rest) Δ (sb m fun x => sr (.rt x)) := pb_ret (fun x => x) he fun _ _ _ _ _ _ _ r => r
theorem pb_brk (is : List Nat) {r : τ} (h : ∀ s, Λ r s = (Γ s).forg is := by exact fun _ => rfl) : PB X E Λ Res Γ (.Break pos :: rest) Δ (sr (.bk r)) :=
  (pss_cons ps_break pss_never).mono fun D σ H ⟨s, I, O, t, sat, q⟩ => q σ I O H t (Go.refl I O H) (by rw [h s]; exact sat.forg)
theorem pb_ctn (is : List Nat) {r : τ} (h : ∀ s, Λ r s = (Γ s).forg is := by exact fun _ => rfl) : PB X E Λ Res Γ (.Continue pos :: rest) Δ (sr (.ct r)) :=
  (pss_cons ps_continue pss_never).mono fun D σ H ⟨s, I, O, t, sat, q⟩ => q σ I O H t (Go.refl I O H) (by rw [h s]; exact sat.forg)
theorem pb_pass {m : R S (Out ρ τ β)} (h : PB X E Λ Res Γ rest Δ m) : PB X E Λ Res Γ (.Pass pos :: rest) Δ m := (pss_cons ps_pass h).mono fun _ _ _ q => q
/-- code that is not come to -/
theorem pb_stuck {b : List Stmt} : PB X E Λ Res Γ b Δ (sx (.stuck : Er)) := pss_never.mono fun D σ H ⟨s, I, O, t, sat, q⟩ => q.elim
theorem pb_if {E : XK} {c : Expr} {a b : List Stmt} {mc : R S Bool} {ma mb : R S (Out ρ1 τ β)} {kk : ρ1 → R S (Out ρ τ β)} (hc : PTx X (kE E) Γ c mc) (ha : PB X (kE E) Λ Res Γ a Δ1 ma) (hb : PB X (kE E) Λ Res Γ b Δ1 mb) (hk : ∀ r, PB X (kE E) Λ Res (Δ1 r) rest Δ (kk r)) :
    PB X (kE E) Λ Res Γ (.If c a b pos :: rest) Δ (obd (sIf mc ma mb) kk) :=
  (pss_cons (ps_if hc ha hb) (L2.PSs.ex hk)).mono fun D σ H ⟨s, I, O, t, sat, q⟩ => ⟨s, I, O, t, sat, by
    have q1 := q.first (Δ1 := Δ1)
    unfold sIf at q1
    refine q1.bind.imp fun x I1 H1 ⟨_, s1, O1, t1, sat1, h1⟩ => ?_
    cases x with
    | true => exact ⟨s1, I1, O1, t1, sat1, h1⟩
    | false => exact ⟨s1, I1, O1, t1, sat1, h1⟩⟩

/-! ### targets -/
structure GT (X : Cx) (tg : Expr) (α : Type) [Enc α] (js : List Nat) (up : Gam → α → Gam) : Prop where
  ex : ∃ g, PG X tg g ∧ ∀ v x σ I O H (Q : L2.St → Hp → Prop) Γ, Enc.rep X.K I v x → St3 I O H → Sat Γ σ I O → (∀ σ', Sat (up Γ x) σ' I O → (∀ vs, (∀ j ∈ js, j ∈ vs) → wipe σ' vs = wipe σ vs) → Q σ' H) → g v σ H Q
theorem wipe_set (σ : L2.St) (i : Nat) (x : Option V) : ∀ {vs : List Nat}, i ∈ vs → wipe (σ.set i x) vs = wipe σ vs
  | [], h => by simp at h
  | v :: vs, h => by
    unfold wipe
    by_cases e : i ∈ vs
    · rw [wipe_set σ i x e]
    · have e2 : i = v := by
        rcases List.mem_cons.mp h with z | z
        · exact z
        · exact absurd z e
      subst e2
      have key : ∀ {ws : List Nat} {σ : L2.St}, i ∉ ws → wipe (σ.set i x) ws = (wipe σ ws).set i x := by
        intro ws
        induction ws with
        | nil => intro σ _; rfl
        | cons w ws ih =>
          intro σ hw
          unfold wipe
          have h1 : i ≠ w := fun z => hw (by simp [z])
          rw [ih fun z => hw (by simp [z]), List.set_comm _ _ h1]
      rw [key e, List.set_set]
theorem gt_name (i : Nat) {x : Str} [Enc α] (hN : X.N.Nodup) (hi : X.N[i]? = some x := by rfl) (hx : Loc X.env.scope x := by first | exact Or.inl rfl | exact Or.inr rfl) (hf : X.fn x = true ∨ X.env.scope.names.lookup x = some .local := by first | exact .inl rfl | exact .inr rfl) :
    GT X (.Name x pos) α [i] (fun Γ a => Γ.put i (sI X.K a)) :=
  ⟨_, pg_name hN hi hx hf, fun v x σ I O H Q Γ r t sat h => h _ (sat.put_im r) fun vs hv => wipe_set σ i _ (hv i (by simp))⟩
theorem gt_tup2 (i j : Nat) {x y : Str} {p1 p2 : Pos} {kk} {α β : Type} [Enc α] [Enc β] (hN : X.N.Nodup) (hc : X.calm = true) (hi : X.N[i]? = some x := by rfl) (hx : Loc X.env.scope x := by first | exact Or.inl rfl | exact Or.inr rfl) (hf : X.fn x = true ∨ X.env.scope.names.lookup x = some .local := by first | exact .inl rfl | exact .inr rfl)
    (hj : X.N[j]? = some y := by rfl) (hy : Loc X.env.scope y := by first | exact Or.inl rfl | exact Or.inr rfl) (hg : X.fn y = true ∨ X.env.scope.names.lookup y = some .local := by first | exact .inl rfl | exact .inr rfl)
    (h1 : (assignEach [.Name x p1, .Name y p2] X.env).map (·.2) = assign (.Name x p1) X.env :: (assignEach [.Name y p2] X.env).map (·.2) := by rfl) (h2 : (assignEach [.Name y p2] X.env).map (·.2) = assign (.Name y p2) X.env :: (assignEach [] X.env).map (·.2) := by rfl)
    (h3 : (assignEach [.Name x p1, .Name y p2] X.env).length = 2 := by rfl) (h4 : (assignEach [.Name x p1, .Name y p2] X.env).findIdx? (·.1) = none := by rfl) :
    GT X (.Tuple [.Name x p1, .Name y p2] kk pos) (α × β) [i, j] (fun Γ a => (Γ.put i (sI X.K a.1)).put j (sI X.K a.2)) :=
  ⟨_, pg_tup hc (pgs_cons (pg_name hN hi hx hf) (pgs_cons (pg_name hN hj hy hg) pgs_nil h2) h1) h3 h4, fun v x σ I O H Q Γ r t sat h => by
    obtain ⟨a, u, w, rfl, q, r1, r2⟩ := r
    refine ⟨a, [u, w], rfl, sqT_up t.si q, rfl, u, [w], rfl, w, [], rfl, rfl, h _ ((sat.put_im r1).put_im r2) fun vs hv => ?_⟩
    rw [wipe_set _ j _ (hv j (by simp)), wipe_set _ i _ (hv i (by simp))]⟩
/-- a, b = e -/
theorem pb_asg {E : XK} (js : List Nat) {tg e : Expr} [Enc α] {up : Gam → α → Gam} {m : R S α} {kk : α → R S (Out ρ τ β)} (hg : GT X tg α js up) (he : PX X (kE E) Γ e m) (hk : ∀ a, PB X (kE E) Λ Res (fun s => up (Γ s) a) rest Δ (kk a))
    (hs : swapsWithSole [tg] e pos.line X.env = pure false := by rfl) (hw : swappedStores [tg] e X.env = pure none := by rfl) (h0 : (assignEach [tg] X.env).map (·.2) = [assign tg X.env] := by rfl) :
    PB X (kE E) Λ Res Γ (.Assign [tg] e pos :: rest) Δ (sb m kk) := by
  obtain ⟨g, h1, h2⟩ := hg.ex
  exact (pss_cons (ps_asg he h1 hs hw h0) (L2.PSs.ex hk)).mono fun D σ H ⟨s, I, O, t, sat, q⟩ => ⟨s, I, O, t, sat, q.bind.imp fun a I1 H1 ⟨_, s1, O1, t1, sat1, q1⟩ v rv =>
    h2 v a σ I1 O1 H1 _ _ rv t1 sat1 fun σ' sat' _ => ⟨a, s1, I1, O1, t1, sat', q1⟩⟩
/-- a, b = x, y -/
theorem pb_par {E : XK} (i j : Nat) {x y : Str} {a b : Expr} {px py pt : Pos} {kt k2 pt2} {α β' : Type} [Enc α] [Enc β'] {m : R S (α × β' × Unit)} {kk : α × β' × Unit → R S (Out ρ τ β)} (C : Ctx X (kE E) k) (he : PAx X (kE E) Γ [a, b] m)
    (hk : ∀ a, PB X (kE E) Λ Res (fun s => ((Γ s).put i (sI X.K a.1)).put j (sI X.K a.2.1)) rest Δ (kk a))
    (rule : ∀ {ta : TA}, PA X [a, b] ta → PS X (.Assign [.Tuple [.Name x px, .Name y py] kt pt] (.Tuple [a, b] k2 pt2) pos) (tPar i j ta)) :
    PB X (kE E) Λ Res Γ (.Assign [.Tuple [.Name x px, .Name y py] kt pt] (.Tuple [a, b] k2 pt2) pos :: rest) Δ (sb m kk) :=
  (pss_cons (rule he) (L2.PSs.ex hk)).mono fun D σ H ⟨s, I, O, t, sat, q⟩ => ⟨s, I, O, t, sat, q.bind.imp fun a I1 H1 ⟨_, s1, O1, t1, sat1, q1⟩ vs rv => by
    obtain ⟨v, ws, rfl, r1, u, us, rfl, r2, r3⟩ := rv
    have e : us = [] := r3
    subst e
    exact ⟨v, u, rfl, a, s1, I1, O1, t1, (sat1.put_im r1).put_im r2, q1⟩⟩

/-! ### loops -/
def Serve (K : Fg) [Enc α] (J : It) (I : Hp) (xs : List α) : Prop := ∀ I1 O1 H1, St3 I1 O1 H1 → Same I I1 →
  (∀ (i : Nat) (x : α), xs[i]? = some x → J.go i H1 ∧ ∀ u H2, J.yld i H1 u H2 → ∃ I2, St3 I2 O1 H2 ∧ Go I1 O1 H1 I2 O1 H2 ∧ Enc.rep K I2 u x) ∧ J.stop xs.length H1
structure IX (X : Cx) (E : EW) (Γ : S → Gam) (tg iter : Expr) [Enc α] (m : R S (List α)) : Prop where
  ex : ∃ wi, PI X tg iter wi ∧ ∀ σ H Rr, (∃ s I O, St3 I O H ∧ Sat (Γ s) σ I O ∧ Post X.K (E σ) Γ σ I O H (fun xs I' H' => ∀ J, Serve X.K J I' xs → Rr J H') (m s)) → wi σ H Rr
theorem serve_list {K : Fg} [Enc α] {I : Hp} {a : Addr} {vs : List V} {xs : List α} (h : SqL K I a vs) (r : All2 (Enc.rep K I) vs xs) : Serve K (Itl K a) I xs := fun I1 O1 H1 t e => by
  have h1 : SqL K H1 a vs := t.si.seq (e.seq h)
  refine ⟨fun i x hx => ?_, vs, h1, by rw [r.len]; exact Nat.le_refl _⟩
  obtain ⟨v, hv, rv⟩ := r.got hx
  refine ⟨⟨vs, v, h1, hv⟩, fun u H2 y => ?_⟩
  obtain ⟨rfl, y⟩ := y
  have hu := y vs h1
  rw [hv] at hu
  cases hu
  exact ⟨I1, t, Go.refl .., Enc.up e rv⟩
theorem serve_tup {K : Fg} [Enc α] {I : Hp} {a : Addr} {vs : List V} {xs : List α} (h : SqT K I a vs) (r : All2 (Enc.rep K I) vs xs) : Serve K (Itt K a) I xs := fun I1 O1 H1 t e => by
  have h1 : SqT K H1 a vs := sqT_up t.si (sqT_up e h)
  refine ⟨fun i x hx => ?_, vs, h1, by rw [r.len]; exact Nat.le_refl _⟩
  obtain ⟨v, hv, rv⟩ := r.got hx
  refine ⟨⟨vs, v, h1, hv⟩, fun u H2 y => ?_⟩
  obtain ⟨rfl, y⟩ := y
  have hu := y vs h1
  rw [hv] at hu
  cases hu
  exact ⟨I1, t, Go.refl .., Enc.up e rv⟩
def irange (lo : Int) (n : Nat) : List Int := (List.range n).map fun (j : Nat) => lo + (j : Int)
theorem serve_rng {K : Fg} {I : Hp} (lo : Int) (n : Nat) : Serve K (Itr lo n) I (irange lo n) := fun I1 O1 H1 t e => by
  refine ⟨fun i x hx => ?_, by simp [irange, Itr]⟩
  unfold irange at hx
  rw [List.getElem?_map] at hx
  cases q : (List.range n)[i]? with
  | none => rw [q] at hx; cases hx
  | some j =>
    rw [q] at hx
    cases hx
    obtain ⟨h1, h2⟩ := List.getElem?_eq_some_iff.mp q
    simp at h1 h2
    subst h2
    refine ⟨h1, fun u H2 y => ?_⟩
    obtain ⟨rfl, rfl⟩ := y
    exact ⟨I1, t, Go.refl .., rfl⟩
end
end Mi

set_option Elab.async false
set_option linter.all false
set_option maxRecDepth 100000
set_option maxHeartbeats 4000000
namespace Mi
open PySem PySem.Spec PyProof.Rows L2

section
variable {S α : Type} {K : Fg} {E : XK} {Γ : S → Gam} {σ : L2.St} {I O H : Hp} {F : α → Hp → Hp → Prop}
theorem Post.impT {F' : α → Hp → Hp → Prop} (f : ∀ x I' O' H', St3 I' O' H' → Same I I' → F x I' H' → F' x I' H') : ∀ {r : Except Er (α × S)}, Post K E Γ σ I O H F r → Post K E Γ σ I O H F' r
  | .ok (x, s'), h => fun I' O' H' t g' sat => f _ _ _ _ t g'.ext (h I' O' H' t g' sat)
  | .error .stuck, h => h
  | .error (.exc c fs), h => h
end
section
variable {X : Cx} {E : EW} {S ρ ρ1 τ β α : Type} {Γ : S → Gam} {Λ : τ → S → Gam} {Res : S → Hp → Hp → V → β → Prop} {Δ : ρ → S → Gam} {Δ1 : ρ1 → S → Gam} {pos pos' : Pos} {rest : List Stmt} {k : Nat}
/-! ### what is walked -/
theorem ix_l {tg iter : Expr} [Enc α] {m : R S (List α)} (h : PX X E Γ iter m) : IX X E Γ tg iter m :=
  ⟨_, pi_list h, fun σ H Rr ⟨s, I, O, t, sat, q⟩ => ⟨s, I, O, t, sat, q.impT fun xs I1 O1 H1 t1 _ z v rv => by
    obtain ⟨a, vs, rfl, h1, r⟩ := rv
    exact ⟨a, rfl, ⟨vs, SqL.of (t1.si _ _ h1)⟩, z _ (serve_list (SqL.of h1) r)⟩⟩⟩
theorem ix_ro {tg iter : Expr} [Enc α] {m : R S (Ro α)} (h : PX X E Γ iter m) : IX X E Γ tg iter (sb m fun x => sr x.l) :=
  ⟨_, pi_list h, fun σ H Rr ⟨s, I, O, t, sat, q⟩ => ⟨s, I, O, t, sat, q.bind.impT fun xs I1 O1 H1 t1 _ ⟨_, s2, O2, t2, sat2, z⟩ v rv => by
    obtain ⟨a, vs, rfl, h1, r⟩ := rv
    exact ⟨a, rfl, ⟨vs, t1.si.seq h1⟩, z.at_ t2 sat2 _ (serve_list h1 r)⟩⟩⟩
theorem ix_t {tg iter : Expr} [Enc α] {m : R S (Tu α)} (h : PX X E Γ iter m) : IX X E Γ tg iter (sb m fun x => sr x.l) :=
  ⟨_, pi_tup h, fun σ H Rr ⟨s, I, O, t, sat, q⟩ => ⟨s, I, O, t, sat, q.bind.impT fun xs I1 O1 H1 t1 _ ⟨_, s2, O2, t2, sat2, z⟩ v rv => by
    obtain ⟨a, vs, rfl, h1, r⟩ := rv
    exact ⟨a, rfl, ⟨vs, sqT_up t1.si h1⟩, z.at_ t2 sat2 _ (serve_tup h1 r)⟩⟩⟩
def pr62 (i : Int) : Bool := decide (-(2 ^ 62) ≤ i ∧ i < 2 ^ 62)
def prng (lo hi : Int) : Option (List Int) := if pr62 lo = true ∧ pr62 hi = true then some (irange lo (hi - lo).toNat) else none
theorem ix_r1 {tg a : Expr} {p : Pos} {m : R S Int} (hm : X.mg "range" = none) (h : PX X E Γ a m) (hg : Gl X "range" := by rfl) (h1 : starEach [a] X.env = [(false, eval a X.env)] := by rfl) :
    IX X E Γ tg (.Call (.Name "range" p) [a] [] pos) (sb m fun n => so (prng 0 n)) :=
  ⟨_, pi_range1 hg hm (pa_cons h pa_nil h1) h1, fun σ H Rr ⟨s, I, O, t, sat, q⟩ => ⟨s, I, O, t, sat, q.bind.impT fun n I1 O1 H1 t1 _ ⟨_, s2, O2, t2, sat2, z⟩ v rv => by
    obtain ⟨xs, e, z⟩ := z.some_
    have ev : v = .int n := rv
    subst ev
    unfold prng at e
    split at e
    · rename_i c
      cases e
      have c2 : -(2 ^ 62) ≤ n ∧ n < 2 ^ 62 := of_decide_eq_true c.2
      refine ⟨n, rfl, c2.1, c2.2, z.at_ t2 sat2 _ ?_⟩
      have := serve_rng (K := X.K) (I := I1) 0 n.toNat
      simpa using this
    · cases e⟩⟩
theorem ix_r2 {tg a b : Expr} {p : Pos} {m : R S (Int × Int × Unit)} (hm : X.mg "range" = none) (h : PAx X E Γ [a, b] m) (hg : Gl X "range" := by rfl)
    (h1 : starEach [a, b] X.env = [(false, eval a X.env), (false, eval b X.env)] := by rfl) (h2 : starEach [b] X.env = [(false, eval b X.env)] := by rfl) :
    IX X E Γ tg (.Call (.Name "range" p) [a, b] [] pos) (sb m fun n => so (prng n.1 n.2.1)) :=
  ⟨_, pi_range2 hg hm h h1 h2, fun σ H Rr ⟨s, I, O, t, sat, q⟩ => ⟨s, I, O, t, sat, q.bind.impT fun n I1 O1 H1 t1 _ ⟨_, s2, O2, t2, sat2, z⟩ vs rv => by
    obtain ⟨xs, e, z⟩ := z.some_
    obtain ⟨v, ws, rfl, r1, u, us, rfl, r2, r3⟩ := rv
    have e0 : us = [] := r3
    have e1 : v = .int n.1 := r1
    have e2 : u = .int n.2.1 := r2
    subst e0 e1 e2
    unfold prng at e
    split at e
    · rename_i c
      cases e
      have c1 : -(2 ^ 62) ≤ n.1 ∧ n.1 < 2 ^ 62 := of_decide_eq_true c.1
      have c2 : -(2 ^ 62) ≤ n.2.1 ∧ n.2.1 < 2 ^ 62 := of_decide_eq_true c.2
      exact ⟨_, _, rfl, ⟨c1.1, c1.2, c2.1, c2.2⟩, z.at_ t2 sat2 _ (serve_rng n.1 (n.2.1 - n.1).toNat)⟩
    · cases e⟩⟩

/-! ### for -/
def forL (f : α → ρ1 → R S (Out ρ1 ρ1 β)) : List α → ρ1 → R S (Out ρ1 τ β)
  | [], r => sr (.nx r)
  | x :: xs, r => fun s => match f x r s with
    | .ok (.nx r', s') => forL f xs r' s'
    | .ok (.ct r', s') => forL f xs r' s'
    | .ok (.bk r', s') => .ok (.nx r', s')
    | .ok (.rt b, s') => .ok (.rt b, s')
    | .error e => .error e
theorem PostB.stay {E : XK} {K : Fg} {I O H : Hp} {D D' : Ends} {r : Except Er (Out ρ τ β × S)} (h : PostB K E Λ Res Δ I O H D r) (e : D = D') : PostB K E Λ Res Δ I O H D' r := e ▸ h
theorem drop_cons {xs : List α} {i : Nat} {x : α} (h : xs[i]? = some x) : xs.drop i = x :: xs.drop (i + 1) := by
  obtain ⟨h1, h2⟩ := List.getElem?_eq_some_iff.mp h
  rw [List.drop_eq_getElem_cons h1, h2]
theorem pb_for {E : XK} (js is : List Nat) {tg iter : Expr} {body : List Stmt} [Enc α] {up : Gam → α → Gam} {m : R S (List α)} {L : ρ1 → S → Gam} {f : α → ρ1 → R S (Out ρ1 ρ1 β)} {r0 : ρ1} {kk : ρ1 → R S (Out ρ τ β)} (C : Ctx X (kE E) k)
    (hg : GT X tg α js up) (hi : IX X (kE E) Γ tg iter m) (h0 : ∀ s, L r0 s = (Γ s).forg is) (hb : ∀ a r, PB X (kE E) L Res (fun s => up (L r s) a) body L (f a r)) (hk : ∀ r, PB X (kE E) Λ Res (L r) rest Δ (kk r))
    (hs : ∀ x, foldedSetIterable iter X.env x = pure x := by intro _; rfl) :
    PB X (kE E) Λ Res Γ (.For tg iter body [] pos :: rest) Δ (sb m fun xs => obd (forL f xs r0) kk) := by
  obtain ⟨g, g1, g2⟩ := hg.ex
  obtain ⟨wi, i1, i2⟩ := hi.ex
  have hbb : PSs X body (fun D σ H => ∃ p : α × ρ1, tB X.K (kE E) L Res (fun s => up (L p.2 s) p.1) L (f p.1 p.2) D σ H) := L2.PSs.ex fun p => hb p.1 p.2
  refine (pss_cons (ps_for C.own C.calm i1 g1 hbb hs) (L2.PSs.ex hk)).mono fun D σ H ⟨s, I, O, t, sat, q⟩ => ?_
  have sat0 : Sat (L r0 s) σ I O := by rw [h0 s]; exact sat.forg
  refine i2 σ H _ ⟨s, I, O, t, sat, ?_⟩
  unfold sb at q
  cases em : m s with
  | error z =>
    rw [em] at q
    cases z with
    | stuck => exact q
    | exc c fs => exact q
  | ok p =>
    obtain ⟨xs, s1⟩ := p
    rw [em] at q
    intro I1 O1 H1 t1 gg sat1 J hJ
    have sat2 : Sat (L r0 s1) σ I1 O1 := by rw [h0 s1]; exact sat1.forg
    have q1 : PostB X.K E Λ Res Δ I1 O1 H1 D (obd (forL f xs r0) kk s1) := q.shift gg
    refine ⟨fun i n σ H => n = xs.length - i ∧ i ≤ xs.length ∧ ∃ r s I O, Same I1 I ∧ St3 I O H ∧ Sat (L r s) σ I O ∧ PostB X.K E Λ Res Δ I O H D (obd (forL f (xs.drop i) r) kk s),
      ⟨_, rfl, Nat.zero_le _, r0, s1, I1, O1, Same.refl _, t1, sat2, q1⟩, ?_⟩
    rintro i n σ2 H2 ⟨rfl, hi, r, s2, I2, O2, e2, t2, sat2, q2⟩
    have sv := hJ I2 O2 H2 t2 e2
    by_cases hlt : i < xs.length
    · have hx : xs[i]? = some xs[i] := by simp [hlt]
      have hgo := sv.1 i _ hx
      refine .inr ⟨hgo.1, fun σ' H' => ∃ r s I O, Same I1 I ∧ St3 I O H' ∧ Sat (L r s) σ' I O ∧ PostB X.K E Λ Res Δ I O H' D (obd (forL f (xs.drop (i + 1)) r) kk s), fun σ' H' z => ⟨xs.length - (i + 1), by omega, rfl, hlt, z⟩, fun x H3 y => ?_⟩
      obtain ⟨I3, t3, g3, r3⟩ := hgo.2 x H3 y
      refine g2 x _ σ2 I3 O2 H3 _ (L r s2) r3 t3 (sat2.up g3.ext) fun σ' sat' _ => ?_
      refine ⟨(xs[i], r), s2, I3, O2, t3, sat', ?_⟩
      have q3 := q2.shift g3
      rw [drop_cons hx] at q3
      unfold obd forL at q3
      cases ef : f xs[i] r s2 with
      | error z =>
        rw [ef] at q3
        cases z with
        | stuck => exact q3
        | exc c fs => exact q3
      | ok p =>
        obtain ⟨o, s4⟩ := p
        rw [ef] at q3
        cases o with
        | nx r' => exact fun σ4 I4 O4 H4 t4 g4 sat4 => ⟨r', s4, I4, O4, (e2.trans g3.ext).trans g4.ext, t4, sat4, PostB.shift g4 q3⟩
        | ct r' => exact fun σ4 I4 O4 H4 t4 g4 sat4 => ⟨r', s4, I4, O4, (e2.trans g3.ext).trans g4.ext, t4, sat4, PostB.shift g4 q3⟩
        | bk r' => exact fun σ4 I4 O4 H4 t4 g4 sat4 => ⟨r', s4, I4, O4, t4, sat4, PostB.shift g4 q3⟩
        | rt b => exact q3
    · have e : i = xs.length := by omega
      subst e
      refine .inl ⟨sv.2, r, s2, I2, O2, t2, sat2, ?_⟩
      rw [List.drop_length] at q2
      exact q2

/-! ### while -/
def whL (c : ρ1 → R S Bool) (f : ρ1 → R S (Out ρ1 ρ1 β)) : Nat → ρ1 → R S (Out ρ1 τ β)
  | 0, _ => sx .stuck
  | n + 1, r => fun s => match c r s with
    | .ok (true, s1) => (match f r s1 with
      | .ok (.nx r', s') => whL c f n r' s'
      | .ok (.ct r', s') => whL c f n r' s'
      | .ok (.bk r', s') => .ok (.nx r', s')
      | .ok (.rt b, s') => .ok (.rt b, s')
      | .error e => .error e)
    | .ok (false, s1) => .ok (.nx r, s1)
    | .error e => .error e
theorem pb_while {E : XK} (is : List Nat) (fuel : Nat) {c : Expr} {body : List Stmt} {L : ρ1 → S → Gam} {mc : ρ1 → R S Bool} {f : ρ1 → R S (Out ρ1 ρ1 β)} {r0 : ρ1} {kk : ρ1 → R S (Out ρ τ β)} (C : Ctx X (kE E) k)
    (h0 : ∀ s, L r0 s = (Γ s).forg is) (hc : ∀ r, PTx X (kE E) (L r) c (mc r)) (hb : ∀ r, PB X (kE E) L Res (L r) body L (f r)) (hk : ∀ r, PB X (kE E) Λ Res (L r) rest Δ (kk r)) :
    PB X (kE E) Λ Res Γ (.While c body [] pos :: rest) Δ (obd (whL mc f fuel r0) kk) := by
  refine (pss_cons (ps_while C.own (L2.PT.ex hc) (L2.PSs.ex hb)) (L2.PSs.ex hk)).mono fun D σ H ⟨s, I, O, t, sat, q⟩ => ?_
  have sat0 : Sat (L r0 s) σ I O := by rw [h0 s]; exact sat.forg
  refine ⟨fun n σ H => ∃ r s I O, St3 I O H ∧ Sat (L r s) σ I O ∧ PostB X.K E Λ Res Δ I O H D (obd (whL mc f n r) kk s), ⟨fuel, r0, s, I, O, t, sat0, q⟩, ?_⟩
  rintro n σ2 H2 ⟨r, s2, I2, O2, t2, sat2, q2⟩
  cases n with
  | zero => exact q2.elim
  | succ n =>
    refine ⟨r, s2, I2, O2, t2, sat2, ?_⟩
    unfold obd whL at q2
    cases ec : mc r s2 with
    | error z =>
      rw [ec] at q2
      cases z with
      | stuck => exact q2
      | exc c fs => exact q2
    | ok p =>
      obtain ⟨b, s3⟩ := p
      rw [ec] at q2
      intro I3 O3 H3 t3 g3 sat3
      have q3 := q2.shift g3
      cases b with
      | false => exact ⟨r, s3, I3, O3, t3, sat3, q3⟩
      | true =>
        refine iteT ?_
        dsimp only at q3
        refine ⟨fun σ' H' => ∃ r s I O, St3 I O H' ∧ Sat (L r s) σ' I O ∧ PostB X.K E Λ Res Δ I O H' D (obd (whL mc f n r) kk s), fun σ' H' z => ⟨n, Nat.lt_succ_self n, z⟩, r, s3, I3, O3, t3, sat3, ?_⟩
        cases ef : f r s3 with
        | error z =>
          rw [ef] at q3
          cases z with
          | stuck => exact q3
          | exc c fs => exact q3
        | ok p =>
          obtain ⟨o, s4⟩ := p
          rw [ef] at q3
          cases o with
          | nx r' => exact fun σ4 I4 O4 H4 t4 g4 sat4 => ⟨r', s4, I4, O4, t4, sat4, PostB.shift g4 q3⟩
          | ct r' => exact fun σ4 I4 O4 H4 t4 g4 sat4 => ⟨r', s4, I4, O4, t4, sat4, PostB.shift g4 q3⟩
          | bk r' => exact fun σ4 I4 O4 H4 t4 g4 sat4 => ⟨r', s4, I4, O4, t4, sat4, PostB.shift g4 q3⟩
          | rt b => exact q3

/-! ### lists of one's own -/
/-- name = [..], a list that will be changed -/
theorem pb_new {E : XK} (i : Nat) {x : Str} {es : List Expr} {pos2 : Pos} [Enc α] {m : R S (List α)} {kk : List α → R S (Out ρ τ β)} (C : Ctx X (kE E) k) (he : PLx X (kE E) Γ es m) (hk : ∀ a, PB X (kE E) Λ Res (fun s => (Γ s).put i (sL X.K a)) rest Δ (kk a))
    (hi : X.N[i]? = some x := by rfl) (hx : Loc X.env.scope x := by first | exact Or.inl rfl | exact Or.inr rfl) (hs : swapsWith (.List es pos2) (some (.Name x pos')) pos.line X.env = pure false := by rfl) (hf : X.fn x = true ∨ X.env.scope.names.lookup x = some .local := by first | exact .inl rfl | exact .inr rfl) :
    PB X (kE E) Λ Res Γ (.Assign [.Name x pos'] (.List es pos2) pos :: rest) Δ (sb m fun a => sb (so (plen a)) kk) :=
  (pss_cons (ps_set C.nd hi hx (pe_lst he) hs hf) (L2.PSs.ex hk)).mono fun D σ H ⟨s, I, O, t, sat, q⟩ => ⟨s, I, O, t, sat, q.bind.imp fun a I1 H1 ⟨_, s1, O1, t1, sat1, q1⟩ vs rv => by
    obtain ⟨ys, e, q2⟩ := q1.some_
    obtain ⟨rfl, hl⟩ := plen_some e
    refine ⟨by rw [rv.len]; exact hl, fun p hp => ⟨ys, s1, I1, uni (upd (fun _ => none) p (.lst vs)) O1, ?_, ?_, ?_⟩⟩
    · have := t1.layO (o := .lst vs) hp
      have e : uni (upd (fun _ => none) p (.lst vs)) O1 = upd O1 p (.lst vs) := by
        funext b; unfold uni upd; by_cases hb : b = p <;> simp [hb]
      rw [e]; exact this
    · refine Sat.put_ow (R := fun I O v => ∃ l vs, v = .ref l ∧ O l = some (.lst vs) ∧ All2 (Enc.rep X.K I) vs ys) ⟨p, vs, rfl, upd_same, rv⟩ (fun b => ?_) sat1
      by_cases hb : b = p
      · exact .inr (by rw [hb]; exact t1.fo hp)
      · exact .inl (by rw [upd_ne hb])
    · have e : uni (upd (fun _ => none) p (.lst vs)) O1 = upd O1 p (.lst vs) := by
        funext b; unfold uni upd; by_cases hb : b = p <;> simp [hb]
      rw [e]
      exact PostB.shift (Go.layO t1 hp) q2⟩
/-- the list at slot i is made still -/
theorem pb_pub (i : Nat) {body : List Stmt} [Enc α] {xs : List α} {m : R S (Out ρ τ β)} (hg : ∀ s, (Γ s).at i = sL X.K xs) (h : PB X E Λ Res (fun s => (Γ s).put i (sI X.K xs)) body Δ m) : PB X E Λ Res Γ body Δ m :=
  h.mono fun D σ H ⟨s, I, O, t, sat, q⟩ => by
    obtain ⟨v, O1, O2, h1, h2, h3, h4, ⟨l, vs, rfl, h5, h6⟩, h7⟩ := sat.at_ow (hg s)
    have hO : O l = some (.lst vs) := h3 _ _ h5
    have hO2 : O2 l = none := by
      rcases h2 l with z | z
      · rw [h5] at z; cases z
      · exact z
    have hI : I l = none := by
      rcases t.dj l with z | z
      · exact z
      · rw [hO] at z; cases z
    have k := Same.upd_new (o := HO.lst vs) hI
    refine ⟨s, upd I l (.lst vs), O2, t.pub hO h4 hO2, ?_, PostB.shift (Go.pub t hO h4) q⟩
    have := Sat.put_im (P := fun I v => Enc.rep X.K I v xs) (u := fun _ _ _ e h => Enc.up e h) (v := .ref l) (I := upd I l (.lst vs)) ⟨l, vs, rfl, upd_same, h6.imp fun _ _ z => Enc.up k z⟩ (i := i) (h7.up k)
    rw [Gam.put_put, set_self h1] at this
    exact this
theorem Sat.mine {K : Fg} [Enc α] {xs : List α} {g : Gam} {σ : L2.St} {I O H : Hp} {i : Nat} (sat : Sat g σ I O) (hg : g.at i = sL K xs) (t : St3 I O H) :
    ∃ l vs, σ[i]? = some (some (.ref l)) ∧ H l = some (.lst vs) ∧ All2 (Enc.rep K I) vs xs ∧
      ∀ {us : List V} {ys : List α}, All2 (Enc.rep K I) us ys → ∃ O', St3 I O' (upd H l (.lst us)) ∧ Go I O H I O' (upd H l (.lst us)) ∧ Sat (g.put i (sL K ys)) σ I O' := by
  obtain ⟨v, O1, O2, h1, h2, h3, h4, ⟨l, vs, rfl, h5, h6⟩, h7⟩ := sat.at_ow hg
  have hO : O l = some (.lst vs) := h3 _ _ h5
  have hO2 : O2 l = none := by
    rcases h2 l with z | z
    · rw [h5] at z; cases z
    · exact z
  refine ⟨l, vs, h1, t.so _ _ hO, h6, fun {us ys} r => ?_⟩
  have d : ∀ b, upd O1 l (.lst us) b = none ∨ O2 b = none := fun b => by
    by_cases hb : b = l
    · exact .inr (by rw [hb]; exact hO2)
    · rw [upd_ne hb]; exact h2 b
  have sm : Same (uni (upd O1 l (.lst us)) O2) (upd O l (.lst us)) := fun b o e => by
    by_cases hb : b = l
    · subst hb
      unfold uni at e
      rw [upd_same] at e
      rw [upd_same]; exact e
    · rw [upd_ne hb]
      unfold uni at e
      rw [upd_ne hb] at e
      cases q : O1 b with
      | none => rw [q] at e; exact h4 b o e
      | some y => rw [q] at e; exact h3 b o (by rw [q]; exact e)
  refine ⟨uni (upd O1 l (.lst us)) O2, (t.wr hO).drop sm, (Go.wr t hO).trans (Go.drop sm), ?_⟩
  exact Sat.back (R := fun I O v => ∃ l vs, v = .ref l ∧ O l = some (.lst vs) ∧ All2 (Enc.rep K I) vs ys) ⟨l, us, rfl, upd_same, r⟩ d h1 h7
def papp (xs : List α) (x : α) : Option (List α) := if xs.length < 16777216 then some (xs ++ [x]) else none
/-- name.append(e) -/
theorem pb_app (i : Nat) {x : Str} {e : Expr} {p1 p2 p3 : Pos} [Enc α] {xs : List α} {m : R S α} {kk : List α → R S (Out ρ τ β)} (hg : ∀ s, (Γ s).at i = sL X.K xs) (he : PX X E Γ e m) (hk : ∀ a, PB X E Λ Res (fun s => (Γ s).put i (sL X.K a)) rest Δ (kk a))
    (rule : ∀ {te : TE}, PE X e te → PS X (.Expr (.Call (.Attribute (.Name x p1) "append" p2) [e] [] p3) pos) (tDrop (tBM X.K "list" rAppend (tVar i) (tCons te tNil)))) :
    PB X E Λ Res Γ (.Expr (.Call (.Attribute (.Name x p1) "append" p2) [e] [] p3) pos :: rest) Δ (sb m fun a => sb (so (papp xs a)) kk) :=
  (pss_cons (rule he) (L2.PSs.ex hk)).mono fun D σ H ⟨s, I, O, t, sat, q⟩ => by
    obtain ⟨l, vs, h1, h2, h3, _⟩ := sat.mine (hg s) t
    refine ⟨_, h1, .inl ⟨rfl, vs, SqL.of h2⟩, s, I, O, t, sat, q.bind.imp fun a I1 H1 ⟨_, s1, O1, t1, sat1, q1⟩ v rv => ?_⟩
    obtain ⟨ys, e, q2⟩ := q1.some_
    unfold papp at e
    split at e
    · rename_i c
      cases e
      obtain ⟨l', vs', h1', h2', h3', h4'⟩ := sat1.mine (hg s1) t1
      rw [h1] at h1'
      cases h1'
      obtain ⟨O', t2, g2, sat2⟩ := h4' (us := vs' ++ [v]) (ys := xs ++ [a]) (h3'.app ⟨rv, trivial⟩)
      exact ⟨l, vs', v, rfl, rfl, h2', by rw [h3'.len, sizeLine_eq]; exact c, xs ++ [a], s1, I1, O', t2, sat2, PostB.shift g2 q2⟩
    · cases e
def pset (xs : List α) (i : Int) (x : α) : Option (List α) := (ixN xs.length i).map fun j => xs.set j x
/-- name[j] = e (the value first, then the index) -/
theorem pb_seti (i : Nat) {x : Str} {e j : Expr} {p1 p2 : Pos} [Enc α] {xs : List α} {m : R S α} {mj : R S Int} {kk : List α → R S (Out ρ τ β)} (hg : ∀ s, (Γ s).at i = sL X.K xs) (he : PX X E Γ e m) (hj : PX X E Γ j mj)
    (hk : ∀ a, PB X E Λ Res (fun s => (Γ s).put i (sL X.K a)) rest Δ (kk a))
    (rule : ∀ {te tj : TE}, PE X e te → PE X j tj → PS X (.Assign [.Subscript (.Name x p1) j p2] e pos) (tAsg te (gSub (tVar i) tj rSetL))) :
    PB X E Λ Res Γ (.Assign [.Subscript (.Name x p1) j p2] e pos :: rest) Δ (sb m fun a => sb mj fun n => sb (so (pset xs n a)) kk) :=
  (pss_cons (rule he hj) (L2.PSs.ex hk)).mono fun D σ H ⟨s, I, O, t, sat, q⟩ => ⟨s, I, O, t, sat, q.bind.imp fun a I1 H1 ⟨_, s1, O1, t1, sat1, q1⟩ v rv => by
    obtain ⟨l, vs, h1, h2, h3, _⟩ := sat1.mine (hg s1) t1
    refine ⟨_, h1, s1, I1, O1, t1, sat1, q1.bind.imp fun n I2 H2 ⟨e2, s2, O2, t2, sat2, q2⟩ w rw => ?_⟩
    have ew : w = .int n := rw
    subst ew
    obtain ⟨ys, e, q3⟩ := q2.some_
    unfold pset at e
    cases en : ixN xs.length n with
    | none => rw [en] at e; cases e
    | some k =>
      rw [en] at e
      cases e
      obtain ⟨l', vs', h1', h2', h3', h4'⟩ := sat2.mine (hg s2) t2
      rw [h1] at h1'
      cases h1'
      obtain ⟨O', t3, g3, sat3⟩ := h4' (us := vs'.set k v) (ys := xs.set k a) (h3'.setAt (Enc.up e2 rv) k)
      exact ⟨l, vs', n, k, rfl, rfl, h2', by rw [h3'.len]; exact en, xs.set k a, s2, I2, O', t3, sat3, PostB.shift g3 q3⟩⟩
/-- name[j], the list one's own -/
theorem px_oix (i : Nat) {x : Str} {b : Expr} {p1 : Pos} [Enc α] {xs : List α} {mb : R S Int} (hg : ∀ s, (Γ s).at i = sL X.K xs) (hb : PX X E Γ b mb) (hs : PlainIx b := by exact fun _ _ => rfl)
    (hN : X.N[i]? = some x := by rfl) (hv : Vis X.env.scope x := by first | exact Or.inl rfl | exact Or.inr (Or.inl rfl) | exact Or.inr (Or.inr rfl)) (hd : (x == ("__debug__" : Str)) = false := by decide) (hcd : (x == ("__classdict__" : Str)) = false := by decide) :
    PX X E Γ (.Subscript (.Name x p1) b pos) (sb mb fun n => so (pix xs n)) :=
  L2.PE.mono (pe_ix ix_list (pe_var hN hv hd hcd) hb hs) fun σ H Q ⟨s, I, O, t, sat, h⟩ => by
    obtain ⟨l, vs, h1, h2, h3, _⟩ := sat.mine (hg s) t
    refine ⟨_, h1, s, I, O, t, sat, h.bind.imp fun n I1 H1 ⟨_, s1, O1, t1, sat1, q1⟩ w rw => ?_⟩
    have ew : w = .int n := rw
    subst ew
    obtain ⟨z, e, q2⟩ := q1.some_
    obtain ⟨l', vs', h1', h2', h3', _⟩ := sat1.mine (hg s1) t1
    rw [h1] at h1'
    cases h1'
    obtain ⟨u, e1, e2⟩ := atI_rep h3' e
    exact ⟨l, vs', n, u, rfl, rfl, SqL.of h2', e1, q2.at_ t1 sat1 u e2⟩
/-- len(name) -/
theorem px_olen (i : Nat) {x : Str} {p p1 : Pos} [Enc α] {xs : List α} (hm : X.mg "len" = none) (hg : ∀ s, (Γ s).at i = sL X.K xs) (hgl : Gl X "len" := by rfl)
    (hN : X.N[i]? = some x := by rfl) (hv : Vis X.env.scope x := by first | exact Or.inl rfl | exact Or.inr (Or.inl rfl) | exact Or.inr (Or.inr rfl)) (hd : (x == ("__debug__" : Str)) = false := by decide) (hcd : (x == ("__classdict__" : Str)) = false := by decide)
    (h1 : starEach [.Name x p1] X.env = (false, eval (.Name x p1) X.env) :: starEach [] X.env := by rfl) (h2 : (backTo pos (starEach [] X.env)).any (·.1) = false := by rfl) :
    PX X E Γ (.Call (.Name "len" p) [.Name x p1] [] pos) (sr (xs.length : Int)) :=
  L2.PE.mono (pe_callB call_len_seq hgl hm boot_len (pa_cons (pe_var hN hv hd hcd) pa_nil h1) (by decide) (by decide) h1 h2) fun σ H Q ⟨s, I, O, t, sat, h⟩ => by
    obtain ⟨l, vs, h1, h2, h3, _⟩ := sat.mine (hg s) t
    exact ⟨_, h1, l, vs, rfl, .inl (SqL.of h2), h.at_ t sat _ (by show V.int _ = V.int _; rw [h3.len])⟩
/-- e in name -/
theorem px_oin (i : Nat) {x : Str} {a : Expr} {p1 : Pos} [Dat α] [DecidableEq α] {xs : List α} {ma : R S α} (C : Ctx X E (k + 1)) (hg : ∀ s, (Γ s).at i = sL X.K xs) (ha : PX X E Γ a ma)
    (hN : X.N[i]? = some x := by rfl) (hv : Vis X.env.scope x := by first | exact Or.inl rfl | exact Or.inr (Or.inl rfl) | exact Or.inr (Or.inr rfl)) (hd : (x == ("__debug__" : Str)) = false := by decide) (hcd : (x == ("__classdict__" : Str)) = false := by decide) :
    CB X E Γ (.Compare a [.In] [.Name x p1] pos) (sb ma fun y => so (pin y xs)) := by
  have key : ∀ {y : α} {v : V} {b : Bool} {s : S} {σ : L2.St} {I O H : Hp}, Enc.rep X.K I v y → Sat (Γ s) σ I O → St3 I O H → pin y xs = some b → ∃ l, σ[i]? = some (some (.ref l)) ∧ ∀ Q : VK, Q (.bl b) H → rInD X.K v (.ref l) H Q := by
    intro y v b s σ I O H rv sat t e
    obtain ⟨l, vs, h1, h2, h3, _⟩ := sat.mine (hg s) t
    obtain ⟨e1, e2, rfl⟩ := pin_some e
    exact ⟨l, h1, fun Q q => ⟨_, _, Dp.up t.si (Dat.dp rv), .lst (SqL.of h2) (dpAll_of (h3.imp fun _ _ z => Enc.up t.si z)), e1, e2, q⟩⟩
  refine ⟨L2.PE.mono (pe_cmpR (op_inD (by have := C.room.un; omega)) ha (pe_var hN hv hd hcd) rfl) fun σ H Q ⟨s, I, O, t, sat, h⟩ => ⟨s, I, O, t, sat, h.bind.imp fun y I1 H1 ⟨_, s1, O1, t1, sat1, q1⟩ v rv => ?_⟩,
    L2.PT.mono (pt_cmpR (op_inD (by have := C.room.un; omega)) ha (pe_var hN hv hd hcd) rfl) fun σ H Q ⟨s, I, O, t, sat, h⟩ => ⟨s, I, O, t, sat, h.bind.imp fun y I1 H1 ⟨_, s1, O1, t1, sat1, q1⟩ v rv => ?_⟩⟩
  · obtain ⟨b, e, q2⟩ := q1.some_
    obtain ⟨l, h1, h2⟩ := key rv sat1 t1 e
    exact ⟨_, h1, h2 _ (q2.at_ t1 sat1 _ rfl)⟩
  · obtain ⟨b, e, q2⟩ := q1.some_
    obtain ⟨l, h1, h2⟩ := key rv sat1 t1 e
    exact ⟨_, h1, h2 _ ⟨b, rfl, q2.at_ t1 sat1⟩⟩
end

/-! ### defs -/
def noO : Hp := fun _ => none
def PostF {β : Type} [Enc β] (K : Fg) (E : XK) (I H : Hp) (Q : VK) : Except Er β → Prop
  | .ok b => ∀ v I' O' H', St3 I' O' H' → Go I noO H I' O' H' → Enc.rep K I' v b → Q v H'
  | .error .stuck => False
  | .error (.exc c fs) => ∀ d I' O' H', St3 I' O' H' → Go I noO H I' O' H' → XD K I' H' d fs → E (.ref (He.ga K c)) (some d) H'
/-- the promise of a def that changes nothing of what it is handed -/
def spF {A β : Type} [Args A] [Enc β] (K : Fg) (f : A → Except Er β) : Sp := fun vs H Q E => ∃ a I, Same I H ∧ Args.rep K I vs a ∧ PostF K E I H Q (f a)
/-- a def as its callers see it -/
structure Def (P : Program) (w : World) (K : Fg) (mg : Str → Option Value) (base : Heap) (x : Str) (k : Nat) (ps : List Str) (sp : Sp) : Prop where
  ex : ∃ f fd, mg x = some (.ref f) ∧ PySem.W.keepIn K (.ref f) = true ∧ Binds K fd ps [] ∧ FnOk P w K mg base (L2.CX P w) k f fd ps sp
theorem call_go {I O H I' O' H' : Hp} (t : St3 I O H) (t' : St3 I' O' H') (g : Go I noO H I' O' H') : St3 I' O H' ∧ Go I O H I' O H' := by
  refine ⟨⟨t'.si, fun b o e => g.keep b o (t.so b o e) rfl, fun b => ?_⟩, fun b o e _ => g.keep b o e rfl, g.ext, fun b e => ?_, fun b e => .inl e⟩
  · cases q : O b with
    | none => exact .inr rfl
    | some o =>
      cases r : I' b with
      | none => exact .inl rfl
      | some u =>
        rcases g.ni b (nn r) with z | z | z
        · rcases t.dj b with y | y
          · exact absurd y z
          · rw [q] at y; cases y
        · rw [t.so b o q] at z; cases z
        · exact absurd rfl z
  · rcases g.ni b e with z | z | z
    · exact .inl z
    · exact .inr (.inl z)
    · exact absurd rfl z
section
variable {X : Cx} {E : EW} {S : Type} {Γ : S → Gam} {pos : Pos}
theorem px_call {A β : Type} [Args A] [Enc β] {x : Str} {j k : Nat} {ps : List Str} {f : A → Except Er β} {e : Expr} {es : List Expr} {p : Pos} {ma : R S A} (F : Def X.prog X.w X.K X.mg X.base x j ps (spF X.K f)) (C : Ctx X E k) (ha : PAx X E Γ (e :: es) ma) (hk : j ≤ k := by decide)
    (hg : Gl X x := by rfl) (hdb : (x == ("__debug__" : Str)) = false := by decide) (he : starEach (e :: es) X.env = (false, eval e X.env) :: starEach es X.env := by rfl) (hpl : (backTo pos (starEach es X.env)).any (·.1) = false := by rfl) :
    PX X E Γ (.Call (.Name x p) (e :: es) [] pos) (sb ma fun a => sl (f a)) := by
  obtain ⟨g, fd, h1, h2, h3, h4⟩ := F.ex
  refine L2.PE.mono (pe_callS h4 (C.room.mono hk) hg h1 h2 h3 C.pas ha hdb he hpl) fun σ H Q ⟨s, I, O, t, sat, h⟩ => ⟨s, I, O, t, sat, h.bind.imp fun a I1 H1 ⟨_, s1, O1, t1, sat1, q1⟩ vs rv => ⟨a, I1, t1.si, rv, ?_⟩⟩
  unfold sl at q1
  cases ef : f a with
  | ok b =>
    rw [ef] at q1
    exact fun v I' O' H' t' g' r => by
      obtain ⟨t2, g2⟩ := call_go t1 t' g'
      exact q1 I' O1 H' t2 g2 (sat1.up g'.ext) v r
  | error z =>
    rw [ef] at q1
    cases z with
    | stuck => exact q1
    | exc c fs =>
      intro d I' O' H' t' g' x
      obtain ⟨t2, g2⟩ := call_go t1 t' g'
      exact q1 d I' O1 H' t2 g2 x
theorem px_call0 {E : XK} {β : Type} [Enc β] {x : Str} {j k : Nat} {ps : List Str} {f : Unit → Except Er β} {p : Pos} (F : Def X.prog X.w X.K X.mg X.base x j ps (spF X.K f)) (C : Ctx X (kE E) k) (hk : j ≤ k := by decide)
    (hg : Gl X x := by rfl) (hdb : (x == ("__debug__" : Str)) = false := by decide) : PX X (kE E) Γ (.Call (.Name x p) [] [] pos) (sl (f ())) := by
  obtain ⟨g, fd, h1, h2, h3, h4⟩ := F.ex
  refine L2.PE.mono (pe_call0 h4 (C.room.mono hk) hg h1 h2 h3 (.nil) (fun pins σ H s e s' I c => C.pas σ pins H s e s' I c) hdb) fun σ H Q ⟨s, I, O, t, sat, q1⟩ => ⟨(), I, t.si, rfl, ?_⟩
  unfold sl at q1
  cases ef : f () with
  | ok b =>
    rw [ef] at q1
    exact fun v I' O' H' t' g' r => by
      obtain ⟨t2, g2⟩ := call_go t t' g'
      exact q1 I' O H' t2 g2 (sat.up g'.ext) v r
  | error z =>
    rw [ef] at q1
    cases z with
    | stuck => exact q1
    | exc c fs =>
      intro d I' O' H' t' g' x
      obtain ⟨t2, g2⟩ := call_go t t' g'
      exact q1 d I' O H' t2 g2 x
end
/-- the slots at a def's entry -/
class ArgG (A : Type) extends Args A where
  gam : Fg → A → Gam
  n : Nat
  ln : ∀ {K : Fg} {I : Hp} {vs : List V} {a : A}, rep K I vs a → vs.length = n
  sat : ∀ {K : Fg} {I O : Hp} {vs : List V} {a : A} (j : Nat), rep K I vs a → Sat (gam K a ++ List.replicate j .un) (vs.map some ++ List.replicate j none) I O
theorem sat_rep (I O : Hp) : ∀ j : Nat, Sat (List.replicate j .un) (List.replicate j none) I O
  | 0 => trivial
  | j + 1 => sat_rep I O j
instance : ArgG Unit := ⟨fun _ _ => [], 0, fun {K I vs a} h => by have e : vs = [] := h; subst e; rfl, fun {K I O vs a} j h => by have e : vs = [] := h; subst e; exact sat_rep I O j⟩
instance {α A : Type} [Enc α] [ArgG A] : ArgG (α × A) := ⟨fun K a => sI K a.1 :: ArgG.gam K a.2, ArgG.n A + 1, fun {K I vs a} h => by
  obtain ⟨v, ws, rfl, r, q⟩ := h
  exact congrArg Nat.succ (ArgG.ln q), fun {K I O vs a} j h => by
  obtain ⟨v, ws, rfl, r, q⟩ := h
  exact ⟨⟨v, rfl, r⟩, ArgG.sat j q⟩⟩
def runF {β : Type} (m : R Unit (Out Unit Empty β)) : Except Er β := match m () with
  | .ok (.rt b, _) => .ok b
  | .ok _ => .error .stuck
  | .error e => .error e
def runN (m : R Unit (Out Unit Empty Unit)) : Except Er Unit := match m () with
  | .ok (.rt b, _) => .ok ()
  | .ok (.nx _, _) => .ok ()
  | .ok (.bk e, _) => nomatch e
  | .ok (.ct e, _) => nomatch e
  | .error e => .error e
abbrev Λ0 {S : Type} : Empty → S → Gam := fun e _ => nomatch e
abbrev Δ0 (n : Nat) {S : Type} : Unit → S → Gam := fun _ _ => List.replicate n .un
section
variable {P : Program} {w : World} {K : Fg} {mg : Str → Option Value} {base : Heap} {x qual : Str} {params : Arguments} {body : List Stmt} {scope : Scope} {dvs : List V} {kws : List (Str × V)} {f : Addr} {fd : FuncData}
theorem ctx_of {k : Nat} {N : List Str} {cdv : Value} {A : Around} {outer : List Env} {s : Shared} {H : Hp} {E : XK} (hr : Room k (A.deeper (envOfC qual scope s.heap.objs.size f cdv))) (nd : N.Nodup) : Ctx (cxOf (L2.CX P w) P w K mg base N qual scope f cdv A outer s H E) (kE E) k :=
  have tk := takes_of (X := cxOf (L2.CX P w) P w K mg base N qual scope f cdv A outer s H E) (E := E) rfl rfl rfl rfl
  ⟨fun σ => passAt tk σ, passes_of rfl, hr, nd, rfl, tk⟩
theorem fn_ok {A' β : Type} [ArgG A'] [Enc β] {N ps : List Str} {k : Nat} {m : A' → R Unit (Out Unit Empty β)} (F : FunD K x qual params body scope dvs kws f fd) (S : FnScope N ps scope) (hn : ps.length = ArgG.n A')
    (hb : ∀ (cdv : Value) (A : Around) (outer : List Env) (s : Shared) (H : Hp) (E : XK), Ctx (cxOf (L2.CX P w) P w K mg base N qual scope f cdv A outer s H E) (kE E) k → ∀ a : A', PB (cxOf (L2.CX P w) P w K mg base N qual scope f cdv A outer s H E) (kE E) Λ0 (resI K) (fun _ => ArgG.gam K a ++ List.replicate (N.length - ps.length) .un) body (Δ0 N.length) (m a)) :
    FnOk P w K mg base (L2.CX P w) (k + 1) f fd ps (spF K fun a => runF (m a)) := by
  refine F.ok S (fun vs H Q E h => ?_) fun cdv A outer s H vs Q E hr h => ?_
  · obtain ⟨a, I, _, r, _⟩ := h
    rw [hn]; exact ArgG.ln (A := A') r
  · obtain ⟨a, I, e, r, q⟩ := h
    refine ⟨_, hb cdv A outer s H E (ctx_of hr S.nd) a, (), I, noO, ⟨e, fun b o z => (nomatch z), fun b => .inr rfl⟩, ?_, ?_⟩
    · unfold L2.start
      rw [ArgG.ln (A := A') r, ← hn]
      exact ArgG.sat (A := A') _ r
    · have q : PostF K E I H Q (runF (m a)) := q
      unfold runF at q
      cases em : m a () with
      | error z =>
        rw [em] at q
        cases z with
        | stuck => exact q
        | exc c fs => exact q
      | ok p =>
        obtain ⟨o, u⟩ := p
        rw [em] at q
        cases o with
        | nx r => exact q.elim
        | bk e => exact nomatch e
        | ct e => exact nomatch e
        | rt b => exact q
/-- .. that hands back nothing -/
theorem fn_okN {A' : Type} [ArgG A'] {N ps : List Str} {k : Nat} {m : A' → R Unit (Out Unit Empty Unit)} (F : FunD K x qual params body scope dvs kws f fd) (S : FnScope N ps scope) (hn : ps.length = ArgG.n A')
    (hb : ∀ (cdv : Value) (A : Around) (outer : List Env) (s : Shared) (H : Hp) (E : XK), Ctx (cxOf (L2.CX P w) P w K mg base N qual scope f cdv A outer s H E) (kE E) k → ∀ a : A', PB (cxOf (L2.CX P w) P w K mg base N qual scope f cdv A outer s H E) (kE E) Λ0 (resI K) (fun _ => ArgG.gam K a ++ List.replicate (N.length - ps.length) .un) body (Δ0 N.length) (m a)) :
    FnOk P w K mg base (L2.CX P w) (k + 1) f fd ps (spF K fun a => runN (m a)) := by
  refine F.ok S (fun vs H Q E h => ?_) fun cdv A outer s H vs Q E hr h => ?_
  · obtain ⟨a, I, _, r, _⟩ := h
    rw [hn]; exact ArgG.ln (A := A') r
  · obtain ⟨a, I, e, r, q⟩ := h
    refine ⟨_, hb cdv A outer s H E (ctx_of hr S.nd) a, (), I, noO, ⟨e, fun b o z => (nomatch z), fun b => .inr rfl⟩, ?_, ?_⟩
    · unfold L2.start
      rw [ArgG.ln (A := A') r, ← hn]
      exact ArgG.sat (A := A') _ r
    · have q : PostF K E I H Q (runN (m a)) := q
      unfold runN at q
      cases em : m a () with
      | error z =>
        rw [em] at q
        cases z with
        | stuck => exact q
        | exc c fs => exact q
      | ok p =>
        obtain ⟨o, u⟩ := p
        rw [em] at q
        cases o with
        | nx r => exact fun σ' I' O' H' t g _ => q .non I' O' H' t g rfl
        | bk e => exact nomatch e
        | ct e => exact nomatch e
        | rt b => exact q
end
end Mi

set_option Elab.async false
set_option linter.all false
set_option maxRecDepth 100000
set_option maxHeartbeats 4000000
namespace Mi
open PySem PySem.Spec PyProof.Rows L2

theorem _root_.L2.PE.ex {X : Cx} {e : Expr} {α : Type} {t : α → TE} (h : ∀ x, PE X e (t x)) : PE X e (fun σ H Q => ∃ x, t x σ H Q) := ⟨fun pins s σ H Q I ⟨x, q⟩ => (h x).run pins s σ H Q I q⟩
theorem _root_.L2.PTs.ex {X : Cx} {e : List Expr} {α : Type} {t : α → TT} (h : ∀ x, PTs X e (t x)) : PTs X e (fun σ H Q => ∃ x, t x σ H Q) := ⟨fun pins s σ H Q I ⟨x, q⟩ => (h x).run pins s σ H Q I q⟩
theorem _root_.L2.PTs.mono {X : Cx} {e : List Expr} {t t' : TT} (h : PTs X e t) (f : ∀ σ H Q, t' σ H Q → t σ H Q) : PTs X e t' := ⟨fun pins s σ H Q I q => h.run pins s σ H Q I (f σ H Q q)⟩
theorem Gam.put_comm : ∀ (g : Gam) (i j : Nat), (g.put i .un).put j .un = (g.put j .un).put i .un
  | [], _, _ => rfl
  | a :: g, 0, 0 => rfl
  | a :: g, 0, j + 1 => rfl
  | a :: g, i + 1, 0 => rfl
  | a :: g, i + 1, j + 1 => congrArg (a :: ·) (Gam.put_comm g i j)
theorem Gam.forg_put : ∀ (vs : List Nat) (g : Gam) (i : Nat), (g.put i .un).forg vs = (g.forg vs).put i .un
  | [], _, _ => rfl
  | v :: vs, g, i => by show ((g.put i .un).put v .un).forg vs = _; rw [Gam.put_comm, Gam.forg_put vs]; rfl
theorem Gam.forg_in : ∀ (vs : List Nat) (g : Gam) (i : Nat) (s : Slot), i ∈ vs → (g.put i s).forg vs = g.forg vs
  | v :: vs, g, i, s, h => by
    by_cases e : i = v
    · subst e
      show ((g.put i s).put i .un).forg vs = (g.put i .un).forg vs
      rw [Gam.put_put]
    · have hi : i ∈ vs := by
        rcases List.mem_cons.mp h with z | z
        · exact absurd z e
        · exact z
      show ((g.put i s).put v .un).forg vs = (g.put v .un).forg vs
      rw [Gam.forg_put, Gam.forg_put, Gam.forg_in vs g i s hi]
theorem Sat.wipes {I : Hp} {O : Hp} : ∀ {vs : List Nat} {g : Gam} {σ : L2.St}, Sat g σ I O → Sat (g.forg vs) (wipe σ vs) I O
  | [], _, _, h => h
  | v :: vs, g, σ, h => by
    show Sat ((g.put v .un).forg vs) ((wipe σ vs).set v none) I O
    rw [Gam.forg_put]
    exact Sat.put_un (Sat.wipes h)
theorem Sat.unset {I O : Hp} {g : Gam} {σ : L2.St} {i : Nat} {x : Option V} (h : Sat (g.put i .un) (σ.set i x) I O) : Sat (g.put i .un) σ I O := by
  by_cases hi : i < σ.length
  · have q := Sat.put_un (x := σ[i]) (i := i) h
    rw [Gam.put_put, List.set_set, set_self (by simp [hi])] at q
    exact q
  · rw [List.set_eq_of_length_le (by omega)] at h
    exact h
theorem Sat.unwipe {I O : Hp} : ∀ {vs : List Nat} {g : Gam} {σ : L2.St}, Sat (g.forg vs) (wipe σ vs) I O → Sat (g.forg vs) σ I O
  | [], _, _, h => h
  | v :: vs, g, σ, h => by
    have h1 : Sat ((g.put v .un).forg vs) ((wipe σ vs).set v none) I O := h
    rw [Gam.forg_put] at h1
    have h2 := h1.unset
    rw [← Gam.forg_put] at h2
    exact Sat.unwipe (vs := vs) (g := g.put v .un) h2
theorem wipe_comm : ∀ (ws : List Nat) (τ : L2.St) (v : Nat), wipe (τ.set v none) ws = (wipe τ ws).set v none
  | [], _, _ => rfl
  | w :: ws, τ, v => by
    unfold wipe
    rw [wipe_comm ws]
    by_cases e : v = w
    · rw [e]
    · rw [List.set_comm _ _ e]
theorem wipe_idem : ∀ (ws : List Nat) (τ : L2.St), wipe (wipe τ ws) ws = wipe τ ws
  | [], _ => rfl
  | w :: ws, τ => by
    show (wipe ((wipe τ ws).set w none) ws).set w none = (wipe τ ws).set w none
    rw [wipe_comm, wipe_idem ws, List.set_set]
theorem Go.other {I O H I1 O1 H1 : Hp} {p : Addr} {o : HO} (g : Go I O H I1 O1 H1) (h : H p = none) : Go I O H I1 O1 (upd H1 p o) :=
  ⟨fun b u e z => by rw [upd_ne (ne_of_none e h)]; exact g.keep b u e z, g.ext, g.ni, g.no⟩
theorem St3.other {I O H : Hp} {p : Addr} {o : HO} (t : St3 I O H) (hI : I p = none) (hO : O p = none) : St3 I O (upd H p o) :=
  ⟨fun b u e => by rw [upd_ne (ne_of_none e hI)]; exact t.si b u e, fun b u e => by rw [upd_ne (ne_of_none e hO)]; exact t.so b u e, t.dj⟩
/-! ### a new list as a result, owned -/
def Fresh (O H : Hp) (l : Addr) : Prop := H l = none ∨ O l ≠ none
theorem Fresh.shift {I O H I1 O1 H1 : Hp} {l : Addr} (g : Go I O H I1 O1 H1) (h : Fresh O1 H1 l) : Fresh O H l := by
  rcases h with h | h
  · cases q : H l with
    | none => exact .inl q
    | some o =>
      cases r : O l with
      | none => rw [g.keep l o q r] at h; cases h
      | some u => exact .inr (by rw [r]; exact Option.some_ne_none u)
  · rcases g.no l h with z | z
    · exact .inr z
    · exact .inl z
def PostO {S α : Type} [Enc α] (K : Fg) (E : XK) (Γ : S → Gam) (σ : L2.St) (I O H : Hp) (Q : VK) : Except Er (List α × S) → Prop
  | .ok (xs, s') => ∀ l us I' O' H', St3 I' O' H' → Go I O H I' O' H' → Sat (Γ s') σ I' O' → Fresh O H l → H' l = some (.lst us) → I' l = none → O' l = none → All2 (Enc.rep K I') us xs → Q (.ref l) H'
  | .error .stuck => False
  | .error (.exc c fs) => ∀ d I' O' H', St3 I' O' H' → Go I O H I' O' H' → XD K I' H' d fs → E (.ref (He.ga K c)) (some d) H'
def tMO {S α : Type} [Enc α] (K : Fg) (E : EW) (Γ : S → Gam) (m : R S (List α)) : TE := fun σ H Q => ∃ s I O, St3 I O H ∧ Sat (Γ s) σ I O ∧ PostO K (E σ) Γ σ I O H Q (m s)
abbrev PXo (X : Cx) (E : EW) {S α : Type} [Enc α] (Γ : S → Gam) (e : Expr) (m : R S (List α)) : Prop := PE X e (tMO X.K E Γ m)
section
variable {S α β : Type} {K : Fg} {E : XK} {Γ : S → Gam} {σ : L2.St} {I O H I1 O1 H1 : Hp} {Q : VK}
theorem PostO.shift [Enc α] (g : Go I O H I1 O1 H1) : ∀ {r : Except Er (List α × S)}, PostO K E Γ σ I O H Q r → PostO K E Γ σ I1 O1 H1 Q r
  | .ok (x, s'), h => fun l us I' O' H' t g' sat f => h l us I' O' H' t (g.trans g') sat (f.shift g)
  | .error .stuck, h => h
  | .error (.exc c fs), h => fun d I' O' H' t g' x => h d I' O' H' t (g.trans g') x
theorem PostO.bind [Enc α] {m : R S β} {k : β → R S (List α)} {s : S} (h : PostO K E Γ σ I O H Q (sb m k s)) :
    Post K E Γ σ I O H (fun x I1 H1 => Then I Γ σ (fun s1 I1 O1 H1 => PostO K E Γ σ I1 O1 H1 Q (k x s1)) I1 H1) (m s) := by
  unfold sb at h
  cases e : m s with
  | ok p =>
    obtain ⟨x, s1⟩ := p
    rw [e] at h
    exact fun I1 O1 H1 t g sat => ⟨g.ext, s1, O1, t, sat, PostO.shift g h⟩
  | error z =>
    rw [e] at h
    cases z with
    | stuck => exact h
    | exc c fs => exact h
theorem PostO.some_ [Enc α] {o : Option (List α)} {s : S} (h : PostO K E Γ σ I O H Q (so o s)) : ∃ x, o = some x ∧ PostO K E Γ σ I O H Q (sr x s) := by
  cases o with
  | none => exact False.elim h
  | some x => exact ⟨x, rfl, h⟩
/-- a new list laid just now -/
theorem PostO.new [Enc α] {xs : List α} {us : List V} {s : S} {p : Addr} (h : PostO K E Γ σ I O H Q (sr xs s)) (t : St3 I O H) (sat : Sat (Γ s) σ I O) (hp : H p = none) (r : All2 (Enc.rep K I) us xs) : Q (.ref p) (upd H p (.lst us)) :=
  h p us I O _ (t.other (t.fi hp) (t.fo hp)) ((Go.refl I O H).other hp) sat (.inl hp) upd_same (t.fi hp) (t.fo hp) r
/-- .. made still -/
theorem PostO.of [Enc α] : ∀ {r : Except Er (List α × S)}, Post K E Γ σ I O H (fun x I' H' => ∀ v, Enc.rep K I' v x → Q v H') r → PostO K E Γ σ I O H Q r
  | .ok (x, s'), h => fun l us I' O' H' t g sat f hl hI hO r => by
    have k := Same.upd_new (o := HO.lst us) hI
    refine h (upd I' l (.lst us)) O' H' ⟨fun b u e => ?_, t.so, fun b => ?_⟩ ⟨g.keep, g.ext.trans k, fun b e => ?_, g.no⟩ (sat.up k) (.ref l) ⟨l, us, rfl, upd_same, r.imp fun _ _ z => Enc.up k z⟩
    · by_cases hb : b = l
      · subst hb; rw [upd_same] at e; rw [← e]; exact hl
      · rw [upd_ne hb] at e; exact t.si b u e
    · by_cases hb : b = l
      · subst hb; exact .inr hO
      · rw [upd_ne hb]; exact t.dj b
    · by_cases hb : b = l
      · subst hb
        rcases f with z | z
        · exact .inr (.inl z)
        · exact .inr (.inr z)
      · rw [upd_ne hb] at e; exact g.ni b e
  | .error .stuck, h => h
  | .error (.exc c fs), h => h
end
theorem px_of {X : Cx} {E : EW} {S α : Type} [Enc α] {Γ : S → Gam} {e : Expr} {m : R S (List α)} (h : PXo X E Γ e m) : PX X E Γ e m := L2.PE.mono h fun σ H Q ⟨s, I, O, t, sat, q⟩ => ⟨s, I, O, t, sat, PostO.of q⟩
/-- name = a new list that will be changed -/
theorem own_in {K : Fg} {E : XK} {S α ρ τ β : Type} [Enc α] {Λ : τ → S → Gam} {Res : S → Hp → Hp → V → β → Prop} {Δ : ρ → S → Gam} {Γ : S → Gam} {i : Nat} {D : Ends} {σ : L2.St} {m : R S (List α)} {kk : List α → R S (Out ρ τ β)} {s : S} {I O H : Hp} (t : St3 I O H) (sat : Sat (Γ s) σ I O)
    (q : PostB K E Λ Res Δ I O H D (sb m kk s)) : PostO K E Γ σ I O H (fun v H1 => ∃ a, tB K (kE E) Λ Res (fun s => (Γ s).put i (sL K a)) Δ (kk a) D (σ.set i (some v)) H1) (m s) := by
  unfold sb at q
  cases em : m s with
  | error z =>
    rw [em] at q
    cases z with
    | stuck => exact q
    | exc c fs => exact q
  | ok p =>
    obtain ⟨xs, s1⟩ := p
    rw [em] at q
    intro l us I1 O1 H1 t1 g1 sat1 f hl hI hO r
    have e : uni (upd (fun _ => none) l (.lst us)) O1 = upd O1 l (.lst us) := by
      funext b; unfold uni upd; by_cases hb : b = l <;> simp [hb]
    refine ⟨xs, s1, I1, upd O1 l (.lst us), ⟨t1.si, fun b u e => ?_, fun b => ?_⟩, ?_, PostB.shift ⟨g1.keep, g1.ext, g1.ni, fun b e => ?_⟩ q⟩
    · by_cases hb : b = l
      · subst hb; rw [upd_same] at e; rw [← e]; exact hl
      · rw [upd_ne hb] at e; exact t1.so b u e
    · by_cases hb : b = l
      · subst hb; exact .inl hI
      · rw [upd_ne hb]; exact t1.dj b
    · rw [← e]
      refine Sat.put_ow (R := fun I O v => ∃ l vs, v = .ref l ∧ O l = some (.lst vs) ∧ All2 (Enc.rep K I) vs xs) ⟨l, us, rfl, upd_same, r⟩ (fun b => ?_) sat1
      by_cases hb : b = l
      · exact .inr (by rw [hb]; exact hO)
      · exact .inl (by rw [upd_ne hb])
    · by_cases hb : b = l
      · subst hb
        rcases f with z | z
        · exact .inr z
        · exact .inl z
      · rw [upd_ne hb] at e; exact g1.no b e
section
variable {X : Cx} {E : EW} {S ρ τ β α : Type} {Γ : S → Gam} {Λ : τ → S → Gam} {Res : S → Hp → Hp → V → β → Prop} {Δ : ρ → S → Gam} {pos pos' : Pos} {rest : List Stmt} {k : Nat}
theorem pb_setO {E : XK} (i : Nat) {x : Str} {e : Expr} [Enc α] {m : R S (List α)} {kk : List α → R S (Out ρ τ β)} (C : Ctx X (kE E) k) (he : PXo X (kE E) Γ e m) (hk : ∀ a, PB X (kE E) Λ Res (fun s => (Γ s).put i (sL X.K a)) rest Δ (kk a))
    (hi : X.N[i]? = some x := by rfl) (hx : Loc X.env.scope x := by first | exact Or.inl rfl | exact Or.inr rfl) (hs : swapsWith e (some (.Name x pos')) pos.line X.env = pure false := by rfl) (hf : X.fn x = true ∨ X.env.scope.names.lookup x = some .local := by first | exact .inl rfl | exact .inr rfl) :
    PB X (kE E) Λ Res Γ (.Assign [.Name x pos'] e pos :: rest) Δ (sb m kk) :=
  (pss_cons (ps_set C.nd hi hx he hs hf) (L2.PSs.ex hk)).mono fun D σ H ⟨s, I, O, t, sat, q⟩ => ⟨s, I, O, t, sat, own_in t sat q⟩
theorem po_lst {es : List Expr} [Enc α] {m : R S (List α)} (h : PLx X E Γ es m) : PXo X E Γ (.List es pos) (sb m fun a => so (plen a)) :=
  L2.PE.mono (pe_lst h) fun σ H Q ⟨s, I, O, t, sat, h⟩ => ⟨s, I, O, t, sat, h.bind.imp fun a I1 H1 ⟨_, s1, O1, t1, sat1, q1⟩ vs rv => by
    obtain ⟨ys, e, q2⟩ := q1.some_
    obtain ⟨rfl, hl⟩ := plen_some e
    exact ⟨by rw [rv.len]; exact hl, fun p hp => q2.new t1 sat1 hp rv⟩⟩
end
theorem takesE0 {X : Cx} : Takes X (fun cls d _ H => E0 cls d H) := fun _ _ ⟨_, _, _, _, _, _, _, _, _, _, _, _, _, _, _, _, w⟩ => w.elim
/-! ### comprehensions -/
def lcL {S α β : Type} (c : α → R S Bool) (f : α → R S β) : List α → List β → R S (List β)
  | [], acc => sr acc
  | x :: xs, acc => fun s => match c x s with
    | .ok (true, s1) => (match f x s1 with
      | .ok (y, s2) => (match papp acc y with
        | some a => lcL c f xs a s2
        | none => .error .stuck)
      | .error _ => .error .stuck)
    | .ok (false, s1) => lcL c f xs acc s1
    | .error _ => .error .stuck
section
variable {X : Cx} {E : EW} {S α β : Type} {Γ : S → Gam} {pos : Pos} {k : Nat}
theorem lc_core' [Enc α] [Enc β] {g : TG} {tt : TT} {te : TE} {wi : TI} {vs : List Nat} {m : R S (List α)} {c : α → R S Bool} {f : α → R S β} {up : Gam → α → Gam} {σ : L2.St} {H : Hp} {Q : VK}
    (hi : ∀ σ H Rr, (∃ s I O, St3 I O H ∧ Sat (Γ s) σ I O ∧ Post X.K (E σ) Γ σ I O H (fun xs I' H' => ∀ J, Serve X.K J I' xs → Rr J H') (m s)) → wi σ H Rr)
    (hu : ∀ s, (Γ s).forg vs = Γ s) (hup : ∀ g a, (up g a).forg vs = g.forg vs)
    (hg : ∀ v x σ I O H (Q : L2.St → Hp → Prop) Γ, Enc.rep X.K I v x → St3 I O H → Sat Γ σ I O → (∀ σ', Sat (up Γ x) σ' I O → wipe σ' vs = wipe σ vs → Q σ' H) → g v σ H Q)
    (ht : ∀ a σ H Q, tMT X.K (kE E0) (fun s => up ((Γ s).forg vs) a) (c a) σ H Q → tt σ H Q) (he : ∀ a σ H Q, tM X.K (kE E0) (fun s => up ((Γ s).forg vs) a) (f a) σ H Q → te σ H Q)
    (h : tMO X.K E Γ (sb m fun xs => lcL c f xs []) σ H Q) : tLc wi g tt te vs σ H Q := by
  obtain ⟨s, I, O, t, sat, q⟩ := h
  refine hi σ H _ ⟨s, I, O, t, sat, ?_⟩
  unfold sb at q
  cases em : m s with
  | error z =>
    rw [em] at q
    cases z with
    | stuck => exact q
    | exc c fs => exact q
  | ok p =>
    obtain ⟨xs, s1⟩ := p
    rw [em] at q
    intro I1 O1 H1 t1 gg sat1 J hJ D hD
    have q1 := PostO.shift gg q
    have satw := sat1.wipes (vs := vs)
    refine ⟨fun i n H => n = xs.length - i ∧ i ≤ xs.length ∧ ∃ s I O us ys, St3 I O H ∧ Go I1 O1 H1 I O H ∧ Sat (Γ s) σ I O ∧ H D = some (.lst us) ∧ I D = none ∧ O D = none ∧ All2 (Enc.rep X.K I) us ys ∧ PostO X.K (E σ) Γ σ I1 O1 H1 Q (lcL c f (xs.drop i) ys s),
      ⟨_, rfl, Nat.zero_le _, s1, I1, O1, [], [], t1.other (t1.fi hD) (t1.fo hD), (Go.refl ..).other hD, sat1, upd_same, t1.fi hD, t1.fo hD, trivial, q1⟩, ?_⟩
    rintro i n H2 ⟨rfl, hl, s2, I2, O2, us, ys, t2, g2, sat2, hD2, hI2, hO2, r2, q2⟩
    have sv := hJ I2 O2 H2 t2 g2.ext
    by_cases hlt : i < xs.length
    · have hx : xs[i]? = some xs[i] := by simp [hlt]
      have hgo := sv.1 i _ hx
      refine .inr ⟨hgo.1, fun H => ∃ s I O us ys, St3 I O H ∧ Go I1 O1 H1 I O H ∧ Sat (Γ s) σ I O ∧ H D = some (.lst us) ∧ I D = none ∧ O D = none ∧ All2 (Enc.rep X.K I) us ys ∧ PostO X.K (E σ) Γ σ I1 O1 H1 Q (lcL c f (xs.drop (i + 1)) ys s), fun H' z => ⟨xs.length - (i + 1), by omega, rfl, hlt, z⟩, fun x H3 y => ?_⟩
      obtain ⟨I3, t3, g3, r3⟩ := hgo.2 x H3 y
      have keepD : ∀ {Ia Oa Ha Ib Ob Hb : Hp} {us : List V}, Go Ia Oa Ha Ib Ob Hb → Ha D = some (.lst us) → Ia D = none → Oa D = none → Hb D = some (.lst us) ∧ Ib D = none ∧ Ob D = none := by
        intro Ia Oa Ha Ib Ob Hb us g h1 h2 h3
        refine ⟨g.keep D _ h1 h3, ?_, ?_⟩
        · cases z : Ib D with
          | none => rfl
          | some u =>
            rcases g.ni D (nn z) with y | y | y
            · exact absurd h2 y
            · rw [h1] at y; cases y
            · exact absurd h3 y
        · cases z : Ob D with
          | none => rfl
          | some u =>
            rcases g.no D (nn z) with y | y
            · exact absurd h3 y
            · rw [h1] at y; cases y
      obtain ⟨hD3, hI3, hO3⟩ := keepD g3 hD2 hI2 hO2
      rw [drop_cons hx] at q2
      unfold lcL at q2
      refine hg x _ (wipe σ vs) I3 O2 H3 _ ((Γ s2).forg vs) r3 t3 ((sat2.up g3.ext).wipes) fun σ' sat' hw => ?_
      have hww : wipe σ' vs = wipe σ vs := by rw [hw, wipe_idem]
      have home : ∀ {s : S} {I O : Hp}, Sat (up ((Γ s).forg vs) xs[i]) σ' I O → Sat (Γ s) σ I O := fun {s I O} h => by
        have h1 := h.wipes (vs := vs)
        rw [hup, hww, hu s, hu s] at h1
        rw [← hu s] at h1 ⊢
        exact h1.unwipe
      refine ⟨hww, ht _ _ _ _ ⟨s2, I3, O2, t3, sat', ?_⟩⟩
      cases ec : c xs[i] s2 with
      | error z => rw [ec] at q2; exact q2.elim
      | ok p =>
        obtain ⟨b, s3⟩ := p
        rw [ec] at q2
        intro I4 O4 H4 t4 g4 sat4
        obtain ⟨hD4, hI4, hO4⟩ := keepD g4 hD3 hI3 hO3
        cases b with
        | false => exact iteF ⟨s3, I4, O4, us, ys, t4, (g2.trans g3).trans g4, home sat4, hD4, hI4, hO4, r2.imp fun _ _ z => Enc.up (g3.ext.trans g4.ext) z, q2⟩
        | true =>
          refine iteT (he _ _ _ _ ⟨s3, I4, O4, t4, sat4, ?_⟩)
          dsimp only at q2
          cases ef : f xs[i] s3 with
          | error z => rw [ef] at q2; exact q2.elim
          | ok p =>
            obtain ⟨y, s4⟩ := p
            rw [ef] at q2
            intro I5 O5 H5 t5 g5 sat5 u ru
            obtain ⟨hD5, hI5, hO5⟩ := keepD g5 hD4 hI4 hO4
            dsimp only at q2
            cases ea : papp ys y with
            | none => rw [ea] at q2; exact q2.elim
            | some zs =>
              rw [ea] at q2
              unfold papp at ea
              split at ea
              · rename_i hlen
                cases ea
                have r5 := r2.imp fun _ _ z => Enc.up ((g3.ext.trans g4.ext).trans g5.ext) z
                exact ⟨us, hD5, by rw [r2.len, sizeLine_eq]; exact hlen, s4, I5, O5, us ++ [u], ys ++ [y], t5.other hI5 hO5, ((((g2.trans g3).trans g4).trans g5)).other hD, home sat5, upd_same, hI5, hO5, r5.app ⟨ru, trivial⟩, q2⟩
              · cases ea
    · have e : i = xs.length := by omega
      subst e
      rw [List.drop_length] at q2
      exact .inl ⟨sv.2, q2 D us I2 O2 H2 t2 g2 sat2 (.inl hD) hD2 hI2 hO2 r2⟩
/-- [e for name in xs if c]: sources, tests and elements; vs: the slots of the comprehension's own names, which hold nothing ahead -/
theorem po_lc1 (i : Nat) {x : Str} {elt iter : Expr} {ifs : List Expr} {scope : Scope} {own : List (Str × Nat)} {px : Pos} [Enc α] [Enc β] {m : R S (List α)} {c : α → R S Bool} {f : α → R S β} (C : Ctx X E k)
    (hi : IX X E Γ (.Name x px) iter m) (ok : BlkOk X.N X.env.scope scope own) (hu : ∀ s, (Γ s).forg (own.map (·.2)) = Γ s) (hown : i ∈ own.map (·.2))
    (hg : ∀ (s : Shared) (H : Hp) (D : Addr) (cl : List (Str × Addr)) (fp : List Addr), PG (X.blk s H scope (compEnvC scope cl D X.env) fp) (.Name x px) (gName i))
    (ht : ∀ (s : Shared) (H : Hp) (D : Addr) (cl : List (Str × Addr)) (fp : List Addr), ∀ a, PTs (X.blk s H scope (compEnvC scope cl D X.env) fp) ifs (tMT X.K (kE E0) (fun s => ((Γ s).forg (own.map (·.2))).put i (sI X.K a)) (c a)))
    (he : ∀ (s : Shared) (H : Hp) (D : Addr) (cl : List (Str × Addr)) (fp : List Addr), Ctx (X.blk s H scope (compEnvC scope cl D X.env) fp) (kE E0) k → ∀ a, PX (X.blk s H scope (compEnvC scope cl D X.env) fp) (kE E0) (fun s => ((Γ s).forg (own.map (·.2))).put i (sI X.K a)) elt (f a))
    (hs : ∀ x, foldedSetIterable iter X.env x = pure x := by intro _; rfl) : PXo X E Γ (.ListComp elt [⟨.Name x px, iter, ifs, 0⟩] scope pos) (sb m fun xs => lcL c f xs []) := by
  obtain ⟨wi, i1, i2⟩ := hi.ex
  refine L2.PE.mono (pe_lc C.calm C.nd i1 ok hg (fun s H D cl fp => L2.PTs.ex (t := fun a => tMT X.K (kE E0) (fun s => ((Γ s).forg (own.map (·.2))).put i (sI X.K a)) (c a)) (ht s H D cl fp)) (fun s H D cl fp => L2.PE.ex (t := fun a => tM X.K (kE E0) (fun s => ((Γ s).forg (own.map (·.2))).put i (sI X.K a)) (f a)) (he s H D cl fp ⟨fun σ pins H s e s' I c => passL pins σ H s e s' I c, PassesOwn.never, C.room, C.nd, C.calm, takesE0⟩)) hs) fun σ H Q h => ?_
  exact lc_core' (up := fun g a => g.put i (sI X.K a)) (c := c) (f := f) i2 hu (fun g a => Gam.forg_in _ g i _ hown) (fun v a σ I O H Q Γ r t sat h => h _ (sat.put_im r) (wipe_set σ i _ hown)) (fun a σ H Q h => ⟨a, h⟩) (fun a σ H Q h => ⟨a, h⟩) h
/-- name = [e for ..] on one line, the name no cell -/
theorem pb_setLc1 {E : XK} {ρ τ β' : Type} {Λ : τ → S → Gam} {Res : S → Hp → Hp → V → β' → Prop} {Δ : ρ → S → Gam} {pos' spos : Pos} {rest : List Stmt} (iy : Nat) (i : Nat) {x y : Str} {elt iter : Expr} {ifs : List Expr} {scope : Scope} {own : List (Str × Nat)} {px : Pos} [Enc α] [Enc β] {m : R S (List α)} {c : α → R S Bool} {f : α → R S β} {kk : List β → R S (Out ρ τ β')} (C : Ctx X (kE E) k)
    (hi : IX X (kE E) Γ (.Name x px) iter m) (ok : BlkOk X.N X.env.scope scope own) (hu : ∀ s, (Γ s).forg (own.map (·.2)) = Γ s) (hown : i ∈ own.map (·.2))
    (hg : ∀ (s : Shared) (H : Hp) (D : Addr) (cl : List (Str × Addr)) (fp : List Addr), PG (X.blk s H scope (compEnvC scope cl D X.env) fp) (.Name x px) (gName i))
    (ht : ∀ (s : Shared) (H : Hp) (D : Addr) (cl : List (Str × Addr)) (fp : List Addr), ∀ a, PTs (X.blk s H scope (compEnvC scope cl D X.env) fp) ifs (tMT X.K (kE E0) (fun s => ((Γ s).forg (own.map (·.2))).put i (sI X.K a)) (c a)))
    (he : ∀ (s : Shared) (H : Hp) (D : Addr) (cl : List (Str × Addr)) (fp : List Addr), Ctx (X.blk s H scope (compEnvC scope cl D X.env) fp) (kE E0) k → ∀ a, PX (X.blk s H scope (compEnvC scope cl D X.env) fp) (kE E0) (fun s => ((Γ s).forg (own.map (·.2))).put i (sI X.K a)) elt (f a))
    (hk : ∀ a, PB X (kE E) Λ Res (fun s => (Γ s).put iy (sL X.K a)) rest Δ (kk a))
    (hy : X.N[iy]? = some y := by rfl) (hyl : X.env.scope.names.lookup y = some .local := by rfl) (hsw : swapsWith (.ListComp elt [⟨.Name x px, iter, ifs, 0⟩] scope pos) (some (.Name y pos')) spos.line X.env = pure true := by exact sw_true rfl rfl rfl (by decide +kernel))
    (hs : ∀ x, foldedSetIterable iter X.env x = pure x := by intro _; rfl) : PB X (kE E) Λ Res Γ (.Assign [.Name y pos'] (.ListComp elt [⟨.Name x px, iter, ifs, 0⟩] scope pos) spos :: rest) Δ (sb (sb m fun xs => lcL c f xs []) kk) := by
  obtain ⟨wi, i1, i2⟩ := hi.ex
  refine (pss_cons (ps_setLc C.calm C.nd hy hyl hsw i1 ok hg (fun s H D cl fp => L2.PTs.ex (t := fun a => tMT X.K (kE E0) (fun s => ((Γ s).forg (own.map (·.2))).put i (sI X.K a)) (c a)) (ht s H D cl fp)) (fun s H D cl fp => L2.PE.ex (t := fun a => tM X.K (kE E0) (fun s => ((Γ s).forg (own.map (·.2))).put i (sI X.K a)) (f a)) (he s H D cl fp ⟨fun σ pins H s e s' I c => passL pins σ H s e s' I c, PassesOwn.never, C.room, C.nd, C.calm, takesE0⟩)) hs) (L2.PSs.ex hk)).mono fun D σ H ⟨s, I, O, t, sat, q⟩ => ?_
  have key : tLc wi (gName i) (fun σ H Q => ∃ a, tMT X.K (kE E0) (fun s => ((Γ s).forg (own.map (·.2))).put i (sI X.K a)) (c a) σ H Q) (fun σ H Q => ∃ a, tM X.K (kE E0) (fun s => ((Γ s).forg (own.map (·.2))).put i (sI X.K a)) (f a) σ H Q) (own.map (·.2)) σ H (fun v H1 => ∃ a, tB X.K (kE E) Λ Res (fun s => (Γ s).put iy (sL X.K a)) Δ (kk a) D (σ.set iy (some v)) H1) :=
    lc_core' (g := gName i) (up := fun g a => g.put i (sI X.K a)) (c := c) (f := f) i2 hu (fun g a => Gam.forg_in _ g i _ hown) (fun v a σ I O H Q Γ r t sat h => h _ (sat.put_im r) (wipe_set σ i _ hown)) (fun a σ H Q h => ⟨a, h⟩) (fun a σ H Q h => ⟨a, h⟩) ⟨s, I, O, t, sat, own_in t sat q⟩
  exact key
end
end Mi

set_option Elab.async false
set_option linter.all false
set_option maxRecDepth 100000
set_option maxHeartbeats 4000000
namespace Mi
open PySem PySem.Spec PyProof.Rows L2

/-! ### texts -/
section
variable {X : Cx} {E : EW} {S : Type} {Γ : S → Gam} {pos : Pos}
def pcat (x y : Str) : Option Str := if x.length + y.length ≤ 16777216 then some (x ++ y) else none
theorem px_cat {a b : Expr} {ma mb : R S Str} (ha : PX X E Γ a ma) (hb : PX X E Γ b mb) : PX X E Γ (.BinOp a .Add b pos) (sb ma fun x => sb mb fun y => so (pcat x y)) :=
  px_bin (pe_op op_add_str) ha hb fun x y v w s σ I O H Q rv rw t sat h => by
    obtain ⟨z, e, h⟩ := h.some_
    unfold pcat at e
    split at e
    · rename_i c
      cases e
      exact ⟨x, y, rv, rw, by rw [sizeLine_eq]; exact c, h.at_ t sat _ rfl⟩
    · cases e
def ppow (i j : Int) : Option Int := if 0 ≤ j ∧ j ≤ 1000000 ∧ i.natAbs < 2 ^ 64 then some (i ^ j.toNat) else none
theorem px_pow {a b : Expr} {ma mb : R S Int} (ha : PX X E Γ a ma) (hb : PX X E Γ b mb) : PX X E Γ (.BinOp a .Pow b pos) (sb ma fun x => sb mb fun y => so (ppow x y)) :=
  px_bin (pe_op op_pow) ha hb fun x y v w s σ I O H Q rv rw t sat h => by
    obtain ⟨z, e, h⟩ := h.some_
    unfold ppow at e
    split at e
    · rename_i c
      cases e
      exact ⟨x, y, rv, rw, c, h.at_ t sat _ rfl⟩
    · cases e
/-- lists joined -/
def plcat {α : Type} (x y : List α) : Option (List α) := if x.length + y.length ≤ 16777216 then some (x ++ y) else none
theorem px_lcat {α : Type} [Enc α] {a b : Expr} {ma mb : R S (List α)} (ha : PX X E Γ a ma) (hb : PX X E Γ b mb) : PX X E Γ (.BinOp a .Add b pos) (sb ma fun x => sb mb fun y => so (plcat x y)) :=
  px_bin (pe_op op_cat) ha hb fun x y v w s σ I O H Q rv rw t sat h => by
    obtain ⟨z, e, h⟩ := h.some_
    unfold plcat at e
    split at e
    · rename_i c
      cases e
      obtain ⟨l, vs, rfl, q1, r1⟩ := rv
      obtain ⟨l', vs', rfl, q2, r2⟩ := rw
      refine ⟨l, l', vs, vs', rfl, rfl, t.si _ _ q1, t.si _ _ q2, by rw [r1.len, r2.len, sizeLine_eq]; exact c, fun p hp => ?_⟩
      have k := Same.upd_new (o := HO.lst (vs ++ vs')) (t.fi hp)
      exact h.laid (o := .lst (vs ++ vs')) t sat hp (.ref p) ⟨p, _, rfl, upd_same, (r1.app r2).imp fun _ _ z => Enc.up k z⟩
    · cases e
/-- a part of a slice -/
structure PPx (X : Cx) (E : EW) (Γ : S → Gam) (o : Option Expr) (m : R S (Option Int)) : Prop where
  ex : ∃ t, PO X o t ∧ ∀ σ H Q, (∃ s I O, St3 I O H ∧ Sat (Γ s) σ I O ∧ Post X.K (E σ) Γ σ I O H (fun x _ H' => Q x H') (m s)) → t σ H Q
theorem pp_none : PPx X E Γ none (sr none) := ⟨_, po_none, fun σ H Q ⟨s, I, O, t, sat, h⟩ => h.at_ t sat⟩
theorem pp_some {e : Expr} {m : R S Int} (h : PX X E Γ e m) : PPx X E Γ (some e) (sb m fun i => sr (some i)) :=
  ⟨_, po_some h, fun σ H Q ⟨s, I, O, t, sat, h⟩ => ⟨s, I, O, t, sat, h.bind.imp fun x I1 H1 ⟨_, s1, O1, t1, sat1, h1⟩ v rv => ⟨x, rv, h1.at_ t1 sat1⟩⟩⟩
def pcutS (z : Str) (lo hi : Option Int) : Option Str := if z.length ≤ 16777216 then some (cutS z lo hi) else none
theorem px_cutS {a : Expr} {lo hi : Option Expr} {p2 : Pos} {m : R S Str} {ml mh : R S (Option Int)} (ha : PX X E Γ a m) (hl : PPx X E Γ lo ml) (hh : PPx X E Γ hi mh) :
    PX X E Γ (.Subscript a (.Slice lo hi none p2) pos) (sb m fun x => sb ml fun l => sb mh fun u => so (pcutS x l u)) := by
  obtain ⟨tl, l1, l2⟩ := hl.ex
  obtain ⟨th, h1, h2⟩ := hh.ex
  exact L2.PE.mono (pe_slice sl_str ha l1 h1) fun σ H Q ⟨s, I, O, t, sat, h⟩ => ⟨s, I, O, t, sat, h.bind.imp fun x I1 H1 ⟨_, s1, O1, t1, sat1, q1⟩ v rv => l2 _ _ _ ⟨s1, I1, O1, t1, sat1, q1.bind.imp fun l I2 H2 ⟨_, s2, O2, t2, sat2, q2⟩ =>
    h2 _ _ _ ⟨s2, I2, O2, t2, sat2, q2.bind.imp fun u I3 H3 ⟨_, s3, O3, t3, sat3, q3⟩ => by
      obtain ⟨z, e, q4⟩ := q3.some_
      unfold pcutS at e
      split at e
      · rename_i c
        cases e
        exact ⟨x, rv, by rw [sizeLine_eq]; exact c, q4.at_ t3 sat3 _ rfl⟩
      · cases e⟩⟩⟩
def cutL {α : Type} (xs : List α) (lo hi : Option Int) : List α := (xs.drop (HT.sIx xs.length 0 lo)).take (HT.sIx xs.length xs.length hi - HT.sIx xs.length 0 lo)
theorem px_cutL {α : Type} [Enc α] {a : Expr} {lo hi : Option Expr} {p2 : Pos} {m : R S (List α)} {ml mh : R S (Option Int)} (ha : PX X E Γ a m) (hl : PPx X E Γ lo ml) (hh : PPx X E Γ hi mh) :
    PX X E Γ (.Subscript a (.Slice lo hi none p2) pos) (sb m fun x => sb ml fun l => sb mh fun u => sr (cutL x l u)) := by
  obtain ⟨tl, l1, l2⟩ := hl.ex
  obtain ⟨th, h1, h2⟩ := hh.ex
  exact L2.PE.mono (pe_slice sl_list ha l1 h1) fun σ H Q ⟨s, I, O, t, sat, h⟩ => ⟨s, I, O, t, sat, h.bind.imp fun x I1 H1 ⟨_, s1, O1, t1, sat1, q1⟩ v rv => l2 _ _ _ ⟨s1, I1, O1, t1, sat1, q1.bind.imp fun l I2 H2 ⟨e2, s2, O2, t2, sat2, q2⟩ =>
    h2 _ _ _ ⟨s2, I2, O2, t2, sat2, q2.bind.imp fun u I3 H3 ⟨e3, s3, O3, t3, sat3, q3⟩ => by
      obtain ⟨b, vs, rfl, q, r⟩ := rv
      refine ⟨b, vs, rfl, SqL.of (t3.si _ _ (e3 _ _ (e2 _ _ q))), fun p hp => ?_⟩
      have k := Same.upd_new (o := HO.lst (cutV vs l u)) (t3.fi hp)
      refine q3.laid (o := .lst (cutV vs l u)) t3 sat3 hp (.ref p) ⟨p, _, rfl, upd_same, ?_⟩
      unfold cutV cutL
      rw [← r.len]
      exact ((r.imp fun _ _ z => Enc.up ((e2.trans e3).trans k) z).dropN _).takeN _⟩⟩⟩
theorem px_cutR {α : Type} [Enc α] {a : Expr} {lo hi : Option Expr} {p2 : Pos} {m : R S (Ro α)} {ml mh : R S (Option Int)} (ha : PX X E Γ a m) (hl : PPx X E Γ lo ml) (hh : PPx X E Γ hi mh) :
    PX X E Γ (.Subscript a (.Slice lo hi none p2) pos) (sb m fun x => sb ml fun l => sb mh fun u => sr (cutL x.l l u)) := by
  obtain ⟨tl, l1, l2⟩ := hl.ex
  obtain ⟨th, h1, h2⟩ := hh.ex
  exact L2.PE.mono (pe_slice sl_list ha l1 h1) fun σ H Q ⟨s, I, O, t, sat, h⟩ => ⟨s, I, O, t, sat, h.bind.imp fun x I1 H1 ⟨_, s1, O1, t1, sat1, q1⟩ v rv => l2 _ _ _ ⟨s1, I1, O1, t1, sat1, q1.bind.imp fun l I2 H2 ⟨e2, s2, O2, t2, sat2, q2⟩ =>
    h2 _ _ _ ⟨s2, I2, O2, t2, sat2, q2.bind.imp fun u I3 H3 ⟨e3, s3, O3, t3, sat3, q3⟩ => by
      obtain ⟨b, vs, rfl, q, r⟩ := rv
      refine ⟨b, vs, rfl, t3.si.seq (e3.seq (e2.seq q)), fun p hp => ?_⟩
      have k := Same.upd_new (o := HO.lst (cutV vs l u)) (t3.fi hp)
      refine q3.laid (o := .lst (cutV vs l u)) t3 sat3 hp (.ref p) ⟨p, _, rfl, upd_same, ?_⟩
      unfold cutV cutL
      rw [← r.len]
      exact ((r.imp fun _ _ z => Enc.up ((e2.trans e3).trans k) z).dropN _).takeN _⟩⟩⟩
/-- one sign in a text -/
def pinS (x y : Str) : Option Bool := match x.cps.toList with
  | [c] => some (decide (c ∈ y.cps.toList))
  | _ => none
theorem pinS_some {x y : Str} {b : Bool} (h : pinS x y = some b) : ∃ c, x = ⟨#[c]⟩ ∧ b = decide (c ∈ y.cps.toList) := by
  unfold pinS at h
  split at h
  · rename_i c e
    cases h
    refine ⟨c, ?_, rfl⟩
    obtain ⟨cps⟩ := x
    have : cps = #[c] := by
      have := congrArg List.toArray e
      simpa using this
    rw [this]
  · cases h
theorem px_inS {a b : Expr} {ma mb : R S Str} (ha : PX X E Γ a ma) (hb : PX X E Γ b mb) (hm : behindInMarks .In b = false := by rfl) : CB X E Γ (.Compare a [.In] [b] pos) (sb ma fun x => sb mb fun y => so (pinS x y)) :=
  px_cmp op_in_sign ha hb hm fun x y v w s σ I O H Q rv rw t sat h => by
    obtain ⟨z, e, h⟩ := h.some_
    obtain ⟨c, rfl, rfl⟩ := pinS_some e
    exact ⟨c, y, rv, rw, h.at_ t sat _ rfl⟩
theorem px_notInS {a b : Expr} {ma mb : R S Str} (ha : PX X E Γ a ma) (hb : PX X E Γ b mb) (hm : behindInMarks .NotIn b = false := by rfl) : CB X E Γ (.Compare a [.NotIn] [b] pos) (sb ma fun x => sb mb fun y => sb (so (pinS x y)) fun z => sr (!z)) :=
  px_cmp op_notIn_sign ha hb hm fun x y v w s σ I O H Q rv rw t sat h => by
    cases e : pinS x y with
    | none => rw [e] at h; exact False.elim h
    | some z =>
      rw [e] at h
      obtain ⟨c, rfl, rfl⟩ := pinS_some e
      exact ⟨c, y, rv, rw, Post.at_ (x := !_) h t sat _ rfl⟩
def signs (z : Str) : List Str := z.cps.toList.map fun c => ⟨#[c]⟩
theorem ix_s {tg iter : Expr} {m : R S Str} (h : PX X E Γ iter m) : IX X E Γ tg iter (sb m fun x => sr (signs x)) :=
  ⟨_, pi_str h, fun σ H Rr ⟨s, I, O, t, sat, q⟩ => ⟨s, I, O, t, sat, q.bind.impT fun x I1 O1 H1 t1 _ ⟨_, s2, O2, t2, sat2, z⟩ v rv => ⟨x, rv, z.at_ t2 sat2 _ fun I3 O3 H3 t3 e3 => by
    refine ⟨fun i y hy => ?_, by show x.cps.size ≤ (signs x).length; simp [signs]⟩
    unfold signs at hy
    rw [List.getElem?_map] at hy
    cases q : x.cps.toList[i]? with
    | none => rw [q] at hy; cases hy
    | some c =>
      rw [q] at hy
      cases hy
      obtain ⟨h1, h2⟩ := List.getElem?_eq_some_iff.mp q
      have h1' : i < x.cps.size := by simpa using h1
      refine ⟨h1', fun u H2 y => ?_⟩
      obtain ⟨rfl, d, hd, rfl⟩ := y
      have e : d = c := by
        have : x.cps[i]? = some c := by simpa using q
        rw [this] at hd
        exact (Option.some.inj hd).symm
      subst e
      exact ⟨I3, t3, Go.refl .., rfl⟩⟩⟩⟩
def pupper (a : Str) : Option Str := if a.length ≤ 5592405 then some (Txt.upper a) else none
theorem px_upper {e : Expr} {apos : Pos} {m : R S Str} (h : PX X E Γ e m) (hbase : attributeBase e "upper" X.env (eval e X.env) = eval e X.env := by rfl) (hline : (apos.endLine == pos.line) = true := by rfl) :
    PX X E Γ (.Call (.Attribute e "upper" apos) [] [] pos) (sb m fun x => so (pupper x)) :=
  L2.PE.mono (pe_upper h hbase hline) fun σ H Q ⟨s, I, O, t, sat, h⟩ => ⟨s, I, O, t, sat, h.bind.imp fun x I1 H1 ⟨_, s1, O1, t1, sat1, h1⟩ v rv => by
    obtain ⟨z, e, q⟩ := h1.some_
    have ev : v = .str x := rv
    subst ev
    unfold pupper at e
    split at e
    · rename_i c
      cases e
      exact ⟨⟨_, rfl⟩, x, rfl, rfl, c, q.at_ t1 sat1 _ rfl⟩
    · cases e⟩
/-! ### truth values that are the very ones -/
theorem px_isB {a b : Expr} {ma mb : R S Bool} (ha : PX X E Γ a ma) (hb : PX X E Γ b mb) : CB X E Γ (.Compare a [.Is] [b] pos) (sb ma fun x => sb mb fun y => sr (decide (x = y))) :=
  px_cmp op_isBl ha hb (nomark _) fun x y v w s σ I O H Q rv rw t sat h => ⟨x, y, rv, rw, h.at_ t sat _ rfl⟩
theorem px_isNotB {a b : Expr} {ma mb : R S Bool} (ha : PX X E Γ a ma) (hb : PX X E Γ b mb) : CB X E Γ (.Compare a [.IsNot] [b] pos) (sb ma fun x => sb mb fun y => sr (!decide (x = y))) :=
  px_cmp op_notBl ha hb (nomark _) fun x y v w s σ I O H Q rv rw t sat h => ⟨x, y, rv, rw, h.at_ t sat _ rfl⟩
/-- a <= b <= c of ints -/
theorem px_le2 {a b c : Expr} {ma mb mc : R S Int} (ha : PX X E Γ a ma) (hb : PX X E Γ b mb) (hc : PX X E Γ c mc) (hm : lastMarks [.LtE, .LtE] [b, c] = false := by with_unfolding_all rfl) :
    CB X E Γ (.Compare a [.LtE, .LtE] [b, c] pos) (sb ma fun x => sb mb fun y => if x ≤ y then sb mc fun z => sr (decide (y ≤ z)) else sr false) := by
  have key : ∀ σ H Q, tM X.K E Γ (sb ma fun x => sb mb fun y => if x ≤ y then sb mc fun z => sr (decide (y ≤ z)) else sr false) σ H Q → tChain (rI0 fun i j => .bl (decide (i ≤ j))) (rI0 fun i j => .bl (decide (i ≤ j))) (tM X.K E Γ ma) (tM X.K E Γ mb) (tM X.K E Γ mc) σ H Q := by
    intro σ H Q ⟨s, I, O, t, sat, h⟩
    refine ⟨s, I, O, t, sat, h.bind.imp fun x I1 H1 ⟨_, s1, O1, t1, sat1, q1⟩ v rv => ⟨s1, I1, O1, t1, sat1, q1.bind.imp fun y I2 H2 ⟨_, s2, O2, t2, sat2, q2⟩ w rw => ?_⟩⟩
    refine ⟨x, y, rv, rw, decide (x ≤ y), rfl, ?_⟩
    by_cases c : x ≤ y
    · rw [decide_eq_true c]
      rw [if_pos c] at q2
      exact iteT ⟨s2, I2, O2, t2, sat2, q2.bind.imp fun z I3 H3 ⟨_, s3, O3, t3, sat3, q3⟩ u ru => ⟨y, z, rw, ru, q3.at_ t3 sat3 _ rfl⟩⟩
    · rw [decide_eq_false c]
      rw [if_neg c] at q2
      exact iteF (q2.at_ t2 sat2 _ rfl)
  exact ⟨L2.PE.mono (pe_chain op_le op_le ha hb hc hm) key, L2.PT.mono (pt_chain op_le op_le ha hb hc hm) fun σ H Q ⟨s, I, O, t, sat, h⟩ => key σ H _ ⟨s, I, O, t, sat, h.imp fun x _ _ q v rv => ⟨x, rv, q⟩⟩⟩

/-! ### a module's constants -/
def Con1 (K : Fg) (mg : Str → Option Value) (x : Str) {α : Type} [Enc α] (a : α) : Prop := ∃ u v, mg x = some u ∧ RelV v u ∧ ∀ I, Enc.rep K I v a
theorem px_glob {α : Type} [Enc α] {x : Str} {a : α} (h : Con1 X.K X.mg x a) (hg : Gl X x := by rfl) (hd : (x == ("__debug__" : Str)) = false := by decide) : PX X E Γ (.Name x pos) (sr a) := by
  obtain ⟨u, v, h1, h2, h3⟩ := h
  exact L2.PE.mono (pe_glob hg h1 h2 hd) fun σ H Q ⟨s, I, O, t, sat, h⟩ => h.at_ t sat v (h3 I)
/-! ### any value -/
class ToD (α : Type) extends Enc α where
  toD : α → D
  rd : ∀ {K : Fg} {I : Hp} {v : V} {x : α}, rep K I v x → RD K I v (toD x)
abbrev toD {α : Type} [ToD α] (x : α) : D := ToD.toD x
instance : ToD Int := ⟨.int, fun {K I v x} h => by have e : v = .int x := h; subst e; exact .int x⟩
instance : ToD Bool := ⟨.bl, fun {K I v x} h => by have e : v = .bl x := h; subst e; exact .bl x⟩
instance : ToD Str := ⟨.str, fun {K I v x} h => by have e : v = .str x := h; subst e; exact .str x⟩
instance : ToD Unit := ⟨fun _ => .non, fun {K I v x} h => by have e : v = .non := h; subst e; exact .non⟩
instance : ToD D := ⟨fun x => x, fun h => h⟩
instance {α β : Type} [ToD α] [ToD β] : ToD (α × β) := ⟨fun x => .tup [toD x.1, toD x.2], fun {K I v x} h => by
  obtain ⟨a, u, w, rfl, q, r1, r2⟩ := h
  exact .tup q (.cons (ToD.rd r1) (.cons (ToD.rd r2) .nil))⟩
theorem rds_of {α : Type} [ToD α] {K : Fg} {I : Hp} : ∀ {vs : List V} {xs : List α}, All2 (Enc.rep K I) vs xs → RDs K I vs (xs.map toD)
  | [], [], _ => .nil
  | _ :: _, _ :: _, q => .cons (ToD.rd q.1) (rds_of q.2)
  | [], _ :: _, q => q.elim
  | _ :: _, [], q => q.elim
instance {α : Type} [ToD α] : ToD (List α) := ⟨fun x => .lst (x.map toD), fun {K I v x} h => by
  obtain ⟨a, vs, rfl, q, r⟩ := h
  exact .lst (SqL.of q) (rds_of r)⟩
instance {α : Type} [ToD α] : ToD (Option α) := ⟨fun x => match x with
    | none => .non
    | some y => toD y, fun {K I v x} h => by
  cases x with
  | none => have e : v = .non := h; subst e; exact .non
  | some y => exact ToD.rd h.2⟩
theorem px_toD {α : Type} [ToD α] {e : Expr} {m : R S α} (h : PX X E Γ e m) : PX X E Γ e (sb m fun z => sr (toD z)) :=
  L2.PE.mono h fun σ H Q ⟨s, I, O, t, sat, h⟩ => ⟨s, I, O, t, sat, h.bind.imp fun x I1 H1 ⟨_, s1, O1, t1, sat1, h1⟩ v rv => h1.at_ t1 sat1 v (ToD.rd rv)⟩
class OfD (α : Type) extends Enc α where
  ofD : D → Option α
  dr : ∀ {K : Fg} {I : Hp} {v : V} {d : D} {x : α}, RD K I v d → ofD d = some x → rep K I v x
abbrev ofD {α : Type} [OfD α] (x : D) : Option α := OfD.ofD x
instance : OfD Int := ⟨fun | .int i => some i | _ => none, fun {K I v d x} h e => by cases h <;> first | (cases e; exact rfl) | cases e⟩
instance : OfD Str := ⟨fun | .str i => some i | _ => none, fun {K I v d x} h e => by cases h <;> first | (cases e; exact rfl) | cases e⟩
instance : OfD Bool := ⟨fun | .bl i => some i | _ => none, fun {K I v d x} h e => by cases h <;> first | (cases e; exact rfl) | cases e⟩
theorem px_ofD {α : Type} [OfD α] {e : Expr} {m : R S D} (h : PX X E Γ e m) : PX X E Γ e (sb m fun z => so (ofD z : Option α)) :=
  L2.PE.mono h fun σ H Q ⟨s, I, O, t, sat, h⟩ => ⟨s, I, O, t, sat, h.bind.imp fun x I1 H1 ⟨_, s1, O1, t1, sat1, h1⟩ v rv => by
    obtain ⟨y, e, q⟩ := h1.some_
    exact q.at_ t1 sat1 v (OfD.dr rv e)⟩
theorem rds_all {K : Fg} {I : Hp} : ∀ {vs : List V} {xs : List D}, All2 (Enc.rep K I) vs xs → RDs K I vs xs
  | [], [], _ => .nil
  | _ :: _, _ :: _, q => .cons q.1 (rds_all q.2)
  | [], _ :: _, q => q.elim
  | _ :: _, [], q => q.elim
def pdlst (xs : List D) : Option D := if xs.length ≤ 16777216 then some (.lst xs) else none
def pdtup (xs : List D) : Option D := if xs.length ≤ 16777216 then some (.tup xs) else none
theorem px_dlst {es : List Expr} {m : R S (List D)} (h : PLx X E Γ es m) : PX X E Γ (.List es pos) (sb m fun a => so (pdlst a)) :=
  L2.PE.mono (pe_lst h) fun σ H Q ⟨s, I, O, t, sat, h⟩ => ⟨s, I, O, t, sat, h.bind.imp fun a I1 H1 ⟨_, s1, O1, t1, sat1, h1⟩ vs rv => by
    obtain ⟨ys, e, h2⟩ := h1.some_
    unfold pdlst at e
    split at e
    · rename_i c
      cases e
      refine ⟨by rw [rv.len, sizeLine_eq]; exact c, fun p hp => ?_⟩
      have k := Same.upd_new (o := HO.lst vs) (t1.fi hp)
      exact h2.laid (o := .lst vs) t1 sat1 hp (.ref p) (.lst (SqL.of upd_same) (RDs.up k (rds_all rv)))
    · cases e⟩
theorem px_dtup {es : List Expr} {x1} {m : R S (List D)} (h : PLx X E Γ es m) : PX X E Γ (.Tuple es x1 pos) (sb m fun a => so (pdtup a)) :=
  L2.PE.mono (pe_tup h) fun σ H Q ⟨s, I, O, t, sat, h⟩ => ⟨s, I, O, t, sat, h.bind.imp fun a I1 H1 ⟨_, s1, O1, t1, sat1, h1⟩ vs rv => by
    obtain ⟨ys, e, h2⟩ := h1.some_
    unfold pdtup at e
    split at e
    · rename_i c
      cases e
      refine ⟨by rw [rv.len, sizeLine_eq]; exact c, fun p hp => ?_⟩
      have k := Same.upd_new (o := HO.tup vs) (t1.fi hp)
      exact h2.laid (o := .tup vs) t1 sat1 hp (.ref p) (.tup (SqT.of upd_same) (RDs.up k (rds_all rv)))
    · cases e⟩
/-- {k: v}, one pair -/
def keyD : D → Option Key
  | .int i => some (.inl i)
  | .str x => some (.inr x)
  | _ => none
theorem px_ddct1 {a b : Expr} {ma mb : R S D} (ha : PX X E Γ a ma) (hb : PX X E Γ b mb) : PX X E Γ (.Dict [some a] [b] pos) (sb ma fun x => sb mb fun y => so ((keyD x).map fun _ => D.dct [(x, y)])) :=
  L2.PE.mono (pe_disp (pps_cons ha hb pps_nil) rfl rfl (fun z => by cases z) (by show 1 ≤ 15; decide)) fun σ H Q ⟨s, I, O, t, sat, h⟩ p hp => by
    have t0 := t.other (o := HO.dK []) (t.fi hp) (t.fo hp)
    have g0 := (Go.refl I O H).other (o := HO.dK []) hp
    have keepD : ∀ {Ib Ob Hb : Hp}, Go I O (upd H p (.dK [])) Ib Ob Hb → Hb p = some (.dK []) ∧ Ib p = none ∧ Ob p = none := by
      intro Ib Ob Hb g
      refine ⟨g.keep p _ upd_same (t.fo hp), ?_, ?_⟩
      · cases z : Ib p with
        | none => rfl
        | some u =>
          rcases g.ni p (nn z) with y | y | y
          · exact absurd (t.fi hp) y
          · rw [upd_same] at y; cases y
          · exact absurd (t.fo hp) y
      · cases z : Ob p with
        | none => rfl
        | some u =>
          rcases g.no p (nn z) with y | y
          · exact absurd (t.fo hp) y
          · rw [upd_same] at y; cases y
    unfold sb at h
    refine ⟨s, I, O, t0, sat, ?_⟩
    cases ea : ma s with
    | error z =>
      rw [ea] at h
      cases z with
      | stuck => exact h
      | exc c fs => exact fun d I' O' H' t' g' x => h d I' O' H' t' (g0.trans g') x
    | ok pa =>
      obtain ⟨x, s1⟩ := pa
      rw [ea] at h
      intro I1 O1 H1 t1 g1 sat1 v rv
      refine ⟨s1, I1, O1, t1, sat1, ?_⟩
      dsimp only at h
      cases eb : mb s1 with
      | error z =>
        rw [eb] at h
        cases z with
        | stuck => exact h
        | exc c fs => exact fun d I' O' H' t' g' x => h d I' O' H' t' ((g0.trans g1).trans g') x
      | ok pb =>
        obtain ⟨y, s2⟩ := pb
        rw [eb] at h
        intro I2 O2 H2 t2 g2 sat2 w rw
        obtain ⟨k1, k2, k3⟩ := keepD (g1.trans g2)
        obtain ⟨d, e, q⟩ := Post.some_ h
        cases ek : keyD x with
        | none => rw [ek] at e; cases e
        | some kk =>
          rw [ek] at e
          cases e
          have rv2 : RD X.K I2 v x := RD.up g2.ext rv
          have gg : Go I O H (upd I2 p (.dK [(kk, w)])) O2 (upd H2 p (.dK [(kk, w)])) := by
            have g3 := ((g0.trans g1).trans g2).other (o := HO.dK [(kk, w)]) hp
            refine ⟨g3.keep, g3.ext.trans (Same.upd_new k2), fun b e => ?_, g3.no⟩
            by_cases hb : b = p
            · subst hb; exact .inr (.inl hp)
            · rw [upd_ne hb] at e; exact g3.ni b e
          have t3 : St3 (upd I2 p (.dK [(kk, w)])) O2 (upd H2 p (.dK [(kk, w)])) := by
            refine ⟨fun b u e => ?_, fun b u e => ?_, fun b => ?_⟩
            · by_cases hb : b = p
              · subst hb; rw [upd_same] at e ⊢; exact e
              · rw [upd_ne hb] at e ⊢; exact t2.si b u e
            · rw [upd_ne (ne_of_none e k3)]; exact t2.so b u e
            · by_cases hb : b = p
              · subst hb; exact .inr k3
              · rw [upd_ne hb]; exact t2.dj b
          have ku := Same.upd_new (o := HO.dK [(kk, w)]) k2
          refine ⟨k1, [(kk, w)], ?_, (by show 1 ≤ 15; decide), q _ O2 _ t3 gg (sat2.up ku) (.ref p) ?_⟩
          · cases rv2 <;> cases ek <;> rfl
          · cases rv2 <;> cases ek
            · exact .dct upd_same (.int (RD.up ku rw) .nil)
            · exact .dct upd_same (.str (RD.up ku rw) .nil)
/-! ### isinstance with a built-in type -/
def tyD : D → Option String
  | .non => some "NoneType" | .bl _ => some "bool" | .int _ => some "int" | .str _ => some "str"
  | .tup _ => some "tuple" | .lst _ => some "list" | .dct _ => some "dict" | .obj _ _ => none
def isTy (T : String) (d : D) : Option Bool := (tyD d).bind fun t => kitB t T
theorem tyX_of {K : Fg} {I H : Hp} {v : V} {d : D} {t : String} (e : Same I H) (h : RD K I v d) (ht : tyD d = some t) : TyX K H v (.type t) := by
  cases h with
  | non => cases ht; exact .base .non
  | bl b => cases ht; exact .base (.bl b)
  | int i => cases ht; exact .base (.int i)
  | str x => cases ht; exact .base (.str x)
  | tup q r =>
    cases ht
    rcases sqT_up e q with (q | ⟨o, q⟩) | ⟨o, its, n, q1, q2, _⟩
    · exact .base (.tup q)
    · exact .fTuple q
    · exact .kTuple q1 q2
  | lst q r =>
    cases ht
    rcases e.seq q with (q | ⟨o, q⟩) | ⟨o, its, n, q1, q2, _⟩
    · exact .base (.lst q)
    · exact .base (.frz q)
    · exact .kList q1 q2
  | dct q r => cases ht; exact .base (.dK (e _ _ q))
  | obj q => cases ht
theorem px_isi {a : Expr} {T : String} {x : Str} {p p1 : Pos} {m : R S D} (hm : X.mg "isinstance" = none) (hT : X.mg x = none) (ha : PX X E Γ a m) (hv : bootBuiltins x = some (.type T) := by decide +kernel)
    (hg : Gl X "isinstance" := by rfl) (hgT : Gl X x := by rfl) (hn : x ≠ "__name__" := by decide) (hd : (x == ("__debug__" : Str)) = false := by decide)
    (h1 : starEach [a, .Name x p1] X.env = (false, eval a X.env) :: starEach [.Name x p1] X.env := by rfl) (h3 : starEach [.Name x p1] X.env = (false, eval (.Name x p1) X.env) :: starEach [] X.env := by rfl) (h2 : (backTo pos (starEach [.Name x p1] X.env)).any (·.1) = false := by rfl) :
    PX X E Γ (.Call (.Name "isinstance" p) [a, .Name x p1] [] pos) (sb m fun d => so (isTy T d)) :=
  L2.PE.mono (pe_callB call_isi hg hm (by decide +kernel) (pa_cons ha (pa_cons (pe_bltn (v := .ty T) hgT hT hv rfl hn hd) pa_nil h3) h1) (by decide) (by decide) h1 h2) fun σ H Q ⟨s, I, O, t, sat, h⟩ => ⟨s, I, O, t, sat, h.bind.impT fun d I1 O2 H1 t2 _ ⟨_, s1, O1, t1, sat1, h1⟩ v rv => by
    obtain ⟨b, e, q⟩ := h1.some_
    unfold isTy at e
    cases et : tyD d with
    | none => rw [et] at e; cases e
    | some t =>
      rw [et] at e
      exact ⟨v, .ty T, .type t, .type T, b, rfl, .ty T, tyX_of t1.si rv et, kit_ty e, q.at_ t1 sat1 _ rfl⟩⟩
end
end Mi

set_option Elab.async false
set_option linter.all false
set_option maxRecDepth 100000
set_option maxHeartbeats 4000000
/-! the laws' pool of draws: [cells, n], handed from def to def and changed by them -/
namespace Mi
open PySem PySem.Spec PyProof.Rows L2
structure Pool where
  cells : List Int
  n : Int
def PoolAt (O : Hp) (pa : Addr) (s : Pool) : Prop := ∃ c, O pa = some (.lst [.ref c, .int s.n]) ∧ O c = some (.lst (s.cells.map V.int))
theorem PoolAt.more {O O' : Hp} {pa : Addr} {s : Pool} (e : Same O O') : PoolAt O pa s → PoolAt O' pa s := fun ⟨c, h1, h2⟩ => ⟨c, e _ _ h1, e _ _ h2⟩
def sP (pa : Addr) (s : Pool) : Slot := .ow (fun _ O v => v = .ref pa ∧ PoolAt O pa s) fun _ _ _ _ _ h => h
def PostP {β : Type} [Enc β] (K : Fg) (E : XK) (pa : Addr) (I O H : Hp) (Q : VK) : Except Er (β × Pool) → Prop
  | .ok (b, s') => ∀ v I' O' H', St3 I' O' H' → Go I O H I' O' H' → PoolAt O' pa s' → Enc.rep K I' v b → Q v H'
  | .error .stuck => False
  | .error (.exc c fs) => ∀ d I' O' H', St3 I' O' H' → Go I O H I' O' H' → XD K I' H' d fs → E (.ref (He.ga K c)) (some d) H'
def spP {A β : Type} [Args A] [Enc β] (K : Fg) (f : A → R Pool β) : Sp := fun vs H Q E => ∃ a pa s I O ws, vs = .ref pa :: ws ∧ St3 I O H ∧ PoolAt O pa s ∧ Args.rep K I ws a ∧ PostP K E pa I O H Q (f a s)
section
variable {X : Cx} {E : EW} {Γ : Pool → Gam} {pos : Pos}
theorem px_callP {A β : Type} [Args A] [Enc β] (i : Nat) {x y : Str} {j k : Nat} {pa : Addr} {ps : List Str} {f : A → R Pool β} {es : List Expr} {p p1 : Pos} {ma : R Pool A} (F : Def X.prog X.w X.K X.mg X.base x j ps (spP X.K f)) (C : Ctx X E k) (ha : PAx X E Γ es ma)
    (hg : ∀ s, (Γ s).at i = sP pa s := by exact fun _ => rfl) (hp : ∀ s s', (Γ s).put i (sP pa s') = Γ s' := by exact fun _ _ => rfl) (hk : j ≤ k := by decide)
    (hN : X.N[i]? = some y := by rfl) (hv : Vis X.env.scope y := by first | exact Or.inl rfl | exact Or.inr (Or.inl rfl) | exact Or.inr (Or.inr rfl)) (hd : (y == ("__debug__" : Str)) = false := by decide) (hcd : (y == ("__classdict__" : Str)) = false := by decide)
    (hgl : Gl X x := by rfl) (hdb : (x == ("__debug__" : Str)) = false := by decide) (he : starEach (.Name y p1 :: es) X.env = (false, eval (.Name y p1) X.env) :: starEach es X.env := by rfl) (hpl : (backTo pos (starEach es X.env)).any (·.1) = false := by rfl) :
    PX X E Γ (.Call (.Name x p) (.Name y p1 :: es) [] pos) (sb ma f) := by
  obtain ⟨g, fd, h1, h2, h3, h4⟩ := F.ex
  refine L2.PE.mono (pe_callS h4 (C.room.mono hk) hgl h1 h2 h3 C.pas (pa_cons (pe_var hN hv hd hcd) ha he) hdb he hpl) fun σ H Q ⟨s, I, O, t, sat, h⟩ => ?_
  obtain ⟨v0, O1, O2, e1, _, _, _, ⟨rfl, _⟩, _⟩ := sat.at_ow (hg s)
  refine ⟨_, e1, s, I, O, t, sat, h.bind.imp fun a I1 H1 ⟨_, s1, O1, t1, sat1, q1⟩ ws rw => ?_⟩
  obtain ⟨v1, P1, P2, e2, d12, hP1, hP2, ⟨rfl, pool⟩, sat2⟩ := sat1.at_ow (hg s1)
  refine ⟨a, pa, s1, I1, P1, ws, rfl, t1.drop hP1, pool, rw, ?_⟩
  -- what the call leaves
  have key : ∀ {I' O' H' : Hp} {s' : Pool}, St3 I' O' H' → Go I1 P1 H1 I' O' H' → ∃ O'', Same O' O'' ∧ St3 I' O'' H' ∧ Go I1 O1 H1 I' O'' H' ∧ (PoolAt O' pa s' → Sat (Γ s') σ I' O'') := by
    intro I' O' H' s' t' g'
    have dd : ∀ b, O' b = none ∨ P2 b = none := fun b => by
      cases q : O' b with
      | none => exact .inl rfl
      | some o =>
        refine .inr ?_
        rcases g'.no b (nn q) with z | z
        · rcases d12 b with y | y
          · exact absurd y z
          · exact y
        · exact (hP2.trans t1.so).free z
    refine ⟨uni O' P2, uni_l, ⟨t'.si, fun b o e => ?_, fun b => ?_⟩, ⟨fun b o e z => g'.keep b o e (hP1.free z), g'.ext, fun b e => ?_, fun b e => ?_⟩, fun pl => ?_⟩
    · unfold uni at e
      cases q : O' b with
      | none =>
        rw [q] at e
        have e : P2 b = some o := e
        refine g'.keep b o (t1.so b o (hP2 b o e)) ?_
        rcases d12 b with y | y
        · exact y
        · rw [e] at y; cases y
      | some u => rw [q] at e; exact t'.so b o (by rw [q]; exact e)
    · rcases t'.dj b with y | y
      · exact .inl y
      · cases q : P2 b with
        | none => exact .inr (by unfold uni; rw [y]; exact q)
        | some u =>
          refine .inl ?_
          cases r : I' b with
          | none => rfl
          | some w =>
            rcases g'.ni b (nn r) with z | z | z
            · rcases t1.dj b with x | x
              · exact absurd x z
              · rw [hP2 b u q] at x; cases x
            · rw [t1.so b u (hP2 b u q)] at z; cases z
            · rcases d12 b with x | x
              · exact absurd x z
              · rw [q] at x; cases x
    · rcases g'.ni b e with z | z | z
      · exact .inl z
      · exact .inr (.inl z)
      · obtain ⟨u, q⟩ := sn z
        exact .inr (.inr (nn (hP1 b u q)))
    · rcases uni_of e with z | z
      · rcases g'.no b z with y | y
        · obtain ⟨u, q⟩ := sn y
          exact .inl (nn (hP1 b u q))
        · exact .inr y
      · obtain ⟨u, q⟩ := sn z
        exact .inl (nn (hP2 b u q))
    · have h5 := Sat.back (R := fun _ O v => v = .ref pa ∧ PoolAt O pa s') (u := fun _ _ _ _ _ h => h) (g := Γ s1) (i := i) ⟨rfl, pl⟩ dd e2 (sat2.up g'.ext)
      rw [← hp s1 s']
      exact h5
  have q1 : Post X.K (E σ) Γ σ I1 O1 H1 (fun x I' H' => ∀ (v : V), Enc.rep X.K I' v x → Q v H') (f a s1) := q1
  cases ef : f a s1 with
  | ok p =>
    obtain ⟨b, s'⟩ := p
    rw [ef] at q1
    intro v I' O' H' t' g' pl r
    obtain ⟨O'', _, t2, g2, st⟩ := key (s' := s') t' g'
    exact q1 I' O'' H' t2 g2 (st pl) v r
  | error z =>
    rw [ef] at q1
    cases z with
    | stuck => exact q1
    | exc c fs =>
      intro d I' O' H' t' g' x
      obtain ⟨O'', _, t2, g2, _⟩ := key (s' := s1) t' g'
      exact q1 d I' O'' H' t2 g2 x
end
def resP (K : Fg) (pa : Addr) {β : Type} [Enc β] : Pool → Hp → Hp → V → β → Prop := fun s I O v b => Enc.rep K I v b ∧ PoolAt O pa s
section
variable {X : Cx} {E : EW} {ρ τ β : Type} {Γ : Pool → Gam} {Λ : τ → Pool → Gam} {Δ : ρ → Pool → Gam} {pos : Pos} {rest : List Stmt}
theorem pb_retP {e : Expr} [Enc β] {pa : Addr} {m : R Pool β} (he : PX X E Γ e m) (hg : ∀ s, (Γ s).at 0 = sP pa s := by exact fun _ => rfl) : PB X E Λ (resP X.K pa) Γ (.Return (some e) pos :: rest) Δ (sb m fun x => sr (.rt x)) :=
  pb_ret (fun x => x) he fun s σ I O v x sat r => by
    obtain ⟨_, O1, O2, _, _, h3, _, ⟨_, pl⟩, _⟩ := sat.at_ow (hg s)
    exact ⟨r, pl.more h3⟩
end
def runP {β : Type} (m : R Pool (Out Unit Empty β)) : R Pool β := fun s => match m s with
  | .ok (.rt b, s') => .ok (b, s')
  | .ok _ => .error .stuck
  | .error e => .error e
section
variable {P : Program} {w : World} {K : Fg} {mg : Str → Option Value} {base : Heap} {x qual : Str} {params : Arguments} {body : List Stmt} {scope : Scope} {dvs : List V} {kws : List (Str × V)} {f : Addr} {fd : FuncData}
theorem fn_okP {A' β : Type} [ArgG A'] [Enc β] {N ps : List Str} {k : Nat} {m : A' → R Pool (Out Unit Empty β)} (F : FunD K x qual params body scope dvs kws f fd) (S : FnScope N ps scope) (hn : ps.length = ArgG.n A' + 1)
    (hb : ∀ (cdv : Value) (A : Around) (outer : List Env) (s : Shared) (H : Hp) (E : XK), Ctx (cxOf (L2.CX P w) P w K mg base N qual scope f cdv A outer s H E) (kE E) k → ∀ (pa : Addr) (a : A'), PB (cxOf (L2.CX P w) P w K mg base N qual scope f cdv A outer s H E) (kE E) Λ0 (resP K pa) (fun st => sP pa st :: (ArgG.gam K a ++ List.replicate (N.length - ps.length) .un)) body (Δ0 N.length) (m a)) :
    FnOk P w K mg base (L2.CX P w) (k + 1) f fd ps (spP K fun a => runP (m a)) := by
  refine F.ok S (fun vs H Q E h => ?_) fun cdv A outer s H vs Q E hr h => ?_
  · obtain ⟨a, pa, st, I, O, ws, rfl, _, _, r, _⟩ := h
    rw [hn, List.length_cons, ArgG.ln (A := A') r]
  · obtain ⟨a, pa, st, I, O, ws, rfl, t, pl, r, q⟩ := h
    refine ⟨_, hb cdv A outer s H E (ctx_of hr S.nd) pa a, st, I, O, t, ?_, ?_⟩
    · unfold L2.start
      rw [List.length_cons, ArgG.ln (A := A') r, ← hn]
      exact ⟨_, O, fun _ => none, rfl, fun _ => .inr rfl, Same.refl O, fun _ _ z => (nomatch z), ⟨rfl, pl⟩, ArgG.sat (A := A') _ r⟩
    · have q : PostP K E pa I O H Q (runP (m a) st) := q
      unfold runP at q
      cases em : m a st with
      | error z =>
        rw [em] at q
        cases z with
        | stuck => exact q
        | exc c fs => exact q
      | ok p =>
        obtain ⟨o, u⟩ := p
        rw [em] at q
        cases o with
        | nx r => exact q.elim
        | bk e => exact nomatch e
        | ct e => exact nomatch e
        | rt b => exact fun v I' O' H' t' g' x => q v I' O' H' t' g' x.2 x.1
end
/-! ### the making of the pool -/
def poolOf (ns : List Int) : Pool := ⟨if (cutL ns none (some 63)).length = 0 then [0] else cutL ns none (some 63), 0⟩
def spPool (K : Fg) : Sp := fun vs H Q _ => ∃ ns I v, vs = [v] ∧ Same I H ∧ Enc.rep K I v (Ro.mk ns : Ro Int) ∧ ∀ pa I' O' H', St3 I' O' H' → Go I noO H I' O' H' → PoolAt O' pa (poolOf ns) → Q (.ref pa) H'
def ofP {β : Type} (m : R Pool (Out Unit Empty β)) (st : Pool) : R Unit (Out Unit Empty β) := fun _ => match m st with
  | .ok (o, _) => .ok (o, ())
  | .error e => .error e
section
variable {X : Cx} {E : EW} {β : Type} {Γ : Unit → Gam} {pos pos' : Pos} {rest : List Stmt} {k : Nat}
/-- pool = _law_pool(script) -/
theorem pb_pool {E : XK} [Enc β] (i l n : Nat) {x y f : Str} {j : Nat} {ps : List Str} {p p1 pc : Pos} {ns : List Int} {m : R Pool (Out Unit Empty β)} (F : Def X.prog X.w X.K X.mg X.base f j ps (spPool X.K)) (C : Ctx X (kE E) k)
    (hs : (Γ ()).at l = sI X.K (Ro.mk ns : Ro Int)) (hk : ∀ pa, PB X (kE E) Λ0 (resI X.K) (fun s => (Γ ()).put i (sP pa s)) rest (Δ0 n) m) (hj : j ≤ k := by decide)
    (hi : X.N[i]? = some x := by rfl) (hx : Loc X.env.scope x := by first | exact Or.inl rfl | exact Or.inr rfl) (hf : X.fn x = true ∨ X.env.scope.names.lookup x = some .local := by first | exact .inl rfl | exact .inr rfl)
    (hN : X.N[l]? = some y := by rfl) (hv : Vis X.env.scope y := by first | exact Or.inl rfl | exact Or.inr (Or.inl rfl) | exact Or.inr (Or.inr rfl)) (hd : (y == ("__debug__" : Str)) = false := by decide) (hcd : (y == ("__classdict__" : Str)) = false := by decide)
    (hg : Gl X f := by rfl) (hdb : (f == ("__debug__" : Str)) = false := by decide) (he : starEach [.Name y p1] X.env = (false, eval (.Name y p1) X.env) :: starEach [] X.env := by rfl) (hpl : (backTo pc (starEach [] X.env)).any (·.1) = false := by rfl)
    (hsw : swapsWith (.Call (.Name f p) [.Name y p1] [] pc) (some (.Name x pos')) pos.line X.env = pure false := by rfl) :
    PB X (kE E) Λ0 (resI X.K) Γ (.Assign [.Name x pos'] (.Call (.Name f p) [.Name y p1] [] pc) pos :: rest) (Δ0 n) (ofP m (poolOf ns)) := by
  obtain ⟨g, fd, h1, h2, h3, h4⟩ := F.ex
  refine (pss_cons (ps_set C.nd hi hx (pe_callS h4 (C.room.mono hj) hg h1 h2 h3 C.pas (pa_cons (pe_var hN hv hd hcd) pa_nil he) hdb he hpl) hsw hf) (L2.PSs.ex hk)).mono fun D σ H ⟨_, I, O, t, sat, q⟩ => ?_
  obtain ⟨v, e1, rv⟩ := sat.at_im hs
  refine ⟨v, e1, ns, I, v, rfl, t.si, rv, fun pa I' O' H' t' g' pl => ?_⟩
  have dd : ∀ b, O' b = none ∨ O b = none := fun b => by
    cases q : O' b with
    | none => exact .inl rfl
    | some o =>
      rcases g'.no b (nn q) with z | z
      · exact absurd rfl z
      · exact .inr (t.so.free z)
  refine ⟨pa, poolOf ns, I', uni O' O, ⟨t'.si, fun b o e => ?_, fun b => ?_⟩, Sat.put_ow (R := fun _ O v => v = .ref pa ∧ PoolAt O pa (poolOf ns)) ⟨rfl, pl⟩ dd (sat.up g'.ext), ?_⟩
  · unfold uni at e
    cases r : O' b with
    | none => rw [r] at e; exact g'.keep b o (t.so b o e) rfl
    | some u => rw [r] at e; exact t'.so b o (by rw [r]; exact e)
  · rcases t'.dj b with y | y
    · exact .inl y
    · cases r : O b with
      | none => exact .inr (by unfold uni; rw [y]; exact r)
      | some u =>
        refine .inl ?_
        cases z : I' b with
        | none => rfl
        | some w =>
          rcases g'.ni b (nn z) with x | x | x
          · rcases t.dj b with y2 | y2
            · exact absurd y2 x
            · rw [r] at y2; cases y2
          · rw [t.so b u r] at x; cases x
          · exact absurd rfl x
  · have gg : Go I O H I' (uni O' O) H' := ⟨fun b o e _ => g'.keep b o e rfl, g'.ext, fun b e => (g'.ni b e).imp (fun z => z) fun z => z.imp (fun z => z) fun z => absurd rfl z, fun b e => by
      rcases uni_of e with z | z
      · rcases g'.no b z with y | y
        · exact absurd rfl y
        · exact .inr y
      · exact .inl z⟩
    unfold ofP at q
    cases em : m (poolOf ns) with
    | error z =>
      rw [em] at q
      cases z with
      | stuck => exact q
      | exc c fs => exact fun d I1 O1 H1 t1 g1 x => q d I1 O1 H1 t1 (gg.trans g1) x
    | ok p =>
      obtain ⟨o, st⟩ := p
      rw [em] at q
      cases o with
      | nx r => exact fun σ1 I1 O1 H1 t1 g1 s1 => q σ1 I1 O1 H1 t1 (gg.trans g1) s1
      | bk e => exact nomatch e
      | ct e => exact nomatch e
      | rt b => exact fun v I1 O1 H1 t1 g1 x => q v I1 O1 H1 t1 (gg.trans g1) x
end
end Mi

set_option Elab.async false
set_option linter.all false
set_option maxRecDepth 100000
set_option maxHeartbeats 4000000
namespace Mi
open PySem PySem.Spec PyProof.Rows L2
theorem int_vals : ∀ {vs : List V} {xs : List Int} {K : Fg} {I : Hp}, All2 (Enc.rep K I) vs xs → vs = xs.map V.int
  | [], [], _, _, _ => rfl
  | v :: vs, x :: xs, K, I, q => by
    have e : v = .int x := q.1
    rw [e, int_vals q.2]; rfl
  | [], _ :: _, _, _, q => q.elim
  | _ :: _, [], _, _, q => q.elim
def resPool {S : Type} : S → Hp → Hp → V → Pool → Prop := fun _ _ O v st => ∃ pa, v = .ref pa ∧ PoolAt O pa st
theorem pb_retPool {X : Cx} {E : EW} {S ρ τ : Type} {Γ : S → Gam} {Λ : τ → S → Gam} {Δ : ρ → S → Gam} {pos : Pos} {rest : List Stmt} (i : Nat) {x : Str} {xs : List Int} {p1 p2 p3 : Pos} {j} (hg : ∀ s, (Γ s).at i = sL X.K xs)
    (hN : X.N[i]? = some x := by rfl) (hv : Vis X.env.scope x := by first | exact Or.inl rfl | exact Or.inr (Or.inl rfl) | exact Or.inr (Or.inr rfl)) (hd : (x == ("__debug__" : Str)) = false := by decide) (hcd : (x == ("__classdict__" : Str)) = false := by decide)
    (h1 : starEach [.Name x p1, .Constant (.int 0) j p2] X.env = (false, eval (.Name x p1) X.env) :: starEach [.Constant (.int 0) j p2] X.env := by rfl) :
    PB X E Λ resPool Γ (.Return (some (.List [.Name x p1, .Constant (.int 0) j p2] p3)) pos :: rest) Δ (sr (.rt ⟨xs, 0⟩)) :=
  (pss_cons (ps_ret (pe_lst (pa_cons (pe_var hN hv hd hcd) (pa_cons pe_int pa_nil) h1))) pss_never).mono fun D σ H ⟨s, I, O, t, sat, q⟩ => by
    obtain ⟨v, O1, O2, e1, _, h3, _, ⟨l, vs, rfl, h5, h6⟩, _⟩ := sat.at_ow (hg s)
    have hl := h3 _ _ h5
    refine ⟨_, e1, (by show 2 ≤ sizeLine; decide), fun p hp => ?_⟩
    have ne : l ≠ p := fun e => by rw [e, t.fo hp] at hl; cases hl
    exact q (.ref p) I _ _ (t.layO hp) (Go.layO t hp) ⟨p, rfl, l, upd_same, by rw [upd_ne ne, hl, int_vals h6]⟩
theorem lcL_all {S : Type} : ∀ (xs acc : List Int) (s : S), acc.length + xs.length ≤ 1000 → lcL (fun _ => sr true) (fun x => sb (sr x) fun x => sr x) xs acc s = .ok (acc ++ xs, s)
  | [], acc, s, _ => by simp [lcL, sr]
  | x :: xs, acc, s, h => by
    simp only [List.length_cons] at h
    have ih := lcL_all xs (acc ++ [x]) s (by simp only [List.length_append, List.length_cons, List.length_nil]; omega)
    unfold lcL
    simp only [sr, sb, papp]
    rw [if_pos (by omega)]
    have ih : lcL (fun _ => sr true) (fun x => sb (sr x) fun x => sr x) xs (acc ++ [x]) s = .ok (acc ++ [x] ++ xs, s) := ih
    rw [List.append_assoc] at ih
    exact ih
section
variable {P : Program} {w : World} {K : Fg} {mg : Str → Option Value} {base : Heap} {x qual : Str} {params : Arguments} {body : List Stmt} {scope : Scope} {dvs : List V} {kws : List (Str × V)} {f : Addr} {fd : FuncData}
theorem fn_okPool {N ps : List Str} {k : Nat} {m : List Int → R Unit (Out Unit Empty Pool)} (F : FunD K x qual params body scope dvs kws f fd) (S : FnScope N ps scope) (hn : ps.length = 1) (hm : ∀ ns, m ns () = .ok (.rt (poolOf ns), ()))
    (hb : ∀ (cdv : Value) (A : Around) (outer : List Env) (s : Shared) (H : Hp) (E : XK), Ctx (cxOf (L2.CX P w) P w K mg base N qual scope f cdv A outer s H E) (kE E) k → ∀ ns, PB (cxOf (L2.CX P w) P w K mg base N qual scope f cdv A outer s H E) (kE E) Λ0 resPool (fun _ => sI K (Ro.mk ns : Ro Int) :: List.replicate (N.length - ps.length) .un) body (Δ0 N.length) (m ns)) :
    FnOk P w K mg base (L2.CX P w) (k + 1) f fd ps (spPool K) := by
  refine F.ok S (fun vs H Q E h => ?_) fun cdv A outer s H vs Q E hr h => ?_
  · obtain ⟨ns, I, v, rfl, _⟩ := h
    rw [hn] <;> rfl
  · obtain ⟨ns, I, v, rfl, e, r, q⟩ := h
    refine ⟨_, hb cdv A outer s H E (ctx_of hr S.nd) ns, (), I, noO, ⟨e, fun b o z => (nomatch z), fun b => .inr rfl⟩, ?_, ?_⟩
    · unfold L2.start
      rw [hn]
      exact ⟨⟨v, rfl, r⟩, sat_rep _ _ _⟩
    · rw [hm ns]
      rintro v I' O' H' t g ⟨pa, rfl, pl⟩
      exact q pa I' O' H' t g pl
end
/-! ### one draw -/
def mixN (cell n : Int) : Int :=
  let a := (cell + 7919 * n + 1) * 48271 % 2147483647
  let b := a * (a / 1009 + 69621) % 2147483647
  let c := b * (b / 2003 + 40692) % 2147483399
  c / 16
def pdraw (size : Int) : R Pool Int := fun st =>
  if 0 < st.cells.length ∧ 0 < size ∧ size.natAbs.log2 < 9000 then
    match st.cells[(st.n % st.cells.length).toNat]? with
    | some cell => if 1000000000000000000 ≤ cell then .ok (cell % size, ⟨st.cells.set (st.n % st.cells.length).toNat (cell / size), st.n + 1⟩) else .ok (mixN cell (st.n + 1) % size, ⟨st.cells, st.n + 1⟩)
    | none => .error .stuck
  else .error .stuck
def GoodPool (s : Pool) : Prop := 0 < s.cells.length
theorem pdraw_ok {size : Int} {s : Pool} (h : GoodPool s) (h0 : 0 < size) (h1 : size.natAbs.log2 < 9000) : ∃ r s', pdraw size s = .ok (r, s') ∧ GoodPool s' ∧ 0 ≤ r ∧ r < size := by
  have hl : (0 : Int) < s.cells.length := by have := h; unfold GoodPool at this; omega
  have a1 := Int.emod_nonneg s.n (by omega : (s.cells.length : Int) ≠ 0)
  have a2 := Int.emod_lt_of_pos s.n hl
  have hi : (s.n % s.cells.length).toNat < s.cells.length := by omega
  unfold pdraw
  rw [if_pos ⟨h, h0, h1⟩, List.getElem?_eq_getElem hi]
  dsimp only
  split
  · exact ⟨_, _, rfl, by unfold GoodPool at h ⊢; simpa using h, Int.emod_nonneg _ (by omega), Int.emod_lt_of_pos _ h0⟩
  · exact ⟨_, _, rfl, h, Int.emod_nonneg _ (by omega), Int.emod_lt_of_pos _ h0⟩
theorem get_list {X : Cx} : PGet X (fun x y H Q => ∃ p xs i v, x = .ref p ∧ y = .int (i : Nat) ∧ H p = some (.lst xs) ∧ i < 1000 ∧ xs[i]? = some v ∧ Q v H) := by
  intro pins s σ H o i ov iv Q I r1 r2 h
  obtain ⟨p, xs, k, v, rfl, rfl, hp, hk, hx, q⟩ := h
  cases r1
  obtain ⟨t, rfl⟩ := r2
  obtain ⟨its, r, pl, _⟩ := I.list (SqL.of hp)
  obtain ⟨u, hu, ru⟩ := r.get hx
  exact wpAny_getItem_list pl.isList (by omega) (by omega) (by simpa using hu) ⟨v, H, I, ru, q⟩
end Mi

set_option Elab.async false
set_option linter.all false
set_option maxRecDepth 100000
set_option maxHeartbeats 4000000
namespace Mi
open PySem PySem.Spec PyProof.Rows L2
/-! ### in a tuple of flat items -/
class Fl (α : Type) [DecidableEq α] extends Enc α where
  fl : ∀ {K : Fg} {I : Hp} {v : V} {x : α}, rep K I v x → flatV v = true
  eq : ∀ {K : Fg} {I J : Hp} {v w : V} {x y : α}, rep K I v x → rep K J w y → eqV v w = decide (x = y)
instance : Fl Int := ⟨fun {K I v x} h => by have e : v = .int x := h; subst e; rfl, fun {K I J v w x y} h h' => by
  have e : v = .int x := h
  have e' : w = .int y := h'
  subst e e'
  show (x == y) = decide (x = y)
  rfl⟩
instance : Fl Str := ⟨fun {K I v x} h => by have e : v = .str x := h; subst e; rfl, fun {K I J v w x y} h h' => by
  have e : v = .str x := h
  have e' : w = .str y := h'
  subst e e'
  show (x == y) = decide (x = y)
  by_cases z : x = y
  · subst z; simp
  · simp [z]⟩
theorem inV_mem {α : Type} [DecidableEq α] [Fl α] {K : Fg} {I J : Hp} {v : V} {x : α} (rv : Enc.rep K I v x) : ∀ {vs : List V} {xs : List α}, All2 (Enc.rep K J) vs xs → vs.all flatV = true ∧ inV v vs = decide (x ∈ xs)
  | [], [], _ => ⟨rfl, by simp [inV]⟩
  | w :: vs, y :: ys, q => by
    obtain ⟨h1, h2⟩ := inV_mem rv q.2
    unfold inV at h2 ⊢
    rw [List.all_cons, List.any_cons, h1, h2, Fl.fl q.1, Fl.eq q.1 rv]
    refine ⟨rfl, ?_⟩
    by_cases e : x = y
    · simp [e]
    · have e' : ¬ y = x := fun z => e z.symm
      simp [e, e']
  | [], _ :: _, q => q.elim
  | _ :: _, [], q => q.elim
section
variable {X : Cx} {E : EW} {S : Type} {Γ : S → Gam} {pos : Pos}
theorem px_inT {α : Type} [DecidableEq α] [Fl α] {a b : Expr} {ma : R S α} {mb : R S (Tu α)} (ha : PX X E Γ a ma) (hb : PX X E Γ b mb) (hm : behindInMarks .In b = false := by rfl) : CB X E Γ (.Compare a [.In] [b] pos) (sb ma fun x => sb mb fun y => sr (decide (x ∈ y.l))) :=
  px_cmp op_in_seq ha hb hm fun x y v w s σ I O H Q rv rw t sat h => by
    obtain ⟨p, vs, rfl, q, r⟩ := rw
    obtain ⟨h1, h2⟩ := inV_mem rv r
    exact ⟨p, vs, rfl, .inr (sqT_up t.si q), Fl.fl rv, h1, by rw [h2]; exact h.at_ t sat _ rfl⟩
theorem px_notInT {α : Type} [DecidableEq α] [Fl α] {a b : Expr} {ma : R S α} {mb : R S (Tu α)} (ha : PX X E Γ a ma) (hb : PX X E Γ b mb) (hm : behindInMarks .NotIn b = false := by rfl) : CB X E Γ (.Compare a [.NotIn] [b] pos) (sb ma fun x => sb mb fun y => sr (!decide (x ∈ y.l))) :=
  px_cmp op_notIn_seq ha hb hm fun x y v w s σ I O H Q rv rw t sat h => by
    obtain ⟨p, vs, rfl, q, r⟩ := rw
    obtain ⟨h1, h2⟩ := inV_mem rv r
    exact ⟨p, vs, rfl, .inr (sqT_up t.si q), Fl.fl rv, h1, by rw [h2]; exact h.at_ t sat _ rfl⟩
/-! ### a value that is surely not None -/
class Nn (α : Type) extends Enc α where
  nn : ∀ {K : Fg} {I : Hp} {v : V} {x : α}, rep K I v x → v ≠ .non
instance : Nn Int := ⟨fun {K I v x} h => by have e : v = .int x := h; subst e; exact fun z => by cases z⟩
instance : Nn Str := ⟨fun {K I v x} h => by have e : v = .str x := h; subst e; exact fun z => by cases z⟩
instance : Nn Bool := ⟨fun {K I v x} h => by have e : v = .bl x := h; subst e; exact fun z => by cases z⟩
instance {α β : Type} [Enc α] [Enc β] : Nn (α × β) := ⟨fun {K I v x} h => by obtain ⟨_, _, _, rfl, _⟩ := h; exact fun z => by cases z⟩
instance {α β γ : Type} [Enc α] [Enc β] [Enc γ] : Nn (T3 α β γ) := ⟨fun {K I v x} h => by obtain ⟨_, _, _, _, rfl, _⟩ := h; exact fun z => by cases z⟩
instance {α : Type} [Enc α] : Nn (List α) := ⟨fun {K I v x} h => by obtain ⟨_, _, rfl, _⟩ := h; exact fun z => by cases z⟩
instance {α : Type} [Enc α] : Nn (Tu α) := ⟨fun {K I v x} h => by obtain ⟨_, _, rfl, _⟩ := h; exact fun z => by cases z⟩
theorem px_some {α : Type} [Nn α] {e : Expr} {m : R S α} (h : PX X E Γ e m) : PX X E Γ e (sb m fun z => sr (some z)) :=
  L2.PE.mono h fun σ H Q ⟨s, I, O, t, sat, h⟩ => ⟨s, I, O, t, sat, h.bind.imp fun x I1 H1 ⟨_, s1, O1, t1, sat1, h1⟩ v rv => h1.at_ t1 sat1 v ⟨Nn.nn rv, rv⟩⟩
instance {α : Type} [ToD α] : ToD (Tu α) := ⟨fun x => .tup (x.l.map toD), fun {K I v x} h => by
  obtain ⟨a, vs, rfl, q, r⟩ := h
  exact .tup q (rds_of r)⟩
theorem px_intB {p : Pos} {e : Expr} {m : R S Bool} (hm : X.mg "int" = none) (he : PX X E Γ e m) (hg : Gl X "int" := by rfl) (h1 : starEach [e] X.env = (false, eval e X.env) :: starEach [] X.env := by rfl) (h2 : (backTo pos (starEach [] X.env)).any (·.1) = false := by rfl) :
    PX X E Γ (.Call (.Name "int" p) [e] [] pos) (sb m fun x => sr (if x = true then (1 : Int) else 0)) :=
  px_t1 call_int1 hm (by decide +kernel) he (fun y v s σ I O H Q rv t sat h => .inr ⟨y, by rw [show v = V.bl y from rv], h.at_ t sat _ (by cases y <;> rfl)⟩) hg (by decide) (by decide) h1 h2
/-- list(name), the list one's own: a copy -/
theorem px_olist (i : Nat) {x : Str} {p p1 : Pos} {α : Type} [Enc α] {xs : List α} (hm : X.mg "list" = none) (hg : ∀ s, (Γ s).at i = sL X.K xs) (hgl : Gl X "list" := by rfl)
    (hN : X.N[i]? = some x := by rfl) (hv : Vis X.env.scope x := by first | exact Or.inl rfl | exact Or.inr (Or.inl rfl) | exact Or.inr (Or.inr rfl)) (hd : (x == ("__debug__" : Str)) = false := by decide) (hcd : (x == ("__classdict__" : Str)) = false := by decide)
    (h1 : starEach [.Name x p1] X.env = (false, eval (.Name x p1) X.env) :: starEach [] X.env := by rfl) (h2 : (backTo pos (starEach [] X.env)).any (·.1) = false := by rfl) :
    PXo X E Γ (.Call (.Name "list" p) [.Name x p1] [] pos) (sr xs) :=
  L2.PE.mono (pe_callTy call_list_of hgl hm (by decide +kernel) (pa_cons (pe_var hN hv hd hcd) pa_nil h1) (by decide) (by decide) h1 h2) fun σ H Q ⟨s, I, O, t, sat, h⟩ => by
    obtain ⟨l, vs, h1, h2, h3, _⟩ := sat.mine (hg s) t
    exact ⟨_, h1, l, vs, rfl, .inl (SqL.of h2), fun p hp => PostO.new (show PostO X.K (E σ) Γ σ I O H Q (sr xs s) from h) t sat hp h3⟩
/-- list(e): a copy, one's own -/
theorem po_list {p : Pos} {α : Type} [Enc α] {e : Expr} {m : R S (List α)} (hm : X.mg "list" = none) (he : PX X E Γ e m) (hg : Gl X "list" := by rfl) (h1 : starEach [e] X.env = (false, eval e X.env) :: starEach [] X.env := by rfl) (h2 : (backTo pos (starEach [] X.env)).any (·.1) = false := by rfl) :
    PXo X E Γ (.Call (.Name "list" p) [e] [] pos) m :=
  L2.PE.mono (pe_callTy call_list_of hg hm (by decide +kernel) (pa_cons he pa_nil h1) (by decide) (by decide) h1 h2) fun σ H Q ⟨s, I, O, t, sat, h⟩ => ⟨s, I, O, t, sat, by
    have h : PostO X.K (E σ) Γ σ I O H Q (sb m sr s) := by
      unfold sb
      cases em : m s with
      | ok p => rw [em] at h; exact h
      | error z => rw [em] at h; exact h
    exact h.bind.imp fun xs I1 H1 ⟨_, s1, O1, t1, sat1, h1⟩ v rv => by
      obtain ⟨l, vs, rfl, q, r⟩ := rv
      exact ⟨l, vs, rfl, .inl (SqL.of (t1.si _ _ q)), fun p hp => PostO.new h1 t1 sat1 hp r⟩⟩
variable {ρ τ β : Type} {Λ : τ → S → Gam} {Res : S → Hp → Hp → V → β → Prop} {Δ : ρ → S → Gam} {pos' : Pos} {rest : List Stmt} {k : Nat}
theorem pb_augAdd {E : XK} (i : Nat) {x : Str} {e : Expr} {n : Int} {m : R S Int} {kk : Int → R S (Out ρ τ β)} (C : Ctx X (kE E) k) (hg : ∀ s, (Γ s).at i = sI X.K n) (he : PX X (kE E) Γ e m) (hk : ∀ a, PB X (kE E) Λ Res (fun s => (Γ s).put i (sI X.K a)) rest Δ (kk a))
    (hi : X.N[i]? = some x := by rfl) (hx : Loc X.env.scope x := by first | exact Or.inl rfl | exact Or.inr rfl) (hf : X.fn x = true ∨ X.env.scope.names.lookup x = some .local := by first | exact .inl rfl | exact .inr rfl) :
    PB X (kE E) Λ Res Γ (.AugAssign (.Name x pos') .Add e pos :: rest) Δ (sb m fun y => sb (sr (n + y)) kk) :=
  (pss_cons (ps_aug C.nd hi hx he ip_add hf) (L2.PSs.ex hk)).mono fun D σ H ⟨s, I, O, t, sat, q⟩ => by
    obtain ⟨v, e1, rv⟩ := sat.at_im (hg s)
    have ev : v = .int n := rv
    subst ev
    exact ⟨_, e1, s, I, O, t, sat, q.bind.imp fun y I1 H1 ⟨_, s1, O1, t1, sat1, h1⟩ w rw => ⟨n, y, rfl, rw, n + y, s1, I1, O1, t1, sat1.put_im rfl, h1⟩⟩
theorem pb_augSub {E : XK} (i : Nat) {x : Str} {e : Expr} {n : Int} {m : R S Int} {kk : Int → R S (Out ρ τ β)} (C : Ctx X (kE E) k) (hg : ∀ s, (Γ s).at i = sI X.K n) (he : PX X (kE E) Γ e m) (hk : ∀ a, PB X (kE E) Λ Res (fun s => (Γ s).put i (sI X.K a)) rest Δ (kk a))
    (hi : X.N[i]? = some x := by rfl) (hx : Loc X.env.scope x := by first | exact Or.inl rfl | exact Or.inr rfl) (hf : X.fn x = true ∨ X.env.scope.names.lookup x = some .local := by first | exact .inl rfl | exact .inr rfl) :
    PB X (kE E) Λ Res Γ (.AugAssign (.Name x pos') .Sub e pos :: rest) Δ (sb m fun y => sb (sr (n - y)) kk) :=
  (pss_cons (ps_aug C.nd hi hx he ip_sub hf) (L2.PSs.ex hk)).mono fun D σ H ⟨s, I, O, t, sat, q⟩ => by
    obtain ⟨v, e1, rv⟩ := sat.at_im (hg s)
    have ev : v = .int n := rv
    subst ev
    exact ⟨_, e1, s, I, O, t, sat, q.bind.imp fun y I1 H1 ⟨_, s1, O1, t1, sat1, h1⟩ w rw => ⟨n, y, rfl, rw, n - y, s1, I1, O1, t1, sat1.put_im rfl, h1⟩⟩
end
end Mi

set_option Elab.async false
set_option linter.all false
set_option maxRecDepth 100000
set_option maxHeartbeats 4000000
namespace Mi
open PySem PySem.Spec PyProof.Rows L2
/-! ### equality where any value may stand -/
mutual
def D.pd : D → Option PyData
  | .non => some .none
  | .bl b => some (.bool b)
  | .int i => some (.int i)
  | .str x => some (.str x)
  | .tup xs => (D.pds xs).map .tuple
  | .lst xs => (D.pds xs).map .list
  | .dct _ => none
  | .obj _ _ => none
def D.pds : List D → Option (List PyData)
  | [] => some []
  | x :: xs => match D.pd x, D.pds xs with
    | some d, some ds => some (d :: ds)
    | _, _ => none
end
mutual
theorem rd_dp {K : Fg} {I : Hp} : ∀ {v : V} {d : D} {p : PyData}, RD K I v d → D.pd d = some p → Dp K I v p
  | _, .non, _, .non, e => by cases e; exact .non
  | _, .bl b, _, .bl _, e => by cases e; exact .bl b
  | _, .int i, _, .int _, e => by cases e; exact .int i
  | _, .str x, _, .str _, e => by cases e; exact .str x
  | _, .tup xs, _, .tup h r, e => by
    cases q : D.pds xs with
    | none => rw [D.pd, q] at e; cases e
    | some ds => rw [D.pd, q] at e; cases e; exact .tup h (rds_dp r q)
  | _, .lst xs, _, .lst h r, e => by
    cases q : D.pds xs with
    | none => rw [D.pd, q] at e; cases e
    | some ds => rw [D.pd, q] at e; cases e; exact .lst h (rds_dp r q)
  | _, .dct _, _, _, e => by rw [D.pd] at e; cases e
  | _, .obj _ _, _, _, e => by rw [D.pd] at e; cases e
theorem rds_dp {K : Fg} {I : Hp} : ∀ {vs : List V} {xs : List D} {ps : List PyData}, RDs K I vs xs → D.pds xs = some ps → DpAll K I vs ps
  | _, [], _, .nil, e => by cases e; exact .nil
  | _, x :: xs, _, .cons r q, e => by
    rw [D.pds] at e
    split at e
    · rename_i d ds e1 e2
      cases e
      exact .cons (rd_dp r e1) (rds_dp q e2)
    · cases e
end
theorem all_rds {K : Fg} {I : Hp} : ∀ {vs : List V} {xs : List D}, RDs K I vs xs → All2 (Enc.rep K I) vs xs
  | _, _, .nil => trivial
  | _, _, .cons r q => ⟨r, all_rds q⟩
def peqD (x y : D) : Option Bool := match x.pd, y.pd with
  | some p, some q => if SeqAt.shaped p = true ∧ SeqAt.shaped q = true then some (PyData.eqv p q) else none
  | _, _ => none
theorem peqD_some {x y : D} {b : Bool} (h : peqD x y = some b) : ∃ p q, x.pd = some p ∧ y.pd = some q ∧ SeqAt.shaped p = true ∧ SeqAt.shaped q = true ∧ b = PyData.eqv p q := by
  unfold peqD at h
  split at h
  · rename_i p q e1 e2
    split at h
    · rename_i c
      cases h
      exact ⟨p, q, e1, e2, c.1, c.2, rfl⟩
    · cases h
  · cases h
section
variable {X : Cx} {E : EW} {S : Type} {Γ : S → Gam} {pos p : Pos} {k : Nat}
theorem px_eqA {a b : Expr} {ma mb : R S D} (C : Ctx X E k) (ha : PX X E Γ a ma) (hb : PX X E Γ b mb) : CB X E Γ (.Compare a [.Eq] [b] pos) (sb ma fun x => sb mb fun y => so (peqD x y)) :=
  px_cmp (op_eqD C.room.units) ha hb (nomark _) fun x y v w s σ I O H Q rv rw t sat h => by
    obtain ⟨z, e, h⟩ := h.some_
    obtain ⟨p, q, e1, e2, h1, h2, rfl⟩ := peqD_some e
    exact ⟨p, q, Dp.up t.si (rd_dp rv e1), Dp.up t.si (rd_dp rw e2), h1, h2, h.at_ t sat _ rfl⟩
theorem px_neA {a b : Expr} {ma mb : R S D} (C : Ctx X E k) (ha : PX X E Γ a ma) (hb : PX X E Γ b mb) : CB X E Γ (.Compare a [.NotEq] [b] pos) (sb ma fun x => sb mb fun y => sb (so (peqD x y)) fun z => sr (!z)) :=
  px_cmp (op_neD C.room.units) ha hb (nomark _) fun x y v w s σ I O H Q rv rw t sat h => by
    cases e : peqD x y with
    | none => rw [e] at h; exact False.elim h
    | some z =>
      rw [e] at h
      obtain ⟨p, q, e1, e2, h1, h2, rfl⟩ := peqD_some e
      exact ⟨p, q, Dp.up t.si (rd_dp rv e1), Dp.up t.si (rd_dp rw e2), h1, h2, Post.at_ (x := !_) h t sat _ rfl⟩
/-- an item of a tuple that is any value -/
def dix (x : D) (i : Int) : Option D := match x with
  | .tup xs => L2.atI xs i
  | _ => none
theorem px_dix {a b : Expr} {ma : R S D} {mb : R S Int} (ha : PX X E Γ a ma) (hb : PX X E Γ b mb) (hs : PlainIx b := by exact fun _ _ => rfl) : PX X E Γ (.Subscript a b pos) (sb ma fun x => sb mb fun i => so (dix x i)) :=
  px_bin (fun p q => pe_ix ix_tup p q hs) ha hb fun x y v w s σ I O H Q rv rw t sat h => by
    obtain ⟨z, e, hq⟩ := h.some_
    have e2 : w = .int y := rw
    subst e2
    cases x with
    | tup xs =>
      have rv : RD X.K I v (.tup xs) := rv
      cases rv with
      | tup q r =>
        obtain ⟨u, h1, h2⟩ := atI_rep (all_rds r) e
        exact ⟨_, _, y, u, rfl, rfl, sqT_up t.si q, h1, hq.at_ t sat u h2⟩
    | _ => cases e
def dlen (x : D) : Option Int := match x with
  | .tup xs => some (xs.length : Int)
  | .lst xs => some (xs.length : Int)
  | _ => none
theorem RDs.len {K : Fg} {I : Hp} : ∀ {vs : List V} {xs : List D}, RDs K I vs xs → vs.length = xs.length
  | _, _, .nil => rfl
  | _, _, .cons _ q => congrArg Nat.succ (RDs.len q)
theorem px_dlen {e : Expr} {m : R S D} (hm : X.mg "len" = none) (he : PX X E Γ e m) (hg : Gl X "len" := by rfl) (h1 : starEach [e] X.env = (false, eval e X.env) :: starEach [] X.env := by rfl) (h2 : (backTo pos (starEach [] X.env)).any (·.1) = false := by rfl) :
    PX X E Γ (.Call (.Name "len" p) [e] [] pos) (sb m fun x => so (dlen x)) :=
  px_b1 call_len_seq hm boot_len he (fun y v s σ I O H Q rv t sat h => by
    obtain ⟨z, e, hq⟩ := h.some_
    cases y with
    | tup xs =>
      cases e
      have rv : RD X.K I v (.tup xs) := rv
      cases rv with
      | tup q r => exact ⟨_, _, rfl, .inr (sqT_up t.si q), hq.at_ t sat _ (by show V.int _ = V.int _; rw [RDs.len r])⟩
    | lst xs =>
      cases e
      have rv : RD X.K I v (.lst xs) := rv
      cases rv with
      | lst q r => exact ⟨_, _, rfl, .inl (t.si.seq q), hq.at_ t sat _ (by show V.int _ = V.int _; rw [RDs.len r])⟩
    | _ => cases e) hg (by decide) (by decide) h1 h2
end
instance {α β : Type} [OfD α] [OfD β] : OfD (α × β) := ⟨fun
    | .tup [x, y] => (match (OfD.ofD x : Option α), (OfD.ofD y : Option β) with
      | some a, some b => some (a, b)
      | _, _ => none)
    | _ => none, fun {K I v d x} h e => by
  split at e
  · rename_i p q
    split at e
    · rename_i a b e1 e2
      cases e
      cases h with
      | tup h r =>
        cases r with
        | cons r1 r => cases r with
          | cons r2 r => cases r with
            | nil => exact ⟨_, _, _, rfl, h, OfD.dr r1 e1, OfD.dr r2 e2⟩
    · cases e
  · cases e⟩
end Mi

set_option Elab.async false
set_option linter.all false
set_option maxRecDepth 100000
set_option maxHeartbeats 4000000
namespace Mi
open PySem
/-! ### the plain logic of mirrors -/
section
variable {S α β γ ρ ρ1 τ : Type}
@[simp] theorem sb_sr (x : α) (k : α → R S β) : sb (sr x) k = k x := rfl
@[simp] theorem sb_sb (m : R S α) (k : α → R S β) (h : β → R S γ) : sb (sb m k) h = sb m fun x => sb (k x) h := by
  funext s
  unfold sb
  cases m s with
  | ok p => rfl
  | error e => rfl
@[simp] theorem so_some (x : α) : (so (some x) : R S α) = sr x := rfl
@[simp] theorem sl_ok (x : α) : (sl (.ok x) : R S α) = sr x := rfl
@[simp] theorem sb_id (m : R S α) : (sb m fun x => sr x) = m := by
  funext s
  unfold sb
  cases m s with
  | ok p => rfl
  | error e => rfl
@[simp] theorem obd_nx (r : ρ1) (k : ρ1 → R S (Out ρ τ β)) : obd (sr (.nx r)) k = k r := rfl
@[simp] theorem obd_rt (b : β) (k : ρ1 → R S (Out ρ τ β)) : obd (sr (.rt b)) k = sr (.rt b) := rfl
@[simp] theorem obd_bk (b : τ) (k : ρ1 → R S (Out ρ τ β)) : obd (sr (.bk b)) k = sr (.bk b) := rfl
@[simp] theorem obd_ct (b : τ) (k : ρ1 → R S (Out ρ τ β)) : obd (sr (.ct b)) k = sr (.ct b) := rfl
@[simp] theorem sIf_t (a b : R S α) : sIf (sr true) a b = a := rfl
@[simp] theorem sIf_f (a b : R S α) : sIf (sr false) a b = b := rfl
theorem sIf_r (c : Bool) (a b : R S α) : sIf (sr c) a b = if c = true then a else b := rfl
theorem sIf_sb (m : R S γ) (c : γ → R S Bool) (a b : R S α) : sIf (sb m c) a b = sb m fun x => sIf (c x) a b := by unfold sIf; rw [sb_sb]
@[simp] theorem sAnd_t (b : R S Bool) : sAnd (sr true) b = b := rfl
@[simp] theorem sAnd_f (b : R S Bool) : sAnd (sr false) b = sr false := rfl
@[simp] theorem sOr_t (b : R S Bool) : sOr (sr true) b = sr true := rfl
@[simp] theorem sOr_f (b : R S Bool) : sOr (sr false) b = b := rfl
theorem sAnd_r (c : Bool) (b : R S Bool) : sAnd (sr c) b = if c = true then b else sr false := rfl
theorem sOr_r (c : Bool) (b : R S Bool) : sOr (sr c) b = if c = true then sr true else b := rfl
theorem sAnd_rr (c d : Bool) : sAnd (sr c : R S Bool) (sr d) = sr (c && d) := by cases c <;> rfl
theorem sOr_rr (c d : Bool) : sOr (sr c : R S Bool) (sr d) = sr (c || d) := by cases c <;> rfl
theorem sAnd_sb (m : R S γ) (c : γ → R S Bool) (b : R S Bool) : sAnd (sb m c) b = sb m fun x => sAnd (c x) b := by unfold sAnd; rw [sb_sb]
theorem sOr_sb (m : R S γ) (c : γ → R S Bool) (b : R S Bool) : sOr (sb m c) b = sb m fun x => sOr (c x) b := by unfold sOr; rw [sb_sb]
theorem sb_sIf (c : Bool) (a b : R S α) (k : α → R S β) : sb (if c = true then a else b) k = if c = true then sb a k else sb b k := by split <;> rfl
theorem forL_nil (f : α → ρ1 → R S (Out ρ1 ρ1 β)) (r : ρ1) : (forL f [] r : R S (Out ρ1 τ β)) = sr (.nx r) := rfl
theorem runF_rt (x : β) : runF (sr (.rt x)) = .ok x := rfl
/-- m, from s, comes to an end, and Q holds there -/
def Ok (m : R S α) (s : S) (Q : α → S → Prop) : Prop := match m s with
  | .ok (x, s') => Q x s'
  | .error _ => False
theorem Ok.sr {x : α} {s : S} {Q : α → S → Prop} (h : Q x s) : Ok (sr x) s Q := h
theorem Ok.sb {m : R S α} {k : α → R S β} {s : S} {Q : β → S → Prop} (h : Ok m s fun x s1 => Ok (k x) s1 Q) : Ok (sb m k) s Q := by
  unfold Ok Mi.sb at *
  cases e : m s with
  | ok p => rw [e] at h; exact h
  | error z => rw [e] at h; exact h
theorem Ok.mono {m : R S α} {s : S} {Q Q' : α → S → Prop} (h : Ok m s Q) (f : ∀ x s, Q x s → Q' x s) : Ok m s Q' := by
  unfold Ok at *
  cases e : m s with
  | ok p => rw [e] at h; exact f _ _ h
  | error z => rw [e] at h; exact h
theorem Ok.then_ {m : R S α} {k : α → R S β} {s : S} {P : α → S → Prop} {Q : β → S → Prop} (h : Ok m s P) (f : ∀ x s, P x s → Ok (k x) s Q) : Ok (Mi.sb m k) s Q := Ok.sb (h.mono f)
theorem Ok.so {o : Option α} {x : α} {s : S} {Q : α → S → Prop} (e : o = some x) (h : Q x s) : Ok (so o) s Q := by rw [e]; exact h
theorem Ok.sl {m : Except Er α} {x : α} {s : S} {Q : α → S → Prop} (e : m = .ok x) (h : Q x s) : Ok (sl m) s Q := by rw [e]; exact h
theorem Ok.ite {c : Bool} {a b : R S α} {s : S} {Q : α → S → Prop} (h1 : c = true → Ok a s Q) (h2 : c = false → Ok b s Q) : Ok (if c = true then a else b) s Q := by
  cases c with
  | true => exact h1 rfl
  | false => exact h2 rfl
theorem Ok.sIf {c : R S Bool} {a b : R S α} {s : S} {Q : α → S → Prop} (h : Ok c s fun x s1 => (x = true → Ok a s1 Q) ∧ (x = false → Ok b s1 Q)) : Ok (sIf c a b) s Q :=
  Ok.sb (h.mono fun x s1 q => Ok.ite q.1 q.2)
theorem Ok.sAnd {a b : R S Bool} {s : S} {Q : Bool → S → Prop} (h : Ok a s fun x s1 => (x = true → Ok b s1 Q) ∧ (x = false → Q false s1)) : Ok (sAnd a b) s Q :=
  Ok.sb (h.mono fun x s1 q => Ok.ite q.1 fun e => Ok.sr (q.2 e))
theorem Ok.sOr {a b : R S Bool} {s : S} {Q : Bool → S → Prop} (h : Ok a s fun x s1 => (x = true → Q true s1) ∧ (x = false → Ok b s1 Q)) : Ok (sOr a b) s Q :=
  Ok.sb (h.mono fun x s1 q => Ok.ite (fun e => Ok.sr (q.1 e)) q.2)
/-- what follows where a block came to its end -/
def Ob (k : ρ1 → R S (Out ρ τ β)) (Q : Out ρ τ β → S → Prop) : Out ρ1 τ β → S → Prop
  | .nx r, s => Ok (k r) s Q
  | .bk r, s => Q (.bk r) s
  | .ct r, s => Q (.ct r) s
  | .rt b, s => Q (.rt b) s
theorem Ok.obd {m : R S (Out ρ1 τ β)} {k : ρ1 → R S (Out ρ τ β)} {s : S} {Q : Out ρ τ β → S → Prop} (h : Ok m s (Ob k Q)) : Ok (obd m k) s Q := by
  unfold Ok Mi.obd at *
  cases e : m s with
  | ok p =>
    obtain ⟨o, s'⟩ := p
    rw [e] at h
    cases o <;> exact h
  | error z => rw [e] at h; exact h
theorem Ok.obdP {m : R S (Out ρ1 τ β)} {k : ρ1 → R S (Out ρ τ β)} {s : S} {Q : Out ρ τ β → S → Prop} (P : ρ1 → S → Prop) (h1 : Ok m s fun o s => ∃ r, o = .nx r ∧ P r s) (h2 : ∀ r s, P r s → Ok (k r) s Q) : Ok (Mi.obd m k) s Q :=
  Ok.obd (h1.mono fun o s ⟨r, e, p⟩ => by rw [e]; exact h2 r s p)
/-- a loop's turn: the invariant over the items done -/
def Turn (Inv : List α → ρ1 → S → Prop) (Fin : ρ1 → S → Prop) (Ret : β → S → Prop) (d : List α) : Out ρ1 ρ1 β → S → Prop
  | .nx r, s => Inv d r s
  | .ct r, s => Inv d r s
  | .bk r, s => Fin r s
  | .rt b, s => Ret b s
theorem Ok.forD {f : α → ρ1 → R S (Out ρ1 ρ1 β)} {xs : List α} {Q : Out ρ1 τ β → S → Prop} (Inv : List α → ρ1 → S → Prop) (Fin : ρ1 → S → Prop) (Ret : β → S → Prop)
    (ht : ∀ d x r s, d ++ x :: xs.drop (d.length + 1) = xs → Inv d r s → Ok (f x r) s (Turn Inv Fin Ret (d ++ [x]))) (hn : ∀ r s, Inv xs r s → Q (.nx r) s) (hf : ∀ r s, Fin r s → Q (.nx r) s) (hr : ∀ b s, Ret b s → Q (.rt b) s) :
    ∀ (rest d : List α) (r : ρ1) (s : S), d ++ rest = xs → Inv d r s → Ok (forL f rest r) s Q
  | [], d, r, s, e, h => by rw [List.append_nil] at e; subst e; exact hn r s h
  | x :: rest, d, r, s, e, h => by
    have e1 : xs.drop (d.length + 1) = rest := by rw [← e]; simp
    have q := ht d x r s (by rw [e1]; exact e) h
    unfold Ok forL at *
    cases ef : f x r s with
    | error z => rw [ef] at q; exact q.elim
    | ok p =>
      obtain ⟨o, s'⟩ := p
      rw [ef] at q
      cases o with
      | nx r' => exact Ok.forD Inv Fin Ret ht hn hf hr rest (d ++ [x]) r' s' (by rw [← e]; simp) q
      | ct r' => exact Ok.forD Inv Fin Ret ht hn hf hr rest (d ++ [x]) r' s' (by rw [← e]; simp) q
      | bk r' => exact hf r' s' q
      | rt b => exact hr b s' q
/-- .. over all items -/
theorem Ok.for_ {f : α → ρ1 → R S (Out ρ1 ρ1 β)} {xs : List α} {r0 : ρ1} {s0 : S} {Q : Out ρ1 τ β → S → Prop} (Inv : List α → ρ1 → S → Prop) (Fin : ρ1 → S → Prop) (Ret : β → S → Prop) (h0 : Inv [] r0 s0)
    (ht : ∀ d x r s, d ++ x :: xs.drop (d.length + 1) = xs → Inv d r s → Ok (f x r) s (Turn Inv Fin Ret (d ++ [x]))) (hn : ∀ r s, Inv xs r s → Q (.nx r) s) (hf : ∀ r s, Fin r s → Q (.nx r) s) (hr : ∀ b s, Ret b s → Q (.rt b) s) : Ok (forL f xs r0) s0 Q :=
  Ok.forD Inv Fin Ret ht hn hf hr xs [] r0 s0 rfl h0
/-- .. no break, no return, nothing told of the items done -/
theorem Ok.forI {f : α → ρ1 → R S (Out ρ1 ρ1 β)} {xs : List α} {r0 : ρ1} {s0 : S} {Q : Out ρ1 τ β → S → Prop} (Inv : ρ1 → S → Prop) (h0 : Inv r0 s0)
    (ht : ∀ x r s, x ∈ xs → Inv r s → Ok (f x r) s fun o s' => match o with
      | .nx r' => Inv r' s'
      | .ct r' => Inv r' s'
      | _ => False) (hn : ∀ r s, Inv r s → Q (.nx r) s) : Ok (forL f xs r0) s0 Q :=
  Ok.for_ (fun _ => Inv) (fun _ _ => False) (fun _ _ => False) h0 (fun d x r s e h => (ht x r s (by rw [← e]; simp) h).mono fun o s' q => by
    cases o <;> exact q) hn (fun _ _ z => z.elim) fun _ _ z => z.elim
theorem runF_of {m : R Unit (Out Unit Empty β)} {b : β} (h : Ok m () fun o _ => o = .rt b) : runF m = .ok b := by
  unfold Ok at h
  unfold runF
  cases e : m () with
  | ok p => rw [e] at h; obtain ⟨o, u⟩ := p; dsimp only at h; rw [h]
  | error z => rw [e] at h; exact h.elim
theorem Ok.ofP {m : R Pool (Out Unit Empty β)} {st : Pool} {Q : Out Unit Empty β → Unit → Prop} (h : Ok m st fun o _ => Q o ()) : Ok (ofP m st) () Q := by
  unfold Ok Mi.ofP at *
  cases e : m st with
  | ok p => rw [e] at h; exact h
  | error z => rw [e] at h; exact h
theorem Ok.runP {m : R Pool (Out Unit Empty β)} {st : Pool} {Q : β → Pool → Prop} (h : Ok m st fun o s => match o with
    | .rt b => Q b s
    | _ => False) : Ok (runP m) st Q := by
  unfold Ok Mi.runP at *
  cases e : m st with
  | ok p =>
    obtain ⟨o, s⟩ := p
    rw [e] at h
    cases o with
    | rt b => exact h
    | nx r => exact h.elim
    | bk r => exact h.elim
    | ct r => exact h.elim
  | error z => rw [e] at h; exact h
theorem Ok.draw {n : Int} {st : Pool} {Q : Int → Pool → Prop} (g : GoodPool st) (h0 : 0 < n) (h1 : n.natAbs.log2 < 9000) (h : ∀ r s, GoodPool s → 0 ≤ r → r < n → Q r s) : Ok (pdraw n) st Q := by
  obtain ⟨r, s, e, g', r0, r1⟩ := pdraw_ok g h0 h1
  unfold Ok
  rw [e]
  exact h r s g' r0 r1
theorem good_of (ns : List Int) : GoodPool (poolOf ns) := by
  unfold GoodPool poolOf
  dsimp only
  split
  · decide
  · rename_i h
    omega
theorem log_small {n : Int} (h : n.natAbs < 2 ^ 63) : n.natAbs.log2 < 9000 := by
  by_cases e : n.natAbs = 0
  · rw [e]; decide
  · have := (Nat.log2_lt e).mpr h
    omega
/-! ### single answers -/
theorem prng_ok {lo hi : Int} (h1 : -(2 ^ 62) ≤ lo) (h2 : lo < 2 ^ 62) (h3 : -(2 ^ 62) ≤ hi) (h4 : hi < 2 ^ 62) : prng lo hi = some (irange lo (hi - lo).toNat) := by
  unfold prng pr62
  rw [decide_eq_true ⟨h1, h2⟩, decide_eq_true ⟨h3, h4⟩]
  rfl
theorem plenS_ok {w : Str} (h : w.length ≤ 16777216) : plenS w = some (w.length : Int) := by unfold plenS; rw [if_pos h]
theorem plen_ok {xs : List α} (h : xs.length ≤ 16777216) : plen xs = some xs := by unfold plen; rw [if_pos h]
theorem str_len (w : Str) : w.length = w.cps.toList.length := by simp [Str.length]
theorem app_len (x y : Str) : (x ++ y).length = x.length + y.length := by
  show (⟨x.cps ++ y.cps⟩ : Str).length = _
  simp only [Str.length]
  exact Array.size_append
theorem pcat_ok {x y : Str} (h : x.length + y.length ≤ 16777216) : pcat x y = some (x ++ y) := by unfold pcat; rw [if_pos h]
theorem pixS_ok {w : Str} {i : Int} (hw : w.length ≤ 16777216) (h0 : 0 ≤ i) (h1 : i < w.length) : ∃ c, pixS w i = some ⟨#[c]⟩ := by
  unfold pixS
  have hl : w.length = w.cps.toList.length := str_len w
  have hi : i.toNat < w.cps.toList.length := by omega
  have : L2.atI w.cps.toList (i.toNat : Int) = some w.cps.toList[i.toNat] := L2.atI_nat (List.getElem?_eq_getElem hi)
  rw [Int.toNat_of_nonneg h0] at this
  exact ⟨_, by rw [if_pos hw, this]; rfl⟩
theorem cut_len (w : Str) (lo hi : Option Int) : (L2.cutS w lo hi).length ≤ w.length := by
  unfold L2.cutS
  rw [str_len w, str_len]
  simp only [List.length_take, List.length_drop]
  omega
theorem pcutS_ok {w : Str} {lo hi : Option Int} (hw : w.length ≤ 16777216) : pcutS w lo hi = some (L2.cutS w lo hi) := by unfold pcutS; rw [if_pos hw]
theorem pix_ok {xs : List α} {i : Int} (h0 : 0 ≤ i) (h1 : i < xs.length) : pix xs i = some (xs[i.toNat]'(by omega)) := by
  unfold pix
  have : L2.atI xs (i.toNat : Int) = some (xs[i.toNat]'(by omega)) := L2.atI_nat (List.getElem?_eq_getElem _)
  rw [Int.toNat_of_nonneg h0] at this
  exact this
end
end Mi

set_option Elab.async false
set_option linter.all false
set_option maxRecDepth 100000
set_option maxHeartbeats 4000000
namespace Mi
open PySem
/-! ### sizes -/
def Bd (n : Nat) (x : Int) : Prop := x.natAbs < 2 ^ n
theorem Bd.mono {n m : Nat} {x : Int} (h : Bd n x) (k : n ≤ m) : Bd m x := Nat.lt_of_lt_of_le h (Nat.pow_le_pow_right (by decide) k)
theorem Bd.mul {n m : Nat} {x y : Int} (h : Bd n x) (k : Bd m y) : Bd (n + m) (x * y) := by
  unfold Bd at *
  rw [Int.natAbs_mul, Nat.pow_add]
  exact Nat.mul_lt_mul'' h k
theorem Bd.add {n : Nat} {x y : Int} (h : Bd n x) (k : Bd n y) : Bd (n + 1) (x + y) := by
  unfold Bd at *
  have := Int.natAbs_add_le x y
  rw [Nat.pow_succ]
  omega
theorem Bd.sub {n : Nat} {x y : Int} (h : Bd n x) (k : Bd n y) : Bd (n + 1) (x - y) := by
  unfold Bd at *
  have := Int.natAbs_sub_le x y
  rw [Nat.pow_succ]
  omega
theorem Bd.neg {n : Nat} {x : Int} (h : Bd n x) : Bd n (-x) := by unfold Bd at *; rwa [Int.natAbs_neg]
theorem Bd.of {n : Nat} {x : Int} {b : Nat} (h1 : x.natAbs ≤ b) (h2 : b < 2 ^ n) : Bd n x := Nat.lt_of_le_of_lt h1 h2
theorem Bd.log {n : Nat} {x : Int} (h : Bd n x) (hn : 0 < n) : x.natAbs.log2 < n := by
  by_cases e : x.natAbs = 0
  · rw [e]; simpa using hn
  · exact (Nat.log2_lt e).mpr h
theorem Bd.le {n : Nat} {x y : Int} (h : Bd n y) (k : x.natAbs ≤ y.natAbs) : Bd n x := Nat.lt_of_le_of_lt k h
theorem pmul_ok {n m : Nat} {i j : Int} (h1 : Bd n i) (h2 : Bd m j) (hn : 0 < n ∧ 0 < m ∧ n + m ≤ 999999) : pmul i j = some (i * j) := by
  have a := h1.log hn.1
  have b := h2.log hn.2.1
  unfold pmul mulOk
  rw [decide_eq_true (show i.natAbs.log2 + j.natAbs.log2 < 1000000 by omega)]
  rfl
theorem pdiv_ok {i j : Int} (h : 0 < j) (k : Bd 9000 j) : pdiv i j = some (i / j) := by
  unfold pdiv
  rw [if_pos ⟨h, k.log (by decide)⟩]
theorem pmod_ok {i j : Int} (h : 0 < j) : pmod i j = some (i % j) := by unfold pmod; rw [if_pos h]
/-! ### the two loops for the greatest common divisor -/
section
variable {S τ β : Type}
theorem gcd_loop {c : Int × Int → R S Bool} {f : Int × Int → R S (Out (Int × Int) (Int × Int) β)} (hc : ∀ r, c r = sr (!decide (r.2 = 0))) (hf : ∀ r, f r = sb (so (pmod r.1 r.2)) fun x => sr (.nx (r.2, x))) :
    ∀ (n : Nat) (a b : Nat), b < n → (whL c f n ((a : Int), (b : Int)) : R S (Out (Int × Int) τ β)) = sr (.nx ((Nat.gcd a b : Nat), 0))
  | 0, _, _, h => absurd h (Nat.not_lt_zero _)
  | n + 1, a, b, h => by
    funext s
    unfold whL
    rw [hc, hf]
    by_cases e : b = 0
    · subst e
      simp [sr]
    · have e' : ¬ ((b : Int) = 0) := by omega
      have hp : (0 : Int) < b := by omega
      simp only [sr, e', decide_false, Bool.not_false, pmod_ok hp, sb, so]
      have ih := gcd_loop hc hf n b (a % b) (by have := Nat.mod_lt a (Nat.pos_of_ne_zero e); omega)
      have z : ((a : Int) % (b : Int)) = ((a % b : Nat) : Int) := (Int.natCast_emod a b).symm
      rw [z, ih]
      have g : Nat.gcd b (a % b) = Nat.gcd a b := by rw [Nat.gcd_comm b, ← Nat.gcd_rec, Nat.gcd_comm]
      rw [g]
      rfl
end
/-! ### a fraction in its lowest terms -/
def gc (p q : Int) : Int := (Nat.gcd p.natAbs q.natAbs : Nat)
theorem gc_pos {p q : Int} (h : 0 < q) : 0 < gc p q := by
  unfold gc
  have := Nat.gcd_pos_of_pos_right p.natAbs (show 0 < q.natAbs by omega)
  omega
theorem gc_le {p q : Int} (h : 0 < q) : gc p q ≤ q := by
  unfold gc
  have := Nat.gcd_le_right p.natAbs (show 0 < q.natAbs by omega)
  omega
theorem gc_p (p q : Int) : gc p q ∣ p := Int.ofNat_dvd_left.mpr (Nat.gcd_dvd_left _ _)
theorem gc_q (p q : Int) : gc p q ∣ q := Int.ofNat_dvd_left.mpr (Nat.gcd_dvd_right _ _)
theorem gc_low {p q : Int} (h : 0 < q) : gc (p / gc p q) (q / gc p q) = 1 := by
  have g := gc_pos (p := p) h
  unfold gc at *
  have e1 : (p / (Nat.gcd p.natAbs q.natAbs : Nat)).natAbs = p.natAbs / Nat.gcd p.natAbs q.natAbs := by
    rw [Int.natAbs_ediv_of_dvd (Int.ofNat_dvd_left.mpr (Nat.gcd_dvd_left _ _))]; simp
  have e2 : (q / (Nat.gcd p.natAbs q.natAbs : Nat)).natAbs = q.natAbs / Nat.gcd p.natAbs q.natAbs := by
    rw [Int.natAbs_ediv_of_dvd (Int.ofNat_dvd_left.mpr (Nat.gcd_dvd_right _ _))]; simp
  rw [e1, e2, Nat.gcd_div (Nat.gcd_dvd_left _ _) (Nat.gcd_dvd_right _ _), Nat.div_self (by omega)]
  rfl
theorem low_eq {p q : Int} (h : 0 < q) : (p / gc p q) * q = p * (q / gc p q) := by
  have g := gc_pos (p := p) h
  obtain ⟨a, ha⟩ := gc_p p q
  obtain ⟨b, hb⟩ := gc_q p q
  generalize gc p q = d at *
  subst ha hb
  rw [Int.mul_ediv_cancel_left _ (by omega), Int.mul_ediv_cancel_left _ (by omega)]
  grind
theorem low_pos {p q : Int} (h : 0 < q) : 0 < q / gc p q := Int.ediv_pos_of_pos_of_dvd h (Int.le_of_lt (gc_pos h)) (gc_q p q)
end Mi

set_option Elab.async false
set_option linter.all false
set_option maxRecDepth 100000
set_option maxHeartbeats 4000000
/-! own exceptions over ArithmeticError whose __init__ says super().__init__(..) and stores fields -/
namespace Mi
open PySem PySem.Spec PyProof.Rows L2 NdefX
abbrev aTail : List Value := [.type "ArithmeticError", .type "Exception", .type "BaseException", .type "object"]
/-- what the read part says of such a class -/
structure OexA (K : Fg) (C : Addr) : Prop where
  ini : PySem.W.excInitIn K C aTail "ArithmeticError.__new__" = true
  ovr : PySem.W.excOver K C aTail = true
  has : PySem.W.hasDictIn K C = true
  sa : PySem.W.findIn K (.ref C) "__setattr__" = some (some (.builtin "object.__setattr__"))
  exC : PySem.W.subIn K (.ref C) (.type "BaseException") = some true
  tyC : PySem.W.typeIn K (.ref C) = some (.type "type")
  kC : PySem.W.keepIn K (.ref C) = true
  sup : PySem.W.ks_superIn K C C "__init__" = some (some (.builtin "ArithmeticError.__init__"))
  subA : PySem.W.subIn K (.ref C) (.type "ArithmeticError") = some true
  mroC : PySem.W.mroIn K C (.ref C) = some true
def oexAB (K : Fg) (C : Addr) : Bool := PySem.W.excInitIn K C aTail "ArithmeticError.__new__" && (PySem.W.excOver K C aTail && (PySem.W.hasDictIn K C && (decide (PySem.W.findIn K (.ref C) "__setattr__" = some (some (.builtin "object.__setattr__"))) &&
  (decide (PySem.W.subIn K (.ref C) (.type "BaseException") = some true) && (decide (PySem.W.typeIn K (.ref C) = some (.type "type")) && (PySem.W.keepIn K (.ref C) && (decide (PySem.W.ks_superIn K C C "__init__" = some (some (.builtin "ArithmeticError.__init__"))) &&
  (decide (PySem.W.subIn K (.ref C) (.type "ArithmeticError") = some true) && decide (PySem.W.mroIn K C (.ref C) = some true)))))))))
theorem oexA_of {K : Fg} {C : Addr} (h : oexAB K C = true) : OexA K C := by
  unfold oexAB at h
  simp only [Bool.and_eq_true, decide_eq_true_eq] at h
  obtain ⟨h1, h2, h3, h4, h5, h6, h7, h8, h9, h10⟩ := h
  exact ⟨h1, h2, h3, h4, h5, h6, h7, h8, h9, h10⟩
section
open Builtin Builtin.ObjectAttr PySem.W
variable {prog : Program} {w : World} {A : Around} {E : Value → Shared → Prop} {R : Result → Shared → Prop} {hp : Heap} {g : Array GenState} {d : Drawn} {t : Nat} {os : OsState} {K : Fg} {name : Str} {tk : Tok} {v : Value} {x C : Addr} {fv : Array Value}
/-- the first field -/
theorem xsa_new (X : K.In hp) (hx : hp.get? x = some { cls := .ref C, data := .fields fv }) (T : OexA K C) (ht : takerIn K C name = some none)
    (hq : ∀ h' tk' dx, (∀ b o, b ≠ x → hp.get? b = some o → h'.get? b = some o) → hp.objs.size ≤ dx → dx ≠ x → h'.get? x = some { cls := .ref C, dict := some dx, data := .fields fv } → h'.Ns1 dx (fun y => if y = name then some v else none) →
      R (.ok (.ret .none)) ⟨h', g, d, tk', os⟩) : codeAny (model prog w) A (.call (.builtin "object.__setattr__") ⟨[.ref x, .str name tk, v], []⟩) R ⟨hp, g, d, t, os⟩ := by
  have hxs : x ≠ hp.objs.size := Nat.ne_of_lt (Heap.lt_size hx)
  obtain ⟨cd, hc, hh⟩ := any_some T.has
  have lc : Looks (model prog w) hp (classData C) cd := looks_clsIn X hc
  refine osa_openX (s := ⟨hp, g, d, t, os⟩) (od := none) F.store_ArithmeticError X ⟨hx, rfl, rfl, trivial⟩ T.ovr ht fun b => ?_
  dsimp only
  obtain ⟨nm, bs, mro, ns, qn, hd, sn, sb, ab, col, del⟩ := cd
  dsimp only at hh
  subst hh
  unfold storeInOwnDict ownDictForStores
  repeat (first | with_reducible refine PySem.HandSPX.store_in_new ?_ ?_ | with_reducible refine wpAny_loadPart_at hx ?_ | with_reducible refine lc.at ?_ | wp_step)
  · exact ⟨_, #[], _, (Heap.get?_update_ne _ _ _ _ hxs.symm).trans (Heap.get?_push_at rfl rfl), rfl, fun e he => absurd he (by simp), fun _ => rfl⟩
  · intro h' tk' hn' hs
    have hx1 : (hp.push { cls := .type "dict", data := .dict #[] }).get? x = some { cls := .ref C, data := .fields fv } := Heap.get?_push_of_some _ hx
    exact hq h' tk' hp.objs.size (fun b o hb ho => (hs.2 b (Nat.ne_of_lt (Heap.lt_size ho))).trans ((Heap.get?_update_ne _ _ _ _ hb).trans (Heap.get?_push_of_some _ ho))) (Nat.le_refl _) hxs.symm ((hs.2 x hxs).trans (Heap.get?_update_self _ hx1 rfl)) hn'
/-- a further field -/
theorem xsa_old {dx : Addr} {m0 : Str → Option Value} {nl : List Str} (X : K.In hp) (hx : hp.get? x = some { cls := .ref C, dict := some dx, data := .fields fv }) (hns : hp.Ns1 dx m0) (hw : Within m0 nl) (hz : nl.length ≤ 1000) (T : OexA K C) (ht : takerIn K C name = some none)
    (hq : ∀ h' tk', (∀ b o, b ≠ dx → hp.get? b = some o → h'.get? b = some o) → h'.Ns1 dx (fun y => if y = name then some v else m0 y) → R (.ok (.ret .none)) ⟨h', g, d, tk', os⟩) :
    codeAny (model prog w) A (.call (.builtin "object.__setattr__") ⟨[.ref x, .str name tk, v], []⟩) R ⟨hp, g, d, t, os⟩ := by
  obtain ⟨oD, esD, epD, hoD, hdD, _⟩ := hns.count hw
  obtain ⟨cd, hc, hh⟩ := any_some T.has
  have lc : Looks (model prog w) hp (classData C) cd := looks_clsIn X hc
  refine osa_openX (s := ⟨hp, g, d, t, os⟩) (od := some oD) F.store_ArithmeticError X ⟨hx, rfl, rfl, hoD⟩ T.ovr ht fun b => ?_
  dsimp only
  obtain ⟨nm, bs, mro, ns, qn, hd, sn, sb, ab, col, del⟩ := cd
  dsimp only at hh
  subst hh
  unfold storeInOwnDict ownDictForStores
  repeat (first | with_reducible refine PySem.OEX.store_in_old hns hw hz ?_ | with_reducible refine wpAny_loadPart_at hx ?_ | with_reducible refine lc.at ?_ | wp_step)
  exact fun h' tk' hn' hs => hq h' tk' (fun b o hb ho => (hs.2 b hb).trans ho) hn'
end
section
variable {X : Cx} {pins : List (Addr × Obj)} {σ : L2.St} {H : Hp} {s : Shared} {a C dx : Addr} {f : Str} {y : V} {u : Value} {fs : List (Str × V)} {Q : Unit → Shared → Prop} {E : Value → Shared → Prop} {A : Around}
theorem xst_new (T : OexA X.K C) (I : Inv X pins σ H s) (e : H a = some (exo a C none)) (hno : PySem.W.takerIn X.K C f = some none) (ry : RelV y u)
    (h : ∀ dx s', H dx = none → dx ≠ a → Inv X pins σ (upd (upd H dx (exd dx [(f, y)])) a (exo a C (some dx))) s' → Q () s') : wpAny (model X.prog X.w) A (setAttr (.ref a) f u) Q E s := by
  obtain ⟨t1, ho⟩ := exo_at I.hok e
  obtain ⟨hp, g, d, t, os⟩ := s
  refine PySem.W.set_plain I.kIn (ox := { cls := .ref C, dict := none, data := .fields #[.ref t1, .none, .none, .none, .bool false, .none] }) (od := none) ⟨ho, rfl, rfl, trivial⟩ T.sa ?_
  refine xsa_new I.kIn ho T hno fun h' tk' dx k dn dne hx hn => ?_
  have hnd : H dx = none := I.hok.fresh dn
  have nd : ∀ {b : Addr} {o : Obj}, hp.get? b = some o → b ≠ dx := fun z => Nat.ne_of_lt (Nat.lt_of_lt_of_le (Heap.lt_size z) dn)
  have na : ∀ {b : Addr}, H b = none → b ≠ a := fun {b} n z => by rw [z, e] at n; cases n
  have un : Un X.fs [] H (upd (upd H dx (exd dx [(f, y)])) a (exo a C (some dx))) hp h' := by
    refine ⟨fun b o q n _ _ => k b o (na n) q, fun b o q n _ _ => ⟨o.slots, k b o (na n) q⟩, fun b o q n _ => ?_, fun b o q _ => ?_, fun b xs q => ?_, fun b o v q => ?_, fun b ps q => ⟨#[], ?_⟩⟩
    · rw [upd_ne (na n), upd_ne (nd q)]; exact n
    · by_cases hb : b = a
      · exact ⟨_, by rw [hb]; exact hx⟩
      · exact ⟨o, k b o hb q⟩
    · rw [upd_ne (at_ne e q exo_tup), upd_ne (L2.ne_of_none q hnd)]; exact q
    · rw [upd_ne (at_ne e q exo_frz), upd_ne (L2.ne_of_none q hnd)]; exact q
    · rw [upd_ne (at_ne e q exo_tbl), upd_ne (L2.ne_of_none q hnd), q]; simp
  refine h dx _ hnd dne (I.un (t' := tk') un fun b o q => ?_)
  by_cases hb : b = a
  · subst hb
    rw [upd_same] at q
    cases q
    exact exo_ok hx
  · rw [upd_ne hb] at q
    by_cases hd : b = dx
    · subst hd
      rw [upd_same] at q
      cases q
      exact exd_ok hn (relO_put (fs := []) ry fun g => True.intro)
    · rw [upd_ne hd] at q
      refine (I.hok b o q).stay (fun c v hc z => k c v ?_ z) (fun c hc => ?_) fun c xs hc => ?_
      · rcases hc with hc | hc
        · rw [hc]; exact hb
        · exact at_ne e hc exo_own
      · rw [upd_ne (at_ne e hc exo_own), upd_ne (L2.ne_of_none hc hnd)]; exact hc
      · rw [upd_ne (at_ne e hc exo_tup), upd_ne (L2.ne_of_none hc hnd)]; exact hc
theorem xst_old (T : OexA X.K C) (I : Inv X pins σ H s) (e : H a = some (exo a C (some dx))) (ed : H dx = some (exd dx fs)) (hl : fs.length ≤ 900) (hno : PySem.W.takerIn X.K C f = some none) (ry : RelV y u)
    (h : ∀ s', Inv X pins σ (upd H dx (exd dx ((f, y) :: fs))) s' → Q () s') : wpAny (model X.prog X.w) A (setAttr (.ref a) f u) Q E s := by
  obtain ⟨t1, ho⟩ := exo_at I.hok e
  obtain ⟨mA, hns, rel⟩ := exd_at I.hok ed
  have hw := within_of rel
  obtain ⟨hp, g, d, t, os⟩ := s
  obtain ⟨oD, _, _, hoD, _, _⟩ := hns.count hw
  refine PySem.W.set_plain I.kIn (ox := { cls := .ref C, dict := some dx, data := .fields #[.ref t1, .none, .none, .none, .bool false, .none] }) (od := some oD) ⟨ho, rfl, rfl, hoD⟩ T.sa ?_
  refine xsa_old I.kIn ho hns hw (by rw [List.length_map]; omega) T hno fun h' tk' k hn => ?_
  have hd : ∃ o, h'.get? dx = some o := let ⟨o, _, _, e', _⟩ := hn; ⟨o, e'⟩
  exact h _ (I.write (t' := tk') (x := dx) (e := dx) (o := exd dx ((f, y) :: fs)) (by rw [ed]; exact True.intro) (.inl rfl) k hd (exd_ok hn (relO_put ry rel)))
end
/-- self.f = e -/
def tXst (K : Fg) (f : Str) (to te : TE) : TS := fun D σ H => te σ H fun y H1 => to σ H1 fun x H2 => ∃ a C : Addr, x = .ref a ∧ OexA K C ∧ PySem.W.takerIn K C f = some none ∧
  ((H2 a = some (exo a C none) ∧ ∀ dx, H2 dx = none → dx ≠ a → D.nx σ (upd (upd H2 dx (exd dx [(f, y)])) a (exo a C (some dx)))) ∨
    ∃ (dx : Addr) (fs : List (Str × V)), H2 a = some (exo a C (some dx)) ∧ H2 dx = some (exd dx fs) ∧ fs.length ≤ 900 ∧ D.nx σ (upd H2 dx (exd dx ((f, y) :: fs))))
theorem ps_xst {X : Cx} {o e : Expr} {to te : TE} {f : Str} {p' pos : Pos} (ho : PE X o to) (he : PE X e te) (hs : swapsWith e (some (.Attribute o f p')) pos.line X.env = pure false := by rfl) : PS X (.Assign [.Attribute o f p'] e pos) (tXst X.K f to te) := by
  refine ⟨fun pins s σ H D I h => ?_⟩
  refine plainObj_wpAny_Assign_Attribute (thn (he.run pins s σ H _ I h) fun v s1 ⟨y, H1, I1, r1, q1⟩ => thn (ho.run pins s1 σ H1 _ I1 q1) fun u s2 ⟨x, H2, I2, r2, a, C, ex, T, hno, q⟩ => ?_) hs
  subst ex
  obtain rfl : u = Value.ref a := r2
  rcases q with ⟨ea, q⟩ | ⟨dx, fs, ea, ed, hl, q⟩
  · exact xst_new T I2 ea hno r1 fun dx s' n ne J => ⟨σ, _, J, q dx n ne⟩
  · exact xst_old T I2 ea ed hl hno r1 fun s' J => ⟨σ, _, J, q⟩
end Mi

set_option Elab.async false
set_option linter.all false
set_option maxRecDepth 100000
set_option maxHeartbeats 4000000
namespace Mi
open PySem PySem.Spec PyProof.Rows L2 NdefX
section
variable {X : Cx} {o e : Expr} {es : List Expr} {to te : TE} {ta : TA} {f : Str} {p p' p1 p2 pos : Pos}
/-- C(e, ..) behind raise -/
theorem pmk_xex {CX : CXT} {x : Str} {C fI : Addr} {k : Nat} {fd : FuncData} {ps : List Str} {sp : Sp} (T : OexA X.K C) (iC : PySem.W.findIn X.K (.ref C) "__init__" = some (some (.ref fI))) (tI : PySem.W.typeIn X.K (.ref fI) = some (.type "function"))
    (F1 : FnOk X.prog X.w X.K X.mg X.base CX k fI fd ps sp) (hr : Room (k + 1) X.A) (hb : Binds X.K fd ps []) (hx : Passes CX X (fun _ _ _ => False)) (hg : Gl X x) (hm : X.mg x = some (.ref C)) (ha : PA X (e :: es) ta)
    (hdb : (x == ("__debug__" : Str)) = false := by decide) (he : starEach (e :: es) X.env = (false, eval e X.env) :: starEach es X.env := by rfl) (hpl : (backTo pos (starEach es X.env)).any (·.1) = false := by rfl) :
    PMk X (.Call (.Name x p) (e :: es) [] pos) (tMkO C sp [] ta) := by
  intro pins s σ H Q I h
  refine wpAny_Call_Name_kw (ld_glob I hg hm ?_ hdb)
  refine PySem.W.callWith_K (h₀ := X.base) I.ok.mod.kin T.kC (thn (ha.run pos pins s σ H _ I h) fun us s1 ⟨vs, H1, I1, r1, hz, q1⟩ => ⟨I1.kIn, ?_⟩) he hpl
  show wpAny _ _ (call (.ref C) us) _ _ _
  obtain ⟨hp, g, dr, tk, os⟩ := s1
  have hsz : hp.objs.size ≤ hp.objs.size + 1 := Nat.le_succ _
  have hn : H1 (hp.objs.size + 1) = none := I1.hok.fresh hsz
  have hq := q1 (hp.objs.size + 1) hn
  rw [List.append_nil] at hq
  have kk : ∀ b o, hp.get? b = some o → ((hp.push (PySem.W.kdv_tup us)).push (PySem.HandSPX.excO C hp.objs.size)).get? b = some o := fun b o z => Heap.get?_push_of_some _ (Heap.get?_push_of_some _ z)
  have hget : ((hp.push (PySem.W.kdv_tup us)).push (PySem.HandSPX.excO C hp.objs.size)).get? (hp.objs.size + 1) = some (PySem.HandSPX.excO C hp.objs.size) := by heap_get
  have I2 : Inv X pins σ (upd H1 (hp.objs.size + 1) (exo (hp.objs.size + 1) C none)) ⟨(hp.push (PySem.W.kdv_tup us)).push (PySem.HandSPX.excO C hp.objs.size), g, dr, tk, os⟩ :=
    I1.laid (t' := tk) (a := hp.objs.size + 1) (o := exo (hp.objs.size + 1) C none) (h' := (hp.push (PySem.W.kdv_tup us)).push (PySem.HandSPX.excO C hp.objs.size)) kk hsz (exo_ok hget)
  have r2 : Vals (V.ref (hp.objs.size + 1) :: vs) (Value.ref (hp.objs.size + 1) :: us) := .cons rfl r1
  have hl : (Value.ref (hp.objs.size + 1) :: us).length = ps.length := by
    have z := r2.length
    rw [F1.len _ _ _ _ hq] at z
    exact z.symm
  have hus : us.length ≤ sizeLine := by
    rw [← Paired.length r1, sizeLine_eq]
    omega
  obtain ⟨nm, N', qn, bs, bm, hdct, sn, sub, ab, col, dd, k0, k1, k2, k3, k5, hC, hT⟩ := PySem.W.excInit_of I1.kIn T.ini
  have hbind := hb ⟨(hp.push (PySem.W.kdv_tup us)).push (PySem.HandSPX.excO C hp.objs.size), g, dr, tk, os⟩ (Value.ref (hp.objs.size + 1) :: us) I2.kIn (by rw [List.append_nil]; exact hl)
  rw [List.append_nil] at hbind
  refine wpAny_call (PySem.HandSPX.call_own PySem.F.excBase_ArithmeticError hT hC (PySem.W.looks_findIn I1.kIn iC) (fun self => PySem.W.bind_fn I1.kIn self tI) hus
    (codeAny_mono (F1.run _ X.stack _ _ ⟨Value.ref (hp.objs.size + 1) :: us, []⟩ (Value.ref (hp.objs.size + 1) :: us) _ _ (fun _ _ _ => False) (hr.make C us []) (I2.env0.make C us []) hbind r2 hq) fun r s' hq' => ?_))
  cases r with
  | error er => exact hx pins σ _ _ er s' I2 hq'
  | ok fl =>
    cases fl with
    | ret u =>
      obtain ⟨v, H2, os2, bare2, un2, hok2, rv, ev, d, fs, ea, ed, hd1, q2⟩ := hq'
      subst ev
      obtain ⟨h2, g2, d2, t2, os'⟩ := s'
      exact ⟨rv, mk_end (raises_own T.exC T.tyC) I1 hsz kk un2 hok2 os2 bare2 ea ed hd1 q2⟩
    | next => exact False.elim hq'
    | brk => exact False.elim hq'
    | cont => exact False.elim hq'
end
/-! ### the __init__: super().__init__(text), then stores -/
/-- the read part's word of such a function: the function, its cell, its code -/
structure FunX (K : Fg) (file : Str) (F : NF) (f C cc : Addr) (fd : FuncData) : Prop where
  ex : ∃ (oc : Value) (od : Option Addr) (doc pm ctv : Value) (osl : Array (Option Value)), fd = F.fd doc pm ctv ∧ K.lookup f = some ⟨oc, od, .func fd, osl⟩
  cd : PySem.W.codeIn K (.ref F.c) F.qual = true
  cl : F.cl = [(("__class__" : Str), cc)]
  cell : ∃ a b c, K.lookup cc = some ⟨a, b, .cell (some (.ref C)), c⟩
  file : ∃ (z : Value) (b : Option Addr) (vs : Array Value) (sl : Array (Option Value)) (tf : Tok), K.lookup F.c = some ⟨z, b, .fields vs, sl⟩ ∧ vs[2]? = some (.str file tf)
/-- the first statement, and what of the text it leans on -/
structure SupX (F : NF) (ps : List Str) (rest : List Stmt) : Prop where
  body : ∃ (msg : Str) (p0 p1 p2 p3 p4 p5 : Pos) (j : _), F.body = .Expr (.Call (.Attribute (.Call (.Name "super" p0) [] [] p1) "__init__" p2) [.Constant (.str msg) j p3] [] p4) p5 :: rest ∧
    ∀ (f L : Addr), swapsWith (.Call (.Attribute (.Call (.Name "super" p0) [] [] p1) "__init__" p2) [.Constant (.str msg) j p3] [] p4) none p5.line (envF F f L) = pure false ∧ interactive (envF F f L) = false ∧
      ∃ pl, eval (.Call (.Attribute (.Call (.Name "super" p0) [] [] p1) "__init__" p2) [.Constant (.str msg) j p3] [] p4) (envF F f L) = (do
      let ov ← attributeBase (.Call (.Name "super" p0) [] [] p1) "__init__" (envF F f L) (eval (.Call (.Name "super" p0) [] [] p1) (envF F f L))
      standAt p2.atName
      let (f', first) ← holding [ov] (getMethod ov "__init__" pl)
      callWith p4 f' first (backTo p4 (starEach [.Constant (.str msg) j p3] (envF F f L))) [])
  scope : NScope (("self" : Str) :: ps ++ [("__class__" : Str)]) (("self" : Str) :: ps) [("__class__" : Str)] F.scope
  par : ∃ ar, (F.params.posonlyargs ++ F.params.args).head? = some ar ∧ ar.arg = ("self" : Str)
  sup : F.scope.names.lookup ("super" : Str) = some .globalImplicit
section
variable {P : Program} {w : World} {K : Fg} {mg : Str → Option Value} {base : Heap} {F : NF} {f C cc : Addr} {fd : FuncData} {CX : CXT}
abbrev xN (ps : List Str) : List Str := ("self" : Str) :: ps ++ [("__class__" : Str)]
theorem xinit_ok {ps : List Str} {k : Nat} {sp : Sp} {rest : List Stmt} {file : Str} (FX : FunX K file F f C cc fd) (T : OexA K C) (SX : SupX F ps rest) (mgS : mg "super" = none) (hfile : ((P.main.file : Str) == file) = true)
    (htop : (P.main.scope.names.lookup ("super" : Str)).isSome = false) (hopq : PySem.W.nsIn K PySem.cStatics "thirdparty.any" = some none)
    (len : ∀ vs H Q E, sp vs H Q E → vs.length = ps.length + 1)
    (hb : ∀ (A : Around) (outer : List Env) (s : Shared) (H : Hp) (vs : List V) (Q : VK) (E : XK), Room k (A.deeper (envF F f s.heap.objs.size)) → sp vs H Q E →
      ∃ (x : Addr) (ws : List V), vs = .ref x :: ws ∧ H x = some (exo x C none) ∧ ∃ t, PSs (ncx CX P w K mg base (xN ps) F f A outer s H E) rest t ∧ t { nx := fun _ H' => Q .non H', rt := Q } (startF (xN ps) vs [some (.ref C)]) H) :
    FnOk P w K mg base CX (k + 1) f fd (("self" : Str) :: ps) sp := by
  obtain ⟨oc, od, doc, pm, ctv, osl, efd, lk⟩ := FX.ex
  obtain ⟨ca, cb, ccc, lcell⟩ := FX.cell
  obtain ⟨z1, z2, cvs, z3, tf, lcode, lfile⟩ := FX.file
  obtain ⟨msg, p0, p1, p2, p3, p4, p5, j, hbody, htext⟩ := SX.body
  obtain ⟨ar, har, earg⟩ := SX.par
  have S := SX.scope
  refine ⟨len, fun A outer s H args us vs Q E hr e0 hbi r hsp => ?_⟩
  have hl := len _ _ _ _ hsp
  have hl' : vs.length = (("self" : Str) :: ps).length := hl
  have KX : K.In s.heap := e0.mod.kin.keeps fun b o e => (e0.bs b o e).1
  have lim : s.heap.NoLimit := e0.mod.nolimit.keeps fun b o e => (e0.bs b o e).1
  subst efd
  refine codeAny_call_function hr.depth (KX _ _ lk) rfl S.co S.gen rfl (PySem.W.codeRec_of KX FX.cd) (hbi _ _ _ _ ?_)
  refine wpAny_newFunctionEnv S.nocell (fun ⟨n, _⟩ hy => S.par n (List.of_mem_zip hy).1) (fun h1 hns hsb => ⟨lim.fresh _ hsb, ?_⟩) S.kind
  obtain ⟨hs1, hs2, pl, hev⟩ := htext f s.heap.objs.size
  show codeAny _ _ (.func F.body (envF F f s.heap.objs.size)) _ _
  refine ks_codeAny_funcAt ?_
  have kp : ∀ b o, s.heap.get? b = some o → h1.get? b = some o := fun b o e => hsb.extBut b o (Nat.ne_of_lt (Heap.lt_size e)) (Heap.get?_push_of_some _ e)
  obtain ⟨x, ws, ev, ex, t, ht, hq⟩ := hb A outer s H vs Q E (hr.deeper _) hsp
  have hcc : H cc = none := (e0.bs _ _ (e0.mod.kin _ _ lcell)).2
  have CA : CellsAt F.cl [("__class__" : Str)] [some (.ref C)] s.heap H := by
    rw [FX.cl]
    have key : ∀ {y : Str} {c : Addr}, ([(("__class__" : Str), cc)] : List (Str × Addr)).lookup y = some c → y = ("__class__" : Str) ∧ c = cc := by
      intro y c e
      by_cases z : y = ("__class__" : Str)
      · subst z; cases e; exact ⟨rfl, rfl⟩
      · have z' : (y == ("__class__" : Str)) = false := by simpa using z
        simp [List.lookup, z'] at e
    refine ⟨rfl, fun y c e => ?_, fun y z c e1 e2 => (key e1).1.trans (key e2).1.symm, fun i y e => ?_⟩
    · obtain ⟨_, rfl⟩ := key e
      exact ⟨hcc, _, _, KX _ _ lcell, rfl⟩
    · cases i with
      | zero =>
        cases e
        exact ⟨cc, rfl, fun v e => by cases e; exact ⟨.ref C, rfl, _, KX _ _ lcell, rfl⟩⟩
      | succ i => cases e
  have I : Inv (ncx CX P w K mg base (xN ps) F f A outer s H E) [] (startF (xN ps) vs [some (.ref C)]) H { s with heap := h1, toks := s.toks + ((("self" : Str) :: ps).zip us).length } := inv_startN S hr.hd e0 hl' r CA hns kp
  have hsup : (envF F f s.heap.objs.size).kindOf ("super" : Str) = some .globalImplicit := SX.sup
  have hkc : (envF F f s.heap.objs.size).kindOf ("__class__" : Str) = some .free := S.frk _ (List.mem_singleton.mpr rfl)
  have hks : (envF F f s.heap.objs.size).kindOf ("self" : Str) = some .local := S.par _ (List.mem_cons_self ..)
  have K1 : K.In h1 := fun b o e => kp b o (KX b o e)
  obtain ⟨cd, hcd, hdct⟩ := PySem.W.any_some T.has
  obtain ⟨oC, hC1, hC2⟩ : ∃ oC, h1.get? C = some oC ∧ oC.data = .cls cd := by
    unfold PySem.W.clsIn at hcd
    split at hcd
    · rename_i c d cd' sl ho
      cases hcd
      exact ⟨_, K1 _ _ ho, rfl⟩
    · cases hcd
  subst ev
  obtain ⟨t1, hx1⟩ := exo_at I.hok ex
  rw [hbody]
  refine ks_wpAt_execs_cons (ks_wpAt_Expr_any (ks_wpAt_MethodCall (pl := pl) ?_ hev) hs2 hs1)
  refine ks_wpAt_super_base hsup hkc rfl rfl (K1 _ _ lk) rfl har rfl (K1 _ _ lcode) rfl lfile hfile htop ?_
  obtain ⟨mb, hm1, hm2⟩ := e0.mod.blt
  have kb : ∀ b o, base.get? b = some o → h1.get? b = some o := fun b o e => kp b o (e0.bs b o e).1
  refine PySem.W.ks_loadName_global S.kind hsup (PySem.Calls.loadGlobal_builtin (e0.mod.glob.keeps kb) mgS (hm1.keeps kb) ((hm2 _ (by decide)).trans (show bootBuiltins ("super" : Str) = some (.type "super") by decide +kernel)) ⟨rfl, ?_⟩)
  refine wpAny_loadName_free (c := cc) S.kind hkc (by show F.cl.lookup _ = _; rw [FX.cl]; rfl) ⟨_, K1 _ _ lcell, rfl⟩ ?_
  rw [earg]
  obtain ⟨m, hm, hml⟩ := I.loc
  obtain ⟨u, ru, lu⟩ := hml 0 ("self" : Str) (.ref x) rfl rfl (.inl (S.par _ (List.mem_cons_self ..)))
  obtain rfl : u = Value.ref x := ru
  have hmx : m ("self" : Str) = some (.ref x) := by
    rcases lu with ⟨_, z⟩ | ⟨z, _⟩
    · exact z
    · rcases z with z | z <;> · rw [show (ncx CX P w K mg base (xN ps) F f A outer s H E).env.kindOf ("self" : Str) = some .local from hks] at z; cases z
  refine wpAny_loadName_local S.kind hks hm hmx ?_
  refine ks_wpAny_isType_cls hC1 hC2 ⟨rfl, ?_⟩
  refine ks_wpAny_call_super hC1 hC2 hx1 rfl (fun c e => by cases e) (PySem.W.looks_mroIn K1 T.mroC) fun h2 hso k2 => ?_
  have I2 := ClX.pin_new (t' := s.toks + ((("self" : Str) :: ps).zip us).length) I k2 (Nat.le_refl _) hso (fun v e => by cases e)
  have K2 : K.In h2 := fun b o e => k2 b o (K1 b o e)
  have hx2 := k2 _ _ hx1
  have at2 : PySem.W.InstAt h2 x { cls := .ref C, dict := none, data := .fields #[.ref t1, .none, .none, .none, .bool false, .none] } C none := ⟨hx2, rfl, rfl, trivial⟩
  have hal : PySem.W.alongIn K "__init__" ((cd.mro.dropWhile (· != .ref C)).drop 1) = some (some (.builtin "ArithmeticError.__init__")) := by
    have z := T.sup
    unfold PySem.W.ks_superIn at z
    rw [hcd] at z
    exact z
  refine PySem.W.kxs_getMethod PySem.W.kxs_ArithmeticError hso (PySem.W.looks_opaque K2 hopq) (l₀ := cd.mro) (fun A Q E s k q => wpAny_bind ((PySem.W.looks_clsIn K2 hcd) A _ E s k (wpAny_pure q))) rfl K2 hal (at2.type.andThen (PySem.W.looks_subIn K2 T.subA)) (PySem.W.ks_ne K2 at2 hcd) (by decide) ?_
  have k3 : ∀ b o, h2.get? b = some o → (h2.push (PySem.W.kxs_mw "ArithmeticError.__init__" x)).get? b = some o := fun b o e => Heap.get?_push_of_some _ e
  have I3 := ClX.pin_new (t' := s.toks + ((("self" : Str) :: ps).zip us).length + 1) I2 k3 (Nat.le_refl _) (Heap.get?_push_at rfl rfl) (fun v e => by cases e)
  show wpAny _ _ (callWith p4 _ [] ((false, eval (.Constant (.str msg) j p3) (envF F f s.heap.objs.size)) :: backTo p4 (starEach [] (envF F f s.heap.objs.size))) []) _ _ _
  refine PySem.W.kxs_callWith (i := "ArithmeticError.__init__") (x := x) rfl (PySem.Calls.evalArgs_plain ?_)
  refine thn ((pa_cons (X := ncx CX P w K mg base (xN ps) F f A outer s H E) (pe_str (x := msg) (j := j) (pos := p3)) pa_nil).run p4 _ _ _ H (fun vs H1 => vs = [.str msg] ∧ H1 = H) I3 ⟨rfl, rfl⟩) fun us' s4 ⟨vs4, H4, I4, r4, e4, eH⟩ => ?_
  subst e4 eH
  have hmw := ClX.pin_at I4
  refine ⟨hmw, ?_⟩
  obtain ⟨t4, hx4⟩ := exo_at I4.hok ex
  have K4 := I4.kIn
  obtain ⟨nm, N', qn, bs, bm, hd, sn, sub, ab, col, dd, k0, k1, k2', k3', k5, hC4, hT⟩ := PySem.W.excInit_of K4 T.ini
  have hlen : us'.length ≤ sizeLine := by rw [← r4.length]; show 1 ≤ sizeLine; decide
  obtain ⟨h4, g4, d4, tk4, os4⟩ := s4
  refine wpAny_call (codeAny_of_tree ?_)
  show wpAny _ _ (callAny (.ref _) ⟨[] ++ us', []⟩) _ _ _
  simp only [callAny, List.nil_append]
  refine wpAny_bind (wpAny_load hmw ?_)
  simp only [show (Value.type "method-wrapper" == Value.type "method" || Value.type "method-wrapper" == Value.type "builtin_function_or_method" || Value.type "method-wrapper" == Value.type "method-wrapper") = true from by decide, if_true]
  refine PySem.W.KFB.if_so (by decide) ?_
  refine wpAny_bind (PySem.W.check_bound_init PySem.F.excBase_ArithmeticError.toExcCallFacts hC4 hx4 rfl ?_)
  refine wpAny_bind (wpAny_pure (wpAny_pure ?_))
  refine ⟨plainId_quiet PySem.F.excBase_ArithmeticError.init.plain _, codeAny_builtin PySem.F.excBase_ArithmeticError.initEntry ?_⟩
  refine PySem.W.exc_init_tree (cls := .ref C) (t0 := t4) (dv := none) (c2 := .none) (c3 := .none) (b4 := .bool false) hx4 hlen fun h5 k5' hx5 _ => ?_
  have J := I4.write (t' := tk4) (x := x) (e := x) (o := exo x C none) (by rw [ex]; exact True.intro) (.inl rfl) k5' ⟨_, hx5⟩ (exo_ok hx5)
  have eu : upd H4 x (exo x C none) = H4 := by
    funext b
    by_cases hb : b = x
    · rw [hb, upd_same, ex]
    · rw [upd_ne hb]
  rw [eu] at J
  refine wpAt_of_wpAny (wpAny_mono (ht.run _ _ _ H4 _ (ClX.unpin (ClX.unpin J)) hq) (fun fl s' hs => ?_) fun e s' hs => hs)
  have fin : ∀ {σ' : L2.St} {H' : Hp} {v : V} {u : Value}, Inv (ncx CX P w K mg base (xN ps) F f A outer s H4 E) [] σ' H' s' → L2.RelV v u → Q v H' → CE outer P w H4 s Q u s' := fun J' rv q => ⟨_, _, J'.os, J'.bare, J'.base, J'.hok, rv, q⟩
  cases fl with
  | ret u => exact let ⟨v, σ', H', J', rv, q⟩ := hs; fin J' rv q
  | next => exact let ⟨σ', H', J', q⟩ := hs; fin (v := V.non) (u := Value.none) J' rfl q
  | brk => exact let ⟨_, _, _, q⟩ := hs; False.elim q
  | cont => exact let ⟨_, _, _, q⟩ := hs; False.elim q
end
end Mi

set_option Elab.async false
set_option linter.all false
set_option maxRecDepth 100000
set_option maxHeartbeats 4000000
namespace Mi
open PySem PySem.Spec PyProof.Rows L2 NdefX
/-! ### the object that is being made: owned by its __init__ -/
def XAt (K : Fg) (C x : Addr) (I O : Hp) : List (Str × D) → Prop
  | [] => O x = some (exo x C none)
  | p :: fs => ∃ d us, O x = some (exo x C (some d)) ∧ O d = some (exd d us) ∧ FD K I us (p :: fs) ∧ d ≠ x
theorem FD.up {K : Fg} {I I' : Hp} (e : Same I I') : ∀ {us : List (Str × V)} {fs : List (Str × D)}, FD K I us fs → FD K I' us fs
  | _, _, .nil => .nil
  | _, _, .cons r q => .cons (RD.up e r) (FD.up e q)
theorem FD.len {K : Fg} {I : Hp} : ∀ {us : List (Str × V)} {fs : List (Str × D)}, FD K I us fs → us.length = fs.length
  | _, _, .nil => rfl
  | _, _, .cons _ q => congrArg Nat.succ (FD.len q)
theorem XAt.up {K : Fg} {C x : Addr} {I I' O : Hp} (e : Same I I') : ∀ {fs : List (Str × D)}, XAt K C x I O fs → XAt K C x I' O fs
  | [], h => h
  | _ :: _, ⟨d, us, h1, h2, h3, h4⟩ => ⟨d, us, h1, h2, FD.up e h3, h4⟩
def sX (K : Fg) (C x : Addr) (fs : List (Str × D)) : Slot := .ow (fun I O v => v = .ref x ∧ XAt K C x I O fs) fun _ _ _ _ e h => ⟨h.1, XAt.up e h.2⟩
theorem same_uni {A B C : Hp} (h1 : Same A C) (h2 : ∀ b o, A b = none → B b = some o → C b = some o) : Same (uni A B) C := fun b o e => by
  unfold uni at e
  cases q : A b with
  | none => rw [q] at e; exact h2 b o q e
  | some u => rw [q] at e; exact h1 b o (by rw [q]; exact e)
section
variable {X : Cx} {S ρ τ β : Type} {Γ : S → Gam} {Λ : τ → S → Gam} {Res : S → Hp → Hp → V → β → Prop} {Δ : ρ → S → Gam} {pos p1 p2 : Pos} {rest : List Stmt}
/-- self.f = e, in the __init__ of an exception -/
theorem pb_xst {E : XK} {f self : Str} {x C : Addr} {e : Expr} {fs : List (Str × D)} {m : R S D} {kk : D → R S (Out ρ τ β)} (T : OexA X.K C) (hno : PySem.W.takerIn X.K C f = some none) (hg : ∀ s, (Γ s).at 0 = sX X.K C x fs) (he : PX X (kE E) Γ e m)
    (hk : ∀ d, PB X (kE E) Λ Res (fun s => (Γ s).put 0 (sX X.K C x ((f, d) :: fs))) rest Δ (kk d)) (hl : fs.length ≤ 900) (hN : X.N[0]? = some self := by rfl) (hv : Vis X.env.scope self := by first | exact Or.inl rfl | exact Or.inr (Or.inl rfl) | exact Or.inr (Or.inr rfl))
    (hd : (self == ("__debug__" : Str)) = false := by decide) (hcd : (self == ("__classdict__" : Str)) = false := by decide) (hs : swapsWith e (some (.Attribute (.Name self p1) f p2)) pos.line X.env = pure false := by rfl) :
    PB X (kE E) Λ Res Γ (.Assign [.Attribute (.Name self p1) f p2] e pos :: rest) Δ (sb m kk) :=
  (pss_cons (ps_xst (pe_var hN hv hd hcd) he hs) (L2.PSs.ex hk)).mono fun D σ H ⟨s, I, O, t, sat, q⟩ => ⟨s, I, O, t, sat, q.bind.imp fun dd I1 H1 ⟨_, s1, O1, t1, sat1, q1⟩ v rv => by
    obtain ⟨v0, P1, P2, e1, d12, hP1, hP2, ⟨rfl, xa⟩, sat2⟩ := sat1.at_ow (hg s1)
    have key : ∀ {O2 H2 Q1 : Hp}, St3 I1 O2 H2 → Go I1 O1 H1 I1 O2 H2 → Same (uni Q1 P2) O2 → (∀ b, Q1 b = none ∨ P2 b = none) → XAt X.K C x I1 Q1 ((f, dd) :: fs) → ∃ d, tB X.K (kE E) Λ Res (fun s => (Γ s).put 0 (sX X.K C x ((f, d) :: fs))) Δ (kk d) D σ H2 := by
      intro O2 H2 Q1 t2 g2 sm dj xa2
      exact ⟨dd, s1, I1, uni Q1 P2, t2.drop sm, Sat.back (R := fun I O v => v = .ref x ∧ XAt X.K C x I O ((f, dd) :: fs)) ⟨rfl, xa2⟩ dj e1 sat2, (q1.shift g2).shift (Go.drop sm)⟩
    refine ⟨_, e1, x, C, rfl, T, hno, ?_⟩
    cases fs with
    | nil =>
      have xa : P1 x = some (exo x C none) := xa
      have hx2 : P2 x = none := (d12 x).resolve_left (by rw [xa]; exact Option.some_ne_none _)
      refine .inl ⟨t1.so _ _ (hP1 _ _ xa), fun dx n ne => ?_⟩
      have tl := t1.layO (o := exd dx [(f, v)]) n
      have hxo : upd O1 dx (exd dx [(f, v)]) x = some (exo x C none) := by rw [upd_ne ne.symm]; exact hP1 _ _ xa
      refine key (Q1 := upd (upd P1 dx (exd dx [(f, v)])) x (exo x C (some dx))) (tl.wr hxo) ((Go.layO t1 n).trans (Go.wr tl hxo)) (same_uni (fun b o z => ?_) fun b o z1 z2 => ?_) (fun b => ?_) ⟨dx, _, upd_same, by rw [upd_ne ne, upd_same], .cons rv .nil, ne⟩
      · by_cases hb : b = x
        · subst hb; rw [upd_same] at z ⊢; exact z
        · rw [upd_ne hb] at z ⊢
          by_cases hd : b = dx
          · subst hd; rw [upd_same] at z ⊢; exact z
          · rw [upd_ne hd] at z ⊢; exact hP1 _ _ z
      · have hb : b ≠ x := fun z => by rw [z, upd_same] at z1; cases z1
        rw [upd_ne hb] at z1 ⊢
        have hd : b ≠ dx := fun z => by rw [z, upd_same] at z1; cases z1
        rw [upd_ne hd]; exact hP2 _ _ z2
      · by_cases hb : b = x
        · exact .inr (by rw [hb]; exact hx2)
        · rw [upd_ne hb]
          by_cases hd : b = dx
          · exact .inr (by rw [hd]; exact (hP2.trans t1.so).free n)
          · rw [upd_ne hd]; exact d12 b
    | cons p fs =>
      obtain ⟨dx, us, xa1, xa2, fd, ne⟩ := xa
      have hd2 : P2 dx = none := (d12 dx).resolve_left (by rw [xa2]; exact Option.some_ne_none _)
      refine .inr ⟨dx, us, t1.so _ _ (hP1 _ _ xa1), t1.so _ _ (hP1 _ _ xa2), by rw [FD.len fd]; exact hl, ?_⟩
      refine key (Q1 := upd P1 dx (exd dx ((f, v) :: us))) (t1.wr (hP1 _ _ xa2)) (Go.wr t1 (hP1 _ _ xa2)) (same_uni (fun b o z => ?_) fun b o z1 z2 => ?_) (fun b => ?_) ⟨dx, _, by rw [upd_ne ne.symm]; exact xa1, upd_same, .cons rv fd, ne⟩
      · by_cases hd : b = dx
        · subst hd; rw [upd_same] at z ⊢; exact z
        · rw [upd_ne hd] at z ⊢; exact hP1 _ _ z
      · have hd : b ≠ dx := fun z => by rw [z, upd_same] at z1; cases z1
        rw [upd_ne hd]; exact hP2 _ _ z2
      · by_cases hd : b = dx
        · exact .inr (by rw [hd]; exact hd2)
        · rw [upd_ne hd]; exact d12 b⟩
end
end Mi

set_option Elab.async false
set_option linter.all false
set_option maxRecDepth 100000
set_option maxHeartbeats 4000000
namespace Mi
open PySem PySem.Spec PyProof.Rows L2 NdefX
def PostI (C x : Addr) (K : Fg) (I H : Hp) (Q : VK) : Except Er (List (Str × D)) → Prop
  | .ok fs => ∀ d us I' H', Same I' H' → Same I I' → (∀ b o, b ≠ x → H b = some o → H' b = some o) → (∀ b, I' b ≠ none → I b ≠ none ∨ H b = none) → I' x = none → I' d = none → H d = none → d ≠ x → H' x = some (exo x C (some d)) → H' d = some (exd d us) → FD K I' us fs → Q .non H'
  | .error _ => False
/-- the promise of an own exception's __init__ -/
def spInit {A : Type} [Args A] (K : Fg) (c : Str) (m : A → Except Er (List (Str × D))) : Sp := fun vs H Q _ => ∃ x ws a I, vs = .ref x :: ws ∧ H x = some (exo x (He.ga K c) none) ∧ Same I H ∧ I x = none ∧ Args.rep K I ws a ∧ PostI (He.ga K c) x K I H Q (m a)
def runX (m : R Unit (Out (List (Str × D)) Empty Unit)) : Except Er (List (Str × D)) := match m () with
  | .ok (.nx (p :: fs), _) => .ok (p :: fs)
  | _ => .error .stuck
theorem sat_last {I : Hp} : ∀ {g : Gam} {σ : L2.St} {O : Hp} {x y : Option V}, Sat (g ++ [.un]) (σ ++ [x]) I O → Sat (g ++ [.un]) (σ ++ [y]) I O
  | [], [], _, _, _, _ => trivial
  | [], _ :: σ, _, x, _, h => by
    have h : Sat [] (σ ++ [x]) I _ := h
    cases σ <;> exact h.elim
  | .un :: g, [], _, _, _, h => by
    have h : Sat (g ++ [.un]) [] I _ := h
    cases g with
    | nil => exact h.elim
    | cons s g => cases s <;> exact h.elim
  | .im _ _ :: g, [], _, _, _, h => by
    have h : Sat (g ++ [.un]) [] I _ := h.2
    cases g with
    | nil => exact h.elim
    | cons s g => cases s <;> exact h.elim
  | .ow _ _ :: g, [], _, _, _, ⟨_, _, _, _, _, _, _, _, h⟩ => by
    have h : Sat (g ++ [.un]) [] I _ := h
    cases g with
    | nil => exact h.elim
    | cons s g => cases s <;> exact h.elim
  | .un :: g, _ :: σ, _, _, _, h => sat_last (g := g) (σ := σ) h
  | .im _ _ :: g, _ :: σ, _, _, _, ⟨h0, h⟩ => ⟨h0, sat_last (g := g) (σ := σ) h⟩
  | .ow _ _ :: g, _ :: σ, _, _, _, ⟨v, O1, O2, h1, h2, h3, h4, h5, h⟩ => ⟨v, O1, O2, h1, h2, h3, h4, h5, sat_last (g := g) (σ := σ) h⟩
section
variable {P : Program} {w : World} {K : Fg} {mg : Str → Option Value} {base : Heap}
theorem ctx_ofN {k : Nat} {N : List Str} {F : NF} {f : Addr} {A : Around} {outer : List Env} {s : Shared} {H : Hp} {E : XK} (hr : Room k (A.deeper (envF F f s.heap.objs.size))) (nd : N.Nodup) : Ctx (ncx (L2.CX P w) P w K mg base N F f A outer s H E) (kE E) k :=
  have tk := takes_of (X := ncx (L2.CX P w) P w K mg base N F f A outer s H E) (E := E) rfl rfl rfl rfl
  ⟨fun σ => passAt tk σ, passes_of rfl, hr, nd, rfl, tk⟩
theorem xfn_ok {A' : Type} [ArgG A'] {F : NF} {f cc : Addr} {fd : FuncData} {c : Str} {ps : List Str} {k : Nat} {rest : List Stmt} {file : Str} {mb : A' → R Unit (Out (List (Str × D)) Empty Unit)} (FX : FunX K file F f (He.ga K c) cc fd) (T : OexA K (He.ga K c)) (SX : SupX F ps rest)
    (mgS : mg "super" = none) (hfile : ((P.main.file : Str) == file) = true) (htop : (P.main.scope.names.lookup ("super" : Str)).isSome = false) (hopq : PySem.W.nsIn K PySem.cStatics "thirdparty.any" = some none) (hn : ps.length = ArgG.n A')
    (hb : ∀ (A : Around) (outer : List Env) (s : Shared) (H : Hp) (E : XK), Ctx (ncx (L2.CX P w) P w K mg base (xN ps) F f A outer s H E) (kE E) k → ∀ (x : Addr) (a : A'),
      PB (ncx (L2.CX P w) P w K mg base (xN ps) F f A outer s H E) (kE E) Λ0 (resI (β := Unit) K) (fun _ => sX K (He.ga K c) x [] :: (ArgG.gam K a ++ [.un])) rest (fun fs _ => sX K (He.ga K c) x fs :: (ArgG.gam K a ++ [.un])) (mb a)) :
    FnOk P w K mg base (L2.CX P w) (k + 1) f fd (("self" : Str) :: ps) (spInit K c fun a => runX (mb a)) := by
  refine xinit_ok FX T SX mgS hfile htop hopq (fun vs H Q E h => ?_) fun A outer s H vs Q E hr h => ?_
  · obtain ⟨x, ws, a, I, rfl, _, _, _, r, _⟩ := h
    rw [List.length_cons, ArgG.ln (A := A') r, hn]
  · obtain ⟨x, ws, a, I, rfl, hx, e, hI, r, q⟩ := h
    refine ⟨x, ws, rfl, hx, _, hb A outer s H E (ctx_ofN hr SX.scope.nd) x a, (), I, upd noO x (exo x (He.ga K c) none), ⟨e, fun b o z => ?_, fun b => ?_⟩, ?_, ?_⟩
    · by_cases hb : b = x
      · subst hb; rw [upd_same] at z; rw [← z]; exact hx
      · rw [upd_ne hb] at z; cases z
    · by_cases hb : b = x
      · exact .inl (by rw [hb]; exact hI)
      · exact .inr (by rw [upd_ne hb]; rfl)
    · have hl : (V.ref x :: ws).length = ps.length + 1 := by rw [List.length_cons, ArgG.ln (A := A') r, hn]
      have e1 : startF (xN ps) (.ref x :: ws) [some (.ref (He.ga K c))] = some (.ref x) :: (ws.map some ++ [some (.ref (He.ga K c))]) := by
        unfold startF
        have : (xN ps).length - (V.ref x :: ws).length - [some (V.ref (He.ga K c))].length = 0 := by
          rw [hl]; show (ps ++ [("__class__" : Str)]).length + 1 - _ - 1 = 0
          rw [List.length_append]; simp
        rw [this]
        rfl
      rw [e1]
      refine ⟨.ref x, upd noO x (exo x (He.ga K c) none), noO, rfl, fun b => .inr rfl, fun _ _ z => z, fun _ _ z => (nomatch z), ⟨rfl, upd_same⟩, ?_⟩
      exact sat_last (ArgG.sat (A := A') 1 r)
    · have q : PostI (He.ga K c) x K I H Q (runX (mb a)) := q
      unfold runX at q
      cases em : mb a () with
      | error z => rw [em] at q; exact q.elim
      | ok p =>
        obtain ⟨o, u⟩ := p
        rw [em] at q
        cases o with
        | bk e => exact nomatch e
        | ct e => exact nomatch e
        | rt b => exact q.elim
        | nx fs =>
          cases fs with
          | nil => exact q.elim
          | cons p fs =>
            intro σ' I' O' H' t g sat
            obtain ⟨v, O1, O2, _, d12, s1, s2, ⟨rfl, d, us, xa1, xa2, fd', ne⟩, _⟩ := Sat.at_ow (i := 0) (R := fun I O v => v = .ref x ∧ XAt K (He.ga K c) x I O (p :: fs)) sat rfl
            have nx : O' x ≠ none := nn (s1 _ _ xa1)
            have nd : O' d ≠ none := nn (s1 _ _ xa2)
            have freeI : ∀ b, O' b ≠ none → I' b = none := fun b z => (t.dj b).resolve_right z
            have none_of : ∀ b, b ≠ x → upd noO x (exo x (He.ga K c) none) b = none := fun b hb => by rw [upd_ne hb]; rfl
            refine q d us I' H' t.si g.ext (fun b o hb z => g.keep b o z (none_of b hb)) (fun b z => ?_) (freeI x nx) (freeI d nd) ?_ ne (t.so _ _ (s1 _ _ xa1)) (t.so _ _ (s1 _ _ xa2)) fd'
            · rcases g.ni b z with y | y | y
              · exact .inl y
              · exact .inr y
              · by_cases hb : b = x
                · subst hb; exact absurd (freeI _ nx) z
                · exact absurd (none_of b hb) y
            · rcases g.no d nd with y | y
              · exact absurd (none_of d ne) y
              · exact y
/-- an own exception class, as raise sees it -/
structure Exn (P : Program) (w : World) (K : Fg) (mg : Str → Option Value) (base : Heap) (c : Str) (j : Nat) {A : Type} [ArgG A] (m : A → Except Er (List (Str × D))) : Prop where
  ex : ∃ fI fd ps, OexA K (He.ga K c) ∧ mg c = some (.ref (He.ga K c)) ∧ PySem.W.findIn K (.ref (He.ga K c)) "__init__" = some (some (.ref fI)) ∧ PySem.W.typeIn K (.ref fI) = some (.type "function") ∧ Binds K fd ps [] ∧ FnOk P w K mg base (L2.CX P w) j fI fd ps (spInit K c m)
end
def sraise {S β : Type} (c : Str) (m : Except Er (List (Str × D))) : R S β := fun _ => match m with
  | .ok fs => .error (.exc c fs)
  | .error _ => .error .stuck
theorem pb_raise {X : Cx} {E : EW} {S ρ τ β : Type} {Γ : S → Gam} {Λ : τ → S → Gam} {Res : S → Hp → Hp → V → β → Prop} {Δ : ρ → S → Gam} {pos pos' p : Pos} {rest : List Stmt} {k j : Nat} {A : Type} [ArgG A] {m : A → Except Er (List (Str × D))} {c : Str} {e : Expr} {es : List Expr} {ma : R S A}
    (Xn : Exn X.prog X.w X.K X.mg X.base c j m) (C : Ctx X E k) (ha : PAx X E Γ (e :: es) ma) (hk : j + 1 ≤ k := by decide) (hlen : ArgG.n A ≤ 1000 := by decide) (hg : Gl X c := by rfl) (hdb : (c == ("__debug__" : Str)) = false := by decide)
    (he : starEach (e :: es) X.env = (false, eval e X.env) :: starEach es X.env := by rfl) (hpl : (backTo pos (starEach es X.env)).any (·.1) = false := by rfl) :
    PB X E Λ Res Γ (.Raise (some (.Call (.Name c p) (e :: es) [] pos)) none pos' :: rest) Δ (sb ma fun a => sraise c (m a)) := by
  obtain ⟨fI, fd, ps, T, hm, iC, tI, bd, F1⟩ := Xn.ex
  refine (pss_cons (ps_raise C.calm C.tk (pmk_xex T iC tI F1 (C.room.mono hk) bd passL hg hm ha hdb he hpl)) pss_never).mono fun D σ H ⟨s, I, O, t, sat, q⟩ => ?_
  refine ⟨s, I, O, t, sat, q.bind.imp fun a I1 H1 ⟨_, s1, O1, t1, sat1, q1⟩ vs rv => ⟨by rw [ArgG.ln (A := A) rv]; exact hlen, fun a0 h0 => ⟨a0, vs ++ [], a, I1, rfl, upd_same, t1.si.trans (Same.upd_new h0), t1.fi h0, by rw [List.append_nil]; exact rv, ?_⟩⟩⟩
  unfold sraise at q1
  cases em : m a with
  | error z => rw [em] at q1; exact q1.elim
  | ok fs =>
    rw [em] at q1
    intro d us I' H' si ext kp ni ix id hd ne hx hdx fd'
    have hd1 : H1 d = none := by rw [upd_ne ne] at hd; exact hd
    have up1 : ∀ b o, H1 b = some o → H' b = some o := fun b o z => kp b o (L2.ne_of_none z h0) (by rw [upd_ne (L2.ne_of_none z h0)]; exact z)
    have H2 : ∀ b o, b ≠ a0 → b ≠ d → H' b = some o → (upd (del H' a0) d (.xd us)) b = some o := fun b o h1 h2 z => by rw [upd_ne h2, del_ne h1]; exact z
    have up2 : ∀ b o, H1 b = some o → (upd (del H' a0) d (.xd us)) b = some o := fun b o z => H2 b o (L2.ne_of_none z h0) (L2.ne_of_none z hd1) (up1 b o z)
    have nI : ∀ b, I' b ≠ none → I1 b ≠ none ∨ H1 b = none := fun b z => (ni b z).imp id' fun y => by
      by_cases hb : b = a0
      · subst hb; exact h0
      · rw [upd_ne hb] at y; exact y
    have hI1d : I1 d = none := t1.fi hd1
    have k := Same.upd_new (o := HO.xd us) id
    refine ⟨rfl, d, us, hx, hdx, hd1, q1 d (upd I' d (.xd us)) O1 _ ⟨fun b o z => ?_, fun b o z => up2 b o (t1.so b o z), fun b => ?_⟩ ⟨fun b o z _ => up2 b o z, ext.trans k, fun b z => ?_, fun b z => .inl z⟩ ⟨us, upd_same, FD.up k fd'⟩⟩
    · by_cases hb : b = d
      · subst hb; rw [upd_same] at z ⊢; exact z
      · rw [upd_ne hb] at z
        exact H2 b o (fun y => by rw [y, ix] at z; cases z) hb (si b o z)
    · by_cases hb : b = d
      · exact .inr (by rw [hb]; exact t1.so.free hd1)
      · rw [upd_ne hb]
        cases z : I' b with
        | none => exact .inl rfl
        | some o =>
          rcases nI b (nn z) with y | y
          · exact .inr ((t1.dj b).resolve_left y)
          · exact .inr (t1.so.free y)
    · by_cases hb : b = d
      · exact .inr (.inl (by rw [hb]; exact hd1))
      · rw [upd_ne hb] at z
        exact (nI b z).imp id' .inl
where id' {p : Prop} (h : p) : p := h
end Mi

set_option Elab.async false
set_option linter.all false
set_option maxRecDepth 100000
set_option maxHeartbeats 4000000
namespace Mi
open PySem PySem.Spec PyProof.Rows L2 NdefX
/-! ### try .. except C as e -/
def Gam.ims : Gam → Gam
  | [] => []
  | .im P u :: g => .im P u :: Gam.ims g
  | _ :: g => .un :: Gam.ims g
theorem Sat.ims {I I' O O' : Hp} (e : Same I I') : ∀ {g : Gam} {σ : L2.St} {O : Hp}, Sat g σ I O → Sat g.ims σ I' O'
  | [], [], _, _ => trivial
  | .un :: g, _ :: σ, _, h => Sat.ims e (O := O) (g := g) h
  | .im P u :: g, _ :: σ, _, ⟨⟨v, h1, h2⟩, h⟩ => ⟨⟨v, h1, u _ _ _ e h2⟩, Sat.ims e (O := O) (g := g) h⟩
  | .ow _ _ :: g, _ :: σ, _, ⟨_, _, _, _, _, _, _, _, h⟩ => Sat.ims e (O := O) (g := g) h
/-- a caught exception: at a, its dict d, its fields -/
def sE (K : Fg) (a : Addr) (d : Option Addr) (fs : List (Str × D)) : Slot := .im (fun I v => v = .ref a ∧ ∃ dd us, d = some dd ∧ I dd = some (.xd us) ∧ FD K I us fs) fun _ _ _ e ⟨h1, dd, us, h2, h3, h4⟩ => ⟨h1, dd, us, h2, e _ _ h3, FD.up e h4⟩
/-- classes: x itself is caught, these others are not -/
def exOf (x : Str) (others : List Str) (c : Str) : Option Bool := if c = x then some true else if c ∈ others then some false else none
structure ExO (K : Fg) (mg : Str → Option Value) (x : Str) (others : List Str) : Prop where
  yes : PySem.W.exmOne K (.ref (He.ga K x)) (.ref (He.ga K x)) = some true
  no : ∀ o ∈ others, PySem.W.exmOne K (.ref (He.ga K o)) (.ref (He.ga K x)) = some false
  glo : mg x = some (.ref (He.ga K x))
  xf : XfC K (He.ga K x)
theorem exOf_ok {K : Fg} {mg : Str → Option Value} {x : Str} {others : List Str} (h : ExO K mg x others) {c : Str} {b : Bool} (e : exOf x others c = some b) : PySem.W.exmOne K (.ref (He.ga K c)) (.ref (He.ga K x)) = some b ∧ (b = true → c = x) := by
  unfold exOf at e
  split at e
  · rename_i z
    cases e
    exact ⟨by rw [z]; exact h.yes, fun _ => z⟩
  · split at e
    · rename_i z
      cases e
      exact ⟨h.no _ z, fun z => (nomatch z)⟩
    · cases e
def noexc {S α : Type} (m : R S α) : R S α := fun s => match m s with
  | .error _ => .error .stuck
  | r => r
def mtry {ρ τ β : Type} (body : R Unit (Out ρ τ β)) (ex : Str → Option Bool) (h : List (Str × D) → R Unit (Out ρ τ β)) : R Unit (Out ρ τ β) := fun s => match body s with
  | .error (.exc c fs) => (match ex c with
    | some true => noexc (h fs) ()
    | some false => .error (.exc c fs)
    | none => .error .stuck)
  | r => r
section
variable {X : Cx} {S ρ ρ1 τ β : Type} {Γ : Unit → Gam} {Λ : τ → Unit → Gam} {Res : Unit → Hp → Hp → V → β → Prop} {Δ : ρ → Unit → Gam} {Δ1 : ρ1 → Unit → Gam} {pos pos' np : Pos} {rest : List Stmt} {k : Nat}
theorem pb_try {E : XK} (i : Nat) {x n : Str} {others : List Str} {body suite : List Stmt} {b0 : Stmt} {mb : R Unit (Out ρ1 τ β)} {hm : List (Str × D) → R Unit (Out ρ1 τ β)} {kk : ρ1 → R Unit (Out ρ τ β)} (C : Ctx X (kE E) k) (Z : ExO X.K X.mg x others)
    (hb : ∀ (W : WX) (pn : List (Addr × Obj)) (xe : Value → Shared → Prop), Ctx (X.tr pn xe) (WE W) k → PB (X.tr pn xe) (WE W) Λ Res Γ body Δ1 mb)
    (hs : ∀ (a : Addr) (oe : Obj) (d : Option Addr) (pn : List (Addr × Obj)) (fs : List (Str × D)), Zc (.ref (He.ga X.K x)) d oe → (∃ vs, oe.data = .fields vs) →
      PB (X.suite a ((a, oe) :: pn)) (kE E0) Λ Res (fun _ => ((Γ ()).ims).put i (sE X.K a d fs)) (b0 :: suite) (fun r s => (Δ1 r s).put i .un) (hm fs))
    (hk : ∀ r, PB X (kE E) Λ Res (Δ1 r) rest Δ (kk r)) (hu : ∀ r s, (Δ1 r s).put i .un = Δ1 r s := by exact fun _ _ => rfl) (hnt : ∀ t : τ, False)
    (hst : X.stack = X.env :: X.outer := by rfl) (hf : X.env.frame = some X.env.locals := by rfl) (hi : X.N[i]? = some n := by rfl) (hln : X.env.kindOf n = some .local := by rfl) (hg : Gl X x := by rfl) (hd : (x == ("__debug__" : Str)) = false := by decide) :
    PB X (kE E) Λ Res Γ (.Try body [.ExceptHandler (some (.Name x np)) (some n) (b0 :: suite) pos'] [] [] pos :: rest) Δ (obd (mtry mb (exOf x others) hm) kk) := by
  have ts := ps_try_as (X := X) (i := i) (pos := pos) (pos' := pos') (np := np) (tb := fun W => tB X.K (WE W) Λ Res Γ Δ1 mb) (ts := fun a cls d D σ H => ∃ fs, cls = .ref (He.ga X.K x) ∧ tB X.K (kE E0) Λ Res (fun _ => ((Γ ()).ims).put i (sE X.K a d fs)) (fun r s => (Δ1 r s).put i .un) (hm fs) D σ H)
    hst hf C.nd hi hln ⟨hg, hd, .inl Z.glo⟩ C.tk (fun W pn xe tk own => hb W pn xe ⟨fun σ => passAt tk σ, own, C.room, C.nd, C.calm, tk⟩)
    (fun a oe cls d pn hz hv => ⟨fun pins s σ H D I h => by
      obtain ⟨fs, rfl, h⟩ := h
      exact (hs a oe d pn fs hz hv).run pins s σ H D I h⟩)
  refine (pss_cons ts (L2.PSs.ex hk)).mono fun D σ H ⟨s, I, O, t, sat, q⟩ => ?_
  have q1 := q.first (Δ1 := Δ1)
  refine ⟨s, I, O, t, sat, ?_⟩
  unfold mtry at q1
  cases em : mb s with
  | ok p =>
    rw [em] at q1
    obtain ⟨o, u⟩ := p
    cases o <;> exact q1
  | error z =>
    rw [em] at q1
    cases z with
    | stuck => exact q1
    | exc c fs =>
      intro d I' O' H' t' g' xd
      obtain ⟨us, xd1, xd2⟩ := xd
      cases ex : exOf x others c with
      | none => dsimp only at q1; rw [ex] at q1; exact q1.elim
      | some b =>
        obtain ⟨e1, e2⟩ := exOf_ok Z ex
        dsimp only at q1
        rw [ex] at q1
        refine ⟨b, e1, fun hb1 a ha => ?_, fun hb1 => ?_⟩
        · subst hb1
          rw [e2 rfl]
          refine ⟨fs, rfl, (), I', noO, t'.drop (fun _ _ z => (nomatch z)), Sat.put_im (P := fun I v => v = .ref a ∧ ∃ dd us, some d = some dd ∧ I dd = some (.xd us) ∧ FD X.K I us fs) ⟨rfl, d, us, rfl, xd1, xd2⟩ (Sat.ims (O := O) g'.ext sat), ?_⟩
          have q2 := (q1.shift g').shift (Go.drop (O2 := noO) (O := O') (I := I') (H := H') fun _ _ z => (nomatch z))
          dsimp only at q2 ⊢
          unfold noexc at q2
          cases eh : hm fs () with
          | error z => rw [eh] at q2; exact q2.elim
          | ok p =>
            obtain ⟨o, u⟩ := p
            rw [eh] at q2
            cases o with
            | bk e => exact (hnt e).elim
            | ct e => exact (hnt e).elim
            | rt b => exact q2
            | nx r =>
              intro σ' I1 O1 H1 t1 g1 s1
              refine q2 (σ'.set i none) I1 O1 H1 t1 g1 ?_
              have s2 := Sat.put_un (x := none) (i := i) s1
              rw [Gam.put_put, hu] at s2
              exact s2
        · subst hb1
          exact q1 d I' O' H' t' g' ⟨us, xd1, xd2⟩
end
end Mi

set_option Elab.async false
set_option linter.all false
set_option maxRecDepth 100000
set_option maxHeartbeats 4000000
namespace Mi
open PySem PySem.Spec PyProof.Rows L2 NdefX
theorem FD.look {K : Fg} {I : Hp} {f : Str} {x : D} : ∀ {us : List (Str × V)} {fs : List (Str × D)}, FD K I us fs → fs.lookup f = some x → ∃ v, us.lookup f = some v ∧ RD K I v x
  | _, _, .nil, h => by cases h
  | _, _, .cons (f := g) (v := v) r q, h => by
    by_cases e : f = g
    · subst e
      simp [List.lookup] at h ⊢
      rw [← h]; exact r
    · have e' : (f == g) = false := by simpa using e
      simp [List.lookup, e'] at h ⊢
      exact FD.look q h
section
variable {X : Cx} {S ρ τ β α : Type} {pos pos' p : Pos} {rest : List Stmt} {k : Nat}
/-- e.f, e the caught exception -/
theorem px_xf {E : EW} {Γ : S → Gam} {Y : Cx} {a : Addr} {oe : Obj} {d : Option Addr} {pn : List (Addr × Obj)} {fs : List (Str × D)} (i : Nat) {n f c : Str} (T : XfC Y.K (He.ga Y.K c)) (hno : PySem.W.findIn Y.K (.ref (He.ga Y.K c)) f = some none) (hz : Zc (.ref (He.ga Y.K c)) d oe)
    (hf : ∃ vs, oe.data = .fields vs) (hg : ∀ s, (Γ s).at i = sE Y.K a d fs) (hN : Y.N[i]? = some n := by rfl) (hv : Vis Y.env.scope n := by first | exact Or.inl rfl | exact Or.inr (Or.inl rfl) | exact Or.inr (Or.inr rfl))
    (hd : (n == ("__debug__" : Str)) = false := by decide) (hcd : (n == ("__classdict__" : Str)) = false := by decide) (hb : attributeBase (.Name n p) f Y.env (eval (.Name n p) Y.env) = eval (.Name n p) Y.env := by rfl) :
    PX (Y.suite a ((a, oe) :: pn)) E Γ (.Attribute (.Name n p) f pos) (so (fs.lookup f)) :=
  L2.PE.mono (pe_xf (X := Y) T hno hz hf (pe_var (X := Y.suite a ((a, oe) :: pn)) (i := i) hN hv hd hcd) hb) fun σ H Q ⟨s, I, O, t, sat, h⟩ => by
    obtain ⟨v, e1, rfl, dd, us, e2, e3, e4⟩ := sat.at_im (hg s)
    obtain ⟨x, e5, q⟩ := h.some_
    obtain ⟨v, e6, r⟩ := FD.look e4 e5
    exact ⟨_, e1, rfl, rfl, dd, us, v, e2, t.si _ _ e3, e6, q.at_ t sat v r⟩
variable {Γ : S → Gam} {Λ : τ → S → Gam} {Res : S → Hp → Hp → V → β → Prop} {Δ : ρ → S → Gam}
/-- name = e, where nothing of the context is known but its names -/
theorem pb_setN {E : XK} (i : Nat) {x : Str} {e : Expr} [Enc α] {m : R S α} {kk : α → R S (Out ρ τ β)} (nd : X.N.Nodup) (he : PX X (kE E) Γ e m) (hk : ∀ a, PB X (kE E) Λ Res (fun s => (Γ s).put i (sI X.K a)) rest Δ (kk a))
    (hi : X.N[i]? = some x := by rfl) (hx : Loc X.env.scope x := by first | exact Or.inl rfl | exact Or.inr rfl) (hs : swapsWith e (some (.Name x pos')) pos.line X.env = pure false := by rfl) (hf : X.fn x = true ∨ X.env.scope.names.lookup x = some .local := by first | exact .inl rfl | exact .inr rfl) :
    PB X (kE E) Λ Res Γ (.Assign [.Name x pos'] e pos :: rest) Δ (sb m kk) :=
  (pss_cons (ps_set nd hi hx he hs hf) (L2.PSs.ex hk)).mono fun D σ H ⟨s, I, O, t, sat, q⟩ => ⟨s, I, O, t, sat, q.bind.imp fun a I1 H1 ⟨_, s1, O1, t1, sat1, h1⟩ v rv => ⟨a, s1, I1, O1, t1, sat1.put_im rv, h1⟩⟩
theorem PostB.noexc {K : Fg} {E E' : XK} {I O H : Hp} {D : Ends} {m : R S (Out ρ τ β)} {s : S} (h : PostB K E Λ Res Δ I O H D (Mi.noexc m s)) : PostB K E' Λ Res Δ I O H D (m s) := by
  unfold Mi.noexc at h
  cases e : m s with
  | error z => rw [e] at h; exact h.elim
  | ok p =>
    rw [e] at h
    obtain ⟨o, u⟩ := p
    cases o <;> exact h
/-- name = e in a try's body: behind it nothing is raised -/
theorem pb_setT {E : EW} (i : Nat) {x : Str} {e : Expr} [Enc α] {m : R S α} {kk : α → R S (Out ρ τ β)} (C : Ctx X E k) (he : PX X E Γ e m) (hk : ∀ a, PB X (kE E0) Λ Res (fun s => (Γ s).put i (sI X.K a)) rest Δ (kk a))
    (hi : X.N[i]? = some x := by rfl) (hx : Loc X.env.scope x := by first | exact Or.inl rfl | exact Or.inr rfl) (hs : swapsWith e (some (.Name x pos')) pos.line X.env = pure false := by rfl) (hf : X.fn x = true ∨ X.env.scope.names.lookup x = some .local := by first | exact .inl rfl | exact .inr rfl) :
    PB X E Λ Res Γ (.Assign [.Name x pos'] e pos :: rest) Δ (sb m fun a => Mi.noexc (kk a)) :=
  (pss_cons (ps_set C.nd hi hx he hs hf) (L2.PSs.ex hk)).mono fun D σ H ⟨s, I, O, t, sat, q⟩ => ⟨s, I, O, t, sat, q.bind.imp fun a I1 H1 ⟨_, s1, O1, t1, sat1, h1⟩ v rv => ⟨a, s1, I1, O1, t1, sat1.put_im rv, PostB.noexc h1⟩⟩
end
end Mi
namespace Mi
open PySem PySem.Spec PyProof.Rows L2 NdefX
theorem Ctx.c0 {X : Cx} {E : EW} {k : Nat} (C : Ctx X E k) : Ctx X (kE E0) k := ⟨fun σ pins H s e s' I c => passL pins σ H s e s' I c, C.own, C.room, C.nd, C.calm, takesE0⟩
end Mi

set_option Elab.async false
set_option linter.all false
set_option maxRecDepth 100000
set_option maxHeartbeats 4000000
/-! the head's facts: any Bool of the read part of the heap, and the defs -/
namespace Mi
open PySem PySem.Spec PyProof.Rows L2
open NdefX
abbrev FaB := Fg → Bool
/-- an own exception's __init__: its class, its text -/
structure XDef where
  c : Str
  qual : Str
  params : Arguments
  body : List Stmt
  scope : Scope
abbrev FnX : Type := Option (Str × Str × Arguments × FuncBody × Scope × Addr × List Str × Addr)
abbrev initAd (K : Fg) (c : Str) : Addr := He.ma K (He.ga K c) "__init__"
def fnx (K : Fg) (c : Str) : FnX := match K.lookup (initAd K c) with
  | some ⟨_, _, .func fd, _⟩ => some (fd.name, fd.qualname, fd.params, fd.body, fd.scope, fd.globals, fd.closure.map (·.1), fd.builtins)
  | _ => none
def XDef.val (d : XDef) : FnX := some ("__init__", d.qual, d.params, .stmts d.body, d.scope, mainGlobals, [("__class__" : Str)], builtinsNs)
def xokB (file : Str) (c qual : Str) (K : Fg) : Bool := match K.lookup (initAd K c) with
  | some ⟨_, _, .func fd, _⟩ => (match fd.closure, fd.defaults, fd.kwdefaults, fd.annotations, fd.code with
    | [(_, cc)], .none, .none, none, .ref cda => PySem.W.codeIn K (.ref cda) qual && ((match K.lookup cc with
      | some ⟨_, _, .cell (some (.ref D)), _⟩ => decide (D = He.ga K c)
      | _ => false) && (match K.lookup cda with
      | some ⟨_, _, .fields vs, _⟩ => (match (vs[2]? : Option Value) with
        | some (.str fl _) => decide (fl = file)
        | _ => false)
      | _ => false))
    | _, _, _, _, _ => false)
  | _ => false
theorem funX_of {K : Fg} {d : XDef} {file : Str} (e : fnx K d.c = d.val) (b : xokB file d.c d.qual K = true) : ∃ cc cda fd, FunX K file ⟨"__init__", d.qual, d.params, d.body, d.scope, [(("__class__" : Str), cc)], cda⟩ (initAd K d.c) (He.ga K d.c) cc fd := by
  unfold fnx at e
  unfold xokB at b
  cases q : K.lookup (initAd K d.c) with
  | none => rw [q] at b; cases b
  | some o =>
    obtain ⟨oc, od, dt, osl⟩ := o
    rw [q] at b e
    cases dt with
    | func fd =>
      obtain ⟨n1, n2, n3, n4, n5, n6, n7, n8, n9, n10, n11, n12, n13, n14, n15⟩ := fd
      have e2 : (some (n1, n2, n3, n4, n5, n6, n7.map (·.1), n15) : FnX) = some (("__init__" : Str), d.qual, d.params, FuncBody.stmts d.body, d.scope, mainGlobals, [("__class__" : Str)], builtinsNs) := e
      simp only [Option.some.injEq, Prod.mk.injEq] at e2
      obtain ⟨h1, h2, h3, h4, h5, h6, h7, h8⟩ := e2
      subst h1 h2 h3 h4 h5 h6 h8
      dsimp only at b
      split at b
      · rename_i x0 x cc cda
        have hx : x = ("__class__" : Str) := (List.cons.inj h7).1
        subst hx
        obtain ⟨b1, b2⟩ := Bool.and_eq_true_iff.mp b
        obtain ⟨b3, b4⟩ := Bool.and_eq_true_iff.mp b2
        refine ⟨cc, cda, _, ⟨oc, od, n10, n11, n14, osl, rfl, q⟩, b1, rfl, ?_, ?_⟩
        · split at b3
          · rename_i y1 y2 D y3 hc
            rw [of_decide_eq_true b3] at hc
            exact ⟨_, _, _, hc⟩
          · cases b3
        · split at b4
          · rename_i y1 y2 vs y3 hc
            split at b4
            · rename_i fl tf hv
              rw [of_decide_eq_true b4] at hv
              exact ⟨_, _, vs, _, tf, hc, hv⟩
            · cases b4
          · cases b4
      · cases b
    | _ => cases b
abbrev AlM : Type := He.AlD × List FnX
def obsM (ex : List FaB) (fn : List He.DefD) (xs : List XDef) (K : Fg) : AlM := ((ex.all (· K) && fn.all (He.DefD.ok K), fn.map fun d => He.fnW K d.at_), xs.map fun d => fnx K d.c)
def valM (fn : List He.DefD) (xs : List XDef) : AlM := (He.valD fn, xs.map XDef.val)
def SaysM (ex : List FaB) (fn : List He.DefD) (xs : List XDef) (K : Fg) : Prop := obsM ex fn xs K = valM fn xs
def asM (g : Addr → Option Obj) : Nat → List Addr
  | 0 => [mainGlobals, cStatics]
  | n + 1 => He.growD g (asM g n)
def obsMG (n : Nat) (ex : List FaB) (fn : List He.DefD) (xs : List XDef) (g : Addr → Option Obj) : AlM := obsM ex fn xs (He.frG g (asM g n))
def hookM (n : Nat) (ex : List FaB) (fn : List He.DefD) (xs : List XDef) : PySem.W.Hook :=
  { α := AlM, obs := fun s => obsMG n ex fn xs s.heap.get?, val := fun _ => valM fn xs,
    says := fun _ h => ∃ K : Fg, K.In h ∧ SaysM ex fn xs K, of := fun _ _ e => ⟨_, He.frG_in, e⟩,
    keeps := fun _ _ _ ⟨K, h1, h2⟩ k => ⟨K, PySem.W.Frag.In.keeps h1 k, h2⟩ }
theorem obsMG_eq {n : Nat} {ex : List FaB} {fn : List He.DefD} {xs : List XDef} {g : Addr → Option Obj} {s : Shared} (h : ∀ a, g a = s.heap.get? a) : obsMG n ex fn xs g = (hookM n ex fn xs).obs s :=
  congrArg (obsMG n ex fn xs) (funext h)
section
variable {ex : List FaB} {fn : List He.DefD} {xs : List XDef} {K : Fg}
theorem SaysM.both (c : SaysM ex fn xs K) : ex.all (· K) = true ∧ fn.all (He.DefD.ok K) = true := He.ba (congrArg (fun z : AlM => z.1.1) c)
theorem SaysM.fact (c : SaysM ex fn xs K) (i : Nat) {f : FaB} (h : ex[i]? = some f := by rfl) : f K = true := List.all_eq_true.mp c.both.1 f (List.mem_of_getElem? h)
theorem SaysM.def_ (c : SaysM ex fn xs K) (i : Nat) {d : He.DefD} (h : fn[i]? = some d := by rfl) : ∃ fd, FunD K d.name d.qual d.params d.body d.scope (d.dvs K) (d.kws K) (He.fAd K d.at_) fd := by
  have e : fn.map (fun d => He.fnW K d.at_) = fn.map He.DefD.val := congrArg (fun z : AlM => z.1.2) c
  have e1 := congrArg (fun z => z[i]?) e
  simp only [List.getElem?_map, h, Option.map_some, Option.some.injEq] at e1
  exact He.DefD.funD e1 (List.all_eq_true.mp c.both.2 d (List.mem_of_getElem? h))
theorem SaysM.xdef (c : SaysM ex fn xs K) (i : Nat) {d : XDef} (h : xs[i]? = some d := by rfl) : fnx K d.c = d.val := by
  have e : xs.map (fun d => fnx K d.c) = xs.map XDef.val := congrArg (fun z : AlM => z.2) c
  have e1 := congrArg (fun z => z[i]?) e
  simp only [List.getElem?_map, h, Option.map_some, Option.some.injEq] at e1
  exact e1
end
/-- the j-th statement of a class's body -/
def clsM (s : Stmt) (j : Nat) : Stmt := match s with
  | .ClassDef _ _ _ b _ _ _ _ _ _ _ => b.getD j (.Pass ⟨0, 0, 0, 0⟩)
  | _ => .Pass ⟨0, 0, 0, 0⟩
/-- what of the read part an own exception class needs, beside its __init__'s text -/
def exnB (c : Str) (K : Fg) : Bool := oexAB K (He.ga K c) && (decide (PySem.W.findIn K (.ref (He.ga K c)) "__init__" = some (some (.ref (initAd K c)))) && (decide (PySem.W.typeIn K (.ref (initAd K c)) = some (.type "function")) && xfB K (He.ga K c)))
theorem exnB_ok {c : Str} {K : Fg} (h : exnB c K = true) : OexA K (He.ga K c) ∧ PySem.W.findIn K (.ref (He.ga K c)) "__init__" = some (some (.ref (initAd K c))) ∧ PySem.W.typeIn K (.ref (initAd K c)) = some (.type "function") ∧ XfC K (He.ga K c) := by
  unfold exnB at h
  simp only [Bool.and_eq_true, decide_eq_true_eq] at h
  exact ⟨oexA_of h.1, h.2.1, h.2.2.1, xfB_ok h.2.2.2⟩
def fldB (c f : Str) (K : Fg) : Bool := decide (PySem.W.takerIn K (He.ga K c) f = some none) && decide (PySem.W.findIn K (.ref (He.ga K c)) f = some none)
theorem fldB_ok {c f : Str} {K : Fg} (h : fldB c f K = true) : PySem.W.takerIn K (He.ga K c) f = some none ∧ PySem.W.findIn K (.ref (He.ga K c)) f = some none := by
  unfold fldB at h
  simp only [Bool.and_eq_true, decide_eq_true_eq] at h
  exact h
/-! ### constants -/
section
variable {K : Fg} {h : Heap} {mg : Str → Option Value} (X : K.In h) (G : h.Ns mainGlobals mg)
include X G
theorem con_str {x z : Str} (c : (He.Fa.str x z).ok K = true) : Con1 K mg x (z : Str) := by
  obtain ⟨t, e⟩ := He.str_ok X G c
  exact ⟨_, .str z, e, ⟨t, rfl⟩, fun _ => rfl⟩
theorem con_int {x : Str} {i : Int} (c : (He.Fa.int x i).ok K = true) : Con1 K mg x (i : Int) := by
  obtain ⟨t, e⟩ := He.int_ok X G c
  exact ⟨_, .int i, e, ⟨t, rfl⟩, fun _ => rfl⟩
theorem con_fr {x : Str} {i j : Int} (c : (He.Fa.glo x).ok K = true) (c2 : He.tupB K x [.int i, .int j] = true) : Con1 K mg x ((i, j) : Int × Int) :=
  ⟨_, .ref (He.ga K x), He.glo_ok X G c, rfl, fun I => ⟨_, _, _, rfl, He.tupB_ok c2 I, rfl, rfl⟩⟩
theorem con_strs {x : Str} {zs : List Str} (c : (He.Fa.glo x).ok K = true) (c2 : He.tupB K x (zs.map He.Dv.str) = true) : Con1 K mg x (Tu.mk zs : Tu Str) :=
  ⟨_, .ref (He.ga K x), He.glo_ok X G c, rfl, fun I => ⟨_, _, rfl, He.tupB_ok c2 I, by
    have all : ∀ ys : List Str, All2 (Enc.rep K I) ((ys.map He.Dv.str).map (He.Dv.v K)) ys := fun ys => by
      induction ys with
      | nil => exact trivial
      | cons y ys ih => exact ⟨rfl, ih⟩
    exact all zs⟩⟩
end
/-! ### the end -/
theorem walk_ofM {law : PySem.W.OpenLaw} {n k : Nat} {view : Program} {loose : List Str} {XP : (Str → Option Value) → Heap → Prop} {YP : World → Heap → Prop} {d : DefRec} {x : Str} (hn : law.most = some n) (small : n ≤ sizeLine) (nodef : d.params.defaults = []) (room : Room k callerA)
    (F : ∀ (w : World) (mg : Str → Option Value) (fa : Addr) (h : Heap), YP w h → h.Ns mainGlobals mg → mg d.name = some (.ref fa) → ∃ (K : Fg) (fd : FuncData) (f : Ro Int × Unit → Except Er Bool), K.In h ∧ (∀ ns, ns.length ≤ n → f (⟨ns⟩, ()) = .ok true) ∧
      (∀ (s : Shared) (u : Value), BindsTo s fd ⟨[u], []⟩ [(x, u)]) ∧ ∀ base : Heap, K.In base → base.Ns mainGlobals mg → FnOk law.prog w K mg base (L2.CX law.prog w) k fa fd [x] (spF K f)) :
    PySem.W.WalkO view loose XP YP law.row.toRowW d [] (fun f vs => PySem.call f vs) := by
  refine Att.attach_call hn nodef fun w s0 s1 mg mb fa o pm cd doc a vs ns G Y ho hd hcd hmg hobj hints hlen hg => ?_
  obtain ⟨K, fd, f, KX, hf, hb, hF⟩ := F w mg fa _ Y G.T.g hmg
  refine law_call (CX := L2.CX law.prog w) KX G.T.g G.T.b G.T.builtins G.T.nolimit hg hobj hints (Nat.le_trans hlen small) room hF hb (fun H only sq => ?_) fun H e s' c => ?_
  · refine ⟨(⟨ns⟩, ()), H, Same.refl H, ⟨_, [], rfl, ⟨a, ns.map V.int, rfl, sq, ?_⟩, rfl⟩, ?_⟩
    · have all : ∀ ms : List Int, All2 (Enc.rep K H) (ms.map V.int) ms := fun ms => by
        induction ms with
        | nil => exact trivial
        | cons y ys ih => exact ⟨rfl, ih⟩
      exact all ns
    · rw [hf ns hlen]
      exact fun v I' O' H' _ _ r => r
  · obtain ⟨_, _, _, _, _, _, _, _, _, _, _, _, z⟩ := c
    exact z.elim
end Mi
set_option Elab.async false
set_option linter.all false
set_option maxRecDepth 100000
set_option maxHeartbeats 4000000
namespace Lw
open PySem PySem.Spec PyProof.Rows L2 Mi
def topS (i : Nat) : Stmt := PySem.Challenge.pw_everylot_k02_fractions_reckoned.main.body.getD i (.Pass ⟨0, 0, 0, 0⟩)
open NdefX
def theFile : Str := PySem.Challenge.pw_everylot_k02_fractions_reckoned.main.file
def own_copy_b (value : D) : R Unit (Out Unit Empty D) := (obd (sIf (sb (sr value) fun d => so (isTy "list" d)) (sx .stuck) (sr (.nx ()))) fun (r1 : Unit) => (obd (sIf (sb (sr value) fun d => so (isTy "tuple" d)) (sx .stuck) (sr (.nx ()))) fun (r2 : Unit) => (obd (sIf (sb (sr value) fun d => so (isTy "dict" d)) (sx .stuck) (sr (.nx ()))) fun (r3 : Unit) => (sb (sr value) fun x => sr (.rt x)))))
def own_copy (value : D) : Except Er D := runF (own_copy_b value)
def InvalidFraction_b (name : Str) : R Unit (Out (List (Str × D)) Empty Unit) := (sb (sb (sb (sb (sr name) fun z => sr (toD z)) fun x => sb (sr ()) fun a => sr (x, a)) fun a => sl (own_copy a.1)) fun d0 => (sr (.nx [(("name" : Str), d0)])))
def mk_InvalidFraction (name : Str) : Except Er (List (Str × D)) := runX (InvalidFraction_b name)
def is_integer_b (value : D) : R Unit (Out Unit Empty Bool) := (sb (sAnd (sb (sr value) fun d => so (isTy "int" d)) (sb (sb (sr value) fun d => so (isTy "bool" d)) fun x => sr (!x))) fun x => sr (.rt x))
def is_integer (value : D) : Except Er Bool := runF (is_integer_b value)
def is_fraction_b (value : D) : R Unit (Out Unit Empty Bool) := (obd (sIf (sb (sb (sr value) fun x => sb (sr ()) fun a => sr (x, a)) fun a => sl (is_integer a.1)) (sb (sr true) fun x => sr (.rt x)) (sr (.nx ()))) fun (r1 : Unit) => (obd (sIf (sOr (sb (sb (sr value) fun d => so (isTy "tuple" d)) fun x => sr (!x)) (sb (sb (sr value) fun x => so (dlen x)) fun x => sb (sr (2 : Int)) fun y => sr (!decide (x = y)))) (sb (sr false) fun x => sr (.rt x)) (sr (.nx ()))) fun (r2 : Unit) => (sb (sAnd (sb (sb (sb (sr value) fun x => sb (sr (0 : Int)) fun i => so (dix x i)) fun x => sb (sr ()) fun a => sr (x, a)) fun a => sl (is_integer a.1)) (sAnd (sb (sb (sb (sr value) fun x => sb (sr (1 : Int)) fun i => so (dix x i)) fun x => sb (sr ()) fun a => sr (x, a)) fun a => sl (is_integer a.1)) (sb (sb (sb (sr value) fun x => sb (sr (1 : Int)) fun i => so (dix x i)) fun z => so (ofD z : Option Int)) fun x => sb (sr (1 : Int)) fun y => sr (decide (y ≤ x))))) fun x => sr (.rt x))))
def is_fraction (value : D) : Except Er Bool := runF (is_fraction_b value)
def reduced_b (p : Int) (q : Int) : R Unit (Out Unit Empty (Int × Int)) := (sb (sb (sr p) fun x => sr (if x < 0 then -x else x)) fun one1 => (sb (sr q) fun other2 => (obd (whL (fun (r3 : (Int × Int)) => (sb (sr r3.2) fun x => sb (sr (0 : Int)) fun y => sr (!decide (x = y)))) (fun (r3 : (Int × Int)) => (sb (sb (sr r3.2) fun x => sb (sb (sb (sr r3.1) fun x => sb (sr r3.2) fun y => so (pmod x y)) fun x => sb (sr ()) fun a => sr (x, a)) fun a => sr (x, a)) fun p4 => (sr (.nx (p4.1, p4.2.1))))) (other2.natAbs + 1) (one1, other2)) fun (r3 : (Int × Int)) => (sb (sb (sb (sb (sr p) fun x => sb (sr r3.1) fun y => so (pdiv x y)) fun x => sb (sb (sb (sr q) fun x => sb (sr r3.1) fun y => so (pdiv x y)) fun x => sb (sr ()) fun a => sr (x, a)) fun a => sr (x, a)) fun a => sr (a.1, a.2.1)) fun x => sr (.rt x)))))
def reduced (p : Int) (q : Int) : Except Er (Int × Int) := runF (reduced_b p q)
def told_b (value : D) : R Unit (Out Unit Empty (Int × Int)) := (obd (sIf (sb (sb (sr value) fun x => sb (sr ()) fun a => sr (x, a)) fun a => sl (is_integer a.1)) (sb (sb (sb (sb (sr value) fun z => so (ofD z : Option Int)) fun x => sb (sb (sr (1 : Int)) fun x => sb (sr ()) fun a => sr (x, a)) fun a => sr (x, a)) fun a => sr (a.1, a.2.1)) fun x => sr (.rt x)) (sr (.nx ()))) fun (r1 : Unit) => (sb (sb (sb (sb (sb (sr value) fun x => sb (sr (0 : Int)) fun i => so (dix x i)) fun z => so (ofD z : Option Int)) fun x => sb (sb (sb (sb (sr value) fun x => sb (sr (1 : Int)) fun i => so (dix x i)) fun z => so (ofD z : Option Int)) fun x => sb (sr ()) fun a => sr (x, a)) fun a => sr (x, a)) fun a => sl (reduced a.1 a.2.1)) fun x => sr (.rt x)))
def told (value : D) : Except Er (Int × Int) := runF (told_b value)
def asked_b (value : D) (name : Str) : R Unit (Out Unit Empty (Int × Int)) := (obd (sIf (sb (sb (sb (sr value) fun x => sb (sr ()) fun a => sr (x, a)) fun a => sl (is_fraction a.1)) fun x => sr (!x)) (sb (sb (sr name) fun x => sb (sr ()) fun a => sr (x, a)) fun a => sraise "InvalidFraction" (mk_InvalidFraction a.1)) (sr (.nx ()))) fun (r1 : Unit) => (sb (sb (sb (sr value) fun x => sb (sr ()) fun a => sr (x, a)) fun a => sl (told a.1)) fun x => sr (.rt x)))
def asked (value : D) (name : Str) : Except Er (Int × Int) := runF (asked_b value name)
def fsum_b (one : (Int × Int)) (other : (Int × Int)) : R Unit (Out Unit Empty (Int × Int)) := (sb (sb (sb (sb (sb (sb (sr one) fun x => sr x.1) fun x => sb (sb (sr other) fun x => sr x.2) fun y => so (pmul x y)) fun x => sb (sb (sb (sr other) fun x => sr x.1) fun x => sb (sb (sr one) fun x => sr x.2) fun y => so (pmul x y)) fun y => sr (x + y)) fun x => sb (sb (sb (sb (sr one) fun x => sr x.2) fun x => sb (sb (sr other) fun x => sr x.2) fun y => so (pmul x y)) fun x => sb (sr ()) fun a => sr (x, a)) fun a => sr (x, a)) fun a => sl (reduced a.1 a.2.1)) fun x => sr (.rt x))
def fsum (one : (Int × Int)) (other : (Int × Int)) : Except Er (Int × Int) := runF (fsum_b one other)
def fdiff_b (one : (Int × Int)) (other : (Int × Int)) : R Unit (Out Unit Empty (Int × Int)) := (sb (sb (sb (sb (sb (sb (sr one) fun x => sr x.1) fun x => sb (sb (sr other) fun x => sr x.2) fun y => so (pmul x y)) fun x => sb (sb (sb (sr other) fun x => sr x.1) fun x => sb (sb (sr one) fun x => sr x.2) fun y => so (pmul x y)) fun y => sr (x - y)) fun x => sb (sb (sb (sb (sr one) fun x => sr x.2) fun x => sb (sb (sr other) fun x => sr x.2) fun y => so (pmul x y)) fun x => sb (sr ()) fun a => sr (x, a)) fun a => sr (x, a)) fun a => sl (reduced a.1 a.2.1)) fun x => sr (.rt x))
def fdiff (one : (Int × Int)) (other : (Int × Int)) : Except Er (Int × Int) := runF (fdiff_b one other)
def fprod_b (one : (Int × Int)) (other : (Int × Int)) : R Unit (Out Unit Empty (Int × Int)) := (sb (sb (sb (sb (sb (sr one) fun x => sr x.1) fun x => sb (sb (sr other) fun x => sr x.1) fun y => so (pmul x y)) fun x => sb (sb (sb (sb (sr one) fun x => sr x.2) fun x => sb (sb (sr other) fun x => sr x.2) fun y => so (pmul x y)) fun x => sb (sr ()) fun a => sr (x, a)) fun a => sr (x, a)) fun a => sl (reduced a.1 a.2.1)) fun x => sr (.rt x))
def fprod (one : (Int × Int)) (other : (Int × Int)) : Except Er (Int × Int) := runF (fprod_b one other)
def fless_b (one : (Int × Int)) (other : (Int × Int)) : R Unit (Out Unit Empty Bool) := (sb (sb (sb (sb (sr one) fun x => sr x.1) fun x => sb (sb (sr other) fun x => sr x.2) fun y => so (pmul x y)) fun x => sb (sb (sb (sr other) fun x => sr x.1) fun x => sb (sb (sr one) fun x => sr x.2) fun y => so (pmul x y)) fun y => sr (decide (x < y))) fun x => sr (.rt x))
def fless (one : (Int × Int)) (other : (Int × Int)) : Except Er Bool := runF (fless_b one other)
def added_b (one : D) (other : D) : R Unit (Out Unit Empty (Int × Int)) := (sb (sb (sb (sr one) fun x => sb (sb (sr ("one" : Str)) fun x => sb (sr ()) fun a => sr (x, a)) fun a => sr (x, a)) fun a => sl (asked a.1 a.2.1)) fun first1 => (sb (sb (sb (sr first1) fun x => sb (sb (sb (sb (sr other) fun x => sb (sb (sr ("other" : Str)) fun x => sb (sr ()) fun a => sr (x, a)) fun a => sr (x, a)) fun a => sl (asked a.1 a.2.1)) fun x => sb (sr ()) fun a => sr (x, a)) fun a => sr (x, a)) fun a => sl (fsum a.1 a.2.1)) fun x => sr (.rt x)))
def added (one : D) (other : D) : Except Er (Int × Int) := runF (added_b one other)
def subtracted_b (one : D) (other : D) : R Unit (Out Unit Empty (Int × Int)) := (sb (sb (sb (sr one) fun x => sb (sb (sr ("one" : Str)) fun x => sb (sr ()) fun a => sr (x, a)) fun a => sr (x, a)) fun a => sl (asked a.1 a.2.1)) fun first1 => (sb (sb (sb (sr first1) fun x => sb (sb (sb (sb (sr other) fun x => sb (sb (sr ("other" : Str)) fun x => sb (sr ()) fun a => sr (x, a)) fun a => sr (x, a)) fun a => sl (asked a.1 a.2.1)) fun x => sb (sr ()) fun a => sr (x, a)) fun a => sr (x, a)) fun a => sl (fdiff a.1 a.2.1)) fun x => sr (.rt x)))
def subtracted (one : D) (other : D) : Except Er (Int × Int) := runF (subtracted_b one other)
def multiplied_b (one : D) (other : D) : R Unit (Out Unit Empty (Int × Int)) := (sb (sb (sb (sr one) fun x => sb (sb (sr ("one" : Str)) fun x => sb (sr ()) fun a => sr (x, a)) fun a => sr (x, a)) fun a => sl (asked a.1 a.2.1)) fun first1 => (sb (sb (sb (sr first1) fun x => sb (sb (sb (sb (sr other) fun x => sb (sb (sr ("other" : Str)) fun x => sb (sr ()) fun a => sr (x, a)) fun a => sr (x, a)) fun a => sl (asked a.1 a.2.1)) fun x => sb (sr ()) fun a => sr (x, a)) fun a => sr (x, a)) fun a => sl (fprod a.1 a.2.1)) fun x => sr (.rt x)))
def multiplied (one : D) (other : D) : Except Er (Int × Int) := runF (multiplied_b one other)
def is_less_b (one : D) (other : D) : R Unit (Out Unit Empty Bool) := (sb (sb (sb (sr one) fun x => sb (sb (sr ("one" : Str)) fun x => sb (sr ()) fun a => sr (x, a)) fun a => sr (x, a)) fun a => sl (asked a.1 a.2.1)) fun first1 => (sb (sb (sb (sr first1) fun x => sb (sb (sb (sb (sr other) fun x => sb (sb (sr ("other" : Str)) fun x => sb (sr ()) fun a => sr (x, a)) fun a => sr (x, a)) fun a => sl (asked a.1 a.2.1)) fun x => sb (sr ()) fun a => sr (x, a)) fun a => sr (x, a)) fun a => sl (fless a.1 a.2.1)) fun x => sr (.rt x)))
def is_less (one : D) (other : D) : Except Er Bool := runF (is_less_b one other)
def L_law_whole_b (value : D) : R Unit (Out Unit Empty Bool) := (sb (sAnd (sb (sr value) fun d => so (isTy "int" d)) (sb (sb (sr value) fun d => so (isTy "bool" d)) fun x => sr (!x))) fun x => sr (.rt x))
def L_law_whole (value : D) : Except Er Bool := runF (L_law_whole_b value)
def L_law_gcd_b (one : Int) (other : Int) : R Unit (Out Unit Empty Int) := (sb (sb (sr one) fun x => sr (if x < 0 then -x else x)) fun one1 => (sb (sb (sr other) fun x => sr (if x < 0 then -x else x)) fun other2 => (obd (whL (fun (r3 : (Int × Int)) => (sb (sr r3.2) fun x => sb (sr (0 : Int)) fun y => sr (!decide (x = y)))) (fun (r3 : (Int × Int)) => (sb (sb (sb (sr r3.1) fun x => sr x) fun x => sb (sr r3.2) fun y => so (pmod x y)) fun rest4 => (sb (sr r3.2) fun one5 => (sb (sr rest4) fun other6 => (sr (.nx (one5, other6))))))) (other2.natAbs + 1) (one1, other2)) fun (r3 : (Int × Int)) => (sb (sr r3.1) fun x => sr (.rt x)))))
def L_law_gcd (one : Int) (other : Int) : Except Er Int := runF (L_law_gcd_b one other)
def L_law_told_b (value : D) : R Unit (Out Unit Empty Bool) := (obd (sIf (sOr (sb (sb (sr value) fun d => so (isTy "tuple" d)) fun x => sr (!x)) (sb (sb (sr value) fun x => so (dlen x)) fun x => sb (sr (2 : Int)) fun y => sr (!decide (x = y)))) (sb (sr false) fun x => sr (.rt x)) (sr (.nx ()))) fun (r1 : Unit) => (obd (sIf (sOr (sb (sb (sb (sb (sr value) fun x => sb (sr (0 : Int)) fun i => so (dix x i)) fun x => sb (sr ()) fun a => sr (x, a)) fun a => sl (L_law_whole a.1)) fun x => sr (!x)) (sb (sb (sb (sb (sr value) fun x => sb (sr (1 : Int)) fun i => so (dix x i)) fun x => sb (sr ()) fun a => sr (x, a)) fun a => sl (L_law_whole a.1)) fun x => sr (!x))) (sb (sr false) fun x => sr (.rt x)) (sr (.nx ()))) fun (r2 : Unit) => (sb (sAnd (sb (sb (sb (sr value) fun x => sb (sr (1 : Int)) fun i => so (dix x i)) fun z => so (ofD z : Option Int)) fun x => sb (sr (1 : Int)) fun y => sr (decide (y ≤ x))) (sb (sb (sb (sb (sb (sr value) fun x => sb (sr (0 : Int)) fun i => so (dix x i)) fun z => so (ofD z : Option Int)) fun x => sb (sb (sb (sb (sr value) fun x => sb (sr (1 : Int)) fun i => so (dix x i)) fun z => so (ofD z : Option Int)) fun x => sb (sr ()) fun a => sr (x, a)) fun a => sr (x, a)) fun a => sl (L_law_gcd a.1 a.2.1)) fun x => sb (sr (1 : Int)) fun y => sr (decide (x = y)))) fun x => sr (.rt x))))
def L_law_told (value : D) : Except Er Bool := runF (L_law_told_b value)
def L_law_even_b (one : (Int × Int)) (other : (Int × Int)) : R Unit (Out Unit Empty Bool) := (sb (sb (sb (sb (sr one) fun x => sr x.1) fun x => sb (sb (sr other) fun x => sr x.2) fun y => so (pmul x y)) fun x => sb (sb (sb (sr other) fun x => sr x.1) fun x => sb (sb (sr one) fun x => sr x.2) fun y => so (pmul x y)) fun y => sr (decide (x = y))) fun x => sr (.rt x))
def L_law_even (one : (Int × Int)) (other : (Int × Int)) : Except Er Bool := runF (L_law_even_b one other)
def L_law_less_b (one : (Int × Int)) (other : (Int × Int)) : R Unit (Out Unit Empty Bool) := (sb (sb (sb (sb (sr one) fun x => sr x.1) fun x => sb (sb (sr other) fun x => sr x.2) fun y => so (pmul x y)) fun x => sb (sb (sb (sr other) fun x => sr x.1) fun x => sb (sb (sr one) fun x => sr x.2) fun y => so (pmul x y)) fun y => sr (decide (x < y))) fun x => sr (.rt x))
def L_law_less (one : (Int × Int)) (other : (Int × Int)) : Except Er Bool := runF (L_law_less_b one other)
def L_law_gives_b (value : D) (due : (Int × Int)) : R Unit (Out Unit Empty Bool) := (sb (sAnd (sb (sb (sr value) fun x => sb (sr ()) fun a => sr (x, a)) fun a => sl (L_law_told a.1)) (sb (sb (sb (sr value) fun z => so (ofD z : Option (Int × Int))) fun x => sb (sb (sr due) fun x => sb (sr ()) fun a => sr (x, a)) fun a => sr (x, a)) fun a => sl (L_law_even a.1 a.2.1))) fun x => sr (.rt x))
def L_law_gives (value : D) (due : (Int × Int)) : Except Er Bool := runF (L_law_gives_b value due)
def L_law_plus_b (one : (Int × Int)) (other : (Int × Int)) : R Unit (Out Unit Empty (Int × Int)) := (sb (sb (sb (sb (sb (sb (sr one) fun x => sr x.1) fun x => sb (sb (sr other) fun x => sr x.2) fun y => so (pmul x y)) fun x => sb (sb (sb (sr other) fun x => sr x.1) fun x => sb (sb (sr one) fun x => sr x.2) fun y => so (pmul x y)) fun y => sr (x + y)) fun x => sb (sb (sb (sb (sr one) fun x => sr x.2) fun x => sb (sb (sr other) fun x => sr x.2) fun y => so (pmul x y)) fun x => sb (sr ()) fun a => sr (x, a)) fun a => sr (x, a)) fun a => sr (a.1, a.2.1)) fun x => sr (.rt x))
def L_law_plus (one : (Int × Int)) (other : (Int × Int)) : Except Er (Int × Int) := runF (L_law_plus_b one other)
def L_law_minus_b (one : (Int × Int)) (other : (Int × Int)) : R Unit (Out Unit Empty (Int × Int)) := (sb (sb (sb (sb (sb (sb (sr one) fun x => sr x.1) fun x => sb (sb (sr other) fun x => sr x.2) fun y => so (pmul x y)) fun x => sb (sb (sb (sr other) fun x => sr x.1) fun x => sb (sb (sr one) fun x => sr x.2) fun y => so (pmul x y)) fun y => sr (x - y)) fun x => sb (sb (sb (sb (sr one) fun x => sr x.2) fun x => sb (sb (sr other) fun x => sr x.2) fun y => so (pmul x y)) fun x => sb (sr ()) fun a => sr (x, a)) fun a => sr (x, a)) fun a => sr (a.1, a.2.1)) fun x => sr (.rt x))
def L_law_minus (one : (Int × Int)) (other : (Int × Int)) : Except Er (Int × Int) := runF (L_law_minus_b one other)
def L_law_times_b (one : (Int × Int)) (other : (Int × Int)) : R Unit (Out Unit Empty (Int × Int)) := (sb (sb (sb (sb (sb (sr one) fun x => sr x.1) fun x => sb (sb (sr other) fun x => sr x.1) fun y => so (pmul x y)) fun x => sb (sb (sb (sb (sr one) fun x => sr x.2) fun x => sb (sb (sr other) fun x => sr x.2) fun y => so (pmul x y)) fun x => sb (sr ()) fun a => sr (x, a)) fun a => sr (x, a)) fun a => sr (a.1, a.2.1)) fun x => sr (.rt x))
def L_law_times (one : (Int × Int)) (other : (Int × Int)) : Except Er (Int × Int) := runF (L_law_times_b one other)
def L_law_number_b  : R Pool (Out Unit Empty (Int × Int)) := (sb (sb (sb (sr (8 : Int)) fun x => sb (sr ()) fun a => sr (x, a)) fun a => pdraw a.1) fun form1 => (obd (sIf (sb (sr form1) fun x => sb (sr (3 : Int)) fun y => sr (decide (x < y))) (sb (sb (sb (sb (sb (sb (sr (13 : Int)) fun x => sb (sr ()) fun a => sr (x, a)) fun a => pdraw a.1) fun x => sb (sr (6 : Int)) fun y => sr (x - y)) fun x => sb (sb (sr (1 : Int)) fun x => sb (sr ()) fun a => sr (x, a)) fun a => sr (x, a)) fun a => sr (a.1, a.2.1)) fun x => sr (.rt x)) (sr (.nx ()))) fun (r2 : Unit) => (obd (sIf (sb (sr form1) fun x => sb (sr (6 : Int)) fun y => sr (decide (x < y))) (sb (sb (sb (sb (sb (sb (sr (61 : Int)) fun x => sb (sr ()) fun a => sr (x, a)) fun a => pdraw a.1) fun x => sb (sr (30 : Int)) fun y => sr (x - y)) fun x => sb (sb (sb (sr (1 : Int)) fun x => sb (sb (sb (sr (6 : Int)) fun x => sb (sr ()) fun a => sr (x, a)) fun a => pdraw a.1) fun y => sr (x + y)) fun x => sb (sr ()) fun a => sr (x, a)) fun a => sr (x, a)) fun a => sr (a.1, a.2.1)) fun x => sr (.rt x)) (sr (.nx ()))) fun (r3 : Unit) => (sb (sb (sr (1 : Int)) fun x => sb (sb (sr (2 : Int)) fun x => sb (sb (sb (sr (2 : Int)) fun x => sb (sr ()) fun a => sr (x, a)) fun a => pdraw a.1) fun y => so (pmul x y)) fun y => sr (x - y)) fun sign4 => (obd (sIf (sb (sr form1) fun x => sb (sr (6 : Int)) fun y => sr (decide (x = y))) (sb (sb (sb (sb (sr sign4) fun x => sb (sb (sb (sb (sr (10 : Int)) fun x => sb (sr (40 : Int)) fun y => so (ppow x y)) fun x => sb (sr ()) fun a => sr (x, a)) fun a => pdraw a.1) fun y => so (pmul x y)) fun x => sb (sb (sr (1 : Int)) fun x => sb (sr ()) fun a => sr (x, a)) fun a => sr (x, a)) fun a => sr (a.1, a.2.1)) fun x => sr (.rt x)) (sr (.nx ()))) fun (r5 : Unit) => (sb (sb (sb (sb (sr sign4) fun x => sb (sb (sb (sb (sr (10 : Int)) fun x => sb (sr (30 : Int)) fun y => so (ppow x y)) fun x => sb (sr ()) fun a => sr (x, a)) fun a => pdraw a.1) fun y => so (pmul x y)) fun x => sb (sb (sb (sr (1 : Int)) fun x => sb (sb (sb (sb (sr (10 : Int)) fun x => sb (sr (20 : Int)) fun y => so (ppow x y)) fun x => sb (sr ()) fun a => sr (x, a)) fun a => pdraw a.1) fun y => sr (x + y)) fun x => sb (sr ()) fun a => sr (x, a)) fun a => sr (x, a)) fun a => sr (a.1, a.2.1)) fun x => sr (.rt x)))))))
def L_law_number  : R Pool (Int × Int) := runP (L_law_number_b)
def L_law_given_b (number : (Int × Int)) : R Pool (Out Unit Empty D) := (sb (sb (sb (sr (3 : Int)) fun x => sb (sr ()) fun a => sr (x, a)) fun a => pdraw a.1) fun form1 => (obd (sIf (sAnd (sb (sr form1) fun x => sb (sr (0 : Int)) fun y => sr (decide (x = y))) (sb (sb (sr number) fun x => sr x.2) fun x => sb (sr (1 : Int)) fun y => sr (decide (x = y)))) (sb (sb (sb (sr number) fun x => sr x.1) fun z => sr (toD z)) fun x => sr (.rt x)) (sr (.nx ()))) fun (r2 : Unit) => (obd (sIf (sb (sr form1) fun x => sb (sr (1 : Int)) fun y => sr (decide (x = y))) (sb (sb (sr (1 : Int)) fun x => sb (sb (sb (sr (5 : Int)) fun x => sb (sr ()) fun a => sr (x, a)) fun a => pdraw a.1) fun y => sr (x + y)) fun by_4 => (sb (sb (sb (sb (sb (sb (sr number) fun x => sr x.1) fun x => sb (sr by_4) fun y => so (pmul x y)) fun z => sr (toD z)) fun x => sb (sb (sb (sb (sb (sr number) fun x => sr x.2) fun x => sb (sr by_4) fun y => so (pmul x y)) fun z => sr (toD z)) fun x => sb (sr ([] : List D)) fun a => sr (x :: a)) fun a => sr (x :: a)) fun a => so (pdtup a)) fun x => sr (.rt x))) (sr (.nx ()))) fun (r3 : Unit) => (sb (sb (sr number) fun z => sr (toD z)) fun x => sr (.rt x)))))
def L_law_given (number : (Int × Int)) : R Pool D := runP (L_law_given_b number)
def L_law_odd_b  : R Pool (Out Unit Empty D) := (sb (sb (sb (sb (sb (sr (10 : Int)) fun x => sb (sr (20 : Int)) fun y => so (ppow x y)) fun x => sb (sr ()) fun a => sr (x, a)) fun a => pdraw a.1) fun x => sb (sr (50 : Int)) fun y => sr (x - y)) fun p1 => (sb (sb (sb (sr (16 : Int)) fun x => sb (sr ()) fun a => sr (x, a)) fun a => pdraw a.1) fun form2 => (sb (sb (sb (sb (sr true) fun z => sr (toD z)) fun x => sb (sb (sb (sr false) fun z => sr (toD z)) fun x => sb (sb (sb (sr ()) fun z => sr (toD z)) fun x => sb (sb (sb (sr ("3" : Str)) fun z => sr (toD z)) fun x => sb (sb (sb (sr ("" : Str)) fun z => sr (toD z)) fun x => sb (sb (sb (sr ([] : List D)) fun a => so (pdtup a)) fun x => sb (sb (sb (sb (sb (sr p1) fun z => sr (toD z)) fun x => sb (sb (sb (sr (0 : Int)) fun z => sr (toD z)) fun x => sb (sr ([] : List D)) fun a => sr (x :: a)) fun a => sr (x :: a)) fun a => so (pdtup a)) fun x => sb (sb (sb (sb (sb (sr p1) fun z => sr (toD z)) fun x => sb (sb (sb (sb (sr (2 : Int)) fun x => sr (-x)) fun z => sr (toD z)) fun x => sb (sr ([] : List D)) fun a => sr (x :: a)) fun a => sr (x :: a)) fun a => so (pdtup a)) fun x => sb (sb (sb (sb (sb (sr p1) fun z => sr (toD z)) fun x => sb (sb (sb (sr (2 : Int)) fun z => sr (toD z)) fun x => sb (sb (sb (sr (3 : Int)) fun z => sr (toD z)) fun x => sb (sr ([] : List D)) fun a => sr (x :: a)) fun a => sr (x :: a)) fun a => sr (x :: a)) fun a => so (pdtup a)) fun x => sb (sb (sb (sb (sb (sr p1) fun z => sr (toD z)) fun x => sb (sb (sb (sr (2 : Int)) fun z => sr (toD z)) fun x => sb (sr ([] : List D)) fun a => sr (x :: a)) fun a => sr (x :: a)) fun a => so (pdlst a)) fun x => sb (sb (sb (sb (sb (sr true) fun z => sr (toD z)) fun x => sb (sb (sb (sr (1 : Int)) fun z => sr (toD z)) fun x => sb (sr ([] : List D)) fun a => sr (x :: a)) fun a => sr (x :: a)) fun a => so (pdtup a)) fun x => sb (sb (sb (sb (sb (sr (1 : Int)) fun z => sr (toD z)) fun x => sb (sb (sb (sr true) fun z => sr (toD z)) fun x => sb (sr ([] : List D)) fun a => sr (x :: a)) fun a => sr (x :: a)) fun a => so (pdtup a)) fun x => sb (sb (sb (sb (sb (sb (sb (sr p1) fun z => sr (toD z)) fun x => sb (sb (sb (sr (2 : Int)) fun z => sr (toD z)) fun x => sb (sr ([] : List D)) fun a => sr (x :: a)) fun a => sr (x :: a)) fun a => so (pdtup a)) fun x => sb (sb (sb (sr (1 : Int)) fun z => sr (toD z)) fun x => sb (sr ([] : List D)) fun a => sr (x :: a)) fun a => sr (x :: a)) fun a => so (pdtup a)) fun x => sb (sr ([] : List D)) fun a => sr (x :: a)) fun a => sr (x :: a)) fun a => sr (x :: a)) fun a => sr (x :: a)) fun a => sr (x :: a)) fun a => sr (x :: a)) fun a => sr (x :: a)) fun a => sr (x :: a)) fun a => sr (x :: a)) fun a => sr (x :: a)) fun a => sr (x :: a)) fun a => sr (x :: a)) fun a => sr (x :: a)) fun a => so (plen a)) fun odd3 => (sb (sb (sr odd3) fun x => sb (sb (sb (sb (sb (sr (1 : Int)) fun z => sr (toD z)) fun x => sb (sb (sr (2 : Int)) fun z => sr (toD z)) fun y => so ((keyD x).map fun _ => D.dct [(x, y)])) fun x => sb (sb (sb (sr ("1/2" : Str)) fun z => sr (toD z)) fun x => sb (sb (sb (sb (sb (sr p1) fun z => sr (toD z)) fun x => sb (sb (sb (sr ()) fun z => sr (toD z)) fun x => sb (sr ([] : List D)) fun a => sr (x :: a)) fun a => sr (x :: a)) fun a => so (pdtup a)) fun x => sb (sr ([] : List D)) fun a => sr (x :: a)) fun a => sr (x :: a)) fun a => sr (x :: a)) fun a => so (plen a)) fun y => so (plcat x y)) fun odd4 => (sb (sb (sr odd4) fun x => sb (sr form2) fun i => so (pix x i)) fun x => sr (.rt x))))))
def L_law_odd  : R Pool D := runP (L_law_odd_b)
def L_law_flag_b (value : Bool) (due : Bool) : R Unit (Out Unit Empty Bool) := (obd (sIf (sr due) (sb (sb (sr value) fun x => sb (sr true) fun y => sr (decide (x = y))) fun x => sr (.rt x)) (sr (.nx ()))) fun (r1 : Unit) => (sb (sb (sr value) fun x => sb (sr false) fun y => sr (decide (x = y))) fun x => sr (.rt x)))
def L_law_flag (value : Bool) (due : Bool) : Except Er Bool := runF (L_law_flag_b value due)
def L_law_call_b (which : Int) (one : D) (other : D) : R Unit (Out Unit Empty D) := (obd (sIf (sb (sr which) fun x => sb (sr (0 : Int)) fun y => sr (decide (x = y))) (sb (sb (sb (sb (sr one) fun x => sb (sb (sr other) fun x => sb (sr ()) fun a => sr (x, a)) fun a => sr (x, a)) fun a => sl (added a.1 a.2.1)) fun z => sr (toD z)) fun x => sr (.rt x)) (sr (.nx ()))) fun (r1 : Unit) => (obd (sIf (sb (sr which) fun x => sb (sr (1 : Int)) fun y => sr (decide (x = y))) (sb (sb (sb (sb (sr one) fun x => sb (sb (sr other) fun x => sb (sr ()) fun a => sr (x, a)) fun a => sr (x, a)) fun a => sl (subtracted a.1 a.2.1)) fun z => sr (toD z)) fun x => sr (.rt x)) (sr (.nx ()))) fun (r2 : Unit) => (obd (sIf (sb (sr which) fun x => sb (sr (2 : Int)) fun y => sr (decide (x = y))) (sb (sb (sb (sb (sr one) fun x => sb (sb (sr other) fun x => sb (sr ()) fun a => sr (x, a)) fun a => sr (x, a)) fun a => sl (multiplied a.1 a.2.1)) fun z => sr (toD z)) fun x => sr (.rt x)) (sr (.nx ()))) fun (r3 : Unit) => (sb (sb (sb (sb (sr one) fun x => sb (sb (sr other) fun x => sb (sr ()) fun a => sr (x, a)) fun a => sr (x, a)) fun a => sl (is_less a.1 a.2.1)) fun z => sr (toD z)) fun x => sr (.rt x)))))
def L_law_call (which : Int) (one : D) (other : D) : Except Er D := runF (L_law_call_b which one other)
def L_law_asked_b (which : Int) (one : D) (other : D) : R Unit (Out Unit Empty (Str × D)) := (sb (sb (sb (sr ("refused" : Str)) fun x => sb (sb (sb (sr ()) fun z => sr (toD z)) fun x => sb (sr ()) fun a => sr (x, a)) fun a => sr (x, a)) fun a => sr (a.1, a.2.1)) fun found1 => (obd (mtry (sb (sb (sb (sr ("told" : Str)) fun x => sb (sb (sb (sb (sr which) fun x => sb (sb (sr one) fun x => sb (sb (sr other) fun x => sb (sr ()) fun a => sr (x, a)) fun a => sr (x, a)) fun a => sr (x, a)) fun a => sl (L_law_call a.1 a.2.1 a.2.2.1)) fun x => sb (sr ()) fun a => sr (x, a)) fun a => sr (x, a)) fun a => sr (a.1, a.2.1)) fun found3 => noexc (sr (.nx found3))) (exOf "InvalidFraction" []) fun xs => (sb (sb (sb (sr ("refused" : Str)) fun x => sb (sb (so (xs.lookup ("name" : Str))) fun x => sb (sr ()) fun a => sr (x, a)) fun a => sr (x, a)) fun a => sr (a.1, a.2.1)) fun found4 => (sr (.nx found4)))) fun (r2 : (Str × D)) => (sb (sr r2) fun x => sr (.rt x))))
def L_law_asked (which : Int) (one : D) (other : D) : Except Er (Str × D) := runF (L_law_asked_b which one other)
def L_law_good_b (one : (Int × Int)) (other : (Int × Int)) : R Pool (Out Unit Empty Bool) := (sb (sb (sb (sr one) fun x => sb (sr ()) fun a => sr (x, a)) fun a => L_law_given a.1) fun first1 => (sb (sb (sb (sr other) fun x => sb (sr ()) fun a => sr (x, a)) fun a => L_law_given a.1) fun second2 => (sb (sb (sb (sb (sb (sr one) fun x => sb (sb (sr other) fun x => sb (sr ()) fun a => sr (x, a)) fun a => sr (x, a)) fun a => sl (L_law_plus a.1 a.2.1)) fun x => sb (sb (sb (sb (sr one) fun x => sb (sb (sr other) fun x => sb (sr ()) fun a => sr (x, a)) fun a => sr (x, a)) fun a => sl (L_law_minus a.1 a.2.1)) fun x => sb (sb (sb (sb (sr one) fun x => sb (sb (sr other) fun x => sb (sr ()) fun a => sr (x, a)) fun a => sr (x, a)) fun a => sl (L_law_times a.1 a.2.1)) fun x => sb (sr ([] : List (Int × Int))) fun a => sr (x :: a)) fun a => sr (x :: a)) fun a => sr (x :: a)) fun a => so (plen a)) fun dues3 => (sb (sb (sr (3 : Int)) fun n => so (prng 0 n)) fun xs => obd (forL (fun x5 (r4 : Unit) => (sb (sb (sb (sr x5) fun x => sb (sb (sr first1) fun x => sb (sb (sr second2) fun x => sb (sr ()) fun a => sr (x, a)) fun a => sr (x, a)) fun a => sr (x, a)) fun a => sl (L_law_asked a.1 a.2.1 a.2.2.1)) fun found6 => (obd (sIf (sOr (sb (sb (sr found6) fun x => sr x.1) fun x => sb (sr ("told" : Str)) fun y => sr (!decide (x = y))) (sb (sb (sb (sb (sr found6) fun x => sr x.2) fun x => sb (sb (sb (sr dues3) fun x => sb (sr x5) fun i => so (pix x i)) fun x => sb (sr ()) fun a => sr (x, a)) fun a => sr (x, a)) fun a => sl (L_law_gives a.1 a.2.1)) fun x => sr (!x))) (sb (sr false) fun x => sr (.rt x)) (sr (.nx ()))) fun (r7 : Unit) => (sr (.nx ()))))) xs ()) fun (r4 : Unit) => (sb (sb (sb (sr (3 : Int)) fun x => sb (sb (sr first1) fun x => sb (sb (sr second2) fun x => sb (sr ()) fun a => sr (x, a)) fun a => sr (x, a)) fun a => sr (x, a)) fun a => sl (L_law_asked a.1 a.2.1 a.2.2.1)) fun found8 => (sb (sAnd (sb (sb (sr found8) fun x => sr x.1) fun x => sb (sr ("told" : Str)) fun y => sr (decide (x = y))) (sb (sb (sb (sb (sr found8) fun x => sr x.2) fun z => so (ofD z : Option Bool)) fun x => sb (sb (sb (sb (sr one) fun x => sb (sb (sr other) fun x => sb (sr ()) fun a => sr (x, a)) fun a => sr (x, a)) fun a => sl (L_law_less a.1 a.2.1)) fun x => sb (sr ()) fun a => sr (x, a)) fun a => sr (x, a)) fun a => sl (L_law_flag a.1 a.2.1))) fun x => sr (.rt x)))))))
def L_law_good (one : (Int × Int)) (other : (Int × Int)) : R Pool Bool := runP (L_law_good_b one other)
def law_p (script : (Ro Int)) : R Pool (Out Unit Empty Bool) := (sb (sb (sr (10 : Int)) fun n => so (prng 0 n)) fun xs => obd (forL (fun x2 (r1 : Unit) => (sb (sb (sr ()) fun a => L_law_number) fun one3 => (sb (sb (sr ()) fun a => L_law_number) fun other4 => (sb (sb (sb (sr (6 : Int)) fun x => sb (sr ()) fun a => sr (x, a)) fun a => pdraw a.1) fun form5 => (obd (sIf (sb (sr form5) fun x => sb (sr (0 : Int)) fun y => sr (decide (x = y))) (sb (sb (sb (sb (sb (sr one3) fun x => sr x.1) fun x => sb (sr (3 : Int)) fun y => so (pmul x y)) fun x => sb (sb (sb (sb (sr one3) fun x => sr x.2) fun x => sb (sr (3 : Int)) fun y => so (pmul x y)) fun x => sb (sr ()) fun a => sr (x, a)) fun a => sr (x, a)) fun a => sr (a.1, a.2.1)) fun other7 => (sr (.nx other7))) (sr (.nx other4))) fun (r6 : (Int × Int)) => (obd (sIf (sb (sr form5) fun x => sb (sr (1 : Int)) fun y => sr (decide (x = y))) (sb (sb (sb (sb (sb (sr one3) fun x => sr x.1) fun x => sr (-x)) fun x => sb (sb (sb (sr one3) fun x => sr x.2) fun x => sb (sr ()) fun a => sr (x, a)) fun a => sr (x, a)) fun a => sr (a.1, a.2.1)) fun other9 => (sr (.nx other9))) (sr (.nx r6))) fun (r8 : (Int × Int)) => (obd (sIf (sOr (sb (sb (sb (sr one3) fun x => sb (sb (sr r8) fun x => sb (sr ()) fun a => sr (x, a)) fun a => sr (x, a)) fun a => L_law_good a.1 a.2.1) fun x => sr (!x)) (sb (sb (sb (sr r8) fun x => sb (sb (sr one3) fun x => sb (sr ()) fun a => sr (x, a)) fun a => sr (x, a)) fun a => L_law_good a.1 a.2.1) fun x => sr (!x))) (sb (sr false) fun x => sr (.rt x)) (sr (.nx ()))) fun (r10 : Unit) => (sb (sb (sr ()) fun a => L_law_odd) fun odd11 => (sb (sb (sb (sr (4 : Int)) fun x => sb (sr ()) fun a => sr (x, a)) fun a => pdraw a.1) fun which12 => (obd (sIf (sOr (sb (sb (sb (sb (sr which12) fun x => sb (sb (sr odd11) fun x => sb (sb (sb (sr one3) fun z => sr (toD z)) fun x => sb (sr ()) fun a => sr (x, a)) fun a => sr (x, a)) fun a => sr (x, a)) fun a => sl (L_law_asked a.1 a.2.1 a.2.2.1)) fun z => sr (toD z)) fun x => sb (sb (sb (sb (sr ("refused" : Str)) fun z => sr (toD z)) fun x => sb (sb (sb (sr ("one" : Str)) fun z => sr (toD z)) fun x => sb (sr ([] : List D)) fun a => sr (x :: a)) fun a => sr (x :: a)) fun a => so (pdtup a)) fun y => sb (so (peqD x y)) fun z => sr (!z)) (sb (sb (sb (sb (sr which12) fun x => sb (sb (sb (sr one3) fun z => sr (toD z)) fun x => sb (sb (sr odd11) fun x => sb (sr ()) fun a => sr (x, a)) fun a => sr (x, a)) fun a => sr (x, a)) fun a => sl (L_law_asked a.1 a.2.1 a.2.2.1)) fun z => sr (toD z)) fun x => sb (sb (sb (sb (sr ("refused" : Str)) fun z => sr (toD z)) fun x => sb (sb (sb (sr ("other" : Str)) fun z => sr (toD z)) fun x => sb (sr ([] : List D)) fun a => sr (x :: a)) fun a => sr (x :: a)) fun a => so (pdtup a)) fun y => sb (so (peqD x y)) fun z => sr (!z))) (sb (sr false) fun x => sr (.rt x)) (sr (.nx ()))) fun (r13 : Unit) => (obd (sIf (sOr (sb (sb (sb (sb (sr which12) fun x => sb (sb (sr odd11) fun x => sb (sb (sr odd11) fun x => sb (sr ()) fun a => sr (x, a)) fun a => sr (x, a)) fun a => sr (x, a)) fun a => sl (L_law_asked a.1 a.2.1 a.2.2.1)) fun z => sr (toD z)) fun x => sb (sb (sb (sb (sr ("refused" : Str)) fun z => sr (toD z)) fun x => sb (sb (sb (sr ("one" : Str)) fun z => sr (toD z)) fun x => sb (sr ([] : List D)) fun a => sr (x :: a)) fun a => sr (x :: a)) fun a => so (pdtup a)) fun y => sb (so (peqD x y)) fun z => sr (!z)) (sb (sb (sb (sr one3) fun x => sb (sb (sr r8) fun x => sb (sr ()) fun a => sr (x, a)) fun a => sr (x, a)) fun a => L_law_good a.1 a.2.1) fun x => sr (!x))) (sb (sr false) fun x => sr (.rt x)) (sr (.nx ()))) fun (r14 : Unit) => (sr (.nx ()))))))))))))) xs ()) fun (r1 : Unit) => (sb (sr true) fun x => sr (.rt x)))
def law_b (script : (Ro Int)) : R Unit (Out Unit Empty Bool) := ofP (law_p script) (poolOf script.l)
def law (script : (Ro Int)) : Except Er Bool := runF (law_b script)
structure Facts (P : Program) (K : Fg) (mg : Str → Option Value) : Prop where
  f_own_copy : ∃ fd, FunD K "own_copy" "own_copy" (defArgs (topS 1)) (defBody (topS 1)) (defScope (topS 1)) [] [] (He.ga K "own_copy") fd
  g_own_copy : mg "own_copy" = some (.ref (He.ga K "own_copy"))
  f_is_integer : ∃ fd, FunD K "is_integer" "is_integer" (defArgs (topS 5)) (defBody (topS 5)) (defScope (topS 5)) [] [] (He.ga K "is_integer") fd
  g_is_integer : mg "is_integer" = some (.ref (He.ga K "is_integer"))
  f_is_fraction : ∃ fd, FunD K "is_fraction" "is_fraction" (defArgs (topS 6)) (defBody (topS 6)) (defScope (topS 6)) [] [] (He.ga K "is_fraction") fd
  g_is_fraction : mg "is_fraction" = some (.ref (He.ga K "is_fraction"))
  f_reduced : ∃ fd, FunD K "reduced" "reduced" (defArgs (topS 7)) (defBody (topS 7)) (defScope (topS 7)) [] [] (He.ga K "reduced") fd
  g_reduced : mg "reduced" = some (.ref (He.ga K "reduced"))
  f_told : ∃ fd, FunD K "told" "told" (defArgs (topS 8)) (defBody (topS 8)) (defScope (topS 8)) [] [] (He.ga K "told") fd
  g_told : mg "told" = some (.ref (He.ga K "told"))
  f_asked : ∃ fd, FunD K "asked" "asked" (defArgs (topS 9)) (defBody (topS 9)) (defScope (topS 9)) [] [] (He.ga K "asked") fd
  g_asked : mg "asked" = some (.ref (He.ga K "asked"))
  f_fsum : ∃ fd, FunD K "fsum" "fsum" (defArgs (topS 10)) (defBody (topS 10)) (defScope (topS 10)) [] [] (He.ga K "fsum") fd
  g_fsum : mg "fsum" = some (.ref (He.ga K "fsum"))
  f_fdiff : ∃ fd, FunD K "fdiff" "fdiff" (defArgs (topS 11)) (defBody (topS 11)) (defScope (topS 11)) [] [] (He.ga K "fdiff") fd
  g_fdiff : mg "fdiff" = some (.ref (He.ga K "fdiff"))
  f_fprod : ∃ fd, FunD K "fprod" "fprod" (defArgs (topS 12)) (defBody (topS 12)) (defScope (topS 12)) [] [] (He.ga K "fprod") fd
  g_fprod : mg "fprod" = some (.ref (He.ga K "fprod"))
  f_fless : ∃ fd, FunD K "fless" "fless" (defArgs (topS 13)) (defBody (topS 13)) (defScope (topS 13)) [] [] (He.ga K "fless") fd
  g_fless : mg "fless" = some (.ref (He.ga K "fless"))
  f_added : ∃ fd, FunD K "added" "added" (defArgs (topS 14)) (defBody (topS 14)) (defScope (topS 14)) [] [] (He.ga K "added") fd
  g_added : mg "added" = some (.ref (He.ga K "added"))
  f_subtracted : ∃ fd, FunD K "subtracted" "subtracted" (defArgs (topS 15)) (defBody (topS 15)) (defScope (topS 15)) [] [] (He.ga K "subtracted") fd
  g_subtracted : mg "subtracted" = some (.ref (He.ga K "subtracted"))
  f_multiplied : ∃ fd, FunD K "multiplied" "multiplied" (defArgs (topS 16)) (defBody (topS 16)) (defScope (topS 16)) [] [] (He.ga K "multiplied") fd
  g_multiplied : mg "multiplied" = some (.ref (He.ga K "multiplied"))
  f_is_less : ∃ fd, FunD K "is_less" "is_less" (defArgs (topS 17)) (defBody (topS 17)) (defScope (topS 17)) [] [] (He.ga K "is_less") fd
  g_is_less : mg "is_less" = some (.ref (He.ga K "is_less"))
  f__law_pool : ∃ fd, FunD K "_law_pool" "_law_pool" (defArgs (topS 19)) (defBody (topS 19)) (defScope (topS 19)) [] [] (He.ga K "_law_pool") fd
  g__law_pool : mg "_law_pool" = some (.ref (He.ga K "_law_pool"))
  f__law_draw : ∃ fd, FunD K "_law_draw" "_law_draw" (defArgs (topS 20)) (defBody (topS 20)) (defScope (topS 20)) [] [] (He.ga K "_law_draw") fd
  g__law_draw : mg "_law_draw" = some (.ref (He.ga K "_law_draw"))
  f__law_whole : ∃ fd, FunD K "_law_whole" "_law_whole" (defArgs (topS 21)) (defBody (topS 21)) (defScope (topS 21)) [] [] (He.ga K "_law_whole") fd
  g__law_whole : mg "_law_whole" = some (.ref (He.ga K "_law_whole"))
  f__law_gcd : ∃ fd, FunD K "_law_gcd" "_law_gcd" (defArgs (topS 22)) (defBody (topS 22)) (defScope (topS 22)) [] [] (He.ga K "_law_gcd") fd
  g__law_gcd : mg "_law_gcd" = some (.ref (He.ga K "_law_gcd"))
  f__law_told : ∃ fd, FunD K "_law_told" "_law_told" (defArgs (topS 23)) (defBody (topS 23)) (defScope (topS 23)) [] [] (He.ga K "_law_told") fd
  g__law_told : mg "_law_told" = some (.ref (He.ga K "_law_told"))
  f__law_even : ∃ fd, FunD K "_law_even" "_law_even" (defArgs (topS 24)) (defBody (topS 24)) (defScope (topS 24)) [] [] (He.ga K "_law_even") fd
  g__law_even : mg "_law_even" = some (.ref (He.ga K "_law_even"))
  f__law_less : ∃ fd, FunD K "_law_less" "_law_less" (defArgs (topS 25)) (defBody (topS 25)) (defScope (topS 25)) [] [] (He.ga K "_law_less") fd
  g__law_less : mg "_law_less" = some (.ref (He.ga K "_law_less"))
  f__law_gives : ∃ fd, FunD K "_law_gives" "_law_gives" (defArgs (topS 26)) (defBody (topS 26)) (defScope (topS 26)) [] [] (He.ga K "_law_gives") fd
  g__law_gives : mg "_law_gives" = some (.ref (He.ga K "_law_gives"))
  f__law_plus : ∃ fd, FunD K "_law_plus" "_law_plus" (defArgs (topS 27)) (defBody (topS 27)) (defScope (topS 27)) [] [] (He.ga K "_law_plus") fd
  g__law_plus : mg "_law_plus" = some (.ref (He.ga K "_law_plus"))
  f__law_minus : ∃ fd, FunD K "_law_minus" "_law_minus" (defArgs (topS 28)) (defBody (topS 28)) (defScope (topS 28)) [] [] (He.ga K "_law_minus") fd
  g__law_minus : mg "_law_minus" = some (.ref (He.ga K "_law_minus"))
  f__law_times : ∃ fd, FunD K "_law_times" "_law_times" (defArgs (topS 29)) (defBody (topS 29)) (defScope (topS 29)) [] [] (He.ga K "_law_times") fd
  g__law_times : mg "_law_times" = some (.ref (He.ga K "_law_times"))
  f__law_number : ∃ fd, FunD K "_law_number" "_law_number" (defArgs (topS 30)) (defBody (topS 30)) (defScope (topS 30)) [] [] (He.ga K "_law_number") fd
  g__law_number : mg "_law_number" = some (.ref (He.ga K "_law_number"))
  f__law_given : ∃ fd, FunD K "_law_given" "_law_given" (defArgs (topS 31)) (defBody (topS 31)) (defScope (topS 31)) [] [] (He.ga K "_law_given") fd
  g__law_given : mg "_law_given" = some (.ref (He.ga K "_law_given"))
  f__law_odd : ∃ fd, FunD K "_law_odd" "_law_odd" (defArgs (topS 32)) (defBody (topS 32)) (defScope (topS 32)) [] [] (He.ga K "_law_odd") fd
  g__law_odd : mg "_law_odd" = some (.ref (He.ga K "_law_odd"))
  f__law_flag : ∃ fd, FunD K "_law_flag" "_law_flag" (defArgs (topS 33)) (defBody (topS 33)) (defScope (topS 33)) [] [] (He.ga K "_law_flag") fd
  g__law_flag : mg "_law_flag" = some (.ref (He.ga K "_law_flag"))
  f__law_call : ∃ fd, FunD K "_law_call" "_law_call" (defArgs (topS 34)) (defBody (topS 34)) (defScope (topS 34)) [] [] (He.ga K "_law_call") fd
  g__law_call : mg "_law_call" = some (.ref (He.ga K "_law_call"))
  f__law_asked : ∃ fd, FunD K "_law_asked" "_law_asked" (defArgs (topS 35)) (defBody (topS 35)) (defScope (topS 35)) [] [] (He.ga K "_law_asked") fd
  g__law_asked : mg "_law_asked" = some (.ref (He.ga K "_law_asked"))
  f__law_good : ∃ fd, FunD K "_law_good" "_law_good" (defArgs (topS 36)) (defBody (topS 36)) (defScope (topS 36)) [] [] (He.ga K "_law_good") fd
  g__law_good : mg "_law_good" = some (.ref (He.ga K "_law_good"))
  f_law : ∃ fd, FunD K "law" "law" (defArgs (topS 37)) (defBody (topS 37)) (defScope (topS 37)) [] [] (He.ga K "law") fd
  g_law : mg "law" = some (.ref (He.ga K "law"))
  file : ((P.main.file : Str) == theFile) = true
  tops : (P.main.scope.names.lookup ("super" : Str)).isSome = false
  opq : PySem.W.nsIn K PySem.cStatics "thirdparty.any" = some none
  x_InvalidFraction : ∃ cc cda fd, FunX K theFile ⟨"__init__", "InvalidFraction.__init__", defArgs (clsM (topS 3) 0), defBody (clsM (topS 3) 0), defScope (clsM (topS 3) 0), [(("__class__" : Str), cc)], cda⟩ (initAd K "InvalidFraction") (He.ga K "InvalidFraction") cc fd
  e_InvalidFraction : OexA K (He.ga K "InvalidFraction") ∧ PySem.W.findIn K (.ref (He.ga K "InvalidFraction")) "__init__" = some (some (.ref (initAd K "InvalidFraction"))) ∧ PySem.W.typeIn K (.ref (initAd K "InvalidFraction")) = some (.type "function") ∧ XfC K (He.ga K "InvalidFraction")
  g_InvalidFraction : mg "InvalidFraction" = some (.ref (He.ga K "InvalidFraction"))
  t_InvalidFraction_name : PySem.W.takerIn K (He.ga K "InvalidFraction") "name" = some none ∧ PySem.W.findIn K (.ref (He.ga K "InvalidFraction")) "name" = some none
  o_InvalidFraction : ExO K mg "InvalidFraction" []
  b_abs : mg "abs" = none
  b_bool : mg "bool" = none
  b_dict : mg "dict" = none
  b_int : mg "int" = none
  b_isinstance : mg "isinstance" = none
  b_len : mg "len" = none
  b_list : mg "list" = none
  b_range : mg "range" = none
  b_super : mg "super" = none
  b_tuple : mg "tuple" = none
abbrev s_own_copy : Stmt := topS 1
theorem sc_own_copy : FnScope ["value", "entry", "key"] ["value"] (defScope s_own_copy) := ⟨rfl, rfl, rfl, by decide +kernel, rfl, by decide +kernel, by decide +kernel⟩
theorem d_own_copy {P : Program} {w : World} {K : Fg} {mg : Str → Option Value} {base : Heap} (Z : Facts P K mg) : Def P w K mg base "own_copy" 1 ["value"] (spF K fun (a : (D × Unit)) => own_copy a.1) := by
  obtain ⟨fd, F⟩ := Z.f_own_copy
  refine ⟨_, fd, Z.g_own_copy, F.kp, F.bindsN (fun _ _ _ _ _ _ us hl => match us, hl with | [_], _ => rfl), fn_ok (m := fun (a : (D × Unit)) => own_copy_b a.1) F sc_own_copy rfl fun cdv A outer s H E C a => ?_⟩
  exact (pb_if (Δ1 := fun (r1 : Unit) _ => [sI K (a.1 : D), .un, .un]) (pt_v (px_isi Z.b_isinstance Z.b_list (px_var 0))) pb_stuck (pb_nil [] (r := ())) fun r1 => (pb_if (Δ1 := fun (r2 : Unit) _ => [sI K (a.1 : D), .un, .un]) (pt_v (px_isi Z.b_isinstance Z.b_tuple (px_var 0))) pb_stuck (pb_nil [] (r := ())) fun r2 => (pb_if (Δ1 := fun (r3 : Unit) _ => [sI K (a.1 : D), .un, .un]) (pt_v (px_isi Z.b_isinstance Z.b_dict (px_var 0))) pb_stuck (pb_nil [] (r := ())) fun r3 => (pb_retI (px_var 0)))))
theorem sx_InvalidFraction (cc cda : Addr) : SupX ⟨"__init__", "InvalidFraction.__init__", defArgs (clsM (topS 3) 0), defBody (clsM (topS 3) 0), defScope (clsM (topS 3) 0), [(("__class__" : Str), cc)], cda⟩ [("name" : Str)] (defBody (clsM (topS 3) 0)).tail :=
  ⟨⟨_, _, _, _, _, _, _, _, rfl, fun f L => ⟨rfl, rfl, _, rfl⟩⟩, (show NScope _ _ _ (defScope (clsM (topS 3) 0)) from nscope_by (by decide +kernel)), ⟨_, rfl, rfl⟩, (show (defScope (clsM (topS 3) 0)).names.lookup ("super" : Str) = some .globalImplicit from by decide +kernel)⟩
theorem x_InvalidFraction {P : Program} {w : World} {K : Fg} {mg : Str → Option Value} {base : Heap} (Z : Facts P K mg) : Exn P w K mg base "InvalidFraction" 2 (fun (a : (Str × Unit)) => mk_InvalidFraction a.1) := by
  obtain ⟨cc, cda, fd, FX⟩ := Z.x_InvalidFraction
  obtain ⟨T, h1, h2, _⟩ := Z.e_InvalidFraction
  have bd : Binds K fd (("self" : Str) :: [("name" : Str)]) [] := by
    obtain ⟨_, _, _, _, _, _, efd, _⟩ := FX.ex
    rw [efd]
    exact .all fun us hl => match us, hl with | [_, _], _ => rfl
  refine ⟨_, fd, _, T, Z.g_InvalidFraction, h1, h2, bd, xfn_ok (mb := fun (a : (Str × Unit)) => InvalidFraction_b a.1) FX T (sx_InvalidFraction cc cda) Z.b_super Z.file Z.tops Z.opq rfl fun A outer s H E C x a => ?_⟩
  exact (pb_xst T (Z.t_InvalidFraction_name).1 (fun _ => rfl) (px_call (d_own_copy Z) C (pax_cons (px_toD (px_var 1)) pax_nil)) (fun d0 => (pb_nil [] (r := [(("name" : Str), d0)]))) (by decide))
abbrev s_is_integer : Stmt := topS 5
theorem sc_is_integer : FnScope ["value"] ["value"] (defScope s_is_integer) := ⟨rfl, rfl, rfl, by decide +kernel, rfl, by decide +kernel, by decide +kernel⟩
theorem d_is_integer {P : Program} {w : World} {K : Fg} {mg : Str → Option Value} {base : Heap} (Z : Facts P K mg) : Def P w K mg base "is_integer" 1 ["value"] (spF K fun (a : (D × Unit)) => is_integer a.1) := by
  obtain ⟨fd, F⟩ := Z.f_is_integer
  refine ⟨_, fd, Z.g_is_integer, F.kp, F.bindsN (fun _ _ _ _ _ _ us hl => match us, hl with | [_], _ => rfl), fn_ok (m := fun (a : (D × Unit)) => is_integer_b a.1) F sc_is_integer rfl fun cdv A outer s H E C a => ?_⟩
  exact (pb_retI (px_and (px_isi Z.b_isinstance Z.b_int (px_var 0)) (px_and1 (px_not (px_isi Z.b_isinstance Z.b_bool (px_var 0))))))
abbrev s_is_fraction : Stmt := topS 6
theorem sc_is_fraction : FnScope ["value"] ["value"] (defScope s_is_fraction) := ⟨rfl, rfl, rfl, by decide +kernel, rfl, by decide +kernel, by decide +kernel⟩
theorem d_is_fraction {P : Program} {w : World} {K : Fg} {mg : Str → Option Value} {base : Heap} (Z : Facts P K mg) : Def P w K mg base "is_fraction" 2 ["value"] (spF K fun (a : (D × Unit)) => is_fraction a.1) := by
  obtain ⟨fd, F⟩ := Z.f_is_fraction
  refine ⟨_, fd, Z.g_is_fraction, F.kp, F.bindsN (fun _ _ _ _ _ _ us hl => match us, hl with | [_], _ => rfl), fn_ok (m := fun (a : (D × Unit)) => is_fraction_b a.1) F sc_is_fraction rfl fun cdv A outer s H E C a => ?_⟩
  exact (pb_if (Δ1 := fun (r1 : Unit) _ => [sI K (a.1 : D)]) (pt_v (px_call (d_is_integer Z) C (pax_cons (px_var 0) pax_nil))) (pb_retI px_bl) (pb_nil [] (r := ())) fun r1 => (pb_if (Δ1 := fun (r2 : Unit) _ => [sI K (a.1 : D)]) (PW.pt (Mi.pw_or (Mi.pt_not (pt_v (px_isi Z.b_isinstance Z.b_tuple (px_var 0)))) (Mi.pw_or1 (px_neS (px_dlen Z.b_len (px_var 0)) px_int).t))) (pb_retI px_bl) (pb_nil [] (r := ())) fun r2 => (pb_retI (px_and (px_call (d_is_integer Z) C (pax_cons (px_dix (px_var 0) px_int) pax_nil)) (px_and (px_call (d_is_integer Z) C (pax_cons (px_dix (px_var 0) px_int) pax_nil)) (px_and1 (px_ge (px_ofD (px_dix (px_var 0) px_int)) px_int).e))))))
abbrev s_reduced : Stmt := topS 7
theorem sc_reduced : FnScope ["p", "q", "one", "other"] ["p", "q"] (defScope s_reduced) := ⟨rfl, rfl, rfl, by decide +kernel, rfl, by decide +kernel, by decide +kernel⟩
theorem d_reduced {P : Program} {w : World} {K : Fg} {mg : Str → Option Value} {base : Heap} (Z : Facts P K mg) : Def P w K mg base "reduced" 1 ["p", "q"] (spF K fun (a : (Int × Int × Unit)) => reduced a.1 a.2.1) := by
  obtain ⟨fd, F⟩ := Z.f_reduced
  refine ⟨_, fd, Z.g_reduced, F.kp, F.bindsN (fun _ _ _ _ _ _ us hl => match us, hl with | [_, _], _ => rfl), fn_ok (m := fun (a : (Int × Int × Unit)) => reduced_b a.1 a.2.1) F sc_reduced rfl fun cdv A outer s H E C a => ?_⟩
  exact (pb_set 2 C (px_abs Z.b_abs (px_var 0)) fun one1 => (pb_set 3 C (px_var 1) fun other2 => (pb_while [] (other2.natAbs + 1) (L := fun (r3 : (Int × Int)) _ => [sI K (a.1 : Int), sI K (a.2.1 : Int), sI K (r3.1 : Int), sI K (r3.2 : Int)]) (r0 := (one1, other2)) C (fun _ => rfl) (fun r3 => (px_neS (px_var 3) px_int).t) (fun r3 => (pb_par 2 3 C (pax_cons (px_var 3) (pax_cons (px_mod (px_var 2) (px_var 3)) pax_nil)) (fun p4 => (pb_nil [] (r := (p4.1, p4.2.1)))) (fun ha => ps_par C.calm C.nd rfl rfl (by decide) rfl rfl ha (by rfl)))) fun r3 => (pb_retI (px_tup2 (pax_cons (px_div (px_var 0) (px_var 2)) (pax_cons (px_div (px_var 1) (px_var 2)) pax_nil)))))))
abbrev s_told : Stmt := topS 8
theorem sc_told : FnScope ["value"] ["value"] (defScope s_told) := ⟨rfl, rfl, rfl, by decide +kernel, rfl, by decide +kernel, by decide +kernel⟩
theorem d_told {P : Program} {w : World} {K : Fg} {mg : Str → Option Value} {base : Heap} (Z : Facts P K mg) : Def P w K mg base "told" 2 ["value"] (spF K fun (a : (D × Unit)) => told a.1) := by
  obtain ⟨fd, F⟩ := Z.f_told
  refine ⟨_, fd, Z.g_told, F.kp, F.bindsN (fun _ _ _ _ _ _ us hl => match us, hl with | [_], _ => rfl), fn_ok (m := fun (a : (D × Unit)) => told_b a.1) F sc_told rfl fun cdv A outer s H E C a => ?_⟩
  exact (pb_if (Δ1 := fun (r1 : Unit) _ => [sI K (a.1 : D)]) (pt_v (px_call (d_is_integer Z) C (pax_cons (px_var 0) pax_nil))) (pb_retI (px_tup2 (pax_cons (px_ofD (px_var 0)) (pax_cons px_int pax_nil)))) (pb_nil [] (r := ())) fun r1 => (pb_retI (px_call (d_reduced Z) C (pax_cons (px_ofD (px_dix (px_var 0) px_int)) (pax_cons (px_ofD (px_dix (px_var 0) px_int)) pax_nil)))))
abbrev s_asked : Stmt := topS 9
theorem sc_asked : FnScope ["value", "name"] ["value", "name"] (defScope s_asked) := ⟨rfl, rfl, rfl, by decide +kernel, rfl, by decide +kernel, by decide +kernel⟩
theorem d_asked {P : Program} {w : World} {K : Fg} {mg : Str → Option Value} {base : Heap} (Z : Facts P K mg) : Def P w K mg base "asked" 4 ["value", "name"] (spF K fun (a : (D × Str × Unit)) => asked a.1 a.2.1) := by
  obtain ⟨fd, F⟩ := Z.f_asked
  refine ⟨_, fd, Z.g_asked, F.kp, F.bindsN (fun _ _ _ _ _ _ us hl => match us, hl with | [_, _], _ => rfl), fn_ok (m := fun (a : (D × Str × Unit)) => asked_b a.1 a.2.1) F sc_asked rfl fun cdv A outer s H E C a => ?_⟩
  exact (pb_if (Δ1 := fun (r1 : Unit) _ => [sI K (a.1 : D), sI K (a.2.1 : Str)]) (Mi.pt_not (pt_v (px_call (d_is_fraction Z) C (pax_cons (px_var 0) pax_nil)))) (pb_raise (x_InvalidFraction Z) C (pax_cons (px_var 1) pax_nil)) (pb_nil [] (r := ())) fun r1 => (pb_retI (px_call (d_told Z) C (pax_cons (px_var 0) pax_nil))))
abbrev s_fsum : Stmt := topS 10
theorem sc_fsum : FnScope ["one", "other"] ["one", "other"] (defScope s_fsum) := ⟨rfl, rfl, rfl, by decide +kernel, rfl, by decide +kernel, by decide +kernel⟩
theorem d_fsum {P : Program} {w : World} {K : Fg} {mg : Str → Option Value} {base : Heap} (Z : Facts P K mg) : Def P w K mg base "fsum" 2 ["one", "other"] (spF K fun (a : ((Int × Int) × (Int × Int) × Unit)) => fsum a.1 a.2.1) := by
  obtain ⟨fd, F⟩ := Z.f_fsum
  refine ⟨_, fd, Z.g_fsum, F.kp, F.bindsN (fun _ _ _ _ _ _ us hl => match us, hl with | [_, _], _ => rfl), fn_ok (m := fun (a : ((Int × Int) × (Int × Int) × Unit)) => fsum_b a.1 a.2.1) F sc_fsum rfl fun cdv A outer s H E C a => ?_⟩
  exact (pb_retI (px_call (d_reduced Z) C (pax_cons (px_add (px_mul (px_fst (px_var 0)) (px_snd (px_var 1))) (px_mul (px_fst (px_var 1)) (px_snd (px_var 0)))) (pax_cons (px_mul (px_snd (px_var 0)) (px_snd (px_var 1))) pax_nil))))
abbrev s_fdiff : Stmt := topS 11
theorem sc_fdiff : FnScope ["one", "other"] ["one", "other"] (defScope s_fdiff) := ⟨rfl, rfl, rfl, by decide +kernel, rfl, by decide +kernel, by decide +kernel⟩
theorem d_fdiff {P : Program} {w : World} {K : Fg} {mg : Str → Option Value} {base : Heap} (Z : Facts P K mg) : Def P w K mg base "fdiff" 2 ["one", "other"] (spF K fun (a : ((Int × Int) × (Int × Int) × Unit)) => fdiff a.1 a.2.1) := by
  obtain ⟨fd, F⟩ := Z.f_fdiff
  refine ⟨_, fd, Z.g_fdiff, F.kp, F.bindsN (fun _ _ _ _ _ _ us hl => match us, hl with | [_, _], _ => rfl), fn_ok (m := fun (a : ((Int × Int) × (Int × Int) × Unit)) => fdiff_b a.1 a.2.1) F sc_fdiff rfl fun cdv A outer s H E C a => ?_⟩
  exact (pb_retI (px_call (d_reduced Z) C (pax_cons (px_sub (px_mul (px_fst (px_var 0)) (px_snd (px_var 1))) (px_mul (px_fst (px_var 1)) (px_snd (px_var 0)))) (pax_cons (px_mul (px_snd (px_var 0)) (px_snd (px_var 1))) pax_nil))))
abbrev s_fprod : Stmt := topS 12
theorem sc_fprod : FnScope ["one", "other"] ["one", "other"] (defScope s_fprod) := ⟨rfl, rfl, rfl, by decide +kernel, rfl, by decide +kernel, by decide +kernel⟩
theorem d_fprod {P : Program} {w : World} {K : Fg} {mg : Str → Option Value} {base : Heap} (Z : Facts P K mg) : Def P w K mg base "fprod" 2 ["one", "other"] (spF K fun (a : ((Int × Int) × (Int × Int) × Unit)) => fprod a.1 a.2.1) := by
  obtain ⟨fd, F⟩ := Z.f_fprod
  refine ⟨_, fd, Z.g_fprod, F.kp, F.bindsN (fun _ _ _ _ _ _ us hl => match us, hl with | [_, _], _ => rfl), fn_ok (m := fun (a : ((Int × Int) × (Int × Int) × Unit)) => fprod_b a.1 a.2.1) F sc_fprod rfl fun cdv A outer s H E C a => ?_⟩
  exact (pb_retI (px_call (d_reduced Z) C (pax_cons (px_mul (px_fst (px_var 0)) (px_fst (px_var 1))) (pax_cons (px_mul (px_snd (px_var 0)) (px_snd (px_var 1))) pax_nil))))
abbrev s_fless : Stmt := topS 13
theorem sc_fless : FnScope ["one", "other"] ["one", "other"] (defScope s_fless) := ⟨rfl, rfl, rfl, by decide +kernel, rfl, by decide +kernel, by decide +kernel⟩
theorem d_fless {P : Program} {w : World} {K : Fg} {mg : Str → Option Value} {base : Heap} (Z : Facts P K mg) : Def P w K mg base "fless" 1 ["one", "other"] (spF K fun (a : ((Int × Int) × (Int × Int) × Unit)) => fless a.1 a.2.1) := by
  obtain ⟨fd, F⟩ := Z.f_fless
  refine ⟨_, fd, Z.g_fless, F.kp, F.bindsN (fun _ _ _ _ _ _ us hl => match us, hl with | [_, _], _ => rfl), fn_ok (m := fun (a : ((Int × Int) × (Int × Int) × Unit)) => fless_b a.1 a.2.1) F sc_fless rfl fun cdv A outer s H E C a => ?_⟩
  exact (pb_retI (px_lt (px_mul (px_fst (px_var 0)) (px_snd (px_var 1))) (px_mul (px_fst (px_var 1)) (px_snd (px_var 0)))).e)
abbrev s_added : Stmt := topS 14
theorem sc_added : FnScope ["one", "other", "first"] ["one", "other"] (defScope s_added) := ⟨rfl, rfl, rfl, by decide +kernel, rfl, by decide +kernel, by decide +kernel⟩
theorem d_added {P : Program} {w : World} {K : Fg} {mg : Str → Option Value} {base : Heap} (Z : Facts P K mg) : Def P w K mg base "added" 5 ["one", "other"] (spF K fun (a : (D × D × Unit)) => added a.1 a.2.1) := by
  obtain ⟨fd, F⟩ := Z.f_added
  refine ⟨_, fd, Z.g_added, F.kp, F.bindsN (fun _ _ _ _ _ _ us hl => match us, hl with | [_, _], _ => rfl), fn_ok (m := fun (a : (D × D × Unit)) => added_b a.1 a.2.1) F sc_added rfl fun cdv A outer s H E C a => ?_⟩
  exact (pb_set 2 C (px_call (d_asked Z) C (pax_cons (px_var 0) (pax_cons px_str pax_nil))) fun first1 => (pb_retI (px_call (d_fsum Z) C (pax_cons (px_var 2) (pax_cons (px_call (d_asked Z) C (pax_cons (px_var 1) (pax_cons px_str pax_nil))) pax_nil)))))
abbrev s_subtracted : Stmt := topS 15
theorem sc_subtracted : FnScope ["one", "other", "first"] ["one", "other"] (defScope s_subtracted) := ⟨rfl, rfl, rfl, by decide +kernel, rfl, by decide +kernel, by decide +kernel⟩
theorem d_subtracted {P : Program} {w : World} {K : Fg} {mg : Str → Option Value} {base : Heap} (Z : Facts P K mg) : Def P w K mg base "subtracted" 5 ["one", "other"] (spF K fun (a : (D × D × Unit)) => subtracted a.1 a.2.1) := by
  obtain ⟨fd, F⟩ := Z.f_subtracted
  refine ⟨_, fd, Z.g_subtracted, F.kp, F.bindsN (fun _ _ _ _ _ _ us hl => match us, hl with | [_, _], _ => rfl), fn_ok (m := fun (a : (D × D × Unit)) => subtracted_b a.1 a.2.1) F sc_subtracted rfl fun cdv A outer s H E C a => ?_⟩
  exact (pb_set 2 C (px_call (d_asked Z) C (pax_cons (px_var 0) (pax_cons px_str pax_nil))) fun first1 => (pb_retI (px_call (d_fdiff Z) C (pax_cons (px_var 2) (pax_cons (px_call (d_asked Z) C (pax_cons (px_var 1) (pax_cons px_str pax_nil))) pax_nil)))))
abbrev s_multiplied : Stmt := topS 16
theorem sc_multiplied : FnScope ["one", "other", "first"] ["one", "other"] (defScope s_multiplied) := ⟨rfl, rfl, rfl, by decide +kernel, rfl, by decide +kernel, by decide +kernel⟩
theorem d_multiplied {P : Program} {w : World} {K : Fg} {mg : Str → Option Value} {base : Heap} (Z : Facts P K mg) : Def P w K mg base "multiplied" 5 ["one", "other"] (spF K fun (a : (D × D × Unit)) => multiplied a.1 a.2.1) := by
  obtain ⟨fd, F⟩ := Z.f_multiplied
  refine ⟨_, fd, Z.g_multiplied, F.kp, F.bindsN (fun _ _ _ _ _ _ us hl => match us, hl with | [_, _], _ => rfl), fn_ok (m := fun (a : (D × D × Unit)) => multiplied_b a.1 a.2.1) F sc_multiplied rfl fun cdv A outer s H E C a => ?_⟩
  exact (pb_set 2 C (px_call (d_asked Z) C (pax_cons (px_var 0) (pax_cons px_str pax_nil))) fun first1 => (pb_retI (px_call (d_fprod Z) C (pax_cons (px_var 2) (pax_cons (px_call (d_asked Z) C (pax_cons (px_var 1) (pax_cons px_str pax_nil))) pax_nil)))))
abbrev s_is_less : Stmt := topS 17
theorem sc_is_less : FnScope ["one", "other", "first"] ["one", "other"] (defScope s_is_less) := ⟨rfl, rfl, rfl, by decide +kernel, rfl, by decide +kernel, by decide +kernel⟩
theorem d_is_less {P : Program} {w : World} {K : Fg} {mg : Str → Option Value} {base : Heap} (Z : Facts P K mg) : Def P w K mg base "is_less" 5 ["one", "other"] (spF K fun (a : (D × D × Unit)) => is_less a.1 a.2.1) := by
  obtain ⟨fd, F⟩ := Z.f_is_less
  refine ⟨_, fd, Z.g_is_less, F.kp, F.bindsN (fun _ _ _ _ _ _ us hl => match us, hl with | [_, _], _ => rfl), fn_ok (m := fun (a : (D × D × Unit)) => is_less_b a.1 a.2.1) F sc_is_less rfl fun cdv A outer s H E C a => ?_⟩
  exact (pb_set 2 C (px_call (d_asked Z) C (pax_cons (px_var 0) (pax_cons px_str pax_nil))) fun first1 => (pb_retI (px_call (d_fless Z) C (pax_cons (px_var 2) (pax_cons (px_call (d_asked Z) C (pax_cons (px_var 1) (pax_cons px_str pax_nil))) pax_nil)))))
/-! the pool and its draws -/
abbrev s__law_pool : Stmt := topS 19
theorem sc__law_pool : FnScope ["script", "cells", "cell"] ["script"] (defScope s__law_pool) := ⟨rfl, rfl, rfl, by decide +kernel, rfl, by decide +kernel, by decide +kernel⟩
def Lpool_b (ns : List Int) : R Unit (Out Unit Empty Pool) := sb (sb (sb (sr (Ro.mk ns)) fun x => sb (sr none) fun l => sb (sb (sr (63 : Int)) fun i => sr (some i)) fun u => sr (cutL x.l l u)) fun xs => lcL (fun _ => sr true) (fun x => sb (sr x) fun x => sr x) xs []) fun cells => obd (sIf (sb (sr (cells.length : Int)) fun x => sb (sr (0 : Int)) fun y => sr (decide (x = y))) (sb (sr (0 : Int)) fun a => sb (so (papp cells a)) fun c2 => sr (.nx c2)) (sr (.nx cells))) fun (r : List Int) => sr (.rt ⟨r, 0⟩)
theorem Lpool_eq (ns : List Int) : Lpool_b ns () = .ok (.rt (poolOf ns), ()) := by
  have hl : (cutL ns none (some 63)).length ≤ 63 := by
    have e1 : HT.sIx ns.length 0 none = 0 := rfl
    have e2 : HT.sIx ns.length ns.length (some 63) ≤ 63 := by unfold HT.sIx; simp; omega
    unfold cutL
    rw [e1]
    simp only [List.length_take, List.length_drop]
    omega
  have key := lcL_all (S := Unit) (cutL ns none (some 63)) [] () (by simp; omega)
  unfold Lpool_b poolOf
  simp only [sb, sr, obd, sIf]
  have key : lcL (fun _ => sr true) (fun x => sb (sr x) fun x => sr x) (cutL ns none (some 63)) [] () = .ok (cutL ns none (some 63), ()) := key
  have key' : lcL (fun x s => Except.ok (true, s)) (fun x s => Except.ok (x, s)) (cutL ns none (some 63)) [] () = .ok (cutL ns none (some 63), ()) := key
  rw [key]
  by_cases h : (cutL ns none (some 63)).length = 0
  · have e : cutL ns none (some 63) = [] := List.length_eq_zero_iff.mp h
    rw [e]
    simp only [papp, so, List.length_nil, Nat.zero_lt_succ, if_true]
    rfl
  · rw [if_neg h]
    have h2 : ¬ ((cutL ns none (some 63)).length : Int) = 0 := by omega
    simp only [h2, decide_false, Bool.false_eq_true, if_false]
    rfl
theorem d__law_pool {P : Program} {w : World} {K : Fg} {mg : Str → Option Value} {base : Heap} (Z : Facts P K mg) : Def P w K mg base "_law_pool" 1 ["script"] (spPool K) := by
  obtain ⟨fd, F⟩ := Z.f__law_pool
  refine ⟨_, fd, Z.g__law_pool, F.kp, F.bindsN (fun _ _ _ _ _ _ us hl => match us, hl with | [_], _ => rfl), fn_okPool (m := Lpool_b) F sc__law_pool rfl Lpool_eq fun cdv A outer s H E C ns => ?_⟩
  exact (pb_setLc1 1 2 (own := [("cell", 2)]) C (ix_l (px_cutR (px_var 0) pp_none (pp_some px_int))) (blkOk_by (own := [("cell", 2)]) (N := ["script", "cells", "cell"]) (sc := defScope s__law_pool) (by decide +kernel)) (fun _ => rfl) (by decide)
    (fun _ _ _ _ _ => pg_name C.nd rfl (Or.inl rfl)) (fun _ _ _ _ _ a => L2.PTs.mono pts_nil fun σ H Q ⟨s, I, O, t, sat, h⟩ => Post.at_ h t sat) (fun _ _ _ _ _ C a => px_intI Z.b_int (px_var 2))
    fun cells => pb_if (Δ1 := fun (r : List Int) _ => [sI K (Ro.mk ns : Ro Int), sL K r, .un]) (px_eqS (px_olen 1 Z.b_len (fun _ => rfl)) px_int).t
      (pb_app 1 (fun _ => rfl) px_int (fun c2 => pb_nil [] (r := c2)) (fun h => ps_expr (pe_bm PySem.F.plainAttrs_list PySem.F.slot_list_append PySem.F.type_list_append mt_append (pv 1) (pa_cons h pa_nil))))
      (pb_nil [] (r := cells)) fun r => pb_retPool 1 (fun _ => rfl))
abbrev s__law_draw : Stmt := topS 20
theorem sc__law_draw : FnScope ["pool", "size", "cells", "at", "cell", "number"] ["pool", "size"] (defScope s__law_draw) := ⟨rfl, rfl, rfl, by decide +kernel, rfl, by decide +kernel, by decide +kernel⟩
theorem d__law_draw {P : Program} {w : World} {K : Fg} {mg : Str → Option Value} {base : Heap} (Z : Facts P K mg) : Def P w K mg base "_law_draw" 1 ["pool", "size"] (spP K fun (a : (Int × Unit)) => pdraw a.1) := by
  obtain ⟨fd, F⟩ := Z.f__law_draw
  refine ⟨_, fd, Z.g__law_draw, F.kp, F.bindsN (fun _ _ _ _ _ _ us hl => match us, hl with | [_, _], _ => rfl), F.ok sc__law_draw (fun vs H Q E h => ?_) fun cdv A outer s H vs Q E hr h => ?_⟩
  · obtain ⟨a, pa, st, I, O, ws, rfl, _, _, ⟨v, us, rfl, _, e⟩, _⟩ := h
    have e : us = [] := e
    rw [e] <;> rfl
  · obtain ⟨⟨size, u⟩, pa, ⟨cells, n⟩, I, O, ws, rfl, t, ⟨c, pl1, pl2⟩, ⟨v, us, rfl, rv, e⟩, q⟩ := h
    have e : us = [] := e
    have rv : v = .int size := rv
    subst e rv
    have q : PostP K E pa I O H Q (pdraw size ⟨cells, n⟩) := q
    unfold pdraw at q
    dsimp only at q
    split at q
    case isFalse => exact q.elim
    rename_i hc
    obtain ⟨hl, h0, h1⟩ := hc
    have hlz : (0 : Int) < cells.length := by omega
    have a1 := Int.emod_nonneg n (by omega : (cells.length : Int) ≠ 0)
    have a2 := Int.emod_lt_of_pos n hlz
    have hpa := t.so _ _ pl1
    have hc := t.so _ _ pl2
    have nep : c ≠ pa := fun e => by rw [e, hpa] at hc; cases cells <;> simp at hc
    cases ec : cells[(n % cells.length).toNat]? with
    | none => rw [ec] at q; exact q.elim
    | some cell =>
      rw [ec] at q
      dsimp only at q
      have hc2 : (upd H pa (.lst [.ref c, .int (n + 1)])) c = some (.lst (cells.map V.int)) := by rw [upd_ne nep]; exact hc
      have hx : L2.atI (cells.map V.int) (n % cells.length) = some (.int cell) := by
        have := L2.atI_nat (xs := cells.map V.int) (j := (n % cells.length).toNat) (v := .int cell) (by rw [List.getElem?_map, ec]; rfl)
        rw [Int.toNat_of_nonneg a1] at this
        exact this
      have hu := hu_of hr
      refine ⟨_, pss_cons (ps_set (i := 2) sc__law_draw.nd rfl (Or.inl rfl) (pe_ix ix_list (pv 0) pe_int (fun _ _ => rfl)))
        (pss_cons (ps_set (i := 3) sc__law_draw.nd rfl (Or.inl rfl) (pe_op op_mod (pe_ix ix_list (pv 0) pe_int (fun _ _ => rfl)) (pe_callB call_len_seq (by rfl) Z.b_len PySem.boot_len (pa_cons (pv 2) pa_nil))))
        (pss_cons (ps_augS (pv 0) pe_int get_list pe_int ip_add set_list)
        (pss_cons (ps_set (i := 4) sc__law_draw.nd rfl (Or.inl rfl) (pe_ix ix_list (pv 2) (pv 3) (fun _ _ => rfl)))
        (pss_cons (ps_if (pt_cmpR op_ge (pv 4) (pe_op op_pow pe_int pe_int) (nomark _))
            (pss_cons (ps_asg (pe_op op_fdivW (pv 4) (pv 1)) (pg_sub (pv 2) (pv 3) set_list)) (pss_one (ps_ret (pe_op op_mod (pe_callTy call_int1 (by rfl) Z.b_int (by decide +kernel) (pa_cons (pv 4) pa_nil)) (pv 1))))) pss_nil)
        (pss_cons (ps_set (i := 5) sc__law_draw.nd rfl (Or.inl rfl) (pe_op op_mod (pe_op op_mul (pe_callTy call_int1 (by rfl) Z.b_int (by decide +kernel) (pa_cons (pe_op op_add (pe_op op_add (pv 4) (pe_op op_mul pe_int (pe_ix ix_list (pv 0) pe_int (fun _ _ => rfl)))) pe_int) pa_nil)) pe_int) pe_int))
        (pss_cons (ps_set (i := 5) sc__law_draw.nd rfl (Or.inl rfl) (pe_op op_mod (pe_callTy call_int1 (by rfl) Z.b_int (by decide +kernel) (pa_cons (pe_op op_mul (pv 5) (pe_op op_add (pe_op op_fdiv (pv 5) pe_int) pe_int)) pa_nil)) pe_int))
        (pss_cons (ps_set (i := 5) sc__law_draw.nd rfl (Or.inl rfl) (pe_op op_mod (pe_callTy call_int1 (by rfl) Z.b_int (by decide +kernel) (pa_cons (pe_op op_mul (pv 5) (pe_op op_add (pe_op op_fdiv (pv 5) pe_int) pe_int)) pa_nil)) pe_int))
        (pss_one (ps_ret (pe_op op_mod (pe_callTy call_int1 (by rfl) Z.b_int (by decide +kernel) (pa_cons (pe_op op_fdiv (pv 5) pe_int) pa_nil)) (pv 1))))))))))), ?_⟩
      -- cells = pool[0]; at = pool[1] % len(cells); pool[1] += 1; cell = cells[at]
      refine ⟨_, rfl, pa, _, 0, _, rfl, rfl, SqL.of hpa, rfl, ?_⟩
      refine ⟨_, rfl, pa, _, 1, _, rfl, rfl, SqL.of hpa, rfl, _, rfl, c, _, rfl, .inl (SqL.of hc), n, _, rfl, rfl, (by rw [List.length_map]; exact hlz), ?_⟩
      refine ⟨_, rfl, pa, _, 1, _, rfl, rfl, hpa, by decide, rfl, n, 1, rfl, rfl, pa, _, 1, 1, rfl, rfl, hpa, rfl, ?_⟩
      refine ⟨_, rfl, _, rfl, c, _, _, _, rfl, rfl, SqL.of hc2, (by rw [List.length_map]; exact hx), ?_⟩
      refine ⟨_, rfl, 10, 18, rfl, rfl, ⟨by decide, by decide, by decide⟩, cell, _, rfl, rfl, _, rfl, ?_⟩
      have ht1 := t.wr (o := .lst [.ref c, .int (n + 1)]) pl1
      have gt1 := Go.wr t (o := .lst [.ref c, .int (n + 1)]) pl1
      have pl3 : (upd O pa (.lst [.ref c, .int (n + 1)])) c = some (.lst (cells.map V.int)) := by rw [upd_ne nep]; exact pl2
      refine ite2 (fun hge => ?_) (fun hlt => ?_)
      · have hge : (10 : Int) ^ (18 : Nat) ≤ cell := of_decide_eq_true hge
        have hge : 1000000000000000000 ≤ cell := hge
        rw [if_pos hge] at q
        refine ⟨_, rfl, _, rfl, cell, size, rfl, rfl, ⟨h0, h1⟩, _, rfl, _, rfl, c, _, _, (n % cells.length).toNat, rfl, rfl, hc2, ?_, ?_⟩
        · rw [List.length_map]
          unfold ixN
          rw [if_pos a1, if_pos a2]
        · refine ⟨_, rfl, .inl ⟨cell, rfl, _, rfl, cell, size, rfl, rfl, h0, ?_⟩⟩
          have e : (cells.map V.int).set (n % cells.length).toNat (.int (cell / size)) = (cells.set (n % cells.length).toNat (cell / size)).map V.int := by rw [List.map_set]
          have ht2 := ht1.wr (o := .lst ((cells.map V.int).set (n % cells.length).toNat (.int (cell / size)))) pl3
          have gt2 := Go.wr ht1 (o := .lst ((cells.map V.int).set (n % cells.length).toNat (.int (cell / size)))) pl3
          exact q (.int (cell % size)) I _ _ ht2 (gt1.trans gt2) ⟨c, by rw [upd_ne nep.symm, upd_same], by rw [upd_same, e]⟩ rfl
      · have hlt : ¬ (10 : Int) ^ (18 : Nat) ≤ cell := fun z => hlt (decide_eq_true z)
        have hlt : ¬ 1000000000000000000 ≤ cell := hlt
        rw [if_neg hlt] at q
        have b1 := Int.emod_nonneg ((cell + 7919 * (n + 1) + 1) * 48271) (by decide : (2147483647 : Int) ≠ 0)
        have b2 := Int.emod_lt_of_pos ((cell + 7919 * (n + 1) + 1) * 48271) (by decide : (0 : Int) < 2147483647)
        refine ⟨_, rfl, _, rfl, pa, _, 1, _, rfl, rfl, SqL.of upd_same, rfl, 7919, n + 1, rfl, rfl, .inl ⟨by decide, by decide⟩, cell, _, rfl, rfl, _, 1, rfl, rfl, .inl ⟨_, rfl, _, 48271, rfl, rfl, .inr ⟨by decide, by decide⟩, _, 2147483647, rfl, rfl, (by show (0 : Int) < 2147483647; decide), ?_⟩⟩
        show gName 5 (V.int ((cell + 7919 * (n + 1) + 1) * 48271 % 2147483647)) _ _ _
        generalize ea : (cell + 7919 * (n + 1) + 1) * 48271 % 2147483647 = a at b1 b2 ⊢
        refine ⟨_, rfl, _, rfl, a, 1009, rfl, rfl, ⟨by decide, by decide⟩, _, 69621, rfl, rfl, a, _, rfl, rfl, .inl ⟨by omega, by omega⟩, .inl ⟨_, rfl, _, 2147483647, rfl, rfl, (by show (0 : Int) < 2147483647; decide), ?_⟩⟩
        have c1 := Int.emod_nonneg (a * (a / 1009 + 69621)) (by decide : (2147483647 : Int) ≠ 0)
        have c2 := Int.emod_lt_of_pos (a * (a / 1009 + 69621)) (by decide : (0 : Int) < 2147483647)
        show gName 5 (V.int (a * (a / 1009 + 69621) % 2147483647)) _ _ _
        generalize eb : a * (a / 1009 + 69621) % 2147483647 = b at c1 c2 ⊢
        refine ⟨_, rfl, _, rfl, b, 2003, rfl, rfl, ⟨by decide, by decide⟩, _, 40692, rfl, rfl, b, _, rfl, rfl, .inl ⟨by omega, by omega⟩, .inl ⟨_, rfl, _, 2147483399, rfl, rfl, (by show (0 : Int) < 2147483399; decide), ?_⟩⟩
        refine ⟨_, rfl, _, 16, rfl, rfl, ⟨by decide, by decide⟩, .inl ⟨_, rfl, _, rfl, _, size, rfl, rfl, h0, ?_⟩⟩
        have em : mixN cell (n + 1) = b * (b / 2003 + 40692) % 2147483399 / 16 := by unfold mixN; rw [ea]; dsimp only; rw [eb]
        rw [em] at q
        exact q (.int _) I _ _ ht1 gt1 ⟨c, upd_same, pl3⟩ rfl

abbrev s__law_whole : Stmt := topS 21
theorem sc__law_whole : FnScope ["value"] ["value"] (defScope s__law_whole) := ⟨rfl, rfl, rfl, by decide +kernel, rfl, by decide +kernel, by decide +kernel⟩
theorem d__law_whole {P : Program} {w : World} {K : Fg} {mg : Str → Option Value} {base : Heap} (Z : Facts P K mg) : Def P w K mg base "_law_whole" 1 ["value"] (spF K fun (a : (D × Unit)) => L_law_whole a.1) := by
  obtain ⟨fd, F⟩ := Z.f__law_whole
  refine ⟨_, fd, Z.g__law_whole, F.kp, F.bindsN (fun _ _ _ _ _ _ us hl => match us, hl with | [_], _ => rfl), fn_ok (m := fun (a : (D × Unit)) => L_law_whole_b a.1) F sc__law_whole rfl fun cdv A outer s H E C a => ?_⟩
  exact (pb_retI (px_and (px_isi Z.b_isinstance Z.b_int (px_var 0)) (px_and1 (px_not (px_isi Z.b_isinstance Z.b_bool (px_var 0))))))
abbrev s__law_gcd : Stmt := topS 22
theorem sc__law_gcd : FnScope ["one", "other", "rest"] ["one", "other"] (defScope s__law_gcd) := ⟨rfl, rfl, rfl, by decide +kernel, rfl, by decide +kernel, by decide +kernel⟩
theorem d__law_gcd {P : Program} {w : World} {K : Fg} {mg : Str → Option Value} {base : Heap} (Z : Facts P K mg) : Def P w K mg base "_law_gcd" 1 ["one", "other"] (spF K fun (a : (Int × Int × Unit)) => L_law_gcd a.1 a.2.1) := by
  obtain ⟨fd, F⟩ := Z.f__law_gcd
  refine ⟨_, fd, Z.g__law_gcd, F.kp, F.bindsN (fun _ _ _ _ _ _ us hl => match us, hl with | [_, _], _ => rfl), fn_ok (m := fun (a : (Int × Int × Unit)) => L_law_gcd_b a.1 a.2.1) F sc__law_gcd rfl fun cdv A outer s H E C a => ?_⟩
  exact (pb_set 0 C (px_abs Z.b_abs (px_var 0)) fun one1 => (pb_set 1 C (px_abs Z.b_abs (px_var 1)) fun other2 => (pb_while [] (other2.natAbs + 1) (L := fun (r3 : (Int × Int)) _ => [sI K (r3.1 : Int), sI K (r3.2 : Int), .un]) (r0 := (one1, other2)) C (fun _ => rfl) (fun r3 => (px_neS (px_var 1) px_int).t) (fun r3 => (pb_set 2 C (px_mod (px_intI Z.b_int (px_var 0)) (px_var 1)) fun rest4 => (pb_set 0 C (px_var 1) fun one5 => (pb_set 1 C (px_var 2) fun other6 => (pb_nil [2] (r := (one5, other6))))))) fun r3 => (pb_retI (px_var 0)))))
abbrev s__law_told : Stmt := topS 23
theorem sc__law_told : FnScope ["value"] ["value"] (defScope s__law_told) := ⟨rfl, rfl, rfl, by decide +kernel, rfl, by decide +kernel, by decide +kernel⟩
theorem d__law_told {P : Program} {w : World} {K : Fg} {mg : Str → Option Value} {base : Heap} (Z : Facts P K mg) : Def P w K mg base "_law_told" 2 ["value"] (spF K fun (a : (D × Unit)) => L_law_told a.1) := by
  obtain ⟨fd, F⟩ := Z.f__law_told
  refine ⟨_, fd, Z.g__law_told, F.kp, F.bindsN (fun _ _ _ _ _ _ us hl => match us, hl with | [_], _ => rfl), fn_ok (m := fun (a : (D × Unit)) => L_law_told_b a.1) F sc__law_told rfl fun cdv A outer s H E C a => ?_⟩
  exact (pb_if (Δ1 := fun (r1 : Unit) _ => [sI K (a.1 : D)]) (PW.pt (Mi.pw_or (Mi.pt_not (pt_v (px_isi Z.b_isinstance Z.b_tuple (px_var 0)))) (Mi.pw_or1 (px_neS (px_dlen Z.b_len (px_var 0)) px_int).t))) (pb_retI px_bl) (pb_nil [] (r := ())) fun r1 => (pb_if (Δ1 := fun (r2 : Unit) _ => [sI K (a.1 : D)]) (PW.pt (Mi.pw_or (Mi.pt_not (pt_v (px_call (d__law_whole Z) C (pax_cons (px_dix (px_var 0) px_int) pax_nil)))) (Mi.pw_or1 (Mi.pt_not (pt_v (px_call (d__law_whole Z) C (pax_cons (px_dix (px_var 0) px_int) pax_nil))))))) (pb_retI px_bl) (pb_nil [] (r := ())) fun r2 => (pb_retI (px_and (px_ge (px_ofD (px_dix (px_var 0) px_int)) px_int).e (px_and1 (px_eqS (px_call (d__law_gcd Z) C (pax_cons (px_ofD (px_dix (px_var 0) px_int)) (pax_cons (px_ofD (px_dix (px_var 0) px_int)) pax_nil))) px_int).e)))))
abbrev s__law_even : Stmt := topS 24
theorem sc__law_even : FnScope ["one", "other"] ["one", "other"] (defScope s__law_even) := ⟨rfl, rfl, rfl, by decide +kernel, rfl, by decide +kernel, by decide +kernel⟩
theorem d__law_even {P : Program} {w : World} {K : Fg} {mg : Str → Option Value} {base : Heap} (Z : Facts P K mg) : Def P w K mg base "_law_even" 1 ["one", "other"] (spF K fun (a : ((Int × Int) × (Int × Int) × Unit)) => L_law_even a.1 a.2.1) := by
  obtain ⟨fd, F⟩ := Z.f__law_even
  refine ⟨_, fd, Z.g__law_even, F.kp, F.bindsN (fun _ _ _ _ _ _ us hl => match us, hl with | [_, _], _ => rfl), fn_ok (m := fun (a : ((Int × Int) × (Int × Int) × Unit)) => L_law_even_b a.1 a.2.1) F sc__law_even rfl fun cdv A outer s H E C a => ?_⟩
  exact (pb_retI (px_eqS (px_mul (px_fst (px_var 0)) (px_snd (px_var 1))) (px_mul (px_fst (px_var 1)) (px_snd (px_var 0)))).e)
abbrev s__law_less : Stmt := topS 25
theorem sc__law_less : FnScope ["one", "other"] ["one", "other"] (defScope s__law_less) := ⟨rfl, rfl, rfl, by decide +kernel, rfl, by decide +kernel, by decide +kernel⟩
theorem d__law_less {P : Program} {w : World} {K : Fg} {mg : Str → Option Value} {base : Heap} (Z : Facts P K mg) : Def P w K mg base "_law_less" 1 ["one", "other"] (spF K fun (a : ((Int × Int) × (Int × Int) × Unit)) => L_law_less a.1 a.2.1) := by
  obtain ⟨fd, F⟩ := Z.f__law_less
  refine ⟨_, fd, Z.g__law_less, F.kp, F.bindsN (fun _ _ _ _ _ _ us hl => match us, hl with | [_, _], _ => rfl), fn_ok (m := fun (a : ((Int × Int) × (Int × Int) × Unit)) => L_law_less_b a.1 a.2.1) F sc__law_less rfl fun cdv A outer s H E C a => ?_⟩
  exact (pb_retI (px_lt (px_mul (px_fst (px_var 0)) (px_snd (px_var 1))) (px_mul (px_fst (px_var 1)) (px_snd (px_var 0)))).e)
abbrev s__law_gives : Stmt := topS 26
theorem sc__law_gives : FnScope ["value", "due"] ["value", "due"] (defScope s__law_gives) := ⟨rfl, rfl, rfl, by decide +kernel, rfl, by decide +kernel, by decide +kernel⟩
theorem d__law_gives {P : Program} {w : World} {K : Fg} {mg : Str → Option Value} {base : Heap} (Z : Facts P K mg) : Def P w K mg base "_law_gives" 3 ["value", "due"] (spF K fun (a : (D × (Int × Int) × Unit)) => L_law_gives a.1 a.2.1) := by
  obtain ⟨fd, F⟩ := Z.f__law_gives
  refine ⟨_, fd, Z.g__law_gives, F.kp, F.bindsN (fun _ _ _ _ _ _ us hl => match us, hl with | [_, _], _ => rfl), fn_ok (m := fun (a : (D × (Int × Int) × Unit)) => L_law_gives_b a.1 a.2.1) F sc__law_gives rfl fun cdv A outer s H E C a => ?_⟩
  exact (pb_retI (px_and (px_call (d__law_told Z) C (pax_cons (px_var 0) pax_nil)) (px_and1 (px_call (d__law_even Z) C (pax_cons (px_ofD (px_var 0)) (pax_cons (px_var 1) pax_nil))))))
abbrev s__law_plus : Stmt := topS 27
theorem sc__law_plus : FnScope ["one", "other"] ["one", "other"] (defScope s__law_plus) := ⟨rfl, rfl, rfl, by decide +kernel, rfl, by decide +kernel, by decide +kernel⟩
theorem d__law_plus {P : Program} {w : World} {K : Fg} {mg : Str → Option Value} {base : Heap} (Z : Facts P K mg) : Def P w K mg base "_law_plus" 1 ["one", "other"] (spF K fun (a : ((Int × Int) × (Int × Int) × Unit)) => L_law_plus a.1 a.2.1) := by
  obtain ⟨fd, F⟩ := Z.f__law_plus
  refine ⟨_, fd, Z.g__law_plus, F.kp, F.bindsN (fun _ _ _ _ _ _ us hl => match us, hl with | [_, _], _ => rfl), fn_ok (m := fun (a : ((Int × Int) × (Int × Int) × Unit)) => L_law_plus_b a.1 a.2.1) F sc__law_plus rfl fun cdv A outer s H E C a => ?_⟩
  exact (pb_retI (px_tup2 (pax_cons (px_add (px_mul (px_fst (px_var 0)) (px_snd (px_var 1))) (px_mul (px_fst (px_var 1)) (px_snd (px_var 0)))) (pax_cons (px_mul (px_snd (px_var 0)) (px_snd (px_var 1))) pax_nil))))
abbrev s__law_minus : Stmt := topS 28
theorem sc__law_minus : FnScope ["one", "other"] ["one", "other"] (defScope s__law_minus) := ⟨rfl, rfl, rfl, by decide +kernel, rfl, by decide +kernel, by decide +kernel⟩
theorem d__law_minus {P : Program} {w : World} {K : Fg} {mg : Str → Option Value} {base : Heap} (Z : Facts P K mg) : Def P w K mg base "_law_minus" 1 ["one", "other"] (spF K fun (a : ((Int × Int) × (Int × Int) × Unit)) => L_law_minus a.1 a.2.1) := by
  obtain ⟨fd, F⟩ := Z.f__law_minus
  refine ⟨_, fd, Z.g__law_minus, F.kp, F.bindsN (fun _ _ _ _ _ _ us hl => match us, hl with | [_, _], _ => rfl), fn_ok (m := fun (a : ((Int × Int) × (Int × Int) × Unit)) => L_law_minus_b a.1 a.2.1) F sc__law_minus rfl fun cdv A outer s H E C a => ?_⟩
  exact (pb_retI (px_tup2 (pax_cons (px_sub (px_mul (px_fst (px_var 0)) (px_snd (px_var 1))) (px_mul (px_fst (px_var 1)) (px_snd (px_var 0)))) (pax_cons (px_mul (px_snd (px_var 0)) (px_snd (px_var 1))) pax_nil))))
abbrev s__law_times : Stmt := topS 29
theorem sc__law_times : FnScope ["one", "other"] ["one", "other"] (defScope s__law_times) := ⟨rfl, rfl, rfl, by decide +kernel, rfl, by decide +kernel, by decide +kernel⟩
theorem d__law_times {P : Program} {w : World} {K : Fg} {mg : Str → Option Value} {base : Heap} (Z : Facts P K mg) : Def P w K mg base "_law_times" 1 ["one", "other"] (spF K fun (a : ((Int × Int) × (Int × Int) × Unit)) => L_law_times a.1 a.2.1) := by
  obtain ⟨fd, F⟩ := Z.f__law_times
  refine ⟨_, fd, Z.g__law_times, F.kp, F.bindsN (fun _ _ _ _ _ _ us hl => match us, hl with | [_, _], _ => rfl), fn_ok (m := fun (a : ((Int × Int) × (Int × Int) × Unit)) => L_law_times_b a.1 a.2.1) F sc__law_times rfl fun cdv A outer s H E C a => ?_⟩
  exact (pb_retI (px_tup2 (pax_cons (px_mul (px_fst (px_var 0)) (px_fst (px_var 1))) (pax_cons (px_mul (px_snd (px_var 0)) (px_snd (px_var 1))) pax_nil))))
abbrev s__law_number : Stmt := topS 30
theorem sc__law_number : FnScope ["pool", "form", "sign"] ["pool"] (defScope s__law_number) := ⟨rfl, rfl, rfl, by decide +kernel, rfl, by decide +kernel, by decide +kernel⟩
theorem d__law_number {P : Program} {w : World} {K : Fg} {mg : Str → Option Value} {base : Heap} (Z : Facts P K mg) : Def P w K mg base "_law_number" 2 ["pool"] (spP K fun (a : Unit) => L_law_number) := by
  obtain ⟨fd, F⟩ := Z.f__law_number
  refine ⟨_, fd, Z.g__law_number, F.kp, F.bindsN (fun _ _ _ _ _ _ us hl => match us, hl with | [_], _ => rfl), fn_okP (m := fun (a : Unit) => L_law_number_b) F sc__law_number rfl fun cdv A outer s H E C pa a => ?_⟩
  exact (pb_set 1 C (px_callP 0 (d__law_draw Z) C (pax_cons px_int pax_nil)) fun form1 => (pb_if (Δ1 := fun (r2 : Unit) st => [sP pa st, sI K (form1 : Int), .un]) (px_lt (px_var 1) px_int).t (pb_retP (px_tup2 (pax_cons (px_sub (px_callP 0 (d__law_draw Z) C (pax_cons px_int pax_nil)) px_int) (pax_cons px_int pax_nil)))) (pb_nil [] (r := ())) fun r2 => (pb_if (Δ1 := fun (r3 : Unit) st => [sP pa st, sI K (form1 : Int), .un]) (px_lt (px_var 1) px_int).t (pb_retP (px_tup2 (pax_cons (px_sub (px_callP 0 (d__law_draw Z) C (pax_cons px_int pax_nil)) px_int) (pax_cons (px_add px_int (px_callP 0 (d__law_draw Z) C (pax_cons px_int pax_nil))) pax_nil)))) (pb_nil [] (r := ())) fun r3 => (pb_set 2 C (px_sub px_int (px_mul px_int (px_callP 0 (d__law_draw Z) C (pax_cons px_int pax_nil)))) fun sign4 => (pb_if (Δ1 := fun (r5 : Unit) st => [sP pa st, sI K (form1 : Int), sI K (sign4 : Int)]) (px_eqS (px_var 1) px_int).t (pb_retP (px_tup2 (pax_cons (px_mul (px_var 2) (px_callP 0 (d__law_draw Z) C (pax_cons (px_pow px_int px_int) pax_nil))) (pax_cons px_int pax_nil)))) (pb_nil [] (r := ())) fun r5 => (pb_retP (px_tup2 (pax_cons (px_mul (px_var 2) (px_callP 0 (d__law_draw Z) C (pax_cons (px_pow px_int px_int) pax_nil))) (pax_cons (px_add px_int (px_callP 0 (d__law_draw Z) C (pax_cons (px_pow px_int px_int) pax_nil))) pax_nil)))))))))
abbrev s__law_given : Stmt := topS 31
theorem sc__law_given : FnScope ["pool", "number", "form", "by"] ["pool", "number"] (defScope s__law_given) := ⟨rfl, rfl, rfl, by decide +kernel, rfl, by decide +kernel, by decide +kernel⟩
theorem d__law_given {P : Program} {w : World} {K : Fg} {mg : Str → Option Value} {base : Heap} (Z : Facts P K mg) : Def P w K mg base "_law_given" 2 ["pool", "number"] (spP K fun (a : ((Int × Int) × Unit)) => L_law_given a.1) := by
  obtain ⟨fd, F⟩ := Z.f__law_given
  refine ⟨_, fd, Z.g__law_given, F.kp, F.bindsN (fun _ _ _ _ _ _ us hl => match us, hl with | [_, _], _ => rfl), fn_okP (m := fun (a : ((Int × Int) × Unit)) => L_law_given_b a.1) F sc__law_given rfl fun cdv A outer s H E C pa a => ?_⟩
  exact (pb_set 2 C (px_callP 0 (d__law_draw Z) C (pax_cons px_int pax_nil)) fun form1 => (pb_if (Δ1 := fun (r2 : Unit) st => [sP pa st, sI K (a.1 : (Int × Int)), sI K (form1 : Int), .un]) (PW.pt (Mi.pw_and (px_eqS (px_var 2) px_int).t (Mi.pw_and1 (px_eqS (px_snd (px_var 1)) px_int).t))) (pb_retP (px_toD (px_fst (px_var 1)))) (pb_nil [] (r := ())) fun r2 => (pb_if (Δ1 := fun (r3 : Unit) st => [sP pa st, sI K (a.1 : (Int × Int)), sI K (form1 : Int), .un]) (px_eqS (px_var 2) px_int).t (pb_set 3 C (px_add px_int (px_callP 0 (d__law_draw Z) C (pax_cons px_int pax_nil))) fun by_4 => (pb_retP (px_dtup (plx_cons (px_toD (px_mul (px_fst (px_var 1)) (px_var 3))) (plx_cons (px_toD (px_mul (px_snd (px_var 1)) (px_var 3))) plx_nil))))) (pb_nil [] (r := ())) fun r3 => (pb_retP (px_toD (px_var 1))))))
abbrev s__law_odd : Stmt := topS 32
theorem sc__law_odd : FnScope ["pool", "p", "form", "odd"] ["pool"] (defScope s__law_odd) := ⟨rfl, rfl, rfl, by decide +kernel, rfl, by decide +kernel, by decide +kernel⟩
theorem d__law_odd {P : Program} {w : World} {K : Fg} {mg : Str → Option Value} {base : Heap} (Z : Facts P K mg) : Def P w K mg base "_law_odd" 2 ["pool"] (spP K fun (a : Unit) => L_law_odd) := by
  obtain ⟨fd, F⟩ := Z.f__law_odd
  refine ⟨_, fd, Z.g__law_odd, F.kp, F.bindsN (fun _ _ _ _ _ _ us hl => match us, hl with | [_], _ => rfl), fn_okP (m := fun (a : Unit) => L_law_odd_b) F sc__law_odd rfl fun cdv A outer s H E C pa a => ?_⟩
  exact (pb_set 1 C (px_sub (px_callP 0 (d__law_draw Z) C (pax_cons (px_pow px_int px_int) pax_nil)) px_int) fun p1 => (pb_set 2 C (px_callP 0 (d__law_draw Z) C (pax_cons px_int pax_nil)) fun form2 => (pb_set 3 C (px_lst (plx_cons (px_toD px_bl) (plx_cons (px_toD px_bl) (plx_cons (px_toD px_non) (plx_cons (px_toD px_str) (plx_cons (px_toD px_str) (plx_cons (px_dtup plx_nil) (plx_cons (px_dtup (plx_cons (px_toD (px_var 1)) (plx_cons (px_toD px_int) plx_nil))) (plx_cons (px_dtup (plx_cons (px_toD (px_var 1)) (plx_cons (px_toD (px_neg px_int)) plx_nil))) (plx_cons (px_dtup (plx_cons (px_toD (px_var 1)) (plx_cons (px_toD px_int) (plx_cons (px_toD px_int) plx_nil)))) (plx_cons (px_dlst (plx_cons (px_toD (px_var 1)) (plx_cons (px_toD px_int) plx_nil))) (plx_cons (px_dtup (plx_cons (px_toD px_bl) (plx_cons (px_toD px_int) plx_nil))) (plx_cons (px_dtup (plx_cons (px_toD px_int) (plx_cons (px_toD px_bl) plx_nil))) (plx_cons (px_dtup (plx_cons (px_dtup (plx_cons (px_toD (px_var 1)) (plx_cons (px_toD px_int) plx_nil))) (plx_cons (px_toD px_int) plx_nil))) plx_nil)))))))))))))) fun odd3 => (pb_set 3 C (px_lcat (px_var 3) (px_lst (plx_cons (px_ddct1 (px_toD px_int) (px_toD px_int)) (plx_cons (px_toD px_str) (plx_cons (px_dtup (plx_cons (px_toD (px_var 1)) (plx_cons (px_toD px_non) plx_nil))) plx_nil))))) fun odd4 => (pb_retP (px_ix (px_var 3) (px_var 2)))))))
abbrev s__law_flag : Stmt := topS 33
theorem sc__law_flag : FnScope ["value", "due"] ["value", "due"] (defScope s__law_flag) := ⟨rfl, rfl, rfl, by decide +kernel, rfl, by decide +kernel, by decide +kernel⟩
theorem d__law_flag {P : Program} {w : World} {K : Fg} {mg : Str → Option Value} {base : Heap} (Z : Facts P K mg) : Def P w K mg base "_law_flag" 1 ["value", "due"] (spF K fun (a : (Bool × Bool × Unit)) => L_law_flag a.1 a.2.1) := by
  obtain ⟨fd, F⟩ := Z.f__law_flag
  refine ⟨_, fd, Z.g__law_flag, F.kp, F.bindsN (fun _ _ _ _ _ _ us hl => match us, hl with | [_, _], _ => rfl), fn_ok (m := fun (a : (Bool × Bool × Unit)) => L_law_flag_b a.1 a.2.1) F sc__law_flag rfl fun cdv A outer s H E C a => ?_⟩
  exact (pb_if (Δ1 := fun (r1 : Unit) _ => [sI K (a.1 : Bool), sI K (a.2.1 : Bool)]) (pt_v (px_var 1)) (pb_retI (px_isB (px_var 0) px_bl).e) (pb_nil [] (r := ())) fun r1 => (pb_retI (px_isB (px_var 0) px_bl).e))
abbrev s__law_call : Stmt := topS 34
theorem sc__law_call : FnScope ["which", "one", "other"] ["which", "one", "other"] (defScope s__law_call) := ⟨rfl, rfl, rfl, by decide +kernel, rfl, by decide +kernel, by decide +kernel⟩
theorem d__law_call {P : Program} {w : World} {K : Fg} {mg : Str → Option Value} {base : Heap} (Z : Facts P K mg) : Def P w K mg base "_law_call" 6 ["which", "one", "other"] (spF K fun (a : (Int × D × D × Unit)) => L_law_call a.1 a.2.1 a.2.2.1) := by
  obtain ⟨fd, F⟩ := Z.f__law_call
  refine ⟨_, fd, Z.g__law_call, F.kp, F.bindsN (fun _ _ _ _ _ _ us hl => match us, hl with | [_, _, _], _ => rfl), fn_ok (m := fun (a : (Int × D × D × Unit)) => L_law_call_b a.1 a.2.1 a.2.2.1) F sc__law_call rfl fun cdv A outer s H E C a => ?_⟩
  exact (pb_if (Δ1 := fun (r1 : Unit) _ => [sI K (a.1 : Int), sI K (a.2.1 : D), sI K (a.2.2.1 : D)]) (px_eqS (px_var 0) px_int).t (pb_retI (px_toD (px_call (d_added Z) C (pax_cons (px_var 1) (pax_cons (px_var 2) pax_nil))))) (pb_nil [] (r := ())) fun r1 => (pb_if (Δ1 := fun (r2 : Unit) _ => [sI K (a.1 : Int), sI K (a.2.1 : D), sI K (a.2.2.1 : D)]) (px_eqS (px_var 0) px_int).t (pb_retI (px_toD (px_call (d_subtracted Z) C (pax_cons (px_var 1) (pax_cons (px_var 2) pax_nil))))) (pb_nil [] (r := ())) fun r2 => (pb_if (Δ1 := fun (r3 : Unit) _ => [sI K (a.1 : Int), sI K (a.2.1 : D), sI K (a.2.2.1 : D)]) (px_eqS (px_var 0) px_int).t (pb_retI (px_toD (px_call (d_multiplied Z) C (pax_cons (px_var 1) (pax_cons (px_var 2) pax_nil))))) (pb_nil [] (r := ())) fun r3 => (pb_retI (px_toD (px_call (d_is_less Z) C (pax_cons (px_var 1) (pax_cons (px_var 2) pax_nil))))))))
abbrev s__law_asked : Stmt := topS 35
theorem sc__law_asked : FnScope ["which", "one", "other", "found", "e"] ["which", "one", "other"] (defScope s__law_asked) := ⟨rfl, rfl, rfl, by decide +kernel, rfl, by decide +kernel, by decide +kernel⟩
theorem d__law_asked {P : Program} {w : World} {K : Fg} {mg : Str → Option Value} {base : Heap} (Z : Facts P K mg) : Def P w K mg base "_law_asked" 7 ["which", "one", "other"] (spF K fun (a : (Int × D × D × Unit)) => L_law_asked a.1 a.2.1 a.2.2.1) := by
  obtain ⟨fd, F⟩ := Z.f__law_asked
  refine ⟨_, fd, Z.g__law_asked, F.kp, F.bindsN (fun _ _ _ _ _ _ us hl => match us, hl with | [_, _, _], _ => rfl), fn_ok (m := fun (a : (Int × D × D × Unit)) => L_law_asked_b a.1 a.2.1 a.2.2.1) F sc__law_asked rfl fun cdv A outer s H E C a => ?_⟩
  exact (pb_set 3 C (px_tup2 (pax_cons px_str (pax_cons (px_toD px_non) pax_nil))) fun found1 => (pb_try (others := []) (Δ1 := fun (r2 : (Str × D)) _ => [sI K (a.1 : Int), sI K (a.2.1 : D), sI K (a.2.2.1 : D), sI K (r2 : (Str × D)), .un]) 4 C Z.o_InvalidFraction (fun W pn xe C => (pb_setT 3 C (px_tup2 (pax_cons px_str (pax_cons (px_call (d__law_call Z) C (pax_cons (px_var 0) (pax_cons (px_var 1) (pax_cons (px_var 2) pax_nil)))) pax_nil))) fun found3 => (pb_nil [] (r := found3)))) (fun xa xo xd xn xs hz hv => (pb_setN 3 C.nd (px_tup2 (pax_cons px_str (pax_cons (px_xf 4 (Z.e_InvalidFraction).2.2.2 (Z.t_InvalidFraction_name).2 hz hv (fun _ => rfl)) pax_nil))) fun found4 => (pb_nil [4] (r := found4)))) (fun r2 => (pb_retI (px_var 3))) (hnt := fun e => nomatch e)))
abbrev s__law_good : Stmt := topS 36
theorem sc__law_good : FnScope ["pool", "one", "other", "first", "second", "dues", "which", "found"] ["pool", "one", "other"] (defScope s__law_good) := ⟨rfl, rfl, rfl, by decide +kernel, rfl, by decide +kernel, by decide +kernel⟩
theorem d__law_good {P : Program} {w : World} {K : Fg} {mg : Str → Option Value} {base : Heap} (Z : Facts P K mg) : Def P w K mg base "_law_good" 8 ["pool", "one", "other"] (spP K fun (a : ((Int × Int) × (Int × Int) × Unit)) => L_law_good a.1 a.2.1) := by
  obtain ⟨fd, F⟩ := Z.f__law_good
  refine ⟨_, fd, Z.g__law_good, F.kp, F.bindsN (fun _ _ _ _ _ _ us hl => match us, hl with | [_, _, _], _ => rfl), fn_okP (m := fun (a : ((Int × Int) × (Int × Int) × Unit)) => L_law_good_b a.1 a.2.1) F sc__law_good rfl fun cdv A outer s H E C pa a => ?_⟩
  exact (pb_set 3 C (px_callP 0 (d__law_given Z) C (pax_cons (px_var 1) pax_nil)) fun first1 => (pb_set 4 C (px_callP 0 (d__law_given Z) C (pax_cons (px_var 2) pax_nil)) fun second2 => (pb_set 5 C (px_lst (plx_cons (px_call (d__law_plus Z) C (pax_cons (px_var 1) (pax_cons (px_var 2) pax_nil))) (plx_cons (px_call (d__law_minus Z) C (pax_cons (px_var 1) (pax_cons (px_var 2) pax_nil))) (plx_cons (px_call (d__law_times Z) C (pax_cons (px_var 1) (pax_cons (px_var 2) pax_nil))) plx_nil)))) fun dues3 => (pb_for [6] [] (L := fun (r4 : Unit) st => [sP pa st, sI K (a.1 : (Int × Int)), sI K (a.2.1 : (Int × Int)), sI K (first1 : D), sI K (second2 : D), sI K (dues3 : (List (Int × Int))), .un, .un]) (r0 := ()) C (gt_name 6 C.nd) (ix_r1 Z.b_range px_int) (fun _ => rfl) (fun x5 r4 => (pb_set 7 C (px_call (d__law_asked Z) C (pax_cons (px_var 6) (pax_cons (px_var 3) (pax_cons (px_var 4) pax_nil)))) fun found6 => (pb_if (Δ1 := fun (r7 : Unit) st => [sP pa st, sI K (a.1 : (Int × Int)), sI K (a.2.1 : (Int × Int)), sI K (first1 : D), sI K (second2 : D), sI K (dues3 : (List (Int × Int))), sI K (x5 : Int), sI K (found6 : (Str × D))]) (PW.pt (Mi.pw_or (px_neS (px_fst (px_var 7)) px_str).t (Mi.pw_or1 (Mi.pt_not (pt_v (px_call (d__law_gives Z) C (pax_cons (px_snd (px_var 7)) (pax_cons (px_ix (px_var 5) (px_var 6)) pax_nil)))))))) (pb_retP px_bl) (pb_nil [] (r := ())) fun r7 => (pb_nil [6, 7] (r := ()))))) fun r4 => (pb_set 7 C (px_call (d__law_asked Z) C (pax_cons px_int (pax_cons (px_var 3) (pax_cons (px_var 4) pax_nil)))) fun found8 => (pb_retP (px_and (px_eqS (px_fst (px_var 7)) px_str).e (px_and1 (px_call (d__law_flag Z) C (pax_cons (px_ofD (px_snd (px_var 7))) (pax_cons (px_call (d__law_less Z) C (pax_cons (px_var 1) (pax_cons (px_var 2) pax_nil))) pax_nil)))))))))))
abbrev s_law : Stmt := topS 37
theorem sc_law : FnScope ["script", "pool", "k", "one", "other", "form", "odd", "which"] ["script"] (defScope s_law) := ⟨rfl, rfl, rfl, by decide +kernel, rfl, by decide +kernel, by decide +kernel⟩
theorem ok_law {P : Program} {w : World} {K : Fg} {mg : Str → Option Value} {base : Heap} (Z : Facts P K mg) {fd : FuncData} (F : FunD K "law" "law" (defArgs s_law) (defBody s_law) (defScope s_law) [] [] (He.ga K "law") fd) : FnOk P w K mg base (L2.CX P w) 9 (He.ga K "law") fd ["script"] (spF K fun (a : ((Ro Int) × Unit)) => law a.1) := by
  refine fn_ok (m := fun (a : ((Ro Int) × Unit)) => law_b a.1) F sc_law rfl fun cdv A outer s H E C a => ?_
  exact (pb_pool 1 0 8 (d__law_pool Z) C rfl fun pa => (pb_for [2] [] (L := fun (r1 : Unit) st => [sI K (a.1 : (Ro Int)), sP pa st, .un, .un, .un, .un, .un, .un]) (r0 := ()) C (gt_name 2 C.nd) (ix_r1 Z.b_range px_int) (fun _ => rfl) (fun x2 r1 => (pb_set 3 C (px_callP 1 (d__law_number Z) C pax_nil) fun one3 => (pb_set 4 C (px_callP 1 (d__law_number Z) C pax_nil) fun other4 => (pb_set 5 C (px_callP 1 (d__law_draw Z) C (pax_cons px_int pax_nil)) fun form5 => (pb_if (Δ1 := fun (r6 : (Int × Int)) st => [sI K (a.1 : (Ro Int)), sP pa st, sI K (x2 : Int), sI K (one3 : (Int × Int)), sI K (r6 : (Int × Int)), sI K (form5 : Int), .un, .un]) (px_eqS (px_var 5) px_int).t (pb_set 4 C (px_tup2 (pax_cons (px_mul (px_fst (px_var 3)) px_int) (pax_cons (px_mul (px_snd (px_var 3)) px_int) pax_nil))) fun other7 => (pb_nil [] (r := other7))) (pb_nil [] (r := other4)) fun r6 => (pb_if (Δ1 := fun (r8 : (Int × Int)) st => [sI K (a.1 : (Ro Int)), sP pa st, sI K (x2 : Int), sI K (one3 : (Int × Int)), sI K (r8 : (Int × Int)), sI K (form5 : Int), .un, .un]) (px_eqS (px_var 5) px_int).t (pb_set 4 C (px_tup2 (pax_cons (px_neg (px_fst (px_var 3))) (pax_cons (px_snd (px_var 3)) pax_nil))) fun other9 => (pb_nil [] (r := other9))) (pb_nil [] (r := r6)) fun r8 => (pb_if (Δ1 := fun (r10 : Unit) st => [sI K (a.1 : (Ro Int)), sP pa st, sI K (x2 : Int), sI K (one3 : (Int × Int)), sI K (r8 : (Int × Int)), sI K (form5 : Int), .un, .un]) (PW.pt (Mi.pw_or (Mi.pt_not (pt_v (px_callP 1 (d__law_good Z) C (pax_cons (px_var 3) (pax_cons (px_var 4) pax_nil))))) (Mi.pw_or1 (Mi.pt_not (pt_v (px_callP 1 (d__law_good Z) C (pax_cons (px_var 4) (pax_cons (px_var 3) pax_nil)))))))) (pb_retI px_bl) (pb_nil [] (r := ())) fun r10 => (pb_set 6 C (px_callP 1 (d__law_odd Z) C pax_nil) fun odd11 => (pb_set 7 C (px_callP 1 (d__law_draw Z) C (pax_cons px_int pax_nil)) fun which12 => (pb_if (Δ1 := fun (r13 : Unit) st => [sI K (a.1 : (Ro Int)), sP pa st, sI K (x2 : Int), sI K (one3 : (Int × Int)), sI K (r8 : (Int × Int)), sI K (form5 : Int), sI K (odd11 : D), sI K (which12 : Int)]) (PW.pt (Mi.pw_or (px_neA C (px_toD (px_call (d__law_asked Z) C (pax_cons (px_var 7) (pax_cons (px_var 6) (pax_cons (px_toD (px_var 3)) pax_nil))))) (px_dtup (plx_cons (px_toD px_str) (plx_cons (px_toD px_str) plx_nil)))).t (Mi.pw_or1 (px_neA C (px_toD (px_call (d__law_asked Z) C (pax_cons (px_var 7) (pax_cons (px_toD (px_var 3)) (pax_cons (px_var 6) pax_nil))))) (px_dtup (plx_cons (px_toD px_str) (plx_cons (px_toD px_str) plx_nil)))).t))) (pb_retI px_bl) (pb_nil [] (r := ())) fun r13 => (pb_if (Δ1 := fun (r14 : Unit) st => [sI K (a.1 : (Ro Int)), sP pa st, sI K (x2 : Int), sI K (one3 : (Int × Int)), sI K (r8 : (Int × Int)), sI K (form5 : Int), sI K (odd11 : D), sI K (which12 : Int)]) (PW.pt (Mi.pw_or (px_neA C (px_toD (px_call (d__law_asked Z) C (pax_cons (px_var 7) (pax_cons (px_var 6) (pax_cons (px_var 6) pax_nil))))) (px_dtup (plx_cons (px_toD px_str) (plx_cons (px_toD px_str) plx_nil)))).t (Mi.pw_or1 (Mi.pt_not (pt_v (px_callP 1 (d__law_good Z) C (pax_cons (px_var 3) (pax_cons (px_var 4) pax_nil)))))))) (pb_retI px_bl) (pb_nil [] (r := ())) fun r14 => (pb_nil [2, 3, 4, 5, 6, 7] (r := ()))))))))))))) fun r1 => (pb_retI px_bl)))
end Lw
namespace Lw
open PySem Mi
/-! ### amounts -/
theorem abs_nat (p : Int) : (if p < 0 then -p else p) = (p.natAbs : Int) := by split <;> omega
theorem reduced_ok {p q : Int} (hq : 0 < q) (hb : Bd 9000 q) : reduced p q = .ok (p / gc p q, q / gc p q) := by
  have key : reduced_b p q = sr (.rt (p / gc p q, q / gc p q)) := by
    unfold reduced_b
    simp only [sb_sr, sb_sb, abs_nat]
    obtain ⟨n, rfl⟩ : ∃ n : Nat, q = n := ⟨q.natAbs, by omega⟩
    rw [gcd_loop (fun _ => rfl) (fun _ => rfl) _ _ _ (by simp)]
    have g : ((Nat.gcd p.natAbs n : Nat) : Int) = gc p n := by unfold gc; simp
    have gb : Bd 9000 (gc p n) := hb.le (by have := gc_pos (p := p) hq; have := gc_le (p := p) hq; omega)
    simp only [obd_nx, g, pdiv_ok (gc_pos hq) gb, so_some, sb_sr]
  unfold reduced
  rw [key]
  rfl
theorem is_integer_int (n : Int) : is_integer (.int n) = .ok true := rfl
theorem is_fraction_int (n : Int) : is_fraction (.int n) = .ok true := rfl
theorem is_fraction_fr {p q : Int} (h : 0 < q) : is_fraction (.tup [.int p, .int q]) = .ok true := by
  have e : decide (1 ≤ q) = true := decide_eq_true (by omega)
  have key : is_fraction (.tup [.int p, .int q]) = .ok (decide (1 ≤ q)) := rfl
  rw [key, e]
theorem told_int (n : Int) : told (.int n) = .ok (n, 1) := rfl
theorem told_fr {p q : Int} (h : 0 < q) (hb : Bd 9000 q) : told (.tup [.int p, .int q]) = .ok (p / gc p q, q / gc p q) := by
  have key : told_b (.tup [.int p, .int q]) = sb (sl (reduced p q)) fun x => sr (.rt x) := rfl
  unfold told
  rw [key, reduced_ok h hb]
  rfl
theorem asked_fr {d : D} {x : Str} {r : Int × Int} (h : is_fraction d = .ok true) (k : told d = .ok r) : asked d x = .ok r := by
  unfold asked asked_b
  simp only [sb_sr, sb_sb, h, k, sl_ok, Bool.not_true, sIf_f, obd_nx, runF_rt]
theorem asked_no {d : D} {x : Str} (h : is_fraction d = .ok false) : asked d x = .error (.exc "InvalidFraction" [(("name" : Str), .str x)]) := by
  have m : mk_InvalidFraction x = .ok [(("name" : Str), .str x)] := rfl
  unfold asked asked_b
  simp only [sb_sr, sb_sb, h, sl_ok, Bool.not_false, sIf_t, m]
  rfl
/-! ### the law's own -/
theorem law_gcd (p q : Int) : L_law_gcd p q = .ok (gc p q) := by
  have key : L_law_gcd_b p q = sr (.rt (gc p q)) := by
    unfold L_law_gcd_b
    simp only [sb_sr, sb_sb, abs_nat]
    rw [gcd_loop (fun _ => rfl) (fun _ => rfl) _ _ _ (by simp)]
    rfl
  unfold L_law_gcd
  rw [key]
  rfl
theorem law_told (p q : Int) : L_law_told (.tup [.int p, .int q]) = .ok (decide (1 ≤ q) && decide (gc p q = 1)) := by
  have key : L_law_told_b (.tup [.int p, .int q]) = sb (sAnd (sr (decide (1 ≤ q))) (sb (sl (L_law_gcd p q)) fun x => sr (decide (x = 1)))) fun x => sr (.rt x) := rfl
  unfold L_law_told
  rw [key, law_gcd]
  cases decide (1 ≤ q) <;> rfl
theorem law_even {a b : Int × Int} {n : Nat} (h1 : Bd n a.1) (h2 : Bd n a.2) (h3 : Bd n b.1) (h4 : Bd n b.2) (hn : 0 < n ∧ n ≤ 400000) : L_law_even a b = .ok (decide (a.1 * b.2 = b.1 * a.2)) := by
  unfold L_law_even L_law_even_b
  simp only [sb_sr, sb_sb, pmul_ok h1 h4 ⟨hn.1, hn.1, by omega⟩, pmul_ok h3 h2 ⟨hn.1, hn.1, by omega⟩, so_some, runF_rt]
/-- a fraction in lowest terms that is the due one -/
theorem law_gives {p q : Int} {due : Int × Int} {n : Nat} (hq : 0 < q) (hb : Bd n p) (hc : Bd n q) (h3 : Bd n due.1) (h4 : Bd n due.2) (hn : 0 < n ∧ n ≤ 400000) (e : p * due.2 = due.1 * q) :
    L_law_gives (toD ((p / gc p q, q / gc p q) : Int × Int)) due = .ok true := by
  have lo := low_pos (p := p) hq
  have b1 : Bd n (p / gc p q) := hb.le (by
    rw [Int.natAbs_ediv_of_dvd (gc_p p q)]; exact Nat.div_le_self _ _)
  have b2 : Bd n (q / gc p q) := hc.le (by
    rw [Int.natAbs_ediv_of_dvd (gc_q p q)]; exact Nat.div_le_self _ _)
  have key : L_law_gives_b (toD ((p / gc p q, q / gc p q) : Int × Int)) due = sb (sAnd (sl (L_law_told (.tup [.int (p / gc p q), .int (q / gc p q)]))) (sl (L_law_even (p / gc p q, q / gc p q) due))) fun x => sr (.rt x) := by
    unfold L_law_gives_b
    simp only [sb_sr, sb_sb, sb_id]
    rfl
  have e2 : p / gc p q * due.2 = due.1 * (q / gc p q) := by
    have g := gc_pos (p := p) hq
    obtain ⟨a, ha⟩ := gc_p p q
    obtain ⟨b, hz⟩ := gc_q p q
    generalize gc p q = d at *
    subst ha hz
    rw [Int.mul_ediv_cancel_left _ (by omega), Int.mul_ediv_cancel_left _ (by omega)]
    have : d * (a * due.2) = d * (due.1 * b) := by grind
    exact Int.eq_of_mul_eq_mul_left (by omega) this
  unfold L_law_gives
  rw [key, law_told, law_even (n := n) b1 b2 h3 h4 hn, gc_low hq, decide_eq_true e2, decide_eq_true (show 1 ≤ q / gc p q by omega)]
  rfl
end Lw
namespace Lw
open PySem Mi
/-! ### draws of the amounts' laws -/
theorem Bd.rng {n : Nat} {b r : Int} (h0 : 0 ≤ r) (h1 : r < b) (h2 : b.natAbs < 2 ^ n) : Bd n r := by
  unfold Bd
  have : r.natAbs < b.natAbs := by omega
  omega
theorem numb (st : Pool) (g : GoodPool st) : Ok L_law_number st fun r s => GoodPool s ∧ 0 < r.2 ∧ Bd 140 r.1 ∧ Bd 140 r.2 := by
  unfold L_law_number
  refine Ok.runP ?_
  unfold L_law_number_b
  simp only [sIf_sb, sOr_sb, sAnd_sb, sb_sr, sb_sb, so_some]
  have e40 : ppow 10 40 = some (10 ^ 40 : Int) := rfl
  have e30 : ppow 10 30 = some (10 ^ 30 : Int) := rfl
  have e20 : ppow 10 20 = some (10 ^ 20 : Int) := rfl
  have sm : ∀ {x : Int}, x.natAbs ≤ 1000 → Bd 140 x := fun h => Bd.of h (by decide)
  refine Ok.sb (Ok.draw g (by decide) (by decide) fun form s g f0 f1 => ?_)
  refine Ok.obd (Ok.sIf ⟨fun _ => ?_, fun _ => ?_⟩)
  · refine Ok.sb (Ok.draw g (by decide) (by decide) fun x s g x0 x1 => ?_)
    exact ⟨g, (by show (0 : Int) < 1; decide), sm (by show (x - 6).natAbs ≤ 1000; omega), sm (by show (1 : Int).natAbs ≤ 1000; decide)⟩
  refine Ok.obd (Ok.sIf ⟨fun _ => ?_, fun _ => ?_⟩)
  · refine Ok.sb (Ok.draw g (by decide) (by decide) fun x s g x0 x1 => ?_)
    refine Ok.sb (Ok.draw g (by decide) (by decide) fun y s g y0 y1 => ?_)
    exact ⟨g, by show 0 < 1 + y; omega, sm (by show (x - 30).natAbs ≤ 1000; omega), sm (by show (1 + y).natAbs ≤ 1000; omega)⟩
  refine Ok.sb (Ok.draw g (by decide) (by decide) fun x s g x0 x1 => ?_)
  have hx : Bd 3 x := Bd.of (b := 2) (by omega) (by decide)
  refine Ok.sb (Ok.so (pmul_ok (n := 3) (Bd.of (b := 2) (by decide) (by decide)) hx (by decide)) ?_)
  have hs : Bd 4 (1 - 2 * x) := Bd.of (b := 4) (by omega) (by decide)
  refine Ok.obd (Ok.sIf ⟨fun _ => ?_, fun _ => ?_⟩)
  · refine Ok.sb (Ok.so e40 (Ok.sb (Ok.draw g (by decide +kernel) (by decide +kernel) fun y s g y0 y1 => ?_)))
    have hy : Bd 134 y := Bd.rng y0 y1 (by decide +kernel)
    refine Ok.sb (Ok.so (pmul_ok hs hy (by decide)) ?_)
    exact ⟨g, (by show (0 : Int) < 1; decide), (hs.mul hy).mono (by decide), sm (by show (1 : Int).natAbs ≤ 1000; decide)⟩
  · refine Ok.sb (Ok.so e30 (Ok.sb (Ok.draw g (by decide +kernel) (by decide +kernel) fun y s g y0 y1 => ?_)))
    have hy : Bd 100 y := Bd.rng y0 y1 (by decide +kernel)
    refine Ok.sb (Ok.so (pmul_ok hs hy (by decide)) ?_)
    refine Ok.sb (Ok.so e20 (Ok.sb (Ok.draw g (by decide +kernel) (by decide +kernel) fun z s g z0 z1 => ?_)))
    have hz : Bd 100 z := Bd.rng z0 z1 (by decide +kernel)
    exact ⟨g, by show 0 < 1 + z; omega, (hs.mul hy).mono (by decide), ((Bd.of (b := 1) (by decide) (by decide) : Bd 100 1).add hz).mono (by decide)⟩
def Given (v : D) (n : Int × Int) : Prop := ∃ p q : Int, (v = .tup [.int p, .int q] ∨ (v = .int p ∧ q = 1)) ∧ 0 < q ∧ Bd 150 p ∧ Bd 150 q ∧ p * n.2 = n.1 * q
theorem given_ok {n : Int × Int} (hn : 0 < n.2) (b1 : Bd 145 n.1) (b2 : Bd 145 n.2) (st : Pool) (g : GoodPool st) : Ok (L_law_given n) st fun v s => GoodPool s ∧ Given v n := by
  unfold L_law_given
  refine Ok.runP ?_
  unfold L_law_given_b
  simp only [sIf_sb, sOr_sb, sAnd_sb, sb_sr, sb_sb, so_some]
  refine Ok.sb (Ok.draw g (by decide) (by decide) fun form s g f0 f1 => ?_)
  have same : Given (.tup [.int n.1, .int n.2]) n := ⟨n.1, n.2, .inl rfl, hn, b1.mono (by decide), b2.mono (by decide), rfl⟩
  refine Ok.obd (Ok.sIf (Ok.sAnd ⟨fun _ => ⟨fun h => ?_, fun _ => ?_⟩, fun _ => ⟨fun h => (nomatch h), fun _ => ?_⟩⟩))
  · have e : n.2 = 1 := of_decide_eq_true h
    exact ⟨g, n.1, 1, .inr ⟨rfl, rfl⟩, by decide, b1.mono (by decide), Bd.of (b := 1) (by decide) (by decide), by rw [e]⟩
  all_goals
    refine Ok.obd (Ok.sIf ⟨fun _ => ?_, fun _ => ⟨g, same⟩⟩)
    refine Ok.sb (Ok.draw g (by decide) (by decide) fun x s g x0 x1 => ?_)
    have hx : Bd 4 (1 + x) := Bd.of (b := 6) (by omega) (by decide)
    refine Ok.sb (Ok.so (pmul_ok b1 hx (by decide)) (Ok.sb (Ok.so (pmul_ok b2 hx (by decide)) ?_)))
    refine Ok.sb (Ok.so rfl ⟨g, n.1 * (1 + x), n.2 * (1 + x), .inl rfl, Int.mul_pos hn (by omega), (b1.mul hx).mono (by decide), (b2.mul hx).mono (by decide), by grind⟩)
theorem gc_one (p : Int) : gc p 1 = 1 := by unfold gc; simp
theorem given_told {v : D} {n : Int × Int} (h : Given v n) (b1 : Bd 145 n.1) (b2 : Bd 145 n.2) : is_fraction v = .ok true ∧ ∃ r, told v = .ok r ∧ L_law_gives (toD r) n = .ok true := by
  obtain ⟨p, q, hv, hq, hp, hb, e⟩ := h
  have gv := law_gives (n := 150) hq hp hb (b1.mono (by decide)) (b2.mono (by decide)) (by decide) e
  rcases hv with rfl | ⟨rfl, rfl⟩
  · exact ⟨is_fraction_fr hq, _, told_fr hq (hb.mono (by decide)), gv⟩
  · refine ⟨rfl, _, told_int p, ?_⟩
    rw [gc_one, Int.ediv_one, Int.ediv_one] at gv
    exact gv
theorem odd_ok (st : Pool) (g : GoodPool st) : Ok L_law_odd st fun d s => GoodPool s ∧ is_fraction d = .ok false := by
  unfold L_law_odd
  refine Ok.runP ?_
  unfold L_law_odd_b
  simp only [sIf_sb, sOr_sb, sAnd_sb, sb_sr, sb_sb, so_some]
  refine Ok.sb (Ok.so (show ppow 10 20 = some (10 ^ 20 : Int) from rfl) (Ok.sb (Ok.draw g (by decide +kernel) (by decide +kernel) fun p s g _ _ => ?_)))
  generalize p - 50 = p
  refine Ok.sb (Ok.draw g (by decide) (by decide) fun i s g i0 i1 => ?_)
  repeat refine Ok.sb (Ok.so rfl ?_)
  have key : ∃ d, pix ([.bl true, .bl false, .non, .str "3", .str "", .tup [], .tup [.int p, .int 0], .tup [.int p, .int (-2)], .tup [.int p, .int 2, .int 3], .lst [.int p, .int 2], .tup [.bl true, .int 1], .tup [.int 1, .bl true], .tup [.tup [.int p, .int 2], .int 1]] ++
      [.dct [(.int 1, .int 2)], .str "1/2", .tup [.int p, .non]] : List D) i = some d ∧ is_fraction d = .ok false := by
    have : i = 0 ∨ i = 1 ∨ i = 2 ∨ i = 3 ∨ i = 4 ∨ i = 5 ∨ i = 6 ∨ i = 7 ∨ i = 8 ∨ i = 9 ∨ i = 10 ∨ i = 11 ∨ i = 12 ∨ i = 13 ∨ i = 14 ∨ i = 15 := by omega
    rcases this with e | e | e | e | e | e | e | e | e | e | e | e | e | e | e | e <;> subst e <;> exact ⟨_, rfl, rfl⟩
  obtain ⟨d, e1, e2⟩ := key
  exact Ok.sb (Ok.so e1 ⟨g, e2⟩)
end Lw
namespace Lw
open PySem Mi
theorem given_r {v : D} {n : Int × Int} (h : Given v n) : is_fraction v = .ok true ∧ ∃ r, told v = .ok r ∧ 0 < r.2 ∧ Bd 150 r.1 ∧ Bd 150 r.2 ∧ r.1 * n.2 = n.1 * r.2 := by
  obtain ⟨p, q, hv, hq, hp, hb, e⟩ := h
  rcases hv with rfl | ⟨rfl, rfl⟩
  · refine ⟨is_fraction_fr hq, _, told_fr hq (hb.mono (by decide)), low_pos hq, hp.le ?_, hb.le ?_, ?_⟩
    · rw [Int.natAbs_ediv_of_dvd (gc_p p q)]; exact Nat.div_le_self _ _
    · rw [Int.natAbs_ediv_of_dvd (gc_q p q)]; exact Nat.div_le_self _ _
    · have g := gc_pos (p := p) hq
      obtain ⟨a, ha⟩ := gc_p p q
      obtain ⟨b, hz⟩ := gc_q p q
      generalize gc p q = d at *
      subst ha hz
      rw [Int.mul_ediv_cancel_left _ (by omega), Int.mul_ediv_cancel_left _ (by omega)]
      have : d * (a * n.2) = d * (n.1 * b) := by grind
      exact Int.eq_of_mul_eq_mul_left (by omega) this
  · exact ⟨rfl, _, told_int p, (by show (0 : Int) < 1; decide), hp, hb, e⟩
section
variable {v w : D} {r q : Int × Int} (fv : is_fraction v = .ok true) (fw : is_fraction w = .ok true) (tv : told v = .ok r) (tw : told w = .ok q) (r0 : 0 < r.2) (q0 : 0 < q.2) (r1 : Bd 150 r.1) (r2 : Bd 150 r.2) (q1 : Bd 150 q.1) (q2 : Bd 150 q.2)
include fv fw tv tw r1 r2 q1 q2
theorem call_sum (r0 : 0 < r.2) (q0 : 0 < q.2) : ∃ P Q, added v w = .ok (P / gc P Q, Q / gc P Q) ∧ 0 < Q ∧ Bd 310 P ∧ Bd 310 Q ∧ P = r.1 * q.2 + q.1 * r.2 ∧ Q = r.2 * q.2 := by
  have hq := Int.mul_pos r0 q0
  have bP : Bd 310 (r.1 * q.2 + q.1 * r.2) := ((r1.mul q2).add (q1.mul r2)).mono (by decide)
  have bQ : Bd 310 (r.2 * q.2) := (r2.mul q2).mono (by decide)
  refine ⟨_, _, ?_, hq, bP, bQ, rfl, rfl⟩
  have f : fsum r q = .ok ((r.1 * q.2 + q.1 * r.2) / gc (r.1 * q.2 + q.1 * r.2) (r.2 * q.2), (r.2 * q.2) / gc (r.1 * q.2 + q.1 * r.2) (r.2 * q.2)) := by
    unfold fsum fsum_b
    simp only [sb_sr, sb_sb, pmul_ok r1 q2 (by decide), pmul_ok q1 r2 (by decide), pmul_ok r2 q2 (by decide), so_some, reduced_ok hq (bQ.mono (by decide)), sl_ok, runF_rt]
  unfold added added_b
  simp only [sb_sr, sb_sb, asked_fr fv tv, asked_fr fw tw, sl_ok, f, runF_rt]
theorem call_diff (r0 : 0 < r.2) (q0 : 0 < q.2) : ∃ P Q, subtracted v w = .ok (P / gc P Q, Q / gc P Q) ∧ 0 < Q ∧ Bd 310 P ∧ Bd 310 Q ∧ P = r.1 * q.2 - q.1 * r.2 ∧ Q = r.2 * q.2 := by
  have hq := Int.mul_pos r0 q0
  have bP : Bd 310 (r.1 * q.2 - q.1 * r.2) := ((r1.mul q2).sub (q1.mul r2)).mono (by decide)
  have bQ : Bd 310 (r.2 * q.2) := (r2.mul q2).mono (by decide)
  refine ⟨_, _, ?_, hq, bP, bQ, rfl, rfl⟩
  have f : fdiff r q = .ok ((r.1 * q.2 - q.1 * r.2) / gc (r.1 * q.2 - q.1 * r.2) (r.2 * q.2), (r.2 * q.2) / gc (r.1 * q.2 - q.1 * r.2) (r.2 * q.2)) := by
    unfold fdiff fdiff_b
    simp only [sb_sr, sb_sb, pmul_ok r1 q2 (by decide), pmul_ok q1 r2 (by decide), pmul_ok r2 q2 (by decide), so_some, reduced_ok hq (bQ.mono (by decide)), sl_ok, runF_rt]
  unfold subtracted subtracted_b
  simp only [sb_sr, sb_sb, asked_fr fv tv, asked_fr fw tw, sl_ok, f, runF_rt]
theorem call_prod (r0 : 0 < r.2) (q0 : 0 < q.2) : ∃ P Q, multiplied v w = .ok (P / gc P Q, Q / gc P Q) ∧ 0 < Q ∧ Bd 310 P ∧ Bd 310 Q ∧ P = r.1 * q.1 ∧ Q = r.2 * q.2 := by
  have hq := Int.mul_pos r0 q0
  have bP : Bd 310 (r.1 * q.1) := (r1.mul q1).mono (by decide)
  have bQ : Bd 310 (r.2 * q.2) := (r2.mul q2).mono (by decide)
  refine ⟨_, _, ?_, hq, bP, bQ, rfl, rfl⟩
  have f : fprod r q = .ok ((r.1 * q.1) / gc (r.1 * q.1) (r.2 * q.2), (r.2 * q.2) / gc (r.1 * q.1) (r.2 * q.2)) := by
    unfold fprod fprod_b
    simp only [sb_sr, sb_sb, pmul_ok r1 q1 (by decide), pmul_ok r2 q2 (by decide), so_some, reduced_ok hq (bQ.mono (by decide)), sl_ok, runF_rt]
  unfold multiplied multiplied_b
  simp only [sb_sr, sb_sb, asked_fr fv tv, asked_fr fw tw, sl_ok, f, runF_rt]
theorem call_less : is_less v w = .ok (decide (r.1 * q.2 < q.1 * r.2)) := by
  have f : fless r q = .ok (decide (r.1 * q.2 < q.1 * r.2)) := by
    unfold fless fless_b
    simp only [sb_sr, sb_sb, pmul_ok r1 q2 (by decide), pmul_ok q1 r2 (by decide), so_some, runF_rt]
  unfold is_less is_less_b
  simp only [sb_sr, sb_sb, asked_fr fv tv, asked_fr fw tw, sl_ok, f, runF_rt]
end
theorem less_same {r q n m : Int × Int} (r0 : 0 < r.2) (q0 : 0 < q.2) (n0 : 0 < n.2) (m0 : 0 < m.2) (e1 : r.1 * n.2 = n.1 * r.2) (e2 : q.1 * m.2 = m.1 * q.2) : decide (r.1 * q.2 < q.1 * r.2) = decide (n.1 * m.2 < m.1 * n.2) := by
  have k1 : (r.1 * q.2) * (n.2 * m.2) = (n.1 * m.2) * (r.2 * q.2) := by grind
  have k2 : (q.1 * r.2) * (n.2 * m.2) = (m.1 * n.2) * (r.2 * q.2) := by grind
  have p1 := Int.mul_pos n0 m0
  have p2 := Int.mul_pos r0 q0
  refine decide_eq_decide.mpr ?_
  rw [← Int.mul_lt_mul_right p1, k1, k2, Int.mul_lt_mul_right p2]
theorem no1_added {v w : D} (h : is_fraction v = .ok false) : added v w = .error (.exc "InvalidFraction" [(("name" : Str), .str "one")]) := by
  unfold added added_b
  simp only [sb_sr, sb_sb, asked_no h]
  rfl
theorem no2_added {v w : D} {r : Int × Int} (fv : is_fraction v = .ok true) (tv : told v = .ok r) (h : is_fraction w = .ok false) : added v w = .error (.exc "InvalidFraction" [(("name" : Str), .str "other")]) := by
  unfold added added_b
  simp only [sb_sr, sb_sb, asked_fr fv tv, sl_ok, asked_no h]
  rfl
theorem call_added (v w : D) : L_law_call 0 v w = (match added v w with
    | .ok r => .ok (toD r)
    | .error e => .error e) := by
  unfold L_law_call L_law_call_b
  simp only [sb_sr, sb_sb, sIf_t, sIf_f, obd_nx, obd_rt, show decide ((0 : Int) = 0) = true from rfl, show decide ((1 : Int) = 0) = false from rfl, show decide ((1 : Int) = 1) = true from rfl, show decide ((2 : Int) = 0) = false from rfl, show decide ((2 : Int) = 1) = false from rfl, show decide ((2 : Int) = 2) = true from rfl, show decide ((3 : Int) = 0) = false from rfl, show decide ((3 : Int) = 1) = false from rfl, show decide ((3 : Int) = 2) = false from rfl]
  cases added v w <;> rfl
theorem no1_subtracted {v w : D} (h : is_fraction v = .ok false) : subtracted v w = .error (.exc "InvalidFraction" [(("name" : Str), .str "one")]) := by
  unfold subtracted subtracted_b
  simp only [sb_sr, sb_sb, asked_no h]
  rfl
theorem no2_subtracted {v w : D} {r : Int × Int} (fv : is_fraction v = .ok true) (tv : told v = .ok r) (h : is_fraction w = .ok false) : subtracted v w = .error (.exc "InvalidFraction" [(("name" : Str), .str "other")]) := by
  unfold subtracted subtracted_b
  simp only [sb_sr, sb_sb, asked_fr fv tv, sl_ok, asked_no h]
  rfl
theorem call_subtracted (v w : D) : L_law_call 1 v w = (match subtracted v w with
    | .ok r => .ok (toD r)
    | .error e => .error e) := by
  unfold L_law_call L_law_call_b
  simp only [sb_sr, sb_sb, sIf_t, sIf_f, obd_nx, obd_rt, show decide ((0 : Int) = 0) = true from rfl, show decide ((1 : Int) = 0) = false from rfl, show decide ((1 : Int) = 1) = true from rfl, show decide ((2 : Int) = 0) = false from rfl, show decide ((2 : Int) = 1) = false from rfl, show decide ((2 : Int) = 2) = true from rfl, show decide ((3 : Int) = 0) = false from rfl, show decide ((3 : Int) = 1) = false from rfl, show decide ((3 : Int) = 2) = false from rfl]
  cases subtracted v w <;> rfl
theorem no1_multiplied {v w : D} (h : is_fraction v = .ok false) : multiplied v w = .error (.exc "InvalidFraction" [(("name" : Str), .str "one")]) := by
  unfold multiplied multiplied_b
  simp only [sb_sr, sb_sb, asked_no h]
  rfl
theorem no2_multiplied {v w : D} {r : Int × Int} (fv : is_fraction v = .ok true) (tv : told v = .ok r) (h : is_fraction w = .ok false) : multiplied v w = .error (.exc "InvalidFraction" [(("name" : Str), .str "other")]) := by
  unfold multiplied multiplied_b
  simp only [sb_sr, sb_sb, asked_fr fv tv, sl_ok, asked_no h]
  rfl
theorem call_multiplied (v w : D) : L_law_call 2 v w = (match multiplied v w with
    | .ok r => .ok (toD r)
    | .error e => .error e) := by
  unfold L_law_call L_law_call_b
  simp only [sb_sr, sb_sb, sIf_t, sIf_f, obd_nx, obd_rt, show decide ((0 : Int) = 0) = true from rfl, show decide ((1 : Int) = 0) = false from rfl, show decide ((1 : Int) = 1) = true from rfl, show decide ((2 : Int) = 0) = false from rfl, show decide ((2 : Int) = 1) = false from rfl, show decide ((2 : Int) = 2) = true from rfl, show decide ((3 : Int) = 0) = false from rfl, show decide ((3 : Int) = 1) = false from rfl, show decide ((3 : Int) = 2) = false from rfl]
  cases multiplied v w <;> rfl
theorem no1_is_less {v w : D} (h : is_fraction v = .ok false) : is_less v w = .error (.exc "InvalidFraction" [(("name" : Str), .str "one")]) := by
  unfold is_less is_less_b
  simp only [sb_sr, sb_sb, asked_no h]
  rfl
theorem no2_is_less {v w : D} {r : Int × Int} (fv : is_fraction v = .ok true) (tv : told v = .ok r) (h : is_fraction w = .ok false) : is_less v w = .error (.exc "InvalidFraction" [(("name" : Str), .str "other")]) := by
  unfold is_less is_less_b
  simp only [sb_sr, sb_sb, asked_fr fv tv, sl_ok, asked_no h]
  rfl
theorem call_is_less (v w : D) : L_law_call 3 v w = (match is_less v w with
    | .ok r => .ok (toD r)
    | .error e => .error e) := by
  unfold L_law_call L_law_call_b
  simp only [sb_sr, sb_sb, sIf_t, sIf_f, obd_nx, obd_rt, show decide ((0 : Int) = 0) = true from rfl, show decide ((1 : Int) = 0) = false from rfl, show decide ((1 : Int) = 1) = true from rfl, show decide ((2 : Int) = 0) = false from rfl, show decide ((2 : Int) = 1) = false from rfl, show decide ((2 : Int) = 2) = true from rfl, show decide ((3 : Int) = 0) = false from rfl, show decide ((3 : Int) = 1) = false from rfl, show decide ((3 : Int) = 2) = false from rfl]
  cases is_less v w <;> rfl
theorem asked_told {k : Int} {v w d : D} (h : L_law_call k v w = .ok d) : L_law_asked k v w = .ok ("told", d) := by
  unfold L_law_asked L_law_asked_b
  simp only [sb_sr, sb_sb, h, sl_ok]
  rfl
theorem asked_ref {k : Int} {v w d : D} (h : L_law_call k v w = .error (.exc "InvalidFraction" [(("name" : Str), d)])) : L_law_asked k v w = .ok ("refused", d) := by
  unfold L_law_asked L_law_asked_b
  simp only [sb_sr, sb_sb, h]
  rfl
theorem ref_one {k : Int} (k0 : 0 ≤ k) (k1 : k < 4) {v w : D} (h : is_fraction v = .ok false) : L_law_asked k v w = .ok ("refused", .str "one") := by
  refine asked_ref ?_
  have : k = 0 ∨ k = 1 ∨ k = 2 ∨ k = 3 := by omega
  rcases this with e | e | e | e <;> subst e
  · rw [call_added, no1_added h]
  · rw [call_subtracted, no1_subtracted h]
  · rw [call_multiplied, no1_multiplied h]
  · rw [call_is_less, no1_is_less h]
theorem ref_other {k : Int} (k0 : 0 ≤ k) (k1 : k < 4) {v w : D} {r : Int × Int} (fv : is_fraction v = .ok true) (tv : told v = .ok r) (h : is_fraction w = .ok false) : L_law_asked k v w = .ok ("refused", .str "other") := by
  refine asked_ref ?_
  have : k = 0 ∨ k = 1 ∨ k = 2 ∨ k = 3 := by omega
  rcases this with e | e | e | e <;> subst e
  · rw [call_added, no2_added fv tv h]
  · rw [call_subtracted, no2_subtracted fv tv h]
  · rw [call_multiplied, no2_multiplied fv tv h]
  · rw [call_is_less, no2_is_less fv tv h]
theorem mem_rng {x lo : Int} {n : Nat} (h : x ∈ irange lo n) : lo ≤ x ∧ x < lo + n := by
  unfold irange at h
  obtain ⟨j, hj, rfl⟩ := List.mem_map.mp h
  have := List.mem_range.mp hj
  omega
theorem flag (v d : Bool) : L_law_flag v d = .ok (decide (v = d)) := by cases v <;> cases d <;> rfl
theorem good_ok {n m : Int × Int} (n0 : 0 < n.2) (m0 : 0 < m.2) (n1 : Bd 145 n.1) (n2 : Bd 145 n.2) (m1 : Bd 145 m.1) (m2 : Bd 145 m.2) (st : Pool) (g : GoodPool st) : Ok (L_law_good n m) st fun b s => b = true ∧ GoodPool s := by
  unfold L_law_good
  refine Ok.runP ?_
  unfold L_law_good_b
  simp only [sIf_sb, sOr_sb, sAnd_sb, sb_sr, sb_sb, so_some]
  refine Ok.sb ((given_ok n0 n1 n2 st g).mono fun v s ⟨g, hv⟩ => Ok.sb ((given_ok m0 m1 m2 s g).mono fun w s ⟨g, hw⟩ => ?_))
  obtain ⟨fv, r, tv, r0, r1, r2, e1⟩ := given_r hv
  obtain ⟨fw, q, tw, q0, q1, q2, e2⟩ := given_r hw
  have hp : L_law_plus n m = .ok (n.1 * m.2 + m.1 * n.2, n.2 * m.2) := by
    unfold L_law_plus L_law_plus_b
    simp only [sb_sr, sb_sb, pmul_ok n1 m2 (by decide), pmul_ok m1 n2 (by decide), pmul_ok n2 m2 (by decide), so_some, runF_rt]
  have hm : L_law_minus n m = .ok (n.1 * m.2 - m.1 * n.2, n.2 * m.2) := by
    unfold L_law_minus L_law_minus_b
    simp only [sb_sr, sb_sb, pmul_ok n1 m2 (by decide), pmul_ok m1 n2 (by decide), pmul_ok n2 m2 (by decide), so_some, runF_rt]
  have ht : L_law_times n m = .ok (n.1 * m.1, n.2 * m.2) := by
    unfold L_law_times L_law_times_b
    simp only [sb_sr, sb_sb, pmul_ok n1 m1 (by decide), pmul_ok n2 m2 (by decide), so_some, runF_rt]
  have hl : L_law_less n m = .ok (decide (n.1 * m.2 < m.1 * n.2)) := by
    unfold L_law_less L_law_less_b
    simp only [sb_sr, sb_sb, pmul_ok n1 m2 (by decide), pmul_ok m1 n2 (by decide), so_some, runF_rt]
  have bd : Bd 310 (n.2 * m.2) := (n2.mul m2).mono (by decide)
  have bp : Bd 310 (n.1 * m.2 + m.1 * n.2) := ((n1.mul m2).add (m1.mul n2)).mono (by decide)
  have bm : Bd 310 (n.1 * m.2 - m.1 * n.2) := ((n1.mul m2).sub (m1.mul n2)).mono (by decide)
  have bt : Bd 310 (n.1 * m.1) := (n1.mul m1).mono (by decide)
  refine Ok.sb (Ok.sl hp (Ok.sb (Ok.sl hm (Ok.sb (Ok.sl ht (Ok.sb (Ok.so (plen_ok (by show 3 ≤ _; decide)) ?_)))))))
  refine Ok.sb (Ok.so (prng_ok (by decide) (by decide) (by decide) (by decide)) ?_)
  refine Ok.obdP (fun _ s => GoodPool s) (Ok.forI (fun _ s => GoodPool s) g (fun x u s hx g => ?_) fun r s g => ⟨r, rfl, g⟩) fun _ s g => ?_
  · obtain ⟨x0, x1⟩ := mem_rng hx
    have x1 : x < 3 := by simpa using x1
    have key : ∃ d due, L_law_asked x v w = .ok ("told", d) ∧ pix [(n.1 * m.2 + m.1 * n.2, n.2 * m.2), (n.1 * m.2 - m.1 * n.2, n.2 * m.2), (n.1 * m.1, n.2 * m.2)] x = some due ∧ L_law_gives d due = .ok true := by
      have : x = 0 ∨ x = 1 ∨ x = 2 := by omega
      rcases this with e | e | e <;> subst e
      · obtain ⟨P, Q, h1, h2, h3, h4, h5, h6⟩ := call_sum fv fw tv tw r1 r2 q1 q2 r0 q0
        exact ⟨_, _, asked_told (by rw [call_added, h1]), rfl, law_gives (n := 310) h2 h3 h4 bp bd (by decide) (by rw [h5, h6]; show _ * (n.2 * m.2) = (n.1 * m.2 + m.1 * n.2) * _; grind)⟩
      · obtain ⟨P, Q, h1, h2, h3, h4, h5, h6⟩ := call_diff fv fw tv tw r1 r2 q1 q2 r0 q0
        exact ⟨_, _, asked_told (by rw [call_subtracted, h1]), rfl, law_gives (n := 310) h2 h3 h4 bm bd (by decide) (by rw [h5, h6]; show _ * (n.2 * m.2) = (n.1 * m.2 - m.1 * n.2) * _; grind)⟩
      · obtain ⟨P, Q, h1, h2, h3, h4, h5, h6⟩ := call_prod fv fw tv tw r1 r2 q1 q2 r0 q0
        exact ⟨_, _, asked_told (by rw [call_multiplied, h1]), rfl, law_gives (n := 310) h2 h3 h4 bt bd (by decide) (by rw [h5, h6]; show _ * (n.2 * m.2) = (n.1 * m.1) * _; grind)⟩
    obtain ⟨d, due, k1, k2, k3⟩ := key
    refine Ok.sb (Ok.sl k1 (Ok.obdP (fun _ s => GoodPool s) (Ok.sIf (Ok.sOr ⟨fun h => (nomatch h), fun _ => Ok.sb (Ok.so k2 (Ok.sb (Ok.sl k3 ⟨fun h => (nomatch h), fun _ => ⟨_, rfl, g⟩⟩)))⟩)) fun _ s g => g))
  · have k := asked_told (k := 3) (v := v) (w := w) (by rw [call_is_less, call_less fv fw tv tw r1 r2 q1 q2])
    refine Ok.sb (Ok.sl k (Ok.sb (Ok.sAnd ⟨fun _ => Ok.sb (Ok.so rfl (Ok.sb (Ok.sl hl (Ok.sl (flag _ _) ?_)))), fun h => (nomatch h)⟩)))
    rw [less_same r0 q0 n0 m0 e1 e2, decide_eq_true rfl]
    exact ⟨rfl, g⟩
theorem lawOk (script : Ro Int) : law script = .ok true := by
  unfold law law_b
  refine runF_of (Ok.ofP ?_)
  have g := good_of script.l
  generalize poolOf script.l = st at g
  unfold law_p
  simp only [sIf_sb, sOr_sb, sAnd_sb, sb_sr, sb_sb, so_some]
  refine Ok.sb (Ok.so (prng_ok (by decide) (by decide) (by decide) (by decide)) ?_)
  refine Ok.obdP (fun _ s => GoodPool s) (Ok.forI (fun _ s => GoodPool s) g (fun x r s _ g => ?_) fun r s g => ⟨r, rfl, g⟩) fun _ s g => rfl
  refine Ok.sb ((numb s g).mono fun n s ⟨g, n0, n1, n2⟩ => Ok.sb ((numb s g).mono fun m s ⟨g, m0, m1, m2⟩ => Ok.sb (Ok.draw g (by decide) (by decide) fun form s g _ _ => ?_)))
  have b3 : Bd 2 3 := Bd.of (b := 3) (by decide) (by decide)
  refine Ok.obdP (fun (q : Int × Int) s => GoodPool s ∧ 0 < q.2 ∧ Bd 145 q.1 ∧ Bd 145 q.2) (Ok.sIf ⟨fun _ => ?_, fun _ => ⟨_, rfl, g, m0, m1.mono (by decide), m2.mono (by decide)⟩⟩) fun q s ⟨g, q0, q1, q2⟩ => ?_
  · refine Ok.sb (Ok.so (pmul_ok n1 b3 (by decide)) (Ok.sb (Ok.so (pmul_ok n2 b3 (by decide)) ⟨_, rfl, g, ?_, (n1.mul b3).mono (by decide), (n2.mul b3).mono (by decide)⟩)))
    show 0 < n.2 * 3; omega
  refine Ok.obdP (fun (q : Int × Int) s => GoodPool s ∧ 0 < q.2 ∧ Bd 145 q.1 ∧ Bd 145 q.2) (Ok.sIf ⟨fun _ => ⟨_, rfl, g, n0, n1.neg.mono (by decide), n2.mono (by decide)⟩, fun _ => ⟨_, rfl, g, q0, q1, q2⟩⟩) fun q s ⟨g, q0, q1, q2⟩ => ?_
  have n1 := n1.mono (m := 145) (by decide)
  have n2 := n2.mono (m := 145) (by decide)
  refine Ok.obdP (fun _ s => GoodPool s) (Ok.sb ((good_ok n0 q0 n1 n2 q1 q2 s g).mono fun b s ⟨hb, g⟩ => ?_)) fun _ s g => ?_
  · subst hb
    refine Ok.sIf (Ok.sOr ⟨fun h => (nomatch h), fun _ => Ok.sb ((good_ok q0 n0 q1 q2 n1 n2 s g).mono fun b s ⟨hb, g⟩ => ?_)⟩)
    subst hb
    exact ⟨fun h => (nomatch h), fun _ => ⟨_, rfl, g⟩⟩
  refine Ok.sb ((odd_ok s g).mono fun d s ⟨g, hd⟩ => Ok.sb (Ok.draw g (by decide) (by decide) fun k s g k0 k1 => ?_))
  have fn : is_fraction (toD n) = .ok true := is_fraction_fr n0
  have tn : told (toD n) = .ok (n.1 / gc n.1 n.2, n.2 / gc n.1 n.2) := told_fr n0 (n2.mono (by decide))
  have c1 : peqD (toD (("refused", .str "one") : Str × D)) (.tup [.str "refused", .str "one"]) = some true := by decide +kernel
  have c2 : peqD (toD (("refused", .str "other") : Str × D)) (.tup [.str "refused", .str "other"]) = some true := by decide +kernel
  refine Ok.obdP (fun _ s => GoodPool s) (Ok.sb (Ok.sl (ref_one k0 k1 hd) (Ok.sb (Ok.so rfl (Ok.sb (Ok.so c1 (Ok.sIf (Ok.sOr ⟨fun h => (nomatch h), fun _ => Ok.sb (Ok.sl (ref_other k0 k1 fn tn hd) (Ok.sb (Ok.so rfl (Ok.sb (Ok.so c2 ⟨fun h => (nomatch h), fun _ => ⟨_, rfl, g⟩⟩)))))⟩)))))))) fun _ s g => ?_
  refine Ok.obdP (fun _ s => GoodPool s) (Ok.sb (Ok.sl (ref_one k0 k1 hd) (Ok.sb (Ok.so rfl (Ok.sb (Ok.so c1 (Ok.sIf (Ok.sOr ⟨fun h => (nomatch h), fun _ => Ok.sb ((good_ok n0 q0 n1 n2 q1 q2 s g).mono fun b s ⟨hb, g⟩ => ?_)⟩)))))))) fun _ s g => g
  subst hb
  exact ⟨fun h => (nomatch h), fun _ => ⟨_, rfl, g⟩⟩
end Lw
namespace Lw
open PySem PySem.Spec PyProof.Rows L2 Mi
def nam0 : List PySem.Str := ["own_copy", "LotError", "InvalidFraction", "is_integer", "is_fraction", "reduced", "told", "asked", "fsum", "fdiff", "fprod", "fless", "added", "subtracted", "multiplied", "is_less", "_law_pool", "_law_draw", "_law_whole", "_law_gcd"]
def nam1 : List PySem.Str := ["_law_told", "_law_even", "_law_less", "_law_gives", "_law_plus", "_law_minus", "_law_times", "_law_number", "_law_given", "_law_odd", "_law_flag", "_law_call", "_law_asked", "_law_good"]
def names : List PySem.Str := nam0 ++ nam1
def theDefs0 : List He.DefD := [⟨("own_copy", none), "own_copy", "own_copy", defArgs (topS 1), defBody (topS 1), defScope (topS 1), [], []⟩, ⟨("is_integer", none), "is_integer", "is_integer", defArgs (topS 5), defBody (topS 5), defScope (topS 5), [], []⟩, ⟨("is_fraction", none), "is_fraction", "is_fraction", defArgs (topS 6), defBody (topS 6), defScope (topS 6), [], []⟩, ⟨("reduced", none), "reduced", "reduced", defArgs (topS 7), defBody (topS 7), defScope (topS 7), [], []⟩, ⟨("told", none), "told", "told", defArgs (topS 8), defBody (topS 8), defScope (topS 8), [], []⟩, ⟨("asked", none), "asked", "asked", defArgs (topS 9), defBody (topS 9), defScope (topS 9), [], []⟩, ⟨("fsum", none), "fsum", "fsum", defArgs (topS 10), defBody (topS 10), defScope (topS 10), [], []⟩, ⟨("fdiff", none), "fdiff", "fdiff", defArgs (topS 11), defBody (topS 11), defScope (topS 11), [], []⟩, ⟨("fprod", none), "fprod", "fprod", defArgs (topS 12), defBody (topS 12), defScope (topS 12), [], []⟩, ⟨("fless", none), "fless", "fless", defArgs (topS 13), defBody (topS 13), defScope (topS 13), [], []⟩, ⟨("added", none), "added", "added", defArgs (topS 14), defBody (topS 14), defScope (topS 14), [], []⟩, ⟨("subtracted", none), "subtracted", "subtracted", defArgs (topS 15), defBody (topS 15), defScope (topS 15), [], []⟩, ⟨("multiplied", none), "multiplied", "multiplied", defArgs (topS 16), defBody (topS 16), defScope (topS 16), [], []⟩, ⟨("is_less", none), "is_less", "is_less", defArgs (topS 17), defBody (topS 17), defScope (topS 17), [], []⟩, ⟨("_law_pool", none), "_law_pool", "_law_pool", defArgs (topS 19), defBody (topS 19), defScope (topS 19), [], []⟩]
def theDefs1 : List He.DefD := [⟨("_law_draw", none), "_law_draw", "_law_draw", defArgs (topS 20), defBody (topS 20), defScope (topS 20), [], []⟩, ⟨("_law_whole", none), "_law_whole", "_law_whole", defArgs (topS 21), defBody (topS 21), defScope (topS 21), [], []⟩, ⟨("_law_gcd", none), "_law_gcd", "_law_gcd", defArgs (topS 22), defBody (topS 22), defScope (topS 22), [], []⟩, ⟨("_law_told", none), "_law_told", "_law_told", defArgs (topS 23), defBody (topS 23), defScope (topS 23), [], []⟩, ⟨("_law_even", none), "_law_even", "_law_even", defArgs (topS 24), defBody (topS 24), defScope (topS 24), [], []⟩, ⟨("_law_less", none), "_law_less", "_law_less", defArgs (topS 25), defBody (topS 25), defScope (topS 25), [], []⟩, ⟨("_law_gives", none), "_law_gives", "_law_gives", defArgs (topS 26), defBody (topS 26), defScope (topS 26), [], []⟩, ⟨("_law_plus", none), "_law_plus", "_law_plus", defArgs (topS 27), defBody (topS 27), defScope (topS 27), [], []⟩, ⟨("_law_minus", none), "_law_minus", "_law_minus", defArgs (topS 28), defBody (topS 28), defScope (topS 28), [], []⟩, ⟨("_law_times", none), "_law_times", "_law_times", defArgs (topS 29), defBody (topS 29), defScope (topS 29), [], []⟩, ⟨("_law_number", none), "_law_number", "_law_number", defArgs (topS 30), defBody (topS 30), defScope (topS 30), [], []⟩, ⟨("_law_given", none), "_law_given", "_law_given", defArgs (topS 31), defBody (topS 31), defScope (topS 31), [], []⟩, ⟨("_law_odd", none), "_law_odd", "_law_odd", defArgs (topS 32), defBody (topS 32), defScope (topS 32), [], []⟩, ⟨("_law_flag", none), "_law_flag", "_law_flag", defArgs (topS 33), defBody (topS 33), defScope (topS 33), [], []⟩, ⟨("_law_call", none), "_law_call", "_law_call", defArgs (topS 34), defBody (topS 34), defScope (topS 34), [], []⟩]
def theDefs2 : List He.DefD := [⟨("_law_asked", none), "_law_asked", "_law_asked", defArgs (topS 35), defBody (topS 35), defScope (topS 35), [], []⟩, ⟨("_law_good", none), "_law_good", "_law_good", defArgs (topS 36), defBody (topS 36), defScope (topS 36), [], []⟩, ⟨("law", none), "law", "law", defArgs (topS 37), defBody (topS 37), defScope (topS 37), [], []⟩]
def theDefs : List He.DefD := theDefs0 ++ theDefs1 ++ theDefs2
def theFacts0 : List FaB := [(He.Fa.glo "own_copy").ok, (He.Fa.glo "is_integer").ok, (He.Fa.glo "is_fraction").ok, (He.Fa.glo "reduced").ok, (He.Fa.glo "told").ok, (He.Fa.glo "asked").ok, (He.Fa.glo "fsum").ok, (He.Fa.glo "fdiff").ok, (He.Fa.glo "fprod").ok, (He.Fa.glo "fless").ok, (He.Fa.glo "added").ok, (He.Fa.glo "subtracted").ok, (He.Fa.glo "multiplied").ok, (He.Fa.glo "is_less").ok, (He.Fa.glo "_law_pool").ok]
def theFacts1 : List FaB := [(He.Fa.glo "_law_draw").ok, (He.Fa.glo "_law_whole").ok, (He.Fa.glo "_law_gcd").ok, (He.Fa.glo "_law_told").ok, (He.Fa.glo "_law_even").ok, (He.Fa.glo "_law_less").ok, (He.Fa.glo "_law_gives").ok, (He.Fa.glo "_law_plus").ok, (He.Fa.glo "_law_minus").ok, (He.Fa.glo "_law_times").ok, (He.Fa.glo "_law_number").ok, (He.Fa.glo "_law_given").ok, (He.Fa.glo "_law_odd").ok, (He.Fa.glo "_law_flag").ok, (He.Fa.glo "_law_call").ok]
def theFacts2 : List FaB := [(He.Fa.glo "_law_asked").ok, (He.Fa.glo "_law_good").ok, (He.Fa.glo "law").ok, xokB theFile "InvalidFraction" "InvalidFraction.__init__", exnB "InvalidFraction", (He.Fa.glo "InvalidFraction").ok, fldB "InvalidFraction" "name", fun K => decide (PySem.W.nsIn K PySem.cStatics "thirdparty.any" = some none), fun K => decide (PySem.W.exmOne K (.ref (He.ga K "InvalidFraction")) (.ref (He.ga K "InvalidFraction")) = some true), fun K => ([] : List Str).all fun o => decide (PySem.W.exmOne K (.ref (He.ga K o)) (.ref (He.ga K "InvalidFraction")) = some false), (He.Fa.glo "InvalidFraction").ok, exnB "InvalidFraction", (He.Fa.free "abs").ok, (He.Fa.free "bool").ok, (He.Fa.free "dict").ok]
def theFacts3 : List FaB := [(He.Fa.free "int").ok, (He.Fa.free "isinstance").ok, (He.Fa.free "len").ok, (He.Fa.free "list").ok, (He.Fa.free "range").ok, (He.Fa.free "super").ok, (He.Fa.free "tuple").ok]
def theFacts : List FaB := theFacts0 ++ theFacts1 ++ theFacts2 ++ theFacts3
def theXs0 : List XDef := [⟨"InvalidFraction", "InvalidFraction.__init__", defArgs (clsM (topS 3) 0), defBody (clsM (topS 3) 0), defScope (clsM (topS 3) 0)⟩]
def theXs : List XDef := theXs0
abbrev RowX : PySem.W.OpenRow := PySem.W.OpenLaw.row PySem.Challenge.rw_everylot_k02_fractions_reckoned
abbrev seen : Program := PySem.W.view RowX.prog [37]
abbrev hk : PySem.W.Hook := hookM 4 theFacts theDefs theXs
def ob (s : PySem.W.SharedT) : AlM := obsMG 4 theFacts theDefs theXs (HandSHeadRun.getT s)
theorem ob_eq (s : PySem.W.SharedT) : ob s = hk.obs s.abs := obsMG_eq (HandSHeadRun.getT_eq s)
theorem run (w : World) : HandSHeadRun.RunEq RowX seen hk ob 20000 names w := by
  intro os
  kernel_rfl
theorem facts {K : Fg} {h : Heap} {mg : Str → Option Value} (X : K.In h) (G : h.Ns mainGlobals mg) (c : SaysM theFacts theDefs theXs K) : Facts PySem.Challenge.pw_everylot_k02_fractions_reckoned K mg := {
  f_own_copy := c.def_ 0,
  g_own_copy := He.glo_ok X G (c.fact 0),
  f_is_integer := c.def_ 1,
  g_is_integer := He.glo_ok X G (c.fact 1),
  f_is_fraction := c.def_ 2,
  g_is_fraction := He.glo_ok X G (c.fact 2),
  f_reduced := c.def_ 3,
  g_reduced := He.glo_ok X G (c.fact 3),
  f_told := c.def_ 4,
  g_told := He.glo_ok X G (c.fact 4),
  f_asked := c.def_ 5,
  g_asked := He.glo_ok X G (c.fact 5),
  f_fsum := c.def_ 6,
  g_fsum := He.glo_ok X G (c.fact 6),
  f_fdiff := c.def_ 7,
  g_fdiff := He.glo_ok X G (c.fact 7),
  f_fprod := c.def_ 8,
  g_fprod := He.glo_ok X G (c.fact 8),
  f_fless := c.def_ 9,
  g_fless := He.glo_ok X G (c.fact 9),
  f_added := c.def_ 10,
  g_added := He.glo_ok X G (c.fact 10),
  f_subtracted := c.def_ 11,
  g_subtracted := He.glo_ok X G (c.fact 11),
  f_multiplied := c.def_ 12,
  g_multiplied := He.glo_ok X G (c.fact 12),
  f_is_less := c.def_ 13,
  g_is_less := He.glo_ok X G (c.fact 13),
  f__law_pool := c.def_ 14,
  g__law_pool := He.glo_ok X G (c.fact 14),
  f__law_draw := c.def_ 15,
  g__law_draw := He.glo_ok X G (c.fact 15),
  f__law_whole := c.def_ 16,
  g__law_whole := He.glo_ok X G (c.fact 16),
  f__law_gcd := c.def_ 17,
  g__law_gcd := He.glo_ok X G (c.fact 17),
  f__law_told := c.def_ 18,
  g__law_told := He.glo_ok X G (c.fact 18),
  f__law_even := c.def_ 19,
  g__law_even := He.glo_ok X G (c.fact 19),
  f__law_less := c.def_ 20,
  g__law_less := He.glo_ok X G (c.fact 20),
  f__law_gives := c.def_ 21,
  g__law_gives := He.glo_ok X G (c.fact 21),
  f__law_plus := c.def_ 22,
  g__law_plus := He.glo_ok X G (c.fact 22),
  f__law_minus := c.def_ 23,
  g__law_minus := He.glo_ok X G (c.fact 23),
  f__law_times := c.def_ 24,
  g__law_times := He.glo_ok X G (c.fact 24),
  f__law_number := c.def_ 25,
  g__law_number := He.glo_ok X G (c.fact 25),
  f__law_given := c.def_ 26,
  g__law_given := He.glo_ok X G (c.fact 26),
  f__law_odd := c.def_ 27,
  g__law_odd := He.glo_ok X G (c.fact 27),
  f__law_flag := c.def_ 28,
  g__law_flag := He.glo_ok X G (c.fact 28),
  f__law_call := c.def_ 29,
  g__law_call := He.glo_ok X G (c.fact 29),
  f__law_asked := c.def_ 30,
  g__law_asked := He.glo_ok X G (c.fact 30),
  f__law_good := c.def_ 31,
  g__law_good := He.glo_ok X G (c.fact 31),
  f_law := c.def_ 32,
  g_law := He.glo_ok X G (c.fact 32),
  x_InvalidFraction := funX_of (c.xdef 0) (c.fact 33),
  e_InvalidFraction := exnB_ok (c.fact 34),
  g_InvalidFraction := He.glo_ok X G (c.fact 35),
  t_InvalidFraction_name := fldB_ok (c.fact 36),
  file := by decide +kernel,
  tops := by decide +kernel,
  opq := of_decide_eq_true (c.fact 37),
  o_InvalidFraction := ⟨of_decide_eq_true (c.fact 38), fun o ho => of_decide_eq_true (List.all_eq_true.mp (c.fact 39) o ho), He.glo_ok X G (c.fact 40), (exnB_ok (c.fact 41)).2.2.2⟩,
  b_abs := He.free_ok X G (c.fact 42),
  b_bool := He.free_ok X G (c.fact 43),
  b_dict := He.free_ok X G (c.fact 44),
  b_int := He.free_ok X G (c.fact 45),
  b_isinstance := He.free_ok X G (c.fact 46),
  b_len := He.free_ok X G (c.fact 47),
  b_list := He.free_ok X G (c.fact 48),
  b_range := He.free_ok X G (c.fact 49),
  b_super := He.free_ok X G (c.fact 50),
  b_tuple := He.free_ok X G (c.fact 51) }
end Lw
open PySem PySem.W PySem.Calls PyProof.Rows
theorem PySem.Challenge.cw_everylot_k02_fractions_reckoned_holds : PySem.Challenge.rw_everylot_k02_fractions_reckoned.Holds := by
  w_on; o_law
  refine HandSHeadRun.head_any (r := Lw.RowX) (q := Lw.seen) (H := Lw.hk) (ob := Lw.ob) (M := 20000) (loose := Lw.names) (d := HandSHeadRun.topDef Lw.RowX.prog 37) (kwd := []) Lw.ob_eq
    (by kernel_rfl) (fun s => by kernel_rfl) Lw.run (by kernel_rfl) (by kernel_rfl) (by kernel_rfl) (by rfl) (by first | assumption | decide +kernel) (by decide +kernel) ⟨rfl, rfl, rfl, rfl, rfl, by decide +kernel⟩ ?ww ?cc
  case ww => w_witness2
  case cc =>
    refine Mi.walk_ofM (law := PySem.Challenge.rw_everylot_k02_fractions_reckoned) (n := 63) (k := 9) (x := "script") rfl (by decide) (by kernel_rfl) ⟨rfl, by decide, by decide⟩ fun w mg fa h Y G hmg0 => ?_
    obtain ⟨K, KX, c⟩ := Y
    have Z := Lw.facts KX G c
    have hmg : mg ("law" : PySem.Str) = some (.ref fa) := by
      have e : (HandSHeadRun.topDef Lw.RowX.prog 37).name = ("law" : PySem.Str) := by kernel_rfl
      rw [← e]
      exact hmg0
    obtain ⟨fd, F⟩ := Z.f_law
    have e := hmg.symm.trans Z.g_law
    cases e
    exact ⟨K, fd, fun a => Lw.law a.1, KX, fun ns hl => Lw.lawOk _, fun s v => (L2.FunD.bindsA (ps := ["script"]) F fun _ _ _ _ _ _ us hl => match us, hl with | [_], _ => rfl) s [v] rfl, fun base _ _ => Lw.ok_law Z F⟩
