import PyProof.Rows.All
import Wide.All
import OpenK.AllK
import Wide.FinOn
import HandS.ForMost
import HandS.ForExc
import HandS.Wide
import HandS.IsInst
import HandS.Defaults
import HandS.EndBits
import HandS.HeadHook1
import HandS.ExcOwn
import HandS.Deep
import HandS.Style
import HandS.ExcInit
import HandS.Nested
import KE.KExcInit
import KE.KExcSuper
import HandS.ClsMeth
import HandS.ExcField
import HandS.SlotsOwn
import HandS.Star
import PyProof.InstNe
import HandS.Dict
import HandS.Iter
import HandS.WordsDict
import HandS.Text
import PyProof.StrOps2
import KE.KStateDown
import HandS.Head0
import HandS.Head1
import HandS.Head2
import HandS.HeadEnd
import HandS.HeadHook2
import HandS.HeadNt
import PySem.Challenge.RW_everylot_k08_steps_turn_amounts
set_option Elab.async false
set_option linter.all false
set_option maxRecDepth 100000
set_option maxHeartbeats 4000000
/-! Mi: a typed mirror over the hand layer. A program's def is told by a function into Except Er; each syntax form has one rule that builds that function. -/
namespace Mi
open PySem PySem.Spec PyProof.Rows L2

/-! ### data, errors -/
inductive D where
  | non | bl (b : Bool) | int (i : Int) | str (x : Str)
  | tup (l : List D) | lst (l : List D) | dct (l : List (D × D)) | obj (c : Str) (a : Addr)
  deriving Inhabited
inductive Er where
  | stuck | exc (c : Str) (fs : List (Str × D))
abbrev Fg := PySem.W.Frag

/-- x stands at v, read off the still part I of the heap -/
class Enc (α : Type) where
  rep : Fg → Hp → V → α → Prop
  up : ∀ {K : Fg} {I I' : Hp} {v : V} {x : α}, Same I I' → rep K I v x → rep K I' v x
instance : Enc Int := ⟨fun _ _ v x => v = .int x, fun _ h => h⟩
instance : Enc Bool := ⟨fun _ _ v x => v = .bl x, fun _ h => h⟩
instance : Enc Str := ⟨fun _ _ v x => v = .str x, fun _ h => h⟩
instance : Enc Unit := ⟨fun _ _ v _ => v = .non, fun _ h => h⟩
theorem sqT_up {K : Fg} {I I' : Hp} {a : Addr} {xs : List V} (e : Same I I') (h : SqT K I a xs) : SqT K I' a xs := by
  rcases h with (h | ⟨o, h⟩) | h
  · exact .inl (.inl (e _ _ h))
  · exact .inl (.inr ⟨o, e _ _ h⟩)
  · exact .inr h
instance {α β : Type} [Enc α] [Enc β] : Enc (α × β) :=
  ⟨fun K I v x => ∃ a u w, v = .ref a ∧ SqT K I a [u, w] ∧ Enc.rep K I u x.1 ∧ Enc.rep K I w x.2,
   fun e ⟨a, u, w, h, q, r1, r2⟩ => ⟨a, u, w, h, sqT_up e q, Enc.up e r1, Enc.up e r2⟩⟩
/-- all items -/
def All2 {α : Type} (R : V → α → Prop) : List V → List α → Prop
  | [], [] => True
  | v :: vs, x :: xs => R v x ∧ All2 R vs xs
  | _, _ => False
theorem All2.imp {α : Type} {R R' : V → α → Prop} (h : ∀ v x, R v x → R' v x) : ∀ {vs : List V} {xs : List α}, All2 R vs xs → All2 R' vs xs
  | [], [], _ => trivial
  | _ :: _, _ :: _, q => ⟨h _ _ q.1, All2.imp h q.2⟩
  | [], _ :: _, q => q.elim
  | _ :: _, [], q => q.elim
theorem All2.len {α : Type} {R : V → α → Prop} : ∀ {vs : List V} {xs : List α}, All2 R vs xs → vs.length = xs.length
  | [], [], _ => rfl
  | _ :: _, _ :: _, q => congrArg Nat.succ (All2.len q.2)
  | [], _ :: _, q => q.elim
  | _ :: _, [], q => q.elim
theorem All2.get {α : Type} {R : V → α → Prop} : ∀ {vs : List V} {xs : List α} {i : Nat} {v : V}, All2 R vs xs → vs[i]? = some v → ∃ x, xs[i]? = some x ∧ R v x
  | [], [], _, _, _, h => by simp at h
  | v :: vs, x :: xs, 0, w, q, h => by simp at h; subst h; exact ⟨x, rfl, q.1⟩
  | v :: vs, x :: xs, i + 1, w, q, h => by
    obtain ⟨y, h1, h2⟩ := All2.get (i := i) q.2 (by simpa using h)
    exact ⟨y, by simpa using h1, h2⟩
  | [], _ :: _, _, _, q, _ => q.elim
  | _ :: _, [], _, _, q, _ => q.elim
theorem All2.got {α : Type} {R : V → α → Prop} : ∀ {vs : List V} {xs : List α} {i : Nat} {x : α}, All2 R vs xs → xs[i]? = some x → ∃ v, vs[i]? = some v ∧ R v x
  | [], [], _, _, _, h => by simp at h
  | v :: vs, x :: xs, 0, w, q, h => by simp at h; subst h; exact ⟨v, rfl, q.1⟩
  | v :: vs, x :: xs, i + 1, w, q, h => by
    obtain ⟨y, h1, h2⟩ := All2.got (i := i) q.2 (by simpa using h)
    exact ⟨y, by simpa using h1, h2⟩
  | [], _ :: _, _, _, q, _ => q.elim
  | _ :: _, [], _, _, q, _ => q.elim
theorem All2.app {α : Type} {R : V → α → Prop} : ∀ {vs us : List V} {xs ys : List α}, All2 R vs xs → All2 R us ys → All2 R (vs ++ us) (xs ++ ys)
  | [], _, [], _, _, h => h
  | _ :: _, _, _ :: _, _, q, h => ⟨q.1, All2.app q.2 h⟩
  | [], _, _ :: _, _, q, _ => q.elim
  | _ :: _, _, [], _, q, _ => q.elim
theorem All2.setAt {α : Type} {R : V → α → Prop} {v : V} {x : α} (r : R v x) : ∀ {vs : List V} {xs : List α} (i : Nat), All2 R vs xs → All2 R (vs.set i v) (xs.set i x)
  | [], [], _, q => q
  | _ :: _, _ :: _, 0, q => ⟨r, q.2⟩
  | _ :: _, _ :: _, i + 1, q => ⟨q.1, All2.setAt r i q.2⟩
  | [], _ :: _, _, q => q.elim
  | _ :: _, [], _, q => q.elim
theorem All2.takeN {α : Type} {R : V → α → Prop} : ∀ {vs : List V} {xs : List α} (n : Nat), All2 R vs xs → All2 R (vs.take n) (xs.take n)
  | [], [], n, _ => by cases n <;> exact trivial
  | _ :: _, _ :: _, 0, _ => trivial
  | _ :: _, _ :: _, n + 1, q => ⟨q.1, All2.takeN n q.2⟩
  | [], _ :: _, _, q => q.elim
  | _ :: _, [], _, q => q.elim
theorem All2.dropN {α : Type} {R : V → α → Prop} : ∀ {vs : List V} {xs : List α} (n : Nat), All2 R vs xs → All2 R (vs.drop n) (xs.drop n)
  | [], [], n, _ => by cases n <;> exact trivial
  | _ :: _, _ :: _, 0, q => q
  | _ :: _, _ :: _, n + 1, q => All2.dropN n q.2
  | [], _ :: _, _, q => q.elim
  | _ :: _, [], _, q => q.elim
instance {α : Type} [Enc α] : Enc (List α) :=
  ⟨fun K I v xs => ∃ a vs, v = .ref a ∧ I a = some (.lst vs) ∧ All2 (Enc.rep K I) vs xs,
   fun e ⟨a, vs, h, q, r⟩ => ⟨a, vs, h, e _ _ q, r.imp fun _ _ z => Enc.up e z⟩⟩
/-- a list that is only read (the script) -/
structure Ro (α : Type) where
  l : List α
instance {α : Type} [Enc α] : Enc (Ro α) :=
  ⟨fun K I v xs => ∃ a vs, v = .ref a ∧ SqL K I a vs ∧ All2 (Enc.rep K I) vs xs.l,
   fun e ⟨a, vs, h, q, r⟩ => ⟨a, vs, h, e.seq q, r.imp fun _ _ z => Enc.up e z⟩⟩
/-- a tuple of any length, its items of one type -/
structure Tu (α : Type) where
  l : List α
instance {α : Type} [Enc α] : Enc (Tu α) :=
  ⟨fun K I v xs => ∃ a vs, v = .ref a ∧ SqT K I a vs ∧ All2 (Enc.rep K I) vs xs.l,
   fun e ⟨a, vs, h, q, r⟩ => ⟨a, vs, h, sqT_up e q, r.imp fun _ _ z => Enc.up e z⟩⟩
instance {α : Type} [Enc α] : Enc (Option α) :=
  ⟨fun K I v x => match x with
    | none => v = .non
    | some y => v ≠ .non ∧ Enc.rep K I v y,
   fun {K I I' v x} e h => by
    cases x with
    | none => exact h
    | some y => exact ⟨h.1, Enc.up e h.2⟩⟩

/-! ### the three heaps: I still, O owned by the def, H all that is tracked -/
structure St3 (I O H : Hp) : Prop where
  si : Same I H
  so : Same O H
  dj : ∀ b, I b = none ∨ O b = none
structure Go (I O H I' O' H' : Hp) : Prop where
  keep : ∀ b o, H b = some o → O b = none → H' b = some o
  ext : Same I I'
  ni : ∀ b, I' b ≠ none → I b ≠ none ∨ H b = none ∨ O b ≠ none
  no : ∀ b, O' b ≠ none → O b ≠ none ∨ H b = none
theorem nn {H : Hp} {b : Addr} {o : HO} (h : H b = some o) : H b ≠ none := by rw [h]; exact Option.some_ne_none o
theorem sn {H : Hp} {b : Addr} (h : H b ≠ none) : ∃ o, H b = some o := Option.ne_none_iff_exists'.mp h
theorem Go.refl (I O H : Hp) : Go I O H I O H := ⟨fun _ _ h _ => h, Same.refl I, fun _ h => .inl h, fun _ h => .inl h⟩
theorem Go.trans {I O H I1 O1 H1 I2 O2 H2 : Hp} (a : Go I O H I1 O1 H1) (b : Go I1 O1 H1 I2 O2 H2) : Go I O H I2 O2 H2 := by
  have k1 : ∀ c, O c = none → H c ≠ none → O1 c = none := fun c h1 h2 => by
    cases q : O1 c with
    | none => rfl
    | some o =>
      rcases a.no c (nn q) with z | z
      · exact absurd h1 z
      · exact absurd z h2
  have kh : ∀ c, H1 c = none → H c = none ∨ O c ≠ none := fun c h1 => by
    cases q : H c with
    | none => exact .inl rfl
    | some o =>
      cases r : O c with
      | none => rw [a.keep c o q r] at h1; cases h1
      | some u => exact .inr (Option.some_ne_none u)
  refine ⟨fun c o h1 h2 => b.keep c o (a.keep c o h1 h2) (k1 c h2 (nn h1)), a.ext.trans b.ext, fun c h => ?_, fun c h => ?_⟩
  · rcases b.ni c h with z | z | z
    · exact a.ni c z
    · rcases kh c z with y | y
      · exact .inr (.inl y)
      · exact .inr (.inr y)
    · rcases a.no c z with y | y
      · exact .inr (.inr y)
      · exact .inr (.inl y)
  · rcases b.no c h with z | z
    · exact a.no c z
    · rcases kh c z with y | y
      · exact .inr y
      · exact .inl y
section
variable {I O H I' O' H' O1 O2 : Hp} {p : Addr} {o : HO}
theorem St3.fi (s : St3 I O H) (h : H p = none) : I p = none := s.si.free h
theorem St3.fo (s : St3 I O H) (h : H p = none) : O p = none := s.so.free h
theorem Same.upd_new (h : H p = none) : Same H (upd H p o) := fun b u e => by rw [upd_ne (ne_of_none e h)]; exact e
/-- a still object laid -/
theorem St3.lay (s : St3 I O H) (h : H p = none) : St3 (upd I p o) O (upd H p o) := by
  refine ⟨fun b u e => ?_, s.so.trans (Same.upd_new h), fun b => ?_⟩
  · by_cases hb : b = p
    · subst hb; rw [upd_same] at e; rw [upd_same]; exact e
    · rw [upd_ne hb] at e; rw [upd_ne hb]; exact s.si b u e
  · by_cases hb : b = p
    · subst hb; exact .inr (s.fo h)
    · rw [upd_ne hb]; exact s.dj b
theorem Go.lay (s : St3 I O H) (h : H p = none) : Go I O H (upd I p o) O (upd H p o) := by
  refine ⟨fun b u e _ => Same.upd_new h b u e, Same.upd_new (s.fi h), fun b e => ?_, fun b e => .inl e⟩
  by_cases hb : b = p
  · subst hb; exact .inr (.inl h)
  · rw [upd_ne hb] at e; exact .inl e
/-- an owned object laid -/
theorem St3.layO (s : St3 I O H) (h : H p = none) : St3 I (upd O p o) (upd H p o) := by
  refine ⟨s.si.trans (Same.upd_new h), fun b u e => ?_, fun b => ?_⟩
  · by_cases hb : b = p
    · subst hb; rw [upd_same] at e; rw [upd_same]; exact e
    · rw [upd_ne hb] at e; rw [upd_ne hb]; exact s.so b u e
  · by_cases hb : b = p
    · subst hb; exact .inl (s.fi h)
    · rw [upd_ne hb]; exact s.dj b
theorem Go.layO (s : St3 I O H) (h : H p = none) : Go I O H I (upd O p o) (upd H p o) := by
  refine ⟨fun b u e _ => Same.upd_new h b u e, Same.refl I, fun b e => .inl e, fun b e => ?_⟩
  by_cases hb : b = p
  · subst hb; exact .inr h
  · rw [upd_ne hb] at e; exact .inl e
/-- an owned object written -/
theorem St3.wr {o' : HO} (s : St3 I O H) (h : O p = some o') : St3 I (upd O p o) (upd H p o) := by
  have hI : I p = none := by
    rcases s.dj p with z | z
    · exact z
    · rw [h] at z; cases z
  refine ⟨fun b u e => ?_, fun b u e => ?_, fun b => ?_⟩
  · rw [upd_ne (ne_of_none e hI)]; exact s.si b u e
  · by_cases hb : b = p
    · subst hb; rw [upd_same] at e; rw [upd_same]; exact e
    · rw [upd_ne hb] at e; rw [upd_ne hb]; exact s.so b u e
  · by_cases hb : b = p
    · subst hb; exact .inl hI
    · rw [upd_ne hb]; exact s.dj b
theorem Go.wr {o' : HO} (s : St3 I O H) (h : O p = some o') : Go I O H I (upd O p o) (upd H p o) := by
  refine ⟨fun b u e z => ?_, Same.refl I, fun b e => .inl e, fun b e => ?_⟩
  · rw [upd_ne (fun q => by rw [q, h] at z; cases z)]; exact e
  · by_cases hb : b = p
    · subst hb; exact .inl (nn h)
    · rw [upd_ne hb] at e; exact .inl e
/-- an owned object made still -/
theorem St3.pub (s : St3 I O H) (h : O p = some o) (h2 : Same O2 O) (h3 : O2 p = none) : St3 (upd I p o) O2 H := by
  refine ⟨fun b u e => ?_, h2.trans s.so, fun b => ?_⟩
  · by_cases hb : b = p
    · subst hb; rw [upd_same] at e; rw [← e]; exact s.so _ _ h
    · rw [upd_ne hb] at e; exact s.si b u e
  · by_cases hb : b = p
    · subst hb; exact .inr h3
    · rw [upd_ne hb]
      rcases s.dj b with z | z
      · exact .inl z
      · exact .inr (h2.free z)
theorem Go.pub (s : St3 I O H) (h : O p = some o) (h2 : Same O2 O) : Go I O H (upd I p o) O2 H := by
  have hI : I p = none := by
    rcases s.dj p with z | z
    · exact z
    · rw [h] at z; cases z
  refine ⟨fun b u e _ => e, Same.upd_new hI, fun b e => ?_, fun b e => ?_⟩
  · by_cases hb : b = p
    · subst hb; exact .inr (.inr (nn h))
    · rw [upd_ne hb] at e; exact .inl e
  · obtain ⟨u, q⟩ := sn e
    exact .inl (nn (h2 b u q))
/-- owned objects dropped -/
theorem St3.drop (s : St3 I O H) (h2 : Same O2 O) : St3 I O2 H := ⟨s.si, h2.trans s.so, fun b => (s.dj b).imp (fun z => z) fun z => h2.free z⟩
theorem Go.drop (h2 : Same O2 O) : Go I O H I O2 H := ⟨fun _ _ e _ => e, Same.refl I, fun _ e => .inl e, fun b e => let ⟨u, q⟩ := sn e; .inl (nn (h2 b u q))⟩
end
def uni (A B : Hp) : Hp := fun b => match A b with
  | some o => some o
  | none => B b
theorem uni_l {A B : Hp} : Same A (uni A B) := fun b o e => by unfold uni; rw [e]
theorem uni_r {A B : Hp} (d : ∀ b, A b = none ∨ B b = none) : Same B (uni A B) := fun b o e => by
  unfold uni
  rcases d b with z | z
  · rw [z]; exact e
  · rw [e] at z; cases z
theorem uni_of {A B : Hp} {b : Addr} (h : uni A B b ≠ none) : A b ≠ none ∨ B b ≠ none := by
  unfold uni at h
  cases q : A b with
  | none => rw [q] at h; exact .inr h
  | some o => exact .inl (Option.some_ne_none o)
theorem uni_none {A B : Hp} {b : Addr} (h : uni A B b = none) : A b = none ∧ B b = none := by
  unfold uni at h
  cases q : A b with
  | none => rw [q] at h; exact ⟨rfl, h⟩
  | some o => rw [q] at h; cases h

/-! ### slots -/
inductive Slot where
  | un
  | im (P : Hp → V → Prop) (up : ∀ I I' v, Same I I' → P I v → P I' v)
  | ow (R : Hp → Hp → V → Prop) (up : ∀ I I' O v, Same I I' → R I O v → R I' O v)
abbrev Gam := List Slot
def Gam.put : Gam → Nat → Slot → Gam
  | [], _, _ => []
  | _ :: g, 0, s => s :: g
  | t :: g, i + 1, s => t :: Gam.put g i s
def Gam.at : Gam → Nat → Slot
  | [], _ => .un
  | s :: _, 0 => s
  | _ :: g, i + 1 => Gam.at g i
def Gam.forg : Gam → List Nat → Gam
  | g, [] => g
  | g, i :: is => Gam.forg (g.put i .un) is
/-- the slots hold what they should; each owned one has its own part of O -/
def Sat : Gam → L2.St → Hp → Hp → Prop
  | [], [], _, _ => True
  | .un :: g, _ :: σ, I, O => Sat g σ I O
  | .im P _ :: g, x :: σ, I, O => (∃ v, x = some v ∧ P I v) ∧ Sat g σ I O
  | .ow R _ :: g, x :: σ, I, O => ∃ v O1 O2, x = some v ∧ (∀ b, O1 b = none ∨ O2 b = none) ∧ Same O1 O ∧ Same O2 O ∧ R I O1 v ∧ Sat g σ I O2
  | _, _, _, _ => False
theorem Sat.up {I I' : Hp} (e : Same I I') : ∀ {g : Gam} {σ : L2.St} {O : Hp}, Sat g σ I O → Sat g σ I' O
  | [], [], _, _ => trivial
  | .un :: g, _ :: σ, _, h => Sat.up e (g := g) h
  | .im P u :: g, _ :: σ, _, ⟨⟨v, h1, h2⟩, h3⟩ => ⟨⟨v, h1, u _ _ _ e h2⟩, Sat.up e h3⟩
  | .ow R u :: g, _ :: σ, _, ⟨v, O1, O2, h1, h2, h3, h4, h5, h6⟩ => ⟨v, O1, O2, h1, h2, h3, h4, u _ _ _ _ e h5, Sat.up e h6⟩
  | [], _ :: _, _, h => h.elim
  | .un :: _, [], _, h => h.elim
  | .im _ _ :: _, [], _, h => h.elim
  | .ow _ _ :: _, [], _, h => h.elim
theorem Sat.more {I : Hp} : ∀ {g : Gam} {σ : L2.St} {O O' : Hp}, Same O O' → Sat g σ I O → Sat g σ I O'
  | [], [], _, _, _, _ => trivial
  | .un :: g, _ :: σ, _, _, e, h => Sat.more (g := g) e h
  | .im P u :: g, _ :: σ, _, _, e, ⟨h1, h3⟩ => ⟨h1, Sat.more e h3⟩
  | .ow R u :: g, _ :: σ, _, _, e, ⟨v, O1, O2, h1, h2, h3, h4, h5, h6⟩ => ⟨v, O1, O2, h1, h2, h3.trans e, h4.trans e, h5, h6⟩
  | [], _ :: _, _, _, _, h => h.elim
  | .un :: _, [], _, _, _, h => h.elim
  | .im _ _ :: _, [], _, _, _, h => h.elim
  | .ow _ _ :: _, [], _, _, _, h => h.elim
theorem Sat.at_im {I : Hp} {P : Hp → V → Prop} {u} : ∀ {g : Gam} {σ : L2.St} {O : Hp} {i : Nat}, Sat g σ I O → g.at i = .im P u → ∃ v, σ[i]? = some (some v) ∧ P I v
  | [], [], _, _, _, e => by cases e
  | .un :: g, _ :: σ, _, 0, _, e => by cases e
  | .un :: g, _ :: σ, _, i + 1, h, e => Sat.at_im (g := g) (i := i) h e
  | .im P' u' :: g, x :: σ, _, 0, ⟨⟨v, h1, h2⟩, h3⟩, e => by
    have e' : Slot.im P' u' = Slot.im P u := e
    injection e' with e1
    subst e1; subst h1
    exact ⟨v, rfl, h2⟩
  | .im P' u' :: g, _ :: σ, _, i + 1, ⟨_, h3⟩, e => Sat.at_im (g := g) (i := i) h3 e
  | .ow R u' :: g, _ :: σ, _, 0, _, e => by cases e
  | .ow R u' :: g, _ :: σ, _, i + 1, ⟨v, O1, O2, h1, h2, h3, h4, h5, h6⟩, e => Sat.at_im (g := g) (i := i) h6 e
  | [], _ :: _, _, _, h, _ => h.elim
  | .un :: _, [], _, _, h, _ => h.elim
  | .im _ _ :: _, [], _, _, h, _ => h.elim
  | .ow _ _ :: _, [], _, _, h, _ => h.elim
theorem Sat.put_im {I : Hp} {P : Hp → V → Prop} {u} {v : V} (hp : P I v) : ∀ {g : Gam} {σ : L2.St} {O : Hp} {i : Nat}, Sat g σ I O → Sat (g.put i (.im P u)) (σ.set i (some v)) I O
  | [], [], _, _, _ => trivial
  | .un :: g, _ :: σ, _, 0, h => ⟨⟨v, rfl, hp⟩, h⟩
  | .un :: g, _ :: σ, _, i + 1, h => Sat.put_im hp (g := g) (i := i) h
  | .im P' u' :: g, x :: σ, _, 0, ⟨_, h3⟩ => ⟨⟨v, rfl, hp⟩, h3⟩
  | .im P' u' :: g, _ :: σ, _, i + 1, ⟨h1, h3⟩ => ⟨h1, Sat.put_im hp (g := g) (i := i) h3⟩
  | .ow R u' :: g, _ :: σ, _, 0, ⟨w, O1, O2, h1, h2, h3, h4, h5, h6⟩ => ⟨⟨v, rfl, hp⟩, Sat.more h4 h6⟩
  | .ow R u' :: g, _ :: σ, _, i + 1, ⟨w, O1, O2, h1, h2, h3, h4, h5, h6⟩ => ⟨w, O1, O2, h1, h2, h3, h4, h5, Sat.put_im hp (g := g) (i := i) h6⟩
  | [], _ :: _, _, _, h => h.elim
  | .un :: _, [], _, _, h => h.elim
  | .im _ _ :: _, [], _, _, h => h.elim
  | .ow _ _ :: _, [], _, _, h => h.elim
theorem Sat.put_un {I : Hp} {x : Option V} : ∀ {g : Gam} {σ : L2.St} {O : Hp} {i : Nat}, Sat g σ I O → Sat (g.put i .un) (σ.set i x) I O
  | [], [], _, _, _ => trivial
  | .un :: g, _ :: σ, _, 0, h => h
  | .un :: g, _ :: σ, _, i + 1, h => Sat.put_un (g := g) (i := i) h
  | .im P' u' :: g, y :: σ, _, 0, ⟨_, h3⟩ => h3
  | .im P' u' :: g, _ :: σ, _, i + 1, ⟨h1, h3⟩ => ⟨h1, Sat.put_un (g := g) (i := i) h3⟩
  | .ow R u' :: g, _ :: σ, _, 0, ⟨w, O1, O2, h1, h2, h3, h4, h5, h6⟩ => Sat.more h4 h6
  | .ow R u' :: g, _ :: σ, _, i + 1, ⟨w, O1, O2, h1, h2, h3, h4, h5, h6⟩ => ⟨w, O1, O2, h1, h2, h3, h4, h5, Sat.put_un (g := g) (i := i) h6⟩
  | [], _ :: _, _, _, h => h.elim
  | .un :: _, [], _, _, h => h.elim
  | .im _ _ :: _, [], _, _, h => h.elim
  | .ow _ _ :: _, [], _, _, h => h.elim
theorem set_self {α : Type} : ∀ {l : List α} {i : Nat} {x : α}, l[i]? = some x → l.set i x = l
  | [], _, _, h => by simp at h
  | a :: l, 0, x, h => by simp at h; simp [h]
  | a :: l, i + 1, x, h => by simp at h; simp [set_self h]
theorem Sat.len {I : Hp} : ∀ {g : Gam} {σ : L2.St} {O : Hp}, Sat g σ I O → σ.length = g.length
  | [], [], _, _ => rfl
  | .un :: g, _ :: σ, _, h => congrArg Nat.succ (Sat.len (g := g) h)
  | .im P u :: g, _ :: σ, _, ⟨_, h3⟩ => congrArg Nat.succ (Sat.len h3)
  | .ow R u :: g, _ :: σ, _, ⟨v, O1, O2, h1, h2, h3, h4, h5, h6⟩ => congrArg Nat.succ (Sat.len h6)
  | [], _ :: _, _, h => h.elim
  | .un :: _, [], _, h => h.elim
  | .im _ _ :: _, [], _, h => h.elim
  | .ow _ _ :: _, [], _, h => h.elim
theorem Sat.forget {I : Hp} {g : Gam} {σ : L2.St} {O : Hp} {i : Nat} (h : Sat g σ I O) : Sat (g.put i .un) σ I O := by
  by_cases hi : i < σ.length
  · have q := Sat.put_un (x := σ[i]) (i := i) h
    rw [set_self (by simp [hi])] at q
    exact q
  · have q := Sat.put_un (x := none) (i := i) h
    rw [List.set_eq_of_length_le (by omega)] at q
    exact q
theorem Sat.forg {I : Hp} {σ : L2.St} {O : Hp} : ∀ {is : List Nat} {g : Gam}, Sat g σ I O → Sat (g.forg is) σ I O
  | [], _, h => h
  | _ :: is, _, h => Sat.forg (is := is) (Sat.forget h)
theorem Sat.at_ow {I : Hp} {R : Hp → Hp → V → Prop} {u} : ∀ {g : Gam} {σ : L2.St} {O : Hp} {i : Nat}, Sat g σ I O → g.at i = .ow R u →
    ∃ v O1 O2, σ[i]? = some (some v) ∧ (∀ b, O1 b = none ∨ O2 b = none) ∧ Same O1 O ∧ Same O2 O ∧ R I O1 v ∧ Sat (g.put i .un) σ I O2
  | [], [], _, _, _, e => by cases e
  | .un :: g, _ :: σ, _, 0, _, e => by cases e
  | .un :: g, _ :: σ, _, i + 1, h, e => by
    obtain ⟨v, O1, O2, h1, h2, h3, h4, h5, h6⟩ := Sat.at_ow (g := g) (i := i) h e
    exact ⟨v, O1, O2, h1, h2, h3, h4, h5, h6⟩
  | .im P' u' :: g, x :: σ, _, 0, _, e => by cases e
  | .im P' u' :: g, _ :: σ, _, i + 1, ⟨h0, h⟩, e => by
    obtain ⟨v, O1, O2, h1, h2, h3, h4, h5, h6⟩ := Sat.at_ow (g := g) (i := i) h e
    exact ⟨v, O1, O2, h1, h2, h3, h4, h5, h0, h6⟩
  | .ow R' u' :: g, x :: σ, O, 0, ⟨v, O1, O2, h1, h2, h3, h4, h5, h6⟩, e => by
    have e' : Slot.ow R' u' = Slot.ow R u := e
    injection e' with e1
    subst e1; subst h1
    exact ⟨v, O1, O2, rfl, h2, h3, h4, h5, h6⟩
  | .ow R' u' :: g, x :: σ, O, i + 1, ⟨w, P1, P2, k1, k2, k3, k4, k5, k6⟩, e => by
    obtain ⟨v, O1, O2, h1, h2, h3, h4, h5, h6⟩ := Sat.at_ow (g := g) (i := i) k6 e
    have d1 : ∀ b, P1 b = none ∨ O2 b = none := fun b => (k2 b).imp (fun z => z) fun z => h4.free z
    have d2 : ∀ b, O1 b = none ∨ uni P1 O2 b = none := fun b => by
      rcases h2 b with z | z
      · exact .inl z
      · rcases k2 b with y | y
        · refine .inr ?_
          unfold uni
          rw [y]; exact z
        · exact .inl (h3.free y)
    have d3 : Same (uni P1 O2) O := fun b o z => by
      unfold uni at z
      cases q : P1 b with
      | none => rw [q] at z; exact (h4.trans k4) b o z
      | some y => rw [q] at z; exact k3 b o (by rw [q]; exact z)
    exact ⟨v, O1, uni P1 O2, h1, d2, h3.trans k4, d3, h5, w, P1, O2, k1, d1, uni_l, uni_r d1, k5, h6⟩
  | [], _ :: _, _, _, h, _ => h.elim
  | .un :: _, [], _, _, h, _ => h.elim
  | .im _ _ :: _, [], _, _, h, _ => h.elim
  | .ow _ _ :: _, [], _, _, h, _ => h.elim
theorem Sat.put_ow {I : Hp} {R : Hp → Hp → V → Prop} {u} {v : V} {O1 : Hp} (hp : R I O1 v) : ∀ {g : Gam} {σ : L2.St} {O : Hp} {i : Nat}, (∀ b, O1 b = none ∨ O b = none) → Sat g σ I O → Sat (g.put i (.ow R u)) (σ.set i (some v)) I (uni O1 O)
  | [], [], _, _, _, _ => trivial
  | .un :: g, _ :: σ, O, 0, d, h => ⟨v, O1, O, rfl, d, uni_l, uni_r d, hp, h⟩
  | .un :: g, _ :: σ, _, i + 1, d, h => Sat.put_ow hp (g := g) (i := i) d h
  | .im P' u' :: g, x :: σ, O, 0, d, ⟨_, h3⟩ => ⟨v, O1, O, rfl, d, uni_l, uni_r d, hp, h3⟩
  | .im P' u' :: g, _ :: σ, _, i + 1, d, ⟨h1, h3⟩ => ⟨h1, Sat.put_ow hp (g := g) (i := i) d h3⟩
  | .ow R' u' :: g, _ :: σ, O, 0, d, ⟨w, P1, P2, k1, k2, k3, k4, k5, k6⟩ => ⟨v, O1, O, rfl, d, uni_l, uni_r d, hp, Sat.more k4 k6⟩
  | .ow R' u' :: g, _ :: σ, O, i + 1, d, ⟨w, P1, P2, k1, k2, k3, k4, k5, k6⟩ => by
    have d2 : ∀ b, O1 b = none ∨ P2 b = none := fun b => (d b).imp (fun z => z) fun z => k4.free z
    have q := Sat.put_ow hp (u := u) (g := g) (i := i) d2 k6
    refine ⟨w, P1, uni O1 P2, k1, fun b => ?_, k3.trans (uni_r d), fun b o z => ?_, k5, q⟩
    · rcases k2 b with y | y
      · exact .inl y
      · rcases d b with z | z
        · refine .inr ?_
          unfold uni
          rw [z]; exact y
        · exact .inl (k3.free z)
    · unfold uni at z
      cases e : O1 b with
      | none => rw [e] at z; exact (uni_r d) b o (k4 b o z)
      | some y => rw [e] at z; exact uni_l b o (by rw [e]; exact z)
  | [], _ :: _, _, _, _, h => h.elim
  | .un :: _, [], _, _, _, h => h.elim
  | .im _ _ :: _, [], _, _, _, h => h.elim
  | .ow _ _ :: _, [], _, _, _, h => h.elim
theorem Gam.put_put (s t : Slot) : ∀ (g : Gam) (i : Nat), (g.put i s).put i t = g.put i t
  | [], _ => rfl
  | _ :: _, 0 => rfl
  | a :: g, i + 1 => congrArg (a :: ·) (Gam.put_put s t g i)
/-- an owned slot's part exchanged -/
theorem Sat.back {I : Hp} {R : Hp → Hp → V → Prop} {u} {v : V} {O1 O : Hp} {g : Gam} {σ : L2.St} {i : Nat} (hp : R I O1 v) (d : ∀ b, O1 b = none ∨ O b = none) (e : σ[i]? = some (some v)) (h : Sat (g.put i .un) σ I O) : Sat (g.put i (.ow R u)) σ I (uni O1 O) := by
  have q := Sat.put_ow hp (u := u) (i := i) d h
  rw [Gam.put_put, set_self e] at q
  exact q
/-- a name that holds x -/
def sI (K : Fg) {α : Type} [Enc α] (x : α) : Slot := .im (fun I v => Enc.rep K I v x) fun _ _ _ e h => Enc.up e h
/-- a name that holds a list of one's own -/
def sL (K : Fg) {α : Type} [Enc α] (xs : List α) : Slot := .ow (fun I O v => ∃ l vs, v = .ref l ∧ O l = some (.lst vs) ∧ All2 (Enc.rep K I) vs xs) fun _ _ _ _ e ⟨l, vs, h1, h2, h3⟩ => ⟨l, vs, h1, h2, h3.imp fun _ _ z => Enc.up e z⟩
end Mi

set_option Elab.async false
set_option linter.all false
set_option maxRecDepth 100000
set_option maxHeartbeats 4000000
namespace Mi
open PySem PySem.Spec PyProof.Rows L2

/-! ### any value -/
mutual
inductive RD (K : Fg) (I : Hp) : V → D → Prop where
  | non : RD K I .non .non
  | bl (b : Bool) : RD K I (.bl b) (.bl b)
  | int (i : Int) : RD K I (.int i) (.int i)
  | str (x : Str) : RD K I (.str x) (.str x)
  | tup {a : Addr} {vs : List V} {ds : List D} : SqT K I a vs → RDs K I vs ds → RD K I (.ref a) (.tup ds)
  | lst {a : Addr} {vs : List V} {ds : List D} : SqL K I a vs → RDs K I vs ds → RD K I (.ref a) (.lst ds)
  | dct {a : Addr} {kvs : List (Key × V)} {ds : List (D × D)} : I a = some (.dK kvs) → RDk K I kvs ds → RD K I (.ref a) (.dct ds)
  | obj {a dx : Addr} {c : Str} {fs : List (Str × V)} : I a = some (.ins (He.ga K c) dx fs) → RD K I (.ref a) (.obj c a)
inductive RDs (K : Fg) (I : Hp) : List V → List D → Prop where
  | nil : RDs K I [] []
  | cons {v : V} {vs : List V} {d : D} {ds : List D} : RD K I v d → RDs K I vs ds → RDs K I (v :: vs) (d :: ds)
inductive RDk (K : Fg) (I : Hp) : List (Key × V) → List (D × D) → Prop where
  | nil : RDk K I [] []
  | int {i : Int} {v : V} {vs : List (Key × V)} {d : D} {ds : List (D × D)} : RD K I v d → RDk K I vs ds → RDk K I ((.inl i, v) :: vs) ((.int i, d) :: ds)
  | str {x : Str} {v : V} {vs : List (Key × V)} {d : D} {ds : List (D × D)} : RD K I v d → RDk K I vs ds → RDk K I ((.inr x, v) :: vs) ((.str x, d) :: ds)
end
section
variable {K : Fg} {I I' : Hp}
mutual
theorem RD.up (e : Same I I') : ∀ {v : V} {d : D}, RD K I v d → RD K I' v d
  | _, _, .non => .non
  | _, _, .bl b => .bl b
  | _, _, .int i => .int i
  | _, _, .str x => .str x
  | _, _, .tup h r => .tup (sqT_up e h) (RDs.up e r)
  | _, _, .lst h r => .lst (e.seq h) (RDs.up e r)
  | _, _, .dct h r => .dct (e _ _ h) (RDk.up e r)
  | _, _, .obj h => .obj (e _ _ h)
theorem RDs.up (e : Same I I') : ∀ {vs : List V} {ds : List D}, RDs K I vs ds → RDs K I' vs ds
  | _, _, .nil => .nil
  | _, _, .cons h r => .cons (RD.up e h) (RDs.up e r)
theorem RDk.up (e : Same I I') : ∀ {vs : List (Key × V)} {ds : List (D × D)}, RDk K I vs ds → RDk K I' vs ds
  | _, _, .nil => .nil
  | _, _, .int h r => .int (RD.up e h) (RDk.up e r)
  | _, _, .str h r => .str (RD.up e h) (RDk.up e r)
end
end
instance : Enc D := ⟨fun K I v x => RD K I v x, fun e h => RD.up e h⟩

/-! ### the monad: a state, a value or an error -/
abbrev R (S α : Type) := S → Except Er (α × S)
def sr {S α : Type} (x : α) : R S α := fun s => .ok (x, s)
def sb {S α β : Type} (m : R S α) (k : α → R S β) : R S β := fun s => match m s with
  | .ok (x, s') => k x s'
  | .error e => .error e
def so {S α : Type} (o : Option α) : R S α := fun s => match o with
  | some x => .ok (x, s)
  | none => .error .stuck
def sl {S α : Type} (m : Except Er α) : R S α := fun s => match m with
  | .ok x => .ok (x, s)
  | .error e => .error e
def sx {S α : Type} (e : Er) : R S α := fun _ => .error e

/-! ### what is wanted behind -/
inductive FD (K : Fg) (I : Hp) : List (Str × V) → List (Str × D) → Prop where
  | nil : FD K I [] []
  | cons {f : Str} {v : V} {vs : List (Str × V)} {d : D} {ds : List (Str × D)} : RD K I v d → FD K I vs ds → FD K I ((f, v) :: vs) ((f, d) :: ds)
def XD (K : Fg) (I _ : Hp) (d : Addr) (fs : List (Str × D)) : Prop := ∃ vs, I d = some (.xd vs) ∧ FD K I vs fs
def Post {S α : Type} (K : Fg) (E : XK) (Γ : S → Gam) (σ : L2.St) (I O H : Hp) (F : α → Hp → Hp → Prop) : Except Er (α × S) → Prop
  | .ok (x, s') => ∀ I' O' H', St3 I' O' H' → Go I O H I' O' H' → Sat (Γ s') σ I' O' → F x I' H'
  | .error .stuck => False
  | .error (.exc c fs) => ∀ d I' O' H', St3 I' O' H' → Go I O H I' O' H' → XD K I' H' d fs → E (.ref (He.ga K c)) (some d) H'
section
variable {S α β : Type} {K : Fg} {E : XK} {Γ : S → Gam} {σ : L2.St} {I O H I1 O1 H1 : Hp} {F : α → Hp → Hp → Prop}
theorem Post.shift (g : Go I O H I1 O1 H1) : ∀ {r : Except Er (α × S)}, Post K E Γ σ I O H F r → Post K E Γ σ I1 O1 H1 F r
  | .ok (x, s'), h => fun I' O' H' t g' sat => h I' O' H' t (g.trans g') sat
  | .error .stuck, h => h
  | .error (.exc c fs), h => fun d I' O' H' t g' x => h d I' O' H' t (g.trans g') x
theorem Post.imp {F' : α → Hp → Hp → Prop} (f : ∀ x I' H', F x I' H' → F' x I' H') : ∀ {r : Except Er (α × S)}, Post K E Γ σ I O H F r → Post K E Γ σ I O H F' r
  | .ok (x, s'), h => fun I' O' H' t g' sat => f _ _ _ (h I' O' H' t g' sat)
  | .error .stuck, h => h
  | .error (.exc c fs), h => h
/-- what stands behind the first part -/
def Then (I : Hp) (Γ : S → Gam) (σ : L2.St) (W : S → Hp → Hp → Hp → Prop) (I1 H1 : Hp) : Prop := Same I I1 ∧ ∃ s1 O1, St3 I1 O1 H1 ∧ Sat (Γ s1) σ I1 O1 ∧ W s1 I1 O1 H1
theorem Post.bind {F : β → Hp → Hp → Prop} {m : R S α} {k : α → R S β} {s : S} (h : Post K E Γ σ I O H F (sb m k s)) :
    Post K E Γ σ I O H (fun x I1 H1 => Then I Γ σ (fun s1 I1 O1 H1 => Post K E Γ σ I1 O1 H1 F (k x s1)) I1 H1) (m s) := by
  unfold sb at h
  cases e : m s with
  | ok p =>
    obtain ⟨x, s1⟩ := p
    rw [e] at h
    exact fun I1 O1 H1 t g sat => ⟨g.ext, s1, O1, t, sat, Post.shift g h⟩
  | error z =>
    rw [e] at h
    cases z with
    | stuck => exact h
    | exc c fs => exact h
theorem Post.here {s : S} {x : α} (h : Post K E Γ σ I O H F (.ok (x, s))) (t : St3 I O H) (sat : Sat (Γ s) σ I O) : F x I H := h I O H t (Go.refl I O H) sat
theorem Post.at_ {s : S} {x : α} (h : Post K E Γ σ I O H F (sr x s)) (t : St3 I O H) (sat : Sat (Γ s) σ I O) : F x I H := h I O H t (Go.refl I O H) sat
/-- a still object laid -/
theorem Post.laid {s : S} {x : α} {p : Addr} {o : HO} (h : Post K E Γ σ I O H F (sr x s)) (t : St3 I O H) (sat : Sat (Γ s) σ I O) (hp : H p = none) : F x (upd I p o) (upd H p o) :=
  h _ O _ (t.lay hp) (Go.lay t hp) (sat.up (Same.upd_new (t.fi hp)))
theorem Post.some_ {o : Option α} {s : S} (h : Post K E Γ σ I O H F (so o s)) : ∃ x, o = some x ∧ Post K E Γ σ I O H F (sr x s) := by
  cases o with
  | none => exact False.elim h
  | some x => exact ⟨x, rfl, h⟩
end

/-! ### expressions -/
/-- what is wished where an exception leaves: by the slots -/
abbrev EW := L2.St → XK
abbrev kE (E : XK) : EW := fun _ => E
def tM {S α : Type} [Enc α] (K : Fg) (E : EW) (Γ : S → Gam) (m : R S α) : TE := fun σ H Q => ∃ s I O, St3 I O H ∧ Sat (Γ s) σ I O ∧ Post K (E σ) Γ σ I O H (fun x I' H' => ∀ v, Enc.rep K I' v x → Q v H') (m s)
def tMT {S : Type} (K : Fg) (E : EW) (Γ : S → Gam) (m : R S Bool) : TT := fun σ H Q => ∃ s I O, St3 I O H ∧ Sat (Γ s) σ I O ∧ Post K (E σ) Γ σ I O H (fun x _ H' => Q x H') (m s)
/-- the arguments of a call, packed -/
class Args (A : Type) where
  rep : Fg → Hp → List V → A → Prop
  up : ∀ {K : Fg} {I I' : Hp} {v : List V} {x : A}, Same I I' → rep K I v x → rep K I' v x
instance : Args Unit := ⟨fun _ _ vs _ => vs = [], fun _ h => h⟩
instance {α A : Type} [Enc α] [Args A] : Args (α × A) :=
  ⟨fun K I vs x => ∃ v ws, vs = v :: ws ∧ Enc.rep K I v x.1 ∧ Args.rep K I ws x.2, fun e ⟨v, ws, h, r, q⟩ => ⟨v, ws, h, Enc.up e r, Args.up e q⟩⟩
def tMA {S A : Type} [Args A] (K : Fg) (E : EW) (Γ : S → Gam) (m : R S A) : TA := fun σ H Q => ∃ s I O, St3 I O H ∧ Sat (Γ s) σ I O ∧ Post K (E σ) Γ σ I O H (fun x I' H' => ∀ vs, Args.rep K I' vs x → Q vs H') (m s)
def tML {S α : Type} [Enc α] (K : Fg) (E : EW) (Γ : S → Gam) (m : R S (List α)) : TA := fun σ H Q => ∃ s I O, St3 I O H ∧ Sat (Γ s) σ I O ∧ Post K (E σ) Γ σ I O H (fun xs I' H' => ∀ vs, All2 (Enc.rep K I') vs xs → Q vs H') (m s)
abbrev PX (X : Cx) (E : EW) {S α : Type} [Enc α] (Γ : S → Gam) (e : Expr) (m : R S α) : Prop := PE X e (tM X.K E Γ m)
abbrev PTx (X : Cx) (E : EW) {S : Type} (Γ : S → Gam) (e : Expr) (m : R S Bool) : Prop := PT X e (tMT X.K E Γ m)
abbrev PAx (X : Cx) (E : EW) {S A : Type} [Args A] (Γ : S → Gam) (es : List Expr) (m : R S A) : Prop := PA X es (tMA X.K E Γ m)
abbrev PLx (X : Cx) (E : EW) {S α : Type} [Enc α] (Γ : S → Gam) (es : List Expr) (m : R S (List α)) : Prop := PA X es (tML X.K E Γ m)
theorem _root_.L2.PE.mono {X : Cx} {e : Expr} {t t' : TE} (h : PE X e t) (f : ∀ σ H Q, t' σ H Q → t σ H Q) : PE X e t' := ⟨fun pins s σ H Q I q => h.run pins s σ H Q I (f σ H Q q)⟩
theorem _root_.L2.PT.mono {X : Cx} {e : Expr} {t t' : TT} (h : PT X e t) (f : ∀ σ H Q, t' σ H Q → t σ H Q) : PT X e t' := ⟨fun pins s σ H Q I q => h.run pins s σ H Q I (f σ H Q q)⟩
theorem _root_.L2.PA.mono {X : Cx} {e : List Expr} {t t' : TA} (h : PA X e t) (f : ∀ σ H Q, t' σ H Q → t σ H Q) : PA X e t' := ⟨fun po pins s σ H Q I q => h.run po pins s σ H Q I (f σ H Q q)⟩
/-- what a body knows of where it stands -/
structure Ctx (X : Cx) (E : EW) (k : Nat) : Prop where
  pas : ∀ σ, PassesAt (L2.CX X.prog X.w) X σ (E σ)
  own : PassesOwn (model X.prog X.w) X.A X.env X.xe
  room : Room k X.A
  nd : X.N.Nodup
  calm : X.calm = true
  tk : Takes X (fun cls d σ H => E σ cls d H)
section
variable {X : Cx} {E : EW} {S : Type} {Γ : S → Gam} {pos : Pos}
theorem px_var (i : Nat) {x : Str} {α : Type} [Enc α] {a : α} (hN : X.N[i]? = some x := by rfl) (hv : Vis X.env.scope x := by first | exact Or.inl rfl | exact Or.inr (Or.inl rfl) | exact Or.inr (Or.inr rfl))
    (hg : ∀ s, (Γ s).at i = sI X.K a := by exact fun _ => rfl) (hd : (x == ("__debug__" : Str)) = false := by decide) (hcd : (x == ("__classdict__" : Str)) = false := by decide) : PX X E Γ (.Name x pos) (sr a) :=
  (pe_var hN hv hd hcd).mono fun σ H Q ⟨s, I, O, t, sat, h⟩ => by
    obtain ⟨v, h1, h2⟩ := sat.at_im (hg s)
    exact ⟨v, h1, h.at_ t sat v h2⟩
theorem px_int {i : Int} {j} : PX X E Γ (.Constant (.int i) j pos) (sr i) := pe_int.mono fun σ H Q ⟨s, I, O, t, sat, h⟩ => h.at_ t sat _ rfl
theorem px_bl {b : Bool} {j} : PX X E Γ (.Constant (.bool b) j pos) (sr b) := pe_bl.mono fun σ H Q ⟨s, I, O, t, sat, h⟩ => h.at_ t sat _ rfl
theorem px_str {x : Str} {j} : PX X E Γ (.Constant (.str x) j pos) (sr x) := pe_str.mono fun σ H Q ⟨s, I, O, t, sat, h⟩ => h.at_ t sat _ rfl
theorem px_non {j} : PX X E Γ (.Constant .none j pos) (sr ()) := pe_non.mono fun σ H Q ⟨s, I, O, t, sat, h⟩ => h.at_ t sat _ rfl
theorem px_none {α : Type} [Enc α] {j} : PX X E Γ (.Constant .none j pos) (sr (none : Option α)) := pe_non.mono fun σ H Q ⟨s, I, O, t, sat, h⟩ => h.at_ t sat _ rfl
/-- a part whose value may not be there -/
theorem px_get {α : Type} [Enc α] {e : Expr} {m : R S (Option α)} (h : PX X E Γ e m) : PX X E Γ e (sb m so) :=
  L2.PE.mono h fun σ H Q ⟨s, I, O, t, sat, h⟩ => ⟨s, I, O, t, sat, h.bind.imp fun x I1 H1 ⟨_, s1, O1, t1, sat1, h1⟩ v r => by
    obtain ⟨y, rfl, h2⟩ := h1.some_
    exact h2.at_ t1 sat1 v r.2⟩
/-- two parts, by values -/
theorem px_bin {α β γ : Type} [Enc α] [Enc β] [Enc γ] {a b e : Expr} {r : R2} {ma : R S α} {mb : R S β} {f : α → β → R S γ} (rule : ∀ {ta tb : TE}, PE X a ta → PE X b tb → PE X e (tOp r ta tb)) (ha : PX X E Γ a ma) (hb : PX X E Γ b mb)
    (hr : ∀ x y v w s σ I O H Q, Enc.rep X.K I v x → Enc.rep X.K I w y → St3 I O H → Sat (Γ s) σ I O → Post X.K (E σ) Γ σ I O H (fun z I' H' => ∀ u, Enc.rep X.K I' u z → Q u H') (f x y s) → r v w H Q) :
    PX X E Γ e (sb ma fun x => sb mb fun y => f x y) :=
  L2.PE.mono (rule ha hb) fun σ H Q ⟨s, I, O, t, sat, h⟩ => ⟨s, I, O, t, sat, h.bind.imp fun x I1 H1 ⟨_, s1, O1, t1, sat1, h1⟩ v rv => ⟨s1, I1, O1, t1, sat1, h1.bind.imp fun y I2 H2 ⟨e2, s2, O2, t2, sat2, h2⟩ w rw =>
    hr x y v w s2 σ I2 O2 H2 Q (Enc.up e2 rv) rw t2 sat2 h2⟩⟩
theorem px_add {a b : Expr} {ma mb : R S Int} (ha : PX X E Γ a ma) (hb : PX X E Γ b mb) : PX X E Γ (.BinOp a .Add b pos) (sb ma fun x => sb mb fun y => sr (x + y)) :=
  px_bin (pe_op op_add) ha hb fun x y v w s σ I O H Q rv rw t sat h => ⟨x, y, rv, rw, h.at_ t sat _ rfl⟩
theorem px_sub {a b : Expr} {ma mb : R S Int} (ha : PX X E Γ a ma) (hb : PX X E Γ b mb) : PX X E Γ (.BinOp a .Sub b pos) (sb ma fun x => sb mb fun y => sr (x - y)) :=
  px_bin (pe_op op_sub) ha hb fun x y v w s σ I O H Q rv rw t sat h => ⟨x, y, rv, rw, h.at_ t sat _ rfl⟩
/-- sizes at which a product is reckoned -/
def mulOk (i j : Int) : Bool := decide (i.natAbs.log2 + j.natAbs.log2 < 1000000) || decide (-(2 ^ 64) < i ∧ i < 2 ^ 64) || decide (-(2 ^ 64) < j ∧ j < 2 ^ 64)
def pmul (i j : Int) : Option Int := if mulOk i j = true then some (i * j) else none
def pmod (i j : Int) : Option Int := if 0 < j then some (i % j) else none
def pdiv (i j : Int) : Option Int := if 0 < j ∧ j.natAbs.log2 < 9000 then some (i / j) else none
def CMulA (i j : Int) : Prop := mulOk i j = true
theorem op_mulA : OpR X (binaryOp .Mult) (rI CMulA fun i j => .int (i * j)) := opI fun i j _ _ _ _ _ hc q => by
  have hc' : mulOk i j = true := hc
  unfold mulOk at hc'
  simp only [Bool.or_eq_true, decide_eq_true_eq] at hc'
  rcases hc' with (z | z) | z
  · exact mul_int q (CMulW.ok z)
  · exact mul_int q (CMul.ok (.inl z))
  · exact mul_int q (CMul.ok (.inr z))
theorem px_mul {a b : Expr} {ma mb : R S Int} (ha : PX X E Γ a ma) (hb : PX X E Γ b mb) : PX X E Γ (.BinOp a .Mult b pos) (sb ma fun x => sb mb fun y => so (pmul x y)) :=
  px_bin (pe_op op_mulA) ha hb fun x y v w s σ I O H Q rv rw t sat h => by
    obtain ⟨z, e, h⟩ := h.some_
    unfold pmul at e
    split at e
    · rename_i c
      cases e
      exact ⟨x, y, rv, rw, c, h.at_ t sat _ rfl⟩
    · cases e
theorem px_mod {a b : Expr} {ma mb : R S Int} (ha : PX X E Γ a ma) (hb : PX X E Γ b mb) : PX X E Γ (.BinOp a .Mod b pos) (sb ma fun x => sb mb fun y => so (pmod x y)) :=
  px_bin (pe_op op_mod) ha hb fun x y v w s σ I O H Q rv rw t sat h => by
    obtain ⟨z, e, h⟩ := h.some_
    unfold pmod at e
    split at e
    · rename_i c
      cases e
      exact ⟨x, y, rv, rw, c, h.at_ t sat _ rfl⟩
    · cases e
theorem px_div {a b : Expr} {ma mb : R S Int} (ha : PX X E Γ a ma) (hb : PX X E Γ b mb) : PX X E Γ (.BinOp a .FloorDiv b pos) (sb ma fun x => sb mb fun y => so (pdiv x y)) :=
  px_bin (pe_op op_fdivW) ha hb fun x y v w s σ I O H Q rv rw t sat h => by
    obtain ⟨z, e, h⟩ := h.some_
    unfold pdiv at e
    split at e
    · rename_i c
      cases e
      exact ⟨x, y, rv, rw, c, h.at_ t sat _ rfl⟩
    · cases e
theorem px_un {α γ : Type} [Enc α] [Enc γ] {a e : Expr} {r : V → Hp → VK → Prop} {ma : R S α} {f : α → R S γ} (rule : ∀ {ta : TE}, PE X a ta → PE X e (tUn r ta)) (ha : PX X E Γ a ma)
    (hr : ∀ x v s σ I O H Q, Enc.rep X.K I v x → St3 I O H → Sat (Γ s) σ I O → Post X.K (E σ) Γ σ I O H (fun z I' H' => ∀ u, Enc.rep X.K I' u z → Q u H') (f x s) → r v H Q) :
    PX X E Γ e (sb ma f) :=
  L2.PE.mono (rule ha) fun σ H Q ⟨s, I, O, t, sat, h⟩ => ⟨s, I, O, t, sat, h.bind.imp fun x I1 H1 ⟨_, s1, O1, t1, sat1, h1⟩ v rv => hr x v s1 σ I1 O1 H1 Q rv t1 sat1 h1⟩
theorem px_neg {a : Expr} {ma : R S Int} (ha : PX X E Γ a ma) : PX X E Γ (.UnaryOp .USub a pos) (sb ma fun x => sr (-x)) :=
  px_un (pe_un un_neg) ha fun x v s σ I O H Q rv t sat h => ⟨x, rv, h.at_ t sat _ rfl⟩

/-! ### comparisons: as a value (e) and as a test (t) -/
structure CB (X : Cx) (E : EW) {S : Type} (Γ : S → Gam) (ex : Expr) (m : R S Bool) : Prop where
  e : PX X E Γ ex m
  t : PTx X E Γ ex m
theorem px_cmp {α β : Type} [Enc α] [Enc β] {op : CmpOp} {a b : Expr} {r : R2} {ma : R S α} {mb : R S β} {f : α → β → R S Bool} (ho : OpR X (compareOp op) r) (ha : PX X E Γ a ma) (hb : PX X E Γ b mb) (hm : behindInMarks op b = false)
    (hr : ∀ x y v w s σ I O H Q, Enc.rep X.K I v x → Enc.rep X.K I w y → St3 I O H → Sat (Γ s) σ I O → Post X.K (E σ) Γ σ I O H (fun z I' H' => ∀ u, Enc.rep X.K I' u z → Q u H') (f x y s) → r v w H Q) :
    CB X E Γ (.Compare a [op] [b] pos) (sb ma fun x => sb mb fun y => f x y) :=
  ⟨px_bin (fun p q => pe_cmpR ho p q hm) ha hb hr,
   (pt_cmpR ho ha hb hm).mono fun σ H Q ⟨s, I, O, t, sat, h⟩ => ⟨s, I, O, t, sat, h.bind.imp fun x I1 H1 ⟨_, s1, O1, t1, sat1, h1⟩ v rv => ⟨s1, I1, O1, t1, sat1, h1.bind.imp fun y I2 H2 ⟨e2, s2, O2, t2, sat2, h2⟩ w rw =>
    hr x y v w s2 σ I2 O2 H2 (fun u H' => ∃ k, u = .bl k ∧ Q k H') (Enc.up e2 rv) rw t2 sat2 (h2.imp fun z I3 H3 q u ru => ⟨z, ru, q⟩)⟩⟩⟩
section
variable {a b : Expr} {ma mb : R S Int}
theorem px_lt (ha : PX X E Γ a ma) (hb : PX X E Γ b mb) : CB X E Γ (.Compare a [.Lt] [b] pos) (sb ma fun x => sb mb fun y => sr (decide (x < y))) :=
  px_cmp op_lt ha hb (nomark _) fun x y v w s σ I O H Q rv rw t sat h => ⟨x, y, rv, rw, h.at_ t sat _ rfl⟩
theorem px_le (ha : PX X E Γ a ma) (hb : PX X E Γ b mb) : CB X E Γ (.Compare a [.LtE] [b] pos) (sb ma fun x => sb mb fun y => sr (decide (x ≤ y))) :=
  px_cmp op_le ha hb (nomark _) fun x y v w s σ I O H Q rv rw t sat h => ⟨x, y, rv, rw, h.at_ t sat _ rfl⟩
theorem px_gt (ha : PX X E Γ a ma) (hb : PX X E Γ b mb) : CB X E Γ (.Compare a [.Gt] [b] pos) (sb ma fun x => sb mb fun y => sr (decide (y < x))) :=
  px_cmp op_gt ha hb (nomark _) fun x y v w s σ I O H Q rv rw t sat h => ⟨x, y, rv, rw, h.at_ t sat _ rfl⟩
theorem px_ge (ha : PX X E Γ a ma) (hb : PX X E Γ b mb) : CB X E Γ (.Compare a [.GtE] [b] pos) (sb ma fun x => sb mb fun y => sr (decide (y ≤ x))) :=
  px_cmp op_ge ha hb (nomark _) fun x y v w s σ I O H Q rv rw t sat h => ⟨x, y, rv, rw, h.at_ t sat _ rfl⟩
end
/-- equality of numbers and texts -/
class Sca (α : Type) extends Enc α where
  v : α → V
  is : ∀ {K : Fg} {I : Hp} {u : V} {x : α}, rep K I u x → u = v x
  sc : ∀ x y : α, scal (v x) (v y) = true
  inj : ∀ x y : α, v x = v y → x = y
instance : Sca Int := ⟨.int, fun h => h, fun _ _ => rfl, fun _ _ h => V.int.inj h⟩
instance : Sca Str := ⟨.str, fun h => h, fun _ _ => rfl, fun _ _ h => V.str.inj h⟩
instance : Sca Bool := ⟨.bl, fun h => h, fun _ _ => rfl, fun _ _ h => V.bl.inj h⟩
theorem dec_iff {p q : Prop} [Decidable p] [Decidable q] (h : p ↔ q) : decide p = decide q := by
  by_cases hp : p
  · rw [decide_eq_true hp, decide_eq_true (h.mp hp)]
  · rw [decide_eq_false hp, decide_eq_false fun z => hp (h.mpr z)]
theorem px_eqS {α : Type} [Sca α] [DecidableEq α] {a b : Expr} {ma mb : R S α} (ha : PX X E Γ a ma) (hb : PX X E Γ b mb) : CB X E Γ (.Compare a [.Eq] [b] pos) (sb ma fun x => sb mb fun y => sr (decide (x = y))) :=
  px_cmp op_eq ha hb (nomark _) fun x y v w s σ I O H Q rv rw t sat h => by
    have e1 := Sca.is rv
    have e2 := Sca.is rw
    subst e1 e2
    refine ⟨Sca.sc x y, h.at_ t sat _ ?_⟩
    show V.bl _ = V.bl _
    rw [dec_iff (p := Sca.v x = Sca.v y) (q := x = y) ⟨Sca.inj x y, fun z => by rw [z]⟩]
theorem px_neS {α : Type} [Sca α] [DecidableEq α] {a b : Expr} {ma mb : R S α} (ha : PX X E Γ a ma) (hb : PX X E Γ b mb) : CB X E Γ (.Compare a [.NotEq] [b] pos) (sb ma fun x => sb mb fun y => sr (!decide (x = y))) :=
  px_cmp op_ne ha hb (nomark _) fun x y v w s σ I O H Q rv rw t sat h => by
    have e1 := Sca.is rv
    have e2 := Sca.is rw
    subst e1 e2
    refine ⟨Sca.sc x y, h.at_ t sat _ ?_⟩
    show V.bl _ = V.bl _
    rw [dec_iff (p := Sca.v x = Sca.v y) (q := x = y) ⟨Sca.inj x y, fun z => by rw [z]⟩]
/-- equality of data -/
class Dat (α : Type) extends Enc α where
  pd : α → PyData
  dp : ∀ {K : Fg} {I : Hp} {u : V} {x : α}, rep K I u x → Dp K I u (pd x)
  eqv : ∀ x y : α, PyData.eqv (pd x) (pd y) = true ↔ x = y
def peq {α : Type} [Dat α] [DecidableEq α] (x y : α) : Option Bool := if SeqAt.shaped (Dat.pd x) = true ∧ SeqAt.shaped (Dat.pd y) = true then some (decide (x = y)) else none
theorem peq_some {α : Type} [Dat α] [DecidableEq α] {x y : α} {b : Bool} (h : peq x y = some b) : SeqAt.shaped (Dat.pd x) = true ∧ SeqAt.shaped (Dat.pd y) = true ∧ b = PyData.eqv (Dat.pd x) (Dat.pd y) := by
  unfold peq at h
  split at h
  · rename_i c
    cases h
    refine ⟨c.1, c.2, ?_⟩
    by_cases e : x = y
    · rw [decide_eq_true e, (Dat.eqv x y).mpr e]
    · rw [decide_eq_false e]
      cases q : PyData.eqv (Dat.pd x) (Dat.pd y) with
      | false => rfl
      | true => exact absurd ((Dat.eqv x y).mp q) e
  · cases h
mutual
theorem Dp.up {K : Fg} {I I' : Hp} (e : Same I I') : ∀ {v : V} {d : PyData}, Dp K I v d → Dp K I' v d
  | _, _, .non => .non
  | _, _, .bl b => .bl b
  | _, _, .int i => .int i
  | _, _, .str x => .str x
  | _, _, .tup h r => .tup (sqT_up e h) (DpAll.up e r)
  | _, _, .lst h r => .lst (e.seq h) (DpAll.up e r)
theorem DpAll.up {K : Fg} {I I' : Hp} (e : Same I I') : ∀ {vs : List V} {ds : List PyData}, DpAll K I vs ds → DpAll K I' vs ds
  | _, _, .nil => .nil
  | _, _, .cons h r => .cons (Dp.up e h) (DpAll.up e r)
end
theorem px_eqD {α : Type} [Dat α] [DecidableEq α] {k : Nat} {a b : Expr} {ma mb : R S α} (C : Ctx X E k) (ha : PX X E Γ a ma) (hb : PX X E Γ b mb) : CB X E Γ (.Compare a [.Eq] [b] pos) (sb ma fun x => sb mb fun y => so (peq x y)) :=
  px_cmp (op_eqD C.room.units) ha hb (nomark _) fun x y v w s σ I O H Q rv rw t sat h => by
    obtain ⟨z, e, h⟩ := h.some_
    obtain ⟨h1, h2, rfl⟩ := peq_some e
    exact ⟨_, _, Dp.up t.si (Dat.dp rv), Dp.up t.si (Dat.dp rw), h1, h2, h.at_ t sat _ rfl⟩
theorem px_neD {α : Type} [Dat α] [DecidableEq α] {k : Nat} {a b : Expr} {ma mb : R S α} (C : Ctx X E k) (ha : PX X E Γ a ma) (hb : PX X E Γ b mb) : CB X E Γ (.Compare a [.NotEq] [b] pos) (sb ma fun x => sb mb fun y => sb (so (peq x y)) fun z => sr (!z)) :=
  px_cmp (op_neD C.room.units) ha hb (nomark _) fun x y v w s σ I O H Q rv rw t sat h => by
    cases e : peq x y with
    | none => rw [e] at h; exact False.elim h
    | some z =>
      rw [e] at h
      obtain ⟨h1, h2, rfl⟩ := peq_some e
      exact ⟨_, _, Dp.up t.si (Dat.dp rv), Dp.up t.si (Dat.dp rw), h1, h2, Post.at_ (x := !_) h t sat _ rfl⟩
theorem dec_isN {α : Type} [Enc α] {K : Fg} {I : Hp} {v : V} {x : Option α} (r : Enc.rep K I v x) : decide (v = .non) = x.isNone := by
  cases x with
  | none =>
    have e : v = V.non := r
    rw [e] <;> rfl
  | some y =>
    have e : ¬ v = V.non := r.1
    rw [decide_eq_false e] <;> rfl
theorem px_isN {α : Type} [Enc α] {a : Expr} {ma : R S (Option α)} {j pos'} (ha : PX X E Γ a ma) : CB X E Γ (.Compare a [.Is] [.Constant .none j pos'] pos) (sb ma fun x => sr x.isNone) :=
  ⟨L2.PE.mono (pe_cmp (pc_isN ha) rfl) fun σ H Q ⟨s, I, O, t, sat, h⟩ => ⟨s, I, O, t, sat, h.bind.imp fun x I1 H1 ⟨_, s1, O1, t1, sat1, h1⟩ v rv => h1.at_ t1 sat1 _ (congrArg V.bl (dec_isN rv))⟩,
   L2.PT.mono (pt_cmp (pc_isN ha) rfl) fun σ H Q ⟨s, I, O, t, sat, h⟩ => ⟨s, I, O, t, sat, h.bind.imp fun x I1 H1 ⟨_, s1, O1, t1, sat1, h1⟩ v rv => ⟨_, rfl, by rw [dec_isN rv]; exact h1.at_ t1 sat1⟩⟩⟩
theorem px_notN {α : Type} [Enc α] {a : Expr} {ma : R S (Option α)} {j pos'} (ha : PX X E Γ a ma) : CB X E Γ (.Compare a [.IsNot] [.Constant .none j pos'] pos) (sb ma fun x => sr x.isSome) :=
  ⟨L2.PE.mono (pe_cmp (pc_notN ha) rfl) fun σ H Q ⟨s, I, O, t, sat, h⟩ => ⟨s, I, O, t, sat, h.bind.imp fun x I1 H1 ⟨_, s1, O1, t1, sat1, h1⟩ v rv => h1.at_ t1 sat1 _ (congrArg V.bl (by rw [dec_isN rv]; cases x <;> rfl))⟩,
   L2.PT.mono (pt_cmp (pc_notN ha) rfl) fun σ H Q ⟨s, I, O, t, sat, h⟩ => ⟨s, I, O, t, sat, h.bind.imp fun x I1 H1 ⟨_, s1, O1, t1, sat1, h1⟩ v rv => ⟨_, rfl, by
    have e : (!decide (v = .non)) = x.isSome := by rw [dec_isN rv]; cases x <;> rfl
    rw [e]; exact h1.at_ t1 sat1⟩⟩⟩

/-! ### tests -/
/-- an expression whose value is a truth value, as a test -/
theorem pt_v {e : Expr} {m : R S Bool} (h : PX X E Γ e m) (he : ∀ whole, isTrue e X.env whole = (do let v ← whole; standAt e.pos; holding [v] (truthy v)) := by intro _; rfl) : PTx X E Γ e m :=
  L2.PT.mono (L2.pt_val h he) fun σ H Q ⟨s, I, O, t, sat, h⟩ => ⟨s, I, O, t, sat, h.imp fun x I1 H1 q v rv => ⟨x, rv, q⟩⟩
theorem pt_not {e : Expr} {m : R S Bool} (h : PTx X E Γ e m) : PTx X E Γ (.UnaryOp .Not e pos) (sb m fun x => sr (!x)) :=
  L2.PT.mono (L2.pt_not h) fun σ H Q ⟨s, I, O, t, sat, h⟩ => ⟨s, I, O, t, sat, h.bind.imp fun x I1 H1 ⟨_, s1, O1, t1, sat1, h1⟩ => h1.at_ t1 sat1⟩
/-- and, or over tests -/
abbrev PWx (X : Cx) (E : EW) {S : Type} (Γ : S → Gam) (e : Expr) (m : R S Bool) : Prop := PW X e (tMT X.K E Γ m)
theorem _root_.L2.PW.mono {X : Cx} {e : Expr} {t t' : TT} (h : PW X e t) (f : ∀ σ H Q, t' σ H Q → t σ H Q) : PW X e t' := ⟨fun wh pins s σ H Q I q => h.run wh pins s σ H Q I (f σ H Q q)⟩
def sAnd {S : Type} (a b : R S Bool) : R S Bool := sb a fun x => if x = true then b else sr false
def sOr {S : Type} (a b : R S Bool) : R S Bool := sb a fun x => if x = true then sr true else b
theorem pw_and1 {a : Expr} {ma : R S Bool} (ha : PTx X E Γ a ma) : PWx X E Γ (.BoolOp .And [a] pos) ma := L2.pw_and1 ha
theorem pw_or1 {a : Expr} {ma : R S Bool} (ha : PTx X E Γ a ma) : PWx X E Γ (.BoolOp .Or [a] pos) ma := L2.pw_or1 ha
theorem pw_and {a b : Expr} {rest : List Expr} {ma mb : R S Bool} (ha : PTx X E Γ a ma) (hb : PWx X E Γ (.BoolOp .And (b :: rest) pos) mb) : PWx X E Γ (.BoolOp .And (a :: b :: rest) pos) (sAnd ma mb) :=
  L2.PW.mono (L2.pw_and ha hb) fun σ H Q ⟨s, I, O, t, sat, h⟩ => ⟨s, I, O, t, sat, h.bind.imp fun x I1 H1 ⟨_, s1, O1, t1, sat1, h1⟩ => by
    cases x with
    | true => exact ⟨s1, I1, O1, t1, sat1, h1⟩
    | false => exact h1.at_ t1 sat1⟩
theorem pw_or {a b : Expr} {rest : List Expr} {ma mb : R S Bool} (ha : PTx X E Γ a ma) (hb : PWx X E Γ (.BoolOp .Or (b :: rest) pos) mb) : PWx X E Γ (.BoolOp .Or (a :: b :: rest) pos) (sOr ma mb) :=
  L2.PW.mono (L2.pw_or ha hb) fun σ H Q ⟨s, I, O, t, sat, h⟩ => ⟨s, I, O, t, sat, h.bind.imp fun x I1 H1 ⟨_, s1, O1, t1, sat1, h1⟩ => by
    cases x with
    | false => exact ⟨s1, I1, O1, t1, sat1, h1⟩
    | true => exact h1.at_ t1 sat1⟩
/-- and, or, not over truth values, as values -/
theorem px_and1 {op} {a : Expr} {ma : R S Bool} (ha : PX X E Γ a ma) : PX X E Γ (.BoolOp op [a] pos) ma := pe_one ha
theorem px_and {a b : Expr} {rest : List Expr} {ma mb : R S Bool} (ha : PX X E Γ a ma) (hb : PX X E Γ (.BoolOp .And (b :: rest) pos) mb) : PX X E Γ (.BoolOp .And (a :: b :: rest) pos) (sAnd ma mb) :=
  L2.PE.mono (pe_and ha hb) fun σ H Q ⟨s, I, O, t, sat, h⟩ => ⟨s, I, O, t, sat, h.bind.imp fun x I1 H1 ⟨_, s1, O1, t1, sat1, h1⟩ v rv => ⟨x, rv, by
    cases x with
    | true => exact ⟨s1, I1, O1, t1, sat1, h1⟩
    | false => exact h1.at_ t1 sat1 _ rfl⟩⟩
theorem px_or {a b : Expr} {rest : List Expr} {ma mb : R S Bool} (ha : PX X E Γ a ma) (hb : PX X E Γ (.BoolOp .Or (b :: rest) pos) mb) : PX X E Γ (.BoolOp .Or (a :: b :: rest) pos) (sOr ma mb) :=
  L2.PE.mono (pe_or ha hb) fun σ H Q ⟨s, I, O, t, sat, h⟩ => ⟨s, I, O, t, sat, h.bind.imp fun x I1 H1 ⟨_, s1, O1, t1, sat1, h1⟩ v rv => ⟨x, rv, by
    cases x with
    | false => exact ⟨s1, I1, O1, t1, sat1, h1⟩
    | true => exact h1.at_ t1 sat1 _ rfl⟩⟩
theorem px_not {a : Expr} {ma : R S Bool} (ha : PX X E Γ a ma) : PX X E Γ (.UnaryOp .Not a pos) (sb ma fun x => sr (!x)) :=
  L2.PE.mono (pe_not ha) fun σ H Q ⟨s, I, O, t, sat, h⟩ => ⟨s, I, O, t, sat, h.bind.imp fun x I1 H1 ⟨_, s1, O1, t1, sat1, h1⟩ v rv => ⟨x, rv, h1.at_ t1 sat1 _ rfl⟩⟩
def sIf {S α : Type} (c : R S Bool) (a b : R S α) : R S α := sb c fun x => if x = true then a else b
theorem px_ifExp {α : Type} [Enc α] {c a b : Expr} {mc : R S Bool} {ma mb : R S α} (hc : PTx X E Γ c mc) (ha : PX X E Γ a ma) (hb : PX X E Γ b mb) : PX X E Γ (.IfExp c a b pos) (sIf mc ma mb) :=
  L2.PE.mono (pe_ifExp hc ha hb) fun σ H Q ⟨s, I, O, t, sat, h⟩ => ⟨s, I, O, t, sat, h.bind.imp fun x I1 H1 ⟨_, s1, O1, t1, sat1, h1⟩ => by
    cases x with
    | true => exact ⟨s1, I1, O1, t1, sat1, h1⟩
    | false => exact ⟨s1, I1, O1, t1, sat1, h1⟩⟩
end
end Mi

set_option Elab.async false
set_option linter.all false
set_option maxRecDepth 100000
set_option maxHeartbeats 4000000
namespace Mi
open PySem PySem.Spec PyProof.Rows L2

/-! ### data that compares -/
instance : Dat Int := ⟨fun x => .int x, fun {K I u x} h => by have e : u = .int x := h; subst e; exact .int x, fun x y => by simp [PyData.eqv]⟩
instance : Dat Str := ⟨fun x => .str x, fun {K I u x} h => by have e : u = .str x := h; subst e; exact .str x, fun x y => by simp [PyData.eqv]⟩
instance : Dat Bool := ⟨fun x => .bool x, fun {K I u x} h => by have e : u = .bl x := h; subst e; exact .bl x, fun x y => by simp [PyData.eqv]⟩
instance {α β : Type} [Dat α] [Dat β] : Dat (α × β) := ⟨fun x => .tuple [Dat.pd x.1, Dat.pd x.2], fun {K I u x} h => by
  obtain ⟨a, v, w, rfl, q, r1, r2⟩ := h
  exact .tup q (.cons (Dat.dp r1) (.cons (Dat.dp r2) .nil)), fun x y => by
  obtain ⟨x1, x2⟩ := x
  obtain ⟨y1, y2⟩ := y
  simp only [PyData.eqv, PyData.eqvAll, Bool.and_true, Bool.and_eq_true, Dat.eqv, Prod.mk.injEq]⟩
theorem dpAll_of {α : Type} [Dat α] {K : Fg} {I : Hp} : ∀ {vs : List V} {xs : List α}, All2 (Enc.rep K I) vs xs → DpAll K I vs (xs.map Dat.pd)
  | [], [], _ => .nil
  | _ :: _, _ :: _, q => .cons (Dat.dp q.1) (dpAll_of q.2)
  | [], _ :: _, q => q.elim
  | _ :: _, [], q => q.elim
theorem eqvAll_of {α : Type} [Dat α] : ∀ (xs ys : List α), PyData.eqvAll (xs.map Dat.pd) (ys.map Dat.pd) = true ↔ xs = ys
  | [], [] => by simp [PyData.eqvAll]
  | x :: xs, y :: ys => by simp only [List.map_cons, PyData.eqvAll, Bool.and_eq_true, Dat.eqv, eqvAll_of xs ys, List.cons.injEq]
  | [], _ :: _ => by simp [PyData.eqvAll]
  | _ :: _, [] => by simp [PyData.eqvAll]
instance {α : Type} [Dat α] : Dat (List α) := ⟨fun x => .list (x.map Dat.pd), fun {K I u x} h => by
  obtain ⟨a, vs, rfl, q, r⟩ := h
  exact .lst (SqL.of q) (dpAll_of r), fun x y => by simp only [PyData.eqv]; exact eqvAll_of x y⟩

section
variable {X : Cx} {E : EW} {S : Type} {Γ : S → Gam} {pos : Pos}
/-! ### arguments -/
theorem pax_nil : PAx X E Γ [] (sr ()) := L2.PA.mono pa_nil fun σ H Q ⟨s, I, O, t, sat, h⟩ => h.at_ t sat _ rfl
theorem pax_cons {α A : Type} [Enc α] [Args A] {e : Expr} {es : List Expr} {m : R S α} {ms : R S A} (h1 : PX X E Γ e m) (h2 : PAx X E Γ es ms) (hs : starEach (e :: es) X.env = (false, eval e X.env) :: starEach es X.env := by rfl) :
    PAx X E Γ (e :: es) (sb m fun x => sb ms fun a => sr (x, a)) :=
  L2.PA.mono (pa_cons h1 h2 hs) fun σ H Q ⟨s, I, O, t, sat, h⟩ => ⟨s, I, O, t, sat, h.bind.imp fun x I1 H1 ⟨_, s1, O1, t1, sat1, h1⟩ v rv => ⟨s1, I1, O1, t1, sat1, h1.bind.imp fun a I2 H2 ⟨e2, s2, O2, t2, sat2, h2⟩ ws rw =>
    h2.at_ t2 sat2 (v :: ws) ⟨v, ws, rfl, Enc.up e2 rv, rw⟩⟩⟩
theorem plx_nil {α : Type} [Enc α] : PLx X E Γ [] (sr ([] : List α)) := L2.PA.mono pa_nil fun σ H Q ⟨s, I, O, t, sat, h⟩ => h.at_ t sat _ trivial
theorem plx_cons {α : Type} [Enc α] {e : Expr} {es : List Expr} {m : R S α} {ms : R S (List α)} (h1 : PX X E Γ e m) (h2 : PLx X E Γ es ms) (hs : starEach (e :: es) X.env = (false, eval e X.env) :: starEach es X.env := by rfl) :
    PLx X E Γ (e :: es) (sb m fun x => sb ms fun a => sr (x :: a)) :=
  L2.PA.mono (pa_cons h1 h2 hs) fun σ H Q ⟨s, I, O, t, sat, h⟩ => ⟨s, I, O, t, sat, h.bind.imp fun x I1 H1 ⟨_, s1, O1, t1, sat1, h1⟩ v rv => ⟨s1, I1, O1, t1, sat1, h1.bind.imp fun a I2 H2 ⟨e2, s2, O2, t2, sat2, h2⟩ ws rw =>
    h2.at_ t2 sat2 (v :: ws) ⟨Enc.up e2 rv, rw⟩⟩⟩

/-! ### tuples and lists that are written -/
theorem small_len {vs : List V} {n : Nat} (h : vs.length = n) (hn : n ≤ 1000) : vs.length ≤ sizeLine := by
  rw [h]; exact Nat.le_trans hn (by decide)
theorem px_tup2 {α β : Type} [Enc α] [Enc β] {es : List Expr} {x1} {m : R S (α × β × Unit)} (h : PAx X E Γ es m) : PX X E Γ (.Tuple es x1 pos) (sb m fun a => sr (a.1, a.2.1)) :=
  L2.PE.mono (pe_tup h) fun σ H Q ⟨s, I, O, t, sat, h⟩ => ⟨s, I, O, t, sat, h.bind.imp fun a I1 H1 ⟨_, s1, O1, t1, sat1, h1⟩ vs rv => by
    obtain ⟨v, ws, rfl, r1, u, us, rfl, r2, r3⟩ := rv
    have e : us = [] := r3
    subst e
    refine ⟨small_len (n := 2) rfl (by decide), fun p hp => ?_⟩
    have k := Same.upd_new (o := HO.tup [v, u]) (t1.fi hp)
    exact h1.laid (o := .tup [v, u]) t1 sat1 hp (.ref p) ⟨p, v, u, rfl, SqT.of upd_same, Enc.up k r1, Enc.up k r2⟩⟩
structure T3 (α β γ : Type) where
  a : α
  b : β
  c : γ
  deriving DecidableEq
instance {α β γ : Type} [Enc α] [Enc β] [Enc γ] : Enc (T3 α β γ) :=
  ⟨fun K I v x => ∃ a u w z, v = .ref a ∧ SqT K I a [u, w, z] ∧ Enc.rep K I u x.a ∧ Enc.rep K I w x.b ∧ Enc.rep K I z x.c,
   fun e ⟨a, u, w, z, h, q, r1, r2, r3⟩ => ⟨a, u, w, z, h, sqT_up e q, Enc.up e r1, Enc.up e r2, Enc.up e r3⟩⟩
theorem px_tup3 {α β γ : Type} [Enc α] [Enc β] [Enc γ] {es : List Expr} {x1} {m : R S (α × β × γ × Unit)} (h : PAx X E Γ es m) : PX X E Γ (.Tuple es x1 pos) (sb m fun a => sr (⟨a.1, a.2.1, a.2.2.1⟩ : T3 α β γ)) :=
  L2.PE.mono (pe_tup h) fun σ H Q ⟨s, I, O, t, sat, h⟩ => ⟨s, I, O, t, sat, h.bind.imp fun a I1 H1 ⟨_, s1, O1, t1, sat1, h1⟩ vs rv => by
    obtain ⟨v, ws, rfl, r1, u, us, rfl, r2, z, zs, rfl, r4, r3⟩ := rv
    have e : zs = [] := r3
    subst e
    refine ⟨small_len (n := 3) rfl (by decide), fun p hp => ?_⟩
    have k := Same.upd_new (o := HO.tup [v, u, z]) (t1.fi hp)
    exact h1.laid (o := .tup [v, u, z]) t1 sat1 hp (.ref p) ⟨p, v, u, z, rfl, SqT.of upd_same, Enc.up k r1, Enc.up k r2, Enc.up k r4⟩⟩
def plen {α : Type} (xs : List α) : Option (List α) := if xs.length ≤ 16777216 then some xs else none
theorem plen_some {α : Type} {xs ys : List α} (h : plen xs = some ys) : ys = xs ∧ xs.length ≤ sizeLine := by
  unfold plen at h
  split at h
  · rename_i c
    cases h
    exact ⟨rfl, by rw [sizeLine_eq]; exact c⟩
  · cases h
theorem px_lst {α : Type} [Enc α] {es : List Expr} {m : R S (List α)} (h : PLx X E Γ es m) : PX X E Γ (.List es pos) (sb m fun a => so (plen a)) :=
  L2.PE.mono (pe_lst h) fun σ H Q ⟨s, I, O, t, sat, h⟩ => ⟨s, I, O, t, sat, h.bind.imp fun a I1 H1 ⟨_, s1, O1, t1, sat1, h1⟩ vs rv => by
    obtain ⟨ys, e, h2⟩ := h1.some_
    obtain ⟨rfl, hl⟩ := plen_some e
    refine ⟨by rw [rv.len]; exact hl, fun p hp => ?_⟩
    have k := Same.upd_new (o := HO.lst vs) (t1.fi hp)
    exact h2.laid (o := .lst vs) t1 sat1 hp (.ref p) ⟨p, vs, rfl, upd_same, rv.imp fun _ _ z => Enc.up k z⟩⟩
def ptup {α : Type} (xs : List α) : Option (Tu α) := if xs.length ≤ 16777216 then some ⟨xs⟩ else none
theorem px_tupN {α : Type} [Enc α] {es : List Expr} {x1} {m : R S (List α)} (h : PLx X E Γ es m) : PX X E Γ (.Tuple es x1 pos) (sb m fun a => so (ptup a)) :=
  L2.PE.mono (pe_tup h) fun σ H Q ⟨s, I, O, t, sat, h⟩ => ⟨s, I, O, t, sat, h.bind.imp fun a I1 H1 ⟨_, s1, O1, t1, sat1, h1⟩ vs rv => by
    obtain ⟨ys, e, h1⟩ := h1.some_
    unfold ptup at e
    split at e
    · rename_i hl
      cases e
      refine ⟨by rw [rv.len, sizeLine_eq]; exact hl, fun p hp => ?_⟩
      have k := Same.upd_new (o := HO.tup vs) (t1.fi hp)
      exact h1.laid (o := .tup vs) t1 sat1 hp (.ref p) ⟨p, vs, rfl, SqT.of upd_same, rv.imp fun _ _ z => Enc.up k z⟩
    · cases e⟩

/-! ### items -/
def pix {α : Type} (xs : List α) (i : Int) : Option α := L2.atI xs i
theorem atI_rep {α : Type} {P : V → α → Prop} {vs : List V} {xs : List α} {i : Int} {x : α} (q : All2 P vs xs) (h : L2.atI xs i = some x) : ∃ v, L2.atI vs i = some v ∧ P v x := by
  unfold L2.atI at h ⊢
  rw [q.len]
  cases e : ixN xs.length i with
  | none => rw [e] at h; cases h
  | some j =>
    rw [e] at h
    exact q.got h
theorem px_ix {α : Type} [Enc α] {a b : Expr} {ma : R S (List α)} {mb : R S Int} (ha : PX X E Γ a ma) (hb : PX X E Γ b mb) (hs : PlainIx b := by exact fun _ _ => rfl) : PX X E Γ (.Subscript a b pos) (sb ma fun x => sb mb fun i => so (pix x i)) :=
  px_bin (fun p q => pe_ix ix_list p q hs) ha hb fun x y v w s σ I O H Q rv rw t sat h => by
    obtain ⟨z, e, h⟩ := h.some_
    obtain ⟨l, vs, rfl, q, r⟩ := rv
    have e2 : w = .int y := rw
    subst e2
    obtain ⟨u, h1, h2⟩ := atI_rep r e
    exact ⟨l, vs, y, u, rfl, rfl, SqL.of (t.si _ _ q), h1, h.at_ t sat u h2⟩
theorem px_ixR {α : Type} [Enc α] {a b : Expr} {ma : R S (Ro α)} {mb : R S Int} (ha : PX X E Γ a ma) (hb : PX X E Γ b mb) (hs : PlainIx b := by exact fun _ _ => rfl) : PX X E Γ (.Subscript a b pos) (sb ma fun x => sb mb fun i => so (pix x.l i)) :=
  px_bin (fun p q => pe_ix ix_list p q hs) ha hb fun x y v w s σ I O H Q rv rw t sat h => by
    obtain ⟨z, e, h⟩ := h.some_
    obtain ⟨l, vs, rfl, q, r⟩ := rv
    have e2 : w = .int y := rw
    subst e2
    obtain ⟨u, h1, h2⟩ := atI_rep r e
    exact ⟨l, vs, y, u, rfl, rfl, t.si.seq q, h1, h.at_ t sat u h2⟩
theorem px_ixT {α : Type} [Enc α] {a b : Expr} {ma : R S (Tu α)} {mb : R S Int} (ha : PX X E Γ a ma) (hb : PX X E Γ b mb) (hs : PlainIx b := by exact fun _ _ => rfl) : PX X E Γ (.Subscript a b pos) (sb ma fun x => sb mb fun i => so (pix x.l i)) :=
  px_bin (fun p q => pe_ix ix_tup p q hs) ha hb fun x y v w s σ I O H Q rv rw t sat h => by
    obtain ⟨z, e, h⟩ := h.some_
    obtain ⟨l, vs, rfl, q, r⟩ := rv
    have e2 : w = .int y := rw
    subst e2
    obtain ⟨u, h1, h2⟩ := atI_rep r e
    exact ⟨l, vs, y, u, rfl, rfl, sqT_up t.si q, h1, h.at_ t sat u h2⟩
/-- one part, then a written index -/
theorem px_fst {α β : Type} [Enc α] [Enc β] {a : Expr} {m : R S (α × β)} {j p} (ha : PX X E Γ a m) : PX X E Γ (.Subscript a (.Constant (.int 0) j p) pos) (sb m fun x => sr x.1) :=
  L2.PE.mono (pe_ix ix_tup ha pe_int fun _ _ => rfl) fun σ H Q ⟨s, I, O, t, sat, h⟩ => ⟨s, I, O, t, sat, h.bind.imp fun x I1 H1 ⟨_, s1, O1, t1, sat1, h1⟩ v rv => by
    obtain ⟨l, u, w, rfl, q, r1, r2⟩ := rv
    exact ⟨l, [u, w], 0, u, rfl, rfl, sqT_up t1.si q, rfl, h1.at_ t1 sat1 u r1⟩⟩
theorem px_snd {α β : Type} [Enc α] [Enc β] {a : Expr} {m : R S (α × β)} {j p} (ha : PX X E Γ a m) : PX X E Γ (.Subscript a (.Constant (.int 1) j p) pos) (sb m fun x => sr x.2) :=
  L2.PE.mono (pe_ix ix_tup ha pe_int fun _ _ => rfl) fun σ H Q ⟨s, I, O, t, sat, h⟩ => ⟨s, I, O, t, sat, h.bind.imp fun x I1 H1 ⟨_, s1, O1, t1, sat1, h1⟩ v rv => by
    obtain ⟨l, u, w, rfl, q, r1, r2⟩ := rv
    exact ⟨l, [u, w], 1, w, rfl, rfl, sqT_up t1.si q, rfl, h1.at_ t1 sat1 w r2⟩⟩
theorem px_t3a {α β γ : Type} [Enc α] [Enc β] [Enc γ] {a : Expr} {m : R S (T3 α β γ)} {j p} (ha : PX X E Γ a m) : PX X E Γ (.Subscript a (.Constant (.int 0) j p) pos) (sb m fun x => sr x.a) :=
  L2.PE.mono (pe_ix ix_tup ha pe_int fun _ _ => rfl) fun σ H Q ⟨s, I, O, t, sat, h⟩ => ⟨s, I, O, t, sat, h.bind.imp fun x I1 H1 ⟨_, s1, O1, t1, sat1, h1⟩ v rv => by
    obtain ⟨l, u, w, z, rfl, q, r1, r2, r3⟩ := rv
    exact ⟨l, [u, w, z], 0, u, rfl, rfl, sqT_up t1.si q, rfl, h1.at_ t1 sat1 u r1⟩⟩
theorem px_t3b {α β γ : Type} [Enc α] [Enc β] [Enc γ] {a : Expr} {m : R S (T3 α β γ)} {j p} (ha : PX X E Γ a m) : PX X E Γ (.Subscript a (.Constant (.int 1) j p) pos) (sb m fun x => sr x.b) :=
  L2.PE.mono (pe_ix ix_tup ha pe_int fun _ _ => rfl) fun σ H Q ⟨s, I, O, t, sat, h⟩ => ⟨s, I, O, t, sat, h.bind.imp fun x I1 H1 ⟨_, s1, O1, t1, sat1, h1⟩ v rv => by
    obtain ⟨l, u, w, z, rfl, q, r1, r2, r3⟩ := rv
    exact ⟨l, [u, w, z], 1, w, rfl, rfl, sqT_up t1.si q, rfl, h1.at_ t1 sat1 w r2⟩⟩
theorem px_t3c {α β γ : Type} [Enc α] [Enc β] [Enc γ] {a : Expr} {m : R S (T3 α β γ)} {j p} (ha : PX X E Γ a m) : PX X E Γ (.Subscript a (.Constant (.int 2) j p) pos) (sb m fun x => sr x.c) :=
  L2.PE.mono (pe_ix ix_tup ha pe_int fun _ _ => rfl) fun σ H Q ⟨s, I, O, t, sat, h⟩ => ⟨s, I, O, t, sat, h.bind.imp fun x I1 H1 ⟨_, s1, O1, t1, sat1, h1⟩ v rv => by
    obtain ⟨l, u, w, z, rfl, q, r1, r2, r3⟩ := rv
    exact ⟨l, [u, w, z], 2, z, rfl, rfl, sqT_up t1.si q, rfl, h1.at_ t1 sat1 z r3⟩⟩
/-- one sign of a text -/
def pixS (z : Str) (i : Int) : Option Str := if z.length ≤ 16777216 then (L2.atI z.cps.toList i).map fun c => ⟨#[c]⟩ else none
theorem px_ixS {a b : Expr} {ma : R S Str} {mb : R S Int} (ha : PX X E Γ a ma) (hb : PX X E Γ b mb) (hs : PlainIx b := by exact fun _ _ => rfl) : PX X E Γ (.Subscript a b pos) (sb ma fun x => sb mb fun i => so (pixS x i)) :=
  px_bin (fun p q => pe_ix ix_str p q hs) ha hb fun x y v w s σ I O H Q rv rw t sat h => by
    obtain ⟨z, e, h⟩ := h.some_
    have e1 : v = .str x := rv
    have e2 : w = .int y := rw
    subst e1 e2
    unfold pixS at e
    split at e
    · rename_i c
      cases q : L2.atI x.cps.toList y with
      | none => rw [q] at e; cases e
      | some k =>
        rw [q] at e
        cases e
        exact ⟨x, y, k, rfl, rfl, by rw [sizeLine_eq]; exact c, q, h.at_ t sat _ rfl⟩
    · cases e

/-! ### built-ins called by name -/
theorem px_b1 {α γ : Type} [Enc α] [Enc γ] {id : String} {x : Str} {e : Expr} {p : Pos} {r : List V → Hp → VK → Prop} {m : R S α} {f : α → R S γ} (hc : CallR X (.builtin id) r) (hm : X.mg x = none) (hv : bootBuiltins x = some (.builtin id)) (he : PX X E Γ e m)
    (hr : ∀ y v s σ I O H Q, Enc.rep X.K I v y → St3 I O H → Sat (Γ s) σ I O → Post X.K (E σ) Γ σ I O H (fun z I' H' => ∀ u, Enc.rep X.K I' u z → Q u H') (f y s) → r [v] H Q)
    (hg : Gl X x := by rfl) (hn : x ≠ "__name__" := by decide) (hdb : (x == ("__debug__" : Str)) = false := by decide) (h1 : starEach [e] X.env = (false, eval e X.env) :: starEach [] X.env := by rfl) (h2 : (backTo pos (starEach [] X.env)).any (·.1) = false := by rfl) :
    PX X E Γ (.Call (.Name x p) [e] [] pos) (sb m f) :=
  L2.PE.mono (pe_callB hc hg hm hv (pa_cons he pa_nil h1) hn hdb h1 h2) fun σ H Q ⟨s, I, O, t, sat, h⟩ => ⟨s, I, O, t, sat, h.bind.imp fun y I1 H1 ⟨_, s1, O1, t1, sat1, h1⟩ v rv => hr y v s1 σ I1 O1 H1 Q rv t1 sat1 h1⟩
theorem px_t1 {α γ : Type} [Enc α] [Enc γ] {id : String} {x : Str} {e : Expr} {p : Pos} {r : List V → Hp → VK → Prop} {m : R S α} {f : α → R S γ} (hc : CallR X (.type id) r) (hm : X.mg x = none) (hv : bootBuiltins x = some (.type id)) (he : PX X E Γ e m)
    (hr : ∀ y v s σ I O H Q, Enc.rep X.K I v y → St3 I O H → Sat (Γ s) σ I O → Post X.K (E σ) Γ σ I O H (fun z I' H' => ∀ u, Enc.rep X.K I' u z → Q u H') (f y s) → r [v] H Q)
    (hg : Gl X x := by rfl) (hn : x ≠ "__name__" := by decide) (hdb : (x == ("__debug__" : Str)) = false := by decide) (h1 : starEach [e] X.env = (false, eval e X.env) :: starEach [] X.env := by rfl) (h2 : (backTo pos (starEach [] X.env)).any (·.1) = false := by rfl) :
    PX X E Γ (.Call (.Name x p) [e] [] pos) (sb m f) :=
  L2.PE.mono (pe_callTy hc hg hm hv (pa_cons he pa_nil h1) hn hdb h1 h2) fun σ H Q ⟨s, I, O, t, sat, h⟩ => ⟨s, I, O, t, sat, h.bind.imp fun y I1 H1 ⟨_, s1, O1, t1, sat1, h1⟩ v rv => hr y v s1 σ I1 O1 H1 Q rv t1 sat1 h1⟩
section
variable {e : Expr} {p : Pos}
theorem px_len {α : Type} [Enc α] {m : R S (List α)} (hm : X.mg "len" = none) (he : PX X E Γ e m) (hg : Gl X "len" := by rfl) (h1 : starEach [e] X.env = (false, eval e X.env) :: starEach [] X.env := by rfl) (h2 : (backTo pos (starEach [] X.env)).any (·.1) = false := by rfl) :
    PX X E Γ (.Call (.Name "len" p) [e] [] pos) (sb m fun x => sr (x.length : Int)) :=
  px_b1 call_len_seq hm boot_len he (fun y v s σ I O H Q rv t sat h => by
    obtain ⟨l, vs, rfl, q, r⟩ := rv
    exact ⟨l, vs, rfl, .inl (SqL.of (t.si _ _ q)), h.at_ t sat _ (by show V.int _ = V.int _; rw [r.len])⟩) hg (by decide) (by decide) h1 h2
theorem px_lenR {α : Type} [Enc α] {m : R S (Ro α)} (hm : X.mg "len" = none) (he : PX X E Γ e m) (hg : Gl X "len" := by rfl) (h1 : starEach [e] X.env = (false, eval e X.env) :: starEach [] X.env := by rfl) (h2 : (backTo pos (starEach [] X.env)).any (·.1) = false := by rfl) :
    PX X E Γ (.Call (.Name "len" p) [e] [] pos) (sb m fun x => sr (x.l.length : Int)) :=
  px_b1 call_len_seq hm boot_len he (fun y v s σ I O H Q rv t sat h => by
    obtain ⟨l, vs, rfl, q, r⟩ := rv
    exact ⟨l, vs, rfl, .inl (t.si.seq q), h.at_ t sat _ (by show V.int _ = V.int _; rw [r.len])⟩) hg (by decide) (by decide) h1 h2
theorem px_lenT {α : Type} [Enc α] {m : R S (Tu α)} (hm : X.mg "len" = none) (he : PX X E Γ e m) (hg : Gl X "len" := by rfl) (h1 : starEach [e] X.env = (false, eval e X.env) :: starEach [] X.env := by rfl) (h2 : (backTo pos (starEach [] X.env)).any (·.1) = false := by rfl) :
    PX X E Γ (.Call (.Name "len" p) [e] [] pos) (sb m fun x => sr (x.l.length : Int)) :=
  px_b1 call_len_seq hm boot_len he (fun y v s σ I O H Q rv t sat h => by
    obtain ⟨l, vs, rfl, q, r⟩ := rv
    exact ⟨l, vs, rfl, .inr (sqT_up t.si q), h.at_ t sat _ (by show V.int _ = V.int _; rw [r.len])⟩) hg (by decide) (by decide) h1 h2
def plenS (x : Str) : Option Int := if x.length ≤ 16777216 then some (x.length : Int) else none
theorem px_lenS {m : R S Str} (hm : X.mg "len" = none) (he : PX X E Γ e m) (hg : Gl X "len" := by rfl) (h1 : starEach [e] X.env = (false, eval e X.env) :: starEach [] X.env := by rfl) (h2 : (backTo pos (starEach [] X.env)).any (·.1) = false := by rfl) :
    PX X E Γ (.Call (.Name "len" p) [e] [] pos) (sb m fun x => so (plenS x)) :=
  px_b1 call_len hm boot_len he (fun y v s σ I O H Q rv t sat h => by
    have e1 : v = .str y := rv
    subst e1
    obtain ⟨z, e, h⟩ := h.some_
    unfold plenS at e
    split at e
    · rename_i c
      cases e
      exact ⟨.str y, y.length, rfl, ⟨by rw [sizeLine_eq]; exact c, rfl⟩, h.at_ t sat _ rfl⟩
    · cases e) hg (by decide) (by decide) h1 h2
theorem px_abs {m : R S Int} (hm : X.mg "abs" = none) (he : PX X E Γ e m) (hg : Gl X "abs" := by rfl) (h1 : starEach [e] X.env = (false, eval e X.env) :: starEach [] X.env := by rfl) (h2 : (backTo pos (starEach [] X.env)).any (·.1) = false := by rfl) :
    PX X E Γ (.Call (.Name "abs" p) [e] [] pos) (sb m fun x => sr (if x < 0 then -x else x)) :=
  px_b1 call_abs hm (by decide +kernel) he (fun y v s σ I O H Q rv t sat h => ⟨y, by rw [show v = V.int y from rv], h.at_ t sat _ rfl⟩) hg (by decide) (by decide) h1 h2
theorem px_intI {m : R S Int} (hm : X.mg "int" = none) (he : PX X E Γ e m) (hg : Gl X "int" := by rfl) (h1 : starEach [e] X.env = (false, eval e X.env) :: starEach [] X.env := by rfl) (h2 : (backTo pos (starEach [] X.env)).any (·.1) = false := by rfl) :
    PX X E Γ (.Call (.Name "int" p) [e] [] pos) (sb m fun x => sr x) :=
  px_t1 call_int1 hm (by decide +kernel) he (fun y v s σ I O H Q rv t sat h => .inl ⟨y, by rw [show v = V.int y from rv], h.at_ t sat _ rfl⟩) hg (by decide) (by decide) h1 h2
/-- list(xs): a copy -/
theorem px_listL {α : Type} [Enc α] {m : R S (List α)} (hm : X.mg "list" = none) (he : PX X E Γ e m) (hg : Gl X "list" := by rfl) (h1 : starEach [e] X.env = (false, eval e X.env) :: starEach [] X.env := by rfl) (h2 : (backTo pos (starEach [] X.env)).any (·.1) = false := by rfl) :
    PX X E Γ (.Call (.Name "list" p) [e] [] pos) (sb m fun x => sr x) :=
  px_t1 call_list_of hm (by decide +kernel) he (fun y v s σ I O H Q rv t sat h => by
    obtain ⟨l, vs, rfl, q, r⟩ := rv
    refine ⟨l, vs, rfl, .inl (SqL.of (t.si _ _ q)), fun z hz => ?_⟩
    have k := Same.upd_new (o := HO.lst vs) (t.fi hz)
    exact h.laid (o := .lst vs) t sat hz (.ref z) ⟨z, vs, rfl, upd_same, r.imp fun _ _ z => Enc.up k z⟩) hg (by decide) (by decide) h1 h2
end
theorem px_max2 {k : Nat} {a b : Expr} {p : Pos} {m : R S (Int × Int × Unit)} (C : Ctx X E k) (hm : X.mg "max" = none) (he : PAx X E Γ [a, b] m) (hg : Gl X "max" := by rfl) (h1 : starEach [a, b] X.env = (false, eval a X.env) :: starEach [b] X.env := by rfl) (h2 : (backTo pos (starEach [b] X.env)).any (·.1) = false := by rfl) :
    PX X E Γ (.Call (.Name "max" p) [a, b] [] pos) (sb m fun x => sr (if x.2.1 > x.1 then x.2.1 else x.1)) :=
  L2.PE.mono (pe_callB (call_max2 C.calm) hg hm (by decide +kernel) he (by decide) (by decide) h1 h2) fun σ H Q ⟨s, I, O, t, sat, h⟩ => ⟨s, I, O, t, sat, h.bind.imp fun y I1 H1 ⟨_, s1, O1, t1, sat1, h1⟩ vs rv => by
    obtain ⟨v, ws, rfl, r1, u, us, rfl, r2, r3⟩ := rv
    have e : us = [] := r3
    have e1 : v = .int y.1 := r1
    have e2 : u = .int y.2.1 := r2
    subst e e1 e2
    exact ⟨_, _, rfl, h1.at_ t1 sat1 _ rfl⟩⟩
theorem px_min2 {k : Nat} {a b : Expr} {p : Pos} {m : R S (Int × Int × Unit)} (C : Ctx X E k) (hm : X.mg "min" = none) (he : PAx X E Γ [a, b] m) (hg : Gl X "min" := by rfl) (h1 : starEach [a, b] X.env = (false, eval a X.env) :: starEach [b] X.env := by rfl) (h2 : (backTo pos (starEach [b] X.env)).any (·.1) = false := by rfl) :
    PX X E Γ (.Call (.Name "min" p) [a, b] [] pos) (sb m fun x => sr (if x.2.1 < x.1 then x.2.1 else x.1)) :=
  L2.PE.mono (pe_callB (call_min2 C.calm) hg hm (by decide +kernel) he (by decide) (by decide) h1 h2) fun σ H Q ⟨s, I, O, t, sat, h⟩ => ⟨s, I, O, t, sat, h.bind.imp fun y I1 H1 ⟨_, s1, O1, t1, sat1, h1⟩ vs rv => by
    obtain ⟨v, ws, rfl, r1, u, us, rfl, r2, r3⟩ := rv
    have e : us = [] := r3
    have e1 : v = .int y.1 := r1
    have e2 : u = .int y.2.1 := r2
    subst e e1 e2
    exact ⟨_, _, rfl, h1.at_ t1 sat1 _ rfl⟩⟩

/-! ### in -/
def pin {α : Type} [Dat α] [DecidableEq α] (x : α) (xs : List α) : Option Bool := if SeqAt.shaped (Dat.pd x) = true ∧ SeqAt.shaped (Dat.pd xs) = true then some (decide (x ∈ xs)) else none
theorem any_mem {α : Type} [Dat α] [DecidableEq α] (x : α) : ∀ xs : List α, ((xs.map Dat.pd).any fun z => PyData.eqv z (Dat.pd x)) = decide (x ∈ xs)
  | [] => by simp
  | y :: ys => by
    rw [List.map_cons, List.any_cons, any_mem x ys]
    by_cases e : y = x
    · rw [(Dat.eqv y x).mpr e]; simp [e]
    · have q : PyData.eqv (Dat.pd y) (Dat.pd x) = false := by
        cases q : PyData.eqv (Dat.pd y) (Dat.pd x) with
        | false => rfl
        | true => exact absurd ((Dat.eqv y x).mp q) e
      rw [q]
      have e' : ¬ x = y := fun z => e z.symm
      simp [e']
theorem pin_some {α : Type} [Dat α] [DecidableEq α] {x : α} {xs : List α} {b : Bool} (h : pin x xs = some b) : SeqAt.shaped (Dat.pd x) = true ∧ SeqAt.shaped (Dat.pd xs) = true ∧ b = ((xs.map Dat.pd).any fun z => PyData.eqv z (Dat.pd x)) := by
  unfold pin at h
  split at h
  · rename_i c
    cases h
    exact ⟨c.1, c.2, (any_mem x xs).symm⟩
  · cases h
theorem px_in {α : Type} [Dat α] [DecidableEq α] {k : Nat} {a b : Expr} {ma : R S α} {mb : R S (List α)} (C : Ctx X E (k + 1)) (ha : PX X E Γ a ma) (hb : PX X E Γ b mb) (hm : behindInMarks .In b = false := by rfl) : CB X E Γ (.Compare a [.In] [b] pos) (sb ma fun x => sb mb fun y => so (pin x y)) :=
  px_cmp (op_inD (by have := C.room.un; omega)) ha hb hm fun x y v w s σ I O H Q rv rw t sat h => by
    obtain ⟨z, e, h⟩ := h.some_
    obtain ⟨h1, h2, rfl⟩ := pin_some e
    exact ⟨_, _, Dp.up t.si (Dat.dp rv), Dp.up t.si (Dat.dp rw), h1, h2, h.at_ t sat _ rfl⟩
theorem px_notIn {α : Type} [Dat α] [DecidableEq α] {k : Nat} {a b : Expr} {ma : R S α} {mb : R S (List α)} (C : Ctx X E (k + 1)) (ha : PX X E Γ a ma) (hb : PX X E Γ b mb) (hm : behindInMarks .NotIn b = false := by rfl) : CB X E Γ (.Compare a [.NotIn] [b] pos) (sb ma fun x => sb mb fun y => sb (so (pin x y)) fun z => sr (!z)) :=
  px_cmp (op_notInD (by have := C.room.un; omega)) ha hb hm fun x y v w s σ I O H Q rv rw t sat h => by
    cases e : pin x y with
    | none => rw [e] at h; exact False.elim h
    | some z =>
      rw [e] at h
      obtain ⟨h1, h2, rfl⟩ := pin_some e
      exact ⟨_, _, Dp.up t.si (Dat.dp rv), Dp.up t.si (Dat.dp rw), h1, h2, Post.at_ (x := !_) h t sat _ rfl⟩
end
end Mi

set_option Elab.async false
set_option linter.all false
set_option maxRecDepth 100000
set_option maxHeartbeats 4000000
namespace Mi
open PySem PySem.Spec PyProof.Rows L2

/-! ### blocks -/
inductive Out (ρ τ β : Type) where
  | nx (r : ρ) | bk (r : τ) | ct (r : τ) | rt (b : β)
def PostB {S ρ τ β : Type} (K : Fg) (E : XK) (Λ : τ → S → Gam) (Res : S → Hp → Hp → V → β → Prop) (Δ : ρ → S → Gam) (I O H : Hp) (D : Ends) : Except Er (Out ρ τ β × S) → Prop
  | .ok (.nx r, s') => ∀ σ' I' O' H', St3 I' O' H' → Go I O H I' O' H' → Sat (Δ r s') σ' I' O' → D.nx σ' H'
  | .ok (.bk r, s') => ∀ σ' I' O' H', St3 I' O' H' → Go I O H I' O' H' → Sat (Λ r s') σ' I' O' → D.bk σ' H'
  | .ok (.ct r, s') => ∀ σ' I' O' H', St3 I' O' H' → Go I O H I' O' H' → Sat (Λ r s') σ' I' O' → D.ct σ' H'
  | .ok (.rt b, s') => ∀ v I' O' H', St3 I' O' H' → Go I O H I' O' H' → Res s' I' O' v b → D.rt v H'
  | .error .stuck => False
  | .error (.exc c fs) => ∀ d I' O' H', St3 I' O' H' → Go I O H I' O' H' → XD K I' H' d fs → E (.ref (He.ga K c)) (some d) H'
def tB {S ρ τ β : Type} (K : Fg) (E : EW) (Λ : τ → S → Gam) (Res : S → Hp → Hp → V → β → Prop) (Γ : S → Gam) (Δ : ρ → S → Gam) (m : R S (Out ρ τ β)) : TS :=
  fun D σ H => ∃ s I O, St3 I O H ∧ Sat (Γ s) σ I O ∧ PostB K (E σ) Λ Res Δ I O H D (m s)
abbrev PB (X : Cx) (E : EW) {S ρ τ β : Type} (Λ : τ → S → Gam) (Res : S → Hp → Hp → V → β → Prop) (Γ : S → Gam) (body : List Stmt) (Δ : ρ → S → Gam) (m : R S (Out ρ τ β)) : Prop :=
  PSs X body (tB X.K E Λ Res Γ Δ m)
theorem _root_.L2.PSs.mono {X : Cx} {b : List Stmt} {t t' : TS} (h : PSs X b t) (f : ∀ D σ H, t' D σ H → t D σ H) : PSs X b t' := ⟨fun pins s σ H D I q => h.run pins s σ H D I (f D σ H q)⟩
theorem _root_.L2.PSs.ex {X : Cx} {b : List Stmt} {α : Type} {t : α → TS} (h : ∀ x, PSs X b (t x)) : PSs X b (fun D σ H => ∃ x, t x D σ H) := ⟨fun pins s σ H D I ⟨x, q⟩ => (h x).run pins s σ H D I q⟩
theorem _root_.L2.PT.ex {X : Cx} {e : Expr} {α : Type} {t : α → TT} (h : ∀ x, PT X e (t x)) : PT X e (fun σ H Q => ∃ x, t x σ H Q) := ⟨fun pins s σ H Q I ⟨x, q⟩ => (h x).run pins s σ H Q I q⟩
/-- one block behind another -/
def obd {S ρ ρ1 τ β : Type} (m : R S (Out ρ1 τ β)) (k : ρ1 → R S (Out ρ τ β)) : R S (Out ρ τ β) := fun s => match m s with
  | .ok (.nx r, s') => k r s'
  | .ok (.bk r, s') => .ok (.bk r, s')
  | .ok (.ct r, s') => .ok (.ct r, s')
  | .ok (.rt b, s') => .ok (.rt b, s')
  | .error e => .error e
section
variable {S ρ ρ1 τ β α : Type} {K : Fg} {E : XK} {Λ : τ → S → Gam} {Res : S → Hp → Hp → V → β → Prop} {Δ : ρ → S → Gam} {Δ1 : ρ1 → S → Gam} {Γ : S → Gam} {I O H I1 O1 H1 : Hp} {D : Ends} {σ : L2.St}
theorem PostB.shift (g : Go I O H I1 O1 H1) : ∀ {r : Except Er (Out ρ τ β × S)}, PostB K E Λ Res Δ I O H D r → PostB K E Λ Res Δ I1 O1 H1 D r
  | .ok (.nx r, s'), h => fun σ' I' O' H' t g' sat => h σ' I' O' H' t (g.trans g') sat
  | .ok (.bk r, s'), h => fun σ' I' O' H' t g' sat => h σ' I' O' H' t (g.trans g') sat
  | .ok (.ct r, s'), h => fun σ' I' O' H' t g' sat => h σ' I' O' H' t (g.trans g') sat
  | .ok (.rt b, s'), h => fun v I' O' H' t g' x => h v I' O' H' t (g.trans g') x
  | .error .stuck, h => h
  | .error (.exc c fs), h => fun d I' O' H' t g' x => h d I' O' H' t (g.trans g') x
theorem PostB.bind {m : R S α} {k : α → R S (Out ρ τ β)} {s : S} (h : PostB K E Λ Res Δ I O H D (sb m k s)) :
    Post K E Γ σ I O H (fun x I1 H1 => Then I Γ σ (fun s1 I1 O1 H1 => PostB K E Λ Res Δ I1 O1 H1 D (k x s1)) I1 H1) (m s) := by
  unfold sb at h
  cases e : m s with
  | ok p =>
    obtain ⟨x, s1⟩ := p
    rw [e] at h
    exact fun I1 O1 H1 t g sat => ⟨g.ext, s1, O1, t, sat, h.shift g⟩
  | error z =>
    rw [e] at h
    cases z with
    | stuck => exact h
    | exc c fs => exact h
/-- the first of two blocks; u is what the second wants -/
theorem PostB.first {m : R S (Out ρ1 τ β)} {k : ρ1 → R S (Out ρ τ β)} {s : S} (h : PostB K E Λ Res Δ I O H D (obd m k s)) :
    PostB K E Λ Res Δ1 I O H { D with nx := fun σ' H' => ∃ r, tB K (kE E) Λ Res (Δ1 r) Δ (k r) D σ' H' } (m s) := by
  unfold obd at h
  cases e : m s with
  | ok p =>
    obtain ⟨x, s1⟩ := p
    rw [e] at h
    cases x with
    | nx r => exact fun σ' I' O' H' t g sat => ⟨r, s1, I', O', t, sat, h.shift g⟩
    | bk r => exact h
    | ct r => exact h
    | rt b => exact h
  | error z =>
    rw [e] at h
    cases z with
    | stuck => exact h
    | exc c fs => exact h
theorem PostB.some_ {o : Option α} {k : α → R S (Out ρ τ β)} {s : S} (h : PostB K E Λ Res Δ I O H D (sb (so o) k s)) : ∃ x, o = some x ∧ PostB K E Λ Res Δ I O H D (k x s) := by
  cases o with
  | none => exact False.elim h
  | some x => exact ⟨x, rfl, h⟩
end
section
variable {X : Cx} {E : EW} {S ρ ρ1 τ β α : Type} {Γ : S → Gam} {Λ : τ → S → Gam} {Res : S → Hp → Hp → V → β → Prop} {Δ : ρ → S → Gam} {Δ1 : ρ1 → S → Gam} {pos pos' : Pos} {rest : List Stmt} {k : Nat}
theorem pb_nil (is : List Nat) {r : ρ} (h : ∀ s, Δ r s = (Γ s).forg is := by exact fun _ => rfl) : PB X E Λ Res Γ [] Δ (sr (.nx r)) :=
  pss_nil.mono fun D σ H ⟨s, I, O, t, sat, q⟩ => q σ I O H t (Go.refl I O H) (by rw [h s]; exact sat.forg)
theorem pb_set {E : XK} (i : Nat) {x : Str} {e : Expr} [Enc α] {m : R S α} {kk : α → R S (Out ρ τ β)} (C : Ctx X (kE E) k) (he : PX X (kE E) Γ e m) (hk : ∀ a, PB X (kE E) Λ Res (fun s => (Γ s).put i (sI X.K a)) rest Δ (kk a))
    (hi : X.N[i]? = some x := by rfl) (hx : Loc X.env.scope x := by first | exact Or.inl rfl | exact Or.inr rfl) (hs : swapsWith e (some (.Name x pos')) pos.line X.env = pure false := by rfl) (hf : X.fn x = true ∨ X.env.scope.names.lookup x = some .local := by first | exact .inl rfl | exact .inr rfl) :
    PB X (kE E) Λ Res Γ (.Assign [.Name x pos'] e pos :: rest) Δ (sb m kk) :=
  (pss_cons (ps_set C.nd hi hx he hs hf) (L2.PSs.ex hk)).mono fun D σ H ⟨s, I, O, t, sat, q⟩ => ⟨s, I, O, t, sat, q.bind.imp fun a I1 H1 ⟨_, s1, O1, t1, sat1, h1⟩ v rv => ⟨a, s1, I1, O1, t1, sat1.put_im rv, h1⟩⟩
theorem pb_expr {e : Expr} [Enc α] {m : R S α} {kk : R S (Out ρ τ β)} (he : PX X E Γ e m) (hk : PB X E Λ Res Γ rest Δ kk) (hs : swapsWith e none pos.line X.env = pure false := by rfl) :
    PB X E Λ Res Γ (.Expr e pos :: rest) Δ (sb m fun _ => kk) :=
  (pss_cons (ps_expr he hs) hk).mono fun D σ H ⟨s, I, O, t, sat, q⟩ => ⟨s, I, O, t, sat, q.bind.imp fun a I1 H1 ⟨_, s1, O1, t1, sat1, h1⟩ v rv => ⟨s1, I1, O1, t1, sat1, h1⟩⟩
/-- what a def hands back, where nothing is handed in to be changed -/
def resI (K : Fg) [Enc β] : S → Hp → Hp → V → β → Prop := fun _ I _ v b => Enc.rep K I v b
theorem pb_ret {e : Expr} [Enc α] {m : R S α} (f : α → β) (he : PX X E Γ e m) (hr : ∀ s σ I O v x, Sat (Γ s) σ I O → Enc.rep X.K I v x → Res s I O v (f x)) : PB X E Λ Res Γ (.Return (some e) pos :: rest) Δ (sb m fun x => sr (.rt (f x))) :=
  (pss_cons (ps_ret he) pss_never).mono fun D σ H ⟨s, I, O, t, sat, q⟩ => ⟨s, I, O, t, sat, q.bind.imp fun a I1 H1 ⟨_, s1, O1, t1, sat1, h1⟩ v rv => h1 v I1 O1 H1 t1 (Go.refl ..) (hr s1 σ I1 O1 v a sat1 rv)⟩
theorem pb_retI {e : Expr} [Enc β] {m : R S β} (he : PX X E Γ e m) : PB X E Λ (resI X.K) Γ (.Return (some e) pos :: rest) Δ (sb m fun x => sr (.rt x)) := pb_ret (fun x => x) he fun _ _ _ _ _ _ _ r => r
theorem pb_brk (is : List Nat) {r : τ} (h : ∀ s, Λ r s = (Γ s).forg is := by exact fun _ => rfl) : PB X E Λ Res Γ (.Break pos :: rest) Δ (sr (.bk r)) :=
  (pss_cons ps_break pss_never).mono fun D σ H ⟨s, I, O, t, sat, q⟩ => q σ I O H t (Go.refl I O H) (by rw [h s]; exact sat.forg)
theorem pb_ctn (is : List Nat) {r : τ} (h : ∀ s, Λ r s = (Γ s).forg is := by exact fun _ => rfl) : PB X E Λ Res Γ (.Continue pos :: rest) Δ (sr (.ct r)) :=
  (pss_cons ps_continue pss_never).mono fun D σ H ⟨s, I, O, t, sat, q⟩ => q σ I O H t (Go.refl I O H) (by rw [h s]; exact sat.forg)
theorem pb_pass {m : R S (Out ρ τ β)} (h : PB X E Λ Res Γ rest Δ m) : PB X E Λ Res Γ (.Pass pos :: rest) Δ m := (pss_cons ps_pass h).mono fun _ _ _ q => q
/-- code that is not come to -/
theorem pb_stuck {b : List Stmt} : PB X E Λ Res Γ b Δ (sx (.stuck : Er)) := pss_never.mono fun D σ H ⟨s, I, O, t, sat, q⟩ => q.elim
theorem pb_if {E : XK} {c : Expr} {a b : List Stmt} {mc : R S Bool} {ma mb : R S (Out ρ1 τ β)} {kk : ρ1 → R S (Out ρ τ β)} (hc : PTx X (kE E) Γ c mc) (ha : PB X (kE E) Λ Res Γ a Δ1 ma) (hb : PB X (kE E) Λ Res Γ b Δ1 mb) (hk : ∀ r, PB X (kE E) Λ Res (Δ1 r) rest Δ (kk r)) :
    PB X (kE E) Λ Res Γ (.If c a b pos :: rest) Δ (obd (sIf mc ma mb) kk) :=
  (pss_cons (ps_if hc ha hb) (L2.PSs.ex hk)).mono fun D σ H ⟨s, I, O, t, sat, q⟩ => ⟨s, I, O, t, sat, by
    have q1 := q.first (Δ1 := Δ1)
    unfold sIf at q1
    refine q1.bind.imp fun x I1 H1 ⟨_, s1, O1, t1, sat1, h1⟩ => ?_
    cases x with
    | true => exact ⟨s1, I1, O1, t1, sat1, h1⟩
    | false => exact ⟨s1, I1, O1, t1, sat1, h1⟩⟩

/-! ### targets -/
structure GT (X : Cx) (tg : Expr) (α : Type) [Enc α] (js : List Nat) (up : Gam → α → Gam) : Prop where
  ex : ∃ g, PG X tg g ∧ ∀ v x σ I O H (Q : L2.St → Hp → Prop) Γ, Enc.rep X.K I v x → St3 I O H → Sat Γ σ I O → (∀ σ', Sat (up Γ x) σ' I O → (∀ vs, (∀ j ∈ js, j ∈ vs) → wipe σ' vs = wipe σ vs) → Q σ' H) → g v σ H Q
theorem wipe_set (σ : L2.St) (i : Nat) (x : Option V) : ∀ {vs : List Nat}, i ∈ vs → wipe (σ.set i x) vs = wipe σ vs
  | [], h => by simp at h
  | v :: vs, h => by
    unfold wipe
    by_cases e : i ∈ vs
    · rw [wipe_set σ i x e]
    · have e2 : i = v := by
        rcases List.mem_cons.mp h with z | z
        · exact z
        · exact absurd z e
      subst e2
      have key : ∀ {ws : List Nat} {σ : L2.St}, i ∉ ws → wipe (σ.set i x) ws = (wipe σ ws).set i x := by
        intro ws
        induction ws with
        | nil => intro σ _; rfl
        | cons w ws ih =>
          intro σ hw
          unfold wipe
          have h1 : i ≠ w := fun z => hw (by simp [z])
          rw [ih fun z => hw (by simp [z]), List.set_comm _ _ h1]
      rw [key e, List.set_set]
theorem gt_name (i : Nat) {x : Str} [Enc α] (hN : X.N.Nodup) (hi : X.N[i]? = some x := by rfl) (hx : Loc X.env.scope x := by first | exact Or.inl rfl | exact Or.inr rfl) (hf : X.fn x = true ∨ X.env.scope.names.lookup x = some .local := by first | exact .inl rfl | exact .inr rfl) :
    GT X (.Name x pos) α [i] (fun Γ a => Γ.put i (sI X.K a)) :=
  ⟨_, pg_name hN hi hx hf, fun v x σ I O H Q Γ r t sat h => h _ (sat.put_im r) fun vs hv => wipe_set σ i _ (hv i (by simp))⟩
theorem gt_tup2 (i j : Nat) {x y : Str} {p1 p2 : Pos} {kk} {α β : Type} [Enc α] [Enc β] (hN : X.N.Nodup) (hc : X.calm = true) (hi : X.N[i]? = some x := by rfl) (hx : Loc X.env.scope x := by first | exact Or.inl rfl | exact Or.inr rfl) (hf : X.fn x = true ∨ X.env.scope.names.lookup x = some .local := by first | exact .inl rfl | exact .inr rfl)
    (hj : X.N[j]? = some y := by rfl) (hy : Loc X.env.scope y := by first | exact Or.inl rfl | exact Or.inr rfl) (hg : X.fn y = true ∨ X.env.scope.names.lookup y = some .local := by first | exact .inl rfl | exact .inr rfl)
    (h1 : (assignEach [.Name x p1, .Name y p2] X.env).map (·.2) = assign (.Name x p1) X.env :: (assignEach [.Name y p2] X.env).map (·.2) := by rfl) (h2 : (assignEach [.Name y p2] X.env).map (·.2) = assign (.Name y p2) X.env :: (assignEach [] X.env).map (·.2) := by rfl)
    (h3 : (assignEach [.Name x p1, .Name y p2] X.env).length = 2 := by rfl) (h4 : (assignEach [.Name x p1, .Name y p2] X.env).findIdx? (·.1) = none := by rfl) :
    GT X (.Tuple [.Name x p1, .Name y p2] kk pos) (α × β) [i, j] (fun Γ a => (Γ.put i (sI X.K a.1)).put j (sI X.K a.2)) :=
  ⟨_, pg_tup hc (pgs_cons (pg_name hN hi hx hf) (pgs_cons (pg_name hN hj hy hg) pgs_nil h2) h1) h3 h4, fun v x σ I O H Q Γ r t sat h => by
    obtain ⟨a, u, w, rfl, q, r1, r2⟩ := r
    refine ⟨a, [u, w], rfl, sqT_up t.si q, rfl, u, [w], rfl, w, [], rfl, rfl, h _ ((sat.put_im r1).put_im r2) fun vs hv => ?_⟩
    rw [wipe_set _ j _ (hv j (by simp)), wipe_set _ i _ (hv i (by simp))]⟩
/-- a, b = e -/
theorem pb_asg {E : XK} (js : List Nat) {tg e : Expr} [Enc α] {up : Gam → α → Gam} {m : R S α} {kk : α → R S (Out ρ τ β)} (hg : GT X tg α js up) (he : PX X (kE E) Γ e m) (hk : ∀ a, PB X (kE E) Λ Res (fun s => up (Γ s) a) rest Δ (kk a))
    (hs : swapsWithSole [tg] e pos.line X.env = pure false := by rfl) (hw : swappedStores [tg] e X.env = pure none := by rfl) (h0 : (assignEach [tg] X.env).map (·.2) = [assign tg X.env] := by rfl) :
    PB X (kE E) Λ Res Γ (.Assign [tg] e pos :: rest) Δ (sb m kk) := by
  obtain ⟨g, h1, h2⟩ := hg.ex
  exact (pss_cons (ps_asg he h1 hs hw h0) (L2.PSs.ex hk)).mono fun D σ H ⟨s, I, O, t, sat, q⟩ => ⟨s, I, O, t, sat, q.bind.imp fun a I1 H1 ⟨_, s1, O1, t1, sat1, q1⟩ v rv =>
    h2 v a σ I1 O1 H1 _ _ rv t1 sat1 fun σ' sat' _ => ⟨a, s1, I1, O1, t1, sat', q1⟩⟩
/-- a, b = x, y -/
theorem pb_par {E : XK} (i j : Nat) {x y : Str} {a b : Expr} {px py pt : Pos} {kt k2 pt2} {α β' : Type} [Enc α] [Enc β'] {m : R S (α × β' × Unit)} {kk : α × β' × Unit → R S (Out ρ τ β)} (C : Ctx X (kE E) k) (he : PAx X (kE E) Γ [a, b] m)
    (hk : ∀ a, PB X (kE E) Λ Res (fun s => ((Γ s).put i (sI X.K a.1)).put j (sI X.K a.2.1)) rest Δ (kk a))
    (rule : ∀ {ta : TA}, PA X [a, b] ta → PS X (.Assign [.Tuple [.Name x px, .Name y py] kt pt] (.Tuple [a, b] k2 pt2) pos) (tPar i j ta)) :
    PB X (kE E) Λ Res Γ (.Assign [.Tuple [.Name x px, .Name y py] kt pt] (.Tuple [a, b] k2 pt2) pos :: rest) Δ (sb m kk) :=
  (pss_cons (rule he) (L2.PSs.ex hk)).mono fun D σ H ⟨s, I, O, t, sat, q⟩ => ⟨s, I, O, t, sat, q.bind.imp fun a I1 H1 ⟨_, s1, O1, t1, sat1, q1⟩ vs rv => by
    obtain ⟨v, ws, rfl, r1, u, us, rfl, r2, r3⟩ := rv
    have e : us = [] := r3
    subst e
    exact ⟨v, u, rfl, a, s1, I1, O1, t1, (sat1.put_im r1).put_im r2, q1⟩⟩

/-! ### loops -/
def Serve (K : Fg) [Enc α] (J : It) (I : Hp) (xs : List α) : Prop := ∀ I1 O1 H1, St3 I1 O1 H1 → Same I I1 →
  (∀ (i : Nat) (x : α), xs[i]? = some x → J.go i H1 ∧ ∀ u H2, J.yld i H1 u H2 → ∃ I2, St3 I2 O1 H2 ∧ Go I1 O1 H1 I2 O1 H2 ∧ Enc.rep K I2 u x) ∧ J.stop xs.length H1
structure IX (X : Cx) (E : EW) (Γ : S → Gam) (tg iter : Expr) [Enc α] (m : R S (List α)) : Prop where
  ex : ∃ wi, PI X tg iter wi ∧ ∀ σ H Rr, (∃ s I O, St3 I O H ∧ Sat (Γ s) σ I O ∧ Post X.K (E σ) Γ σ I O H (fun xs I' H' => ∀ J, Serve X.K J I' xs → Rr J H') (m s)) → wi σ H Rr
theorem serve_list {K : Fg} [Enc α] {I : Hp} {a : Addr} {vs : List V} {xs : List α} (h : SqL K I a vs) (r : All2 (Enc.rep K I) vs xs) : Serve K (Itl K a) I xs := fun I1 O1 H1 t e => by
  have h1 : SqL K H1 a vs := t.si.seq (e.seq h)
  refine ⟨fun i x hx => ?_, vs, h1, by rw [r.len]; exact Nat.le_refl _⟩
  obtain ⟨v, hv, rv⟩ := r.got hx
  refine ⟨⟨vs, v, h1, hv⟩, fun u H2 y => ?_⟩
  obtain ⟨rfl, y⟩ := y
  have hu := y vs h1
  rw [hv] at hu
  cases hu
  exact ⟨I1, t, Go.refl .., Enc.up e rv⟩
theorem serve_tup {K : Fg} [Enc α] {I : Hp} {a : Addr} {vs : List V} {xs : List α} (h : SqT K I a vs) (r : All2 (Enc.rep K I) vs xs) : Serve K (Itt K a) I xs := fun I1 O1 H1 t e => by
  have h1 : SqT K H1 a vs := sqT_up t.si (sqT_up e h)
  refine ⟨fun i x hx => ?_, vs, h1, by rw [r.len]; exact Nat.le_refl _⟩
  obtain ⟨v, hv, rv⟩ := r.got hx
  refine ⟨⟨vs, v, h1, hv⟩, fun u H2 y => ?_⟩
  obtain ⟨rfl, y⟩ := y
  have hu := y vs h1
  rw [hv] at hu
  cases hu
  exact ⟨I1, t, Go.refl .., Enc.up e rv⟩
def irange (lo : Int) (n : Nat) : List Int := (List.range n).map fun (j : Nat) => lo + (j : Int)
theorem serve_rng {K : Fg} {I : Hp} (lo : Int) (n : Nat) : Serve K (Itr lo n) I (irange lo n) := fun I1 O1 H1 t e => by
  refine ⟨fun i x hx => ?_, by simp [irange, Itr]⟩
  unfold irange at hx
  rw [List.getElem?_map] at hx
  cases q : (List.range n)[i]? with
  | none => rw [q] at hx; cases hx
  | some j =>
    rw [q] at hx
    cases hx
    obtain ⟨h1, h2⟩ := List.getElem?_eq_some_iff.mp q
    simp at h1 h2
    subst h2
    refine ⟨h1, fun u H2 y => ?_⟩
    obtain ⟨rfl, rfl⟩ := y
    exact ⟨I1, t, Go.refl .., rfl⟩
end
end Mi

set_option Elab.async false
set_option linter.all false
set_option maxRecDepth 100000
set_option maxHeartbeats 4000000
namespace Mi
open PySem PySem.Spec PyProof.Rows L2

section
variable {S α : Type} {K : Fg} {E : XK} {Γ : S → Gam} {σ : L2.St} {I O H : Hp} {F : α → Hp → Hp → Prop}
theorem Post.impT {F' : α → Hp → Hp → Prop} (f : ∀ x I' O' H', St3 I' O' H' → Same I I' → F x I' H' → F' x I' H') : ∀ {r : Except Er (α × S)}, Post K E Γ σ I O H F r → Post K E Γ σ I O H F' r
  | .ok (x, s'), h => fun I' O' H' t g' sat => f _ _ _ _ t g'.ext (h I' O' H' t g' sat)
  | .error .stuck, h => h
  | .error (.exc c fs), h => h
end
section
variable {X : Cx} {E : EW} {S ρ ρ1 τ β α : Type} {Γ : S → Gam} {Λ : τ → S → Gam} {Res : S → Hp → Hp → V → β → Prop} {Δ : ρ → S → Gam} {Δ1 : ρ1 → S → Gam} {pos pos' : Pos} {rest : List Stmt} {k : Nat}
/-! ### what is walked -/
theorem ix_l {tg iter : Expr} [Enc α] {m : R S (List α)} (h : PX X E Γ iter m) : IX X E Γ tg iter m :=
  ⟨_, pi_list h, fun σ H Rr ⟨s, I, O, t, sat, q⟩ => ⟨s, I, O, t, sat, q.impT fun xs I1 O1 H1 t1 _ z v rv => by
    obtain ⟨a, vs, rfl, h1, r⟩ := rv
    exact ⟨a, rfl, ⟨vs, SqL.of (t1.si _ _ h1)⟩, z _ (serve_list (SqL.of h1) r)⟩⟩⟩
theorem ix_ro {tg iter : Expr} [Enc α] {m : R S (Ro α)} (h : PX X E Γ iter m) : IX X E Γ tg iter (sb m fun x => sr x.l) :=
  ⟨_, pi_list h, fun σ H Rr ⟨s, I, O, t, sat, q⟩ => ⟨s, I, O, t, sat, q.bind.impT fun xs I1 O1 H1 t1 _ ⟨_, s2, O2, t2, sat2, z⟩ v rv => by
    obtain ⟨a, vs, rfl, h1, r⟩ := rv
    exact ⟨a, rfl, ⟨vs, t1.si.seq h1⟩, z.at_ t2 sat2 _ (serve_list h1 r)⟩⟩⟩
theorem ix_t {tg iter : Expr} [Enc α] {m : R S (Tu α)} (h : PX X E Γ iter m) : IX X E Γ tg iter (sb m fun x => sr x.l) :=
  ⟨_, pi_tup h, fun σ H Rr ⟨s, I, O, t, sat, q⟩ => ⟨s, I, O, t, sat, q.bind.impT fun xs I1 O1 H1 t1 _ ⟨_, s2, O2, t2, sat2, z⟩ v rv => by
    obtain ⟨a, vs, rfl, h1, r⟩ := rv
    exact ⟨a, rfl, ⟨vs, sqT_up t1.si h1⟩, z.at_ t2 sat2 _ (serve_tup h1 r)⟩⟩⟩
def pr62 (i : Int) : Bool := decide (-(2 ^ 62) ≤ i ∧ i < 2 ^ 62)
def prng (lo hi : Int) : Option (List Int) := if pr62 lo = true ∧ pr62 hi = true then some (irange lo (hi - lo).toNat) else none
theorem ix_r1 {tg a : Expr} {p : Pos} {m : R S Int} (hm : X.mg "range" = none) (h : PX X E Γ a m) (hg : Gl X "range" := by rfl) (h1 : starEach [a] X.env = [(false, eval a X.env)] := by rfl) :
    IX X E Γ tg (.Call (.Name "range" p) [a] [] pos) (sb m fun n => so (prng 0 n)) :=
  ⟨_, pi_range1 hg hm (pa_cons h pa_nil h1) h1, fun σ H Rr ⟨s, I, O, t, sat, q⟩ => ⟨s, I, O, t, sat, q.bind.impT fun n I1 O1 H1 t1 _ ⟨_, s2, O2, t2, sat2, z⟩ v rv => by
    obtain ⟨xs, e, z⟩ := z.some_
    have ev : v = .int n := rv
    subst ev
    unfold prng at e
    split at e
    · rename_i c
      cases e
      have c2 : -(2 ^ 62) ≤ n ∧ n < 2 ^ 62 := of_decide_eq_true c.2
      refine ⟨n, rfl, c2.1, c2.2, z.at_ t2 sat2 _ ?_⟩
      have := serve_rng (K := X.K) (I := I1) 0 n.toNat
      simpa using this
    · cases e⟩⟩
theorem ix_r2 {tg a b : Expr} {p : Pos} {m : R S (Int × Int × Unit)} (hm : X.mg "range" = none) (h : PAx X E Γ [a, b] m) (hg : Gl X "range" := by rfl)
    (h1 : starEach [a, b] X.env = [(false, eval a X.env), (false, eval b X.env)] := by rfl) (h2 : starEach [b] X.env = [(false, eval b X.env)] := by rfl) :
    IX X E Γ tg (.Call (.Name "range" p) [a, b] [] pos) (sb m fun n => so (prng n.1 n.2.1)) :=
  ⟨_, pi_range2 hg hm h h1 h2, fun σ H Rr ⟨s, I, O, t, sat, q⟩ => ⟨s, I, O, t, sat, q.bind.impT fun n I1 O1 H1 t1 _ ⟨_, s2, O2, t2, sat2, z⟩ vs rv => by
    obtain ⟨xs, e, z⟩ := z.some_
    obtain ⟨v, ws, rfl, r1, u, us, rfl, r2, r3⟩ := rv
    have e0 : us = [] := r3
    have e1 : v = .int n.1 := r1
    have e2 : u = .int n.2.1 := r2
    subst e0 e1 e2
    unfold prng at e
    split at e
    · rename_i c
      cases e
      have c1 : -(2 ^ 62) ≤ n.1 ∧ n.1 < 2 ^ 62 := of_decide_eq_true c.1
      have c2 : -(2 ^ 62) ≤ n.2.1 ∧ n.2.1 < 2 ^ 62 := of_decide_eq_true c.2
      exact ⟨_, _, rfl, ⟨c1.1, c1.2, c2.1, c2.2⟩, z.at_ t2 sat2 _ (serve_rng n.1 (n.2.1 - n.1).toNat)⟩
    · cases e⟩⟩

/-! ### for -/
def forL (f : α → ρ1 → R S (Out ρ1 ρ1 β)) : List α → ρ1 → R S (Out ρ1 τ β)
  | [], r => sr (.nx r)
  | x :: xs, r => fun s => match f x r s with
    | .ok (.nx r', s') => forL f xs r' s'
    | .ok (.ct r', s') => forL f xs r' s'
    | .ok (.bk r', s') => .ok (.nx r', s')
    | .ok (.rt b, s') => .ok (.rt b, s')
    | .error e => .error e
theorem PostB.stay {E : XK} {K : Fg} {I O H : Hp} {D D' : Ends} {r : Except Er (Out ρ τ β × S)} (h : PostB K E Λ Res Δ I O H D r) (e : D = D') : PostB K E Λ Res Δ I O H D' r := e ▸ h
theorem drop_cons {xs : List α} {i : Nat} {x : α} (h : xs[i]? = some x) : xs.drop i = x :: xs.drop (i + 1) := by
  obtain ⟨h1, h2⟩ := List.getElem?_eq_some_iff.mp h
  rw [List.drop_eq_getElem_cons h1, h2]
theorem pb_for {E : XK} (js is : List Nat) {tg iter : Expr} {body : List Stmt} [Enc α] {up : Gam → α → Gam} {m : R S (List α)} {L : ρ1 → S → Gam} {f : α → ρ1 → R S (Out ρ1 ρ1 β)} {r0 : ρ1} {kk : ρ1 → R S (Out ρ τ β)} (C : Ctx X (kE E) k)
    (hg : GT X tg α js up) (hi : IX X (kE E) Γ tg iter m) (h0 : ∀ s, L r0 s = (Γ s).forg is) (hb : ∀ a r, PB X (kE E) L Res (fun s => up (L r s) a) body L (f a r)) (hk : ∀ r, PB X (kE E) Λ Res (L r) rest Δ (kk r))
    (hs : ∀ x, foldedSetIterable iter X.env x = pure x := by intro _; rfl) :
    PB X (kE E) Λ Res Γ (.For tg iter body [] pos :: rest) Δ (sb m fun xs => obd (forL f xs r0) kk) := by
  obtain ⟨g, g1, g2⟩ := hg.ex
  obtain ⟨wi, i1, i2⟩ := hi.ex
  have hbb : PSs X body (fun D σ H => ∃ p : α × ρ1, tB X.K (kE E) L Res (fun s => up (L p.2 s) p.1) L (f p.1 p.2) D σ H) := L2.PSs.ex fun p => hb p.1 p.2
  refine (pss_cons (ps_for C.own C.calm i1 g1 hbb hs) (L2.PSs.ex hk)).mono fun D σ H ⟨s, I, O, t, sat, q⟩ => ?_
  have sat0 : Sat (L r0 s) σ I O := by rw [h0 s]; exact sat.forg
  refine i2 σ H _ ⟨s, I, O, t, sat, ?_⟩
  unfold sb at q
  cases em : m s with
  | error z =>
    rw [em] at q
    cases z with
    | stuck => exact q
    | exc c fs => exact q
  | ok p =>
    obtain ⟨xs, s1⟩ := p
    rw [em] at q
    intro I1 O1 H1 t1 gg sat1 J hJ
    have sat2 : Sat (L r0 s1) σ I1 O1 := by rw [h0 s1]; exact sat1.forg
    have q1 : PostB X.K E Λ Res Δ I1 O1 H1 D (obd (forL f xs r0) kk s1) := q.shift gg
    refine ⟨fun i n σ H => n = xs.length - i ∧ i ≤ xs.length ∧ ∃ r s I O, Same I1 I ∧ St3 I O H ∧ Sat (L r s) σ I O ∧ PostB X.K E Λ Res Δ I O H D (obd (forL f (xs.drop i) r) kk s),
      ⟨_, rfl, Nat.zero_le _, r0, s1, I1, O1, Same.refl _, t1, sat2, q1⟩, ?_⟩
    rintro i n σ2 H2 ⟨rfl, hi, r, s2, I2, O2, e2, t2, sat2, q2⟩
    have sv := hJ I2 O2 H2 t2 e2
    by_cases hlt : i < xs.length
    · have hx : xs[i]? = some xs[i] := by simp [hlt]
      have hgo := sv.1 i _ hx
      refine .inr ⟨hgo.1, fun σ' H' => ∃ r s I O, Same I1 I ∧ St3 I O H' ∧ Sat (L r s) σ' I O ∧ PostB X.K E Λ Res Δ I O H' D (obd (forL f (xs.drop (i + 1)) r) kk s), fun σ' H' z => ⟨xs.length - (i + 1), by omega, rfl, hlt, z⟩, fun x H3 y => ?_⟩
      obtain ⟨I3, t3, g3, r3⟩ := hgo.2 x H3 y
      refine g2 x _ σ2 I3 O2 H3 _ (L r s2) r3 t3 (sat2.up g3.ext) fun σ' sat' _ => ?_
      refine ⟨(xs[i], r), s2, I3, O2, t3, sat', ?_⟩
      have q3 := q2.shift g3
      rw [drop_cons hx] at q3
      unfold obd forL at q3
      cases ef : f xs[i] r s2 with
      | error z =>
        rw [ef] at q3
        cases z with
        | stuck => exact q3
        | exc c fs => exact q3
      | ok p =>
        obtain ⟨o, s4⟩ := p
        rw [ef] at q3
        cases o with
        | nx r' => exact fun σ4 I4 O4 H4 t4 g4 sat4 => ⟨r', s4, I4, O4, (e2.trans g3.ext).trans g4.ext, t4, sat4, PostB.shift g4 q3⟩
        | ct r' => exact fun σ4 I4 O4 H4 t4 g4 sat4 => ⟨r', s4, I4, O4, (e2.trans g3.ext).trans g4.ext, t4, sat4, PostB.shift g4 q3⟩
        | bk r' => exact fun σ4 I4 O4 H4 t4 g4 sat4 => ⟨r', s4, I4, O4, t4, sat4, PostB.shift g4 q3⟩
        | rt b => exact q3
    · have e : i = xs.length := by omega
      subst e
      refine .inl ⟨sv.2, r, s2, I2, O2, t2, sat2, ?_⟩
      rw [List.drop_length] at q2
      exact q2

/-! ### while -/
def whL (c : ρ1 → R S Bool) (f : ρ1 → R S (Out ρ1 ρ1 β)) : Nat → ρ1 → R S (Out ρ1 τ β)
  | 0, _ => sx .stuck
  | n + 1, r => fun s => match c r s with
    | .ok (true, s1) => (match f r s1 with
      | .ok (.nx r', s') => whL c f n r' s'
      | .ok (.ct r', s') => whL c f n r' s'
      | .ok (.bk r', s') => .ok (.nx r', s')
      | .ok (.rt b, s') => .ok (.rt b, s')
      | .error e => .error e)
    | .ok (false, s1) => .ok (.nx r, s1)
    | .error e => .error e
theorem pb_while {E : XK} (is : List Nat) (fuel : Nat) {c : Expr} {body : List Stmt} {L : ρ1 → S → Gam} {mc : ρ1 → R S Bool} {f : ρ1 → R S (Out ρ1 ρ1 β)} {r0 : ρ1} {kk : ρ1 → R S (Out ρ τ β)} (C : Ctx X (kE E) k)
    (h0 : ∀ s, L r0 s = (Γ s).forg is) (hc : ∀ r, PTx X (kE E) (L r) c (mc r)) (hb : ∀ r, PB X (kE E) L Res (L r) body L (f r)) (hk : ∀ r, PB X (kE E) Λ Res (L r) rest Δ (kk r)) :
    PB X (kE E) Λ Res Γ (.While c body [] pos :: rest) Δ (obd (whL mc f fuel r0) kk) := by
  refine (pss_cons (ps_while C.own (L2.PT.ex hc) (L2.PSs.ex hb)) (L2.PSs.ex hk)).mono fun D σ H ⟨s, I, O, t, sat, q⟩ => ?_
  have sat0 : Sat (L r0 s) σ I O := by rw [h0 s]; exact sat.forg
  refine ⟨fun n σ H => ∃ r s I O, St3 I O H ∧ Sat (L r s) σ I O ∧ PostB X.K E Λ Res Δ I O H D (obd (whL mc f n r) kk s), ⟨fuel, r0, s, I, O, t, sat0, q⟩, ?_⟩
  rintro n σ2 H2 ⟨r, s2, I2, O2, t2, sat2, q2⟩
  cases n with
  | zero => exact q2.elim
  | succ n =>
    refine ⟨r, s2, I2, O2, t2, sat2, ?_⟩
    unfold obd whL at q2
    cases ec : mc r s2 with
    | error z =>
      rw [ec] at q2
      cases z with
      | stuck => exact q2
      | exc c fs => exact q2
    | ok p =>
      obtain ⟨b, s3⟩ := p
      rw [ec] at q2
      intro I3 O3 H3 t3 g3 sat3
      have q3 := q2.shift g3
      cases b with
      | false => exact ⟨r, s3, I3, O3, t3, sat3, q3⟩
      | true =>
        refine iteT ?_
        dsimp only at q3
        refine ⟨fun σ' H' => ∃ r s I O, St3 I O H' ∧ Sat (L r s) σ' I O ∧ PostB X.K E Λ Res Δ I O H' D (obd (whL mc f n r) kk s), fun σ' H' z => ⟨n, Nat.lt_succ_self n, z⟩, r, s3, I3, O3, t3, sat3, ?_⟩
        cases ef : f r s3 with
        | error z =>
          rw [ef] at q3
          cases z with
          | stuck => exact q3
          | exc c fs => exact q3
        | ok p =>
          obtain ⟨o, s4⟩ := p
          rw [ef] at q3
          cases o with
          | nx r' => exact fun σ4 I4 O4 H4 t4 g4 sat4 => ⟨r', s4, I4, O4, t4, sat4, PostB.shift g4 q3⟩
          | ct r' => exact fun σ4 I4 O4 H4 t4 g4 sat4 => ⟨r', s4, I4, O4, t4, sat4, PostB.shift g4 q3⟩
          | bk r' => exact fun σ4 I4 O4 H4 t4 g4 sat4 => ⟨r', s4, I4, O4, t4, sat4, PostB.shift g4 q3⟩
          | rt b => exact q3

/-! ### lists of one's own -/
/-- name = [..], a list that will be changed -/
theorem pb_new {E : XK} (i : Nat) {x : Str} {es : List Expr} {pos2 : Pos} [Enc α] {m : R S (List α)} {kk : List α → R S (Out ρ τ β)} (C : Ctx X (kE E) k) (he : PLx X (kE E) Γ es m) (hk : ∀ a, PB X (kE E) Λ Res (fun s => (Γ s).put i (sL X.K a)) rest Δ (kk a))
    (hi : X.N[i]? = some x := by rfl) (hx : Loc X.env.scope x := by first | exact Or.inl rfl | exact Or.inr rfl) (hs : swapsWith (.List es pos2) (some (.Name x pos')) pos.line X.env = pure false := by rfl) (hf : X.fn x = true ∨ X.env.scope.names.lookup x = some .local := by first | exact .inl rfl | exact .inr rfl) :
    PB X (kE E) Λ Res Γ (.Assign [.Name x pos'] (.List es pos2) pos :: rest) Δ (sb m fun a => sb (so (plen a)) kk) :=
  (pss_cons (ps_set C.nd hi hx (pe_lst he) hs hf) (L2.PSs.ex hk)).mono fun D σ H ⟨s, I, O, t, sat, q⟩ => ⟨s, I, O, t, sat, q.bind.imp fun a I1 H1 ⟨_, s1, O1, t1, sat1, q1⟩ vs rv => by
    obtain ⟨ys, e, q2⟩ := q1.some_
    obtain ⟨rfl, hl⟩ := plen_some e
    refine ⟨by rw [rv.len]; exact hl, fun p hp => ⟨ys, s1, I1, uni (upd (fun _ => none) p (.lst vs)) O1, ?_, ?_, ?_⟩⟩
    · have := t1.layO (o := .lst vs) hp
      have e : uni (upd (fun _ => none) p (.lst vs)) O1 = upd O1 p (.lst vs) := by
        funext b; unfold uni upd; by_cases hb : b = p <;> simp [hb]
      rw [e]; exact this
    · refine Sat.put_ow (R := fun I O v => ∃ l vs, v = .ref l ∧ O l = some (.lst vs) ∧ All2 (Enc.rep X.K I) vs ys) ⟨p, vs, rfl, upd_same, rv⟩ (fun b => ?_) sat1
      by_cases hb : b = p
      · exact .inr (by rw [hb]; exact t1.fo hp)
      · exact .inl (by rw [upd_ne hb])
    · have e : uni (upd (fun _ => none) p (.lst vs)) O1 = upd O1 p (.lst vs) := by
        funext b; unfold uni upd; by_cases hb : b = p <;> simp [hb]
      rw [e]
      exact PostB.shift (Go.layO t1 hp) q2⟩
/-- the list at slot i is made still -/
theorem pb_pub (i : Nat) {body : List Stmt} [Enc α] {xs : List α} {m : R S (Out ρ τ β)} (hg : ∀ s, (Γ s).at i = sL X.K xs) (h : PB X E Λ Res (fun s => (Γ s).put i (sI X.K xs)) body Δ m) : PB X E Λ Res Γ body Δ m :=
  h.mono fun D σ H ⟨s, I, O, t, sat, q⟩ => by
    obtain ⟨v, O1, O2, h1, h2, h3, h4, ⟨l, vs, rfl, h5, h6⟩, h7⟩ := sat.at_ow (hg s)
    have hO : O l = some (.lst vs) := h3 _ _ h5
    have hO2 : O2 l = none := by
      rcases h2 l with z | z
      · rw [h5] at z; cases z
      · exact z
    have hI : I l = none := by
      rcases t.dj l with z | z
      · exact z
      · rw [hO] at z; cases z
    have k := Same.upd_new (o := HO.lst vs) hI
    refine ⟨s, upd I l (.lst vs), O2, t.pub hO h4 hO2, ?_, PostB.shift (Go.pub t hO h4) q⟩
    have := Sat.put_im (P := fun I v => Enc.rep X.K I v xs) (u := fun _ _ _ e h => Enc.up e h) (v := .ref l) (I := upd I l (.lst vs)) ⟨l, vs, rfl, upd_same, h6.imp fun _ _ z => Enc.up k z⟩ (i := i) (h7.up k)
    rw [Gam.put_put, set_self h1] at this
    exact this
theorem Sat.mine {K : Fg} [Enc α] {xs : List α} {g : Gam} {σ : L2.St} {I O H : Hp} {i : Nat} (sat : Sat g σ I O) (hg : g.at i = sL K xs) (t : St3 I O H) :
    ∃ l vs, σ[i]? = some (some (.ref l)) ∧ H l = some (.lst vs) ∧ All2 (Enc.rep K I) vs xs ∧
      ∀ {us : List V} {ys : List α}, All2 (Enc.rep K I) us ys → ∃ O', St3 I O' (upd H l (.lst us)) ∧ Go I O H I O' (upd H l (.lst us)) ∧ Sat (g.put i (sL K ys)) σ I O' := by
  obtain ⟨v, O1, O2, h1, h2, h3, h4, ⟨l, vs, rfl, h5, h6⟩, h7⟩ := sat.at_ow hg
  have hO : O l = some (.lst vs) := h3 _ _ h5
  have hO2 : O2 l = none := by
    rcases h2 l with z | z
    · rw [h5] at z; cases z
    · exact z
  refine ⟨l, vs, h1, t.so _ _ hO, h6, fun {us ys} r => ?_⟩
  have d : ∀ b, upd O1 l (.lst us) b = none ∨ O2 b = none := fun b => by
    by_cases hb : b = l
    · exact .inr (by rw [hb]; exact hO2)
    · rw [upd_ne hb]; exact h2 b
  have sm : Same (uni (upd O1 l (.lst us)) O2) (upd O l (.lst us)) := fun b o e => by
    by_cases hb : b = l
    · subst hb
      unfold uni at e
      rw [upd_same] at e
      rw [upd_same]; exact e
    · rw [upd_ne hb]
      unfold uni at e
      rw [upd_ne hb] at e
      cases q : O1 b with
      | none => rw [q] at e; exact h4 b o e
      | some y => rw [q] at e; exact h3 b o (by rw [q]; exact e)
  refine ⟨uni (upd O1 l (.lst us)) O2, (t.wr hO).drop sm, (Go.wr t hO).trans (Go.drop sm), ?_⟩
  exact Sat.back (R := fun I O v => ∃ l vs, v = .ref l ∧ O l = some (.lst vs) ∧ All2 (Enc.rep K I) vs ys) ⟨l, us, rfl, upd_same, r⟩ d h1 h7
def papp (xs : List α) (x : α) : Option (List α) := if xs.length < 16777216 then some (xs ++ [x]) else none
/-- name.append(e) -/
theorem pb_app (i : Nat) {x : Str} {e : Expr} {p1 p2 p3 : Pos} [Enc α] {xs : List α} {m : R S α} {kk : List α → R S (Out ρ τ β)} (hg : ∀ s, (Γ s).at i = sL X.K xs) (he : PX X E Γ e m) (hk : ∀ a, PB X E Λ Res (fun s => (Γ s).put i (sL X.K a)) rest Δ (kk a))
    (rule : ∀ {te : TE}, PE X e te → PS X (.Expr (.Call (.Attribute (.Name x p1) "append" p2) [e] [] p3) pos) (tDrop (tBM X.K "list" rAppend (tVar i) (tCons te tNil)))) :
    PB X E Λ Res Γ (.Expr (.Call (.Attribute (.Name x p1) "append" p2) [e] [] p3) pos :: rest) Δ (sb m fun a => sb (so (papp xs a)) kk) :=
  (pss_cons (rule he) (L2.PSs.ex hk)).mono fun D σ H ⟨s, I, O, t, sat, q⟩ => by
    obtain ⟨l, vs, h1, h2, h3, _⟩ := sat.mine (hg s) t
    refine ⟨_, h1, .inl ⟨rfl, vs, SqL.of h2⟩, s, I, O, t, sat, q.bind.imp fun a I1 H1 ⟨_, s1, O1, t1, sat1, q1⟩ v rv => ?_⟩
    obtain ⟨ys, e, q2⟩ := q1.some_
    unfold papp at e
    split at e
    · rename_i c
      cases e
      obtain ⟨l', vs', h1', h2', h3', h4'⟩ := sat1.mine (hg s1) t1
      rw [h1] at h1'
      cases h1'
      obtain ⟨O', t2, g2, sat2⟩ := h4' (us := vs' ++ [v]) (ys := xs ++ [a]) (h3'.app ⟨rv, trivial⟩)
      exact ⟨l, vs', v, rfl, rfl, h2', by rw [h3'.len, sizeLine_eq]; exact c, xs ++ [a], s1, I1, O', t2, sat2, PostB.shift g2 q2⟩
    · cases e
def pset (xs : List α) (i : Int) (x : α) : Option (List α) := (ixN xs.length i).map fun j => xs.set j x
/-- name[j] = e (the value first, then the index) -/
theorem pb_seti (i : Nat) {x : Str} {e j : Expr} {p1 p2 : Pos} [Enc α] {xs : List α} {m : R S α} {mj : R S Int} {kk : List α → R S (Out ρ τ β)} (hg : ∀ s, (Γ s).at i = sL X.K xs) (he : PX X E Γ e m) (hj : PX X E Γ j mj)
    (hk : ∀ a, PB X E Λ Res (fun s => (Γ s).put i (sL X.K a)) rest Δ (kk a))
    (rule : ∀ {te tj : TE}, PE X e te → PE X j tj → PS X (.Assign [.Subscript (.Name x p1) j p2] e pos) (tAsg te (gSub (tVar i) tj rSetL))) :
    PB X E Λ Res Γ (.Assign [.Subscript (.Name x p1) j p2] e pos :: rest) Δ (sb m fun a => sb mj fun n => sb (so (pset xs n a)) kk) :=
  (pss_cons (rule he hj) (L2.PSs.ex hk)).mono fun D σ H ⟨s, I, O, t, sat, q⟩ => ⟨s, I, O, t, sat, q.bind.imp fun a I1 H1 ⟨_, s1, O1, t1, sat1, q1⟩ v rv => by
    obtain ⟨l, vs, h1, h2, h3, _⟩ := sat1.mine (hg s1) t1
    refine ⟨_, h1, s1, I1, O1, t1, sat1, q1.bind.imp fun n I2 H2 ⟨e2, s2, O2, t2, sat2, q2⟩ w rw => ?_⟩
    have ew : w = .int n := rw
    subst ew
    obtain ⟨ys, e, q3⟩ := q2.some_
    unfold pset at e
    cases en : ixN xs.length n with
    | none => rw [en] at e; cases e
    | some k =>
      rw [en] at e
      cases e
      obtain ⟨l', vs', h1', h2', h3', h4'⟩ := sat2.mine (hg s2) t2
      rw [h1] at h1'
      cases h1'
      obtain ⟨O', t3, g3, sat3⟩ := h4' (us := vs'.set k v) (ys := xs.set k a) (h3'.setAt (Enc.up e2 rv) k)
      exact ⟨l, vs', n, k, rfl, rfl, h2', by rw [h3'.len]; exact en, xs.set k a, s2, I2, O', t3, sat3, PostB.shift g3 q3⟩⟩
/-- name[j], the list one's own -/
theorem px_oix (i : Nat) {x : Str} {b : Expr} {p1 : Pos} [Enc α] {xs : List α} {mb : R S Int} (hg : ∀ s, (Γ s).at i = sL X.K xs) (hb : PX X E Γ b mb) (hs : PlainIx b := by exact fun _ _ => rfl)
    (hN : X.N[i]? = some x := by rfl) (hv : Vis X.env.scope x := by first | exact Or.inl rfl | exact Or.inr (Or.inl rfl) | exact Or.inr (Or.inr rfl)) (hd : (x == ("__debug__" : Str)) = false := by decide) (hcd : (x == ("__classdict__" : Str)) = false := by decide) :
    PX X E Γ (.Subscript (.Name x p1) b pos) (sb mb fun n => so (pix xs n)) :=
  L2.PE.mono (pe_ix ix_list (pe_var hN hv hd hcd) hb hs) fun σ H Q ⟨s, I, O, t, sat, h⟩ => by
    obtain ⟨l, vs, h1, h2, h3, _⟩ := sat.mine (hg s) t
    refine ⟨_, h1, s, I, O, t, sat, h.bind.imp fun n I1 H1 ⟨_, s1, O1, t1, sat1, q1⟩ w rw => ?_⟩
    have ew : w = .int n := rw
    subst ew
    obtain ⟨z, e, q2⟩ := q1.some_
    obtain ⟨l', vs', h1', h2', h3', _⟩ := sat1.mine (hg s1) t1
    rw [h1] at h1'
    cases h1'
    obtain ⟨u, e1, e2⟩ := atI_rep h3' e
    exact ⟨l, vs', n, u, rfl, rfl, SqL.of h2', e1, q2.at_ t1 sat1 u e2⟩
/-- len(name) -/
theorem px_olen (i : Nat) {x : Str} {p p1 : Pos} [Enc α] {xs : List α} (hm : X.mg "len" = none) (hg : ∀ s, (Γ s).at i = sL X.K xs) (hgl : Gl X "len" := by rfl)
    (hN : X.N[i]? = some x := by rfl) (hv : Vis X.env.scope x := by first | exact Or.inl rfl | exact Or.inr (Or.inl rfl) | exact Or.inr (Or.inr rfl)) (hd : (x == ("__debug__" : Str)) = false := by decide) (hcd : (x == ("__classdict__" : Str)) = false := by decide)
    (h1 : starEach [.Name x p1] X.env = (false, eval (.Name x p1) X.env) :: starEach [] X.env := by rfl) (h2 : (backTo pos (starEach [] X.env)).any (·.1) = false := by rfl) :
    PX X E Γ (.Call (.Name "len" p) [.Name x p1] [] pos) (sr (xs.length : Int)) :=
  L2.PE.mono (pe_callB call_len_seq hgl hm boot_len (pa_cons (pe_var hN hv hd hcd) pa_nil h1) (by decide) (by decide) h1 h2) fun σ H Q ⟨s, I, O, t, sat, h⟩ => by
    obtain ⟨l, vs, h1, h2, h3, _⟩ := sat.mine (hg s) t
    exact ⟨_, h1, l, vs, rfl, .inl (SqL.of h2), h.at_ t sat _ (by show V.int _ = V.int _; rw [h3.len])⟩
/-- e in name -/
theorem px_oin (i : Nat) {x : Str} {a : Expr} {p1 : Pos} [Dat α] [DecidableEq α] {xs : List α} {ma : R S α} (C : Ctx X E (k + 1)) (hg : ∀ s, (Γ s).at i = sL X.K xs) (ha : PX X E Γ a ma)
    (hN : X.N[i]? = some x := by rfl) (hv : Vis X.env.scope x := by first | exact Or.inl rfl | exact Or.inr (Or.inl rfl) | exact Or.inr (Or.inr rfl)) (hd : (x == ("__debug__" : Str)) = false := by decide) (hcd : (x == ("__classdict__" : Str)) = false := by decide) :
    CB X E Γ (.Compare a [.In] [.Name x p1] pos) (sb ma fun y => so (pin y xs)) := by
  have key : ∀ {y : α} {v : V} {b : Bool} {s : S} {σ : L2.St} {I O H : Hp}, Enc.rep X.K I v y → Sat (Γ s) σ I O → St3 I O H → pin y xs = some b → ∃ l, σ[i]? = some (some (.ref l)) ∧ ∀ Q : VK, Q (.bl b) H → rInD X.K v (.ref l) H Q := by
    intro y v b s σ I O H rv sat t e
    obtain ⟨l, vs, h1, h2, h3, _⟩ := sat.mine (hg s) t
    obtain ⟨e1, e2, rfl⟩ := pin_some e
    exact ⟨l, h1, fun Q q => ⟨_, _, Dp.up t.si (Dat.dp rv), .lst (SqL.of h2) (dpAll_of (h3.imp fun _ _ z => Enc.up t.si z)), e1, e2, q⟩⟩
  refine ⟨L2.PE.mono (pe_cmpR (op_inD (by have := C.room.un; omega)) ha (pe_var hN hv hd hcd) rfl) fun σ H Q ⟨s, I, O, t, sat, h⟩ => ⟨s, I, O, t, sat, h.bind.imp fun y I1 H1 ⟨_, s1, O1, t1, sat1, q1⟩ v rv => ?_⟩,
    L2.PT.mono (pt_cmpR (op_inD (by have := C.room.un; omega)) ha (pe_var hN hv hd hcd) rfl) fun σ H Q ⟨s, I, O, t, sat, h⟩ => ⟨s, I, O, t, sat, h.bind.imp fun y I1 H1 ⟨_, s1, O1, t1, sat1, q1⟩ v rv => ?_⟩⟩
  · obtain ⟨b, e, q2⟩ := q1.some_
    obtain ⟨l, h1, h2⟩ := key rv sat1 t1 e
    exact ⟨_, h1, h2 _ (q2.at_ t1 sat1 _ rfl)⟩
  · obtain ⟨b, e, q2⟩ := q1.some_
    obtain ⟨l, h1, h2⟩ := key rv sat1 t1 e
    exact ⟨_, h1, h2 _ ⟨b, rfl, q2.at_ t1 sat1⟩⟩
end

/-! ### defs -/
def noO : Hp := fun _ => none
def PostF {β : Type} [Enc β] (K : Fg) (E : XK) (I H : Hp) (Q : VK) : Except Er β → Prop
  | .ok b => ∀ v I' O' H', St3 I' O' H' → Go I noO H I' O' H' → Enc.rep K I' v b → Q v H'
  | .error .stuck => False
  | .error (.exc c fs) => ∀ d I' O' H', St3 I' O' H' → Go I noO H I' O' H' → XD K I' H' d fs → E (.ref (He.ga K c)) (some d) H'
/-- the promise of a def that changes nothing of what it is handed -/
def spF {A β : Type} [Args A] [Enc β] (K : Fg) (f : A → Except Er β) : Sp := fun vs H Q E => ∃ a I, Same I H ∧ Args.rep K I vs a ∧ PostF K E I H Q (f a)
/-- a def as its callers see it -/
structure Def (P : Program) (w : World) (K : Fg) (mg : Str → Option Value) (base : Heap) (x : Str) (k : Nat) (ps : List Str) (sp : Sp) : Prop where
  ex : ∃ f fd, mg x = some (.ref f) ∧ PySem.W.keepIn K (.ref f) = true ∧ Binds K fd ps [] ∧ FnOk P w K mg base (L2.CX P w) k f fd ps sp
theorem call_go {I O H I' O' H' : Hp} (t : St3 I O H) (t' : St3 I' O' H') (g : Go I noO H I' O' H') : St3 I' O H' ∧ Go I O H I' O H' := by
  refine ⟨⟨t'.si, fun b o e => g.keep b o (t.so b o e) rfl, fun b => ?_⟩, fun b o e _ => g.keep b o e rfl, g.ext, fun b e => ?_, fun b e => .inl e⟩
  · cases q : O b with
    | none => exact .inr rfl
    | some o =>
      cases r : I' b with
      | none => exact .inl rfl
      | some u =>
        rcases g.ni b (nn r) with z | z | z
        · rcases t.dj b with y | y
          · exact absurd y z
          · rw [q] at y; cases y
        · rw [t.so b o q] at z; cases z
        · exact absurd rfl z
  · rcases g.ni b e with z | z | z
    · exact .inl z
    · exact .inr (.inl z)
    · exact absurd rfl z
section
variable {X : Cx} {E : EW} {S : Type} {Γ : S → Gam} {pos : Pos}
theorem px_call {A β : Type} [Args A] [Enc β] {x : Str} {j k : Nat} {ps : List Str} {f : A → Except Er β} {e : Expr} {es : List Expr} {p : Pos} {ma : R S A} (F : Def X.prog X.w X.K X.mg X.base x j ps (spF X.K f)) (C : Ctx X E k) (ha : PAx X E Γ (e :: es) ma) (hk : j ≤ k := by decide)
    (hg : Gl X x := by rfl) (hdb : (x == ("__debug__" : Str)) = false := by decide) (he : starEach (e :: es) X.env = (false, eval e X.env) :: starEach es X.env := by rfl) (hpl : (backTo pos (starEach es X.env)).any (·.1) = false := by rfl) :
    PX X E Γ (.Call (.Name x p) (e :: es) [] pos) (sb ma fun a => sl (f a)) := by
  obtain ⟨g, fd, h1, h2, h3, h4⟩ := F.ex
  refine L2.PE.mono (pe_callS h4 (C.room.mono hk) hg h1 h2 h3 C.pas ha hdb he hpl) fun σ H Q ⟨s, I, O, t, sat, h⟩ => ⟨s, I, O, t, sat, h.bind.imp fun a I1 H1 ⟨_, s1, O1, t1, sat1, q1⟩ vs rv => ⟨a, I1, t1.si, rv, ?_⟩⟩
  unfold sl at q1
  cases ef : f a with
  | ok b =>
    rw [ef] at q1
    exact fun v I' O' H' t' g' r => by
      obtain ⟨t2, g2⟩ := call_go t1 t' g'
      exact q1 I' O1 H' t2 g2 (sat1.up g'.ext) v r
  | error z =>
    rw [ef] at q1
    cases z with
    | stuck => exact q1
    | exc c fs =>
      intro d I' O' H' t' g' x
      obtain ⟨t2, g2⟩ := call_go t1 t' g'
      exact q1 d I' O1 H' t2 g2 x
theorem px_call0 {E : XK} {β : Type} [Enc β] {x : Str} {j k : Nat} {ps : List Str} {f : Unit → Except Er β} {p : Pos} (F : Def X.prog X.w X.K X.mg X.base x j ps (spF X.K f)) (C : Ctx X (kE E) k) (hk : j ≤ k := by decide)
    (hg : Gl X x := by rfl) (hdb : (x == ("__debug__" : Str)) = false := by decide) : PX X (kE E) Γ (.Call (.Name x p) [] [] pos) (sl (f ())) := by
  obtain ⟨g, fd, h1, h2, h3, h4⟩ := F.ex
  refine L2.PE.mono (pe_call0 h4 (C.room.mono hk) hg h1 h2 h3 (.nil) (fun pins σ H s e s' I c => C.pas σ pins H s e s' I c) hdb) fun σ H Q ⟨s, I, O, t, sat, q1⟩ => ⟨(), I, t.si, rfl, ?_⟩
  unfold sl at q1
  cases ef : f () with
  | ok b =>
    rw [ef] at q1
    exact fun v I' O' H' t' g' r => by
      obtain ⟨t2, g2⟩ := call_go t t' g'
      exact q1 I' O H' t2 g2 (sat.up g'.ext) v r
  | error z =>
    rw [ef] at q1
    cases z with
    | stuck => exact q1
    | exc c fs =>
      intro d I' O' H' t' g' x
      obtain ⟨t2, g2⟩ := call_go t t' g'
      exact q1 d I' O H' t2 g2 x
end
/-- the slots at a def's entry -/
class ArgG (A : Type) extends Args A where
  gam : Fg → A → Gam
  n : Nat
  ln : ∀ {K : Fg} {I : Hp} {vs : List V} {a : A}, rep K I vs a → vs.length = n
  sat : ∀ {K : Fg} {I O : Hp} {vs : List V} {a : A} (j : Nat), rep K I vs a → Sat (gam K a ++ List.replicate j .un) (vs.map some ++ List.replicate j none) I O
theorem sat_rep (I O : Hp) : ∀ j : Nat, Sat (List.replicate j .un) (List.replicate j none) I O
  | 0 => trivial
  | j + 1 => sat_rep I O j
instance : ArgG Unit := ⟨fun _ _ => [], 0, fun {K I vs a} h => by have e : vs = [] := h; subst e; rfl, fun {K I O vs a} j h => by have e : vs = [] := h; subst e; exact sat_rep I O j⟩
instance {α A : Type} [Enc α] [ArgG A] : ArgG (α × A) := ⟨fun K a => sI K a.1 :: ArgG.gam K a.2, ArgG.n A + 1, fun {K I vs a} h => by
  obtain ⟨v, ws, rfl, r, q⟩ := h
  exact congrArg Nat.succ (ArgG.ln q), fun {K I O vs a} j h => by
  obtain ⟨v, ws, rfl, r, q⟩ := h
  exact ⟨⟨v, rfl, r⟩, ArgG.sat j q⟩⟩
def runF {β : Type} (m : R Unit (Out Unit Empty β)) : Except Er β := match m () with
  | .ok (.rt b, _) => .ok b
  | .ok _ => .error .stuck
  | .error e => .error e
def runN (m : R Unit (Out Unit Empty Unit)) : Except Er Unit := match m () with
  | .ok (.rt b, _) => .ok ()
  | .ok (.nx _, _) => .ok ()
  | .ok (.bk e, _) => nomatch e
  | .ok (.ct e, _) => nomatch e
  | .error e => .error e
abbrev Λ0 {S : Type} : Empty → S → Gam := fun e _ => nomatch e
abbrev Δ0 (n : Nat) {S : Type} : Unit → S → Gam := fun _ _ => List.replicate n .un
section
variable {P : Program} {w : World} {K : Fg} {mg : Str → Option Value} {base : Heap} {x qual : Str} {params : Arguments} {body : List Stmt} {scope : Scope} {dvs : List V} {kws : List (Str × V)} {f : Addr} {fd : FuncData}
theorem ctx_of {k : Nat} {N : List Str} {cdv : Value} {A : Around} {outer : List Env} {s : Shared} {H : Hp} {E : XK} (hr : Room k (A.deeper (envOfC qual scope s.heap.objs.size f cdv))) (nd : N.Nodup) : Ctx (cxOf (L2.CX P w) P w K mg base N qual scope f cdv A outer s H E) (kE E) k :=
  have tk := takes_of (X := cxOf (L2.CX P w) P w K mg base N qual scope f cdv A outer s H E) (E := E) rfl rfl rfl rfl
  ⟨fun σ => passAt tk σ, passes_of rfl, hr, nd, rfl, tk⟩
theorem fn_ok {A' β : Type} [ArgG A'] [Enc β] {N ps : List Str} {k : Nat} {m : A' → R Unit (Out Unit Empty β)} (F : FunD K x qual params body scope dvs kws f fd) (S : FnScope N ps scope) (hn : ps.length = ArgG.n A')
    (hb : ∀ (cdv : Value) (A : Around) (outer : List Env) (s : Shared) (H : Hp) (E : XK), Ctx (cxOf (L2.CX P w) P w K mg base N qual scope f cdv A outer s H E) (kE E) k → ∀ a : A', PB (cxOf (L2.CX P w) P w K mg base N qual scope f cdv A outer s H E) (kE E) Λ0 (resI K) (fun _ => ArgG.gam K a ++ List.replicate (N.length - ps.length) .un) body (Δ0 N.length) (m a)) :
    FnOk P w K mg base (L2.CX P w) (k + 1) f fd ps (spF K fun a => runF (m a)) := by
  refine F.ok S (fun vs H Q E h => ?_) fun cdv A outer s H vs Q E hr h => ?_
  · obtain ⟨a, I, _, r, _⟩ := h
    rw [hn]; exact ArgG.ln (A := A') r
  · obtain ⟨a, I, e, r, q⟩ := h
    refine ⟨_, hb cdv A outer s H E (ctx_of hr S.nd) a, (), I, noO, ⟨e, fun b o z => (nomatch z), fun b => .inr rfl⟩, ?_, ?_⟩
    · unfold L2.start
      rw [ArgG.ln (A := A') r, ← hn]
      exact ArgG.sat (A := A') _ r
    · have q : PostF K E I H Q (runF (m a)) := q
      unfold runF at q
      cases em : m a () with
      | error z =>
        rw [em] at q
        cases z with
        | stuck => exact q
        | exc c fs => exact q
      | ok p =>
        obtain ⟨o, u⟩ := p
        rw [em] at q
        cases o with
        | nx r => exact q.elim
        | bk e => exact nomatch e
        | ct e => exact nomatch e
        | rt b => exact q
/-- .. that hands back nothing -/
theorem fn_okN {A' : Type} [ArgG A'] {N ps : List Str} {k : Nat} {m : A' → R Unit (Out Unit Empty Unit)} (F : FunD K x qual params body scope dvs kws f fd) (S : FnScope N ps scope) (hn : ps.length = ArgG.n A')
    (hb : ∀ (cdv : Value) (A : Around) (outer : List Env) (s : Shared) (H : Hp) (E : XK), Ctx (cxOf (L2.CX P w) P w K mg base N qual scope f cdv A outer s H E) (kE E) k → ∀ a : A', PB (cxOf (L2.CX P w) P w K mg base N qual scope f cdv A outer s H E) (kE E) Λ0 (resI K) (fun _ => ArgG.gam K a ++ List.replicate (N.length - ps.length) .un) body (Δ0 N.length) (m a)) :
    FnOk P w K mg base (L2.CX P w) (k + 1) f fd ps (spF K fun a => runN (m a)) := by
  refine F.ok S (fun vs H Q E h => ?_) fun cdv A outer s H vs Q E hr h => ?_
  · obtain ⟨a, I, _, r, _⟩ := h
    rw [hn]; exact ArgG.ln (A := A') r
  · obtain ⟨a, I, e, r, q⟩ := h
    refine ⟨_, hb cdv A outer s H E (ctx_of hr S.nd) a, (), I, noO, ⟨e, fun b o z => (nomatch z), fun b => .inr rfl⟩, ?_, ?_⟩
    · unfold L2.start
      rw [ArgG.ln (A := A') r, ← hn]
      exact ArgG.sat (A := A') _ r
    · have q : PostF K E I H Q (runN (m a)) := q
      unfold runN at q
      cases em : m a () with
      | error z =>
        rw [em] at q
        cases z with
        | stuck => exact q
        | exc c fs => exact q
      | ok p =>
        obtain ⟨o, u⟩ := p
        rw [em] at q
        cases o with
        | nx r => exact fun σ' I' O' H' t g _ => q .non I' O' H' t g rfl
        | bk e => exact nomatch e
        | ct e => exact nomatch e
        | rt b => exact q
end
end Mi

set_option Elab.async false
set_option linter.all false
set_option maxRecDepth 100000
set_option maxHeartbeats 4000000
namespace Mi
open PySem PySem.Spec PyProof.Rows L2

theorem _root_.L2.PE.ex {X : Cx} {e : Expr} {α : Type} {t : α → TE} (h : ∀ x, PE X e (t x)) : PE X e (fun σ H Q => ∃ x, t x σ H Q) := ⟨fun pins s σ H Q I ⟨x, q⟩ => (h x).run pins s σ H Q I q⟩
theorem _root_.L2.PTs.ex {X : Cx} {e : List Expr} {α : Type} {t : α → TT} (h : ∀ x, PTs X e (t x)) : PTs X e (fun σ H Q => ∃ x, t x σ H Q) := ⟨fun pins s σ H Q I ⟨x, q⟩ => (h x).run pins s σ H Q I q⟩
theorem _root_.L2.PTs.mono {X : Cx} {e : List Expr} {t t' : TT} (h : PTs X e t) (f : ∀ σ H Q, t' σ H Q → t σ H Q) : PTs X e t' := ⟨fun pins s σ H Q I q => h.run pins s σ H Q I (f σ H Q q)⟩
theorem Gam.put_comm : ∀ (g : Gam) (i j : Nat), (g.put i .un).put j .un = (g.put j .un).put i .un
  | [], _, _ => rfl
  | a :: g, 0, 0 => rfl
  | a :: g, 0, j + 1 => rfl
  | a :: g, i + 1, 0 => rfl
  | a :: g, i + 1, j + 1 => congrArg (a :: ·) (Gam.put_comm g i j)
theorem Gam.forg_put : ∀ (vs : List Nat) (g : Gam) (i : Nat), (g.put i .un).forg vs = (g.forg vs).put i .un
  | [], _, _ => rfl
  | v :: vs, g, i => by show ((g.put i .un).put v .un).forg vs = _; rw [Gam.put_comm, Gam.forg_put vs]; rfl
theorem Gam.forg_in : ∀ (vs : List Nat) (g : Gam) (i : Nat) (s : Slot), i ∈ vs → (g.put i s).forg vs = g.forg vs
  | v :: vs, g, i, s, h => by
    by_cases e : i = v
    · subst e
      show ((g.put i s).put i .un).forg vs = (g.put i .un).forg vs
      rw [Gam.put_put]
    · have hi : i ∈ vs := by
        rcases List.mem_cons.mp h with z | z
        · exact absurd z e
        · exact z
      show ((g.put i s).put v .un).forg vs = (g.put v .un).forg vs
      rw [Gam.forg_put, Gam.forg_put, Gam.forg_in vs g i s hi]
theorem Sat.wipes {I : Hp} {O : Hp} : ∀ {vs : List Nat} {g : Gam} {σ : L2.St}, Sat g σ I O → Sat (g.forg vs) (wipe σ vs) I O
  | [], _, _, h => h
  | v :: vs, g, σ, h => by
    show Sat ((g.put v .un).forg vs) ((wipe σ vs).set v none) I O
    rw [Gam.forg_put]
    exact Sat.put_un (Sat.wipes h)
theorem Sat.unset {I O : Hp} {g : Gam} {σ : L2.St} {i : Nat} {x : Option V} (h : Sat (g.put i .un) (σ.set i x) I O) : Sat (g.put i .un) σ I O := by
  by_cases hi : i < σ.length
  · have q := Sat.put_un (x := σ[i]) (i := i) h
    rw [Gam.put_put, List.set_set, set_self (by simp [hi])] at q
    exact q
  · rw [List.set_eq_of_length_le (by omega)] at h
    exact h
theorem Sat.unwipe {I O : Hp} : ∀ {vs : List Nat} {g : Gam} {σ : L2.St}, Sat (g.forg vs) (wipe σ vs) I O → Sat (g.forg vs) σ I O
  | [], _, _, h => h
  | v :: vs, g, σ, h => by
    have h1 : Sat ((g.put v .un).forg vs) ((wipe σ vs).set v none) I O := h
    rw [Gam.forg_put] at h1
    have h2 := h1.unset
    rw [← Gam.forg_put] at h2
    exact Sat.unwipe (vs := vs) (g := g.put v .un) h2
theorem wipe_comm : ∀ (ws : List Nat) (τ : L2.St) (v : Nat), wipe (τ.set v none) ws = (wipe τ ws).set v none
  | [], _, _ => rfl
  | w :: ws, τ, v => by
    unfold wipe
    rw [wipe_comm ws]
    by_cases e : v = w
    · rw [e]
    · rw [List.set_comm _ _ e]
theorem wipe_idem : ∀ (ws : List Nat) (τ : L2.St), wipe (wipe τ ws) ws = wipe τ ws
  | [], _ => rfl
  | w :: ws, τ => by
    show (wipe ((wipe τ ws).set w none) ws).set w none = (wipe τ ws).set w none
    rw [wipe_comm, wipe_idem ws, List.set_set]
theorem Go.other {I O H I1 O1 H1 : Hp} {p : Addr} {o : HO} (g : Go I O H I1 O1 H1) (h : H p = none) : Go I O H I1 O1 (upd H1 p o) :=
  ⟨fun b u e z => by rw [upd_ne (ne_of_none e h)]; exact g.keep b u e z, g.ext, g.ni, g.no⟩
theorem St3.other {I O H : Hp} {p : Addr} {o : HO} (t : St3 I O H) (hI : I p = none) (hO : O p = none) : St3 I O (upd H p o) :=
  ⟨fun b u e => by rw [upd_ne (ne_of_none e hI)]; exact t.si b u e, fun b u e => by rw [upd_ne (ne_of_none e hO)]; exact t.so b u e, t.dj⟩
/-! ### a new list as a result, owned -/
def Fresh (O H : Hp) (l : Addr) : Prop := H l = none ∨ O l ≠ none
theorem Fresh.shift {I O H I1 O1 H1 : Hp} {l : Addr} (g : Go I O H I1 O1 H1) (h : Fresh O1 H1 l) : Fresh O H l := by
  rcases h with h | h
  · cases q : H l with
    | none => exact .inl q
    | some o =>
      cases r : O l with
      | none => rw [g.keep l o q r] at h; cases h
      | some u => exact .inr (by rw [r]; exact Option.some_ne_none u)
  · rcases g.no l h with z | z
    · exact .inr z
    · exact .inl z
def PostO {S α : Type} [Enc α] (K : Fg) (E : XK) (Γ : S → Gam) (σ : L2.St) (I O H : Hp) (Q : VK) : Except Er (List α × S) → Prop
  | .ok (xs, s') => ∀ l us I' O' H', St3 I' O' H' → Go I O H I' O' H' → Sat (Γ s') σ I' O' → Fresh O H l → H' l = some (.lst us) → I' l = none → O' l = none → All2 (Enc.rep K I') us xs → Q (.ref l) H'
  | .error .stuck => False
  | .error (.exc c fs) => ∀ d I' O' H', St3 I' O' H' → Go I O H I' O' H' → XD K I' H' d fs → E (.ref (He.ga K c)) (some d) H'
def tMO {S α : Type} [Enc α] (K : Fg) (E : EW) (Γ : S → Gam) (m : R S (List α)) : TE := fun σ H Q => ∃ s I O, St3 I O H ∧ Sat (Γ s) σ I O ∧ PostO K (E σ) Γ σ I O H Q (m s)
abbrev PXo (X : Cx) (E : EW) {S α : Type} [Enc α] (Γ : S → Gam) (e : Expr) (m : R S (List α)) : Prop := PE X e (tMO X.K E Γ m)
section
variable {S α β : Type} {K : Fg} {E : XK} {Γ : S → Gam} {σ : L2.St} {I O H I1 O1 H1 : Hp} {Q : VK}
theorem PostO.shift [Enc α] (g : Go I O H I1 O1 H1) : ∀ {r : Except Er (List α × S)}, PostO K E Γ σ I O H Q r → PostO K E Γ σ I1 O1 H1 Q r
  | .ok (x, s'), h => fun l us I' O' H' t g' sat f => h l us I' O' H' t (g.trans g') sat (f.shift g)
  | .error .stuck, h => h
  | .error (.exc c fs), h => fun d I' O' H' t g' x => h d I' O' H' t (g.trans g') x
theorem PostO.bind [Enc α] {m : R S β} {k : β → R S (List α)} {s : S} (h : PostO K E Γ σ I O H Q (sb m k s)) :
    Post K E Γ σ I O H (fun x I1 H1 => Then I Γ σ (fun s1 I1 O1 H1 => PostO K E Γ σ I1 O1 H1 Q (k x s1)) I1 H1) (m s) := by
  unfold sb at h
  cases e : m s with
  | ok p =>
    obtain ⟨x, s1⟩ := p
    rw [e] at h
    exact fun I1 O1 H1 t g sat => ⟨g.ext, s1, O1, t, sat, PostO.shift g h⟩
  | error z =>
    rw [e] at h
    cases z with
    | stuck => exact h
    | exc c fs => exact h
theorem PostO.some_ [Enc α] {o : Option (List α)} {s : S} (h : PostO K E Γ σ I O H Q (so o s)) : ∃ x, o = some x ∧ PostO K E Γ σ I O H Q (sr x s) := by
  cases o with
  | none => exact False.elim h
  | some x => exact ⟨x, rfl, h⟩
/-- a new list laid just now -/
theorem PostO.new [Enc α] {xs : List α} {us : List V} {s : S} {p : Addr} (h : PostO K E Γ σ I O H Q (sr xs s)) (t : St3 I O H) (sat : Sat (Γ s) σ I O) (hp : H p = none) (r : All2 (Enc.rep K I) us xs) : Q (.ref p) (upd H p (.lst us)) :=
  h p us I O _ (t.other (t.fi hp) (t.fo hp)) ((Go.refl I O H).other hp) sat (.inl hp) upd_same (t.fi hp) (t.fo hp) r
/-- .. made still -/
theorem PostO.of [Enc α] : ∀ {r : Except Er (List α × S)}, Post K E Γ σ I O H (fun x I' H' => ∀ v, Enc.rep K I' v x → Q v H') r → PostO K E Γ σ I O H Q r
  | .ok (x, s'), h => fun l us I' O' H' t g sat f hl hI hO r => by
    have k := Same.upd_new (o := HO.lst us) hI
    refine h (upd I' l (.lst us)) O' H' ⟨fun b u e => ?_, t.so, fun b => ?_⟩ ⟨g.keep, g.ext.trans k, fun b e => ?_, g.no⟩ (sat.up k) (.ref l) ⟨l, us, rfl, upd_same, r.imp fun _ _ z => Enc.up k z⟩
    · by_cases hb : b = l
      · subst hb; rw [upd_same] at e; rw [← e]; exact hl
      · rw [upd_ne hb] at e; exact t.si b u e
    · by_cases hb : b = l
      · subst hb; exact .inr hO
      · rw [upd_ne hb]; exact t.dj b
    · by_cases hb : b = l
      · subst hb
        rcases f with z | z
        · exact .inr (.inl z)
        · exact .inr (.inr z)
      · rw [upd_ne hb] at e; exact g.ni b e
  | .error .stuck, h => h
  | .error (.exc c fs), h => h
end
theorem px_of {X : Cx} {E : EW} {S α : Type} [Enc α] {Γ : S → Gam} {e : Expr} {m : R S (List α)} (h : PXo X E Γ e m) : PX X E Γ e m := L2.PE.mono h fun σ H Q ⟨s, I, O, t, sat, q⟩ => ⟨s, I, O, t, sat, PostO.of q⟩
/-- name = a new list that will be changed -/
theorem own_in {K : Fg} {E : XK} {S α ρ τ β : Type} [Enc α] {Λ : τ → S → Gam} {Res : S → Hp → Hp → V → β → Prop} {Δ : ρ → S → Gam} {Γ : S → Gam} {i : Nat} {D : Ends} {σ : L2.St} {m : R S (List α)} {kk : List α → R S (Out ρ τ β)} {s : S} {I O H : Hp} (t : St3 I O H) (sat : Sat (Γ s) σ I O)
    (q : PostB K E Λ Res Δ I O H D (sb m kk s)) : PostO K E Γ σ I O H (fun v H1 => ∃ a, tB K (kE E) Λ Res (fun s => (Γ s).put i (sL K a)) Δ (kk a) D (σ.set i (some v)) H1) (m s) := by
  unfold sb at q
  cases em : m s with
  | error z =>
    rw [em] at q
    cases z with
    | stuck => exact q
    | exc c fs => exact q
  | ok p =>
    obtain ⟨xs, s1⟩ := p
    rw [em] at q
    intro l us I1 O1 H1 t1 g1 sat1 f hl hI hO r
    have e : uni (upd (fun _ => none) l (.lst us)) O1 = upd O1 l (.lst us) := by
      funext b; unfold uni upd; by_cases hb : b = l <;> simp [hb]
    refine ⟨xs, s1, I1, upd O1 l (.lst us), ⟨t1.si, fun b u e => ?_, fun b => ?_⟩, ?_, PostB.shift ⟨g1.keep, g1.ext, g1.ni, fun b e => ?_⟩ q⟩
    · by_cases hb : b = l
      · subst hb; rw [upd_same] at e; rw [← e]; exact hl
      · rw [upd_ne hb] at e; exact t1.so b u e
    · by_cases hb : b = l
      · subst hb; exact .inl hI
      · rw [upd_ne hb]; exact t1.dj b
    · rw [← e]
      refine Sat.put_ow (R := fun I O v => ∃ l vs, v = .ref l ∧ O l = some (.lst vs) ∧ All2 (Enc.rep K I) vs xs) ⟨l, us, rfl, upd_same, r⟩ (fun b => ?_) sat1
      by_cases hb : b = l
      · exact .inr (by rw [hb]; exact hO)
      · exact .inl (by rw [upd_ne hb])
    · by_cases hb : b = l
      · subst hb
        rcases f with z | z
        · exact .inr z
        · exact .inl z
      · rw [upd_ne hb] at e; exact g1.no b e
section
variable {X : Cx} {E : EW} {S ρ τ β α : Type} {Γ : S → Gam} {Λ : τ → S → Gam} {Res : S → Hp → Hp → V → β → Prop} {Δ : ρ → S → Gam} {pos pos' : Pos} {rest : List Stmt} {k : Nat}
theorem pb_setO {E : XK} (i : Nat) {x : Str} {e : Expr} [Enc α] {m : R S (List α)} {kk : List α → R S (Out ρ τ β)} (C : Ctx X (kE E) k) (he : PXo X (kE E) Γ e m) (hk : ∀ a, PB X (kE E) Λ Res (fun s => (Γ s).put i (sL X.K a)) rest Δ (kk a))
    (hi : X.N[i]? = some x := by rfl) (hx : Loc X.env.scope x := by first | exact Or.inl rfl | exact Or.inr rfl) (hs : swapsWith e (some (.Name x pos')) pos.line X.env = pure false := by rfl) (hf : X.fn x = true ∨ X.env.scope.names.lookup x = some .local := by first | exact .inl rfl | exact .inr rfl) :
    PB X (kE E) Λ Res Γ (.Assign [.Name x pos'] e pos :: rest) Δ (sb m kk) :=
  (pss_cons (ps_set C.nd hi hx he hs hf) (L2.PSs.ex hk)).mono fun D σ H ⟨s, I, O, t, sat, q⟩ => ⟨s, I, O, t, sat, own_in t sat q⟩
theorem po_lst {es : List Expr} [Enc α] {m : R S (List α)} (h : PLx X E Γ es m) : PXo X E Γ (.List es pos) (sb m fun a => so (plen a)) :=
  L2.PE.mono (pe_lst h) fun σ H Q ⟨s, I, O, t, sat, h⟩ => ⟨s, I, O, t, sat, h.bind.imp fun a I1 H1 ⟨_, s1, O1, t1, sat1, q1⟩ vs rv => by
    obtain ⟨ys, e, q2⟩ := q1.some_
    obtain ⟨rfl, hl⟩ := plen_some e
    exact ⟨by rw [rv.len]; exact hl, fun p hp => q2.new t1 sat1 hp rv⟩⟩
end
theorem takesE0 {X : Cx} : Takes X (fun cls d _ H => E0 cls d H) := fun _ _ ⟨_, _, _, _, _, _, _, _, _, _, _, _, _, _, _, _, w⟩ => w.elim
/-! ### comprehensions -/
def lcL {S α β : Type} (c : α → R S Bool) (f : α → R S β) : List α → List β → R S (List β)
  | [], acc => sr acc
  | x :: xs, acc => fun s => match c x s with
    | .ok (true, s1) => (match f x s1 with
      | .ok (y, s2) => (match papp acc y with
        | some a => lcL c f xs a s2
        | none => .error .stuck)
      | .error _ => .error .stuck)
    | .ok (false, s1) => lcL c f xs acc s1
    | .error _ => .error .stuck
section
variable {X : Cx} {E : EW} {S α β : Type} {Γ : S → Gam} {pos : Pos} {k : Nat}
theorem lc_core' [Enc α] [Enc β] {g : TG} {tt : TT} {te : TE} {wi : TI} {vs : List Nat} {m : R S (List α)} {c : α → R S Bool} {f : α → R S β} {up : Gam → α → Gam} {σ : L2.St} {H : Hp} {Q : VK}
    (hi : ∀ σ H Rr, (∃ s I O, St3 I O H ∧ Sat (Γ s) σ I O ∧ Post X.K (E σ) Γ σ I O H (fun xs I' H' => ∀ J, Serve X.K J I' xs → Rr J H') (m s)) → wi σ H Rr)
    (hu : ∀ s, (Γ s).forg vs = Γ s) (hup : ∀ g a, (up g a).forg vs = g.forg vs)
    (hg : ∀ v x σ I O H (Q : L2.St → Hp → Prop) Γ, Enc.rep X.K I v x → St3 I O H → Sat Γ σ I O → (∀ σ', Sat (up Γ x) σ' I O → wipe σ' vs = wipe σ vs → Q σ' H) → g v σ H Q)
    (ht : ∀ a σ H Q, tMT X.K (kE E0) (fun s => up ((Γ s).forg vs) a) (c a) σ H Q → tt σ H Q) (he : ∀ a σ H Q, tM X.K (kE E0) (fun s => up ((Γ s).forg vs) a) (f a) σ H Q → te σ H Q)
    (h : tMO X.K E Γ (sb m fun xs => lcL c f xs []) σ H Q) : tLc wi g tt te vs σ H Q := by
  obtain ⟨s, I, O, t, sat, q⟩ := h
  refine hi σ H _ ⟨s, I, O, t, sat, ?_⟩
  unfold sb at q
  cases em : m s with
  | error z =>
    rw [em] at q
    cases z with
    | stuck => exact q
    | exc c fs => exact q
  | ok p =>
    obtain ⟨xs, s1⟩ := p
    rw [em] at q
    intro I1 O1 H1 t1 gg sat1 J hJ D hD
    have q1 := PostO.shift gg q
    have satw := sat1.wipes (vs := vs)
    refine ⟨fun i n H => n = xs.length - i ∧ i ≤ xs.length ∧ ∃ s I O us ys, St3 I O H ∧ Go I1 O1 H1 I O H ∧ Sat (Γ s) σ I O ∧ H D = some (.lst us) ∧ I D = none ∧ O D = none ∧ All2 (Enc.rep X.K I) us ys ∧ PostO X.K (E σ) Γ σ I1 O1 H1 Q (lcL c f (xs.drop i) ys s),
      ⟨_, rfl, Nat.zero_le _, s1, I1, O1, [], [], t1.other (t1.fi hD) (t1.fo hD), (Go.refl ..).other hD, sat1, upd_same, t1.fi hD, t1.fo hD, trivial, q1⟩, ?_⟩
    rintro i n H2 ⟨rfl, hl, s2, I2, O2, us, ys, t2, g2, sat2, hD2, hI2, hO2, r2, q2⟩
    have sv := hJ I2 O2 H2 t2 g2.ext
    by_cases hlt : i < xs.length
    · have hx : xs[i]? = some xs[i] := by simp [hlt]
      have hgo := sv.1 i _ hx
      refine .inr ⟨hgo.1, fun H => ∃ s I O us ys, St3 I O H ∧ Go I1 O1 H1 I O H ∧ Sat (Γ s) σ I O ∧ H D = some (.lst us) ∧ I D = none ∧ O D = none ∧ All2 (Enc.rep X.K I) us ys ∧ PostO X.K (E σ) Γ σ I1 O1 H1 Q (lcL c f (xs.drop (i + 1)) ys s), fun H' z => ⟨xs.length - (i + 1), by omega, rfl, hlt, z⟩, fun x H3 y => ?_⟩
      obtain ⟨I3, t3, g3, r3⟩ := hgo.2 x H3 y
      have keepD : ∀ {Ia Oa Ha Ib Ob Hb : Hp} {us : List V}, Go Ia Oa Ha Ib Ob Hb → Ha D = some (.lst us) → Ia D = none → Oa D = none → Hb D = some (.lst us) ∧ Ib D = none ∧ Ob D = none := by
        intro Ia Oa Ha Ib Ob Hb us g h1 h2 h3
        refine ⟨g.keep D _ h1 h3, ?_, ?_⟩
        · cases z : Ib D with
          | none => rfl
          | some u =>
            rcases g.ni D (nn z) with y | y | y
            · exact absurd h2 y
            · rw [h1] at y; cases y
            · exact absurd h3 y
        · cases z : Ob D with
          | none => rfl
          | some u =>
            rcases g.no D (nn z) with y | y
            · exact absurd h3 y
            · rw [h1] at y; cases y
      obtain ⟨hD3, hI3, hO3⟩ := keepD g3 hD2 hI2 hO2
      rw [drop_cons hx] at q2
      unfold lcL at q2
      refine hg x _ (wipe σ vs) I3 O2 H3 _ ((Γ s2).forg vs) r3 t3 ((sat2.up g3.ext).wipes) fun σ' sat' hw => ?_
      have hww : wipe σ' vs = wipe σ vs := by rw [hw, wipe_idem]
      have home : ∀ {s : S} {I O : Hp}, Sat (up ((Γ s).forg vs) xs[i]) σ' I O → Sat (Γ s) σ I O := fun {s I O} h => by
        have h1 := h.wipes (vs := vs)
        rw [hup, hww, hu s, hu s] at h1
        rw [← hu s] at h1 ⊢
        exact h1.unwipe
      refine ⟨hww, ht _ _ _ _ ⟨s2, I3, O2, t3, sat', ?_⟩⟩
      cases ec : c xs[i] s2 with
      | error z => rw [ec] at q2; exact q2.elim
      | ok p =>
        obtain ⟨b, s3⟩ := p
        rw [ec] at q2
        intro I4 O4 H4 t4 g4 sat4
        obtain ⟨hD4, hI4, hO4⟩ := keepD g4 hD3 hI3 hO3
        cases b with
        | false => exact iteF ⟨s3, I4, O4, us, ys, t4, (g2.trans g3).trans g4, home sat4, hD4, hI4, hO4, r2.imp fun _ _ z => Enc.up (g3.ext.trans g4.ext) z, q2⟩
        | true =>
          refine iteT (he _ _ _ _ ⟨s3, I4, O4, t4, sat4, ?_⟩)
          dsimp only at q2
          cases ef : f xs[i] s3 with
          | error z => rw [ef] at q2; exact q2.elim
          | ok p =>
            obtain ⟨y, s4⟩ := p
            rw [ef] at q2
            intro I5 O5 H5 t5 g5 sat5 u ru
            obtain ⟨hD5, hI5, hO5⟩ := keepD g5 hD4 hI4 hO4
            dsimp only at q2
            cases ea : papp ys y with
            | none => rw [ea] at q2; exact q2.elim
            | some zs =>
              rw [ea] at q2
              unfold papp at ea
              split at ea
              · rename_i hlen
                cases ea
                have r5 := r2.imp fun _ _ z => Enc.up ((g3.ext.trans g4.ext).trans g5.ext) z
                exact ⟨us, hD5, by rw [r2.len, sizeLine_eq]; exact hlen, s4, I5, O5, us ++ [u], ys ++ [y], t5.other hI5 hO5, ((((g2.trans g3).trans g4).trans g5)).other hD, home sat5, upd_same, hI5, hO5, r5.app ⟨ru, trivial⟩, q2⟩
              · cases ea
    · have e : i = xs.length := by omega
      subst e
      rw [List.drop_length] at q2
      exact .inl ⟨sv.2, q2 D us I2 O2 H2 t2 g2 sat2 (.inl hD) hD2 hI2 hO2 r2⟩
/-- [e for name in xs if c]: sources, tests and elements; vs: the slots of the comprehension's own names, which hold nothing ahead -/
theorem po_lc1 (i : Nat) {x : Str} {elt iter : Expr} {ifs : List Expr} {scope : Scope} {own : List (Str × Nat)} {px : Pos} [Enc α] [Enc β] {m : R S (List α)} {c : α → R S Bool} {f : α → R S β} (C : Ctx X E k)
    (hi : IX X E Γ (.Name x px) iter m) (ok : BlkOk X.N X.env.scope scope own) (hu : ∀ s, (Γ s).forg (own.map (·.2)) = Γ s) (hown : i ∈ own.map (·.2))
    (hg : ∀ (s : Shared) (H : Hp) (D : Addr) (cl : List (Str × Addr)) (fp : List Addr), PG (X.blk s H scope (compEnvC scope cl D X.env) fp) (.Name x px) (gName i))
    (ht : ∀ (s : Shared) (H : Hp) (D : Addr) (cl : List (Str × Addr)) (fp : List Addr), ∀ a, PTs (X.blk s H scope (compEnvC scope cl D X.env) fp) ifs (tMT X.K (kE E0) (fun s => ((Γ s).forg (own.map (·.2))).put i (sI X.K a)) (c a)))
    (he : ∀ (s : Shared) (H : Hp) (D : Addr) (cl : List (Str × Addr)) (fp : List Addr), Ctx (X.blk s H scope (compEnvC scope cl D X.env) fp) (kE E0) k → ∀ a, PX (X.blk s H scope (compEnvC scope cl D X.env) fp) (kE E0) (fun s => ((Γ s).forg (own.map (·.2))).put i (sI X.K a)) elt (f a))
    (hs : ∀ x, foldedSetIterable iter X.env x = pure x := by intro _; rfl) : PXo X E Γ (.ListComp elt [⟨.Name x px, iter, ifs, 0⟩] scope pos) (sb m fun xs => lcL c f xs []) := by
  obtain ⟨wi, i1, i2⟩ := hi.ex
  refine L2.PE.mono (pe_lc C.calm C.nd i1 ok hg (fun s H D cl fp => L2.PTs.ex (t := fun a => tMT X.K (kE E0) (fun s => ((Γ s).forg (own.map (·.2))).put i (sI X.K a)) (c a)) (ht s H D cl fp)) (fun s H D cl fp => L2.PE.ex (t := fun a => tM X.K (kE E0) (fun s => ((Γ s).forg (own.map (·.2))).put i (sI X.K a)) (f a)) (he s H D cl fp ⟨fun σ pins H s e s' I c => passL pins σ H s e s' I c, PassesOwn.never, C.room, C.nd, C.calm, takesE0⟩)) hs) fun σ H Q h => ?_
  exact lc_core' (up := fun g a => g.put i (sI X.K a)) (c := c) (f := f) i2 hu (fun g a => Gam.forg_in _ g i _ hown) (fun v a σ I O H Q Γ r t sat h => h _ (sat.put_im r) (wipe_set σ i _ hown)) (fun a σ H Q h => ⟨a, h⟩) (fun a σ H Q h => ⟨a, h⟩) h
/-- name = [e for ..] on one line, the name no cell -/
theorem pb_setLc1 {E : XK} {ρ τ β' : Type} {Λ : τ → S → Gam} {Res : S → Hp → Hp → V → β' → Prop} {Δ : ρ → S → Gam} {pos' spos : Pos} {rest : List Stmt} (iy : Nat) (i : Nat) {x y : Str} {elt iter : Expr} {ifs : List Expr} {scope : Scope} {own : List (Str × Nat)} {px : Pos} [Enc α] [Enc β] {m : R S (List α)} {c : α → R S Bool} {f : α → R S β} {kk : List β → R S (Out ρ τ β')} (C : Ctx X (kE E) k)
    (hi : IX X (kE E) Γ (.Name x px) iter m) (ok : BlkOk X.N X.env.scope scope own) (hu : ∀ s, (Γ s).forg (own.map (·.2)) = Γ s) (hown : i ∈ own.map (·.2))
    (hg : ∀ (s : Shared) (H : Hp) (D : Addr) (cl : List (Str × Addr)) (fp : List Addr), PG (X.blk s H scope (compEnvC scope cl D X.env) fp) (.Name x px) (gName i))
    (ht : ∀ (s : Shared) (H : Hp) (D : Addr) (cl : List (Str × Addr)) (fp : List Addr), ∀ a, PTs (X.blk s H scope (compEnvC scope cl D X.env) fp) ifs (tMT X.K (kE E0) (fun s => ((Γ s).forg (own.map (·.2))).put i (sI X.K a)) (c a)))
    (he : ∀ (s : Shared) (H : Hp) (D : Addr) (cl : List (Str × Addr)) (fp : List Addr), Ctx (X.blk s H scope (compEnvC scope cl D X.env) fp) (kE E0) k → ∀ a, PX (X.blk s H scope (compEnvC scope cl D X.env) fp) (kE E0) (fun s => ((Γ s).forg (own.map (·.2))).put i (sI X.K a)) elt (f a))
    (hk : ∀ a, PB X (kE E) Λ Res (fun s => (Γ s).put iy (sL X.K a)) rest Δ (kk a))
    (hy : X.N[iy]? = some y := by rfl) (hyl : X.env.scope.names.lookup y = some .local := by rfl) (hsw : swapsWith (.ListComp elt [⟨.Name x px, iter, ifs, 0⟩] scope pos) (some (.Name y pos')) spos.line X.env = pure true := by exact sw_true rfl rfl rfl (by decide +kernel))
    (hs : ∀ x, foldedSetIterable iter X.env x = pure x := by intro _; rfl) : PB X (kE E) Λ Res Γ (.Assign [.Name y pos'] (.ListComp elt [⟨.Name x px, iter, ifs, 0⟩] scope pos) spos :: rest) Δ (sb (sb m fun xs => lcL c f xs []) kk) := by
  obtain ⟨wi, i1, i2⟩ := hi.ex
  refine (pss_cons (ps_setLc C.calm C.nd hy hyl hsw i1 ok hg (fun s H D cl fp => L2.PTs.ex (t := fun a => tMT X.K (kE E0) (fun s => ((Γ s).forg (own.map (·.2))).put i (sI X.K a)) (c a)) (ht s H D cl fp)) (fun s H D cl fp => L2.PE.ex (t := fun a => tM X.K (kE E0) (fun s => ((Γ s).forg (own.map (·.2))).put i (sI X.K a)) (f a)) (he s H D cl fp ⟨fun σ pins H s e s' I c => passL pins σ H s e s' I c, PassesOwn.never, C.room, C.nd, C.calm, takesE0⟩)) hs) (L2.PSs.ex hk)).mono fun D σ H ⟨s, I, O, t, sat, q⟩ => ?_
  have key : tLc wi (gName i) (fun σ H Q => ∃ a, tMT X.K (kE E0) (fun s => ((Γ s).forg (own.map (·.2))).put i (sI X.K a)) (c a) σ H Q) (fun σ H Q => ∃ a, tM X.K (kE E0) (fun s => ((Γ s).forg (own.map (·.2))).put i (sI X.K a)) (f a) σ H Q) (own.map (·.2)) σ H (fun v H1 => ∃ a, tB X.K (kE E) Λ Res (fun s => (Γ s).put iy (sL X.K a)) Δ (kk a) D (σ.set iy (some v)) H1) :=
    lc_core' (g := gName i) (up := fun g a => g.put i (sI X.K a)) (c := c) (f := f) i2 hu (fun g a => Gam.forg_in _ g i _ hown) (fun v a σ I O H Q Γ r t sat h => h _ (sat.put_im r) (wipe_set σ i _ hown)) (fun a σ H Q h => ⟨a, h⟩) (fun a σ H Q h => ⟨a, h⟩) ⟨s, I, O, t, sat, own_in t sat q⟩
  exact key
end
end Mi

set_option Elab.async false
set_option linter.all false
set_option maxRecDepth 100000
set_option maxHeartbeats 4000000
namespace Mi
open PySem PySem.Spec PyProof.Rows L2

/-! ### texts -/
section
variable {X : Cx} {E : EW} {S : Type} {Γ : S → Gam} {pos : Pos}
def pcat (x y : Str) : Option Str := if x.length + y.length ≤ 16777216 then some (x ++ y) else none
theorem px_cat {a b : Expr} {ma mb : R S Str} (ha : PX X E Γ a ma) (hb : PX X E Γ b mb) : PX X E Γ (.BinOp a .Add b pos) (sb ma fun x => sb mb fun y => so (pcat x y)) :=
  px_bin (pe_op op_add_str) ha hb fun x y v w s σ I O H Q rv rw t sat h => by
    obtain ⟨z, e, h⟩ := h.some_
    unfold pcat at e
    split at e
    · rename_i c
      cases e
      exact ⟨x, y, rv, rw, by rw [sizeLine_eq]; exact c, h.at_ t sat _ rfl⟩
    · cases e
def ppow (i j : Int) : Option Int := if 0 ≤ j ∧ j ≤ 1000000 ∧ i.natAbs < 2 ^ 64 then some (i ^ j.toNat) else none
theorem px_pow {a b : Expr} {ma mb : R S Int} (ha : PX X E Γ a ma) (hb : PX X E Γ b mb) : PX X E Γ (.BinOp a .Pow b pos) (sb ma fun x => sb mb fun y => so (ppow x y)) :=
  px_bin (pe_op op_pow) ha hb fun x y v w s σ I O H Q rv rw t sat h => by
    obtain ⟨z, e, h⟩ := h.some_
    unfold ppow at e
    split at e
    · rename_i c
      cases e
      exact ⟨x, y, rv, rw, c, h.at_ t sat _ rfl⟩
    · cases e
/-- lists joined -/
def plcat {α : Type} (x y : List α) : Option (List α) := if x.length + y.length ≤ 16777216 then some (x ++ y) else none
theorem px_lcat {α : Type} [Enc α] {a b : Expr} {ma mb : R S (List α)} (ha : PX X E Γ a ma) (hb : PX X E Γ b mb) : PX X E Γ (.BinOp a .Add b pos) (sb ma fun x => sb mb fun y => so (plcat x y)) :=
  px_bin (pe_op op_cat) ha hb fun x y v w s σ I O H Q rv rw t sat h => by
    obtain ⟨z, e, h⟩ := h.some_
    unfold plcat at e
    split at e
    · rename_i c
      cases e
      obtain ⟨l, vs, rfl, q1, r1⟩ := rv
      obtain ⟨l', vs', rfl, q2, r2⟩ := rw
      refine ⟨l, l', vs, vs', rfl, rfl, t.si _ _ q1, t.si _ _ q2, by rw [r1.len, r2.len, sizeLine_eq]; exact c, fun p hp => ?_⟩
      have k := Same.upd_new (o := HO.lst (vs ++ vs')) (t.fi hp)
      exact h.laid (o := .lst (vs ++ vs')) t sat hp (.ref p) ⟨p, _, rfl, upd_same, (r1.app r2).imp fun _ _ z => Enc.up k z⟩
    · cases e
/-- a part of a slice -/
structure PPx (X : Cx) (E : EW) (Γ : S → Gam) (o : Option Expr) (m : R S (Option Int)) : Prop where
  ex : ∃ t, PO X o t ∧ ∀ σ H Q, (∃ s I O, St3 I O H ∧ Sat (Γ s) σ I O ∧ Post X.K (E σ) Γ σ I O H (fun x _ H' => Q x H') (m s)) → t σ H Q
theorem pp_none : PPx X E Γ none (sr none) := ⟨_, po_none, fun σ H Q ⟨s, I, O, t, sat, h⟩ => h.at_ t sat⟩
theorem pp_some {e : Expr} {m : R S Int} (h : PX X E Γ e m) : PPx X E Γ (some e) (sb m fun i => sr (some i)) :=
  ⟨_, po_some h, fun σ H Q ⟨s, I, O, t, sat, h⟩ => ⟨s, I, O, t, sat, h.bind.imp fun x I1 H1 ⟨_, s1, O1, t1, sat1, h1⟩ v rv => ⟨x, rv, h1.at_ t1 sat1⟩⟩⟩
def pcutS (z : Str) (lo hi : Option Int) : Option Str := if z.length ≤ 16777216 then some (cutS z lo hi) else none
theorem px_cutS {a : Expr} {lo hi : Option Expr} {p2 : Pos} {m : R S Str} {ml mh : R S (Option Int)} (ha : PX X E Γ a m) (hl : PPx X E Γ lo ml) (hh : PPx X E Γ hi mh) :
    PX X E Γ (.Subscript a (.Slice lo hi none p2) pos) (sb m fun x => sb ml fun l => sb mh fun u => so (pcutS x l u)) := by
  obtain ⟨tl, l1, l2⟩ := hl.ex
  obtain ⟨th, h1, h2⟩ := hh.ex
  exact L2.PE.mono (pe_slice sl_str ha l1 h1) fun σ H Q ⟨s, I, O, t, sat, h⟩ => ⟨s, I, O, t, sat, h.bind.imp fun x I1 H1 ⟨_, s1, O1, t1, sat1, q1⟩ v rv => l2 _ _ _ ⟨s1, I1, O1, t1, sat1, q1.bind.imp fun l I2 H2 ⟨_, s2, O2, t2, sat2, q2⟩ =>
    h2 _ _ _ ⟨s2, I2, O2, t2, sat2, q2.bind.imp fun u I3 H3 ⟨_, s3, O3, t3, sat3, q3⟩ => by
      obtain ⟨z, e, q4⟩ := q3.some_
      unfold pcutS at e
      split at e
      · rename_i c
        cases e
        exact ⟨x, rv, by rw [sizeLine_eq]; exact c, q4.at_ t3 sat3 _ rfl⟩
      · cases e⟩⟩⟩
def cutL {α : Type} (xs : List α) (lo hi : Option Int) : List α := (xs.drop (HT.sIx xs.length 0 lo)).take (HT.sIx xs.length xs.length hi - HT.sIx xs.length 0 lo)
theorem px_cutL {α : Type} [Enc α] {a : Expr} {lo hi : Option Expr} {p2 : Pos} {m : R S (List α)} {ml mh : R S (Option Int)} (ha : PX X E Γ a m) (hl : PPx X E Γ lo ml) (hh : PPx X E Γ hi mh) :
    PX X E Γ (.Subscript a (.Slice lo hi none p2) pos) (sb m fun x => sb ml fun l => sb mh fun u => sr (cutL x l u)) := by
  obtain ⟨tl, l1, l2⟩ := hl.ex
  obtain ⟨th, h1, h2⟩ := hh.ex
  exact L2.PE.mono (pe_slice sl_list ha l1 h1) fun σ H Q ⟨s, I, O, t, sat, h⟩ => ⟨s, I, O, t, sat, h.bind.imp fun x I1 H1 ⟨_, s1, O1, t1, sat1, q1⟩ v rv => l2 _ _ _ ⟨s1, I1, O1, t1, sat1, q1.bind.imp fun l I2 H2 ⟨e2, s2, O2, t2, sat2, q2⟩ =>
    h2 _ _ _ ⟨s2, I2, O2, t2, sat2, q2.bind.imp fun u I3 H3 ⟨e3, s3, O3, t3, sat3, q3⟩ => by
      obtain ⟨b, vs, rfl, q, r⟩ := rv
      refine ⟨b, vs, rfl, SqL.of (t3.si _ _ (e3 _ _ (e2 _ _ q))), fun p hp => ?_⟩
      have k := Same.upd_new (o := HO.lst (cutV vs l u)) (t3.fi hp)
      refine q3.laid (o := .lst (cutV vs l u)) t3 sat3 hp (.ref p) ⟨p, _, rfl, upd_same, ?_⟩
      unfold cutV cutL
      rw [← r.len]
      exact ((r.imp fun _ _ z => Enc.up ((e2.trans e3).trans k) z).dropN _).takeN _⟩⟩⟩
theorem px_cutR {α : Type} [Enc α] {a : Expr} {lo hi : Option Expr} {p2 : Pos} {m : R S (Ro α)} {ml mh : R S (Option Int)} (ha : PX X E Γ a m) (hl : PPx X E Γ lo ml) (hh : PPx X E Γ hi mh) :
    PX X E Γ (.Subscript a (.Slice lo hi none p2) pos) (sb m fun x => sb ml fun l => sb mh fun u => sr (cutL x.l l u)) := by
  obtain ⟨tl, l1, l2⟩ := hl.ex
  obtain ⟨th, h1, h2⟩ := hh.ex
  exact L2.PE.mono (pe_slice sl_list ha l1 h1) fun σ H Q ⟨s, I, O, t, sat, h⟩ => ⟨s, I, O, t, sat, h.bind.imp fun x I1 H1 ⟨_, s1, O1, t1, sat1, q1⟩ v rv => l2 _ _ _ ⟨s1, I1, O1, t1, sat1, q1.bind.imp fun l I2 H2 ⟨e2, s2, O2, t2, sat2, q2⟩ =>
    h2 _ _ _ ⟨s2, I2, O2, t2, sat2, q2.bind.imp fun u I3 H3 ⟨e3, s3, O3, t3, sat3, q3⟩ => by
      obtain ⟨b, vs, rfl, q, r⟩ := rv
      refine ⟨b, vs, rfl, t3.si.seq (e3.seq (e2.seq q)), fun p hp => ?_⟩
      have k := Same.upd_new (o := HO.lst (cutV vs l u)) (t3.fi hp)
      refine q3.laid (o := .lst (cutV vs l u)) t3 sat3 hp (.ref p) ⟨p, _, rfl, upd_same, ?_⟩
      unfold cutV cutL
      rw [← r.len]
      exact ((r.imp fun _ _ z => Enc.up ((e2.trans e3).trans k) z).dropN _).takeN _⟩⟩⟩
/-- one sign in a text -/
def pinS (x y : Str) : Option Bool := match x.cps.toList with
  | [c] => some (decide (c ∈ y.cps.toList))
  | _ => none
theorem pinS_some {x y : Str} {b : Bool} (h : pinS x y = some b) : ∃ c, x = ⟨#[c]⟩ ∧ b = decide (c ∈ y.cps.toList) := by
  unfold pinS at h
  split at h
  · rename_i c e
    cases h
    refine ⟨c, ?_, rfl⟩
    obtain ⟨cps⟩ := x
    have : cps = #[c] := by
      have := congrArg List.toArray e
      simpa using this
    rw [this]
  · cases h
theorem px_inS {a b : Expr} {ma mb : R S Str} (ha : PX X E Γ a ma) (hb : PX X E Γ b mb) (hm : behindInMarks .In b = false := by rfl) : CB X E Γ (.Compare a [.In] [b] pos) (sb ma fun x => sb mb fun y => so (pinS x y)) :=
  px_cmp op_in_sign ha hb hm fun x y v w s σ I O H Q rv rw t sat h => by
    obtain ⟨z, e, h⟩ := h.some_
    obtain ⟨c, rfl, rfl⟩ := pinS_some e
    exact ⟨c, y, rv, rw, h.at_ t sat _ rfl⟩
theorem px_notInS {a b : Expr} {ma mb : R S Str} (ha : PX X E Γ a ma) (hb : PX X E Γ b mb) (hm : behindInMarks .NotIn b = false := by rfl) : CB X E Γ (.Compare a [.NotIn] [b] pos) (sb ma fun x => sb mb fun y => sb (so (pinS x y)) fun z => sr (!z)) :=
  px_cmp op_notIn_sign ha hb hm fun x y v w s σ I O H Q rv rw t sat h => by
    cases e : pinS x y with
    | none => rw [e] at h; exact False.elim h
    | some z =>
      rw [e] at h
      obtain ⟨c, rfl, rfl⟩ := pinS_some e
      exact ⟨c, y, rv, rw, Post.at_ (x := !_) h t sat _ rfl⟩
def signs (z : Str) : List Str := z.cps.toList.map fun c => ⟨#[c]⟩
theorem ix_s {tg iter : Expr} {m : R S Str} (h : PX X E Γ iter m) : IX X E Γ tg iter (sb m fun x => sr (signs x)) :=
  ⟨_, pi_str h, fun σ H Rr ⟨s, I, O, t, sat, q⟩ => ⟨s, I, O, t, sat, q.bind.impT fun x I1 O1 H1 t1 _ ⟨_, s2, O2, t2, sat2, z⟩ v rv => ⟨x, rv, z.at_ t2 sat2 _ fun I3 O3 H3 t3 e3 => by
    refine ⟨fun i y hy => ?_, by show x.cps.size ≤ (signs x).length; simp [signs]⟩
    unfold signs at hy
    rw [List.getElem?_map] at hy
    cases q : x.cps.toList[i]? with
    | none => rw [q] at hy; cases hy
    | some c =>
      rw [q] at hy
      cases hy
      obtain ⟨h1, h2⟩ := List.getElem?_eq_some_iff.mp q
      have h1' : i < x.cps.size := by simpa using h1
      refine ⟨h1', fun u H2 y => ?_⟩
      obtain ⟨rfl, d, hd, rfl⟩ := y
      have e : d = c := by
        have : x.cps[i]? = some c := by simpa using q
        rw [this] at hd
        exact (Option.some.inj hd).symm
      subst e
      exact ⟨I3, t3, Go.refl .., rfl⟩⟩⟩⟩
def pupper (a : Str) : Option Str := if a.length ≤ 5592405 then some (Txt.upper a) else none
theorem px_upper {e : Expr} {apos : Pos} {m : R S Str} (h : PX X E Γ e m) (hbase : attributeBase e "upper" X.env (eval e X.env) = eval e X.env := by rfl) (hline : (apos.endLine == pos.line) = true := by rfl) :
    PX X E Γ (.Call (.Attribute e "upper" apos) [] [] pos) (sb m fun x => so (pupper x)) :=
  L2.PE.mono (pe_upper h hbase hline) fun σ H Q ⟨s, I, O, t, sat, h⟩ => ⟨s, I, O, t, sat, h.bind.imp fun x I1 H1 ⟨_, s1, O1, t1, sat1, h1⟩ v rv => by
    obtain ⟨z, e, q⟩ := h1.some_
    have ev : v = .str x := rv
    subst ev
    unfold pupper at e
    split at e
    · rename_i c
      cases e
      exact ⟨⟨_, rfl⟩, x, rfl, rfl, c, q.at_ t1 sat1 _ rfl⟩
    · cases e⟩
/-! ### truth values that are the very ones -/
theorem px_isB {a b : Expr} {ma mb : R S Bool} (ha : PX X E Γ a ma) (hb : PX X E Γ b mb) : CB X E Γ (.Compare a [.Is] [b] pos) (sb ma fun x => sb mb fun y => sr (decide (x = y))) :=
  px_cmp op_isBl ha hb (nomark _) fun x y v w s σ I O H Q rv rw t sat h => ⟨x, y, rv, rw, h.at_ t sat _ rfl⟩
theorem px_isNotB {a b : Expr} {ma mb : R S Bool} (ha : PX X E Γ a ma) (hb : PX X E Γ b mb) : CB X E Γ (.Compare a [.IsNot] [b] pos) (sb ma fun x => sb mb fun y => sr (!decide (x = y))) :=
  px_cmp op_notBl ha hb (nomark _) fun x y v w s σ I O H Q rv rw t sat h => ⟨x, y, rv, rw, h.at_ t sat _ rfl⟩
/-- a <= b <= c of ints -/
theorem px_le2 {a b c : Expr} {ma mb mc : R S Int} (ha : PX X E Γ a ma) (hb : PX X E Γ b mb) (hc : PX X E Γ c mc) (hm : lastMarks [.LtE, .LtE] [b, c] = false := by with_unfolding_all rfl) :
    CB X E Γ (.Compare a [.LtE, .LtE] [b, c] pos) (sb ma fun x => sb mb fun y => if x ≤ y then sb mc fun z => sr (decide (y ≤ z)) else sr false) := by
  have key : ∀ σ H Q, tM X.K E Γ (sb ma fun x => sb mb fun y => if x ≤ y then sb mc fun z => sr (decide (y ≤ z)) else sr false) σ H Q → tChain (rI0 fun i j => .bl (decide (i ≤ j))) (rI0 fun i j => .bl (decide (i ≤ j))) (tM X.K E Γ ma) (tM X.K E Γ mb) (tM X.K E Γ mc) σ H Q := by
    intro σ H Q ⟨s, I, O, t, sat, h⟩
    refine ⟨s, I, O, t, sat, h.bind.imp fun x I1 H1 ⟨_, s1, O1, t1, sat1, q1⟩ v rv => ⟨s1, I1, O1, t1, sat1, q1.bind.imp fun y I2 H2 ⟨_, s2, O2, t2, sat2, q2⟩ w rw => ?_⟩⟩
    refine ⟨x, y, rv, rw, decide (x ≤ y), rfl, ?_⟩
    by_cases c : x ≤ y
    · rw [decide_eq_true c]
      rw [if_pos c] at q2
      exact iteT ⟨s2, I2, O2, t2, sat2, q2.bind.imp fun z I3 H3 ⟨_, s3, O3, t3, sat3, q3⟩ u ru => ⟨y, z, rw, ru, q3.at_ t3 sat3 _ rfl⟩⟩
    · rw [decide_eq_false c]
      rw [if_neg c] at q2
      exact iteF (q2.at_ t2 sat2 _ rfl)
  exact ⟨L2.PE.mono (pe_chain op_le op_le ha hb hc hm) key, L2.PT.mono (pt_chain op_le op_le ha hb hc hm) fun σ H Q ⟨s, I, O, t, sat, h⟩ => key σ H _ ⟨s, I, O, t, sat, h.imp fun x _ _ q v rv => ⟨x, rv, q⟩⟩⟩

/-! ### a module's constants -/
def Con1 (K : Fg) (mg : Str → Option Value) (x : Str) {α : Type} [Enc α] (a : α) : Prop := ∃ u v, mg x = some u ∧ RelV v u ∧ ∀ I, Enc.rep K I v a
theorem px_glob {α : Type} [Enc α] {x : Str} {a : α} (h : Con1 X.K X.mg x a) (hg : Gl X x := by rfl) (hd : (x == ("__debug__" : Str)) = false := by decide) : PX X E Γ (.Name x pos) (sr a) := by
  obtain ⟨u, v, h1, h2, h3⟩ := h
  exact L2.PE.mono (pe_glob hg h1 h2 hd) fun σ H Q ⟨s, I, O, t, sat, h⟩ => h.at_ t sat v (h3 I)
/-! ### any value -/
class ToD (α : Type) extends Enc α where
  toD : α → D
  rd : ∀ {K : Fg} {I : Hp} {v : V} {x : α}, rep K I v x → RD K I v (toD x)
abbrev toD {α : Type} [ToD α] (x : α) : D := ToD.toD x
instance : ToD Int := ⟨.int, fun {K I v x} h => by have e : v = .int x := h; subst e; exact .int x⟩
instance : ToD Bool := ⟨.bl, fun {K I v x} h => by have e : v = .bl x := h; subst e; exact .bl x⟩
instance : ToD Str := ⟨.str, fun {K I v x} h => by have e : v = .str x := h; subst e; exact .str x⟩
instance : ToD Unit := ⟨fun _ => .non, fun {K I v x} h => by have e : v = .non := h; subst e; exact .non⟩
instance : ToD D := ⟨fun x => x, fun h => h⟩
instance {α β : Type} [ToD α] [ToD β] : ToD (α × β) := ⟨fun x => .tup [toD x.1, toD x.2], fun {K I v x} h => by
  obtain ⟨a, u, w, rfl, q, r1, r2⟩ := h
  exact .tup q (.cons (ToD.rd r1) (.cons (ToD.rd r2) .nil))⟩
theorem rds_of {α : Type} [ToD α] {K : Fg} {I : Hp} : ∀ {vs : List V} {xs : List α}, All2 (Enc.rep K I) vs xs → RDs K I vs (xs.map toD)
  | [], [], _ => .nil
  | _ :: _, _ :: _, q => .cons (ToD.rd q.1) (rds_of q.2)
  | [], _ :: _, q => q.elim
  | _ :: _, [], q => q.elim
instance {α : Type} [ToD α] : ToD (List α) := ⟨fun x => .lst (x.map toD), fun {K I v x} h => by
  obtain ⟨a, vs, rfl, q, r⟩ := h
  exact .lst (SqL.of q) (rds_of r)⟩
instance {α : Type} [ToD α] : ToD (Option α) := ⟨fun x => match x with
    | none => .non
    | some y => toD y, fun {K I v x} h => by
  cases x with
  | none => have e : v = .non := h; subst e; exact .non
  | some y => exact ToD.rd h.2⟩
theorem px_toD {α : Type} [ToD α] {e : Expr} {m : R S α} (h : PX X E Γ e m) : PX X E Γ e (sb m fun z => sr (toD z)) :=
  L2.PE.mono h fun σ H Q ⟨s, I, O, t, sat, h⟩ => ⟨s, I, O, t, sat, h.bind.imp fun x I1 H1 ⟨_, s1, O1, t1, sat1, h1⟩ v rv => h1.at_ t1 sat1 v (ToD.rd rv)⟩
class OfD (α : Type) extends Enc α where
  ofD : D → Option α
  dr : ∀ {K : Fg} {I : Hp} {v : V} {d : D} {x : α}, RD K I v d → ofD d = some x → rep K I v x
abbrev ofD {α : Type} [OfD α] (x : D) : Option α := OfD.ofD x
instance : OfD Int := ⟨fun | .int i => some i | _ => none, fun {K I v d x} h e => by cases h <;> first | (cases e; exact rfl) | cases e⟩
instance : OfD Str := ⟨fun | .str i => some i | _ => none, fun {K I v d x} h e => by cases h <;> first | (cases e; exact rfl) | cases e⟩
instance : OfD Bool := ⟨fun | .bl i => some i | _ => none, fun {K I v d x} h e => by cases h <;> first | (cases e; exact rfl) | cases e⟩
theorem px_ofD {α : Type} [OfD α] {e : Expr} {m : R S D} (h : PX X E Γ e m) : PX X E Γ e (sb m fun z => so (ofD z : Option α)) :=
  L2.PE.mono h fun σ H Q ⟨s, I, O, t, sat, h⟩ => ⟨s, I, O, t, sat, h.bind.imp fun x I1 H1 ⟨_, s1, O1, t1, sat1, h1⟩ v rv => by
    obtain ⟨y, e, q⟩ := h1.some_
    exact q.at_ t1 sat1 v (OfD.dr rv e)⟩
theorem rds_all {K : Fg} {I : Hp} : ∀ {vs : List V} {xs : List D}, All2 (Enc.rep K I) vs xs → RDs K I vs xs
  | [], [], _ => .nil
  | _ :: _, _ :: _, q => .cons q.1 (rds_all q.2)
  | [], _ :: _, q => q.elim
  | _ :: _, [], q => q.elim
def pdlst (xs : List D) : Option D := if xs.length ≤ 16777216 then some (.lst xs) else none
def pdtup (xs : List D) : Option D := if xs.length ≤ 16777216 then some (.tup xs) else none
theorem px_dlst {es : List Expr} {m : R S (List D)} (h : PLx X E Γ es m) : PX X E Γ (.List es pos) (sb m fun a => so (pdlst a)) :=
  L2.PE.mono (pe_lst h) fun σ H Q ⟨s, I, O, t, sat, h⟩ => ⟨s, I, O, t, sat, h.bind.imp fun a I1 H1 ⟨_, s1, O1, t1, sat1, h1⟩ vs rv => by
    obtain ⟨ys, e, h2⟩ := h1.some_
    unfold pdlst at e
    split at e
    · rename_i c
      cases e
      refine ⟨by rw [rv.len, sizeLine_eq]; exact c, fun p hp => ?_⟩
      have k := Same.upd_new (o := HO.lst vs) (t1.fi hp)
      exact h2.laid (o := .lst vs) t1 sat1 hp (.ref p) (.lst (SqL.of upd_same) (RDs.up k (rds_all rv)))
    · cases e⟩
theorem px_dtup {es : List Expr} {x1} {m : R S (List D)} (h : PLx X E Γ es m) : PX X E Γ (.Tuple es x1 pos) (sb m fun a => so (pdtup a)) :=
  L2.PE.mono (pe_tup h) fun σ H Q ⟨s, I, O, t, sat, h⟩ => ⟨s, I, O, t, sat, h.bind.imp fun a I1 H1 ⟨_, s1, O1, t1, sat1, h1⟩ vs rv => by
    obtain ⟨ys, e, h2⟩ := h1.some_
    unfold pdtup at e
    split at e
    · rename_i c
      cases e
      refine ⟨by rw [rv.len, sizeLine_eq]; exact c, fun p hp => ?_⟩
      have k := Same.upd_new (o := HO.tup vs) (t1.fi hp)
      exact h2.laid (o := .tup vs) t1 sat1 hp (.ref p) (.tup (SqT.of upd_same) (RDs.up k (rds_all rv)))
    · cases e⟩
/-- {k: v}, one pair -/
def keyD : D → Option Key
  | .int i => some (.inl i)
  | .str x => some (.inr x)
  | _ => none
theorem px_ddct1 {a b : Expr} {ma mb : R S D} (ha : PX X E Γ a ma) (hb : PX X E Γ b mb) : PX X E Γ (.Dict [some a] [b] pos) (sb ma fun x => sb mb fun y => so ((keyD x).map fun _ => D.dct [(x, y)])) :=
  L2.PE.mono (pe_disp (pps_cons ha hb pps_nil) rfl rfl (fun z => by cases z) (by show 1 ≤ 15; decide)) fun σ H Q ⟨s, I, O, t, sat, h⟩ p hp => by
    have t0 := t.other (o := HO.dK []) (t.fi hp) (t.fo hp)
    have g0 := (Go.refl I O H).other (o := HO.dK []) hp
    have keepD : ∀ {Ib Ob Hb : Hp}, Go I O (upd H p (.dK [])) Ib Ob Hb → Hb p = some (.dK []) ∧ Ib p = none ∧ Ob p = none := by
      intro Ib Ob Hb g
      refine ⟨g.keep p _ upd_same (t.fo hp), ?_, ?_⟩
      · cases z : Ib p with
        | none => rfl
        | some u =>
          rcases g.ni p (nn z) with y | y | y
          · exact absurd (t.fi hp) y
          · rw [upd_same] at y; cases y
          · exact absurd (t.fo hp) y
      · cases z : Ob p with
        | none => rfl
        | some u =>
          rcases g.no p (nn z) with y | y
          · exact absurd (t.fo hp) y
          · rw [upd_same] at y; cases y
    unfold sb at h
    refine ⟨s, I, O, t0, sat, ?_⟩
    cases ea : ma s with
    | error z =>
      rw [ea] at h
      cases z with
      | stuck => exact h
      | exc c fs => exact fun d I' O' H' t' g' x => h d I' O' H' t' (g0.trans g') x
    | ok pa =>
      obtain ⟨x, s1⟩ := pa
      rw [ea] at h
      intro I1 O1 H1 t1 g1 sat1 v rv
      refine ⟨s1, I1, O1, t1, sat1, ?_⟩
      dsimp only at h
      cases eb : mb s1 with
      | error z =>
        rw [eb] at h
        cases z with
        | stuck => exact h
        | exc c fs => exact fun d I' O' H' t' g' x => h d I' O' H' t' ((g0.trans g1).trans g') x
      | ok pb =>
        obtain ⟨y, s2⟩ := pb
        rw [eb] at h
        intro I2 O2 H2 t2 g2 sat2 w rw
        obtain ⟨k1, k2, k3⟩ := keepD (g1.trans g2)
        obtain ⟨d, e, q⟩ := Post.some_ h
        cases ek : keyD x with
        | none => rw [ek] at e; cases e
        | some kk =>
          rw [ek] at e
          cases e
          have rv2 : RD X.K I2 v x := RD.up g2.ext rv
          have gg : Go I O H (upd I2 p (.dK [(kk, w)])) O2 (upd H2 p (.dK [(kk, w)])) := by
            have g3 := ((g0.trans g1).trans g2).other (o := HO.dK [(kk, w)]) hp
            refine ⟨g3.keep, g3.ext.trans (Same.upd_new k2), fun b e => ?_, g3.no⟩
            by_cases hb : b = p
            · subst hb; exact .inr (.inl hp)
            · rw [upd_ne hb] at e; exact g3.ni b e
          have t3 : St3 (upd I2 p (.dK [(kk, w)])) O2 (upd H2 p (.dK [(kk, w)])) := by
            refine ⟨fun b u e => ?_, fun b u e => ?_, fun b => ?_⟩
            · by_cases hb : b = p
              · subst hb; rw [upd_same] at e ⊢; exact e
              · rw [upd_ne hb] at e ⊢; exact t2.si b u e
            · rw [upd_ne (ne_of_none e k3)]; exact t2.so b u e
            · by_cases hb : b = p
              · subst hb; exact .inr k3
              · rw [upd_ne hb]; exact t2.dj b
          have ku := Same.upd_new (o := HO.dK [(kk, w)]) k2
          refine ⟨k1, [(kk, w)], ?_, (by show 1 ≤ 15; decide), q _ O2 _ t3 gg (sat2.up ku) (.ref p) ?_⟩
          · cases rv2 <;> cases ek <;> rfl
          · cases rv2 <;> cases ek
            · exact .dct upd_same (.int (RD.up ku rw) .nil)
            · exact .dct upd_same (.str (RD.up ku rw) .nil)
/-! ### isinstance with a built-in type -/
def tyD : D → Option String
  | .non => some "NoneType" | .bl _ => some "bool" | .int _ => some "int" | .str _ => some "str"
  | .tup _ => some "tuple" | .lst _ => some "list" | .dct _ => some "dict" | .obj _ _ => none
def isTy (T : String) (d : D) : Option Bool := (tyD d).bind fun t => kitB t T
theorem tyX_of {K : Fg} {I H : Hp} {v : V} {d : D} {t : String} (e : Same I H) (h : RD K I v d) (ht : tyD d = some t) : TyX K H v (.type t) := by
  cases h with
  | non => cases ht; exact .base .non
  | bl b => cases ht; exact .base (.bl b)
  | int i => cases ht; exact .base (.int i)
  | str x => cases ht; exact .base (.str x)
  | tup q r =>
    cases ht
    rcases sqT_up e q with (q | ⟨o, q⟩) | ⟨o, its, n, q1, q2, _⟩
    · exact .base (.tup q)
    · exact .fTuple q
    · exact .kTuple q1 q2
  | lst q r =>
    cases ht
    rcases e.seq q with (q | ⟨o, q⟩) | ⟨o, its, n, q1, q2, _⟩
    · exact .base (.lst q)
    · exact .base (.frz q)
    · exact .kList q1 q2
  | dct q r => cases ht; exact .base (.dK (e _ _ q))
  | obj q => cases ht
theorem px_isi {a : Expr} {T : String} {x : Str} {p p1 : Pos} {m : R S D} (hm : X.mg "isinstance" = none) (hT : X.mg x = none) (ha : PX X E Γ a m) (hv : bootBuiltins x = some (.type T) := by decide +kernel)
    (hg : Gl X "isinstance" := by rfl) (hgT : Gl X x := by rfl) (hn : x ≠ "__name__" := by decide) (hd : (x == ("__debug__" : Str)) = false := by decide)
    (h1 : starEach [a, .Name x p1] X.env = (false, eval a X.env) :: starEach [.Name x p1] X.env := by rfl) (h3 : starEach [.Name x p1] X.env = (false, eval (.Name x p1) X.env) :: starEach [] X.env := by rfl) (h2 : (backTo pos (starEach [.Name x p1] X.env)).any (·.1) = false := by rfl) :
    PX X E Γ (.Call (.Name "isinstance" p) [a, .Name x p1] [] pos) (sb m fun d => so (isTy T d)) :=
  L2.PE.mono (pe_callB call_isi hg hm (by decide +kernel) (pa_cons ha (pa_cons (pe_bltn (v := .ty T) hgT hT hv rfl hn hd) pa_nil h3) h1) (by decide) (by decide) h1 h2) fun σ H Q ⟨s, I, O, t, sat, h⟩ => ⟨s, I, O, t, sat, h.bind.impT fun d I1 O2 H1 t2 _ ⟨_, s1, O1, t1, sat1, h1⟩ v rv => by
    obtain ⟨b, e, q⟩ := h1.some_
    unfold isTy at e
    cases et : tyD d with
    | none => rw [et] at e; cases e
    | some t =>
      rw [et] at e
      exact ⟨v, .ty T, .type t, .type T, b, rfl, .ty T, tyX_of t1.si rv et, kit_ty e, q.at_ t1 sat1 _ rfl⟩⟩
end
end Mi

set_option Elab.async false
set_option linter.all false
set_option maxRecDepth 100000
set_option maxHeartbeats 4000000
/-! the laws' pool of draws: [cells, n], handed from def to def and changed by them -/
namespace Mi
open PySem PySem.Spec PyProof.Rows L2
structure Pool where
  cells : List Int
  n : Int
def PoolAt (O : Hp) (pa : Addr) (s : Pool) : Prop := ∃ c, O pa = some (.lst [.ref c, .int s.n]) ∧ O c = some (.lst (s.cells.map V.int))
theorem PoolAt.more {O O' : Hp} {pa : Addr} {s : Pool} (e : Same O O') : PoolAt O pa s → PoolAt O' pa s := fun ⟨c, h1, h2⟩ => ⟨c, e _ _ h1, e _ _ h2⟩
def sP (pa : Addr) (s : Pool) : Slot := .ow (fun _ O v => v = .ref pa ∧ PoolAt O pa s) fun _ _ _ _ _ h => h
def PostP {β : Type} [Enc β] (K : Fg) (E : XK) (pa : Addr) (I O H : Hp) (Q : VK) : Except Er (β × Pool) → Prop
  | .ok (b, s') => ∀ v I' O' H', St3 I' O' H' → Go I O H I' O' H' → PoolAt O' pa s' → Enc.rep K I' v b → Q v H'
  | .error .stuck => False
  | .error (.exc c fs) => ∀ d I' O' H', St3 I' O' H' → Go I O H I' O' H' → XD K I' H' d fs → E (.ref (He.ga K c)) (some d) H'
def spP {A β : Type} [Args A] [Enc β] (K : Fg) (f : A → R Pool β) : Sp := fun vs H Q E => ∃ a pa s I O ws, vs = .ref pa :: ws ∧ St3 I O H ∧ PoolAt O pa s ∧ Args.rep K I ws a ∧ PostP K E pa I O H Q (f a s)
section
variable {X : Cx} {E : EW} {Γ : Pool → Gam} {pos : Pos}
theorem px_callP {A β : Type} [Args A] [Enc β] (i : Nat) {x y : Str} {j k : Nat} {pa : Addr} {ps : List Str} {f : A → R Pool β} {es : List Expr} {p p1 : Pos} {ma : R Pool A} (F : Def X.prog X.w X.K X.mg X.base x j ps (spP X.K f)) (C : Ctx X E k) (ha : PAx X E Γ es ma)
    (hg : ∀ s, (Γ s).at i = sP pa s := by exact fun _ => rfl) (hp : ∀ s s', (Γ s).put i (sP pa s') = Γ s' := by exact fun _ _ => rfl) (hk : j ≤ k := by decide)
    (hN : X.N[i]? = some y := by rfl) (hv : Vis X.env.scope y := by first | exact Or.inl rfl | exact Or.inr (Or.inl rfl) | exact Or.inr (Or.inr rfl)) (hd : (y == ("__debug__" : Str)) = false := by decide) (hcd : (y == ("__classdict__" : Str)) = false := by decide)
    (hgl : Gl X x := by rfl) (hdb : (x == ("__debug__" : Str)) = false := by decide) (he : starEach (.Name y p1 :: es) X.env = (false, eval (.Name y p1) X.env) :: starEach es X.env := by rfl) (hpl : (backTo pos (starEach es X.env)).any (·.1) = false := by rfl) :
    PX X E Γ (.Call (.Name x p) (.Name y p1 :: es) [] pos) (sb ma f) := by
  obtain ⟨g, fd, h1, h2, h3, h4⟩ := F.ex
  refine L2.PE.mono (pe_callS h4 (C.room.mono hk) hgl h1 h2 h3 C.pas (pa_cons (pe_var hN hv hd hcd) ha he) hdb he hpl) fun σ H Q ⟨s, I, O, t, sat, h⟩ => ?_
  obtain ⟨v0, O1, O2, e1, _, _, _, ⟨rfl, _⟩, _⟩ := sat.at_ow (hg s)
  refine ⟨_, e1, s, I, O, t, sat, h.bind.imp fun a I1 H1 ⟨_, s1, O1, t1, sat1, q1⟩ ws rw => ?_⟩
  obtain ⟨v1, P1, P2, e2, d12, hP1, hP2, ⟨rfl, pool⟩, sat2⟩ := sat1.at_ow (hg s1)
  refine ⟨a, pa, s1, I1, P1, ws, rfl, t1.drop hP1, pool, rw, ?_⟩
  -- what the call leaves
  have key : ∀ {I' O' H' : Hp} {s' : Pool}, St3 I' O' H' → Go I1 P1 H1 I' O' H' → ∃ O'', Same O' O'' ∧ St3 I' O'' H' ∧ Go I1 O1 H1 I' O'' H' ∧ (PoolAt O' pa s' → Sat (Γ s') σ I' O'') := by
    intro I' O' H' s' t' g'
    have dd : ∀ b, O' b = none ∨ P2 b = none := fun b => by
      cases q : O' b with
      | none => exact .inl rfl
      | some o =>
        refine .inr ?_
        rcases g'.no b (nn q) with z | z
        · rcases d12 b with y | y
          · exact absurd y z
          · exact y
        · exact (hP2.trans t1.so).free z
    refine ⟨uni O' P2, uni_l, ⟨t'.si, fun b o e => ?_, fun b => ?_⟩, ⟨fun b o e z => g'.keep b o e (hP1.free z), g'.ext, fun b e => ?_, fun b e => ?_⟩, fun pl => ?_⟩
    · unfold uni at e
      cases q : O' b with
      | none =>
        rw [q] at e
        have e : P2 b = some o := e
        refine g'.keep b o (t1.so b o (hP2 b o e)) ?_
        rcases d12 b with y | y
        · exact y
        · rw [e] at y; cases y
      | some u => rw [q] at e; exact t'.so b o (by rw [q]; exact e)
    · rcases t'.dj b with y | y
      · exact .inl y
      · cases q : P2 b with
        | none => exact .inr (by unfold uni; rw [y]; exact q)
        | some u =>
          refine .inl ?_
          cases r : I' b with
          | none => rfl
          | some w =>
            rcases g'.ni b (nn r) with z | z | z
            · rcases t1.dj b with x | x
              · exact absurd x z
              · rw [hP2 b u q] at x; cases x
            · rw [t1.so b u (hP2 b u q)] at z; cases z
            · rcases d12 b with x | x
              · exact absurd x z
              · rw [q] at x; cases x
    · rcases g'.ni b e with z | z | z
      · exact .inl z
      · exact .inr (.inl z)
      · obtain ⟨u, q⟩ := sn z
        exact .inr (.inr (nn (hP1 b u q)))
    · rcases uni_of e with z | z
      · rcases g'.no b z with y | y
        · obtain ⟨u, q⟩ := sn y
          exact .inl (nn (hP1 b u q))
        · exact .inr y
      · obtain ⟨u, q⟩ := sn z
        exact .inl (nn (hP2 b u q))
    · have h5 := Sat.back (R := fun _ O v => v = .ref pa ∧ PoolAt O pa s') (u := fun _ _ _ _ _ h => h) (g := Γ s1) (i := i) ⟨rfl, pl⟩ dd e2 (sat2.up g'.ext)
      rw [← hp s1 s']
      exact h5
  have q1 : Post X.K (E σ) Γ σ I1 O1 H1 (fun x I' H' => ∀ (v : V), Enc.rep X.K I' v x → Q v H') (f a s1) := q1
  cases ef : f a s1 with
  | ok p =>
    obtain ⟨b, s'⟩ := p
    rw [ef] at q1
    intro v I' O' H' t' g' pl r
    obtain ⟨O'', _, t2, g2, st⟩ := key (s' := s') t' g'
    exact q1 I' O'' H' t2 g2 (st pl) v r
  | error z =>
    rw [ef] at q1
    cases z with
    | stuck => exact q1
    | exc c fs =>
      intro d I' O' H' t' g' x
      obtain ⟨O'', _, t2, g2, _⟩ := key (s' := s1) t' g'
      exact q1 d I' O'' H' t2 g2 x
end
def resP (K : Fg) (pa : Addr) {β : Type} [Enc β] : Pool → Hp → Hp → V → β → Prop := fun s I O v b => Enc.rep K I v b ∧ PoolAt O pa s
section
variable {X : Cx} {E : EW} {ρ τ β : Type} {Γ : Pool → Gam} {Λ : τ → Pool → Gam} {Δ : ρ → Pool → Gam} {pos : Pos} {rest : List Stmt}
theorem pb_retP {e : Expr} [Enc β] {pa : Addr} {m : R Pool β} (he : PX X E Γ e m) (hg : ∀ s, (Γ s).at 0 = sP pa s := by exact fun _ => rfl) : PB X E Λ (resP X.K pa) Γ (.Return (some e) pos :: rest) Δ (sb m fun x => sr (.rt x)) :=
  pb_ret (fun x => x) he fun s σ I O v x sat r => by
    obtain ⟨_, O1, O2, _, _, h3, _, ⟨_, pl⟩, _⟩ := sat.at_ow (hg s)
    exact ⟨r, pl.more h3⟩
end
def runP {β : Type} (m : R Pool (Out Unit Empty β)) : R Pool β := fun s => match m s with
  | .ok (.rt b, s') => .ok (b, s')
  | .ok _ => .error .stuck
  | .error e => .error e
section
variable {P : Program} {w : World} {K : Fg} {mg : Str → Option Value} {base : Heap} {x qual : Str} {params : Arguments} {body : List Stmt} {scope : Scope} {dvs : List V} {kws : List (Str × V)} {f : Addr} {fd : FuncData}
theorem fn_okP {A' β : Type} [ArgG A'] [Enc β] {N ps : List Str} {k : Nat} {m : A' → R Pool (Out Unit Empty β)} (F : FunD K x qual params body scope dvs kws f fd) (S : FnScope N ps scope) (hn : ps.length = ArgG.n A' + 1)
    (hb : ∀ (cdv : Value) (A : Around) (outer : List Env) (s : Shared) (H : Hp) (E : XK), Ctx (cxOf (L2.CX P w) P w K mg base N qual scope f cdv A outer s H E) (kE E) k → ∀ (pa : Addr) (a : A'), PB (cxOf (L2.CX P w) P w K mg base N qual scope f cdv A outer s H E) (kE E) Λ0 (resP K pa) (fun st => sP pa st :: (ArgG.gam K a ++ List.replicate (N.length - ps.length) .un)) body (Δ0 N.length) (m a)) :
    FnOk P w K mg base (L2.CX P w) (k + 1) f fd ps (spP K fun a => runP (m a)) := by
  refine F.ok S (fun vs H Q E h => ?_) fun cdv A outer s H vs Q E hr h => ?_
  · obtain ⟨a, pa, st, I, O, ws, rfl, _, _, r, _⟩ := h
    rw [hn, List.length_cons, ArgG.ln (A := A') r]
  · obtain ⟨a, pa, st, I, O, ws, rfl, t, pl, r, q⟩ := h
    refine ⟨_, hb cdv A outer s H E (ctx_of hr S.nd) pa a, st, I, O, t, ?_, ?_⟩
    · unfold L2.start
      rw [List.length_cons, ArgG.ln (A := A') r, ← hn]
      exact ⟨_, O, fun _ => none, rfl, fun _ => .inr rfl, Same.refl O, fun _ _ z => (nomatch z), ⟨rfl, pl⟩, ArgG.sat (A := A') _ r⟩
    · have q : PostP K E pa I O H Q (runP (m a) st) := q
      unfold runP at q
      cases em : m a st with
      | error z =>
        rw [em] at q
        cases z with
        | stuck => exact q
        | exc c fs => exact q
      | ok p =>
        obtain ⟨o, u⟩ := p
        rw [em] at q
        cases o with
        | nx r => exact q.elim
        | bk e => exact nomatch e
        | ct e => exact nomatch e
        | rt b => exact fun v I' O' H' t' g' x => q v I' O' H' t' g' x.2 x.1
end
/-! ### the making of the pool -/
def poolOf (ns : List Int) : Pool := ⟨if (cutL ns none (some 63)).length = 0 then [0] else cutL ns none (some 63), 0⟩
def spPool (K : Fg) : Sp := fun vs H Q _ => ∃ ns I v, vs = [v] ∧ Same I H ∧ Enc.rep K I v (Ro.mk ns : Ro Int) ∧ ∀ pa I' O' H', St3 I' O' H' → Go I noO H I' O' H' → PoolAt O' pa (poolOf ns) → Q (.ref pa) H'
def ofP {β : Type} (m : R Pool (Out Unit Empty β)) (st : Pool) : R Unit (Out Unit Empty β) := fun _ => match m st with
  | .ok (o, _) => .ok (o, ())
  | .error e => .error e
section
variable {X : Cx} {E : EW} {β : Type} {Γ : Unit → Gam} {pos pos' : Pos} {rest : List Stmt} {k : Nat}
/-- pool = _law_pool(script) -/
theorem pb_pool {E : XK} [Enc β] (i l n : Nat) {x y f : Str} {j : Nat} {ps : List Str} {p p1 pc : Pos} {ns : List Int} {m : R Pool (Out Unit Empty β)} (F : Def X.prog X.w X.K X.mg X.base f j ps (spPool X.K)) (C : Ctx X (kE E) k)
    (hs : (Γ ()).at l = sI X.K (Ro.mk ns : Ro Int)) (hk : ∀ pa, PB X (kE E) Λ0 (resI X.K) (fun s => (Γ ()).put i (sP pa s)) rest (Δ0 n) m) (hj : j ≤ k := by decide)
    (hi : X.N[i]? = some x := by rfl) (hx : Loc X.env.scope x := by first | exact Or.inl rfl | exact Or.inr rfl) (hf : X.fn x = true ∨ X.env.scope.names.lookup x = some .local := by first | exact .inl rfl | exact .inr rfl)
    (hN : X.N[l]? = some y := by rfl) (hv : Vis X.env.scope y := by first | exact Or.inl rfl | exact Or.inr (Or.inl rfl) | exact Or.inr (Or.inr rfl)) (hd : (y == ("__debug__" : Str)) = false := by decide) (hcd : (y == ("__classdict__" : Str)) = false := by decide)
    (hg : Gl X f := by rfl) (hdb : (f == ("__debug__" : Str)) = false := by decide) (he : starEach [.Name y p1] X.env = (false, eval (.Name y p1) X.env) :: starEach [] X.env := by rfl) (hpl : (backTo pc (starEach [] X.env)).any (·.1) = false := by rfl)
    (hsw : swapsWith (.Call (.Name f p) [.Name y p1] [] pc) (some (.Name x pos')) pos.line X.env = pure false := by rfl) :
    PB X (kE E) Λ0 (resI X.K) Γ (.Assign [.Name x pos'] (.Call (.Name f p) [.Name y p1] [] pc) pos :: rest) (Δ0 n) (ofP m (poolOf ns)) := by
  obtain ⟨g, fd, h1, h2, h3, h4⟩ := F.ex
  refine (pss_cons (ps_set C.nd hi hx (pe_callS h4 (C.room.mono hj) hg h1 h2 h3 C.pas (pa_cons (pe_var hN hv hd hcd) pa_nil he) hdb he hpl) hsw hf) (L2.PSs.ex hk)).mono fun D σ H ⟨_, I, O, t, sat, q⟩ => ?_
  obtain ⟨v, e1, rv⟩ := sat.at_im hs
  refine ⟨v, e1, ns, I, v, rfl, t.si, rv, fun pa I' O' H' t' g' pl => ?_⟩
  have dd : ∀ b, O' b = none ∨ O b = none := fun b => by
    cases q : O' b with
    | none => exact .inl rfl
    | some o =>
      rcases g'.no b (nn q) with z | z
      · exact absurd rfl z
      · exact .inr (t.so.free z)
  refine ⟨pa, poolOf ns, I', uni O' O, ⟨t'.si, fun b o e => ?_, fun b => ?_⟩, Sat.put_ow (R := fun _ O v => v = .ref pa ∧ PoolAt O pa (poolOf ns)) ⟨rfl, pl⟩ dd (sat.up g'.ext), ?_⟩
  · unfold uni at e
    cases r : O' b with
    | none => rw [r] at e; exact g'.keep b o (t.so b o e) rfl
    | some u => rw [r] at e; exact t'.so b o (by rw [r]; exact e)
  · rcases t'.dj b with y | y
    · exact .inl y
    · cases r : O b with
      | none => exact .inr (by unfold uni; rw [y]; exact r)
      | some u =>
        refine .inl ?_
        cases z : I' b with
        | none => rfl
        | some w =>
          rcases g'.ni b (nn z) with x | x | x
          · rcases t.dj b with y2 | y2
            · exact absurd y2 x
            · rw [r] at y2; cases y2
          · rw [t.so b u r] at x; cases x
          · exact absurd rfl x
  · have gg : Go I O H I' (uni O' O) H' := ⟨fun b o e _ => g'.keep b o e rfl, g'.ext, fun b e => (g'.ni b e).imp (fun z => z) fun z => z.imp (fun z => z) fun z => absurd rfl z, fun b e => by
      rcases uni_of e with z | z
      · rcases g'.no b z with y | y
        · exact absurd rfl y
        · exact .inr y
      · exact .inl z⟩
    unfold ofP at q
    cases em : m (poolOf ns) with
    | error z =>
      rw [em] at q
      cases z with
      | stuck => exact q
      | exc c fs => exact fun d I1 O1 H1 t1 g1 x => q d I1 O1 H1 t1 (gg.trans g1) x
    | ok p =>
      obtain ⟨o, st⟩ := p
      rw [em] at q
      cases o with
      | nx r => exact fun σ1 I1 O1 H1 t1 g1 s1 => q σ1 I1 O1 H1 t1 (gg.trans g1) s1
      | bk e => exact nomatch e
      | ct e => exact nomatch e
      | rt b => exact fun v I1 O1 H1 t1 g1 x => q v I1 O1 H1 t1 (gg.trans g1) x
end
end Mi

set_option Elab.async false
set_option linter.all false
set_option maxRecDepth 100000
set_option maxHeartbeats 4000000
namespace Mi
open PySem PySem.Spec PyProof.Rows L2
theorem int_vals : ∀ {vs : List V} {xs : List Int} {K : Fg} {I : Hp}, All2 (Enc.rep K I) vs xs → vs = xs.map V.int
  | [], [], _, _, _ => rfl
  | v :: vs, x :: xs, K, I, q => by
    have e : v = .int x := q.1
    rw [e, int_vals q.2]; rfl
  | [], _ :: _, _, _, q => q.elim
  | _ :: _, [], _, _, q => q.elim
def resPool {S : Type} : S → Hp → Hp → V → Pool → Prop := fun _ _ O v st => ∃ pa, v = .ref pa ∧ PoolAt O pa st
theorem pb_retPool {X : Cx} {E : EW} {S ρ τ : Type} {Γ : S → Gam} {Λ : τ → S → Gam} {Δ : ρ → S → Gam} {pos : Pos} {rest : List Stmt} (i : Nat) {x : Str} {xs : List Int} {p1 p2 p3 : Pos} {j} (hg : ∀ s, (Γ s).at i = sL X.K xs)
    (hN : X.N[i]? = some x := by rfl) (hv : Vis X.env.scope x := by first | exact Or.inl rfl | exact Or.inr (Or.inl rfl) | exact Or.inr (Or.inr rfl)) (hd : (x == ("__debug__" : Str)) = false := by decide) (hcd : (x == ("__classdict__" : Str)) = false := by decide)
    (h1 : starEach [.Name x p1, .Constant (.int 0) j p2] X.env = (false, eval (.Name x p1) X.env) :: starEach [.Constant (.int 0) j p2] X.env := by rfl) :
    PB X E Λ resPool Γ (.Return (some (.List [.Name x p1, .Constant (.int 0) j p2] p3)) pos :: rest) Δ (sr (.rt ⟨xs, 0⟩)) :=
  (pss_cons (ps_ret (pe_lst (pa_cons (pe_var hN hv hd hcd) (pa_cons pe_int pa_nil) h1))) pss_never).mono fun D σ H ⟨s, I, O, t, sat, q⟩ => by
    obtain ⟨v, O1, O2, e1, _, h3, _, ⟨l, vs, rfl, h5, h6⟩, _⟩ := sat.at_ow (hg s)
    have hl := h3 _ _ h5
    refine ⟨_, e1, (by show 2 ≤ sizeLine; decide), fun p hp => ?_⟩
    have ne : l ≠ p := fun e => by rw [e, t.fo hp] at hl; cases hl
    exact q (.ref p) I _ _ (t.layO hp) (Go.layO t hp) ⟨p, rfl, l, upd_same, by rw [upd_ne ne, hl, int_vals h6]⟩
theorem lcL_all {S : Type} : ∀ (xs acc : List Int) (s : S), acc.length + xs.length ≤ 1000 → lcL (fun _ => sr true) (fun x => sb (sr x) fun x => sr x) xs acc s = .ok (acc ++ xs, s)
  | [], acc, s, _ => by simp [lcL, sr]
  | x :: xs, acc, s, h => by
    simp only [List.length_cons] at h
    have ih := lcL_all xs (acc ++ [x]) s (by simp only [List.length_append, List.length_cons, List.length_nil]; omega)
    unfold lcL
    simp only [sr, sb, papp]
    rw [if_pos (by omega)]
    have ih : lcL (fun _ => sr true) (fun x => sb (sr x) fun x => sr x) xs (acc ++ [x]) s = .ok (acc ++ [x] ++ xs, s) := ih
    rw [List.append_assoc] at ih
    exact ih
section
variable {P : Program} {w : World} {K : Fg} {mg : Str → Option Value} {base : Heap} {x qual : Str} {params : Arguments} {body : List Stmt} {scope : Scope} {dvs : List V} {kws : List (Str × V)} {f : Addr} {fd : FuncData}
theorem fn_okPool {N ps : List Str} {k : Nat} {m : List Int → R Unit (Out Unit Empty Pool)} (F : FunD K x qual params body scope dvs kws f fd) (S : FnScope N ps scope) (hn : ps.length = 1) (hm : ∀ ns, m ns () = .ok (.rt (poolOf ns), ()))
    (hb : ∀ (cdv : Value) (A : Around) (outer : List Env) (s : Shared) (H : Hp) (E : XK), Ctx (cxOf (L2.CX P w) P w K mg base N qual scope f cdv A outer s H E) (kE E) k → ∀ ns, PB (cxOf (L2.CX P w) P w K mg base N qual scope f cdv A outer s H E) (kE E) Λ0 resPool (fun _ => sI K (Ro.mk ns : Ro Int) :: List.replicate (N.length - ps.length) .un) body (Δ0 N.length) (m ns)) :
    FnOk P w K mg base (L2.CX P w) (k + 1) f fd ps (spPool K) := by
  refine F.ok S (fun vs H Q E h => ?_) fun cdv A outer s H vs Q E hr h => ?_
  · obtain ⟨ns, I, v, rfl, _⟩ := h
    rw [hn] <;> rfl
  · obtain ⟨ns, I, v, rfl, e, r, q⟩ := h
    refine ⟨_, hb cdv A outer s H E (ctx_of hr S.nd) ns, (), I, noO, ⟨e, fun b o z => (nomatch z), fun b => .inr rfl⟩, ?_, ?_⟩
    · unfold L2.start
      rw [hn]
      exact ⟨⟨v, rfl, r⟩, sat_rep _ _ _⟩
    · rw [hm ns]
      rintro v I' O' H' t g ⟨pa, rfl, pl⟩
      exact q pa I' O' H' t g pl
end
/-! ### one draw -/
def mixN (cell n : Int) : Int :=
  let a := (cell + 7919 * n + 1) * 48271 % 2147483647
  let b := a * (a / 1009 + 69621) % 2147483647
  let c := b * (b / 2003 + 40692) % 2147483399
  c / 16
def pdraw (size : Int) : R Pool Int := fun st =>
  if 0 < st.cells.length ∧ 0 < size ∧ size.natAbs.log2 < 9000 then
    match st.cells[(st.n % st.cells.length).toNat]? with
    | some cell => if 1000000000000000000 ≤ cell then .ok (cell % size, ⟨st.cells.set (st.n % st.cells.length).toNat (cell / size), st.n + 1⟩) else .ok (mixN cell (st.n + 1) % size, ⟨st.cells, st.n + 1⟩)
    | none => .error .stuck
  else .error .stuck
def GoodPool (s : Pool) : Prop := 0 < s.cells.length
theorem pdraw_ok {size : Int} {s : Pool} (h : GoodPool s) (h0 : 0 < size) (h1 : size.natAbs.log2 < 9000) : ∃ r s', pdraw size s = .ok (r, s') ∧ GoodPool s' ∧ 0 ≤ r ∧ r < size := by
  have hl : (0 : Int) < s.cells.length := by have := h; unfold GoodPool at this; omega
  have a1 := Int.emod_nonneg s.n (by omega : (s.cells.length : Int) ≠ 0)
  have a2 := Int.emod_lt_of_pos s.n hl
  have hi : (s.n % s.cells.length).toNat < s.cells.length := by omega
  unfold pdraw
  rw [if_pos ⟨h, h0, h1⟩, List.getElem?_eq_getElem hi]
  dsimp only
  split
  · exact ⟨_, _, rfl, by unfold GoodPool at h ⊢; simpa using h, Int.emod_nonneg _ (by omega), Int.emod_lt_of_pos _ h0⟩
  · exact ⟨_, _, rfl, h, Int.emod_nonneg _ (by omega), Int.emod_lt_of_pos _ h0⟩
theorem get_list {X : Cx} : PGet X (fun x y H Q => ∃ p xs i v, x = .ref p ∧ y = .int (i : Nat) ∧ H p = some (.lst xs) ∧ i < 1000 ∧ xs[i]? = some v ∧ Q v H) := by
  intro pins s σ H o i ov iv Q I r1 r2 h
  obtain ⟨p, xs, k, v, rfl, rfl, hp, hk, hx, q⟩ := h
  cases r1
  obtain ⟨t, rfl⟩ := r2
  obtain ⟨its, r, pl, _⟩ := I.list (SqL.of hp)
  obtain ⟨u, hu, ru⟩ := r.get hx
  exact wpAny_getItem_list pl.isList (by omega) (by omega) (by simpa using hu) ⟨v, H, I, ru, q⟩
end Mi

set_option Elab.async false
set_option linter.all false
set_option maxRecDepth 100000
set_option maxHeartbeats 4000000
namespace Mi
open PySem PySem.Spec PyProof.Rows L2
/-! ### in a tuple of flat items -/
class Fl (α : Type) [DecidableEq α] extends Enc α where
  fl : ∀ {K : Fg} {I : Hp} {v : V} {x : α}, rep K I v x → flatV v = true
  eq : ∀ {K : Fg} {I J : Hp} {v w : V} {x y : α}, rep K I v x → rep K J w y → eqV v w = decide (x = y)
instance : Fl Int := ⟨fun {K I v x} h => by have e : v = .int x := h; subst e; rfl, fun {K I J v w x y} h h' => by
  have e : v = .int x := h
  have e' : w = .int y := h'
  subst e e'
  show (x == y) = decide (x = y)
  rfl⟩
instance : Fl Str := ⟨fun {K I v x} h => by have e : v = .str x := h; subst e; rfl, fun {K I J v w x y} h h' => by
  have e : v = .str x := h
  have e' : w = .str y := h'
  subst e e'
  show (x == y) = decide (x = y)
  by_cases z : x = y
  · subst z; simp
  · simp [z]⟩
theorem inV_mem {α : Type} [DecidableEq α] [Fl α] {K : Fg} {I J : Hp} {v : V} {x : α} (rv : Enc.rep K I v x) : ∀ {vs : List V} {xs : List α}, All2 (Enc.rep K J) vs xs → vs.all flatV = true ∧ inV v vs = decide (x ∈ xs)
  | [], [], _ => ⟨rfl, by simp [inV]⟩
  | w :: vs, y :: ys, q => by
    obtain ⟨h1, h2⟩ := inV_mem rv q.2
    unfold inV at h2 ⊢
    rw [List.all_cons, List.any_cons, h1, h2, Fl.fl q.1, Fl.eq q.1 rv]
    refine ⟨rfl, ?_⟩
    by_cases e : x = y
    · simp [e]
    · have e' : ¬ y = x := fun z => e z.symm
      simp [e, e']
  | [], _ :: _, q => q.elim
  | _ :: _, [], q => q.elim
section
variable {X : Cx} {E : EW} {S : Type} {Γ : S → Gam} {pos : Pos}
theorem px_inT {α : Type} [DecidableEq α] [Fl α] {a b : Expr} {ma : R S α} {mb : R S (Tu α)} (ha : PX X E Γ a ma) (hb : PX X E Γ b mb) (hm : behindInMarks .In b = false := by rfl) : CB X E Γ (.Compare a [.In] [b] pos) (sb ma fun x => sb mb fun y => sr (decide (x ∈ y.l))) :=
  px_cmp op_in_seq ha hb hm fun x y v w s σ I O H Q rv rw t sat h => by
    obtain ⟨p, vs, rfl, q, r⟩ := rw
    obtain ⟨h1, h2⟩ := inV_mem rv r
    exact ⟨p, vs, rfl, .inr (sqT_up t.si q), Fl.fl rv, h1, by rw [h2]; exact h.at_ t sat _ rfl⟩
theorem px_notInT {α : Type} [DecidableEq α] [Fl α] {a b : Expr} {ma : R S α} {mb : R S (Tu α)} (ha : PX X E Γ a ma) (hb : PX X E Γ b mb) (hm : behindInMarks .NotIn b = false := by rfl) : CB X E Γ (.Compare a [.NotIn] [b] pos) (sb ma fun x => sb mb fun y => sr (!decide (x ∈ y.l))) :=
  px_cmp op_notIn_seq ha hb hm fun x y v w s σ I O H Q rv rw t sat h => by
    obtain ⟨p, vs, rfl, q, r⟩ := rw
    obtain ⟨h1, h2⟩ := inV_mem rv r
    exact ⟨p, vs, rfl, .inr (sqT_up t.si q), Fl.fl rv, h1, by rw [h2]; exact h.at_ t sat _ rfl⟩
/-! ### a value that is surely not None -/
class Nn (α : Type) extends Enc α where
  nn : ∀ {K : Fg} {I : Hp} {v : V} {x : α}, rep K I v x → v ≠ .non
instance : Nn Int := ⟨fun {K I v x} h => by have e : v = .int x := h; subst e; exact fun z => by cases z⟩
instance : Nn Str := ⟨fun {K I v x} h => by have e : v = .str x := h; subst e; exact fun z => by cases z⟩
instance : Nn Bool := ⟨fun {K I v x} h => by have e : v = .bl x := h; subst e; exact fun z => by cases z⟩
instance {α β : Type} [Enc α] [Enc β] : Nn (α × β) := ⟨fun {K I v x} h => by obtain ⟨_, _, _, rfl, _⟩ := h; exact fun z => by cases z⟩
instance {α β γ : Type} [Enc α] [Enc β] [Enc γ] : Nn (T3 α β γ) := ⟨fun {K I v x} h => by obtain ⟨_, _, _, _, rfl, _⟩ := h; exact fun z => by cases z⟩
instance {α : Type} [Enc α] : Nn (List α) := ⟨fun {K I v x} h => by obtain ⟨_, _, rfl, _⟩ := h; exact fun z => by cases z⟩
instance {α : Type} [Enc α] : Nn (Tu α) := ⟨fun {K I v x} h => by obtain ⟨_, _, rfl, _⟩ := h; exact fun z => by cases z⟩
theorem px_some {α : Type} [Nn α] {e : Expr} {m : R S α} (h : PX X E Γ e m) : PX X E Γ e (sb m fun z => sr (some z)) :=
  L2.PE.mono h fun σ H Q ⟨s, I, O, t, sat, h⟩ => ⟨s, I, O, t, sat, h.bind.imp fun x I1 H1 ⟨_, s1, O1, t1, sat1, h1⟩ v rv => h1.at_ t1 sat1 v ⟨Nn.nn rv, rv⟩⟩
instance {α : Type} [ToD α] : ToD (Tu α) := ⟨fun x => .tup (x.l.map toD), fun {K I v x} h => by
  obtain ⟨a, vs, rfl, q, r⟩ := h
  exact .tup q (rds_of r)⟩
theorem px_intB {p : Pos} {e : Expr} {m : R S Bool} (hm : X.mg "int" = none) (he : PX X E Γ e m) (hg : Gl X "int" := by rfl) (h1 : starEach [e] X.env = (false, eval e X.env) :: starEach [] X.env := by rfl) (h2 : (backTo pos (starEach [] X.env)).any (·.1) = false := by rfl) :
    PX X E Γ (.Call (.Name "int" p) [e] [] pos) (sb m fun x => sr (if x = true then (1 : Int) else 0)) :=
  px_t1 call_int1 hm (by decide +kernel) he (fun y v s σ I O H Q rv t sat h => .inr ⟨y, by rw [show v = V.bl y from rv], h.at_ t sat _ (by cases y <;> rfl)⟩) hg (by decide) (by decide) h1 h2
/-- list(name), the list one's own: a copy -/
theorem px_olist (i : Nat) {x : Str} {p p1 : Pos} {α : Type} [Enc α] {xs : List α} (hm : X.mg "list" = none) (hg : ∀ s, (Γ s).at i = sL X.K xs) (hgl : Gl X "list" := by rfl)
    (hN : X.N[i]? = some x := by rfl) (hv : Vis X.env.scope x := by first | exact Or.inl rfl | exact Or.inr (Or.inl rfl) | exact Or.inr (Or.inr rfl)) (hd : (x == ("__debug__" : Str)) = false := by decide) (hcd : (x == ("__classdict__" : Str)) = false := by decide)
    (h1 : starEach [.Name x p1] X.env = (false, eval (.Name x p1) X.env) :: starEach [] X.env := by rfl) (h2 : (backTo pos (starEach [] X.env)).any (·.1) = false := by rfl) :
    PXo X E Γ (.Call (.Name "list" p) [.Name x p1] [] pos) (sr xs) :=
  L2.PE.mono (pe_callTy call_list_of hgl hm (by decide +kernel) (pa_cons (pe_var hN hv hd hcd) pa_nil h1) (by decide) (by decide) h1 h2) fun σ H Q ⟨s, I, O, t, sat, h⟩ => by
    obtain ⟨l, vs, h1, h2, h3, _⟩ := sat.mine (hg s) t
    exact ⟨_, h1, l, vs, rfl, .inl (SqL.of h2), fun p hp => PostO.new (show PostO X.K (E σ) Γ σ I O H Q (sr xs s) from h) t sat hp h3⟩
/-- list(e): a copy, one's own -/
theorem po_list {p : Pos} {α : Type} [Enc α] {e : Expr} {m : R S (List α)} (hm : X.mg "list" = none) (he : PX X E Γ e m) (hg : Gl X "list" := by rfl) (h1 : starEach [e] X.env = (false, eval e X.env) :: starEach [] X.env := by rfl) (h2 : (backTo pos (starEach [] X.env)).any (·.1) = false := by rfl) :
    PXo X E Γ (.Call (.Name "list" p) [e] [] pos) m :=
  L2.PE.mono (pe_callTy call_list_of hg hm (by decide +kernel) (pa_cons he pa_nil h1) (by decide) (by decide) h1 h2) fun σ H Q ⟨s, I, O, t, sat, h⟩ => ⟨s, I, O, t, sat, by
    have h : PostO X.K (E σ) Γ σ I O H Q (sb m sr s) := by
      unfold sb
      cases em : m s with
      | ok p => rw [em] at h; exact h
      | error z => rw [em] at h; exact h
    exact h.bind.imp fun xs I1 H1 ⟨_, s1, O1, t1, sat1, h1⟩ v rv => by
      obtain ⟨l, vs, rfl, q, r⟩ := rv
      exact ⟨l, vs, rfl, .inl (SqL.of (t1.si _ _ q)), fun p hp => PostO.new h1 t1 sat1 hp r⟩⟩
variable {ρ τ β : Type} {Λ : τ → S → Gam} {Res : S → Hp → Hp → V → β → Prop} {Δ : ρ → S → Gam} {pos' : Pos} {rest : List Stmt} {k : Nat}
theorem pb_augAdd {E : XK} (i : Nat) {x : Str} {e : Expr} {n : Int} {m : R S Int} {kk : Int → R S (Out ρ τ β)} (C : Ctx X (kE E) k) (hg : ∀ s, (Γ s).at i = sI X.K n) (he : PX X (kE E) Γ e m) (hk : ∀ a, PB X (kE E) Λ Res (fun s => (Γ s).put i (sI X.K a)) rest Δ (kk a))
    (hi : X.N[i]? = some x := by rfl) (hx : Loc X.env.scope x := by first | exact Or.inl rfl | exact Or.inr rfl) (hf : X.fn x = true ∨ X.env.scope.names.lookup x = some .local := by first | exact .inl rfl | exact .inr rfl) :
    PB X (kE E) Λ Res Γ (.AugAssign (.Name x pos') .Add e pos :: rest) Δ (sb m fun y => sb (sr (n + y)) kk) :=
  (pss_cons (ps_aug C.nd hi hx he ip_add hf) (L2.PSs.ex hk)).mono fun D σ H ⟨s, I, O, t, sat, q⟩ => by
    obtain ⟨v, e1, rv⟩ := sat.at_im (hg s)
    have ev : v = .int n := rv
    subst ev
    exact ⟨_, e1, s, I, O, t, sat, q.bind.imp fun y I1 H1 ⟨_, s1, O1, t1, sat1, h1⟩ w rw => ⟨n, y, rfl, rw, n + y, s1, I1, O1, t1, sat1.put_im rfl, h1⟩⟩
theorem pb_augSub {E : XK} (i : Nat) {x : Str} {e : Expr} {n : Int} {m : R S Int} {kk : Int → R S (Out ρ τ β)} (C : Ctx X (kE E) k) (hg : ∀ s, (Γ s).at i = sI X.K n) (he : PX X (kE E) Γ e m) (hk : ∀ a, PB X (kE E) Λ Res (fun s => (Γ s).put i (sI X.K a)) rest Δ (kk a))
    (hi : X.N[i]? = some x := by rfl) (hx : Loc X.env.scope x := by first | exact Or.inl rfl | exact Or.inr rfl) (hf : X.fn x = true ∨ X.env.scope.names.lookup x = some .local := by first | exact .inl rfl | exact .inr rfl) :
    PB X (kE E) Λ Res Γ (.AugAssign (.Name x pos') .Sub e pos :: rest) Δ (sb m fun y => sb (sr (n - y)) kk) :=
  (pss_cons (ps_aug C.nd hi hx he ip_sub hf) (L2.PSs.ex hk)).mono fun D σ H ⟨s, I, O, t, sat, q⟩ => by
    obtain ⟨v, e1, rv⟩ := sat.at_im (hg s)
    have ev : v = .int n := rv
    subst ev
    exact ⟨_, e1, s, I, O, t, sat, q.bind.imp fun y I1 H1 ⟨_, s1, O1, t1, sat1, h1⟩ w rw => ⟨n, y, rfl, rw, n - y, s1, I1, O1, t1, sat1.put_im rfl, h1⟩⟩
end
end Mi

set_option Elab.async false
set_option linter.all false
set_option maxRecDepth 100000
set_option maxHeartbeats 4000000
namespace Mi
open PySem PySem.Spec PyProof.Rows L2
/-! ### equality where any value may stand -/
mutual
def D.pd : D → Option PyData
  | .non => some .none
  | .bl b => some (.bool b)
  | .int i => some (.int i)
  | .str x => some (.str x)
  | .tup xs => (D.pds xs).map .tuple
  | .lst xs => (D.pds xs).map .list
  | .dct _ => none
  | .obj _ _ => none
def D.pds : List D → Option (List PyData)
  | [] => some []
  | x :: xs => match D.pd x, D.pds xs with
    | some d, some ds => some (d :: ds)
    | _, _ => none
end
mutual
theorem rd_dp {K : Fg} {I : Hp} : ∀ {v : V} {d : D} {p : PyData}, RD K I v d → D.pd d = some p → Dp K I v p
  | _, .non, _, .non, e => by cases e; exact .non
  | _, .bl b, _, .bl _, e => by cases e; exact .bl b
  | _, .int i, _, .int _, e => by cases e; exact .int i
  | _, .str x, _, .str _, e => by cases e; exact .str x
  | _, .tup xs, _, .tup h r, e => by
    cases q : D.pds xs with
    | none => rw [D.pd, q] at e; cases e
    | some ds => rw [D.pd, q] at e; cases e; exact .tup h (rds_dp r q)
  | _, .lst xs, _, .lst h r, e => by
    cases q : D.pds xs with
    | none => rw [D.pd, q] at e; cases e
    | some ds => rw [D.pd, q] at e; cases e; exact .lst h (rds_dp r q)
  | _, .dct _, _, _, e => by rw [D.pd] at e; cases e
  | _, .obj _ _, _, _, e => by rw [D.pd] at e; cases e
theorem rds_dp {K : Fg} {I : Hp} : ∀ {vs : List V} {xs : List D} {ps : List PyData}, RDs K I vs xs → D.pds xs = some ps → DpAll K I vs ps
  | _, [], _, .nil, e => by cases e; exact .nil
  | _, x :: xs, _, .cons r q, e => by
    rw [D.pds] at e
    split at e
    · rename_i d ds e1 e2
      cases e
      exact .cons (rd_dp r e1) (rds_dp q e2)
    · cases e
end
theorem all_rds {K : Fg} {I : Hp} : ∀ {vs : List V} {xs : List D}, RDs K I vs xs → All2 (Enc.rep K I) vs xs
  | _, _, .nil => trivial
  | _, _, .cons r q => ⟨r, all_rds q⟩
def peqD (x y : D) : Option Bool := match x.pd, y.pd with
  | some p, some q => if SeqAt.shaped p = true ∧ SeqAt.shaped q = true then some (PyData.eqv p q) else none
  | _, _ => none
theorem peqD_some {x y : D} {b : Bool} (h : peqD x y = some b) : ∃ p q, x.pd = some p ∧ y.pd = some q ∧ SeqAt.shaped p = true ∧ SeqAt.shaped q = true ∧ b = PyData.eqv p q := by
  unfold peqD at h
  split at h
  · rename_i p q e1 e2
    split at h
    · rename_i c
      cases h
      exact ⟨p, q, e1, e2, c.1, c.2, rfl⟩
    · cases h
  · cases h
section
variable {X : Cx} {E : EW} {S : Type} {Γ : S → Gam} {pos p : Pos} {k : Nat}
theorem px_eqA {a b : Expr} {ma mb : R S D} (C : Ctx X E k) (ha : PX X E Γ a ma) (hb : PX X E Γ b mb) : CB X E Γ (.Compare a [.Eq] [b] pos) (sb ma fun x => sb mb fun y => so (peqD x y)) :=
  px_cmp (op_eqD C.room.units) ha hb (nomark _) fun x y v w s σ I O H Q rv rw t sat h => by
    obtain ⟨z, e, h⟩ := h.some_
    obtain ⟨p, q, e1, e2, h1, h2, rfl⟩ := peqD_some e
    exact ⟨p, q, Dp.up t.si (rd_dp rv e1), Dp.up t.si (rd_dp rw e2), h1, h2, h.at_ t sat _ rfl⟩
theorem px_neA {a b : Expr} {ma mb : R S D} (C : Ctx X E k) (ha : PX X E Γ a ma) (hb : PX X E Γ b mb) : CB X E Γ (.Compare a [.NotEq] [b] pos) (sb ma fun x => sb mb fun y => sb (so (peqD x y)) fun z => sr (!z)) :=
  px_cmp (op_neD C.room.units) ha hb (nomark _) fun x y v w s σ I O H Q rv rw t sat h => by
    cases e : peqD x y with
    | none => rw [e] at h; exact False.elim h
    | some z =>
      rw [e] at h
      obtain ⟨p, q, e1, e2, h1, h2, rfl⟩ := peqD_some e
      exact ⟨p, q, Dp.up t.si (rd_dp rv e1), Dp.up t.si (rd_dp rw e2), h1, h2, Post.at_ (x := !_) h t sat _ rfl⟩
/-- an item of a tuple that is any value -/
def dix (x : D) (i : Int) : Option D := match x with
  | .tup xs => L2.atI xs i
  | _ => none
theorem px_dix {a b : Expr} {ma : R S D} {mb : R S Int} (ha : PX X E Γ a ma) (hb : PX X E Γ b mb) (hs : PlainIx b := by exact fun _ _ => rfl) : PX X E Γ (.Subscript a b pos) (sb ma fun x => sb mb fun i => so (dix x i)) :=
  px_bin (fun p q => pe_ix ix_tup p q hs) ha hb fun x y v w s σ I O H Q rv rw t sat h => by
    obtain ⟨z, e, hq⟩ := h.some_
    have e2 : w = .int y := rw
    subst e2
    cases x with
    | tup xs =>
      have rv : RD X.K I v (.tup xs) := rv
      cases rv with
      | tup q r =>
        obtain ⟨u, h1, h2⟩ := atI_rep (all_rds r) e
        exact ⟨_, _, y, u, rfl, rfl, sqT_up t.si q, h1, hq.at_ t sat u h2⟩
    | _ => cases e
def dlen (x : D) : Option Int := match x with
  | .tup xs => some (xs.length : Int)
  | .lst xs => some (xs.length : Int)
  | _ => none
theorem RDs.len {K : Fg} {I : Hp} : ∀ {vs : List V} {xs : List D}, RDs K I vs xs → vs.length = xs.length
  | _, _, .nil => rfl
  | _, _, .cons _ q => congrArg Nat.succ (RDs.len q)
theorem px_dlen {e : Expr} {m : R S D} (hm : X.mg "len" = none) (he : PX X E Γ e m) (hg : Gl X "len" := by rfl) (h1 : starEach [e] X.env = (false, eval e X.env) :: starEach [] X.env := by rfl) (h2 : (backTo pos (starEach [] X.env)).any (·.1) = false := by rfl) :
    PX X E Γ (.Call (.Name "len" p) [e] [] pos) (sb m fun x => so (dlen x)) :=
  px_b1 call_len_seq hm boot_len he (fun y v s σ I O H Q rv t sat h => by
    obtain ⟨z, e, hq⟩ := h.some_
    cases y with
    | tup xs =>
      cases e
      have rv : RD X.K I v (.tup xs) := rv
      cases rv with
      | tup q r => exact ⟨_, _, rfl, .inr (sqT_up t.si q), hq.at_ t sat _ (by show V.int _ = V.int _; rw [RDs.len r])⟩
    | lst xs =>
      cases e
      have rv : RD X.K I v (.lst xs) := rv
      cases rv with
      | lst q r => exact ⟨_, _, rfl, .inl (t.si.seq q), hq.at_ t sat _ (by show V.int _ = V.int _; rw [RDs.len r])⟩
    | _ => cases e) hg (by decide) (by decide) h1 h2
end
instance {α β : Type} [OfD α] [OfD β] : OfD (α × β) := ⟨fun
    | .tup [x, y] => (match (OfD.ofD x : Option α), (OfD.ofD y : Option β) with
      | some a, some b => some (a, b)
      | _, _ => none)
    | _ => none, fun {K I v d x} h e => by
  split at e
  · rename_i p q
    split at e
    · rename_i a b e1 e2
      cases e
      cases h with
      | tup h r =>
        cases r with
        | cons r1 r => cases r with
          | cons r2 r => cases r with
            | nil => exact ⟨_, _, _, rfl, h, OfD.dr r1 e1, OfD.dr r2 e2⟩
    · cases e
  · cases e⟩
end Mi

set_option Elab.async false
set_option linter.all false
set_option maxRecDepth 100000
set_option maxHeartbeats 4000000
namespace Mi
open PySem
/-! ### the plain logic of mirrors -/
section
variable {S α β γ ρ ρ1 τ : Type}
@[simp] theorem sb_sr (x : α) (k : α → R S β) : sb (sr x) k = k x := rfl
@[simp] theorem sb_sb (m : R S α) (k : α → R S β) (h : β → R S γ) : sb (sb m k) h = sb m fun x => sb (k x) h := by
  funext s
  unfold sb
  cases m s with
  | ok p => rfl
  | error e => rfl
@[simp] theorem so_some (x : α) : (so (some x) : R S α) = sr x := rfl
@[simp] theorem sl_ok (x : α) : (sl (.ok x) : R S α) = sr x := rfl
@[simp] theorem sb_id (m : R S α) : (sb m fun x => sr x) = m := by
  funext s
  unfold sb
  cases m s with
  | ok p => rfl
  | error e => rfl
@[simp] theorem obd_nx (r : ρ1) (k : ρ1 → R S (Out ρ τ β)) : obd (sr (.nx r)) k = k r := rfl
@[simp] theorem obd_rt (b : β) (k : ρ1 → R S (Out ρ τ β)) : obd (sr (.rt b)) k = sr (.rt b) := rfl
@[simp] theorem obd_bk (b : τ) (k : ρ1 → R S (Out ρ τ β)) : obd (sr (.bk b)) k = sr (.bk b) := rfl
@[simp] theorem obd_ct (b : τ) (k : ρ1 → R S (Out ρ τ β)) : obd (sr (.ct b)) k = sr (.ct b) := rfl
@[simp] theorem sIf_t (a b : R S α) : sIf (sr true) a b = a := rfl
@[simp] theorem sIf_f (a b : R S α) : sIf (sr false) a b = b := rfl
theorem sIf_r (c : Bool) (a b : R S α) : sIf (sr c) a b = if c = true then a else b := rfl
theorem sIf_sb (m : R S γ) (c : γ → R S Bool) (a b : R S α) : sIf (sb m c) a b = sb m fun x => sIf (c x) a b := by unfold sIf; rw [sb_sb]
@[simp] theorem sAnd_t (b : R S Bool) : sAnd (sr true) b = b := rfl
@[simp] theorem sAnd_f (b : R S Bool) : sAnd (sr false) b = sr false := rfl
@[simp] theorem sOr_t (b : R S Bool) : sOr (sr true) b = sr true := rfl
@[simp] theorem sOr_f (b : R S Bool) : sOr (sr false) b = b := rfl
theorem sAnd_r (c : Bool) (b : R S Bool) : sAnd (sr c) b = if c = true then b else sr false := rfl
theorem sOr_r (c : Bool) (b : R S Bool) : sOr (sr c) b = if c = true then sr true else b := rfl
theorem sAnd_rr (c d : Bool) : sAnd (sr c : R S Bool) (sr d) = sr (c && d) := by cases c <;> rfl
theorem sOr_rr (c d : Bool) : sOr (sr c : R S Bool) (sr d) = sr (c || d) := by cases c <;> rfl
theorem sAnd_sb (m : R S γ) (c : γ → R S Bool) (b : R S Bool) : sAnd (sb m c) b = sb m fun x => sAnd (c x) b := by unfold sAnd; rw [sb_sb]
theorem sOr_sb (m : R S γ) (c : γ → R S Bool) (b : R S Bool) : sOr (sb m c) b = sb m fun x => sOr (c x) b := by unfold sOr; rw [sb_sb]
theorem sb_sIf (c : Bool) (a b : R S α) (k : α → R S β) : sb (if c = true then a else b) k = if c = true then sb a k else sb b k := by split <;> rfl
theorem forL_nil (f : α → ρ1 → R S (Out ρ1 ρ1 β)) (r : ρ1) : (forL f [] r : R S (Out ρ1 τ β)) = sr (.nx r) := rfl
theorem runF_rt (x : β) : runF (sr (.rt x)) = .ok x := rfl
/-- m, from s, comes to an end, and Q holds there -/
def Ok (m : R S α) (s : S) (Q : α → S → Prop) : Prop := match m s with
  | .ok (x, s') => Q x s'
  | .error _ => False
theorem Ok.sr {x : α} {s : S} {Q : α → S → Prop} (h : Q x s) : Ok (sr x) s Q := h
theorem Ok.sb {m : R S α} {k : α → R S β} {s : S} {Q : β → S → Prop} (h : Ok m s fun x s1 => Ok (k x) s1 Q) : Ok (sb m k) s Q := by
  unfold Ok Mi.sb at *
  cases e : m s with
  | ok p => rw [e] at h; exact h
  | error z => rw [e] at h; exact h
theorem Ok.mono {m : R S α} {s : S} {Q Q' : α → S → Prop} (h : Ok m s Q) (f : ∀ x s, Q x s → Q' x s) : Ok m s Q' := by
  unfold Ok at *
  cases e : m s with
  | ok p => rw [e] at h; exact f _ _ h
  | error z => rw [e] at h; exact h
theorem Ok.then_ {m : R S α} {k : α → R S β} {s : S} {P : α → S → Prop} {Q : β → S → Prop} (h : Ok m s P) (f : ∀ x s, P x s → Ok (k x) s Q) : Ok (Mi.sb m k) s Q := Ok.sb (h.mono f)
theorem Ok.so {o : Option α} {x : α} {s : S} {Q : α → S → Prop} (e : o = some x) (h : Q x s) : Ok (so o) s Q := by rw [e]; exact h
theorem Ok.sl {m : Except Er α} {x : α} {s : S} {Q : α → S → Prop} (e : m = .ok x) (h : Q x s) : Ok (sl m) s Q := by rw [e]; exact h
theorem Ok.ite {c : Bool} {a b : R S α} {s : S} {Q : α → S → Prop} (h1 : c = true → Ok a s Q) (h2 : c = false → Ok b s Q) : Ok (if c = true then a else b) s Q := by
  cases c with
  | true => exact h1 rfl
  | false => exact h2 rfl
theorem Ok.sIf {c : R S Bool} {a b : R S α} {s : S} {Q : α → S → Prop} (h : Ok c s fun x s1 => (x = true → Ok a s1 Q) ∧ (x = false → Ok b s1 Q)) : Ok (sIf c a b) s Q :=
  Ok.sb (h.mono fun x s1 q => Ok.ite q.1 q.2)
theorem Ok.sAnd {a b : R S Bool} {s : S} {Q : Bool → S → Prop} (h : Ok a s fun x s1 => (x = true → Ok b s1 Q) ∧ (x = false → Q false s1)) : Ok (sAnd a b) s Q :=
  Ok.sb (h.mono fun x s1 q => Ok.ite q.1 fun e => Ok.sr (q.2 e))
theorem Ok.sOr {a b : R S Bool} {s : S} {Q : Bool → S → Prop} (h : Ok a s fun x s1 => (x = true → Q true s1) ∧ (x = false → Ok b s1 Q)) : Ok (sOr a b) s Q :=
  Ok.sb (h.mono fun x s1 q => Ok.ite (fun e => Ok.sr (q.1 e)) q.2)
/-- what follows where a block came to its end -/
def Ob (k : ρ1 → R S (Out ρ τ β)) (Q : Out ρ τ β → S → Prop) : Out ρ1 τ β → S → Prop
  | .nx r, s => Ok (k r) s Q
  | .bk r, s => Q (.bk r) s
  | .ct r, s => Q (.ct r) s
  | .rt b, s => Q (.rt b) s
theorem Ok.obd {m : R S (Out ρ1 τ β)} {k : ρ1 → R S (Out ρ τ β)} {s : S} {Q : Out ρ τ β → S → Prop} (h : Ok m s (Ob k Q)) : Ok (obd m k) s Q := by
  unfold Ok Mi.obd at *
  cases e : m s with
  | ok p =>
    obtain ⟨o, s'⟩ := p
    rw [e] at h
    cases o <;> exact h
  | error z => rw [e] at h; exact h
theorem Ok.obdP {m : R S (Out ρ1 τ β)} {k : ρ1 → R S (Out ρ τ β)} {s : S} {Q : Out ρ τ β → S → Prop} (P : ρ1 → S → Prop) (h1 : Ok m s fun o s => ∃ r, o = .nx r ∧ P r s) (h2 : ∀ r s, P r s → Ok (k r) s Q) : Ok (Mi.obd m k) s Q :=
  Ok.obd (h1.mono fun o s ⟨r, e, p⟩ => by rw [e]; exact h2 r s p)
/-- a loop's turn: the invariant over the items done -/
def Turn (Inv : List α → ρ1 → S → Prop) (Fin : ρ1 → S → Prop) (Ret : β → S → Prop) (d : List α) : Out ρ1 ρ1 β → S → Prop
  | .nx r, s => Inv d r s
  | .ct r, s => Inv d r s
  | .bk r, s => Fin r s
  | .rt b, s => Ret b s
theorem Ok.forD {f : α → ρ1 → R S (Out ρ1 ρ1 β)} {xs : List α} {Q : Out ρ1 τ β → S → Prop} (Inv : List α → ρ1 → S → Prop) (Fin : ρ1 → S → Prop) (Ret : β → S → Prop)
    (ht : ∀ d x r s, d ++ x :: xs.drop (d.length + 1) = xs → Inv d r s → Ok (f x r) s (Turn Inv Fin Ret (d ++ [x]))) (hn : ∀ r s, Inv xs r s → Q (.nx r) s) (hf : ∀ r s, Fin r s → Q (.nx r) s) (hr : ∀ b s, Ret b s → Q (.rt b) s) :
    ∀ (rest d : List α) (r : ρ1) (s : S), d ++ rest = xs → Inv d r s → Ok (forL f rest r) s Q
  | [], d, r, s, e, h => by rw [List.append_nil] at e; subst e; exact hn r s h
  | x :: rest, d, r, s, e, h => by
    have e1 : xs.drop (d.length + 1) = rest := by rw [← e]; simp
    have q := ht d x r s (by rw [e1]; exact e) h
    unfold Ok forL at *
    cases ef : f x r s with
    | error z => rw [ef] at q; exact q.elim
    | ok p =>
      obtain ⟨o, s'⟩ := p
      rw [ef] at q
      cases o with
      | nx r' => exact Ok.forD Inv Fin Ret ht hn hf hr rest (d ++ [x]) r' s' (by rw [← e]; simp) q
      | ct r' => exact Ok.forD Inv Fin Ret ht hn hf hr rest (d ++ [x]) r' s' (by rw [← e]; simp) q
      | bk r' => exact hf r' s' q
      | rt b => exact hr b s' q
/-- .. over all items -/
theorem Ok.for_ {f : α → ρ1 → R S (Out ρ1 ρ1 β)} {xs : List α} {r0 : ρ1} {s0 : S} {Q : Out ρ1 τ β → S → Prop} (Inv : List α → ρ1 → S → Prop) (Fin : ρ1 → S → Prop) (Ret : β → S → Prop) (h0 : Inv [] r0 s0)
    (ht : ∀ d x r s, d ++ x :: xs.drop (d.length + 1) = xs → Inv d r s → Ok (f x r) s (Turn Inv Fin Ret (d ++ [x]))) (hn : ∀ r s, Inv xs r s → Q (.nx r) s) (hf : ∀ r s, Fin r s → Q (.nx r) s) (hr : ∀ b s, Ret b s → Q (.rt b) s) : Ok (forL f xs r0) s0 Q :=
  Ok.forD Inv Fin Ret ht hn hf hr xs [] r0 s0 rfl h0
/-- .. no break, no return, nothing told of the items done -/
theorem Ok.forI {f : α → ρ1 → R S (Out ρ1 ρ1 β)} {xs : List α} {r0 : ρ1} {s0 : S} {Q : Out ρ1 τ β → S → Prop} (Inv : ρ1 → S → Prop) (h0 : Inv r0 s0)
    (ht : ∀ x r s, x ∈ xs → Inv r s → Ok (f x r) s fun o s' => match o with
      | .nx r' => Inv r' s'
      | .ct r' => Inv r' s'
      | _ => False) (hn : ∀ r s, Inv r s → Q (.nx r) s) : Ok (forL f xs r0) s0 Q :=
  Ok.for_ (fun _ => Inv) (fun _ _ => False) (fun _ _ => False) h0 (fun d x r s e h => (ht x r s (by rw [← e]; simp) h).mono fun o s' q => by
    cases o <;> exact q) hn (fun _ _ z => z.elim) fun _ _ z => z.elim
theorem runF_of {m : R Unit (Out Unit Empty β)} {b : β} (h : Ok m () fun o _ => o = .rt b) : runF m = .ok b := by
  unfold Ok at h
  unfold runF
  cases e : m () with
  | ok p => rw [e] at h; obtain ⟨o, u⟩ := p; dsimp only at h; rw [h]
  | error z => rw [e] at h; exact h.elim
theorem Ok.ofP {m : R Pool (Out Unit Empty β)} {st : Pool} {Q : Out Unit Empty β → Unit → Prop} (h : Ok m st fun o _ => Q o ()) : Ok (ofP m st) () Q := by
  unfold Ok Mi.ofP at *
  cases e : m st with
  | ok p => rw [e] at h; exact h
  | error z => rw [e] at h; exact h
theorem Ok.runP {m : R Pool (Out Unit Empty β)} {st : Pool} {Q : β → Pool → Prop} (h : Ok m st fun o s => match o with
    | .rt b => Q b s
    | _ => False) : Ok (runP m) st Q := by
  unfold Ok Mi.runP at *
  cases e : m st with
  | ok p =>
    obtain ⟨o, s⟩ := p
    rw [e] at h
    cases o with
    | rt b => exact h
    | nx r => exact h.elim
    | bk r => exact h.elim
    | ct r => exact h.elim
  | error z => rw [e] at h; exact h
theorem Ok.draw {n : Int} {st : Pool} {Q : Int → Pool → Prop} (g : GoodPool st) (h0 : 0 < n) (h1 : n.natAbs.log2 < 9000) (h : ∀ r s, GoodPool s → 0 ≤ r → r < n → Q r s) : Ok (pdraw n) st Q := by
  obtain ⟨r, s, e, g', r0, r1⟩ := pdraw_ok g h0 h1
  unfold Ok
  rw [e]
  exact h r s g' r0 r1
theorem good_of (ns : List Int) : GoodPool (poolOf ns) := by
  unfold GoodPool poolOf
  dsimp only
  split
  · decide
  · rename_i h
    omega
theorem log_small {n : Int} (h : n.natAbs < 2 ^ 63) : n.natAbs.log2 < 9000 := by
  by_cases e : n.natAbs = 0
  · rw [e]; decide
  · have := (Nat.log2_lt e).mpr h
    omega
/-! ### single answers -/
theorem prng_ok {lo hi : Int} (h1 : -(2 ^ 62) ≤ lo) (h2 : lo < 2 ^ 62) (h3 : -(2 ^ 62) ≤ hi) (h4 : hi < 2 ^ 62) : prng lo hi = some (irange lo (hi - lo).toNat) := by
  unfold prng pr62
  rw [decide_eq_true ⟨h1, h2⟩, decide_eq_true ⟨h3, h4⟩]
  rfl
theorem plenS_ok {w : Str} (h : w.length ≤ 16777216) : plenS w = some (w.length : Int) := by unfold plenS; rw [if_pos h]
theorem plen_ok {xs : List α} (h : xs.length ≤ 16777216) : plen xs = some xs := by unfold plen; rw [if_pos h]
theorem str_len (w : Str) : w.length = w.cps.toList.length := by simp [Str.length]
theorem app_len (x y : Str) : (x ++ y).length = x.length + y.length := by
  show (⟨x.cps ++ y.cps⟩ : Str).length = _
  simp only [Str.length]
  exact Array.size_append
theorem pcat_ok {x y : Str} (h : x.length + y.length ≤ 16777216) : pcat x y = some (x ++ y) := by unfold pcat; rw [if_pos h]
theorem pixS_ok {w : Str} {i : Int} (hw : w.length ≤ 16777216) (h0 : 0 ≤ i) (h1 : i < w.length) : ∃ c, pixS w i = some ⟨#[c]⟩ := by
  unfold pixS
  have hl : w.length = w.cps.toList.length := str_len w
  have hi : i.toNat < w.cps.toList.length := by omega
  have : L2.atI w.cps.toList (i.toNat : Int) = some w.cps.toList[i.toNat] := L2.atI_nat (List.getElem?_eq_getElem hi)
  rw [Int.toNat_of_nonneg h0] at this
  exact ⟨_, by rw [if_pos hw, this]; rfl⟩
theorem cut_len (w : Str) (lo hi : Option Int) : (L2.cutS w lo hi).length ≤ w.length := by
  unfold L2.cutS
  rw [str_len w, str_len]
  simp only [List.length_take, List.length_drop]
  omega
theorem pcutS_ok {w : Str} {lo hi : Option Int} (hw : w.length ≤ 16777216) : pcutS w lo hi = some (L2.cutS w lo hi) := by unfold pcutS; rw [if_pos hw]
theorem pix_ok {xs : List α} {i : Int} (h0 : 0 ≤ i) (h1 : i < xs.length) : pix xs i = some (xs[i.toNat]'(by omega)) := by
  unfold pix
  have : L2.atI xs (i.toNat : Int) = some (xs[i.toNat]'(by omega)) := L2.atI_nat (List.getElem?_eq_getElem _)
  rw [Int.toNat_of_nonneg h0] at this
  exact this
end
end Mi

set_option Elab.async false
set_option linter.all false
set_option maxRecDepth 100000
set_option maxHeartbeats 4000000
namespace Mi
open PySem
/-! ### sizes -/
def Bd (n : Nat) (x : Int) : Prop := x.natAbs < 2 ^ n
theorem Bd.mono {n m : Nat} {x : Int} (h : Bd n x) (k : n ≤ m) : Bd m x := Nat.lt_of_lt_of_le h (Nat.pow_le_pow_right (by decide) k)
theorem Bd.mul {n m : Nat} {x y : Int} (h : Bd n x) (k : Bd m y) : Bd (n + m) (x * y) := by
  unfold Bd at *
  rw [Int.natAbs_mul, Nat.pow_add]
  exact Nat.mul_lt_mul'' h k
theorem Bd.add {n : Nat} {x y : Int} (h : Bd n x) (k : Bd n y) : Bd (n + 1) (x + y) := by
  unfold Bd at *
  have := Int.natAbs_add_le x y
  rw [Nat.pow_succ]
  omega
theorem Bd.sub {n : Nat} {x y : Int} (h : Bd n x) (k : Bd n y) : Bd (n + 1) (x - y) := by
  unfold Bd at *
  have := Int.natAbs_sub_le x y
  rw [Nat.pow_succ]
  omega
theorem Bd.neg {n : Nat} {x : Int} (h : Bd n x) : Bd n (-x) := by unfold Bd at *; rwa [Int.natAbs_neg]
theorem Bd.of {n : Nat} {x : Int} {b : Nat} (h1 : x.natAbs ≤ b) (h2 : b < 2 ^ n) : Bd n x := Nat.lt_of_le_of_lt h1 h2
theorem Bd.log {n : Nat} {x : Int} (h : Bd n x) (hn : 0 < n) : x.natAbs.log2 < n := by
  by_cases e : x.natAbs = 0
  · rw [e]; simpa using hn
  · exact (Nat.log2_lt e).mpr h
theorem Bd.le {n : Nat} {x y : Int} (h : Bd n y) (k : x.natAbs ≤ y.natAbs) : Bd n x := Nat.lt_of_le_of_lt k h
theorem pmul_ok {n m : Nat} {i j : Int} (h1 : Bd n i) (h2 : Bd m j) (hn : 0 < n ∧ 0 < m ∧ n + m ≤ 999999) : pmul i j = some (i * j) := by
  have a := h1.log hn.1
  have b := h2.log hn.2.1
  unfold pmul mulOk
  rw [decide_eq_true (show i.natAbs.log2 + j.natAbs.log2 < 1000000 by omega)]
  rfl
theorem pdiv_ok {i j : Int} (h : 0 < j) (k : Bd 9000 j) : pdiv i j = some (i / j) := by
  unfold pdiv
  rw [if_pos ⟨h, k.log (by decide)⟩]
theorem pmod_ok {i j : Int} (h : 0 < j) : pmod i j = some (i % j) := by unfold pmod; rw [if_pos h]
/-! ### the two loops for the greatest common divisor -/
section
variable {S τ β : Type}
theorem gcd_loop {c : Int × Int → R S Bool} {f : Int × Int → R S (Out (Int × Int) (Int × Int) β)} (hc : ∀ r, c r = sr (!decide (r.2 = 0))) (hf : ∀ r, f r = sb (so (pmod r.1 r.2)) fun x => sr (.nx (r.2, x))) :
    ∀ (n : Nat) (a b : Nat), b < n → (whL c f n ((a : Int), (b : Int)) : R S (Out (Int × Int) τ β)) = sr (.nx ((Nat.gcd a b : Nat), 0))
  | 0, _, _, h => absurd h (Nat.not_lt_zero _)
  | n + 1, a, b, h => by
    funext s
    unfold whL
    rw [hc, hf]
    by_cases e : b = 0
    · subst e
      simp [sr]
    · have e' : ¬ ((b : Int) = 0) := by omega
      have hp : (0 : Int) < b := by omega
      simp only [sr, e', decide_false, Bool.not_false, pmod_ok hp, sb, so]
      have ih := gcd_loop hc hf n b (a % b) (by have := Nat.mod_lt a (Nat.pos_of_ne_zero e); omega)
      have z : ((a : Int) % (b : Int)) = ((a % b : Nat) : Int) := (Int.natCast_emod a b).symm
      rw [z, ih]
      have g : Nat.gcd b (a % b) = Nat.gcd a b := by rw [Nat.gcd_comm b, ← Nat.gcd_rec, Nat.gcd_comm]
      rw [g]
      rfl
end
/-! ### a fraction in its lowest terms -/
def gc (p q : Int) : Int := (Nat.gcd p.natAbs q.natAbs : Nat)
theorem gc_pos {p q : Int} (h : 0 < q) : 0 < gc p q := by
  unfold gc
  have := Nat.gcd_pos_of_pos_right p.natAbs (show 0 < q.natAbs by omega)
  omega
theorem gc_le {p q : Int} (h : 0 < q) : gc p q ≤ q := by
  unfold gc
  have := Nat.gcd_le_right p.natAbs (show 0 < q.natAbs by omega)
  omega
theorem gc_p (p q : Int) : gc p q ∣ p := Int.ofNat_dvd_left.mpr (Nat.gcd_dvd_left _ _)
theorem gc_q (p q : Int) : gc p q ∣ q := Int.ofNat_dvd_left.mpr (Nat.gcd_dvd_right _ _)
theorem gc_low {p q : Int} (h : 0 < q) : gc (p / gc p q) (q / gc p q) = 1 := by
  have g := gc_pos (p := p) h
  unfold gc at *
  have e1 : (p / (Nat.gcd p.natAbs q.natAbs : Nat)).natAbs = p.natAbs / Nat.gcd p.natAbs q.natAbs := by
    rw [Int.natAbs_ediv_of_dvd (Int.ofNat_dvd_left.mpr (Nat.gcd_dvd_left _ _))]; simp
  have e2 : (q / (Nat.gcd p.natAbs q.natAbs : Nat)).natAbs = q.natAbs / Nat.gcd p.natAbs q.natAbs := by
    rw [Int.natAbs_ediv_of_dvd (Int.ofNat_dvd_left.mpr (Nat.gcd_dvd_right _ _))]; simp
  rw [e1, e2, Nat.gcd_div (Nat.gcd_dvd_left _ _) (Nat.gcd_dvd_right _ _), Nat.div_self (by omega)]
  rfl
theorem low_eq {p q : Int} (h : 0 < q) : (p / gc p q) * q = p * (q / gc p q) := by
  have g := gc_pos (p := p) h
  obtain ⟨a, ha⟩ := gc_p p q
  obtain ⟨b, hb⟩ := gc_q p q
  generalize gc p q = d at *
  subst ha hb
  rw [Int.mul_ediv_cancel_left _ (by omega), Int.mul_ediv_cancel_left _ (by omega)]
  grind
theorem low_pos {p q : Int} (h : 0 < q) : 0 < q / gc p q := Int.ediv_pos_of_pos_of_dvd h (Int.le_of_lt (gc_pos h)) (gc_q p q)
end Mi

set_option Elab.async false
set_option linter.all false
set_option maxRecDepth 100000
set_option maxHeartbeats 4000000
/-! own exceptions over ArithmeticError whose __init__ says super().__init__(..) and stores fields -/
namespace Mi
open PySem PySem.Spec PyProof.Rows L2 NdefX
abbrev aTail : List Value := [.type "ArithmeticError", .type "Exception", .type "BaseException", .type "object"]
/-- what the read part says of such a class -/
structure OexA (K : Fg) (C : Addr) : Prop where
  ini : PySem.W.excInitIn K C aTail "ArithmeticError.__new__" = true
  ovr : PySem.W.excOver K C aTail = true
  has : PySem.W.hasDictIn K C = true
  sa : PySem.W.findIn K (.ref C) "__setattr__" = some (some (.builtin "object.__setattr__"))
  exC : PySem.W.subIn K (.ref C) (.type "BaseException") = some true
  tyC : PySem.W.typeIn K (.ref C) = some (.type "type")
  kC : PySem.W.keepIn K (.ref C) = true
  sup : PySem.W.ks_superIn K C C "__init__" = some (some (.builtin "ArithmeticError.__init__"))
  subA : PySem.W.subIn K (.ref C) (.type "ArithmeticError") = some true
  mroC : PySem.W.mroIn K C (.ref C) = some true
def oexAB (K : Fg) (C : Addr) : Bool := PySem.W.excInitIn K C aTail "ArithmeticError.__new__" && (PySem.W.excOver K C aTail && (PySem.W.hasDictIn K C && (decide (PySem.W.findIn K (.ref C) "__setattr__" = some (some (.builtin "object.__setattr__"))) &&
  (decide (PySem.W.subIn K (.ref C) (.type "BaseException") = some true) && (decide (PySem.W.typeIn K (.ref C) = some (.type "type")) && (PySem.W.keepIn K (.ref C) && (decide (PySem.W.ks_superIn K C C "__init__" = some (some (.builtin "ArithmeticError.__init__"))) &&
  (decide (PySem.W.subIn K (.ref C) (.type "ArithmeticError") = some true) && decide (PySem.W.mroIn K C (.ref C) = some true)))))))))
theorem oexA_of {K : Fg} {C : Addr} (h : oexAB K C = true) : OexA K C := by
  unfold oexAB at h
  simp only [Bool.and_eq_true, decide_eq_true_eq] at h
  obtain ⟨h1, h2, h3, h4, h5, h6, h7, h8, h9, h10⟩ := h
  exact ⟨h1, h2, h3, h4, h5, h6, h7, h8, h9, h10⟩
section
open Builtin Builtin.ObjectAttr PySem.W
variable {prog : Program} {w : World} {A : Around} {E : Value → Shared → Prop} {R : Result → Shared → Prop} {hp : Heap} {g : Array GenState} {d : Drawn} {t : Nat} {os : OsState} {K : Fg} {name : Str} {tk : Tok} {v : Value} {x C : Addr} {fv : Array Value}
/-- the first field -/
theorem xsa_new (X : K.In hp) (hx : hp.get? x = some { cls := .ref C, data := .fields fv }) (T : OexA K C) (ht : takerIn K C name = some none)
    (hq : ∀ h' tk' dx, (∀ b o, b ≠ x → hp.get? b = some o → h'.get? b = some o) → hp.objs.size ≤ dx → dx ≠ x → h'.get? x = some { cls := .ref C, dict := some dx, data := .fields fv } → h'.Ns1 dx (fun y => if y = name then some v else none) →
      R (.ok (.ret .none)) ⟨h', g, d, tk', os⟩) : codeAny (model prog w) A (.call (.builtin "object.__setattr__") ⟨[.ref x, .str name tk, v], []⟩) R ⟨hp, g, d, t, os⟩ := by
  have hxs : x ≠ hp.objs.size := Nat.ne_of_lt (Heap.lt_size hx)
  obtain ⟨cd, hc, hh⟩ := any_some T.has
  have lc : Looks (model prog w) hp (classData C) cd := looks_clsIn X hc
  refine osa_openX (s := ⟨hp, g, d, t, os⟩) (od := none) F.store_ArithmeticError X ⟨hx, rfl, rfl, trivial⟩ T.ovr ht fun b => ?_
  dsimp only
  obtain ⟨nm, bs, mro, ns, qn, hd, sn, sb, ab, col, del⟩ := cd
  dsimp only at hh
  subst hh
  unfold storeInOwnDict ownDictForStores
  repeat (first | with_reducible refine PySem.HandSPX.store_in_new ?_ ?_ | with_reducible refine wpAny_loadPart_at hx ?_ | with_reducible refine lc.at ?_ | wp_step)
  · exact ⟨_, #[], _, (Heap.get?_update_ne _ _ _ _ hxs.symm).trans (Heap.get?_push_at rfl rfl), rfl, fun e he => absurd he (by simp), fun _ => rfl⟩
  · intro h' tk' hn' hs
    have hx1 : (hp.push { cls := .type "dict", data := .dict #[] }).get? x = some { cls := .ref C, data := .fields fv } := Heap.get?_push_of_some _ hx
    exact hq h' tk' hp.objs.size (fun b o hb ho => (hs.2 b (Nat.ne_of_lt (Heap.lt_size ho))).trans ((Heap.get?_update_ne _ _ _ _ hb).trans (Heap.get?_push_of_some _ ho))) (Nat.le_refl _) hxs.symm ((hs.2 x hxs).trans (Heap.get?_update_self _ hx1 rfl)) hn'
/-- a further field -/
theorem xsa_old {dx : Addr} {m0 : Str → Option Value} {nl : List Str} (X : K.In hp) (hx : hp.get? x = some { cls := .ref C, dict := some dx, data := .fields fv }) (hns : hp.Ns1 dx m0) (hw : Within m0 nl) (hz : nl.length ≤ 1000) (T : OexA K C) (ht : takerIn K C name = some none)
    (hq : ∀ h' tk', (∀ b o, b ≠ dx → hp.get? b = some o → h'.get? b = some o) → h'.Ns1 dx (fun y => if y = name then some v else m0 y) → R (.ok (.ret .none)) ⟨h', g, d, tk', os⟩) :
    codeAny (model prog w) A (.call (.builtin "object.__setattr__") ⟨[.ref x, .str name tk, v], []⟩) R ⟨hp, g, d, t, os⟩ := by
  obtain ⟨oD, esD, epD, hoD, hdD, _⟩ := hns.count hw
  obtain ⟨cd, hc, hh⟩ := any_some T.has
  have lc : Looks (model prog w) hp (classData C) cd := looks_clsIn X hc
  refine osa_openX (s := ⟨hp, g, d, t, os⟩) (od := some oD) F.store_ArithmeticError X ⟨hx, rfl, rfl, hoD⟩ T.ovr ht fun b => ?_
  dsimp only
  obtain ⟨nm, bs, mro, ns, qn, hd, sn, sb, ab, col, del⟩ := cd
  dsimp only at hh
  subst hh
  unfold storeInOwnDict ownDictForStores
  repeat (first | with_reducible refine PySem.OEX.store_in_old hns hw hz ?_ | with_reducible refine wpAny_loadPart_at hx ?_ | with_reducible refine lc.at ?_ | wp_step)
  exact fun h' tk' hn' hs => hq h' tk' (fun b o hb ho => (hs.2 b hb).trans ho) hn'
end
section
variable {X : Cx} {pins : List (Addr × Obj)} {σ : L2.St} {H : Hp} {s : Shared} {a C dx : Addr} {f : Str} {y : V} {u : Value} {fs : List (Str × V)} {Q : Unit → Shared → Prop} {E : Value → Shared → Prop} {A : Around}
theorem xst_new (T : OexA X.K C) (I : Inv X pins σ H s) (e : H a = some (exo a C none)) (hno : PySem.W.takerIn X.K C f = some none) (ry : RelV y u)
    (h : ∀ dx s', H dx = none → dx ≠ a → Inv X pins σ (upd (upd H dx (exd dx [(f, y)])) a (exo a C (some dx))) s' → Q () s') : wpAny (model X.prog X.w) A (setAttr (.ref a) f u) Q E s := by
  obtain ⟨t1, ho⟩ := exo_at I.hok e
  obtain ⟨hp, g, d, t, os⟩ := s
  refine PySem.W.set_plain I.kIn (ox := { cls := .ref C, dict := none, data := .fields #[.ref t1, .none, .none, .none, .bool false, .none] }) (od := none) ⟨ho, rfl, rfl, trivial⟩ T.sa ?_
  refine xsa_new I.kIn ho T hno fun h' tk' dx k dn dne hx hn => ?_
  have hnd : H dx = none := I.hok.fresh dn
  have nd : ∀ {b : Addr} {o : Obj}, hp.get? b = some o → b ≠ dx := fun z => Nat.ne_of_lt (Nat.lt_of_lt_of_le (Heap.lt_size z) dn)
  have na : ∀ {b : Addr}, H b = none → b ≠ a := fun {b} n z => by rw [z, e] at n; cases n
  have un : Un X.fs [] H (upd (upd H dx (exd dx [(f, y)])) a (exo a C (some dx))) hp h' := by
    refine ⟨fun b o q n _ _ => k b o (na n) q, fun b o q n _ _ => ⟨o.slots, k b o (na n) q⟩, fun b o q n _ => ?_, fun b o q _ => ?_, fun b xs q => ?_, fun b o v q => ?_, fun b ps q => ⟨#[], ?_⟩⟩
    · rw [upd_ne (na n), upd_ne (nd q)]; exact n
    · by_cases hb : b = a
      · exact ⟨_, by rw [hb]; exact hx⟩
      · exact ⟨o, k b o hb q⟩
    · rw [upd_ne (at_ne e q exo_tup), upd_ne (L2.ne_of_none q hnd)]; exact q
    · rw [upd_ne (at_ne e q exo_frz), upd_ne (L2.ne_of_none q hnd)]; exact q
    · rw [upd_ne (at_ne e q exo_tbl), upd_ne (L2.ne_of_none q hnd), q]; simp
  refine h dx _ hnd dne (I.un (t' := tk') un fun b o q => ?_)
  by_cases hb : b = a
  · subst hb
    rw [upd_same] at q
    cases q
    exact exo_ok hx
  · rw [upd_ne hb] at q
    by_cases hd : b = dx
    · subst hd
      rw [upd_same] at q
      cases q
      exact exd_ok hn (relO_put (fs := []) ry fun g => True.intro)
    · rw [upd_ne hd] at q
      refine (I.hok b o q).stay (fun c v hc z => k c v ?_ z) (fun c hc => ?_) fun c xs hc => ?_
      · rcases hc with hc | hc
        · rw [hc]; exact hb
        · exact at_ne e hc exo_own
      · rw [upd_ne (at_ne e hc exo_own), upd_ne (L2.ne_of_none hc hnd)]; exact hc
      · rw [upd_ne (at_ne e hc exo_tup), upd_ne (L2.ne_of_none hc hnd)]; exact hc
theorem xst_old (T : OexA X.K C) (I : Inv X pins σ H s) (e : H a = some (exo a C (some dx))) (ed : H dx = some (exd dx fs)) (hl : fs.length ≤ 900) (hno : PySem.W.takerIn X.K C f = some none) (ry : RelV y u)
    (h : ∀ s', Inv X pins σ (upd H dx (exd dx ((f, y) :: fs))) s' → Q () s') : wpAny (model X.prog X.w) A (setAttr (.ref a) f u) Q E s := by
  obtain ⟨t1, ho⟩ := exo_at I.hok e
  obtain ⟨mA, hns, rel⟩ := exd_at I.hok ed
  have hw := within_of rel
  obtain ⟨hp, g, d, t, os⟩ := s
  obtain ⟨oD, _, _, hoD, _, _⟩ := hns.count hw
  refine PySem.W.set_plain I.kIn (ox := { cls := .ref C, dict := some dx, data := .fields #[.ref t1, .none, .none, .none, .bool false, .none] }) (od := some oD) ⟨ho, rfl, rfl, hoD⟩ T.sa ?_
  refine xsa_old I.kIn ho hns hw (by rw [List.length_map]; omega) T hno fun h' tk' k hn => ?_
  have hd : ∃ o, h'.get? dx = some o := let ⟨o, _, _, e', _⟩ := hn; ⟨o, e'⟩
  exact h _ (I.write (t' := tk') (x := dx) (e := dx) (o := exd dx ((f, y) :: fs)) (by rw [ed]; exact True.intro) (.inl rfl) k hd (exd_ok hn (relO_put ry rel)))
end
/-- self.f = e -/
def tXst (K : Fg) (f : Str) (to te : TE) : TS := fun D σ H => te σ H fun y H1 => to σ H1 fun x H2 => ∃ a C : Addr, x = .ref a ∧ OexA K C ∧ PySem.W.takerIn K C f = some none ∧
  ((H2 a = some (exo a C none) ∧ ∀ dx, H2 dx = none → dx ≠ a → D.nx σ (upd (upd H2 dx (exd dx [(f, y)])) a (exo a C (some dx)))) ∨
    ∃ (dx : Addr) (fs : List (Str × V)), H2 a = some (exo a C (some dx)) ∧ H2 dx = some (exd dx fs) ∧ fs.length ≤ 900 ∧ D.nx σ (upd H2 dx (exd dx ((f, y) :: fs))))
theorem ps_xst {X : Cx} {o e : Expr} {to te : TE} {f : Str} {p' pos : Pos} (ho : PE X o to) (he : PE X e te) (hs : swapsWith e (some (.Attribute o f p')) pos.line X.env = pure false := by rfl) : PS X (.Assign [.Attribute o f p'] e pos) (tXst X.K f to te) := by
  refine ⟨fun pins s σ H D I h => ?_⟩
  refine plainObj_wpAny_Assign_Attribute (thn (he.run pins s σ H _ I h) fun v s1 ⟨y, H1, I1, r1, q1⟩ => thn (ho.run pins s1 σ H1 _ I1 q1) fun u s2 ⟨x, H2, I2, r2, a, C, ex, T, hno, q⟩ => ?_) hs
  subst ex
  obtain rfl : u = Value.ref a := r2
  rcases q with ⟨ea, q⟩ | ⟨dx, fs, ea, ed, hl, q⟩
  · exact xst_new T I2 ea hno r1 fun dx s' n ne J => ⟨σ, _, J, q dx n ne⟩
  · exact xst_old T I2 ea ed hl hno r1 fun s' J => ⟨σ, _, J, q⟩
end Mi

set_option Elab.async false
set_option linter.all false
set_option maxRecDepth 100000
set_option maxHeartbeats 4000000
namespace Mi
open PySem PySem.Spec PyProof.Rows L2 NdefX
section
variable {X : Cx} {o e : Expr} {es : List Expr} {to te : TE} {ta : TA} {f : Str} {p p' p1 p2 pos : Pos}
/-- C(e, ..) behind raise -/
theorem pmk_xex {CX : CXT} {x : Str} {C fI : Addr} {k : Nat} {fd : FuncData} {ps : List Str} {sp : Sp} (T : OexA X.K C) (iC : PySem.W.findIn X.K (.ref C) "__init__" = some (some (.ref fI))) (tI : PySem.W.typeIn X.K (.ref fI) = some (.type "function"))
    (F1 : FnOk X.prog X.w X.K X.mg X.base CX k fI fd ps sp) (hr : Room (k + 1) X.A) (hb : Binds X.K fd ps []) (hx : Passes CX X (fun _ _ _ => False)) (hg : Gl X x) (hm : X.mg x = some (.ref C)) (ha : PA X (e :: es) ta)
    (hdb : (x == ("__debug__" : Str)) = false := by decide) (he : starEach (e :: es) X.env = (false, eval e X.env) :: starEach es X.env := by rfl) (hpl : (backTo pos (starEach es X.env)).any (·.1) = false := by rfl) :
    PMk X (.Call (.Name x p) (e :: es) [] pos) (tMkO C sp [] ta) := by
  intro pins s σ H Q I h
  refine wpAny_Call_Name_kw (ld_glob I hg hm ?_ hdb)
  refine PySem.W.callWith_K (h₀ := X.base) I.ok.mod.kin T.kC (thn (ha.run pos pins s σ H _ I h) fun us s1 ⟨vs, H1, I1, r1, hz, q1⟩ => ⟨I1.kIn, ?_⟩) he hpl
  show wpAny _ _ (call (.ref C) us) _ _ _
  obtain ⟨hp, g, dr, tk, os⟩ := s1
  have hsz : hp.objs.size ≤ hp.objs.size + 1 := Nat.le_succ _
  have hn : H1 (hp.objs.size + 1) = none := I1.hok.fresh hsz
  have hq := q1 (hp.objs.size + 1) hn
  rw [List.append_nil] at hq
  have kk : ∀ b o, hp.get? b = some o → ((hp.push (PySem.W.kdv_tup us)).push (PySem.HandSPX.excO C hp.objs.size)).get? b = some o := fun b o z => Heap.get?_push_of_some _ (Heap.get?_push_of_some _ z)
  have hget : ((hp.push (PySem.W.kdv_tup us)).push (PySem.HandSPX.excO C hp.objs.size)).get? (hp.objs.size + 1) = some (PySem.HandSPX.excO C hp.objs.size) := by heap_get
  have I2 : Inv X pins σ (upd H1 (hp.objs.size + 1) (exo (hp.objs.size + 1) C none)) ⟨(hp.push (PySem.W.kdv_tup us)).push (PySem.HandSPX.excO C hp.objs.size), g, dr, tk, os⟩ :=
    I1.laid (t' := tk) (a := hp.objs.size + 1) (o := exo (hp.objs.size + 1) C none) (h' := (hp.push (PySem.W.kdv_tup us)).push (PySem.HandSPX.excO C hp.objs.size)) kk hsz (exo_ok hget)
  have r2 : Vals (V.ref (hp.objs.size + 1) :: vs) (Value.ref (hp.objs.size + 1) :: us) := .cons rfl r1
  have hl : (Value.ref (hp.objs.size + 1) :: us).length = ps.length := by
    have z := r2.length
    rw [F1.len _ _ _ _ hq] at z
    exact z.symm
  have hus : us.length ≤ sizeLine := by
    rw [← Paired.length r1, sizeLine_eq]
    omega
  obtain ⟨nm, N', qn, bs, bm, hdct, sn, sub, ab, col, dd, k0, k1, k2, k3, k5, hC, hT⟩ := PySem.W.excInit_of I1.kIn T.ini
  have hbind := hb ⟨(hp.push (PySem.W.kdv_tup us)).push (PySem.HandSPX.excO C hp.objs.size), g, dr, tk, os⟩ (Value.ref (hp.objs.size + 1) :: us) I2.kIn (by rw [List.append_nil]; exact hl)
  rw [List.append_nil] at hbind
  refine wpAny_call (PySem.HandSPX.call_own PySem.F.excBase_ArithmeticError hT hC (PySem.W.looks_findIn I1.kIn iC) (fun self => PySem.W.bind_fn I1.kIn self tI) hus
    (codeAny_mono (F1.run _ X.stack _ _ ⟨Value.ref (hp.objs.size + 1) :: us, []⟩ (Value.ref (hp.objs.size + 1) :: us) _ _ (fun _ _ _ => False) (hr.make C us []) (I2.env0.make C us []) hbind r2 hq) fun r s' hq' => ?_))
  cases r with
  | error er => exact hx pins σ _ _ er s' I2 hq'
  | ok fl =>
    cases fl with
    | ret u =>
      obtain ⟨v, H2, os2, bare2, un2, hok2, rv, ev, d, fs, ea, ed, hd1, q2⟩ := hq'
      subst ev
      obtain ⟨h2, g2, d2, t2, os'⟩ := s'
      exact ⟨rv, mk_end (raises_own T.exC T.tyC) I1 hsz kk un2 hok2 os2 bare2 ea ed hd1 q2⟩
    | next => exact False.elim hq'
    | brk => exact False.elim hq'
    | cont => exact False.elim hq'
end
/-! ### the __init__: super().__init__(text), then stores -/
/-- the read part's word of such a function: the function, its cell, its code -/
structure FunX (K : Fg) (file : Str) (F : NF) (f C cc : Addr) (fd : FuncData) : Prop where
  ex : ∃ (oc : Value) (od : Option Addr) (doc pm ctv : Value) (osl : Array (Option Value)), fd = F.fd doc pm ctv ∧ K.lookup f = some ⟨oc, od, .func fd, osl⟩
  cd : PySem.W.codeIn K (.ref F.c) F.qual = true
  cl : F.cl = [(("__class__" : Str), cc)]
  cell : ∃ a b c, K.lookup cc = some ⟨a, b, .cell (some (.ref C)), c⟩
  file : ∃ (z : Value) (b : Option Addr) (vs : Array Value) (sl : Array (Option Value)) (tf : Tok), K.lookup F.c = some ⟨z, b, .fields vs, sl⟩ ∧ vs[2]? = some (.str file tf)
/-- the first statement, and what of the text it leans on -/
structure SupX (F : NF) (ps : List Str) (rest : List Stmt) : Prop where
  body : ∃ (msg : Str) (p0 p1 p2 p3 p4 p5 : Pos) (j : _), F.body = .Expr (.Call (.Attribute (.Call (.Name "super" p0) [] [] p1) "__init__" p2) [.Constant (.str msg) j p3] [] p4) p5 :: rest ∧
    ∀ (f L : Addr), swapsWith (.Call (.Attribute (.Call (.Name "super" p0) [] [] p1) "__init__" p2) [.Constant (.str msg) j p3] [] p4) none p5.line (envF F f L) = pure false ∧ interactive (envF F f L) = false ∧
      ∃ pl, eval (.Call (.Attribute (.Call (.Name "super" p0) [] [] p1) "__init__" p2) [.Constant (.str msg) j p3] [] p4) (envF F f L) = (do
      let ov ← attributeBase (.Call (.Name "super" p0) [] [] p1) "__init__" (envF F f L) (eval (.Call (.Name "super" p0) [] [] p1) (envF F f L))
      standAt p2.atName
      let (f', first) ← holding [ov] (getMethod ov "__init__" pl)
      callWith p4 f' first (backTo p4 (starEach [.Constant (.str msg) j p3] (envF F f L))) [])
  scope : NScope (("self" : Str) :: ps ++ [("__class__" : Str)]) (("self" : Str) :: ps) [("__class__" : Str)] F.scope
  par : ∃ ar, (F.params.posonlyargs ++ F.params.args).head? = some ar ∧ ar.arg = ("self" : Str)
  sup : F.scope.names.lookup ("super" : Str) = some .globalImplicit
section
variable {P : Program} {w : World} {K : Fg} {mg : Str → Option Value} {base : Heap} {F : NF} {f C cc : Addr} {fd : FuncData} {CX : CXT}
abbrev xN (ps : List Str) : List Str := ("self" : Str) :: ps ++ [("__class__" : Str)]
theorem xinit_ok {ps : List Str} {k : Nat} {sp : Sp} {rest : List Stmt} {file : Str} (FX : FunX K file F f C cc fd) (T : OexA K C) (SX : SupX F ps rest) (mgS : mg "super" = none) (hfile : ((P.main.file : Str) == file) = true)
    (htop : (P.main.scope.names.lookup ("super" : Str)).isSome = false) (hopq : PySem.W.nsIn K PySem.cStatics "thirdparty.any" = some none)
    (len : ∀ vs H Q E, sp vs H Q E → vs.length = ps.length + 1)
    (hb : ∀ (A : Around) (outer : List Env) (s : Shared) (H : Hp) (vs : List V) (Q : VK) (E : XK), Room k (A.deeper (envF F f s.heap.objs.size)) → sp vs H Q E →
      ∃ (x : Addr) (ws : List V), vs = .ref x :: ws ∧ H x = some (exo x C none) ∧ ∃ t, PSs (ncx CX P w K mg base (xN ps) F f A outer s H E) rest t ∧ t { nx := fun _ H' => Q .non H', rt := Q } (startF (xN ps) vs [some (.ref C)]) H) :
    FnOk P w K mg base CX (k + 1) f fd (("self" : Str) :: ps) sp := by
  obtain ⟨oc, od, doc, pm, ctv, osl, efd, lk⟩ := FX.ex
  obtain ⟨ca, cb, ccc, lcell⟩ := FX.cell
  obtain ⟨z1, z2, cvs, z3, tf, lcode, lfile⟩ := FX.file
  obtain ⟨msg, p0, p1, p2, p3, p4, p5, j, hbody, htext⟩ := SX.body
  obtain ⟨ar, har, earg⟩ := SX.par
  have S := SX.scope
  refine ⟨len, fun A outer s H args us vs Q E hr e0 hbi r hsp => ?_⟩
  have hl := len _ _ _ _ hsp
  have hl' : vs.length = (("self" : Str) :: ps).length := hl
  have KX : K.In s.heap := e0.mod.kin.keeps fun b o e => (e0.bs b o e).1
  have lim : s.heap.NoLimit := e0.mod.nolimit.keeps fun b o e => (e0.bs b o e).1
  subst efd
  refine codeAny_call_function hr.depth (KX _ _ lk) rfl S.co S.gen rfl (PySem.W.codeRec_of KX FX.cd) (hbi _ _ _ _ ?_)
  refine wpAny_newFunctionEnv S.nocell (fun ⟨n, _⟩ hy => S.par n (List.of_mem_zip hy).1) (fun h1 hns hsb => ⟨lim.fresh _ hsb, ?_⟩) S.kind
  obtain ⟨hs1, hs2, pl, hev⟩ := htext f s.heap.objs.size
  show codeAny _ _ (.func F.body (envF F f s.heap.objs.size)) _ _
  refine ks_codeAny_funcAt ?_
  have kp : ∀ b o, s.heap.get? b = some o → h1.get? b = some o := fun b o e => hsb.extBut b o (Nat.ne_of_lt (Heap.lt_size e)) (Heap.get?_push_of_some _ e)
  obtain ⟨x, ws, ev, ex, t, ht, hq⟩ := hb A outer s H vs Q E (hr.deeper _) hsp
  have hcc : H cc = none := (e0.bs _ _ (e0.mod.kin _ _ lcell)).2
  have CA : CellsAt F.cl [("__class__" : Str)] [some (.ref C)] s.heap H := by
    rw [FX.cl]
    have key : ∀ {y : Str} {c : Addr}, ([(("__class__" : Str), cc)] : List (Str × Addr)).lookup y = some c → y = ("__class__" : Str) ∧ c = cc := by
      intro y c e
      by_cases z : y = ("__class__" : Str)
      · subst z; cases e; exact ⟨rfl, rfl⟩
      · have z' : (y == ("__class__" : Str)) = false := by simpa using z
        simp [List.lookup, z'] at e
    refine ⟨rfl, fun y c e => ?_, fun y z c e1 e2 => (key e1).1.trans (key e2).1.symm, fun i y e => ?_⟩
    · obtain ⟨_, rfl⟩ := key e
      exact ⟨hcc, _, _, KX _ _ lcell, rfl⟩
    · cases i with
      | zero =>
        cases e
        exact ⟨cc, rfl, fun v e => by cases e; exact ⟨.ref C, rfl, _, KX _ _ lcell, rfl⟩⟩
      | succ i => cases e
  have I : Inv (ncx CX P w K mg base (xN ps) F f A outer s H E) [] (startF (xN ps) vs [some (.ref C)]) H { s with heap := h1, toks := s.toks + ((("self" : Str) :: ps).zip us).length } := inv_startN S hr.hd e0 hl' r CA hns kp
  have hsup : (envF F f s.heap.objs.size).kindOf ("super" : Str) = some .globalImplicit := SX.sup
  have hkc : (envF F f s.heap.objs.size).kindOf ("__class__" : Str) = some .free := S.frk _ (List.mem_singleton.mpr rfl)
  have hks : (envF F f s.heap.objs.size).kindOf ("self" : Str) = some .local := S.par _ (List.mem_cons_self ..)
  have K1 : K.In h1 := fun b o e => kp b o (KX b o e)
  obtain ⟨cd, hcd, hdct⟩ := PySem.W.any_some T.has
  obtain ⟨oC, hC1, hC2⟩ : ∃ oC, h1.get? C = some oC ∧ oC.data = .cls cd := by
    unfold PySem.W.clsIn at hcd
    split at hcd
    · rename_i c d cd' sl ho
      cases hcd
      exact ⟨_, K1 _ _ ho, rfl⟩
    · cases hcd
  subst ev
  obtain ⟨t1, hx1⟩ := exo_at I.hok ex
  rw [hbody]
  refine ks_wpAt_execs_cons (ks_wpAt_Expr_any (ks_wpAt_MethodCall (pl := pl) ?_ hev) hs2 hs1)
  refine ks_wpAt_super_base hsup hkc rfl rfl (K1 _ _ lk) rfl har rfl (K1 _ _ lcode) rfl lfile hfile htop ?_
  obtain ⟨mb, hm1, hm2⟩ := e0.mod.blt
  have kb : ∀ b o, base.get? b = some o → h1.get? b = some o := fun b o e => kp b o (e0.bs b o e).1
  refine PySem.W.ks_loadName_global S.kind hsup (PySem.Calls.loadGlobal_builtin (e0.mod.glob.keeps kb) mgS (hm1.keeps kb) ((hm2 _ (by decide)).trans (show bootBuiltins ("super" : Str) = some (.type "super") by decide +kernel)) ⟨rfl, ?_⟩)
  refine wpAny_loadName_free (c := cc) S.kind hkc (by show F.cl.lookup _ = _; rw [FX.cl]; rfl) ⟨_, K1 _ _ lcell, rfl⟩ ?_
  rw [earg]
  obtain ⟨m, hm, hml⟩ := I.loc
  obtain ⟨u, ru, lu⟩ := hml 0 ("self" : Str) (.ref x) rfl rfl (.inl (S.par _ (List.mem_cons_self ..)))
  obtain rfl : u = Value.ref x := ru
  have hmx : m ("self" : Str) = some (.ref x) := by
    rcases lu with ⟨_, z⟩ | ⟨z, _⟩
    · exact z
    · rcases z with z | z <;> · rw [show (ncx CX P w K mg base (xN ps) F f A outer s H E).env.kindOf ("self" : Str) = some .local from hks] at z; cases z
  refine wpAny_loadName_local S.kind hks hm hmx ?_
  refine ks_wpAny_isType_cls hC1 hC2 ⟨rfl, ?_⟩
  refine ks_wpAny_call_super hC1 hC2 hx1 rfl (fun c e => by cases e) (PySem.W.looks_mroIn K1 T.mroC) fun h2 hso k2 => ?_
  have I2 := ClX.pin_new (t' := s.toks + ((("self" : Str) :: ps).zip us).length) I k2 (Nat.le_refl _) hso (fun v e => by cases e)
  have K2 : K.In h2 := fun b o e => k2 b o (K1 b o e)
  have hx2 := k2 _ _ hx1
  have at2 : PySem.W.InstAt h2 x { cls := .ref C, dict := none, data := .fields #[.ref t1, .none, .none, .none, .bool false, .none] } C none := ⟨hx2, rfl, rfl, trivial⟩
  have hal : PySem.W.alongIn K "__init__" ((cd.mro.dropWhile (· != .ref C)).drop 1) = some (some (.builtin "ArithmeticError.__init__")) := by
    have z := T.sup
    unfold PySem.W.ks_superIn at z
    rw [hcd] at z
    exact z
  refine PySem.W.kxs_getMethod PySem.W.kxs_ArithmeticError hso (PySem.W.looks_opaque K2 hopq) (l₀ := cd.mro) (fun A Q E s k q => wpAny_bind ((PySem.W.looks_clsIn K2 hcd) A _ E s k (wpAny_pure q))) rfl K2 hal (at2.type.andThen (PySem.W.looks_subIn K2 T.subA)) (PySem.W.ks_ne K2 at2 hcd) (by decide) ?_
  have k3 : ∀ b o, h2.get? b = some o → (h2.push (PySem.W.kxs_mw "ArithmeticError.__init__" x)).get? b = some o := fun b o e => Heap.get?_push_of_some _ e
  have I3 := ClX.pin_new (t' := s.toks + ((("self" : Str) :: ps).zip us).length + 1) I2 k3 (Nat.le_refl _) (Heap.get?_push_at rfl rfl) (fun v e => by cases e)
  show wpAny _ _ (callWith p4 _ [] ((false, eval (.Constant (.str msg) j p3) (envF F f s.heap.objs.size)) :: backTo p4 (starEach [] (envF F f s.heap.objs.size))) []) _ _ _
  refine PySem.W.kxs_callWith (i := "ArithmeticError.__init__") (x := x) rfl (PySem.Calls.evalArgs_plain ?_)
  refine thn ((pa_cons (X := ncx CX P w K mg base (xN ps) F f A outer s H E) (pe_str (x := msg) (j := j) (pos := p3)) pa_nil).run p4 _ _ _ H (fun vs H1 => vs = [.str msg] ∧ H1 = H) I3 ⟨rfl, rfl⟩) fun us' s4 ⟨vs4, H4, I4, r4, e4, eH⟩ => ?_
  subst e4 eH
  have hmw := ClX.pin_at I4
  refine ⟨hmw, ?_⟩
  obtain ⟨t4, hx4⟩ := exo_at I4.hok ex
  have K4 := I4.kIn
  obtain ⟨nm, N', qn, bs, bm, hd, sn, sub, ab, col, dd, k0, k1, k2', k3', k5, hC4, hT⟩ := PySem.W.excInit_of K4 T.ini
  have hlen : us'.length ≤ sizeLine := by rw [← r4.length]; show 1 ≤ sizeLine; decide
  obtain ⟨h4, g4, d4, tk4, os4⟩ := s4
  refine wpAny_call (codeAny_of_tree ?_)
  show wpAny _ _ (callAny (.ref _) ⟨[] ++ us', []⟩) _ _ _
  simp only [callAny, List.nil_append]
  refine wpAny_bind (wpAny_load hmw ?_)
  simp only [show (Value.type "method-wrapper" == Value.type "method" || Value.type "method-wrapper" == Value.type "builtin_function_or_method" || Value.type "method-wrapper" == Value.type "method-wrapper") = true from by decide, if_true]
  refine PySem.W.KFB.if_so (by decide) ?_
  refine wpAny_bind (PySem.W.check_bound_init PySem.F.excBase_ArithmeticError.toExcCallFacts hC4 hx4 rfl ?_)
  refine wpAny_bind (wpAny_pure (wpAny_pure ?_))
  refine ⟨plainId_quiet PySem.F.excBase_ArithmeticError.init.plain _, codeAny_builtin PySem.F.excBase_ArithmeticError.initEntry ?_⟩
  refine PySem.W.exc_init_tree (cls := .ref C) (t0 := t4) (dv := none) (c2 := .none) (c3 := .none) (b4 := .bool false) hx4 hlen fun h5 k5' hx5 _ => ?_
  have J := I4.write (t' := tk4) (x := x) (e := x) (o := exo x C none) (by rw [ex]; exact True.intro) (.inl rfl) k5' ⟨_, hx5⟩ (exo_ok hx5)
  have eu : upd H4 x (exo x C none) = H4 := by
    funext b
    by_cases hb : b = x
    · rw [hb, upd_same, ex]
    · rw [upd_ne hb]
  rw [eu] at J
  refine wpAt_of_wpAny (wpAny_mono (ht.run _ _ _ H4 _ (ClX.unpin (ClX.unpin J)) hq) (fun fl s' hs => ?_) fun e s' hs => hs)
  have fin : ∀ {σ' : L2.St} {H' : Hp} {v : V} {u : Value}, Inv (ncx CX P w K mg base (xN ps) F f A outer s H4 E) [] σ' H' s' → L2.RelV v u → Q v H' → CE outer P w H4 s Q u s' := fun J' rv q => ⟨_, _, J'.os, J'.bare, J'.base, J'.hok, rv, q⟩
  cases fl with
  | ret u => exact let ⟨v, σ', H', J', rv, q⟩ := hs; fin J' rv q
  | next => exact let ⟨σ', H', J', q⟩ := hs; fin (v := V.non) (u := Value.none) J' rfl q
  | brk => exact let ⟨_, _, _, q⟩ := hs; False.elim q
  | cont => exact let ⟨_, _, _, q⟩ := hs; False.elim q
end
end Mi

set_option Elab.async false
set_option linter.all false
set_option maxRecDepth 100000
set_option maxHeartbeats 4000000
namespace Mi
open PySem PySem.Spec PyProof.Rows L2 NdefX
/-! ### the object that is being made: owned by its __init__ -/
def XAt (K : Fg) (C x : Addr) (I O : Hp) : List (Str × D) → Prop
  | [] => O x = some (exo x C none)
  | p :: fs => ∃ d us, O x = some (exo x C (some d)) ∧ O d = some (exd d us) ∧ FD K I us (p :: fs) ∧ d ≠ x
theorem FD.up {K : Fg} {I I' : Hp} (e : Same I I') : ∀ {us : List (Str × V)} {fs : List (Str × D)}, FD K I us fs → FD K I' us fs
  | _, _, .nil => .nil
  | _, _, .cons r q => .cons (RD.up e r) (FD.up e q)
theorem FD.len {K : Fg} {I : Hp} : ∀ {us : List (Str × V)} {fs : List (Str × D)}, FD K I us fs → us.length = fs.length
  | _, _, .nil => rfl
  | _, _, .cons _ q => congrArg Nat.succ (FD.len q)
theorem XAt.up {K : Fg} {C x : Addr} {I I' O : Hp} (e : Same I I') : ∀ {fs : List (Str × D)}, XAt K C x I O fs → XAt K C x I' O fs
  | [], h => h
  | _ :: _, ⟨d, us, h1, h2, h3, h4⟩ => ⟨d, us, h1, h2, FD.up e h3, h4⟩
def sX (K : Fg) (C x : Addr) (fs : List (Str × D)) : Slot := .ow (fun I O v => v = .ref x ∧ XAt K C x I O fs) fun _ _ _ _ e h => ⟨h.1, XAt.up e h.2⟩
theorem same_uni {A B C : Hp} (h1 : Same A C) (h2 : ∀ b o, A b = none → B b = some o → C b = some o) : Same (uni A B) C := fun b o e => by
  unfold uni at e
  cases q : A b with
  | none => rw [q] at e; exact h2 b o q e
  | some u => rw [q] at e; exact h1 b o (by rw [q]; exact e)
section
variable {X : Cx} {S ρ τ β : Type} {Γ : S → Gam} {Λ : τ → S → Gam} {Res : S → Hp → Hp → V → β → Prop} {Δ : ρ → S → Gam} {pos p1 p2 : Pos} {rest : List Stmt}
/-- self.f = e, in the __init__ of an exception -/
theorem pb_xst {E : XK} {f self : Str} {x C : Addr} {e : Expr} {fs : List (Str × D)} {m : R S D} {kk : D → R S (Out ρ τ β)} (T : OexA X.K C) (hno : PySem.W.takerIn X.K C f = some none) (hg : ∀ s, (Γ s).at 0 = sX X.K C x fs) (he : PX X (kE E) Γ e m)
    (hk : ∀ d, PB X (kE E) Λ Res (fun s => (Γ s).put 0 (sX X.K C x ((f, d) :: fs))) rest Δ (kk d)) (hl : fs.length ≤ 900) (hN : X.N[0]? = some self := by rfl) (hv : Vis X.env.scope self := by first | exact Or.inl rfl | exact Or.inr (Or.inl rfl) | exact Or.inr (Or.inr rfl))
    (hd : (self == ("__debug__" : Str)) = false := by decide) (hcd : (self == ("__classdict__" : Str)) = false := by decide) (hs : swapsWith e (some (.Attribute (.Name self p1) f p2)) pos.line X.env = pure false := by rfl) :
    PB X (kE E) Λ Res Γ (.Assign [.Attribute (.Name self p1) f p2] e pos :: rest) Δ (sb m kk) :=
  (pss_cons (ps_xst (pe_var hN hv hd hcd) he hs) (L2.PSs.ex hk)).mono fun D σ H ⟨s, I, O, t, sat, q⟩ => ⟨s, I, O, t, sat, q.bind.imp fun dd I1 H1 ⟨_, s1, O1, t1, sat1, q1⟩ v rv => by
    obtain ⟨v0, P1, P2, e1, d12, hP1, hP2, ⟨rfl, xa⟩, sat2⟩ := sat1.at_ow (hg s1)
    have key : ∀ {O2 H2 Q1 : Hp}, St3 I1 O2 H2 → Go I1 O1 H1 I1 O2 H2 → Same (uni Q1 P2) O2 → (∀ b, Q1 b = none ∨ P2 b = none) → XAt X.K C x I1 Q1 ((f, dd) :: fs) → ∃ d, tB X.K (kE E) Λ Res (fun s => (Γ s).put 0 (sX X.K C x ((f, d) :: fs))) Δ (kk d) D σ H2 := by
      intro O2 H2 Q1 t2 g2 sm dj xa2
      exact ⟨dd, s1, I1, uni Q1 P2, t2.drop sm, Sat.back (R := fun I O v => v = .ref x ∧ XAt X.K C x I O ((f, dd) :: fs)) ⟨rfl, xa2⟩ dj e1 sat2, (q1.shift g2).shift (Go.drop sm)⟩
    refine ⟨_, e1, x, C, rfl, T, hno, ?_⟩
    cases fs with
    | nil =>
      have xa : P1 x = some (exo x C none) := xa
      have hx2 : P2 x = none := (d12 x).resolve_left (by rw [xa]; exact Option.some_ne_none _)
      refine .inl ⟨t1.so _ _ (hP1 _ _ xa), fun dx n ne => ?_⟩
      have tl := t1.layO (o := exd dx [(f, v)]) n
      have hxo : upd O1 dx (exd dx [(f, v)]) x = some (exo x C none) := by rw [upd_ne ne.symm]; exact hP1 _ _ xa
      refine key (Q1 := upd (upd P1 dx (exd dx [(f, v)])) x (exo x C (some dx))) (tl.wr hxo) ((Go.layO t1 n).trans (Go.wr tl hxo)) (same_uni (fun b o z => ?_) fun b o z1 z2 => ?_) (fun b => ?_) ⟨dx, _, upd_same, by rw [upd_ne ne, upd_same], .cons rv .nil, ne⟩
      · by_cases hb : b = x
        · subst hb; rw [upd_same] at z ⊢; exact z
        · rw [upd_ne hb] at z ⊢
          by_cases hd : b = dx
          · subst hd; rw [upd_same] at z ⊢; exact z
          · rw [upd_ne hd] at z ⊢; exact hP1 _ _ z
      · have hb : b ≠ x := fun z => by rw [z, upd_same] at z1; cases z1
        rw [upd_ne hb] at z1 ⊢
        have hd : b ≠ dx := fun z => by rw [z, upd_same] at z1; cases z1
        rw [upd_ne hd]; exact hP2 _ _ z2
      · by_cases hb : b = x
        · exact .inr (by rw [hb]; exact hx2)
        · rw [upd_ne hb]
          by_cases hd : b = dx
          · exact .inr (by rw [hd]; exact (hP2.trans t1.so).free n)
          · rw [upd_ne hd]; exact d12 b
    | cons p fs =>
      obtain ⟨dx, us, xa1, xa2, fd, ne⟩ := xa
      have hd2 : P2 dx = none := (d12 dx).resolve_left (by rw [xa2]; exact Option.some_ne_none _)
      refine .inr ⟨dx, us, t1.so _ _ (hP1 _ _ xa1), t1.so _ _ (hP1 _ _ xa2), by rw [FD.len fd]; exact hl, ?_⟩
      refine key (Q1 := upd P1 dx (exd dx ((f, v) :: us))) (t1.wr (hP1 _ _ xa2)) (Go.wr t1 (hP1 _ _ xa2)) (same_uni (fun b o z => ?_) fun b o z1 z2 => ?_) (fun b => ?_) ⟨dx, _, by rw [upd_ne ne.symm]; exact xa1, upd_same, .cons rv fd, ne⟩
      · by_cases hd : b = dx
        · subst hd; rw [upd_same] at z ⊢; exact z
        · rw [upd_ne hd] at z ⊢; exact hP1 _ _ z
      · have hd : b ≠ dx := fun z => by rw [z, upd_same] at z1; cases z1
        rw [upd_ne hd]; exact hP2 _ _ z2
      · by_cases hd : b = dx
        · exact .inr (by rw [hd]; exact hd2)
        · rw [upd_ne hd]; exact d12 b⟩
end
end Mi

set_option Elab.async false
set_option linter.all false
set_option maxRecDepth 100000
set_option maxHeartbeats 4000000
namespace Mi
open PySem PySem.Spec PyProof.Rows L2 NdefX
def PostI (C x : Addr) (K : Fg) (I H : Hp) (Q : VK) : Except Er (List (Str × D)) → Prop
  | .ok fs => ∀ d us I' H', Same I' H' → Same I I' → (∀ b o, b ≠ x → H b = some o → H' b = some o) → (∀ b, I' b ≠ none → I b ≠ none ∨ H b = none) → I' x = none → I' d = none → H d = none → d ≠ x → H' x = some (exo x C (some d)) → H' d = some (exd d us) → FD K I' us fs → Q .non H'
  | .error _ => False
/-- the promise of an own exception's __init__ -/
def spInit {A : Type} [Args A] (K : Fg) (c : Str) (m : A → Except Er (List (Str × D))) : Sp := fun vs H Q _ => ∃ x ws a I, vs = .ref x :: ws ∧ H x = some (exo x (He.ga K c) none) ∧ Same I H ∧ I x = none ∧ Args.rep K I ws a ∧ PostI (He.ga K c) x K I H Q (m a)
def runX (m : R Unit (Out (List (Str × D)) Empty Unit)) : Except Er (List (Str × D)) := match m () with
  | .ok (.nx (p :: fs), _) => .ok (p :: fs)
  | _ => .error .stuck
theorem sat_last {I : Hp} : ∀ {g : Gam} {σ : L2.St} {O : Hp} {x y : Option V}, Sat (g ++ [.un]) (σ ++ [x]) I O → Sat (g ++ [.un]) (σ ++ [y]) I O
  | [], [], _, _, _, _ => trivial
  | [], _ :: σ, _, x, _, h => by
    have h : Sat [] (σ ++ [x]) I _ := h
    cases σ <;> exact h.elim
  | .un :: g, [], _, _, _, h => by
    have h : Sat (g ++ [.un]) [] I _ := h
    cases g with
    | nil => exact h.elim
    | cons s g => cases s <;> exact h.elim
  | .im _ _ :: g, [], _, _, _, h => by
    have h : Sat (g ++ [.un]) [] I _ := h.2
    cases g with
    | nil => exact h.elim
    | cons s g => cases s <;> exact h.elim
  | .ow _ _ :: g, [], _, _, _, ⟨_, _, _, _, _, _, _, _, h⟩ => by
    have h : Sat (g ++ [.un]) [] I _ := h
    cases g with
    | nil => exact h.elim
    | cons s g => cases s <;> exact h.elim
  | .un :: g, _ :: σ, _, _, _, h => sat_last (g := g) (σ := σ) h
  | .im _ _ :: g, _ :: σ, _, _, _, ⟨h0, h⟩ => ⟨h0, sat_last (g := g) (σ := σ) h⟩
  | .ow _ _ :: g, _ :: σ, _, _, _, ⟨v, O1, O2, h1, h2, h3, h4, h5, h⟩ => ⟨v, O1, O2, h1, h2, h3, h4, h5, sat_last (g := g) (σ := σ) h⟩
section
variable {P : Program} {w : World} {K : Fg} {mg : Str → Option Value} {base : Heap}
theorem ctx_ofN {k : Nat} {N : List Str} {F : NF} {f : Addr} {A : Around} {outer : List Env} {s : Shared} {H : Hp} {E : XK} (hr : Room k (A.deeper (envF F f s.heap.objs.size))) (nd : N.Nodup) : Ctx (ncx (L2.CX P w) P w K mg base N F f A outer s H E) (kE E) k :=
  have tk := takes_of (X := ncx (L2.CX P w) P w K mg base N F f A outer s H E) (E := E) rfl rfl rfl rfl
  ⟨fun σ => passAt tk σ, passes_of rfl, hr, nd, rfl, tk⟩
theorem xfn_ok {A' : Type} [ArgG A'] {F : NF} {f cc : Addr} {fd : FuncData} {c : Str} {ps : List Str} {k : Nat} {rest : List Stmt} {file : Str} {mb : A' → R Unit (Out (List (Str × D)) Empty Unit)} (FX : FunX K file F f (He.ga K c) cc fd) (T : OexA K (He.ga K c)) (SX : SupX F ps rest)
    (mgS : mg "super" = none) (hfile : ((P.main.file : Str) == file) = true) (htop : (P.main.scope.names.lookup ("super" : Str)).isSome = false) (hopq : PySem.W.nsIn K PySem.cStatics "thirdparty.any" = some none) (hn : ps.length = ArgG.n A')
    (hb : ∀ (A : Around) (outer : List Env) (s : Shared) (H : Hp) (E : XK), Ctx (ncx (L2.CX P w) P w K mg base (xN ps) F f A outer s H E) (kE E) k → ∀ (x : Addr) (a : A'),
      PB (ncx (L2.CX P w) P w K mg base (xN ps) F f A outer s H E) (kE E) Λ0 (resI (β := Unit) K) (fun _ => sX K (He.ga K c) x [] :: (ArgG.gam K a ++ [.un])) rest (fun fs _ => sX K (He.ga K c) x fs :: (ArgG.gam K a ++ [.un])) (mb a)) :
    FnOk P w K mg base (L2.CX P w) (k + 1) f fd (("self" : Str) :: ps) (spInit K c fun a => runX (mb a)) := by
  refine xinit_ok FX T SX mgS hfile htop hopq (fun vs H Q E h => ?_) fun A outer s H vs Q E hr h => ?_
  · obtain ⟨x, ws, a, I, rfl, _, _, _, r, _⟩ := h
    rw [List.length_cons, ArgG.ln (A := A') r, hn]
  · obtain ⟨x, ws, a, I, rfl, hx, e, hI, r, q⟩ := h
    refine ⟨x, ws, rfl, hx, _, hb A outer s H E (ctx_ofN hr SX.scope.nd) x a, (), I, upd noO x (exo x (He.ga K c) none), ⟨e, fun b o z => ?_, fun b => ?_⟩, ?_, ?_⟩
    · by_cases hb : b = x
      · subst hb; rw [upd_same] at z; rw [← z]; exact hx
      · rw [upd_ne hb] at z; cases z
    · by_cases hb : b = x
      · exact .inl (by rw [hb]; exact hI)
      · exact .inr (by rw [upd_ne hb]; rfl)
    · have hl : (V.ref x :: ws).length = ps.length + 1 := by rw [List.length_cons, ArgG.ln (A := A') r, hn]
      have e1 : startF (xN ps) (.ref x :: ws) [some (.ref (He.ga K c))] = some (.ref x) :: (ws.map some ++ [some (.ref (He.ga K c))]) := by
        unfold startF
        have : (xN ps).length - (V.ref x :: ws).length - [some (V.ref (He.ga K c))].length = 0 := by
          rw [hl]; show (ps ++ [("__class__" : Str)]).length + 1 - _ - 1 = 0
          rw [List.length_append]; simp
        rw [this]
        rfl
      rw [e1]
      refine ⟨.ref x, upd noO x (exo x (He.ga K c) none), noO, rfl, fun b => .inr rfl, fun _ _ z => z, fun _ _ z => (nomatch z), ⟨rfl, upd_same⟩, ?_⟩
      exact sat_last (ArgG.sat (A := A') 1 r)
    · have q : PostI (He.ga K c) x K I H Q (runX (mb a)) := q
      unfold runX at q
      cases em : mb a () with
      | error z => rw [em] at q; exact q.elim
      | ok p =>
        obtain ⟨o, u⟩ := p
        rw [em] at q
        cases o with
        | bk e => exact nomatch e
        | ct e => exact nomatch e
        | rt b => exact q.elim
        | nx fs =>
          cases fs with
          | nil => exact q.elim
          | cons p fs =>
            intro σ' I' O' H' t g sat
            obtain ⟨v, O1, O2, _, d12, s1, s2, ⟨rfl, d, us, xa1, xa2, fd', ne⟩, _⟩ := Sat.at_ow (i := 0) (R := fun I O v => v = .ref x ∧ XAt K (He.ga K c) x I O (p :: fs)) sat rfl
            have nx : O' x ≠ none := nn (s1 _ _ xa1)
            have nd : O' d ≠ none := nn (s1 _ _ xa2)
            have freeI : ∀ b, O' b ≠ none → I' b = none := fun b z => (t.dj b).resolve_right z
            have none_of : ∀ b, b ≠ x → upd noO x (exo x (He.ga K c) none) b = none := fun b hb => by rw [upd_ne hb]; rfl
            refine q d us I' H' t.si g.ext (fun b o hb z => g.keep b o z (none_of b hb)) (fun b z => ?_) (freeI x nx) (freeI d nd) ?_ ne (t.so _ _ (s1 _ _ xa1)) (t.so _ _ (s1 _ _ xa2)) fd'
            · rcases g.ni b z with y | y | y
              · exact .inl y
              · exact .inr y
              · by_cases hb : b = x
                · subst hb; exact absurd (freeI _ nx) z
                · exact absurd (none_of b hb) y
            · rcases g.no d nd with y | y
              · exact absurd (none_of d ne) y
              · exact y
/-- an own exception class, as raise sees it -/
structure Exn (P : Program) (w : World) (K : Fg) (mg : Str → Option Value) (base : Heap) (c : Str) (j : Nat) {A : Type} [ArgG A] (m : A → Except Er (List (Str × D))) : Prop where
  ex : ∃ fI fd ps, OexA K (He.ga K c) ∧ mg c = some (.ref (He.ga K c)) ∧ PySem.W.findIn K (.ref (He.ga K c)) "__init__" = some (some (.ref fI)) ∧ PySem.W.typeIn K (.ref fI) = some (.type "function") ∧ Binds K fd ps [] ∧ FnOk P w K mg base (L2.CX P w) j fI fd ps (spInit K c m)
end
def sraise {S β : Type} (c : Str) (m : Except Er (List (Str × D))) : R S β := fun _ => match m with
  | .ok fs => .error (.exc c fs)
  | .error _ => .error .stuck
theorem pb_raise {X : Cx} {E : EW} {S ρ τ β : Type} {Γ : S → Gam} {Λ : τ → S → Gam} {Res : S → Hp → Hp → V → β → Prop} {Δ : ρ → S → Gam} {pos pos' p : Pos} {rest : List Stmt} {k j : Nat} {A : Type} [ArgG A] {m : A → Except Er (List (Str × D))} {c : Str} {e : Expr} {es : List Expr} {ma : R S A}
    (Xn : Exn X.prog X.w X.K X.mg X.base c j m) (C : Ctx X E k) (ha : PAx X E Γ (e :: es) ma) (hk : j + 1 ≤ k := by decide) (hlen : ArgG.n A ≤ 1000 := by decide) (hg : Gl X c := by rfl) (hdb : (c == ("__debug__" : Str)) = false := by decide)
    (he : starEach (e :: es) X.env = (false, eval e X.env) :: starEach es X.env := by rfl) (hpl : (backTo pos (starEach es X.env)).any (·.1) = false := by rfl) :
    PB X E Λ Res Γ (.Raise (some (.Call (.Name c p) (e :: es) [] pos)) none pos' :: rest) Δ (sb ma fun a => sraise c (m a)) := by
  obtain ⟨fI, fd, ps, T, hm, iC, tI, bd, F1⟩ := Xn.ex
  refine (pss_cons (ps_raise C.calm C.tk (pmk_xex T iC tI F1 (C.room.mono hk) bd passL hg hm ha hdb he hpl)) pss_never).mono fun D σ H ⟨s, I, O, t, sat, q⟩ => ?_
  refine ⟨s, I, O, t, sat, q.bind.imp fun a I1 H1 ⟨_, s1, O1, t1, sat1, q1⟩ vs rv => ⟨by rw [ArgG.ln (A := A) rv]; exact hlen, fun a0 h0 => ⟨a0, vs ++ [], a, I1, rfl, upd_same, t1.si.trans (Same.upd_new h0), t1.fi h0, by rw [List.append_nil]; exact rv, ?_⟩⟩⟩
  unfold sraise at q1
  cases em : m a with
  | error z => rw [em] at q1; exact q1.elim
  | ok fs =>
    rw [em] at q1
    intro d us I' H' si ext kp ni ix id hd ne hx hdx fd'
    have hd1 : H1 d = none := by rw [upd_ne ne] at hd; exact hd
    have up1 : ∀ b o, H1 b = some o → H' b = some o := fun b o z => kp b o (L2.ne_of_none z h0) (by rw [upd_ne (L2.ne_of_none z h0)]; exact z)
    have H2 : ∀ b o, b ≠ a0 → b ≠ d → H' b = some o → (upd (del H' a0) d (.xd us)) b = some o := fun b o h1 h2 z => by rw [upd_ne h2, del_ne h1]; exact z
    have up2 : ∀ b o, H1 b = some o → (upd (del H' a0) d (.xd us)) b = some o := fun b o z => H2 b o (L2.ne_of_none z h0) (L2.ne_of_none z hd1) (up1 b o z)
    have nI : ∀ b, I' b ≠ none → I1 b ≠ none ∨ H1 b = none := fun b z => (ni b z).imp id' fun y => by
      by_cases hb : b = a0
      · subst hb; exact h0
      · rw [upd_ne hb] at y; exact y
    have hI1d : I1 d = none := t1.fi hd1
    have k := Same.upd_new (o := HO.xd us) id
    refine ⟨rfl, d, us, hx, hdx, hd1, q1 d (upd I' d (.xd us)) O1 _ ⟨fun b o z => ?_, fun b o z => up2 b o (t1.so b o z), fun b => ?_⟩ ⟨fun b o z _ => up2 b o z, ext.trans k, fun b z => ?_, fun b z => .inl z⟩ ⟨us, upd_same, FD.up k fd'⟩⟩
    · by_cases hb : b = d
      · subst hb; rw [upd_same] at z ⊢; exact z
      · rw [upd_ne hb] at z
        exact H2 b o (fun y => by rw [y, ix] at z; cases z) hb (si b o z)
    · by_cases hb : b = d
      · exact .inr (by rw [hb]; exact t1.so.free hd1)
      · rw [upd_ne hb]
        cases z : I' b with
        | none => exact .inl rfl
        | some o =>
          rcases nI b (nn z) with y | y
          · exact .inr ((t1.dj b).resolve_left y)
          · exact .inr (t1.so.free y)
    · by_cases hb : b = d
      · exact .inr (.inl (by rw [hb]; exact hd1))
      · rw [upd_ne hb] at z
        exact (nI b z).imp id' .inl
where id' {p : Prop} (h : p) : p := h
end Mi

set_option Elab.async false
set_option linter.all false
set_option maxRecDepth 100000
set_option maxHeartbeats 4000000
namespace Mi
open PySem PySem.Spec PyProof.Rows L2 NdefX
/-! ### try .. except C as e -/
def Gam.ims : Gam → Gam
  | [] => []
  | .im P u :: g => .im P u :: Gam.ims g
  | _ :: g => .un :: Gam.ims g
theorem Sat.ims {I I' O O' : Hp} (e : Same I I') : ∀ {g : Gam} {σ : L2.St} {O : Hp}, Sat g σ I O → Sat g.ims σ I' O'
  | [], [], _, _ => trivial
  | .un :: g, _ :: σ, _, h => Sat.ims e (O := O) (g := g) h
  | .im P u :: g, _ :: σ, _, ⟨⟨v, h1, h2⟩, h⟩ => ⟨⟨v, h1, u _ _ _ e h2⟩, Sat.ims e (O := O) (g := g) h⟩
  | .ow _ _ :: g, _ :: σ, _, ⟨_, _, _, _, _, _, _, _, h⟩ => Sat.ims e (O := O) (g := g) h
/-- a caught exception: at a, its dict d, its fields -/
def sE (K : Fg) (a : Addr) (d : Option Addr) (fs : List (Str × D)) : Slot := .im (fun I v => v = .ref a ∧ ∃ dd us, d = some dd ∧ I dd = some (.xd us) ∧ FD K I us fs) fun _ _ _ e ⟨h1, dd, us, h2, h3, h4⟩ => ⟨h1, dd, us, h2, e _ _ h3, FD.up e h4⟩
/-- classes: x itself is caught, these others are not -/
def exOf (x : Str) (others : List Str) (c : Str) : Option Bool := if c = x then some true else if c ∈ others then some false else none
structure ExO (K : Fg) (mg : Str → Option Value) (x : Str) (others : List Str) : Prop where
  yes : PySem.W.exmOne K (.ref (He.ga K x)) (.ref (He.ga K x)) = some true
  no : ∀ o ∈ others, PySem.W.exmOne K (.ref (He.ga K o)) (.ref (He.ga K x)) = some false
  glo : mg x = some (.ref (He.ga K x))
  xf : XfC K (He.ga K x)
theorem exOf_ok {K : Fg} {mg : Str → Option Value} {x : Str} {others : List Str} (h : ExO K mg x others) {c : Str} {b : Bool} (e : exOf x others c = some b) : PySem.W.exmOne K (.ref (He.ga K c)) (.ref (He.ga K x)) = some b ∧ (b = true → c = x) := by
  unfold exOf at e
  split at e
  · rename_i z
    cases e
    exact ⟨by rw [z]; exact h.yes, fun _ => z⟩
  · split at e
    · rename_i z
      cases e
      exact ⟨h.no _ z, fun z => (nomatch z)⟩
    · cases e
def noexc {S α : Type} (m : R S α) : R S α := fun s => match m s with
  | .error _ => .error .stuck
  | r => r
def mtry {ρ τ β : Type} (body : R Unit (Out ρ τ β)) (ex : Str → Option Bool) (h : List (Str × D) → R Unit (Out ρ τ β)) : R Unit (Out ρ τ β) := fun s => match body s with
  | .error (.exc c fs) => (match ex c with
    | some true => noexc (h fs) ()
    | some false => .error (.exc c fs)
    | none => .error .stuck)
  | r => r
section
variable {X : Cx} {S ρ ρ1 τ β : Type} {Γ : Unit → Gam} {Λ : τ → Unit → Gam} {Res : Unit → Hp → Hp → V → β → Prop} {Δ : ρ → Unit → Gam} {Δ1 : ρ1 → Unit → Gam} {pos pos' np : Pos} {rest : List Stmt} {k : Nat}
theorem pb_try {E : XK} (i : Nat) {x n : Str} {others : List Str} {body suite : List Stmt} {b0 : Stmt} {mb : R Unit (Out ρ1 τ β)} {hm : List (Str × D) → R Unit (Out ρ1 τ β)} {kk : ρ1 → R Unit (Out ρ τ β)} (C : Ctx X (kE E) k) (Z : ExO X.K X.mg x others)
    (hb : ∀ (W : WX) (pn : List (Addr × Obj)) (xe : Value → Shared → Prop), Ctx (X.tr pn xe) (WE W) k → PB (X.tr pn xe) (WE W) Λ Res Γ body Δ1 mb)
    (hs : ∀ (a : Addr) (oe : Obj) (d : Option Addr) (pn : List (Addr × Obj)) (fs : List (Str × D)), Zc (.ref (He.ga X.K x)) d oe → (∃ vs, oe.data = .fields vs) →
      PB (X.suite a ((a, oe) :: pn)) (kE E0) Λ Res (fun _ => ((Γ ()).ims).put i (sE X.K a d fs)) (b0 :: suite) (fun r s => (Δ1 r s).put i .un) (hm fs))
    (hk : ∀ r, PB X (kE E) Λ Res (Δ1 r) rest Δ (kk r)) (hu : ∀ r s, (Δ1 r s).put i .un = Δ1 r s := by exact fun _ _ => rfl) (hnt : ∀ t : τ, False)
    (hst : X.stack = X.env :: X.outer := by rfl) (hf : X.env.frame = some X.env.locals := by rfl) (hi : X.N[i]? = some n := by rfl) (hln : X.env.kindOf n = some .local := by rfl) (hg : Gl X x := by rfl) (hd : (x == ("__debug__" : Str)) = false := by decide) :
    PB X (kE E) Λ Res Γ (.Try body [.ExceptHandler (some (.Name x np)) (some n) (b0 :: suite) pos'] [] [] pos :: rest) Δ (obd (mtry mb (exOf x others) hm) kk) := by
  have ts := ps_try_as (X := X) (i := i) (pos := pos) (pos' := pos') (np := np) (tb := fun W => tB X.K (WE W) Λ Res Γ Δ1 mb) (ts := fun a cls d D σ H => ∃ fs, cls = .ref (He.ga X.K x) ∧ tB X.K (kE E0) Λ Res (fun _ => ((Γ ()).ims).put i (sE X.K a d fs)) (fun r s => (Δ1 r s).put i .un) (hm fs) D σ H)
    hst hf C.nd hi hln ⟨hg, hd, .inl Z.glo⟩ C.tk (fun W pn xe tk own => hb W pn xe ⟨fun σ => passAt tk σ, own, C.room, C.nd, C.calm, tk⟩)
    (fun a oe cls d pn hz hv => ⟨fun pins s σ H D I h => by
      obtain ⟨fs, rfl, h⟩ := h
      exact (hs a oe d pn fs hz hv).run pins s σ H D I h⟩)
  refine (pss_cons ts (L2.PSs.ex hk)).mono fun D σ H ⟨s, I, O, t, sat, q⟩ => ?_
  have q1 := q.first (Δ1 := Δ1)
  refine ⟨s, I, O, t, sat, ?_⟩
  unfold mtry at q1
  cases em : mb s with
  | ok p =>
    rw [em] at q1
    obtain ⟨o, u⟩ := p
    cases o <;> exact q1
  | error z =>
    rw [em] at q1
    cases z with
    | stuck => exact q1
    | exc c fs =>
      intro d I' O' H' t' g' xd
      obtain ⟨us, xd1, xd2⟩ := xd
      cases ex : exOf x others c with
      | none => dsimp only at q1; rw [ex] at q1; exact q1.elim
      | some b =>
        obtain ⟨e1, e2⟩ := exOf_ok Z ex
        dsimp only at q1
        rw [ex] at q1
        refine ⟨b, e1, fun hb1 a ha => ?_, fun hb1 => ?_⟩
        · subst hb1
          rw [e2 rfl]
          refine ⟨fs, rfl, (), I', noO, t'.drop (fun _ _ z => (nomatch z)), Sat.put_im (P := fun I v => v = .ref a ∧ ∃ dd us, some d = some dd ∧ I dd = some (.xd us) ∧ FD X.K I us fs) ⟨rfl, d, us, rfl, xd1, xd2⟩ (Sat.ims (O := O) g'.ext sat), ?_⟩
          have q2 := (q1.shift g').shift (Go.drop (O2 := noO) (O := O') (I := I') (H := H') fun _ _ z => (nomatch z))
          dsimp only at q2 ⊢
          unfold noexc at q2
          cases eh : hm fs () with
          | error z => rw [eh] at q2; exact q2.elim
          | ok p =>
            obtain ⟨o, u⟩ := p
            rw [eh] at q2
            cases o with
            | bk e => exact (hnt e).elim
            | ct e => exact (hnt e).elim
            | rt b => exact q2
            | nx r =>
              intro σ' I1 O1 H1 t1 g1 s1
              refine q2 (σ'.set i none) I1 O1 H1 t1 g1 ?_
              have s2 := Sat.put_un (x := none) (i := i) s1
              rw [Gam.put_put, hu] at s2
              exact s2
        · subst hb1
          exact q1 d I' O' H' t' g' ⟨us, xd1, xd2⟩
end
end Mi

set_option Elab.async false
set_option linter.all false
set_option maxRecDepth 100000
set_option maxHeartbeats 4000000
namespace Mi
open PySem PySem.Spec PyProof.Rows L2 NdefX
theorem FD.look {K : Fg} {I : Hp} {f : Str} {x : D} : ∀ {us : List (Str × V)} {fs : List (Str × D)}, FD K I us fs → fs.lookup f = some x → ∃ v, us.lookup f = some v ∧ RD K I v x
  | _, _, .nil, h => by cases h
  | _, _, .cons (f := g) (v := v) r q, h => by
    by_cases e : f = g
    · subst e
      simp [List.lookup] at h ⊢
      rw [← h]; exact r
    · have e' : (f == g) = false := by simpa using e
      simp [List.lookup, e'] at h ⊢
      exact FD.look q h
section
variable {X : Cx} {S ρ τ β α : Type} {pos pos' p : Pos} {rest : List Stmt} {k : Nat}
/-- e.f, e the caught exception -/
theorem px_xf {E : EW} {Γ : S → Gam} {Y : Cx} {a : Addr} {oe : Obj} {d : Option Addr} {pn : List (Addr × Obj)} {fs : List (Str × D)} (i : Nat) {n f c : Str} (T : XfC Y.K (He.ga Y.K c)) (hno : PySem.W.findIn Y.K (.ref (He.ga Y.K c)) f = some none) (hz : Zc (.ref (He.ga Y.K c)) d oe)
    (hf : ∃ vs, oe.data = .fields vs) (hg : ∀ s, (Γ s).at i = sE Y.K a d fs) (hN : Y.N[i]? = some n := by rfl) (hv : Vis Y.env.scope n := by first | exact Or.inl rfl | exact Or.inr (Or.inl rfl) | exact Or.inr (Or.inr rfl))
    (hd : (n == ("__debug__" : Str)) = false := by decide) (hcd : (n == ("__classdict__" : Str)) = false := by decide) (hb : attributeBase (.Name n p) f Y.env (eval (.Name n p) Y.env) = eval (.Name n p) Y.env := by rfl) :
    PX (Y.suite a ((a, oe) :: pn)) E Γ (.Attribute (.Name n p) f pos) (so (fs.lookup f)) :=
  L2.PE.mono (pe_xf (X := Y) T hno hz hf (pe_var (X := Y.suite a ((a, oe) :: pn)) (i := i) hN hv hd hcd) hb) fun σ H Q ⟨s, I, O, t, sat, h⟩ => by
    obtain ⟨v, e1, rfl, dd, us, e2, e3, e4⟩ := sat.at_im (hg s)
    obtain ⟨x, e5, q⟩ := h.some_
    obtain ⟨v, e6, r⟩ := FD.look e4 e5
    exact ⟨_, e1, rfl, rfl, dd, us, v, e2, t.si _ _ e3, e6, q.at_ t sat v r⟩
variable {Γ : S → Gam} {Λ : τ → S → Gam} {Res : S → Hp → Hp → V → β → Prop} {Δ : ρ → S → Gam}
/-- name = e, where nothing of the context is known but its names -/
theorem pb_setN {E : XK} (i : Nat) {x : Str} {e : Expr} [Enc α] {m : R S α} {kk : α → R S (Out ρ τ β)} (nd : X.N.Nodup) (he : PX X (kE E) Γ e m) (hk : ∀ a, PB X (kE E) Λ Res (fun s => (Γ s).put i (sI X.K a)) rest Δ (kk a))
    (hi : X.N[i]? = some x := by rfl) (hx : Loc X.env.scope x := by first | exact Or.inl rfl | exact Or.inr rfl) (hs : swapsWith e (some (.Name x pos')) pos.line X.env = pure false := by rfl) (hf : X.fn x = true ∨ X.env.scope.names.lookup x = some .local := by first | exact .inl rfl | exact .inr rfl) :
    PB X (kE E) Λ Res Γ (.Assign [.Name x pos'] e pos :: rest) Δ (sb m kk) :=
  (pss_cons (ps_set nd hi hx he hs hf) (L2.PSs.ex hk)).mono fun D σ H ⟨s, I, O, t, sat, q⟩ => ⟨s, I, O, t, sat, q.bind.imp fun a I1 H1 ⟨_, s1, O1, t1, sat1, h1⟩ v rv => ⟨a, s1, I1, O1, t1, sat1.put_im rv, h1⟩⟩
theorem PostB.noexc {K : Fg} {E E' : XK} {I O H : Hp} {D : Ends} {m : R S (Out ρ τ β)} {s : S} (h : PostB K E Λ Res Δ I O H D (Mi.noexc m s)) : PostB K E' Λ Res Δ I O H D (m s) := by
  unfold Mi.noexc at h
  cases e : m s with
  | error z => rw [e] at h; exact h.elim
  | ok p =>
    rw [e] at h
    obtain ⟨o, u⟩ := p
    cases o <;> exact h
/-- name = e in a try's body: behind it nothing is raised -/
theorem pb_setT {E : EW} (i : Nat) {x : Str} {e : Expr} [Enc α] {m : R S α} {kk : α → R S (Out ρ τ β)} (C : Ctx X E k) (he : PX X E Γ e m) (hk : ∀ a, PB X (kE E0) Λ Res (fun s => (Γ s).put i (sI X.K a)) rest Δ (kk a))
    (hi : X.N[i]? = some x := by rfl) (hx : Loc X.env.scope x := by first | exact Or.inl rfl | exact Or.inr rfl) (hs : swapsWith e (some (.Name x pos')) pos.line X.env = pure false := by rfl) (hf : X.fn x = true ∨ X.env.scope.names.lookup x = some .local := by first | exact .inl rfl | exact .inr rfl) :
    PB X E Λ Res Γ (.Assign [.Name x pos'] e pos :: rest) Δ (sb m fun a => Mi.noexc (kk a)) :=
  (pss_cons (ps_set C.nd hi hx he hs hf) (L2.PSs.ex hk)).mono fun D σ H ⟨s, I, O, t, sat, q⟩ => ⟨s, I, O, t, sat, q.bind.imp fun a I1 H1 ⟨_, s1, O1, t1, sat1, h1⟩ v rv => ⟨a, s1, I1, O1, t1, sat1.put_im rv, PostB.noexc h1⟩⟩
end
end Mi
namespace Mi
open PySem PySem.Spec PyProof.Rows L2 NdefX
theorem Ctx.c0 {X : Cx} {E : EW} {k : Nat} (C : Ctx X E k) : Ctx X (kE E0) k := ⟨fun σ pins H s e s' I c => passL pins σ H s e s' I c, C.own, C.room, C.nd, C.calm, takesE0⟩
end Mi

set_option Elab.async false
set_option linter.all false
set_option maxRecDepth 100000
set_option maxHeartbeats 4000000
namespace Mi
open PySem PySem.Spec PyProof.Rows L2 NdefX
/-! ### try with several clauses, each of which binds a name -/
abbrev Cla := Value × Nat × (Addr → Value → Option Addr → TS)
def emp (i : Nat) (D : Ends) : Ends := { nx := fun t G => D.nx (t.set i none) G, rt := D.rt, bk := fun t G => D.bk (t.set i none) G, ct := fun t G => D.ct (t.set i none) G }
def wCla (K : PySem.W.Frag) (Z : WX) (D : Ends) : List Cla → WX
  | [] => Z
  | (c, i, t) :: r => fun q d τ G => ∃ b, PySem.W.exmOne K q c = some b ∧ (b = true → ∀ a, G a = none → t a q d (emp i D) (τ.set i (some (.ref a))) G) ∧ (b = false → wCla K Z D r q d τ G)
inductive Clas (X : Cx) : List ExceptHandler → List Cla → Prop
  | nil : Clas X [] []
  | cons {x n : Str} {c : Value} {i : Nat} {t : Addr → Value → Option Addr → TS} {b0 : Stmt} {su : List Stmt} {p p' : Pos} {r : List ExceptHandler} {l : List Cla} (hx : Names X x c) (hi : X.N[i]? = some n) (hl : X.env.kindOf n = some .local)
      (hz : ∀ (a : Addr) (o : Obj) (q : Value) (d : Option Addr) (pn : List (Addr × Obj)), Zc q d o → (∃ vs, o.data = .fields vs) → PSs (X.suite a ((a, o) :: pn)) (b0 :: su) (t a q d)) (z : Clas X r l) :
      Clas X (.ExceptHandler (some (.Name x p)) (some n) (b0 :: su) p' :: r) ((c, i, t) :: l)
section
variable {X : Cx} {body : List Stmt} {h0 : ExceptHandler} {hds : List ExceptHandler} {l : List Cla} {pos : Pos} {tb : WX → TS} {Z : WX}
/-- the clauses, one after the other, of an exception that has landed -/
theorem clas_go {D : Ends} {pins : List (Addr × Obj)} {a : Addr} {B : Heap} {sX : Shared} {sI : Shared} {τ : L2.St} {G : Hp} {q : Value} {d : Option Addr} {h1 : Heap} (hs : X.stack = X.env :: X.outer) (hf : X.env.frame = some X.env.locals) (hN : X.N.Nodup) (tk : Takes X Z)
    (J : Inv X pins τ G sI) (nb : ∀ b o, sI.heap.get? b = some o → b ∉ frs X.stack → B.get? b = some o) (up : sI.heap.UpToSlots h1) (fl : HandSPX.FlyingZ B (X.env :: X.outer) a (Zc q d) h1) (na : G a = none) (os : sX.os = sI.os) (ag : AllBare sX.gens)
    {hh : List ExceptHandler} {l : List Cla} (hk : Clas X hh l) (w : wCla X.K Z D l q d τ G) :
    wpAny (model X.prog X.w) X.A (handleBy (.ref a) X.env hh) (SP X pins D) X.xe { sX with heap := h1 } := by
  have J1 : Inv X pins τ G { sX with heap := h1 } := J.landed nb fl.1 up os ag
  have ok := J.ok
  obtain ⟨o1, v1, e1, z1, d1⟩ := fl.there
  have nfr : a ∉ frs (X.env :: X.outer) := fun hm => by
    obtain ⟨_, o2, e2, n2⟩ := fl.2.2.1.mem hm
    rw [e1] at e2
    cases e2
    exact n2 _ d1
  have nL : a ≠ X.env.locals := fun e => nfr (List.mem_filterMap.mpr ⟨X.env, by simp, by rw [hf, e]⟩)
  have nF : a ∉ X.fs := fun hm => by
    obtain ⟨e, h2, h3⟩ := List.mem_filterMap.mp hm
    exact nfr (List.mem_filterMap.mpr ⟨e, by simp [h2], h3⟩)
  have S1 := J1.suite e1 d1 na nL nF
  induction hk with
  | nil =>
    refine wpAny_handleBy_nil ?_
    obtain ⟨_, _, _, o2, v2, T, oT, ts, e2, z2, d2, t2, r2⟩ := id fl
    unfold PySem.passOn
    refine wpAny_bind (wpAny_field e2 d2 t2 ?_)
    rw [if_neg (by simp : ¬ ((Value.ref T == Value.none) = true))]
    have fin : wpAny (model X.prog X.w) X.A (setFlight (.ref a) X.env.frame) (fun _ s4 => wpAny (model X.prog X.w) X.A (throw (.ref a) : Sem Flow) (SP X pins D) X.xe s4) X.xe { sX with heap := h1 } := by
      rw [hf]
      refine HandSPX.setFlight_upZ fl fun h4 hh4 up4 => wpAny_throw (tk _ _ ?_)
      exact ⟨a, B, sI, pins, τ, G, q, d, rfl, J, nb, up.trans up4, .inr (.inr (by rw [hs]; exact hh4)), na, os, ag, w⟩
    first
      | exact wpAny_bind (wpAny_pure (wpAny_bind fin))
      | exact wpAny_bind fin
  | @cons x n c i t b0 su p p' r l hx hi hl hz zz ih =>
    obtain ⟨b, y1, y2, y3⟩ := w
    refine wpAny_handleBy_cons (codeAny_handlers_test ?_) (fun e => nomatch e)
    have LT : PySem.W.Looks (model X.prog X.w) h1 (typeOf (.ref a)) q := fun _ _ _ _ k e => wpAny_typeOf_ref (k _ _ e1) (by rw [z1.1]; exact e)
    have LM := PySem.W.exm_one (M := model X.prog X.w) (J1.kIn) LT y1
    have test : ∀ {Q E : Value → Shared → Prop}, Q c { sX with heap := h1 } → wpAny (model X.prog X.w) (X.A.mark (some (.ref a))) (eval (.Name x p) X.env) Q E { sX with heap := h1 } := fun {Q E} k => by
      obtain ⟨hg, hdb, hm | ⟨hm, hv, hnn⟩⟩ := hx
      · exact ld_glob (X := X.suite a ((a, o1) :: (X.pn ++ pins))) S1 hg hm k hdb
      · exact ld_blt (X := X.suite a ((a, o1) :: (X.pn ++ pins))) S1 hg hm hv k hnn hdb
    refine test (LM.here ?_)
    cases b with
    | true =>
      refine codeAny_handlers_suite_as ?_
      refine HandSPX.lands_againZ fl fun h4 fl4 up4 => ?_
      have J4 : Inv X pins τ G { sX with heap := h4 } := J.landed nb fl4.1 (up.trans up4) os ag
      obtain ⟨o4, v4, e4, z4, d4⟩ := fl4.there
      have S4 := J4.suite e4 d4 na nL nF
      refine store_ok (X := X.suite a ((a, o4) :: (X.pn ++ pins))) (v := .ref a) S4 hN hi (.inl hl) rfl (fun s5 S5 => ?_) (.inr hl)
      refine wpAny_mono ((hz a o4 q d (X.pn ++ pins) z4 ⟨_, d4⟩).run [] s5 _ G _ S5 (y2 rfl a na)) (fun f s6 k6 => ?_) (fun _ _ k => k.elim)
      have bye : ∀ {τ6 : L2.St} {G6 : Hp} {Q : Shared → Prop}, Inv (X.suite a ((a, o4) :: (X.pn ++ pins))) [] τ6 G6 s6 → (∀ s7, Inv X pins (τ6.set i none) G6 s7 → Q s7) →
          wpAny (model X.prog X.w) X.A (do bindName X.env n .none; unbindBehindTheSuite X.env n p') (fun _ s7 => Q s7) X.xe s6 := fun S6 k => gone_ok (S6.unsuite ok) hN hi hl k
      cases f with
      | ret u => obtain ⟨v6, τ6, G6, S6, r6, q6⟩ := k6; exact bye S6 fun s7 J7 => ⟨_, _, _, J7, r6, q6⟩
      | next => obtain ⟨τ6, G6, S6, q6⟩ := k6; exact bye S6 fun s7 J7 => ⟨_, _, J7, q6⟩
      | brk => obtain ⟨τ6, G6, S6, q6⟩ := k6; exact bye S6 fun s7 J7 => ⟨_, _, J7, q6⟩
      | cont => obtain ⟨τ6, G6, S6, q6⟩ := k6; exact bye S6 fun s7 J7 => ⟨_, _, J7, q6⟩
    | false => exact ih (y3 rfl)
theorem ps_tryC (hs : X.stack = X.env :: X.outer) (hf : X.env.frame = some X.env.locals) (hN : X.N.Nodup) (tk : Takes X Z)
    (hb : ∀ (W : WX) (pn : List (Addr × Obj)) (xe : Value → Shared → Prop), Takes (X.tr pn xe) W → PassesOwn (model X.prog X.w) X.A X.env xe → PSs (X.tr pn xe) body (tb W))
    (hh : Clas X (h0 :: hds) l) : PS X (.Try body (h0 :: hds) [] [] pos) (fun D τ G => tb (wCla X.K Z D l) D τ G) := by
  refine ⟨fun pins s τ G D I h => ?_⟩
  have ok := I.ok
  have hfr : X.A.frames = some (X.env :: X.outer) := by rw [ok.frames, hs]
  refine wpAny_Try_except ?_
  refine wpAny_mono ((hb (wCla X.K Z D l) (X.pn ++ pins) _ (fun u sX xx => ?_) PassesOwn.looking).run [] s τ G D (I.toTry _) h) (fun f s1 k => ?_) (fun e s1 k => k)
  · obtain ⟨a, B, sI, pins', τ1, G1, q, d, rfl, J', nb, up, sky, na, os, ag, w⟩ := xx
    have J : Inv X pins τ1 G1 sI := J'.ofTry ok
    have sky1 : Sky B (X.env :: X.outer) a (Zc q d) X.env.locals sX.heap := by rw [← hs]; exact sky
    show wpAny (model X.prog X.w) X.A (noteFrame (.ref a) X.env) _ _ _
    exact Sky.land Zc.steady hfr hf sky1 fun h1 fl up1 => clas_go hs hf hN tk J nb (up.trans up1) fl na os ag hh w
  · cases f with
    | ret u => obtain ⟨v, τ1, G1, J1, r1, q1⟩ := k; exact ⟨v, τ1, G1, J1.ofTry ok, r1, q1⟩
    | next => obtain ⟨τ1, G1, J1, q1⟩ := k; exact wpAny_execs_nil ⟨τ1, G1, J1.ofTry ok, q1⟩
    | brk => obtain ⟨τ1, G1, J1, q1⟩ := k; exact ⟨τ1, G1, J1.ofTry ok, q1⟩
    | cont => obtain ⟨τ1, G1, J1, q1⟩ := k; exact ⟨τ1, G1, J1.ofTry ok, q1⟩
end
def mtry2 {ρ τ β : Type} (body : R Unit (Out ρ τ β)) (ex : Str → Option Bool) (h : List (Str × D) → R Unit (Out ρ τ β)) (ex2 : Str → Option Bool) (h2 : List (Str × D) → R Unit (Out ρ τ β)) : R Unit (Out ρ τ β) := fun s => match body s with
  | .error (.exc c fs) => (match ex c with
    | some true => noexc (h fs) ()
    | some false => (match ex2 c with
      | some true => noexc (h2 fs) ()
      | some false => .error (.exc c fs)
      | none => .error .stuck)
    | none => .error .stuck)
  | r => r
theorem suite_post {K : Fg} {E : XK} {ρ τ β : Type} {Γ : Gam} {Λ : τ → Unit → Gam} {Res : Unit → Hp → Hp → V → β → Prop} {Δ1 : ρ → Unit → Gam} {i : Nat} {DD : Ends} {σ : L2.St} {I O H I' O' H' : Hp} {fs : List (Str × D)} {d : Addr} {us : List (Str × V)} {m : R Unit (Out ρ τ β)}
    (q : PostB K E Λ Res Δ1 I O H DD (noexc m ())) (sat : Sat Γ σ I O) (t' : St3 I' O' H') (g' : Go I O H I' O' H') (xd1 : I' d = some (.xd us)) (xd2 : FD K I' us fs) (hu : ∀ r s, (Δ1 r s).put i .un = Δ1 r s) (hnt : ∀ t : τ, False) (a : Addr) :
    tB K (kE E0) Λ Res (fun _ => (Γ.ims).put i (sE K a (some d) fs)) (fun r s => (Δ1 r s).put i .un) m (emp i DD) (σ.set i (some (.ref a))) H' := by
  refine ⟨(), I', noO, t'.drop (fun _ _ z => (nomatch z)), Sat.put_im (P := fun I v => v = .ref a ∧ ∃ dd us, some d = some dd ∧ I dd = some (.xd us) ∧ FD K I us fs) ⟨rfl, d, us, rfl, xd1, xd2⟩ (Sat.ims (O := O) g'.ext sat), ?_⟩
  have q2 := (q.shift g').shift (Go.drop (O2 := noO) (O := O') (I := I') (H := H') fun _ _ z => (nomatch z))
  unfold noexc at q2
  cases eh : m () with
  | error z => rw [eh] at q2; exact q2.elim
  | ok p =>
    obtain ⟨o, u⟩ := p
    rw [eh] at q2
    cases o with
    | bk e => exact (hnt e).elim
    | ct e => exact (hnt e).elim
    | rt b => exact q2
    | nx r =>
      intro τ1 I1 O1 H1 t1 g1 s1
      refine q2 (τ1.set i none) I1 O1 H1 t1 g1 ?_
      have s2 := Sat.put_un (x := none) (i := i) s1
      rw [Gam.put_put, hu] at s2
      exact s2
section
variable {X : Cx} {ρ ρ1 τ β : Type} {Γ : Unit → Gam} {Λ : τ → Unit → Gam} {Res : Unit → Hp → Hp → V → β → Prop} {Δ : ρ → Unit → Gam} {Δ1 : ρ1 → Unit → Gam} {pos pos' pos2 np np2 : Pos} {rest : List Stmt} {k : Nat}
theorem pb_try2 {E : XK} (i j : Nat) {x n x2 n2 : Str} {others others2 : List Str} {body suite suite2 : List Stmt} {b0 b2 : Stmt} {mb : R Unit (Out ρ1 τ β)} {hm hm2 : List (Str × D) → R Unit (Out ρ1 τ β)} {kk : ρ1 → R Unit (Out ρ τ β)} (C : Ctx X (kE E) k) (Z : ExO X.K X.mg x others) (Z2 : ExO X.K X.mg x2 others2)
    (hb : ∀ (W : WX) (pn : List (Addr × Obj)) (xe : Value → Shared → Prop), Ctx (X.tr pn xe) (WE W) k → PB (X.tr pn xe) (WE W) Λ Res Γ body Δ1 mb)
    (hs : ∀ (a : Addr) (oe : Obj) (d : Option Addr) (pn : List (Addr × Obj)) (fs : List (Str × D)), Zc (.ref (He.ga X.K x)) d oe → (∃ vs, oe.data = .fields vs) →
      PB (X.suite a ((a, oe) :: pn)) (kE E0) Λ Res (fun _ => ((Γ ()).ims).put i (sE X.K a d fs)) (b0 :: suite) (fun r s => (Δ1 r s).put i .un) (hm fs))
    (hs2 : ∀ (a : Addr) (oe : Obj) (d : Option Addr) (pn : List (Addr × Obj)) (fs : List (Str × D)), Zc (.ref (He.ga X.K x2)) d oe → (∃ vs, oe.data = .fields vs) →
      PB (X.suite a ((a, oe) :: pn)) (kE E0) Λ Res (fun _ => ((Γ ()).ims).put j (sE X.K a d fs)) (b2 :: suite2) (fun r s => (Δ1 r s).put j .un) (hm2 fs))
    (hk : ∀ r, PB X (kE E) Λ Res (Δ1 r) rest Δ (kk r)) (hu : ∀ r s, (Δ1 r s).put i .un = Δ1 r s := by exact fun _ _ => rfl) (hu2 : ∀ r s, (Δ1 r s).put j .un = Δ1 r s := by exact fun _ _ => rfl) (hnt : ∀ t : τ, False)
    (hst : X.stack = X.env :: X.outer := by rfl) (hf : X.env.frame = some X.env.locals := by rfl) (hi : X.N[i]? = some n := by rfl) (hln : X.env.kindOf n = some .local := by rfl) (hj : X.N[j]? = some n2 := by rfl) (hln2 : X.env.kindOf n2 = some .local := by rfl) (hg : Gl X x := by rfl) (hd : (x == ("__debug__" : Str)) = false := by decide) (hg2 : Gl X x2 := by rfl) (hd2 : (x2 == ("__debug__" : Str)) = false := by decide) :
    PB X (kE E) Λ Res Γ (.Try body [.ExceptHandler (some (.Name x np)) (some n) (b0 :: suite) pos', .ExceptHandler (some (.Name x2 np2)) (some n2) (b2 :: suite2) pos2] [] [] pos :: rest) Δ (obd (mtry2 mb (exOf x others) hm (exOf x2 others2) hm2) kk) := by
  have ts := ps_tryC (X := X) (pos := pos) (tb := fun W => tB X.K (WE W) Λ Res Γ Δ1 mb) hst hf C.nd C.tk (fun W pn xe tk own => hb W pn xe ⟨fun σ => passAt tk σ, own, C.room, C.nd, C.calm, tk⟩)
    (.cons (p := np) (p' := pos') (t := fun a q d D σ H => ∃ fs, q = .ref (He.ga X.K x) ∧ tB X.K (kE E0) Λ Res (fun _ => ((Γ ()).ims).put i (sE X.K a d fs)) (fun r s => (Δ1 r s).put i .un) (hm fs) D σ H) ⟨hg, hd, .inl Z.glo⟩ hi hln (fun a oe q d pn hz hv => ⟨fun pins s σ H D I h => by
      obtain ⟨fs, rfl, h⟩ := h
      exact (hs a oe d pn fs hz hv).run pins s σ H D I h⟩)
    (.cons (p := np2) (p' := pos2) (t := fun a q d D σ H => ∃ fs, q = .ref (He.ga X.K x2) ∧ tB X.K (kE E0) Λ Res (fun _ => ((Γ ()).ims).put j (sE X.K a d fs)) (fun r s => (Δ1 r s).put j .un) (hm2 fs) D σ H) ⟨hg2, hd2, .inl Z2.glo⟩ hj hln2 (fun a oe q d pn hz hv => ⟨fun pins s σ H D I h => by
      obtain ⟨fs, rfl, h⟩ := h
      exact (hs2 a oe d pn fs hz hv).run pins s σ H D I h⟩) .nil))
  refine (pss_cons ts (L2.PSs.ex hk)).mono fun D σ H ⟨s, I, O, t, sat, q⟩ => ?_
  have q1 := q.first (Δ1 := Δ1)
  refine ⟨s, I, O, t, sat, ?_⟩
  unfold mtry2 at q1
  cases em : mb s with
  | ok p =>
    rw [em] at q1
    obtain ⟨o, u⟩ := p
    cases o <;> exact q1
  | error z =>
    rw [em] at q1
    cases z with
    | stuck => exact q1
    | exc c fs =>
      intro d I' O' H' t' g' xd
      obtain ⟨us, xd1, xd2⟩ := xd
      dsimp only at q1
      cases ex : exOf x others c with
      | none => rw [ex] at q1; exact q1.elim
      | some b =>
        obtain ⟨e1, e2⟩ := exOf_ok Z ex
        rw [ex] at q1
        cases b with
        | true =>
          refine ⟨true, e1, fun _ a ha => ?_, fun z => (nomatch z)⟩
          rw [e2 rfl]
          exact ⟨fs, rfl, suite_post q1 sat t' g' xd1 xd2 hu hnt a⟩
        | false =>
          refine ⟨false, e1, fun z => (nomatch z), fun _ => ?_⟩
          dsimp only at q1
          cases ey : exOf x2 others2 c with
          | none => rw [ey] at q1; exact q1.elim
          | some b =>
            obtain ⟨f1, f2⟩ := exOf_ok Z2 ey
            rw [ey] at q1
            cases b with
            | true =>
              refine ⟨true, f1, fun _ a ha => ?_, fun z => (nomatch z)⟩
              rw [f2 rfl]
              exact ⟨fs, rfl, suite_post q1 sat t' g' xd1 xd2 hu2 hnt a⟩
            | false => exact ⟨false, f1, fun z => (nomatch z), fun _ => q1 d I' O' H' t' g' ⟨us, xd1, xd2⟩⟩
end
end Mi

set_option Elab.async false
set_option linter.all false
set_option maxRecDepth 100000
set_option maxHeartbeats 4000000
namespace Mi
open PySem PySem.Spec PyProof.Rows L2 NdefX
/-! ### what one owns lent while an expression is evaluated: it is still for so long -/
def Gam.lent : Gam → Gam
  | [] => []
  | .ow R u :: g => .im (fun I v => ∃ O1, Same O1 I ∧ R I O1 v) (fun I I' v e ⟨O1, h1, h2⟩ => ⟨O1, h1.trans e, u _ _ _ _ e h2⟩) :: Gam.lent g
  | s :: g => s :: Gam.lent g
theorem Sat.lent {I A : Hp} (e : Same I A) : ∀ {g : Gam} {σ : L2.St} {O : Hp}, Same O A → Sat g σ I O → Sat g.lent σ A noO
  | [], [], _, _, _ => trivial
  | .un :: g, _ :: σ, _, f, h => Sat.lent e (g := g) f h
  | .im P u :: g, _ :: σ, _, f, ⟨⟨v, h1, h2⟩, h⟩ => ⟨⟨v, h1, u _ _ _ e h2⟩, Sat.lent e f h⟩
  | .ow R u :: g, _ :: σ, _, f, ⟨v, O1, O2, h1, _, h3, h4, h5, h6⟩ => ⟨⟨v, h1, O1, h3.trans f, u _ _ _ _ e h5⟩, Sat.lent e (h4.trans f) h6⟩
  | [], _ :: _, _, _, h => h.elim
  | .un :: _, [], _, _, h => h.elim
  | .im _ _ :: _, [], _, _, h => h.elim
  | .ow _ _ :: _, [], _, _, h => h.elim
/-- of what one owns only the lists -/
def lstO (O : Hp) : Hp := fun b => match O b with
  | some (.lst vs) => some (.lst vs)
  | _ => none
theorem lstO_same {O : Hp} : Same (lstO O) O := fun b o e => by
  unfold lstO at e
  split at e
  · rename_i q; cases e; exact q
  · cases e
theorem lstO_mono {O O' : Hp} (h : Same O O') : Same (lstO O) (lstO O') := fun b o e => by
  unfold lstO at e ⊢
  split at e
  · rename_i q; cases e; rw [h _ _ q]
  · cases e
theorem lstO_of {O : Hp} {b : Addr} (h : lstO O b ≠ none) : ∃ vs, O b = some (.lst vs) := by
  unfold lstO at h
  split at h
  · rename_i q; exact ⟨_, q⟩
  · exact absurd rfl h
def Slot.lists : Slot → Prop
  | .ow R _ => ∀ I O v, R I O v → R I (lstO O) v
  | _ => True
theorem sL_lists {K : Fg} {α : Type} [Enc α] {xs : List α} : (sL K xs).lists := fun I O v ⟨l, vs, h1, h2, h3⟩ => ⟨l, vs, h1, by show lstO O l = _; unfold lstO; rw [h2], h3⟩
inductive GLists : Gam → Prop
  | nil : GLists []
  | cons {s : Slot} {g : Gam} : s.lists → GLists g → GLists (s :: g)
theorem Sat.lists {I : Hp} : ∀ {g : Gam} {σ : L2.St} {O : Hp}, GLists g → Sat g σ I O → Sat g σ I (lstO O)
  | [], [], _, _, _ => trivial
  | .un :: g, _ :: σ, _, .cons _ l, h => Sat.lists (g := g) l h
  | .im P u :: g, _ :: σ, _, .cons _ l, ⟨h1, h⟩ => ⟨h1, Sat.lists l h⟩
  | .ow R u :: g, _ :: σ, _, .cons r l, ⟨v, O1, O2, h1, h2, h3, h4, h5, h6⟩ => ⟨v, lstO O1, lstO O2, h1, fun b => (h2 b).imp (fun z => lstO_same.free z) fun z => lstO_same.free z, lstO_mono h3, lstO_mono h4, r _ _ _ h5, Sat.lists l h6⟩
  | [], _ :: _, _, _, h => h.elim
  | .un :: _, [], _, _, h => h.elim
  | .im _ _ :: _, [], _, _, h => h.elim
  | .ow _ _ :: _, [], _, _, h => h.elim
/-- fields that name no other thing -/
def flatD : D → Bool
  | .non => true
  | .bl _ => true
  | .int _ => true
  | .str _ => true
  | _ => false
theorem RD.flat {K : Fg} {I I' : Hp} {v : V} {d : D} (r : RD K I v d) (h : flatD d = true) : RD K I' v d := by
  cases r with
  | non => exact .non
  | bl b => exact .bl b
  | int i => exact .int i
  | str x => exact .str x
  | tup _ _ => cases h
  | lst _ _ => cases h
  | dct _ _ => cases h
  | obj _ => cases h
theorem FD.flat {K : Fg} {I I' : Hp} {vs : List (Str × V)} {fs : List (Str × D)} (r : FD K I vs fs) : (fs.all fun p => flatD p.2) = true → FD K I' vs fs := by
  induction r with
  | nil => exact fun _ => .nil
  | cons h _ ih =>
    intro e
    rw [List.all_cons, Bool.and_eq_true] at e
    exact .cons (h.flat e.1) (ih e.2)
theorem Post.keepS {S α : Type} {K : Fg} {E : XK} {Γ : S → Gam} {σ : L2.St} {I H : Hp} {F : α → Hp → Hp → Prop} : ∀ {r : Except Er (α × S)}, Post K E Γ σ I noO H F r → Post K E Γ σ I noO H (fun x I' H' => F x I' H' ∧ Same H H') r
  | .ok (x, s'), h => fun I' O' H' t g sat => ⟨h I' O' H' t g sat, fun b o e => g.keep b o e rfl⟩
  | .error .stuck, h => h
  | .error (.exc c fs), h => h
/-- try: an expression, whose value is dropped, and parts that raise nothing; what one owns is known in the clause, too -/
def mtryL {α ρ τ β : Type} (m : R Unit α) (mr : R Unit (Out ρ τ β)) (ex : Str → Option Bool) (h : List (Str × D) → R Unit (Out ρ τ β)) : R Unit (Out ρ τ β) := fun s => match m s with
  | .ok (_, u) => noexc mr u
  | .error (.exc c fs) => (match (fs.all fun p => flatD p.2), ex c with
    | true, some true => noexc (h fs) ()
    | true, some false => .error (.exc c fs)
    | _, _ => .error .stuck)
  | .error .stuck => .error .stuck
section
variable {X : Cx} {ρ ρ1 τ β α : Type} {Γ : Unit → Gam} {Λ : τ → Unit → Gam} {Res : Unit → Hp → Hp → V → β → Prop} {Δ : ρ → Unit → Gam} {Δ1 : ρ1 → Unit → Gam} {pos pos' p0 np : Pos} {rest : List Stmt} {k : Nat}
theorem pb_tryL {E : XK} (i : Nat) {x n : Str} {others : List Str} {e : Expr} [Enc α] {body suite : List Stmt} {b0 : Stmt} {m : R Unit α} {mb : R Unit (Out ρ1 τ β)} {hm : List (Str × D) → R Unit (Out ρ1 τ β)} {kk : ρ1 → R Unit (Out ρ τ β)} (C : Ctx X (kE E) k) (Z : ExO X.K X.mg x others) (gl : GLists (Γ ()))
    (he : ∀ (W : WX) (pn : List (Addr × Obj)) (xe : Value → Shared → Prop), Ctx (X.tr pn xe) (WE W) k → PX (X.tr pn xe) (WE W) (fun _ => (Γ ()).lent) e m)
    (hb : ∀ (W : WX) (pn : List (Addr × Obj)) (xe : Value → Shared → Prop), Ctx (X.tr pn xe) (kE E0) k → PB (X.tr pn xe) (kE E0) Λ Res Γ body Δ1 mb)
    (hs : ∀ (a : Addr) (oe : Obj) (d : Option Addr) (pn : List (Addr × Obj)) (fs : List (Str × D)), Zc (.ref (He.ga X.K x)) d oe → (∃ vs, oe.data = .fields vs) →
      PB (X.suite a ((a, oe) :: pn)) (kE E0) Λ Res (fun _ => (Γ ()).put i (sE X.K a d fs)) (b0 :: suite) (fun r s => (Δ1 r s).put i .un) (hm fs))
    (hk : ∀ r, PB X (kE E) Λ Res (Δ1 r) rest Δ (kk r)) (hu : ∀ r s, (Δ1 r s).put i .un = Δ1 r s := by exact fun _ _ => rfl) (hnt : ∀ t : τ, False)
    (hsw : ∀ pn xe, swapsWith e none p0.line (X.tr pn xe).env = pure false := by exact fun _ _ => rfl)
    (hst : X.stack = X.env :: X.outer := by rfl) (hf : X.env.frame = some X.env.locals := by rfl) (hi : X.N[i]? = some n := by rfl) (hln : X.env.kindOf n = some .local := by rfl) (hg : Gl X x := by rfl) (hd : (x == ("__debug__" : Str)) = false := by decide) :
    PB X (kE E) Λ Res Γ (.Try (.Expr e p0 :: body) [.ExceptHandler (some (.Name x np)) (some n) (b0 :: suite) pos'] [] [] pos :: rest) Δ (obd (mtryL m mb (exOf x others) hm) kk) := by
  have ts := ps_try_as (X := X) (i := i) (body := .Expr e p0 :: body) (pos := pos) (pos' := pos') (np := np)
    (tb := fun W D σ H => ∃ I O, St3 I O H ∧ Sat (Γ ()) σ I O ∧ Post X.K (WE W σ) (fun _ => (Γ ()).lent) σ (uni I O) noO H (fun _ _ H' => PostB X.K E0 Λ Res Δ1 I O H' D (mb ())) (m ()))
    (ts := fun a cls d D σ H => ∃ fs, cls = .ref (He.ga X.K x) ∧ tB X.K (kE E0) Λ Res (fun _ => (Γ ()).put i (sE X.K a d fs)) (fun r s => (Δ1 r s).put i .un) (hm fs) D σ H)
    hst hf C.nd hi hln ⟨hg, hd, .inl Z.glo⟩ C.tk (fun W pn xe tk own => by
      have CW : Ctx (X.tr pn xe) (WE W) k := ⟨fun σ => passAt tk σ, own, C.room, C.nd, C.calm, tk⟩
      refine (pss_cons (ps_expr (he W pn xe CW) (hsw pn xe)) (hb W pn xe CW.c0)).mono fun D σ H ⟨I, O, t, sat, q⟩ => ?_
      refine ⟨(), uni I O, noO, ⟨fun b o z => ?_, fun _ _ z => (nomatch z), fun _ => .inr rfl⟩, Sat.lent uni_l (uni_r t.dj) sat, ?_⟩
      · unfold uni at z
        split at z
        · rename_i w; cases z; exact t.si _ _ w
        · exact t.so _ _ z
      · exact (q.keepS).imp fun x I1 H1 ⟨h1, h2⟩ v _ => ⟨(), I, O, ⟨t.si.trans h2, t.so.trans h2, t.dj⟩, sat, h1⟩)
    (fun a oe cls d pn hz hv => ⟨fun pins s σ H D I h => by
      obtain ⟨fs, rfl, h⟩ := h
      exact (hs a oe d pn fs hz hv).run pins s σ H D I h⟩)
  refine (pss_cons ts (L2.PSs.ex hk)).mono fun D σ H ⟨s, I, O, t, sat, q⟩ => ?_
  have q1 := q.first (Δ1 := Δ1)
  refine ⟨I, O, t, sat, ?_⟩
  unfold mtryL at q1
  show Post _ _ _ _ _ _ _ _ (m ())
  cases em : m () with
  | ok p =>
    rw [em] at q1
    intro I' O' H' t' g' sat'
    have gg : Go I O H I O H' := ⟨fun b o e _ => g'.keep b o e rfl, Same.refl I, fun _ z => .inl z, fun _ z => .inl z⟩
    have q2 := q1.shift gg
    obtain ⟨x0, u⟩ := p
    dsimp only at q2
    unfold noexc at q2
    cases eb : mb () with
    | error z => rw [eb] at q2; exact q2.elim
    | ok r =>
      obtain ⟨o, u2⟩ := r
      rw [eb] at q2
      cases o <;> exact q2
  | error z =>
    rw [em] at q1
    cases z with
    | stuck => exact q1
    | exc c fs =>
      intro d I' O' H' t' g' xd
      obtain ⟨us, xd1, xd2⟩ := xd
      cases fl : (fs.all fun p => flatD p.2) with
      | false => dsimp only at q1; rw [fl] at q1; exact q1.elim
      | true =>
      have sI : Same (uni I O) I' := g'.ext
      have t2 : St3 (fun b => if lstO O b = none then I' b else none) (lstO O) H' := by
        refine ⟨fun b o e => ?_, fun b o e => t'.si _ _ (sI _ _ (uni_r t.dj _ _ (lstO_same _ _ e))), fun b => ?_⟩
        · replace e : (if lstO O b = none then I' b else none) = some o := e
          split at e
          · exact t'.si _ _ e
          · cases e
        · by_cases z : lstO O b = none
          · exact .inr z
          · exact .inl (if_neg z)
      have e2 : Same I (fun b => if lstO O b = none then I' b else none) := fun b o e => by
        show (if lstO O b = none then I' b else none) = some o
        have z : O b = none := (t.dj b).resolve_left (by rw [e]; exact Option.some_ne_none o)
        rw [if_pos (lstO_same.free z)]
        exact sI _ _ (uni_l _ _ e)
      have g2 : Go I O H (fun b => if lstO O b = none then I' b else none) (lstO O) H' := by
        refine ⟨fun b o e _ => g'.keep b o e rfl, e2, fun b z => ?_, fun b z => .inl ?_⟩
        · have y : I' b ≠ none := fun w => by
            replace z : (if lstO O b = none then I' b else none) ≠ none := z
            rw [w] at z
            split at z <;> exact z rfl
          rcases g'.ni b y with y | y | y
          · exact (uni_of y).imp (fun w => w) fun w => .inr w
          · exact .inr (.inl y)
          · exact absurd rfl y
        · obtain ⟨vs, w⟩ := lstO_of z
          rw [w]
          exact Option.some_ne_none _
      have xd3 : (fun b => if lstO O b = none then I' b else none) d = some (.xd us) := by
        show (if lstO O d = none then I' d else none) = some (.xd us)
        rw [if_pos, xd1]
        cases w : lstO O d with
        | none => rfl
        | some o =>
          obtain ⟨vs, y⟩ := lstO_of (by rw [w]; exact Option.some_ne_none o)
          have y2 := sI _ _ (uni_r t.dj _ _ y)
          rw [xd1] at y2
          cases y2
      have xd4 : FD X.K (fun b => if lstO O b = none then I' b else none) us fs := xd2.flat fl
      cases ex : exOf x others c with
      | none => dsimp only at q1; rw [fl, ex] at q1; exact q1.elim
      | some b =>
        obtain ⟨e1, e3⟩ := exOf_ok Z ex
        dsimp only at q1
        rw [fl, ex] at q1
        refine ⟨b, e1, fun hb1 a ha => ?_, fun hb1 => ?_⟩
        · subst hb1
          rw [e3 rfl]
          refine ⟨fs, rfl, (), _, _, t2, Sat.put_im (P := fun I v => v = .ref a ∧ ∃ dd us, some d = some dd ∧ I dd = some (.xd us) ∧ FD X.K I us fs) ⟨rfl, d, us, rfl, xd3, xd4⟩ (Sat.up e2 (Sat.lists gl sat)), ?_⟩
          have q2 := q1.shift g2
          dsimp only at q2 ⊢
          unfold noexc at q2
          cases eh : hm fs () with
          | error z => rw [eh] at q2; exact q2.elim
          | ok p =>
            obtain ⟨o, u⟩ := p
            rw [eh] at q2
            cases o with
            | bk e => exact (hnt e).elim
            | ct e => exact (hnt e).elim
            | rt b => exact q2
            | nx r =>
              intro σ' I1 O1 H1 t1 g1 s1
              refine q2 (σ'.set i none) I1 O1 H1 t1 g1 ?_
              have s2 := Sat.put_un (x := none) (i := i) s1
              rw [Gam.put_put, hu] at s2
              exact s2
        · subst hb1
          exact q1 d _ _ H' t2 g2 ⟨us, xd3, xd4⟩
end
end Mi

set_option Elab.async false
set_option linter.all false
set_option maxRecDepth 100000
set_option maxHeartbeats 4000000
namespace Mi
open PySem PySem.Spec PyProof.Rows L2
/-! ### instances of own classes -/
/-- a type whose values stand for instances of one own class; names: the fields -/
class Ins (α : Type) extends Enc α where
  cls : Str
  names : List Str
  ins : ∀ {K : Fg} {I : Hp} {v : V} {x : α}, rep K I v x → ∃ a dx fs, v = .ref a ∧ I a = some (.ins (He.ga K cls) dx fs) ∧ ∀ m, m ∉ names → fs.lookup m = none
/-- one of its fields -/
structure FldOf (α β : Type) [Ins α] [Enc β] (f : Str) (get : α → β) : Prop where
  at_ : ∀ {K : Fg} {I : Hp} {v : V} {x : α}, Enc.rep K I v x → ∃ a dx fs u, v = .ref a ∧ I a = some (.ins (He.ga K (Ins.cls α)) dx fs) ∧ fs.lookup f = some u ∧ Enc.rep K I u (get x)
section
variable {X : Cx} {E : EW} {S : Type} {Γ : S → Gam} {pos apos : Pos}
theorem px_fld {α β : Type} [Ins α] [Enc β] {f : Str} {get : α → β} {e : Expr} {m : R S α} (F : FldOf α β f get) (c : Cls X.K (He.ga X.K (Ins.cls α))) (n : NoAttr X.K (He.ga X.K (Ins.cls α)) f) (he : PX X E Γ e m) (hb : attributeBase e f X.env (eval e X.env) = eval e X.env := by rfl) :
    PX X E Γ (.Attribute e f pos) (sb m fun x => sr (get x)) :=
  L2.PE.mono (pe_fld he hb) fun σ H Q ⟨s, I, O, t, sat, h⟩ => ⟨s, I, O, t, sat, h.bind.imp fun x I1 H1 ⟨_, s1, O1, t1, sat1, h1⟩ v rv => by
    obtain ⟨a, dx, fs, u, rfl, e1, e2, e3⟩ := F.at_ rv
    exact ⟨a, _, dx, fs, u, rfl, t1.si _ _ e1, c, n, e2, h1.at_ t1 sat1 u e3⟩⟩
/-- a method as its callers see it; its first argument is the instance -/
structure Met (P : Program) (w : World) (K : Fg) (mg : Str → Option Value) (base : Heap) (c m : Str) (k : Nat) (ps : List Str) (sp : Sp) : Prop where
  ex : ∃ f fd, Cls K (He.ga K c) ∧ Meth K (He.ga K c) m f ∧ Binds K fd ps [] ∧ FnOk P w K mg base (L2.CX P w) k f fd ps sp
theorem post_sl {K : Fg} {E : XK} {Γ : S → Gam} {σ : L2.St} {I1 O1 H1 : Hp} {Q : VK} {β : Type} [Enc β] {r : Except Er β} {s1 : S} (t1 : St3 I1 O1 H1) (sat1 : Sat (Γ s1) σ I1 O1) (q1 : Post K E Γ σ I1 O1 H1 (fun x I' H' => ∀ v, Enc.rep K I' v x → Q v H') (sl r s1)) : PostF K E I1 H1 Q r := by
  unfold sl at q1
  cases r with
  | ok b =>
    exact fun v I' O' H' t' g' r => by
      obtain ⟨t2, g2⟩ := call_go t1 t' g'
      exact q1 I' O1 H' t2 g2 (sat1.up g'.ext) v r
  | error z =>
    cases z with
    | stuck => exact q1
    | exc c fs =>
      intro d I' O' H' t' g' x
      obtain ⟨t2, g2⟩ := call_go t1 t' g'
      exact q1 d I' O1 H' t2 g2 x
/-- a method called, where the wish of an exception goes by the slots -/
def tMethS (C : Addr) (m : Str) (sp : Sp) (E : EW) (to : TE) (t : TA) : TE := fun τ G Q => to τ G fun y G1 => ∃ a dx fs, y = .ref a ∧ G1 a = some (.ins C dx fs) ∧ fs.lookup m = none ∧ t τ G1 fun vs G2 => sp (y :: vs) G2 Q (E τ)
theorem pe_methS {CX : CXT} {k : Nat} {f C : Addr} {fd : FuncData} {ps : List Str} {sp : Sp} {m : Str} {e o : Expr} {es : List Expr} {to : TE} {t : TA} {pl : Sem Bool} (ho : PE X o to) (c : Cls X.K C) (M : Meth X.K C m f) (F : FnOk X.prog X.w X.K X.mg X.base CX k f fd ps sp) (hr : Room k X.A) (hb : Binds X.K fd ps []) (hp : ∀ τ, PassesAt CX X τ (E τ)) (ha : PA X (e :: es) t)
    (h1 : starEach (e :: es) X.env = (false, eval e X.env) :: starEach es X.env) (h2 : (backTo pos (starEach es X.env)).any (·.1) = false)
    (h3 : eval (.Call (.Attribute o m apos) (e :: es) [] pos) X.env = (do
      let w ← eval o X.env
      standAt apos.atName
      let (g0, q0) ← holding [w] (getMethod w m pl)
      callWith pos g0 q0 (backTo pos (starEach (e :: es) X.env)) (backToKw pos (keywordEach [] X.env)))) :
    PE X (.Call (.Attribute o m apos) (e :: es) [] pos) (tMethS C m sp E to t) := by
  constructor
  intro pins s τ G Q I h
  refine PySem.W.methodCall_KW (pl := pl) (thn (ho.run pins s τ G _ I h) ?_) h3
  rintro u s1 ⟨y, G1, I1, ry, a, dx, fs, rfl, ea, l, q⟩
  cases ry
  refine getmeth_ok I1 ea c M l (PySem.W.callWith_K (first := [.ref a]) (h₀ := X.base) I1.ok.mod.kin M.kp (thn (ha.run pos pins s1 τ G1 _ I1 q) ?_) h1 h2)
  rintro us s2 ⟨vs, G2, I2, r, q2⟩
  exact ⟨I2.kIn, run_fnS (us := .ref a :: us) (vs := .ref a :: vs) F hr hb (hp τ) I2 (.cons rfl r) q2⟩
theorem px_meth {α A β : Type} [Ins α] [Args A] [Enc β] {m : Str} {j k : Nat} {ps : List Str} {f : α × A → Except Er β} {gg : α → A → Except Er β} {o e : Expr} {es : List Expr} {mo : R S α} {ma : R S A} {pl : Sem Bool}
    (M : Met X.prog X.w X.K X.mg X.base (Ins.cls α) m j ps (spF X.K f)) (C : Ctx X E k) (ho : PX X E Γ o mo) (ha : PAx X E Γ (e :: es) ma) (hk : j ≤ k := by decide) (hm : m ∉ Ins.names α := by decide) (hf : ∀ x a, f (x, a) = gg x a := by intro _ _; rfl)
    (hst : starEach (e :: es) X.env = (false, eval e X.env) :: starEach es X.env := by rfl) (hpl : (backTo pos (starEach es X.env)).any (·.1) = false := by rfl)
    (ht : eval (.Call (.Attribute o m apos) (e :: es) [] pos) X.env = (do
      let ov ← eval o X.env
      standAt apos.atName
      let (g0, fst0) ← holding [ov] (getMethod ov m pl)
      callWith pos g0 fst0 (backTo pos (starEach (e :: es) X.env)) (backToKw pos (keywordEach [] X.env))) := by rfl) :
    PX X E Γ (.Call (.Attribute o m apos) (e :: es) [] pos) (sb mo fun x => sb ma fun a => sl (gg x a)) := by
  obtain rfl : gg = fun x a => f (x, a) := funext fun x => funext fun a => (hf x a).symm
  obtain ⟨g, fd, h1, h2, h3, h4⟩ := M.ex
  refine L2.PE.mono (pe_methS (pl := pl) ho h1 h2 h4 (C.room.mono hk) h3 C.pas ha hst hpl ht) fun σ H Q ⟨s, I, O, t, sat, h⟩ => ⟨s, I, O, t, sat, h.bind.imp fun x I1 H1 ⟨_, s1, O1, t1, sat1, q1⟩ v rv => ?_⟩
  obtain ⟨a, dx, fs, rfl, e1, e2⟩ := Ins.ins rv
  refine ⟨a, dx, fs, rfl, t1.si _ _ e1, e2 m hm, s1, I1, O1, t1, sat1, q1.bind.imp fun b I2 H2 ⟨ext, s2, O2, t2, sat2, q2⟩ vs rvs => ⟨(x, b), I2, t2.si, ⟨.ref a, vs, rfl, Enc.up ext rv, rvs⟩, post_sl t2 sat2 q2⟩⟩
theorem px_meth0 {E : XK} {α β : Type} [Ins α] [Enc β] {m : Str} {j k : Nat} {ps : List Str} {f : α × Unit → Except Er β} {gg : α → Except Er β} {o : Expr} {mo : R S α} {pl : Sem Bool}
    (M : Met X.prog X.w X.K X.mg X.base (Ins.cls α) m j ps (spF X.K f)) (C : Ctx X (kE E) k) (ho : PX X (kE E) Γ o mo) (hk : j ≤ k := by decide) (hm : m ∉ Ins.names α := by decide) (hf : ∀ x, f (x, ()) = gg x := by intro _; rfl)
    (ht : eval (.Call (.Attribute o m apos) [] [] pos) X.env = (do
      let ov ← eval o X.env
      standAt apos.atName
      let (g0, fst0) ← holding [ov] (getMethod ov m pl)
      callWith pos g0 fst0 (backTo pos (starEach [] X.env)) (backToKw pos (keywordEach [] X.env))) := by rfl) :
    PX X (kE E) Γ (.Call (.Attribute o m apos) [] [] pos) (sb mo fun x => sl (gg x)) := by
  obtain rfl : gg = fun x => f (x, ()) := funext fun x => (hf x).symm
  obtain ⟨g, fd, h1, h2, h3, h4⟩ := M.ex
  refine L2.PE.mono (pe_meth0 (pl := pl) ho h1 h2 h4 (C.room.mono hk) h3 .nil (fun pins σ H s e s' I c => C.pas σ pins H s e s' I c) ht) fun σ H Q ⟨s, I, O, t, sat, h⟩ => ⟨s, I, O, t, sat, h.bind.imp fun x I1 H1 ⟨_, s1, O1, t1, sat1, q1⟩ v rv => ?_⟩
  obtain ⟨a, dx, fs, rfl, e1, e2⟩ := Ins.ins rv
  exact ⟨a, dx, fs, rfl, t1.si _ _ e1, e2 m hm, (x, ()), I1, t1.si, ⟨.ref a, [], rfl, rv, rfl⟩, post_sl t1 sat1 q1⟩
end
end Mi

set_option Elab.async false
set_option linter.all false
set_option maxRecDepth 100000
set_option maxHeartbeats 4000000
namespace Mi
open PySem PySem.Spec PyProof.Rows L2
/-! ### an instance that is being made: owned by its __init__ -/
structure PFld where
  f : Str
  R : Hp → V → Prop
  up : ∀ {I I' : Hp} {v : V}, Same I I' → R I v → R I' v
def pfl (K : Fg) (f : Str) {α : Type} [Enc α] (x : α) : PFld := ⟨f, fun I v => Enc.rep K I v x, fun e h => Enc.up e h⟩
def HasF (I : Hp) (fs : List (Str × V)) (ps : List PFld) : Prop := (∀ m, m ∉ ps.map (·.f) → fs.lookup m = none) ∧ ∀ p ∈ ps, ∃ u, fs.lookup p.f = some u ∧ p.R I u
theorem HasF.up {I I' : Hp} {fs : List (Str × V)} {ps : List PFld} (e : Same I I') (h : HasF I fs ps) : HasF I' fs ps := ⟨h.1, fun p hp => let ⟨u, h1, h2⟩ := h.2 p hp; ⟨u, h1, p.up e h2⟩⟩
theorem HasF.put {I : Hp} {fs : List (Str × V)} {ps : List PFld} {p : PFld} {v : V} (h : HasF I fs ps) (hn : p.f ∉ ps.map (·.f)) (r : p.R I v) : HasF I (putF p.f v fs) (p :: ps) := by
  refine ⟨fun m hm => ?_, fun q hq => ?_⟩
  · rw [List.map_cons, List.mem_cons, not_or] at hm
    rw [lookup_putF, if_neg hm.1]
    exact h.1 m hm.2
  · rcases List.mem_cons.mp hq with e | hq
    · subst e
      exact ⟨v, by rw [lookup_putF, if_pos rfl], r⟩
    · obtain ⟨u, h1, h2⟩ := h.2 q hq
      refine ⟨u, ?_, h2⟩
      rw [lookup_putF, if_neg (fun e => hn (by rw [← e]; exact List.mem_map_of_mem hq))]
      exact h1
def NAt (K : Fg) (C x : Addr) (ps : List PFld) (I O : Hp) : Prop := ∃ dx fs, O x = some (.ins C dx fs) ∧ O dx = some (.own x) ∧ dx ≠ x ∧ fs.length ≤ ps.length ∧ HasF I fs ps
def sN (K : Fg) (C x : Addr) (ps : List PFld) : Slot := .ow (fun I O v => v = .ref x ∧ NAt K C x ps I O) fun _ _ _ _ e ⟨h1, dx, fs, h2, h3, h4, h5, h6⟩ => ⟨h1, dx, fs, h2, h3, h4, h5, h6.up e⟩
theorem len_putF (f : Str) (v : V) (fs : List (Str × V)) : (putF f v fs).length ≤ fs.length + 1 := by
  have := length_putF f v fs
  omega
/-- o.f as a target -/
def gFld (K : Fg) (to : TE) (f : Str) : TG := fun v σ H Q => to σ H fun x H2 => ∃ a C dx fs, x = .ref a ∧ H2 a = some (.ins C dx fs) ∧ Cls K C ∧ NoAttr K C f ∧ fs.length < 1000 ∧ Q σ (upd H2 a (.ins C dx (putF f v fs)))
theorem pg_fld {X : Cx} {o : Expr} {f : Str} {pos : Pos} {to : TE} (ho : PE X o to) : PG X (.Attribute o f pos) (gFld X.K to f) := by
  refine ⟨fun pins s σ H v u Q I r h => ?_⟩
  rw [assign_Attribute]
  refine wpAny_bind (wpAny_holding (thn (ho.run pins s σ H _ I h) fun ov s1 ⟨x, H1, I1, r1, a, C, dx, fs, ex, ea, c, n, l, q⟩ => ?_))
  subst ex
  obtain rfl : ov = Value.ref a := r1
  refine wpAny_bind (wpAny_standAt (wpAny_bind (wpAny_holding (setattr_ok I1 ea c n l r fun s2 I2 => ?_))))
  exact wpAny_release ⟨σ, _, I2, q⟩
/-- the write of one field, in the three heaps -/
theorem NAt.write {K : Fg} {C x : Addr} {ps : List PFld} {I O H : Hp} {g : Gam} {σ : L2.St} {p : PFld} (t : St3 I O H) (sat : Sat g σ I O) (hg : g.at 0 = sN K C x ps) (hn : p.f ∉ ps.map (·.f)) :
    σ[0]? = some (some (.ref x)) ∧ ∃ dx fs, H x = some (.ins C dx fs) ∧ fs.length ≤ ps.length ∧ ∀ v, p.R I v → ∃ O', St3 I O' (upd H x (.ins C dx (putF p.f v fs))) ∧ Go I O H I O' (upd H x (.ins C dx (putF p.f v fs))) ∧ Sat (g.put 0 (sN K C x (p :: ps))) σ I O' := by
  obtain ⟨v0, P1, P2, e1, d12, hP1, hP2, ⟨rfl, dx, fs, n1, n2, n3, n4, n5⟩, sat2⟩ := sat.at_ow hg
  have hx2 : P2 x = none := (d12 x).resolve_left (by rw [n1]; exact Option.some_ne_none _)
  refine ⟨e1, dx, fs, t.so _ _ (hP1 _ _ n1), n4, fun v r => ?_⟩
  have sm : Same (uni (upd P1 x (.ins C dx (putF p.f v fs))) P2) (upd O x (.ins C dx (putF p.f v fs))) := by
    refine fun b o e => ?_
    unfold uni at e
    by_cases hb : b = x
    · subst hb; rw [upd_same] at e ⊢; exact e
    · rw [upd_ne hb] at e ⊢
      cases q : P1 b with
      | none => rw [q] at e; exact hP2 _ _ e
      | some u => rw [q] at e; exact hP1 _ _ (by rw [q]; exact e)
  refine ⟨uni (upd P1 x (.ins C dx (putF p.f v fs))) P2, (t.wr (hP1 _ _ n1)).drop sm, (Go.wr t (hP1 _ _ n1)).trans (Go.drop sm), ?_⟩
  refine Sat.back (R := fun I O v => v = .ref x ∧ NAt K C x (p :: ps) I O) ⟨rfl, dx, putF p.f v fs, upd_same, by rw [upd_ne n3]; exact n2, n3, ?_, n5.put hn r⟩ (fun b => ?_) e1 sat2
  · have := len_putF p.f v fs
    rw [List.length_cons]; omega
  · by_cases hb : b = x
    · exact .inr (by rw [hb]; exact hx2)
    · rw [upd_ne hb]; exact d12 b
section
variable {X : Cx} {S ρ τ β : Type} {Γ : S → Gam} {Λ : τ → S → Gam} {Res : S → Hp → Hp → V → β → Prop} {Δ : ρ → S → Gam} {pos p1 p2 p3 p4 : Pos} {rest : List Stmt} {k : Nat}
/-- self.f = e -/
theorem pb_fld {E : XK} {α : Type} [Enc α] {f self : Str} {x C : Addr} {e : Expr} {ps : List PFld} {m : R S α} {kk : α → R S (Out ρ τ β)} (c : Cls X.K C) (hno : NoAttr X.K C f) (hg : ∀ s, (Γ s).at 0 = sN X.K C x ps) (he : PX X (kE E) Γ e m)
    (hk : ∀ a, PB X (kE E) Λ Res (fun s => (Γ s).put 0 (sN X.K C x (pfl X.K f a :: ps))) rest Δ (kk a)) (hn : f ∉ ps.map (·.f)) (hl : ps.length < 1000) (hN : X.N[0]? = some self := by rfl) (hv : Vis X.env.scope self := by first | exact Or.inl rfl | exact Or.inr (Or.inl rfl) | exact Or.inr (Or.inr rfl))
    (hd : (self == ("__debug__" : Str)) = false := by decide) (hcd : (self == ("__classdict__" : Str)) = false := by decide) (hs : swapsWith e (some (.Attribute (.Name self p1) f p2)) pos.line X.env = pure false := by rfl) :
    PB X (kE E) Λ Res Γ (.Assign [.Attribute (.Name self p1) f p2] e pos :: rest) Δ (sb m kk) :=
  (pss_cons (ps_fld (pe_var hN hv hd hcd) he hs) (L2.PSs.ex hk)).mono fun D σ H ⟨s, I, O, t, sat, q⟩ => ⟨s, I, O, t, sat, q.bind.imp fun a I1 H1 ⟨_, s1, O1, t1, sat1, q1⟩ v rv => by
    obtain ⟨e1, dx, fs, e2, e3, e4⟩ := NAt.write (p := pfl X.K f a) t1 sat1 (hg s1) hn
    obtain ⟨O2, t2, g2, sat2⟩ := e4 v rv
    exact ⟨_, e1, x, C, dx, fs, rfl, e2, c, hno, by omega, a, s1, I1, O2, t2, sat2, q1.shift g2⟩⟩
end
end Mi

set_option Elab.async false
set_option linter.all false
set_option maxRecDepth 100000
set_option maxHeartbeats 4000000
namespace Mi
open PySem PySem.Spec PyProof.Rows L2
section
variable {X : Cx} {S ρ τ β : Type} {Γ : S → Gam} {Λ : τ → S → Gam} {Res : S → Hp → Hp → V → β → Prop} {Δ : ρ → S → Gam} {pos p1 p2 p3 p4 p5 : Pos} {rest : List Stmt} {k : Nat}
/-- self.f, self.g = e -/
theorem pb_fld2 {E : XK} {α α' : Type} [Enc α] [Enc α'] {f f' self : Str} {x C : Addr} {e : Expr} {kk0} {ps : List PFld} {m : R S (α × α')} {kk : α × α' → R S (Out ρ τ β)} (hc : X.calm = true) (c : Cls X.K C) (hno : NoAttr X.K C f) (hno' : NoAttr X.K C f') (hg : ∀ s, (Γ s).at 0 = sN X.K C x ps) (he : PX X (kE E) Γ e m)
    (hk : ∀ a, PB X (kE E) Λ Res (fun s => (Γ s).put 0 (sN X.K C x (pfl X.K f' a.2 :: pfl X.K f a.1 :: ps))) rest Δ (kk a)) (hn : f ∉ ps.map (·.f)) (hn' : f' ∉ f :: ps.map (·.f)) (hl : ps.length < 900) (hN : X.N[0]? = some self := by rfl) (hv : Vis X.env.scope self := by first | exact Or.inl rfl | exact Or.inr (Or.inl rfl) | exact Or.inr (Or.inr rfl))
    (hd : (self == ("__debug__" : Str)) = false := by decide) (hcd : (self == ("__classdict__" : Str)) = false := by decide)
    (h1 : (assignEach [.Attribute (.Name self p1) f p2, .Attribute (.Name self p3) f' p4] X.env).map (·.2) = assign (.Attribute (.Name self p1) f p2) X.env :: (assignEach [.Attribute (.Name self p3) f' p4] X.env).map (·.2) := by rfl)
    (h2 : (assignEach [.Attribute (.Name self p3) f' p4] X.env).map (·.2) = assign (.Attribute (.Name self p3) f' p4) X.env :: (assignEach [] X.env).map (·.2) := by rfl)
    (h3 : (assignEach [.Attribute (.Name self p1) f p2, .Attribute (.Name self p3) f' p4] X.env).length = 2 := by rfl) (h4 : (assignEach [.Attribute (.Name self p1) f p2, .Attribute (.Name self p3) f' p4] X.env).findIdx? (·.1) = none := by rfl)
    (hs : swapsWithSole [.Tuple [.Attribute (.Name self p1) f p2, .Attribute (.Name self p3) f' p4] kk0 p5] e pos.line X.env = pure false := by rfl) (hw : swappedStores [.Tuple [.Attribute (.Name self p1) f p2, .Attribute (.Name self p3) f' p4] kk0 p5] e X.env = pure none := by rfl)
    (h0 : (assignEach [.Tuple [.Attribute (.Name self p1) f p2, .Attribute (.Name self p3) f' p4] kk0 p5] X.env).map (·.2) = [assign (.Tuple [.Attribute (.Name self p1) f p2, .Attribute (.Name self p3) f' p4] kk0 p5) X.env] := by rfl) :
    PB X (kE E) Λ Res Γ (.Assign [.Tuple [.Attribute (.Name self p1) f p2, .Attribute (.Name self p3) f' p4] kk0 p5] e pos :: rest) Δ (sb m kk) :=
  (pss_cons (ps_asg he (pg_tup hc (pgs_cons (pg_fld (pe_var hN hv hd hcd)) (pgs_cons (pg_fld (pe_var hN hv hd hcd)) pgs_nil h2) h1) h3 h4) hs hw h0) (L2.PSs.ex hk)).mono fun D σ H ⟨s, I, O, t, sat, q⟩ => ⟨s, I, O, t, sat, q.bind.imp fun a I1 H1 ⟨_, s1, O1, t1, sat1, q1⟩ v rv => by
    obtain ⟨b, u, w, rfl, sq, r1, r2⟩ := rv
    obtain ⟨e1, dx, fs, e2, e3, e4⟩ := NAt.write (p := pfl X.K f a.1) t1 sat1 (hg s1) hn
    obtain ⟨O2, t2, g2, sat2⟩ := e4 u r1
    have at2 : ((Γ s1).put 0 (sN X.K C x (pfl X.K f a.1 :: ps))).at 0 = sN X.K C x (pfl X.K f a.1 :: ps) := by
      have z := hg s1
      cases q : Γ s1 with
      | nil => rw [q] at z; cases z
      | cons y ys => rfl
    obtain ⟨e1', dx', fs', e2', e3', e4'⟩ := NAt.write (p := pfl X.K f' a.2) t2 sat2 at2 hn'
    obtain ⟨O3, t3, g3, sat3⟩ := e4' w r2
    rw [Gam.put_put] at sat3
    exact ⟨b, [u, w], rfl, sqT_up t1.si sq, rfl, u, [w], rfl, _, e1, x, C, dx, fs, rfl, e2, c, hno, by omega, w, [], rfl, _, e1', x, C, dx', fs', rfl, e2', c, hno', by simp only [List.length_cons] at e3'; omega, rfl, a, s1, I1, O3, t3, sat3, (q1.shift g2).shift g3⟩⟩
end
/-! ### __init__ and C(..) -/
structure New (x dx : Addr) (I H I' H' : Hp) : Prop where
  ext : Same I I'
  keep : ∀ b o, b ≠ x → b ≠ dx → H b = some o → H' b = some o
  ni : ∀ b, I' b ≠ none → I b ≠ none ∨ H b = none ∨ b = x ∨ b = dx
def PostM {α : Type} [Enc α] (x dx : Addr) (K : Fg) (E : XK) (I H : Hp) (Q : VK) : Except Er α → Prop
  | .ok y => ∀ I' H', Same I' H' → New x dx I H I' H' → Enc.rep K I' (.ref x) y → Q .non H'
  | .error .stuck => False
  | .error (.exc c fs) => ∀ d I' H', Same I' H' → New x dx I H I' H' → XD K I' H' d fs → E (.ref (He.ga K c)) (some d) H'
def spInitM {A α : Type} [Args A] [Enc α] (K : Fg) (c : Str) (m : A → Except Er α) : Sp := fun vs H Q E => ∃ x dx ws a I, vs = .ref x :: ws ∧ H x = some (.ins (He.ga K c) dx []) ∧ H dx = some (.own x) ∧ dx ≠ x ∧ Same I H ∧ I x = none ∧ I dx = none ∧ Args.rep K I ws a ∧ PostM x dx K E I H Q (m a)
/-- a class that may be made by its name -/
structure Mak (P : Program) (w : World) (K : Fg) (mg : Str → Option Value) (base : Heap) (c : Str) (k : Nat) (ps : List Str) (sp : Sp) : Prop where
  ex : ∃ f fd, L2.Mk K (He.ga K c) f ∧ mg c = some (.ref (He.ga K c)) ∧ Binds K fd ps [] ∧ FnOk P w K mg base (L2.CX P w) k f fd ps sp
def runM {α : Type} (m : R Unit (Out α Empty Unit)) : Except Er α := match m () with
  | .ok (.nx y, _) => .ok y
  | .ok _ => .error .stuck
  | .error e => .error e
section
variable {P : Program} {w : World} {K : Fg} {mg : Str → Option Value} {base : Heap} {qual c : Str} {params : Arguments} {body : List Stmt} {scope : Scope} {f : Addr} {fd : FuncData} {dvs : List V} {kws : List (Str × V)}
theorem fn_okM {A' α : Type} [ArgG A'] [Enc α] {N ps : List Str} {k : Nat} {m : A' → R Unit (Out α Empty Unit)} (flds : α → List PFld) (F : FunD K "__init__" qual params body scope dvs kws f fd) (S : FnScope N ps scope) (hn : ps.length = ArgG.n A' + 1)
    (ho : ∀ I x dx fs y, I x = some (.ins (He.ga K c) dx fs) → HasF I fs (flds y) → Enc.rep K I (.ref x) y)
    (hb : ∀ (cdv : Value) (A : Around) (outer : List Env) (s : Shared) (H : Hp) (E : XK), Ctx (cxOf (L2.CX P w) P w K mg base N qual scope f cdv A outer s H E) (kE E) k → ∀ (x : Addr) (a : A'), PB (cxOf (L2.CX P w) P w K mg base N qual scope f cdv A outer s H E) (kE E) Λ0 (resI (β := Unit) K) (fun _ => sN K (He.ga K c) x [] :: (ArgG.gam K a ++ List.replicate (N.length - ps.length) .un)) body (fun y _ => sN K (He.ga K c) x (flds y) :: List.replicate (N.length - 1) .un) (m a)) :
    FnOk P w K mg base (L2.CX P w) (k + 1) f fd ps (spInitM K c fun a => runM (m a)) := by
  refine F.ok S (fun vs H Q E h => ?_) fun cdv A outer s H vs Q E hr h => ?_
  · obtain ⟨x, dx, ws, a, I, rfl, _, _, _, _, _, _, r, _⟩ := h
    rw [hn, List.length_cons, ArgG.ln (A := A') r]
  · obtain ⟨x, dx, ws, a, I, rfl, hx, hd, ne, e, hI, hI2, r, q⟩ := h
    have ot : ∀ b, b ≠ x → b ≠ dx → upd (upd noO dx (.own x)) x (.ins (He.ga K c) dx []) b = none := fun b h1 h2 => by rw [upd_ne h1, upd_ne h2]; rfl
    refine ⟨_, hb cdv A outer s H E (ctx_of hr S.nd) x a, (), I, upd (upd noO dx (.own x)) x (.ins (He.ga K c) dx []), ⟨e, fun b o z => ?_, fun b => ?_⟩, ?_, ?_⟩
    · by_cases h1 : b = x
      · subst h1; rw [upd_same] at z; rw [← z]; exact hx
      · by_cases h2 : b = dx
        · subst h2; rw [upd_ne h1, upd_same] at z; rw [← z]; exact hd
        · rw [ot b h1 h2] at z; cases z
    · by_cases h1 : b = x
      · exact .inl (by rw [h1]; exact hI)
      · by_cases h2 : b = dx
        · exact .inl (by rw [h2]; exact hI2)
        · exact .inr (ot b h1 h2)
    · unfold L2.start
      rw [List.length_cons, ArgG.ln (A := A') r, ← hn]
      exact ⟨_, upd (upd noO dx (.own x)) x (.ins (He.ga K c) dx []), noO, rfl, fun _ => .inr rfl, Same.refl _, fun _ _ z => (nomatch z), ⟨rfl, dx, [], upd_same, by rw [upd_ne ne, upd_same], ne, Nat.le_refl _, fun _ _ => rfl, fun p hp => by cases hp⟩, ArgG.sat (A := A') _ r⟩
    · have q : PostM x dx K E I H Q (runM (m a)) := q
      have newOf : ∀ {I' O' H' : Hp}, Go I (upd (upd noO dx (.own x)) x (.ins (He.ga K c) dx [])) H I' O' H' → New x dx I H I' H' := fun g => ⟨g.ext, fun b o h1 h2 z => g.keep b o z (ot b h1 h2), fun b z => by
        rcases g.ni b z with y | y | y
        · exact .inl y
        · exact .inr (.inl y)
        · by_cases h1 : b = x
          · exact .inr (.inr (.inl h1))
          · by_cases h2 : b = dx
            · exact .inr (.inr (.inr h2))
            · exact absurd (ot b h1 h2) y⟩
      unfold runM at q
      cases em : m a () with
      | error z =>
        rw [em] at q
        cases z with
        | stuck => exact q
        | exc c' fs => exact fun d I' O' H' t g xd => q d I' H' t.si (newOf g) xd
      | ok p =>
        obtain ⟨o, u⟩ := p
        rw [em] at q
        cases o with
        | bk e => exact nomatch e
        | ct e => exact nomatch e
        | rt b => exact q.elim
        | nx y =>
          intro σ' I' O' H' t g sat
          obtain ⟨v, O1, O2, _, d12, s1, s2, ⟨rfl, dx', fs, n1, n2, n3, n4, n5⟩, _⟩ := Sat.at_ow (i := 0) (R := fun I O v => v = .ref x ∧ NAt K (He.ga K c) x (flds y) I O) sat rfl
          have ox := s1 _ _ n1
          have od := s1 _ _ n2
          have ix : I' x = none := (t.dj x).resolve_right (nn ox)
          have id : I' dx' = none := (t.dj dx').resolve_right (nn od)
          have k1 : Same I' (upd I' dx' (.own x)) := Same.upd_new id
          have ix2 : upd I' dx' (.own x) x = none := by rw [upd_ne n3.symm]; exact ix
          have k2 : Same I' (upd (upd I' dx' (.own x)) x (.ins (He.ga K c) dx' fs)) := k1.trans (Same.upd_new ix2)
          have nw := newOf g
          refine q (upd (upd I' dx' (.own x)) x (.ins (He.ga K c) dx' fs)) H' (fun b o z => ?_) ⟨nw.ext.trans k2, nw.keep, fun b z => ?_⟩ (ho _ x dx' fs y upd_same (n5.up k2))
          · by_cases h1 : b = x
            · subst h1; rw [upd_same] at z; rw [← z]; exact t.so _ _ ox
            · rw [upd_ne h1] at z
              by_cases h2 : b = dx'
              · subst h2; rw [upd_same] at z; rw [← z]; exact t.so _ _ od
              · rw [upd_ne h2] at z; exact t.si _ _ z
          · by_cases h1 : b = x
            · exact .inr (.inr (.inl h1))
            · rw [upd_ne h1] at z
              by_cases h2 : b = dx'
              · subst h2
                rcases g.no b (nn od) with y | y
                · by_cases h3 : b = dx
                  · exact .inr (.inr (.inr h3))
                  · exact absurd (ot b h1 h3) y
                · exact .inr (.inl y)
              · rw [upd_ne h2] at z; exact nw.ni b z
end
theorem px_mk {X : Cx} {E : XK} {S : Type} {Γ : S → Gam} {pos p : Pos} {A α : Type} [Args A] [Enc α] {c : Str} {j k : Nat} {ps : List Str} {f : A → Except Er α} {e : Expr} {es : List Expr} {ma : R S A} (M : Mak X.prog X.w X.K X.mg X.base c j ps (spInitM X.K c f)) (C : Ctx X (kE E) k) (ha : PAx X (kE E) Γ (e :: es) ma) (hk : j + 1 ≤ k := by decide)
    (hg : Gl X c := by rfl) (hdb : (c == ("__debug__" : Str)) = false := by decide) (he : starEach (e :: es) X.env = (false, eval e X.env) :: starEach es X.env := by rfl) (hpl : (backTo pos (starEach es X.env)).any (·.1) = false := by rfl) :
    PX X (kE E) Γ (.Call (.Name c p) (e :: es) [] pos) (sb ma fun a => sl (f a)) := by
  obtain ⟨g, fd, h1, h2, h3, h4⟩ := M.ex
  refine L2.PE.mono (pe_make h1 h4 (C.room.mono hk) hg h2 h3 .nil (fun pins σ H s e s' I c => C.pas σ pins H s e s' I c) ha hdb he hpl) fun σ H Q ⟨s, I, O, t, sat, h⟩ => ⟨s, I, O, t, sat, h.bind.imp fun a I1 H1 ⟨_, s1, O1, t1, sat1, q1⟩ vs rv x dx hx hd ne => ?_⟩
  have up2 : ∀ b o, H1 b = some o → upd (upd H1 dx (.own x)) x (.ins (He.ga X.K c) dx []) b = some o := fun b o z => by rw [upd_ne (L2.ne_of_none z hx), upd_ne (L2.ne_of_none z hd)]; exact z
  refine ⟨x, dx, vs ++ [], a, I1, rfl, upd_same, by rw [upd_ne ne, upd_same], ne, fun b o z => up2 b o (t1.si b o z), t1.fi hx, t1.fi hd, by rw [List.append_nil]; exact rv, ?_⟩
  have fin : ∀ {I' H' : Hp}, Same I' H' → New x dx I1 (upd (upd H1 dx (.own x)) x (.ins (He.ga X.K c) dx [])) I' H' → St3 I' O1 H' ∧ Go I1 O1 H1 I' O1 H' := by
    intro I' H' si nw
    have kp : ∀ b o, H1 b = some o → H' b = some o := fun b o z => nw.keep b o (L2.ne_of_none z hx) (L2.ne_of_none z hd) (up2 b o z)
    have ni : ∀ b, I' b ≠ none → I1 b ≠ none ∨ H1 b = none := fun b z => by
      rcases nw.ni b z with y | y | y | y
      · exact .inl y
      · refine .inr ?_
        cases q : H1 b with
        | none => rfl
        | some o => rw [up2 b o q] at y; cases y
      · exact .inr (by rw [y]; exact hx)
      · exact .inr (by rw [y]; exact hd)
    refine ⟨⟨si, fun b o z => kp b o (t1.so b o z), fun b => ?_⟩, fun b o z _ => kp b o z, nw.ext, fun b z => (ni b z).imp (fun y => y) .inl, fun b z => .inl z⟩
    cases z : I' b with
    | none => exact .inl rfl
    | some o =>
      rcases ni b (nn z) with y | y
      · exact .inr ((t1.dj b).resolve_left y)
      · exact .inr (t1.so.free y)
  unfold sl at q1
  cases ef : f a with
  | ok y =>
    rw [ef] at q1
    intro I' H' si nw rep
    obtain ⟨t2, g2⟩ := fin si nw
    exact ⟨rfl, q1 I' O1 H' t2 g2 (sat1.up nw.ext) (.ref x) rep⟩
  | error z =>
    rw [ef] at q1
    cases z with
    | stuck => exact q1
    | exc c' fs =>
      intro d I' H' si nw xd
      obtain ⟨t2, g2⟩ := fin si nw
      exact q1 d I' O1 H' t2 g2 xd
end Mi

set_option Elab.async false
set_option linter.all false
set_option maxRecDepth 100000
set_option maxHeartbeats 4000000
namespace Mi
open PySem PySem.Spec PyProof.Rows L2
/-! ### operators of own classes -/
def rOwnB (C : Addr) (sp : Sp) (E : XK) : R2 := fun x y H Q => ∃ a dx fs b dy gs, x = .ref a ∧ y = .ref b ∧ H a = some (.ins C dx fs) ∧ H b = some (.ins C dy gs) ∧ sp [x, y] H Q E
section
variable {X : Cx} {pins : List (Addr × Obj)} {σ : L2.St} {H : Hp} {s : Shared} {CX : CXT} {C g : Addr} {k : Nat} {fd : FuncData} {ps : List Str} {sp : Sp} {E : XK}
theorem ins_at {a dx : Addr} {fs : List (Str × V)} (I : Inv X pins σ H s) (h : H a = some (.ins C dx fs)) : ∃ ox od, PySem.W.InstAt s.heap a ox C (some od) := by
  obtain ⟨mA, O, _⟩ := ins_get I.hok h
  obtain ⟨od, J, _⟩ := O.look
  exact ⟨_, _, J⟩
theorem op_binI {op : Operator} (hc : PySem.W.selfFirst X.K C = true) (hm : Meth X.K C (PySem.dunder op.info.2) g) (F : FnOk X.prog X.w X.K X.mg X.base CX k g fd ps sp) (hr : Room k X.A) (hb : Binds X.K fd ps []) (hx : Passes CX X E) : OpR X (binaryOp op) (rOwnB C sp E) := by
  intro pins s σ H x y v u Q I rx ry h
  obtain ⟨a, dx, fs, b, dy, gs, rfl, rfl, ha, hb', q⟩ := h
  cases (show v = Value.ref a from rx)
  cases (show u = Value.ref b from ry)
  obtain ⟨ox, od, J⟩ := ins_at I ha
  obtain ⟨ox', od', J'⟩ := ins_at I hb'
  obtain ⟨m, hF⟩ := I.fr
  refine PySem.W.binop_K hF I.ok.mod.kin J J'.type hc hm.at_ hm.fn ?_
  exact wpAny_mono (run_fn (us := [.ref a, .ref b]) (vs := [.ref a, .ref b]) F hr hb .nil hx I (.cons rfl (.cons rfl .nil)) q) (fun w s' ⟨z', H', I', rz, qz⟩ => SlX.cmpback rz ⟨z', H', I', rz, qz⟩) fun _ _ x => x
theorem op_eqI (hn : PySem.W.notFirst X.K C (.ref C) = true) (hm : Meth X.K C "__eq__" g) (F : FnOk X.prog X.w X.K X.mg X.base CX k g fd ps sp) (hr : Room k X.A) (hb : Binds X.K fd ps []) (hx : Passes CX X E) : OpR X (compareOp .Eq) (rOwnB C sp E) := by
  intro pins s σ H x y v u Q I rx ry h
  obtain ⟨a, dx, fs, b, dy, gs, rfl, rfl, ha, hb', q⟩ := h
  cases (show v = Value.ref a from rx)
  cases (show u = Value.ref b from ry)
  obtain ⟨ox, od, J⟩ := ins_at I ha
  obtain ⟨ox', od', J'⟩ := ins_at I hb'
  obtain ⟨m, hF⟩ := I.fr
  show wpAny _ _ (richCompare .Eq _ _) _ _ _
  refine PySem.W.cmp_K (op := .Eq) (tb := .ref C) hr.units0 hF I.ok.mod.kin J J'.type hn hm.at_ hm.fn ?_
  exact wpAny_mono (run_fn (us := [.ref a, .ref b]) (vs := [.ref a, .ref b]) F hr hb .nil hx I (.cons rfl (.cons rfl .nil)) q) (fun w s' ⟨z', H', I', rz, qz⟩ => SlX.cmpback rz ⟨z', H', I', rz, qz⟩) fun _ _ x => x
end
section
variable {X : Cx} {E : XK} {S : Type} {Γ : S → Gam} {pos : Pos} {k j : Nat} {ps : List Str}
theorem px_binI {α γ : Type} [Ins α] [Enc γ] {op : Operator} {f : α × α × Unit → Except Er γ} {gg : α → α → Except Er γ} {a b : Expr} {ma mb : R S α} (hc : PySem.W.selfFirst X.K (He.ga X.K (Ins.cls α)) = true) (M : Met X.prog X.w X.K X.mg X.base (Ins.cls α) (PySem.dunder op.info.2) j ps (spF X.K f)) (C : Ctx X (kE E) k)
    (ha : PX X (kE E) Γ a ma) (hb : PX X (kE E) Γ b mb) (hk : j ≤ k := by decide) (hf : ∀ x a, f (x, a, ()) = gg x a := by intro _ _; rfl) : PX X (kE E) Γ (.BinOp a op b pos) (sb ma fun x => sb mb fun y => sl (gg x y)) := by
  obtain rfl : gg = fun x a => f (x, a, ()) := funext fun x => funext fun a => (hf x a).symm
  obtain ⟨g, fd, _, h2, h3, h4⟩ := M.ex
  refine px_bin (pe_op (op_binI hc h2 h4 (C.room.mono hk) h3 (fun pins σ H s e s' I c => C.pas σ pins H s e s' I c))) ha hb fun x y v w s σ I O H Q rv rw t sat h => ?_
  obtain ⟨a, dx, fs, rfl, e1, _⟩ := Ins.ins rv
  obtain ⟨b, dy, gs, rfl, e2, _⟩ := Ins.ins rw
  exact ⟨a, dx, fs, b, dy, gs, rfl, rfl, t.si _ _ e1, t.si _ _ e2, (x, y, ()), I, t.si, ⟨_, _, rfl, rv, _, [], rfl, rw, rfl⟩, post_sl t sat h⟩
theorem px_eqI {α : Type} [Ins α] {f : α × α × Unit → Except Er Bool} {gg : α → α → Except Er Bool} {a b : Expr} {ma mb : R S α} (hc : PySem.W.notFirst X.K (He.ga X.K (Ins.cls α)) (.ref (He.ga X.K (Ins.cls α))) = true) (M : Met X.prog X.w X.K X.mg X.base (Ins.cls α) "__eq__" j ps (spF X.K f)) (C : Ctx X (kE E) k)
    (ha : PX X (kE E) Γ a ma) (hb : PX X (kE E) Γ b mb) (hk : j ≤ k := by decide) (hf : ∀ x a, f (x, a, ()) = gg x a := by intro _ _; rfl) : CB X (kE E) Γ (.Compare a [.Eq] [b] pos) (sb ma fun x => sb mb fun y => sl (gg x y)) := by
  obtain rfl : gg = fun x a => f (x, a, ()) := funext fun x => funext fun a => (hf x a).symm
  obtain ⟨g, fd, _, h2, h3, h4⟩ := M.ex
  refine px_cmp (op_eqI hc h2 h4 (C.room.mono hk) h3 (fun pins σ H s e s' I c => C.pas σ pins H s e s' I c)) ha hb (nomark _) fun x y v w s σ I O H Q rv rw t sat h => ?_
  obtain ⟨a, dx, fs, rfl, e1, _⟩ := Ins.ins rv
  obtain ⟨b, dy, gs, rfl, e2, _⟩ := Ins.ins rw
  exact ⟨a, dx, fs, b, dy, gs, rfl, rfl, t.si _ _ e1, t.si _ _ e2, (x, y, ()), I, t.si, ⟨_, _, rfl, rv, _, [], rfl, rw, rfl⟩, post_sl t sat h⟩
end
end Mi

set_option Elab.async false
set_option linter.all false
set_option maxRecDepth 100000
set_option maxHeartbeats 4000000
namespace Mi
open PySem PySem.Spec PyProof.Rows L2
/-- a type of instances by its class and fields -/
abbrev insOf {α : Type} (cls : Str) (names : List Str) (flds : Fg → α → List PFld) (nm : ∀ K x, (flds K x).map (·.f) = names) : Ins α where
  rep := fun K I v x => ∃ a dx fs, v = .ref a ∧ I a = some (.ins (He.ga K cls) dx fs) ∧ HasF I fs (flds K x)
  up := fun e ⟨a, dx, fs, h1, h2, h3⟩ => ⟨a, dx, fs, h1, e _ _ h2, h3.up e⟩
  cls := cls
  names := names
  ins := fun {K I v x} ⟨a, dx, fs, h1, h2, h3⟩ => ⟨a, dx, fs, h1, h2, fun m hm => h3.1 m (by rw [nm]; exact hm)⟩
theorem fld_at {I : Hp} {fs : List (Str × V)} {ps : List PFld} {p : PFld} (h : HasF I fs ps) (hp : p ∈ ps) : ∃ u, fs.lookup p.f = some u ∧ p.R I u := h.2 p hp
end Mi

set_option Elab.async false
set_option linter.all false
set_option maxRecDepth 100000
set_option maxHeartbeats 4000000
namespace Mi
open PySem PySem.Spec PyProof.Rows L2
/-! ### one of two types -/
instance {α β : Type} [Enc α] [Enc β] : Enc (α ⊕ β) := ⟨fun K I v x => match x with
    | .inl a => Enc.rep K I v a
    | .inr b => Enc.rep K I v b, fun {K I I' v x} e h => by
  cases x with
  | inl a => exact Enc.up (x := a) e h
  | inr b => exact Enc.up (x := b) e h⟩
section
variable {X : Cx} {E : EW} {S : Type} {Γ : S → Gam} {pos : Pos}
def sumL {α β : Type} : α ⊕ β → Option α
  | .inl a => some a
  | _ => none
def sumR {α β : Type} : α ⊕ β → Option β
  | .inr a => some a
  | _ => none
theorem px_inl {α β : Type} [Enc α] [Enc β] {e : Expr} {m : R S α} (h : PX X E Γ e m) : PX X E Γ e (sb m fun z => sr (Sum.inl z : α ⊕ β)) :=
  L2.PE.mono h fun σ H Q ⟨s, I, O, t, sat, h⟩ => ⟨s, I, O, t, sat, h.bind.imp fun x I1 H1 ⟨_, s1, O1, t1, sat1, h1⟩ v rv => h1.at_ t1 sat1 v rv⟩
theorem px_inr {α β : Type} [Enc α] [Enc β] {e : Expr} {m : R S β} (h : PX X E Γ e m) : PX X E Γ e (sb m fun z => sr (Sum.inr z : α ⊕ β)) :=
  L2.PE.mono h fun σ H Q ⟨s, I, O, t, sat, h⟩ => ⟨s, I, O, t, sat, h.bind.imp fun x I1 H1 ⟨_, s1, O1, t1, sat1, h1⟩ v rv => h1.at_ t1 sat1 v rv⟩
theorem px_sumL {α β : Type} [Enc α] [Enc β] {e : Expr} {m : R S (α ⊕ β)} (h : PX X E Γ e m) : PX X E Γ e (sb m fun z => so (sumL z)) :=
  L2.PE.mono h fun σ H Q ⟨s, I, O, t, sat, h⟩ => ⟨s, I, O, t, sat, h.bind.imp fun x I1 H1 ⟨_, s1, O1, t1, sat1, h1⟩ v rv => by
    obtain ⟨y, e, q⟩ := h1.some_
    cases x with
    | inl a => cases e; exact q.at_ t1 sat1 v rv
    | inr b => cases e⟩
theorem px_sumR {α β : Type} [Enc α] [Enc β] {e : Expr} {m : R S (α ⊕ β)} (h : PX X E Γ e m) : PX X E Γ e (sb m fun z => so (sumR z)) :=
  L2.PE.mono h fun σ H Q ⟨s, I, O, t, sat, h⟩ => ⟨s, I, O, t, sat, h.bind.imp fun x I1 H1 ⟨_, s1, O1, t1, sat1, h1⟩ v rv => by
    obtain ⟨y, e, q⟩ := h1.some_
    cases x with
    | inl a => cases e
    | inr b => cases e; exact q.at_ t1 sat1 v rv⟩
end
/-! ### isinstance, any class -/
inductive Tag where
  | b (t : String) | o (c : Str)
  deriving DecidableEq
def tagV (K : Fg) : Tag → Value
  | .b t => .type t
  | .o c => .ref (He.ga K c)
/-- what isinstance asks of an own class whose instances are looked at -/
structure IsiC (K : Fg) (c : Str) : Prop where
  cl : Cls K (He.ga K c)
  ha : PySem.W.findIn K (.ref (He.ga K c)) "__class__" = some (some (.builtin "object.__class__"))
  hn : PySem.W.specialIn K (.builtin "object.__class__") "__get__" = some (some (.builtin "getset_descriptor.__get__"))
  htk : PySem.W.takesIn K (.builtin "object.__class__") = some true
  hm : PySem.W.mroIn K (He.ga K c) (.type "object") = some true
class Tg (α : Type) extends Enc α where
  tag : α → Option Tag
  ty : ∀ {K : Fg} {I H : Hp} {v : V} {x : α} {t : Tag}, Same I H → (∀ c, t = .o c → IsiC K c) → rep K I v x → tag x = some t → TyX K H v (tagV K t)
instance : Tg Int := ⟨fun _ => some (.b "int"), fun {K I H v x t} e hc h q => by cases q; have z : v = .int x := h; subst z; exact .base (.int x)⟩
instance : Tg Bool := ⟨fun _ => some (.b "bool"), fun {K I H v x t} e hc h q => by cases q; have z : v = .bl x := h; subst z; exact .base (.bl x)⟩
instance : Tg Str := ⟨fun _ => some (.b "str"), fun {K I H v x t} e hc h q => by cases q; have z : v = .str x := h; subst z; exact .base (.str x)⟩
theorem ty_tup {K : Fg} {I H : Hp} {a : Addr} {vs : List V} (e : Same I H) (q : SqT K I a vs) : TyX K H (.ref a) (.type "tuple") := by
  rcases sqT_up e q with (q | ⟨o, q⟩) | ⟨o, its, n, q1, q2, _⟩
  · exact .base (.tup q)
  · exact .fTuple q
  · exact .kTuple q1 q2
instance {α β : Type} [Enc α] [Enc β] : Tg (α × β) := ⟨fun _ => some (.b "tuple"), fun {K I H v x t} e hc h q => by cases q; obtain ⟨a, u, w, rfl, q, _⟩ := h; exact ty_tup e q⟩
instance {α : Type} [Enc α] : Tg (Tu α) := ⟨fun _ => some (.b "tuple"), fun {K I H v x t} e hc h q => by cases q; obtain ⟨a, vs, rfl, q, _⟩ := h; exact ty_tup e q⟩
instance {α : Type} [Enc α] : Tg (List α) := ⟨fun _ => some (.b "list"), fun {K I H v x t} e hc h q => by cases q; obtain ⟨a, vs, rfl, q, _⟩ := h; exact .base (.lst (e _ _ q))⟩
instance {α β : Type} [Tg α] [Tg β] : Tg (α ⊕ β) := ⟨fun x => match x with
    | .inl a => Tg.tag a
    | .inr b => Tg.tag b, fun {K I H v x t} e hc h q => by
  cases x with
  | inl a => exact Tg.ty (x := a) e hc h q
  | inr b => exact Tg.ty (x := b) e hc h q⟩
instance : Tg D := ⟨fun d => match d with
    | .obj c _ => some (.o c)
    | d => (tyD d).map .b, fun {K I H v x t} e hc h q => by
  cases x with
  | obj c a =>
    cases q
    have h : RD K I v (.obj c a) := h
    cases h with
    | obj z =>
      have i := hc c rfl
      exact .base (.ins (e _ _ z) i.cl i.ha i.hn i.htk i.hm)
  | non => cases q; exact tyX_of e h rfl
  | bl b => cases q; exact tyX_of e h rfl
  | int b => cases q; exact tyX_of e h rfl
  | str b => cases q; exact tyX_of e h rfl
  | tup b => cases q; exact tyX_of e h rfl
  | lst b => cases q; exact tyX_of e h rfl
  | dct b => cases q; exact tyX_of e h rfl⟩
abbrev tgOf {α : Type} [I0 : Ins α] : Tg α where
  toEnc := I0.toEnc
  tag := fun _ => some (.o (Ins.cls α))
  ty := fun {K I H v x t} e hc h q => by
    cases q
    obtain ⟨a, dx, fs, rfl, h1, _⟩ := Ins.ins (α := α) h
    have i := hc _ rfl
    exact .base (.ins (e _ _ h1) i.cl i.ha i.hn i.htk i.hm)
/-- the answers that the read part gives: (type, class, answer) -/
abbrev Tags := List (Tag × Str × Bool)
def isC (T : Tags) (t : Option Tag) (c : Str) : Option Bool := t.bind fun t => (T.find? fun q => decide (q.1 = t) && decide (q.2.1 = c)).map (·.2.2)
structure TagsOk (K : Fg) (mg : Str → Option Value) (T : Tags) : Prop where
  ans : ∀ q ∈ T, PySem.W.kitOne K (tagV K q.1) (.ref (He.ga K q.2.1)) = some q.2.2
  own : ∀ q ∈ T, ∀ c, q.1 = .o c → IsiC K c
  glo : ∀ q ∈ T, mg q.2.1 = some (.ref (He.ga K q.2.1))
theorem isC_some {T : Tags} {t : Option Tag} {c : Str} {b : Bool} (h : isC T t c = some b) : ∃ u, t = some u ∧ (u, c, b) ∈ T := by
  unfold isC at h
  cases t with
  | none => cases h
  | some u =>
    refine ⟨u, rfl, ?_⟩
    cases q : T.find? fun q => decide (q.1 = u) && decide (q.2.1 = c) with
    | none => simp [q] at h
    | some p =>
      obtain ⟨p1, p2, p3⟩ := p
      have e := List.find?_some q
      simp only [Bool.and_eq_true, decide_eq_true_eq] at e
      simp [q] at h
      have := List.mem_of_find?_eq_some q
      rw [e.1, e.2, h] at this
      exact this
theorem px_isC {X : Cx} {E : EW} {S : Type} {Γ : S → Gam} {pos p p1 : Pos} {α : Type} [Tg α] {T : Tags} {a : Expr} {c : Str} {m : R S α} (hm : X.mg "isinstance" = none) (hT : TagsOk X.K X.mg T) (hcm : X.mg c = some (.ref (He.ga X.K c))) (ha : PX X E Γ a m)
    (hg : Gl X "isinstance" := by rfl) (hgc : Gl X c := by rfl) (hd : (c == ("__debug__" : Str)) = false := by decide)
    (h1 : starEach [a, .Name c p1] X.env = (false, eval a X.env) :: starEach [.Name c p1] X.env := by rfl) (h3 : starEach [.Name c p1] X.env = (false, eval (.Name c p1) X.env) :: starEach [] X.env := by rfl) (h2 : (backTo pos (starEach [.Name c p1] X.env)).any (·.1) = false := by rfl) :
    PX X E Γ (.Call (.Name "isinstance" p) [a, .Name c p1] [] pos) (sb m fun d => so (isC T (Tg.tag d) c)) :=
  L2.PE.mono (pe_callB call_isi hg hm (by decide +kernel) (pa_cons ha (pa_cons (pe_glob (v := .ref (He.ga X.K c)) hgc hcm rfl hd) pa_nil h3) h1) (by decide) (by decide) h1 h2) fun σ H Q ⟨s, I, O, t, sat, h⟩ => ⟨s, I, O, t, sat, h.bind.impT fun d I1 O2 H1 t2 _ ⟨_, s1, O1, t1, sat1, h1⟩ v rv => by
    obtain ⟨b, e, q⟩ := h1.some_
    obtain ⟨u, eu, hu⟩ := isC_some e
    exact ⟨v, .ref (He.ga X.K c), tagV X.K u, .ref (He.ga X.K c), b, rfl, .own _, Tg.ty t1.si (fun c' z => hT.own _ hu c' z) rv eu, hT.ans _ hu, q.at_ t1 sat1 _ rfl⟩⟩
end Mi

set_option Elab.async false
set_option linter.all false
set_option maxRecDepth 100000
set_option maxHeartbeats 4000000
namespace Mi
open PySem PySem.Spec PyProof.Rows L2
theorem fnR_of {P : Program} {w : World} {K : Fg} {mg : Str → Option Value} {base : Heap} {CX : CXT} {k : Nat} {g : Addr} {fd : FuncData} {ps : List Str} {sp : Sp} (F : FnOk P w K mg base CX k g fd ps sp) (hb : Binds K fd ps []) : FnR P w K mg base CX k g sp := fun A outer s H us vs Q E hr e0 r h => by
  have KX : K.In s.heap := e0.mod.kin.keeps fun b o e => (e0.bs b o e).1
  have hl : (us ++ []).length = ps.length := by rw [List.append_nil, ← r.length]; exact F.len _ _ _ _ h
  have z := hb s us KX hl
  rw [List.append_nil] at z
  exact F.run A outer s H ⟨us, []⟩ us vs Q E hr e0 z r h
def tCallIS (X : Cx) (C : Addr) (sp : Sp) (E : EW) (to : TE) (t : TA) : TE := fun τ G Q => to τ G fun y G1 => ∃ a, y = V.ref a ∧ t τ G1 fun vs G2 => StX.InsC X G2 a C ∧ sp (V.ref a :: vs) G2 Q (E τ)
theorem pe_callIS {X : Cx} {E : EW} {CX : CXT} {k : Nat} {C g : Addr} {sp : Sp} {e o : Expr} {es : List Expr} {to : TE} {t : TA} {pos : Pos} (ho : PE X o to) (c : StX.CallO X.K C g) (F : FnR X.prog X.w X.K X.mg X.base CX k g sp) (hr : Room k X.A) (hp : ∀ τ, PassesAt CX X τ (E τ)) (ha : PA X (e :: es) t)
    (h3 : eval (.Call o (e :: es) [] pos) X.env = (do callWith pos (← eval o X.env) [] (backTo pos (starEach (e :: es) X.env)) (backToKw pos (keywordEach [] X.env))))
    (h1 : starEach (e :: es) X.env = (false, eval e X.env) :: starEach es X.env) (h2 : (backTo pos (starEach es X.env)).any (·.1) = false) : PE X (.Call o (e :: es) [] pos) (tCallIS X C sp E to t) := by
  constructor
  intro pins s τ G Q I h
  refine Call_ (thn (ho.run pins s τ G _ I h) ?_) h3
  rintro u s1 ⟨y, G1, I1, ry, a, rfl, q⟩
  cases ry
  refine StX.callO_with (thn (ha.run pos pins s1 τ G1 _ I1 q) ?_) h1 h2
  rintro us s2 ⟨vs, G2, I2, r, hi, q2⟩
  obtain ⟨ox, od, J, hd⟩ := StX.insC_at I2 hi
  refine ⟨⟨C, ox, od, J, hd⟩, wpAny_call (PySem.W.kco_code I2.kIn J hd c.at_ c.fn c.fi (codeAny_mono (F X.A X.stack s2 G2 (.ref a :: us) (.ref a :: vs) Q (E τ) hr I2.env0 (.cons rfl r) q2) fun z s3 hz => ?_))⟩
  cases z with
  | error e => exact hp τ pins G2 s2 e s3 I2 hz
  | ok fl =>
    cases fl with
    | ret u => exact I2.after hz
    | next => exact hz.elim
    | brk => exact hz.elim
    | cont => exact hz.elim
/-- step(x), .. : an instance called -/
theorem px_callI {X : Cx} {E : EW} {S : Type} {Γ : S → Gam} {pos : Pos} {k j : Nat} {ps : List Str} {α A β : Type} [Ins α] [Args A] [Enc β] {f : α × A → Except Er β} {gg : α → A → Except Er β} {o e : Expr} {es : List Expr} {mo : R S α} {ma : R S A} (M : Met X.prog X.w X.K X.mg X.base (Ins.cls α) "__call__" j ps (spF X.K f))
    (hfi : ∀ g, Meth X.K (He.ga X.K (Ins.cls α)) "__call__" g → PySem.W.fnIn X.K g = true) (C : Ctx X E k) (ho : PX X E Γ o mo) (ha : PAx X E Γ (e :: es) ma) (hk : j ≤ k := by decide) (hf : ∀ x a, f (x, a) = gg x a := by intro _ _; rfl)
    (ht : eval (.Call o (e :: es) [] pos) X.env = (do callWith pos (← eval o X.env) [] (backTo pos (starEach (e :: es) X.env)) (backToKw pos (keywordEach [] X.env))) := by rfl)
    (he : starEach (e :: es) X.env = (false, eval e X.env) :: starEach es X.env := by rfl) (hpl : (backTo pos (starEach es X.env)).any (·.1) = false := by rfl) :
    PX X E Γ (.Call o (e :: es) [] pos) (sb mo fun x => sb ma fun a => sl (gg x a)) := by
  obtain rfl : gg = fun x a => f (x, a) := funext fun x => funext fun a => (hf x a).symm
  obtain ⟨g, fd, h1, h2, h3, h4⟩ := M.ex
  refine L2.PE.mono (pe_callIS (C := He.ga X.K (Ins.cls α)) ho ⟨h2.at_, h2.fn, hfi g h2⟩ (fnR_of h4 h3) (C.room.mono hk) C.pas ha ht he hpl) fun σ H Q ⟨s, I, O, t, sat, h⟩ => ⟨s, I, O, t, sat, h.bind.imp fun x I1 H1 ⟨_, s1, O1, t1, sat1, q1⟩ v rv => ?_⟩
  obtain ⟨a, dx, fs, rfl, e1, e2⟩ := Ins.ins rv
  exact ⟨a, rfl, s1, I1, O1, t1, sat1, q1.bind.imp fun b I2 H2 ⟨ext, s2, O2, t2, sat2, q2⟩ vs rvs => ⟨.inr ⟨dx, fs, t2.si _ _ (ext _ _ e1)⟩, (x, b), I2, t2.si, ⟨.ref a, vs, rfl, Enc.up ext rv, rvs⟩, post_sl t2 sat2 q2⟩⟩
end Mi

set_option Elab.async false
set_option linter.all false
set_option maxRecDepth 100000
set_option maxHeartbeats 4000000
namespace Mi
open PySem PySem.Spec PyProof.Rows L2
section
variable {X : Cx} {E : XK} {S α α' β : Type} {Γ : S → Gam} {pos : Pos} {k : Nat}
/-- [e for x, y in xs if c] -/
theorem po_lc2 (i j : Nat) {x y : Str} {elt iter : Expr} {ifs : List Expr} {scope : Scope} {own : List (Str × Nat)} {px py pt : Pos} {kk} [Enc α] [Enc α'] [Enc β] {m : R S (List (α × α'))} {c : α × α' → R S Bool} {f : α × α' → R S β} (C : Ctx X (kE E) k)
    (hi : IX X (kE E) Γ (.Tuple [.Name x px, .Name y py] kk pt) iter m) (ok : BlkOk X.N X.env.scope scope own) (hu : ∀ s, (Γ s).forg (own.map (·.2)) = Γ s) (hi1 : i ∈ own.map (·.2)) (hi2 : j ∈ own.map (·.2))
    (hg : ∀ (s : Shared) (H : Hp) (D : Addr) (cl : List (Str × Addr)) (fp : List Addr), PG (X.blk s H scope (compEnvC scope cl D X.env) fp) (.Tuple [.Name x px, .Name y py] kk pt) (gTup X.K 2 (gCons (gName i) (gCons (gName j) gNil))))
    (ht : ∀ (s : Shared) (H : Hp) (D : Addr) (cl : List (Str × Addr)) (fp : List Addr), Ctx (X.blk s H scope (compEnvC scope cl D X.env) fp) (kE E0) k → ∀ a, PTs (X.blk s H scope (compEnvC scope cl D X.env) fp) ifs (tMT X.K (kE E0) (fun s => (((Γ s).forg (own.map (·.2))).put i (sI X.K a.1)).put j (sI X.K a.2)) (c a)))
    (he : ∀ (s : Shared) (H : Hp) (D : Addr) (cl : List (Str × Addr)) (fp : List Addr), Ctx (X.blk s H scope (compEnvC scope cl D X.env) fp) (kE E0) k → ∀ a, PX (X.blk s H scope (compEnvC scope cl D X.env) fp) (kE E0) (fun s => (((Γ s).forg (own.map (·.2))).put i (sI X.K a.1)).put j (sI X.K a.2)) elt (f a))
    (hs : ∀ x, foldedSetIterable iter X.env x = pure x := by intro _; rfl) : PXo X (kE E) Γ (.ListComp elt [⟨.Tuple [.Name x px, .Name y py] kk pt, iter, ifs, 0⟩] scope pos) (sb m fun xs => lcL c f xs []) := by
  obtain ⟨wi, i1, i2⟩ := hi.ex
  have cb : ∀ (s : Shared) (H : Hp) (D : Addr) (cl : List (Str × Addr)) (fp : List Addr), Ctx (X.blk s H scope (compEnvC scope cl D X.env) fp) (kE E0) k := fun s H D cl fp => ⟨fun σ pins H s e s' I c => passL pins σ H s e s' I c, PassesOwn.never, C.room, C.nd, C.calm, takesE0⟩
  refine L2.PE.mono (pe_lc C.calm C.nd i1 ok hg (fun s H D cl fp => L2.PTs.ex (t := fun a => tMT X.K (kE E0) (fun s => (((Γ s).forg (own.map (·.2))).put i (sI X.K a.1)).put j (sI X.K a.2)) (c a)) (ht s H D cl fp (cb s H D cl fp))) (fun s H D cl fp => L2.PE.ex (t := fun a => tM X.K (kE E0) (fun s => (((Γ s).forg (own.map (·.2))).put i (sI X.K a.1)).put j (sI X.K a.2)) (f a)) (he s H D cl fp (cb s H D cl fp))) hs) fun σ H Q h => ?_
  refine lc_core' (g := gTup X.K 2 (gCons (gName i) (gCons (gName j) gNil))) (up := fun g a => (g.put i (sI X.K a.1)).put j (sI X.K a.2)) (c := c) (f := f) i2 hu (fun g a => ?_) (fun v a σ I O H Q Γ r t sat h => ?_) (fun a σ H Q h => ⟨a, h⟩) (fun a σ H Q h => ⟨a, h⟩) h
  · rw [Gam.forg_in _ _ j _ hi2, Gam.forg_in _ _ i _ hi1]
  · obtain ⟨b, u, w, rfl, q, r1, r2⟩ := r
    refine ⟨b, [u, w], rfl, sqT_up t.si q, rfl, u, [w], rfl, w, [], rfl, rfl, h _ ((sat.put_im r1).put_im r2) ?_⟩
    rw [wipe_set _ j _ hi2, wipe_set _ i _ hi1]
theorem ctx_blk (C : Ctx X (kE E) k) (s : Shared) (H : Hp) (scope : Scope) (D : Addr) (cl : List (Str × Addr)) (fp : List Addr) : Ctx (X.blk s H scope (compEnvC scope cl D X.env) fp) (kE E0) k := ⟨fun σ pins H s e s' I c => passL pins σ H s e s' I c, PassesOwn.never, C.room, C.nd, C.calm, takesE0⟩
/-- [e for x in xs if c] -/
theorem po_lcC (i : Nat) {x : Str} {elt iter : Expr} {ifs : List Expr} {scope : Scope} {own : List (Str × Nat)} {px : Pos} [Enc α] [Enc β] {m : R S (List α)} {c : α → R S Bool} {f : α → R S β} (C : Ctx X (kE E) k)
    (hi : IX X (kE E) Γ (.Name x px) iter m) (ok : BlkOk X.N X.env.scope scope own) (hu : ∀ s, (Γ s).forg (own.map (·.2)) = Γ s) (hown : i ∈ own.map (·.2))
    (hg : ∀ (s : Shared) (H : Hp) (D : Addr) (cl : List (Str × Addr)) (fp : List Addr), PG (X.blk s H scope (compEnvC scope cl D X.env) fp) (.Name x px) (gName i))
    (ht : ∀ (s : Shared) (H : Hp) (D : Addr) (cl : List (Str × Addr)) (fp : List Addr), Ctx (X.blk s H scope (compEnvC scope cl D X.env) fp) (kE E0) k → ∀ a, PTs (X.blk s H scope (compEnvC scope cl D X.env) fp) ifs (tMT X.K (kE E0) (fun s => ((Γ s).forg (own.map (·.2))).put i (sI X.K a)) (c a)))
    (he : ∀ (s : Shared) (H : Hp) (D : Addr) (cl : List (Str × Addr)) (fp : List Addr), Ctx (X.blk s H scope (compEnvC scope cl D X.env) fp) (kE E0) k → ∀ a, PX (X.blk s H scope (compEnvC scope cl D X.env) fp) (kE E0) (fun s => ((Γ s).forg (own.map (·.2))).put i (sI X.K a)) elt (f a))
    (hs : ∀ x, foldedSetIterable iter X.env x = pure x := by intro _; rfl) : PXo X (kE E) Γ (.ListComp elt [⟨.Name x px, iter, ifs, 0⟩] scope pos) (sb m fun xs => lcL c f xs []) :=
  po_lc1 i C hi ok hu hown hg (fun s H D cl fp a => ht s H D cl fp (ctx_blk C s H scope D cl fp) a) he hs
/-- no test -/
theorem pts_t {Y : Cx} {E : EW} {Γ : S → Gam} : PTs Y [] (tMT Y.K E Γ (sr true)) := L2.PTs.mono pts_nil fun σ H Q ⟨s, I, O, t, sat, h⟩ => Post.at_ h t sat
/-- name = [e for x in xs if c], on one line -/
theorem pb_setLcC {ρ τ β' : Type} {Λ : τ → S → Gam} {Res : S → Hp → Hp → V → β' → Prop} {Δ : ρ → S → Gam} {pos' spos : Pos} {rest : List Stmt} (iy : Nat) (i : Nat) {x y : Str} {elt iter : Expr} {ifs : List Expr} {scope : Scope} {own : List (Str × Nat)} {px : Pos} [Enc α] [Enc β] {m : R S (List α)} {c : α → R S Bool} {f : α → R S β} {kk : List β → R S (Out ρ τ β')} (C : Ctx X (kE E) k)
    (hi : IX X (kE E) Γ (.Name x px) iter m) (ok : BlkOk X.N X.env.scope scope own) (hu : ∀ s, (Γ s).forg (own.map (·.2)) = Γ s) (hown : i ∈ own.map (·.2))
    (hg : ∀ (s : Shared) (H : Hp) (D : Addr) (cl : List (Str × Addr)) (fp : List Addr), PG (X.blk s H scope (compEnvC scope cl D X.env) fp) (.Name x px) (gName i))
    (ht : ∀ (s : Shared) (H : Hp) (D : Addr) (cl : List (Str × Addr)) (fp : List Addr), Ctx (X.blk s H scope (compEnvC scope cl D X.env) fp) (kE E0) k → ∀ a, PTs (X.blk s H scope (compEnvC scope cl D X.env) fp) ifs (tMT X.K (kE E0) (fun s => ((Γ s).forg (own.map (·.2))).put i (sI X.K a)) (c a)))
    (he : ∀ (s : Shared) (H : Hp) (D : Addr) (cl : List (Str × Addr)) (fp : List Addr), Ctx (X.blk s H scope (compEnvC scope cl D X.env) fp) (kE E0) k → ∀ a, PX (X.blk s H scope (compEnvC scope cl D X.env) fp) (kE E0) (fun s => ((Γ s).forg (own.map (·.2))).put i (sI X.K a)) elt (f a))
    (hk : ∀ a, PB X (kE E) Λ Res (fun s => (Γ s).put iy (sL X.K a)) rest Δ (kk a))
    (hy : X.N[iy]? = some y := by rfl) (hyl : X.env.scope.names.lookup y = some .local := by rfl) (hsw : swapsWith (.ListComp elt [⟨.Name x px, iter, ifs, 0⟩] scope pos) (some (.Name y pos')) spos.line X.env = pure true := by exact sw_true rfl rfl rfl (by decide +kernel))
    (hs : ∀ x, foldedSetIterable iter X.env x = pure x := by intro _; rfl) : PB X (kE E) Λ Res Γ (.Assign [.Name y pos'] (.ListComp elt [⟨.Name x px, iter, ifs, 0⟩] scope pos) spos :: rest) Δ (sb (sb m fun xs => lcL c f xs []) kk) :=
  pb_setLc1 iy i C hi ok hu hown hg (fun s H D cl fp a => ht s H D cl fp (ctx_blk C s H scope D cl fp) a) he hk hy hyl hsw hs
/-- name = [e for x, y in xs if c], on one line -/
theorem pb_setLc2 {ρ τ β' : Type} {Λ : τ → S → Gam} {Res : S → Hp → Hp → V → β' → Prop} {Δ : ρ → S → Gam} {pos' spos : Pos} {rest : List Stmt} (iy : Nat) (i j : Nat) {x y z : Str} {elt iter : Expr} {ifs : List Expr} {scope : Scope} {own : List (Str × Nat)} {px py pt : Pos} {kk} [Enc α] [Enc α'] [Enc β] {m : R S (List (α × α'))} {c : α × α' → R S Bool} {f : α × α' → R S β} {kk' : List β → R S (Out ρ τ β')} (C : Ctx X (kE E) k)
    (hi : IX X (kE E) Γ (.Tuple [.Name x px, .Name y py] kk pt) iter m) (ok : BlkOk X.N X.env.scope scope own) (hu : ∀ s, (Γ s).forg (own.map (·.2)) = Γ s) (hi1 : i ∈ own.map (·.2)) (hi2 : j ∈ own.map (·.2))
    (hg : ∀ (s : Shared) (H : Hp) (D : Addr) (cl : List (Str × Addr)) (fp : List Addr), PG (X.blk s H scope (compEnvC scope cl D X.env) fp) (.Tuple [.Name x px, .Name y py] kk pt) (gTup X.K 2 (gCons (gName i) (gCons (gName j) gNil))))
    (ht : ∀ (s : Shared) (H : Hp) (D : Addr) (cl : List (Str × Addr)) (fp : List Addr), Ctx (X.blk s H scope (compEnvC scope cl D X.env) fp) (kE E0) k → ∀ a, PTs (X.blk s H scope (compEnvC scope cl D X.env) fp) ifs (tMT X.K (kE E0) (fun s => (((Γ s).forg (own.map (·.2))).put i (sI X.K a.1)).put j (sI X.K a.2)) (c a)))
    (he : ∀ (s : Shared) (H : Hp) (D : Addr) (cl : List (Str × Addr)) (fp : List Addr), Ctx (X.blk s H scope (compEnvC scope cl D X.env) fp) (kE E0) k → ∀ a, PX (X.blk s H scope (compEnvC scope cl D X.env) fp) (kE E0) (fun s => (((Γ s).forg (own.map (·.2))).put i (sI X.K a.1)).put j (sI X.K a.2)) elt (f a))
    (hk : ∀ a, PB X (kE E) Λ Res (fun s => (Γ s).put iy (sL X.K a)) rest Δ (kk' a)) (hy : X.N[iy]? = some z := by rfl) (hyl : X.env.scope.names.lookup z = some .local := by rfl)
    (hsw : swapsWith (.ListComp elt [⟨.Tuple [.Name x px, .Name y py] kk pt, iter, ifs, 0⟩] scope pos) (some (.Name z pos')) spos.line X.env = pure true := by exact sw_true rfl rfl rfl (by decide +kernel))
    (hs : ∀ x, foldedSetIterable iter X.env x = pure x := by intro _; rfl) : PB X (kE E) Λ Res Γ (.Assign [.Name z pos'] (.ListComp elt [⟨.Tuple [.Name x px, .Name y py] kk pt, iter, ifs, 0⟩] scope pos) spos :: rest) Δ (sb (sb m fun xs => lcL c f xs []) kk') := by
  obtain ⟨wi, i1, i2⟩ := hi.ex
  refine (pss_cons (ps_setLc C.calm C.nd hy hyl hsw i1 ok hg (fun s H D cl fp => L2.PTs.ex (t := fun a => tMT X.K (kE E0) (fun s => (((Γ s).forg (own.map (·.2))).put i (sI X.K a.1)).put j (sI X.K a.2)) (c a)) (ht s H D cl fp (ctx_blk C s H scope D cl fp))) (fun s H D cl fp => L2.PE.ex (t := fun a => tM X.K (kE E0) (fun s => (((Γ s).forg (own.map (·.2))).put i (sI X.K a.1)).put j (sI X.K a.2)) (f a)) (he s H D cl fp (ctx_blk C s H scope D cl fp))) hs) (L2.PSs.ex hk)).mono fun D σ H ⟨s, I, O, t, sat, q⟩ => ?_
  refine lc_core' (g := gTup X.K 2 (gCons (gName i) (gCons (gName j) gNil))) (vs := own.map (·.2)) (up := fun g a => (g.put i (sI X.K a.1)).put j (sI X.K a.2)) (c := c) (f := f) (tt := fun σ H Q => ∃ a, tMT X.K (kE E0) (fun s => (((Γ s).forg (own.map (·.2))).put i (sI X.K a.1)).put j (sI X.K a.2)) (c a) σ H Q) (te := fun σ H Q => ∃ a, tM X.K (kE E0) (fun s => (((Γ s).forg (own.map (·.2))).put i (sI X.K a.1)).put j (sI X.K a.2)) (f a) σ H Q) (E := kE E) i2 hu (fun g a => ?_) (fun v a σ I O H Q Γ r t sat h => ?_) (fun a σ H Q h => ⟨a, h⟩) (fun a σ H Q h => ⟨a, h⟩) ⟨s, I, O, t, sat, own_in t sat q⟩
  · rw [Gam.forg_in _ _ j _ hi2, Gam.forg_in _ _ i _ hi1]
  · obtain ⟨b, u, w, rfl, q, r1, r2⟩ := r
    refine ⟨b, [u, w], rfl, sqT_up t.si q, rfl, u, [w], rfl, w, [], rfl, rfl, h _ ((sat.put_im r1).put_im r2) ?_⟩
    rw [wipe_set _ j _ hi2, wipe_set _ i _ hi1]
end
end Mi

set_option Elab.async false
set_option linter.all false
set_option maxRecDepth 100000
set_option maxHeartbeats 4000000
namespace Mi
open PySem PySem.Spec PyProof.Rows L2
instance {α β γ : Type} [Dat α] [Dat β] [Dat γ] : Dat (T3 α β γ) := ⟨fun x => .tuple [Dat.pd x.a, Dat.pd x.b, Dat.pd x.c], fun {K I u x} h => by
  obtain ⟨a, v1, v2, v3, rfl, q, r1, r2, r3⟩ := h
  exact .tup q (.cons (Dat.dp r1) (.cons (Dat.dp r2) (.cons (Dat.dp r3) .nil))), fun x y => by
  obtain ⟨x1, x2, x3⟩ := x
  obtain ⟨y1, y2, y3⟩ := y
  simp only [PyData.eqv, PyData.eqvAll, Bool.and_true, Bool.and_eq_true, Dat.eqv, T3.mk.injEq]⟩
section
variable {X : Cx} {pos : Pos}
theorem gt_tup3 (i j l : Nat) {x y z : Str} {p1 p2 p3 : Pos} {kk} {α β γ : Type} [Enc α] [Enc β] [Enc γ] (hN : X.N.Nodup) (hc : X.calm = true) (hi : X.N[i]? = some x := by rfl) (hx : Loc X.env.scope x := by first | exact Or.inl rfl | exact Or.inr rfl) (hf : X.fn x = true ∨ X.env.scope.names.lookup x = some .local := by first | exact .inl rfl | exact .inr rfl)
    (hj : X.N[j]? = some y := by rfl) (hy : Loc X.env.scope y := by first | exact Or.inl rfl | exact Or.inr rfl) (hg : X.fn y = true ∨ X.env.scope.names.lookup y = some .local := by first | exact .inl rfl | exact .inr rfl)
    (hl : X.N[l]? = some z := by rfl) (hz : Loc X.env.scope z := by first | exact Or.inl rfl | exact Or.inr rfl) (hh : X.fn z = true ∨ X.env.scope.names.lookup z = some .local := by first | exact .inl rfl | exact .inr rfl)
    (h1 : (assignEach [.Name x p1, .Name y p2, .Name z p3] X.env).map (·.2) = assign (.Name x p1) X.env :: (assignEach [.Name y p2, .Name z p3] X.env).map (·.2) := by rfl)
    (h2 : (assignEach [.Name y p2, .Name z p3] X.env).map (·.2) = assign (.Name y p2) X.env :: (assignEach [.Name z p3] X.env).map (·.2) := by rfl)
    (h2' : (assignEach [.Name z p3] X.env).map (·.2) = assign (.Name z p3) X.env :: (assignEach [] X.env).map (·.2) := by rfl)
    (h3 : (assignEach [.Name x p1, .Name y p2, .Name z p3] X.env).length = 3 := by rfl) (h4 : (assignEach [.Name x p1, .Name y p2, .Name z p3] X.env).findIdx? (·.1) = none := by rfl) :
    GT X (.Tuple [.Name x p1, .Name y p2, .Name z p3] kk pos) (T3 α β γ) [i, j, l] (fun Γ a => ((Γ.put i (sI X.K a.a)).put j (sI X.K a.b)).put l (sI X.K a.c)) :=
  ⟨_, pg_tup hc (pgs_cons (pg_name hN hi hx hf) (pgs_cons (pg_name hN hj hy hg) (pgs_cons (pg_name hN hl hz hh) pgs_nil h2') h2) h1) h3 h4, fun v x σ I O H Q Γ r t sat h => by
    obtain ⟨a, u, w, s, rfl, q, r1, r2, r3⟩ := r
    refine ⟨a, [u, w, s], rfl, sqT_up t.si q, rfl, u, [w, s], rfl, w, [s], rfl, s, [], rfl, rfl, h _ (((sat.put_im r1).put_im r2).put_im r3) fun vs hv => ?_⟩
    rw [wipe_set _ l _ (hv l (by simp)), wipe_set _ j _ (hv j (by simp)), wipe_set _ i _ (hv i (by simp))]⟩
end
end Mi

set_option Elab.async false
set_option linter.all false
set_option maxRecDepth 100000
set_option maxHeartbeats 4000000
namespace Mi
open PySem PySem.Spec PyProof.Rows L2
/-! ### != of instances whose class has an __eq__ alone -/
section
variable {prog : Program} {w : World} {A A₀ : Around} {E : Value → Shared → Prop} {s : Shared} {K : PySem.W.Frag} {x C L f : Addr} {h₀ : Heap} {m : Str → Option Value} {ox : Obj} {od : Option Obj} {name : Str} {b tb : Value}
theorem ifBound_B {M : Model} {id T : String} {args : List Value} {Q : Option Value → Shared → Prop} (X : K.In s.heap) (I : PySem.W.InstAt s.heap x ox C od) (hs : PySem.W.findIn K (.ref C) name = some (some (.builtin id))) (S : PySem.Slot T name id)
    (h : wpAny M A (call (.builtin id) (.ref x :: args)) (fun v => Q (some v)) E s) : wpAny M A (callSpecialIfBound? (.ref x) name args) Q E s := by
  simp only [callSpecialIfBound?, bindSpecialIfBound?]
  refine wpAny_holding (wpAny_bind (wpAny_bind (wpAny_bind (I.type.here ((PySem.W.looks_findIn X hs).here ?_)))))
  simp only [S.bind]
  refine wpAny_bind (wpAny_askSetting (wpAny_ite ?_))
  have fin : wpAny M A (call (.builtin id) ([.ref x] ++ args) >>= fun v => pure (some v)) Q E s := wpAny_bind (wpAny_mono h (fun v s' h' => wpAny_pure h') fun _ _ h' => h')
  split
  · exact wpAny_bind (wpAny_pure (wpAny_pure fin))
  · exact wpAny_tryCatch (wpAny_bind (wpAny_pure (wpAny_pure fin)))
theorem check_K {M : Model} {A : Around} {rest : List Value} {id n : String} {Q : Unit → Shared → Prop} (X : K.In s.heap) (I : PySem.W.InstAt s.heap x ox C od) (hm : PySem.W.mroIn K C (.type "object") = some true) (hk : builtinKind id = some .slot) (hs : splitId id = some ("object", n)) (ha : argsOk id ⟨.ref x :: rest, []⟩) (hq : Q () s) :
    wpAny M A (checkBuiltinCall id ⟨.ref x :: rest, []⟩) Q E s := by
  simp only [checkBuiltinCall, hk, hs]
  refine wpAny_bind ?_
  unfold isInstance
  refine wpAny_bind (I.type.here ((PySem.W.looks_mroIn X hm).here ?_))
  cases hsig : Manifest.signature? id with
  | none => exact wpAny_pure hq
  | some sig =>
    simp only [argsOk, hsig] at ha
    have h2 : Bind.checkArgs id sig ⟨.ref x :: rest, []⟩ = pure () := ha
    show wpAny M A (Bind.checkArgs id sig ⟨.ref x :: rest, []⟩) Q E _
    rw [h2]; exact wpAny_pure hq
theorem objNe_K {Q : Fin → Shared → Prop} (hu : A.units < cLine) (X : K.In s.heap) (I : PySem.W.InstAt s.heap x ox C od) (hs : PySem.W.findIn K (.ref C) "__eq__" = some (some (.ref f))) (hf : PySem.W.isFn K (.ref f) = true)
    (hcall : wpAny (model prog w) A (call (.ref f) [.ref x, b]) (fun v s' => ∃ k, v = .bool k ∧ Q (.done (.ret (.bool (!k)))) s') E s) : wpAny (model prog w) A (Builtin.«object.__ne__» ⟨[.ref x, b], []⟩) Q E s := by
  unfold Builtin.«object.__ne__»
  repeat (first
    | with_reducible refine wpAny_cRoomFor hu ?_
    | (refine wpAny_bind (m := callSpecialIfBound? (.ref x) (Str.ofString "__eq__") [b])
        (PySem.W.ifBound_K X I hs hf (wpAny_mono hcall (fun r s' hr => by
          obtain ⟨k, rfl, hq⟩ := hr
          repeat (first | exact hq | exact wpAny_pure hq | exact wpAny_truthy_bool hq | (refine wpAny_bind (m := truthy (.bool _)) (wpAny_truthy_bool ?_)) | wp_step)) fun _ _ e => e)))
    | wp_step)
theorem tryNe_K {Q : Option Value → Shared → Prop} (hu : A.units + 1 < cLine) (X : K.In s.heap) (I : PySem.W.InstAt s.heap x ox C od) (hne : PySem.W.findIn K (.ref C) "__ne__" = some (some (.builtin "object.__ne__"))) (hm : PySem.W.mroIn K C (.type "object") = some true)
    (hs : PySem.W.findIn K (.ref C) "__eq__" = some (some (.ref f))) (hf : PySem.W.isFn K (.ref f) = true)
    (h : wpAny (model prog w) A.in1 (call (.ref f) [.ref x, b]) (fun v s' => ∃ k, v = .bool k ∧ Q (some (.bool (!k))) s') E s) : wpAny (model prog w) A (tryCompare (.ref x) "__ne__" b) Q E s := by
  have FB := PySem.F.cmp_object
  unfold tryCompare
  refine wpAny_bind (ifBound_B X I hne FB.ne (wpAny_call (codeAny_call_builtin FB.ne.plain F.cmpEntry_ne (check_K X I hm F.cmpKind_ne F.cmpSplit_ne (F.cmpArgs_ne _ _) (objNe_K (A := A.in1) hu X I hs hf (wpAny_mono h (fun v s' hv => ?_) fun _ _ e => e))))))
  obtain ⟨k, rfl, hq⟩ := hv
  first | exact ⟨k, rfl, wpAny_pure hq⟩ | exact ⟨k, rfl, wpAny_pure (wpAny_pure hq)⟩ | exact ⟨k, rfl, hq⟩
theorem cmpNe_K {Q : Value → Shared → Prop} (hu : A.units + 1 < cLine) (F : Fr h₀ L s.heap m) (X₀ : K.In h₀) (I : PySem.W.InstAt s.heap x ox C od) (hb : PySem.W.Looks (model prog w) s.heap (typeOf b) tb) (hn : PySem.W.notFirst K C tb = true)
    (hne : PySem.W.findIn K (.ref C) "__ne__" = some (some (.builtin "object.__ne__"))) (hm : PySem.W.mroIn K C (.type "object") = some true) (hs : PySem.W.findIn K (.ref C) "__eq__" = some (some (.ref f))) (hf : PySem.W.isFn K (.ref f) = true)
    (h : wpAny (model prog w) A.in1 (call (.ref f) [.ref x, b]) (fun v s' => ∃ k, v = .bool k ∧ Q (.bool (!k)) s') E s) : wpAny (model prog w) A (richCompare .NotEq (.ref x) b) Q E s := by
  have X := X₀.keeps F.keep
  have one : wpAny (model prog w) A (tryCompare (.ref x) (cmpInfo .NotEq).2.1 b) (fun r s' => ∃ v, r = some v ∧ Q v s') E s := tryNe_K hu X I hne hm hs hf (wpAny_mono h (fun v s' ⟨k, e, q⟩ => ⟨k, e, _, rfl, q⟩) fun _ _ e => e)
  unfold richCompare
  simp only [oneThing_ref]
  refine wpAny_holding (wpAny_bind (wpAny_cRoomFor (Nat.lt_of_succ_lt hu) ?_))
  refine wpAny_bind (I.type.here (wpAny_bind (hb.here ?_)))
  split
  · rename_i q
    have e : PySem.W.subIn K tb (.ref C) = some false := by
      rcases Bool.or_eq_true_iff.mp hn with e | e
      · rw [beq_iff_eq.mp e] at q; simp at q
      · exact beq_iff_eq.mp e
    refine wpAny_bind ((PySem.W.looks_subIn X e).here ?_)
    simp only [Bool.false_eq_true, if_false]
    refine wpAny_bind (wpAny_mono one (fun r s' z => ?_) fun _ _ e => e)
    obtain ⟨v, rfl, hq⟩ := z
    exact wpAny_pure hq
  · refine wpAny_bind (wpAny_pure ?_)
    simp only [Bool.false_eq_true, if_false]
    refine wpAny_bind (wpAny_mono one (fun r s' z => ?_) fun _ _ e => e)
    obtain ⟨v, rfl, hq⟩ := z
    exact wpAny_pure hq
end
def rOwnNe (C : Addr) (sp : Sp) (E : XK) : R2 := fun x y H Q => ∃ a dx fs b dy gs, x = .ref a ∧ y = .ref b ∧ H a = some (.ins C dx fs) ∧ H b = some (.ins C dy gs) ∧ sp [x, y] H (fun v H' => ∃ k, v = .bl k ∧ Q (.bl (!k)) H') E
section
variable {X : Cx} {pins : List (Addr × Obj)} {σ : L2.St} {H : Hp} {s : Shared} {CX : CXT} {C g : Addr} {k : Nat} {fd : FuncData} {ps : List Str} {sp : Sp} {E : XK}
theorem run_fnIn1 {Q : VK} {us : List Value} {vs : List V} (F : FnOk X.prog X.w X.K X.mg X.base CX k g fd ps sp) (hr : Room (k + 1) X.A) (hb : Binds X.K fd ps []) (hx : Passes CX X E)
    (I : Inv X pins σ H s) (r : Vals vs us) (h : sp vs H Q E) : wpAny (model X.prog X.w) X.A.in1 (call (.ref g) us) (EP X pins σ Q) X.xe s := by
  have hl : us.length = ps.length := by rw [← r.length]; exact F.len _ _ _ _ h
  refine wpAny_call (codeAny_mono (F.run X.A.in1 X.stack s H ⟨us, []⟩ us vs Q E hr.in1 I.env0.in1 (by have := hb s us I.kIn (by simpa using hl); simpa using this) r h) fun r s' hq => ?_)
  cases r with
  | error e => exact hx pins σ H s e s' I hq
  | ok fl =>
    cases fl with
    | ret u => exact I.after hq
    | next => exact False.elim hq
    | brk => exact False.elim hq
    | cont => exact False.elim hq
theorem op_neI (hn : PySem.W.notFirst X.K C (.ref C) = true) (hne : PySem.W.findIn X.K (.ref C) "__ne__" = some (some (.builtin "object.__ne__"))) (ho : PySem.W.mroIn X.K C (.type "object") = some true) (hm : Meth X.K C "__eq__" g) (F : FnOk X.prog X.w X.K X.mg X.base CX k g fd ps sp) (hr : Room (k + 1) X.A) (hb : Binds X.K fd ps []) (hx : Passes CX X E) : OpR X (compareOp .NotEq) (rOwnNe C sp E) := by
  intro pins s σ H x y v u Q I rx ry h
  obtain ⟨a, dx, fs, b, dy, gs, rfl, rfl, ha, hb', q⟩ := h
  cases (show v = Value.ref a from rx)
  cases (show u = Value.ref b from ry)
  obtain ⟨ox, od, J⟩ := ins_at I ha
  obtain ⟨ox', od', J'⟩ := ins_at I hb'
  obtain ⟨m, hF⟩ := I.fr
  show wpAny _ _ (richCompare .NotEq _ _) _ _ _
  refine cmpNe_K (tb := .ref C) ?_ hF I.ok.mod.kin J J'.type hn hne ho hm.at_ hm.fn ?_
  · have := hr.un
    omega
  · exact wpAny_mono (run_fnIn1 (us := [.ref a, .ref b]) (vs := [.ref a, .ref b]) F hr hb hx I (.cons rfl (.cons rfl .nil)) q) (fun w s' ⟨z', H', I', rz, k, ez, qz⟩ => by
      subst ez
      exact ⟨k, rz, V.bl (!k), H', I', rfl, qz⟩) fun _ _ x => x
end
section
variable {X : Cx} {E : XK} {S : Type} {Γ : S → Gam} {pos : Pos} {k j : Nat} {ps : List Str}
theorem px_neI {α : Type} [Ins α] {f : α × α × Unit → Except Er Bool} {gg : α → α → Except Er Bool} {a b : Expr} {ma mb : R S α} (hc : PySem.W.notFirst X.K (He.ga X.K (Ins.cls α)) (.ref (He.ga X.K (Ins.cls α))) = true)
    (hne : PySem.W.findIn X.K (.ref (He.ga X.K (Ins.cls α))) "__ne__" = some (some (.builtin "object.__ne__")) ∧ PySem.W.mroIn X.K (He.ga X.K (Ins.cls α)) (.type "object") = some true) (M : Met X.prog X.w X.K X.mg X.base (Ins.cls α) "__eq__" j ps (spF X.K f)) (C : Ctx X (kE E) k)
    (ha : PX X (kE E) Γ a ma) (hb : PX X (kE E) Γ b mb) (hk : j + 1 ≤ k := by decide) (hf : ∀ x a, f (x, a, ()) = gg x a := by intro _ _; rfl) : CB X (kE E) Γ (.Compare a [.NotEq] [b] pos) (sb ma fun x => sb mb fun y => sb (sl (gg x y)) fun z => sr (!z)) := by
  obtain rfl : gg = fun x a => f (x, a, ()) := funext fun x => funext fun a => (hf x a).symm
  obtain ⟨g, fd, _, h2, h3, h4⟩ := M.ex
  refine px_cmp (op_neI hc hne.1 hne.2 h2 h4 (C.room.mono hk) h3 (fun pins σ H s e s' I c => C.pas σ pins H s e s' I c)) ha hb (nomark _) fun x y v w s σ I O H Q rv rw t sat h => ?_
  obtain ⟨a, dx, fs, rfl, e1, _⟩ := Ins.ins rv
  obtain ⟨b, dy, gs, rfl, e2, _⟩ := Ins.ins rw
  refine ⟨a, dx, fs, b, dy, gs, rfl, rfl, t.si _ _ e1, t.si _ _ e2, (x, y, ()), I, t.si, ⟨_, _, rfl, rv, _, [], rfl, rw, rfl⟩, ?_⟩
  refine post_sl (β := Bool) t sat (h.bind.imp fun z I1 H1 ⟨ext, s1, O1, t1, sat1, h1⟩ v rv => ?_)
  have ev : v = .bl z := rv
  subst ev
  exact ⟨z, rfl, h1.at_ t1 sat1 _ rfl⟩
end
end Mi

set_option Elab.async false
set_option linter.all false
set_option maxRecDepth 100000
set_option maxHeartbeats 4000000
namespace Mi
open PySem PySem.Spec PyProof.Rows L2
/-! ### __init__: a field that is written again, and read -/
theorem len_putF_old {f : Str} {v : V} : ∀ {fs : List (Str × V)} {u : V}, fs.lookup f = some u → (putF f v fs).length = fs.length
  | [], _, h => nomatch h
  | (k, x) :: r, u, h => by
    rw [show putF f v ((k, x) :: r) = (if k = f then (k, v) :: r else (k, x) :: putF f v r) from rfl]
    by_cases hk : k = f
    · rw [if_pos hk]; rfl
    · rw [if_neg hk, List.length_cons, List.length_cons]
      have hb : (f == k) = false := beq_eq_false_iff_ne.mpr fun e => hk e.symm
      rw [List.lookup, hb] at h
      rw [len_putF_old h]
/-- the fields, one of them with another value -/
theorem HasF.set {I : Hp} {fs : List (Str × V)} {ps : List PFld} {p : PFld} {v : V} {i : Nat} (h : HasF I fs ps) (hi : (ps.map (·.f))[i]? = some p.f) (hn : (ps.map (·.f)).Nodup) (r : p.R I v) : HasF I (putF p.f v fs) (ps.set i p) := by
  have hm : (ps.set i p).map (·.f) = ps.map (·.f) := by
    rw [List.map_set]
    refine List.ext_getElem? fun j => ?_
    rw [List.getElem?_set]
    split
    · rename_i e
      subst e
      split
      · exact hi.symm
      · rename_i c
        rw [List.getElem?_eq_none (by omega)]
    · rfl
  refine ⟨fun m hmm => ?_, fun q hq => ?_⟩
  · rw [hm] at hmm
    rw [lookup_putF, if_neg fun e => hmm (by rw [e]; exact List.mem_of_getElem? hi)]
    exact h.1 m hmm
  · obtain ⟨j, hj⟩ := List.getElem?_of_mem hq
    rw [List.getElem?_set] at hj
    split at hj
    · split at hj
      · have : p = q := Option.some.inj hj
        subst this
        exact ⟨v, by rw [lookup_putF, if_pos rfl], r⟩
      · cases hj
    · rename_i ne
      obtain ⟨u, h1, h2⟩ := h.2 q (List.mem_of_getElem? hj)
      refine ⟨u, ?_, h2⟩
      have hqf : (ps.map (·.f))[j]? = some q.f := by rw [List.getElem?_map, hj]; rfl
      rw [lookup_putF, if_neg fun e => ?_]
      · exact h1
      · rw [e] at hqf
        obtain ⟨a, ha⟩ := List.getElem?_eq_some_iff.mp hi
        obtain ⟨b, hb⟩ := List.getElem?_eq_some_iff.mp hqf
        exact ne ((List.nodup_iff_pairwise_ne.mp hn |> List.pairwise_iff_getElem.mp) |> fun pw => by
          by_cases c : i < j
          · exact absurd (ha.trans hb.symm) (pw i j a b c)
          · by_cases d : j < i
            · exact absurd (hb.trans ha.symm) (pw j i b a d)
            · omega)
theorem NAt.rewrite {K : Fg} {C x : Addr} {ps : List PFld} {I O H : Hp} {g : Gam} {σ : L2.St} {p : PFld} {i : Nat} (t : St3 I O H) (sat : Sat g σ I O) (hg : g.at 0 = sN K C x ps) (hi : (ps.map (·.f))[i]? = some p.f) (hn : (ps.map (·.f)).Nodup) :
    σ[0]? = some (some (.ref x)) ∧ ∃ dx fs, H x = some (.ins C dx fs) ∧ fs.length ≤ ps.length ∧ ∀ v, p.R I v → ∃ O', St3 I O' (upd H x (.ins C dx (putF p.f v fs))) ∧ Go I O H I O' (upd H x (.ins C dx (putF p.f v fs))) ∧ Sat (g.put 0 (sN K C x (ps.set i p))) σ I O' := by
  obtain ⟨v0, P1, P2, e1, d12, hP1, hP2, ⟨rfl, dx, fs, n1, n2, n3, n4, n5⟩, sat2⟩ := sat.at_ow hg
  have hx2 : P2 x = none := (d12 x).resolve_left (by rw [n1]; exact Option.some_ne_none _)
  refine ⟨e1, dx, fs, t.so _ _ (hP1 _ _ n1), n4, fun v r => ?_⟩
  have sm : Same (uni (upd P1 x (.ins C dx (putF p.f v fs))) P2) (upd O x (.ins C dx (putF p.f v fs))) := by
    refine fun b o e => ?_
    unfold uni at e
    by_cases hb : b = x
    · subst hb; rw [upd_same] at e ⊢; exact e
    · rw [upd_ne hb] at e ⊢
      cases q : P1 b with
      | none => rw [q] at e; exact hP2 _ _ e
      | some u => rw [q] at e; exact hP1 _ _ (by rw [q]; exact e)
  obtain ⟨q, mq, eq⟩ : ∃ q ∈ ps, q.f = p.f := by
    rw [List.getElem?_map] at hi
    obtain ⟨q, hq, e⟩ := Option.map_eq_some_iff.mp hi
    exact ⟨q, List.mem_of_getElem? hq, e⟩
  obtain ⟨u, hu, _⟩ := n5.2 q mq
  rw [eq] at hu
  refine ⟨uni (upd P1 x (.ins C dx (putF p.f v fs))) P2, (t.wr (hP1 _ _ n1)).drop sm, (Go.wr t (hP1 _ _ n1)).trans (Go.drop sm), ?_⟩
  refine Sat.back (R := fun I O v => v = .ref x ∧ NAt K C x (ps.set i p) I O) ⟨rfl, dx, putF p.f v fs, upd_same, by rw [upd_ne n3]; exact n2, n3, ?_, n5.set hi hn r⟩ (fun b => ?_) e1 sat2
  · rw [len_putF_old hu, List.length_set]; exact n4
  · by_cases hb : b = x
    · exact .inr (by rw [hb]; exact hx2)
    · rw [upd_ne hb]; exact d12 b
section
variable {X : Cx} {S ρ τ β : Type} {Γ : S → Gam} {Λ : τ → S → Gam} {Res : S → Hp → Hp → V → β → Prop} {Δ : ρ → S → Gam} {pos p1 p2 p3 p4 : Pos} {rest : List Stmt} {k : Nat}
/-- self.f = e, once more -/
theorem pb_fldR {E : XK} {α : Type} [Enc α] (i : Nat) {f self : Str} {x C : Addr} {e : Expr} {ps : List PFld} {m : R S α} {kk : α → R S (Out ρ τ β)} (c : Cls X.K C) (hno : NoAttr X.K C f) (hg : ∀ s, (Γ s).at 0 = sN X.K C x ps) (he : PX X (kE E) Γ e m)
    (hk : ∀ a, PB X (kE E) Λ Res (fun s => (Γ s).put 0 (sN X.K C x (ps.set i (pfl X.K f a)))) rest Δ (kk a)) (hi : (ps.map (·.f))[i]? = some f) (hn : (ps.map (·.f)).Nodup) (hl : ps.length < 1000) (hN : X.N[0]? = some self := by rfl) (hv : Vis X.env.scope self := by first | exact Or.inl rfl | exact Or.inr (Or.inl rfl) | exact Or.inr (Or.inr rfl))
    (hd : (self == ("__debug__" : Str)) = false := by decide) (hcd : (self == ("__classdict__" : Str)) = false := by decide) (hs : swapsWith e (some (.Attribute (.Name self p1) f p2)) pos.line X.env = pure false := by rfl) :
    PB X (kE E) Λ Res Γ (.Assign [.Attribute (.Name self p1) f p2] e pos :: rest) Δ (sb m kk) :=
  (pss_cons (ps_fld (pe_var hN hv hd hcd) he hs) (L2.PSs.ex hk)).mono fun D σ H ⟨s, I, O, t, sat, q⟩ => ⟨s, I, O, t, sat, q.bind.imp fun a I1 H1 ⟨_, s1, O1, t1, sat1, q1⟩ v rv => by
    obtain ⟨e1, dx, fs, e2, e3, e4⟩ := NAt.rewrite (p := pfl X.K f a) (i := i) t1 sat1 (hg s1) hi hn
    obtain ⟨O2, t2, g2, sat2⟩ := e4 v rv
    exact ⟨_, e1, x, C, dx, fs, rfl, e2, c, hno, by omega, a, s1, I1, O2, t2, sat2, q1.shift g2⟩⟩
/-- self.f, in __init__ -/
theorem px_fldN {E : EW} {α : Type} [Enc α] (i : Nat) {f self : Str} {x C : Addr} {ps : List PFld} {a : α} (c : Cls X.K C) (hno : NoAttr X.K C f) (hg : ∀ s, (Γ s).at 0 = sN X.K C x ps) (hi : ps[i]? = some (pfl X.K f a)) (hN : X.N[0]? = some self := by rfl) (hv : Vis X.env.scope self := by first | exact Or.inl rfl | exact Or.inr (Or.inl rfl) | exact Or.inr (Or.inr rfl))
    (hd : (self == ("__debug__" : Str)) = false := by decide) (hcd : (self == ("__classdict__" : Str)) = false := by decide) (hb : attributeBase (.Name self p1) f X.env (eval (.Name self p1) X.env) = eval (.Name self p1) X.env := by rfl) :
    PX X E Γ (.Attribute (.Name self p1) f pos) (sr a) :=
  L2.PE.mono (pe_fld (pe_var hN hv hd hcd) hb) fun σ H Q ⟨s, I, O, t, sat, h⟩ => by
    obtain ⟨v0, P1, P2, e1, d12, hP1, hP2, ⟨rfl, dx, fs, n1, n2, n3, n4, n5⟩, sat2⟩ := sat.at_ow (hg s)
    obtain ⟨u, h1, h2⟩ := n5.2 _ (List.mem_of_getElem? hi)
    exact ⟨_, e1, x, C, dx, fs, u, rfl, t.so _ _ (hP1 _ _ n1), c, hno, h1, h.at_ t sat u h2⟩
end
end Mi

set_option Elab.async false
set_option linter.all false
set_option maxRecDepth 100000
set_option maxHeartbeats 4000000
namespace Mi
open PySem PySem.Spec PyProof.Rows L2
/-! ### what may be None, compared; a pair that is walked -/
/-- data that is never None -/
class DatN (α : Type) extends Dat α where
  nn : ∀ x : α, PyData.eqv .none (pd x) = false ∧ PyData.eqv (pd x) .none = false
instance : DatN Int := ⟨fun x => ⟨by simp [Dat.pd, PyData.eqv], by simp [Dat.pd, PyData.eqv]⟩⟩
instance : DatN Str := ⟨fun x => ⟨by simp [Dat.pd, PyData.eqv], by simp [Dat.pd, PyData.eqv]⟩⟩
instance {α β : Type} [Dat α] [Dat β] : DatN (α × β) := ⟨fun x => ⟨by simp [Dat.pd, PyData.eqv], by simp [Dat.pd, PyData.eqv]⟩⟩
instance {α : Type} [DatN α] : Dat (Option α) := ⟨fun x => match x with
  | none => .none
  | some y => Dat.pd y, fun {K I u x} h => by
  cases x with
  | none =>
    have e : u = .non := h
    subst e
    exact .non
  | some y => exact Dat.dp h.2, fun x y => by
  cases x with
  | none =>
    cases y with
    | none => simp [PyData.eqv]
    | some y => simp [(DatN.nn y).1]
  | some x =>
    cases y with
    | none => simp [(DatN.nn x).2]
    | some y =>
      show PyData.eqv (Dat.pd x) (Dat.pd y) = true ↔ _
      rw [Dat.eqv, Option.some.injEq]⟩
section
variable {X : Cx} {E : EW} {S : Type} {Γ : S → Gam}
theorem px_pairTu {α : Type} [Enc α] {e : Expr} {m : R S (α × α)} (h : PX X E Γ e m) : PX X E Γ e (sb m fun x => sr (⟨[x.1, x.2]⟩ : Tu α)) :=
  L2.PE.mono h fun σ H Q ⟨s, I, O, t, sat, h⟩ => ⟨s, I, O, t, sat, h.bind.imp fun x I1 H1 ⟨_, s1, O1, t1, sat1, h1⟩ v rv => by
    obtain ⟨a, u, w, rfl, q, r1, r2⟩ := rv
    exact h1.at_ t1 sat1 _ ⟨a, [u, w], rfl, q, r1, r2, trivial⟩⟩
end
end Mi

set_option Elab.async false
set_option linter.all false
set_option maxRecDepth 100000
set_option maxHeartbeats 4000000
namespace Mi
open PySem PySem.Spec PyProof.Rows L2
/-! ### classes as values, classmethods -/
/-- an own class as a value -/
inductive ClsV (c : Str) where
  | it
instance {c : Str} : Enc (ClsV c) := ⟨fun K _ v _ => v = .ref (He.ga K c), fun _ h => h⟩
section
variable {X : Cx} {CX : CXT} {k i : Nat} {C f : Addr} {fd : FuncData} {ps : List Str} {ds : List Value} {dvs : List V} {sp : Sp} {E : XK} {x : Str} {e : Expr} {es : List Expr} {t : TA} {p pos : Pos}
theorem pe_makeV (M : L2.Mk X.K C f) (F : FnOk X.prog X.w X.K X.mg X.base CX k f fd ps sp) (hr : Room (k + 1) X.A) (hN : X.N[i]? = some x) (hv : Vis X.env.scope x) (hb : Binds X.K fd ps ds) (hd : Vals dvs ds) (hx : Passes CX X E) (ha : PA X (e :: es) t)
    (hdb : (x == ("__debug__" : Str)) = false := by decide) (hcd : (x == ("__classdict__" : Str)) = false := by decide)
    (he : starEach (e :: es) X.env = (false, eval e X.env) :: starEach es X.env := by rfl) (hpl : (backTo pos (starEach es X.env)).any (·.1) = false := by rfl) :
    PE X (.Call (.Name x p) (e :: es) [] pos) (fun σ H Q => σ[i]? = some (some (.ref C)) ∧ tMake C sp dvs E t σ H Q) := by
  refine ⟨fun pins s σ H Q I h => ?_⟩
  obtain ⟨hs, h⟩ := h
  refine wpAny_Call_Name_kw (thn ((pe_var (pos := p) (i := i) hN hv hdb hcd).run pins s σ H (fun v H1 => v = .ref C ∧ H1 = H) I ⟨.ref C, hs, rfl, rfl⟩) fun u s1 ⟨v, H1, I1, r1, ev, eH⟩ => ?_)
  subst ev
  rw [eH] at I1
  cases r1
  refine PySem.W.callWith_K (h₀ := X.base) I.ok.mod.kin M.kp (thn (ha.run pos pins s1 σ H _ I1 h) fun us s2 ⟨vs, H2, I2, r, q⟩ => ⟨I2.kIn, ?_⟩) he hpl
  exact run_make M F hr hb hd hx I2 r q
end
theorem px_mkV (i : Nat) {X : Cx} {E : XK} {S : Type} {Γ : S → Gam} {pos p : Pos} {A α : Type} [Args A] [Enc α] {c x0 : Str} {y0 : ClsV c} {j k : Nat} {ps : List Str} {f : A → Except Er α} {e : Expr} {es : List Expr} {ma : R S A} (M : Mak X.prog X.w X.K X.mg X.base c j ps (spInitM X.K c f)) (C : Ctx X (kE E) k) (ha : PAx X (kE E) Γ (e :: es) ma) (hk : j + 1 ≤ k := by decide)
    (hN : X.N[i]? = some x0 := by rfl) (hv : Vis X.env.scope x0 := by first | exact Or.inl rfl | exact Or.inr (Or.inl rfl) | exact Or.inr (Or.inr rfl)) (hg : ∀ s, (Γ s).at i = sI X.K y0 := by exact fun _ => rfl) (hdb : (x0 == ("__debug__" : Str)) = false := by decide) (hcd : (x0 == ("__classdict__" : Str)) = false := by decide) (he : starEach (e :: es) X.env = (false, eval e X.env) :: starEach es X.env := by rfl) (hpl : (backTo pos (starEach es X.env)).any (·.1) = false := by rfl) :
    PX X (kE E) Γ (.Call (.Name x0 p) (e :: es) [] pos) (sb ma fun a => sl (f a)) := by
  obtain ⟨g, fd, h1, h2, h3, h4⟩ := M.ex
  refine L2.PE.mono (pe_makeV (i := i) h1 h4 (C.room.mono hk) hN hv h3 .nil (fun pins σ H s e s' I c => C.pas σ pins H s e s' I c) ha hdb hcd he hpl) fun σ H Q ⟨s, I, O, t, sat, h⟩ => ⟨by obtain ⟨v, e1, e2⟩ := sat.at_im (hg s); rw [e1, e2], s, I, O, t, sat, h.bind.imp fun a I1 H1 ⟨_, s1, O1, t1, sat1, q1⟩ vs rv x dx hx hd ne => ?_⟩
  have up2 : ∀ b o, H1 b = some o → upd (upd H1 dx (.own x)) x (.ins (He.ga X.K c) dx []) b = some o := fun b o z => by rw [upd_ne (L2.ne_of_none z hx), upd_ne (L2.ne_of_none z hd)]; exact z
  refine ⟨x, dx, vs ++ [], a, I1, rfl, upd_same, by rw [upd_ne ne, upd_same], ne, fun b o z => up2 b o (t1.si b o z), t1.fi hx, t1.fi hd, by rw [List.append_nil]; exact rv, ?_⟩
  have fin : ∀ {I' H' : Hp}, Same I' H' → New x dx I1 (upd (upd H1 dx (.own x)) x (.ins (He.ga X.K c) dx [])) I' H' → St3 I' O1 H' ∧ Go I1 O1 H1 I' O1 H' := by
    intro I' H' si nw
    have kp : ∀ b o, H1 b = some o → H' b = some o := fun b o z => nw.keep b o (L2.ne_of_none z hx) (L2.ne_of_none z hd) (up2 b o z)
    have ni : ∀ b, I' b ≠ none → I1 b ≠ none ∨ H1 b = none := fun b z => by
      rcases nw.ni b z with y | y | y | y
      · exact .inl y
      · refine .inr ?_
        cases q : H1 b with
        | none => rfl
        | some o => rw [up2 b o q] at y; cases y
      · exact .inr (by rw [y]; exact hx)
      · exact .inr (by rw [y]; exact hd)
    refine ⟨⟨si, fun b o z => kp b o (t1.so b o z), fun b => ?_⟩, fun b o z _ => kp b o z, nw.ext, fun b z => (ni b z).imp (fun y => y) .inl, fun b z => .inl z⟩
    cases z : I' b with
    | none => exact .inl rfl
    | some o =>
      rcases ni b (nn z) with y | y
      · exact .inr ((t1.dj b).resolve_left y)
      · exact .inr (t1.so.free y)
  unfold sl at q1
  cases ef : f a with
  | ok y =>
    rw [ef] at q1
    intro I' H' si nw rep
    obtain ⟨t2, g2⟩ := fin si nw
    exact ⟨rfl, q1 I' O1 H' t2 g2 (sat1.up nw.ext) (.ref x) rep⟩
  | error z =>
    rw [ef] at q1
    cases z with
    | stuck => exact q1
    | exc c' fs =>
      intro d I' H' si nw xd
      obtain ⟨t2, g2⟩ := fin si nw
      exact q1 d I' O1 H' t2 g2 xd
/-- a classmethod as its callers see it; its first argument is the class -/
structure CMt (P : Program) (w : World) (K : Fg) (mg : Str → Option Value) (base : Heap) (c m : Str) (k : Nat) (ps : List Str) (sp : Sp) : Prop where
  ex : ∃ p g fd, ClX.CRead K (He.ga K c) (.type "type") ∧ ClX.CMet K (He.ga K c) (.type "type") m p g ∧ Binds K fd ps [] ∧ FnOk P w K mg base (L2.CX P w) k g fd ps sp
theorem px_cmeth {X : Cx} {E : XK} {S : Type} {Γ : S → Gam} {pos apos : Pos} {A β : Type} [Args A] [Enc β] {c m : Str} {j k : Nat} {ps : List Str} {f : ClsV c × A → Except Er β} {gg : A → Except Er β} {o e : Expr} {es : List Expr} {mo : R S (ClsV c)} {ma : R S A} {pl : Sem Bool}
    (M : CMt X.prog X.w X.K X.mg X.base c m j ps (spF X.K f)) (C : Ctx X (kE E) k) (ho : PX X (kE E) Γ o mo) (ha : PAx X (kE E) Γ (e :: es) ma) (hk : j ≤ k := by decide) (hf : ∀ a, f (.it, a) = gg a := by intro _; rfl)
    (hst : starEach (e :: es) X.env = (false, eval e X.env) :: starEach es X.env := by rfl) (hpl : (backTo pos (starEach es X.env)).any (·.1) = false := by rfl)
    (ht : eval (.Call (.Attribute o m apos) (e :: es) [] pos) X.env = (do
      let ov ← eval o X.env
      standAt apos.atName
      let (g0, fst0) ← holding [ov] (getMethod ov m pl)
      callWith pos g0 fst0 (backTo pos (starEach (e :: es) X.env)) (backToKw pos (keywordEach [] X.env))) := by rfl) :
    PX X (kE E) Γ (.Call (.Attribute o m apos) (e :: es) [] pos) (sb mo fun _ => sb ma fun a => sl (gg a)) := by
  obtain rfl : gg = fun a => f (.it, a) := funext fun a => (hf a).symm
  obtain ⟨p, g, fd, h1, h2, h3, h4⟩ := M.ex
  refine L2.PE.mono (ClX.pe_cmeth (pl := pl) ho h1 h2 (h4.raw h3 .nil) (C.room.mono hk) (fun pins σ H s e s' I c => C.pas σ pins H s e s' I c) ha hst hpl ht) fun σ H Q ⟨s, I, O, t, sat, h⟩ => ⟨s, I, O, t, sat, h.bind.imp fun x I1 H1 ⟨_, s1, O1, t1, sat1, q1⟩ v rv => ?_⟩
  exact ⟨rv, s1, I1, O1, t1, sat1, q1.bind.imp fun b I2 H2 ⟨ext, s2, O2, t2, sat2, q2⟩ vs rvs => ⟨(.it, b), I2, t2.si, ⟨.ref _, vs ++ [], rfl, rfl, by rw [List.append_nil]; exact rvs⟩, post_sl t2 sat2 q2⟩⟩
end Mi

set_option Elab.async false
set_option linter.all false
set_option maxRecDepth 100000
set_option maxHeartbeats 4000000
namespace Mi
open PySem PySem.Spec PyProof.Rows L2
/-! ### dicts with text keys -/
structure Dc (α : Type) where
  l : List (Str × α)
def DRep (K : Fg) (I : Hp) {α : Type} [Enc α] : List (Key × V) → List (Str × α) → Prop
  | [], [] => True
  | p :: r, q :: s => p.1 = .inr q.1 ∧ Enc.rep K I p.2 q.2 ∧ DRep K I r s
  | _, _ => False
theorem DRep.up {K : Fg} {I I' : Hp} {α : Type} [Enc α] (e : Same I I') : ∀ {kvs : List (Key × V)} {d : List (Str × α)}, DRep K I kvs d → DRep K I' kvs d
  | [], [], _ => trivial
  | _ :: _, _ :: _, h => ⟨h.1, Enc.up e h.2.1, DRep.up e h.2.2⟩
  | [], _ :: _, h => h.elim
  | _ :: _, [], h => h.elim
theorem DRep.len {K : Fg} {I : Hp} {α : Type} [Enc α] : ∀ {kvs : List (Key × V)} {d : List (Str × α)}, DRep K I kvs d → kvs.length = d.length
  | [], [], _ => rfl
  | _ :: _, _ :: _, h => congrArg Nat.succ (DRep.len h.2.2)
  | [], _ :: _, h => h.elim
  | _ :: _, [], h => h.elim
instance {α : Type} [Enc α] : Enc (Dc α) := ⟨fun K I v d => ∃ a o kvs, v = .ref a ∧ I a = some (.frz o (.dK kvs)) ∧ DRep K I kvs d.l, fun e ⟨a, o, kvs, h1, h2, h3⟩ => ⟨a, o, kvs, h1, e _ _ h2, h3.up e⟩⟩
def dlook {κ α : Type} [DecidableEq κ] : List (κ × α) → κ → Option α
  | [], _ => none
  | p :: r, x => if p.1 = x then some p.2 else dlook r x
def dput {κ α : Type} [DecidableEq κ] (d : List (κ × α)) (x : κ) (y : α) : List (κ × α) := if (d.any fun p => decide (p.1 = x)) = true then d.map (fun p => if p.1 = x then (p.1, y) else p) else d ++ [(x, y)]
theorem DRep.any {K : Fg} {I : Hp} {α : Type} [Enc α] {x : Str} : ∀ {kvs : List (Key × V)} {d : List (Str × α)}, DRep K I kvs d → (kvs.any fun p => decide (p.1 = .inr x)) = (d.any fun p => decide (p.1 = x))
  | [], [], _ => rfl
  | p :: r, q :: s, h => by
    have e : decide (p.1 = (.inr x : Key)) = decide (q.1 = x) := decide_eq_decide.mpr ⟨fun z => by rw [h.1] at z; exact Sum.inr.inj z, fun z => by rw [h.1, z]⟩
    rw [List.any_cons, List.any_cons, e, DRep.any h.2.2]
  | [], _ :: _, h => h.elim
  | _ :: _, [], h => h.elim
theorem DRep.map {K : Fg} {I : Hp} {α : Type} [Enc α] {x : Str} {v : V} {y : α} (hv : Enc.rep K I v y) : ∀ {kvs : List (Key × V)} {d : List (Str × α)}, DRep K I kvs d → DRep K I (kvs.map fun p => if p.1 = .inr x then (p.1, v) else p) (d.map fun p => if p.1 = x then (p.1, y) else p)
  | [], [], _ => trivial
  | p :: r, q :: s, h => by
    rw [List.map_cons, List.map_cons]
    by_cases e : q.1 = x
    · rw [if_pos e, if_pos (show p.1 = .inr x by rw [h.1, e])]
      exact ⟨h.1, hv, DRep.map hv h.2.2⟩
    · rw [if_neg e, if_neg (fun z => e (by rw [h.1] at z; exact Sum.inr.inj z))]
      exact ⟨h.1, h.2.1, DRep.map hv h.2.2⟩
  | [], _ :: _, h => h.elim
  | _ :: _, [], h => h.elim
theorem DRep.snoc {K : Fg} {I : Hp} {α : Type} [Enc α] {x : Str} {v : V} {y : α} (hv : Enc.rep K I v y) : ∀ {kvs : List (Key × V)} {d : List (Str × α)}, DRep K I kvs d → DRep K I (kvs ++ [(.inr x, v)]) (d ++ [(x, y)])
  | [], [], _ => ⟨rfl, hv, trivial⟩
  | _ :: _, _ :: _, h => ⟨h.1, h.2.1, DRep.snoc hv h.2.2⟩
  | [], _ :: _, h => h.elim
  | _ :: _, [], h => h.elim
theorem DRep.put {K : Fg} {I : Hp} {α : Type} [Enc α] {x : Str} {v : V} {y : α} {kvs : List (Key × V)} {d : List (Str × α)} (hv : Enc.rep K I v y) (h : DRep K I kvs d) : DRep K I (putK kvs (.inr x) v) (dput d x y) := by
  unfold putK dput
  rw [h.any]
  split
  · exact h.map hv
  · exact h.snoc hv
theorem DRep.get {K : Fg} {I : Hp} {α : Type} [Enc α] {x : Str} : ∀ {kvs : List (Key × V)} {d : List (Str × α)}, DRep K I kvs d → (valV kvs (.inr x) = none ∧ dlook d x = none) ∨ ∃ v a, valV kvs (.inr x) = some v ∧ dlook d x = some a ∧ Enc.rep K I v a
  | [], [], _ => .inl ⟨rfl, rfl⟩
  | p :: r, q :: s, h => by
    by_cases e : q.1 = x
    · refine .inr ⟨p.2, q.2, valV_pos (by rw [h.1, e]), ?_, h.2.1⟩
      unfold dlook; rw [if_pos e]
    · have e2 : ¬ p.1 = .inr x := fun z => e (by rw [h.1] at z; exact Sum.inr.inj z)
      rw [valV_neg e2]
      unfold dlook; rw [if_neg e]
      exact DRep.get h.2.2
  | [], _ :: _, h => h.elim
  | _ :: _, [], h => h.elim
section
variable {X : Cx} {E : EW} {S : Type} {Γ : S → Gam} {pos : Pos} {α : Type} [Enc α] {k : Nat}
theorem dget_frz {H : Hp} {a : Addr} {o : Obj} {kvs : List (Key × V)} {k : Key} (e : H a = some (.frz o (.dK kvs))) : DGet H a (kV k) (valV kvs k) := .inl ⟨kvs, k, .inr ⟨o, e⟩, rfl, rfl⟩
theorem px_dget {a b : Expr} {ma : R S (Dc α)} {mb : R S Str} (C : Ctx X E (k + 1)) (ha : PX X E Γ a ma) (hb : PX X E Γ b mb) (hs : NoSl b := by exact fun _ _ => rfl) : PX X E Γ (.Subscript a b pos) (sb ma fun d => sb mb fun x => so (dlook d.l x)) :=
  px_bin (r := fun x y H Q => ∃ a v, x = .ref a ∧ DGet H a y (some v) ∧ Q v H) (fun p q => pe_dget (by have := C.room.un; omega) p q hs) ha hb fun x y v w s σ I O H Q rv rw t sat h => by
    obtain ⟨z, e, h⟩ := h.some_
    obtain ⟨l, od, kvs, rfl, e1, r⟩ := rv
    have e2 : w = .str y := rw
    subst e2
    rcases r.get (x := y) with ⟨_, g⟩ | ⟨u, a, g1, g2, g3⟩
    · rw [g] at e; cases e
    · rw [g2] at e
      cases e
      exact ⟨l, u, rfl, by rw [← g1]; exact dget_frz (k := .inr y) (t.si _ _ e1), h.at_ t sat u g3⟩
theorem px_din {a b : Expr} {ma : R S Str} {mb : R S (Dc α)} (C : Ctx X E (k + 1)) (ha : PX X E Γ a ma) (hb : PX X E Γ b mb) (hm : behindInMarks .In b = false := by rfl) : CB X E Γ (.Compare a [.In] [b] pos) (sb ma fun x => sb mb fun d => sr (dlook d.l x).isSome) :=
  have key : ∀ {x : Str} {d : Dc α} {v w : V} {I O H : Hp}, Enc.rep X.K I v x → Enc.rep X.K I w d → St3 I O H → ∃ l o, w = .ref l ∧ DGet H l v o ∧ o.isSome = (dlook d.l x).isSome := fun {x d v w I O H} rv rw t => by
    obtain ⟨l, od, kvs, rfl, e1, r⟩ := rw
    have e2 : v = .str x := rv
    subst e2
    refine ⟨l, _, rfl, dget_frz (k := .inr x) (t.si _ _ e1), ?_⟩
    rcases r.get (x := x) with ⟨g1, g2⟩ | ⟨u, a, g1, g2, _⟩
    · rw [g1, g2]; rfl
    · rw [g1, g2]; rfl
  ⟨L2.PE.mono (pe_cmp (pc_din (by have := C.room.un; omega) ha hb) hm) fun σ H Q ⟨s, I, O, t, sat, h⟩ => ⟨s, I, O, t, sat, h.bind.imp fun x I1 H1 ⟨_, s1, O1, t1, sat1, h1⟩ v rv => ⟨s1, I1, O1, t1, sat1, h1.bind.imp fun d I2 H2 ⟨e2, s2, O2, t2, sat2, h2⟩ w rw => by
    obtain ⟨l, o, q1, q2, q3⟩ := key (Enc.up e2 rv) rw t2
    exact ⟨l, o, q1, q2, h2.at_ t2 sat2 _ (congrArg V.bl q3)⟩⟩⟩,
   L2.PT.mono (pt_cmp (pc_din (by have := C.room.un; omega) ha hb) hm) fun σ H Q ⟨s, I, O, t, sat, h⟩ => ⟨s, I, O, t, sat, h.bind.imp fun x I1 H1 ⟨_, s1, O1, t1, sat1, h1⟩ v rv => ⟨s1, I1, O1, t1, sat1, h1.bind.imp fun d I2 H2 ⟨e2, s2, O2, t2, sat2, h2⟩ w rw => by
    obtain ⟨l, o, q1, q2, q3⟩ := key (Enc.up e2 rv) rw t2
    exact ⟨l, o, q1, q2, _, rfl, by rw [q3]; exact h2.at_ t2 sat2⟩⟩⟩⟩
theorem px_dnotIn {a b : Expr} {ma : R S Str} {mb : R S (Dc α)} (C : Ctx X E (k + 1)) (ha : PX X E Γ a ma) (hb : PX X E Γ b mb) (hm : behindInMarks .NotIn b = false := by rfl) : CB X E Γ (.Compare a [.NotIn] [b] pos) (sb ma fun x => sb mb fun d => sr (!(dlook d.l x).isSome)) :=
  have key : ∀ {x : Str} {d : Dc α} {v w : V} {I O H : Hp}, Enc.rep X.K I v x → Enc.rep X.K I w d → St3 I O H → ∃ l o, w = .ref l ∧ DGet H l v o ∧ o.isSome = (dlook d.l x).isSome := fun {x d v w I O H} rv rw t => by
    obtain ⟨l, od, kvs, rfl, e1, r⟩ := rw
    have e2 : v = .str x := rv
    subst e2
    refine ⟨l, _, rfl, dget_frz (k := .inr x) (t.si _ _ e1), ?_⟩
    rcases r.get (x := x) with ⟨g1, g2⟩ | ⟨u, a, g1, g2, _⟩
    · rw [g1, g2]; rfl
    · rw [g1, g2]; rfl
  ⟨L2.PE.mono (pe_cmp (pc_dnotin (by have := C.room.un; omega) ha hb) hm) fun σ H Q ⟨s, I, O, t, sat, h⟩ => ⟨s, I, O, t, sat, h.bind.imp fun x I1 H1 ⟨_, s1, O1, t1, sat1, h1⟩ v rv => ⟨s1, I1, O1, t1, sat1, h1.bind.imp fun d I2 H2 ⟨e2, s2, O2, t2, sat2, h2⟩ w rw => by
    obtain ⟨l, o, q1, q2, q3⟩ := key (Enc.up e2 rv) rw t2
    exact ⟨l, o, q1, q2, h2.at_ t2 sat2 _ (congrArg (fun z => V.bl (!z)) q3)⟩⟩⟩,
   L2.PT.mono (pt_cmp (pc_dnotin (by have := C.room.un; omega) ha hb) hm) fun σ H Q ⟨s, I, O, t, sat, h⟩ => ⟨s, I, O, t, sat, h.bind.imp fun x I1 H1 ⟨_, s1, O1, t1, sat1, h1⟩ v rv => ⟨s1, I1, O1, t1, sat1, h1.bind.imp fun d I2 H2 ⟨e2, s2, O2, t2, sat2, h2⟩ w rw => by
    obtain ⟨l, o, q1, q2, q3⟩ := key (Enc.up e2 rv) rw t2
    exact ⟨l, o, q1, q2, _, rfl, by rw [q3]; exact h2.at_ t2 sat2⟩⟩⟩⟩
end
/-! ### a dict of one's own -/
def sD (K : Fg) {α : Type} [Enc α] (d : List (Str × α)) : Slot := .ow (fun I O v => ∃ l kvs, v = .ref l ∧ O l = some (.dK kvs) ∧ DRep K I kvs d) fun _ _ _ _ e ⟨l, vs, h1, h2, h3⟩ => ⟨l, vs, h1, h2, h3.up e⟩
theorem Sat.mineD {α : Type} {K : Fg} [Enc α] {d : List (Str × α)} {g : Gam} {σ : L2.St} {I O H : Hp} {i : Nat} (sat : Sat g σ I O) (hg : g.at i = sD K d) (t : St3 I O H) :
    ∃ l kvs, σ[i]? = some (some (.ref l)) ∧ H l = some (.dK kvs) ∧ DRep K I kvs d ∧
      ∀ {us : List (Key × V)} {ys : List (Str × α)}, DRep K I us ys → ∃ O', St3 I O' (upd H l (.dK us)) ∧ Go I O H I O' (upd H l (.dK us)) ∧ Sat (g.put i (sD K ys)) σ I O' := by
  obtain ⟨v, O1, O2, h1, h2, h3, h4, ⟨l, vs, rfl, h5, h6⟩, h7⟩ := sat.at_ow hg
  have hO : O l = some (.dK vs) := h3 _ _ h5
  have hO2 : O2 l = none := by
    rcases h2 l with z | z
    · rw [h5] at z; cases z
    · exact z
  refine ⟨l, vs, h1, t.so _ _ hO, h6, fun {us ys} r => ?_⟩
  have d' : ∀ b, upd O1 l (.dK us) b = none ∨ O2 b = none := fun b => by
    by_cases hb : b = l
    · exact .inr (by rw [hb]; exact hO2)
    · rw [upd_ne hb]; exact h2 b
  have sm : Same (uni (upd O1 l (.dK us)) O2) (upd O l (.dK us)) := fun b o e => by
    by_cases hb : b = l
    · subst hb
      unfold uni at e
      rw [upd_same] at e
      rw [upd_same]; exact e
    · rw [upd_ne hb]
      unfold uni at e
      rw [upd_ne hb] at e
      cases q : O1 b with
      | none => rw [q] at e; exact h4 b o e
      | some y => rw [q] at e; exact h3 b o (by rw [q]; exact e)
  refine ⟨uni (upd O1 l (.dK us)) O2, (t.wr hO).drop sm, (Go.wr t hO).trans (Go.drop sm), ?_⟩
  exact Sat.back (R := fun I O v => ∃ l vs, v = .ref l ∧ O l = some (.dK vs) ∧ DRep K I vs ys) ⟨l, us, rfl, upd_same, r⟩ d' h1 h7
def pdput {α : Type} (d : List (Str × α)) (x : Str) (y : α) : Option (List (Str × α)) := if d.length < 16777216 then some (dput d x y) else none
section
variable {X : Cx} {S ρ τ β α : Type} [Enc α] {pos pos' p p1 p2 : Pos} {rest : List Stmt} {k : Nat} {Γ : S → Gam} {Λ : τ → S → Gam} {Res : S → Hp → Hp → V → β → Prop} {Δ : ρ → S → Gam}
/-- name = {} -/
theorem pb_dnew {E : XK} (i : Nat) {x : Str} {kk : R S (Out ρ τ β)} (C : Ctx X (kE E) k) (hk : PB X (kE E) Λ Res (fun s => (Γ s).put i (sD X.K ([] : List (Str × α)))) rest Δ kk)
    (hi : X.N[i]? = some x := by rfl) (hx : Loc X.env.scope x := by first | exact Or.inl rfl | exact Or.inr rfl) (hs : swapsWith (.Dict [] [] p2) (some (.Name x pos')) pos.line X.env = pure false := by rfl) (hf : X.fn x = true ∨ X.env.scope.names.lookup x = some .local := by first | exact .inl rfl | exact .inr rfl) :
    PB X (kE E) Λ Res Γ (.Assign [.Name x pos'] (.Dict [] [] p2) pos :: rest) Δ kk :=
  (pss_cons (ps_set C.nd hi hx pe_dnewK hs hf) hk).mono fun D σ H ⟨s, I, O, t, sat, q⟩ => fun p hp => by
    have e : uni (upd (fun _ => none) p (.dK [])) O = upd O p (.dK []) := by
      funext b; unfold uni upd; by_cases hb : b = p <;> simp [hb]
    refine ⟨s, I, uni (upd (fun _ => none) p (.dK [])) O, ?_, ?_, ?_⟩
    · rw [e]; exact t.layO (o := .dK []) hp
    · refine Sat.put_ow (R := fun I O v => ∃ l kvs, v = .ref l ∧ O l = some (.dK kvs) ∧ DRep X.K I kvs ([] : List (Str × α))) ⟨p, [], rfl, upd_same, trivial⟩ (fun b => ?_) sat
      by_cases hb : b = p
      · exact .inr (by rw [hb]; exact t.fo hp)
      · exact .inl (by rw [upd_ne hb])
    · rw [e]; exact PostB.shift (Go.layO t hp) q
/-- the dict at slot i is made still: from here on it is known to the object -/
theorem pb_dpub {E : EW} (i : Nat) {body : List Stmt} {d : List (Str × α)} {m : R S (Out ρ τ β)} (hg : ∀ s, (Γ s).at i = sD X.K d) (h : PB X E Λ Res (fun s => (Γ s).put i (sI X.K (Dc.mk d))) body Δ m) : PB X E Λ Res Γ body Δ m :=
  ⟨fun pins st σ H D Iv hw => by
    obtain ⟨s, I, O, t, sat, q⟩ := hw
    obtain ⟨v, O1, O2, h1, h2, h3, h4, ⟨l, vs, rfl, h5, h6⟩, h7⟩ := sat.at_ow (hg s)
    have hO : O l = some (.dK vs) := h3 _ _ h5
    have hH : H l = some (.dK vs) := t.so _ _ hO
    have hO2 : O2 l = none := by
      rcases h2 l with z | z
      · rw [h5] at z; cases z
      · exact z
    have hI : I l = none := by
      rcases t.dj l with z | z
      · exact z
      · rw [hO] at z; cases z
    obtain ⟨od, Iv2⟩ := Iv.lock hH trivial
    have k := Same.upd_new (o := HO.frz od (.dK vs)) hI
    have t2 : St3 (upd I l (.frz od (.dK vs))) O2 (upd H l (.frz od (.dK vs))) := by
      refine ⟨fun b u e => ?_, fun b u e => ?_, fun b => ?_⟩
      · by_cases hb : b = l
        · subst hb; rw [upd_same] at e ⊢; exact e
        · rw [upd_ne hb] at e ⊢; exact t.si b u e
      · have hb : b ≠ l := fun z => by rw [z, hO2] at e; cases e
        rw [upd_ne hb]; exact t.so b u (h4 b u e)
      · by_cases hb : b = l
        · exact .inr (by rw [hb]; exact hO2)
        · rw [upd_ne hb]
          rcases t.dj b with z | z
          · exact .inl z
          · exact .inr (h4.free z)
    have g : Go I O H (upd I l (.frz od (.dK vs))) O2 (upd H l (.frz od (.dK vs))) := by
      refine ⟨fun b u e z => ?_, k, fun b e => ?_, fun b e => ?_⟩
      · have hb : b ≠ l := fun y => by rw [y, hO] at z; cases z
        rw [upd_ne hb]; exact e
      · by_cases hb : b = l
        · exact .inr (.inr (by rw [hb]; exact nn hO))
        · rw [upd_ne hb] at e; exact .inl e
      · obtain ⟨u, z⟩ := sn e
        exact .inl (nn (h4 b u z))
    refine h.run pins st σ _ D Iv2 ⟨s, _, O2, t2, ?_, PostB.shift g q⟩
    have := Sat.put_im (P := fun I v => Enc.rep X.K I v (Dc.mk d)) (u := fun _ _ _ e h => Enc.up e h) (v := .ref l) (I := upd I l (.frz od (.dK vs))) ⟨l, od, vs, rfl, upd_same, h6.up k⟩ (i := i) (h7.up k)
    rw [Gam.put_put, set_self h1] at this
    exact this⟩
/-- name[key] = e -/
theorem pb_dput {E : EW} (i : Nat) {x : Str} {e j : Expr} {d : List (Str × α)} {m : R S α} {mj : R S Str} {kk : List (Str × α) → R S (Out ρ τ β)} (C : Ctx X E (k + 1)) (hg : ∀ s, (Γ s).at i = sD X.K d) (he : PX X E Γ e m) (hj : PX X E Γ j mj)
    (hk : ∀ a, PB X E Λ Res (fun s => (Γ s).put i (sD X.K a)) rest Δ (kk a))
    (hN : X.N[i]? = some x := by rfl) (hv : Vis X.env.scope x := by first | exact Or.inl rfl | exact Or.inr (Or.inl rfl) | exact Or.inr (Or.inr rfl)) (hd : (x == ("__debug__" : Str)) = false := by decide) (hcd : (x == ("__classdict__" : Str)) = false := by decide)
    (hs : swapsWith e (some (.Subscript (.Name x p1) j p2)) pos.line X.env = pure false := by rfl) :
    PB X E Λ Res Γ (.Assign [.Subscript (.Name x p1) j p2] e pos :: rest) Δ (sb m fun a => sb mj fun n => sb (so (pdput d n a)) kk) :=
  (pss_cons (ps_dput (by have := C.room.un; omega) (pe_var (i := i) hN hv hd hcd) hj he hs) (L2.PSs.ex hk)).mono fun D σ H ⟨s, I, O, t, sat, q⟩ => ⟨s, I, O, t, sat, q.bind.imp fun a I1 H1 ⟨_, s1, O1, t1, sat1, q1⟩ v rv => by
    obtain ⟨l, vs, h1, h2, h3, _⟩ := sat1.mineD (hg s1) t1
    refine ⟨_, h1, s1, I1, O1, t1, sat1, q1.bind.imp fun n I2 H2 ⟨e2, s2, O2, t2, sat2, q2⟩ w rw => ?_⟩
    have ew : w = .str n := rw
    subst ew
    obtain ⟨z, ez, q3⟩ := q2.some_
    unfold pdput at ez
    split at ez
    · rename_i c
      cases ez
      obtain ⟨l', vs', h1', h2', h3', h4'⟩ := sat2.mineD (hg s2) t2
      rw [h1] at h1'
      cases h1'
      obtain ⟨O', t3, g3, sat3⟩ := h4' (h3'.put (x := n) (Enc.up e2 rv))
      exact ⟨l, _, rfl, DPut.k (k := .inr n) h2' (by rw [h3'.len, sizeLine_eq]; exact c), _, s2, I2, O', t3, sat3, PostB.shift g3 q3⟩
    · cases ez⟩
/-- name[key], the dict one's own -/
theorem px_odget {E : EW} (i : Nat) {x : Str} {b : Expr} {d : List (Str × α)} {mb : R S Str} (C : Ctx X E (k + 1)) (hg : ∀ s, (Γ s).at i = sD X.K d) (hb : PX X E Γ b mb) (hs : NoSl b := by exact fun _ _ => rfl)
    (hN : X.N[i]? = some x := by rfl) (hv : Vis X.env.scope x := by first | exact Or.inl rfl | exact Or.inr (Or.inl rfl) | exact Or.inr (Or.inr rfl)) (hd : (x == ("__debug__" : Str)) = false := by decide) (hcd : (x == ("__classdict__" : Str)) = false := by decide) :
    PX X E Γ (.Subscript (.Name x p1) b pos) (sb mb fun n => so (dlook d n)) :=
  L2.PE.mono (pe_dget (by have := C.room.un; omega) (pe_var (i := i) hN hv hd hcd) hb hs) fun σ H Q ⟨s, I, O, t, sat, h⟩ => by
    obtain ⟨l, vs, h1, h2, h3, _⟩ := sat.mineD (hg s) t
    refine ⟨_, h1, s, I, O, t, sat, h.bind.imp fun n I1 H1 ⟨_, s1, O1, t1, sat1, q1⟩ w rw => ?_⟩
    have ew : w = .str n := rw
    subst ew
    obtain ⟨z, e, q2⟩ := q1.some_
    obtain ⟨l', vs', h1', h2', h3', _⟩ := sat1.mineD (hg s1) t1
    rw [h1] at h1'
    cases h1'
    rcases h3'.get (x := n) with ⟨_, g⟩ | ⟨u, a, g1, g2, g3⟩
    · rw [g] at e; cases e
    · rw [g2] at e
      cases e
      exact ⟨l, u, rfl, by rw [← g1]; exact DGet.k (k := .inr n) h2', q2.at_ t1 sat1 u g3⟩
/-- len(d) -/
theorem call_lenF : CallR X (.builtin "len") (fun xs H Q => ∃ a o kvs, xs = [V.ref a] ∧ H a = some (.frz o (.dK kvs)) ∧ Q (.int kvs.length) H) := fun pins s σ H xs us Q Iv r h => by
  obtain ⟨a, o, kvs, rfl, ha, q⟩ := h
  obtain ⟨u, rfl, ru⟩ := vals1 r
  cases ru
  exact d_len Iv (.inr ⟨o, ha⟩) fun t s' I' => ⟨.int kvs.length, H, I', ⟨t, rfl⟩, q⟩
theorem px_dcLen {E : EW} {e : Expr} {m : R S (Dc α)} (hm : X.mg "len" = none) (he : PX X E Γ e m) (hg : Gl X "len" := by rfl) (h1 : starEach [e] X.env = (false, eval e X.env) :: starEach [] X.env := by rfl) (h2 : (backTo pos (starEach [] X.env)).any (·.1) = false := by rfl) :
    PX X E Γ (.Call (.Name "len" p) [e] [] pos) (sb m fun x => sr (x.l.length : Int)) :=
  px_b1 (r := fun xs H Q => ∃ a o kvs, xs = [V.ref a] ∧ H a = some (.frz o (.dK kvs)) ∧ Q (.int kvs.length) H) call_lenF hm boot_len he (fun y v s σ I O H Q rv t sat h => by
    obtain ⟨l, od, vs, rfl, q, r⟩ := rv
    exact ⟨l, od, vs, rfl, t.si _ _ q, h.at_ t sat _ (by show V.int _ = V.int _; rw [r.len])⟩) hg (by decide) (by decide) h1 h2
end
/-! ### walking a still dict -/
theorem DRep.at_ {K : Fg} {I : Hp} {α : Type} [Enc α] : ∀ {kvs : List (Key × V)} {d : List (Str × α)} {i : Nat} {q : Str × α}, DRep K I kvs d → d[i]? = some q → ∃ v, kvs[i]? = some (.inr q.1, v) ∧ Enc.rep K I v q.2
  | [], [], i, q, _, e => by simp at e
  | p :: r, p' :: s, 0, q, h, e => by
    have e : p' = q := by simpa using e
    subst e
    exact ⟨p.2, by rw [← h.1]; rfl, h.2.1⟩
  | p :: r, p' :: s, i + 1, q, h, e => DRep.at_ (i := i) h.2.2 (by simpa using e)
  | [], _ :: _, _, _, h, _ => h.elim
  | _ :: _, [], _, _, h, _ => h.elim
theorem serve_keys {K : Fg} {α : Type} [Enc α] {I : Hp} {a : Addr} {o : Obj} {kvs : List (Key × V)} {d : List (Str × α)} (h : I a = some (.frz o (.dK kvs))) (r : DRep K I kvs d) : Serve K (Itk a o kvs) I (d.map (·.1)) := fun I1 O1 H1 t e => by
  have h1 : H1 a = some (.frz o (.dK kvs)) := t.si _ _ (e _ _ h)
  refine ⟨fun i x hx => ?_, h1, by rw [List.length_map, r.len]; exact Nat.le_refl _⟩
  rw [List.getElem?_map] at hx
  obtain ⟨q, hq, rfl⟩ := Option.map_eq_some_iff.mp hx
  obtain ⟨v, hv, _⟩ := r.at_ hq
  refine ⟨⟨h1, (List.getElem?_eq_some_iff.mp hv).1⟩, fun u H2 y => ?_⟩
  obtain ⟨rfl, k, v', e1, rfl⟩ := y
  rw [hv] at e1
  cases e1
  exact ⟨I1, t, Go.refl .., rfl⟩
theorem ix_dk {X : Cx} {E : EW} {S : Type} {Γ : S → Gam} {α : Type} [Enc α] {tg iter : Expr} {m : R S (Dc α)} (h : PX X E Γ iter m) : IX X E Γ tg iter (sb m fun d => sr (d.l.map (·.1))) :=
  ⟨_, pi_keys h, fun σ H Rr ⟨s, I, O, t, sat, q⟩ => ⟨s, I, O, t, sat, q.bind.impT fun d I1 O1 H1 t1 _ ⟨_, s2, O2, t2, sat2, z⟩ v rv => by
    obtain ⟨a, o, kvs, rfl, h1, r⟩ := rv
    exact ⟨a, o, rfl, .inl ⟨kvs, t1.si _ _ h1, z.at_ t2 sat2 _ (serve_keys h1 r)⟩⟩⟩⟩
/-! ### texts in order -/
def sle (a b : Str) : Bool := !ltCps b.cps.toList a.cps.toList
theorem sle_iff {a b : Str} : sle a b = true ↔ a.cps.toList ≤ b.cps.toList := by
  unfold sle
  rw [ltCps_eq, Bool.not_eq_true', decide_eq_false_iff_not]
  exact Iff.rfl
theorem sle_trans {a b c : Str} (h : sle a b = true) (h' : sle b c = true) : sle a c = true := sle_iff.mpr (List.le_trans (sle_iff.mp h) (sle_iff.mp h'))
theorem sle_total (a b : Str) : (sle a b || sle b a) = true := by
  rw [Bool.or_eq_true, sle_iff, sle_iff]
  exact List.le_total _ _
theorem sle_anti {a b : Str} (h : sle a b = true) (h' : sle b a = true) : a = b := by
  have e := List.le_antisymm (sle_iff.mp h) (sle_iff.mp h')
  obtain ⟨x⟩ := a
  obtain ⟨y⟩ := b
  exact congrArg Str.mk (Array.toList_inj.mp e)
/-- the texts, ascending -/
def ssort (l : List Str) : List Str := l.mergeSort sle
theorem ssort_perm (l : List Str) : (ssort l).Perm l := List.mergeSort_perm l sle
theorem ssort_asc (l : List Str) : (ssort l).Pairwise fun a b => sle a b = true := List.pairwise_mergeSort (le := sle) (fun _ _ _ h h2 => sle_trans h h2) sle_total l
theorem asc_rising : ∀ {l : List Str} {p : Str}, risingS p l = true → (p :: l).Pairwise fun a b => sle a b = true
  | [], p, _ => List.pairwise_singleton _ _
  | x :: r, p, h => by
    have h : (!ltCps x.cps.toList p.cps.toList && risingS x r) = true := h
    obtain ⟨h1, h2⟩ := Bool.and_eq_true_iff.mp h
    have ih := asc_rising h2
    refine List.pairwise_cons.mpr ⟨fun y hy => ?_, ih⟩
    rcases List.mem_cons.mp hy with e | e
    · rw [e]; exact h1
    · exact sle_trans h1 ((List.pairwise_cons.mp ih).1 y e)
theorem asc_of {l : List Str} (h : sortedS l = true) : l.Pairwise fun a b => sle a b = true := by
  cases l with
  | nil => exact List.Pairwise.nil
  | cons x r => exact asc_rising h
theorem ssort_uniq {l ys : List Str} (h : ys.Perm l) (h' : sortedS ys = true) : ys = ssort l :=
  List.Perm.eq_of_pairwise (le := fun a b => sle a b = true) (fun _ _ _ _ => sle_anti) (asc_of h') (ssort_asc l) (h.trans (ssort_perm l).symm)
def psort (l : List Str) : Option (List Str) := if l.length < 64 then some (ssort l) else none
theorem rep_strs {K : Fg} {I : Hp} : ∀ l : List Str, All2 (Enc.rep K I) (l.map V.str) l
  | [] => trivial
  | x :: r => ⟨rfl, rep_strs r⟩
theorem DRep.keys {K : Fg} {I : Hp} {α : Type} [Enc α] : ∀ {kvs : List (Key × V)} {d : List (Str × α)}, DRep K I kvs d → kvs.map (·.1) = (d.map (·.1)).map Sum.inr
  | [], [], _ => rfl
  | p :: r, q :: s, h => by
    rw [List.map_cons, List.map_cons, List.map_cons, h.1, DRep.keys h.2.2]
  | [], _ :: _, h => h.elim
  | _ :: _, [], h => h.elim
section
variable {X : Cx} {E : EW} {S : Type} {Γ : S → Gam} {α : Type} [Enc α] {pos p : Pos}
/-- list(d) -/
theorem px_listD {k : Nat} {e : Expr} {m : R S (Dc α)} (C : Ctx X E k) (hm : X.mg "list" = none) (he : PX X E Γ e m) (hg : Gl X "list" := by rfl) (h1 : starEach [e] X.env = (false, eval e X.env) :: starEach [] X.env := by rfl) (h2 : (backTo pos (starEach [] X.env)).any (·.1) = false := by rfl) :
    PX X E Γ (.Call (.Name "list" p) [e] [] pos) (sb m fun d => sr (d.l.map (·.1))) :=
  px_t1 (call_listD C.calm) hm (by decide +kernel) he (fun y v s σ I O H Q rv t sat h => by
    obtain ⟨l, o, kvs, rfl, q, r⟩ := rv
    refine ⟨l, kvs, rfl, .inr ⟨o, t.si _ _ q⟩, fun z hz => ?_⟩
    have e1 : (kvs.map fun kv => kV kv.1) = (y.l.map (·.1)).map V.str := by
      have := congrArg (List.map kV) r.keys
      rw [List.map_map, List.map_map, List.map_map] at this
      rw [List.map_map]
      exact this
    rw [e1]
    exact h.laid (o := .lst ((y.l.map (·.1)).map V.str)) t sat hz (.ref z) ⟨z, _, rfl, upd_same, rep_strs _⟩) hg (by decide) (by decide) h1 h2
/-- sorted(d) -/
theorem px_sortedD {k : Nat} {e : Expr} {m : R S (Dc α)} (C : Ctx X E k) (hm : X.mg "sorted" = none) (he : PX X E Γ e m) (hg : Gl X "sorted" := by rfl) (h1 : starEach [e] X.env = (false, eval e X.env) :: starEach [] X.env := by rfl) (h2 : (backTo pos (starEach [] X.env)).any (·.1) = false := by rfl) :
    PX X E Γ (.Call (.Name "sorted" p) [e] [] pos) (sb m fun d => so (psort (d.l.map (·.1)))) :=
  px_b1 (call_sortedD C.calm) hm (by decide +kernel) he (fun y v s σ I O H Q rv t sat h => by
    obtain ⟨l, o, kvs, rfl, q, r⟩ := rv
    obtain ⟨zs, e, h⟩ := h.some_
    unfold psort at e
    split at e
    · rename_i c
      cases e
      refine ⟨l, kvs, y.l.map (·.1), rfl, .inr ⟨o, t.si _ _ q⟩, r.keys, c, fun ys z h1 h2 hz => ?_⟩
      rw [ssort_uniq h1 h2]
      exact h.laid (o := .lst ((ssort (y.l.map (·.1))).map V.str)) t sat hz (.ref z) ⟨z, _, rfl, upd_same, rep_strs _⟩
    · cases e) hg (by decide) (by decide) h1 h2
theorem strs_of {K : Fg} {I : Hp} : ∀ {vs : List V} {l : List Str}, All2 (Enc.rep K I) vs l → vs = l.map V.str
  | [], [], _ => rfl
  | v :: vs, x :: l, h => by
    have e : v = .str x := h.1
    rw [e, strs_of h.2]; rfl
  | [], _ :: _, h => h.elim
  | _ :: _, [], h => h.elim
/-- sorted(xs), xs texts -/
theorem px_sortedS {e : Expr} {m : R S (List Str)} (hm : X.mg "sorted" = none) (he : PX X E Γ e m) (hg : Gl X "sorted" := by rfl) (h1 : starEach [e] X.env = (false, eval e X.env) :: starEach [] X.env := by rfl) (h2 : (backTo pos (starEach [] X.env)).any (·.1) = false := by rfl) :
    PX X E Γ (.Call (.Name "sorted" p) [e] [] pos) (sb m fun l => so (psort l)) :=
  px_b1 cr_sortedS hm (by decide +kernel) he (fun y v s σ I O H Q rv t sat h => by
    obtain ⟨l, vs, rfl, q, r⟩ := rv
    have ev := strs_of r
    subst ev
    obtain ⟨zs, e, h⟩ := h.some_
    unfold psort at e
    split at e
    · rename_i c
      cases e
      refine ⟨l, y, rfl, SqL.of (t.si _ _ q), c, fun ys z h1 h2 hz => ?_⟩
      rw [ssort_uniq h1 h2]
      exact h.laid (o := .lst ((ssort y).map V.str)) t sat hz (.ref z) ⟨z, _, rfl, upd_same, rep_strs _⟩
    · cases e) hg (by decide) (by decide) h1 h2
end
end Mi

set_option Elab.async false
set_option linter.all false
set_option maxRecDepth 100000
set_option maxHeartbeats 4000000
namespace Mi
open PySem PySem.Spec PyProof.Rows L2
def pjoin (a : Str) (ys : List Str) : Option Str := if (ys.map (·.length)).sum + ys.length * a.length ≤ 16777216 then some (Txt.join a ys) else none
theorem px_join {X : Cx} {E : EW} {S : Type} {Γ : S → Gam} {pos apos : Pos} {o e : Expr} {mo : R S Str} {m : R S (List Str)} (ho : PX X E Γ o mo) (he : PX X E Γ e m) (hst : starEach [e] X.env = [(false, eval e X.env)] := by rfl) (hbase : attributeBase o "join" X.env (eval o X.env) = eval o X.env := by rfl) (hline : (apos.endLine == pos.line) = true := by rfl) :
    PX X E Γ (.Call (.Attribute o "join" apos) [e] [] pos) (sb mo fun a => sb m fun ys => so (pjoin a ys)) :=
  L2.PE.mono (pe_join ho he hst hbase hline) fun σ H Q ⟨s, I, O, t, sat, h⟩ => ⟨s, I, O, t, sat, h.bind.imp fun x I1 H1 ⟨_, s1, O1, t1, sat1, q1⟩ v rv => by
    have ex : v = .str x := rv
    subst ex
    refine ⟨⟨x, rfl⟩, s1, I1, O1, t1, sat1, q1.bind.imp fun y I2 H2 ⟨e2, s2, O2, t2, sat2, q2⟩ w rw => ?_⟩
    obtain ⟨l, vs, rfl, q, r⟩ := rw
    have ev := strs_of r
    subst ev
    obtain ⟨z, e, h⟩ := q2.some_
    unfold pjoin at e
    split at e
    · rename_i c
      cases e
      exact ⟨x, l, y, rfl, rfl, .inl (SqL.of (t2.si _ _ q)), c, h.at_ t2 sat2 _ rfl⟩
    · cases e⟩
def repS (z : Str) (k : Int) : Str := ⟨(List.replicate k.toNat z.cps).foldl (· ++ ·) #[]⟩
def pmulS (z : Str) (k : Int) : Option Str := if 2 ≤ k ∧ k ≤ 1000 ∧ 2 ≤ z.length + 1 ∧ z.length ≤ 1000 then some (repS z k) else none
theorem rep_size {α : Type} (xs : Array α) : ∀ (n : Nat) (acc : Array α), ((List.replicate n xs).foldl (· ++ ·) acc).size = acc.size + n * xs.size
  | 0, acc => by simp
  | n + 1, acc => by
    rw [List.replicate_succ, List.foldl_cons, rep_size xs n (acc ++ xs), Array.size_append, Nat.succ_mul]
    omega
theorem op_mulS {X : Cx} : OpR X (binaryOp .Mult) (fun x y H Q => ∃ z k, x = .str z ∧ y = .int k ∧ 2 ≤ k ∧ k ≤ 1000 ∧ 1 ≤ z.length ∧ z.length ≤ 1000 ∧ Q (.str (repS z k)) H) := fun pins s σ H x y v u Q I rx ry h => by
  obtain ⟨z, k, rfl, rfl, h1, h2, h3, h4, q⟩ := h
  obtain ⟨t, rfl⟩ := rx
  obtain ⟨t', rfl⟩ := ry
  have n1 : ¬ k < 1 := by omega
  have e1 : (k == 1 || z.length == 0) = false := by
    rw [Bool.or_eq_false_iff]
    exact ⟨beq_false_of_ne (by omega), beq_false_of_ne (by omega)⟩
  refine PySem.P.mul_str ?_ (fun _ _ => ?_) (fun _ _ => ?_) ?_
  · rw [decide_eq_false (by omega), decide_eq_false (by omega)]; rfl
  · have : (1000000 : Int) ≤ (2 ^ 63 - 1) / k := by
      refine Int.le_ediv_of_mul_le (by omega) ?_
      omega
    omega
  · have h5 : z.length * k.toNat ≤ 1000 * 1000 := Nat.mul_le_mul h4 (by omega)
    have h6 : (1000 * 1000 : Nat) ≤ sizeLine := by decide
    exact decide_eq_false (by omega)
  · rw [if_neg n1, e1, if_neg (by decide)]
    refine ⟨?_, .str (repS z k), H, I.tok _, ⟨_, rfl⟩, q⟩
    show ((List.replicate k.toNat z.cps).foldl (· ++ ·) #[]).size ≤ sizeLine
    rw [rep_size]
    have h5 : k.toNat * z.cps.size ≤ 1000 * 1000 := Nat.mul_le_mul (by omega) h4
    have h6 : (1000 * 1000 : Nat) ≤ sizeLine := by decide
    have h7 : (#[] : Array Nat).size = 0 := rfl
    omega
theorem px_mulS {X : Cx} {E : EW} {S : Type} {Γ : S → Gam} {pos : Pos} {a b : Expr} {ma : R S Str} {mb : R S Int} (ha : PX X E Γ a ma) (hb : PX X E Γ b mb) : PX X E Γ (.BinOp a .Mult b pos) (sb ma fun x => sb mb fun y => so (pmulS x y)) :=
  px_bin (pe_op op_mulS) ha hb fun x y v w s σ I O H Q rv rw t sat h => by
    have e1 : v = .str x := rv
    have e2 : w = .int y := rw
    subst e1 e2
    obtain ⟨z, e, h⟩ := h.some_
    unfold pmulS at e
    split at e
    · rename_i c
      cases e
      exact ⟨x, y, rfl, rfl, c.1, c.2.1, by omega, c.2.2.2, h.at_ t sat _ rfl⟩
    · cases e
end Mi

set_option Elab.async false
set_option linter.all false
set_option maxRecDepth 100000
set_option maxHeartbeats 4000000
/-! the head's facts: any Bool of the read part of the heap, and the defs -/
namespace Mi
open PySem PySem.Spec PyProof.Rows L2
open NdefX
abbrev FaB := Fg → Bool
abbrev FnX : Type := Option (Str × Str × Arguments × FuncBody × Scope × Addr × List Str × Addr)
abbrev initAd (K : Fg) (c : Str) : Addr := He.ma K (He.ga K c) "__init__"
abbrev cmAd (K : Fg) (c m : Str) : Addr := He5.wf K (He.ga K c) "classmethod" m
/-- an own exception's __init__, or another def that no name leads to: its class, its text -/
structure XDef where
  c : Str
  name : Str := "__init__"
  qual : Str
  params : Arguments
  body : List Stmt
  scope : Scope
  clo : List Str := ["__class__"]
  at_ : Fg → Addr := fun K => initAd K c
def fnx (K : Fg) (a : Addr) : FnX := match K.lookup a with
  | some ⟨_, _, .func fd, _⟩ => some (fd.name, fd.qualname, fd.params, fd.body, fd.scope, fd.globals, fd.closure.map (·.1), fd.builtins)
  | _ => none
def XDef.val (d : XDef) : FnX := some (d.name, d.qual, d.params, .stmts d.body, d.scope, mainGlobals, d.clo, builtinsNs)
abbrev XDef.asA (d : XDef) : He5.DefA := ⟨d.at_, d.name, d.qual, d.params, d.body, d.scope, [], []⟩
theorem funC_of {K : Fg} {d : XDef} (e : fnx K (d.at_ K) = d.val) (b : d.asA.ok K = true) (hc : d.clo = [] := by rfl) : ∃ fd, FunD K d.name d.qual d.params d.body d.scope [] [] (d.at_ K) fd := by
  refine He5.DefA.funD (d := d.asA) ?_ b
  show He5.fnA K (d.at_ K) = d.asA.val
  unfold fnx XDef.val at e
  unfold He5.fnA He5.DefA.val
  cases q : K.lookup (d.at_ K) with
  | none => rw [q] at e; cases e
  | some o =>
    obtain ⟨oc, od, dt, osl⟩ := o
    rw [q] at e
    cases dt with
    | func fd =>
      rw [hc] at e
      have e := Option.some.inj e
      simp only [Prod.mk.injEq, List.map_eq_nil_iff] at e
      obtain ⟨h1, h2, h3, h4, h5, h6, h7, h8⟩ := e
      show some (fd.name, fd.qualname, fd.params, fd.body, fd.scope, fd.globals, fd.closure, fd.builtins) = _
      rw [h1, h2, h3, h4, h5, h6, h7, h8]
    | _ => cases e
/-- the word of a classmethod: how it is read off its class -/
def cmB (c m : Str) (K : Fg) : Bool := (PySem.W.readsIn K (He.ga K c) (.type "type") && decide (PySem.W.specialIn K (.ref (He.ga K c)) "__getattribute__" = some (some (.builtin "type.__getattribute__")))) && (He5.wrapB K (He.ga K c) "classmethod" "classmethod.__get__" m && PySem.W.fnIn K (cmAd K c m))
theorem cmB_ok {c m : Str} {K : Fg} (h : cmB c m K = true) : ClX.CRead K (He.ga K c) (.type "type") ∧ ClX.CMet K (He.ga K c) (.type "type") m (He.ma K (He.ga K c) m) (cmAd K c m) := by
  unfold cmB at h
  simp only [Bool.and_eq_true, decide_eq_true_eq] at h
  exact ⟨⟨h.1.1, h.1.2⟩, He5.cmet_of h.2.1 h.2.2⟩
def xokB (file : Str) (c qual : Str) (K : Fg) : Bool := match K.lookup (initAd K c) with
  | some ⟨_, _, .func fd, _⟩ => (match fd.closure, fd.defaults, fd.kwdefaults, fd.annotations, fd.code with
    | [(_, cc)], .none, .none, none, .ref cda => PySem.W.codeIn K (.ref cda) qual && ((match K.lookup cc with
      | some ⟨_, _, .cell (some (.ref D)), _⟩ => decide (D = He.ga K c)
      | _ => false) && (match K.lookup cda with
      | some ⟨_, _, .fields vs, _⟩ => (match (vs[2]? : Option Value) with
        | some (.str fl _) => decide (fl = file)
        | _ => false)
      | _ => false))
    | _, _, _, _, _ => false)
  | _ => false
theorem funX_of {K : Fg} {d : XDef} {file : Str} (e : fnx K (d.at_ K) = d.val) (b : xokB file d.c d.qual K = true) (hn : d.name = ("__init__" : Str) := by rfl) (hc : d.clo = [("__class__" : Str)] := by rfl) (ha : d.at_ K = initAd K d.c := by rfl) : ∃ cc cda fd, FunX K file ⟨"__init__", d.qual, d.params, d.body, d.scope, [(("__class__" : Str), cc)], cda⟩ (initAd K d.c) (He.ga K d.c) cc fd := by
  rw [ha] at e
  unfold XDef.val at e
  rw [hn, hc] at e
  unfold fnx at e
  unfold xokB at b
  cases q : K.lookup (initAd K d.c) with
  | none => rw [q] at b; cases b
  | some o =>
    obtain ⟨oc, od, dt, osl⟩ := o
    rw [q] at b e
    cases dt with
    | func fd =>
      obtain ⟨n1, n2, n3, n4, n5, n6, n7, n8, n9, n10, n11, n12, n13, n14, n15⟩ := fd
      have e2 : (some (n1, n2, n3, n4, n5, n6, n7.map (·.1), n15) : FnX) = some (("__init__" : Str), d.qual, d.params, FuncBody.stmts d.body, d.scope, mainGlobals, [("__class__" : Str)], builtinsNs) := e
      simp only [Option.some.injEq, Prod.mk.injEq] at e2
      obtain ⟨h1, h2, h3, h4, h5, h6, h7, h8⟩ := e2
      subst h1 h2 h3 h4 h5 h6 h8
      dsimp only at b
      split at b
      · rename_i x0 x cc cda
        have hx : x = ("__class__" : Str) := (List.cons.inj h7).1
        subst hx
        obtain ⟨b1, b2⟩ := Bool.and_eq_true_iff.mp b
        obtain ⟨b3, b4⟩ := Bool.and_eq_true_iff.mp b2
        refine ⟨cc, cda, _, ⟨oc, od, n10, n11, n14, osl, rfl, q⟩, b1, rfl, ?_, ?_⟩
        · split at b3
          · rename_i y1 y2 D y3 hc
            rw [of_decide_eq_true b3] at hc
            exact ⟨_, _, _, hc⟩
          · cases b3
        · split at b4
          · rename_i y1 y2 vs y3 hc
            split at b4
            · rename_i fl tf hv
              rw [of_decide_eq_true b4] at hv
              exact ⟨_, _, vs, _, tf, hc, hv⟩
            · cases b4
          · cases b4
      · cases b
    | _ => cases b
abbrev AlM : Type := He.AlD × List FnX
def obsM (ex : List FaB) (fn : List He.DefD) (xs : List XDef) (K : Fg) : AlM := ((ex.all (· K) && fn.all (He.DefD.ok K), fn.map fun d => He.fnW K d.at_), xs.map fun d => fnx K (d.at_ K))
def valM (fn : List He.DefD) (xs : List XDef) : AlM := (He.valD fn, xs.map XDef.val)
def SaysM (ex : List FaB) (fn : List He.DefD) (xs : List XDef) (K : Fg) : Prop := obsM ex fn xs K = valM fn xs
def upFrom : Nat → Nat → List Addr
  | _, 0 => []
  | a, n + 1 => a :: upFrom (a + 1) n
/-- the globals, the statics, and what the top has made from a little ahead of the thing at x on -/
def asM (g : Addr → Option Obj) (x : Str) (n : Nat) : List Addr := mainGlobals :: cStatics :: upFrom (He.ga (He.frG g [mainGlobals]) x - 16) n
def obsMG (x : Str) (n : Nat) (ex : List FaB) (fn : List He.DefD) (xs : List XDef) (g : Addr → Option Obj) : AlM := obsM ex fn xs (He.frG g (asM g x n))
def hookM (x : Str) (n : Nat) (ex : List FaB) (fn : List He.DefD) (xs : List XDef) : PySem.W.Hook :=
  { α := AlM, obs := fun s => obsMG x n ex fn xs s.heap.get?, val := fun _ => valM fn xs,
    says := fun _ h => ∃ K : Fg, K.In h ∧ SaysM ex fn xs K, of := fun _ _ e => ⟨_, He.frG_in, e⟩,
    keeps := fun _ _ _ ⟨K, h1, h2⟩ k => ⟨K, PySem.W.Frag.In.keeps h1 k, h2⟩ }
theorem obsMG_eq {x : Str} {n : Nat} {ex : List FaB} {fn : List He.DefD} {xs : List XDef} {g : Addr → Option Obj} {s : Shared} (h : ∀ a, g a = s.heap.get? a) : obsMG x n ex fn xs g = (hookM x n ex fn xs).obs s :=
  congrArg (obsMG x n ex fn xs) (funext h)
section
variable {ex : List FaB} {fn : List He.DefD} {xs : List XDef} {K : Fg}
theorem SaysM.both (c : SaysM ex fn xs K) : ex.all (· K) = true ∧ fn.all (He.DefD.ok K) = true := He.ba (congrArg (fun z : AlM => z.1.1) c)
theorem SaysM.fact (c : SaysM ex fn xs K) (i : Nat) {f : FaB} (h : ex[i]? = some f := by rfl) : f K = true := List.all_eq_true.mp c.both.1 f (List.mem_of_getElem? h)
theorem SaysM.def_ (c : SaysM ex fn xs K) (i : Nat) {d : He.DefD} (h : fn[i]? = some d := by rfl) : ∃ fd, FunD K d.name d.qual d.params d.body d.scope (d.dvs K) (d.kws K) (He.fAd K d.at_) fd := by
  have e : fn.map (fun d => He.fnW K d.at_) = fn.map He.DefD.val := congrArg (fun z : AlM => z.1.2) c
  have e1 := congrArg (fun z => z[i]?) e
  simp only [List.getElem?_map, h, Option.map_some, Option.some.injEq] at e1
  exact He.DefD.funD e1 (List.all_eq_true.mp c.both.2 d (List.mem_of_getElem? h))
theorem SaysM.xdef (c : SaysM ex fn xs K) (i : Nat) {d : XDef} (h : xs[i]? = some d := by rfl) : fnx K (d.at_ K) = d.val := by
  have e : xs.map (fun d => fnx K (d.at_ K)) = xs.map XDef.val := congrArg (fun z : AlM => z.2) c
  have e1 := congrArg (fun z => z[i]?) e
  simp only [List.getElem?_map, h, Option.map_some, Option.some.injEq] at e1
  exact e1
end
theorem runs_join {σ α β γ : Type} {o : Option σ} {f : σ → α} {g : σ → β} {k : σ → γ} {x : α} {y : β} {z : γ} (h1 : o.map f = some x) (h2 : o.map g = some y) (h3 : o.map k = some z) : o.map (fun s => (f s, g s, k s)) = some (x, y, z) := by
  cases o with
  | none => cases h1
  | some s =>
    have e1 := Option.some.inj h1
    have e2 := Option.some.inj h2
    have e3 := Option.some.inj h3
    show some (f s, g s, k s) = _
    rw [e1, e2, e3]
theorem obs_join {σ : Type} {o : Option σ} {x : Str} {n : Nat} {ex : List FaB} {fn : List He.DefD} {xs : List XDef} {g : σ → Addr → Option Obj} (h1 : o.map (fun s => obsMG x n ex [] [] (g s)) = some (valM [] [])) (h2 : o.map (fun s => obsMG x n [] fn xs (g s)) = some (valM fn xs)) : o.map (fun s => obsMG x n ex fn xs (g s)) = some (valM fn xs) := by
  cases o with
  | none => cases h1
  | some s =>
    have e1 := Option.some.inj h1
    have e2 := Option.some.inj h2
    show some (obsMG x n ex fn xs (g s)) = _
    have a1 : (ex.all (· (He.frG (g s) (asM (g s) x n))) && true) = true := congrArg (fun z : AlM => z.1.1) e1
    rw [← e2]
    unfold obsMG obsM
    rw [Bool.and_true] at a1
    rw [a1]
    rfl
/-- the j-th statement of a class's body -/
def clsM (s : Stmt) (j : Nat) : Stmt := match s with
  | .ClassDef _ _ _ b _ _ _ _ _ _ _ => b.getD j (.Pass ⟨0, 0, 0, 0⟩)
  | _ => .Pass ⟨0, 0, 0, 0⟩
/-- what of the read part an own exception class needs, beside its __init__'s text -/
def exnB (c : Str) (K : Fg) : Bool := oexAB K (He.ga K c) && (decide (PySem.W.findIn K (.ref (He.ga K c)) "__init__" = some (some (.ref (initAd K c)))) && (decide (PySem.W.typeIn K (.ref (initAd K c)) = some (.type "function")) && xfB K (He.ga K c)))
theorem exnB_ok {c : Str} {K : Fg} (h : exnB c K = true) : OexA K (He.ga K c) ∧ PySem.W.findIn K (.ref (He.ga K c)) "__init__" = some (some (.ref (initAd K c))) ∧ PySem.W.typeIn K (.ref (initAd K c)) = some (.type "function") ∧ XfC K (He.ga K c) := by
  unfold exnB at h
  simp only [Bool.and_eq_true, decide_eq_true_eq] at h
  exact ⟨oexA_of h.1, h.2.1, h.2.2.1, xfB_ok h.2.2.2⟩
def fldB (c f : Str) (K : Fg) : Bool := decide (PySem.W.takerIn K (He.ga K c) f = some none) && decide (PySem.W.findIn K (.ref (He.ga K c)) f = some none)
theorem fldB_ok {c f : Str} {K : Fg} (h : fldB c f K = true) : PySem.W.takerIn K (He.ga K c) f = some none ∧ PySem.W.findIn K (.ref (He.ga K c)) f = some none := by
  unfold fldB at h
  simp only [Bool.and_eq_true, decide_eq_true_eq] at h
  exact h
def isiB (c : Str) (K : Fg) : Bool := (He.Fa.cls c).ok K && (decide (PySem.W.findIn K (.ref (He.ga K c)) "__class__" = some (some (.builtin "object.__class__"))) && (decide (PySem.W.specialIn K (.builtin "object.__class__") "__get__" = some (some (.builtin "getset_descriptor.__get__"))) &&
  (decide (PySem.W.takesIn K (.builtin "object.__class__") = some true) && decide (PySem.W.mroIn K (He.ga K c) (.type "object") = some true))))
theorem isiB_ok {c : Str} {K : Fg} (h : isiB c K = true) : IsiC K c := by
  unfold isiB at h
  simp only [Bool.and_eq_true, decide_eq_true_eq] at h
  exact ⟨He.cls_ok h.1, h.2.1, h.2.2.1, h.2.2.2.1, h.2.2.2.2⟩
def tagsB (T : Tags) (K : Fg) : Bool := T.all fun q => decide (PySem.W.kitOne K (tagV K q.1) (.ref (He.ga K q.2.1)) = some q.2.2) && ((match q.1 with
  | .o c => isiB c K
  | _ => true) && (He.Fa.glo q.2.1).ok K)
theorem tags_of {K : Fg} {h : Heap} {mg : Str → Option Value} (X : K.In h) (G : h.Ns mainGlobals mg) {T : Tags} (c : tagsB T K = true) : TagsOk K mg T := by
  have all := List.all_eq_true.mp c
  have one : ∀ q ∈ T, PySem.W.kitOne K (tagV K q.1) (.ref (He.ga K q.2.1)) = some q.2.2 ∧ ((match q.1 with
      | .o c => isiB c K
      | _ => true) = true ∧ (He.Fa.glo q.2.1).ok K = true) := fun q hq => by
    have z := all q hq
    rw [Bool.and_eq_true, Bool.and_eq_true, decide_eq_true_eq] at z
    exact z
  refine ⟨fun q hq => (one q hq).1, fun q hq c e => ?_, fun q hq => He.glo_ok X G (one q hq).2.2⟩
  have z := (one q hq).2.1
  rw [e] at z
  exact isiB_ok z
/-! ### constants -/
section
variable {K : Fg} {h : Heap} {mg : Str → Option Value} (X : K.In h) (G : h.Ns mainGlobals mg)
include X G
theorem con_str {x z : Str} (c : (He.Fa.str x z).ok K = true) : Con1 K mg x (z : Str) := by
  obtain ⟨t, e⟩ := He.str_ok X G c
  exact ⟨_, .str z, e, ⟨t, rfl⟩, fun _ => rfl⟩
theorem con_int {x : Str} {i : Int} (c : (He.Fa.int x i).ok K = true) : Con1 K mg x (i : Int) := by
  obtain ⟨t, e⟩ := He.int_ok X G c
  exact ⟨_, .int i, e, ⟨t, rfl⟩, fun _ => rfl⟩
theorem con_fr {x : Str} {i j : Int} (c : (He.Fa.glo x).ok K = true) (c2 : He.tupB K x [.int i, .int j] = true) : Con1 K mg x ((i, j) : Int × Int) :=
  ⟨_, .ref (He.ga K x), He.glo_ok X G c, rfl, fun I => ⟨_, _, _, rfl, He.tupB_ok c2 I, rfl, rfl⟩⟩
theorem con_strs {x : Str} {zs : List Str} (c : (He.Fa.glo x).ok K = true) (c2 : He.tupB K x (zs.map He.Dv.str) = true) : Con1 K mg x (Tu.mk zs : Tu Str) :=
  ⟨_, .ref (He.ga K x), He.glo_ok X G c, rfl, fun I => ⟨_, _, rfl, He.tupB_ok c2 I, by
    have all : ∀ ys : List Str, All2 (Enc.rep K I) ((ys.map He.Dv.str).map (He.Dv.v K)) ys := fun ys => by
      induction ys with
      | nil => exact trivial
      | cons y ys ih => exact ⟨rfl, ih⟩
    exact all zs⟩⟩
end
/-! ### the end -/
theorem walk_ofM {law : PySem.W.OpenLaw} {n k : Nat} {view : Program} {loose : List Str} {XP : (Str → Option Value) → Heap → Prop} {YP : World → Heap → Prop} {d : DefRec} {x : Str} (hn : law.most = some n) (small : n ≤ sizeLine) (nodef : d.params.defaults = []) (room : Room k callerA)
    (F : ∀ (w : World) (mg : Str → Option Value) (fa : Addr) (h : Heap), YP w h → h.Ns mainGlobals mg → mg d.name = some (.ref fa) → ∃ (K : Fg) (fd : FuncData) (f : Ro Int × Unit → Except Er Bool), K.In h ∧ (∀ ns, ns.length ≤ n → f (⟨ns⟩, ()) = .ok true) ∧
      (∀ (s : Shared) (u : Value), BindsTo s fd ⟨[u], []⟩ [(x, u)]) ∧ ∀ base : Heap, K.In base → base.Ns mainGlobals mg → FnOk law.prog w K mg base (L2.CX law.prog w) k fa fd [x] (spF K f)) :
    PySem.W.WalkO view loose XP YP law.row.toRowW d [] (fun f vs => PySem.call f vs) := by
  refine Att.attach_call hn nodef fun w s0 s1 mg mb fa o pm cd doc a vs ns G Y ho hd hcd hmg hobj hints hlen hg => ?_
  obtain ⟨K, fd, f, KX, hf, hb, hF⟩ := F w mg fa _ Y G.T.g hmg
  refine law_call (CX := L2.CX law.prog w) KX G.T.g G.T.b G.T.builtins G.T.nolimit hg hobj hints (Nat.le_trans hlen small) room hF hb (fun H only sq => ?_) fun H e s' c => ?_
  · refine ⟨(⟨ns⟩, ()), H, Same.refl H, ⟨_, [], rfl, ⟨a, ns.map V.int, rfl, sq, ?_⟩, rfl⟩, ?_⟩
    · have all : ∀ ms : List Int, All2 (Enc.rep K H) (ms.map V.int) ms := fun ms => by
        induction ms with
        | nil => exact trivial
        | cons y ys ih => exact ⟨rfl, ih⟩
      exact all ns
    · rw [hf ns hlen]
      exact fun v I' O' H' _ _ r => r
  · obtain ⟨_, _, _, _, _, _, _, _, _, _, _, _, z⟩ := c
    exact z.elim
end Mi

namespace Lw
open PySem PySem.Spec PyProof.Rows L2 Mi
def topS (i : Nat) : Stmt := PySem.Challenge.pw_everylot_k08_steps_turn_amounts.main.body.getD i (.Pass ⟨0, 0, 0, 0⟩)
def theFile : Str := PySem.Challenge.pw_everylot_k08_steps_turn_amounts.main.file
def theTags : Tags := [(.o "Knots", "Knots", true), (.b "list", "Knots", false)]
def nam0 : List PySem.Str := ["_wall", "own_copy", "LotError", "InvalidFraction", "InvalidBound", "InvalidStep", "ZERO", "ONE", "is_integer", "is_fraction", "reduced", "told", "asked", "fsum", "fdiff", "fprod", "fquot", "fless", "canonical", "value_at"]
def nam1 : List PySem.Str := ["place_of", "joined", "merged", "knot_places", "gap_at", "outer_place", "crossing_places", "greater_of", "lesser_of", "upper", "lower", "Knots", "is_slope", "told_knot", "checked_knots", "Step", "_law_pool", "_law_draw", "_law_whole", "_law_gcd"]
def nam2 : List PySem.Str := ["_law_told", "_law_even", "_law_less", "_law_gives", "_law_plus", "_law_minus", "_law_times", "_law_over", "_law_number", "_law_small", "_law_given", "_law_rise", "_law_slope", "_law_general", "_law_spec", "_law_at", "_law_step", "_law_odd", "_law_made", "_law_try"]
def nam3 : List PySem.Str := ["_law_call", "_law_due", "_law_methods"]
def names : List PySem.Str := nam0 ++ nam1 ++ nam2 ++ nam3
def theDefs0 : List He.DefD := [⟨("own_copy", none), "own_copy", "own_copy", defArgs (topS 2), defBody (topS 2), defScope (topS 2), [], []⟩, ⟨("is_integer", none), "is_integer", "is_integer", defArgs (topS 10), defBody (topS 10), defScope (topS 10), [], []⟩, ⟨("is_fraction", none), "is_fraction", "is_fraction", defArgs (topS 11), defBody (topS 11), defScope (topS 11), [], []⟩, ⟨("reduced", none), "reduced", "reduced", defArgs (topS 12), defBody (topS 12), defScope (topS 12), [], []⟩, ⟨("told", none), "told", "told", defArgs (topS 13), defBody (topS 13), defScope (topS 13), [], []⟩, ⟨("asked", none), "asked", "asked", defArgs (topS 14), defBody (topS 14), defScope (topS 14), [], []⟩, ⟨("fsum", none), "fsum", "fsum", defArgs (topS 15), defBody (topS 15), defScope (topS 15), [], []⟩, ⟨("fdiff", none), "fdiff", "fdiff", defArgs (topS 16), defBody (topS 16), defScope (topS 16), [], []⟩, ⟨("fprod", none), "fprod", "fprod", defArgs (topS 17), defBody (topS 17), defScope (topS 17), [], []⟩, ⟨("fquot", none), "fquot", "fquot", defArgs (topS 18), defBody (topS 18), defScope (topS 18), [], []⟩, ⟨("fless", none), "fless", "fless", defArgs (topS 19), defBody (topS 19), defScope (topS 19), [], []⟩, ⟨("canonical", none), "canonical", "canonical", defArgs (topS 21), defBody (topS 21), defScope (topS 21), [], []⟩, ⟨("value_at", none), "value_at", "value_at", defArgs (topS 22), defBody (topS 22), defScope (topS 22), [], []⟩, ⟨("place_of", none), "place_of", "place_of", defArgs (topS 23), defBody (topS 23), defScope (topS 23), [], []⟩, ⟨("joined", none), "joined", "joined", defArgs (topS 24), defBody (topS 24), defScope (topS 24), [], []⟩]
def theDefs1 : List He.DefD := [⟨("is_slope", none), "is_slope", "is_slope", defArgs (topS 36), defBody (topS 36), defScope (topS 36), [], []⟩, ⟨("told_knot", none), "told_knot", "told_knot", defArgs (topS 37), defBody (topS 37), defScope (topS 37), [], []⟩, ⟨("checked_knots", none), "checked_knots", "checked_knots", defArgs (topS 38), defBody (topS 38), defScope (topS 38), [], []⟩, ⟨("_law_pool", none), "_law_pool", "_law_pool", defArgs (topS 41), defBody (topS 41), defScope (topS 41), [], []⟩, ⟨("_law_draw", none), "_law_draw", "_law_draw", defArgs (topS 42), defBody (topS 42), defScope (topS 42), [], []⟩, ⟨("_law_whole", none), "_law_whole", "_law_whole", defArgs (topS 43), defBody (topS 43), defScope (topS 43), [], []⟩, ⟨("_law_gcd", none), "_law_gcd", "_law_gcd", defArgs (topS 44), defBody (topS 44), defScope (topS 44), [], []⟩, ⟨("_law_told", none), "_law_told", "_law_told", defArgs (topS 45), defBody (topS 45), defScope (topS 45), [], []⟩, ⟨("_law_even", none), "_law_even", "_law_even", defArgs (topS 46), defBody (topS 46), defScope (topS 46), [], []⟩, ⟨("_law_less", none), "_law_less", "_law_less", defArgs (topS 47), defBody (topS 47), defScope (topS 47), [], []⟩, ⟨("_law_gives", none), "_law_gives", "_law_gives", defArgs (topS 48), defBody (topS 48), defScope (topS 48), [], []⟩, ⟨("_law_plus", none), "_law_plus", "_law_plus", defArgs (topS 49), defBody (topS 49), defScope (topS 49), [], []⟩, ⟨("_law_minus", none), "_law_minus", "_law_minus", defArgs (topS 50), defBody (topS 50), defScope (topS 50), [], []⟩, ⟨("_law_times", none), "_law_times", "_law_times", defArgs (topS 51), defBody (topS 51), defScope (topS 51), [], []⟩, ⟨("_law_over", none), "_law_over", "_law_over", defArgs (topS 52), defBody (topS 52), defScope (topS 52), [], []⟩]
def theDefs2 : List He.DefD := [⟨("_law_number", none), "_law_number", "_law_number", defArgs (topS 53), defBody (topS 53), defScope (topS 53), [], []⟩, ⟨("_law_small", none), "_law_small", "_law_small", defArgs (topS 54), defBody (topS 54), defScope (topS 54), [], []⟩, ⟨("_law_rise", none), "_law_rise", "_law_rise", defArgs (topS 56), defBody (topS 56), defScope (topS 56), [], []⟩, ⟨("_law_slope", none), "_law_slope", "_law_slope", defArgs (topS 57), defBody (topS 57), defScope (topS 57), [], []⟩, ⟨("_law_general", none), "_law_general", "_law_general", defArgs (topS 58), defBody (topS 58), defScope (topS 58), [], []⟩, ⟨("_law_spec", none), "_law_spec", "_law_spec", defArgs (topS 59), defBody (topS 59), defScope (topS 59), [], []⟩, ⟨("_law_at", none), "_law_at", "_law_at", defArgs (topS 60), defBody (topS 60), defScope (topS 60), [], []⟩, ⟨("_law_step", none), "_law_step", "_law_step", defArgs (topS 61), defBody (topS 61), defScope (topS 61), [], []⟩, ⟨("_law_given", none), "_law_given", "_law_given", defArgs (topS 55), defBody (topS 55), defScope (topS 55), [], []⟩, ⟨("_law_odd", none), "_law_odd", "_law_odd", defArgs (topS 62), defBody (topS 62), defScope (topS 62), [], []⟩, ⟨("_law_made", none), "_law_made", "_law_made", defArgs (topS 63), defBody (topS 63), defScope (topS 63), [], []⟩, ⟨("_law_try", none), "_law_try", "_law_try", defArgs (topS 64), defBody (topS 64), defScope (topS 64), [], []⟩, ⟨("_law_call", none), "_law_call", "_law_call", defArgs (topS 65), defBody (topS 65), defScope (topS 65), [], []⟩, ⟨("_law_due", none), "_law_due", "_law_due", defArgs (topS 66), defBody (topS 66), defScope (topS 66), [], []⟩, ⟨("_law_methods", none), "_law_methods", "_law_methods", defArgs (topS 67), defBody (topS 67), defScope (topS 67), [], []⟩]
def theDefs3 : List He.DefD := [⟨("law", none), "law", "law", defArgs (topS 68), defBody (topS 68), defScope (topS 68), [], []⟩, ⟨("Knots", some "__init__"), "__init__", "Knots.__init__", defArgs (clsM (topS 35) 0), defBody (clsM (topS 35) 0), defScope (clsM (topS 35) 0), [], []⟩, ⟨("Step", some "__init__"), "__init__", "Step.__init__", defArgs (clsM (topS 39) 0), defBody (clsM (topS 39) 0), defScope (clsM (topS 39) 0), [], []⟩, ⟨("Step", some "shape"), "shape", "Step.shape", defArgs (clsM (topS 39) 6), defBody (clsM (topS 39) 6), defScope (clsM (topS 39) 6), [], []⟩, ⟨("Step", some "left"), "left", "Step.left", defArgs (clsM (topS 39) 7), defBody (clsM (topS 39) 7), defScope (clsM (topS 39) 7), [], []⟩, ⟨("Step", some "right"), "right", "Step.right", defArgs (clsM (topS 39) 8), defBody (clsM (topS 39) 8), defScope (clsM (topS 39) 8), [], []⟩, ⟨("Step", some "knots"), "knots", "Step.knots", defArgs (clsM (topS 39) 9), defBody (clsM (topS 39) 9), defScope (clsM (topS 39) 9), [], []⟩, ⟨("Step", some "__call__"), "__call__", "Step.__call__", defArgs (clsM (topS 39) 10), defBody (clsM (topS 39) 10), defScope (clsM (topS 39) 10), [], []⟩, ⟨("Step", some "__rshift__"), "__rshift__", "Step.__rshift__", defArgs (clsM (topS 39) 13), defBody (clsM (topS 39) 13), defScope (clsM (topS 39) 13), [], []⟩]
def theDefs : List He.DefD := theDefs0 ++ theDefs1 ++ theDefs2 ++ theDefs3
def theFacts0 : List FaB := [(He.Fa.glo "own_copy").ok, (He.Fa.glo "is_integer").ok, (He.Fa.glo "is_fraction").ok, (He.Fa.glo "reduced").ok, (He.Fa.glo "told").ok, (He.Fa.glo "asked").ok, (He.Fa.glo "fsum").ok, (He.Fa.glo "fdiff").ok, (He.Fa.glo "fprod").ok, (He.Fa.glo "fquot").ok, (He.Fa.glo "fless").ok, (He.Fa.glo "canonical").ok, (He.Fa.glo "value_at").ok, (He.Fa.glo "place_of").ok, (He.Fa.glo "joined").ok]
def theFacts1 : List FaB := [(He.Fa.glo "is_slope").ok, (He.Fa.glo "told_knot").ok, (He.Fa.glo "checked_knots").ok, (He.Fa.glo "_law_pool").ok, (He.Fa.glo "_law_draw").ok, (He.Fa.glo "_law_whole").ok, (He.Fa.glo "_law_gcd").ok, (He.Fa.glo "_law_told").ok, (He.Fa.glo "_law_even").ok, (He.Fa.glo "_law_less").ok, (He.Fa.glo "_law_gives").ok, (He.Fa.glo "_law_plus").ok, (He.Fa.glo "_law_minus").ok, (He.Fa.glo "_law_times").ok, (He.Fa.glo "_law_over").ok]
def theFacts2 : List FaB := [(He.Fa.glo "_law_number").ok, (He.Fa.glo "_law_small").ok, (He.Fa.glo "_law_rise").ok, (He.Fa.glo "_law_slope").ok, (He.Fa.glo "_law_general").ok, (He.Fa.glo "_law_spec").ok, (He.Fa.glo "_law_at").ok, (He.Fa.glo "_law_step").ok, (He.Fa.glo "_law_given").ok, (He.Fa.glo "_law_odd").ok, (He.Fa.glo "_law_made").ok, (He.Fa.glo "_law_try").ok, (He.Fa.glo "_law_call").ok, (He.Fa.glo "_law_due").ok, (He.Fa.glo "_law_methods").ok]
def theFacts3 : List FaB := [(He.Fa.glo "law").ok, xokB theFile "InvalidFraction" "InvalidFraction.__init__", exnB "InvalidFraction", xokB theFile "InvalidStep" "InvalidStep.__init__", exnB "InvalidStep", xokB theFile "InvalidBound" "InvalidBound.__init__", exnB "InvalidBound", (XDef.asA { c := "Step", name := "plus", qual := "Step.plus", params := defArgs (clsM (topS 39) 1), body := defBody (clsM (topS 39) 1), scope := defScope (clsM (topS 39) 1), clo := [], at_ := fun K => cmAd K "Step" "plus" }).ok, (XDef.asA { c := "Step", name := "times", qual := "Step.times", params := defArgs (clsM (topS 39) 2), body := defBody (clsM (topS 39) 2), scope := defScope (clsM (topS 39) 2), clo := [], at_ := fun K => cmAd K "Step" "times" }).ok, (XDef.asA { c := "Step", name := "at_least", qual := "Step.at_least", params := defArgs (clsM (topS 39) 3), body := defBody (clsM (topS 39) 3), scope := defScope (clsM (topS 39) 3), clo := [], at_ := fun K => cmAd K "Step" "at_least" }).ok, (XDef.asA { c := "Step", name := "at_most", qual := "Step.at_most", params := defArgs (clsM (topS 39) 4), body := defBody (clsM (topS 39) 4), scope := defScope (clsM (topS 39) 4), clo := [], at_ := fun K => cmAd K "Step" "at_most" }).ok, (XDef.asA { c := "Step", name := "always", qual := "Step.always", params := defArgs (clsM (topS 39) 5), body := defBody (clsM (topS 39) 5), scope := defScope (clsM (topS 39) 5), clo := [], at_ := fun K => cmAd K "Step" "always" }).ok, (He.Fa.cls "Knots").ok, (He.Fa.noat "Knots" "rows").ok, (He.Fa.mkr "Knots").ok]
def theFacts4 : List FaB := [(He.Fa.glo "Knots").ok, (He.Fa.cls "Step").ok, (He.Fa.noat "Step" "points").ok, (He.Fa.noat "Step" "slopes").ok, (He.Fa.mkr "Step").ok, (He.Fa.glo "Step").ok, (He.Fa.meth "Step" "shape").ok, (He.Fa.meth "Step" "left").ok, (He.Fa.meth "Step" "right").ok, (He.Fa.meth "Step" "knots").ok, (He.Fa.meth "Step" "__call__").ok, (He.Fa.meth "Step" "__rshift__").ok, cmB "Step" "plus", cmB "Step" "times", cmB "Step" "at_least"]
def theFacts5 : List FaB := [cmB "Step" "at_most", cmB "Step" "always", fun K => PySem.W.fnIn K (He.ma K (He.ga K "Step") "__call__"), (He.Fa.glo "InvalidFraction").ok, (He.Fa.glo "InvalidStep").ok, (He.Fa.glo "InvalidBound").ok, tagsB theTags, fldB "InvalidFraction" "name", fldB "InvalidStep" "part", fldB "InvalidStep" "at", fldB "InvalidBound" "name", fun K => decide (PySem.W.nsIn K PySem.cStatics "thirdparty.any" = some none), fun K => decide (PySem.W.exmOne K (.ref (He.ga K "InvalidFraction")) (.ref (He.ga K "InvalidFraction")) = some true), fun K => (["InvalidBound"] : List Str).all fun o => decide (PySem.W.exmOne K (.ref (He.ga K o)) (.ref (He.ga K "InvalidFraction")) = some false), (He.Fa.glo "InvalidFraction").ok]
def theFacts6 : List FaB := [exnB "InvalidFraction", fun K => decide (PySem.W.exmOne K (.ref (He.ga K "InvalidBound")) (.ref (He.ga K "InvalidBound")) = some true), fun K => ([] : List Str).all fun o => decide (PySem.W.exmOne K (.ref (He.ga K o)) (.ref (He.ga K "InvalidBound")) = some false), (He.Fa.glo "InvalidBound").ok, exnB "InvalidBound", (He.Fa.free "abs").ok, (He.Fa.free "bool").ok, (He.Fa.free "dict").ok, (He.Fa.free "int").ok, (He.Fa.free "isinstance").ok, (He.Fa.free "len").ok, (He.Fa.free "list").ok, (He.Fa.free "max").ok, (He.Fa.free "range").ok, (He.Fa.free "super").ok]
def theFacts7 : List FaB := [(He.Fa.free "tuple").ok, (He.Fa.glo "ZERO").ok, (He.tupB · "ZERO" [.int (0), .int (1)]), (He.Fa.glo "ONE").ok, (He.tupB · "ONE" [.int (1), .int (1)])]
def theFacts : List FaB := theFacts0 ++ theFacts1 ++ theFacts2 ++ theFacts3 ++ theFacts4 ++ theFacts5 ++ theFacts6 ++ theFacts7
def theXs0 : List XDef := [{ c := "InvalidFraction", qual := "InvalidFraction.__init__", params := defArgs (clsM (topS 4) 0), body := defBody (clsM (topS 4) 0), scope := defScope (clsM (topS 4) 0) }, { c := "InvalidStep", qual := "InvalidStep.__init__", params := defArgs (clsM (topS 6) 0), body := defBody (clsM (topS 6) 0), scope := defScope (clsM (topS 6) 0) }, { c := "InvalidBound", qual := "InvalidBound.__init__", params := defArgs (clsM (topS 5) 0), body := defBody (clsM (topS 5) 0), scope := defScope (clsM (topS 5) 0) }, { c := "Step", name := "plus", qual := "Step.plus", params := defArgs (clsM (topS 39) 1), body := defBody (clsM (topS 39) 1), scope := defScope (clsM (topS 39) 1), clo := [], at_ := fun K => cmAd K "Step" "plus" }, { c := "Step", name := "times", qual := "Step.times", params := defArgs (clsM (topS 39) 2), body := defBody (clsM (topS 39) 2), scope := defScope (clsM (topS 39) 2), clo := [], at_ := fun K => cmAd K "Step" "times" }, { c := "Step", name := "at_least", qual := "Step.at_least", params := defArgs (clsM (topS 39) 3), body := defBody (clsM (topS 39) 3), scope := defScope (clsM (topS 39) 3), clo := [], at_ := fun K => cmAd K "Step" "at_least" }, { c := "Step", name := "at_most", qual := "Step.at_most", params := defArgs (clsM (topS 39) 4), body := defBody (clsM (topS 39) 4), scope := defScope (clsM (topS 39) 4), clo := [], at_ := fun K => cmAd K "Step" "at_most" }, { c := "Step", name := "always", qual := "Step.always", params := defArgs (clsM (topS 39) 5), body := defBody (clsM (topS 39) 5), scope := defScope (clsM (topS 39) 5), clo := [], at_ := fun K => cmAd K "Step" "always" }]
def theXs : List XDef := theXs0
abbrev RowX : PySem.W.OpenRow := PySem.W.OpenLaw.row PySem.Challenge.rw_everylot_k08_steps_turn_amounts
abbrev seen : Program := PySem.W.view RowX.prog [68]
abbrev hk : PySem.W.Hook := hookM "_wall" 2400 theFacts theDefs theXs
def ob (s : PySem.W.SharedT) : AlM := obsMG "_wall" 2400 theFacts theDefs theXs (HandSHeadRun.getT s)
theorem ob_eq (s : PySem.W.SharedT) : ob s = hk.obs s.abs := obsMG_eq (HandSHeadRun.getT_eq s)
noncomputable abbrev endS (w : World) (os : OsState) : Option PySem.W.SharedT := HandSHeadRun.endF (HandSHeadRun.stepQ (HandSHeadRun.denQ HandSHeadRun.tabQ) RowX.prog w) 20000 RowX.prog w os
theorem run1 (w : World) (os : OsState) : (endS w os).map (fun s => HandSHeadRun.looksF RowX.prog (PySem.W.boot_heap w.params) s.abs) = some true := by kernel_rfl
theorem run2 (w : World) (os : OsState) : (endS w os).map (fun s => HandSHeadRun.seenQ seen names (PySem.importedModules RowX.prog.main.body) (fun s => PySem.W.xlAt seen [] s && PySem.W.recOk RowX.toRowW.records s) s.abs) = some (PySem.W.openGood seen names) := by kernel_rfl
theorem run3 (w : World) (os : OsState) : (endS w os).map (fun s => obsMG "_wall" 2400 theFacts [] [] (HandSHeadRun.getT s)) = some (valM [] []) := by kernel_rfl
theorem run4 (w : World) (os : OsState) : (endS w os).map (fun s => obsMG "_wall" 2400 [] theDefs theXs (HandSHeadRun.getT s)) = some (valM theDefs theXs) := by kernel_rfl
theorem run (w : World) : HandSHeadRun.RunEq RowX seen hk ob 20000 names w := fun os => runs_join (run1 w os) (run2 w os) (obs_join (run3 w os) (run4 w os))
end Lw
set_option Elab.async false
set_option linter.all false
set_option maxRecDepth 100000
set_option maxHeartbeats 4000000
namespace Lw
open PySem PySem.Spec PyProof.Rows L2 Mi
open NdefX
def own_copy_b (value : D) : R Unit (Out Unit Empty D) := (obd (sIf (sb (sr value) fun d => so (isTy "list" d)) (sx .stuck) (sr (.nx ()))) fun (r1 : Unit) => (obd (sIf (sb (sr value) fun d => so (isTy "tuple" d)) (sx .stuck) (sr (.nx ()))) fun (r2 : Unit) => (obd (sIf (sb (sr value) fun d => so (isTy "dict" d)) (sx .stuck) (sr (.nx ()))) fun (r3 : Unit) => (sb (sr value) fun x => sr (.rt x)))))
def own_copy (value : D) : Except Er D := runF (own_copy_b value)
def InvalidFraction_b (name : Str) : R Unit (Out (List (Str × D)) Empty Unit) := (sb (sb (sb (sb (sr name) fun z => sr (toD z)) fun x => sb (sr ()) fun a => sr (x, a)) fun a => sl (own_copy a.1)) fun d0 => (sr (.nx [(("name" : Str), d0)])))
def mk_InvalidFraction (name : Str) : Except Er (List (Str × D)) := runX (InvalidFraction_b name)
def InvalidStep_b (part : Str) (at_ : Int) : R Unit (Out (List (Str × D)) Empty Unit) := (sb (sb (sb (sb (sr part) fun z => sr (toD z)) fun x => sb (sr ()) fun a => sr (x, a)) fun a => sl (own_copy a.1)) fun d0 => (sb (sb (sb (sb (sr at_) fun z => sr (toD z)) fun x => sb (sr ()) fun a => sr (x, a)) fun a => sl (own_copy a.1)) fun d1 => (sr (.nx [(("at" : Str), d1), (("part" : Str), d0)]))))
def mk_InvalidStep (part : Str) (at_ : Int) : Except Er (List (Str × D)) := runX (InvalidStep_b part at_)
def InvalidBound_b (name : Str) : R Unit (Out (List (Str × D)) Empty Unit) := (sb (sb (sb (sb (sr name) fun z => sr (toD z)) fun x => sb (sr ()) fun a => sr (x, a)) fun a => sl (own_copy a.1)) fun d0 => (sr (.nx [(("name" : Str), d0)])))
def mk_InvalidBound (name : Str) : Except Er (List (Str × D)) := runX (InvalidBound_b name)
structure KnotsO where
  rows : (List ((Int × Int) × (Int × Int)))
def fl_Knots (K : Fg) (y : KnotsO) : List PFld := [pfl K "rows" y.rows]
instance : Ins KnotsO := insOf "Knots" ["rows"] fl_Knots fun _ _ => rfl
instance : Tg KnotsO := tgOf
instance : Nn KnotsO := ⟨fun {K I v x} h => by obtain ⟨_, _, _, rfl, _⟩ := h; exact fun z => by cases z⟩
theorem fo_Knots_rows : FldOf KnotsO _ "rows" (·.rows) := ⟨fun {K I v x} h => by
  obtain ⟨a, dx, fs, h1, h2, h3⟩ := h
  obtain ⟨u, h4, h5⟩ := fld_at (p := pfl K "rows" x.rows) h3 (List.mem_of_getElem? (i := 0) rfl)
  exact ⟨a, dx, fs, u, h1, h2, h4, h5⟩⟩
structure StepO where
  points : (List ((Int × Int) × (Int × Int)))
  slopes : (List (Int × Int))
def fl_Step (K : Fg) (y : StepO) : List PFld := [pfl K "slopes" y.slopes, pfl K "points" y.points]
instance : Ins StepO := insOf "Step" ["slopes", "points"] fl_Step fun _ _ => rfl
instance : Tg StepO := tgOf
instance : Nn StepO := ⟨fun {K I v x} h => by obtain ⟨_, _, _, rfl, _⟩ := h; exact fun z => by cases z⟩
theorem fo_Step_points : FldOf StepO _ "points" (·.points) := ⟨fun {K I v x} h => by
  obtain ⟨a, dx, fs, h1, h2, h3⟩ := h
  obtain ⟨u, h4, h5⟩ := fld_at (p := pfl K "points" x.points) h3 (List.mem_of_getElem? (i := 1) rfl)
  exact ⟨a, dx, fs, u, h1, h2, h4, h5⟩⟩
theorem fo_Step_slopes : FldOf StepO _ "slopes" (·.slopes) := ⟨fun {K I v x} h => by
  obtain ⟨a, dx, fs, h1, h2, h3⟩ := h
  obtain ⟨u, h4, h5⟩ := fld_at (p := pfl K "slopes" x.slopes) h3 (List.mem_of_getElem? (i := 0) rfl)
  exact ⟨a, dx, fs, u, h1, h2, h4, h5⟩⟩
def is_integer_b (value : D) : R Unit (Out Unit Empty Bool) := (sb (sAnd (sb (sr value) fun d => so (isTy "int" d)) (sb (sb (sr value) fun d => so (isTy "bool" d)) fun x => sr (!x))) fun x => sr (.rt x))
def is_integer (value : D) : Except Er Bool := runF (is_integer_b value)
def is_fraction_b (value : D) : R Unit (Out Unit Empty Bool) := (obd (sIf (sb (sb (sr value) fun x => sb (sr ()) fun a => sr (x, a)) fun a => sl (is_integer a.1)) (sb (sr true) fun x => sr (.rt x)) (sr (.nx ()))) fun (r1 : Unit) => (obd (sIf (sOr (sb (sb (sr value) fun d => so (isTy "tuple" d)) fun x => sr (!x)) (sb (sb (sr value) fun x => so (dlen x)) fun x => sb (sr (2 : Int)) fun y => sr (!decide (x = y)))) (sb (sr false) fun x => sr (.rt x)) (sr (.nx ()))) fun (r2 : Unit) => (sb (sAnd (sb (sb (sb (sr value) fun x => sb (sr (0 : Int)) fun i => so (dix x i)) fun x => sb (sr ()) fun a => sr (x, a)) fun a => sl (is_integer a.1)) (sAnd (sb (sb (sb (sr value) fun x => sb (sr (1 : Int)) fun i => so (dix x i)) fun x => sb (sr ()) fun a => sr (x, a)) fun a => sl (is_integer a.1)) (sb (sb (sb (sr value) fun x => sb (sr (1 : Int)) fun i => so (dix x i)) fun z => so (ofD z : Option Int)) fun x => sb (sr (1 : Int)) fun y => sr (decide (y ≤ x))))) fun x => sr (.rt x))))
def is_fraction (value : D) : Except Er Bool := runF (is_fraction_b value)
def reduced_b (p : Int) (q : Int) : R Unit (Out Unit Empty (Int × Int)) := (sb (sb (sr p) fun x => sr (if x < 0 then -x else x)) fun one1 => (sb (sr q) fun other2 => (obd (whL (fun (r3 : (Int × Int)) => (sb (sr r3.2) fun x => sb (sr (0 : Int)) fun y => sr (!decide (x = y)))) (fun (r3 : (Int × Int)) => (sb (sb (sr r3.2) fun x => sb (sb (sb (sr r3.1) fun x => sb (sr r3.2) fun y => so (pmod x y)) fun x => sb (sr ()) fun a => sr (x, a)) fun a => sr (x, a)) fun p4 => (sr (.nx (p4.1, p4.2.1))))) (other2.natAbs + 1) (one1, other2)) fun (r3 : (Int × Int)) => (sb (sb (sb (sb (sr p) fun x => sb (sr r3.1) fun y => so (pdiv x y)) fun x => sb (sb (sb (sr q) fun x => sb (sr r3.1) fun y => so (pdiv x y)) fun x => sb (sr ()) fun a => sr (x, a)) fun a => sr (x, a)) fun a => sr (a.1, a.2.1)) fun x => sr (.rt x)))))
def reduced (p : Int) (q : Int) : Except Er (Int × Int) := runF (reduced_b p q)
def told_b (value : D) : R Unit (Out Unit Empty (Int × Int)) := (obd (sIf (sb (sb (sr value) fun x => sb (sr ()) fun a => sr (x, a)) fun a => sl (is_integer a.1)) (sb (sb (sb (sb (sr value) fun z => so (ofD z : Option Int)) fun x => sb (sb (sr (1 : Int)) fun x => sb (sr ()) fun a => sr (x, a)) fun a => sr (x, a)) fun a => sr (a.1, a.2.1)) fun x => sr (.rt x)) (sr (.nx ()))) fun (r1 : Unit) => (sb (sb (sb (sb (sb (sr value) fun x => sb (sr (0 : Int)) fun i => so (dix x i)) fun z => so (ofD z : Option Int)) fun x => sb (sb (sb (sb (sr value) fun x => sb (sr (1 : Int)) fun i => so (dix x i)) fun z => so (ofD z : Option Int)) fun x => sb (sr ()) fun a => sr (x, a)) fun a => sr (x, a)) fun a => sl (reduced a.1 a.2.1)) fun x => sr (.rt x)))
def told (value : D) : Except Er (Int × Int) := runF (told_b value)
def asked_b (value : D) (name : Str) : R Unit (Out Unit Empty (Int × Int)) := (obd (sIf (sb (sb (sb (sr value) fun x => sb (sr ()) fun a => sr (x, a)) fun a => sl (is_fraction a.1)) fun x => sr (!x)) (sb (sb (sr name) fun x => sb (sr ()) fun a => sr (x, a)) fun a => sraise "InvalidFraction" (mk_InvalidFraction a.1)) (sr (.nx ()))) fun (r1 : Unit) => (sb (sb (sb (sr value) fun x => sb (sr ()) fun a => sr (x, a)) fun a => sl (told a.1)) fun x => sr (.rt x)))
def asked (value : D) (name : Str) : Except Er (Int × Int) := runF (asked_b value name)
def fsum_b (one : (Int × Int)) (other : (Int × Int)) : R Unit (Out Unit Empty (Int × Int)) := (sb (sb (sb (sb (sb (sb (sr one) fun x => sr x.1) fun x => sb (sb (sr other) fun x => sr x.2) fun y => so (pmul x y)) fun x => sb (sb (sb (sr other) fun x => sr x.1) fun x => sb (sb (sr one) fun x => sr x.2) fun y => so (pmul x y)) fun y => sr (x + y)) fun x => sb (sb (sb (sb (sr one) fun x => sr x.2) fun x => sb (sb (sr other) fun x => sr x.2) fun y => so (pmul x y)) fun x => sb (sr ()) fun a => sr (x, a)) fun a => sr (x, a)) fun a => sl (reduced a.1 a.2.1)) fun x => sr (.rt x))
def fsum (one : (Int × Int)) (other : (Int × Int)) : Except Er (Int × Int) := runF (fsum_b one other)
def fdiff_b (one : (Int × Int)) (other : (Int × Int)) : R Unit (Out Unit Empty (Int × Int)) := (sb (sb (sb (sb (sb (sb (sr one) fun x => sr x.1) fun x => sb (sb (sr other) fun x => sr x.2) fun y => so (pmul x y)) fun x => sb (sb (sb (sr other) fun x => sr x.1) fun x => sb (sb (sr one) fun x => sr x.2) fun y => so (pmul x y)) fun y => sr (x - y)) fun x => sb (sb (sb (sb (sr one) fun x => sr x.2) fun x => sb (sb (sr other) fun x => sr x.2) fun y => so (pmul x y)) fun x => sb (sr ()) fun a => sr (x, a)) fun a => sr (x, a)) fun a => sl (reduced a.1 a.2.1)) fun x => sr (.rt x))
def fdiff (one : (Int × Int)) (other : (Int × Int)) : Except Er (Int × Int) := runF (fdiff_b one other)
def fprod_b (one : (Int × Int)) (other : (Int × Int)) : R Unit (Out Unit Empty (Int × Int)) := (sb (sb (sb (sb (sb (sr one) fun x => sr x.1) fun x => sb (sb (sr other) fun x => sr x.1) fun y => so (pmul x y)) fun x => sb (sb (sb (sb (sr one) fun x => sr x.2) fun x => sb (sb (sr other) fun x => sr x.2) fun y => so (pmul x y)) fun x => sb (sr ()) fun a => sr (x, a)) fun a => sr (x, a)) fun a => sl (reduced a.1 a.2.1)) fun x => sr (.rt x))
def fprod (one : (Int × Int)) (other : (Int × Int)) : Except Er (Int × Int) := runF (fprod_b one other)
def fquot_b (one : (Int × Int)) (other : (Int × Int)) : R Unit (Out Unit Empty (Int × Int)) := (obd (sIf (sb (sb (sr other) fun x => sr x.1) fun x => sb (sr (0 : Int)) fun y => sr (decide (x < y))) (sb (sb (sb (sb (sb (sb (sr one) fun x => sr x.1) fun x => sr (-x)) fun x => sb (sb (sr other) fun x => sr x.2) fun y => so (pmul x y)) fun x => sb (sb (sb (sb (sb (sr one) fun x => sr x.2) fun x => sr (-x)) fun x => sb (sb (sr other) fun x => sr x.1) fun y => so (pmul x y)) fun x => sb (sr ()) fun a => sr (x, a)) fun a => sr (x, a)) fun a => sl (reduced a.1 a.2.1)) fun x => sr (.rt x)) (sr (.nx ()))) fun (r1 : Unit) => (sb (sb (sb (sb (sb (sr one) fun x => sr x.1) fun x => sb (sb (sr other) fun x => sr x.2) fun y => so (pmul x y)) fun x => sb (sb (sb (sb (sr one) fun x => sr x.2) fun x => sb (sb (sr other) fun x => sr x.1) fun y => so (pmul x y)) fun x => sb (sr ()) fun a => sr (x, a)) fun a => sr (x, a)) fun a => sl (reduced a.1 a.2.1)) fun x => sr (.rt x)))
def fquot (one : (Int × Int)) (other : (Int × Int)) : Except Er (Int × Int) := runF (fquot_b one other)
def fless_b (one : (Int × Int)) (other : (Int × Int)) : R Unit (Out Unit Empty Bool) := (sb (sb (sb (sb (sr one) fun x => sr x.1) fun x => sb (sb (sr other) fun x => sr x.2) fun y => so (pmul x y)) fun x => sb (sb (sb (sr other) fun x => sr x.1) fun x => sb (sb (sr one) fun x => sr x.2) fun y => so (pmul x y)) fun y => sr (decide (x < y))) fun x => sr (.rt x))
def fless (one : (Int × Int)) (other : (Int × Int)) : Except Er Bool := runF (fless_b one other)
def canonical_b (points : (List ((Int × Int) × (Int × Int)))) (left : (Int × Int)) (right : (Int × Int)) : R Unit (Out Unit Empty ((List ((Int × Int) × (Int × Int))) × (List (Int × Int)))) := (sb (sb (sr left) fun x => sb (sr ([] : List (Int × Int))) fun a => sr (x :: a)) fun a => sb (so (plen a)) fun slopes1 => (sb (sb (sb (sb (sr points) fun x => sr (x.length : Int)) fun x => sb (sr (1 : Int)) fun y => sr (x - y)) fun n => so (prng 0 n)) fun xs => obd (forL (fun x3 (r2 : (List (Int × Int))) => (sb (sb (sr points) fun x => sb (sr x3) fun i => so (pix x i)) fun one4 => (sb (sb (sr points) fun x => sb (sb (sr x3) fun x => sb (sr (1 : Int)) fun y => sr (x + y)) fun i => so (pix x i)) fun other5 => (sb (sb (sb (sb (sb (sb (sr other5) fun x => sr x.2) fun x => sb (sb (sb (sr one4) fun x => sr x.2) fun x => sb (sr ()) fun a => sr (x, a)) fun a => sr (x, a)) fun a => sl (fdiff a.1 a.2.1)) fun x => sb (sb (sb (sb (sb (sr other5) fun x => sr x.1) fun x => sb (sb (sb (sr one4) fun x => sr x.1) fun x => sb (sr ()) fun a => sr (x, a)) fun a => sr (x, a)) fun a => sl (fdiff a.1 a.2.1)) fun x => sb (sr ()) fun a => sr (x, a)) fun a => sr (x, a)) fun a => sl (fquot a.1 a.2.1)) fun a => sb (so (papp r2 a)) fun slopes6 => (sr (.nx slopes6)))))) xs slopes1) fun (r2 : (List (Int × Int))) => (sb (sr right) fun a => sb (so (papp r2 a)) fun slopes7 => (sb (sb (sb (sb (sr points) fun x => sr (x.length : Int)) fun n => so (prng 0 n)) fun xs => lcL (fun x8 => (sb (sb (sr x8) fun n => so (pix slopes7 n)) fun x => sb (sb (sb (sr x8) fun x => sb (sr (1 : Int)) fun y => sr (x + y)) fun n => so (pix slopes7 n)) fun y => sb (so (peq x y)) fun z => sr (!z))) (fun x8 => (sr x8)) xs []) fun bends9 => (obd (sIf (sb (sb (sr bends9) fun x => sr (x.length : Int)) fun x => sb (sr (0 : Int)) fun y => sr (decide (x = y))) (sb (sb (sr points) fun x => sb (sr (0 : Int)) fun i => so (pix x i)) fun first11 => (sb (sb (sb (sb (sb (sb (sb (sr ((0, 1) : (Int × Int))) fun x => sb (sb (sb (sb (sb (sr first11) fun x => sr x.2) fun x => sb (sb (sb (sb (sr left) fun x => sb (sb (sb (sr first11) fun x => sr x.1) fun x => sb (sr ()) fun a => sr (x, a)) fun a => sr (x, a)) fun a => sl (fprod a.1 a.2.1)) fun x => sb (sr ()) fun a => sr (x, a)) fun a => sr (x, a)) fun a => sl (fdiff a.1 a.2.1)) fun x => sb (sr ()) fun a => sr (x, a)) fun a => sr (x, a)) fun a => sr (a.1, a.2.1)) fun x => sb (sr ([] : List ((Int × Int) × (Int × Int)))) fun a => sr (x :: a)) fun a => so (plen a)) fun x => sb (sb (sb (sb (sr left) fun x => sb (sb (sr right) fun x => sb (sr ([] : List (Int × Int))) fun a => sr (x :: a)) fun a => sr (x :: a)) fun a => so (plen a)) fun x => sb (sr ()) fun a => sr (x, a)) fun a => sr (x, a)) fun a => sr (a.1, a.2.1)) fun x => sr (.rt x))) (sr (.nx ()))) fun (r10 : Unit) => (sb (sb (sb (sb (sr bends9) fun xs => lcL (fun x12 => (sr true)) (fun x12 => (sb (sr points) fun x => sb (sr x12) fun i => so (pix x i))) xs []) fun x => sb (sb (sb (sb (sb (sr left) fun x => sb (sr ([] : List (Int × Int))) fun a => sr (x :: a)) fun a => so (plen a)) fun x => sb (sb (sr bends9) fun xs => lcL (fun x13 => (sr true)) (fun x13 => (sb (sb (sr x13) fun x => sb (sr (1 : Int)) fun y => sr (x + y)) fun n => so (pix slopes7 n))) xs []) fun y => so (plcat x y)) fun x => sb (sr ()) fun a => sr (x, a)) fun a => sr (x, a)) fun a => sr (a.1, a.2.1)) fun x => sr (.rt x)))))))
def canonical (points : (List ((Int × Int) × (Int × Int)))) (left : (Int × Int)) (right : (Int × Int)) : Except Er ((List ((Int × Int) × (Int × Int))) × (List (Int × Int))) := runF (canonical_b points left right)
def value_at_b (shape : ((List ((Int × Int) × (Int × Int))) × (List (Int × Int)))) (x_ : (Int × Int)) : R Unit (Out Unit Empty (Int × Int)) := (sb (sr shape) fun p1 => (sb (sr (0 : Int)) fun at_2 => (obd (whL (fun (r3 : Int) => (sAnd (sb (sr r3) fun x => sb (sb (sr p1.1) fun x => sr (x.length : Int)) fun y => sr (decide (x < y))) (sb (sb (sb (sr x_) fun x => sb (sb (sb (sb (sr p1.1) fun x => sb (sr r3) fun i => so (pix x i)) fun x => sr x.1) fun x => sb (sr ()) fun a => sr (x, a)) fun a => sr (x, a)) fun a => sl (fless a.1 a.2.1)) fun x => sr (!x)))) (fun (r3 : Int) => (sb (sr (1 : Int)) fun y => sb (sr (r3 + y)) fun at_4 => (sr (.nx at_4)))) (p1.1.length + 1) at_2) fun (r3 : Int) => (sb (sb (sr p1.1) fun x => sb (sb (sb (sb (sr r3) fun x => sb (sr (1 : Int)) fun y => sr (x - y)) fun x => sb (sb (sr (0 : Int)) fun x => sb (sr ()) fun a => sr (x, a)) fun a => sr (x, a)) fun x => sr (if x.2.1 > x.1 then x.2.1 else x.1)) fun i => so (pix x i)) fun p5 => (sb (sb (sr p1.2) fun x => sb (sr r3) fun i => so (pix x i)) fun slope6 => (sb (sb (sb (sb (sr x_) fun x => sr x.1) fun x => sb (sb (sr p5.1) fun x => sr x.2) fun y => so (pmul x y)) fun x => sb (sb (sb (sr p5.1) fun x => sr x.1) fun x => sb (sb (sr x_) fun x => sr x.2) fun y => so (pmul x y)) fun y => sr (x - y)) fun run7 => (sb (sb (sb (sb (sr x_) fun x => sr x.2) fun x => sb (sb (sr p5.1) fun x => sr x.2) fun y => so (pmul x y)) fun x => sb (sb (sr slope6) fun x => sr x.2) fun y => so (pmul x y)) fun under8 => (sb (sb (sb (sb (sb (sb (sr p5.2) fun x => sr x.1) fun x => sb (sr under8) fun y => so (pmul x y)) fun x => sb (sb (sb (sb (sr slope6) fun x => sr x.1) fun x => sb (sr run7) fun y => so (pmul x y)) fun x => sb (sb (sr p5.2) fun x => sr x.2) fun y => so (pmul x y)) fun y => sr (x + y)) fun x => sb (sb (sb (sb (sr p5.2) fun x => sr x.2) fun x => sb (sr under8) fun y => so (pmul x y)) fun x => sb (sr ()) fun a => sr (x, a)) fun a => sr (x, a)) fun a => sl (reduced a.1 a.2.1)) fun x => sr (.rt x)))))))))
def value_at (shape : ((List ((Int × Int) × (Int × Int))) × (List (Int × Int)))) (x_ : (Int × Int)) : Except Er (Int × Int) := runF (value_at_b shape x_)
def place_of_b (knot : ((Int × Int) × (Int × Int))) (slope : (Int × Int)) (target : (Int × Int)) : R Unit (Out Unit Empty (Int × Int)) := (sb (sb (sb (sb (sr knot) fun x => sr x.1) fun x => sb (sb (sb (sb (sb (sb (sr target) fun x => sb (sb (sb (sr knot) fun x => sr x.2) fun x => sb (sr ()) fun a => sr (x, a)) fun a => sr (x, a)) fun a => sl (fdiff a.1 a.2.1)) fun x => sb (sb (sr slope) fun x => sb (sr ()) fun a => sr (x, a)) fun a => sr (x, a)) fun a => sl (fquot a.1 a.2.1)) fun x => sb (sr ()) fun a => sr (x, a)) fun a => sr (x, a)) fun a => sl (fsum a.1 a.2.1)) fun x => sr (.rt x))
def place_of (knot : ((Int × Int) × (Int × Int))) (slope : (Int × Int)) (target : (Int × Int)) : Except Er (Int × Int) := runF (place_of_b knot slope target)
def joined_b (first : ((List ((Int × Int) × (Int × Int))) × (List (Int × Int)))) (then_ : ((List ((Int × Int) × (Int × Int))) × (List (Int × Int)))) : R Unit (Out Unit Empty ((List ((Int × Int) × (Int × Int))) × (List (Int × Int)))) := (sb (sr first) fun p1 => (sb (sb (sb (sr then_) fun x => sr x.1) fun xs => lcL (fun x2 => (sr true)) (fun x2 => (sb (sr x2) fun x => sr x.1)) xs []) fun targets3 => (sb (sr ([] : List (Int × Int))) fun a => sb (so (plen a)) fun spots4 => (obd (sIf (sb (sb (sb (sr p1.2) fun x => sb (sr (0 : Int)) fun i => so (pix x i)) fun x => sr x.1) fun x => sb (sr (0 : Int)) fun y => sr (decide (y < x))) (sb (sr targets3) fun xs => obd (forL (fun x7 (r6 : (List (Int × Int))) => (obd (sIf (sb (sb (sr x7) fun x => sb (sb (sb (sb (sr p1.1) fun x => sb (sr (0 : Int)) fun i => so (pix x i)) fun x => sr x.2) fun x => sb (sr ()) fun a => sr (x, a)) fun a => sr (x, a)) fun a => sl (fless a.1 a.2.1)) (sb (sb (sb (sb (sr p1.1) fun x => sb (sr (0 : Int)) fun i => so (pix x i)) fun x => sb (sb (sb (sr p1.2) fun x => sb (sr (0 : Int)) fun i => so (pix x i)) fun x => sb (sb (sr x7) fun x => sb (sr ()) fun a => sr (x, a)) fun a => sr (x, a)) fun a => sr (x, a)) fun a => sl (place_of a.1 a.2.1 a.2.2.1)) fun a => sb (so (papp r6 a)) fun spots9 => (sr (.nx spots9))) (sr (.nx r6))) fun (r8 : (List (Int × Int))) => (sr (.nx r8)))) xs spots4) fun (r6 : (List (Int × Int))) => (sr (.nx r6))) (sr (.nx spots4))) fun (r5 : (List (Int × Int))) => (sb (sb (sb (sr p1.1) fun x => sr (x.length : Int)) fun n => so (prng 0 n)) fun xs => obd (forL (fun x11 (r10 : (List (Int × Int))) => (sb (sb (sb (sr p1.1) fun x => sb (sr x11) fun i => so (pix x i)) fun x => sr x.1) fun a => sb (so (papp r10 a)) fun spots12 => (sb (sb (sb (sr x11) fun x => sb (sr (1 : Int)) fun y => sr (x + y)) fun x => sb (sb (sr p1.1) fun x => sr (x.length : Int)) fun y => sr (decide (x = y))) fun last13 => (obd (sIf (sb (sb (sb (sr p1.2) fun x => sb (sb (sr x11) fun x => sb (sr (1 : Int)) fun y => sr (x + y)) fun i => so (pix x i)) fun x => sr x.1) fun x => sb (sr (0 : Int)) fun y => sr (decide (y < x))) (sb (sr targets3) fun xs => obd (forL (fun x16 (r15 : (List (Int × Int))) => (obd (sIf (sAnd (sb (sb (sb (sb (sr p1.1) fun x => sb (sr x11) fun i => so (pix x i)) fun x => sr x.2) fun x => sb (sb (sr x16) fun x => sb (sr ()) fun a => sr (x, a)) fun a => sr (x, a)) fun a => sl (fless a.1 a.2.1)) (sOr (sr last13) (sb (sb (sr x16) fun x => sb (sb (sb (sb (sr p1.1) fun x => sb (sb (sr x11) fun x => sb (sr (1 : Int)) fun y => sr (x + y)) fun i => so (pix x i)) fun x => sr x.2) fun x => sb (sr ()) fun a => sr (x, a)) fun a => sr (x, a)) fun a => sl (fless a.1 a.2.1)))) (sb (sb (sb (sb (sr p1.1) fun x => sb (sr x11) fun i => so (pix x i)) fun x => sb (sb (sb (sr p1.2) fun x => sb (sb (sr x11) fun x => sb (sr (1 : Int)) fun y => sr (x + y)) fun i => so (pix x i)) fun x => sb (sb (sr x16) fun x => sb (sr ()) fun a => sr (x, a)) fun a => sr (x, a)) fun a => sr (x, a)) fun a => sl (place_of a.1 a.2.1 a.2.2.1)) fun a => sb (so (papp r15 a)) fun spots18 => (sr (.nx spots18))) (sr (.nx r15))) fun (r17 : (List (Int × Int))) => (sr (.nx r17)))) xs spots12) fun (r15 : (List (Int × Int))) => (sr (.nx r15))) (sr (.nx spots12))) fun (r14 : (List (Int × Int))) => (sr (.nx r14)))))) xs r5) fun (r10 : (List (Int × Int))) => (sb (sb (sr r10) fun xs => lcL (fun x19 => (sr true)) (fun x19 => (sb (sb (sr x19) fun x => sb (sb (sb (sb (sr then_) fun x => sb (sb (sb (sb (sr first) fun x => sb (sb (sr x19) fun x => sb (sr ()) fun a => sr (x, a)) fun a => sr (x, a)) fun a => sl (value_at a.1 a.2.1)) fun x => sb (sr ()) fun a => sr (x, a)) fun a => sr (x, a)) fun a => sl (value_at a.1 a.2.1)) fun x => sb (sr ()) fun a => sr (x, a)) fun a => sr (x, a)) fun a => sr (a.1, a.2.1))) xs []) fun rows20 => (sb (sb (sb (sr rows20) fun x => sb (sb (sb (sb (sb (sr p1.2) fun x => sb (sr (0 : Int)) fun i => so (pix x i)) fun x => sb (sb (sb (sb (sr then_) fun x => sr x.2) fun x => sb (sr (0 : Int)) fun i => so (pix x i)) fun x => sb (sr ()) fun a => sr (x, a)) fun a => sr (x, a)) fun a => sl (fprod a.1 a.2.1)) fun x => sb (sb (sb (sb (sb (sr p1.2) fun x => sb (sb (sr (1 : Int)) fun x => sr (-x)) fun i => so (pix x i)) fun x => sb (sb (sb (sb (sr then_) fun x => sr x.2) fun x => sb (sb (sr (1 : Int)) fun x => sr (-x)) fun i => so (pix x i)) fun x => sb (sr ()) fun a => sr (x, a)) fun a => sr (x, a)) fun a => sl (fprod a.1 a.2.1)) fun x => sb (sr ()) fun a => sr (x, a)) fun a => sr (x, a)) fun a => sr (x, a)) fun a => sl (canonical a.1 a.2.1 a.2.2.1)) fun x => sr (.rt x))))))))
def joined (first : ((List ((Int × Int) × (Int × Int))) × (List (Int × Int)))) (then_ : ((List ((Int × Int) × (Int × Int))) × (List (Int × Int)))) : Except Er ((List ((Int × Int) × (Int × Int))) × (List (Int × Int))) := runF (joined_b first then_)
def Knots___init___b (rows : (List ((Int × Int) × (Int × Int)))) : R Unit (Out KnotsO Empty Unit) := (sb (sb (sr rows) fun x => sr x) fun rows1 => (sr (.nx (⟨rows1⟩ : KnotsO))))
def mk_Knots (rows : (List ((Int × Int) × (Int × Int)))) : Except Er KnotsO := runM (Knots___init___b rows)
def is_slope_b (value : D) : R Unit (Out Unit Empty Bool) := (sb (sAnd (sb (sb (sr value) fun x => sb (sr ()) fun a => sr (x, a)) fun a => sl (is_fraction a.1)) (sb (sb (sb (sb (sr value) fun x => sb (sr ()) fun a => sr (x, a)) fun a => sl (told a.1)) fun x => sr x.1) fun x => sb (sr (0 : Int)) fun y => sr (decide (y ≤ x)))) fun x => sr (.rt x))
def is_slope (value : D) : Except Er Bool := runF (is_slope_b value)
def told_knot_b (entry : D) : R Unit (Out Unit Empty (Option ((Int × Int) × (Int × Int)))) := (obd (sIf (sOr (sb (sb (sr entry) fun d => so (isTy "tuple" d)) fun x => sr (!x)) (sb (sb (sr entry) fun x => so (dlen x)) fun x => sb (sr (2 : Int)) fun y => sr (!decide (x = y)))) (sb (sr (none : (Option ((Int × Int) × (Int × Int))))) fun x => sr (.rt x)) (sr (.nx ()))) fun (r1 : Unit) => (obd (sIf (sOr (sb (sb (sb (sb (sr entry) fun x => sb (sr (0 : Int)) fun i => so (dix x i)) fun x => sb (sr ()) fun a => sr (x, a)) fun a => sl (is_fraction a.1)) fun x => sr (!x)) (sb (sb (sb (sb (sr entry) fun x => sb (sr (1 : Int)) fun i => so (dix x i)) fun x => sb (sr ()) fun a => sr (x, a)) fun a => sl (is_fraction a.1)) fun x => sr (!x))) (sb (sr (none : (Option ((Int × Int) × (Int × Int))))) fun x => sr (.rt x)) (sr (.nx ()))) fun (r2 : Unit) => (sb (sb (sb (sb (sb (sb (sb (sr entry) fun x => sb (sr (0 : Int)) fun i => so (dix x i)) fun x => sb (sr ()) fun a => sr (x, a)) fun a => sl (told a.1)) fun x => sb (sb (sb (sb (sb (sr entry) fun x => sb (sr (1 : Int)) fun i => so (dix x i)) fun x => sb (sr ()) fun a => sr (x, a)) fun a => sl (told a.1)) fun x => sb (sr ()) fun a => sr (x, a)) fun a => sr (x, a)) fun a => sr (a.1, a.2.1)) fun z => sr (some z)) fun x => sr (.rt x))))
def told_knot (entry : D) : Except Er (Option ((Int × Int) × (Int × Int))) := runF (told_knot_b entry)
def checked_knots_b (knots : (KnotsO ⊕ (List ((Int × Int) × (Int × Int))))) : R Unit (Out Unit Empty (List ((Int × Int) × (Int × Int)))) := (obd (sIf (sb (sr knots) fun d => so (isC theTags (Tg.tag d) "Knots")) (sb (sb (sb (sb (sr knots) fun z => so (sumL z)) fun x => sr x.rows) fun x => sr x) fun x => sr (.rt x)) (sr (.nx ()))) fun (r1 : Unit) => (obd (sIf (sOr (sb (sb (sb (sb (sr knots) fun z => so (sumR z)) fun z => sr (toD z)) fun d => so (isTy "list" d)) fun x => sr (!x)) (sb (sb (sr (1 : Int)) fun x => sb (sb (sb (sr knots) fun z => so (sumR z)) fun x => sr (x.length : Int)) fun y => if x ≤ y then sb (sr (64 : Int)) fun z => sr (decide (y ≤ z)) else sr false) fun x => sr (!x))) (sb (sb (sr ("knots" : Str)) fun x => sb (sb (sb (sr (1 : Int)) fun x => sr (-x)) fun x => sb (sr ()) fun a => sr (x, a)) fun a => sr (x, a)) fun a => sraise "InvalidStep" (mk_InvalidStep a.1 a.2.1)) (sr (.nx ()))) fun (r2 : Unit) => (sb (sr ([] : List ((Int × Int) × (Int × Int)))) fun a => sb (so (plen a)) fun rows3 => (sb (sb (sb (sb (sr knots) fun z => so (sumR z)) fun x => sr (x.length : Int)) fun n => so (prng 0 n)) fun xs => obd (forL (fun x5 (r4 : (List ((Int × Int) × (Int × Int)))) => (sb (sb (sb (sb (sb (sb (sr knots) fun z => so (sumR z)) fun x => sb (sr x5) fun i => so (pix x i)) fun z => sr (toD z)) fun x => sb (sr ()) fun a => sr (x, a)) fun a => sl (told_knot a.1)) fun knot6 => (obd (sIf (sb (sr knot6) fun x => sr x.isNone) (sb (sb (sr ("knots" : Str)) fun x => sb (sb (sr x5) fun x => sb (sr ()) fun a => sr (x, a)) fun a => sr (x, a)) fun a => sraise "InvalidStep" (mk_InvalidStep a.1 a.2.1)) (sr (.nx ()))) fun (r7 : Unit) => (obd (sIf (sAnd (sb (sr x5) fun x => sb (sr (0 : Int)) fun y => sr (decide (y < x))) (sOr (sb (sb (sb (sb (sb (sb (sr (1 : Int)) fun x => sr (-x)) fun n => so (pix r4 n)) fun x => sr x.1) fun x => sb (sb (sb (sb (sr knot6) so) fun x => sr x.1) fun x => sb (sr ()) fun a => sr (x, a)) fun a => sr (x, a)) fun a => sl (fless a.1 a.2.1)) fun x => sr (!x)) (sb (sb (sb (sb (sr knot6) so) fun x => sr x.2) fun x => sb (sb (sb (sb (sb (sr (1 : Int)) fun x => sr (-x)) fun n => so (pix r4 n)) fun x => sr x.2) fun x => sb (sr ()) fun a => sr (x, a)) fun a => sr (x, a)) fun a => sl (fless a.1 a.2.1)))) (sb (sb (sr ("knots" : Str)) fun x => sb (sb (sr x5) fun x => sb (sr ()) fun a => sr (x, a)) fun a => sr (x, a)) fun a => sraise "InvalidStep" (mk_InvalidStep a.1 a.2.1)) (sr (.nx ()))) fun (r8 : Unit) => (sb (sb (sr knot6) so) fun a => sb (so (papp r4 a)) fun rows9 => (sr (.nx rows9))))))) xs rows3) fun (r4 : (List ((Int × Int) × (Int × Int)))) => (sb (sr r4) fun x => sr (.rt x))))))
def checked_knots (knots : (KnotsO ⊕ (List ((Int × Int) × (Int × Int))))) : Except Er (List ((Int × Int) × (Int × Int))) := runF (checked_knots_b knots)
def Step___init___b (left : D) (knots : (KnotsO ⊕ (List ((Int × Int) × (Int × Int))))) (right : D) : R Unit (Out StepO Empty Unit) := (obd (sIf (sb (sb (sb (sr left) fun x => sb (sr ()) fun a => sr (x, a)) fun a => sl (is_slope a.1)) fun x => sr (!x)) (sb (sb (sr ("left" : Str)) fun x => sb (sb (sb (sr (1 : Int)) fun x => sr (-x)) fun x => sb (sr ()) fun a => sr (x, a)) fun a => sr (x, a)) fun a => sraise "InvalidStep" (mk_InvalidStep a.1 a.2.1)) (sr (.nx ()))) fun (r1 : Unit) => (sb (sb (sb (sr knots) fun x => sb (sr ()) fun a => sr (x, a)) fun a => sl (checked_knots a.1)) fun rows2 => (obd (sIf (sb (sb (sb (sr right) fun x => sb (sr ()) fun a => sr (x, a)) fun a => sl (is_slope a.1)) fun x => sr (!x)) (sb (sb (sr ("right" : Str)) fun x => sb (sb (sb (sr (1 : Int)) fun x => sr (-x)) fun x => sb (sr ()) fun a => sr (x, a)) fun a => sr (x, a)) fun a => sraise "InvalidStep" (mk_InvalidStep a.1 a.2.1)) (sr (.nx ()))) fun (r3 : Unit) => (sb (sb (sb (sr rows2) fun x => sb (sb (sb (sb (sr left) fun x => sb (sr ()) fun a => sr (x, a)) fun a => sl (told a.1)) fun x => sb (sb (sb (sb (sr right) fun x => sb (sr ()) fun a => sr (x, a)) fun a => sl (told a.1)) fun x => sb (sr ()) fun a => sr (x, a)) fun a => sr (x, a)) fun a => sr (x, a)) fun a => sl (canonical a.1 a.2.1 a.2.2.1)) fun p4 => (sr (.nx (⟨p4.1, p4.2⟩ : StepO)))))))
def mk_Step (left : D) (knots : (KnotsO ⊕ (List ((Int × Int) × (Int × Int))))) (right : D) : Except Er StepO := runM (Step___init___b left knots right)
def Step_shape_b (self : StepO) : R Unit (Out Unit Empty ((List ((Int × Int) × (Int × Int))) × (List (Int × Int)))) := (sb (sb (sb (sb (sr self) fun x => sr x.points) fun x => sb (sb (sb (sr self) fun x => sr x.slopes) fun x => sb (sr ()) fun a => sr (x, a)) fun a => sr (x, a)) fun a => sr (a.1, a.2.1)) fun x => sr (.rt x))
def Step_shape (self : StepO) : Except Er ((List ((Int × Int) × (Int × Int))) × (List (Int × Int))) := runF (Step_shape_b self)
def Step_left_b (self : StepO) : R Unit (Out Unit Empty (Int × Int)) := (sb (sb (sb (sr self) fun x => sr x.slopes) fun x => sb (sr (0 : Int)) fun i => so (pix x i)) fun x => sr (.rt x))
def Step_left (self : StepO) : Except Er (Int × Int) := runF (Step_left_b self)
def Step_right_b (self : StepO) : R Unit (Out Unit Empty (Int × Int)) := (sb (sb (sb (sr self) fun x => sr x.slopes) fun x => sb (sb (sr (1 : Int)) fun x => sr (-x)) fun i => so (pix x i)) fun x => sr (.rt x))
def Step_right (self : StepO) : Except Er (Int × Int) := runF (Step_right_b self)
def Step_knots_b (self : StepO) : R Unit (Out Unit Empty (List ((Int × Int) × (Int × Int)))) := (sb (sb (sb (sr self) fun x => sr x.points) fun x => sr x) fun x => sr (.rt x))
def Step_knots (self : StepO) : Except Er (List ((Int × Int) × (Int × Int))) := runF (Step_knots_b self)
def Step___call___b (self : StepO) (amount : D) : R Unit (Out Unit Empty (Int × Int)) := (sb (sb (sb (sb (sr self) fun x => sl (Step_shape x)) fun x => sb (sb (sb (sb (sr amount) fun x => sb (sb (sr ("amount" : Str)) fun x => sb (sr ()) fun a => sr (x, a)) fun a => sr (x, a)) fun a => sl (asked a.1 a.2.1)) fun x => sb (sr ()) fun a => sr (x, a)) fun a => sr (x, a)) fun a => sl (value_at a.1 a.2.1)) fun x => sr (.rt x))
def Step___call__ (self : StepO) (amount : D) : Except Er (Int × Int) := runF (Step___call___b self amount)
def Step___rshift___b (self : StepO) (other : StepO) : R Unit (Out Unit Empty StepO) := (sb (sb (sb (sb (sr self) fun x => sl (Step_shape x)) fun x => sb (sb (sb (sr other) fun x => sl (Step_shape x)) fun x => sb (sr ()) fun a => sr (x, a)) fun a => sr (x, a)) fun a => sl (joined a.1 a.2.1)) fun p1 => (sb (sb (sb (sb (sb (sr p1.2) fun x => sb (sr (0 : Int)) fun i => so (pix x i)) fun z => sr (toD z)) fun x => sb (sb (sb (sb (sb (sr p1.1) fun x => sb (sr ()) fun a => sr (x, a)) fun a => sl (mk_Knots a.1)) fun z => sr (Sum.inl z : (KnotsO ⊕ (List ((Int × Int) × (Int × Int)))))) fun x => sb (sb (sb (sb (sr p1.2) fun x => sb (sb (sr (1 : Int)) fun x => sr (-x)) fun i => so (pix x i)) fun z => sr (toD z)) fun x => sb (sr ()) fun a => sr (x, a)) fun a => sr (x, a)) fun a => sr (x, a)) fun a => sl (mk_Step a.1 a.2.1 a.2.2.1)) fun x => sr (.rt x)))
def Step___rshift__ (self : StepO) (other : StepO) : Except Er StepO := runF (Step___rshift___b self other)
def Step_plus_b (cls : (ClsV "Step")) (amount : D) : R Unit (Out Unit Empty StepO) := (sb (sb (sb (sb (sr ((1, 1) : (Int × Int))) fun z => sr (toD z)) fun x => sb (sb (sb (sb (sb (sb (sb (sr ((0, 1) : (Int × Int))) fun x => sb (sb (sb (sb (sr amount) fun x => sb (sb (sr ("amount" : Str)) fun x => sb (sr ()) fun a => sr (x, a)) fun a => sr (x, a)) fun a => sl (asked a.1 a.2.1)) fun x => sb (sr ()) fun a => sr (x, a)) fun a => sr (x, a)) fun a => sr (a.1, a.2.1)) fun x => sb (sr ([] : List ((Int × Int) × (Int × Int)))) fun a => sr (x :: a)) fun a => so (plen a)) fun z => sr (Sum.inr z : (KnotsO ⊕ (List ((Int × Int) × (Int × Int)))))) fun x => sb (sb (sb (sr ((1, 1) : (Int × Int))) fun z => sr (toD z)) fun x => sb (sr ()) fun a => sr (x, a)) fun a => sr (x, a)) fun a => sr (x, a)) fun a => sl (mk_Step a.1 a.2.1 a.2.2.1)) fun x => sr (.rt x))
def Step_plus (cls : (ClsV "Step")) (amount : D) : Except Er StepO := runF (Step_plus_b cls amount)
def Step_times_b (cls : (ClsV "Step")) (ratio : D) : R Unit (Out Unit Empty StepO) := (sb (sb (sb (sr ratio) fun x => sb (sb (sr ("ratio" : Str)) fun x => sb (sr ()) fun a => sr (x, a)) fun a => sr (x, a)) fun a => sl (asked a.1 a.2.1)) fun slope1 => (obd (sIf (sb (sb (sr slope1) fun x => sr x.1) fun x => sb (sr (0 : Int)) fun y => sr (decide (x < y))) (sb (sb (sr ("ratio" : Str)) fun x => sb (sr ()) fun a => sr (x, a)) fun a => sraise "InvalidBound" (mk_InvalidBound a.1)) (sr (.nx ()))) fun (r2 : Unit) => (sb (sb (sb (sb (sr slope1) fun z => sr (toD z)) fun x => sb (sb (sb (sb (sb (sb (sb (sr ((0, 1) : (Int × Int))) fun x => sb (sb (sr ((0, 1) : (Int × Int))) fun x => sb (sr ()) fun a => sr (x, a)) fun a => sr (x, a)) fun a => sr (a.1, a.2.1)) fun x => sb (sr ([] : List ((Int × Int) × (Int × Int)))) fun a => sr (x :: a)) fun a => so (plen a)) fun z => sr (Sum.inr z : (KnotsO ⊕ (List ((Int × Int) × (Int × Int)))))) fun x => sb (sb (sb (sr slope1) fun z => sr (toD z)) fun x => sb (sr ()) fun a => sr (x, a)) fun a => sr (x, a)) fun a => sr (x, a)) fun a => sl (mk_Step a.1 a.2.1 a.2.2.1)) fun x => sr (.rt x))))
def Step_times (cls : (ClsV "Step")) (ratio : D) : Except Er StepO := runF (Step_times_b cls ratio)
def Step_at_least_b (cls : (ClsV "Step")) (bound : D) : R Unit (Out Unit Empty StepO) := (sb (sb (sb (sr bound) fun x => sb (sb (sr ("bound" : Str)) fun x => sb (sr ()) fun a => sr (x, a)) fun a => sr (x, a)) fun a => sl (asked a.1 a.2.1)) fun place1 => (sb (sb (sb (sb (sr ((0, 1) : (Int × Int))) fun z => sr (toD z)) fun x => sb (sb (sb (sb (sb (sb (sb (sr place1) fun x => sb (sb (sr place1) fun x => sb (sr ()) fun a => sr (x, a)) fun a => sr (x, a)) fun a => sr (a.1, a.2.1)) fun x => sb (sr ([] : List ((Int × Int) × (Int × Int)))) fun a => sr (x :: a)) fun a => so (plen a)) fun z => sr (Sum.inr z : (KnotsO ⊕ (List ((Int × Int) × (Int × Int)))))) fun x => sb (sb (sb (sr ((1, 1) : (Int × Int))) fun z => sr (toD z)) fun x => sb (sr ()) fun a => sr (x, a)) fun a => sr (x, a)) fun a => sr (x, a)) fun a => sl (mk_Step a.1 a.2.1 a.2.2.1)) fun x => sr (.rt x)))
def Step_at_least (cls : (ClsV "Step")) (bound : D) : Except Er StepO := runF (Step_at_least_b cls bound)
def Step_at_most_b (cls : (ClsV "Step")) (bound : D) : R Unit (Out Unit Empty StepO) := (sb (sb (sb (sr bound) fun x => sb (sb (sr ("bound" : Str)) fun x => sb (sr ()) fun a => sr (x, a)) fun a => sr (x, a)) fun a => sl (asked a.1 a.2.1)) fun place1 => (sb (sb (sb (sb (sr ((1, 1) : (Int × Int))) fun z => sr (toD z)) fun x => sb (sb (sb (sb (sb (sb (sb (sr place1) fun x => sb (sb (sr place1) fun x => sb (sr ()) fun a => sr (x, a)) fun a => sr (x, a)) fun a => sr (a.1, a.2.1)) fun x => sb (sr ([] : List ((Int × Int) × (Int × Int)))) fun a => sr (x :: a)) fun a => so (plen a)) fun z => sr (Sum.inr z : (KnotsO ⊕ (List ((Int × Int) × (Int × Int)))))) fun x => sb (sb (sb (sr ((0, 1) : (Int × Int))) fun z => sr (toD z)) fun x => sb (sr ()) fun a => sr (x, a)) fun a => sr (x, a)) fun a => sr (x, a)) fun a => sl (mk_Step a.1 a.2.1 a.2.2.1)) fun x => sr (.rt x)))
def Step_at_most (cls : (ClsV "Step")) (bound : D) : Except Er StepO := runF (Step_at_most_b cls bound)
def Step_always_b (cls : (ClsV "Step")) (amount : D) : R Unit (Out Unit Empty StepO) := (sb (sb (sb (sb (sr ((0, 1) : (Int × Int))) fun z => sr (toD z)) fun x => sb (sb (sb (sb (sb (sb (sb (sr ((0, 1) : (Int × Int))) fun x => sb (sb (sb (sb (sr amount) fun x => sb (sb (sr ("amount" : Str)) fun x => sb (sr ()) fun a => sr (x, a)) fun a => sr (x, a)) fun a => sl (asked a.1 a.2.1)) fun x => sb (sr ()) fun a => sr (x, a)) fun a => sr (x, a)) fun a => sr (a.1, a.2.1)) fun x => sb (sr ([] : List ((Int × Int) × (Int × Int)))) fun a => sr (x :: a)) fun a => so (plen a)) fun z => sr (Sum.inr z : (KnotsO ⊕ (List ((Int × Int) × (Int × Int)))))) fun x => sb (sb (sb (sr ((0, 1) : (Int × Int))) fun z => sr (toD z)) fun x => sb (sr ()) fun a => sr (x, a)) fun a => sr (x, a)) fun a => sr (x, a)) fun a => sl (mk_Step a.1 a.2.1 a.2.2.1)) fun x => sr (.rt x))
def Step_always (cls : (ClsV "Step")) (amount : D) : Except Er StepO := runF (Step_always_b cls amount)
def L_law_whole_b (value : D) : R Unit (Out Unit Empty Bool) := (sb (sAnd (sb (sr value) fun d => so (isTy "int" d)) (sb (sb (sr value) fun d => so (isTy "bool" d)) fun x => sr (!x))) fun x => sr (.rt x))
def L_law_whole (value : D) : Except Er Bool := runF (L_law_whole_b value)
def L_law_gcd_b (one : Int) (other : Int) : R Unit (Out Unit Empty Int) := (sb (sb (sr one) fun x => sr (if x < 0 then -x else x)) fun one1 => (sb (sb (sr other) fun x => sr (if x < 0 then -x else x)) fun other2 => (obd (whL (fun (r3 : (Int × Int)) => (sb (sr r3.2) fun x => sb (sr (0 : Int)) fun y => sr (!decide (x = y)))) (fun (r3 : (Int × Int)) => (sb (sb (sb (sr r3.1) fun x => sr x) fun x => sb (sr r3.2) fun y => so (pmod x y)) fun rest4 => (sb (sr r3.2) fun one5 => (sb (sr rest4) fun other6 => (sr (.nx (one5, other6))))))) (other2.natAbs + 1) (one1, other2)) fun (r3 : (Int × Int)) => (sb (sr r3.1) fun x => sr (.rt x)))))
def L_law_gcd (one : Int) (other : Int) : Except Er Int := runF (L_law_gcd_b one other)
def L_law_told_b (value : D) : R Unit (Out Unit Empty Bool) := (obd (sIf (sOr (sb (sb (sr value) fun d => so (isTy "tuple" d)) fun x => sr (!x)) (sb (sb (sr value) fun x => so (dlen x)) fun x => sb (sr (2 : Int)) fun y => sr (!decide (x = y)))) (sb (sr false) fun x => sr (.rt x)) (sr (.nx ()))) fun (r1 : Unit) => (obd (sIf (sOr (sb (sb (sb (sb (sr value) fun x => sb (sr (0 : Int)) fun i => so (dix x i)) fun x => sb (sr ()) fun a => sr (x, a)) fun a => sl (L_law_whole a.1)) fun x => sr (!x)) (sb (sb (sb (sb (sr value) fun x => sb (sr (1 : Int)) fun i => so (dix x i)) fun x => sb (sr ()) fun a => sr (x, a)) fun a => sl (L_law_whole a.1)) fun x => sr (!x))) (sb (sr false) fun x => sr (.rt x)) (sr (.nx ()))) fun (r2 : Unit) => (sb (sAnd (sb (sb (sb (sr value) fun x => sb (sr (1 : Int)) fun i => so (dix x i)) fun z => so (ofD z : Option Int)) fun x => sb (sr (1 : Int)) fun y => sr (decide (y ≤ x))) (sb (sb (sb (sb (sb (sr value) fun x => sb (sr (0 : Int)) fun i => so (dix x i)) fun z => so (ofD z : Option Int)) fun x => sb (sb (sb (sb (sr value) fun x => sb (sr (1 : Int)) fun i => so (dix x i)) fun z => so (ofD z : Option Int)) fun x => sb (sr ()) fun a => sr (x, a)) fun a => sr (x, a)) fun a => sl (L_law_gcd a.1 a.2.1)) fun x => sb (sr (1 : Int)) fun y => sr (decide (x = y)))) fun x => sr (.rt x))))
def L_law_told (value : D) : Except Er Bool := runF (L_law_told_b value)
def L_law_even_b (one : (Int × Int)) (other : (Int × Int)) : R Unit (Out Unit Empty Bool) := (sb (sb (sb (sb (sr one) fun x => sr x.1) fun x => sb (sb (sr other) fun x => sr x.2) fun y => so (pmul x y)) fun x => sb (sb (sb (sr other) fun x => sr x.1) fun x => sb (sb (sr one) fun x => sr x.2) fun y => so (pmul x y)) fun y => sr (decide (x = y))) fun x => sr (.rt x))
def L_law_even (one : (Int × Int)) (other : (Int × Int)) : Except Er Bool := runF (L_law_even_b one other)
def L_law_less_b (one : (Int × Int)) (other : (Int × Int)) : R Unit (Out Unit Empty Bool) := (sb (sb (sb (sb (sr one) fun x => sr x.1) fun x => sb (sb (sr other) fun x => sr x.2) fun y => so (pmul x y)) fun x => sb (sb (sb (sr other) fun x => sr x.1) fun x => sb (sb (sr one) fun x => sr x.2) fun y => so (pmul x y)) fun y => sr (decide (x < y))) fun x => sr (.rt x))
def L_law_less (one : (Int × Int)) (other : (Int × Int)) : Except Er Bool := runF (L_law_less_b one other)
def L_law_gives_b (value : D) (due : (Int × Int)) : R Unit (Out Unit Empty Bool) := (sb (sAnd (sb (sb (sr value) fun x => sb (sr ()) fun a => sr (x, a)) fun a => sl (L_law_told a.1)) (sb (sb (sb (sr value) fun z => so (ofD z : Option (Int × Int))) fun x => sb (sb (sr due) fun x => sb (sr ()) fun a => sr (x, a)) fun a => sr (x, a)) fun a => sl (L_law_even a.1 a.2.1))) fun x => sr (.rt x))
def L_law_gives (value : D) (due : (Int × Int)) : Except Er Bool := runF (L_law_gives_b value due)
def L_law_plus_b (one : (Int × Int)) (other : (Int × Int)) : R Unit (Out Unit Empty (Int × Int)) := (sb (sb (sb (sb (sb (sb (sr one) fun x => sr x.1) fun x => sb (sb (sr other) fun x => sr x.2) fun y => so (pmul x y)) fun x => sb (sb (sb (sr other) fun x => sr x.1) fun x => sb (sb (sr one) fun x => sr x.2) fun y => so (pmul x y)) fun y => sr (x + y)) fun x => sb (sb (sb (sb (sr one) fun x => sr x.2) fun x => sb (sb (sr other) fun x => sr x.2) fun y => so (pmul x y)) fun x => sb (sr ()) fun a => sr (x, a)) fun a => sr (x, a)) fun a => sr (a.1, a.2.1)) fun x => sr (.rt x))
def L_law_plus (one : (Int × Int)) (other : (Int × Int)) : Except Er (Int × Int) := runF (L_law_plus_b one other)
def L_law_minus_b (one : (Int × Int)) (other : (Int × Int)) : R Unit (Out Unit Empty (Int × Int)) := (sb (sb (sb (sb (sb (sb (sr one) fun x => sr x.1) fun x => sb (sb (sr other) fun x => sr x.2) fun y => so (pmul x y)) fun x => sb (sb (sb (sr other) fun x => sr x.1) fun x => sb (sb (sr one) fun x => sr x.2) fun y => so (pmul x y)) fun y => sr (x - y)) fun x => sb (sb (sb (sb (sr one) fun x => sr x.2) fun x => sb (sb (sr other) fun x => sr x.2) fun y => so (pmul x y)) fun x => sb (sr ()) fun a => sr (x, a)) fun a => sr (x, a)) fun a => sr (a.1, a.2.1)) fun x => sr (.rt x))
def L_law_minus (one : (Int × Int)) (other : (Int × Int)) : Except Er (Int × Int) := runF (L_law_minus_b one other)
def L_law_times_b (one : (Int × Int)) (other : (Int × Int)) : R Unit (Out Unit Empty (Int × Int)) := (sb (sb (sb (sb (sb (sr one) fun x => sr x.1) fun x => sb (sb (sr other) fun x => sr x.1) fun y => so (pmul x y)) fun x => sb (sb (sb (sb (sr one) fun x => sr x.2) fun x => sb (sb (sr other) fun x => sr x.2) fun y => so (pmul x y)) fun x => sb (sr ()) fun a => sr (x, a)) fun a => sr (x, a)) fun a => sr (a.1, a.2.1)) fun x => sr (.rt x))
def L_law_times (one : (Int × Int)) (other : (Int × Int)) : Except Er (Int × Int) := runF (L_law_times_b one other)
def L_law_over_b (one : (Int × Int)) (other : (Int × Int)) : R Unit (Out Unit Empty (Int × Int)) := (sb (sb (sb (sb (sb (sr one) fun x => sr x.1) fun x => sb (sb (sr other) fun x => sr x.2) fun y => so (pmul x y)) fun x => sb (sb (sb (sb (sr one) fun x => sr x.2) fun x => sb (sb (sr other) fun x => sr x.1) fun y => so (pmul x y)) fun x => sb (sr ()) fun a => sr (x, a)) fun a => sr (x, a)) fun a => sr (a.1, a.2.1)) fun x => sr (.rt x))
def L_law_over (one : (Int × Int)) (other : (Int × Int)) : Except Er (Int × Int) := runF (L_law_over_b one other)
def L_law_number_b  : R Pool (Out Unit Empty (Int × Int)) := (sb (sb (sb (sr (8 : Int)) fun x => sb (sr ()) fun a => sr (x, a)) fun a => pdraw a.1) fun form1 => (obd (sIf (sb (sr form1) fun x => sb (sr (3 : Int)) fun y => sr (decide (x < y))) (sb (sb (sb (sb (sb (sb (sr (13 : Int)) fun x => sb (sr ()) fun a => sr (x, a)) fun a => pdraw a.1) fun x => sb (sr (6 : Int)) fun y => sr (x - y)) fun x => sb (sb (sr (1 : Int)) fun x => sb (sr ()) fun a => sr (x, a)) fun a => sr (x, a)) fun a => sr (a.1, a.2.1)) fun x => sr (.rt x)) (sr (.nx ()))) fun (r2 : Unit) => (obd (sIf (sb (sr form1) fun x => sb (sr (6 : Int)) fun y => sr (decide (x < y))) (sb (sb (sb (sb (sb (sb (sr (61 : Int)) fun x => sb (sr ()) fun a => sr (x, a)) fun a => pdraw a.1) fun x => sb (sr (30 : Int)) fun y => sr (x - y)) fun x => sb (sb (sb (sr (1 : Int)) fun x => sb (sb (sb (sr (6 : Int)) fun x => sb (sr ()) fun a => sr (x, a)) fun a => pdraw a.1) fun y => sr (x + y)) fun x => sb (sr ()) fun a => sr (x, a)) fun a => sr (x, a)) fun a => sr (a.1, a.2.1)) fun x => sr (.rt x)) (sr (.nx ()))) fun (r3 : Unit) => (sb (sb (sr (1 : Int)) fun x => sb (sb (sr (2 : Int)) fun x => sb (sb (sb (sr (2 : Int)) fun x => sb (sr ()) fun a => sr (x, a)) fun a => pdraw a.1) fun y => so (pmul x y)) fun y => sr (x - y)) fun sign4 => (obd (sIf (sb (sr form1) fun x => sb (sr (6 : Int)) fun y => sr (decide (x = y))) (sb (sb (sb (sb (sr sign4) fun x => sb (sb (sb (sb (sr (10 : Int)) fun x => sb (sr (40 : Int)) fun y => so (ppow x y)) fun x => sb (sr ()) fun a => sr (x, a)) fun a => pdraw a.1) fun y => so (pmul x y)) fun x => sb (sb (sr (1 : Int)) fun x => sb (sr ()) fun a => sr (x, a)) fun a => sr (x, a)) fun a => sr (a.1, a.2.1)) fun x => sr (.rt x)) (sr (.nx ()))) fun (r5 : Unit) => (sb (sb (sb (sb (sr sign4) fun x => sb (sb (sb (sb (sr (10 : Int)) fun x => sb (sr (30 : Int)) fun y => so (ppow x y)) fun x => sb (sr ()) fun a => sr (x, a)) fun a => pdraw a.1) fun y => so (pmul x y)) fun x => sb (sb (sb (sr (1 : Int)) fun x => sb (sb (sb (sb (sr (10 : Int)) fun x => sb (sr (20 : Int)) fun y => so (ppow x y)) fun x => sb (sr ()) fun a => sr (x, a)) fun a => pdraw a.1) fun y => sr (x + y)) fun x => sb (sr ()) fun a => sr (x, a)) fun a => sr (x, a)) fun a => sr (a.1, a.2.1)) fun x => sr (.rt x)))))))
def L_law_number  : R Pool (Int × Int) := runP (L_law_number_b)
def L_law_small_b  : R Pool (Out Unit Empty (Int × Int)) := (sb (sb (sb (sb (sb (sb (sr (13 : Int)) fun x => sb (sr ()) fun a => sr (x, a)) fun a => pdraw a.1) fun x => sb (sr (6 : Int)) fun y => sr (x - y)) fun x => sb (sb (sb (sr (1 : Int)) fun x => sb (sb (sb (sr (3 : Int)) fun x => sb (sr ()) fun a => sr (x, a)) fun a => pdraw a.1) fun y => sr (x + y)) fun x => sb (sr ()) fun a => sr (x, a)) fun a => sr (x, a)) fun a => sr (a.1, a.2.1)) fun x => sr (.rt x))
def L_law_small  : R Pool (Int × Int) := runP (L_law_small_b)
def L_law_rise_b (wide : Bool) : R Pool (Out Unit Empty (Int × Int)) := (obd (sIf (sAnd (sr wide) (sb (sb (sb (sr (4 : Int)) fun x => sb (sr ()) fun a => sr (x, a)) fun a => pdraw a.1) fun x => sb (sr (0 : Int)) fun y => sr (decide (x = y)))) (sb (sb (sb (sb (sr (1 : Int)) fun x => sb (sb (sb (sb (sr (10 : Int)) fun x => sb (sr (30 : Int)) fun y => so (ppow x y)) fun x => sb (sr ()) fun a => sr (x, a)) fun a => pdraw a.1) fun y => sr (x + y)) fun x => sb (sb (sb (sr (1 : Int)) fun x => sb (sb (sb (sb (sr (10 : Int)) fun x => sb (sr (10 : Int)) fun y => so (ppow x y)) fun x => sb (sr ()) fun a => sr (x, a)) fun a => pdraw a.1) fun y => sr (x + y)) fun x => sb (sr ()) fun a => sr (x, a)) fun a => sr (x, a)) fun a => sr (a.1, a.2.1)) fun x => sr (.rt x)) (sr (.nx ()))) fun (r1 : Unit) => (sb (sb (sb (sb (sr (1 : Int)) fun x => sb (sb (sb (sr (6 : Int)) fun x => sb (sr ()) fun a => sr (x, a)) fun a => pdraw a.1) fun y => sr (x + y)) fun x => sb (sb (sb (sr (1 : Int)) fun x => sb (sb (sb (sr (3 : Int)) fun x => sb (sr ()) fun a => sr (x, a)) fun a => pdraw a.1) fun y => sr (x + y)) fun x => sb (sr ()) fun a => sr (x, a)) fun a => sr (x, a)) fun a => sr (a.1, a.2.1)) fun x => sr (.rt x)))
def L_law_rise (wide : Bool) : R Pool (Int × Int) := runP (L_law_rise_b wide)
def L_law_slope_b  : R Pool (Out Unit Empty (Int × Int)) := (sb (sb (sb (sr (9 : Int)) fun x => sb (sr ()) fun a => sr (x, a)) fun a => pdraw a.1) fun form1 => (obd (sIf (sb (sr form1) fun x => sb (sr (6 : Int)) fun y => sr (decide (x < y))) (sb (sb (sb (sb (sb (sb (sr (0 : Int)) fun x => sb (sb (sr (1 : Int)) fun x => sb (sr ()) fun a => sr (x, a)) fun a => sr (x, a)) fun a => sr (a.1, a.2.1)) fun x => sb (sb (sb (sb (sr (1 : Int)) fun x => sb (sb (sr (1 : Int)) fun x => sb (sr ()) fun a => sr (x, a)) fun a => sr (x, a)) fun a => sr (a.1, a.2.1)) fun x => sb (sb (sb (sb (sr (1 : Int)) fun x => sb (sb (sr (2 : Int)) fun x => sb (sr ()) fun a => sr (x, a)) fun a => sr (x, a)) fun a => sr (a.1, a.2.1)) fun x => sb (sb (sb (sb (sr (2 : Int)) fun x => sb (sb (sr (1 : Int)) fun x => sb (sr ()) fun a => sr (x, a)) fun a => sr (x, a)) fun a => sr (a.1, a.2.1)) fun x => sb (sb (sb (sb (sr (3 : Int)) fun x => sb (sb (sr (1 : Int)) fun x => sb (sr ()) fun a => sr (x, a)) fun a => sr (x, a)) fun a => sr (a.1, a.2.1)) fun x => sb (sb (sb (sb (sr (2 : Int)) fun x => sb (sb (sr (3 : Int)) fun x => sb (sr ()) fun a => sr (x, a)) fun a => sr (x, a)) fun a => sr (a.1, a.2.1)) fun x => sb (sr ([] : List (Int × Int))) fun a => sr (x :: a)) fun a => sr (x :: a)) fun a => sr (x :: a)) fun a => sr (x :: a)) fun a => sr (x :: a)) fun a => sr (x :: a)) fun a => so (plen a)) fun x => sb (sr form1) fun i => so (pix x i)) fun x => sr (.rt x)) (sr (.nx ()))) fun (r2 : Unit) => (sb (sb (sb (sb (sb (sr (20 : Int)) fun x => sb (sr ()) fun a => sr (x, a)) fun a => pdraw a.1) fun x => sb (sb (sb (sr (1 : Int)) fun x => sb (sb (sb (sr (9 : Int)) fun x => sb (sr ()) fun a => sr (x, a)) fun a => pdraw a.1) fun y => sr (x + y)) fun x => sb (sr ()) fun a => sr (x, a)) fun a => sr (x, a)) fun a => sr (a.1, a.2.1)) fun x => sr (.rt x))))
def L_law_slope  : R Pool (Int × Int) := runP (L_law_slope_b)
def L_law_general_b (many : Int) (wide : Bool) : R Pool (Out Unit Empty (T3 (Int × Int) (List ((Int × Int) × (Int × Int))) (Int × Int))) := (sb (sb (sr ()) fun a => L_law_small) fun x_1 => (sb (sb (sr ()) fun a => L_law_small) fun y_2 => (obd (sIf (sr wide) (sb (sb (sr ()) fun a => L_law_number) fun x_4 => (sb (sb (sr ()) fun a => L_law_number) fun y_5 => (sr (.nx (x_4, y_5))))) (sr (.nx (x_1, y_2)))) fun (r3 : ((Int × Int) × (Int × Int))) => (sb (sb (sb (sb (sr r3.1) fun x => sb (sb (sr r3.2) fun x => sb (sr ()) fun a => sr (x, a)) fun a => sr (x, a)) fun a => sr (a.1, a.2.1)) fun x => sb (sr ([] : List ((Int × Int) × (Int × Int)))) fun a => sr (x :: a)) fun a => sb (so (plen a)) fun knots6 => (sb (sb (sb (sb (sr many) fun x => sb (sr ()) fun a => sr (x, a)) fun a => pdraw a.1) fun n => so (prng 0 n)) fun xs => obd (forL (fun x8 (r7 : ((Int × Int) × (Int × Int) × (List ((Int × Int) × (Int × Int))))) => (sb (sb (sb (sr r7.1) fun x => sb (sb (sb (sb (sr wide) fun x => sb (sr ()) fun a => sr (x, a)) fun a => L_law_rise a.1) fun x => sb (sr ()) fun a => sr (x, a)) fun a => sr (x, a)) fun a => sl (L_law_plus a.1 a.2.1)) fun x_9 => (obd (sIf (sb (sb (sb (sr (3 : Int)) fun x => sb (sr ()) fun a => sr (x, a)) fun a => pdraw a.1) fun x => sb (sr (0 : Int)) fun y => sr (decide (y < x))) (sb (sb (sb (sr r7.2.1) fun x => sb (sb (sb (sb (sr wide) fun x => sb (sr ()) fun a => sr (x, a)) fun a => L_law_rise a.1) fun x => sb (sr ()) fun a => sr (x, a)) fun a => sr (x, a)) fun a => sl (L_law_plus a.1 a.2.1)) fun y_11 => (sr (.nx y_11))) (sr (.nx r7.2.1))) fun (r10 : (Int × Int)) => (sb (sb (sb (sr x_9) fun x => sb (sb (sr r10) fun x => sb (sr ()) fun a => sr (x, a)) fun a => sr (x, a)) fun a => sr (a.1, a.2.1)) fun a => sb (so (papp r7.2.2 a)) fun knots12 => (sr (.nx (x_9, r10, knots12))))))) xs (r3.1, r3.2, knots6)) fun (r7 : ((Int × Int) × (Int × Int) × (List ((Int × Int) × (Int × Int))))) => (sb (sb (sb (sb (sr ()) fun a => L_law_slope) fun x => sb (sb (sr r7.2.2) fun x => sb (sb (sb (sr ()) fun a => L_law_slope) fun x => sb (sr ()) fun a => sr (x, a)) fun a => sr (x, a)) fun a => sr (x, a)) fun a => sr (⟨a.1, a.2.1, a.2.2.1⟩ : (T3 (Int × Int) (List ((Int × Int) × (Int × Int))) (Int × Int)))) fun x => sr (.rt x)))))))
def L_law_general (many : Int) (wide : Bool) : R Pool (T3 (Int × Int) (List ((Int × Int) × (Int × Int))) (Int × Int)) := runP (L_law_general_b many wide)
def L_law_spec_b (many : Int) (wide : Bool) : R Pool (Out Unit Empty (T3 (Int × Int) (List ((Int × Int) × (Int × Int))) (Int × Int))) := (sb (sb (sb (sr (9 : Int)) fun x => sb (sr ()) fun a => sr (x, a)) fun a => pdraw a.1) fun form1 => (sb (sb (sr ()) fun a => L_law_small) fun a_2 => (obd (sIf (sr wide) (sb (sb (sr ()) fun a => L_law_number) fun a_4 => (sr (.nx a_4))) (sr (.nx a_2))) fun (r3 : (Int × Int)) => (obd (sIf (sb (sr form1) fun x => sb (sr (0 : Int)) fun y => sr (decide (x = y))) (sb (sb (sb (sb (sb (sr (1 : Int)) fun x => sb (sb (sr (1 : Int)) fun x => sb (sr ()) fun a => sr (x, a)) fun a => sr (x, a)) fun a => sr (a.1, a.2.1)) fun x => sb (sb (sb (sb (sb (sb (sb (sb (sr (0 : Int)) fun x => sb (sb (sr (1 : Int)) fun x => sb (sr ()) fun a => sr (x, a)) fun a => sr (x, a)) fun a => sr (a.1, a.2.1)) fun x => sb (sb (sr r3) fun x => sb (sr ()) fun a => sr (x, a)) fun a => sr (x, a)) fun a => sr (a.1, a.2.1)) fun x => sb (sr ([] : List ((Int × Int) × (Int × Int)))) fun a => sr (x :: a)) fun a => so (plen a)) fun x => sb (sb (sb (sb (sr (1 : Int)) fun x => sb (sb (sr (1 : Int)) fun x => sb (sr ()) fun a => sr (x, a)) fun a => sr (x, a)) fun a => sr (a.1, a.2.1)) fun x => sb (sr ()) fun a => sr (x, a)) fun a => sr (x, a)) fun a => sr (x, a)) fun a => sr (⟨a.1, a.2.1, a.2.2.1⟩ : (T3 (Int × Int) (List ((Int × Int) × (Int × Int))) (Int × Int)))) fun x => sr (.rt x)) (sr (.nx ()))) fun (r5 : Unit) => (obd (sIf (sb (sr form1) fun x => sb (sr (1 : Int)) fun y => sr (decide (x = y))) (sb (sb (sr ()) fun a => L_law_slope) fun slope7 => (sb (sb (sb (sr slope7) fun x => sb (sb (sb (sb (sb (sb (sb (sb (sr (0 : Int)) fun x => sb (sb (sr (1 : Int)) fun x => sb (sr ()) fun a => sr (x, a)) fun a => sr (x, a)) fun a => sr (a.1, a.2.1)) fun x => sb (sb (sb (sb (sr (0 : Int)) fun x => sb (sb (sr (1 : Int)) fun x => sb (sr ()) fun a => sr (x, a)) fun a => sr (x, a)) fun a => sr (a.1, a.2.1)) fun x => sb (sr ()) fun a => sr (x, a)) fun a => sr (x, a)) fun a => sr (a.1, a.2.1)) fun x => sb (sr ([] : List ((Int × Int) × (Int × Int)))) fun a => sr (x :: a)) fun a => so (plen a)) fun x => sb (sb (sr slope7) fun x => sb (sr ()) fun a => sr (x, a)) fun a => sr (x, a)) fun a => sr (x, a)) fun a => sr (⟨a.1, a.2.1, a.2.2.1⟩ : (T3 (Int × Int) (List ((Int × Int) × (Int × Int))) (Int × Int)))) fun x => sr (.rt x))) (sr (.nx ()))) fun (r6 : Unit) => (obd (sIf (sb (sr form1) fun x => sb (sr (2 : Int)) fun y => sr (decide (x = y))) (sb (sb (sb (sb (sb (sr (0 : Int)) fun x => sb (sb (sr (1 : Int)) fun x => sb (sr ()) fun a => sr (x, a)) fun a => sr (x, a)) fun a => sr (a.1, a.2.1)) fun x => sb (sb (sb (sb (sb (sb (sr r3) fun x => sb (sb (sr r3) fun x => sb (sr ()) fun a => sr (x, a)) fun a => sr (x, a)) fun a => sr (a.1, a.2.1)) fun x => sb (sr ([] : List ((Int × Int) × (Int × Int)))) fun a => sr (x :: a)) fun a => so (plen a)) fun x => sb (sb (sb (sb (sr (1 : Int)) fun x => sb (sb (sr (1 : Int)) fun x => sb (sr ()) fun a => sr (x, a)) fun a => sr (x, a)) fun a => sr (a.1, a.2.1)) fun x => sb (sr ()) fun a => sr (x, a)) fun a => sr (x, a)) fun a => sr (x, a)) fun a => sr (⟨a.1, a.2.1, a.2.2.1⟩ : (T3 (Int × Int) (List ((Int × Int) × (Int × Int))) (Int × Int)))) fun x => sr (.rt x)) (sr (.nx ()))) fun (r8 : Unit) => (obd (sIf (sb (sr form1) fun x => sb (sr (3 : Int)) fun y => sr (decide (x = y))) (sb (sb (sb (sb (sb (sr (1 : Int)) fun x => sb (sb (sr (1 : Int)) fun x => sb (sr ()) fun a => sr (x, a)) fun a => sr (x, a)) fun a => sr (a.1, a.2.1)) fun x => sb (sb (sb (sb (sb (sb (sr r3) fun x => sb (sb (sr r3) fun x => sb (sr ()) fun a => sr (x, a)) fun a => sr (x, a)) fun a => sr (a.1, a.2.1)) fun x => sb (sr ([] : List ((Int × Int) × (Int × Int)))) fun a => sr (x :: a)) fun a => so (plen a)) fun x => sb (sb (sb (sb (sr (0 : Int)) fun x => sb (sb (sr (1 : Int)) fun x => sb (sr ()) fun a => sr (x, a)) fun a => sr (x, a)) fun a => sr (a.1, a.2.1)) fun x => sb (sr ()) fun a => sr (x, a)) fun a => sr (x, a)) fun a => sr (x, a)) fun a => sr (⟨a.1, a.2.1, a.2.2.1⟩ : (T3 (Int × Int) (List ((Int × Int) × (Int × Int))) (Int × Int)))) fun x => sr (.rt x)) (sr (.nx ()))) fun (r9 : Unit) => (obd (sIf (sb (sr form1) fun x => sb (sr (4 : Int)) fun y => sr (decide (x = y))) (sb (sb (sb (sb (sb (sr (0 : Int)) fun x => sb (sb (sr (1 : Int)) fun x => sb (sr ()) fun a => sr (x, a)) fun a => sr (x, a)) fun a => sr (a.1, a.2.1)) fun x => sb (sb (sb (sb (sb (sb (sb (sb (sr (0 : Int)) fun x => sb (sb (sr (1 : Int)) fun x => sb (sr ()) fun a => sr (x, a)) fun a => sr (x, a)) fun a => sr (a.1, a.2.1)) fun x => sb (sb (sr r3) fun x => sb (sr ()) fun a => sr (x, a)) fun a => sr (x, a)) fun a => sr (a.1, a.2.1)) fun x => sb (sr ([] : List ((Int × Int) × (Int × Int)))) fun a => sr (x :: a)) fun a => so (plen a)) fun x => sb (sb (sb (sb (sr (0 : Int)) fun x => sb (sb (sr (1 : Int)) fun x => sb (sr ()) fun a => sr (x, a)) fun a => sr (x, a)) fun a => sr (a.1, a.2.1)) fun x => sb (sr ()) fun a => sr (x, a)) fun a => sr (x, a)) fun a => sr (x, a)) fun a => sr (⟨a.1, a.2.1, a.2.2.1⟩ : (T3 (Int × Int) (List ((Int × Int) × (Int × Int))) (Int × Int)))) fun x => sr (.rt x)) (sr (.nx ()))) fun (r10 : Unit) => (obd (sIf (sb (sr form1) fun x => sb (sr (5 : Int)) fun y => sr (decide (x = y))) (sb (sb (sr ()) fun a => L_law_slope) fun slope12 => (sb (sb (sb (sr slope12) fun x => sb (sb (sb (sb (sb (sb (sb (sb (sr (0 : Int)) fun x => sb (sb (sr (1 : Int)) fun x => sb (sr ()) fun a => sr (x, a)) fun a => sr (x, a)) fun a => sr (a.1, a.2.1)) fun x => sb (sb (sr r3) fun x => sb (sr ()) fun a => sr (x, a)) fun a => sr (x, a)) fun a => sr (a.1, a.2.1)) fun x => sb (sr ([] : List ((Int × Int) × (Int × Int)))) fun a => sr (x :: a)) fun a => so (plen a)) fun x => sb (sb (sr slope12) fun x => sb (sr ()) fun a => sr (x, a)) fun a => sr (x, a)) fun a => sr (x, a)) fun a => sr (⟨a.1, a.2.1, a.2.2.1⟩ : (T3 (Int × Int) (List ((Int × Int) × (Int × Int))) (Int × Int)))) fun x => sr (.rt x))) (sr (.nx ()))) fun (r11 : Unit) => (obd (sIf (sb (sr form1) fun x => sb (sr (6 : Int)) fun y => sr (decide (x = y))) (sb (sb (sr ()) fun a => L_law_small) fun b14 => (sb (sb (sb (sb (sb (sr (0 : Int)) fun x => sb (sb (sr (1 : Int)) fun x => sb (sr ()) fun a => sr (x, a)) fun a => sr (x, a)) fun a => sr (a.1, a.2.1)) fun x => sb (sb (sb (sb (sb (sb (sb (sb (sr b14) fun x => sb (sb (sr r3) fun x => sb (sr ()) fun a => sr (x, a)) fun a => sr (x, a)) fun a => sl (L_law_minus a.1 a.2.1)) fun x => sb (sb (sr b14) fun x => sb (sr ()) fun a => sr (x, a)) fun a => sr (x, a)) fun a => sr (a.1, a.2.1)) fun x => sb (sr ([] : List ((Int × Int) × (Int × Int)))) fun a => sr (x :: a)) fun a => so (plen a)) fun x => sb (sb (sb (sb (sr (1 : Int)) fun x => sb (sb (sr (1 : Int)) fun x => sb (sr ()) fun a => sr (x, a)) fun a => sr (x, a)) fun a => sr (a.1, a.2.1)) fun x => sb (sr ()) fun a => sr (x, a)) fun a => sr (x, a)) fun a => sr (x, a)) fun a => sr (⟨a.1, a.2.1, a.2.2.1⟩ : (T3 (Int × Int) (List ((Int × Int) × (Int × Int))) (Int × Int)))) fun x => sr (.rt x))) (sr (.nx ()))) fun (r13 : Unit) => (sb (sb (sb (sr many) fun x => sb (sb (sr wide) fun x => sb (sr ()) fun a => sr (x, a)) fun a => sr (x, a)) fun a => L_law_general a.1 a.2.1) fun x => sr (.rt x))))))))))))
def L_law_spec (many : Int) (wide : Bool) : R Pool (T3 (Int × Int) (List ((Int × Int) × (Int × Int))) (Int × Int)) := runP (L_law_spec_b many wide)
def L_law_at_b (spec : (T3 (Int × Int) (List ((Int × Int) × (Int × Int))) (Int × Int))) (x_ : (Int × Int)) : R Unit (Out Unit Empty (Int × Int)) := (sb (sr spec) fun p1 => (obd (sIf (sb (sb (sb (sb (sb (sr p1.b) fun x => sb (sr (0 : Int)) fun i => so (pix x i)) fun x => sr x.1) fun x => sb (sb (sr x_) fun x => sb (sr ()) fun a => sr (x, a)) fun a => sr (x, a)) fun a => sl (L_law_less a.1 a.2.1)) fun x => sr (!x)) (sb (sb (sb (sb (sb (sr p1.b) fun x => sb (sr (0 : Int)) fun i => so (pix x i)) fun x => sr x.2) fun x => sb (sb (sb (sb (sr p1.a) fun x => sb (sb (sb (sb (sb (sb (sr p1.b) fun x => sb (sr (0 : Int)) fun i => so (pix x i)) fun x => sr x.1) fun x => sb (sb (sr x_) fun x => sb (sr ()) fun a => sr (x, a)) fun a => sr (x, a)) fun a => sl (L_law_minus a.1 a.2.1)) fun x => sb (sr ()) fun a => sr (x, a)) fun a => sr (x, a)) fun a => sl (L_law_times a.1 a.2.1)) fun x => sb (sr ()) fun a => sr (x, a)) fun a => sr (x, a)) fun a => sl (L_law_minus a.1 a.2.1)) fun x => sr (.rt x)) (sr (.nx ()))) fun (r2 : Unit) => (sb (sb (sb (sb (sr p1.b) fun x => sr (x.length : Int)) fun x => sb (sr (1 : Int)) fun y => sr (x - y)) fun n => so (prng 0 n)) fun xs => obd (forL (fun x4 (r3 : Unit) => (obd (sIf (sb (sb (sb (sb (sb (sr p1.b) fun x => sb (sb (sr x4) fun x => sb (sr (1 : Int)) fun y => sr (x + y)) fun i => so (pix x i)) fun x => sr x.1) fun x => sb (sb (sr x_) fun x => sb (sr ()) fun a => sr (x, a)) fun a => sr (x, a)) fun a => sl (L_law_less a.1 a.2.1)) fun x => sr (!x)) (sb (sb (sb (sb (sb (sr p1.b) fun x => sb (sb (sr x4) fun x => sb (sr (1 : Int)) fun y => sr (x + y)) fun i => so (pix x i)) fun x => sr x.1) fun x => sb (sb (sb (sb (sr p1.b) fun x => sb (sr x4) fun i => so (pix x i)) fun x => sr x.1) fun x => sb (sr ()) fun a => sr (x, a)) fun a => sr (x, a)) fun a => sl (L_law_minus a.1 a.2.1)) fun wide6 => (sb (sb (sb (sb (sb (sr x_) fun x => sb (sb (sb (sb (sr p1.b) fun x => sb (sr x4) fun i => so (pix x i)) fun x => sr x.1) fun x => sb (sr ()) fun a => sr (x, a)) fun a => sr (x, a)) fun a => sl (L_law_minus a.1 a.2.1)) fun x => sb (sb (sr wide6) fun x => sb (sr ()) fun a => sr (x, a)) fun a => sr (x, a)) fun a => sl (L_law_over a.1 a.2.1)) fun part7 => (sb (sb (sb (sb (sb (sr p1.b) fun x => sb (sr x4) fun i => so (pix x i)) fun x => sr x.2) fun x => sb (sb (sb (sb (sb (sb (sb (sb (sr p1.b) fun x => sb (sb (sr x4) fun x => sb (sr (1 : Int)) fun y => sr (x + y)) fun i => so (pix x i)) fun x => sr x.2) fun x => sb (sb (sb (sb (sr p1.b) fun x => sb (sr x4) fun i => so (pix x i)) fun x => sr x.2) fun x => sb (sr ()) fun a => sr (x, a)) fun a => sr (x, a)) fun a => sl (L_law_minus a.1 a.2.1)) fun x => sb (sb (sr part7) fun x => sb (sr ()) fun a => sr (x, a)) fun a => sr (x, a)) fun a => sl (L_law_times a.1 a.2.1)) fun x => sb (sr ()) fun a => sr (x, a)) fun a => sr (x, a)) fun a => sl (L_law_plus a.1 a.2.1)) fun x => sr (.rt x)))) (sr (.nx ()))) fun (r5 : Unit) => (sr (.nx ())))) xs ()) fun (r3 : Unit) => (sb (sb (sr p1.b) fun x => sb (sb (sb (sr p1.b) fun x => sr (x.length : Int)) fun x => sb (sr (1 : Int)) fun y => sr (x - y)) fun i => so (pix x i)) fun last8 => (sb (sb (sb (sb (sr last8) fun x => sr x.2) fun x => sb (sb (sb (sb (sr p1.c) fun x => sb (sb (sb (sb (sr x_) fun x => sb (sb (sb (sr last8) fun x => sr x.1) fun x => sb (sr ()) fun a => sr (x, a)) fun a => sr (x, a)) fun a => sl (L_law_minus a.1 a.2.1)) fun x => sb (sr ()) fun a => sr (x, a)) fun a => sr (x, a)) fun a => sl (L_law_times a.1 a.2.1)) fun x => sb (sr ()) fun a => sr (x, a)) fun a => sr (x, a)) fun a => sl (L_law_plus a.1 a.2.1)) fun x => sr (.rt x))))))
def L_law_at (spec : (T3 (Int × Int) (List ((Int × Int) × (Int × Int))) (Int × Int))) (x_ : (Int × Int)) : Except Er (Int × Int) := runF (L_law_at_b spec x_)
def L_law_step_b (spec : (T3 (Int × Int) (List ((Int × Int) × (Int × Int))) (Int × Int))) : R Unit (Out Unit Empty StepO) := (sb (sb (sb (sb (sb (sr spec) fun x => sr x.a) fun z => sr (toD z)) fun x => sb (sb (sb (sb (sb (sr spec) fun x => sr x.b) fun xs => lcL (fun x1 => (sr true)) (fun x1 => (sb (sb (sr x1.1) fun x => sb (sb (sr x1.2) fun x => sb (sr ()) fun a => sr (x, a)) fun a => sr (x, a)) fun a => sr (a.1, a.2.1))) xs []) fun z => sr (Sum.inr z : (KnotsO ⊕ (List ((Int × Int) × (Int × Int)))))) fun x => sb (sb (sb (sb (sr spec) fun x => sr x.c) fun z => sr (toD z)) fun x => sb (sr ()) fun a => sr (x, a)) fun a => sr (x, a)) fun a => sr (x, a)) fun a => sl (mk_Step a.1 a.2.1 a.2.2.1)) fun x => sr (.rt x))
def L_law_step (spec : (T3 (Int × Int) (List ((Int × Int) × (Int × Int))) (Int × Int))) : Except Er StepO := runF (L_law_step_b spec)
def L_law_given_b (number : (Int × Int)) : R Pool (Out Unit Empty D) := (sb (sb (sb (sr (3 : Int)) fun x => sb (sr ()) fun a => sr (x, a)) fun a => pdraw a.1) fun form1 => (obd (sIf (sAnd (sb (sr form1) fun x => sb (sr (0 : Int)) fun y => sr (decide (x = y))) (sb (sb (sr number) fun x => sr x.2) fun x => sb (sr (1 : Int)) fun y => sr (decide (x = y)))) (sb (sb (sb (sr number) fun x => sr x.1) fun z => sr (toD z)) fun x => sr (.rt x)) (sr (.nx ()))) fun (r2 : Unit) => (obd (sIf (sb (sr form1) fun x => sb (sr (1 : Int)) fun y => sr (decide (x = y))) (sb (sb (sr (1 : Int)) fun x => sb (sb (sb (sr (5 : Int)) fun x => sb (sr ()) fun a => sr (x, a)) fun a => pdraw a.1) fun y => sr (x + y)) fun by_4 => (sb (sb (sb (sb (sb (sb (sr number) fun x => sr x.1) fun x => sb (sr by_4) fun y => so (pmul x y)) fun z => sr (toD z)) fun x => sb (sb (sb (sb (sb (sr number) fun x => sr x.2) fun x => sb (sr by_4) fun y => so (pmul x y)) fun z => sr (toD z)) fun x => sb (sr ([] : List D)) fun a => sr (x :: a)) fun a => sr (x :: a)) fun a => so (pdtup a)) fun x => sr (.rt x))) (sr (.nx ()))) fun (r3 : Unit) => (sb (sb (sr number) fun z => sr (toD z)) fun x => sr (.rt x)))))
def L_law_given (number : (Int × Int)) : R Pool D := runP (L_law_given_b number)
def L_law_odd_b  : R Pool (Out Unit Empty D) := (sb (sb (sb (sb (sb (sr (10 : Int)) fun x => sb (sr (20 : Int)) fun y => so (ppow x y)) fun x => sb (sr ()) fun a => sr (x, a)) fun a => pdraw a.1) fun x => sb (sr (50 : Int)) fun y => sr (x - y)) fun p1 => (sb (sb (sb (sr (16 : Int)) fun x => sb (sr ()) fun a => sr (x, a)) fun a => pdraw a.1) fun form2 => (sb (sb (sb (sb (sr true) fun z => sr (toD z)) fun x => sb (sb (sb (sr false) fun z => sr (toD z)) fun x => sb (sb (sb (sr ()) fun z => sr (toD z)) fun x => sb (sb (sb (sr ("3" : Str)) fun z => sr (toD z)) fun x => sb (sb (sb (sr ("" : Str)) fun z => sr (toD z)) fun x => sb (sb (sb (sr ([] : List D)) fun a => so (pdtup a)) fun x => sb (sb (sb (sb (sb (sr p1) fun z => sr (toD z)) fun x => sb (sb (sb (sr (0 : Int)) fun z => sr (toD z)) fun x => sb (sr ([] : List D)) fun a => sr (x :: a)) fun a => sr (x :: a)) fun a => so (pdtup a)) fun x => sb (sb (sb (sb (sb (sr p1) fun z => sr (toD z)) fun x => sb (sb (sb (sb (sr (2 : Int)) fun x => sr (-x)) fun z => sr (toD z)) fun x => sb (sr ([] : List D)) fun a => sr (x :: a)) fun a => sr (x :: a)) fun a => so (pdtup a)) fun x => sb (sb (sb (sb (sb (sr p1) fun z => sr (toD z)) fun x => sb (sb (sb (sr (2 : Int)) fun z => sr (toD z)) fun x => sb (sb (sb (sr (3 : Int)) fun z => sr (toD z)) fun x => sb (sr ([] : List D)) fun a => sr (x :: a)) fun a => sr (x :: a)) fun a => sr (x :: a)) fun a => so (pdtup a)) fun x => sb (sb (sb (sb (sb (sr p1) fun z => sr (toD z)) fun x => sb (sb (sb (sr (2 : Int)) fun z => sr (toD z)) fun x => sb (sr ([] : List D)) fun a => sr (x :: a)) fun a => sr (x :: a)) fun a => so (pdlst a)) fun x => sb (sb (sb (sb (sb (sr true) fun z => sr (toD z)) fun x => sb (sb (sb (sr (1 : Int)) fun z => sr (toD z)) fun x => sb (sr ([] : List D)) fun a => sr (x :: a)) fun a => sr (x :: a)) fun a => so (pdtup a)) fun x => sb (sb (sb (sb (sb (sr (1 : Int)) fun z => sr (toD z)) fun x => sb (sb (sb (sr true) fun z => sr (toD z)) fun x => sb (sr ([] : List D)) fun a => sr (x :: a)) fun a => sr (x :: a)) fun a => so (pdtup a)) fun x => sb (sb (sb (sb (sb (sb (sb (sr p1) fun z => sr (toD z)) fun x => sb (sb (sb (sr (2 : Int)) fun z => sr (toD z)) fun x => sb (sr ([] : List D)) fun a => sr (x :: a)) fun a => sr (x :: a)) fun a => so (pdtup a)) fun x => sb (sb (sb (sr (1 : Int)) fun z => sr (toD z)) fun x => sb (sr ([] : List D)) fun a => sr (x :: a)) fun a => sr (x :: a)) fun a => so (pdtup a)) fun x => sb (sr ([] : List D)) fun a => sr (x :: a)) fun a => sr (x :: a)) fun a => sr (x :: a)) fun a => sr (x :: a)) fun a => sr (x :: a)) fun a => sr (x :: a)) fun a => sr (x :: a)) fun a => sr (x :: a)) fun a => sr (x :: a)) fun a => sr (x :: a)) fun a => sr (x :: a)) fun a => sr (x :: a)) fun a => sr (x :: a)) fun a => so (plen a)) fun odd3 => (sb (sb (sr odd3) fun x => sb (sb (sb (sb (sb (sr (1 : Int)) fun z => sr (toD z)) fun x => sb (sb (sr (2 : Int)) fun z => sr (toD z)) fun y => so ((keyD x).map fun _ => D.dct [(x, y)])) fun x => sb (sb (sb (sr ("1/2" : Str)) fun z => sr (toD z)) fun x => sb (sb (sb (sb (sb (sr p1) fun z => sr (toD z)) fun x => sb (sb (sb (sr ()) fun z => sr (toD z)) fun x => sb (sr ([] : List D)) fun a => sr (x :: a)) fun a => sr (x :: a)) fun a => so (pdtup a)) fun x => sb (sr ([] : List D)) fun a => sr (x :: a)) fun a => sr (x :: a)) fun a => sr (x :: a)) fun a => so (plen a)) fun y => so (plcat x y)) fun odd4 => (sb (sb (sr odd4) fun x => sb (sr form2) fun i => so (pix x i)) fun x => sr (.rt x))))))
def L_law_odd  : R Pool D := runP (L_law_odd_b)
def L_law_made_b (which : Int) (value : D) : R Unit (Out Unit Empty StepO) := (obd (sIf (sb (sr which) fun x => sb (sr (0 : Int)) fun y => sr (decide (x = y))) (sb (sb (sr (ClsV.it : ClsV "Step")) fun _ => sb (sb (sr value) fun x => sb (sr ()) fun a => sr (x, a)) fun a => sl (Step_plus .it a.1)) fun x => sr (.rt x)) (sr (.nx ()))) fun (r1 : Unit) => (obd (sIf (sb (sr which) fun x => sb (sr (1 : Int)) fun y => sr (decide (x = y))) (sb (sb (sr (ClsV.it : ClsV "Step")) fun _ => sb (sb (sr value) fun x => sb (sr ()) fun a => sr (x, a)) fun a => sl (Step_times .it a.1)) fun x => sr (.rt x)) (sr (.nx ()))) fun (r2 : Unit) => (obd (sIf (sb (sr which) fun x => sb (sr (2 : Int)) fun y => sr (decide (x = y))) (sb (sb (sr (ClsV.it : ClsV "Step")) fun _ => sb (sb (sr value) fun x => sb (sr ()) fun a => sr (x, a)) fun a => sl (Step_at_least .it a.1)) fun x => sr (.rt x)) (sr (.nx ()))) fun (r3 : Unit) => (obd (sIf (sb (sr which) fun x => sb (sr (3 : Int)) fun y => sr (decide (x = y))) (sb (sb (sr (ClsV.it : ClsV "Step")) fun _ => sb (sb (sr value) fun x => sb (sr ()) fun a => sr (x, a)) fun a => sl (Step_at_most .it a.1)) fun x => sr (.rt x)) (sr (.nx ()))) fun (r4 : Unit) => (sb (sb (sr (ClsV.it : ClsV "Step")) fun _ => sb (sb (sr value) fun x => sb (sr ()) fun a => sr (x, a)) fun a => sl (Step_always .it a.1)) fun x => sr (.rt x))))))
def L_law_made (which : Int) (value : D) : Except Er StepO := runF (L_law_made_b which value)
def L_law_try_b (which : Int) (value : D) : R Unit (Out Unit Empty D) := (sb (sb (sb (sb (sr ("told" : Str)) fun z => sr (toD z)) fun x => sb (sr ([] : List D)) fun a => sr (x :: a)) fun a => so (pdtup a)) fun found1 => (obd (mtry2 (sb (sb (sb (sr which) fun x => sb (sb (sr value) fun x => sb (sr ()) fun a => sr (x, a)) fun a => sr (x, a)) fun a => sl (L_law_made a.1 a.2.1)) fun _ => (sr (.nx found1))) (exOf "InvalidFraction" ["InvalidBound"]) (fun xs => (sb (sb (sb (sb (sr ("no fraction" : Str)) fun z => sr (toD z)) fun x => sb (sb (so (xs.lookup ("name" : Str))) fun x => sb (sr ([] : List D)) fun a => sr (x :: a)) fun a => sr (x :: a)) fun a => so (pdtup a)) fun found3 => (sr (.nx found3)))) (exOf "InvalidBound" []) fun xs => (sb (sb (sb (sb (sr ("bound" : Str)) fun z => sr (toD z)) fun x => sb (sb (so (xs.lookup ("name" : Str))) fun x => sb (sr ([] : List D)) fun a => sr (x :: a)) fun a => sr (x :: a)) fun a => so (pdtup a)) fun found4 => (sr (.nx found4)))) fun (r2 : D) => (sb (sr r2) fun x => sr (.rt x))))
def L_law_try (which : Int) (value : D) : Except Er D := runF (L_law_try_b which value)
def L_law_call_b (step : StepO) (value : D) : R Unit (Out Unit Empty D) := (sb (sb (sb (sb (sr ("told" : Str)) fun z => sr (toD z)) fun x => sb (sr ([] : List D)) fun a => sr (x :: a)) fun a => so (pdtup a)) fun found1 => (obd (mtry (sb (sb (sr step) fun x => sb (sb (sr value) fun x => sb (sr ()) fun a => sr (x, a)) fun a => sl (Step___call__ x a.1)) fun _ => (sr (.nx found1))) (exOf "InvalidFraction" ["InvalidBound"]) fun xs => (sb (sb (sb (sb (sr ("no fraction" : Str)) fun z => sr (toD z)) fun x => sb (sb (so (xs.lookup ("name" : Str))) fun x => sb (sr ([] : List D)) fun a => sr (x :: a)) fun a => sr (x :: a)) fun a => so (pdtup a)) fun found3 => (sr (.nx found3)))) fun (r2 : D) => (sb (sr r2) fun x => sr (.rt x))))
def L_law_call (step : StepO) (value : D) : Except Er D := runF (L_law_call_b step value)
def L_law_due_b (which : Int) (number : (Int × Int)) (x_ : (Int × Int)) : R Unit (Out Unit Empty (Int × Int)) := (obd (sIf (sb (sr which) fun x => sb (sr (0 : Int)) fun y => sr (decide (x = y))) (sb (sb (sb (sr x_) fun x => sb (sb (sr number) fun x => sb (sr ()) fun a => sr (x, a)) fun a => sr (x, a)) fun a => sl (L_law_plus a.1 a.2.1)) fun x => sr (.rt x)) (sr (.nx ()))) fun (r1 : Unit) => (obd (sIf (sb (sr which) fun x => sb (sr (1 : Int)) fun y => sr (decide (x = y))) (sb (sb (sb (sr x_) fun x => sb (sb (sr number) fun x => sb (sr ()) fun a => sr (x, a)) fun a => sr (x, a)) fun a => sl (L_law_times a.1 a.2.1)) fun x => sr (.rt x)) (sr (.nx ()))) fun (r2 : Unit) => (obd (sIf (sb (sr which) fun x => sb (sr (4 : Int)) fun y => sr (decide (x = y))) (sb (sr number) fun x => sr (.rt x)) (sr (.nx ()))) fun (r3 : Unit) => (obd (sIf (sb (sb (sb (sr x_) fun x => sb (sb (sr number) fun x => sb (sr ()) fun a => sr (x, a)) fun a => sr (x, a)) fun a => sl (L_law_less a.1 a.2.1)) fun x => sb (sb (sr which) fun x => sb (sr (2 : Int)) fun y => sr (decide (x = y))) fun y => sr (decide (x = y))) (sb (sr number) fun x => sr (.rt x)) (sr (.nx ()))) fun (r4 : Unit) => (sb (sr x_) fun x => sr (.rt x))))))
def L_law_due (which : Int) (number : (Int × Int)) (x_ : (Int × Int)) : Except Er (Int × Int) := runF (L_law_due_b which number x_)
def L_law_methods_b  : R Pool (Out Unit Empty Bool) := (sb (sb (sr (5 : Int)) fun n => so (prng 0 n)) fun xs => obd (forL (fun x2 (r1 : Unit) => (sb (sb (sr ()) fun a => L_law_number) fun number3 => (obd (sIf (sAnd (sb (sr x2) fun x => sb (sr (1 : Int)) fun y => sr (decide (x = y))) (sb (sb (sr number3) fun x => sr x.1) fun x => sb (sr (0 : Int)) fun y => sr (decide (x < y)))) (obd (sIf (sb (sb (sb (sr (1 : Int)) fun x => sb (sb (sb (sb (sr number3) fun x => sb (sr ()) fun a => sr (x, a)) fun a => L_law_given a.1) fun x => sb (sr ()) fun a => sr (x, a)) fun a => sr (x, a)) fun a => sl (L_law_try a.1 a.2.1)) fun x => sb (sb (sb (sb (sr ("bound" : Str)) fun z => sr (toD z)) fun x => sb (sb (sb (sr ("ratio" : Str)) fun z => sr (toD z)) fun x => sb (sr ([] : List D)) fun a => sr (x :: a)) fun a => sr (x :: a)) fun a => so (pdtup a)) fun y => sb (so (peqD x y)) fun z => sr (!z)) (sb (sr false) fun x => sr (.rt x)) (sr (.nx ()))) fun (r5 : Unit) => (sb (sb (sb (sb (sb (sr number3) fun x => sr x.1) fun x => sr (-x)) fun x => sb (sb (sb (sr number3) fun x => sr x.2) fun x => sb (sr ()) fun a => sr (x, a)) fun a => sr (x, a)) fun a => sr (a.1, a.2.1)) fun number6 => (sr (.nx number6)))) (sr (.nx number3))) fun (r4 : (Int × Int)) => (sb (sb (sb (sr x2) fun x => sb (sb (sb (sb (sr r4) fun x => sb (sr ()) fun a => sr (x, a)) fun a => L_law_given a.1) fun x => sb (sr ()) fun a => sr (x, a)) fun a => sr (x, a)) fun a => sl (L_law_made a.1 a.2.1)) fun step7 => (sb (sb (sb (sb (sr ()) fun a => L_law_number) fun x => sb (sb (sr r4) fun x => sb (sb (sb (sb (sr r4) fun x => sb (sb (sb (sb (sr (1 : Int)) fun x => sb (sb (sr (7 : Int)) fun x => sb (sr ()) fun a => sr (x, a)) fun a => sr (x, a)) fun a => sr (a.1, a.2.1)) fun x => sb (sr ()) fun a => sr (x, a)) fun a => sr (x, a)) fun a => sl (L_law_plus a.1 a.2.1)) fun x => sb (sr ([] : List (Int × Int))) fun a => sr (x :: a)) fun a => sr (x :: a)) fun a => sr (x :: a)) fun a => so (plen a)) fun xs => obd (forL (fun x9 (r8 : Unit) => (obd (sIf (sb (sb (sb (sb (sb (sr step7) fun x => sb (sb (sb (sb (sr x9) fun x => sb (sr ()) fun a => sr (x, a)) fun a => L_law_given a.1) fun x => sb (sr ()) fun a => sr (x, a)) fun a => sl (Step___call__ x a.1)) fun z => sr (toD z)) fun x => sb (sb (sb (sb (sr x2) fun x => sb (sb (sr r4) fun x => sb (sb (sr x9) fun x => sb (sr ()) fun a => sr (x, a)) fun a => sr (x, a)) fun a => sr (x, a)) fun a => sl (L_law_due a.1 a.2.1 a.2.2.1)) fun x => sb (sr ()) fun a => sr (x, a)) fun a => sr (x, a)) fun a => sl (L_law_gives a.1 a.2.1)) fun x => sr (!x)) (sb (sr false) fun x => sr (.rt x)) (sr (.nx ()))) fun (r10 : Unit) => (sr (.nx ())))) xs ()) fun (r8 : Unit) => (sb (sb (sb (sb (sr ("amount" : Str)) fun x => sb (sb (sr ("ratio" : Str)) fun x => sb (sb (sr ("bound" : Str)) fun x => sb (sb (sr ("bound" : Str)) fun x => sb (sb (sr ("amount" : Str)) fun x => sb (sr ([] : List Str)) fun a => sr (x :: a)) fun a => sr (x :: a)) fun a => sr (x :: a)) fun a => sr (x :: a)) fun a => sr (x :: a)) fun a => so (plen a)) fun x => sb (sr x2) fun i => so (pix x i)) fun name11 => (obd (sIf (sb (sb (sb (sr x2) fun x => sb (sb (sb (sr ()) fun a => L_law_odd) fun x => sb (sr ()) fun a => sr (x, a)) fun a => sr (x, a)) fun a => sl (L_law_try a.1 a.2.1)) fun x => sb (sb (sb (sb (sr ("no fraction" : Str)) fun z => sr (toD z)) fun x => sb (sb (sb (sr name11) fun z => sr (toD z)) fun x => sb (sr ([] : List D)) fun a => sr (x :: a)) fun a => sr (x :: a)) fun a => so (pdtup a)) fun y => sb (so (peqD x y)) fun z => sr (!z)) (sb (sr false) fun x => sr (.rt x)) (sr (.nx ()))) fun (r12 : Unit) => (sr (.nx ()))))))))) xs ()) fun (r1 : Unit) => (sb (sr true) fun x => sr (.rt x)))
def L_law_methods  : R Pool Bool := runP (L_law_methods_b)
def law_p (script : (Ro Int)) : R Pool (Out Unit Empty Bool) := (sb (sb (sr (8 : Int)) fun n => so (prng 0 n)) fun xs => obd (forL (fun x2 (r1 : Unit) => (sb (sb (sb (sr (5 : Int)) fun x => sb (sb (sb (sb (sb (sr (3 : Int)) fun x => sb (sr ()) fun a => sr (x, a)) fun a => pdraw a.1) fun x => sb (sr (0 : Int)) fun y => sr (decide (x = y))) fun x => sb (sr ()) fun a => sr (x, a)) fun a => sr (x, a)) fun a => L_law_spec a.1 a.2.1) fun spec3 => (sb (sb (sb (sr spec3) fun x => sb (sr ()) fun a => sr (x, a)) fun a => sl (L_law_step a.1)) fun step4 => (sb (sb (sb (sr spec3) fun x => sr x.b) fun xs => lcL (fun x5 => (sr true)) (fun x5 => (sr x5.1)) xs []) fun queries6 => (sb (sb (sb (sb (sb (sb (sr (queries6.length : Int)) fun x => sb (sr ()) fun a => sr (x, a)) fun a => pdraw a.1) fun n => so (pix queries6 n)) fun x => sb (sb (sb (sb (sr (1 : Int)) fun x => sb (sb (sb (sr (10 : Int)) fun x => sb (sr (9 : Int)) fun y => so (ppow x y)) fun x => sb (sr ()) fun a => sr (x, a)) fun a => sr (x, a)) fun a => sr (a.1, a.2.1)) fun x => sb (sr ()) fun a => sr (x, a)) fun a => sr (x, a)) fun a => sl (L_law_plus a.1 a.2.1)) fun a => sb (so (papp queries6 a)) fun queries7 => (sb (sb (sr (3 : Int)) fun n => so (prng 0 n)) fun xs => obd (forL (fun x9 (r8 : (List (Int × Int))) => (sb (sb (sr ()) fun a => L_law_number) fun a => sb (so (papp r8 a)) fun queries10 => (sr (.nx queries10)))) xs queries7) fun (r8 : (List (Int × Int))) => (sb (sr r8) fun xs => obd (forL (fun x12 (r11 : Unit) => (obd (sIf (sb (sb (sb (sb (sb (sr step4) fun x => sb (sb (sb (sb (sr x12) fun x => sb (sr ()) fun a => sr (x, a)) fun a => L_law_given a.1) fun x => sb (sr ()) fun a => sr (x, a)) fun a => sl (Step___call__ x a.1)) fun z => sr (toD z)) fun x => sb (sb (sb (sb (sr spec3) fun x => sb (sb (sr x12) fun x => sb (sr ()) fun a => sr (x, a)) fun a => sr (x, a)) fun a => sl (L_law_at a.1 a.2.1)) fun x => sb (sr ()) fun a => sr (x, a)) fun a => sr (x, a)) fun a => sl (L_law_gives a.1 a.2.1)) fun x => sr (!x)) (sb (sr false) fun x => sr (.rt x)) (sr (.nx ()))) fun (r13 : Unit) => (sr (.nx ())))) xs ()) fun (r11 : Unit) => (obd (sIf (sb (sb (sb (sr step4) fun x => sb (sb (sb (sr ()) fun a => L_law_odd) fun x => sb (sr ()) fun a => sr (x, a)) fun a => sr (x, a)) fun a => sl (L_law_call a.1 a.2.1)) fun x => sb (sb (sb (sb (sr ("no fraction" : Str)) fun z => sr (toD z)) fun x => sb (sb (sb (sr ("amount" : Str)) fun z => sr (toD z)) fun x => sb (sr ([] : List D)) fun a => sr (x :: a)) fun a => sr (x :: a)) fun a => so (pdtup a)) fun y => sb (so (peqD x y)) fun z => sr (!z)) (sb (sr false) fun x => sr (.rt x)) (sr (.nx ()))) fun (r14 : Unit) => (obd (sIf (sb (sb (sb (sb (sb (sr step4) fun x => sb (sb (sb (sb (sr r8) fun x => sb (sr (0 : Int)) fun i => so (pix x i)) fun z => sr (toD z)) fun x => sb (sr ()) fun a => sr (x, a)) fun a => sl (Step___call__ x a.1)) fun z => sr (toD z)) fun x => sb (sb (sb (sb (sr spec3) fun x => sb (sb (sb (sr r8) fun x => sb (sr (0 : Int)) fun i => so (pix x i)) fun x => sb (sr ()) fun a => sr (x, a)) fun a => sr (x, a)) fun a => sl (L_law_at a.1 a.2.1)) fun x => sb (sr ()) fun a => sr (x, a)) fun a => sr (x, a)) fun a => sl (L_law_gives a.1 a.2.1)) fun x => sr (!x)) (sb (sr false) fun x => sr (.rt x)) (sr (.nx ()))) fun (r15 : Unit) => (obd (sIf (sAnd (sb (sr x2) fun x => sb (sr (3 : Int)) fun y => sr (decide (x < y))) (sb (sb (sr ()) fun a => L_law_methods) fun x => sr (!x))) (sb (sr false) fun x => sr (.rt x)) (sr (.nx ()))) fun (r16 : Unit) => (sr (.nx ())))))))))))) xs ()) fun (r1 : Unit) => (sb (sr true) fun x => sr (.rt x)))
def law_b (script : (Ro Int)) : R Unit (Out Unit Empty Bool) := ofP (law_p script) (poolOf script.l)
def law (script : (Ro Int)) : Except Er Bool := runF (law_b script)
structure Facts (P : Program) (K : Fg) (mg : Str → Option Value) : Prop where
  f_own_copy : ∃ fd, FunD K "own_copy" "own_copy" (defArgs (topS 2)) (defBody (topS 2)) (defScope (topS 2)) [] [] (He.ga K "own_copy") fd
  g_own_copy : mg "own_copy" = some (.ref (He.ga K "own_copy"))
  f_is_integer : ∃ fd, FunD K "is_integer" "is_integer" (defArgs (topS 10)) (defBody (topS 10)) (defScope (topS 10)) [] [] (He.ga K "is_integer") fd
  g_is_integer : mg "is_integer" = some (.ref (He.ga K "is_integer"))
  f_is_fraction : ∃ fd, FunD K "is_fraction" "is_fraction" (defArgs (topS 11)) (defBody (topS 11)) (defScope (topS 11)) [] [] (He.ga K "is_fraction") fd
  g_is_fraction : mg "is_fraction" = some (.ref (He.ga K "is_fraction"))
  f_reduced : ∃ fd, FunD K "reduced" "reduced" (defArgs (topS 12)) (defBody (topS 12)) (defScope (topS 12)) [] [] (He.ga K "reduced") fd
  g_reduced : mg "reduced" = some (.ref (He.ga K "reduced"))
  f_told : ∃ fd, FunD K "told" "told" (defArgs (topS 13)) (defBody (topS 13)) (defScope (topS 13)) [] [] (He.ga K "told") fd
  g_told : mg "told" = some (.ref (He.ga K "told"))
  f_asked : ∃ fd, FunD K "asked" "asked" (defArgs (topS 14)) (defBody (topS 14)) (defScope (topS 14)) [] [] (He.ga K "asked") fd
  g_asked : mg "asked" = some (.ref (He.ga K "asked"))
  f_fsum : ∃ fd, FunD K "fsum" "fsum" (defArgs (topS 15)) (defBody (topS 15)) (defScope (topS 15)) [] [] (He.ga K "fsum") fd
  g_fsum : mg "fsum" = some (.ref (He.ga K "fsum"))
  f_fdiff : ∃ fd, FunD K "fdiff" "fdiff" (defArgs (topS 16)) (defBody (topS 16)) (defScope (topS 16)) [] [] (He.ga K "fdiff") fd
  g_fdiff : mg "fdiff" = some (.ref (He.ga K "fdiff"))
  f_fprod : ∃ fd, FunD K "fprod" "fprod" (defArgs (topS 17)) (defBody (topS 17)) (defScope (topS 17)) [] [] (He.ga K "fprod") fd
  g_fprod : mg "fprod" = some (.ref (He.ga K "fprod"))
  f_fquot : ∃ fd, FunD K "fquot" "fquot" (defArgs (topS 18)) (defBody (topS 18)) (defScope (topS 18)) [] [] (He.ga K "fquot") fd
  g_fquot : mg "fquot" = some (.ref (He.ga K "fquot"))
  f_fless : ∃ fd, FunD K "fless" "fless" (defArgs (topS 19)) (defBody (topS 19)) (defScope (topS 19)) [] [] (He.ga K "fless") fd
  g_fless : mg "fless" = some (.ref (He.ga K "fless"))
  f_canonical : ∃ fd, FunD K "canonical" "canonical" (defArgs (topS 21)) (defBody (topS 21)) (defScope (topS 21)) [] [] (He.ga K "canonical") fd
  g_canonical : mg "canonical" = some (.ref (He.ga K "canonical"))
  f_value_at : ∃ fd, FunD K "value_at" "value_at" (defArgs (topS 22)) (defBody (topS 22)) (defScope (topS 22)) [] [] (He.ga K "value_at") fd
  g_value_at : mg "value_at" = some (.ref (He.ga K "value_at"))
  f_place_of : ∃ fd, FunD K "place_of" "place_of" (defArgs (topS 23)) (defBody (topS 23)) (defScope (topS 23)) [] [] (He.ga K "place_of") fd
  g_place_of : mg "place_of" = some (.ref (He.ga K "place_of"))
  f_joined : ∃ fd, FunD K "joined" "joined" (defArgs (topS 24)) (defBody (topS 24)) (defScope (topS 24)) [] [] (He.ga K "joined") fd
  g_joined : mg "joined" = some (.ref (He.ga K "joined"))
  f_is_slope : ∃ fd, FunD K "is_slope" "is_slope" (defArgs (topS 36)) (defBody (topS 36)) (defScope (topS 36)) [] [] (He.ga K "is_slope") fd
  g_is_slope : mg "is_slope" = some (.ref (He.ga K "is_slope"))
  f_told_knot : ∃ fd, FunD K "told_knot" "told_knot" (defArgs (topS 37)) (defBody (topS 37)) (defScope (topS 37)) [] [] (He.ga K "told_knot") fd
  g_told_knot : mg "told_knot" = some (.ref (He.ga K "told_knot"))
  f_checked_knots : ∃ fd, FunD K "checked_knots" "checked_knots" (defArgs (topS 38)) (defBody (topS 38)) (defScope (topS 38)) [] [] (He.ga K "checked_knots") fd
  g_checked_knots : mg "checked_knots" = some (.ref (He.ga K "checked_knots"))
  f__law_pool : ∃ fd, FunD K "_law_pool" "_law_pool" (defArgs (topS 41)) (defBody (topS 41)) (defScope (topS 41)) [] [] (He.ga K "_law_pool") fd
  g__law_pool : mg "_law_pool" = some (.ref (He.ga K "_law_pool"))
  f__law_draw : ∃ fd, FunD K "_law_draw" "_law_draw" (defArgs (topS 42)) (defBody (topS 42)) (defScope (topS 42)) [] [] (He.ga K "_law_draw") fd
  g__law_draw : mg "_law_draw" = some (.ref (He.ga K "_law_draw"))
  f__law_whole : ∃ fd, FunD K "_law_whole" "_law_whole" (defArgs (topS 43)) (defBody (topS 43)) (defScope (topS 43)) [] [] (He.ga K "_law_whole") fd
  g__law_whole : mg "_law_whole" = some (.ref (He.ga K "_law_whole"))
  f__law_gcd : ∃ fd, FunD K "_law_gcd" "_law_gcd" (defArgs (topS 44)) (defBody (topS 44)) (defScope (topS 44)) [] [] (He.ga K "_law_gcd") fd
  g__law_gcd : mg "_law_gcd" = some (.ref (He.ga K "_law_gcd"))
  f__law_told : ∃ fd, FunD K "_law_told" "_law_told" (defArgs (topS 45)) (defBody (topS 45)) (defScope (topS 45)) [] [] (He.ga K "_law_told") fd
  g__law_told : mg "_law_told" = some (.ref (He.ga K "_law_told"))
  f__law_even : ∃ fd, FunD K "_law_even" "_law_even" (defArgs (topS 46)) (defBody (topS 46)) (defScope (topS 46)) [] [] (He.ga K "_law_even") fd
  g__law_even : mg "_law_even" = some (.ref (He.ga K "_law_even"))
  f__law_less : ∃ fd, FunD K "_law_less" "_law_less" (defArgs (topS 47)) (defBody (topS 47)) (defScope (topS 47)) [] [] (He.ga K "_law_less") fd
  g__law_less : mg "_law_less" = some (.ref (He.ga K "_law_less"))
  f__law_gives : ∃ fd, FunD K "_law_gives" "_law_gives" (defArgs (topS 48)) (defBody (topS 48)) (defScope (topS 48)) [] [] (He.ga K "_law_gives") fd
  g__law_gives : mg "_law_gives" = some (.ref (He.ga K "_law_gives"))
  f__law_plus : ∃ fd, FunD K "_law_plus" "_law_plus" (defArgs (topS 49)) (defBody (topS 49)) (defScope (topS 49)) [] [] (He.ga K "_law_plus") fd
  g__law_plus : mg "_law_plus" = some (.ref (He.ga K "_law_plus"))
  f__law_minus : ∃ fd, FunD K "_law_minus" "_law_minus" (defArgs (topS 50)) (defBody (topS 50)) (defScope (topS 50)) [] [] (He.ga K "_law_minus") fd
  g__law_minus : mg "_law_minus" = some (.ref (He.ga K "_law_minus"))
  f__law_times : ∃ fd, FunD K "_law_times" "_law_times" (defArgs (topS 51)) (defBody (topS 51)) (defScope (topS 51)) [] [] (He.ga K "_law_times") fd
  g__law_times : mg "_law_times" = some (.ref (He.ga K "_law_times"))
  f__law_over : ∃ fd, FunD K "_law_over" "_law_over" (defArgs (topS 52)) (defBody (topS 52)) (defScope (topS 52)) [] [] (He.ga K "_law_over") fd
  g__law_over : mg "_law_over" = some (.ref (He.ga K "_law_over"))
  f__law_number : ∃ fd, FunD K "_law_number" "_law_number" (defArgs (topS 53)) (defBody (topS 53)) (defScope (topS 53)) [] [] (He.ga K "_law_number") fd
  g__law_number : mg "_law_number" = some (.ref (He.ga K "_law_number"))
  f__law_small : ∃ fd, FunD K "_law_small" "_law_small" (defArgs (topS 54)) (defBody (topS 54)) (defScope (topS 54)) [] [] (He.ga K "_law_small") fd
  g__law_small : mg "_law_small" = some (.ref (He.ga K "_law_small"))
  f__law_rise : ∃ fd, FunD K "_law_rise" "_law_rise" (defArgs (topS 56)) (defBody (topS 56)) (defScope (topS 56)) [] [] (He.ga K "_law_rise") fd
  g__law_rise : mg "_law_rise" = some (.ref (He.ga K "_law_rise"))
  f__law_slope : ∃ fd, FunD K "_law_slope" "_law_slope" (defArgs (topS 57)) (defBody (topS 57)) (defScope (topS 57)) [] [] (He.ga K "_law_slope") fd
  g__law_slope : mg "_law_slope" = some (.ref (He.ga K "_law_slope"))
  f__law_general : ∃ fd, FunD K "_law_general" "_law_general" (defArgs (topS 58)) (defBody (topS 58)) (defScope (topS 58)) [] [] (He.ga K "_law_general") fd
  g__law_general : mg "_law_general" = some (.ref (He.ga K "_law_general"))
  f__law_spec : ∃ fd, FunD K "_law_spec" "_law_spec" (defArgs (topS 59)) (defBody (topS 59)) (defScope (topS 59)) [] [] (He.ga K "_law_spec") fd
  g__law_spec : mg "_law_spec" = some (.ref (He.ga K "_law_spec"))
  f__law_at : ∃ fd, FunD K "_law_at" "_law_at" (defArgs (topS 60)) (defBody (topS 60)) (defScope (topS 60)) [] [] (He.ga K "_law_at") fd
  g__law_at : mg "_law_at" = some (.ref (He.ga K "_law_at"))
  f__law_step : ∃ fd, FunD K "_law_step" "_law_step" (defArgs (topS 61)) (defBody (topS 61)) (defScope (topS 61)) [] [] (He.ga K "_law_step") fd
  g__law_step : mg "_law_step" = some (.ref (He.ga K "_law_step"))
  f__law_given : ∃ fd, FunD K "_law_given" "_law_given" (defArgs (topS 55)) (defBody (topS 55)) (defScope (topS 55)) [] [] (He.ga K "_law_given") fd
  g__law_given : mg "_law_given" = some (.ref (He.ga K "_law_given"))
  f__law_odd : ∃ fd, FunD K "_law_odd" "_law_odd" (defArgs (topS 62)) (defBody (topS 62)) (defScope (topS 62)) [] [] (He.ga K "_law_odd") fd
  g__law_odd : mg "_law_odd" = some (.ref (He.ga K "_law_odd"))
  f__law_made : ∃ fd, FunD K "_law_made" "_law_made" (defArgs (topS 63)) (defBody (topS 63)) (defScope (topS 63)) [] [] (He.ga K "_law_made") fd
  g__law_made : mg "_law_made" = some (.ref (He.ga K "_law_made"))
  f__law_try : ∃ fd, FunD K "_law_try" "_law_try" (defArgs (topS 64)) (defBody (topS 64)) (defScope (topS 64)) [] [] (He.ga K "_law_try") fd
  g__law_try : mg "_law_try" = some (.ref (He.ga K "_law_try"))
  f__law_call : ∃ fd, FunD K "_law_call" "_law_call" (defArgs (topS 65)) (defBody (topS 65)) (defScope (topS 65)) [] [] (He.ga K "_law_call") fd
  g__law_call : mg "_law_call" = some (.ref (He.ga K "_law_call"))
  f__law_due : ∃ fd, FunD K "_law_due" "_law_due" (defArgs (topS 66)) (defBody (topS 66)) (defScope (topS 66)) [] [] (He.ga K "_law_due") fd
  g__law_due : mg "_law_due" = some (.ref (He.ga K "_law_due"))
  f__law_methods : ∃ fd, FunD K "_law_methods" "_law_methods" (defArgs (topS 67)) (defBody (topS 67)) (defScope (topS 67)) [] [] (He.ga K "_law_methods") fd
  g__law_methods : mg "_law_methods" = some (.ref (He.ga K "_law_methods"))
  f_law : ∃ fd, FunD K "law" "law" (defArgs (topS 68)) (defBody (topS 68)) (defScope (topS 68)) [] [] (He.ga K "law") fd
  g_law : mg "law" = some (.ref (He.ga K "law"))
  f_Knots___init__ : ∃ fd, FunD K "__init__" "Knots.__init__" (defArgs (clsM (topS 35) 0)) (defBody (clsM (topS 35) 0)) (defScope (clsM (topS 35) 0)) [] [] (He.ma K (He.ga K "Knots") "__init__") fd
  f_Step___init__ : ∃ fd, FunD K "__init__" "Step.__init__" (defArgs (clsM (topS 39) 0)) (defBody (clsM (topS 39) 0)) (defScope (clsM (topS 39) 0)) [] [] (He.ma K (He.ga K "Step") "__init__") fd
  f_Step_shape : ∃ fd, FunD K "shape" "Step.shape" (defArgs (clsM (topS 39) 6)) (defBody (clsM (topS 39) 6)) (defScope (clsM (topS 39) 6)) [] [] (He.ma K (He.ga K "Step") "shape") fd
  f_Step_left : ∃ fd, FunD K "left" "Step.left" (defArgs (clsM (topS 39) 7)) (defBody (clsM (topS 39) 7)) (defScope (clsM (topS 39) 7)) [] [] (He.ma K (He.ga K "Step") "left") fd
  f_Step_right : ∃ fd, FunD K "right" "Step.right" (defArgs (clsM (topS 39) 8)) (defBody (clsM (topS 39) 8)) (defScope (clsM (topS 39) 8)) [] [] (He.ma K (He.ga K "Step") "right") fd
  f_Step_knots : ∃ fd, FunD K "knots" "Step.knots" (defArgs (clsM (topS 39) 9)) (defBody (clsM (topS 39) 9)) (defScope (clsM (topS 39) 9)) [] [] (He.ma K (He.ga K "Step") "knots") fd
  f_Step___call__ : ∃ fd, FunD K "__call__" "Step.__call__" (defArgs (clsM (topS 39) 10)) (defBody (clsM (topS 39) 10)) (defScope (clsM (topS 39) 10)) [] [] (He.ma K (He.ga K "Step") "__call__") fd
  f_Step___rshift__ : ∃ fd, FunD K "__rshift__" "Step.__rshift__" (defArgs (clsM (topS 39) 13)) (defBody (clsM (topS 39) 13)) (defScope (clsM (topS 39) 13)) [] [] (He.ma K (He.ga K "Step") "__rshift__") fd
  f_Step_plus : ∃ fd, FunD K "plus" "Step.plus" (defArgs (clsM (topS 39) 1)) (defBody (clsM (topS 39) 1)) (defScope (clsM (topS 39) 1)) [] [] (cmAd K "Step" "plus") fd
  f_Step_times : ∃ fd, FunD K "times" "Step.times" (defArgs (clsM (topS 39) 2)) (defBody (clsM (topS 39) 2)) (defScope (clsM (topS 39) 2)) [] [] (cmAd K "Step" "times") fd
  f_Step_at_least : ∃ fd, FunD K "at_least" "Step.at_least" (defArgs (clsM (topS 39) 3)) (defBody (clsM (topS 39) 3)) (defScope (clsM (topS 39) 3)) [] [] (cmAd K "Step" "at_least") fd
  f_Step_at_most : ∃ fd, FunD K "at_most" "Step.at_most" (defArgs (clsM (topS 39) 4)) (defBody (clsM (topS 39) 4)) (defScope (clsM (topS 39) 4)) [] [] (cmAd K "Step" "at_most") fd
  f_Step_always : ∃ fd, FunD K "always" "Step.always" (defArgs (clsM (topS 39) 5)) (defBody (clsM (topS 39) 5)) (defScope (clsM (topS 39) 5)) [] [] (cmAd K "Step" "always") fd
  file : ((P.main.file : Str) == theFile) = true
  tops : (P.main.scope.names.lookup ("super" : Str)).isSome = false
  opq : PySem.W.nsIn K PySem.cStatics "thirdparty.any" = some none
  x_InvalidFraction : ∃ cc cda fd, FunX K theFile ⟨"__init__", "InvalidFraction.__init__", defArgs (clsM (topS 4) 0), defBody (clsM (topS 4) 0), defScope (clsM (topS 4) 0), [(("__class__" : Str), cc)], cda⟩ (initAd K "InvalidFraction") (He.ga K "InvalidFraction") cc fd
  e_InvalidFraction : OexA K (He.ga K "InvalidFraction") ∧ PySem.W.findIn K (.ref (He.ga K "InvalidFraction")) "__init__" = some (some (.ref (initAd K "InvalidFraction"))) ∧ PySem.W.typeIn K (.ref (initAd K "InvalidFraction")) = some (.type "function") ∧ XfC K (He.ga K "InvalidFraction")
  x_InvalidStep : ∃ cc cda fd, FunX K theFile ⟨"__init__", "InvalidStep.__init__", defArgs (clsM (topS 6) 0), defBody (clsM (topS 6) 0), defScope (clsM (topS 6) 0), [(("__class__" : Str), cc)], cda⟩ (initAd K "InvalidStep") (He.ga K "InvalidStep") cc fd
  e_InvalidStep : OexA K (He.ga K "InvalidStep") ∧ PySem.W.findIn K (.ref (He.ga K "InvalidStep")) "__init__" = some (some (.ref (initAd K "InvalidStep"))) ∧ PySem.W.typeIn K (.ref (initAd K "InvalidStep")) = some (.type "function") ∧ XfC K (He.ga K "InvalidStep")
  x_InvalidBound : ∃ cc cda fd, FunX K theFile ⟨"__init__", "InvalidBound.__init__", defArgs (clsM (topS 5) 0), defBody (clsM (topS 5) 0), defScope (clsM (topS 5) 0), [(("__class__" : Str), cc)], cda⟩ (initAd K "InvalidBound") (He.ga K "InvalidBound") cc fd
  e_InvalidBound : OexA K (He.ga K "InvalidBound") ∧ PySem.W.findIn K (.ref (He.ga K "InvalidBound")) "__init__" = some (some (.ref (initAd K "InvalidBound"))) ∧ PySem.W.typeIn K (.ref (initAd K "InvalidBound")) = some (.type "function") ∧ XfC K (He.ga K "InvalidBound")
  c_Knots : Cls K (He.ga K "Knots")
  n_Knots_rows : NoAttr K (He.ga K "Knots") "rows"
  k_Knots : L2.Mk K (He.ga K "Knots") (He.ma K (He.ga K "Knots") "__init__")
  g_Knots : mg "Knots" = some (.ref (He.ga K "Knots"))
  c_Step : Cls K (He.ga K "Step")
  n_Step_points : NoAttr K (He.ga K "Step") "points"
  n_Step_slopes : NoAttr K (He.ga K "Step") "slopes"
  k_Step : L2.Mk K (He.ga K "Step") (He.ma K (He.ga K "Step") "__init__")
  g_Step : mg "Step" = some (.ref (He.ga K "Step"))
  m_Step_shape : Meth K (He.ga K "Step") "shape" (He.ma K (He.ga K "Step") "shape")
  m_Step_left : Meth K (He.ga K "Step") "left" (He.ma K (He.ga K "Step") "left")
  m_Step_right : Meth K (He.ga K "Step") "right" (He.ma K (He.ga K "Step") "right")
  m_Step_knots : Meth K (He.ga K "Step") "knots" (He.ma K (He.ga K "Step") "knots")
  m_Step___call__ : Meth K (He.ga K "Step") "__call__" (He.ma K (He.ga K "Step") "__call__")
  m_Step___rshift__ : Meth K (He.ga K "Step") "__rshift__" (He.ma K (He.ga K "Step") "__rshift__")
  v_Step_plus : ClX.CRead K (He.ga K "Step") (.type "type") ∧ ClX.CMet K (He.ga K "Step") (.type "type") "plus" (He.ma K (He.ga K "Step") "plus") (cmAd K "Step" "plus")
  v_Step_times : ClX.CRead K (He.ga K "Step") (.type "type") ∧ ClX.CMet K (He.ga K "Step") (.type "type") "times" (He.ma K (He.ga K "Step") "times") (cmAd K "Step" "times")
  v_Step_at_least : ClX.CRead K (He.ga K "Step") (.type "type") ∧ ClX.CMet K (He.ga K "Step") (.type "type") "at_least" (He.ma K (He.ga K "Step") "at_least") (cmAd K "Step" "at_least")
  v_Step_at_most : ClX.CRead K (He.ga K "Step") (.type "type") ∧ ClX.CMet K (He.ga K "Step") (.type "type") "at_most" (He.ma K (He.ga K "Step") "at_most") (cmAd K "Step" "at_most")
  v_Step_always : ClX.CRead K (He.ga K "Step") (.type "type") ∧ ClX.CMet K (He.ga K "Step") (.type "type") "always" (He.ma K (He.ga K "Step") "always") (cmAd K "Step" "always")
  w_Step___call__ : PySem.W.fnIn K (He.ma K (He.ga K "Step") "__call__") = true
  g_InvalidFraction : mg "InvalidFraction" = some (.ref (He.ga K "InvalidFraction"))
  g_InvalidStep : mg "InvalidStep" = some (.ref (He.ga K "InvalidStep"))
  g_InvalidBound : mg "InvalidBound" = some (.ref (He.ga K "InvalidBound"))
  tags : TagsOk K mg theTags
  t_InvalidFraction_name : PySem.W.takerIn K (He.ga K "InvalidFraction") "name" = some none ∧ PySem.W.findIn K (.ref (He.ga K "InvalidFraction")) "name" = some none
  t_InvalidStep_part : PySem.W.takerIn K (He.ga K "InvalidStep") "part" = some none ∧ PySem.W.findIn K (.ref (He.ga K "InvalidStep")) "part" = some none
  t_InvalidStep_at : PySem.W.takerIn K (He.ga K "InvalidStep") "at" = some none ∧ PySem.W.findIn K (.ref (He.ga K "InvalidStep")) "at" = some none
  t_InvalidBound_name : PySem.W.takerIn K (He.ga K "InvalidBound") "name" = some none ∧ PySem.W.findIn K (.ref (He.ga K "InvalidBound")) "name" = some none
  o_InvalidFraction : ExO K mg "InvalidFraction" ["InvalidBound"]
  o_InvalidBound : ExO K mg "InvalidBound" []
  b_abs : mg "abs" = none
  b_bool : mg "bool" = none
  b_dict : mg "dict" = none
  b_int : mg "int" = none
  b_isinstance : mg "isinstance" = none
  b_len : mg "len" = none
  b_list : mg "list" = none
  b_max : mg "max" = none
  b_range : mg "range" = none
  b_super : mg "super" = none
  b_tuple : mg "tuple" = none
  c_ZERO : Con1 K mg "ZERO" ((0, 1) : (Int × Int))
  c_ONE : Con1 K mg "ONE" ((1, 1) : (Int × Int))
abbrev s_own_copy : Stmt := topS 2
theorem sc_own_copy : FnScope ["value", "entry", "key"] ["value"] (defScope s_own_copy) := ⟨rfl, rfl, rfl, by decide +kernel, rfl, by decide +kernel, by decide +kernel⟩
theorem d_own_copy {P : Program} {w : World} {K : Fg} {mg : Str → Option Value} {base : Heap} (Z : Facts P K mg) : Def P w K mg base "own_copy" 1 ["value"] (spF K fun (a : (D × Unit)) => own_copy a.1) := by
  obtain ⟨fd, F⟩ := Z.f_own_copy
  refine ⟨_, fd, Z.g_own_copy, F.kp, F.bindsN (fun _ _ _ _ _ _ us hl => match us, hl with | [_], _ => rfl), fn_ok (m := fun (a : (D × Unit)) => own_copy_b a.1) F sc_own_copy rfl fun cdv A outer s H E C a => ?_⟩
  exact (pb_if (Δ1 := fun (r1 : Unit) _ => [sI K (a.1 : D), .un, .un]) (pt_v (px_isi Z.b_isinstance Z.b_list (px_var 0))) pb_stuck (pb_nil [] (r := ())) fun r1 => (pb_if (Δ1 := fun (r2 : Unit) _ => [sI K (a.1 : D), .un, .un]) (pt_v (px_isi Z.b_isinstance Z.b_tuple (px_var 0))) pb_stuck (pb_nil [] (r := ())) fun r2 => (pb_if (Δ1 := fun (r3 : Unit) _ => [sI K (a.1 : D), .un, .un]) (pt_v (px_isi Z.b_isinstance Z.b_dict (px_var 0))) pb_stuck (pb_nil [] (r := ())) fun r3 => (pb_retI (px_var 0)))))
theorem sx_InvalidFraction (cc cda : Addr) : SupX ⟨"__init__", "InvalidFraction.__init__", defArgs (clsM (topS 4) 0), defBody (clsM (topS 4) 0), defScope (clsM (topS 4) 0), [(("__class__" : Str), cc)], cda⟩ [("name" : Str)] (defBody (clsM (topS 4) 0)).tail :=
  ⟨⟨_, _, _, _, _, _, _, _, rfl, fun f L => ⟨rfl, rfl, _, rfl⟩⟩, (show NScope _ _ _ (defScope (clsM (topS 4) 0)) from nscope_by (by decide +kernel)), ⟨_, rfl, rfl⟩, (show (defScope (clsM (topS 4) 0)).names.lookup ("super" : Str) = some .globalImplicit from by decide +kernel)⟩
theorem x_InvalidFraction {P : Program} {w : World} {K : Fg} {mg : Str → Option Value} {base : Heap} (Z : Facts P K mg) : Exn P w K mg base "InvalidFraction" 2 (fun (a : (Str × Unit)) => mk_InvalidFraction a.1) := by
  obtain ⟨cc, cda, fd, FX⟩ := Z.x_InvalidFraction
  obtain ⟨T, h1, h2, _⟩ := Z.e_InvalidFraction
  have bd : Binds K fd (("self" : Str) :: [("name" : Str)]) [] := by
    obtain ⟨_, _, _, _, _, _, efd, _⟩ := FX.ex
    rw [efd]
    exact .all fun us hl => match us, hl with | [_, _], _ => rfl
  refine ⟨_, fd, _, T, Z.g_InvalidFraction, h1, h2, bd, xfn_ok (mb := fun (a : (Str × Unit)) => InvalidFraction_b a.1) FX T (sx_InvalidFraction cc cda) Z.b_super Z.file Z.tops Z.opq rfl fun A outer s H E C x a => ?_⟩
  exact (pb_xst T (Z.t_InvalidFraction_name).1 (fun _ => rfl) (px_call (d_own_copy Z) C (pax_cons (px_toD (px_var 1)) pax_nil)) (fun d0 => (pb_nil [] (r := [(("name" : Str), d0)]))) (Nat.le_of_ble_eq_true rfl))
theorem sx_InvalidStep (cc cda : Addr) : SupX ⟨"__init__", "InvalidStep.__init__", defArgs (clsM (topS 6) 0), defBody (clsM (topS 6) 0), defScope (clsM (topS 6) 0), [(("__class__" : Str), cc)], cda⟩ [("part" : Str), ("at" : Str)] (defBody (clsM (topS 6) 0)).tail :=
  ⟨⟨_, _, _, _, _, _, _, _, rfl, fun f L => ⟨rfl, rfl, _, rfl⟩⟩, (show NScope _ _ _ (defScope (clsM (topS 6) 0)) from nscope_by (by decide +kernel)), ⟨_, rfl, rfl⟩, (show (defScope (clsM (topS 6) 0)).names.lookup ("super" : Str) = some .globalImplicit from by decide +kernel)⟩
theorem x_InvalidStep {P : Program} {w : World} {K : Fg} {mg : Str → Option Value} {base : Heap} (Z : Facts P K mg) : Exn P w K mg base "InvalidStep" 2 (fun (a : (Str × Int × Unit)) => mk_InvalidStep a.1 a.2.1) := by
  obtain ⟨cc, cda, fd, FX⟩ := Z.x_InvalidStep
  obtain ⟨T, h1, h2, _⟩ := Z.e_InvalidStep
  have bd : Binds K fd (("self" : Str) :: [("part" : Str), ("at" : Str)]) [] := by
    obtain ⟨_, _, _, _, _, _, efd, _⟩ := FX.ex
    rw [efd]
    exact .all fun us hl => match us, hl with | [_, _, _], _ => rfl
  refine ⟨_, fd, _, T, Z.g_InvalidStep, h1, h2, bd, xfn_ok (mb := fun (a : (Str × Int × Unit)) => InvalidStep_b a.1 a.2.1) FX T (sx_InvalidStep cc cda) Z.b_super Z.file Z.tops Z.opq rfl fun A outer s H E C x a => ?_⟩
  exact (pb_xst T (Z.t_InvalidStep_part).1 (fun _ => rfl) (px_call (d_own_copy Z) C (pax_cons (px_toD (px_var 1)) pax_nil)) (fun d0 => (pb_xst T (Z.t_InvalidStep_at).1 (fun _ => rfl) (px_call (d_own_copy Z) C (pax_cons (px_toD (px_var 2)) pax_nil)) (fun d1 => (pb_nil [] (r := [(("at" : Str), d1), (("part" : Str), d0)]))) (Nat.le_of_ble_eq_true rfl))) (Nat.le_of_ble_eq_true rfl))
theorem sx_InvalidBound (cc cda : Addr) : SupX ⟨"__init__", "InvalidBound.__init__", defArgs (clsM (topS 5) 0), defBody (clsM (topS 5) 0), defScope (clsM (topS 5) 0), [(("__class__" : Str), cc)], cda⟩ [("name" : Str)] (defBody (clsM (topS 5) 0)).tail :=
  ⟨⟨_, _, _, _, _, _, _, _, rfl, fun f L => ⟨rfl, rfl, _, rfl⟩⟩, (show NScope _ _ _ (defScope (clsM (topS 5) 0)) from nscope_by (by decide +kernel)), ⟨_, rfl, rfl⟩, (show (defScope (clsM (topS 5) 0)).names.lookup ("super" : Str) = some .globalImplicit from by decide +kernel)⟩
theorem x_InvalidBound {P : Program} {w : World} {K : Fg} {mg : Str → Option Value} {base : Heap} (Z : Facts P K mg) : Exn P w K mg base "InvalidBound" 2 (fun (a : (Str × Unit)) => mk_InvalidBound a.1) := by
  obtain ⟨cc, cda, fd, FX⟩ := Z.x_InvalidBound
  obtain ⟨T, h1, h2, _⟩ := Z.e_InvalidBound
  have bd : Binds K fd (("self" : Str) :: [("name" : Str)]) [] := by
    obtain ⟨_, _, _, _, _, _, efd, _⟩ := FX.ex
    rw [efd]
    exact .all fun us hl => match us, hl with | [_, _], _ => rfl
  refine ⟨_, fd, _, T, Z.g_InvalidBound, h1, h2, bd, xfn_ok (mb := fun (a : (Str × Unit)) => InvalidBound_b a.1) FX T (sx_InvalidBound cc cda) Z.b_super Z.file Z.tops Z.opq rfl fun A outer s H E C x a => ?_⟩
  exact (pb_xst T (Z.t_InvalidBound_name).1 (fun _ => rfl) (px_call (d_own_copy Z) C (pax_cons (px_toD (px_var 1)) pax_nil)) (fun d0 => (pb_nil [] (r := [(("name" : Str), d0)]))) (Nat.le_of_ble_eq_true rfl))
abbrev s_is_integer : Stmt := topS 10
theorem sc_is_integer : FnScope ["value"] ["value"] (defScope s_is_integer) := ⟨rfl, rfl, rfl, by decide +kernel, rfl, by decide +kernel, by decide +kernel⟩
theorem d_is_integer {P : Program} {w : World} {K : Fg} {mg : Str → Option Value} {base : Heap} (Z : Facts P K mg) : Def P w K mg base "is_integer" 1 ["value"] (spF K fun (a : (D × Unit)) => is_integer a.1) := by
  obtain ⟨fd, F⟩ := Z.f_is_integer
  refine ⟨_, fd, Z.g_is_integer, F.kp, F.bindsN (fun _ _ _ _ _ _ us hl => match us, hl with | [_], _ => rfl), fn_ok (m := fun (a : (D × Unit)) => is_integer_b a.1) F sc_is_integer rfl fun cdv A outer s H E C a => ?_⟩
  exact (pb_retI (px_and (px_isi Z.b_isinstance Z.b_int (px_var 0)) (px_and1 (px_not (px_isi Z.b_isinstance Z.b_bool (px_var 0))))))
abbrev s_is_fraction : Stmt := topS 11
theorem sc_is_fraction : FnScope ["value"] ["value"] (defScope s_is_fraction) := ⟨rfl, rfl, rfl, by decide +kernel, rfl, by decide +kernel, by decide +kernel⟩
theorem d_is_fraction {P : Program} {w : World} {K : Fg} {mg : Str → Option Value} {base : Heap} (Z : Facts P K mg) : Def P w K mg base "is_fraction" 2 ["value"] (spF K fun (a : (D × Unit)) => is_fraction a.1) := by
  obtain ⟨fd, F⟩ := Z.f_is_fraction
  refine ⟨_, fd, Z.g_is_fraction, F.kp, F.bindsN (fun _ _ _ _ _ _ us hl => match us, hl with | [_], _ => rfl), fn_ok (m := fun (a : (D × Unit)) => is_fraction_b a.1) F sc_is_fraction rfl fun cdv A outer s H E C a => ?_⟩
  exact (pb_if (Δ1 := fun (r1 : Unit) _ => [sI K (a.1 : D)]) (pt_v (px_call (d_is_integer Z) C (pax_cons (px_var 0) pax_nil))) (pb_retI px_bl) (pb_nil [] (r := ())) fun r1 => (pb_if (Δ1 := fun (r2 : Unit) _ => [sI K (a.1 : D)]) (PW.pt (Mi.pw_or (Mi.pt_not (pt_v (px_isi Z.b_isinstance Z.b_tuple (px_var 0)))) (Mi.pw_or1 (px_neS (px_dlen Z.b_len (px_var 0)) px_int).t))) (pb_retI px_bl) (pb_nil [] (r := ())) fun r2 => (pb_retI (px_and (px_call (d_is_integer Z) C (pax_cons (px_dix (px_var 0) px_int) pax_nil)) (px_and (px_call (d_is_integer Z) C (pax_cons (px_dix (px_var 0) px_int) pax_nil)) (px_and1 (px_ge (px_ofD (px_dix (px_var 0) px_int)) px_int).e))))))
abbrev s_reduced : Stmt := topS 12
theorem sc_reduced : FnScope ["p", "q", "one", "other"] ["p", "q"] (defScope s_reduced) := ⟨rfl, rfl, rfl, by decide +kernel, rfl, by decide +kernel, by decide +kernel⟩
theorem d_reduced {P : Program} {w : World} {K : Fg} {mg : Str → Option Value} {base : Heap} (Z : Facts P K mg) : Def P w K mg base "reduced" 1 ["p", "q"] (spF K fun (a : (Int × Int × Unit)) => reduced a.1 a.2.1) := by
  obtain ⟨fd, F⟩ := Z.f_reduced
  refine ⟨_, fd, Z.g_reduced, F.kp, F.bindsN (fun _ _ _ _ _ _ us hl => match us, hl with | [_, _], _ => rfl), fn_ok (m := fun (a : (Int × Int × Unit)) => reduced_b a.1 a.2.1) F sc_reduced rfl fun cdv A outer s H E C a => ?_⟩
  exact (pb_set 2 C (px_abs Z.b_abs (px_var 0)) fun one1 => (pb_set 3 C (px_var 1) fun other2 => (pb_while [] (other2.natAbs + 1) (L := fun (r3 : (Int × Int)) _ => [sI K (a.1 : Int), sI K (a.2.1 : Int), sI K (r3.1 : Int), sI K (r3.2 : Int)]) (r0 := (one1, other2)) C (fun _ => rfl) (fun r3 => (px_neS (px_var 3) px_int).t) (fun r3 => (pb_par 2 3 C (pax_cons (px_var 3) (pax_cons (px_mod (px_var 2) (px_var 3)) pax_nil)) (fun p4 => (pb_nil [] (r := (p4.1, p4.2.1)))) (fun ha => ps_par C.calm C.nd rfl rfl (by decide) rfl rfl ha (by rfl)))) fun r3 => (pb_retI (px_tup2 (pax_cons (px_div (px_var 0) (px_var 2)) (pax_cons (px_div (px_var 1) (px_var 2)) pax_nil)))))))
abbrev s_told : Stmt := topS 13
theorem sc_told : FnScope ["value"] ["value"] (defScope s_told) := ⟨rfl, rfl, rfl, by decide +kernel, rfl, by decide +kernel, by decide +kernel⟩
theorem d_told {P : Program} {w : World} {K : Fg} {mg : Str → Option Value} {base : Heap} (Z : Facts P K mg) : Def P w K mg base "told" 2 ["value"] (spF K fun (a : (D × Unit)) => told a.1) := by
  obtain ⟨fd, F⟩ := Z.f_told
  refine ⟨_, fd, Z.g_told, F.kp, F.bindsN (fun _ _ _ _ _ _ us hl => match us, hl with | [_], _ => rfl), fn_ok (m := fun (a : (D × Unit)) => told_b a.1) F sc_told rfl fun cdv A outer s H E C a => ?_⟩
  exact (pb_if (Δ1 := fun (r1 : Unit) _ => [sI K (a.1 : D)]) (pt_v (px_call (d_is_integer Z) C (pax_cons (px_var 0) pax_nil))) (pb_retI (px_tup2 (pax_cons (px_ofD (px_var 0)) (pax_cons px_int pax_nil)))) (pb_nil [] (r := ())) fun r1 => (pb_retI (px_call (d_reduced Z) C (pax_cons (px_ofD (px_dix (px_var 0) px_int)) (pax_cons (px_ofD (px_dix (px_var 0) px_int)) pax_nil)))))
abbrev s_asked : Stmt := topS 14
theorem sc_asked : FnScope ["value", "name"] ["value", "name"] (defScope s_asked) := ⟨rfl, rfl, rfl, by decide +kernel, rfl, by decide +kernel, by decide +kernel⟩
theorem d_asked {P : Program} {w : World} {K : Fg} {mg : Str → Option Value} {base : Heap} (Z : Facts P K mg) : Def P w K mg base "asked" 4 ["value", "name"] (spF K fun (a : (D × Str × Unit)) => asked a.1 a.2.1) := by
  obtain ⟨fd, F⟩ := Z.f_asked
  refine ⟨_, fd, Z.g_asked, F.kp, F.bindsN (fun _ _ _ _ _ _ us hl => match us, hl with | [_, _], _ => rfl), fn_ok (m := fun (a : (D × Str × Unit)) => asked_b a.1 a.2.1) F sc_asked rfl fun cdv A outer s H E C a => ?_⟩
  exact (pb_if (Δ1 := fun (r1 : Unit) _ => [sI K (a.1 : D), sI K (a.2.1 : Str)]) (Mi.pt_not (pt_v (px_call (d_is_fraction Z) C (pax_cons (px_var 0) pax_nil)))) (pb_raise (x_InvalidFraction Z) C (pax_cons (px_var 1) pax_nil)) (pb_nil [] (r := ())) fun r1 => (pb_retI (px_call (d_told Z) C (pax_cons (px_var 0) pax_nil))))
abbrev s_fsum : Stmt := topS 15
theorem sc_fsum : FnScope ["one", "other"] ["one", "other"] (defScope s_fsum) := ⟨rfl, rfl, rfl, by decide +kernel, rfl, by decide +kernel, by decide +kernel⟩
theorem d_fsum {P : Program} {w : World} {K : Fg} {mg : Str → Option Value} {base : Heap} (Z : Facts P K mg) : Def P w K mg base "fsum" 2 ["one", "other"] (spF K fun (a : ((Int × Int) × (Int × Int) × Unit)) => fsum a.1 a.2.1) := by
  obtain ⟨fd, F⟩ := Z.f_fsum
  refine ⟨_, fd, Z.g_fsum, F.kp, F.bindsN (fun _ _ _ _ _ _ us hl => match us, hl with | [_, _], _ => rfl), fn_ok (m := fun (a : ((Int × Int) × (Int × Int) × Unit)) => fsum_b a.1 a.2.1) F sc_fsum rfl fun cdv A outer s H E C a => ?_⟩
  exact (pb_retI (px_call (d_reduced Z) C (pax_cons (px_add (px_mul (px_fst (px_var 0)) (px_snd (px_var 1))) (px_mul (px_fst (px_var 1)) (px_snd (px_var 0)))) (pax_cons (px_mul (px_snd (px_var 0)) (px_snd (px_var 1))) pax_nil))))
abbrev s_fdiff : Stmt := topS 16
theorem sc_fdiff : FnScope ["one", "other"] ["one", "other"] (defScope s_fdiff) := ⟨rfl, rfl, rfl, by decide +kernel, rfl, by decide +kernel, by decide +kernel⟩
theorem d_fdiff {P : Program} {w : World} {K : Fg} {mg : Str → Option Value} {base : Heap} (Z : Facts P K mg) : Def P w K mg base "fdiff" 2 ["one", "other"] (spF K fun (a : ((Int × Int) × (Int × Int) × Unit)) => fdiff a.1 a.2.1) := by
  obtain ⟨fd, F⟩ := Z.f_fdiff
  refine ⟨_, fd, Z.g_fdiff, F.kp, F.bindsN (fun _ _ _ _ _ _ us hl => match us, hl with | [_, _], _ => rfl), fn_ok (m := fun (a : ((Int × Int) × (Int × Int) × Unit)) => fdiff_b a.1 a.2.1) F sc_fdiff rfl fun cdv A outer s H E C a => ?_⟩
  exact (pb_retI (px_call (d_reduced Z) C (pax_cons (px_sub (px_mul (px_fst (px_var 0)) (px_snd (px_var 1))) (px_mul (px_fst (px_var 1)) (px_snd (px_var 0)))) (pax_cons (px_mul (px_snd (px_var 0)) (px_snd (px_var 1))) pax_nil))))
abbrev s_fprod : Stmt := topS 17
theorem sc_fprod : FnScope ["one", "other"] ["one", "other"] (defScope s_fprod) := ⟨rfl, rfl, rfl, by decide +kernel, rfl, by decide +kernel, by decide +kernel⟩
theorem d_fprod {P : Program} {w : World} {K : Fg} {mg : Str → Option Value} {base : Heap} (Z : Facts P K mg) : Def P w K mg base "fprod" 2 ["one", "other"] (spF K fun (a : ((Int × Int) × (Int × Int) × Unit)) => fprod a.1 a.2.1) := by
  obtain ⟨fd, F⟩ := Z.f_fprod
  refine ⟨_, fd, Z.g_fprod, F.kp, F.bindsN (fun _ _ _ _ _ _ us hl => match us, hl with | [_, _], _ => rfl), fn_ok (m := fun (a : ((Int × Int) × (Int × Int) × Unit)) => fprod_b a.1 a.2.1) F sc_fprod rfl fun cdv A outer s H E C a => ?_⟩
  exact (pb_retI (px_call (d_reduced Z) C (pax_cons (px_mul (px_fst (px_var 0)) (px_fst (px_var 1))) (pax_cons (px_mul (px_snd (px_var 0)) (px_snd (px_var 1))) pax_nil))))
abbrev s_fquot : Stmt := topS 18
theorem sc_fquot : FnScope ["one", "other"] ["one", "other"] (defScope s_fquot) := ⟨rfl, rfl, rfl, by decide +kernel, rfl, by decide +kernel, by decide +kernel⟩
theorem d_fquot {P : Program} {w : World} {K : Fg} {mg : Str → Option Value} {base : Heap} (Z : Facts P K mg) : Def P w K mg base "fquot" 2 ["one", "other"] (spF K fun (a : ((Int × Int) × (Int × Int) × Unit)) => fquot a.1 a.2.1) := by
  obtain ⟨fd, F⟩ := Z.f_fquot
  refine ⟨_, fd, Z.g_fquot, F.kp, F.bindsN (fun _ _ _ _ _ _ us hl => match us, hl with | [_, _], _ => rfl), fn_ok (m := fun (a : ((Int × Int) × (Int × Int) × Unit)) => fquot_b a.1 a.2.1) F sc_fquot rfl fun cdv A outer s H E C a => ?_⟩
  exact (pb_if (Δ1 := fun (r1 : Unit) _ => [sI K (a.1 : (Int × Int)), sI K (a.2.1 : (Int × Int))]) (px_lt (px_fst (px_var 1)) px_int).t (pb_retI (px_call (d_reduced Z) C (pax_cons (px_mul (px_neg (px_fst (px_var 0))) (px_snd (px_var 1))) (pax_cons (px_mul (px_neg (px_snd (px_var 0))) (px_fst (px_var 1))) pax_nil)))) (pb_nil [] (r := ())) fun r1 => (pb_retI (px_call (d_reduced Z) C (pax_cons (px_mul (px_fst (px_var 0)) (px_snd (px_var 1))) (pax_cons (px_mul (px_snd (px_var 0)) (px_fst (px_var 1))) pax_nil)))))
abbrev s_fless : Stmt := topS 19
theorem sc_fless : FnScope ["one", "other"] ["one", "other"] (defScope s_fless) := ⟨rfl, rfl, rfl, by decide +kernel, rfl, by decide +kernel, by decide +kernel⟩
theorem d_fless {P : Program} {w : World} {K : Fg} {mg : Str → Option Value} {base : Heap} (Z : Facts P K mg) : Def P w K mg base "fless" 1 ["one", "other"] (spF K fun (a : ((Int × Int) × (Int × Int) × Unit)) => fless a.1 a.2.1) := by
  obtain ⟨fd, F⟩ := Z.f_fless
  refine ⟨_, fd, Z.g_fless, F.kp, F.bindsN (fun _ _ _ _ _ _ us hl => match us, hl with | [_, _], _ => rfl), fn_ok (m := fun (a : ((Int × Int) × (Int × Int) × Unit)) => fless_b a.1 a.2.1) F sc_fless rfl fun cdv A outer s H E C a => ?_⟩
  exact (pb_retI (px_lt (px_mul (px_fst (px_var 0)) (px_snd (px_var 1))) (px_mul (px_fst (px_var 1)) (px_snd (px_var 0)))).e)
abbrev s_canonical : Stmt := topS 21
theorem sc_canonical : FnScope ["points", "left", "right", "slopes", "at", "one", "other", "bends", "first"] ["points", "left", "right"] (defScope s_canonical) := ⟨rfl, rfl, rfl, by decide +kernel, rfl, by decide +kernel, by decide +kernel⟩
theorem d_canonical {P : Program} {w : World} {K : Fg} {mg : Str → Option Value} {base : Heap} (Z : Facts P K mg) : Def P w K mg base "canonical" 3 ["points", "left", "right"] (spF K fun (a : ((List ((Int × Int) × (Int × Int))) × (Int × Int) × (Int × Int) × Unit)) => canonical a.1 a.2.1 a.2.2.1) := by
  obtain ⟨fd, F⟩ := Z.f_canonical
  refine ⟨_, fd, Z.g_canonical, F.kp, F.bindsN (fun _ _ _ _ _ _ us hl => match us, hl with | [_, _, _], _ => rfl), fn_ok (m := fun (a : ((List ((Int × Int) × (Int × Int))) × (Int × Int) × (Int × Int) × Unit)) => canonical_b a.1 a.2.1 a.2.2.1) F sc_canonical rfl fun cdv A outer s H E C a => ?_⟩
  exact (pb_new 3 C (plx_cons (px_var 1) plx_nil) fun slopes1 => (pb_for [4] [] (L := fun (r2 : (List (Int × Int))) _ => [sI K (a.1 : (List ((Int × Int) × (Int × Int)))), sI K (a.2.1 : (Int × Int)), sI K (a.2.2.1 : (Int × Int)), sL K (r2 : (List (Int × Int))), .un, .un, .un, .un, .un]) (r0 := slopes1) C (gt_name 4 C.nd) (ix_r1 Z.b_range (px_sub (px_len Z.b_len (px_var 0)) px_int)) (fun _ => rfl) (fun x3 r2 => (pb_set 5 C (px_ix (px_var 0) (px_var 4)) fun one4 => (pb_set 6 C (px_ix (px_var 0) (px_add (px_var 4) px_int)) fun other5 => (pb_app 3 (fun _ => rfl) (px_call (d_fquot Z) C (pax_cons (px_call (d_fdiff Z) C (pax_cons (px_snd (px_var 6)) (pax_cons (px_snd (px_var 5)) pax_nil))) (pax_cons (px_call (d_fdiff Z) C (pax_cons (px_fst (px_var 6)) (pax_cons (px_fst (px_var 5)) pax_nil))) pax_nil))) (fun slopes6 => (pb_nil [4, 5, 6] (r := slopes6))) (fun h => ps_expr (pe_bm PySem.F.plainAttrs_list PySem.F.slot_list_append PySem.F.type_list_append mt_append (pv 3) (pa_cons h pa_nil))))))) fun r2 => (pb_app 3 (fun _ => rfl) (px_var 2) (fun slopes7 => (pb_setLcC 7 4 (own := [("at", 4)]) C (ix_r1 Z.b_range (px_len Z.b_len (px_var 0))) (blkOk_by (own := [("at", 4)]) (N := ["points", "left", "right", "slopes", "at", "one", "other", "bends", "first"]) (sc := defScope s_canonical) (by decide +kernel)) (fun _ => rfl) (by decide) (fun _ _ _ _ _ => pg_name C.nd rfl (Or.inl rfl)) (fun _ _ _ _ _ C x8 => pts_one (px_neD C (px_oix 3 (fun _ => rfl) (px_var 4)) (px_oix 3 (fun _ => rfl) (px_add (px_var 4) px_int))).t) (fun _ _ _ _ _ C x8 => (px_var 4)) (fun bends9 => (pb_pub 7 (xs := bends9) (fun _ => rfl) (pb_if (Δ1 := fun (r10 : Unit) _ => [sI K (a.1 : (List ((Int × Int) × (Int × Int)))), sI K (a.2.1 : (Int × Int)), sI K (a.2.2.1 : (Int × Int)), sL K (slopes7 : (List (Int × Int))), .un, .un, .un, sI K (bends9 : (List Int)), .un]) (px_eqS (px_len Z.b_len (px_var 7)) px_int).t (pb_set 8 C (px_ix (px_var 0) px_int) fun first11 => (pb_retI (px_tup2 (pax_cons (px_lst (plx_cons (px_tup2 (pax_cons (px_glob Z.c_ZERO) (pax_cons (px_call (d_fdiff Z) C (pax_cons (px_snd (px_var 8)) (pax_cons (px_call (d_fprod Z) C (pax_cons (px_var 1) (pax_cons (px_fst (px_var 8)) pax_nil))) pax_nil))) pax_nil))) plx_nil)) (pax_cons (px_lst (plx_cons (px_var 1) (plx_cons (px_var 2) plx_nil))) pax_nil))))) (pb_nil [] (r := ())) fun r10 => (pb_retI (px_tup2 (pax_cons (px_of (po_lcC 4 (own := [("at", 4)]) C (ix_l (px_var 7)) (blkOk_by (own := [("at", 4)]) (N := ["points", "left", "right", "slopes", "at", "one", "other", "bends", "first"]) (sc := defScope s_canonical) (by decide +kernel)) (fun _ => rfl) (by decide) (fun _ _ _ _ _ => pg_name C.nd rfl (Or.inl rfl)) (fun _ _ _ _ _ C x12 => pts_t) (fun _ _ _ _ _ C x12 => (px_ix (px_var 0) (px_var 4))))) (pax_cons (px_lcat (px_lst (plx_cons (px_var 1) plx_nil)) (px_of (po_lcC 4 (own := [("at", 4)]) C (ix_l (px_var 7)) (blkOk_by (own := [("at", 4)]) (N := ["points", "left", "right", "slopes", "at", "one", "other", "bends", "first"]) (sc := defScope s_canonical) (by decide +kernel)) (fun _ => rfl) (by decide) (fun _ _ _ _ _ => pg_name C.nd rfl (Or.inl rfl)) (fun _ _ _ _ _ C x13 => pts_t) (fun _ _ _ _ _ C x13 => (px_oix 3 (fun _ => rfl) (px_add (px_var 4) px_int)))))) pax_nil))))))))) (fun h => ps_expr (pe_bm PySem.F.plainAttrs_list PySem.F.slot_list_append PySem.F.type_list_append mt_append (pv 3) (pa_cons h pa_nil))))))
abbrev s_value_at : Stmt := topS 22
theorem sc_value_at : FnScope ["shape", "x", "points", "slopes", "at", "start", "height", "slope", "run", "under"] ["shape", "x"] (defScope s_value_at) := ⟨rfl, rfl, rfl, by decide +kernel, rfl, by decide +kernel, by decide +kernel⟩
theorem d_value_at {P : Program} {w : World} {K : Fg} {mg : Str → Option Value} {base : Heap} (Z : Facts P K mg) : Def P w K mg base "value_at" 2 ["shape", "x"] (spF K fun (a : (((List ((Int × Int) × (Int × Int))) × (List (Int × Int))) × (Int × Int) × Unit)) => value_at a.1 a.2.1) := by
  obtain ⟨fd, F⟩ := Z.f_value_at
  refine ⟨_, fd, Z.g_value_at, F.kp, F.bindsN (fun _ _ _ _ _ _ us hl => match us, hl with | [_, _], _ => rfl), fn_ok (m := fun (a : (((List ((Int × Int) × (Int × Int))) × (List (Int × Int))) × (Int × Int) × Unit)) => value_at_b a.1 a.2.1) F sc_value_at rfl fun cdv A outer s H E C a => ?_⟩
  exact (pb_asg [2, 3] (gt_tup2 2 3 C.nd C.calm) (px_var 0) fun p1 => (pb_set 4 C px_int fun at_2 => (pb_while [] (p1.1.length + 1) (L := fun (r3 : Int) _ => [sI K (a.1 : ((List ((Int × Int) × (Int × Int))) × (List (Int × Int)))), sI K (a.2.1 : (Int × Int)), sI K (p1.1 : (List ((Int × Int) × (Int × Int)))), sI K (p1.2 : (List (Int × Int))), sI K (r3 : Int), .un, .un, .un, .un, .un]) (r0 := at_2) C (fun _ => rfl) (fun r3 => (PW.pt (Mi.pw_and (px_lt (px_var 4) (px_len Z.b_len (px_var 2))).t (Mi.pw_and1 (Mi.pt_not (pt_v (px_call (d_fless Z) C (pax_cons (px_var 1) (pax_cons (px_fst (px_ix (px_var 2) (px_var 4))) pax_nil))))))))) (fun r3 => (pb_augAdd 4 C (fun _ => rfl) px_int fun at_4 => (pb_nil [] (r := at_4)))) fun r3 => (pb_asg [5, 6] (gt_tup2 5 6 C.nd C.calm) (px_ix (px_var 2) (px_max2 C Z.b_max (pax_cons (px_sub (px_var 4) px_int) (pax_cons px_int pax_nil)))) fun p5 => (pb_set 7 C (px_ix (px_var 3) (px_var 4)) fun slope6 => (pb_set 8 C (px_sub (px_mul (px_fst (px_var 1)) (px_snd (px_var 5))) (px_mul (px_fst (px_var 5)) (px_snd (px_var 1)))) fun run7 => (pb_set 9 C (px_mul (px_mul (px_snd (px_var 1)) (px_snd (px_var 5))) (px_snd (px_var 7))) fun under8 => (pb_retI (px_call (d_reduced Z) C (pax_cons (px_add (px_mul (px_fst (px_var 6)) (px_var 9)) (px_mul (px_mul (px_fst (px_var 7)) (px_var 8)) (px_snd (px_var 6)))) (pax_cons (px_mul (px_snd (px_var 6)) (px_var 9)) pax_nil)))))))))))
abbrev s_place_of : Stmt := topS 23
theorem sc_place_of : FnScope ["knot", "slope", "target"] ["knot", "slope", "target"] (defScope s_place_of) := ⟨rfl, rfl, rfl, by decide +kernel, rfl, by decide +kernel, by decide +kernel⟩
theorem d_place_of {P : Program} {w : World} {K : Fg} {mg : Str → Option Value} {base : Heap} (Z : Facts P K mg) : Def P w K mg base "place_of" 3 ["knot", "slope", "target"] (spF K fun (a : (((Int × Int) × (Int × Int)) × (Int × Int) × (Int × Int) × Unit)) => place_of a.1 a.2.1 a.2.2.1) := by
  obtain ⟨fd, F⟩ := Z.f_place_of
  refine ⟨_, fd, Z.g_place_of, F.kp, F.bindsN (fun _ _ _ _ _ _ us hl => match us, hl with | [_, _, _], _ => rfl), fn_ok (m := fun (a : (((Int × Int) × (Int × Int)) × (Int × Int) × (Int × Int) × Unit)) => place_of_b a.1 a.2.1 a.2.2.1) F sc_place_of rfl fun cdv A outer s H E C a => ?_⟩
  exact (pb_retI (px_call (d_fsum Z) C (pax_cons (px_fst (px_var 0)) (pax_cons (px_call (d_fquot Z) C (pax_cons (px_call (d_fdiff Z) C (pax_cons (px_var 2) (pax_cons (px_snd (px_var 0)) pax_nil))) (pax_cons (px_var 1) pax_nil))) pax_nil))))
abbrev s_joined : Stmt := topS 24
theorem sc_joined : FnScope ["first", "then", "points", "slopes", "targets", "knot", "spots", "target", "at", "last", "rows", "x"] ["first", "then"] (defScope s_joined) := ⟨rfl, rfl, rfl, by decide +kernel, rfl, by decide +kernel, by decide +kernel⟩
theorem d_joined {P : Program} {w : World} {K : Fg} {mg : Str → Option Value} {base : Heap} (Z : Facts P K mg) : Def P w K mg base "joined" 4 ["first", "then"] (spF K fun (a : (((List ((Int × Int) × (Int × Int))) × (List (Int × Int))) × ((List ((Int × Int) × (Int × Int))) × (List (Int × Int))) × Unit)) => joined a.1 a.2.1) := by
  obtain ⟨fd, F⟩ := Z.f_joined
  refine ⟨_, fd, Z.g_joined, F.kp, F.bindsN (fun _ _ _ _ _ _ us hl => match us, hl with | [_, _], _ => rfl), fn_ok (m := fun (a : (((List ((Int × Int) × (Int × Int))) × (List (Int × Int))) × ((List ((Int × Int) × (Int × Int))) × (List (Int × Int))) × Unit)) => joined_b a.1 a.2.1) F sc_joined rfl fun cdv A outer s H E C a => ?_⟩
  exact (pb_asg [2, 3] (gt_tup2 2 3 C.nd C.calm) (px_var 0) fun p1 => (pb_setLcC 4 5 (own := [("knot", 5)]) C (ix_l (px_fst (px_var 1))) (blkOk_by (own := [("knot", 5)]) (N := ["first", "then", "points", "slopes", "targets", "knot", "spots", "target", "at", "last", "rows", "x"]) (sc := defScope s_joined) (by decide +kernel)) (fun _ => rfl) (by decide) (fun _ _ _ _ _ => pg_name C.nd rfl (Or.inl rfl)) (fun _ _ _ _ _ C x2 => pts_t) (fun _ _ _ _ _ C x2 => (px_fst (px_var 5))) (fun targets3 => (pb_pub 4 (xs := targets3) (fun _ => rfl) (pb_new 6 C plx_nil fun spots4 => (pb_if (Δ1 := fun (r5 : (List (Int × Int))) _ => [sI K (a.1 : ((List ((Int × Int) × (Int × Int))) × (List (Int × Int)))), sI K (a.2.1 : ((List ((Int × Int) × (Int × Int))) × (List (Int × Int)))), sI K (p1.1 : (List ((Int × Int) × (Int × Int)))), sI K (p1.2 : (List (Int × Int))), sI K (targets3 : (List (Int × Int))), .un, sL K (r5 : (List (Int × Int))), .un, .un, .un, .un, .un]) (px_gt (px_fst (px_ix (px_var 3) px_int)) px_int).t (pb_for [7] [] (L := fun (r6 : (List (Int × Int))) _ => [sI K (a.1 : ((List ((Int × Int) × (Int × Int))) × (List (Int × Int)))), sI K (a.2.1 : ((List ((Int × Int) × (Int × Int))) × (List (Int × Int)))), sI K (p1.1 : (List ((Int × Int) × (Int × Int)))), sI K (p1.2 : (List (Int × Int))), sI K (targets3 : (List (Int × Int))), .un, sL K (r6 : (List (Int × Int))), .un, .un, .un, .un, .un]) (r0 := spots4) C (gt_name 7 C.nd) (ix_l (px_var 4)) (fun _ => rfl) (fun x7 r6 => (pb_if (Δ1 := fun (r8 : (List (Int × Int))) _ => [sI K (a.1 : ((List ((Int × Int) × (Int × Int))) × (List (Int × Int)))), sI K (a.2.1 : ((List ((Int × Int) × (Int × Int))) × (List (Int × Int)))), sI K (p1.1 : (List ((Int × Int) × (Int × Int)))), sI K (p1.2 : (List (Int × Int))), sI K (targets3 : (List (Int × Int))), .un, sL K (r8 : (List (Int × Int))), sI K (x7 : (Int × Int)), .un, .un, .un, .un]) (pt_v (px_call (d_fless Z) C (pax_cons (px_var 7) (pax_cons (px_snd (px_ix (px_var 2) px_int)) pax_nil)))) (pb_app 6 (fun _ => rfl) (px_call (d_place_of Z) C (pax_cons (px_ix (px_var 2) px_int) (pax_cons (px_ix (px_var 3) px_int) (pax_cons (px_var 7) pax_nil)))) (fun spots9 => (pb_nil [] (r := spots9))) (fun h => ps_expr (pe_bm PySem.F.plainAttrs_list PySem.F.slot_list_append PySem.F.type_list_append mt_append (pv 6) (pa_cons h pa_nil)))) (pb_nil [] (r := r6)) fun r8 => (pb_nil [7] (r := r8)))) fun r6 => (pb_nil [] (r := r6))) (pb_nil [] (r := spots4)) fun r5 => (pb_for [8] [] (L := fun (r10 : (List (Int × Int))) _ => [sI K (a.1 : ((List ((Int × Int) × (Int × Int))) × (List (Int × Int)))), sI K (a.2.1 : ((List ((Int × Int) × (Int × Int))) × (List (Int × Int)))), sI K (p1.1 : (List ((Int × Int) × (Int × Int)))), sI K (p1.2 : (List (Int × Int))), sI K (targets3 : (List (Int × Int))), .un, sL K (r10 : (List (Int × Int))), .un, .un, .un, .un, .un]) (r0 := r5) C (gt_name 8 C.nd) (ix_r1 Z.b_range (px_len Z.b_len (px_var 2))) (fun _ => rfl) (fun x11 r10 => (pb_app 6 (fun _ => rfl) (px_fst (px_ix (px_var 2) (px_var 8))) (fun spots12 => (pb_set 9 C (px_eqS (px_add (px_var 8) px_int) (px_len Z.b_len (px_var 2))).e fun last13 => (pb_if (Δ1 := fun (r14 : (List (Int × Int))) _ => [sI K (a.1 : ((List ((Int × Int) × (Int × Int))) × (List (Int × Int)))), sI K (a.2.1 : ((List ((Int × Int) × (Int × Int))) × (List (Int × Int)))), sI K (p1.1 : (List ((Int × Int) × (Int × Int)))), sI K (p1.2 : (List (Int × Int))), sI K (targets3 : (List (Int × Int))), .un, sL K (r14 : (List (Int × Int))), .un, sI K (x11 : Int), sI K (last13 : Bool), .un, .un]) (px_gt (px_fst (px_ix (px_var 3) (px_add (px_var 8) px_int))) px_int).t (pb_for [7] [] (L := fun (r15 : (List (Int × Int))) _ => [sI K (a.1 : ((List ((Int × Int) × (Int × Int))) × (List (Int × Int)))), sI K (a.2.1 : ((List ((Int × Int) × (Int × Int))) × (List (Int × Int)))), sI K (p1.1 : (List ((Int × Int) × (Int × Int)))), sI K (p1.2 : (List (Int × Int))), sI K (targets3 : (List (Int × Int))), .un, sL K (r15 : (List (Int × Int))), .un, sI K (x11 : Int), sI K (last13 : Bool), .un, .un]) (r0 := spots12) C (gt_name 7 C.nd) (ix_l (px_var 4)) (fun _ => rfl) (fun x16 r15 => (pb_if (Δ1 := fun (r17 : (List (Int × Int))) _ => [sI K (a.1 : ((List ((Int × Int) × (Int × Int))) × (List (Int × Int)))), sI K (a.2.1 : ((List ((Int × Int) × (Int × Int))) × (List (Int × Int)))), sI K (p1.1 : (List ((Int × Int) × (Int × Int)))), sI K (p1.2 : (List (Int × Int))), sI K (targets3 : (List (Int × Int))), .un, sL K (r17 : (List (Int × Int))), sI K (x16 : (Int × Int)), sI K (x11 : Int), sI K (last13 : Bool), .un, .un]) (PW.pt (Mi.pw_and (pt_v (px_call (d_fless Z) C (pax_cons (px_snd (px_ix (px_var 2) (px_var 8))) (pax_cons (px_var 7) pax_nil)))) (Mi.pw_and1 (PW.pt (Mi.pw_or (pt_v (px_var 9)) (Mi.pw_or1 (pt_v (px_call (d_fless Z) C (pax_cons (px_var 7) (pax_cons (px_snd (px_ix (px_var 2) (px_add (px_var 8) px_int))) pax_nil)))))))))) (pb_app 6 (fun _ => rfl) (px_call (d_place_of Z) C (pax_cons (px_ix (px_var 2) (px_var 8)) (pax_cons (px_ix (px_var 3) (px_add (px_var 8) px_int)) (pax_cons (px_var 7) pax_nil)))) (fun spots18 => (pb_nil [] (r := spots18))) (fun h => ps_expr (pe_bm PySem.F.plainAttrs_list PySem.F.slot_list_append PySem.F.type_list_append mt_append (pv 6) (pa_cons h pa_nil)))) (pb_nil [] (r := r15)) fun r17 => (pb_nil [7] (r := r17)))) fun r15 => (pb_nil [] (r := r15))) (pb_nil [] (r := spots12)) fun r14 => (pb_nil [8, 9] (r := r14))))) (fun h => ps_expr (pe_bm PySem.F.plainAttrs_list PySem.F.slot_list_append PySem.F.type_list_append mt_append (pv 6) (pa_cons h pa_nil))))) fun r10 => (pb_pub 6 (xs := r10) (fun _ => rfl) (pb_setLcC 10 11 (own := [("x", 11)]) C (ix_l (px_var 6)) (blkOk_by (own := [("x", 11)]) (N := ["first", "then", "points", "slopes", "targets", "knot", "spots", "target", "at", "last", "rows", "x"]) (sc := defScope s_joined) (by decide +kernel)) (fun _ => rfl) (by decide) (fun _ _ _ _ _ => pg_name C.nd rfl (Or.inl rfl)) (fun _ _ _ _ _ C x19 => pts_t) (fun _ _ _ _ _ C x19 => (px_tup2 (pax_cons (px_var 11) (pax_cons (px_call (d_value_at Z) C (pax_cons (px_var 1) (pax_cons (px_call (d_value_at Z) C (pax_cons (px_var 0) (pax_cons (px_var 11) pax_nil))) pax_nil))) pax_nil)))) (fun rows20 => (pb_pub 10 (xs := rows20) (fun _ => rfl) (pb_retI (px_call (d_canonical Z) C (pax_cons (px_var 10) (pax_cons (px_call (d_fprod Z) C (pax_cons (px_ix (px_var 3) px_int) (pax_cons (px_ix (px_snd (px_var 1)) px_int) pax_nil))) (pax_cons (px_call (d_fprod Z) C (pax_cons (px_ix (px_var 3) (px_neg px_int)) (pax_cons (px_ix (px_snd (px_var 1)) (px_neg px_int)) pax_nil))) pax_nil))))))))))))))))
abbrev s_Knots___init__ : Stmt := clsM (topS 35) 0
theorem sc_Knots___init__ : FnScope ["self", "rows"] ["self", "rows"] (defScope s_Knots___init__) := ⟨rfl, rfl, rfl, by decide +kernel, rfl, by decide +kernel, by decide +kernel⟩
theorem d_Knots___init__ {P : Program} {w : World} {K : Fg} {mg : Str → Option Value} {base : Heap} (Z : Facts P K mg) : Mak P w K mg base "Knots" 1 ["self", "rows"] (spInitM K "Knots" fun (a : ((List ((Int × Int) × (Int × Int))) × Unit)) => mk_Knots a.1) := by
  obtain ⟨fd, F⟩ := Z.f_Knots___init__
  refine ⟨_, fd, Z.k_Knots, Z.g_Knots, F.bindsN (fun _ _ _ _ _ _ us hl => match us, hl with | [_, _], _ => rfl), fn_okM (m := fun (a : ((List ((Int × Int) × (Int × Int))) × Unit)) => Knots___init___b a.1) (fl_Knots K) F sc_Knots___init__ rfl (fun I x dx fs y h hf => ⟨x, dx, fs, rfl, h, hf⟩) fun cdv A outer s H E C x a => ?_⟩
  exact (pb_fld Z.c_Knots Z.n_Knots_rows (fun _ => rfl) (px_listL Z.b_list (px_var 1)) (fun rows1 => (pb_nil [1] (r := (⟨rows1⟩ : KnotsO)))) (show _ ∉ [] from by decide) (Nat.le_of_ble_eq_true rfl))
abbrev s_is_slope : Stmt := topS 36
theorem sc_is_slope : FnScope ["value"] ["value"] (defScope s_is_slope) := ⟨rfl, rfl, rfl, by decide +kernel, rfl, by decide +kernel, by decide +kernel⟩
theorem d_is_slope {P : Program} {w : World} {K : Fg} {mg : Str → Option Value} {base : Heap} (Z : Facts P K mg) : Def P w K mg base "is_slope" 3 ["value"] (spF K fun (a : (D × Unit)) => is_slope a.1) := by
  obtain ⟨fd, F⟩ := Z.f_is_slope
  refine ⟨_, fd, Z.g_is_slope, F.kp, F.bindsN (fun _ _ _ _ _ _ us hl => match us, hl with | [_], _ => rfl), fn_ok (m := fun (a : (D × Unit)) => is_slope_b a.1) F sc_is_slope rfl fun cdv A outer s H E C a => ?_⟩
  exact (pb_retI (px_and (px_call (d_is_fraction Z) C (pax_cons (px_var 0) pax_nil)) (px_and1 (px_ge (px_fst (px_call (d_told Z) C (pax_cons (px_var 0) pax_nil))) px_int).e)))
abbrev s_told_knot : Stmt := topS 37
theorem sc_told_knot : FnScope ["entry"] ["entry"] (defScope s_told_knot) := ⟨rfl, rfl, rfl, by decide +kernel, rfl, by decide +kernel, by decide +kernel⟩
theorem d_told_knot {P : Program} {w : World} {K : Fg} {mg : Str → Option Value} {base : Heap} (Z : Facts P K mg) : Def P w K mg base "told_knot" 3 ["entry"] (spF K fun (a : (D × Unit)) => told_knot a.1) := by
  obtain ⟨fd, F⟩ := Z.f_told_knot
  refine ⟨_, fd, Z.g_told_knot, F.kp, F.bindsN (fun _ _ _ _ _ _ us hl => match us, hl with | [_], _ => rfl), fn_ok (m := fun (a : (D × Unit)) => told_knot_b a.1) F sc_told_knot rfl fun cdv A outer s H E C a => ?_⟩
  exact (pb_if (Δ1 := fun (r1 : Unit) _ => [sI K (a.1 : D)]) (PW.pt (Mi.pw_or (Mi.pt_not (pt_v (px_isi Z.b_isinstance Z.b_tuple (px_var 0)))) (Mi.pw_or1 (px_neS (px_dlen Z.b_len (px_var 0)) px_int).t))) (pb_retI px_none) (pb_nil [] (r := ())) fun r1 => (pb_if (Δ1 := fun (r2 : Unit) _ => [sI K (a.1 : D)]) (PW.pt (Mi.pw_or (Mi.pt_not (pt_v (px_call (d_is_fraction Z) C (pax_cons (px_dix (px_var 0) px_int) pax_nil)))) (Mi.pw_or1 (Mi.pt_not (pt_v (px_call (d_is_fraction Z) C (pax_cons (px_dix (px_var 0) px_int) pax_nil))))))) (pb_retI px_none) (pb_nil [] (r := ())) fun r2 => (pb_retI (px_some (px_tup2 (pax_cons (px_call (d_told Z) C (pax_cons (px_dix (px_var 0) px_int) pax_nil)) (pax_cons (px_call (d_told Z) C (pax_cons (px_dix (px_var 0) px_int) pax_nil)) pax_nil)))))))
abbrev s_checked_knots : Stmt := topS 38
theorem sc_checked_knots : FnScope ["knots", "rows", "at", "knot"] ["knots"] (defScope s_checked_knots) := ⟨rfl, rfl, rfl, by decide +kernel, rfl, by decide +kernel, by decide +kernel⟩
theorem d_checked_knots {P : Program} {w : World} {K : Fg} {mg : Str → Option Value} {base : Heap} (Z : Facts P K mg) : Def P w K mg base "checked_knots" 4 ["knots"] (spF K fun (a : ((KnotsO ⊕ (List ((Int × Int) × (Int × Int)))) × Unit)) => checked_knots a.1) := by
  obtain ⟨fd, F⟩ := Z.f_checked_knots
  refine ⟨_, fd, Z.g_checked_knots, F.kp, F.bindsN (fun _ _ _ _ _ _ us hl => match us, hl with | [_], _ => rfl), fn_ok (m := fun (a : ((KnotsO ⊕ (List ((Int × Int) × (Int × Int)))) × Unit)) => checked_knots_b a.1) F sc_checked_knots rfl fun cdv A outer s H E C a => ?_⟩
  exact (pb_if (Δ1 := fun (r1 : Unit) _ => [sI K (a.1 : (KnotsO ⊕ (List ((Int × Int) × (Int × Int))))), .un, .un, .un]) (pt_v (px_isC Z.b_isinstance Z.tags Z.g_Knots (px_var 0))) (pb_retI (px_listL Z.b_list (px_fld fo_Knots_rows Z.c_Knots Z.n_Knots_rows (px_sumL (px_var 0))))) (pb_nil [] (r := ())) fun r1 => (pb_if (Δ1 := fun (r2 : Unit) _ => [sI K (a.1 : (KnotsO ⊕ (List ((Int × Int) × (Int × Int))))), .un, .un, .un]) (PW.pt (Mi.pw_or (Mi.pt_not (pt_v (px_isi Z.b_isinstance Z.b_list (px_toD (px_sumR (px_var 0)))))) (Mi.pw_or1 (Mi.pt_not (px_le2 px_int (px_len Z.b_len (px_sumR (px_var 0))) px_int).t)))) (pb_raise (x_InvalidStep Z) C (pax_cons px_str (pax_cons (px_neg px_int) pax_nil))) (pb_nil [] (r := ())) fun r2 => (pb_new 1 C plx_nil fun rows3 => (pb_for [2] [] (L := fun (r4 : (List ((Int × Int) × (Int × Int)))) _ => [sI K (a.1 : (KnotsO ⊕ (List ((Int × Int) × (Int × Int))))), sL K (r4 : (List ((Int × Int) × (Int × Int)))), .un, .un]) (r0 := rows3) C (gt_name 2 C.nd) (ix_r1 Z.b_range (px_len Z.b_len (px_sumR (px_var 0)))) (fun _ => rfl) (fun x5 r4 => (pb_set 3 C (px_call (d_told_knot Z) C (pax_cons (px_toD (px_ix (px_sumR (px_var 0)) (px_var 2))) pax_nil)) fun knot6 => (pb_if (Δ1 := fun (r7 : Unit) _ => [sI K (a.1 : (KnotsO ⊕ (List ((Int × Int) × (Int × Int))))), sL K (r4 : (List ((Int × Int) × (Int × Int)))), sI K (x5 : Int), sI K (knot6 : (Option ((Int × Int) × (Int × Int))))]) (px_isN (px_var 3)).t (pb_raise (x_InvalidStep Z) C (pax_cons px_str (pax_cons (px_var 2) pax_nil))) (pb_nil [] (r := ())) fun r7 => (pb_if (Δ1 := fun (r8 : Unit) _ => [sI K (a.1 : (KnotsO ⊕ (List ((Int × Int) × (Int × Int))))), sL K (r4 : (List ((Int × Int) × (Int × Int)))), sI K (x5 : Int), sI K (knot6 : (Option ((Int × Int) × (Int × Int))))]) (PW.pt (Mi.pw_and (px_gt (px_var 2) px_int).t (Mi.pw_and1 (PW.pt (Mi.pw_or (Mi.pt_not (pt_v (px_call (d_fless Z) C (pax_cons (px_fst (px_oix 1 (fun _ => rfl) (px_neg px_int))) (pax_cons (px_fst (px_get (px_var 3))) pax_nil))))) (Mi.pw_or1 (pt_v (px_call (d_fless Z) C (pax_cons (px_snd (px_get (px_var 3))) (pax_cons (px_snd (px_oix 1 (fun _ => rfl) (px_neg px_int))) pax_nil)))))))))) (pb_raise (x_InvalidStep Z) C (pax_cons px_str (pax_cons (px_var 2) pax_nil))) (pb_nil [] (r := ())) fun r8 => (pb_app 1 (fun _ => rfl) (px_get (px_var 3)) (fun rows9 => (pb_nil [2, 3] (r := rows9))) (fun h => ps_expr (pe_bm PySem.F.plainAttrs_list PySem.F.slot_list_append PySem.F.type_list_append mt_append (pv 1) (pa_cons h pa_nil)))))))) fun r4 => (pb_pub 1 (xs := r4) (fun _ => rfl) (pb_retI (px_var 1)))))))
abbrev s_Step___init__ : Stmt := clsM (topS 39) 0
theorem sc_Step___init__ : FnScope ["self", "left", "knots", "right", "rows"] ["self", "left", "knots", "right"] (defScope s_Step___init__) := ⟨rfl, rfl, rfl, by decide +kernel, rfl, by decide +kernel, by decide +kernel⟩
theorem d_Step___init__ {P : Program} {w : World} {K : Fg} {mg : Str → Option Value} {base : Heap} (Z : Facts P K mg) : Mak P w K mg base "Step" 5 ["self", "left", "knots", "right"] (spInitM K "Step" fun (a : (D × (KnotsO ⊕ (List ((Int × Int) × (Int × Int)))) × D × Unit)) => mk_Step a.1 a.2.1 a.2.2.1) := by
  obtain ⟨fd, F⟩ := Z.f_Step___init__
  refine ⟨_, fd, Z.k_Step, Z.g_Step, F.bindsN (fun _ _ _ _ _ _ us hl => match us, hl with | [_, _, _, _], _ => rfl), fn_okM (m := fun (a : (D × (KnotsO ⊕ (List ((Int × Int) × (Int × Int)))) × D × Unit)) => Step___init___b a.1 a.2.1 a.2.2.1) (fl_Step K) F sc_Step___init__ rfl (fun I x dx fs y h hf => ⟨x, dx, fs, rfl, h, hf⟩) fun cdv A outer s H E C x a => ?_⟩
  exact (pb_if (Δ1 := fun (r1 : Unit) _ => [sN K (He.ga K "Step") x [], sI K (a.1 : D), sI K (a.2.1 : (KnotsO ⊕ (List ((Int × Int) × (Int × Int))))), sI K (a.2.2.1 : D), .un]) (Mi.pt_not (pt_v (px_call (d_is_slope Z) C (pax_cons (px_var 1) pax_nil)))) (pb_raise (x_InvalidStep Z) C (pax_cons px_str (pax_cons (px_neg px_int) pax_nil))) (pb_nil [] (r := ())) fun r1 => (pb_set 4 C (px_call (d_checked_knots Z) C (pax_cons (px_var 2) pax_nil)) fun rows2 => (pb_if (Δ1 := fun (r3 : Unit) _ => [sN K (He.ga K "Step") x [], sI K (a.1 : D), sI K (a.2.1 : (KnotsO ⊕ (List ((Int × Int) × (Int × Int))))), sI K (a.2.2.1 : D), sI K (rows2 : (List ((Int × Int) × (Int × Int))))]) (Mi.pt_not (pt_v (px_call (d_is_slope Z) C (pax_cons (px_var 3) pax_nil)))) (pb_raise (x_InvalidStep Z) C (pax_cons px_str (pax_cons (px_neg px_int) pax_nil))) (pb_nil [] (r := ())) fun r3 => (pb_fld2 C.calm Z.c_Step Z.n_Step_points Z.n_Step_slopes (fun _ => rfl) (px_call (d_canonical Z) C (pax_cons (px_var 4) (pax_cons (px_call (d_told Z) C (pax_cons (px_var 1) pax_nil)) (pax_cons (px_call (d_told Z) C (pax_cons (px_var 3) pax_nil)) pax_nil)))) (fun p4 => (pb_nil [1, 2, 3, 4] (r := (⟨p4.1, p4.2⟩ : StepO)))) (show _ ∉ [] from by decide) (by decide) (Nat.le_of_ble_eq_true rfl)))))
abbrev s_Step_shape : Stmt := clsM (topS 39) 6
theorem sc_Step_shape : FnScope ["self"] ["self"] (defScope s_Step_shape) := ⟨rfl, rfl, rfl, by decide +kernel, rfl, by decide +kernel, by decide +kernel⟩
theorem d_Step_shape {P : Program} {w : World} {K : Fg} {mg : Str → Option Value} {base : Heap} (Z : Facts P K mg) : Met P w K mg base "Step" "shape" 1 ["self"] (spF K fun (a : (StepO × Unit)) => Step_shape a.1) := by
  obtain ⟨fd, F⟩ := Z.f_Step_shape
  refine ⟨_, fd, Z.c_Step, Z.m_Step_shape, F.bindsN (fun _ _ _ _ _ _ us hl => match us, hl with | [_], _ => rfl), fn_ok (m := fun (a : (StepO × Unit)) => Step_shape_b a.1) F sc_Step_shape rfl fun cdv A outer s H E C a => ?_⟩
  exact (pb_retI (px_tup2 (pax_cons (px_fld fo_Step_points Z.c_Step Z.n_Step_points (px_var 0)) (pax_cons (px_fld fo_Step_slopes Z.c_Step Z.n_Step_slopes (px_var 0)) pax_nil))))
abbrev s_Step_left : Stmt := clsM (topS 39) 7
theorem sc_Step_left : FnScope ["self"] ["self"] (defScope s_Step_left) := ⟨rfl, rfl, rfl, by decide +kernel, rfl, by decide +kernel, by decide +kernel⟩
theorem d_Step_left {P : Program} {w : World} {K : Fg} {mg : Str → Option Value} {base : Heap} (Z : Facts P K mg) : Met P w K mg base "Step" "left" 1 ["self"] (spF K fun (a : (StepO × Unit)) => Step_left a.1) := by
  obtain ⟨fd, F⟩ := Z.f_Step_left
  refine ⟨_, fd, Z.c_Step, Z.m_Step_left, F.bindsN (fun _ _ _ _ _ _ us hl => match us, hl with | [_], _ => rfl), fn_ok (m := fun (a : (StepO × Unit)) => Step_left_b a.1) F sc_Step_left rfl fun cdv A outer s H E C a => ?_⟩
  exact (pb_retI (px_ix (px_fld fo_Step_slopes Z.c_Step Z.n_Step_slopes (px_var 0)) px_int))
abbrev s_Step_right : Stmt := clsM (topS 39) 8
theorem sc_Step_right : FnScope ["self"] ["self"] (defScope s_Step_right) := ⟨rfl, rfl, rfl, by decide +kernel, rfl, by decide +kernel, by decide +kernel⟩
theorem d_Step_right {P : Program} {w : World} {K : Fg} {mg : Str → Option Value} {base : Heap} (Z : Facts P K mg) : Met P w K mg base "Step" "right" 1 ["self"] (spF K fun (a : (StepO × Unit)) => Step_right a.1) := by
  obtain ⟨fd, F⟩ := Z.f_Step_right
  refine ⟨_, fd, Z.c_Step, Z.m_Step_right, F.bindsN (fun _ _ _ _ _ _ us hl => match us, hl with | [_], _ => rfl), fn_ok (m := fun (a : (StepO × Unit)) => Step_right_b a.1) F sc_Step_right rfl fun cdv A outer s H E C a => ?_⟩
  exact (pb_retI (px_ix (px_fld fo_Step_slopes Z.c_Step Z.n_Step_slopes (px_var 0)) (px_neg px_int)))
abbrev s_Step_knots : Stmt := clsM (topS 39) 9
theorem sc_Step_knots : FnScope ["self"] ["self"] (defScope s_Step_knots) := ⟨rfl, rfl, rfl, by decide +kernel, rfl, by decide +kernel, by decide +kernel⟩
theorem d_Step_knots {P : Program} {w : World} {K : Fg} {mg : Str → Option Value} {base : Heap} (Z : Facts P K mg) : Met P w K mg base "Step" "knots" 1 ["self"] (spF K fun (a : (StepO × Unit)) => Step_knots a.1) := by
  obtain ⟨fd, F⟩ := Z.f_Step_knots
  refine ⟨_, fd, Z.c_Step, Z.m_Step_knots, F.bindsN (fun _ _ _ _ _ _ us hl => match us, hl with | [_], _ => rfl), fn_ok (m := fun (a : (StepO × Unit)) => Step_knots_b a.1) F sc_Step_knots rfl fun cdv A outer s H E C a => ?_⟩
  exact (pb_retI (px_listL Z.b_list (px_fld fo_Step_points Z.c_Step Z.n_Step_points (px_var 0))))
abbrev s_Step___call__ : Stmt := clsM (topS 39) 10
theorem sc_Step___call__ : FnScope ["self", "amount"] ["self", "amount"] (defScope s_Step___call__) := ⟨rfl, rfl, rfl, by decide +kernel, rfl, by decide +kernel, by decide +kernel⟩
theorem d_Step___call__ {P : Program} {w : World} {K : Fg} {mg : Str → Option Value} {base : Heap} (Z : Facts P K mg) : Met P w K mg base "Step" "__call__" 5 ["self", "amount"] (spF K fun (a : (StepO × D × Unit)) => Step___call__ a.1 a.2.1) := by
  obtain ⟨fd, F⟩ := Z.f_Step___call__
  refine ⟨_, fd, Z.c_Step, Z.m_Step___call__, F.bindsN (fun _ _ _ _ _ _ us hl => match us, hl with | [_, _], _ => rfl), fn_ok (m := fun (a : (StepO × D × Unit)) => Step___call___b a.1 a.2.1) F sc_Step___call__ rfl fun cdv A outer s H E C a => ?_⟩
  exact (pb_retI (px_call (d_value_at Z) C (pax_cons (px_meth0 (d_Step_shape Z) C (px_var 0)) (pax_cons (px_call (d_asked Z) C (pax_cons (px_var 1) (pax_cons px_str pax_nil))) pax_nil))))
abbrev s_Step___rshift__ : Stmt := clsM (topS 39) 13
theorem sc_Step___rshift__ : FnScope ["self", "other", "rows", "slopes"] ["self", "other"] (defScope s_Step___rshift__) := ⟨rfl, rfl, rfl, by decide +kernel, rfl, by decide +kernel, by decide +kernel⟩
theorem d_Step___rshift__ {P : Program} {w : World} {K : Fg} {mg : Str → Option Value} {base : Heap} (Z : Facts P K mg) : Met P w K mg base "Step" "__rshift__" 7 ["self", "other"] (spF K fun (a : (StepO × StepO × Unit)) => Step___rshift__ a.1 a.2.1) := by
  obtain ⟨fd, F⟩ := Z.f_Step___rshift__
  refine ⟨_, fd, Z.c_Step, Z.m_Step___rshift__, F.bindsN (fun _ _ _ _ _ _ us hl => match us, hl with | [_, _], _ => rfl), fn_ok (m := fun (a : (StepO × StepO × Unit)) => Step___rshift___b a.1 a.2.1) F sc_Step___rshift__ rfl fun cdv A outer s H E C a => ?_⟩
  exact (pb_asg [2, 3] (gt_tup2 2 3 C.nd C.calm) (px_call (d_joined Z) C (pax_cons (px_meth0 (d_Step_shape Z) C (px_var 0)) (pax_cons (px_meth0 (d_Step_shape Z) C (px_var 1)) pax_nil))) fun p1 => (pb_retI (px_mk (d_Step___init__ Z) C (pax_cons (px_toD (px_ix (px_var 3) px_int)) (pax_cons (px_inl (β := (List ((Int × Int) × (Int × Int)))) (px_mk (d_Knots___init__ Z) C (pax_cons (px_var 2) pax_nil))) (pax_cons (px_toD (px_ix (px_var 3) (px_neg px_int))) pax_nil))))))
abbrev s_Step_plus : Stmt := clsM (topS 39) 1
theorem sc_Step_plus : FnScope ["cls", "amount"] ["cls", "amount"] (defScope s_Step_plus) := ⟨rfl, rfl, rfl, by decide +kernel, rfl, by decide +kernel, by decide +kernel⟩
theorem d_Step_plus {P : Program} {w : World} {K : Fg} {mg : Str → Option Value} {base : Heap} (Z : Facts P K mg) : CMt P w K mg base "Step" "plus" 7 ["cls", "amount"] (spF K fun (a : ((ClsV "Step") × D × Unit)) => Step_plus a.1 a.2.1) := by
  obtain ⟨fd, F⟩ := Z.f_Step_plus
  refine ⟨_, _, fd, Z.v_Step_plus.1, Z.v_Step_plus.2, F.bindsN (fun _ _ _ _ _ _ us hl => match us, hl with | [_, _], _ => rfl), fn_ok (m := fun (a : ((ClsV "Step") × D × Unit)) => Step_plus_b a.1 a.2.1) F sc_Step_plus rfl fun cdv A outer s H E C a => ?_⟩
  exact (pb_retI (px_mkV 0 (d_Step___init__ Z) C (pax_cons (px_toD (px_glob Z.c_ONE)) (pax_cons (px_inr (α := KnotsO) (px_lst (plx_cons (px_tup2 (pax_cons (px_glob Z.c_ZERO) (pax_cons (px_call (d_asked Z) C (pax_cons (px_var 1) (pax_cons px_str pax_nil))) pax_nil))) plx_nil))) (pax_cons (px_toD (px_glob Z.c_ONE)) pax_nil)))))
abbrev s_Step_times : Stmt := clsM (topS 39) 2
theorem sc_Step_times : FnScope ["cls", "ratio", "slope"] ["cls", "ratio"] (defScope s_Step_times) := ⟨rfl, rfl, rfl, by decide +kernel, rfl, by decide +kernel, by decide +kernel⟩
theorem d_Step_times {P : Program} {w : World} {K : Fg} {mg : Str → Option Value} {base : Heap} (Z : Facts P K mg) : CMt P w K mg base "Step" "times" 7 ["cls", "ratio"] (spF K fun (a : ((ClsV "Step") × D × Unit)) => Step_times a.1 a.2.1) := by
  obtain ⟨fd, F⟩ := Z.f_Step_times
  refine ⟨_, _, fd, Z.v_Step_times.1, Z.v_Step_times.2, F.bindsN (fun _ _ _ _ _ _ us hl => match us, hl with | [_, _], _ => rfl), fn_ok (m := fun (a : ((ClsV "Step") × D × Unit)) => Step_times_b a.1 a.2.1) F sc_Step_times rfl fun cdv A outer s H E C a => ?_⟩
  exact (pb_set 2 C (px_call (d_asked Z) C (pax_cons (px_var 1) (pax_cons px_str pax_nil))) fun slope1 => (pb_if (Δ1 := fun (r2 : Unit) _ => [sI K (a.1 : (ClsV "Step")), sI K (a.2.1 : D), sI K (slope1 : (Int × Int))]) (px_lt (px_fst (px_var 2)) px_int).t (pb_raise (x_InvalidBound Z) C (pax_cons px_str pax_nil)) (pb_nil [] (r := ())) fun r2 => (pb_retI (px_mkV 0 (d_Step___init__ Z) C (pax_cons (px_toD (px_var 2)) (pax_cons (px_inr (α := KnotsO) (px_lst (plx_cons (px_tup2 (pax_cons (px_glob Z.c_ZERO) (pax_cons (px_glob Z.c_ZERO) pax_nil))) plx_nil))) (pax_cons (px_toD (px_var 2)) pax_nil)))))))
abbrev s_Step_at_least : Stmt := clsM (topS 39) 3
theorem sc_Step_at_least : FnScope ["cls", "bound", "place"] ["cls", "bound"] (defScope s_Step_at_least) := ⟨rfl, rfl, rfl, by decide +kernel, rfl, by decide +kernel, by decide +kernel⟩
theorem d_Step_at_least {P : Program} {w : World} {K : Fg} {mg : Str → Option Value} {base : Heap} (Z : Facts P K mg) : CMt P w K mg base "Step" "at_least" 7 ["cls", "bound"] (spF K fun (a : ((ClsV "Step") × D × Unit)) => Step_at_least a.1 a.2.1) := by
  obtain ⟨fd, F⟩ := Z.f_Step_at_least
  refine ⟨_, _, fd, Z.v_Step_at_least.1, Z.v_Step_at_least.2, F.bindsN (fun _ _ _ _ _ _ us hl => match us, hl with | [_, _], _ => rfl), fn_ok (m := fun (a : ((ClsV "Step") × D × Unit)) => Step_at_least_b a.1 a.2.1) F sc_Step_at_least rfl fun cdv A outer s H E C a => ?_⟩
  exact (pb_set 2 C (px_call (d_asked Z) C (pax_cons (px_var 1) (pax_cons px_str pax_nil))) fun place1 => (pb_retI (px_mkV 0 (d_Step___init__ Z) C (pax_cons (px_toD (px_glob Z.c_ZERO)) (pax_cons (px_inr (α := KnotsO) (px_lst (plx_cons (px_tup2 (pax_cons (px_var 2) (pax_cons (px_var 2) pax_nil))) plx_nil))) (pax_cons (px_toD (px_glob Z.c_ONE)) pax_nil))))))
abbrev s_Step_at_most : Stmt := clsM (topS 39) 4
theorem sc_Step_at_most : FnScope ["cls", "bound", "place"] ["cls", "bound"] (defScope s_Step_at_most) := ⟨rfl, rfl, rfl, by decide +kernel, rfl, by decide +kernel, by decide +kernel⟩
theorem d_Step_at_most {P : Program} {w : World} {K : Fg} {mg : Str → Option Value} {base : Heap} (Z : Facts P K mg) : CMt P w K mg base "Step" "at_most" 7 ["cls", "bound"] (spF K fun (a : ((ClsV "Step") × D × Unit)) => Step_at_most a.1 a.2.1) := by
  obtain ⟨fd, F⟩ := Z.f_Step_at_most
  refine ⟨_, _, fd, Z.v_Step_at_most.1, Z.v_Step_at_most.2, F.bindsN (fun _ _ _ _ _ _ us hl => match us, hl with | [_, _], _ => rfl), fn_ok (m := fun (a : ((ClsV "Step") × D × Unit)) => Step_at_most_b a.1 a.2.1) F sc_Step_at_most rfl fun cdv A outer s H E C a => ?_⟩
  exact (pb_set 2 C (px_call (d_asked Z) C (pax_cons (px_var 1) (pax_cons px_str pax_nil))) fun place1 => (pb_retI (px_mkV 0 (d_Step___init__ Z) C (pax_cons (px_toD (px_glob Z.c_ONE)) (pax_cons (px_inr (α := KnotsO) (px_lst (plx_cons (px_tup2 (pax_cons (px_var 2) (pax_cons (px_var 2) pax_nil))) plx_nil))) (pax_cons (px_toD (px_glob Z.c_ZERO)) pax_nil))))))
abbrev s_Step_always : Stmt := clsM (topS 39) 5
theorem sc_Step_always : FnScope ["cls", "amount"] ["cls", "amount"] (defScope s_Step_always) := ⟨rfl, rfl, rfl, by decide +kernel, rfl, by decide +kernel, by decide +kernel⟩
theorem d_Step_always {P : Program} {w : World} {K : Fg} {mg : Str → Option Value} {base : Heap} (Z : Facts P K mg) : CMt P w K mg base "Step" "always" 7 ["cls", "amount"] (spF K fun (a : ((ClsV "Step") × D × Unit)) => Step_always a.1 a.2.1) := by
  obtain ⟨fd, F⟩ := Z.f_Step_always
  refine ⟨_, _, fd, Z.v_Step_always.1, Z.v_Step_always.2, F.bindsN (fun _ _ _ _ _ _ us hl => match us, hl with | [_, _], _ => rfl), fn_ok (m := fun (a : ((ClsV "Step") × D × Unit)) => Step_always_b a.1 a.2.1) F sc_Step_always rfl fun cdv A outer s H E C a => ?_⟩
  exact (pb_retI (px_mkV 0 (d_Step___init__ Z) C (pax_cons (px_toD (px_glob Z.c_ZERO)) (pax_cons (px_inr (α := KnotsO) (px_lst (plx_cons (px_tup2 (pax_cons (px_glob Z.c_ZERO) (pax_cons (px_call (d_asked Z) C (pax_cons (px_var 1) (pax_cons px_str pax_nil))) pax_nil))) plx_nil))) (pax_cons (px_toD (px_glob Z.c_ZERO)) pax_nil)))))
/-! the pool and its draws -/
abbrev s__law_pool : Stmt := topS 41
theorem sc__law_pool : FnScope ["script", "cells", "cell"] ["script"] (defScope s__law_pool) := ⟨rfl, rfl, rfl, by decide +kernel, rfl, by decide +kernel, by decide +kernel⟩
def Lpool_b (ns : List Int) : R Unit (Out Unit Empty Pool) := sb (sb (sb (sr (Ro.mk ns)) fun x => sb (sr none) fun l => sb (sb (sr (63 : Int)) fun i => sr (some i)) fun u => sr (cutL x.l l u)) fun xs => lcL (fun _ => sr true) (fun x => sb (sr x) fun x => sr x) xs []) fun cells => obd (sIf (sb (sr (cells.length : Int)) fun x => sb (sr (0 : Int)) fun y => sr (decide (x = y))) (sb (sr (0 : Int)) fun a => sb (so (papp cells a)) fun c2 => sr (.nx c2)) (sr (.nx cells))) fun (r : List Int) => sr (.rt ⟨r, 0⟩)
theorem Lpool_eq (ns : List Int) : Lpool_b ns () = .ok (.rt (poolOf ns), ()) := by
  have hl : (cutL ns none (some 63)).length ≤ 63 := by
    have e1 : HT.sIx ns.length 0 none = 0 := rfl
    have e2 : HT.sIx ns.length ns.length (some 63) ≤ 63 := by unfold HT.sIx; simp; omega
    unfold cutL
    rw [e1]
    simp only [List.length_take, List.length_drop]
    omega
  have key := lcL_all (S := Unit) (cutL ns none (some 63)) [] () (by simp; omega)
  unfold Lpool_b poolOf
  simp only [sb, sr, obd, sIf]
  have key : lcL (fun _ => sr true) (fun x => sb (sr x) fun x => sr x) (cutL ns none (some 63)) [] () = .ok (cutL ns none (some 63), ()) := key
  have key' : lcL (fun x s => Except.ok (true, s)) (fun x s => Except.ok (x, s)) (cutL ns none (some 63)) [] () = .ok (cutL ns none (some 63), ()) := key
  rw [key]
  by_cases h : (cutL ns none (some 63)).length = 0
  · have e : cutL ns none (some 63) = [] := List.length_eq_zero_iff.mp h
    rw [e]
    simp only [papp, so, List.length_nil, Nat.zero_lt_succ, if_true]
    rfl
  · rw [if_neg h]
    have h2 : ¬ ((cutL ns none (some 63)).length : Int) = 0 := by omega
    simp only [h2, decide_false, Bool.false_eq_true, if_false]
    rfl
theorem d__law_pool {P : Program} {w : World} {K : Fg} {mg : Str → Option Value} {base : Heap} (Z : Facts P K mg) : Def P w K mg base "_law_pool" 1 ["script"] (spPool K) := by
  obtain ⟨fd, F⟩ := Z.f__law_pool
  refine ⟨_, fd, Z.g__law_pool, F.kp, F.bindsN (fun _ _ _ _ _ _ us hl => match us, hl with | [_], _ => rfl), fn_okPool (m := Lpool_b) F sc__law_pool rfl Lpool_eq fun cdv A outer s H E C ns => ?_⟩
  exact (pb_setLc1 1 2 (own := [("cell", 2)]) C (ix_l (px_cutR (px_var 0) pp_none (pp_some px_int))) (blkOk_by (own := [("cell", 2)]) (N := ["script", "cells", "cell"]) (sc := defScope s__law_pool) (by decide +kernel)) (fun _ => rfl) (by decide)
    (fun _ _ _ _ _ => pg_name C.nd rfl (Or.inl rfl)) (fun _ _ _ _ _ a => L2.PTs.mono pts_nil fun σ H Q ⟨s, I, O, t, sat, h⟩ => Post.at_ h t sat) (fun _ _ _ _ _ C a => px_intI Z.b_int (px_var 2))
    fun cells => pb_if (Δ1 := fun (r : List Int) _ => [sI K (Ro.mk ns : Ro Int), sL K r, .un]) (px_eqS (px_olen 1 Z.b_len (fun _ => rfl)) px_int).t
      (pb_app 1 (fun _ => rfl) px_int (fun c2 => pb_nil [] (r := c2)) (fun h => ps_expr (pe_bm PySem.F.plainAttrs_list PySem.F.slot_list_append PySem.F.type_list_append mt_append (pv 1) (pa_cons h pa_nil))))
      (pb_nil [] (r := cells)) fun r => pb_retPool 1 (fun _ => rfl))
abbrev s__law_draw : Stmt := topS 42
theorem sc__law_draw : FnScope ["pool", "size", "cells", "at", "cell", "number"] ["pool", "size"] (defScope s__law_draw) := ⟨rfl, rfl, rfl, by decide +kernel, rfl, by decide +kernel, by decide +kernel⟩
theorem d__law_draw {P : Program} {w : World} {K : Fg} {mg : Str → Option Value} {base : Heap} (Z : Facts P K mg) : Def P w K mg base "_law_draw" 1 ["pool", "size"] (spP K fun (a : (Int × Unit)) => pdraw a.1) := by
  obtain ⟨fd, F⟩ := Z.f__law_draw
  refine ⟨_, fd, Z.g__law_draw, F.kp, F.bindsN (fun _ _ _ _ _ _ us hl => match us, hl with | [_, _], _ => rfl), F.ok sc__law_draw (fun vs H Q E h => ?_) fun cdv A outer s H vs Q E hr h => ?_⟩
  · obtain ⟨a, pa, st, I, O, ws, rfl, _, _, ⟨v, us, rfl, _, e⟩, _⟩ := h
    have e : us = [] := e
    rw [e] <;> rfl
  · obtain ⟨⟨size, u⟩, pa, ⟨cells, n⟩, I, O, ws, rfl, t, ⟨c, pl1, pl2⟩, ⟨v, us, rfl, rv, e⟩, q⟩ := h
    have e : us = [] := e
    have rv : v = .int size := rv
    subst e rv
    have q : PostP K E pa I O H Q (pdraw size ⟨cells, n⟩) := q
    unfold pdraw at q
    dsimp only at q
    split at q
    case isFalse => exact q.elim
    rename_i hc
    obtain ⟨hl, h0, h1⟩ := hc
    have hlz : (0 : Int) < cells.length := by omega
    have a1 := Int.emod_nonneg n (by omega : (cells.length : Int) ≠ 0)
    have a2 := Int.emod_lt_of_pos n hlz
    have hpa := t.so _ _ pl1
    have hc := t.so _ _ pl2
    have nep : c ≠ pa := fun e => by rw [e, hpa] at hc; cases cells <;> simp at hc
    cases ec : cells[(n % cells.length).toNat]? with
    | none => rw [ec] at q; exact q.elim
    | some cell =>
      rw [ec] at q
      dsimp only at q
      have hc2 : (upd H pa (.lst [.ref c, .int (n + 1)])) c = some (.lst (cells.map V.int)) := by rw [upd_ne nep]; exact hc
      have hx : L2.atI (cells.map V.int) (n % cells.length) = some (.int cell) := by
        have := L2.atI_nat (xs := cells.map V.int) (j := (n % cells.length).toNat) (v := .int cell) (by rw [List.getElem?_map, ec]; rfl)
        rw [Int.toNat_of_nonneg a1] at this
        exact this
      have hu := hu_of hr
      refine ⟨_, pss_cons (ps_set (i := 2) sc__law_draw.nd rfl (Or.inl rfl) (pe_ix ix_list (pv 0) pe_int (fun _ _ => rfl)))
        (pss_cons (ps_set (i := 3) sc__law_draw.nd rfl (Or.inl rfl) (pe_op op_mod (pe_ix ix_list (pv 0) pe_int (fun _ _ => rfl)) (pe_callB call_len_seq (by rfl) Z.b_len PySem.boot_len (pa_cons (pv 2) pa_nil))))
        (pss_cons (ps_augS (pv 0) pe_int get_list pe_int ip_add set_list)
        (pss_cons (ps_set (i := 4) sc__law_draw.nd rfl (Or.inl rfl) (pe_ix ix_list (pv 2) (pv 3) (fun _ _ => rfl)))
        (pss_cons (ps_if (pt_cmpR op_ge (pv 4) (pe_op op_pow pe_int pe_int) (nomark _))
            (pss_cons (ps_asg (pe_op op_fdivW (pv 4) (pv 1)) (pg_sub (pv 2) (pv 3) set_list)) (pss_one (ps_ret (pe_op op_mod (pe_callTy call_int1 (by rfl) Z.b_int (by decide +kernel) (pa_cons (pv 4) pa_nil)) (pv 1))))) pss_nil)
        (pss_cons (ps_set (i := 5) sc__law_draw.nd rfl (Or.inl rfl) (pe_op op_mod (pe_op op_mul (pe_callTy call_int1 (by rfl) Z.b_int (by decide +kernel) (pa_cons (pe_op op_add (pe_op op_add (pv 4) (pe_op op_mul pe_int (pe_ix ix_list (pv 0) pe_int (fun _ _ => rfl)))) pe_int) pa_nil)) pe_int) pe_int))
        (pss_cons (ps_set (i := 5) sc__law_draw.nd rfl (Or.inl rfl) (pe_op op_mod (pe_callTy call_int1 (by rfl) Z.b_int (by decide +kernel) (pa_cons (pe_op op_mul (pv 5) (pe_op op_add (pe_op op_fdiv (pv 5) pe_int) pe_int)) pa_nil)) pe_int))
        (pss_cons (ps_set (i := 5) sc__law_draw.nd rfl (Or.inl rfl) (pe_op op_mod (pe_callTy call_int1 (by rfl) Z.b_int (by decide +kernel) (pa_cons (pe_op op_mul (pv 5) (pe_op op_add (pe_op op_fdiv (pv 5) pe_int) pe_int)) pa_nil)) pe_int))
        (pss_one (ps_ret (pe_op op_mod (pe_callTy call_int1 (by rfl) Z.b_int (by decide +kernel) (pa_cons (pe_op op_fdiv (pv 5) pe_int) pa_nil)) (pv 1))))))))))), ?_⟩
      -- cells = pool[0]; at = pool[1] % len(cells); pool[1] += 1; cell = cells[at]
      refine ⟨_, rfl, pa, _, 0, _, rfl, rfl, SqL.of hpa, rfl, ?_⟩
      refine ⟨_, rfl, pa, _, 1, _, rfl, rfl, SqL.of hpa, rfl, _, rfl, c, _, rfl, .inl (SqL.of hc), n, _, rfl, rfl, (by rw [List.length_map]; exact hlz), ?_⟩
      refine ⟨_, rfl, pa, _, 1, _, rfl, rfl, hpa, by decide, rfl, n, 1, rfl, rfl, pa, _, 1, 1, rfl, rfl, hpa, rfl, ?_⟩
      refine ⟨_, rfl, _, rfl, c, _, _, _, rfl, rfl, SqL.of hc2, (by rw [List.length_map]; exact hx), ?_⟩
      refine ⟨_, rfl, 10, 18, rfl, rfl, ⟨by decide, by decide, by decide⟩, cell, _, rfl, rfl, _, rfl, ?_⟩
      have ht1 := t.wr (o := .lst [.ref c, .int (n + 1)]) pl1
      have gt1 := Go.wr t (o := .lst [.ref c, .int (n + 1)]) pl1
      have pl3 : (upd O pa (.lst [.ref c, .int (n + 1)])) c = some (.lst (cells.map V.int)) := by rw [upd_ne nep]; exact pl2
      refine ite2 (fun hge => ?_) (fun hlt => ?_)
      · have hge : (10 : Int) ^ (18 : Nat) ≤ cell := of_decide_eq_true hge
        have hge : 1000000000000000000 ≤ cell := hge
        rw [if_pos hge] at q
        refine ⟨_, rfl, _, rfl, cell, size, rfl, rfl, ⟨h0, h1⟩, _, rfl, _, rfl, c, _, _, (n % cells.length).toNat, rfl, rfl, hc2, ?_, ?_⟩
        · rw [List.length_map]
          unfold ixN
          rw [if_pos a1, if_pos a2]
        · refine ⟨_, rfl, .inl ⟨cell, rfl, _, rfl, cell, size, rfl, rfl, h0, ?_⟩⟩
          have e : (cells.map V.int).set (n % cells.length).toNat (.int (cell / size)) = (cells.set (n % cells.length).toNat (cell / size)).map V.int := by rw [List.map_set]
          have ht2 := ht1.wr (o := .lst ((cells.map V.int).set (n % cells.length).toNat (.int (cell / size)))) pl3
          have gt2 := Go.wr ht1 (o := .lst ((cells.map V.int).set (n % cells.length).toNat (.int (cell / size)))) pl3
          exact q (.int (cell % size)) I _ _ ht2 (gt1.trans gt2) ⟨c, by rw [upd_ne nep.symm, upd_same], by rw [upd_same, e]⟩ rfl
      · have hlt : ¬ (10 : Int) ^ (18 : Nat) ≤ cell := fun z => hlt (decide_eq_true z)
        have hlt : ¬ 1000000000000000000 ≤ cell := hlt
        rw [if_neg hlt] at q
        have b1 := Int.emod_nonneg ((cell + 7919 * (n + 1) + 1) * 48271) (by decide : (2147483647 : Int) ≠ 0)
        have b2 := Int.emod_lt_of_pos ((cell + 7919 * (n + 1) + 1) * 48271) (by decide : (0 : Int) < 2147483647)
        refine ⟨_, rfl, _, rfl, pa, _, 1, _, rfl, rfl, SqL.of upd_same, rfl, 7919, n + 1, rfl, rfl, .inl ⟨by decide, by decide⟩, cell, _, rfl, rfl, _, 1, rfl, rfl, .inl ⟨_, rfl, _, 48271, rfl, rfl, .inr ⟨by decide, by decide⟩, _, 2147483647, rfl, rfl, (by show (0 : Int) < 2147483647; decide), ?_⟩⟩
        show gName 5 (V.int ((cell + 7919 * (n + 1) + 1) * 48271 % 2147483647)) _ _ _
        generalize ea : (cell + 7919 * (n + 1) + 1) * 48271 % 2147483647 = a at b1 b2 ⊢
        refine ⟨_, rfl, _, rfl, a, 1009, rfl, rfl, ⟨by decide, by decide⟩, _, 69621, rfl, rfl, a, _, rfl, rfl, .inl ⟨by omega, by omega⟩, .inl ⟨_, rfl, _, 2147483647, rfl, rfl, (by show (0 : Int) < 2147483647; decide), ?_⟩⟩
        have c1 := Int.emod_nonneg (a * (a / 1009 + 69621)) (by decide : (2147483647 : Int) ≠ 0)
        have c2 := Int.emod_lt_of_pos (a * (a / 1009 + 69621)) (by decide : (0 : Int) < 2147483647)
        show gName 5 (V.int (a * (a / 1009 + 69621) % 2147483647)) _ _ _
        generalize eb : a * (a / 1009 + 69621) % 2147483647 = b at c1 c2 ⊢
        refine ⟨_, rfl, _, rfl, b, 2003, rfl, rfl, ⟨by decide, by decide⟩, _, 40692, rfl, rfl, b, _, rfl, rfl, .inl ⟨by omega, by omega⟩, .inl ⟨_, rfl, _, 2147483399, rfl, rfl, (by show (0 : Int) < 2147483399; decide), ?_⟩⟩
        refine ⟨_, rfl, _, 16, rfl, rfl, ⟨by decide, by decide⟩, .inl ⟨_, rfl, _, rfl, _, size, rfl, rfl, h0, ?_⟩⟩
        have em : mixN cell (n + 1) = b * (b / 2003 + 40692) % 2147483399 / 16 := by unfold mixN; rw [ea]; dsimp only; rw [eb]
        rw [em] at q
        exact q (.int _) I _ _ ht1 gt1 ⟨c, upd_same, pl3⟩ rfl

abbrev s__law_whole : Stmt := topS 43
theorem sc__law_whole : FnScope ["value"] ["value"] (defScope s__law_whole) := ⟨rfl, rfl, rfl, by decide +kernel, rfl, by decide +kernel, by decide +kernel⟩
theorem d__law_whole {P : Program} {w : World} {K : Fg} {mg : Str → Option Value} {base : Heap} (Z : Facts P K mg) : Def P w K mg base "_law_whole" 1 ["value"] (spF K fun (a : (D × Unit)) => L_law_whole a.1) := by
  obtain ⟨fd, F⟩ := Z.f__law_whole
  refine ⟨_, fd, Z.g__law_whole, F.kp, F.bindsN (fun _ _ _ _ _ _ us hl => match us, hl with | [_], _ => rfl), fn_ok (m := fun (a : (D × Unit)) => L_law_whole_b a.1) F sc__law_whole rfl fun cdv A outer s H E C a => ?_⟩
  exact (pb_retI (px_and (px_isi Z.b_isinstance Z.b_int (px_var 0)) (px_and1 (px_not (px_isi Z.b_isinstance Z.b_bool (px_var 0))))))
abbrev s__law_gcd : Stmt := topS 44
theorem sc__law_gcd : FnScope ["one", "other", "rest"] ["one", "other"] (defScope s__law_gcd) := ⟨rfl, rfl, rfl, by decide +kernel, rfl, by decide +kernel, by decide +kernel⟩
theorem d__law_gcd {P : Program} {w : World} {K : Fg} {mg : Str → Option Value} {base : Heap} (Z : Facts P K mg) : Def P w K mg base "_law_gcd" 1 ["one", "other"] (spF K fun (a : (Int × Int × Unit)) => L_law_gcd a.1 a.2.1) := by
  obtain ⟨fd, F⟩ := Z.f__law_gcd
  refine ⟨_, fd, Z.g__law_gcd, F.kp, F.bindsN (fun _ _ _ _ _ _ us hl => match us, hl with | [_, _], _ => rfl), fn_ok (m := fun (a : (Int × Int × Unit)) => L_law_gcd_b a.1 a.2.1) F sc__law_gcd rfl fun cdv A outer s H E C a => ?_⟩
  exact (pb_set 0 C (px_abs Z.b_abs (px_var 0)) fun one1 => (pb_set 1 C (px_abs Z.b_abs (px_var 1)) fun other2 => (pb_while [] (other2.natAbs + 1) (L := fun (r3 : (Int × Int)) _ => [sI K (r3.1 : Int), sI K (r3.2 : Int), .un]) (r0 := (one1, other2)) C (fun _ => rfl) (fun r3 => (px_neS (px_var 1) px_int).t) (fun r3 => (pb_set 2 C (px_mod (px_intI Z.b_int (px_var 0)) (px_var 1)) fun rest4 => (pb_set 0 C (px_var 1) fun one5 => (pb_set 1 C (px_var 2) fun other6 => (pb_nil [2] (r := (one5, other6))))))) fun r3 => (pb_retI (px_var 0)))))
abbrev s__law_told : Stmt := topS 45
theorem sc__law_told : FnScope ["value"] ["value"] (defScope s__law_told) := ⟨rfl, rfl, rfl, by decide +kernel, rfl, by decide +kernel, by decide +kernel⟩
theorem d__law_told {P : Program} {w : World} {K : Fg} {mg : Str → Option Value} {base : Heap} (Z : Facts P K mg) : Def P w K mg base "_law_told" 2 ["value"] (spF K fun (a : (D × Unit)) => L_law_told a.1) := by
  obtain ⟨fd, F⟩ := Z.f__law_told
  refine ⟨_, fd, Z.g__law_told, F.kp, F.bindsN (fun _ _ _ _ _ _ us hl => match us, hl with | [_], _ => rfl), fn_ok (m := fun (a : (D × Unit)) => L_law_told_b a.1) F sc__law_told rfl fun cdv A outer s H E C a => ?_⟩
  exact (pb_if (Δ1 := fun (r1 : Unit) _ => [sI K (a.1 : D)]) (PW.pt (Mi.pw_or (Mi.pt_not (pt_v (px_isi Z.b_isinstance Z.b_tuple (px_var 0)))) (Mi.pw_or1 (px_neS (px_dlen Z.b_len (px_var 0)) px_int).t))) (pb_retI px_bl) (pb_nil [] (r := ())) fun r1 => (pb_if (Δ1 := fun (r2 : Unit) _ => [sI K (a.1 : D)]) (PW.pt (Mi.pw_or (Mi.pt_not (pt_v (px_call (d__law_whole Z) C (pax_cons (px_dix (px_var 0) px_int) pax_nil)))) (Mi.pw_or1 (Mi.pt_not (pt_v (px_call (d__law_whole Z) C (pax_cons (px_dix (px_var 0) px_int) pax_nil))))))) (pb_retI px_bl) (pb_nil [] (r := ())) fun r2 => (pb_retI (px_and (px_ge (px_ofD (px_dix (px_var 0) px_int)) px_int).e (px_and1 (px_eqS (px_call (d__law_gcd Z) C (pax_cons (px_ofD (px_dix (px_var 0) px_int)) (pax_cons (px_ofD (px_dix (px_var 0) px_int)) pax_nil))) px_int).e)))))
abbrev s__law_even : Stmt := topS 46
theorem sc__law_even : FnScope ["one", "other"] ["one", "other"] (defScope s__law_even) := ⟨rfl, rfl, rfl, by decide +kernel, rfl, by decide +kernel, by decide +kernel⟩
theorem d__law_even {P : Program} {w : World} {K : Fg} {mg : Str → Option Value} {base : Heap} (Z : Facts P K mg) : Def P w K mg base "_law_even" 1 ["one", "other"] (spF K fun (a : ((Int × Int) × (Int × Int) × Unit)) => L_law_even a.1 a.2.1) := by
  obtain ⟨fd, F⟩ := Z.f__law_even
  refine ⟨_, fd, Z.g__law_even, F.kp, F.bindsN (fun _ _ _ _ _ _ us hl => match us, hl with | [_, _], _ => rfl), fn_ok (m := fun (a : ((Int × Int) × (Int × Int) × Unit)) => L_law_even_b a.1 a.2.1) F sc__law_even rfl fun cdv A outer s H E C a => ?_⟩
  exact (pb_retI (px_eqS (px_mul (px_fst (px_var 0)) (px_snd (px_var 1))) (px_mul (px_fst (px_var 1)) (px_snd (px_var 0)))).e)
abbrev s__law_less : Stmt := topS 47
theorem sc__law_less : FnScope ["one", "other"] ["one", "other"] (defScope s__law_less) := ⟨rfl, rfl, rfl, by decide +kernel, rfl, by decide +kernel, by decide +kernel⟩
theorem d__law_less {P : Program} {w : World} {K : Fg} {mg : Str → Option Value} {base : Heap} (Z : Facts P K mg) : Def P w K mg base "_law_less" 1 ["one", "other"] (spF K fun (a : ((Int × Int) × (Int × Int) × Unit)) => L_law_less a.1 a.2.1) := by
  obtain ⟨fd, F⟩ := Z.f__law_less
  refine ⟨_, fd, Z.g__law_less, F.kp, F.bindsN (fun _ _ _ _ _ _ us hl => match us, hl with | [_, _], _ => rfl), fn_ok (m := fun (a : ((Int × Int) × (Int × Int) × Unit)) => L_law_less_b a.1 a.2.1) F sc__law_less rfl fun cdv A outer s H E C a => ?_⟩
  exact (pb_retI (px_lt (px_mul (px_fst (px_var 0)) (px_snd (px_var 1))) (px_mul (px_fst (px_var 1)) (px_snd (px_var 0)))).e)
abbrev s__law_gives : Stmt := topS 48
theorem sc__law_gives : FnScope ["value", "due"] ["value", "due"] (defScope s__law_gives) := ⟨rfl, rfl, rfl, by decide +kernel, rfl, by decide +kernel, by decide +kernel⟩
theorem d__law_gives {P : Program} {w : World} {K : Fg} {mg : Str → Option Value} {base : Heap} (Z : Facts P K mg) : Def P w K mg base "_law_gives" 3 ["value", "due"] (spF K fun (a : (D × (Int × Int) × Unit)) => L_law_gives a.1 a.2.1) := by
  obtain ⟨fd, F⟩ := Z.f__law_gives
  refine ⟨_, fd, Z.g__law_gives, F.kp, F.bindsN (fun _ _ _ _ _ _ us hl => match us, hl with | [_, _], _ => rfl), fn_ok (m := fun (a : (D × (Int × Int) × Unit)) => L_law_gives_b a.1 a.2.1) F sc__law_gives rfl fun cdv A outer s H E C a => ?_⟩
  exact (pb_retI (px_and (px_call (d__law_told Z) C (pax_cons (px_var 0) pax_nil)) (px_and1 (px_call (d__law_even Z) C (pax_cons (px_ofD (px_var 0)) (pax_cons (px_var 1) pax_nil))))))
abbrev s__law_plus : Stmt := topS 49
theorem sc__law_plus : FnScope ["one", "other"] ["one", "other"] (defScope s__law_plus) := ⟨rfl, rfl, rfl, by decide +kernel, rfl, by decide +kernel, by decide +kernel⟩
theorem d__law_plus {P : Program} {w : World} {K : Fg} {mg : Str → Option Value} {base : Heap} (Z : Facts P K mg) : Def P w K mg base "_law_plus" 1 ["one", "other"] (spF K fun (a : ((Int × Int) × (Int × Int) × Unit)) => L_law_plus a.1 a.2.1) := by
  obtain ⟨fd, F⟩ := Z.f__law_plus
  refine ⟨_, fd, Z.g__law_plus, F.kp, F.bindsN (fun _ _ _ _ _ _ us hl => match us, hl with | [_, _], _ => rfl), fn_ok (m := fun (a : ((Int × Int) × (Int × Int) × Unit)) => L_law_plus_b a.1 a.2.1) F sc__law_plus rfl fun cdv A outer s H E C a => ?_⟩
  exact (pb_retI (px_tup2 (pax_cons (px_add (px_mul (px_fst (px_var 0)) (px_snd (px_var 1))) (px_mul (px_fst (px_var 1)) (px_snd (px_var 0)))) (pax_cons (px_mul (px_snd (px_var 0)) (px_snd (px_var 1))) pax_nil))))
abbrev s__law_minus : Stmt := topS 50
theorem sc__law_minus : FnScope ["one", "other"] ["one", "other"] (defScope s__law_minus) := ⟨rfl, rfl, rfl, by decide +kernel, rfl, by decide +kernel, by decide +kernel⟩
theorem d__law_minus {P : Program} {w : World} {K : Fg} {mg : Str → Option Value} {base : Heap} (Z : Facts P K mg) : Def P w K mg base "_law_minus" 1 ["one", "other"] (spF K fun (a : ((Int × Int) × (Int × Int) × Unit)) => L_law_minus a.1 a.2.1) := by
  obtain ⟨fd, F⟩ := Z.f__law_minus
  refine ⟨_, fd, Z.g__law_minus, F.kp, F.bindsN (fun _ _ _ _ _ _ us hl => match us, hl with | [_, _], _ => rfl), fn_ok (m := fun (a : ((Int × Int) × (Int × Int) × Unit)) => L_law_minus_b a.1 a.2.1) F sc__law_minus rfl fun cdv A outer s H E C a => ?_⟩
  exact (pb_retI (px_tup2 (pax_cons (px_sub (px_mul (px_fst (px_var 0)) (px_snd (px_var 1))) (px_mul (px_fst (px_var 1)) (px_snd (px_var 0)))) (pax_cons (px_mul (px_snd (px_var 0)) (px_snd (px_var 1))) pax_nil))))
abbrev s__law_times : Stmt := topS 51
theorem sc__law_times : FnScope ["one", "other"] ["one", "other"] (defScope s__law_times) := ⟨rfl, rfl, rfl, by decide +kernel, rfl, by decide +kernel, by decide +kernel⟩
theorem d__law_times {P : Program} {w : World} {K : Fg} {mg : Str → Option Value} {base : Heap} (Z : Facts P K mg) : Def P w K mg base "_law_times" 1 ["one", "other"] (spF K fun (a : ((Int × Int) × (Int × Int) × Unit)) => L_law_times a.1 a.2.1) := by
  obtain ⟨fd, F⟩ := Z.f__law_times
  refine ⟨_, fd, Z.g__law_times, F.kp, F.bindsN (fun _ _ _ _ _ _ us hl => match us, hl with | [_, _], _ => rfl), fn_ok (m := fun (a : ((Int × Int) × (Int × Int) × Unit)) => L_law_times_b a.1 a.2.1) F sc__law_times rfl fun cdv A outer s H E C a => ?_⟩
  exact (pb_retI (px_tup2 (pax_cons (px_mul (px_fst (px_var 0)) (px_fst (px_var 1))) (pax_cons (px_mul (px_snd (px_var 0)) (px_snd (px_var 1))) pax_nil))))
abbrev s__law_over : Stmt := topS 52
theorem sc__law_over : FnScope ["one", "other"] ["one", "other"] (defScope s__law_over) := ⟨rfl, rfl, rfl, by decide +kernel, rfl, by decide +kernel, by decide +kernel⟩
theorem d__law_over {P : Program} {w : World} {K : Fg} {mg : Str → Option Value} {base : Heap} (Z : Facts P K mg) : Def P w K mg base "_law_over" 1 ["one", "other"] (spF K fun (a : ((Int × Int) × (Int × Int) × Unit)) => L_law_over a.1 a.2.1) := by
  obtain ⟨fd, F⟩ := Z.f__law_over
  refine ⟨_, fd, Z.g__law_over, F.kp, F.bindsN (fun _ _ _ _ _ _ us hl => match us, hl with | [_, _], _ => rfl), fn_ok (m := fun (a : ((Int × Int) × (Int × Int) × Unit)) => L_law_over_b a.1 a.2.1) F sc__law_over rfl fun cdv A outer s H E C a => ?_⟩
  exact (pb_retI (px_tup2 (pax_cons (px_mul (px_fst (px_var 0)) (px_snd (px_var 1))) (pax_cons (px_mul (px_snd (px_var 0)) (px_fst (px_var 1))) pax_nil))))
abbrev s__law_number : Stmt := topS 53
theorem sc__law_number : FnScope ["pool", "form", "sign"] ["pool"] (defScope s__law_number) := ⟨rfl, rfl, rfl, by decide +kernel, rfl, by decide +kernel, by decide +kernel⟩
theorem d__law_number {P : Program} {w : World} {K : Fg} {mg : Str → Option Value} {base : Heap} (Z : Facts P K mg) : Def P w K mg base "_law_number" 2 ["pool"] (spP K fun (a : Unit) => L_law_number) := by
  obtain ⟨fd, F⟩ := Z.f__law_number
  refine ⟨_, fd, Z.g__law_number, F.kp, F.bindsN (fun _ _ _ _ _ _ us hl => match us, hl with | [_], _ => rfl), fn_okP (m := fun (a : Unit) => L_law_number_b) F sc__law_number rfl fun cdv A outer s H E C pa a => ?_⟩
  exact (pb_set 1 C (px_callP 0 (d__law_draw Z) C (pax_cons px_int pax_nil)) fun form1 => (pb_if (Δ1 := fun (r2 : Unit) st => [sP pa st, sI K (form1 : Int), .un]) (px_lt (px_var 1) px_int).t (pb_retP (px_tup2 (pax_cons (px_sub (px_callP 0 (d__law_draw Z) C (pax_cons px_int pax_nil)) px_int) (pax_cons px_int pax_nil)))) (pb_nil [] (r := ())) fun r2 => (pb_if (Δ1 := fun (r3 : Unit) st => [sP pa st, sI K (form1 : Int), .un]) (px_lt (px_var 1) px_int).t (pb_retP (px_tup2 (pax_cons (px_sub (px_callP 0 (d__law_draw Z) C (pax_cons px_int pax_nil)) px_int) (pax_cons (px_add px_int (px_callP 0 (d__law_draw Z) C (pax_cons px_int pax_nil))) pax_nil)))) (pb_nil [] (r := ())) fun r3 => (pb_set 2 C (px_sub px_int (px_mul px_int (px_callP 0 (d__law_draw Z) C (pax_cons px_int pax_nil)))) fun sign4 => (pb_if (Δ1 := fun (r5 : Unit) st => [sP pa st, sI K (form1 : Int), sI K (sign4 : Int)]) (px_eqS (px_var 1) px_int).t (pb_retP (px_tup2 (pax_cons (px_mul (px_var 2) (px_callP 0 (d__law_draw Z) C (pax_cons (px_pow px_int px_int) pax_nil))) (pax_cons px_int pax_nil)))) (pb_nil [] (r := ())) fun r5 => (pb_retP (px_tup2 (pax_cons (px_mul (px_var 2) (px_callP 0 (d__law_draw Z) C (pax_cons (px_pow px_int px_int) pax_nil))) (pax_cons (px_add px_int (px_callP 0 (d__law_draw Z) C (pax_cons (px_pow px_int px_int) pax_nil))) pax_nil)))))))))
abbrev s__law_small : Stmt := topS 54
theorem sc__law_small : FnScope ["pool"] ["pool"] (defScope s__law_small) := ⟨rfl, rfl, rfl, by decide +kernel, rfl, by decide +kernel, by decide +kernel⟩
theorem d__law_small {P : Program} {w : World} {K : Fg} {mg : Str → Option Value} {base : Heap} (Z : Facts P K mg) : Def P w K mg base "_law_small" 2 ["pool"] (spP K fun (a : Unit) => L_law_small) := by
  obtain ⟨fd, F⟩ := Z.f__law_small
  refine ⟨_, fd, Z.g__law_small, F.kp, F.bindsN (fun _ _ _ _ _ _ us hl => match us, hl with | [_], _ => rfl), fn_okP (m := fun (a : Unit) => L_law_small_b) F sc__law_small rfl fun cdv A outer s H E C pa a => ?_⟩
  exact (pb_retP (px_tup2 (pax_cons (px_sub (px_callP 0 (d__law_draw Z) C (pax_cons px_int pax_nil)) px_int) (pax_cons (px_add px_int (px_callP 0 (d__law_draw Z) C (pax_cons px_int pax_nil))) pax_nil))))
abbrev s__law_rise : Stmt := topS 56
theorem sc__law_rise : FnScope ["pool", "wide"] ["pool", "wide"] (defScope s__law_rise) := ⟨rfl, rfl, rfl, by decide +kernel, rfl, by decide +kernel, by decide +kernel⟩
theorem d__law_rise {P : Program} {w : World} {K : Fg} {mg : Str → Option Value} {base : Heap} (Z : Facts P K mg) : Def P w K mg base "_law_rise" 2 ["pool", "wide"] (spP K fun (a : (Bool × Unit)) => L_law_rise a.1) := by
  obtain ⟨fd, F⟩ := Z.f__law_rise
  refine ⟨_, fd, Z.g__law_rise, F.kp, F.bindsN (fun _ _ _ _ _ _ us hl => match us, hl with | [_, _], _ => rfl), fn_okP (m := fun (a : (Bool × Unit)) => L_law_rise_b a.1) F sc__law_rise rfl fun cdv A outer s H E C pa a => ?_⟩
  exact (pb_if (Δ1 := fun (r1 : Unit) st => [sP pa st, sI K (a.1 : Bool)]) (PW.pt (Mi.pw_and (pt_v (px_var 1)) (Mi.pw_and1 (px_eqS (px_callP 0 (d__law_draw Z) C (pax_cons px_int pax_nil)) px_int).t))) (pb_retP (px_tup2 (pax_cons (px_add px_int (px_callP 0 (d__law_draw Z) C (pax_cons (px_pow px_int px_int) pax_nil))) (pax_cons (px_add px_int (px_callP 0 (d__law_draw Z) C (pax_cons (px_pow px_int px_int) pax_nil))) pax_nil)))) (pb_nil [] (r := ())) fun r1 => (pb_retP (px_tup2 (pax_cons (px_add px_int (px_callP 0 (d__law_draw Z) C (pax_cons px_int pax_nil))) (pax_cons (px_add px_int (px_callP 0 (d__law_draw Z) C (pax_cons px_int pax_nil))) pax_nil)))))
abbrev s__law_slope : Stmt := topS 57
theorem sc__law_slope : FnScope ["pool", "form"] ["pool"] (defScope s__law_slope) := ⟨rfl, rfl, rfl, by decide +kernel, rfl, by decide +kernel, by decide +kernel⟩
theorem d__law_slope {P : Program} {w : World} {K : Fg} {mg : Str → Option Value} {base : Heap} (Z : Facts P K mg) : Def P w K mg base "_law_slope" 2 ["pool"] (spP K fun (a : Unit) => L_law_slope) := by
  obtain ⟨fd, F⟩ := Z.f__law_slope
  refine ⟨_, fd, Z.g__law_slope, F.kp, F.bindsN (fun _ _ _ _ _ _ us hl => match us, hl with | [_], _ => rfl), fn_okP (m := fun (a : Unit) => L_law_slope_b) F sc__law_slope rfl fun cdv A outer s H E C pa a => ?_⟩
  exact (pb_set 1 C (px_callP 0 (d__law_draw Z) C (pax_cons px_int pax_nil)) fun form1 => (pb_if (Δ1 := fun (r2 : Unit) st => [sP pa st, sI K (form1 : Int)]) (px_lt (px_var 1) px_int).t (pb_retP (px_ix (px_lst (plx_cons (px_tup2 (pax_cons px_int (pax_cons px_int pax_nil))) (plx_cons (px_tup2 (pax_cons px_int (pax_cons px_int pax_nil))) (plx_cons (px_tup2 (pax_cons px_int (pax_cons px_int pax_nil))) (plx_cons (px_tup2 (pax_cons px_int (pax_cons px_int pax_nil))) (plx_cons (px_tup2 (pax_cons px_int (pax_cons px_int pax_nil))) (plx_cons (px_tup2 (pax_cons px_int (pax_cons px_int pax_nil))) plx_nil))))))) (px_var 1))) (pb_nil [] (r := ())) fun r2 => (pb_retP (px_tup2 (pax_cons (px_callP 0 (d__law_draw Z) C (pax_cons px_int pax_nil)) (pax_cons (px_add px_int (px_callP 0 (d__law_draw Z) C (pax_cons px_int pax_nil))) pax_nil))))))
abbrev s__law_general : Stmt := topS 58
theorem sc__law_general : FnScope ["pool", "many", "wide", "x", "y", "knots", "k"] ["pool", "many", "wide"] (defScope s__law_general) := ⟨rfl, rfl, rfl, by decide +kernel, rfl, by decide +kernel, by decide +kernel⟩
theorem d__law_general {P : Program} {w : World} {K : Fg} {mg : Str → Option Value} {base : Heap} (Z : Facts P K mg) : Def P w K mg base "_law_general" 3 ["pool", "many", "wide"] (spP K fun (a : (Int × Bool × Unit)) => L_law_general a.1 a.2.1) := by
  obtain ⟨fd, F⟩ := Z.f__law_general
  refine ⟨_, fd, Z.g__law_general, F.kp, F.bindsN (fun _ _ _ _ _ _ us hl => match us, hl with | [_, _, _], _ => rfl), fn_okP (m := fun (a : (Int × Bool × Unit)) => L_law_general_b a.1 a.2.1) F sc__law_general rfl fun cdv A outer s H E C pa a => ?_⟩
  exact (pb_set 3 C (px_callP 0 (d__law_small Z) C pax_nil) fun x_1 => (pb_set 4 C (px_callP 0 (d__law_small Z) C pax_nil) fun y_2 => (pb_if (Δ1 := fun (r3 : ((Int × Int) × (Int × Int))) st => [sP pa st, sI K (a.1 : Int), sI K (a.2.1 : Bool), sI K (r3.1 : (Int × Int)), sI K (r3.2 : (Int × Int)), .un, .un]) (pt_v (px_var 2)) (pb_set 3 C (px_callP 0 (d__law_number Z) C pax_nil) fun x_4 => (pb_set 4 C (px_callP 0 (d__law_number Z) C pax_nil) fun y_5 => (pb_nil [] (r := (x_4, y_5))))) (pb_nil [] (r := (x_1, y_2))) fun r3 => (pb_new 5 C (plx_cons (px_tup2 (pax_cons (px_var 3) (pax_cons (px_var 4) pax_nil))) plx_nil) fun knots6 => (pb_for [6] [] (L := fun (r7 : ((Int × Int) × (Int × Int) × (List ((Int × Int) × (Int × Int))))) st => [sP pa st, sI K (a.1 : Int), sI K (a.2.1 : Bool), sI K (r7.1 : (Int × Int)), sI K (r7.2.1 : (Int × Int)), sL K (r7.2.2 : (List ((Int × Int) × (Int × Int)))), .un]) (r0 := (r3.1, r3.2, knots6)) C (gt_name 6 C.nd) (ix_r1 Z.b_range (px_callP 0 (d__law_draw Z) C (pax_cons (px_var 1) pax_nil))) (fun _ => rfl) (fun x8 r7 => (pb_set 3 C (px_call (d__law_plus Z) C (pax_cons (px_var 3) (pax_cons (px_callP 0 (d__law_rise Z) C (pax_cons (px_var 2) pax_nil)) pax_nil))) fun x_9 => (pb_if (Δ1 := fun (r10 : (Int × Int)) st => [sP pa st, sI K (a.1 : Int), sI K (a.2.1 : Bool), sI K (x_9 : (Int × Int)), sI K (r10 : (Int × Int)), sL K (r7.2.2 : (List ((Int × Int) × (Int × Int)))), sI K (x8 : Int)]) (px_gt (px_callP 0 (d__law_draw Z) C (pax_cons px_int pax_nil)) px_int).t (pb_set 4 C (px_call (d__law_plus Z) C (pax_cons (px_var 4) (pax_cons (px_callP 0 (d__law_rise Z) C (pax_cons (px_var 2) pax_nil)) pax_nil))) fun y_11 => (pb_nil [] (r := y_11))) (pb_nil [] (r := r7.2.1)) fun r10 => (pb_app 5 (fun _ => rfl) (px_tup2 (pax_cons (px_var 3) (pax_cons (px_var 4) pax_nil))) (fun knots12 => (pb_nil [6] (r := (x_9, r10, knots12)))) (fun h => ps_expr (pe_bm PySem.F.plainAttrs_list PySem.F.slot_list_append PySem.F.type_list_append mt_append (pv 5) (pa_cons h pa_nil))))))) fun r7 => (pb_pub 5 (xs := r7.2.2) (fun _ => rfl) (pb_retP (px_tup3 (pax_cons (px_callP 0 (d__law_slope Z) C pax_nil) (pax_cons (px_var 5) (pax_cons (px_callP 0 (d__law_slope Z) C pax_nil) pax_nil)))))))))))
abbrev s__law_spec : Stmt := topS 59
theorem sc__law_spec : FnScope ["pool", "many", "wide", "form", "a", "slope", "b"] ["pool", "many", "wide"] (defScope s__law_spec) := ⟨rfl, rfl, rfl, by decide +kernel, rfl, by decide +kernel, by decide +kernel⟩
theorem d__law_spec {P : Program} {w : World} {K : Fg} {mg : Str → Option Value} {base : Heap} (Z : Facts P K mg) : Def P w K mg base "_law_spec" 4 ["pool", "many", "wide"] (spP K fun (a : (Int × Bool × Unit)) => L_law_spec a.1 a.2.1) := by
  obtain ⟨fd, F⟩ := Z.f__law_spec
  refine ⟨_, fd, Z.g__law_spec, F.kp, F.bindsN (fun _ _ _ _ _ _ us hl => match us, hl with | [_, _, _], _ => rfl), fn_okP (m := fun (a : (Int × Bool × Unit)) => L_law_spec_b a.1 a.2.1) F sc__law_spec rfl fun cdv A outer s H E C pa a => ?_⟩
  exact (pb_set 3 C (px_callP 0 (d__law_draw Z) C (pax_cons px_int pax_nil)) fun form1 => (pb_set 4 C (px_callP 0 (d__law_small Z) C pax_nil) fun a_2 => (pb_if (Δ1 := fun (r3 : (Int × Int)) st => [sP pa st, sI K (a.1 : Int), sI K (a.2.1 : Bool), sI K (form1 : Int), sI K (r3 : (Int × Int)), .un, .un]) (pt_v (px_var 2)) (pb_set 4 C (px_callP 0 (d__law_number Z) C pax_nil) fun a_4 => (pb_nil [] (r := a_4))) (pb_nil [] (r := a_2)) fun r3 => (pb_if (Δ1 := fun (r5 : Unit) st => [sP pa st, sI K (a.1 : Int), sI K (a.2.1 : Bool), sI K (form1 : Int), sI K (r3 : (Int × Int)), .un, .un]) (px_eqS (px_var 3) px_int).t (pb_retP (px_tup3 (pax_cons (px_tup2 (pax_cons px_int (pax_cons px_int pax_nil))) (pax_cons (px_lst (plx_cons (px_tup2 (pax_cons (px_tup2 (pax_cons px_int (pax_cons px_int pax_nil))) (pax_cons (px_var 4) pax_nil))) plx_nil)) (pax_cons (px_tup2 (pax_cons px_int (pax_cons px_int pax_nil))) pax_nil))))) (pb_nil [] (r := ())) fun r5 => (pb_if (Δ1 := fun (r6 : Unit) st => [sP pa st, sI K (a.1 : Int), sI K (a.2.1 : Bool), sI K (form1 : Int), sI K (r3 : (Int × Int)), .un, .un]) (px_eqS (px_var 3) px_int).t (pb_set 5 C (px_callP 0 (d__law_slope Z) C pax_nil) fun slope7 => (pb_retP (px_tup3 (pax_cons (px_var 5) (pax_cons (px_lst (plx_cons (px_tup2 (pax_cons (px_tup2 (pax_cons px_int (pax_cons px_int pax_nil))) (pax_cons (px_tup2 (pax_cons px_int (pax_cons px_int pax_nil))) pax_nil))) plx_nil)) (pax_cons (px_var 5) pax_nil)))))) (pb_nil [] (r := ())) fun r6 => (pb_if (Δ1 := fun (r8 : Unit) st => [sP pa st, sI K (a.1 : Int), sI K (a.2.1 : Bool), sI K (form1 : Int), sI K (r3 : (Int × Int)), .un, .un]) (px_eqS (px_var 3) px_int).t (pb_retP (px_tup3 (pax_cons (px_tup2 (pax_cons px_int (pax_cons px_int pax_nil))) (pax_cons (px_lst (plx_cons (px_tup2 (pax_cons (px_var 4) (pax_cons (px_var 4) pax_nil))) plx_nil)) (pax_cons (px_tup2 (pax_cons px_int (pax_cons px_int pax_nil))) pax_nil))))) (pb_nil [] (r := ())) fun r8 => (pb_if (Δ1 := fun (r9 : Unit) st => [sP pa st, sI K (a.1 : Int), sI K (a.2.1 : Bool), sI K (form1 : Int), sI K (r3 : (Int × Int)), .un, .un]) (px_eqS (px_var 3) px_int).t (pb_retP (px_tup3 (pax_cons (px_tup2 (pax_cons px_int (pax_cons px_int pax_nil))) (pax_cons (px_lst (plx_cons (px_tup2 (pax_cons (px_var 4) (pax_cons (px_var 4) pax_nil))) plx_nil)) (pax_cons (px_tup2 (pax_cons px_int (pax_cons px_int pax_nil))) pax_nil))))) (pb_nil [] (r := ())) fun r9 => (pb_if (Δ1 := fun (r10 : Unit) st => [sP pa st, sI K (a.1 : Int), sI K (a.2.1 : Bool), sI K (form1 : Int), sI K (r3 : (Int × Int)), .un, .un]) (px_eqS (px_var 3) px_int).t (pb_retP (px_tup3 (pax_cons (px_tup2 (pax_cons px_int (pax_cons px_int pax_nil))) (pax_cons (px_lst (plx_cons (px_tup2 (pax_cons (px_tup2 (pax_cons px_int (pax_cons px_int pax_nil))) (pax_cons (px_var 4) pax_nil))) plx_nil)) (pax_cons (px_tup2 (pax_cons px_int (pax_cons px_int pax_nil))) pax_nil))))) (pb_nil [] (r := ())) fun r10 => (pb_if (Δ1 := fun (r11 : Unit) st => [sP pa st, sI K (a.1 : Int), sI K (a.2.1 : Bool), sI K (form1 : Int), sI K (r3 : (Int × Int)), .un, .un]) (px_eqS (px_var 3) px_int).t (pb_set 5 C (px_callP 0 (d__law_slope Z) C pax_nil) fun slope12 => (pb_retP (px_tup3 (pax_cons (px_var 5) (pax_cons (px_lst (plx_cons (px_tup2 (pax_cons (px_tup2 (pax_cons px_int (pax_cons px_int pax_nil))) (pax_cons (px_var 4) pax_nil))) plx_nil)) (pax_cons (px_var 5) pax_nil)))))) (pb_nil [] (r := ())) fun r11 => (pb_if (Δ1 := fun (r13 : Unit) st => [sP pa st, sI K (a.1 : Int), sI K (a.2.1 : Bool), sI K (form1 : Int), sI K (r3 : (Int × Int)), .un, .un]) (px_eqS (px_var 3) px_int).t (pb_set 6 C (px_callP 0 (d__law_small Z) C pax_nil) fun b14 => (pb_retP (px_tup3 (pax_cons (px_tup2 (pax_cons px_int (pax_cons px_int pax_nil))) (pax_cons (px_lst (plx_cons (px_tup2 (pax_cons (px_call (d__law_minus Z) C (pax_cons (px_var 6) (pax_cons (px_var 4) pax_nil))) (pax_cons (px_var 6) pax_nil))) plx_nil)) (pax_cons (px_tup2 (pax_cons px_int (pax_cons px_int pax_nil))) pax_nil)))))) (pb_nil [] (r := ())) fun r13 => (pb_retP (px_callP 0 (d__law_general Z) C (pax_cons (px_var 1) (pax_cons (px_var 2) pax_nil))))))))))))))
abbrev s__law_at : Stmt := topS 60
theorem sc__law_at : FnScope ["spec", "x", "left", "knots", "right", "k", "wide", "part", "last"] ["spec", "x"] (defScope s__law_at) := ⟨rfl, rfl, rfl, by decide +kernel, rfl, by decide +kernel, by decide +kernel⟩
theorem d__law_at {P : Program} {w : World} {K : Fg} {mg : Str → Option Value} {base : Heap} (Z : Facts P K mg) : Def P w K mg base "_law_at" 2 ["spec", "x"] (spF K fun (a : ((T3 (Int × Int) (List ((Int × Int) × (Int × Int))) (Int × Int)) × (Int × Int) × Unit)) => L_law_at a.1 a.2.1) := by
  obtain ⟨fd, F⟩ := Z.f__law_at
  refine ⟨_, fd, Z.g__law_at, F.kp, F.bindsN (fun _ _ _ _ _ _ us hl => match us, hl with | [_, _], _ => rfl), fn_ok (m := fun (a : ((T3 (Int × Int) (List ((Int × Int) × (Int × Int))) (Int × Int)) × (Int × Int) × Unit)) => L_law_at_b a.1 a.2.1) F sc__law_at rfl fun cdv A outer s H E C a => ?_⟩
  exact (pb_asg [2, 3, 4] (gt_tup3 2 3 4 C.nd C.calm) (px_var 0) fun p1 => (pb_if (Δ1 := fun (r2 : Unit) _ => [sI K (a.1 : (T3 (Int × Int) (List ((Int × Int) × (Int × Int))) (Int × Int))), sI K (a.2.1 : (Int × Int)), sI K (p1.a : (Int × Int)), sI K (p1.b : (List ((Int × Int) × (Int × Int)))), sI K (p1.c : (Int × Int)), .un, .un, .un, .un]) (Mi.pt_not (pt_v (px_call (d__law_less Z) C (pax_cons (px_fst (px_ix (px_var 3) px_int)) (pax_cons (px_var 1) pax_nil))))) (pb_retI (px_call (d__law_minus Z) C (pax_cons (px_snd (px_ix (px_var 3) px_int)) (pax_cons (px_call (d__law_times Z) C (pax_cons (px_var 2) (pax_cons (px_call (d__law_minus Z) C (pax_cons (px_fst (px_ix (px_var 3) px_int)) (pax_cons (px_var 1) pax_nil))) pax_nil))) pax_nil)))) (pb_nil [] (r := ())) fun r2 => (pb_for [5] [] (L := fun (r3 : Unit) _ => [sI K (a.1 : (T3 (Int × Int) (List ((Int × Int) × (Int × Int))) (Int × Int))), sI K (a.2.1 : (Int × Int)), sI K (p1.a : (Int × Int)), sI K (p1.b : (List ((Int × Int) × (Int × Int)))), sI K (p1.c : (Int × Int)), .un, .un, .un, .un]) (r0 := ()) C (gt_name 5 C.nd) (ix_r1 Z.b_range (px_sub (px_len Z.b_len (px_var 3)) px_int)) (fun _ => rfl) (fun x4 r3 => (pb_if (Δ1 := fun (r5 : Unit) _ => [sI K (a.1 : (T3 (Int × Int) (List ((Int × Int) × (Int × Int))) (Int × Int))), sI K (a.2.1 : (Int × Int)), sI K (p1.a : (Int × Int)), sI K (p1.b : (List ((Int × Int) × (Int × Int)))), sI K (p1.c : (Int × Int)), sI K (x4 : Int), .un, .un, .un]) (Mi.pt_not (pt_v (px_call (d__law_less Z) C (pax_cons (px_fst (px_ix (px_var 3) (px_add (px_var 5) px_int))) (pax_cons (px_var 1) pax_nil))))) (pb_set 6 C (px_call (d__law_minus Z) C (pax_cons (px_fst (px_ix (px_var 3) (px_add (px_var 5) px_int))) (pax_cons (px_fst (px_ix (px_var 3) (px_var 5))) pax_nil))) fun wide6 => (pb_set 7 C (px_call (d__law_over Z) C (pax_cons (px_call (d__law_minus Z) C (pax_cons (px_var 1) (pax_cons (px_fst (px_ix (px_var 3) (px_var 5))) pax_nil))) (pax_cons (px_var 6) pax_nil))) fun part7 => (pb_retI (px_call (d__law_plus Z) C (pax_cons (px_snd (px_ix (px_var 3) (px_var 5))) (pax_cons (px_call (d__law_times Z) C (pax_cons (px_call (d__law_minus Z) C (pax_cons (px_snd (px_ix (px_var 3) (px_add (px_var 5) px_int))) (pax_cons (px_snd (px_ix (px_var 3) (px_var 5))) pax_nil))) (pax_cons (px_var 7) pax_nil))) pax_nil)))))) (pb_nil [] (r := ())) fun r5 => (pb_nil [5] (r := ())))) fun r3 => (pb_set 8 C (px_ix (px_var 3) (px_sub (px_len Z.b_len (px_var 3)) px_int)) fun last8 => (pb_retI (px_call (d__law_plus Z) C (pax_cons (px_snd (px_var 8)) (pax_cons (px_call (d__law_times Z) C (pax_cons (px_var 4) (pax_cons (px_call (d__law_minus Z) C (pax_cons (px_var 1) (pax_cons (px_fst (px_var 8)) pax_nil))) pax_nil))) pax_nil))))))))
abbrev s__law_step : Stmt := topS 61
theorem sc__law_step : FnScope ["spec", "x", "y"] ["spec"] (defScope s__law_step) := ⟨rfl, rfl, rfl, by decide +kernel, rfl, by decide +kernel, by decide +kernel⟩
theorem d__law_step {P : Program} {w : World} {K : Fg} {mg : Str → Option Value} {base : Heap} (Z : Facts P K mg) : Def P w K mg base "_law_step" 7 ["spec"] (spF K fun (a : ((T3 (Int × Int) (List ((Int × Int) × (Int × Int))) (Int × Int)) × Unit)) => L_law_step a.1) := by
  obtain ⟨fd, F⟩ := Z.f__law_step
  refine ⟨_, fd, Z.g__law_step, F.kp, F.bindsN (fun _ _ _ _ _ _ us hl => match us, hl with | [_], _ => rfl), fn_ok (m := fun (a : ((T3 (Int × Int) (List ((Int × Int) × (Int × Int))) (Int × Int)) × Unit)) => L_law_step_b a.1) F sc__law_step rfl fun cdv A outer s H E C a => ?_⟩
  exact (pb_retI (px_mk (d_Step___init__ Z) C (pax_cons (px_toD (px_t3a (px_var 0))) (pax_cons (px_inr (α := KnotsO) (px_of (po_lc2 1 2 (own := [("x", 1), ("y", 2)]) C (ix_l (px_t3b (px_var 0))) (blkOk_by (own := [("x", 1), ("y", 2)]) (N := ["spec", "x", "y"]) (sc := defScope s__law_step) (by decide +kernel)) (fun _ => rfl) (by decide) (by decide) (fun _ _ _ _ _ => pg_tup C.calm (pgs_cons (pg_name C.nd rfl (Or.inl rfl)) (pgs_cons (pg_name C.nd rfl (Or.inl rfl)) pgs_nil rfl) rfl) rfl rfl) (fun _ _ _ _ _ C x1 => pts_t) (fun _ _ _ _ _ C x1 => (px_tup2 (pax_cons (px_var 1) (pax_cons (px_var 2) pax_nil))))))) (pax_cons (px_toD (px_t3c (px_var 0))) pax_nil)))))
abbrev s__law_given : Stmt := topS 55
theorem sc__law_given : FnScope ["pool", "number", "form", "by"] ["pool", "number"] (defScope s__law_given) := ⟨rfl, rfl, rfl, by decide +kernel, rfl, by decide +kernel, by decide +kernel⟩
theorem d__law_given {P : Program} {w : World} {K : Fg} {mg : Str → Option Value} {base : Heap} (Z : Facts P K mg) : Def P w K mg base "_law_given" 2 ["pool", "number"] (spP K fun (a : ((Int × Int) × Unit)) => L_law_given a.1) := by
  obtain ⟨fd, F⟩ := Z.f__law_given
  refine ⟨_, fd, Z.g__law_given, F.kp, F.bindsN (fun _ _ _ _ _ _ us hl => match us, hl with | [_, _], _ => rfl), fn_okP (m := fun (a : ((Int × Int) × Unit)) => L_law_given_b a.1) F sc__law_given rfl fun cdv A outer s H E C pa a => ?_⟩
  exact (pb_set 2 C (px_callP 0 (d__law_draw Z) C (pax_cons px_int pax_nil)) fun form1 => (pb_if (Δ1 := fun (r2 : Unit) st => [sP pa st, sI K (a.1 : (Int × Int)), sI K (form1 : Int), .un]) (PW.pt (Mi.pw_and (px_eqS (px_var 2) px_int).t (Mi.pw_and1 (px_eqS (px_snd (px_var 1)) px_int).t))) (pb_retP (px_toD (px_fst (px_var 1)))) (pb_nil [] (r := ())) fun r2 => (pb_if (Δ1 := fun (r3 : Unit) st => [sP pa st, sI K (a.1 : (Int × Int)), sI K (form1 : Int), .un]) (px_eqS (px_var 2) px_int).t (pb_set 3 C (px_add px_int (px_callP 0 (d__law_draw Z) C (pax_cons px_int pax_nil))) fun by_4 => (pb_retP (px_dtup (plx_cons (px_toD (px_mul (px_fst (px_var 1)) (px_var 3))) (plx_cons (px_toD (px_mul (px_snd (px_var 1)) (px_var 3))) plx_nil))))) (pb_nil [] (r := ())) fun r3 => (pb_retP (px_toD (px_var 1))))))
abbrev s__law_odd : Stmt := topS 62
theorem sc__law_odd : FnScope ["pool", "p", "form", "odd"] ["pool"] (defScope s__law_odd) := ⟨rfl, rfl, rfl, by decide +kernel, rfl, by decide +kernel, by decide +kernel⟩
theorem d__law_odd {P : Program} {w : World} {K : Fg} {mg : Str → Option Value} {base : Heap} (Z : Facts P K mg) : Def P w K mg base "_law_odd" 2 ["pool"] (spP K fun (a : Unit) => L_law_odd) := by
  obtain ⟨fd, F⟩ := Z.f__law_odd
  refine ⟨_, fd, Z.g__law_odd, F.kp, F.bindsN (fun _ _ _ _ _ _ us hl => match us, hl with | [_], _ => rfl), fn_okP (m := fun (a : Unit) => L_law_odd_b) F sc__law_odd rfl fun cdv A outer s H E C pa a => ?_⟩
  exact (pb_set 1 C (px_sub (px_callP 0 (d__law_draw Z) C (pax_cons (px_pow px_int px_int) pax_nil)) px_int) fun p1 => (pb_set 2 C (px_callP 0 (d__law_draw Z) C (pax_cons px_int pax_nil)) fun form2 => (pb_set 3 C (px_lst (plx_cons (px_toD px_bl) (plx_cons (px_toD px_bl) (plx_cons (px_toD px_non) (plx_cons (px_toD px_str) (plx_cons (px_toD px_str) (plx_cons (px_dtup plx_nil) (plx_cons (px_dtup (plx_cons (px_toD (px_var 1)) (plx_cons (px_toD px_int) plx_nil))) (plx_cons (px_dtup (plx_cons (px_toD (px_var 1)) (plx_cons (px_toD (px_neg px_int)) plx_nil))) (plx_cons (px_dtup (plx_cons (px_toD (px_var 1)) (plx_cons (px_toD px_int) (plx_cons (px_toD px_int) plx_nil)))) (plx_cons (px_dlst (plx_cons (px_toD (px_var 1)) (plx_cons (px_toD px_int) plx_nil))) (plx_cons (px_dtup (plx_cons (px_toD px_bl) (plx_cons (px_toD px_int) plx_nil))) (plx_cons (px_dtup (plx_cons (px_toD px_int) (plx_cons (px_toD px_bl) plx_nil))) (plx_cons (px_dtup (plx_cons (px_dtup (plx_cons (px_toD (px_var 1)) (plx_cons (px_toD px_int) plx_nil))) (plx_cons (px_toD px_int) plx_nil))) plx_nil)))))))))))))) fun odd3 => (pb_set 3 C (px_lcat (px_var 3) (px_lst (plx_cons (px_ddct1 (px_toD px_int) (px_toD px_int)) (plx_cons (px_toD px_str) (plx_cons (px_dtup (plx_cons (px_toD (px_var 1)) (plx_cons (px_toD px_non) plx_nil))) plx_nil))))) fun odd4 => (pb_retP (px_ix (px_var 3) (px_var 2)))))))
abbrev s__law_made : Stmt := topS 63
theorem sc__law_made : FnScope ["which", "value"] ["which", "value"] (defScope s__law_made) := ⟨rfl, rfl, rfl, by decide +kernel, rfl, by decide +kernel, by decide +kernel⟩
theorem d__law_made {P : Program} {w : World} {K : Fg} {mg : Str → Option Value} {base : Heap} (Z : Facts P K mg) : Def P w K mg base "_law_made" 8 ["which", "value"] (spF K fun (a : (Int × D × Unit)) => L_law_made a.1 a.2.1) := by
  obtain ⟨fd, F⟩ := Z.f__law_made
  refine ⟨_, fd, Z.g__law_made, F.kp, F.bindsN (fun _ _ _ _ _ _ us hl => match us, hl with | [_, _], _ => rfl), fn_ok (m := fun (a : (Int × D × Unit)) => L_law_made_b a.1 a.2.1) F sc__law_made rfl fun cdv A outer s H E C a => ?_⟩
  exact (pb_if (Δ1 := fun (r1 : Unit) _ => [sI K (a.1 : Int), sI K (a.2.1 : D)]) (px_eqS (px_var 0) px_int).t (pb_retI (px_cmeth (d_Step_plus Z) C (px_glob (a := (ClsV.it : ClsV "Step")) ⟨_, .ref (He.ga K "Step"), Z.g_Step, rfl, fun _ => rfl⟩) (pax_cons (px_var 1) pax_nil))) (pb_nil [] (r := ())) fun r1 => (pb_if (Δ1 := fun (r2 : Unit) _ => [sI K (a.1 : Int), sI K (a.2.1 : D)]) (px_eqS (px_var 0) px_int).t (pb_retI (px_cmeth (d_Step_times Z) C (px_glob (a := (ClsV.it : ClsV "Step")) ⟨_, .ref (He.ga K "Step"), Z.g_Step, rfl, fun _ => rfl⟩) (pax_cons (px_var 1) pax_nil))) (pb_nil [] (r := ())) fun r2 => (pb_if (Δ1 := fun (r3 : Unit) _ => [sI K (a.1 : Int), sI K (a.2.1 : D)]) (px_eqS (px_var 0) px_int).t (pb_retI (px_cmeth (d_Step_at_least Z) C (px_glob (a := (ClsV.it : ClsV "Step")) ⟨_, .ref (He.ga K "Step"), Z.g_Step, rfl, fun _ => rfl⟩) (pax_cons (px_var 1) pax_nil))) (pb_nil [] (r := ())) fun r3 => (pb_if (Δ1 := fun (r4 : Unit) _ => [sI K (a.1 : Int), sI K (a.2.1 : D)]) (px_eqS (px_var 0) px_int).t (pb_retI (px_cmeth (d_Step_at_most Z) C (px_glob (a := (ClsV.it : ClsV "Step")) ⟨_, .ref (He.ga K "Step"), Z.g_Step, rfl, fun _ => rfl⟩) (pax_cons (px_var 1) pax_nil))) (pb_nil [] (r := ())) fun r4 => (pb_retI (px_cmeth (d_Step_always Z) C (px_glob (a := (ClsV.it : ClsV "Step")) ⟨_, .ref (He.ga K "Step"), Z.g_Step, rfl, fun _ => rfl⟩) (pax_cons (px_var 1) pax_nil)))))))
abbrev s__law_try : Stmt := topS 64
theorem sc__law_try : FnScope ["which", "value", "found", "e"] ["which", "value"] (defScope s__law_try) := ⟨rfl, rfl, rfl, by decide +kernel, rfl, by decide +kernel, by decide +kernel⟩
theorem d__law_try {P : Program} {w : World} {K : Fg} {mg : Str → Option Value} {base : Heap} (Z : Facts P K mg) : Def P w K mg base "_law_try" 9 ["which", "value"] (spF K fun (a : (Int × D × Unit)) => L_law_try a.1 a.2.1) := by
  obtain ⟨fd, F⟩ := Z.f__law_try
  refine ⟨_, fd, Z.g__law_try, F.kp, F.bindsN (fun _ _ _ _ _ _ us hl => match us, hl with | [_, _], _ => rfl), fn_ok (m := fun (a : (Int × D × Unit)) => L_law_try_b a.1 a.2.1) F sc__law_try rfl fun cdv A outer s H E C a => ?_⟩
  exact (pb_set 2 C (px_dtup (plx_cons (px_toD px_str) plx_nil)) fun found1 => (pb_try2 (others := ["InvalidBound"]) (others2 := []) (Δ1 := fun (r2 : D) _ => [sI K (a.1 : Int), sI K (a.2.1 : D), sI K (r2 : D), .un]) 3 3 C Z.o_InvalidFraction Z.o_InvalidBound (fun W pn xe C => (pb_expr (px_call (d__law_made Z) C (pax_cons (px_var 0) (pax_cons (px_var 1) pax_nil))) (pb_nil [] (r := found1)))) (fun xa xo xd xn xs hz hv => (pb_setN 2 C.nd (px_dtup (plx_cons (px_toD px_str) (plx_cons (px_xf 3 (Z.e_InvalidFraction).2.2.2 (Z.t_InvalidFraction_name).2 hz hv (fun _ => rfl)) plx_nil))) fun found3 => (pb_nil [3] (r := found3)))) (fun xa xo xd xn xs hz hv => (pb_setN 2 C.nd (px_dtup (plx_cons (px_toD px_str) (plx_cons (px_xf 3 (Z.e_InvalidBound).2.2.2 (Z.t_InvalidBound_name).2 hz hv (fun _ => rfl)) plx_nil))) fun found4 => (pb_nil [3] (r := found4)))) (fun r2 => (pb_retI (px_var 2))) (hnt := fun e => nomatch e)))
abbrev s__law_call : Stmt := topS 65
theorem sc__law_call : FnScope ["step", "value", "found", "e"] ["step", "value"] (defScope s__law_call) := ⟨rfl, rfl, rfl, by decide +kernel, rfl, by decide +kernel, by decide +kernel⟩
theorem d__law_call {P : Program} {w : World} {K : Fg} {mg : Str → Option Value} {base : Heap} (Z : Facts P K mg) : Def P w K mg base "_law_call" 6 ["step", "value"] (spF K fun (a : (StepO × D × Unit)) => L_law_call a.1 a.2.1) := by
  obtain ⟨fd, F⟩ := Z.f__law_call
  refine ⟨_, fd, Z.g__law_call, F.kp, F.bindsN (fun _ _ _ _ _ _ us hl => match us, hl with | [_, _], _ => rfl), fn_ok (m := fun (a : (StepO × D × Unit)) => L_law_call_b a.1 a.2.1) F sc__law_call rfl fun cdv A outer s H E C a => ?_⟩
  exact (pb_set 2 C (px_dtup (plx_cons (px_toD px_str) plx_nil)) fun found1 => (pb_try (others := ["InvalidBound"]) (Δ1 := fun (r2 : D) _ => [sI K (a.1 : StepO), sI K (a.2.1 : D), sI K (r2 : D), .un]) 3 C Z.o_InvalidFraction (fun W pn xe C => (pb_expr (px_callI (d_Step___call__ Z) (fun g h => by have e := h.at_.symm.trans Z.m_Step___call__.at_; cases e; exact Z.w_Step___call__) C (px_var 0) (pax_cons (px_var 1) pax_nil)) (pb_nil [] (r := found1)))) (fun xa xo xd xn xs hz hv => (pb_setN 2 C.nd (px_dtup (plx_cons (px_toD px_str) (plx_cons (px_xf 3 (Z.e_InvalidFraction).2.2.2 (Z.t_InvalidFraction_name).2 hz hv (fun _ => rfl)) plx_nil))) fun found3 => (pb_nil [3] (r := found3)))) (fun r2 => (pb_retI (px_var 2))) (hnt := fun e => nomatch e)))
abbrev s__law_due : Stmt := topS 66
theorem sc__law_due : FnScope ["which", "number", "x"] ["which", "number", "x"] (defScope s__law_due) := ⟨rfl, rfl, rfl, by decide +kernel, rfl, by decide +kernel, by decide +kernel⟩
theorem d__law_due {P : Program} {w : World} {K : Fg} {mg : Str → Option Value} {base : Heap} (Z : Facts P K mg) : Def P w K mg base "_law_due" 2 ["which", "number", "x"] (spF K fun (a : (Int × (Int × Int) × (Int × Int) × Unit)) => L_law_due a.1 a.2.1 a.2.2.1) := by
  obtain ⟨fd, F⟩ := Z.f__law_due
  refine ⟨_, fd, Z.g__law_due, F.kp, F.bindsN (fun _ _ _ _ _ _ us hl => match us, hl with | [_, _, _], _ => rfl), fn_ok (m := fun (a : (Int × (Int × Int) × (Int × Int) × Unit)) => L_law_due_b a.1 a.2.1 a.2.2.1) F sc__law_due rfl fun cdv A outer s H E C a => ?_⟩
  exact (pb_if (Δ1 := fun (r1 : Unit) _ => [sI K (a.1 : Int), sI K (a.2.1 : (Int × Int)), sI K (a.2.2.1 : (Int × Int))]) (px_eqS (px_var 0) px_int).t (pb_retI (px_call (d__law_plus Z) C (pax_cons (px_var 2) (pax_cons (px_var 1) pax_nil)))) (pb_nil [] (r := ())) fun r1 => (pb_if (Δ1 := fun (r2 : Unit) _ => [sI K (a.1 : Int), sI K (a.2.1 : (Int × Int)), sI K (a.2.2.1 : (Int × Int))]) (px_eqS (px_var 0) px_int).t (pb_retI (px_call (d__law_times Z) C (pax_cons (px_var 2) (pax_cons (px_var 1) pax_nil)))) (pb_nil [] (r := ())) fun r2 => (pb_if (Δ1 := fun (r3 : Unit) _ => [sI K (a.1 : Int), sI K (a.2.1 : (Int × Int)), sI K (a.2.2.1 : (Int × Int))]) (px_eqS (px_var 0) px_int).t (pb_retI (px_var 1)) (pb_nil [] (r := ())) fun r3 => (pb_if (Δ1 := fun (r4 : Unit) _ => [sI K (a.1 : Int), sI K (a.2.1 : (Int × Int)), sI K (a.2.2.1 : (Int × Int))]) (px_eqS (px_call (d__law_less Z) C (pax_cons (px_var 2) (pax_cons (px_var 1) pax_nil))) (px_eqS (px_var 0) px_int).e).t (pb_retI (px_var 1)) (pb_nil [] (r := ())) fun r4 => (pb_retI (px_var 2))))))
abbrev s__law_methods : Stmt := topS 67
theorem sc__law_methods : FnScope ["pool", "which", "number", "step", "x", "name"] ["pool"] (defScope s__law_methods) := ⟨rfl, rfl, rfl, by decide +kernel, rfl, by decide +kernel, by decide +kernel⟩
theorem d__law_methods {P : Program} {w : World} {K : Fg} {mg : Str → Option Value} {base : Heap} (Z : Facts P K mg) : Def P w K mg base "_law_methods" 10 ["pool"] (spP K fun (a : Unit) => L_law_methods) := by
  obtain ⟨fd, F⟩ := Z.f__law_methods
  refine ⟨_, fd, Z.g__law_methods, F.kp, F.bindsN (fun _ _ _ _ _ _ us hl => match us, hl with | [_], _ => rfl), fn_okP (m := fun (a : Unit) => L_law_methods_b) F sc__law_methods rfl fun cdv A outer s H E C pa a => ?_⟩
  exact (pb_for [1] [] (L := fun (r1 : Unit) st => [sP pa st, .un, .un, .un, .un, .un]) (r0 := ()) C (gt_name 1 C.nd) (ix_r1 Z.b_range px_int) (fun _ => rfl) (fun x2 r1 => (pb_set 2 C (px_callP 0 (d__law_number Z) C pax_nil) fun number3 => (pb_if (Δ1 := fun (r4 : (Int × Int)) st => [sP pa st, sI K (x2 : Int), sI K (r4 : (Int × Int)), .un, .un, .un]) (PW.pt (Mi.pw_and (px_eqS (px_var 1) px_int).t (Mi.pw_and1 (px_lt (px_fst (px_var 2)) px_int).t))) (pb_if (Δ1 := fun (r5 : Unit) st => [sP pa st, sI K (x2 : Int), sI K (number3 : (Int × Int)), .un, .un, .un]) (px_neA C (px_call (d__law_try Z) C (pax_cons px_int (pax_cons (px_callP 0 (d__law_given Z) C (pax_cons (px_var 2) pax_nil)) pax_nil))) (px_dtup (plx_cons (px_toD px_str) (plx_cons (px_toD px_str) plx_nil)))).t (pb_retP px_bl) (pb_nil [] (r := ())) fun r5 => (pb_set 2 C (px_tup2 (pax_cons (px_neg (px_fst (px_var 2))) (pax_cons (px_snd (px_var 2)) pax_nil))) fun number6 => (pb_nil [] (r := number6)))) (pb_nil [] (r := number3)) fun r4 => (pb_set 3 C (px_call (d__law_made Z) C (pax_cons (px_var 1) (pax_cons (px_callP 0 (d__law_given Z) C (pax_cons (px_var 2) pax_nil)) pax_nil))) fun step7 => (pb_for [4] [] (L := fun (r8 : Unit) st => [sP pa st, sI K (x2 : Int), sI K (r4 : (Int × Int)), sI K (step7 : StepO), .un, .un]) (r0 := ()) C (gt_name 4 C.nd) (ix_l (px_lst (plx_cons (px_callP 0 (d__law_number Z) C pax_nil) (plx_cons (px_var 2) (plx_cons (px_call (d__law_plus Z) C (pax_cons (px_var 2) (pax_cons (px_tup2 (pax_cons px_int (pax_cons px_int pax_nil))) pax_nil))) plx_nil))))) (fun _ => rfl) (fun x9 r8 => (pb_if (Δ1 := fun (r10 : Unit) st => [sP pa st, sI K (x2 : Int), sI K (r4 : (Int × Int)), sI K (step7 : StepO), sI K (x9 : (Int × Int)), .un]) (Mi.pt_not (pt_v (px_call (d__law_gives Z) C (pax_cons (px_toD (px_callI (d_Step___call__ Z) (fun g h => by have e := h.at_.symm.trans Z.m_Step___call__.at_; cases e; exact Z.w_Step___call__) C (px_var 3) (pax_cons (px_callP 0 (d__law_given Z) C (pax_cons (px_var 4) pax_nil)) pax_nil))) (pax_cons (px_call (d__law_due Z) C (pax_cons (px_var 1) (pax_cons (px_var 2) (pax_cons (px_var 4) pax_nil)))) pax_nil))))) (pb_retP px_bl) (pb_nil [] (r := ())) fun r10 => (pb_nil [4] (r := ())))) fun r8 => (pb_set 5 C (px_ix (px_lst (plx_cons px_str (plx_cons px_str (plx_cons px_str (plx_cons px_str (plx_cons px_str plx_nil)))))) (px_var 1)) fun name11 => (pb_if (Δ1 := fun (r12 : Unit) st => [sP pa st, sI K (x2 : Int), sI K (r4 : (Int × Int)), sI K (step7 : StepO), .un, sI K (name11 : Str)]) (px_neA C (px_call (d__law_try Z) C (pax_cons (px_var 1) (pax_cons (px_callP 0 (d__law_odd Z) C pax_nil) pax_nil))) (px_dtup (plx_cons (px_toD px_str) (plx_cons (px_toD (px_var 5)) plx_nil)))).t (pb_retP px_bl) (pb_nil [] (r := ())) fun r12 => (pb_nil [1, 2, 3, 5] (r := ()))))))))) fun r1 => (pb_retP px_bl))
abbrev s_law : Stmt := topS 68
theorem sc_law : FnScope ["script", "pool", "k", "spec", "step", "queries", "x", "y", "j"] ["script"] (defScope s_law) := ⟨rfl, rfl, rfl, by decide +kernel, rfl, by decide +kernel, by decide +kernel⟩
theorem ok_law {P : Program} {w : World} {K : Fg} {mg : Str → Option Value} {base : Heap} (Z : Facts P K mg) {fd : FuncData} (F : FunD K "law" "law" (defArgs s_law) (defBody s_law) (defScope s_law) [] [] (He.ga K "law") fd) : FnOk P w K mg base (L2.CX P w) 11 (He.ga K "law") fd ["script"] (spF K fun (a : ((Ro Int) × Unit)) => law a.1) := by
  refine fn_ok (m := fun (a : ((Ro Int) × Unit)) => law_b a.1) F sc_law rfl fun cdv A outer s H E C a => ?_
  exact (pb_pool 1 0 9 (d__law_pool Z) C rfl fun pa => (pb_for [2] [] (L := fun (r1 : Unit) st => [sI K (a.1 : (Ro Int)), sP pa st, .un, .un, .un, .un, .un, .un, .un]) (r0 := ()) C (gt_name 2 C.nd) (ix_r1 Z.b_range px_int) (fun _ => rfl) (fun x2 r1 => (pb_set 3 C (px_callP 1 (d__law_spec Z) C (pax_cons px_int (pax_cons (px_eqS (px_callP 1 (d__law_draw Z) C (pax_cons px_int pax_nil)) px_int).e pax_nil))) fun spec3 => (pb_set 4 C (px_call (d__law_step Z) C (pax_cons (px_var 3) pax_nil)) fun step4 => (pb_setLc2 5 6 7 (own := [("x", 6), ("y", 7)]) C (ix_l (px_t3b (px_var 3))) (blkOk_by (own := [("x", 6), ("y", 7)]) (N := ["script", "pool", "k", "spec", "step", "queries", "x", "y", "j"]) (sc := defScope s_law) (by decide +kernel)) (fun _ => rfl) (by decide) (by decide) (fun _ _ _ _ _ => pg_tup C.calm (pgs_cons (pg_name C.nd rfl (Or.inl rfl)) (pgs_cons (pg_name C.nd rfl (Or.inl rfl)) pgs_nil rfl) rfl) rfl rfl) (fun _ _ _ _ _ C x5 => pts_t) (fun _ _ _ _ _ C x5 => (px_var 6)) (fun queries6 => (pb_app 5 (fun _ => rfl) (px_call (d__law_plus Z) C (pax_cons (px_oix 5 (fun _ => rfl) (px_callP 1 (d__law_draw Z) C (pax_cons (px_olen 5 Z.b_len (fun _ => rfl)) pax_nil))) (pax_cons (px_tup2 (pax_cons px_int (pax_cons (px_pow px_int px_int) pax_nil))) pax_nil))) (fun queries7 => (pb_for [8] [] (L := fun (r8 : (List (Int × Int))) st => [sI K (a.1 : (Ro Int)), sP pa st, sI K (x2 : Int), sI K (spec3 : (T3 (Int × Int) (List ((Int × Int) × (Int × Int))) (Int × Int))), sI K (step4 : StepO), sL K (r8 : (List (Int × Int))), .un, .un, .un]) (r0 := queries7) C (gt_name 8 C.nd) (ix_r1 Z.b_range px_int) (fun _ => rfl) (fun x9 r8 => (pb_app 5 (fun _ => rfl) (px_callP 1 (d__law_number Z) C pax_nil) (fun queries10 => (pb_nil [8] (r := queries10))) (fun h => ps_expr (pe_bm PySem.F.plainAttrs_list PySem.F.slot_list_append PySem.F.type_list_append mt_append (pv 5) (pa_cons h pa_nil))))) fun r8 => (pb_pub 5 (xs := r8) (fun _ => rfl) (pb_for [6] [] (L := fun (r11 : Unit) st => [sI K (a.1 : (Ro Int)), sP pa st, sI K (x2 : Int), sI K (spec3 : (T3 (Int × Int) (List ((Int × Int) × (Int × Int))) (Int × Int))), sI K (step4 : StepO), sI K (r8 : (List (Int × Int))), .un, .un, .un]) (r0 := ()) C (gt_name 6 C.nd) (ix_l (px_var 5)) (fun _ => rfl) (fun x12 r11 => (pb_if (Δ1 := fun (r13 : Unit) st => [sI K (a.1 : (Ro Int)), sP pa st, sI K (x2 : Int), sI K (spec3 : (T3 (Int × Int) (List ((Int × Int) × (Int × Int))) (Int × Int))), sI K (step4 : StepO), sI K (r8 : (List (Int × Int))), sI K (x12 : (Int × Int)), .un, .un]) (Mi.pt_not (pt_v (px_call (d__law_gives Z) C (pax_cons (px_toD (px_callI (d_Step___call__ Z) (fun g h => by have e := h.at_.symm.trans Z.m_Step___call__.at_; cases e; exact Z.w_Step___call__) C (px_var 4) (pax_cons (px_callP 1 (d__law_given Z) C (pax_cons (px_var 6) pax_nil)) pax_nil))) (pax_cons (px_call (d__law_at Z) C (pax_cons (px_var 3) (pax_cons (px_var 6) pax_nil))) pax_nil))))) (pb_retI px_bl) (pb_nil [] (r := ())) fun r13 => (pb_nil [6] (r := ())))) fun r11 => (pb_if (Δ1 := fun (r14 : Unit) st => [sI K (a.1 : (Ro Int)), sP pa st, sI K (x2 : Int), sI K (spec3 : (T3 (Int × Int) (List ((Int × Int) × (Int × Int))) (Int × Int))), sI K (step4 : StepO), sI K (r8 : (List (Int × Int))), .un, .un, .un]) (px_neA C (px_call (d__law_call Z) C (pax_cons (px_var 4) (pax_cons (px_callP 1 (d__law_odd Z) C pax_nil) pax_nil))) (px_dtup (plx_cons (px_toD px_str) (plx_cons (px_toD px_str) plx_nil)))).t (pb_retI px_bl) (pb_nil [] (r := ())) fun r14 => (pb_if (Δ1 := fun (r15 : Unit) st => [sI K (a.1 : (Ro Int)), sP pa st, sI K (x2 : Int), sI K (spec3 : (T3 (Int × Int) (List ((Int × Int) × (Int × Int))) (Int × Int))), sI K (step4 : StepO), sI K (r8 : (List (Int × Int))), .un, .un, .un]) (Mi.pt_not (pt_v (px_call (d__law_gives Z) C (pax_cons (px_toD (px_callI (d_Step___call__ Z) (fun g h => by have e := h.at_.symm.trans Z.m_Step___call__.at_; cases e; exact Z.w_Step___call__) C (px_var 4) (pax_cons (px_toD (px_ix (px_var 5) px_int)) pax_nil))) (pax_cons (px_call (d__law_at Z) C (pax_cons (px_var 3) (pax_cons (px_ix (px_var 5) px_int) pax_nil))) pax_nil))))) (pb_retI px_bl) (pb_nil [] (r := ())) fun r15 => (pb_if (Δ1 := fun (r16 : Unit) st => [sI K (a.1 : (Ro Int)), sP pa st, sI K (x2 : Int), sI K (spec3 : (T3 (Int × Int) (List ((Int × Int) × (Int × Int))) (Int × Int))), sI K (step4 : StepO), sI K (r8 : (List (Int × Int))), .un, .un, .un]) (PW.pt (Mi.pw_and (px_lt (px_var 2) px_int).t (Mi.pw_and1 (Mi.pt_not (pt_v (px_callP 1 (d__law_methods Z) C pax_nil)))))) (pb_retI px_bl) (pb_nil [] (r := ())) fun r16 => (pb_nil [2, 3, 4, 5] (r := ()))))))))) (fun h => ps_expr (pe_bm PySem.F.plainAttrs_list PySem.F.slot_list_append PySem.F.type_list_append mt_append (pv 5) (pa_cons h pa_nil))))))))) fun r1 => (pb_retI px_bl)))
end Lw
set_option Elab.async false
set_option linter.all false
set_option maxRecDepth 100000
set_option maxHeartbeats 4000000
namespace Mi
open PySem
/-! ### what compares, by its type alone -/
class Shp (α : Type) [Dat α] where
  d : Nat
  lay : ∀ x : α, (Dat.pd x).canLay0 = true
  dep : ∀ x : α, (Dat.pd x).depth ≤ d
instance : Shp Int := ⟨1, fun x => by simp [Dat.pd, PyData.canLay0], fun x => by simp [Dat.pd, PyData.depth]⟩
instance : Shp Bool := ⟨1, fun x => by simp [Dat.pd, PyData.canLay0], fun x => by simp [Dat.pd, PyData.depth]⟩
instance {α β : Type} [Dat α] [Dat β] [A : Shp α] [B : Shp β] : Shp (α × β) := ⟨max A.d B.d + 1, fun x => by
  have h1 := A.lay x.1
  have h2 := B.lay x.2
  simp only [Dat.pd, PyData.canLay0, PyData.canLayAll0, Bool.and_true, Bool.and_eq_true]
  exact ⟨h1, h2⟩, fun x => by
  have h1 := A.dep x.1
  have h2 := B.dep x.2
  show PyData.depth (.tuple [Dat.pd x.1, Dat.pd x.2]) ≤ _
  simp only [PyData.depth, PyData.depthAll]
  omega⟩
theorem lay_all {α : Type} [Dat α] [A : Shp α] : ∀ xs : List α, PyData.canLayAll0 (xs.map Dat.pd) = true
  | [] => by simp [PyData.canLayAll0]
  | x :: xs => by simp only [List.map_cons, PyData.canLayAll0, Bool.and_eq_true]; exact ⟨A.lay x, lay_all xs⟩
theorem dep_all {α : Type} [Dat α] [A : Shp α] : ∀ xs : List α, PyData.depthAll (xs.map Dat.pd) ≤ A.d
  | [] => by simp [PyData.depthAll]
  | x :: xs => by
    have h1 := A.dep x
    have h2 := dep_all xs
    simp only [List.map_cons, PyData.depthAll]
    omega
instance {α : Type} [Dat α] [A : Shp α] : Shp (List α) := ⟨A.d + 1, fun x => by
  show PyData.canLay0 (.list (x.map Dat.pd)) = true
  simp only [PyData.canLay0]
  exact lay_all x, fun x => by
  show PyData.depth (.list (x.map Dat.pd)) ≤ _
  have := dep_all x
  simp only [PyData.depth]
  omega⟩
theorem shp_ok {α : Type} [Dat α] [A : Shp α] (h : A.d ≤ 64) (x : α) : SeqAt.shaped (Dat.pd x) = true := by
  unfold SeqAt.shaped
  rw [A.lay x, decide_eq_true (Nat.le_trans (A.dep x) h)]
  rfl
theorem peq_ok {α : Type} [Dat α] [DecidableEq α] [A : Shp α] (x y : α) (h : A.d ≤ 64) : peq x y = some (decide (x = y)) := by
  unfold peq
  rw [if_pos ⟨shp_ok h x, shp_ok h y⟩]
theorem pin_ok {α : Type} [Dat α] [DecidableEq α] [A : Shp α] (x : α) (xs : List α) (h : A.d ≤ 63) : pin x xs = some (decide (x ∈ xs)) := by
  have h2 : (inferInstance : Shp (List α)).d ≤ 64 := Nat.succ_le_succ h
  unfold pin
  rw [if_pos ⟨shp_ok (Nat.le_trans h (by decide)) x, shp_ok h2 xs⟩]
end Mi

set_option Elab.async false
set_option linter.all false
set_option maxRecDepth 100000
set_option maxHeartbeats 0
namespace Lw
open PySem Mi
/-! ### amounts -/
theorem abs_nat (p : Int) : (if p < 0 then -p else p) = (p.natAbs : Int) := by split <;> omega
theorem reduced_ok {p q : Int} (hq : 0 < q) (hb : Bd 9000 q) : reduced p q = .ok (p / gc p q, q / gc p q) := by
  have key : reduced_b p q = sr (.rt (p / gc p q, q / gc p q)) := by
    unfold reduced_b
    simp only [sb_sr, sb_sb, abs_nat]
    obtain ⟨n, rfl⟩ : ∃ n : Nat, q = n := ⟨q.natAbs, by omega⟩
    rw [gcd_loop (fun _ => rfl) (fun _ => rfl) _ _ _ (by simp)]
    have g : ((Nat.gcd p.natAbs n : Nat) : Int) = gc p n := by unfold gc; simp
    have gb : Bd 9000 (gc p n) := hb.le (by have := gc_pos (p := p) hq; have := gc_le (p := p) hq; omega)
    simp only [obd_nx, g, pdiv_ok (gc_pos hq) gb, so_some, sb_sr]
  unfold reduced
  rw [key]
  rfl
theorem is_integer_int (n : Int) : is_integer (.int n) = .ok true := rfl
theorem is_fraction_int (n : Int) : is_fraction (.int n) = .ok true := rfl
theorem is_fraction_fr {p q : Int} (h : 0 < q) : is_fraction (.tup [.int p, .int q]) = .ok true := by
  have e : decide (1 ≤ q) = true := decide_eq_true (by omega)
  have key : is_fraction (.tup [.int p, .int q]) = .ok (decide (1 ≤ q)) := rfl
  rw [key, e]
theorem told_int (n : Int) : told (.int n) = .ok (n, 1) := rfl
theorem told_fr {p q : Int} (h : 0 < q) (hb : Bd 9000 q) : told (.tup [.int p, .int q]) = .ok (p / gc p q, q / gc p q) := by
  have key : told_b (.tup [.int p, .int q]) = sb (sl (reduced p q)) fun x => sr (.rt x) := rfl
  unfold told
  rw [key, reduced_ok h hb]
  rfl
theorem asked_fr {d : D} {x : Str} {r : Int × Int} (h : is_fraction d = .ok true) (k : told d = .ok r) : asked d x = .ok r := by
  unfold asked asked_b
  simp only [sb_sr, sb_sb, h, k, sl_ok, Bool.not_true, sIf_f, obd_nx, runF_rt]
theorem asked_no {d : D} {x : Str} (h : is_fraction d = .ok false) : asked d x = .error (.exc "InvalidFraction" [(("name" : Str), .str x)]) := by
  have m : mk_InvalidFraction x = .ok [(("name" : Str), .str x)] := rfl
  unfold asked asked_b
  simp only [sb_sr, sb_sb, h, sl_ok, Bool.not_false, sIf_t, m]
  rfl
end Lw
namespace Lw
open PySem Mi
/-! ### fractions in lowest terms are Rats -/
def fr (r : Rat) : Int × Int := (r.num, r.den)
/-- a fraction, as a Rat -/
def qt (p : Int × Int) : Rat := (p.1 : Rat) / (p.2 : Rat)
theorem qt_fr (r : Rat) : qt (fr r) = r := by
  unfold qt fr
  rw [← Rat.divInt_eq_div, Rat.num_divInt_den]
theorem fr_inj {a b : Rat} (h : fr a = fr b) : a = b := by rw [← qt_fr a, ← qt_fr b, h]
theorem fr_pos (r : Rat) : 0 < (fr r).2 := by
  have := r.den_nz
  show 0 < (r.den : Int)
  omega
theorem low_fr {p q : Int} (h : 0 < q) : (p / gc p q, q / gc p q) = fr ((p : Rat) / (q : Rat)) := by
  rw [← Rat.divInt_eq_div]
  unfold fr gc
  rw [Rat.num_divInt, Rat.den_divInt, if_neg (by omega), Int.sign_eq_one_of_pos h, Int.one_mul]
  have e : Int.gcd q p = Nat.gcd p.natAbs q.natAbs := by rw [Int.gcd_comm]; rfl
  rw [e]
  congr 1
  rw [Int.natCast_ediv]
  congr 1
  omega
theorem fr_low (r : Rat) : gc (fr r).1 (fr r).2 = 1 := by
  have h := low_fr (p := r.num) (q := r.den) (fr_pos r)
  have g := gc_low (p := r.num) (q := r.den) (fr_pos r)
  have e : ((r.num : Rat) / ((r.den : Int) : Rat)) = r := qt_fr r
  rw [e] at h
  have h1 : r.num / gc r.num r.den = r.num := congrArg Prod.fst h
  have h2 : (r.den : Int) / gc r.num r.den = r.den := congrArg Prod.snd h
  rw [h1, h2] at g
  exact g
/-! ### sizes -/
structure Sz (n d : Nat) (r : Rat) : Prop where
  num : Bd n r.num
  den : Bd d r.den
theorem Sz.mono {n d n' d' : Nat} {r : Rat} (h : Sz n d r) (h1 : n ≤ n') (h2 : d ≤ d') : Sz n' d' r := ⟨h.num.mono h1, h.den.mono h2⟩
/-- a Rat is not longer than any of its fractions -/
theorem Sz.of {p q : Int} {n d : Nat} (h : 0 < q) (h1 : Bd n p) (h2 : Bd d q) : Sz n d ((p : Rat) / (q : Rat)) := by
  have e := low_fr (p := p) h
  have e1 : ((p : Rat) / (q : Rat)).num = p / gc p q := (congrArg Prod.fst e).symm
  have e2 : (((p : Rat) / (q : Rat)).den : Int) = q / gc p q := (congrArg Prod.snd e).symm
  refine ⟨?_, ?_⟩
  · rw [e1]
    refine h1.le ?_
    rw [Int.natAbs_ediv_of_dvd (gc_p p q)]; exact Nat.div_le_self _ _
  · rw [e2]
    refine h2.le ?_
    rw [Int.natAbs_ediv_of_dvd (gc_q p q)]; exact Nat.div_le_self _ _
theorem pmul_s {n m : Nat} {i j : Int} (h1 : Bd n i) (h2 : Bd m j) (h : n + m ≤ 900000) : pmul i j = some (i * j) :=
  pmul_ok (h1.mono (Nat.le_succ n)) (h2.mono (Nat.le_succ m)) ⟨Nat.succ_pos _, Nat.succ_pos _, by omega⟩
/-! ### reckoning with fractions of any terms -/
section
variable {a b : Int × Int}
theorem cast_ne {x : Int} (h : 0 < x) : (x : Rat) ≠ 0 := by
  intro e
  have : x = 0 := by exact_mod_cast e
  omega
theorem cast_pos {x : Int} (h : 0 < x) : (0 : Rat) < (x : Rat) := by exact_mod_cast h
theorem qt_add (ha : 0 < a.2) (hb : 0 < b.2) : qt (a.1 * b.2 + b.1 * a.2, a.2 * b.2) = qt a + qt b := by
  have h1 := cast_ne ha
  have h2 := cast_ne hb
  unfold qt
  simp only [Rat.intCast_add, Rat.intCast_mul]
  grind
theorem qt_sub (ha : 0 < a.2) (hb : 0 < b.2) : qt (a.1 * b.2 - b.1 * a.2, a.2 * b.2) = qt a - qt b := by
  have h1 := cast_ne ha
  have h2 := cast_ne hb
  unfold qt
  simp only [Rat.intCast_sub, Rat.intCast_mul]
  grind
theorem qt_mul (ha : 0 < a.2) (hb : 0 < b.2) : qt (a.1 * b.1, a.2 * b.2) = qt a * qt b := by
  have h1 := cast_ne ha
  have h2 := cast_ne hb
  unfold qt
  simp only [Rat.intCast_mul]
  grind
theorem qt_div (ha : 0 < a.2) (hb : 0 < b.2) (hc : 0 < b.1) : qt (a.1 * b.2, a.2 * b.1) = qt a / qt b := by
  have h1 := cast_ne ha
  have h2 := cast_ne hb
  have h3 := cast_ne hc
  unfold qt
  simp only [Rat.intCast_mul]
  grind
theorem qt_divn (ha : 0 < a.2) (hb : 0 < b.2) (hc : b.1 < 0) : qt (-a.1 * b.2, -a.2 * b.1) = qt a / qt b := by
  have h1 := cast_ne ha
  have h2 := cast_ne hb
  have h3 := cast_ne (show 0 < -b.1 by omega)
  unfold qt
  simp only [Rat.intCast_mul, Rat.intCast_neg] at *
  grind
theorem qt_lt (ha : 0 < a.2) (hb : 0 < b.2) : a.1 * b.2 < b.1 * a.2 ↔ qt a < qt b := by
  have h1 := cast_pos ha
  have h2 := cast_pos hb
  unfold qt
  rw [← Rat.intCast_lt_intCast, Rat.intCast_mul, Rat.intCast_mul]
  have e : (b.1 : Rat) / b.2 * a.2 = (b.1 * a.2) / b.2 := by have := cast_ne hb; grind
  rw [Rat.div_lt_iff h1, e, Rat.lt_div_iff h2]
theorem qt_eq (ha : 0 < a.2) (hb : 0 < b.2) : a.1 * b.2 = b.1 * a.2 ↔ qt a = qt b := by
  have h1 := cast_ne ha
  have h2 := cast_ne hb
  unfold qt
  rw [← Rat.intCast_inj, Rat.intCast_mul, Rat.intCast_mul]
  grind
end
/-! ### the program's reckoning -/
theorem reduced_q {p q : Int} (hq : 0 < q) (hb : Bd 9000 q) : reduced p q = .ok (fr (qt (p, q))) := by
  rw [reduced_ok hq hb, low_fr hq]; rfl
section
variable {n d m e : Nat} {a b : Rat} (ha : Sz n d a) (hb : Sz m e b)
include ha hb
theorem fsum_q (h1 : n + e ≤ 900000) (h2 : m + d ≤ 900000) (h3 : d + e ≤ 9000) : fsum (fr a) (fr b) = .ok (fr (a + b)) := by
  unfold fsum fsum_b
  simp only [sb_sr, sb_sb, pmul_s (show Bd n (fr a).1 from ha.num) (show Bd e (fr b).2 from hb.den) h1, pmul_s (show Bd m (fr b).1 from hb.num) (show Bd d (fr a).2 from ha.den) h2, pmul_s (show Bd d (fr a).2 from ha.den) (show Bd e (fr b).2 from hb.den) (by omega), so_some]
  rw [reduced_q (Int.mul_pos (fr_pos a) (fr_pos b)) ((Bd.mul ha.den hb.den).mono h3), qt_add (fr_pos a) (fr_pos b), qt_fr, qt_fr]
  rfl
theorem fdiff_q (h1 : n + e ≤ 900000) (h2 : m + d ≤ 900000) (h3 : d + e ≤ 9000) : fdiff (fr a) (fr b) = .ok (fr (a - b)) := by
  unfold fdiff fdiff_b
  simp only [sb_sr, sb_sb, pmul_s (show Bd n (fr a).1 from ha.num) (show Bd e (fr b).2 from hb.den) h1, pmul_s (show Bd m (fr b).1 from hb.num) (show Bd d (fr a).2 from ha.den) h2, pmul_s (show Bd d (fr a).2 from ha.den) (show Bd e (fr b).2 from hb.den) (by omega), so_some]
  rw [reduced_q (Int.mul_pos (fr_pos a) (fr_pos b)) ((Bd.mul ha.den hb.den).mono h3), qt_sub (fr_pos a) (fr_pos b), qt_fr, qt_fr]
  rfl
theorem fprod_q (h1 : n + m ≤ 900000) (h3 : d + e ≤ 9000) : fprod (fr a) (fr b) = .ok (fr (a * b)) := by
  unfold fprod fprod_b
  simp only [sb_sr, sb_sb, pmul_s (show Bd n (fr a).1 from ha.num) (show Bd m (fr b).1 from hb.num) h1, pmul_s (show Bd d (fr a).2 from ha.den) (show Bd e (fr b).2 from hb.den) (by omega), so_some]
  rw [reduced_q (Int.mul_pos (fr_pos a) (fr_pos b)) ((Bd.mul ha.den hb.den).mono h3), qt_mul (fr_pos a) (fr_pos b), qt_fr, qt_fr]
  rfl
theorem fless_q (h1 : n + e ≤ 900000) (h2 : m + d ≤ 900000) : fless (fr a) (fr b) = .ok (decide (a < b)) := by
  unfold fless fless_b
  simp only [sb_sr, sb_sb, pmul_s (show Bd n (fr a).1 from ha.num) (show Bd e (fr b).2 from hb.den) h1, pmul_s (show Bd m (fr b).1 from hb.num) (show Bd d (fr a).2 from ha.den) h2, so_some, runF_rt]
  have := qt_lt (fr_pos a) (fr_pos b)
  rw [qt_fr, qt_fr] at this
  exact congrArg Except.ok (decide_eq_decide.mpr this)
theorem fquot_q (hz : b ≠ 0) (h1 : n + e ≤ 900000) (h3 : d + m ≤ 9000) : fquot (fr a) (fr b) = .ok (fr (a / b)) := by
  unfold fquot fquot_b
  have nz : (fr b).1 ≠ 0 := fun h => hz (Rat.num_eq_zero.mp h)
  simp only [sIf_sb, sb_sr, sb_sb, sIf_r]
  by_cases hn : (fr b).1 < 0
  · rw [decide_eq_true hn]
    simp only [if_true, pmul_s (Bd.neg (show Bd n (fr a).1 from ha.num)) (show Bd e (fr b).2 from hb.den) h1, pmul_s (Bd.neg (show Bd d (fr a).2 from ha.den)) (show Bd m (fr b).1 from hb.num) (by omega), so_some, sb_sr]
    have hp : 0 < -(fr a).2 * (fr b).1 := Int.mul_pos_of_neg_of_neg (by have := fr_pos a; omega) hn
    rw [reduced_q hp ((Bd.mul (Bd.neg (show Bd d (fr a).2 from ha.den)) (show Bd m (fr b).1 from hb.num)).mono h3), qt_divn (fr_pos a) (fr_pos b) hn, qt_fr, qt_fr]
    rfl
  · rw [decide_eq_false hn]
    simp only [Bool.false_eq_true, if_false, obd_nx, pmul_s (show Bd n (fr a).1 from ha.num) (show Bd e (fr b).2 from hb.den) h1, pmul_s (show Bd d (fr a).2 from ha.den) (show Bd m (fr b).1 from hb.num) (by omega), so_some, sb_sr]
    have hp : 0 < (fr a).2 * (fr b).1 := Int.mul_pos (fr_pos a) (by omega)
    rw [reduced_q hp ((Bd.mul (show Bd d (fr a).2 from ha.den) (show Bd m (fr b).1 from hb.num)).mono h3), qt_div (fr_pos a) (fr_pos b) (by omega), qt_fr, qt_fr]
    rfl
end
section
variable {n d m e : Nat} {a b : Rat} (ha : Sz n d a) (hb : Sz m e b)
include ha hb
theorem Sz.add : Sz (max (n + e) (m + d) + 1) (d + e) (a + b) := by
  have h := Sz.of (p := (fr a).1 * (fr b).2 + (fr b).1 * (fr a).2) (q := (fr a).2 * (fr b).2) (Int.mul_pos (fr_pos a) (fr_pos b)) (((Bd.mul ha.num hb.den).mono (Nat.le_max_left (n + e) (m + d))).add ((Bd.mul hb.num ha.den).mono (Nat.le_max_right (n + e) (m + d)))) (Bd.mul ha.den hb.den)
  have k := qt_add (fr_pos a) (fr_pos b)
  rw [qt_fr, qt_fr] at k
  rw [← k]; exact h
theorem Sz.sub : Sz (max (n + e) (m + d) + 1) (d + e) (a - b) := by
  have h := Sz.of (p := (fr a).1 * (fr b).2 - (fr b).1 * (fr a).2) (q := (fr a).2 * (fr b).2) (Int.mul_pos (fr_pos a) (fr_pos b)) (((Bd.mul ha.num hb.den).mono (Nat.le_max_left (n + e) (m + d))).sub ((Bd.mul hb.num ha.den).mono (Nat.le_max_right (n + e) (m + d)))) (Bd.mul ha.den hb.den)
  have k := qt_sub (fr_pos a) (fr_pos b)
  rw [qt_fr, qt_fr] at k
  rw [← k]; exact h
theorem Sz.mul : Sz (n + m) (d + e) (a * b) := by
  have h := Sz.of (p := (fr a).1 * (fr b).1) (q := (fr a).2 * (fr b).2) (Int.mul_pos (fr_pos a) (fr_pos b)) (Bd.mul ha.num hb.num) (Bd.mul ha.den hb.den)
  have k := qt_mul (fr_pos a) (fr_pos b)
  rw [qt_fr, qt_fr] at k
  rw [← k]; exact h
theorem Sz.div (hz : b ≠ 0) : Sz (n + e) (d + m) (a / b) := by
  have nz : (fr b).1 ≠ 0 := fun h => hz (Rat.num_eq_zero.mp h)
  by_cases hn : (fr b).1 < 0
  · have h := Sz.of (p := -(fr a).1 * (fr b).2) (q := -(fr a).2 * (fr b).1) (Int.mul_pos_of_neg_of_neg (by have := fr_pos a; omega) hn) (Bd.mul (Bd.neg ha.num) hb.den) (Bd.mul (Bd.neg ha.den) hb.num)
    have k := qt_divn (fr_pos a) (fr_pos b) hn
    rw [qt_fr, qt_fr] at k
    rw [← k]; exact h
  · have h := Sz.of (p := (fr a).1 * (fr b).2) (q := (fr a).2 * (fr b).1) (Int.mul_pos (fr_pos a) (by omega)) (Bd.mul ha.num hb.den) (Bd.mul ha.den hb.num)
    have k := qt_div (fr_pos a) (fr_pos b) (by omega)
    rw [qt_fr, qt_fr] at k
    rw [← k]; exact h
end
end Lw

set_option Elab.async false
set_option linter.all false
set_option maxRecDepth 100000
set_option maxHeartbeats 0
namespace Lw
/-! ### straight pieces over Rat -/
abbrev Kn := Rat × Rat
/-- the slope from knot to knot -/
def slk (p q : Kn) : Rat := (q.2 - p.2) / (q.1 - p.1)
/-- the line through a knot -/
def ln (p : Kn) (s x : Rat) : Rat := p.2 + s * (x - p.1)
/-- knots with the slopes behind them -/
abbrev Ks := List (Kn × Rat)
def evT : Kn → Rat → Ks → Rat → Rat
  | p, s, [], x => ln p s x
  | p, s, (q, u) :: t, x => if q.1 ≤ x then evT q u t x else ln p s x
def evS (l : Rat) : Ks → Rat → Rat
  | [], _ => 0
  | (p, s) :: t, x => if p.1 ≤ x then evT p s t x else ln p l x
def aft : List Kn → Rat → Ks
  | [], _ => []
  | [p], r => [(p, r)]
  | p :: q :: t, r => (p, slk p q) :: aft (q :: t) r
def bend : Rat → Ks → Ks
  | _, [] => []
  | l, (p, s) :: t => if l = s then bend s t else (p, s) :: bend s t
def canR (ps : List Kn) (l r : Rat) : Ks := match ps with
  | [] => []
  | p :: t => match bend l (aft (p :: t) r) with
    | [] => [((0, p.2 - l * p.1), r)]
    | b => b
/-- ascending, and each knot lies on the line of the one before -/
def Con : Ks → Prop
  | [] => True
  | [_] => True
  | (p, s) :: (q, u) :: t => p.1 < q.1 ∧ q.2 = ln p s q.1 ∧ Con ((q, u) :: t)
theorem Con.tail {k : Kn × Rat} {t : Ks} (h : Con (k :: t)) : Con t := by
  match t with
  | [] => trivial
  | _ :: _ => exact h.2.2
theorem Con.beyond : ∀ {t : Ks} {p : Kn} {s : Rat}, Con ((p, s) :: t) → ∀ k ∈ t, p.1 < k.1.1
  | [], _, _, _, _, hk => nomatch hk
  | (q, u) :: t, p, s, h, k, hk => by
    rcases List.mem_cons.mp hk with rfl | hk
    · exact h.1
    · have := Con.beyond h.2.2 k hk
      have := h.1
      grind
theorem evT_line : ∀ {t : Ks} {p : Kn} {s x : Rat}, (∀ k ∈ t, x < k.1.1) → evT p s t x = ln p s x
  | [], _, _, _, _ => rfl
  | (q, u) :: t, p, s, x, h => by
    have := h _ (List.mem_cons_self ..)
    unfold evT
    rw [if_neg (by grind)]
theorem evT_base {t : Ks} {p q : Kn} {s x : Rat} (h : q.2 = ln p s q.1) : evT p s t x = evT q s t x := by
  have e : ln p s x = ln q s x := by unfold ln at *; grind
  match t with
  | [] => exact e
  | (r, u) :: t => unfold evT; rw [e]
theorem bend_sub : ∀ {t : Ks} {l : Rat} {k}, k ∈ bend l t → k ∈ t
  | [], _, _, h => nomatch h
  | (p, s) :: t, l, k, h => by
    unfold bend at h
    split at h
    · exact List.mem_cons_of_mem _ (bend_sub h)
    · rcases List.mem_cons.mp h with rfl | h
      · exact List.mem_cons_self ..
      · exact List.mem_cons_of_mem _ (bend_sub h)
theorem evT_bend : ∀ {t : Ks} {p : Kn} {s x : Rat}, Con ((p, s) :: t) → evT p s (bend s t) x = evT p s t x
  | [], _, _, _, _ => rfl
  | (q, u) :: t, p, s, x, h => by
    unfold bend
    by_cases e : s = u
    · subst e
      rw [if_pos rfl]
      show _ = if q.1 ≤ x then evT q s t x else ln p s x
      split
      · rw [evT_base h.2.1]; exact evT_bend h.2.2
      · refine evT_line fun k hk => ?_
        have := h.2.2.beyond k (bend_sub hk)
        grind
    · rw [if_neg e]
      show (if q.1 ≤ x then evT q u (bend u t) x else ln p s x) = if q.1 ≤ x then evT q u t x else ln p s x
      rw [evT_bend h.2.2]
theorem evS_bend : ∀ {t : Ks} {l x : Rat}, Con t → bend l t ≠ [] → evS l (bend l t) x = evS l t x
  | [], _, _, _, h => absurd rfl h
  | (p, s) :: t, l, x, h, hb => by
    unfold bend at hb ⊢
    by_cases e : l = s
    · subst e
      rw [if_pos rfl] at hb ⊢
      rw [evS_bend h.tail hb]
      match t, h, hb with
      | [], _, hb => exact absurd rfl hb
      | (q, u) :: t, h, _ =>
        show (if q.1 ≤ x then evT q u t x else ln q l x) = if p.1 ≤ x then (if q.1 ≤ x then evT q u t x else ln p l x) else ln p l x
        have e : ln p l x = ln q l x := by have := h.2.1; unfold ln at *; grind
        have := h.1
        rw [e]
        split <;> split <;> first | rfl | grind
    · rw [if_neg e]
      show (if p.1 ≤ x then evT p s (bend s t) x else ln p l x) = if p.1 ≤ x then evT p s t x else ln p l x
      rw [evT_bend h]
theorem bend_nil : ∀ {t : Ks} {l x : Rat} {p : Kn}, Con ((p, l) :: t) → bend l t = [] → evT p l t x = ln p l x
  | [], _, _, _, _, _ => rfl
  | (q, u) :: t, l, x, p, h, hb => by
    unfold bend at hb
    by_cases e : l = u
    · subst e
      rw [if_pos rfl] at hb
      show (if q.1 ≤ x then evT q l t x else ln p l x) = _
      split
      · rw [bend_nil h.2.2 hb]
        have := h.2.1
        unfold ln at *
        grind
      · rfl
    · rw [if_neg e] at hb; exact nomatch hb
theorem bend_last : ∀ {ps : List Kn} {l r : Rat}, ps ≠ [] → bend l (aft ps r) = [] → l = r
  | [], _, _, h, _ => absurd rfl h
  | [p], l, r, _, hb => by
    unfold aft bend at hb
    by_cases e : l = r
    · exact e
    · rw [if_neg e] at hb; exact nomatch hb
  | p :: q :: t, l, r, _, hb => by
    unfold aft bend at hb
    by_cases e : l = slk p q
    · rw [if_pos e] at hb
      rw [e]
      exact bend_last (by simp) hb
    · rw [if_neg e] at hb; exact nomatch hb
theorem con_aft : ∀ {ps : List Kn} {r : Rat}, ps.Pairwise (fun a b => a.1 < b.1) → Con (aft ps r)
  | [], _, _ => trivial
  | [p], _, _ => trivial
  | [p, q], r, h => by
    have hpq : p.1 < q.1 := (List.pairwise_cons.mp h).1 q (List.mem_cons_self ..)
    refine ⟨hpq, ?_, trivial⟩
    unfold ln slk
    grind
  | p :: q :: q2 :: t, r, h => by
    have hpq : p.1 < q.1 := (List.pairwise_cons.mp h).1 q (List.mem_cons_self ..)
    refine ⟨hpq, ?_, con_aft (List.pairwise_cons.mp h).2⟩
    unfold ln slk
    grind
/-- the canonical form tells the same -/
theorem evS_can {ps : List Kn} {l r x : Rat} (h : ps.Pairwise (fun a b => a.1 < b.1)) (hn : ps ≠ []) : evS l (canR ps l r) x = evS l (aft ps r) x := by
  match ps, hn with
  | p :: t, _ =>
    unfold canR
    simp only
    split
    · next hb =>
      have e := bend_last (by simp) hb
      subst e
      have C := con_aft (r := l) h
      have a1 : evS l [((0, p.2 - l * p.1), l)] x = ln p l x := by
        show (if (0 : Rat) ≤ x then ln (0, p.2 - l * p.1) l x else ln (0, p.2 - l * p.1) l x) = _
        unfold ln
        split <;> grind
      rw [a1]
      obtain ⟨s, u, hu⟩ : ∃ s u, aft (p :: t) l = (p, s) :: u := by
        match t with
        | [] => exact ⟨_, _, rfl⟩
        | q :: t => exact ⟨_, _, rfl⟩
      rw [hu] at hb C ⊢
      unfold bend at hb
      by_cases e : l = s
      · subst e
        rw [if_pos rfl] at hb
        show _ = if p.1 ≤ x then evT p l u x else ln p l x
        rw [bend_nil C hb]
        split <;> rfl
      · rw [if_neg e] at hb; exact nomatch hb
    · next hb => exact evS_bend (con_aft h) (fun e => hb e)
/-- the straight pieces of a function -/
def Aff (h : Rat → Rat) (a b : Rat) : Prop := ∃ s c, ∀ x, a ≤ x → x ≤ b → h x = s * x + c
def Pieces (h : Rat → Rat) : List Rat → Prop
  | [] => True
  | [_] => True
  | a :: b :: t => a < b ∧ Aff h a b ∧ Pieces h (b :: t)
theorem Aff.slope {h : Rat → Rat} {a b x : Rat} (ab : a < b) (k : Aff h a b) (h1 : a ≤ x) (h2 : x ≤ b) : h x = ln (a, h a) (slk (a, h a) (b, h b)) x := by
  obtain ⟨s, c, k⟩ := k
  rw [k x h1 h2, k a (by grind) (by grind), k b (by grind) (by grind)]
  unfold ln slk
  simp only
  have : b - a ≠ 0 := by grind
  have e : (s * b + c - (s * a + c)) / (b - a) = s := by grind
  rw [e]
  grind
theorem evT_fun {h : Rat → Rat} {r : Rat} : ∀ {xs : List Rat} {a x : Rat}, Pieces h (a :: xs) → (∀ e, (a :: xs).getLast? = some e → ∀ y, e ≤ y → h y = h e + r * (y - e)) → a ≤ x →
    ∃ s t, aft ((a :: xs).map fun x => (x, h x)) r = ((a, h a), s) :: t ∧ evT (a, h a) s t x = h x
  | [], a, x, _, hr, hx => ⟨_, _, rfl, by rw [hr a rfl x hx]; rfl⟩
  | b :: xs, a, x, hp, hr, hx => by
    refine ⟨_, _, rfl, ?_⟩
    by_cases e : b ≤ x
    · obtain ⟨s, t, e1, e2⟩ := evT_fun (x := x) hp.2.2 (fun e he => hr e (by simpa using he)) e
      have e3 : aft ((b, h b) :: xs.map fun x => (x, h x)) r = ((b, h b), s) :: t := e1
      rw [e3]
      show (if b ≤ x then evT (b, h b) s t x else _) = _
      rw [if_pos e, e2]
    · obtain ⟨s, t, e1, _⟩ := evT_fun (x := b) hp.2.2 (fun e he => hr e (by simpa using he)) (by grind)
      have e3 : aft ((b, h b) :: xs.map fun x => (x, h x)) r = ((b, h b), s) :: t := e1
      rw [e3]
      show (if b ≤ x then _ else ln (a, h a) (slk (a, h a) (b, h b)) x) = _
      rw [if_neg e, ← hp.2.1.slope hp.1 hx (by grind)]
/-- Lemma A -/
theorem evS_fun {h : Rat → Rat} {l r : Rat} {a : Rat} {xs : List Rat} {x : Rat} (hp : Pieces h (a :: xs)) (hl : ∀ y, y ≤ a → h y = h a + l * (y - a)) (hr : ∀ e, (a :: xs).getLast? = some e → ∀ y, e ≤ y → h y = h e + r * (y - e)) :
    evS l (aft ((a :: xs).map fun x => (x, h x)) r) x = h x := by
  by_cases e : a ≤ x
  · obtain ⟨s, t, e1, e2⟩ := evT_fun hp hr e
    rw [e1]
    show (if a ≤ x then evT (a, h a) s t x else _) = _
    rw [if_pos e, e2]
  · obtain ⟨s, t, e1, _⟩ := evT_fun (x := a) hp hr (by grind)
    rw [e1]
    show (if a ≤ x then _ else ln (a, h a) l x) = _
    rw [if_neg e, hl x (by grind)]
    rfl
end Lw

set_option Elab.async false
set_option linter.all false
set_option maxRecDepth 100000
set_option maxHeartbeats 0
namespace Lw
/-! ### one step after the other -/
theorem ln_self (p : Kn) (s : Rat) : ln p s p.1 = p.2 := by unfold ln; grind
theorem evT_at : ∀ {t : Ks} {p : Kn} {s : Rat}, Con ((p, s) :: t) → evT p s t p.1 = p.2
  | [], p, s, _ => ln_self p s
  | (q, u) :: t, p, s, h => by
    unfold evT
    have := h.1
    rw [if_neg (by grind)]
    exact ln_self p s
theorem Aff.of_ln {g : Rat → Rat} {p : Kn} {s a b : Rat} (h : ∀ x, a ≤ x → x ≤ b → g x = ln p s x) : Aff g a b := ⟨s, p.2 - s * p.1, fun x h1 h2 => by rw [h x h1 h2]; unfold ln; grind⟩
theorem affT : ∀ {t : Ks} {p : Kn} {s a b : Rat}, Con ((p, s) :: t) → p.1 ≤ a → (∀ k ∈ t, k.1.1 ≤ a ∨ b ≤ k.1.1) → Aff (evT p s t) a b
  | [], p, s, a, b, _, _, _ => Aff.of_ln fun _ _ _ => rfl
  | (q, u) :: t, p, s, a, b, h, hp, hk => by
    by_cases e : q.1 ≤ a
    · obtain ⟨s1, c, k⟩ := affT h.2.2 e fun k hk1 => hk k (List.mem_cons_of_mem _ hk1)
      refine ⟨s1, c, fun x h1 h2 => ?_⟩
      show (if q.1 ≤ x then evT q u t x else _) = _
      rw [if_pos (by grind), k x h1 h2]
    · have hb : b ≤ q.1 := (hk _ (List.mem_cons_self ..)).resolve_left e
      refine Aff.of_ln (p := p) (s := s) fun x h1 h2 => ?_
      show (if q.1 ≤ x then evT q u t x else ln p s x) = _
      split
      · have : x = q.1 := by grind
        rw [this, evT_at h.2.2, h.2.1]
      · rfl
theorem affS {t : Ks} {l a b : Rat} (h : Con t) (hk : ∀ k ∈ t, k.1.1 ≤ a ∨ b ≤ k.1.1) : Aff (evS l t) a b := by
  match t, h, hk with
  | [], _, _ => exact ⟨0, 0, fun x _ _ => by show (0 : Rat) = _; grind⟩
  | (p, s) :: t, h, hk =>
    by_cases e : p.1 ≤ a
    · obtain ⟨s1, c, k⟩ := affT h e fun k hk1 => hk k (List.mem_cons_of_mem _ hk1)
      refine ⟨s1, c, fun x h1 h2 => ?_⟩
      show (if p.1 ≤ x then evT p s t x else _) = _
      rw [if_pos (by grind), k x h1 h2]
    · have hb : b ≤ p.1 := (hk _ (List.mem_cons_self ..)).resolve_left e
      refine Aff.of_ln (p := p) (s := l) fun x h1 h2 => ?_
      show (if p.1 ≤ x then evT p s t x else ln p l x) = _
      split
      · have : x = p.1 := by grind
        rw [this, evT_at h, ln_self]
      · rfl
/-- the place on a line through a knot where it is y -/
def plc (p : Kn) (s y : Rat) : Rat := p.1 + (y - p.2) / s
theorem ln_plc {p : Kn} {s y : Rat} (h : 0 < s) : ln p s (plc p s y) = y := by
  unfold ln plc
  have : s ≠ 0 := by grind
  grind
theorem ln_mono {p : Kn} {s a b : Rat} (h : 0 < s) : ln p s a < ln p s b ↔ a < b := by
  unfold ln
  have e : p.2 + s * (b - p.1) - (p.2 + s * (a - p.1)) = s * (b - a) := by grind
  constructor
  · intro k
    have k1 : 0 < s * (b - a) := by grind
    by_cases c : a < b
    · exact c
    · have : s * (a - b) ≥ 0 := Rat.mul_nonneg (by grind) (by grind)
      grind
  · intro k
    have : 0 < s * (b - a) := Rat.mul_pos h (by grind)
    grind
theorem Aff.comp {f g : Rat → Rat} {p : Kn} {s a b : Rat} (h : 0 < s) (hf : ∀ x, a ≤ x → x ≤ b → f x = ln p s x) (hg : Aff g (ln p s a) (ln p s b)) : Aff (fun x => g (f x)) a b := by
  obtain ⟨s1, c, k⟩ := hg
  refine ⟨s1 * s, s1 * (p.2 - s * p.1) + c, fun x h1 h2 => ?_⟩
  have m : ∀ {u v : Rat}, u ≤ v → ln p s u ≤ ln p s v := fun {u v} huv => by
    have := (ln_mono (p := p) (a := v) (b := u) h).mp
    grind
  show g (f x) = _
  rw [hf x h1 h2, k _ (m h1) (m h2)]
  unfold ln
  grind
/-- the places of one rising piece, ahead of those behind it -/
theorem seg {f g : Rat → Rat} {p : Kn} {s b : Rat} {ks : List Rat} {M : List Rat} (h : 0 < s) (hg : ∀ u v : Rat, (∀ k ∈ ks, k ≤ u ∨ v ≤ k) → Aff g u v) (hM : Pieces (fun x => g (f x)) (b :: M)) :
    ∀ {F : List Rat} {a : Rat}, a < b → (∀ x, a ≤ x → x ≤ b → f x = ln p s x) → F.Pairwise (· < ·) → (∀ y ∈ F, ln p s a < y ∧ y < ln p s b) → (∀ k ∈ ks, k ≤ ln p s a ∨ ln p s b ≤ k ∨ k ∈ F) → Pieces (fun x => g (f x)) (a :: F.map (plc p s) ++ b :: M)
  | [], a, hab, hf, _, _, hk => ⟨hab, Aff.comp h hf (hg _ _ fun k m => by have := hk k m; grind), hM⟩
  | y :: F, a, hab, hf, hp, hy, hk => by
    have y0 := hy y (List.mem_cons_self ..)
    have e := ln_plc (p := p) (y := y) h
    have a1 : a < plc p s y := (ln_mono h).mp (by rw [e]; exact y0.1)
    have b1 : plc p s y < b := (ln_mono h).mp (by rw [e]; exact y0.2)
    have pw := List.pairwise_cons.mp hp
    refine ⟨a1, Aff.comp h (fun x h1 h2 => hf x h1 (by grind)) (hg _ _ fun k m => ?_), seg h hg hM b1 (fun x h1 h2 => hf x (by grind) h2) pw.2 (fun z hz => ?_) fun k m => ?_⟩
    · rw [e]
      rcases hk k m with h1 | h1 | h1
      · exact .inl h1
      · exact .inr (by grind)
      · rcases List.mem_cons.mp h1 with rfl | h1
        · exact .inr (by grind)
        · exact .inr (by have := pw.1 k h1; grind)
    · rw [e]
      exact ⟨pw.1 z hz, (hy z (List.mem_cons_of_mem _ hz)).2⟩
    · rw [e]
      rcases hk k m with h1 | h1 | h1
      · exact .inl (by grind)
      · exact .inr (.inl h1)
      · rcases List.mem_cons.mp h1 with rfl | h1
        · exact .inl (by grind)
        · exact .inr (.inr h1)
/-- the last piece: beyond the last place all goes straight on -/
def End (h : Rat → Rat) (r : Rat) (xs : List Rat) : Prop := ∀ e, xs.getLast? = some e → ∀ y, e ≤ y → h y = h e + r * (y - e)
theorem End.cons {h : Rat → Rat} {r a b : Rat} {xs : List Rat} (k : End h r (b :: xs)) : End h r (a :: b :: xs) := fun e he => k e (by simpa using he)
theorem End.app {h : Rat → Rat} {r b : Rat} {ys xs : List Rat} (k : End h r (b :: xs)) : End h r (ys ++ b :: xs) := fun e he => k e (by simpa using he)
theorem segR {f g : Rat → Rat} {p : Kn} {s r : Rat} {ks : List Rat} (h : 0 < s) (hg : ∀ u v : Rat, (∀ k ∈ ks, k ≤ u ∨ v ≤ k) → Aff g u v) (hr : ∀ u v : Rat, (∀ k ∈ ks, k ≤ u) → u ≤ v → g v = g u + r * (v - u)) :
    ∀ {F : List Rat} {a : Rat}, (∀ x, a ≤ x → f x = ln p s x) → F.Pairwise (· < ·) → (∀ y ∈ F, ln p s a < y) → (∀ k ∈ ks, k ≤ ln p s a ∨ k ∈ F) → Pieces (fun x => g (f x)) (a :: F.map (plc p s)) ∧ End (fun x => g (f x)) (s * r) (a :: F.map (plc p s))
  | [], a, hf, _, _, hk => by
    refine ⟨trivial, fun e he y hy => ?_⟩
    have : a = e := by simpa using he
    subst this
    have m : ln p s a ≤ ln p s y := by have := (ln_mono (p := p) (a := y) (b := a) h).mp; grind
    show g (f y) = g (f a) + _
    rw [hf y hy, hf a (by grind), hr (ln p s a) (ln p s y) (fun k m => by have := hk k m; grind) m]
    unfold ln
    grind
  | y :: F, a, hf, hp, hy, hk => by
    have y0 := hy y (List.mem_cons_self ..)
    have e := ln_plc (p := p) (y := y) h
    have a1 : a < plc p s y := (ln_mono h).mp (by rw [e]; exact y0)
    have pw := List.pairwise_cons.mp hp
    have ih := segR h hg hr (F := F) (a := plc p s y) (fun x h1 => hf x (by grind)) pw.2 (fun z hz => by rw [e]; exact pw.1 z hz) (fun k m => by
      rw [e]
      rcases hk k m with h1 | h1
      · exact .inl (by grind)
      · rcases List.mem_cons.mp h1 with rfl | h1
        · exact .inl (by grind)
        · exact .inr h1)
    refine ⟨⟨a1, Aff.comp h (fun x h1 h2 => hf x h1) (hg _ _ fun k m => ?_), ih.1⟩, ih.2.cons⟩
    rw [e]
    rcases hk k m with h1 | h1
    · exact .inl h1
    · rcases List.mem_cons.mp h1 with rfl | h1
      · exact .inr (by grind)
      · exact .inr (by have := pw.1 k h1; grind)
/-- the places ahead of the first knot -/
theorem segL {f g : Rat → Rat} {p : Kn} {s l b : Rat} {ks : List Rat} {M : List Rat} (h : 0 < s) (hg : ∀ u v : Rat, (∀ k ∈ ks, k ≤ u ∨ v ≤ k) → Aff g u v) (hl : ∀ u v : Rat, (∀ k ∈ ks, u ≤ k) → v ≤ u → g v = g u + l * (v - u)) (hM : Pieces (fun x => g (f x)) (b :: M))
    (hf : ∀ x, x ≤ b → f x = ln p s x) {F : List Rat} (hp : F.Pairwise (· < ·)) (hy : ∀ y ∈ F, y < ln p s b) (hk : ∀ k ∈ ks, ln p s b ≤ k ∨ k ∈ F) :
    Pieces (fun x => g (f x)) (F.map (plc p s) ++ b :: M) ∧ ∀ e, (F.map (plc p s) ++ b :: M).head? = some e → ∀ y, y ≤ e → g (f y) = g (f e) + s * l * (y - e) := by
  match F, hp, hy, hk with
  | [], _, _, hk =>
    refine ⟨hM, fun e he y hy => ?_⟩
    have : b = e := by simpa using he
    subst this
    have m : ln p s y ≤ ln p s b := by have := (ln_mono (p := p) (a := b) (b := y) h).mp; grind
    rw [hf y hy, hf b (by grind), hl (ln p s b) (ln p s y) (fun k m => by have := hk k m; grind) m]
    unfold ln
    grind
  | y0 :: F, hp, hy, hk =>
    have e := ln_plc (p := p) (y := y0) h
    have pw := List.pairwise_cons.mp hp
    have b1 : plc p s y0 < b := (ln_mono h).mp (by rw [e]; exact hy y0 (List.mem_cons_self ..))
    refine ⟨seg h hg hM b1 (fun x _ h2 => hf x h2) pw.2 (fun z hz => by rw [e]; exact ⟨pw.1 z hz, hy z (List.mem_cons_of_mem _ hz)⟩) (fun k m => by
      rw [e]
      rcases hk k m with h1 | h1
      · exact .inr (.inl h1)
      · rcases List.mem_cons.mp h1 with rfl | h1
        · exact .inl (by grind)
        · exact .inr (.inr h1)), fun u hu y hy1 => ?_⟩
    have : plc p s y0 = u := by simpa using hu
    subst this
    have m : ln p s y ≤ y0 := by
      have := (ln_mono (p := p) (a := plc p s y0) (b := y) h).mp
      rw [e] at this
      grind
    rw [hf y (by grind), hf (plc p s y0) (by grind), e, hl y0 (ln p s y) (fun k m => by
      rcases hk k m with h1 | h1
      · have := hy y0 (List.mem_cons_self ..); grind
      · rcases List.mem_cons.mp h1 with rfl | h1
        · exact Rat.le_refl
        · have := pw.1 k h1; grind) m]
    have : ln p s (plc p s y0) = y0 := e
    unfold ln at this ⊢
    grind
/-- the spots of the joined step, as the program takes them -/
def spT (ts : List Rat) : Kn → Rat → Ks → List Rat
  | p, s, [] => p.1 :: (if 0 < s then (ts.filter fun y => decide (p.2 < y)).map (plc p s) else [])
  | p, s, (q, u) :: t => p.1 :: ((if 0 < s then (ts.filter fun y => decide (p.2 < y) && decide (y < q.2)).map (plc p s) else []) ++ spT ts q u t)
def spS (ts : List Rat) (l : Rat) : Ks → List Rat
  | [] => []
  | (p, s) :: t => (if 0 < l then (ts.filter fun y => decide (y < p.2)).map (plc p l) else []) ++ spT ts p s t
def lastS : Rat → Ks → Rat
  | s, [] => s
  | _, (_, u) :: t => lastS u t
theorem spT_head (ts : List Rat) (p : Kn) (s : Rat) (t : Ks) : ∃ M, spT ts p s t = p.1 :: M := by
  match t with
  | [] => exact ⟨_, rfl⟩
  | (q, u) :: t => exact ⟨_, rfl⟩
section
variable {f g : Rat → Rat} {r l' : Rat} {ts : List Rat} (hg : ∀ u v : Rat, (∀ k ∈ ts, k ≤ u ∨ v ≤ k) → Aff g u v) (hr : ∀ u v : Rat, (∀ k ∈ ts, k ≤ u) → u ≤ v → g v = g u + r * (v - u)) (hl : ∀ u v : Rat, (∀ k ∈ ts, u ≤ k) → v ≤ u → g v = g u + l' * (v - u)) (hts : ts.Pairwise (· < ·))
include hg hr hts
theorem spT_ok : ∀ {t : Ks} {p : Kn} {s : Rat}, Con ((p, s) :: t) → 0 ≤ s → (∀ k ∈ t, 0 ≤ k.2) → (∀ x, p.1 ≤ x → f x = evT p s t x) → Pieces (fun x => g (f x)) (spT ts p s t) ∧ End (fun x => g (f x)) (lastS s t * r) (spT ts p s t)
  | [], p, s, hc, hs, _, hf => by
    unfold spT
    by_cases e : 0 < s
    · rw [if_pos e]
      refine segR e hg hr (fun x h => hf x h) (hts.filter _) (fun y hy => ?_) fun k m => ?_
      · rw [ln_self]; simpa using (List.mem_filter.mp hy).2
      · rw [ln_self]
        by_cases c : p.2 < k
        · exact .inr (List.mem_filter.mpr ⟨m, by simpa using c⟩)
        · exact .inl (by grind)
    · rw [if_neg e]
      have z : s = 0 := by grind
      refine ⟨trivial, fun e he y hy => ?_⟩
      have : p.1 = e := by simpa using he
      subst this
      show g (f y) = g (f p.1) + _
      rw [hf y hy, hf p.1 Rat.le_refl]
      show g (ln p s y) = g (ln p s p.1) + s * r * _
      subst z
      unfold ln
      have : (p.2 + 0 * (y - p.1)) = p.2 + 0 * (p.1 - p.1) := by grind
      rw [this]
      grind
  | (q, u) :: t, p, s, hc, hs, hks, hf => by
    have ih := spT_ok (t := t) (p := q) (s := u) hc.2.2 (hks _ (List.mem_cons_self ..)) (fun k m => hks k (List.mem_cons_of_mem _ m)) (fun x h => by
      rw [hf x (by have := hc.1; grind)]
      show (if q.1 ≤ x then evT q u t x else _) = _
      rw [if_pos h])
    obtain ⟨M, hM⟩ := spT_head ts q u t
    have hfl : ∀ x, p.1 ≤ x → x ≤ q.1 → f x = ln p s x := fun x h1 h2 => by
      rw [hf x h1]
      show (if q.1 ≤ x then evT q u t x else ln p s x) = _
      split
      · have : x = q.1 := by grind
        rw [this, evT_at hc.2.2, hc.2.1]
      · rfl
    unfold spT
    rw [hM] at ih ⊢
    refine ⟨?_, ih.2.app (ys := p.1 :: _)⟩
    by_cases e : 0 < s
    · rw [if_pos e]
      refine seg e hg ih.1 hc.1 hfl (hts.filter _) (fun y hy => ?_) fun k m => ?_
      · rw [ln_self, ← hc.2.1]
        have := (List.mem_filter.mp hy).2
        simpa using this
      · rw [ln_self, ← hc.2.1]
        by_cases c : p.2 < k
        · by_cases d : k < q.2
          · exact .inr (.inr (List.mem_filter.mpr ⟨m, by simp [c, d]⟩))
          · exact .inr (.inl (by grind))
        · exact .inl (by grind)
    · rw [if_neg e]
      have z : s = 0 := by grind
      subst z
      refine ⟨hc.1, ⟨0, g (f p.1), fun x h1 h2 => ?_⟩, ih.1⟩
      show g (f x) = _
      rw [hfl x h1 h2, hfl p.1 Rat.le_refl (by have := hc.1; grind)]
      unfold ln
      have : (p.2 + 0 * (x - p.1)) = p.2 + 0 * (p.1 - p.1) := by grind
      rw [this]
      grind
include hl
/-- Lemma B -/
theorem spS_ok {t : Ks} {p : Kn} {s l : Rat} (hc : Con ((p, s) :: t)) (h0 : 0 ≤ l) (hs : 0 ≤ s) (hks : ∀ k ∈ t, 0 ≤ k.2) (hf : f = evS l ((p, s) :: t)) :
    Pieces (fun x => g (f x)) (spS ts l ((p, s) :: t)) ∧ End (fun x => g (f x)) (lastS s t * r) (spS ts l ((p, s) :: t)) ∧ ∀ e, (spS ts l ((p, s) :: t)).head? = some e → ∀ y, y ≤ e → g (f y) = g (f e) + l * l' * (y - e) := by
  have ih := spT_ok (f := f) hg hr hts hc hs hks (fun x h => by rw [hf]; show (if p.1 ≤ x then _ else _) = _; rw [if_pos h])
  obtain ⟨M, hM⟩ := spT_head ts p s t
  have hfl : ∀ x, x ≤ p.1 → f x = ln p l x := fun x h => by
    rw [hf]
    show (if p.1 ≤ x then evT p s t x else ln p l x) = _
    split
    · have : x = p.1 := by grind
      rw [this, evT_at hc, ln_self]
    · rfl
  rw [show spS ts l ((p, s) :: t) = (if 0 < l then (ts.filter fun y => decide (y < p.2)).map (plc p l) else []) ++ spT ts p s t from rfl]
  rw [hM] at ih ⊢
  by_cases e : 0 < l
  · rw [if_pos e]
    have k := segL (F := ts.filter fun y => decide (y < p.2)) e hg hl ih.1 hfl (hts.filter _) (fun y hy => by rw [ln_self]; simpa using (List.mem_filter.mp hy).2) (fun k m => by
      rw [ln_self]
      by_cases c : k < p.2
      · exact .inr (List.mem_filter.mpr ⟨m, by simpa using c⟩)
      · exact .inl (by grind))
    exact ⟨k.1, ih.2.app, k.2⟩
  · rw [if_neg e]
    have z : l = 0 := by grind
    subst z
    refine ⟨ih.1, ih.2, fun e he y hy => ?_⟩
    have : p.1 = e := by simpa using he
    subst this
    rw [hfl y hy, hfl p.1 Rat.le_refl]
    unfold ln
    have : (p.2 + 0 * (y - p.1)) = p.2 + 0 * (p.1 - p.1) := by grind
    rw [this]
    grind
end
end Lw

set_option Elab.async false
set_option linter.all false
set_option maxRecDepth 100000
set_option maxHeartbeats 0
namespace Lw
theorem evT_end : ∀ {t : Ks} {p : Kn} {s u v : Rat}, Con ((p, s) :: t) → p.1 ≤ u → (∀ k ∈ t, k.1.1 ≤ u) → u ≤ v → evT p s t v = evT p s t u + lastS s t * (v - u)
  | [], p, s, u, v, _, _, _, _ => by show ln p s v = ln p s u + s * (v - u); unfold ln; grind
  | (q, w) :: t, p, s, u, v, h, hp, hk, huv => by
    have h1 := hk _ (List.mem_cons_self ..)
    show (if q.1 ≤ v then evT q w t v else _) = (if q.1 ≤ u then evT q w t u else _) + lastS w t * (v - u)
    rw [if_pos (by grind), if_pos h1]
    exact evT_end h.2.2 h1 (fun k m => hk k (List.mem_cons_of_mem _ m)) huv
theorem evS_end {t : Ks} {p : Kn} {s l u v : Rat} (h : Con ((p, s) :: t)) (hk : ∀ k ∈ ((p, s) :: t).map (·.1.1), k ≤ u) (huv : u ≤ v) : evS l ((p, s) :: t) v = evS l ((p, s) :: t) u + lastS s t * (v - u) := by
  have h1 : p.1 ≤ u := hk p.1 (by simp)
  show (if p.1 ≤ v then evT p s t v else _) = (if p.1 ≤ u then evT p s t u else _) + _
  rw [if_pos (by grind), if_pos h1]
  exact evT_end h h1 (fun k m => hk _ (by simpa using .inr ⟨_, _, m⟩)) huv
theorem evS_low {t : Ks} {p : Kn} {s l u v : Rat} (h : Con ((p, s) :: t)) (hk : ∀ k ∈ ((p, s) :: t).map (·.1.1), u ≤ k) (huv : v ≤ u) : evS l ((p, s) :: t) v = evS l ((p, s) :: t) u + l * (v - u) := by
  have h1 : u ≤ p.1 := hk p.1 (by simp)
  have e : ∀ x, x ≤ p.1 → evS l ((p, s) :: t) x = ln p l x := fun x hx => by
    show (if p.1 ≤ x then evT p s t x else ln p l x) = _
    split
    · have : x = p.1 := by grind
      rw [this, evT_at h, ln_self]
    · rfl
  rw [e v (by grind), e u h1]
  unfold ln
  grind
/-- the joined step over Rat -/
def jnR (l : Rat) (ks : Ks) (l' : Rat) (ks' : Ks) : Ks := canR ((spS (ks'.map (·.1.1)) l ks).map fun x => (x, evS l' ks' (evS l ks x))) (l * l') (lastS l ks * lastS l' ks')
theorem con_pair : ∀ {t : Ks}, Con t → (t.map (·.1.1)).Pairwise (· < ·)
  | [], _ => List.Pairwise.nil
  | (p, s) :: t, h => by
    refine List.pairwise_cons.mpr ⟨fun k m => ?_, con_pair h.tail⟩
    obtain ⟨x, hx, rfl⟩ := List.mem_map.mp m
    exact h.beyond x hx
theorem pieces_pair {h : Rat → Rat} : ∀ {xs : List Rat}, Pieces h xs → xs.Pairwise (· < ·)
  | [], _ => List.Pairwise.nil
  | [a], _ => List.pairwise_singleton _ _
  | a :: b :: t, k => by
    have ih := pieces_pair k.2.2
    refine List.pairwise_cons.mpr ⟨fun x m => ?_, ih⟩
    have := k.1
    rcases List.mem_cons.mp m with rfl | m
    · exact this
    · have := (List.pairwise_cons.mp ih).1 x m
      grind
theorem jnR_ev {l l' x : Rat} {ks ks' : Ks} (hc : Con ks) (hc' : Con ks') (hn : ks ≠ []) (hn' : ks' ≠ []) (h0 : 0 ≤ l) (hs : ∀ k ∈ ks, 0 ≤ k.2) : evS (l * l') (jnR l ks l' ks') x = evS l' ks' (evS l ks x) := by
  match ks, hn, ks', hn' with
  | (p, s) :: t, _, (p', s') :: t', _ =>
    have B := spS_ok (f := evS l ((p, s) :: t)) (g := evS l' ((p', s') :: t')) (r := lastS s' t') (l' := l') (ts := ((p', s') :: t').map (·.1.1))
      (fun u v hk => affS hc' fun k m => hk k.1.1 (List.mem_map.mpr ⟨k, m, rfl⟩)) (fun u v hk huv => evS_end hc' hk huv) (fun u v hk huv => evS_low hc' hk huv) (con_pair hc') hc h0 (hs _ (List.mem_cons_self ..)) (fun k m => hs k (List.mem_cons_of_mem _ m)) rfl
    have hx : spS (((p', s') :: t').map (·.1.1)) l ((p, s) :: t) ≠ [] := by
      obtain ⟨M, hM⟩ := spT_head (((p', s') :: t').map (·.1.1)) p s t
      show _ ++ spT _ p s t ≠ []
      rw [hM]
      simp
    unfold jnR
    have el : lastS l ((p, s) :: t) = lastS s t := rfl
    have el' : lastS l' ((p', s') :: t') = lastS s' t' := rfl
    rw [el, el']
    generalize spS (((p', s') :: t').map (·.1.1)) l ((p, s) :: t) = xs at B hx
    obtain ⟨B1, B2, B3⟩ := B
    match xs, hx with
    | a :: xs, _ =>
      have pw : ((a :: xs).map fun x => (x, evS l' ((p', s') :: t') (evS l ((p, s) :: t) x))).Pairwise (fun a b => a.1 < b.1) :=
        List.pairwise_map.mpr (pieces_pair B1)
      rw [evS_can pw (by simp)]
      exact evS_fun (h := fun x => evS l' ((p', s') :: t') (evS l ((p, s) :: t) x)) B1 (fun y hy => B3 a rfl y hy) (fun e he y hy => B2 e he y hy)
/-! ### the form of what comes out -/
theorem con_bend : ∀ {t : Ks} {p : Kn} {s : Rat}, Con ((p, s) :: t) → Con ((p, s) :: bend s t)
  | [], _, _, _ => trivial
  | (q, u) :: t, p, s, h => by
    unfold bend
    by_cases e : s = u
    · subst e
      rw [if_pos rfl]
      have ih := con_bend h.2.2
      match hb : bend s t, ih with
      | [], _ => trivial
      | (q2, u2) :: b, ih =>
        refine ⟨?_, ?_, ih.2.2⟩
        · have := h.1; have := ih.1; grind
        · have := h.2.1; have := ih.2.1; unfold ln at *; grind
    · rw [if_neg e]
      exact ⟨h.1, h.2.1, con_bend h.2.2⟩
theorem con_bendS : ∀ {t : Ks} {l : Rat}, Con t → Con (bend l t)
  | [], _, _ => trivial
  | (p, s) :: t, l, h => by
    unfold bend
    split
    · exact con_bendS h.tail
    · exact con_bend h
theorem con_can {ps : List Kn} {l r : Rat} (h : ps.Pairwise (fun a b => a.1 < b.1)) : Con (canR ps l r) := by
  match ps with
  | [] => trivial
  | p :: t =>
    unfold canR
    simp only
    split
    · trivial
    · exact con_bendS (con_aft h)
/-- slopes of at least 0 -/
theorem aft_up : ∀ {ps : List Kn} {r : Rat}, ps.Pairwise (fun a b => a.1 < b.1 ∧ a.2 ≤ b.2) → 0 ≤ r → ∀ k ∈ aft ps r, 0 ≤ k.2
  | [], _, _, _, _, h => nomatch h
  | [p], r, _, hr, k, h => by
    have : k = (p, r) := by simpa [aft] using h
    rw [this]; exact hr
  | p :: q :: t, r, h, hr, k, hk => by
    have pw := List.pairwise_cons.mp h
    rcases List.mem_cons.mp hk with rfl | hk
    · have := pw.1 q (List.mem_cons_self ..)
      show 0 ≤ slk p q
      unfold slk
      have h1 : 0 < q.1 - p.1 := by grind
      have h2 : 0 ≤ q.2 - p.2 := by grind
      rw [Rat.div_def]
      have h3 : 0 < (q.1 - p.1)⁻¹ := Rat.inv_pos.mpr h1
      exact Rat.mul_nonneg h2 (by grind)
    · exact aft_up pw.2 hr k hk
/-! ### as the program walks -/
def cnt (x : Rat) : Ks → Nat
  | [] => 0
  | (p, _) :: t => if p.1 ≤ x then cnt x t + 1 else 0
theorem cnt_le (x : Rat) : ∀ t : Ks, cnt x t ≤ t.length
  | [] => Nat.le_refl 0
  | (p, s) :: t => by
    unfold cnt
    have := cnt_le x t
    split <;> simp <;> omega
theorem evT_cnt : ∀ {t : Ks} {p : Kn} {s x : Rat}, ∃ k, ((p, s) :: t)[cnt x t]? = some k ∧ evT p s t x = ln k.1 k.2 x
  | [], p, s, x => ⟨(p, s), rfl, rfl⟩
  | (q, u) :: t, p, s, x => by
    show ∃ k, ((p, s) :: (q, u) :: t)[if q.1 ≤ x then cnt x t + 1 else 0]? = some k ∧ (if q.1 ≤ x then evT q u t x else ln p s x) = ln k.1 k.2 x
    split
    · exact evT_cnt (t := t) (p := q) (s := u)
    · exact ⟨(p, s), rfl, rfl⟩
theorem evS_cnt {t : Ks} {l x : Rat} (hn : t ≠ []) : ∃ k s, t[cnt x t - 1]? = some k ∧ (l :: t.map (·.2))[cnt x t]? = some s ∧ evS l t x = ln k.1 s x := by
  match t, hn with
  | (p, s) :: t, _ =>
    show ∃ k w, ((p, s) :: t)[(if p.1 ≤ x then cnt x t + 1 else 0) - 1]? = some k ∧ (l :: ((p, s) :: t).map (·.2))[if p.1 ≤ x then cnt x t + 1 else 0]? = some w ∧ (if p.1 ≤ x then evT p s t x else ln p l x) = ln k.1 w x
    split
    · obtain ⟨k, h1, h2⟩ := evT_cnt (t := t) (p := p) (s := s) (x := x)
      refine ⟨k, k.2, h1, ?_, h2⟩
      rw [List.getElem?_cons_succ, List.getElem?_map, h1]
      rfl
    · exact ⟨(p, s), l, rfl, rfl, rfl⟩
end Lw

set_option Elab.async false
set_option linter.all false
set_option maxRecDepth 100000
set_option maxHeartbeats 0
namespace Lw
open PySem Mi
def frk (p : Kn) : (Int × Int) × (Int × Int) := (fr p.1, fr p.2)
/-- a shape as the program holds it -/
def enc (l : Rat) (ks : Ks) : List ((Int × Int) × (Int × Int)) × List (Int × Int) := (ks.map fun k => frk k.1, fr l :: ks.map fun k => fr k.2)
theorem whL_cnt {S τ β : Type} {c : Int → R S Bool} {f : Int → R S (Out Int Int β)} {x : Rat} {ks : Ks} (hc : ∀ (i : Nat) (k : Kn × Rat), ks[i]? = some k → c (i : Int) = sr (decide (k.1.1 ≤ x))) (hc' : c (ks.length : Int) = sr false) (hf : ∀ i : Nat, f (i : Int) = sr (.nx ((i + 1 : Nat) : Int))) :
    ∀ (n i : Nat), i ≤ ks.length → ks.length - i < n → (whL c f n (i : Int) : R S (Out Int τ β)) = sr (.nx ((i + cnt x (ks.drop i) : Nat) : Int))
  | 0, _, _, h => absurd h (Nat.not_lt_zero _)
  | n + 1, i, hi, h => by
    funext s
    by_cases e : i = ks.length
    · subst e
      unfold whL
      rw [hc', List.drop_length]
      rfl
    · have hlt : i < ks.length := by omega
      have hk := hc i ks[i] (List.getElem?_eq_getElem hlt)
      unfold whL
      rw [hk, List.drop_eq_getElem_cons hlt]
      unfold cnt
      by_cases d : ks[i].1.1 ≤ x
      · rw [decide_eq_true d, if_pos d, hf i]
        have ih := whL_cnt (S := S) (τ := τ) (β := β) hc hc' hf n (i + 1) (by omega) (by omega)
        show whL c f n ((i + 1 : Nat) : Int) s = _
        rw [ih, show i + 1 + cnt x (ks.drop (i + 1)) = i + (cnt x (ks.drop (i + 1)) + 1) by omega]
      · rw [decide_eq_false d, if_neg d]
        rfl
structure ShSz (xn xd yn yd sn sd : Nat) (l : Rat) (ks : Ks) : Prop where
  left : Sz sn sd l
  xs : ∀ k ∈ ks, Sz xn xd k.1.1
  ys : ∀ k ∈ ks, Sz yn yd k.1.2
  ss : ∀ k ∈ ks, Sz sn sd k.2
theorem pix_at {α : Type} {xs : List α} {i : Nat} {x : α} (h : xs[i]? = some x) : pix xs (i : Int) = some x := L2.atI_nat h
theorem value_at_q {xn xd yn yd sn sd n d : Nat} {l x : Rat} {ks : Ks} (hn : ks ≠ []) (h : ShSz xn xd yn yd sn sd l ks) (hx : Sz n d x) (c1 : n + xd ≤ 400000) (c2 : xn + d ≤ 400000) (c3 : yd + (d + xd + sd) ≤ 9000) (c4 : yn + (d + xd + sd) ≤ 400000) (c5 : sn + (n + xd + xn + d + 1) + yd ≤ 400000) (c6 : ks.length < 1000) :
    value_at (enc l ks) (fr x) = .ok (fr (evS l ks x)) := by
  have len : (ks.map fun k => frk k.1).length = ks.length := List.length_map ..
  unfold value_at value_at_b
  simp only [sb_sr, sb_sb, sAnd_sb, sAnd_r]
  have e1 : (enc l ks).fst.length = ks.length := len
  have pk : ∀ (i : Nat) (k : Kn × Rat), ks[i]? = some k → pix (enc l ks).1 (i : Int) = some (frk k.1) := fun i k hk => pix_at (by show (ks.map fun k => frk k.1)[i]? = _; rw [List.getElem?_map, hk]; rfl)
  rw [e1, show (0 : Int) = ((0 : Nat) : Int) from rfl, whL_cnt (x := x) (ks := ks) (fun i k hk => ?_) ?_ (fun i => rfl) (ks.length + 1) 0 (Nat.zero_le _) (by omega)]
  · obtain ⟨k, s, h1, h2, h3⟩ := evS_cnt (l := l) (x := x) hn
    rw [List.drop_zero, Nat.zero_add, obd_nx]
    have e2 : (if ((0 : Nat) : Int) > ((cnt x ks : Nat) : Int) - 1 then ((0 : Nat) : Int) else ((cnt x ks : Nat) : Int) - 1) = ((cnt x ks - 1 : Nat) : Int) := by split <;> omega
    have m : k ∈ ks := List.mem_of_getElem? h1
    have ms : Sz sn sd s := by
      rcases List.mem_cons.mp (List.mem_of_getElem? h2) with rfl | hm
      · exact h.left
      · obtain ⟨k2, m2, rfl⟩ := List.mem_map.mp hm
        exact h.ss k2 m2
    have hs : pix (enc l ks).2 ((cnt x ks : Nat) : Int) = some (fr s) := pix_at (by
      show (fr l :: ks.map fun k => fr k.2)[cnt x ks]? = _
      have : (fr l :: ks.map fun k => fr k.2) = (l :: ks.map (·.2)).map fr := by simp
      rw [this, List.getElem?_map, h2]; rfl)
    rw [e2, pk _ _ h1, hs]
    have X := h.xs k m
    have Y := h.ys k m
    have b1 : Bd n (fr x).1 := hx.num
    have b2 : Bd d (fr x).2 := hx.den
    have b3 : Bd xn (fr k.1.1).1 := X.num
    have b4 : Bd xd (fr k.1.1).2 := X.den
    have b5 : Bd yn (fr k.1.2).1 := Y.num
    have b6 : Bd yd (fr k.1.2).2 := Y.den
    have b7 : Bd sn (fr s).1 := ms.num
    have b8 : Bd sd (fr s).2 := ms.den
    have bu := (b2.mul b4).mul b8
    have br : Bd (n + xd + xn + d + 1) ((fr x).1 * (fr k.1.1).2 - (fr k.1.1).1 * (fr x).2) := ((b1.mul b4).mono (by omega)).sub ((b3.mul b2).mono (by omega))
    simp only [so_some, sb_sr, frk, pmul_s b1 b4 (by omega), pmul_s b3 b2 (by omega), pmul_s b2 b4 (by omega), pmul_s (b2.mul b4) b8 (by omega), pmul_s b5 bu (by omega), pmul_s b7 br (by omega), pmul_s (b7.mul br) b6 (by omega), pmul_s b6 bu (by omega)]
    have p1 := fr_pos x
    have p2 := fr_pos k.1.1
    have p3 := fr_pos k.1.2
    have p4 := fr_pos s
    rw [reduced_q (Int.mul_pos p3 (Int.mul_pos (Int.mul_pos p1 p2) p4)) ((b6.mul bu).mono (by omega)), sl_ok, sb_sr, runF_rt, h3]
    congr 2
    have q1 := qt_fr x
    have q2 := qt_fr k.1.1
    have q3 := qt_fr k.1.2
    have q4 := qt_fr s
    unfold ln
    generalize fr x = X at *
    generalize fr k.1.1 = A at *
    generalize fr k.1.2 = B at *
    generalize fr s = C at *
    rw [← q1, ← q2, ← q3, ← q4]
    have z1 := cast_ne p1
    have z2 := cast_ne p2
    have z3 := cast_ne p3
    have z4 := cast_ne p4
    unfold qt
    simp only [Rat.intCast_add, Rat.intCast_sub, Rat.intCast_mul]
    grind
  · rw [decide_eq_false (by omega)]; rfl
  · have k1 : decide (((i : Nat) : Int) < (ks.length : Int)) = true := decide_eq_true (by have := (List.getElem?_eq_some_iff.mp hk).1; omega)
    have X := h.xs k (List.mem_of_getElem? hk)
    rw [k1, if_pos rfl, pk i k hk, so_some, sb_sr]
    show sb (sl (fless (fr x) (fr k.1.1))) _ = _
    rw [fless_q hx X (by omega) (by omega), sl_ok, sb_sr]
    congr 1
    by_cases c : x < k.1.1
    · rw [decide_eq_true c, decide_eq_false (by grind)]; rfl
    · rw [decide_eq_false c, decide_eq_true (by grind)]; rfl
end Lw

set_option Elab.async false
set_option linter.all false
set_option maxRecDepth 100000
set_option maxHeartbeats 0
namespace Lw
open PySem Mi
theorem papp_ok {α : Type} {xs : List α} {x : α} (h : xs.length < 16777216) : papp xs x = some (xs ++ [x]) := by unfold papp; rw [if_pos h]
theorem plcat_ok {α : Type} {x y : List α} (h : x.length + y.length ≤ 16777216) : plcat x y = some (x ++ y) := by unfold plcat; rw [if_pos h]
theorem lcL_ok {S α β : Type} {c : α → R S Bool} {f : α → R S β} {t : α → Bool} {g : α → β} : ∀ {xs : List α} {acc : List β}, (∀ x ∈ xs, c x = sr (t x) ∧ (t x = true → f x = sr (g x))) → acc.length + xs.length ≤ 16777216 → lcL c f xs acc = sr (acc ++ (xs.filter t).map g)
  | [], acc, _, _ => by simp [lcL]
  | x :: xs, acc, h, hl => by
    funext s
    have hx := h x (List.mem_cons_self ..)
    have ht : ∀ y ∈ xs, c y = sr (t y) ∧ (t y = true → f y = sr (g y)) := fun y m => h y (List.mem_cons_of_mem _ m)
    have hl1 : acc.length + xs.length + 1 ≤ 16777216 := by simpa [Nat.add_assoc] using hl
    unfold lcL
    rw [hx.1]
    by_cases e : t x = true
    · rw [e, hx.2 e]
      show (match papp acc (g x) with | some a => lcL c f xs a s | none => .error .stuck) = _
      rw [papp_ok (by omega)]
      show lcL c f xs (acc ++ [g x]) s = _
      rw [lcL_ok ht (by simp; omega), List.filter_cons, if_pos e]
      simp
    · have e' : t x = false := by simpa using e
      rw [e']
      show lcL c f xs acc s = _
      rw [lcL_ok ht (by omega), List.filter_cons, if_neg e]
theorem forL_app {S τ α γ β : Type} {f : α → List γ → R S (Out (List γ) (List γ) β)} {g : α → γ} : ∀ {xs : List α} {r : List γ}, (∀ x ∈ xs, ∀ r : List γ, r.length < 16777216 → f x r = sr (.nx (r ++ [g x]))) → r.length + xs.length ≤ 16777216 → (forL f xs r : R S (Out (List γ) τ β)) = sr (.nx (r ++ xs.map g))
  | [], r, _, _ => by rw [forL_nil]; simp
  | x :: xs, r, h, hl => by
    funext s
    have hl1 : r.length + xs.length + 1 ≤ 16777216 := by simpa [Nat.add_assoc] using hl
    unfold forL
    rw [h x (List.mem_cons_self ..) r (by omega)]
    show forL f xs (r ++ [g x]) s = _
    rw [forL_app (fun y m => h y (List.mem_cons_of_mem _ m)) (by simp; omega)]
    simp
/-! ### the canonical form -/
def bi (l : Rat) (t : Ks) (i : Nat) : Bool := decide ((l :: t.map (·.2))[i]? ≠ (l :: t.map (·.2))[i + 1]?)
theorem bend_idx : ∀ (t : Ks) (l : Rat), ((List.range t.length).filter (bi l t)).map (fun i => t[i]?) = (bend l t).map some
  | [], l => rfl
  | (p, s) :: t, l => by
    have ih := bend_idx t s
    have e : (List.range ((p, s) :: t).length) = 0 :: (List.range t.length).map Nat.succ := by rw [List.length_cons, List.range_succ_eq_map]
    have e2 : (bi l ((p, s) :: t)) ∘ Nat.succ = bi s t := by
      funext i
      unfold bi
      simp
    have e3 : (fun i => ((p, s) :: t)[i]?) ∘ Nat.succ = fun i => t[i]? := by funext i; simp
    rw [e, List.filter_cons, List.filter_map, e2]
    unfold bend
    by_cases c : l = s
    · have : bi l ((p, s) :: t) 0 = false := by unfold bi; simp [c]
      rw [this, if_neg (by simp), if_pos c, List.map_map, e3, ih]
    · have : bi l ((p, s) :: t) 0 = true := by unfold bi; simp [c]
      rw [this, if_pos rfl, if_neg c, List.map_cons, List.map_map, e3, ih]
      rfl
theorem aft_len : ∀ (ps : List Kn) (r : Rat), (aft ps r).length = ps.length
  | [], _ => rfl
  | [_], _ => rfl
  | p :: q :: t, r => by
    show (aft (q :: t) r).length + 1 = _
    rw [aft_len (q :: t) r]
    rfl
theorem aft_fst : ∀ (ps : List Kn) (r : Rat), (aft ps r).map (·.1) = ps
  | [], _ => rfl
  | [_], _ => rfl
  | p :: q :: t, r => by
    show p :: (aft (q :: t) r).map (·.1) = _
    rw [aft_fst (q :: t) r]
theorem aft_snd : ∀ (ps : List Kn) (r : Rat), ps ≠ [] → (aft ps r).map (·.2) = (List.range (ps.length - 1)).map (fun i => match ps[i]?, ps[i + 1]? with | some p, some q => slk p q | _, _ => 0) ++ [r]
  | [], _, h => absurd rfl h
  | [_], _, _ => rfl
  | p :: q :: t, r, _ => by
    show slk p q :: (aft (q :: t) r).map (·.2) = _
    rw [aft_snd (q :: t) r (by simp)]
    have e : (p :: q :: t).length - 1 = (q :: t).length - 1 + 1 := by simp
    rw [e, List.range_succ_eq_map, List.map_cons, List.map_map]
    rfl
end Lw

set_option Elab.async false
set_option linter.all false
set_option maxRecDepth 100000
set_option maxHeartbeats 0
namespace Lw
open PySem Mi
/-! ### the program's canonical form -/
theorem irange0 (n : Nat) : irange 0 n = (List.range n).map fun (j : Nat) => (j : Int) := by
  unfold irange
  refine List.map_congr_left fun j _ => ?_
  omega
theorem prng0 {n : Nat} (h : n < 2 ^ 62) : prng 0 (n : Int) = some ((List.range n).map fun (j : Nat) => (j : Int)) := by
  rw [prng_ok (by omega) (by omega) (by omega) (by omega), ← irange0]
  congr 2
theorem getE {α : Type} {xs : List α} {i : Nat} {x : α} (h : xs[i]? = some x) : i < xs.length := (List.getElem?_eq_some_iff.mp h).1
/-- sizes of an ascending row of knots -/
structure PtSz (X Y : Nat) (ps : List Kn) : Prop where
  xs : ∀ p ∈ ps, Sz X X p.1
  ys : ∀ p ∈ ps, Sz Y Y p.2
def gSl (ps : List Kn) (i : Nat) : Rat := match ps[i]?, ps[i + 1]? with | some p, some q => slk p q | _, _ => 0
theorem pix_frk {ps : List Kn} {i : Nat} {p : Kn} (h : ps[i]? = some p) : pix (ps.map frk) (i : Int) = some (frk p) := pix_at (by rw [List.getElem?_map, h]; rfl)
theorem pix_fr {ss : List Rat} {i : Nat} {s : Rat} (h : ss[i]? = some s) : pix (ss.map fr) (i : Int) = some (fr s) := pix_at (by rw [List.getElem?_map, h]; rfl)
theorem can_slopes {X Y : Nat} {ps : List Kn} (z : PtSz X Y ps) (hp : ps.Pairwise (fun a b => a.1 < b.1)) (c1 : 2 * X + 2 * Y + 1 ≤ 9000) {i : Nat} (hi : i + 1 < ps.length) :
    ∃ p q, ps[i]? = some p ∧ ps[i + 1]? = some q ∧ fdiff (fr q.2) (fr p.2) = .ok (fr (q.2 - p.2)) ∧ fdiff (fr q.1) (fr p.1) = .ok (fr (q.1 - p.1)) ∧ fquot (fr (q.2 - p.2)) (fr (q.1 - p.1)) = .ok (fr (gSl ps i)) := by
  have e1 := List.getElem?_eq_getElem (l := ps) (i := i) (by omega)
  have e2 := List.getElem?_eq_getElem (l := ps) (i := i + 1) hi
  refine ⟨ps[i], ps[i + 1], e1, e2, ?_⟩
  have m1 : ps[i] ∈ ps := List.getElem_mem _
  have m2 : ps[i + 1] ∈ ps := List.getElem_mem _
  have lt : ps[i].1 < ps[i + 1].1 := List.pairwise_iff_getElem.mp hp i (i + 1) (by omega) hi (by omega)
  have a1 := z.ys _ m1
  have a2 := z.ys _ m2
  have b1 := z.xs _ m1
  have b2 := z.xs _ m2
  have d1 := Sz.sub a2 a1
  have d2 := Sz.sub b2 b1
  refine ⟨fdiff_q a2 a1 (by omega) (by omega) (by omega), fdiff_q b2 b1 (by omega) (by omega) (by omega), ?_⟩
  have eg : gSl ps i = slk ps[i] ps[i + 1] := by unfold gSl; rw [e1, e2]
  rw [eg]
  exact fquot_q d1 d2 (by grind) (by omega) (by omega)
theorem canonical_q {X Y S : Nat} {ps : List Kn} {l r : Rat} (hn : ps ≠ []) (hp : ps.Pairwise (fun a b => a.1 < b.1)) (z : PtSz X Y ps) (hl : Sz S S l) (c1 : 2 * X + 2 * Y + 1 ≤ 9000) (c2 : S + X + Y ≤ 9000) (c3 : ps.length ≤ 100000) :
    canonical (ps.map frk) (fr l) (fr r) = .ok (enc l (canR ps l r)) := by
  have hlen : (ps.map frk).length = ps.length := List.length_map ..
  have hpos : 0 < ps.length := List.length_pos_iff.mpr hn
  unfold canonical canonical_b
  simp -implicitDefEqProofs only [sb_sr, sb_sb, hlen]
  have e0 : ((ps.length : Int) - 1) = ((ps.length - 1 : Nat) : Int) := by omega
  rw [plen_ok (by simp), so_some, sb_sr, e0, prng0 (by omega), so_some, sb_sr]
  rw [forL_app (g := fun i : Int => fr (gSl ps i.toNat)) (fun x hx r hr => ?_) (by simp; omega), obd_nx]
  · have es : ([fr l] ++ ((List.range (ps.length - 1)).map fun (j : Nat) => (j : Int)).map fun i : Int => fr (gSl ps i.toNat)) ++ [fr r] = (l :: (aft ps r).map (·.2)).map fr := by
      rw [aft_snd ps r hn]
      simp only [List.map_cons, List.map_append, List.map_map, List.cons_append, List.nil_append, List.map_nil]
      congr 1
    rw [papp_ok (by simp; omega), so_some, sb_sr, es]
    rw [prng0 (by omega), so_some, sb_sr]
    have hal := aft_len ps r
    generalize hA : aft ps r = A at *
    have pS : ∀ (i : Nat) (s : Rat), (l :: A.map (·.2))[i]? = some s → pix ((l :: A.map (·.2)).map fr) (i : Int) = some (fr s) := fun i s h => pix_fr h
    rw [lcL_ok (t := fun x : Int => bi l A x.toNat) (g := fun x => x) (fun x hx => ?_) (by simp; omega), sb_sr]
    · rw [List.filter_map, List.map_id', List.nil_append]
      have hb := bend_idx A l
      rw [hal] at hb
      have et : ((fun x : Int => bi l A x.toNat) ∘ fun (j : Nat) => (j : Int)) = bi l A := by funext j; simp
      rw [et]
      have hF : ∀ i ∈ (List.range ps.length).filter (bi l A), i < ps.length := fun i m => by simpa using (List.mem_filter.mp m).1
      have hFl : ((List.range ps.length).filter (bi l A)).length ≤ ps.length := by have := List.length_filter_le (bi l A) (List.range ps.length); simpa using this
      generalize (List.range ps.length).filter (bi l A) = F at hb hF hFl
      have hc : canR ps l r = match bend l A with
        | [] => [((0, (ps.head hn).2 - l * (ps.head hn).1), r)]
        | b => b := by
        match ps, hn with
        | p :: t, _ => rw [← hA]; rfl
      have hfl : F.length = (bend l A).length := by have := congrArg List.length hb; simpa using this
      match hbe : bend l A with
      | [] =>
        rw [hbe] at hb hfl hc
        have : F = [] := by simpa using hfl
        subst this
        obtain ⟨p, t, rfl⟩ : ∃ p t, ps = p :: t := by cases ps with | nil => exact absurd rfl hn | cons p t => exact ⟨p, t, rfl⟩
        have m1 : p ∈ p :: t := List.mem_cons_self ..
        have zx := z.xs p m1
        have zy := z.ys p m1
        have zm := Sz.mul hl zx
        have e1 : pix ((p :: t).map frk) 0 = some (frk p) := pix_frk (i := 0) rfl
        simp -implicitDefEqProofs only [List.map_nil, List.length_nil, Int.natCast_zero, decide_true, sIf_t, e1, so_some, sb_sr]
        rw [show (frk p).1 = fr p.1 from rfl, show (frk p).2 = fr p.2 from rfl, fprod_q hl zx (by omega) (by omega), sl_ok, sb_sr, fdiff_q zy zm (by omega) (by omega) (by omega), sl_ok, sb_sr]
        rw [plen_ok (by simp), so_some, sb_sr, plen_ok (by simp), so_some, sb_sr, obd_rt, runF_rt, hc]
        rfl
      | k :: b =>
        rw [hbe] at hb hfl hc
        have ne : ¬ ((F.length : Nat) : Int) = 0 := by rw [hfl]; simp; omega
        have hbl : (k :: b).length ≤ ps.length := by rw [← hfl]; exact hFl
        simp -implicitDefEqProofs only [List.length_map, decide_eq_false ne, sIf_f, obd_nx]
        have hA1 : A.map (·.1) = ps := by rw [← hA]; exact aft_fst ps r
        have hget : ∀ i ∈ F, ∃ p s, A[i]? = some (p, s) ∧ ps[i]? = some p := fun i m => by
          have h1 := hF i m
          have h2 : i < A.length := by omega
          refine ⟨A[i].1, A[i].2, List.getElem?_eq_getElem h2, ?_⟩
          rw [← hA1, List.getElem?_map, List.getElem?_eq_getElem h2]
          rfl
        have hk : F.map (fun i => (A[i]?.getD ((0, 0), 0))) = k :: b := by
          have := congrArg (List.map fun o : Option (Kn × Rat) => o.getD ((0, 0), 0)) hb
          simpa [List.map_map, Function.comp_def] using this
        rw [lcL_ok (t := fun _ => true) (g := fun x : Int => frk (A[x.toNat]?.getD ((0, 0), 0)).1) (fun x hx => ⟨rfl, fun _ => ?_⟩) (by simp; omega), sb_sr,
          sb_sr,
          lcL_ok (t := fun _ => true) (g := fun x : Int => fr (A[x.toNat]?.getD ((0, 0), 0)).2) (fun x hx => ⟨rfl, fun _ => ?_⟩) (by simp; omega), sb_sr]
        · have ft : ∀ xs : List Int, xs.filter (fun _ => true) = xs := fun xs => List.filter_eq_self.mpr fun _ _ => rfl
          rw [ft, List.map_map, List.nil_append, List.nil_append, List.map_map]
          have g1 : F.map ((fun x : Int => frk (A[x.toNat]?.getD ((0, 0), 0)).1) ∘ fun (j : Nat) => (j : Int)) = (k :: b).map fun k => frk k.1 := by rw [← hk, List.map_map]; rfl
          have g2 : F.map ((fun x : Int => fr (A[x.toNat]?.getD ((0, 0), 0)).2) ∘ fun (j : Nat) => (j : Int)) = (k :: b).map fun k => fr k.2 := by rw [← hk, List.map_map]; rfl
          rw [g1, g2, plcat_ok (by simp; simp at hbl; omega), so_some, sb_sr, runF_rt, hc]
          rfl
        · obtain ⟨i, hi, rfl⟩ := List.mem_map.mp hx
          obtain ⟨p, s, h1, h2⟩ := hget i hi
          show so (pix _ ((i : Int) + 1)) = sr (fr (A[((i : Nat) : Int).toNat]?.getD ((0, 0), 0)).2)
          rw [show ((i : Int) + 1) = ((i + 1 : Nat) : Int) by omega, pS (i + 1) s (by rw [List.getElem?_cons_succ, List.getElem?_map, h1]; rfl), so_some, Int.toNat_natCast, h1]
          rfl
        · obtain ⟨i, hi, rfl⟩ := List.mem_map.mp hx
          obtain ⟨p, s, h1, h2⟩ := hget i hi
          show so (pix _ (i : Int)) = sr (frk (A[((i : Nat) : Int).toNat]?.getD ((0, 0), 0)).1)
          rw [pix_frk h2, so_some, Int.toNat_natCast, h1]
          rfl
    · obtain ⟨i, hi, rfl⟩ := List.mem_map.mp hx
      have hi2 : i < ps.length := by simpa using hi
      have hl2 : (l :: A.map (·.2)).length = ps.length + 1 := by simp; omega
      have q1 := List.getElem?_eq_getElem (l := l :: A.map (·.2)) (i := i) (by omega)
      have q2 := List.getElem?_eq_getElem (l := l :: A.map (·.2)) (i := i + 1) (by omega)
      refine ⟨?_, fun _ => rfl⟩
      rw [show ((i : Int) + 1) = ((i + 1 : Nat) : Int) by omega, pS _ _ q1, pS _ _ q2]
      simp -implicitDefEqProofs only [so_some, sb_sr]
      rw [peq_ok _ _ (by decide), so_some, sb_sr]
      congr 1
      show (!decide (fr _ = fr _)) = bi l A (Int.toNat (i : Int))
      unfold bi
      rw [Int.toNat_natCast, q1, q2]
      by_cases e : (l :: A.map (·.2))[i] = (l :: A.map (·.2))[i + 1]
      · rw [e]; simp
      · rw [decide_eq_false (fun h => e (fr_inj h)), decide_eq_true (by simpa using e)]; rfl
  · obtain ⟨i, hi, rfl⟩ := List.mem_map.mp hx
    have hi2 : i < ps.length - 1 := by simpa using hi
    obtain ⟨p, q, h1, h2, h3, h4, h5⟩ := can_slopes z hp c1 (i := i) (by omega)
    rw [show ((i : Int) + 1) = ((i + 1 : Nat) : Int) by omega, pix_frk h1, pix_frk h2]
    simp -implicitDefEqProofs only [so_some, sb_sr]
    rw [show (frk q).2 = fr q.2 from rfl, show (frk p).2 = fr p.2 from rfl, show (frk q).1 = fr q.1 from rfl, show (frk p).1 = fr p.1 from rfl, h3, h4]
    simp -implicitDefEqProofs only [sl_ok, sb_sr]
    rw [h5, sl_ok, sb_sr, papp_ok hr, so_some, sb_sr]
    rfl
end Lw

set_option Elab.async false
set_option linter.all false
set_option maxRecDepth 100000
set_option maxHeartbeats 0
namespace Lw
open PySem Mi
/-! ### slopes to the right of any place -/
def GermR (h : Rat → Rat) (P : Rat → Prop) : Prop := ∀ a, ∃ b, a < b ∧ ∃ s, P s ∧ ∀ x, a ≤ x → x ≤ b → h x = h a + s * (x - a)
theorem germ_ln {g : Rat → Rat} {p : Kn} {s a b : Rat} (h : ∀ x, a ≤ x → x ≤ b → g x = ln p s x) (hab : a ≤ b) : ∀ x, a ≤ x → x ≤ b → g x = g a + s * (x - a) := fun x h1 h2 => by
  rw [h x h1 h2, h a Rat.le_refl hab]
  unfold ln
  grind
theorem germ_evT : ∀ {t : Ks} {p : Kn} {s a : Rat}, Con ((p, s) :: t) → ∃ b, a < b ∧ ∃ w, w ∈ s :: t.map (·.2) ∧ ∀ x, a ≤ x → x ≤ b → evT p s t x = evT p s t a + w * (x - a)
  | [], p, s, a, _ => ⟨a + 1, by grind, s, List.mem_cons_self .., germ_ln (fun _ _ _ => rfl) (by grind)⟩
  | (q, u) :: t, p, s, a, h => by
    by_cases e : q.1 ≤ a
    · obtain ⟨b, hb, w, hw, k⟩ := germ_evT (a := a) h.2.2
      refine ⟨b, hb, w, List.mem_cons_of_mem _ hw, fun x h1 h2 => ?_⟩
      show (if q.1 ≤ x then evT q u t x else _) = (if q.1 ≤ a then evT q u t a else _) + _
      rw [if_pos (by grind), if_pos e, k x h1 h2]
    · refine ⟨q.1, by grind, s, List.mem_cons_self .., germ_ln (p := p) (fun x h1 h2 => ?_) (by grind)⟩
      show (if q.1 ≤ x then evT q u t x else ln p s x) = _
      split
      · have : x = q.1 := by grind
        rw [this, evT_at h.2.2, h.2.1]
      · rfl
theorem germ_evS {ks : Ks} {l : Rat} (h : Con ks) (hn : ks ≠ []) : GermR (evS l ks) (· ∈ l :: ks.map (·.2)) := fun a => by
  match ks, hn with
  | (p, s) :: t, _ =>
    by_cases e : p.1 ≤ a
    · obtain ⟨b, hb, w, hw, k⟩ := germ_evT (a := a) h
      refine ⟨b, hb, w, List.mem_cons_of_mem _ hw, fun x h1 h2 => ?_⟩
      show (if p.1 ≤ x then evT p s t x else _) = (if p.1 ≤ a then evT p s t a else _) + _
      rw [if_pos (by grind), if_pos e, k x h1 h2]
    · refine ⟨p.1, by grind, l, List.mem_cons_self .., germ_ln (p := p) (fun x h1 h2 => ?_) (by grind)⟩
      show (if p.1 ≤ x then evT p s t x else ln p l x) = _
      split
      · have : x = p.1 := by grind
        rw [this, evT_at h, ln_self]
      · rfl
theorem germ_comp {f g : Rat → Rat} {P Q : Rat → Prop} (hf : GermR f P) (hg : GermR g Q) (hp : ∀ s, P s → 0 ≤ s) : GermR (fun x => g (f x)) fun w => ∃ s u, P s ∧ Q u ∧ w = s * u := fun a => by
  obtain ⟨b, hb, s, hs, k⟩ := hf a
  obtain ⟨c, hc, u, hu, m⟩ := hg (f a)
  by_cases e : s = 0
  · refine ⟨b, hb, s * u, ⟨s, u, hs, hu, rfl⟩, fun x h1 h2 => ?_⟩
    show g (f x) = g (f a) + _
    have : f x = f a := by rw [k x h1 h2, e]; grind
    rw [this, e]
    grind
  · have h0 : 0 < s := by have := hp s hs; grind
    have hd : 0 < (c - f a) / s := by
      rw [Rat.div_def]
      exact Rat.mul_pos (by grind) (Rat.inv_pos.mpr h0)
    refine ⟨if b ≤ a + (c - f a) / s then b else a + (c - f a) / s, by split <;> grind, s * u, ⟨s, u, hs, hu, rfl⟩, fun x h1 h2 => ?_⟩
    have h3 : x ≤ b := by split at h2 <;> grind
    have h4 : x ≤ a + (c - f a) / s := by split at h2 <;> grind
    have h5 : s * (x - a) ≤ c - f a := by
      have : s * (x - a) ≤ s * ((c - f a) / s) := Rat.mul_le_mul_of_nonneg_left (by grind) (by grind)
      have e2 : s * ((c - f a) / s) = c - f a := by grind
      grind
    have h6 : 0 ≤ s * (x - a) := Rat.mul_nonneg (by grind) (by grind)
    show g (f x) = g (f a) + _
    rw [m (f x) (by rw [k x h1 h3]; grind) (by rw [k x h1 h3]; grind), k x h1 h3]
    grind
theorem germ_slk {h : Rat → Rat} {P : Rat → Prop} (g : GermR h P) {a b : Rat} (hab : a < b) (k : Aff h a b) : P (slk (a, h a) (b, h b)) := by
  obtain ⟨c, hc, s, hs, m⟩ := g a
  have hd : ∃ d, a < d ∧ d ≤ b ∧ d ≤ c := ⟨if b ≤ c then b else c, by split <;> grind, by split <;> grind, by split <;> grind⟩
  obtain ⟨d, h1, h2, h3⟩ := hd
  have e1 := k.slope hab (x := d) (by grind) h2
  have e2 := m d (by grind) h3
  have e : slk (a, h a) (b, h b) = s := by
    rw [e1] at e2
    unfold ln at e2
    have : (slk (a, h a) (b, h b) - s) * (d - a) = 0 := by grind
    have nz : d - a ≠ 0 := by grind
    rcases Rat.mul_eq_zero.mp this with h | h
    · grind
    · exact absurd h nz
  rw [e]
  exact hs
theorem germ_aft {h : Rat → Rat} {P : Rat → Prop} {r : Rat} (g : GermR h P) (hr : P r) : ∀ {xs : List Rat}, Pieces h xs → ∀ k ∈ aft (xs.map fun x => (x, h x)) r, P k.2
  | [], _, _, m => nomatch m
  | [a], _, k, m => by
    have : k = ((a, h a), r) := by simpa [aft] using m
    rw [this]; exact hr
  | a :: b :: xs, hp, k, m => by
    have m' : k ∈ ((a, h a), slk (a, h a) (b, h b)) :: aft ((b :: xs).map fun x => (x, h x)) r := m
    rcases List.mem_cons.mp m' with rfl | m'
    · exact germ_slk g hp.1 hp.2.1
    · exact germ_aft g hr hp.2.2 k m'
theorem can_mem {ps : List Kn} {l r : Rat} {k : Kn × Rat} (h : k ∈ canR ps l r) : k ∈ aft ps r ∨ ∃ p, p ∈ ps ∧ k = ((0, p.2 - l * p.1), r) ∧ canR ps l r = [k] := by
  match ps, h with
  | [], h => exact nomatch h
  | p :: t, h =>
    have e : canR (p :: t) l r = match bend l (aft (p :: t) r) with
      | [] => [((0, p.2 - l * p.1), r)]
      | b => b := rfl
    rw [e] at h ⊢
    split at h
    · next hb =>
      have : k = ((0, p.2 - l * p.1), r) := by simpa using h
      exact .inr ⟨p, List.mem_cons_self .., this, by rw [this]⟩
    · exact .inl (bend_sub h)
end Lw

set_option Elab.async false
set_option linter.all false
set_option maxRecDepth 100000
set_option maxHeartbeats 0
namespace Lw
open PySem Mi
/-! ### where the spots come from, and what the first step tells there -/
theorem plc_gt {p : Kn} {s y : Rat} (h : 0 < s) (k : p.2 < y) : p.1 < plc p s y := by
  have := (ln_mono (p := p) (a := p.1) (b := plc p s y) h).mp (by rw [ln_self, ln_plc h]; exact k)
  exact this
theorem plc_lt {p : Kn} {s y : Rat} (h : 0 < s) (k : y < p.2) : plc p s y < p.1 := by
  have := (ln_mono (p := p) (b := p.1) (a := plc p s y) h).mp (by rw [ln_self, ln_plc h]; exact k)
  exact this
theorem spT_val {ts : List Rat} : ∀ {t : Ks} {p : Kn} {s x : Rat}, Con ((p, s) :: t) → (∀ k ∈ (p, s) :: t, 0 ≤ k.2) → x ∈ spT ts p s t →
    p.1 ≤ x ∧ (evT p s t x ∈ ts ∨ ∃ k ∈ (p, s) :: t, evT p s t x = k.1.2) ∧ ((∃ k ∈ (p, s) :: t, x = k.1.1) ∨ ∃ k ∈ (p, s) :: t, 0 < k.2 ∧ ∃ y ∈ ts, x = plc k.1 k.2 y)
  | [], p, s, x, hc, hs, hx => by
    unfold spT at hx
    rcases List.mem_cons.mp hx with rfl | hx
    · exact ⟨Rat.le_refl, .inr ⟨_, List.mem_cons_self .., evT_at hc⟩, .inl ⟨_, List.mem_cons_self .., rfl⟩⟩
    · split at hx
      · rename_i h0
        obtain ⟨y, hy, rfl⟩ := List.mem_map.mp hx
        have hy2 := List.mem_filter.mp hy
        have g : p.2 < y := by simpa using hy2.2
        have := plc_gt h0 g
        refine ⟨by grind, .inl ?_, .inr ⟨_, List.mem_cons_self .., h0, y, hy2.1, rfl⟩⟩
        show ln p s (plc p s y) ∈ ts
        rw [ln_plc h0]
        exact hy2.1
      · exact nomatch hx
  | (q, u) :: t, p, s, x, hc, hs, hx => by
    unfold spT at hx
    rcases List.mem_cons.mp hx with rfl | hx
    · exact ⟨Rat.le_refl, .inr ⟨_, List.mem_cons_self .., evT_at hc⟩, .inl ⟨_, List.mem_cons_self .., rfl⟩⟩
    · rcases List.mem_append.mp hx with hx | hx
      · split at hx
        · rename_i h0
          obtain ⟨y, hy, rfl⟩ := List.mem_map.mp hx
          have hy2 := List.mem_filter.mp hy
          have g : p.2 < y ∧ y < q.2 := by simpa using hy2.2
          have g1 := plc_gt h0 g.1
          have g2 : plc p s y < q.1 := (ln_mono (p := p) h0).mp (by rw [ln_plc h0, ← hc.2.1]; exact g.2)
          refine ⟨by grind, .inl ?_, .inr ⟨_, List.mem_cons_self .., h0, y, hy2.1, rfl⟩⟩
          show (if q.1 ≤ plc p s y then evT q u t _ else ln p s (plc p s y)) ∈ ts
          rw [if_neg (by grind), ln_plc h0]
          exact hy2.1
        · exact nomatch hx
      · obtain ⟨h1, h2, h3⟩ := spT_val hc.2.2 (fun k m => hs k (List.mem_cons_of_mem _ m)) hx
        have e : evT p s ((q, u) :: t) x = evT q u t x := by
          show (if q.1 ≤ x then evT q u t x else _) = _
          rw [if_pos h1]
        rw [e]
        refine ⟨by have := hc.1; grind, h2.imp id fun ⟨k, m, z⟩ => ⟨k, List.mem_cons_of_mem _ m, z⟩, h3.imp (fun ⟨k, m, z⟩ => ⟨k, List.mem_cons_of_mem _ m, z⟩) fun ⟨k, m, z⟩ => ⟨k, List.mem_cons_of_mem _ m, z⟩⟩
theorem spS_val {ts : List Rat} {ks : Ks} {l x : Rat} (hc : Con ks) (hs : ∀ k ∈ ks, 0 ≤ k.2) (hx : x ∈ spS ts l ks) :
    (evS l ks x ∈ ts ∨ ∃ k ∈ ks, evS l ks x = k.1.2) ∧ ((∃ k ∈ ks, x = k.1.1) ∨ ∃ k ∈ ks, ∃ s ∈ l :: ks.map (·.2), 0 < s ∧ ∃ y ∈ ts, x = plc k.1 s y) := by
  match ks, hc, hs, hx with
  | [], _, _, hx => exact nomatch hx
  | (p, s) :: t, hc, hs, hx =>
    have hx : x ∈ (if 0 < l then (ts.filter fun y => decide (y < p.2)).map (plc p l) else []) ++ spT ts p s t := hx
    rcases List.mem_append.mp hx with hx | hx
    · split at hx
      · rename_i h0
        obtain ⟨y, hy, rfl⟩ := List.mem_map.mp hx
        have hy2 := List.mem_filter.mp hy
        have g : y < p.2 := by simpa using hy2.2
        have g1 := plc_lt h0 g
        refine ⟨.inl ?_, .inr ⟨_, List.mem_cons_self .., l, List.mem_cons_self .., h0, y, hy2.1, rfl⟩⟩
        show (if p.1 ≤ plc p l y then evT p s t _ else ln p l (plc p l y)) ∈ ts
        rw [if_neg (by grind), ln_plc h0]
        exact hy2.1
      · exact nomatch hx
    · obtain ⟨h1, h2, h3⟩ := spT_val hc hs hx
      have e : evS l ((p, s) :: t) x = evT p s t x := by
        show (if p.1 ≤ x then evT p s t x else _) = _
        rw [if_pos h1]
      rw [e]
      exact ⟨h2, h3.imp id fun ⟨k, m, z, y⟩ => ⟨k, m, k.2, List.mem_cons_of_mem _ (List.mem_map.mpr ⟨k, m, rfl⟩), z, y⟩⟩
theorem spT_len {ts : List Rat} : ∀ {t : Ks} {p : Kn} {s : Rat}, (spT ts p s t).length ≤ (t.length + 1) * (ts.length + 1)
  | [], p, s => by
    unfold spT
    have := List.length_filter_le (fun y => decide (p.2 < y)) ts
    split <;> simp <;> omega
  | (q, u) :: t, p, s => by
    have ih := spT_len (ts := ts) (t := t) (p := q) (s := u)
    have := List.length_filter_le (fun y => decide (p.2 < y) && decide (y < q.2)) ts
    unfold spT
    rw [List.length_cons, List.length_append]
    have h2 : (if 0 < s then (ts.filter fun y => decide (p.2 < y) && decide (y < q.2)).map (plc p s) else []).length ≤ ts.length := by
      split
      · simpa using this
      · simp
    simp only [List.length_cons]
    have e : (t.length + 1 + 1) * (ts.length + 1) = (t.length + 1) * (ts.length + 1) + (ts.length + 1) := by rw [Nat.add_mul (t.length + 1) 1, Nat.one_mul]
    omega
theorem spS_len {ts : List Rat} {ks : Ks} {l : Rat} : (spS ts l ks).length ≤ (ks.length + 1) * (ts.length + 1) := by
  match ks with
  | [] => exact Nat.zero_le _
  | (p, s) :: t =>
    have ih := spT_len (ts := ts) (t := t) (p := p) (s := s)
    have := List.length_filter_le (fun y => decide (y < p.2)) ts
    show ((if 0 < l then (ts.filter fun y => decide (y < p.2)).map (plc p l) else []) ++ spT ts p s t).length ≤ _
    rw [List.length_append]
    have h2 : (if 0 < l then (ts.filter fun y => decide (y < p.2)).map (plc p l) else []).length ≤ ts.length := by
      split
      · simpa using this
      · simp
    simp only [List.length_cons]
    have e : (t.length + 1 + 1) * (ts.length + 1) = (t.length + 1) * (ts.length + 1) + (ts.length + 1) := by rw [Nat.add_mul (t.length + 1) 1, Nat.one_mul]
    omega
/-! ### sizes, x and y apart -/
structure SS (X Y S : Nat) (l : Rat) (ks : Ks) : Prop where
  left : Sz S S l
  xs : ∀ k ∈ ks, Sz X X k.1.1
  ys : ∀ k ∈ ks, Sz Y Y k.1.2
  ss : ∀ k ∈ ks, Sz S S k.2
theorem SS.sh {X Y S : Nat} {l : Rat} {ks : Ks} (h : SS X Y S l ks) : ShSz X X Y Y S S l ks := ⟨h.left, h.xs, h.ys, h.ss⟩
theorem Sz.plc {X Y S T : Nat} {p : Kn} {s y : Rat} (h1 : Sz X X p.1) (h2 : Sz Y Y p.2) (h3 : Sz S S s) (h4 : Sz T T y) (h0 : 0 < s) : Sz (X + Y + T + S + 2) (X + Y + T + S + 2) (Lw.plc p s y) := by
  have a := (Sz.sub h4 h2).div h3 (by grind)
  have b := Sz.add h1 a
  exact b.mono (by omega) (by omega)
theorem Sz.ln {X Y S T : Nat} {p : Kn} {s x : Rat} (h1 : Sz X X p.1) (h2 : Sz Y Y p.2) (h3 : Sz S S s) (h4 : Sz T T x) : Sz (X + Y + T + S + 2) (X + Y + T + S + 2) (Lw.ln p s x) := by
  have a := h3.mul (Sz.sub h4 h1)
  have b := Sz.add h2 a
  exact b.mono (by omega) (by omega)
theorem SS.ev {X Y S T : Nat} {l x : Rat} {ks : Ks} (h : SS X Y S l ks) (hn : ks ≠ []) (hx : Sz T T x) : Sz (X + Y + T + S + 2) (X + Y + T + S + 2) (evS l ks x) := by
  obtain ⟨k, s, h1, h2, h3⟩ := evS_cnt (l := l) (x := x) hn
  have m : k ∈ ks := List.mem_of_getElem? h1
  have ms : Sz S S s := by
    rcases List.mem_cons.mp (List.mem_of_getElem? h2) with rfl | hm
    · exact h.left
    · obtain ⟨k2, m2, rfl⟩ := List.mem_map.mp hm
      exact h.ss k2 m2
  rw [h3]
  exact Sz.ln (h.xs k m) (h.ys k m) ms hx
end Lw

set_option Elab.async false
set_option linter.all false
set_option maxRecDepth 100000
set_option maxHeartbeats 0
namespace Lw
open PySem Mi
theorem forL_flt {S τ α γ β : Type} {f : α → List γ → R S (Out (List γ) (List γ) β)} {t : α → Bool} {g : α → γ} : ∀ {xs : List α} {r : List γ}, (∀ x ∈ xs, ∀ r : List γ, r.length < 16777216 → f x r = sr (.nx (if t x = true then r ++ [g x] else r))) → r.length + xs.length ≤ 16777216 → (forL f xs r : R S (Out (List γ) τ β)) = sr (.nx (r ++ (xs.filter t).map g))
  | [], r, _, _ => by rw [forL_nil]; simp
  | x :: xs, r, h, hl => by
    funext s
    have hl1 : r.length + xs.length + 1 ≤ 16777216 := by simpa [Nat.add_assoc] using hl
    unfold forL
    rw [h x (List.mem_cons_self ..) r (by omega)]
    by_cases e : t x = true
    · rw [if_pos e, List.filter_cons, if_pos e]
      show forL f xs (r ++ [g x]) s = _
      rw [forL_flt (fun y m => h y (List.mem_cons_of_mem _ m)) (by simp; omega)]
      simp
    · rw [if_neg e, List.filter_cons, if_neg e]
      show forL f xs r s = _
      rw [forL_flt (fun y m => h y (List.mem_cons_of_mem _ m)) (by omega)]
theorem forL_cat {S τ α γ β : Type} {f : α → List γ → R S (Out (List γ) (List γ) β)} {g : α → List γ} {N B : Nat} : ∀ {xs : List α} {r : List γ}, (∀ x ∈ xs, (g x).length ≤ B ∧ ∀ r : List γ, r.length + B ≤ N → f x r = sr (.nx (r ++ g x))) → r.length + xs.length * B ≤ N → (forL f xs r : R S (Out (List γ) τ β)) = sr (.nx (r ++ xs.flatMap g))
  | [], r, _, _ => by rw [forL_nil]; simp
  | x :: xs, r, h, hl => by
    funext s
    have e : (x :: xs).length * B = xs.length * B + B := by rw [List.length_cons, Nat.add_mul, Nat.one_mul]
    have hx := h x (List.mem_cons_self ..)
    unfold forL
    rw [hx.2 r (by omega)]
    show forL f xs (r ++ g x) s = _
    rw [forL_cat (N := N) (B := B) (fun y m => h y (List.mem_cons_of_mem _ m)) (by rw [List.length_append]; omega)]
    simp
/-! ### the spots, by their numbers -/
def mid (ts : List Rat) (p : Kn) (s : Rat) (q : Option Kn) : List Rat := if 0 < s then (ts.filter fun y => decide (p.2 < y) && (match q with | none => true | some q => decide (y < q.2))).map (plc p s) else []
def gJ (ts : List Rat) (ks : Ks) (i : Nat) : List Rat := match ks[i]? with
  | some (p, s) => p.1 :: mid ts p s (ks[i + 1]?.map (·.1))
  | none => []
theorem spT_idx (ts : List Rat) : ∀ (t : Ks) (p : Kn) (s : Rat), spT ts p s t = (List.range (t.length + 1)).flatMap (gJ ts ((p, s) :: t))
  | [], p, s => by
    unfold spT
    simp [gJ, mid]
  | (q, u) :: t, p, s => by
    unfold spT
    rw [spT_idx ts t q u, List.length_cons, List.range_succ_eq_map (n := t.length + 1), List.flatMap_cons, List.flatMap_map]
    have e : (fun i => gJ ts ((p, s) :: (q, u) :: t) (Nat.succ i)) = gJ ts ((q, u) :: t) := by
      funext i
      unfold gJ
      simp
    rw [e]
    simp [gJ, mid]
theorem mid_len (ts : List Rat) (p : Kn) (s : Rat) (q : Option Kn) : (mid ts p s q).length ≤ ts.length := by
  unfold mid
  split
  · rw [List.length_map]; exact List.length_filter_le _ _
  · exact Nat.zero_le _
theorem place_of_q {X Y S T : Nat} {p : Kn} {s y : Rat} (h1 : Sz X X p.1) (h2 : Sz Y Y p.2) (h3 : Sz S S s) (h4 : Sz T T y) (h0 : 0 < s) (c : X + Y + T + S + 1 ≤ 9000) : place_of (frk p) (fr s) (fr y) = .ok (fr (plc p s y)) := by
  have a := Sz.sub h4 h2
  have b := a.div h3 (by grind)
  unfold place_of place_of_b
  simp -implicitDefEqProofs only [sb_sr, sb_sb]
  rw [show (frk p).2 = fr p.2 from rfl, show (frk p).1 = fr p.1 from rfl, fdiff_q h4 h2 (by omega) (by omega) (by omega), sl_ok, sb_sr, fquot_q a h3 (by grind) (by omega) (by omega), sl_ok, sb_sr, fsum_q h1 b (by omega) (by omega) (by omega), sl_ok, sb_sr, runF_rt]
  rfl
theorem pos_fr {s : Rat} : decide (0 < (fr s).1) = decide (0 < s) := decide_eq_decide.mpr (by have h := qt_lt (a := fr 0) (b := fr s) (fr_pos 0) (fr_pos s); rw [qt_fr, qt_fr] at h; rw [← h]; show _ ↔ (0 : Int) * _ < s.num * 1; rw [Int.zero_mul, Int.mul_one]; exact Iff.rfl)
theorem enc_last {l : Rat} {ks : Ks} : pix (enc l ks).2 (-1) = some (fr (lastS l ks)) := by
  have key : ∀ (ks : Ks) (l : Rat), (fr l :: ks.map fun k => fr k.2)[ks.length]? = some (fr (lastS l ks)) := fun ks => by
    induction ks with
    | nil => exact fun l => rfl
    | cons k t ih => exact fun l => by rw [List.length_cons, List.getElem?_cons_succ]; exact ih k.2
  have hlen : (enc l ks).2.length = ks.length + 1 := by unfold enc; simp
  unfold pix L2.atI
  rw [hlen]
  have : (enc l ks).2[ks.length]? = some (fr (lastS l ks)) := key ks l
  simp only [L2.ixN]
  rw [if_neg (by decide), if_pos (by omega), show ((-1 : Int) + ((ks.length + 1 : Nat) : Int)).toNat = ks.length by omega]
  exact this
theorem enc_first {l : Rat} {ks : Ks} : pix (enc l ks).2 0 = some (fr l) := pix_at (i := 0) rfl
theorem enc_x {l : Rat} {ks : Ks} {i : Nat} {k : Kn × Rat} (h : ks[i]? = some k) : pix (enc l ks).1 (i : Int) = some (frk k.1) := pix_at (by show (ks.map fun k => frk k.1)[i]? = _; rw [List.getElem?_map, h]; rfl)
theorem enc_s {l : Rat} {ks : Ks} {i : Nat} {k : Kn × Rat} (h : ks[i]? = some k) : pix (enc l ks).2 ((i : Int) + 1) = some (fr k.2) := by
  rw [show ((i : Int) + 1) = ((i + 1 : Nat) : Int) by omega]
  refine pix_at ?_
  show (fr l :: ks.map fun k => fr k.2)[i + 1]? = _
  rw [List.getElem?_cons_succ, List.getElem?_map, h]; rfl
theorem obd_ite {S β ρ1 ρ τ : Type} {c : Bool} {a b : R S (Out ρ1 τ β)} {k : ρ1 → R S (Out ρ τ β)} {v : ρ1} (h1 : c = true → a = sr (.nx v)) (h2 : c = false → b = sr (.nx v)) : obd (if c = true then a else b) k = k v := by
  cases c with
  | true => rw [if_pos rfl, h1 rfl, obd_nx]
  | false => rw [if_neg (by simp), h2 rfl, obd_nx]
theorem flt_fr (ts : List Rat) (t : Rat → Bool) (g : Rat → Rat) : ((ts.map fr).filter fun x => t (qt x)).map (fun x => fr (g (qt x))) = ((ts.filter t).map g).map fr := by
  rw [List.filter_map, List.map_map, List.map_map]
  have e1 : ((fun x => t (qt x)) ∘ fr) = t := by funext x; simp [qt_fr]
  have e2 : ((fun x => fr (g (qt x))) ∘ fr) = fr ∘ g := by funext x; simp [qt_fr]
  rw [e1, e2]
theorem sb_ite {S α β : Type} {c : Bool} {a b : R S α} {k : α → R S β} : sb (if c = true then a else b) k = if c = true then sb a k else sb b k := by cases c <;> rfl
theorem jn_parts {l l' : Rat} {ks ks' : Ks} (hc : Con ks) (hc' : Con ks') (hn : ks ≠ []) (hn' : ks' ≠ []) (h0 : 0 ≤ l) (hs : ∀ k ∈ ks, 0 ≤ k.2) :
    spS (ks'.map (·.1.1)) l ks ≠ [] ∧ Pieces (fun x => evS l' ks' (evS l ks x)) (spS (ks'.map (·.1.1)) l ks) ∧ End (fun x => evS l' ks' (evS l ks x)) (lastS l ks * lastS l' ks') (spS (ks'.map (·.1.1)) l ks) ∧
      ∀ e, (spS (ks'.map (·.1.1)) l ks).head? = some e → ∀ y, y ≤ e → evS l' ks' (evS l ks y) = evS l' ks' (evS l ks e) + l * l' * (y - e) := by
  match ks, hn, ks', hn' with
  | (p, s) :: t, _, (p', s') :: t', _ =>
    have B := spS_ok (f := evS l ((p, s) :: t)) (g := evS l' ((p', s') :: t')) (r := lastS s' t') (l' := l') (ts := ((p', s') :: t').map (·.1.1))
      (fun u v hk => affS hc' fun k m => hk k.1.1 (List.mem_map.mpr ⟨k, m, rfl⟩)) (fun u v hk huv => evS_end hc' hk huv) (fun u v hk huv => evS_low hc' hk huv) (con_pair hc') hc h0 (hs _ (List.mem_cons_self ..)) (fun k m => hs k (List.mem_cons_of_mem _ m)) rfl
    refine ⟨?_, B.1, B.2.1, B.2.2⟩
    obtain ⟨M, hM⟩ := spT_head (((p', s') :: t').map (·.1.1)) p s t
    show _ ++ spT _ p s t ≠ []
    rw [hM]
    simp
theorem joined_q {X Y S X' Y' S' W : Nat} {l l' : Rat} {ks ks' : Ks} (hc : Con ks) (hc' : Con ks') (hn : ks ≠ []) (hn' : ks' ≠ []) (h0 : 0 ≤ l) (hs : ∀ k ∈ ks, 0 ≤ k.2) (z : SS X Y S l ks) (z' : SS X' Y' S' l' ks')
    (w1 : X' ≤ W) (w2 : Y ≤ W) (c1 : 2 * (X + Y + X' + S + 2) + 2 * (X' + Y' + W + S' + 2) + 1 ≤ 9000) (c2 : (X + Y + X' + S + 2) + X + S + Y ≤ 9000) (c3 : W + X' + S' + Y' ≤ 9000) (c4 : (S + S') + (X + Y + X' + S + 2) + (X' + Y' + W + S' + 2) ≤ 9000) (n1 : ks.length < 300) (n2 : ks'.length < 300) :
    joined (enc l ks) (enc l' ks') = .ok (enc (l * l') (jnR l ks l' ks')) := by
  generalize hts : ks'.map (·.1.1) = ts
  have htl : ts.length = ks'.length := by rw [← hts]; simp
  have zt : ∀ y ∈ ts, Sz X' X' y := fun y m => by
    rw [← hts] at m
    obtain ⟨k, mk, rfl⟩ := List.mem_map.mp m
    exact z'.xs k mk
  have e1 : (enc l ks).1.length = ks.length := List.length_map ..
  unfold joined joined_b
  simp -implicitDefEqProofs only [sb_sr, sb_sb, e1]
  rw [lcL_ok (t := fun _ => true) (g := fun k : (Int × Int) × (Int × Int) => k.1) (fun x hx => ⟨rfl, fun _ => rfl⟩) (by show 0 + (ks'.map fun k => frk k.1).length ≤ _; simp; omega), sb_sr, plen_ok (by simp), so_some, sb_sr, enc_first, so_some, sb_sr, pos_fr]
  have et : [] ++ List.map (fun k : (Int × Int) × (Int × Int) => k.1) (List.filter (fun _ => true) (enc l' ks').1) = ts.map fr := by
    rw [List.nil_append, List.filter_eq_self.mpr fun _ _ => rfl, ← hts]
    show List.map _ (ks'.map fun k => frk k.1) = _
    rw [List.map_map, List.map_map]
    rfl
  rw [et, sIf_r]
  have zk : ∀ {i : Nat} {k : Kn × Rat}, ks[i]? = some k → Sz X X k.1.1 ∧ Sz Y Y k.1.2 ∧ Sz S S k.2 := fun h => by
    have m := List.mem_of_getElem? h
    exact ⟨z.xs _ m, z.ys _ m, z.ss _ m⟩
  -- the places ahead of the first knot
  obtain ⟨p0, s0, t0, hks⟩ : ∃ p s t, ks = (p, s) :: t := by
    match ks, hn with
    | (p, s) :: t, _ => exact ⟨p, s, t, rfl⟩
  have hk0 : ks[0]? = some (p0, s0) := by rw [hks]; rfl
  have ek0 := enc_x (l := l) hk0
  rw [show (((0 : Nat) : Int)) = 0 from rfl] at ek0
  have z0 := zk hk0
  rw [obd_ite (v := ((if 0 < l then (ts.filter fun y => decide (y < p0.2)).map (plc p0 l) else []).map fr)) (fun h => ?_) fun h => ?_]
  · -- the places behind
      rw [prng0 (by omega), so_some, sb_sr]
      generalize hL0 : (if 0 < l then (ts.filter fun y => decide (y < p0.2)).map (plc p0 l) else []) = L0
      have L0l : L0.length ≤ ts.length := by
        rw [← hL0]
        split
        · rw [List.length_map]; exact List.length_filter_le _ _
        · exact Nat.zero_le _
      have gl : ∀ i, (gJ ts ks i).length ≤ 300 := fun i => by
        unfold gJ
        split
        · have := mid_len ts ‹Kn› ‹Rat› (ks[i + 1]?.map (·.1))
          simp only [List.length_cons]
          omega
        · exact Nat.zero_le _
      rw [forL_cat (g := fun i : Int => (gJ ts ks i.toNat).map fr) (N := 16777216) (B := 300) (fun x hx => ⟨by rw [List.length_map]; exact gl _, fun r hr => ?_⟩) (by simp; omega), obd_nx]
      · have hsp : L0.map fr ++ ((List.range ks.length).map fun (j : Nat) => (j : Int)).flatMap (fun i : Int => (gJ ts ks i.toNat).map fr) = (spS ts l ks).map fr := by
          have e2 : spS ts l ks = L0 ++ spT ts p0 s0 t0 := by rw [← hL0, hks]; rfl
          rw [e2, spT_idx, ← hks, List.map_append, List.flatMap_map, show t0.length + 1 = ks.length by rw [hks]; rfl, List.map_flatMap]
          rfl
        rw [hsp]
        have spl := spS_len (ts := ts) (ks := ks) (l := l)
        have spl2 : (spS ts l ks).length ≤ 100000 := by
          have : (ks.length + 1) * (ts.length + 1) ≤ 300 * 300 := Nat.mul_le_mul (by omega) (by omega)
          omega
        have hv : ∀ x ∈ spS ts l ks, Sz (X + Y + X' + S + 2) (X + Y + X' + S + 2) x ∧ Sz (X' + Y' + W + S' + 2) (X' + Y' + W + S' + 2) (evS l' ks' (evS l ks x)) ∧ value_at (enc l ks) (fr x) = .ok (fr (evS l ks x)) ∧ value_at (enc l' ks') (fr (evS l ks x)) = .ok (fr (evS l' ks' (evS l ks x))) := fun x hx => by
          obtain ⟨h1, h2⟩ := spS_val hc hs hx
          have hx1 : Sz (X + Y + X' + S + 2) (X + Y + X' + S + 2) x := by
            rcases h2 with ⟨k, m, rfl⟩ | ⟨k, m, s, ms, hs0, y, my, rfl⟩
            · exact (z.xs k m).mono (by omega) (by omega)
            · have mss : Sz S S s := by
                rcases List.mem_cons.mp ms with rfl | hm
                · exact z.left
                · obtain ⟨k2, m2, rfl⟩ := List.mem_map.mp hm
                  exact z.ss k2 m2
              exact Sz.plc (z.xs k m) (z.ys k m) mss (zt y my) hs0
          have hx2 : Sz W W (evS l ks x) := by
            rcases h1 with h1 | ⟨k, m, e⟩
            · exact (zt _ h1).mono w1 w1
            · rw [e]; exact (z.ys k m).mono w2 w2
          refine ⟨hx1, (z'.ev hn' hx2).mono (by omega) (by omega), ?_, ?_⟩
          · exact value_at_q hn z.sh hx1 (by omega) (by omega) (by omega) (by omega) (by omega) (by omega)
          · exact value_at_q hn' z'.sh hx2 (by omega) (by omega) (by omega) (by omega) (by omega) (by omega)
        rw [lcL_ok (t := fun _ => true) (g := fun x : Int × Int => (x, fr (evS l' ks' (evS l ks (qt x))))) (fun x hx => ⟨rfl, fun _ => ?_⟩) (by simp; omega), sb_sr, sb_sr, enc_first, so_some, sb_sr, fprod_q z.left z'.left (by omega) (by omega), sl_ok, sb_sr, enc_last, so_some, sb_sr, enc_last, so_some, sb_sr]
        · have zl : Sz S S (lastS l ks) := by
            have key : ∀ (ks : Ks) (l : Rat), Sz S S l → (∀ k ∈ ks, Sz S S k.2) → Sz S S (lastS l ks) := fun ks => by
              induction ks with
              | nil => exact fun l h _ => h
              | cons k t ih => exact fun l _ h => ih k.2 (h k (List.mem_cons_self ..)) fun k m => h k (List.mem_cons_of_mem _ m)
            exact key ks l z.left z.ss
          have zl' : Sz S' S' (lastS l' ks') := by
            have key : ∀ (ks : Ks) (l : Rat), Sz S' S' l → (∀ k ∈ ks, Sz S' S' k.2) → Sz S' S' (lastS l ks) := fun ks => by
              induction ks with
              | nil => exact fun l h _ => h
              | cons k t ih => exact fun l _ h => ih k.2 (h k (List.mem_cons_self ..)) fun k m => h k (List.mem_cons_of_mem _ m)
            exact key ks' l' z'.left z'.ss
          rw [fprod_q zl zl' (by omega) (by omega), sl_ok, sb_sr]
          have er : [] ++ (((spS ts l ks).map fr).filter fun _ => true).map (fun x : Int × Int => (x, fr (evS l' ks' (evS l ks (qt x))))) = ((spS ts l ks).map fun x => (x, evS l' ks' (evS l ks x))).map frk := by
            rw [List.nil_append, List.filter_eq_self.mpr fun _ _ => rfl, List.map_map, List.map_map]
            refine List.map_congr_left fun x _ => ?_
            show (fr x, fr (evS l' ks' (evS l ks (qt (fr x))))) = (fr x, fr (evS l' ks' (evS l ks x)))
            rw [qt_fr]
          rw [er, canonical_q (X := X + Y + X' + S + 2) (Y := X' + Y' + W + S' + 2) (S := S + S') ?_ ?_ ⟨?_, ?_⟩ (Sz.mul z.left z'.left) (by omega) (by omega) (by simpa using spl2), sl_ok, sb_sr, runF_rt, jnR, hts]
          · obtain ⟨M, hM⟩ := spT_head ts p0 s0 t0
            rw [hks]
            show ((_ ++ spT ts p0 s0 t0).map _) ≠ []
            rw [hM]
            simp
          · have J := (jn_parts (l' := l') hc hc' hn hn' h0 hs).2.1
            rw [hts] at J
            exact List.pairwise_map.mpr (pieces_pair J)
          · intro p hp
            obtain ⟨x, hx, rfl⟩ := List.mem_map.mp hp
            exact (hv x hx).1
          · intro p hp
            obtain ⟨x, hx, rfl⟩ := List.mem_map.mp hp
            exact (hv x hx).2.1
        · obtain ⟨y, hy, rfl⟩ := List.mem_map.mp hx
          obtain ⟨_, _, h3, h4⟩ := hv y hy
          rw [h3, sl_ok, sb_sr, h4, sl_ok, sb_sr, qt_fr]
      · obtain ⟨i, hi, rfl⟩ := List.mem_map.mp hx
        have hi : i < ks.length := by simpa using hi
        obtain ⟨⟨p, s⟩, hk⟩ : ∃ k, ks[i]? = some k := ⟨_, List.getElem?_eq_getElem hi⟩
        have zz := zk hk
        have hg : (gJ ts ks ((i : Nat) : Int).toNat).map fr = [fr p.1] ++ (mid ts p s (ks[i + 1]?.map (·.1))).map fr := by
          rw [Int.toNat_natCast]
          unfold gJ
          rw [hk]
          rfl
        rw [hg, enc_x hk, enc_s hk]
        simp -implicitDefEqProofs only [so_some, sb_sr]
        rw [papp_ok (by omega), so_some, sb_sr, pos_fr, sIf_r, obd_ite (v := r ++ ([fr p.1] ++ (mid ts p s (ks[i + 1]?.map (·.1))).map fr)) (fun h => ?_) fun h => ?_]
        · have h := of_decide_eq_true h
          rw [forL_flt (t := fun x => decide (p.2 < qt x) && (match ks[i + 1]?.map (·.1) with | none => true | some q => decide (qt x < q.2))) (g := fun x => fr (plc p s (qt x))) (fun x hx r hr => ?_) (by simp; omega), obd_nx]
          · rw [flt_fr ts (fun y => decide (p.2 < y) && (match ks[i + 1]?.map (·.1) with | none => true | some q => decide (y < q.2))) (plc p s), List.append_assoc]
            unfold mid
            rw [if_pos h]
            rfl
          · obtain ⟨y, hy, rfl⟩ := List.mem_map.mp hx
            rw [show (frk (p, s).1).2 = fr p.2 from rfl, fless_q zz.2.1 (zt y hy) (by omega) (by omega), sl_ok, qt_fr]
            have key : sAnd (sr (decide (p.2 < y)) : R Unit Bool) (sOr (sr (decide (((i : Nat) : Int) + 1 = ((ks.length : Nat) : Int)))) (sb (so (pix (enc l ks).1 (((i : Nat) : Int) + 1))) fun x => sl (fless (fr y) x.2))) = sr (decide (p.2 < y) && (match ks[i + 1]?.map (·.1) with | none => true | some q => decide (y < q.2))) := by
              rw [sAnd_r]
              by_cases c : p.2 < y
              · rw [decide_eq_true c, if_pos rfl, Bool.true_and]
                by_cases d : i + 1 = ks.length
                · rw [decide_eq_true (show ((i : Nat) : Int) + 1 = ((ks.length : Nat) : Int) by omega), sOr_t, List.getElem?_eq_none (by omega)]
                  rfl
                · rw [decide_eq_false (show ¬ ((i : Nat) : Int) + 1 = ((ks.length : Nat) : Int) by omega), sOr_f]
                  obtain ⟨⟨q, u⟩, hq⟩ : ∃ k, ks[i + 1]? = some k := ⟨_, List.getElem?_eq_getElem (by omega)⟩
                  rw [show ((i : Int) + 1) = ((i + 1 : Nat) : Int) by omega, enc_x hq, so_some, sb_sr, hq]
                  show sl (fless (fr y) (fr q.2)) = _
                  rw [fless_q (zt y hy) (zk hq).2.1 (by omega) (by omega)]
                  rfl
              · rw [decide_eq_false c]
                rfl
            rw [key, sIf_r]
            generalize (decide (p.2 < y) && (match ks[i + 1]?.map (·.1) with | none => true | some q => decide (y < q.2))) = b
            cases b with
            | true => rw [if_pos rfl, if_pos rfl, place_of_q zz.1 zz.2.1 zz.2.2 (zt y hy) h (by omega), sl_ok, sb_sr, papp_ok hr, so_some, sb_sr, obd_nx]
            | false => rw [if_neg (by simp), if_neg (by simp), obd_nx]
        · have h := of_decide_eq_false h
          unfold mid
          rw [if_neg h]
          simp
          rfl
  · have h := of_decide_eq_true h
    rw [if_pos h, forL_flt (t := fun x => decide (qt x < p0.2)) (g := fun x => fr (plc p0 l (qt x))) (fun x hx r hr => ?_) (by simp; omega), obd_nx, flt_fr ts (fun y => decide (y < p0.2)) (plc p0 l)]
    · rfl
    · obtain ⟨y, hy, rfl⟩ := List.mem_map.mp hx
      rw [ek0]
      simp -implicitDefEqProofs only [so_some, sb_sr]
      rw [show (frk (p0, s0).1).2 = fr p0.2 from rfl, fless_q (zt y hy) z0.2.1 (by omega) (by omega), sl_ok, sIf_r, qt_fr]
      by_cases c : y < p0.2
      · rw [decide_eq_true c, if_pos rfl, if_pos rfl, place_of_q z0.1 z0.2.1 z.left (zt y hy) h (by omega), sl_ok, sb_sr, papp_ok hr, so_some, sb_sr, obd_nx]
      · rw [decide_eq_false c, if_neg (by simp), if_neg (by simp), obd_nx]
  · have h := of_decide_eq_false h
    rw [if_neg h]; rfl
end Lw

set_option Elab.async false
set_option linter.all false
set_option maxRecDepth 100000
set_option maxHeartbeats 0
namespace Lw
open PySem Mi
/-! ### the canonical form, and shapes that the program makes -/
/-- neighbours' slopes differ -/
def Dif : Rat → Ks → Prop
  | _, [] => True
  | l, (_, s) :: t => l ≠ s ∧ Dif s t
theorem dif_bend : ∀ (t : Ks) (l : Rat), Dif l (bend l t)
  | [], _ => trivial
  | (p, s) :: t, l => by
    unfold bend
    by_cases e : l = s
    · subst e
      rw [if_pos rfl]; exact dif_bend t l
    · rw [if_neg e]; exact ⟨e, dif_bend t s⟩
theorem bend_dif : ∀ {t : Ks} {l : Rat}, Dif l t → bend l t = t
  | [], _, _ => rfl
  | (p, s) :: t, l, h => by
    unfold bend
    rw [if_neg h.1, bend_dif h.2]
theorem lastS_bend : ∀ (t : Ks) (l : Rat), lastS l (bend l t) = lastS l t
  | [], _ => rfl
  | (p, s) :: t, l => by
    unfold bend
    by_cases e : l = s
    · subst e
      rw [if_pos rfl, lastS_bend t l]; rfl
    · rw [if_neg e]
      exact lastS_bend t s
theorem lastS_aft : ∀ {ps : List Kn} {l r : Rat}, ps ≠ [] → lastS l (aft ps r) = r
  | [], _, _, h => absurd rfl h
  | [_], _, _, _ => rfl
  | p :: q :: t, l, r, _ => lastS_aft (ps := q :: t) (l := slk p q) (by simp)
theorem aft_self : ∀ {ks : Ks} {l : Rat}, Con ks → ks ≠ [] → aft (ks.map (·.1)) (lastS l ks) = ks
  | [], _, _, h => absurd rfl h
  | [(p, s)], _, _, _ => rfl
  | (p, s) :: (q, u) :: t, l, h, _ => by
    have ih := aft_self (ks := (q, u) :: t) (l := s) h.2.2 (by simp)
    show (p, slk p q) :: aft (((q, u) :: t).map (·.1)) (lastS s ((q, u) :: t)) = _
    rw [ih]
    have : slk p q = s := by
      have h1 := h.1
      have h2 := h.2.1
      unfold ln at h2
      unfold slk
      grind
    rw [this]
structure Shp4 (X Y S n : Nat) (l : Rat) (ks : Ks) : Prop where
  con : Con ks
  form : Dif l ks ∨ ∃ c, ks = [((0, c), l)]
  ne : ks ≠ []
  left0 : 0 ≤ l
  up : ∀ k ∈ ks, 0 ≤ k.2
  sz : SS X Y S l ks
  len : ks.length ≤ n
theorem can_form {ps : List Kn} {l r : Rat} (hn : ps ≠ []) : (Dif l (canR ps l r) ∨ ∃ c, canR ps l r = [((0, c), l)]) ∧ canR ps l r ≠ [] ∧ lastS l (canR ps l r) = r ∧ (canR ps l r).length ≤ ps.length := by
  match ps, hn with
  | p :: t, _ =>
    have e : canR (p :: t) l r = match bend l (aft (p :: t) r) with
      | [] => [((0, p.2 - l * p.1), r)]
      | b => b := rfl
    have hlen : (bend l (aft (p :: t) r)).length ≤ (p :: t).length := by
      have key : ∀ (t : Ks) (l : Rat), (bend l t).length ≤ t.length := fun t => by
        induction t with
        | nil => exact fun _ => Nat.le_refl 0
        | cons k t ih =>
          intro l
          obtain ⟨p, s⟩ := k
          unfold bend
          have := ih l
          have := ih s
          split <;> simp <;> omega
      have := key (aft (p :: t) r) l
      rw [aft_len] at this
      exact this
    have hl := lastS_bend (aft (p :: t) r) l
    rw [lastS_aft (by simp)] at hl
    rw [e]
    match hb : bend l (aft (p :: t) r) with
    | [] =>
      have el := bend_last (by simp) hb
      subst el
      exact ⟨.inr ⟨_, rfl⟩, by simp, rfl, by simp⟩
    | k :: b =>
      have := dif_bend (aft (p :: t) r) l
      rw [hb] at this hl hlen
      exact ⟨.inl this, by simp, hl, hlen⟩
theorem can_self {X Y S n : Nat} {l : Rat} {ks : Ks} (h : Shp4 X Y S n l ks) : canR (ks.map (·.1)) l (lastS l ks) = ks := by
  have ha := aft_self (l := l) h.con h.ne
  match ks, h.ne with
  | k :: t, _ =>
    show (match bend l (aft ((k :: t).map (·.1)) (lastS l (k :: t))) with
      | [] => [((0, k.1.2 - l * k.1.1), lastS l (k :: t))]
      | b => b) = k :: t
    rw [ha]
    rcases h.form with hd | ⟨c, hc⟩
    · rw [bend_dif hd]
    · rw [hc]
      have e1 : k = ((0, c), l) := (List.cons.inj hc).1
      have e2 : t = [] := (List.cons.inj hc).2
      subst e1 e2
      show (match bend l [((0, c), l)] with
        | [] => [((0, c - l * 0), l)]
        | b => b) = _
      have : bend l [(((0 : Rat), c), l)] = [] := by unfold bend; rw [if_pos rfl]; rfl
      rw [this]
      show [((0, c - l * 0), l)] = _
      have : c - l * 0 = c := by grind
      rw [this]
theorem lastS_mem : ∀ {ks : Ks} {l : Rat}, ks ≠ [] → ∃ k ∈ ks, lastS l ks = k.2
  | [], _, h => absurd rfl h
  | [k], _, _ => ⟨k, List.mem_cons_self .., rfl⟩
  | k :: k2 :: t, l, _ => by
    obtain ⟨k3, m, e⟩ := lastS_mem (ks := k2 :: t) (l := k.2) (by simp)
    exact ⟨k3, List.mem_cons_of_mem _ m, e⟩
theorem sz_zero {n : Nat} (h : 0 < n) : Sz n n (0 : Rat) := by
  have h2 : 1 < 2 ^ n := Nat.one_lt_two_pow (by omega)
  exact ⟨show (0 : Int).natAbs < _ by simp; omega, show (((1 : Nat) : Int)).natAbs < _ by simpa using h2⟩
/-- what joining makes -/
theorem jn_ok {X Y S n X' Y' S' n' W : Nat} {l l' : Rat} {ks ks' : Ks} (h : Shp4 X Y S n l ks) (h' : Shp4 X' Y' S' n' l' ks') (w1 : X' ≤ W) (w2 : Y ≤ W) :
    Shp4 (X + Y + X' + S + 2) (X' + Y' + W + S' + 2) (S + S') ((n + 1) * (n' + 1)) (l * l') (jnR l ks l' ks') ∨ Shp4 1 (X' + Y' + (X + Y + 1 + S + 2) + S' + 2) (S + S') ((n + 1) * (n' + 1)) (l * l') (jnR l ks l' ks') := by
  have P := jn_parts (l' := l') h.con h'.con h.ne h'.ne h.left0 h.up
  have G : GermR (fun x => evS l' ks' (evS l ks x)) _ := germ_comp (germ_evS h.con h.ne) (germ_evS h'.con h'.ne) (fun s m => by
    rcases List.mem_cons.mp m with rfl | m
    · exact h.left0
    · obtain ⟨k, mk, rfl⟩ := List.mem_map.mp m
      exact h.up k mk)
  have hr : ∃ s u, s ∈ l :: ks.map (·.2) ∧ u ∈ l' :: ks'.map (·.2) ∧ lastS l ks * lastS l' ks' = s * u := by
    obtain ⟨k, m, e⟩ := lastS_mem (l := l) h.ne
    obtain ⟨k', m', e'⟩ := lastS_mem (l := l') h'.ne
    exact ⟨k.2, k'.2, List.mem_cons_of_mem _ (List.mem_map.mpr ⟨k, m, rfl⟩), List.mem_cons_of_mem _ (List.mem_map.mpr ⟨k', m', rfl⟩), by rw [e, e']⟩
  have sl1 : ∀ s ∈ l :: ks.map (·.2), 0 ≤ s ∧ Sz S S s := fun s m => by
    rcases List.mem_cons.mp m with rfl | m
    · exact ⟨h.left0, h.sz.left⟩
    · obtain ⟨k, mk, rfl⟩ := List.mem_map.mp m
      exact ⟨h.up k mk, h.sz.ss k mk⟩
  have sl2 : ∀ s ∈ l' :: ks'.map (·.2), 0 ≤ s ∧ Sz S' S' s := fun s m => by
    rcases List.mem_cons.mp m with rfl | m
    · exact ⟨h'.left0, h'.sz.left⟩
    · obtain ⟨k, mk, rfl⟩ := List.mem_map.mp m
      exact ⟨h'.up k mk, h'.sz.ss k mk⟩
  have prod : ∀ w, (∃ s u, s ∈ l :: ks.map (·.2) ∧ u ∈ l' :: ks'.map (·.2) ∧ w = s * u) → 0 ≤ w ∧ Sz (S + S') (S + S') w := fun w ⟨s, u, m, m', e⟩ => by
    rw [e]
    exact ⟨Rat.mul_nonneg (sl1 s m).1 (sl2 u m').1, Sz.mul (sl1 s m).2 (sl2 u m').2⟩
  have hev : ∀ x, evS (l * l') (jnR l ks l' ks') x = evS l' ks' (evS l ks x) := fun x => jnR_ev h.con h'.con h.ne h'.ne h.left0 h.up
  have hsl := spS_len (ts := ks'.map (·.1.1)) (ks := ks) (l := l)
  have hv : ∀ x ∈ spS (ks'.map (·.1.1)) l ks, Sz (X + Y + X' + S + 2) (X + Y + X' + S + 2) x ∧ Sz (X' + Y' + W + S' + 2) (X' + Y' + W + S' + 2) (evS l' ks' (evS l ks x)) := fun x hx => by
    obtain ⟨h1, h2⟩ := spS_val h.con h.up hx
    have zt : ∀ y ∈ ks'.map (·.1.1), Sz X' X' y := fun y m => by
      obtain ⟨k, mk, rfl⟩ := List.mem_map.mp m
      exact h'.sz.xs k mk
    refine ⟨?_, ?_⟩
    · rcases h2 with ⟨k, m, rfl⟩ | ⟨k, m, s, ms, hs0, y, my, rfl⟩
      · exact (h.sz.xs k m).mono (by omega) (by omega)
      · exact Sz.plc (h.sz.xs k m) (h.sz.ys k m) (sl1 s ms).2 (zt y my) hs0
    · have hx2 : Sz W W (evS l ks x) := by
        rcases h1 with h1 | ⟨k, m, e⟩
        · exact (zt _ h1).mono w1 w1
        · rw [e]; exact (h.sz.ys k m).mono w2 w2
      exact (h'.sz.ev h'.ne hx2).mono (by omega) (by omega)
  unfold jnR at hev ⊢
  generalize spS (ks'.map (·.1.1)) l ks = xs at P hv hsl hev
  have hps : (xs.map fun x => (x, evS l' ks' (evS l ks x))) ≠ [] := fun e => P.1 (List.map_eq_nil_iff.mp e)
  have pw : (xs.map fun x => (x, evS l' ks' (evS l ks x))).Pairwise (fun a b => a.1 < b.1) := List.pairwise_map.mpr (pieces_pair P.2.1)
  have hA := germ_aft G hr P.2.1
  have C := can_form (l := l * l') (r := lastS l ks * lastS l' ks') hps
  have hC := con_can (l := l * l') (r := lastS l ks * lastS l' ks') pw
  have memA : ∀ k ∈ aft (xs.map fun x => (x, evS l' ks' (evS l ks x))) (lastS l ks * lastS l' ks'), ∃ x ∈ xs, k.1 = (x, evS l' ks' (evS l ks x)) := fun k m => by
    have : k.1 ∈ (aft (xs.map fun x => (x, evS l' ks' (evS l ks x))) (lastS l ks * lastS l' ks')).map (·.1) := List.mem_map.mpr ⟨k, m, rfl⟩
    rw [aft_fst] at this
    obtain ⟨x, hx, e⟩ := List.mem_map.mp this
    exact ⟨x, hx, e.symm⟩
  have ln1 : (canR (xs.map fun x => (x, evS l' ks' (evS l ks x))) (l * l') (lastS l ks * lastS l' ks')).length ≤ (n + 1) * (n' + 1) := by
    have a := C.2.2.2
    rw [List.length_map] at a
    have b : (ks.length + 1) * ((ks'.map (·.1.1)).length + 1) ≤ (n + 1) * (n' + 1) := Nat.mul_le_mul (by have := h.len; omega) (by have := h'.len; simp; omega)
    omega
  have slA : ∀ k ∈ canR (xs.map fun x => (x, evS l' ks' (evS l ks x))) (l * l') (lastS l ks * lastS l' ks'), 0 ≤ k.2 ∧ Sz (S + S') (S + S') k.2 := fun k m => by
    rcases can_mem m with m | ⟨p, mp, e, _⟩
    · exact prod _ (hA k m)
    · rw [e]
      exact prod _ hr
  by_cases hl : ∃ k, canR (xs.map fun x => (x, evS l' ks' (evS l ks x))) (l * l') (lastS l ks * lastS l' ks') = [k] ∧ k.1.1 = 0
  · obtain ⟨k, e, e0⟩ := hl
    right
    have hk : k.1.2 = evS l' ks' (evS l ks 0) := by
      rw [← hev 0, e]
      obtain ⟨⟨x, y⟩, s⟩ := k
      have : x = 0 := e0
      subst this
      show y = if (0 : Rat) ≤ 0 then ln (0, y) s 0 else ln (0, y) (l * l') 0
      rw [if_pos Rat.le_refl]
      unfold ln
      grind
    refine ⟨hC, C.1, C.2.1, Rat.mul_nonneg h.left0 h'.left0, fun k m => (slA k m).1, ⟨Sz.mul h.sz.left h'.sz.left, ?_, ?_, fun k m => (slA k m).2⟩, ln1⟩
    · rw [e]
      intro k2 m
      have : k2 = k := by simpa using m
      subst this
      rw [e0]
      exact sz_zero (n := 1) (by omega)
    · rw [e]
      intro k2 m
      have : k2 = k := by simpa using m
      subst this
      rw [hk]
      have z0 := h.sz.ev h.ne (sz_zero (n := 1) (by omega))
      exact (h'.sz.ev h'.ne z0).mono (by omega) (by omega)
  · left
    refine ⟨hC, C.1, C.2.1, Rat.mul_nonneg h.left0 h'.left0, fun k m => (slA k m).1, ⟨Sz.mul h.sz.left h'.sz.left, fun k m => ?_, fun k m => ?_, fun k m => (slA k m).2⟩, ln1⟩
    · rcases can_mem m with m | ⟨p, mp, e, e2⟩
      · obtain ⟨x, hx, e⟩ := memA k m
        rw [e]
        exact (hv x hx).1
      · exact absurd ⟨k, e2, by rw [e]⟩ hl
    · rcases can_mem m with m | ⟨p, mp, e, e2⟩
      · obtain ⟨x, hx, e⟩ := memA k m
        rw [e]
        exact (hv x hx).2
      · exact absurd ⟨k, e2, by rw [e]⟩ hl
end Lw

set_option Elab.async false
set_option linter.all false
set_option maxRecDepth 100000
set_option maxHeartbeats 0
namespace Lw
open PySem Mi
theorem forL_st {S τ α ρ β : Type} {f : α → ρ → R S (Out ρ ρ β)} {st : Nat → ρ} : ∀ {xs : List α} {k : Nat}, (∀ i x, xs[i]? = some x → f x (st (k + i)) = sr (.nx (st (k + i + 1)))) → (forL f xs (st k) : R S (Out ρ τ β)) = sr (.nx (st (k + xs.length)))
  | [], k, _ => by rw [forL_nil]; rfl
  | x :: xs, k, h => by
    funext s
    have h0 := h 0 x rfl
    unfold forL
    rw [Nat.add_zero] at h0
    rw [h0]
    show forL f xs (st (k + 1)) s = _
    rw [forL_st (k := k + 1) (fun i y hy => by have := h (i + 1) y (by rw [List.getElem?_cons_succ]; exact hy); rw [show k + 1 + i = k + (i + 1) by omega]; exact this), List.length_cons, show k + 1 + xs.length = k + (xs.length + 1) by omega]
theorem pix_last {α : Type} (xs : List α) (x : α) : pix (xs ++ [x]) (-1) = some x := by
  unfold pix L2.atI L2.ixN
  rw [if_neg (by decide), if_pos (by simp; omega)]
  show (xs ++ [x])[((-1 : Int) + ((xs ++ [x]).length : Nat)).toNat]? = _
  rw [show ((-1 : Int) + (((xs ++ [x]).length : Nat) : Int)).toNat = xs.length by simp; omega, List.getElem?_append_right (Nat.le_refl _), Nat.sub_self]
  rfl
/-! ### fractions of any terms, as they are asked -/
theorem frac_ok {v : Int × Int} (h : 0 < v.2) : is_fraction (toD v) = .ok true := is_fraction_fr h
theorem told_ok {v : Int × Int} (h : 0 < v.2) (hb : Bd 9000 v.2) : told (toD v) = .ok (fr (qt v)) := by
  have := told_fr (p := v.1) h hb
  rw [low_fr h] at this
  exact this
theorem asked_ok {v : Int × Int} {x : Str} (h : 0 < v.2) (hb : Bd 9000 v.2) : asked (toD v) x = .ok (fr (qt v)) := asked_fr (frac_ok h) (told_ok h hb)
theorem nonneg_fr {s : Rat} : decide (0 ≤ (fr s).1) = decide (0 ≤ s) := decide_eq_decide.mpr Rat.num_nonneg
theorem slope_ok {v : Int × Int} (h : 0 < v.2) (hb : Bd 9000 v.2) : is_slope (toD v) = .ok (decide (0 ≤ qt v)) := by
  unfold is_slope is_slope_b
  simp -implicitDefEqProofs only [sb_sr, sb_sb, frac_ok h, sl_ok, sAnd_t, told_ok h hb, runF_rt, nonneg_fr]
def qk (k : (Int × Int) × (Int × Int)) : Kn := (qt k.1, qt k.2)
theorem told_knot_ok {k : (Int × Int) × (Int × Int)} (h1 : 0 < k.1.2) (h2 : 0 < k.2.2) (b1 : Bd 9000 k.1.2) (b2 : Bd 9000 k.2.2) : told_knot (toD k) = .ok (some (frk (qk k))) := by
  have e0 : dix (toD k) 0 = some (toD k.1) := rfl
  have e1 : dix (toD k) 1 = some (toD k.2) := rfl
  have e2 : isTy "tuple" (toD k) = some true := rfl
  have e3 : dlen (toD k) = some 2 := rfl
  unfold told_knot told_knot_b
  simp -implicitDefEqProofs only [sb_sr, sb_sb, e0, e1, e2, e3, so_some, Bool.not_true, sOr_f, decide_true, sIf_f, obd_nx, frac_ok h1, frac_ok h2, sl_ok, told_ok h1 b1, told_ok h2 b2, runF_rt]
  rfl
/-- what a law's step is made of -/
structure SpOk (B S : Nat) (sp : T3 (Int × Int) (List ((Int × Int) × (Int × Int))) (Int × Int)) : Prop where
  ap : 0 < sp.a.2
  cp : 0 < sp.c.2
  a0 : 0 ≤ qt sp.a
  c0 : 0 ≤ qt sp.c
  ab : Bd B sp.a.1 ∧ Bd B sp.a.2
  cb : Bd B sp.c.1 ∧ Bd B sp.c.2
  ne : sp.b ≠ []
  kp : ∀ k ∈ sp.b, 0 < k.1.2 ∧ 0 < k.2.2
  kb : ∀ k ∈ sp.b, (Bd B k.1.1 ∧ Bd B k.1.2) ∧ Bd B k.2.1 ∧ Bd B k.2.2
  pw : (sp.b.map qk).Pairwise fun a b => a.1 < b.1 ∧ a.2 ≤ b.2
  len : sp.b.length ≤ 64
  sa : Sz S S (qt sp.a)
  sl : ∀ k ∈ aft (sp.b.map qk) (qt sp.c), Sz S S k.2
  line : qt sp.a = qt sp.c → ∀ k, sp.b.head? = some k → Sz B B ((qk k).2 - qt sp.a * (qk k).1)
section
variable {B S : Nat} {sp : T3 (Int × Int) (List ((Int × Int) × (Int × Int))) (Int × Int)} (h : SpOk B S sp)
include h
theorem SpOk.sz {k : (Int × Int) × (Int × Int)} (m : k ∈ sp.b) : Sz B B (qk k).1 ∧ Sz B B (qk k).2 := by
  have p := h.kp k m
  have b := h.kb k m
  exact ⟨Sz.of p.1 b.1.1 b.1.2, Sz.of p.2 b.2.1 b.2.2⟩
theorem checked_ok (hB : B ≤ 1000) : checked_knots (Sum.inr sp.b) = .ok ((sp.b.map qk).map frk) := by
  have hlen := h.len
  have hpos : 0 < sp.b.length := List.length_pos_iff.mpr h.ne
  have e1 : isC theTags (Tg.tag (Sum.inr sp.b : KnotsO ⊕ List ((Int × Int) × (Int × Int)))) "Knots" = some false := rfl
  have e2 : (sumR (Sum.inr sp.b : KnotsO ⊕ List ((Int × Int) × (Int × Int)))) = some sp.b := rfl
  have e3 : isTy "list" (toD sp.b) = some true := rfl
  unfold checked_knots checked_knots_b
  simp -implicitDefEqProofs only [sb_sr, sb_sb, e1, e2, e3, so_some, sIf_f, obd_nx, Bool.not_true, sOr_f]
  rw [if_pos (by omega), decide_eq_true (show ((sp.b.length : Nat) : Int) ≤ 64 by omega), sb_sr, Bool.not_true, sIf_f, obd_nx, plen_ok (by simp), so_some, sb_sr, prng0 (by omega), so_some, sb_sr]
  have fs := forL_st (S := Unit) (τ := Empty) (β := List ((Int × Int) × (Int × Int))) (st := fun i => ((sp.b.take i).map qk).map frk) (xs := (List.range sp.b.length).map fun (j : Nat) => (j : Int)) (k := 0)
    (f := fun x5 r4 => sb (so (pix sp.b x5)) fun x => sb (sl (told_knot (toD x))) fun knot6 => obd (sIf (sr knot6.isNone) (sraise "InvalidStep" (mk_InvalidStep "knots" x5)) (sr (.nx ()))) fun r7 =>
      obd (sIf (sAnd (sr (decide (0 < x5))) (sOr (sb (so (pix r4 (-1))) fun x => sb (so knot6) fun x_1 => sb (sl (fless x.1 x_1.1)) fun x => sr (!x)) (sb (so knot6) fun x => sb (so (pix r4 (-1))) fun x_1 => sl (fless x.2 x_1.2)))) (sraise "InvalidStep" (mk_InvalidStep "knots" x5)) (sr (.nx ()))) fun r8 => sb (so knot6) fun a => sb (so (papp r4 a)) fun rows9 => sr (.nx rows9)) ?_
  · have e0 : ([] : List ((Int × Int) × (Int × Int))) = ((sp.b.take 0).map qk).map frk := rfl
    have el : ((List.range sp.b.length).map fun (j : Nat) => (j : Int)).length = sp.b.length := by simp
    rw [el, Nat.zero_add] at fs
    rw [e0, fs, obd_nx, List.take_length, runF_rt]
  · intro i x hx
    have hi : i < sp.b.length := by have := getE hx; simpa using this
    have ex : x = (i : Int) := by
      rw [List.getElem?_map, List.getElem?_range hi] at hx
      exact (Option.some.inj hx).symm
    subst ex
    rw [Nat.zero_add]
    have hk := List.getElem?_eq_getElem hi
    generalize sp.b[i] = k at hk
    have m := List.mem_of_getElem? hk
    have p := h.kp k m
    have b := h.kb k m
    have z := h.sz m
    rw [pix_at hk, so_some, sb_sr, told_knot_ok p.1 p.2 (b.1.2.mono (by omega)) (b.2.2.mono (by omega)), sl_ok, sb_sr]
    simp -implicitDefEqProofs only [Option.isNone_some, sIf_f, obd_nx, so_some, sb_sr, sAnd_r]
    have et : sp.b.take (i + 1) = sp.b.take i ++ [k] := by rw [List.take_succ, hk]; rfl
    have fin : papp (((sp.b.take i).map qk).map frk) (frk (qk k)) = some (((sp.b.take (i + 1)).map qk).map frk) := by
      rw [papp_ok (by simp; omega), et]
      simp
    by_cases c : i = 0
    · subst c
      rw [decide_eq_false (by decide), if_neg (by simp), sIf_f, obd_nx, fin, so_some, sb_sr]
    · obtain ⟨j, rfl⟩ : ∃ j, i = j + 1 := ⟨i - 1, by omega⟩
      have hj := List.getElem?_eq_getElem (l := sp.b) (i := j) (by omega)
      generalize sp.b[j] = q at hj
      have mq := List.mem_of_getElem? hj
      have zq := h.sz mq
      have et2 : ((sp.b.take (j + 1)).map qk).map frk = ((sp.b.take j).map qk).map frk ++ [frk (qk q)] := by rw [List.take_succ, hj]; simp
      have lt : (qk q).1 < (qk k).1 ∧ (qk q).2 ≤ (qk k).2 := by
        have pw := List.pairwise_iff_getElem.mp h.pw j (j + 1) (by simp; omega) (by simp; omega) (by omega)
        obtain ⟨_, hj2⟩ := List.getElem?_eq_some_iff.mp hj
        obtain ⟨_, hk2⟩ := List.getElem?_eq_some_iff.mp hk
        simp only [List.getElem_map, hj2, hk2] at pw
        exact pw
      rw [decide_eq_true (by omega), if_pos rfl, et2, pix_last, so_some, sb_sr, sb_sr]
      have f1 : fless (frk (qk q)).1 (frk (qk k)).1 = .ok true := by rw [← decide_eq_true lt.1]; exact fless_q zq.1 z.1 (by omega) (by omega)
      have f2 : fless (frk (qk k)).2 (frk (qk q)).2 = .ok false := by
        rw [← decide_eq_false (show ¬ (qk k).2 < (qk q).2 by have := lt.2; grind)]; exact fless_q z.2 zq.2 (by omega) (by omega)
      rw [f1, f2, sl_ok, sl_ok, sb_sr, Bool.not_true, sOr_f, sIf_f, obd_nx, ← et2, fin, so_some, sb_sr]
end
end Lw

set_option Elab.async false
set_option linter.all false
set_option maxRecDepth 100000
set_option maxHeartbeats 0
namespace Lw
open PySem Mi
def stp (l : Rat) (ks : Ks) : StepO := ⟨(enc l ks).1, (enc l ks).2⟩
theorem shape_ok (l : Rat) (ks : Ks) : Step_shape (stp l ks) = .ok (enc l ks) := rfl
theorem left_ok (l : Rat) (ks : Ks) : Step_left (stp l ks) = .ok (fr l) := by
  unfold Step_left Step_left_b
  simp -implicitDefEqProofs only [sb_sr, sb_sb]
  show runF (sb (so (pix (enc l ks).2 0)) _) = _
  rw [enc_first, so_some, sb_sr, runF_rt]
theorem right_ok (l : Rat) (ks : Ks) : Step_right (stp l ks) = .ok (fr (lastS l ks)) := by
  unfold Step_right Step_right_b
  simp -implicitDefEqProofs only [sb_sr, sb_sb]
  show runF (sb (so (pix (enc l ks).2 (-1))) _) = _
  rw [enc_last, so_some, sb_sr, runF_rt]
theorem knots_ok (l : Rat) (ks : Ks) : Step_knots (stp l ks) = .ok (ks.map fun k => frk k.1) := rfl
theorem runM_nx {C : Type} (x : C) : runM (sr (.nx x)) = .ok x := rfl
theorem mk_step_ok {X Y S : Nat} {v w : Int × Int} {d : KnotsO ⊕ List ((Int × Int) × (Int × Int))} {ps : List Kn} (hv : 0 < v.2) (hw : 0 < w.2) (bv : Bd 9000 v.2) (bw : Bd 9000 w.2) (v0 : 0 ≤ qt v) (w0 : 0 ≤ qt w) (hd : checked_knots d = .ok (ps.map frk))
    (hn : ps ≠ []) (hp : ps.Pairwise (fun a b => a.1 < b.1)) (z : PtSz X Y ps) (hl : Sz S S (qt v)) (c1 : 2 * X + 2 * Y + 1 ≤ 9000) (c2 : S + X + Y ≤ 9000) (c3 : ps.length ≤ 100000) :
    mk_Step (toD v) d (toD w) = .ok (stp (qt v) (canR ps (qt v) (qt w))) := by
  unfold mk_Step Step___init___b
  simp -implicitDefEqProofs only [sb_sr, sb_sb, slope_ok hv bv, slope_ok hw bw, decide_eq_true v0, decide_eq_true w0, sl_ok, Bool.not_true, sIf_f, obd_nx, hd, told_ok hv bv, told_ok hw bw, canonical_q hn hp z hl c1 c2 c3, runM_nx]
  rfl
theorem law_step_ok {B S : Nat} {sp : T3 (Int × Int) (List ((Int × Int) × (Int × Int))) (Int × Int)} (h : SpOk B S sp) (hB : B ≤ 1000) (hS : S ≤ 1000) : L_law_step sp = .ok (stp (qt sp.a) (canR (sp.b.map qk) (qt sp.a) (qt sp.c))) := by
  have hlen := h.len
  have hk := checked_ok h hB
  have pw : (sp.b.map qk).Pairwise (fun a b => a.1 < b.1) := h.pw.imp fun h => h.1
  have key := mk_step_ok h.ap h.cp (h.ab.2.mono (by omega)) (h.cb.2.mono (by omega)) h.a0 h.c0 hk (by simpa using h.ne) pw (X := B) (Y := B) ⟨fun p m => by
    obtain ⟨k, mk, rfl⟩ := List.mem_map.mp m
    exact (h.sz mk).1, fun p m => by
    obtain ⟨k, mk, rfl⟩ := List.mem_map.mp m
    exact (h.sz mk).2⟩ h.sa (by omega) (by omega) (by simpa using by omega)
  unfold L_law_step L_law_step_b
  simp -implicitDefEqProofs only [sb_sr, sb_sb]
  rw [lcL_ok (t := fun _ => true) (g := fun k : (Int × Int) × (Int × Int) => k) (fun x hx => ⟨rfl, fun _ => rfl⟩) (by simp; omega), sb_sr, List.filter_eq_self.mpr fun _ _ => rfl, List.map_id', List.nil_append, key, sl_ok, sb_sr, runF_rt]
theorem fr_qt_fr (r : Rat) : qt (fr r) = r := qt_fr r
theorem Sz.fr {n : Nat} {r : Rat} (h : Sz n n r) : Bd n (Lw.fr r).1 ∧ Bd n (Lw.fr r).2 := ⟨h.num, h.den⟩
/-- a shape made anew -/
theorem mk_self {X Y S n : Nat} {l : Rat} {ks : Ks} (h : Shp4 X Y S n l ks) (c1 : 2 * X + 2 * Y + 1 ≤ 9000) (c2 : S + X + Y ≤ 9000) (c3 : n ≤ 1000) :
    mk_Step (toD (fr l)) (Sum.inl ⟨ks.map fun k => frk k.1⟩) (toD (fr (lastS l ks))) = .ok (stp l ks) := by
  obtain ⟨k, mk, ek⟩ := lastS_mem (l := l) h.ne
  have hlen := h.len
  have hd : checked_knots (Sum.inl ⟨ks.map fun k => frk k.1⟩) = .ok ((ks.map (·.1)).map frk) := by rw [List.map_map]; rfl
  have h1 : Bd 9000 (fr l).2 := h.sz.left.den.mono (by omega)
  have h2 : Bd 9000 (fr (lastS l ks)).2 := by rw [ek]; exact (h.sz.ss k mk).den.mono (by omega)
  have q1 := qt_fr l
  have q2 := qt_fr (lastS l ks)
  have r := mk_step_ok (S := S) (fr_pos l) (fr_pos (lastS l ks)) h1 h2 (by rw [q1]; exact h.left0) (by rw [q2, ek]; exact h.up k mk) hd (by simpa using h.ne) (List.pairwise_map.mpr (List.pairwise_map.mp (con_pair h.con))) (X := X) (Y := Y) ⟨fun p m => by
    obtain ⟨k, mk, rfl⟩ := List.mem_map.mp m
    exact h.sz.xs k mk, fun p m => by
    obtain ⟨k, mk, rfl⟩ := List.mem_map.mp m
    exact h.sz.ys k mk⟩ (by rw [q1]; exact h.sz.left) c1 c2 (by rw [List.length_map]; omega)
  rw [r, q1, q2, can_self h]
theorem shift_ok {X Y S n X' Y' S' n' W : Nat} {l l' : Rat} {ks ks' : Ks} (h : Shp4 X Y S n l ks) (h' : Shp4 X' Y' S' n' l' ks') (w1 : X' ≤ W) (w2 : Y ≤ W) (c1 : 2 * (X + Y + X' + S + 2) + 2 * (X' + Y' + W + S' + 2) + 1 ≤ 9000) (c2 : (X + Y + X' + S + 2) + X + S + Y ≤ 9000) (c3 : W + X' + S' + Y' ≤ 9000) (c4 : (S + S') + (X + Y + X' + S + 2) + (X' + Y' + W + S' + 2) ≤ 9000)
    (c5 : 2 * (X' + Y' + (X + Y + 1 + S + 2) + S' + 2) + 3 ≤ 9000) (c6 : S + S' + 1 + (X' + Y' + (X + Y + 1 + S + 2) + S' + 2) ≤ 9000) (n1 : n < 300) (n2 : n' < 300) (n3 : (n + 1) * (n' + 1) ≤ 1000) :
    Step___rshift__ (stp l ks) (stp l' ks') = .ok (stp (l * l') (jnR l ks l' ks')) := by
  have l1 := h.len
  have l2 := h'.len
  have J := joined_q h.con h'.con h.ne h'.ne h.left0 h.up h.sz h'.sz w1 w2 c1 c2 c3 c4 (by omega) (by omega)
  have K := jn_ok h h' w1 w2
  have M : mk_Step (toD (fr (l * l'))) (Sum.inl ⟨(jnR l ks l' ks').map fun k => frk k.1⟩) (toD (fr (lastS (l * l') (jnR l ks l' ks')))) = .ok (stp (l * l') (jnR l ks l' ks')) := by
    rcases K with K | K
    · exact mk_self K (by omega) (by omega) n3
    · exact mk_self K (by omega) (by omega) n3
  have mkk : ∀ ks : Ks, mk_Knots (ks.map fun k => frk k.1) = .ok ⟨ks.map fun k => frk k.1⟩ := fun ks => rfl
  unfold Step___rshift__ Step___rshift___b
  simp -implicitDefEqProofs only [sb_sr, sb_sb, shape_ok, sl_ok, J, enc_first, enc_last, so_some]
  rw [show (enc (l * l') (jnR l ks l' ks')).1 = (jnR l ks l' ks').map fun k => frk k.1 from rfl, mkk, sl_ok, sb_sr, M, sl_ok, sb_sr, runF_rt]
theorem call_ok {X Y S n T : Nat} {l : Rat} {ks : Ks} {x : Int × Int} (h : Shp4 X Y S n l ks) (hx : 0 < x.2) (bx : Bd T x.1 ∧ Bd T x.2) (c : Y + (T + X + S) ≤ 9000) (hn : n < 1000) : Step___call__ (stp l ks) (toD x) = .ok (fr (evS l ks (qt x))) := by
  have l1 := h.len
  have z : Sz T T (qt x) := Sz.of hx bx.1 bx.2
  have V := value_at_q h.ne h.sz.sh z (by omega) (by omega) (by omega) (by omega) (by omega) (by omega)
  unfold Step___call__ Step___call___b
  simp -implicitDefEqProofs only [sb_sr, sb_sb, shape_ok, sl_ok, asked_ok hx (bx.2.mono (by omega : T ≤ 9000)), V, runF_rt]
end Lw

set_option Elab.async false
set_option linter.all false
set_option maxRecDepth 100000
set_option maxHeartbeats 0
namespace Lw
open PySem Mi
/-! ### the law's own reckoning, in any terms -/
structure Fq (T : Nat) (v : Int × Int) (r : Rat) : Prop where
  pos : 0 < v.2
  val : qt v = r
  b1 : Bd T v.1
  b2 : Bd T v.2
theorem Fq.mono {T T' : Nat} {v : Int × Int} {r : Rat} (h : Fq T v r) (k : T ≤ T') : Fq T' v r := ⟨h.pos, h.val, h.b1.mono k, h.b2.mono k⟩
theorem Fq.sz {T : Nat} {v : Int × Int} {r : Rat} (h : Fq T v r) : Sz T T r := by rw [← h.val]; exact Sz.of h.pos h.b1 h.b2
theorem Fq.of_fr {n : Nat} {r : Rat} (h : Sz n n r) : Fq n (fr r) r := ⟨fr_pos r, qt_fr r, h.num, h.den⟩
section
variable {A B : Nat} {a b : Int × Int} {ra rb : Rat} (ha : Fq A a ra) (hb : Fq B b rb)
include ha hb
theorem plus_q (h : A + B ≤ 800000) : ∃ v, L_law_plus a b = .ok v ∧ Fq (A + B + 1) v (ra + rb) := by
  refine ⟨(a.1 * b.2 + b.1 * a.2, a.2 * b.2), ?_, Int.mul_pos ha.pos hb.pos, ?_, ?_, ?_⟩
  · unfold L_law_plus L_law_plus_b
    simp -implicitDefEqProofs only [sb_sr, sb_sb, pmul_s ha.b1 hb.b2 (by omega), pmul_s hb.b1 ha.b2 (by omega), pmul_s ha.b2 hb.b2 (by omega), so_some, runF_rt]
  · rw [qt_add ha.pos hb.pos, ha.val, hb.val]
  · exact ((ha.b1.mul hb.b2).add ((hb.b1.mul ha.b2).mono (by omega)))
  · exact (ha.b2.mul hb.b2).mono (by omega)
theorem minus_q (h : A + B ≤ 800000) : ∃ v, L_law_minus a b = .ok v ∧ Fq (A + B + 1) v (ra - rb) := by
  refine ⟨(a.1 * b.2 - b.1 * a.2, a.2 * b.2), ?_, Int.mul_pos ha.pos hb.pos, ?_, ?_, ?_⟩
  · unfold L_law_minus L_law_minus_b
    simp -implicitDefEqProofs only [sb_sr, sb_sb, pmul_s ha.b1 hb.b2 (by omega), pmul_s hb.b1 ha.b2 (by omega), pmul_s ha.b2 hb.b2 (by omega), so_some, runF_rt]
  · rw [qt_sub ha.pos hb.pos, ha.val, hb.val]
  · exact ((ha.b1.mul hb.b2).sub ((hb.b1.mul ha.b2).mono (by omega)))
  · exact (ha.b2.mul hb.b2).mono (by omega)
theorem times_q (h : A + B ≤ 800000) : ∃ v, L_law_times a b = .ok v ∧ Fq (A + B) v (ra * rb) := by
  refine ⟨(a.1 * b.1, a.2 * b.2), ?_, Int.mul_pos ha.pos hb.pos, ?_, ?_, ?_⟩
  · unfold L_law_times L_law_times_b
    simp -implicitDefEqProofs only [sb_sr, sb_sb, pmul_s ha.b1 hb.b1 (by omega), pmul_s ha.b2 hb.b2 (by omega), so_some, runF_rt]
  · rw [qt_mul ha.pos hb.pos, ha.val, hb.val]
  · exact ha.b1.mul hb.b1
  · exact ha.b2.mul hb.b2
theorem over_q (h0 : 0 < rb) (h : A + B ≤ 800000) : ∃ v, L_law_over a b = .ok v ∧ Fq (A + B) v (ra / rb) := by
  have hp : 0 < b.1 := by
    have h1 := qt_lt (a := fr 0) (b := b) (fr_pos 0) hb.pos
    rw [qt_fr, hb.val] at h1
    have := h1.mpr h0
    have e : (fr 0).1 = 0 := rfl
    have e2 : (fr 0).2 = 1 := rfl
    rw [e, e2, Int.zero_mul, Int.mul_one] at this
    exact this
  refine ⟨(a.1 * b.2, a.2 * b.1), ?_, Int.mul_pos ha.pos hp, ?_, ?_, ?_⟩
  · unfold L_law_over L_law_over_b
    simp -implicitDefEqProofs only [sb_sr, sb_sb, pmul_s ha.b1 hb.b2 (by omega), pmul_s ha.b2 hb.b1 (by omega), so_some, runF_rt]
  · rw [qt_div ha.pos hb.pos hp, ha.val, hb.val]
  · exact ha.b1.mul hb.b2
  · exact ha.b2.mul hb.b1
theorem less_q (h : A + B ≤ 800000) : L_law_less a b = .ok (decide (ra < rb)) := by
  unfold L_law_less L_law_less_b
  simp -implicitDefEqProofs only [sb_sr, sb_sb, pmul_s ha.b1 hb.b2 (by omega), pmul_s hb.b1 ha.b2 (by omega), so_some, runF_rt]
  have := qt_lt ha.pos hb.pos
  rw [ha.val, hb.val] at this
  exact congrArg Except.ok (decide_eq_decide.mpr this)
end
theorem pos1_q {A : Nat} {a : Int × Int} {ra : Rat} (ha : Fq A a ra) : decide (0 < a.1) = decide (0 < ra) := by
  refine decide_eq_decide.mpr ?_
  have h1 := qt_lt (a := fr 0) (b := a) (fr_pos 0) ha.pos
  rw [qt_fr, ha.val] at h1
  rw [← h1]
  show _ ↔ (0 : Int) * _ < a.1 * 1
  rw [Int.zero_mul, Int.mul_one]
/-- a spec, as the law reckons with it -/
structure SpA (B : Nat) (sp : T3 (Int × Int) (List ((Int × Int) × (Int × Int))) (Int × Int)) : Prop where
  a : Fq B sp.a (qt sp.a)
  c : Fq B sp.c (qt sp.c)
  ne : sp.b ≠ []
  k : ∀ k ∈ sp.b, Fq B k.1 (qk k).1 ∧ Fq B k.2 (qk k).2
  pw : (sp.b.map qk).Pairwise fun a b => a.1 < b.1
  len : sp.b.length ≤ 1000
/-- what a spec tells -/
def spE (sp : T3 (Int × Int) (List ((Int × Int) × (Int × Int))) (Int × Int)) (x : Rat) : Rat := evS (qt sp.a) (aft (sp.b.map qk) (qt sp.c)) x
def lwT (r x : Rat) : List Kn → Rat
  | [] => 0
  | [p] => ln p r x
  | p :: q :: t => if x ≤ q.1 then ln p (slk p q) x else lwT r x (q :: t)
theorem lwT_ev : ∀ {t : List Kn} {p : Kn} {r x : Rat}, (p :: t).Pairwise (fun a b => a.1 < b.1) → p.1 ≤ x → ∀ l, evS l (aft (p :: t) r) x = lwT r x (p :: t)
  | [], p, r, x, _, hx, l => by
    show (if p.1 ≤ x then ln p r x else _) = ln p r x
    rw [if_pos hx]
  | q :: t, p, r, x, h, hx, l => by
    have pw := List.pairwise_cons.mp h
    have hpq := pw.1 q (List.mem_cons_self ..)
    have hC := con_aft (r := r) h
    have e : ∃ s u, aft (q :: t) r = (q, s) :: u := by
      match t with
      | [] => exact ⟨_, _, rfl⟩
      | _ :: _ => exact ⟨_, _, rfl⟩
    obtain ⟨s, u, hu⟩ := e
    have ea : aft (p :: q :: t) r = (p, slk p q) :: aft (q :: t) r := rfl
    rw [ea] at hC ⊢
    show (if p.1 ≤ x then evT p (slk p q) (aft (q :: t) r) x else _) = if x ≤ q.1 then ln p (slk p q) x else lwT r x (q :: t)
    rw [if_pos hx]
    by_cases c : q.1 ≤ x
    · have ih := lwT_ev (r := r) (x := x) pw.2 c l
      rw [hu] at ih hC ⊢
      show (if q.1 ≤ x then evT q s u x else _) = _
      have ih : (if q.1 ≤ x then evT q s u x else ln q l x) = lwT r x (q :: t) := ih
      rw [if_pos c] at ih ⊢
      rw [ih]
      split
      · have : x = q.1 := by grind
        subst this
        rw [← ih, evT_at hC.2.2]
        exact hC.2.1
      · rfl
    · rw [hu]
      show (if q.1 ≤ x then _ else ln p (slk p q) x) = _
      rw [if_neg c, if_pos (by grind)]
end Lw

set_option Elab.async false
set_option linter.all false
set_option maxRecDepth 100000
set_option maxHeartbeats 0
namespace Lw
open PySem Mi
theorem range_split {n : Nat} : (List.range n).map (fun (j : Nat) => (j : Int)) = (List.range' 0 n).map fun (j : Nat) => (j : Int) := by rw [List.range_eq_range']
/-- a walk by number with an early answer -/
theorem forL_find {S τ β : Type} {f : Int → Unit → R S (Out Unit Unit β)} {P : Nat → β → Prop} {Q : Nat → Prop} : ∀ (m i : Nat), (∀ j, i ≤ j → j < i + m → Q j → (∃ v, f (j : Int) () = sr (.rt v) ∧ P j v) ∨ (f (j : Int) () = sr (.nx ()) ∧ Q (j + 1))) → Q i →
    (∃ j v, (forL f ((List.range' i m).map fun (j : Nat) => (j : Int)) () : R S (Out Unit τ β)) = sr (.rt v) ∧ i ≤ j ∧ j < i + m ∧ Q j ∧ P j v) ∨ ((forL f ((List.range' i m).map fun (j : Nat) => (j : Int)) () : R S (Out Unit τ β)) = sr (.nx ()) ∧ Q (i + m))
  | 0, i, _, hQ => .inr ⟨rfl, hQ⟩
  | m + 1, i, h, hQ => by
    rw [List.range'_succ, List.map_cons]
    rcases h i (Nat.le_refl _) (by omega) hQ with ⟨v, e, p⟩ | ⟨e, q⟩
    · refine .inl ⟨i, v, ?_, Nat.le_refl _, by omega, hQ, p⟩
      funext s
      unfold forL
      rw [e]
      rfl
    · have e2 : (forL f ((i : Int) :: (List.range' (i + 1) m).map fun (j : Nat) => (j : Int)) () : R S (Out Unit τ β)) = forL f ((List.range' (i + 1) m).map fun (j : Nat) => (j : Int)) () := by
        funext s
        conv => lhs; unfold forL
        rw [e]
        rfl
      rw [e2]
      rcases forL_find m (i + 1) (fun j h1 h2 => h j (by omega) (by omega)) q with ⟨j, v, a, b, c, d⟩ | ⟨a, b⟩
      · exact .inl ⟨j, v, a, by omega, by omega, d⟩
      · exact .inr ⟨a, by rw [show i + (m + 1) = i + 1 + m by omega]; exact b⟩
theorem lwT_drop {ps : List Kn} {r x : Rat} {i : Nat} {p q : Kn} (h1 : ps[i]? = some p) (h2 : ps[i + 1]? = some q) : lwT r x (ps.drop i) = if x ≤ q.1 then ln p (slk p q) x else lwT r x (ps.drop (i + 1)) := by
  obtain ⟨a, ha⟩ := List.getElem?_eq_some_iff.mp h1
  obtain ⟨b, hb⟩ := List.getElem?_eq_some_iff.mp h2
  rw [List.drop_eq_getElem_cons a, List.drop_eq_getElem_cons b, ha, hb]
  rfl
theorem lwT_end {ps : List Kn} {r x : Rat} {i : Nat} {p : Kn} (h1 : ps[i]? = some p) (h2 : i + 1 = ps.length) : lwT r x (ps.drop i) = ln p r x := by
  obtain ⟨a, ha⟩ := List.getElem?_eq_some_iff.mp h1
  rw [List.drop_eq_getElem_cons a, ha, h2, List.drop_length]
  rfl
theorem at_q {B T : Nat} {sp : T3 (Int × Int) (List ((Int × Int) × (Int × Int))) (Int × Int)} {x : Int × Int} {rx : Rat} (h : SpA B sp) (hx : Fq T x rx) (c : T + 6 * B + 6 ≤ 800000) : ∃ v, L_law_at sp x = .ok v ∧ Fq (T + 6 * B + 6) v (spE sp rx) := by
  have hlen := h.len
  have hpos : 0 < sp.b.length := List.length_pos_iff.mpr h.ne
  obtain ⟨k0, hk0⟩ : ∃ k, sp.b[0]? = some k := ⟨_, List.getElem?_eq_getElem hpos⟩
  have m0 := h.k k0 (List.mem_of_getElem? hk0)
  have ek0 : pix sp.b 0 = some k0 := pix_at (i := 0) hk0
  have gk : ∀ i, i < sp.b.length → ∃ k, sp.b[i]? = some k ∧ pix sp.b (i : Int) = some k ∧ (sp.b.map qk)[i]? = some (qk k) ∧ Fq B k.1 (qk k).1 ∧ Fq B k.2 (qk k).2 := fun i hi => by
    have hk := List.getElem?_eq_getElem hi
    exact ⟨_, hk, pix_at hk, by rw [List.getElem?_map, hk]; rfl, h.k _ (List.mem_of_getElem? hk)⟩
  obtain ⟨t, et⟩ : ∃ t, sp.b.map qk = qk k0 :: t := by
    match hb : sp.b, hk0 with
    | k :: t, hk0 =>
      have : k = k0 := Option.some.inj hk0
      subst this
      exact ⟨_, rfl⟩
  have ea : ∃ s u, aft (qk k0 :: t) (qt sp.c) = (qk k0, s) :: u := by
    match t with
    | [] => exact ⟨_, _, rfl⟩
    | _ :: _ => exact ⟨_, _, rfl⟩
  obtain ⟨s0, u0, hu⟩ := ea
  have hpw := h.pw
  have hCon := con_aft (r := qt sp.c) hpw
  rw [et] at hCon
  unfold L_law_at L_law_at_b
  simp -implicitDefEqProofs only [sb_sr, sb_sb]
  rw [ek0, so_some, sb_sr, less_q m0.1 hx (by omega), sl_ok, sb_sr]
  by_cases c0 : (qk k0).1 < rx
  · rw [decide_eq_true c0, Bool.not_true, sIf_f, obd_nx, show ((sp.b.length : Nat) : Int) - 1 = ((sp.b.length - 1 : Nat) : Int) by omega, prng0 (by omega), so_some, sb_sr, range_split]
    have hval : spE sp rx = lwT (qt sp.c) rx ((sp.b.map qk).drop 0) := by
      unfold spE
      rw [List.drop_zero, et]
      rw [et] at hpw
      exact lwT_ev hpw (by grind) _
    have F := forL_find (S := Unit) (τ := Empty) (β := Int × Int) (P := fun j v => Fq (T + 6 * B + 6) v (lwT (qt sp.c) rx ((sp.b.map qk).drop j))) (Q := fun j => spE sp rx = lwT (qt sp.c) rx ((sp.b.map qk).drop j)) (f := fun x4 r3 => obd
                  (sIf (sb (so (pix sp.b (x4 + 1))) fun x_1 => sb (sl (L_law_less x_1.fst x)) fun x => sr !x)
                    (sb (so (pix sp.b (x4 + 1))) fun x_1 =>
                      sb (so (pix sp.b x4)) fun x_2 =>
                        sb (sl (L_law_minus x_1.fst x_2.fst)) fun wide6 =>
                          sb (so (pix sp.b x4)) fun x_3 =>
                            sb (sl (L_law_minus x x_3.fst)) fun x =>
                              sb (sl (L_law_over x wide6)) fun part7 =>
                                sb (so (pix sp.b x4)) fun x =>
                                  sb (so (pix sp.b (x4 + 1))) fun x_4 =>
                                    sb (so (pix sp.b x4)) fun x_5 =>
                                      sb (sl (L_law_minus x_4.snd x_5.snd)) fun x_6 =>
                                        sb (sl (L_law_times x_6 part7)) fun x_7 =>
                                          sb (sl (L_law_plus x.snd x_7)) fun x => sr (Out.rt x))
                    (sr (Out.nx ())))
                  fun r5 => sr (Out.nx ())) (sp.b.length - 1) 0 (fun j _ hj hQ => ?_) hval
    · rcases F with ⟨j, v, e, _, _, hQ, hP⟩ | ⟨e, hQ⟩
      · rw [e, obd_rt, runF_rt]
        refine ⟨v, rfl, ?_⟩
        rw [hQ]; exact hP
      · rw [e, obd_nx]
        rw [Nat.zero_add] at hQ
        obtain ⟨k, h1, h2, h3, h4, h5⟩ := gk (sp.b.length - 1) (by omega)
        obtain ⟨v1, e1, g1⟩ := minus_q hx h4 (by omega)
        obtain ⟨v2, e2, g2⟩ := times_q h.c g1 (by omega)
        obtain ⟨v3, e3, g3⟩ := plus_q h5 g2 (by omega)
        rw [h2, so_some, sb_sr, e1, sl_ok, sb_sr, e2, sl_ok, sb_sr, e3, sl_ok, sb_sr, runF_rt]
        refine ⟨v3, rfl, ?_⟩
        rw [hQ, lwT_end h3 (by simp; omega)]
        exact g3.mono (by omega)
    · rw [Nat.zero_add] at hj
      obtain ⟨k, h1, h2, h3, h4, h5⟩ := gk j (by omega)
      obtain ⟨q, q1, q2, q3, q4, q5⟩ := gk (j + 1) (by omega)
      rw [show ((j : Int) + 1) = ((j + 1 : Nat) : Int) by omega, q2, so_some, sb_sr, less_q q4 hx (by omega), sl_ok, sb_sr]
      have lt : (qk k).1 < (qk q).1 := by
        have pw := List.pairwise_iff_getElem.mp h.pw j (j + 1) (by simp; omega) (by simp; omega) (by omega)
        obtain ⟨_, a⟩ := List.getElem?_eq_some_iff.mp h3
        obtain ⟨_, b⟩ := List.getElem?_eq_some_iff.mp q3
        rw [a, b] at pw
        exact pw
      rw [lwT_drop h3 q3] at hQ ⊢
      by_cases d : (qk q).1 < rx
      · rw [decide_eq_true d, Bool.not_true, sIf_f, obd_nx]
        rw [if_neg (by grind)] at hQ
        exact .inr ⟨rfl, hQ⟩
      · left
        rw [decide_eq_false d, Bool.not_false, sIf_t, h2]
        obtain ⟨v1, e1, g1⟩ := minus_q q4 h4 (by omega)
        obtain ⟨v2, e2, g2⟩ := minus_q hx h4 (by omega)
        obtain ⟨v3, e3, g3⟩ := over_q g2 g1 (by grind) (by omega)
        obtain ⟨v4, e4, g4⟩ := minus_q q5 h5 (by omega)
        obtain ⟨v5, e5, g5⟩ := times_q g4 g3 (by omega)
        obtain ⟨v6, e6, g6⟩ := plus_q h5 g5 (by omega)
        simp -implicitDefEqProofs only [so_some, sb_sr]
        rw [e1, e2, e4, sl_ok, sb_sr, sl_ok, sb_sr, e3, sl_ok, sb_sr, sl_ok, sb_sr, e5, sl_ok, sb_sr, e6, sl_ok, sb_sr, obd_rt]
        refine ⟨v6, rfl, ?_⟩
        rw [if_pos (by grind)]
        have e : (qk k).2 + ((qk q).2 - (qk k).2) * ((rx - (qk k).1) / ((qk q).1 - (qk k).1)) = ln (qk k) (slk (qk k) (qk q)) rx := by
          unfold ln slk
          rw [Rat.div_def, Rat.div_def]
          grind
        rw [← e]
        exact g6.mono (by omega)
  · rw [decide_eq_false c0, Bool.not_false, sIf_t]
    obtain ⟨v1, e1, g1⟩ := minus_q m0.1 hx (by omega)
    obtain ⟨v2, e2, g2⟩ := times_q h.a g1 (by omega)
    obtain ⟨v3, e3, g3⟩ := minus_q m0.2 g2 (by omega)
    simp -implicitDefEqProofs only [so_some, sb_sr]
    rw [e1, sl_ok, sb_sr, e2, sl_ok, sb_sr, e3, sl_ok, sb_sr, obd_rt, runF_rt]
    refine ⟨v3, rfl, ?_⟩
    have e : spE sp rx = (qk k0).2 - qt sp.a * ((qk k0).1 - rx) := by
      unfold spE
      rw [et, hu]
      rw [hu] at hCon
      show (if (qk k0).1 ≤ rx then evT (qk k0) s0 u0 rx else ln (qk k0) (qt sp.a) rx) = _
      split
      · have : rx = (qk k0).1 := by grind
        subst this
        rw [evT_at hCon]
        grind
      · unfold ln
        grind
    rw [e]
    exact g3.mono (by omega)
end Lw

set_option Elab.async false
set_option linter.all false
set_option maxRecDepth 100000
set_option maxHeartbeats 0
namespace Lw
open PySem Mi
/-! ### the law's own -/
theorem law_gcd (p q : Int) : L_law_gcd p q = .ok (gc p q) := by
  have key : L_law_gcd_b p q = sr (.rt (gc p q)) := by
    unfold L_law_gcd_b
    simp only [sb_sr, sb_sb, abs_nat]
    rw [gcd_loop (fun _ => rfl) (fun _ => rfl) _ _ _ (by simp)]
    rfl
  unfold L_law_gcd
  rw [key]
  rfl
theorem law_told (p q : Int) : L_law_told (.tup [.int p, .int q]) = .ok (decide (1 ≤ q) && decide (gc p q = 1)) := by
  have key : L_law_told_b (.tup [.int p, .int q]) = sb (sAnd (sr (decide (1 ≤ q))) (sb (sl (L_law_gcd p q)) fun x => sr (decide (x = 1)))) fun x => sr (.rt x) := rfl
  unfold L_law_told
  rw [key, law_gcd]
  cases decide (1 ≤ q) <;> rfl
/-- told in lowest terms, and the due one -/
theorem told_fr_q (r : Rat) : L_law_told (toD (fr r)) = .ok true := by
  have h := law_told (fr r).1 (fr r).2
  have e : toD (fr r) = .tup [.int (fr r).1, .int (fr r).2] := rfl
  rw [e, h, fr_low r, decide_eq_true (show 1 ≤ (fr r).2 by have := fr_pos r; omega)]
  rfl
end Lw

set_option Elab.async false
set_option linter.all false
set_option maxRecDepth 100000
set_option maxHeartbeats 0
namespace Lw
open PySem Mi
section
variable {A B : Nat} {a b : Int × Int} {ra rb : Rat} (ha : Fq A a ra) (hb : Fq B b rb)
include ha hb
theorem even_q (h : A + B ≤ 800000) : L_law_even a b = .ok (decide (ra = rb)) := by
  unfold L_law_even L_law_even_b
  simp -implicitDefEqProofs only [sb_sr, sb_sb, pmul_s ha.b1 hb.b2 (by omega), pmul_s hb.b1 ha.b2 (by omega), so_some, runF_rt]
  have := qt_eq ha.pos hb.pos
  rw [ha.val, hb.val] at this
  exact congrArg Except.ok (decide_eq_decide.mpr this)
end
theorem gives_q {A T : Nat} {r : Rat} {due : Int × Int} (h : Sz A A r) (hd : Fq T due r) (c : A + T ≤ 800000) : L_law_gives (toD (fr r)) due = .ok true := by
  have key : L_law_gives_b (toD (fr r)) due = sb (sAnd (sl (L_law_told (toD (fr r)))) (sl (L_law_even (fr r) due))) fun x => sr (.rt x) := by
    unfold L_law_gives_b
    simp -implicitDefEqProofs only [sb_sr, sb_sb, sb_id]
    rfl
  unfold L_law_gives
  rw [key, told_fr_q, even_q (Fq.of_fr h) hd c, decide_eq_true rfl]
  rfl
end Lw

set_option Elab.async false
set_option linter.all false
set_option maxRecDepth 100000
set_option maxHeartbeats 0
namespace Lw
open PySem Mi
theorem forL_inv {S τ α ρ β : Type} {f : α → ρ → R S (Out ρ ρ β)} {Inv : Nat → ρ → Prop} : ∀ {xs : List α} {r : ρ} {k : Nat}, (∀ x ∈ xs, ∀ r i, i < k + xs.length → Inv i r → ∃ r', f x r = sr (.nx r') ∧ Inv (i + 1) r') → Inv k r → ∃ r', (forL f xs r : R S (Out ρ τ β)) = sr (.nx r') ∧ Inv (k + xs.length) r'
  | [], r, k, _, h0 => ⟨r, rfl, h0⟩
  | x :: xs, r, k, h, h0 => by
    obtain ⟨r1, e, h1⟩ := h x (List.mem_cons_self ..) r k (by simp) h0
    obtain ⟨r2, e2, h2⟩ := forL_inv (xs := xs) (r := r1) (k := k + 1) (fun y m r i hi => h y (List.mem_cons_of_mem _ m) r i (by rw [List.length_cons]; omega)) h1
    refine ⟨r2, ?_, by rw [List.length_cons, show k + (xs.length + 1) = k + 1 + xs.length by omega]; exact h2⟩
    rw [← e2]
    funext s
    conv => lhs; unfold forL
    rw [e]
    rfl
/-- all are fractions of this size -/
def AllF (T : Nat) (vs : List (Int × Int)) : Prop := ∀ v ∈ vs, ∃ r, Fq T v r
theorem AllF.app {T : Nat} {xs ys : List (Int × Int)} (h : AllF T xs) (k : AllF T ys) : AllF T (xs ++ ys) := fun v m => (List.mem_append.mp m).elim (h v) (k v)
theorem AllF.nil {T : Nat} : AllF T [] := fun v m => nomatch m
theorem AllF.one {T : Nat} {v : Int × Int} {r : Rat} (h : Fq T v r) : AllF T [v] := fun u m => by
  have : u = v := by simpa using m
  subst this
  exact ⟨r, h⟩
theorem AllF.mono {T T' : Nat} {xs : List (Int × Int)} (h : AllF T xs) (k : T ≤ T') : AllF T' xs := fun v m => by
  obtain ⟨r, e⟩ := h v m
  exact ⟨r, e.mono k⟩
/-! ### a step's told parts -/
def ptS (l : Rat) (ks : Ks) : T3 (Int × Int) (List ((Int × Int) × (Int × Int))) (Int × Int) := ⟨fr l, ks.map fun k => frk k.1, fr (lastS l ks)⟩
theorem qk_frk (p : Kn) : qk (frk p) = p := by unfold qk frk; rw [qt_fr, qt_fr]
theorem ptS_pts (l : Rat) (ks : Ks) : (ptS l ks).b.map qk = ks.map (·.1) := by
  show (ks.map fun k => frk k.1).map qk = _
  rw [List.map_map]
  refine List.map_congr_left fun k _ => ?_
  exact qk_frk k.1
section
variable {X Y S n B : Nat} {l : Rat} {ks : Ks} (h : Shp4 X Y S n l ks)
include h
theorem Shp4.last : Sz S S (lastS l ks) ∧ 0 ≤ lastS l ks := by
  obtain ⟨k, m, e⟩ := lastS_mem (l := l) h.ne
  rw [e]
  exact ⟨h.sz.ss k m, h.up k m⟩
theorem ptS_spA (hx : X ≤ B) (hy : Y ≤ B) (hs : S ≤ B) (hn : n ≤ 1000) : SpA B (ptS l ks) := by
  have hlen := h.len
  refine ⟨?_, ?_, ?_, ?_, ?_, ?_⟩
  · show Fq B (fr l) (qt (fr l))
    rw [qt_fr]; exact (Fq.of_fr h.sz.left).mono hs
  · show Fq B (fr (lastS l ks)) (qt (fr (lastS l ks)))
    rw [qt_fr]; exact (Fq.of_fr h.last.1).mono hs
  · intro e
    exact h.ne (List.map_eq_nil_iff.mp e)
  · intro k m
    obtain ⟨q, mq, rfl⟩ := List.mem_map.mp m
    rw [qk_frk]
    exact ⟨(Fq.of_fr (h.sz.xs q mq)).mono hx, (Fq.of_fr (h.sz.ys q mq)).mono hy⟩
  · rw [ptS_pts]
    exact List.pairwise_map.mpr (List.pairwise_map.mp (con_pair h.con))
  · show (ks.map fun k => frk k.1).length ≤ 1000
    rw [List.length_map]; omega
theorem ptS_ev (x : Rat) : spE (ptS l ks) x = evS l ks x := by
  unfold spE
  rw [ptS_pts]
  show evS (qt (fr l)) (aft (ks.map (·.1)) (qt (fr (lastS l ks)))) x = _
  rw [qt_fr, qt_fr, aft_self h.con h.ne]
end
theorem dif_get : ∀ {t : Ks} {l : Rat}, Dif l t → ∀ (i : Nat) (a : Rat) (k : Kn × Rat), (l :: t.map (·.2))[i]? = some a → t[i]? = some k → a ≠ k.2
  | [], _, _, _, _, _, _, hk => nomatch hk
  | (p, s) :: t, l, hd, 0, a, k, ha, hk => by
    have e1 : l = a := Option.some.inj ha
    have e2 : (p, s) = k := Option.some.inj hk
    subst e1 e2
    exact hd.1
  | (p, s) :: t, l, hd, i + 1, a, k, ha, hk => dif_get hd.2 i a k (by simpa using ha) (by simpa using hk)
theorem con_get : ∀ {t : Ks}, Con t → ∀ (i : Nat) (k q : Kn × Rat), t[i]? = some k → t[i + 1]? = some q → k.1.1 < q.1.1 ∧ q.1.2 = ln k.1 k.2 q.1.1
  | [], _, _, _, _, hk, _ => nomatch hk
  | [_], _, i, _, _, _, hq => by simp at hq
  | (p, s) :: (r, u) :: t, hc, 0, k, q, hk, hq => by
    have e1 : (p, s) = k := Option.some.inj hk
    have e2 : (r, u) = q := Option.some.inj hq
    subst e1 e2
    exact ⟨hc.1, hc.2.1⟩
  | (p, s) :: (r, u) :: t, hc, i + 1, k, q, hk, hq => con_get hc.2.2 i k q (by simpa using hk) (by simpa using hq)
theorem forL_ix {S τ α ρ β : Type} {f : α → ρ → R S (Out ρ ρ β)} {Inv : Nat → ρ → Prop} : ∀ {xs : List α} {r : ρ} {k : Nat}, (∀ i x, xs[i]? = some x → ∀ r, Inv (k + i) r → ∃ r', f x r = sr (.nx r') ∧ Inv (k + i + 1) r') → Inv k r → ∃ r', (forL f xs r : R S (Out ρ τ β)) = sr (.nx r') ∧ Inv (k + xs.length) r'
  | [], r, k, _, h0 => ⟨r, rfl, h0⟩
  | x :: xs, r, k, h, h0 => by
    obtain ⟨r1, e, h1⟩ := h 0 x rfl r h0
    obtain ⟨r2, e2, h2⟩ := forL_ix (xs := xs) (r := r1) (k := k + 1) (fun i y hy r hr => by
      have := h (i + 1) y (by rw [List.getElem?_cons_succ]; exact hy) r (by rw [show k + (i + 1) = k + 1 + i by omega]; exact hr)
      rw [show k + 1 + i + 1 = k + (i + 1) + 1 by omega]; exact this) h1
    refine ⟨r2, ?_, by rw [List.length_cons, show k + (xs.length + 1) = k + 1 + xs.length by omega]; exact h2⟩
    rw [← e2]
    funext s
    conv => lhs; unfold forL
    rw [e]
    rfl
theorem rng_get {n i : Nat} {x : Int} (h : ((List.range n).map fun (j : Nat) => (j : Int))[i]? = some x) : i < n ∧ x = (i : Int) := by
  have hi : i < n := by have := getE h; simpa using this
  rw [List.getElem?_map, List.getElem?_range hi] at h
  exact ⟨hi, (Option.some.inj h).symm⟩
theorem lastS_get : ∀ {ks : Ks} {l : Rat} {i : Nat} {k : Kn × Rat}, ks[i]? = some k → i + 1 = ks.length → lastS l ks = k.2
  | [], _, _, _, hk, _ => nomatch hk
  | [k], _, 0, _, hk, _ => by
    have := Option.some.inj hk
    subst this
    rfl
  | [_], _, i + 1, _, hk, hl => by simp at hl
  | k :: k2 :: t, l, 0, _, hk, hl => by simp at hl
  | k :: k2 :: t, l, i + 1, q, hk, hl => lastS_get (ks := k2 :: t) (l := k.2) (i := i) (by simpa using hk) (by simpa using hl)
end Lw

set_option Elab.async false
set_option linter.all false
set_option maxRecDepth 100000
set_option maxHeartbeats 0
namespace Lw
open PySem Mi
/-! ### draws -/
theorem Bd.rng {n : Nat} {b r : Int} (h0 : 0 ≤ r) (h1 : r < b) (h2 : b.natAbs ≤ 2 ^ n) : Bd n r := by
  unfold Bd
  have : r.natAbs < b.natAbs := by omega
  omega
theorem Bd.rng1 {n : Nat} {b r : Int} (h0 : 0 ≤ r) (h1 : r < b) (h2 : b.natAbs < 2 ^ n) : Bd n (1 + r) := by
  unfold Bd
  have : (1 + r).natAbs ≤ b.natAbs := by omega
  omega
theorem bd_small {n : Nat} {x : Int} (h : x.natAbs < 32) (hn : 5 ≤ n) : Bd n x := by
  have : 2 ^ 5 ≤ 2 ^ n := Nat.pow_le_pow_right (by decide) hn
  unfold Bd
  omega
/-- sizes of what is drawn: numbers, rises -/
structure DP where
  n0 : Nat
  d0 : Nat
  rn : Nat
  rd : Nat
  hq : rn + d0 ≤ n0 + rd
  h1 : 3 ≤ n0
  h2 : 2 ≤ d0
  h3 : 3 ≤ rn
  h4 : 2 ≤ rd
  h5 : d0 ≤ n0 + 1
def DP.nb (p : DP) (j : Nat) : Nat := p.n0 + (p.rd + 1) * j
def DP.db (p : DP) (j : Nat) : Nat := p.d0 + p.rd * j
theorem DP.nb0 (p : DP) : p.nb 0 = p.n0 := by unfold DP.nb; omega
theorem DP.db0 (p : DP) : p.db 0 = p.d0 := by unfold DP.db; omega
theorem DP.nb1 (p : DP) (j : Nat) : p.nb (j + 1) = p.nb j + (p.rd + 1) := by unfold DP.nb; rw [Nat.mul_add]; omega
theorem DP.db1 (p : DP) (j : Nat) : p.db (j + 1) = p.db j + p.rd := by unfold DP.db; rw [Nat.mul_add]; omega
theorem DP.rel (p : DP) : ∀ j, p.rn + p.db j ≤ p.nb j + p.rd
  | 0 => by rw [p.nb0, p.db0]; exact p.hq
  | j + 1 => by have := p.rel j; rw [p.nb1, p.db1]; omega
theorem DP.dn (p : DP) : ∀ j, p.db j ≤ p.nb j + 1
  | 0 => by rw [p.nb0, p.db0]; exact p.h5
  | j + 1 => by have := p.dn j; rw [p.nb1, p.db1]; omega
theorem DP.mono (p : DP) {j k : Nat} (h : j ≤ k) : p.nb j ≤ p.nb k ∧ p.db j ≤ p.db k := by
  unfold DP.nb DP.db
  exact ⟨Nat.add_le_add_left (Nat.mul_le_mul_left _ h) _, Nat.add_le_add_left (Nat.mul_le_mul_left _ h) _⟩
def wideP : DP := ⟨134, 67, 100, 34, by decide, by decide, by decide, by decide, by decide, by decide⟩
def smallP : DP := ⟨3, 2, 3, 2, by decide, by decide, by decide, by decide, by decide, by decide⟩
/-- a drawn number's sizes -/
def Dr (p : DP) (v : Int × Int) : Prop := 0 < v.2 ∧ Bd p.n0 v.1 ∧ Bd p.d0 v.2
theorem Dr.up {v : Int × Int} (p : DP) (h : Dr smallP v) : Dr p v := ⟨h.1, h.2.1.mono p.h1, h.2.2.mono p.h2⟩
theorem small_d (st : Pool) (g : GoodPool st) : Ok L_law_small st fun v s => GoodPool s ∧ Dr smallP v := by
  unfold L_law_small
  refine Ok.runP ?_
  unfold L_law_small_b
  simp -implicitDefEqProofs only [sb_sr, sb_sb]
  refine Ok.sb (Ok.draw g (by decide) (by decide) fun x s g x0 x1 => ?_)
  refine Ok.sb (Ok.draw g (by decide) (by decide) fun y s g y0 y1 => ?_)
  exact ⟨g, by show 0 < 1 + y; omega, Bd.of (b := 6) (by show (x - 6).natAbs ≤ 6; omega) (by decide), Bd.of (b := 3) (by show (1 + y).natAbs ≤ 3; omega) (by decide)⟩
theorem number_d (st : Pool) (g : GoodPool st) : Ok L_law_number st fun v s => GoodPool s ∧ Dr wideP v := by
  unfold L_law_number
  refine Ok.runP ?_
  unfold L_law_number_b
  simp -implicitDefEqProofs only [sb_sr, sb_sb]
  have e40 : ppow 10 40 = some (10 ^ 40 : Int) := rfl
  have e30 : ppow 10 30 = some (10 ^ 30 : Int) := rfl
  have e20 : ppow 10 20 = some (10 ^ 20 : Int) := rfl
  refine Ok.sb (Ok.draw g (by decide) (by decide) fun form s g f0 f1 => ?_)
  refine Ok.obd (Ok.sIf ⟨fun _ => ?_, fun _ => ?_⟩)
  · refine Ok.sb (Ok.draw g (by decide) (by decide) fun x s g x0 x1 => ?_)
    exact ⟨g, by show (0 : Int) < 1; decide, bd_small (by show (x - 6).natAbs < 32; omega) (by decide), bd_small (by show (1 : Int).natAbs < 32; decide) (by decide)⟩
  refine Ok.obd (Ok.sIf ⟨fun _ => ?_, fun _ => ?_⟩)
  · refine Ok.sb (Ok.draw g (by decide) (by decide) fun x s g x0 x1 => ?_)
    refine Ok.sb (Ok.draw g (by decide) (by decide) fun y s g y0 y1 => ?_)
    exact ⟨g, by show 0 < 1 + y; omega, bd_small (by show (x - 30).natAbs < 32; omega) (by decide), bd_small (by show (1 + y).natAbs < 32; omega) (by decide)⟩
  refine Ok.sb (Ok.draw g (by decide) (by decide) fun x s g x0 x1 => ?_)
  have hx : Bd 3 x := Bd.of (b := 2) (by omega) (by decide)
  refine Ok.sb (Ok.so (pmul_ok (n := 3) (Bd.of (b := 2) (by decide) (by decide)) hx (by decide)) ?_)
  have hs : Bd 1 (1 - 2 * x) := Bd.of (b := 1) (by omega) (by decide)
  refine Ok.obd (Ok.sIf ⟨fun _ => ?_, fun _ => ?_⟩)
  · refine Ok.sb (Ok.so e40 (Ok.sb (Ok.draw g (by decide +kernel) (by decide +kernel) fun y s g y0 y1 => ?_)))
    have hy : Bd 133 y := Bd.rng y0 y1 (by decide +kernel)
    refine Ok.sb (Ok.so (pmul_ok hs hy (by decide)) ?_)
    exact ⟨g, by show (0 : Int) < 1; decide, (hs.mul hy).mono (by decide), bd_small (by show (1 : Int).natAbs < 32; decide) (by decide)⟩
  · refine Ok.sb (Ok.so e30 (Ok.sb (Ok.draw g (by decide +kernel) (by decide +kernel) fun y s g y0 y1 => ?_)))
    have hy : Bd 100 y := Bd.rng y0 y1 (by decide +kernel)
    refine Ok.sb (Ok.so (pmul_ok hs hy (by decide)) ?_)
    refine Ok.sb (Ok.so e20 (Ok.sb (Ok.draw g (by decide +kernel) (by decide +kernel) fun z s g z0 z1 => ?_)))
    exact ⟨g, by show 0 < 1 + z; omega, (hs.mul hy).mono (by decide), Bd.rng1 z0 z1 (by decide +kernel)⟩
/-- a rise -/
def Rs (p : DP) (v : Int × Int) : Prop := 0 < v.1 ∧ 0 < v.2 ∧ Bd p.rn v.1 ∧ Bd p.rd v.2
theorem rise_d {p : DP} {w : Bool} (hw : w = true → p = wideP) (st : Pool) (g : GoodPool st) : Ok (L_law_rise w) st fun v s => GoodPool s ∧ Rs p v := by
  unfold L_law_rise
  refine Ok.runP ?_
  unfold L_law_rise_b
  simp -implicitDefEqProofs only [sb_sr, sb_sb]
  have e30 : ppow 10 30 = some (10 ^ 30 : Int) := rfl
  have e10 : ppow 10 10 = some (10 ^ 10 : Int) := rfl
  have small : ∀ {Q : Out Unit Empty (Int × Int) → Pool → Prop} s, GoodPool s → (∀ b s, GoodPool s ∧ Rs p b → Q (.rt b) s) → Ok (sb (pdraw 6) fun x => sb (pdraw 3) fun x_1 => sr (.rt (1 + x, 1 + x_1)) : R Pool (Out Unit Empty (Int × Int))) s Q := fun {Q} s g hQ => by
    refine Ok.sb (Ok.draw g (by decide) (by decide) fun x s g x0 x1 => ?_)
    refine Ok.sb (Ok.draw g (by decide) (by decide) fun y s g y0 y1 => ?_)
    exact hQ _ _ ⟨g, by show 0 < 1 + x; omega, by show 0 < 1 + y; omega, (Bd.of (n := 3) (b := 6) (by show (1 + x).natAbs ≤ 6; omega) (by decide)).mono p.h3, (Bd.of (n := 2) (b := 3) (by show (1 + y).natAbs ≤ 3; omega) (by decide)).mono p.h4⟩
  refine Ok.obd (Ok.sIf (Ok.sAnd ⟨fun hw1 => ?_, fun _ => ⟨fun h => (nomatch h), fun _ => Ok.sr (small _ g fun _ _ h => h)⟩⟩))
  refine Ok.sb (Ok.draw g (by decide) (by decide) fun x s g x0 x1 => ⟨fun _ => ?_, fun _ => Ok.sr (small _ g fun _ _ h => h)⟩)
  refine Ok.sb (Ok.so e30 (Ok.sb (Ok.draw g (by decide +kernel) (by decide +kernel) fun y s g y0 y1 => ?_)))
  refine Ok.sb (Ok.so e10 (Ok.sb (Ok.draw g (by decide +kernel) (by decide +kernel) fun z s g z0 z1 => ?_)))
  have ep := hw hw1
  subst ep
  exact ⟨g, by show 0 < 1 + y; omega, by show 0 < 1 + z; omega, Bd.rng1 (n := 100) y0 y1 (by decide +kernel), Bd.rng1 (n := 34) z0 z1 (by decide +kernel)⟩
/-- a slope -/
def Slp (v : Int × Int) : Prop := 0 ≤ v.1 ∧ 0 < v.2 ∧ Bd 5 v.1 ∧ Bd 5 v.2
theorem slope_d (st : Pool) (g : GoodPool st) : Ok L_law_slope st fun v s => GoodPool s ∧ Slp v := by
  unfold L_law_slope
  refine Ok.runP ?_
  unfold L_law_slope_b
  simp -implicitDefEqProofs only [sb_sr, sb_sb]
  refine Ok.sb (Ok.draw g (by decide) (by decide) fun form s g f0 f1 => ?_)
  refine Ok.obd (Ok.sIf ⟨fun h => ?_, fun _ => ?_⟩)
  · have h := of_decide_eq_true h
    refine Ok.sb (Ok.so rfl ?_)
    have key : ∃ v, pix [((0 : Int), (1 : Int)), (1, 1), (1, 2), (2, 1), (3, 1), (2, 3)] form = some v ∧ Slp v := by
      have : form = 0 ∨ form = 1 ∨ form = 2 ∨ form = 3 ∨ form = 4 ∨ form = 5 := by omega
      rcases this with e | e | e | e | e | e <;> subst e <;> exact ⟨_, rfl, by decide, by decide, bd_small (by decide) (by decide), bd_small (by decide) (by decide)⟩
    obtain ⟨v, e, k⟩ := key
    exact Ok.sb (Ok.so e ⟨g, k⟩)
  · refine Ok.sb (Ok.draw g (by decide) (by decide) fun x s g x0 x1 => ?_)
    refine Ok.sb (Ok.draw g (by decide) (by decide) fun y s g y0 y1 => ?_)
    exact ⟨g, by show 0 ≤ x; omega, by show 0 < 1 + y; omega, bd_small (by show x.natAbs < 32; omega) (by decide), bd_small (by show (1 + y).natAbs < 32; omega) (by decide)⟩
theorem qt_nonneg {v : Int × Int} (h : 0 ≤ v.1) (k : 0 < v.2) : 0 ≤ qt v := by
  have h1 := qt_lt (a := v) (b := fr 0) k (fr_pos 0)
  rw [qt_fr] at h1
  have e : v.1 * (fr 0).2 = v.1 := Int.mul_one _
  have e2 : (fr 0).1 * v.2 = 0 := Int.zero_mul _
  rw [e, e2] at h1
  have := h1.mpr
  grind
theorem qt_posv {v : Int × Int} (h : 0 < v.1) (k : 0 < v.2) : 0 < qt v := by
  have h1 := qt_lt (a := fr 0) (b := v) (fr_pos 0) k
  rw [qt_fr] at h1
  have e : v.1 * (fr 0).2 = v.1 := Int.mul_one _
  have e2 : (fr 0).1 * v.2 = 0 := Int.zero_mul _
  rw [e, e2] at h1
  exact h1.mp h
theorem plus_e {a b : Int × Int} {n d m e : Nat} (a1 : Bd n a.1) (a2 : Bd d a.2) (b1 : Bd m b.1) (b2 : Bd e b.2) (h1 : n + e ≤ 800000) (h2 : m + d ≤ 800000) (h3 : d + e ≤ 800000) : L_law_plus a b = .ok (a.1 * b.2 + b.1 * a.2, a.2 * b.2) := by
  unfold L_law_plus L_law_plus_b
  simp -implicitDefEqProofs only [sb_sr, sb_sb, pmul_s a1 b2 (by omega), pmul_s b1 a2 (by omega), pmul_s a2 b2 (by omega), so_some, runF_rt]
theorem aft_app2 : ∀ (ps : List Kn) (p q : Kn) (r : Rat), aft (ps ++ [p] ++ [q]) r = aft (ps ++ [p]) (slk p q) ++ [(q, r)]
  | [], p, q, r => rfl
  | [a], p, q, r => rfl
  | a :: b :: t, p, q, r => by
    have ih := aft_app2 (b :: t) p q r
    show (a, slk a b) :: aft ((b :: t) ++ [p] ++ [q]) r = _
    rw [ih]
    rfl
/-- the row so far -/
structure Gen (p : DP) (j : Nat) (x y : Int × Int) (ks : List ((Int × Int) × (Int × Int))) : Prop where
  len : ks.length = j + 1
  last : ∃ t, ks = t ++ [(x, y)]
  px : 0 < x.2 ∧ Bd (p.nb j) x.1 ∧ Bd (p.db j) x.2
  py : 0 < y.2 ∧ Bd (p.nb j) y.1 ∧ Bd (p.db j) y.2
  kp : ∀ k ∈ ks, (0 < k.1.2 ∧ 0 < k.2.2) ∧ (Bd (p.nb j + 1) k.1.1 ∧ Bd (p.nb j + 1) k.1.2) ∧ Bd (p.nb j + 1) k.2.1 ∧ Bd (p.nb j + 1) k.2.2
  pw : (ks.map qk).Pairwise fun a b => a.1 < b.1 ∧ a.2 ≤ b.2
  sl : ∀ r, ∀ k ∈ aft (ks.map qk) r, k.2 = r ∨ Sz (p.rn + p.rd) (p.rn + p.rd) k.2
  first : ∃ k t, ks = k :: t ∧ Dr p k.1 ∧ Dr p k.2
theorem Gen.one {p : DP} {x y : Int × Int} (hx : Dr p x) (hy : Dr p y) : Gen p 0 x y [(x, y)] := by
  have h5 := p.h5
  refine ⟨rfl, ⟨[], rfl⟩, by rw [p.nb0, p.db0]; exact hx, by rw [p.nb0, p.db0]; exact hy, fun k m => ?_, List.pairwise_singleton _ _, fun r k m => ?_, ⟨_, _, rfl, hx, hy⟩⟩
  · have : k = (x, y) := by simpa using m
    subst this
    rw [p.nb0]
    exact ⟨⟨hx.1, hy.1⟩, ⟨hx.2.1.mono (by omega), hx.2.2.mono (by omega)⟩, hy.2.1.mono (by omega), hy.2.2.mono (by omega)⟩
  · have : k = (qk (x, y), r) := by simpa [aft] using m
    subst this
    exact .inl rfl
theorem sz_rise {p : DP} {v : Int × Int} (h : Rs p v) : Sz p.rn p.rd (qt v) := Sz.of h.2.1 h.2.2.1 h.2.2.2
theorem Gen.next {p : DP} {j : Nat} {x y x' y' : Int × Int} {ks : List ((Int × Int) × (Int × Int))} (h : Gen p j x y ks) {rx ry : Rat} (ex : qt x' = qt x + rx) (ey : qt y' = qt y + ry) (r0 : 0 < rx) (s0 : 0 ≤ ry) (zx : Sz p.rn p.rd rx) (zy : Sz p.rn p.rd ry)
    (hx : 0 < x'.2 ∧ Bd (p.nb (j + 1)) x'.1 ∧ Bd (p.db (j + 1)) x'.2) (hy : 0 < y'.2 ∧ Bd (p.nb (j + 1)) y'.1 ∧ Bd (p.db (j + 1)) y'.2) : Gen p (j + 1) x' y' (ks ++ [(x', y')]) := by
  obtain ⟨t, ht⟩ := h.last
  have hm := p.mono (show j ≤ j + 1 by omega)
  have hdn := p.dn (j + 1)
  have hq : ks.map qk = t.map qk ++ [(qt x, qt y)] := by rw [ht, List.map_append]; rfl
  have ord : ∀ k ∈ ks.map qk, k.1 ≤ qt x ∧ k.2 ≤ qt y := fun k m => by
    have pw := h.pw
    rw [hq] at m pw
    rcases List.mem_append.mp m with m | m
    · have := (List.pairwise_append.mp pw).2.2 k m (qt x, qt y) (List.mem_singleton.mpr rfl)
      grind
    · have : k = (qt x, qt y) := by simpa using m
      subst this
      exact ⟨Rat.le_refl, Rat.le_refl⟩
  refine ⟨by simp [h.len], ⟨ks, rfl⟩, hx, hy, fun k m => ?_, ?_, fun r k m => ?_, ?_⟩
  rotate_right
  · obtain ⟨k0, t0, e0, d⟩ := h.first
    exact ⟨k0, t0 ++ [(x', y')], by rw [e0]; rfl, d⟩
  · rcases List.mem_append.mp m with m | m
    · have q := h.kp k m
      exact ⟨q.1, ⟨q.2.1.1.mono (by omega), q.2.1.2.mono (by omega)⟩, q.2.2.1.mono (by omega), q.2.2.2.mono (by omega)⟩
    · have : k = (x', y') := by simpa using m
      subst this
      exact ⟨⟨hx.1, hy.1⟩, ⟨hx.2.1.mono (by omega), hx.2.2.mono (by omega)⟩, hy.2.1.mono (by omega), hy.2.2.mono (by omega)⟩
  · rw [List.map_append]
    refine List.pairwise_append.mpr ⟨h.pw, List.pairwise_singleton _ _, fun a m b mb => ?_⟩
    have : b = qk (x', y') := by simpa using mb
    subst this
    have o := ord a m
    show a.1 < qt x' ∧ a.2 ≤ qt y'
    rw [ex, ey]
    grind
  · rw [List.map_append, hq] at m
    have m : k ∈ aft (t.map qk ++ [(qt x, qt y)] ++ [(qt x', qt y')]) r := m
    rw [aft_app2, ← hq] at m
    rcases List.mem_append.mp m with m | m
    · right
      have es : slk (qt x, qt y) (qt x', qt y') = ry / rx := by
        unfold slk
        simp only
        rw [ex, ey, show qt y + ry - qt y = ry by grind, show qt x + rx - qt x = rx by grind]
      have zs : Sz (p.rn + p.rd) (p.rn + p.rd) (slk (qt x, qt y) (qt x', qt y')) := by
        rw [es]
        exact (Sz.div zy zx (by grind)).mono (by omega) (by omega)
      rcases h.sl _ k m with e | e
      · rw [e]; exact zs
      · exact e
    · have : k = ((qt x', qt y'), r) := by simpa using m
      subst this
      exact .inl rfl
theorem sz_small {p : DP} {v : Int × Int} (h : Slp v) : Sz (p.rn + p.rd) (p.rn + p.rd) (qt v) := by
  have h3 := p.h3
  have h4 := p.h4
  exact Sz.of h.2.1 (h.2.2.1.mono (by omega)) (h.2.2.2.mono (by omega))
theorem spOk_of {B S : Nat} {a c : Int × Int} {ks : List ((Int × Int) × (Int × Int))} (hB : 5 ≤ B) (hS : 5 ≤ S) (ha : Slp a) (hc : Slp c) (hn : ks ≠ []) (hl : ks.length ≤ 64) (kp : ∀ k ∈ ks, (0 < k.1.2 ∧ 0 < k.2.2) ∧ (Bd B k.1.1 ∧ Bd B k.1.2) ∧ Bd B k.2.1 ∧ Bd B k.2.2)
    (pw : (ks.map qk).Pairwise fun a b => a.1 < b.1 ∧ a.2 ≤ b.2) (sl : ∀ r, ∀ k ∈ aft (ks.map qk) r, k.2 = r ∨ Sz S S k.2) (line : qt a = qt c → ∀ k, ks.head? = some k → Sz B B ((qk k).2 - qt a * (qk k).1)) : SpOk B S ⟨a, ks, c⟩ :=
  ⟨ha.2.1, hc.2.1, qt_nonneg ha.1 ha.2.1, qt_nonneg hc.1 hc.2.1, ⟨ha.2.2.1.mono (by omega), ha.2.2.2.mono (by omega)⟩, ⟨hc.2.2.1.mono (by omega), hc.2.2.2.mono (by omega)⟩, hn, fun k m => (kp k m).1, fun k m => (kp k m).2, pw, hl, Sz.of ha.2.1 (ha.2.2.1.mono hS) (ha.2.2.2.mono hS), fun k m => by
    rcases sl (qt c) k m with e | e
    · rw [e]; exact Sz.of hc.2.1 (hc.2.2.1.mono hS) (hc.2.2.2.mono hS)
    · exact e, line⟩
theorem general_d {p : DP} {K : Nat} {mm : Int} (hK : K ≤ 60) (hL : 2 * p.d0 + 6 ≤ p.nb K) (hL2 : p.n0 + p.d0 + 6 ≤ p.nb K) (hbig : p.nb K ≤ 10000) (hm0 : 0 < mm) (hm1 : mm ≤ K + 1) {w : Bool} (hw : w = true → p = wideP) (st : Pool) (g : GoodPool st) : Ok (L_law_general mm w) st fun v s => GoodPool s ∧ SpOk (p.nb K + 1) (p.rn + p.rd) v ∧ v.b.length ≤ K + 1 := by
  have h3 := p.h3
  have h4 := p.h4
  unfold L_law_general
  refine Ok.runP ?_
  unfold L_law_general_b
  simp -implicitDefEqProofs only [sb_sr, sb_sb]
  refine Ok.then_ (small_d st g) fun x1 s ⟨g, d1⟩ => ?_
  refine Ok.then_ (small_d s g) fun y1 s ⟨g, d2⟩ => ?_
  refine Ok.obdP (fun (r : (Int × Int) × (Int × Int)) s => GoodPool s ∧ Dr p r.1 ∧ Dr p r.2) (Ok.sIf (Ok.sr ⟨fun hw1 => ?_, fun _ => Ok.sr ⟨_, rfl, g, d1.up p, d2.up p⟩⟩)) fun r s ⟨g, h1, h2⟩ => ?_
  · have ep := hw hw1
    subst ep
    refine Ok.then_ (number_d s g) fun x1 s ⟨g, d1⟩ => ?_
    refine Ok.then_ (number_d s g) fun y1 s ⟨g, d2⟩ => ?_
    exact Ok.sr ⟨_, rfl, g, d1, d2⟩
  refine Ok.sb (Ok.so (plen_ok (Nat.le_of_ble_eq_true rfl)) ?_)
  refine Ok.sb (Ok.draw g (by omega) (log_small (by omega)) fun m s g m0 m1 => ?_)
  obtain ⟨mn, rfl⟩ : ∃ mn : Nat, m = mn := ⟨m.toNat, by omega⟩
  have hmn : mn ≤ K := by omega
  have hr : prng 0 (mn : Int) = some ((List.range mn).map fun (j : Nat) => (j : Int)) := prng0 (by omega)
  rw [hr, so_some, sb_sr]
  refine Ok.obdP (fun (r : (Int × Int) × (Int × Int) × List ((Int × Int) × (Int × Int))) s => GoodPool s ∧ ∃ j, j ≤ K ∧ Gen p j r.1 r.2.1 r.2.2) ?_ fun r s ⟨g, j, hj, h⟩ => ?_
  · refine Ok.for_ (fun d (r : (Int × Int) × (Int × Int) × List ((Int × Int) × (Int × Int))) s => GoodPool s ∧ Gen p d.length r.1 r.2.1 r.2.2) (fun _ _ => False) (fun _ _ => False) ⟨g, Gen.one h1 h2⟩ (fun d x r s e hI => ?_) (fun r s hI => ⟨_, rfl, hI.1, _, by simpa using hmn, hI.2⟩) (fun _ _ z => z.elim) (fun _ _ z => z.elim)
    obtain ⟨g, G⟩ := hI
    have hd : d.length < mn := by
      have := congrArg List.length e
      simp at this
      omega
    have e1 := p.nb1 d.length
    have e2 := p.db1 d.length
    have e3 := p.rel d.length
    have e4 := p.dn d.length
    have e5 := (p.mono (show d.length + 1 ≤ K by omega)).1
    refine Ok.then_ (rise_d hw s g) fun rx s ⟨g, R⟩ => ?_
    have bx := G.px
    have by_ := G.py
    refine Ok.sb (Ok.sl (plus_e bx.2.1 bx.2.2 R.2.2.1 R.2.2.2 (by omega) (by omega) (by omega)) ?_)
    have hx' : 0 < (r.1.1 * rx.2 + rx.1 * r.1.2, r.1.2 * rx.2).2 ∧ Bd (p.nb (d.length + 1)) (r.1.1 * rx.2 + rx.1 * r.1.2, r.1.2 * rx.2).1 ∧ Bd (p.db (d.length + 1)) (r.1.1 * rx.2 + rx.1 * r.1.2, r.1.2 * rx.2).2 :=
      ⟨Int.mul_pos bx.1 R.2.1, (((bx.2.1.mul R.2.2.2)).add ((R.2.2.1.mul bx.2.2).mono (by omega))).mono (by omega), (bx.2.2.mul R.2.2.2).mono (by omega)⟩
    have ex := qt_add (a := r.1) (b := rx) bx.1 R.2.1
    refine Ok.obdP (fun (y : Int × Int) s => GoodPool s ∧ (0 < y.2 ∧ Bd (p.nb (d.length + 1)) y.1 ∧ Bd (p.db (d.length + 1)) y.2) ∧ ∃ ry, qt y = qt r.2.1 + ry ∧ 0 ≤ ry ∧ Sz p.rn p.rd ry) (Ok.sIf ?_) fun y s ⟨g, hy', ry, ey, r0, rz⟩ => ?_
    · refine Ok.sb (Ok.draw g (by decide) (by decide) fun z s g z0 z1 => ?_)
      refine Ok.sr ⟨fun _ => ?_, fun _ => ?_⟩
      · refine Ok.then_ (rise_d hw s g) fun ry s ⟨g, Q⟩ => ?_
        refine Ok.sb (Ok.sl (plus_e by_.2.1 by_.2.2 Q.2.2.1 Q.2.2.2 (by omega) (by omega) (by omega)) ?_)
        exact Ok.sr ⟨_, rfl, g, ⟨Int.mul_pos by_.1 Q.2.1, (((by_.2.1.mul Q.2.2.2)).add ((Q.2.2.1.mul by_.2.2).mono (by omega))).mono (by omega), (by_.2.2.mul Q.2.2.2).mono (by omega)⟩, qt ry, qt_add by_.1 Q.2.1, by have := qt_posv Q.1 Q.2.1; grind, sz_rise Q⟩
      · exact Ok.sr ⟨_, rfl, g, ⟨by_.1, by_.2.1.mono (by omega), by_.2.2.mono (by omega)⟩, 0, by grind, Rat.le_refl, ⟨(sz_zero (n := p.rn) (by omega)).num, (sz_zero (n := p.rd) (by omega)).den⟩⟩
    · refine Ok.sb (Ok.so (papp_ok (by have := G.len; omega)) (Ok.sr ?_))
      show GoodPool s ∧ Gen p (d ++ [x]).length _ _ _
      rw [List.length_append]
      exact ⟨g, G.next ex ey (qt_posv R.1 R.2.1) r0 (sz_rise R) rz hx' hy'⟩
  · refine Ok.then_ (slope_d s g) fun a s ⟨g, sa⟩ => ?_
    refine Ok.then_ (slope_d s g) fun c s ⟨g, sc⟩ => ?_
    have hl := h.len
    have hmj := (p.mono hj).1
    refine Ok.sr ⟨g, spOk_of (by have := p.h1; omega) (by omega) sa sc (fun e => by rw [e] at hl; simp at hl) (by omega) (fun k m => ?_) h.pw h.sl (fun _ k hk => ?_), by show r.2.2.length ≤ _; omega⟩
    rotate_left
    · obtain ⟨k0, t0, e0, d1, d2⟩ := h.first
      rw [e0] at hk
      have : k0 = k := Option.some.inj hk
      subst this
      have za : Sz 5 5 (qt a) := Sz.of sa.2.1 sa.2.2.1 sa.2.2.2
      have zx : Sz p.n0 p.d0 (qt k0.1) := Sz.of d1.1 d1.2.1 d1.2.2
      have zy : Sz p.n0 p.d0 (qt k0.2) := Sz.of d2.1 d2.2.1 d2.2.2
      exact (Sz.sub zy (Sz.mul za zx)).mono (by omega) (by omega)
    have q := h.kp k m
    exact ⟨q.1, ⟨q.2.1.1.mono (by omega), q.2.1.2.mono (by omega)⟩, q.2.2.1.mono (by omega), q.2.2.2.mono (by omega)⟩
end Lw

set_option Elab.async false
set_option linter.all false
set_option maxRecDepth 100000
set_option maxHeartbeats 0
namespace Lw
open PySem Mi
theorem single_ok {B S : Nat} {a c x y : Int × Int} (hB : 5 ≤ B) (hS : 5 ≤ S) (ha : Slp a) (hc : Slp c) (hx : 0 < x.2 ∧ Bd B x.1 ∧ Bd B x.2) (hy : 0 < y.2 ∧ Bd B y.1 ∧ Bd B y.2) (hl : qt a = qt c → Sz B B (qt y - qt a * qt x)) : SpOk B S ⟨a, [(x, y)], c⟩ := by
  refine spOk_of hB hS ha hc (by simp) (by simp) (fun k m => ?_) (List.pairwise_singleton _ _) (fun r k m => ?_) fun e k m => ?_
  · have : k = (x, y) := by simpa using m
    subst this
    exact ⟨⟨hx.1, hy.1⟩, ⟨hx.2.1, hx.2.2⟩, hy.2.1, hy.2.2⟩
  · have : k = (qk (x, y), r) := by simpa [aft] using m
    subst this
    exact .inl rfl
  · have : (x, y) = k := Option.some.inj m
    subst this
    exact hl e
theorem line0 {B : Nat} {a y : Int × Int} (hy : 0 < y.2 ∧ Bd B y.1 ∧ Bd B y.2) : Sz B B (qt y - qt a * qt (0, 1)) := by
  have : qt y - qt a * qt (fr 0) = qt y := by
    rw [qt_fr]
    grind
  show Sz B B (qt y - qt a * qt (fr 0))
  rw [this]
  exact Sz.of hy.1 hy.2.1 hy.2.2
theorem slp01 : qt (0, 1) ≠ qt (1, 1) := by
  have h0 : qt (0, 1) = 0 := qt_fr 0
  have h1 : qt (1, 1) = 1 := qt_fr 1
  rw [h0, h1]
  grind
theorem slp0 : Slp (0, 1) := ⟨by decide, by decide, bd_small (by decide) (by decide), bd_small (by decide) (by decide)⟩
theorem slp1 : Slp (1, 1) := ⟨by decide, by decide, bd_small (by decide) (by decide), bd_small (by decide) (by decide)⟩
theorem spec_d {p : DP} {K : Nat} {mm : Int} (hK : K ≤ 60) (hL : 2 * p.d0 + 6 ≤ p.nb K) (hL2 : p.n0 + p.d0 + 6 ≤ p.nb K) (hbig : p.nb K ≤ 10000) (hm0 : 0 < mm) (hm1 : mm ≤ K + 1) {w : Bool} (hw : w = true → p = wideP) (st : Pool) (g : GoodPool st) : Ok (L_law_spec mm w) st fun v s => GoodPool s ∧ SpOk (p.nb K + 1) (p.rn + p.rd) v ∧ v.b.length ≤ K + 1 := by
  have q1 := p.h1
  have q3 := p.h3
  have q4 := p.h4
  have q5 := p.h5
  unfold L_law_spec
  refine Ok.runP ?_
  unfold L_law_spec_b
  simp -implicitDefEqProofs only [sb_sr, sb_sb]
  refine Ok.sb (Ok.draw g (by decide) (by decide) fun form s g f0 f1 => ?_)
  refine Ok.then_ (small_d s g) fun x1 s ⟨g, d1⟩ => ?_
  refine Ok.obdP (fun (r : (Int × Int)) s => GoodPool s ∧ Dr p r) (Ok.sIf (Ok.sr ⟨fun hw1 => ?_, fun _ => Ok.sr ⟨_, rfl, g, d1.up p⟩⟩)) fun a s ⟨g, h1⟩ => ?_
  · have ep := hw hw1
    subst ep
    refine Ok.then_ (number_d s g) fun x1 s ⟨g, d1⟩ => ?_
    exact Ok.sr ⟨_, rfl, g, d1⟩
  have ha : 0 < a.2 ∧ Bd (p.nb K + 1) a.1 ∧ Bd (p.nb K + 1) a.2 := ⟨h1.1, h1.2.1.mono (by omega), h1.2.2.mono (by omega)⟩
  have h0 : 0 < ((0, 1) : Int × Int).2 ∧ Bd (p.nb K + 1) ((0, 1) : Int × Int).1 ∧ Bd (p.nb K + 1) ((0, 1) : Int × Int).2 := ⟨by decide, bd_small (by decide) (by omega), bd_small (by decide) (by omega)⟩
  have one1 : ∀ {α : Type} (x : α), plen [x] = some [x] := fun x => plen_ok (Nat.le_of_ble_eq_true rfl)
  have B5 : 5 ≤ p.nb K + 1 := by omega
  have S5 : 5 ≤ p.rn + p.rd := by omega
  simp -implicitDefEqProofs only [one1, so_some, sb_sr]
  refine Ok.obd (Ok.sIf (Ok.sr ⟨fun _ => Ok.sr ⟨g, single_ok B5 S5 slp1 slp1 h0 ha (fun _ => line0 ha), by simp⟩, fun _ => Ok.sr ?_⟩))
  refine Ok.obd (Ok.sIf (Ok.sr ⟨fun _ => ?_, fun _ => Ok.sr ?_⟩))
  · refine Ok.then_ (slope_d s g) fun c s ⟨g, sc⟩ => ?_
    exact Ok.sr ⟨g, single_ok B5 S5 sc sc h0 h0 (fun _ => line0 h0), by simp⟩
  refine Ok.obd (Ok.sIf (Ok.sr ⟨fun _ => Ok.sr ⟨g, single_ok B5 S5 slp0 slp1 ha ha (fun e => absurd e slp01), by simp⟩, fun _ => Ok.sr ?_⟩))
  refine Ok.obd (Ok.sIf (Ok.sr ⟨fun _ => Ok.sr ⟨g, single_ok B5 S5 slp1 slp0 ha ha (fun e => absurd e.symm slp01), by simp⟩, fun _ => Ok.sr ?_⟩))
  refine Ok.obd (Ok.sIf (Ok.sr ⟨fun _ => Ok.sr ⟨g, single_ok B5 S5 slp0 slp0 h0 ha (fun _ => line0 ha), by simp⟩, fun _ => Ok.sr ?_⟩))
  refine Ok.obd (Ok.sIf (Ok.sr ⟨fun _ => ?_, fun _ => Ok.sr ?_⟩))
  · refine Ok.then_ (slope_d s g) fun c s ⟨g, sc⟩ => ?_
    exact Ok.sr ⟨g, single_ok B5 S5 sc sc h0 ha (fun _ => line0 ha), by simp⟩
  refine Ok.obd (Ok.sIf (Ok.sr ⟨fun _ => ?_, fun _ => Ok.sr ?_⟩))
  · refine Ok.then_ (small_d s g) fun b s ⟨g, db0⟩ => ?_
    have db := db0.up p
    have hb : 0 < b.2 ∧ Bd (p.nb K + 1) b.1 ∧ Bd (p.nb K + 1) b.2 := ⟨db.1, db.2.1.mono (by omega), db.2.2.mono (by omega)⟩
    have em : L_law_minus b a = .ok (b.1 * a.2 - a.1 * b.2, b.2 * a.2) := by
      unfold L_law_minus L_law_minus_b
      simp -implicitDefEqProofs only [sb_sr, sb_sb, pmul_s db.2.1 h1.2.2 (by omega), pmul_s h1.2.1 db.2.2 (by omega), pmul_s db.2.2 h1.2.2 (by omega), so_some, runF_rt]
    refine Ok.sb (Ok.sl em ?_)
    exact Ok.sr ⟨g, single_ok B5 S5 slp0 slp1 ⟨Int.mul_pos db.1 h1.1, (((db.2.1.mul h1.2.2)).sub (h1.2.1.mul db.2.2)).mono (by omega), (db.2.2.mul h1.2.2).mono (by omega)⟩ hb (fun e => absurd e slp01), by simp⟩
  · refine Ok.then_ (general_d hK hL hL2 hbig hm0 hm1 hw s g) fun v s h => ?_
    exact Ok.sr h
/-! ### the shape of a drawn step -/
section
variable {B S : Nat} {sp : T3 (Int × Int) (List ((Int × Int) × (Int × Int))) (Int × Int)} (h : SpOk B S sp)
include h
theorem SpOk.pts : (sp.b.map qk) ≠ [] ∧ (sp.b.map qk).Pairwise (fun a b => a.1 < b.1) := ⟨by simpa using h.ne, h.pw.imp fun h => h.1⟩
theorem SpOk.spA (hs : S ≤ B) : SpA B sp := by
  have := h.len
  exact ⟨⟨h.ap, rfl, h.ab.1, h.ab.2⟩, ⟨h.cp, rfl, h.cb.1, h.cb.2⟩, h.ne, fun k m => ⟨⟨(h.kp k m).1, rfl, (h.kb k m).1.1, (h.kb k m).1.2⟩, ⟨(h.kp k m).2, rfl, (h.kb k m).2.1, (h.kb k m).2.2⟩⟩, h.pts.2, by omega⟩
theorem SpOk.ev (x : Rat) : evS (qt sp.a) (canR (sp.b.map qk) (qt sp.a) (qt sp.c)) x = spE sp x := evS_can h.pts.2 h.pts.1
theorem SpOk.shp2 {X Y n : Nat} (hX : 0 < X) (hx : ∀ k ∈ sp.b, Sz X X (qk k).1) (hy : ∀ k ∈ sp.b, Sz Y Y (qk k).2) (hl : qt sp.a = qt sp.c → ∀ k, sp.b.head? = some k → Sz Y Y ((qk k).2 - qt sp.a * (qk k).1)) (hn : sp.b.length ≤ n) : Shp4 X Y S n (qt sp.a) (canR (sp.b.map qk) (qt sp.a) (qt sp.c)) := by
  have P := h.pts
  have C := can_form (l := qt sp.a) (r := qt sp.c) P.1
  have m : ∀ k ∈ canR (sp.b.map qk) (qt sp.a) (qt sp.c), Sz X X k.1.1 ∧ Sz Y Y k.1.2 ∧ 0 ≤ k.2 ∧ Sz S S k.2 := fun k mk => by
    match hb : sp.b, h.ne with
    | k0 :: t, _ =>
      rw [hb] at mk
      have e : canR ((k0 :: t).map qk) (qt sp.a) (qt sp.c) = match bend (qt sp.a) (aft ((k0 :: t).map qk) (qt sp.c)) with
        | [] => [((0, (qk k0).2 - qt sp.a * (qk k0).1), qt sp.c)]
        | b => b := rfl
      rw [e] at mk
      split at mk
      · next hbe =>
        have el := bend_last (by simp) hbe
        have : k = ((0, (qk k0).2 - qt sp.a * (qk k0).1), qt sp.c) := by simpa using mk
        subst this
        exact ⟨sz_zero hX, hl el k0 (by rw [hb]; rfl), h.c0, by rw [← el]; exact h.sa⟩
      · have mk := bend_sub mk
        rw [← hb] at mk
        have mp : k.1 ∈ (aft (sp.b.map qk) (qt sp.c)).map (·.1) := List.mem_map.mpr ⟨k, mk, rfl⟩
        rw [aft_fst] at mp
        obtain ⟨q, mq, eq⟩ := List.mem_map.mp mp
        rw [← eq]
        exact ⟨hx q mq, hy q mq, aft_up h.pw h.c0 k mk, h.sl k mk⟩
  exact ⟨con_can P.2, C.1, C.2.1, h.a0, fun k mk => (m k mk).2.2.1, ⟨h.sa, fun k mk => (m k mk).1, fun k mk => (m k mk).2.1, fun k mk => (m k mk).2.2.2⟩, by
    have := C.2.2.2
    rw [List.length_map] at this
    omega⟩
theorem SpOk.shp {n : Nat} (hB : 0 < B) (hn : sp.b.length ≤ n) : Shp4 B B S n (qt sp.a) (canR (sp.b.map qk) (qt sp.a) (qt sp.c)) := h.shp2 hB (fun k m => (h.sz m).1) (fun k m => (h.sz m).2) h.line hn
end
end Lw

set_option Elab.async false
set_option linter.all false
set_option maxRecDepth 100000
set_option maxHeartbeats 0
namespace Lw
open PySem Mi
/-! ### values as a law hands them over: an integer, or a tuple in any terms -/
theorem fr_int (n : Int) : fr (n : Rat) = (n, 1) := rfl
def Gv (T : Nat) (v : D) (r : Rat) : Prop := (∃ p : Int × Int, Fq T p r ∧ v = toD p) ∨ ∃ n : Int, v = .int n ∧ r = (n : Rat) ∧ Bd T n ∧ 0 < T
theorem Gv.asked {T : Nat} {v : D} {r : Rat} (h : Gv T v r) (c : T ≤ 9000) (x : Str) : asked v x = .ok (fr r) := by
  rcases h with ⟨p, k, rfl⟩ | ⟨n, rfl, rfl, _⟩
  · rw [← k.val]
    exact asked_ok k.pos (k.b2.mono c)
  · exact asked_fr (is_fraction_int n) (told_int n)
theorem bd_one {T : Nat} (h : 0 < T) : Bd T 1 := Bd.mono (n := 1) (by show (1 : Int).natAbs < 2 ^ 1; decide) h
theorem Gv.sz {T : Nat} {v : D} {r : Rat} (h : Gv T v r) : Sz T T r := by
  rcases h with ⟨p, k, rfl⟩ | ⟨n, rfl, rfl, b, t⟩
  · exact k.sz
  · exact ⟨b, bd_one t⟩
theorem given_q {T : Nat} {n : Int × Int} {r : Rat} (h : Fq T n r) (t0 : 0 < T) (c : T ≤ 800000) (st : Pool) (g : GoodPool st) : Ok (L_law_given n) st fun v s => GoodPool s ∧ Gv (T + 4) v r := by
  unfold L_law_given
  refine Ok.runP ?_
  unfold L_law_given_b
  simp only [sIf_sb, sOr_sb, sAnd_sb, sb_sr, sb_sb, so_some]
  refine Ok.sb (Ok.draw g (by decide) (by decide) fun form s g f0 f1 => ?_)
  have same : Gv (T + 4) (toD n) r := .inl ⟨n, h.mono (by omega), rfl⟩
  refine Ok.obd (Ok.sIf (Ok.sAnd ⟨fun _ => ⟨fun k => ?_, fun _ => ?_⟩, fun _ => ⟨fun k => (nomatch k), fun _ => ?_⟩⟩))
  · have e : n.2 = 1 := of_decide_eq_true k
    refine ⟨g, .inr ⟨n.1, rfl, ?_, h.b1.mono (by omega), by omega⟩⟩
    rw [← h.val]
    unfold qt
    rw [e]
    grind
  all_goals
    refine Ok.obd (Ok.sIf ⟨fun _ => ?_, fun _ => ⟨g, same⟩⟩)
    refine Ok.sb (Ok.draw g (by decide) (by decide) fun x s g x0 x1 => ?_)
    have hx : Bd 4 (1 + x) := Bd.of (b := 6) (by omega) (by decide)
    refine Ok.sb (Ok.so (pmul_s h.b1 hx (by omega)) (Ok.sb (Ok.so (pmul_s h.b2 hx (by omega)) ?_)))
    refine ⟨g, .inl ⟨(n.1 * (1 + x), n.2 * (1 + x)), ⟨Int.mul_pos h.pos (by omega), ?_, h.b1.mul hx, h.b2.mul hx⟩, rfl⟩⟩
    rw [← h.val]
    unfold qt
    have h2 : ((n.2 : Int) : Rat) ≠ 0 := cast_ne h.pos
    have h3 : ((1 + x : Int) : Rat) ≠ 0 := cast_ne (by omega)
    show ((n.1 * (1 + x) : Int) : Rat) / ((n.2 * (1 + x) : Int) : Rat) = _
    rw [Rat.intCast_mul, Rat.intCast_mul]
    generalize ((1 + x : Int) : Rat) = z at h3
    generalize (n.1 : Rat) = a
    generalize (n.2 : Rat) = b at h2
    grind
/-- odd values -/
theorem odd_q (st : Pool) (g : GoodPool st) : Ok L_law_odd st fun d s => GoodPool s ∧ is_fraction d = .ok false := by
  unfold L_law_odd
  refine Ok.runP ?_
  unfold L_law_odd_b
  simp only [sIf_sb, sOr_sb, sAnd_sb, sb_sr, sb_sb, so_some]
  refine Ok.sb (Ok.so (show ppow 10 20 = some (10 ^ 20 : Int) from rfl) (Ok.sb (Ok.draw g (by decide +kernel) (by decide +kernel) fun p s g _ _ => ?_)))
  generalize p - 50 = p
  refine Ok.sb (Ok.draw g (by decide) (by decide) fun i s g i0 i1 => ?_)
  repeat refine Ok.sb (Ok.so rfl ?_)
  have key : ∃ d, pix ([.bl true, .bl false, .non, .str "3", .str "", .tup [], .tup [.int p, .int 0], .tup [.int p, .int (-2)], .tup [.int p, .int 2, .int 3], .lst [.int p, .int 2], .tup [.bl true, .int 1], .tup [.int 1, .bl true], .tup [.tup [.int p, .int 2], .int 1]] ++
      [.dct [(.int 1, .int 2)], .str "1/2", .tup [.int p, .non]] : List D) i = some d ∧ is_fraction d = .ok false := by
    have : i = 0 ∨ i = 1 ∨ i = 2 ∨ i = 3 ∨ i = 4 ∨ i = 5 ∨ i = 6 ∨ i = 7 ∨ i = 8 ∨ i = 9 ∨ i = 10 ∨ i = 11 ∨ i = 12 ∨ i = 13 ∨ i = 14 ∨ i = 15 := by omega
    rcases this with e | e | e | e | e | e | e | e | e | e | e | e | e | e | e | e <;> subst e <;> exact ⟨_, rfl, rfl⟩
  obtain ⟨d, e1, e2⟩ := key
  exact Ok.sb (Ok.so e1 ⟨g, e2⟩)
/-! ### a step called with any value; steps of one knot -/
theorem call_g {X Y S n T : Nat} {l r : Rat} {ks : Ks} {v : D} (h : Shp4 X Y S n l ks) (hv : asked v "amount" = .ok (fr r)) (z : Sz T T r) (c : Y + (T + X + S) ≤ 9000) (hn : n < 1000) : Step___call__ (stp l ks) v = .ok (fr (evS l ks r)) := by
  have l1 := h.len
  have V := value_at_q h.ne h.sz.sh z (by omega) (by omega) (by omega) (by omega) (by omega) (by omega)
  unfold Step___call__ Step___call___b
  simp -implicitDefEqProofs only [sb_sr, sb_sb, shape_ok, sl_ok, hv, V, runF_rt]
theorem call_no {s : StepO} {v : D} (h : is_fraction v = .ok false) : Step___call__ s v = .error (.exc "InvalidFraction" [(("name" : Str), .str "amount")]) := by
  unfold Step___call__ Step___call___b
  simp -implicitDefEqProofs only [sb_sr, sb_sb, Step_shape]
  rw [asked_no h]
  rfl
theorem one_ev {a c x : Rat} {p : Kn} : evS a (canR [p] a c) x = if p.1 ≤ x then ln p c x else ln p a x := by
  rw [evS_can (List.pairwise_singleton _ _) (by simp)]
  rfl
section
variable {T S : Nat} {a c : Rat} {p : Kn} (ha : 0 ≤ a) (hc : 0 ≤ c) (za : Sz S S a) (zc : Sz S S c) (zx : Sz T T p.1) (zy : Sz T T p.2) (hST : S ≤ T)
include ha hc za zc zx zy hST
theorem one_sp (hl : a = c → Sz T T (p.2 - a * p.1)) : SpOk T S ⟨fr a, [frk p], fr c⟩ := by
  refine ⟨fr_pos a, fr_pos c, by rw [qt_fr]; exact ha, by rw [qt_fr]; exact hc, ⟨za.num.mono hST, za.den.mono hST⟩, ⟨zc.num.mono hST, zc.den.mono hST⟩, by simp, fun k m => ?_, fun k m => ?_, by simp, by simp, by rw [qt_fr]; exact za, fun k m => ?_, fun e k m => ?_⟩
  · rw [List.mem_singleton.mp m]; exact ⟨fr_pos _, fr_pos _⟩
  · rw [List.mem_singleton.mp m]; exact ⟨⟨zx.num, zx.den⟩, zy.num, zy.den⟩
  · have m : k ∈ [(qk (frk p), qt (fr c))] := m
    rw [List.mem_singleton.mp m]
    show Sz S S (qt (fr c))
    rw [qt_fr]; exact zc
  · have m : some (frk p) = some k := m
    cases m
    rw [qk_frk]
    have e : qt (fr a) = qt (fr c) := e
    rw [qt_fr, qt_fr] at e
    show Sz T T (p.2 - qt (fr a) * p.1)
    rw [qt_fr]
    exact hl e
theorem one_mk (hl : a = c → Sz T T (p.2 - a * p.1)) (t0 : 0 < T) (hT : T ≤ 1000) : mk_Step (toD (fr a)) (Sum.inr [frk p]) (toD (fr c)) = .ok (stp a (canR [p] a c)) ∧ Shp4 T T S 1 a (canR [p] a c) := by
  have sp := one_sp ha hc za zc zx zy hST hl
  have H := sp.shp (n := 1) t0 (Nat.le_refl 1)
  have e1 : ([frk p] : List _).map qk = [p] := by show [qk (frk p)] = [p]; rw [qk_frk]
  have hk := checked_ok sp (by omega : T ≤ 1000)
  have H : Shp4 T T S 1 (qt (fr a)) (canR ([frk p].map qk) (qt (fr a)) (qt (fr c))) := H
  have hk : checked_knots (Sum.inr [frk p]) = .ok (([frk p].map qk).map frk) := hk
  rw [e1] at H hk
  rw [qt_fr, qt_fr] at H
  have M := mk_step_ok (v := fr a) (w := fr c) (fr_pos a) (fr_pos c) (za.den.mono (by omega)) (zc.den.mono (by omega)) (by rw [qt_fr]; exact ha) (by rw [qt_fr]; exact hc) hk (by simp) (List.pairwise_singleton _ _) (X := T) (Y := T) (S := S)
    ⟨fun q m => by rw [List.mem_singleton.mp m]; exact zx, fun q m => by rw [List.mem_singleton.mp m]; exact zy⟩ (by rw [qt_fr]; exact za) (by omega) (by omega) (by simp)
  rw [qt_fr, qt_fr] at M
  exact ⟨M, H⟩
end
theorem fr_one : fr 1 = (1, 1) := rfl
theorem fr_zero : fr 0 = (0, 1) := rfl
theorem sz_one {n : Nat} (h : 0 < n) : Sz n n 1 := ⟨bd_one h, bd_one h⟩
end Lw

set_option Elab.async false
set_option linter.all false
set_option maxRecDepth 100000
set_option maxHeartbeats 0
namespace Lw
open PySem Mi
/-! ### the class methods of k08 -/
theorem plen1 {α : Type} (x : α) : plen [x] = some [x] := plen_ok (Nat.le_of_ble_eq_true rfl)
section
variable {T : Nat} {r : Rat} {v : D} (z : Sz T T r) (t0 : 0 < T) (hT : T ≤ 1000)
include z t0 hT
theorem plus_cm (hv : asked v "amount" = .ok (fr r)) : Step_plus .it v = .ok (stp 1 (canR [(0, r)] 1 1)) ∧ Shp4 T T 1 1 1 (canR [(0, r)] 1 1) := by
  obtain ⟨M, H⟩ := one_mk (p := (0, r)) (a := 1) (c := 1) (S := 1) (T := T) (by decide) (by decide) (sz_one (by decide)) (sz_one (by decide)) (sz_zero t0) z t0 (fun _ => by rw [show (r : Rat) - 1 * 0 = r by grind]; exact z) t0 hT
  refine ⟨?_, H⟩
  rw [fr_one] at M
  unfold Step_plus Step_plus_b
  simp -implicitDefEqProofs only [sb_sr, sb_sb, hv, sl_ok, plen1, so_some]
  rw [show (Sum.inr [((0, 1), fr r)] : KnotsO ⊕ List ((Int × Int) × (Int × Int))) = Sum.inr [frk ((0 : Rat), r)] from rfl, M, sl_ok, sb_sr, runF_rt]
theorem times_cm (hv : asked v "ratio" = .ok (fr r)) (h0 : 0 ≤ r) : Step_times .it v = .ok (stp r (canR [(0, 0)] r r)) ∧ Shp4 T T T 1 r (canR [(0, 0)] r r) := by
  obtain ⟨M, H⟩ := one_mk (p := (0, 0)) (a := r) (c := r) (S := T) (T := T) h0 h0 z z (sz_zero t0) (sz_zero t0) (Nat.le_refl T) (fun _ => by rw [show (0 : Rat) - r * 0 = 0 by grind]; exact sz_zero t0) t0 hT
  refine ⟨?_, H⟩
  have neg : decide ((fr r).1 < 0) = false := decide_eq_false (by have := Rat.num_nonneg.mpr h0; show ¬ r.num < 0; omega)
  unfold Step_times Step_times_b
  simp -implicitDefEqProofs only [sb_sr, sb_sb, hv, sl_ok, plen1, so_some, neg, sIf_f, obd_nx]
  rw [show (Sum.inr [((0, 1), (0, 1))] : KnotsO ⊕ List ((Int × Int) × (Int × Int))) = Sum.inr [frk ((0 : Rat), (0 : Rat))] from rfl, M, sl_ok, sb_sr, runF_rt]
theorem least_cm (hv : asked v "bound" = .ok (fr r)) : Step_at_least .it v = .ok (stp 0 (canR [(r, r)] 0 1)) ∧ Shp4 T T 1 1 0 (canR [(r, r)] 0 1) := by
  obtain ⟨M, H⟩ := one_mk (p := (r, r)) (a := 0) (c := 1) (S := 1) (T := T) (by decide) (by decide) (sz_zero (by decide)) (sz_one (by decide)) z z t0 (fun e => absurd e (by decide)) t0 hT
  refine ⟨?_, H⟩
  rw [fr_one, fr_zero] at M
  unfold Step_at_least Step_at_least_b
  simp -implicitDefEqProofs only [sb_sr, sb_sb, hv, sl_ok, plen1, so_some]
  rw [show (Sum.inr [(fr r, fr r)] : KnotsO ⊕ List ((Int × Int) × (Int × Int))) = Sum.inr [frk (r, r)] from rfl, M, sl_ok, sb_sr, runF_rt]
theorem most_cm (hv : asked v "bound" = .ok (fr r)) : Step_at_most .it v = .ok (stp 1 (canR [(r, r)] 1 0)) ∧ Shp4 T T 1 1 1 (canR [(r, r)] 1 0) := by
  obtain ⟨M, H⟩ := one_mk (p := (r, r)) (a := 1) (c := 0) (S := 1) (T := T) (by decide) (by decide) (sz_one (by decide)) (sz_zero (by decide)) z z t0 (fun e => absurd e (by decide)) t0 hT
  refine ⟨?_, H⟩
  rw [fr_one, fr_zero] at M
  unfold Step_at_most Step_at_most_b
  simp -implicitDefEqProofs only [sb_sr, sb_sb, hv, sl_ok, plen1, so_some]
  rw [show (Sum.inr [(fr r, fr r)] : KnotsO ⊕ List ((Int × Int) × (Int × Int))) = Sum.inr [frk (r, r)] from rfl, M, sl_ok, sb_sr, runF_rt]
theorem always_cm (hv : asked v "amount" = .ok (fr r)) : Step_always .it v = .ok (stp 0 (canR [(0, r)] 0 0)) ∧ Shp4 T T 1 1 0 (canR [(0, r)] 0 0) := by
  obtain ⟨M, H⟩ := one_mk (p := (0, r)) (a := 0) (c := 0) (S := 1) (T := T) (by decide) (by decide) (sz_zero (by decide)) (sz_zero (by decide)) (sz_zero t0) z t0 (fun _ => by rw [show (r : Rat) - 0 * 0 = r by grind]; exact z) t0 hT
  refine ⟨?_, H⟩
  rw [fr_zero] at M
  unfold Step_always Step_always_b
  simp -implicitDefEqProofs only [sb_sr, sb_sb, hv, sl_ok, plen1, so_some]
  rw [show (Sum.inr [((0, 1), fr r)] : KnotsO ⊕ List ((Int × Int) × (Int × Int))) = Sum.inr [frk ((0 : Rat), r)] from rfl, M, sl_ok, sb_sr, runF_rt]
end
/-- what the step made by the class method does -/
def cmV (w : Int) (r x : Rat) : Rat := if w = 0 then x + r else if w = 1 then r * x else if w = 2 then (if r ≤ x then x else r) else if w = 3 then (if r ≤ x then r else x) else r
def cmN (w : Int) : Str := if w = 1 then "ratio" else if w = 2 then "bound" else if w = 3 then "bound" else "amount"
theorem cm0 {r x : Rat} : cmV 0 r x = x + r := rfl
theorem cm1 {r x : Rat} : cmV 1 r x = r * x := rfl
theorem cm2 {r x : Rat} : cmV 2 r x = if r ≤ x then x else r := rfl
theorem cm3 {r x : Rat} : cmV 3 r x = if r ≤ x then r else x := rfl
theorem cm4 {r x : Rat} : cmV 4 r x = r := rfl
theorem five {w : Int} (h0 : 0 ≤ w) (h1 : w < 5) : w = 0 ∨ w = 1 ∨ w = 2 ∨ w = 3 ∨ w = 4 := by omega
theorem made_q {T : Nat} {r : Rat} {v : D} {w : Int} (h : Gv T v r) (t0 : 0 < T) (hT : T ≤ 1000) (w0 : 0 ≤ w) (w1 : w < 5) (hr : w = 1 → 0 ≤ r) :
    ∃ l ks, L_law_made w v = .ok (stp l ks) ∧ Shp4 T T T 1 l ks ∧ ∀ x, evS l ks x = cmV w r x := by
  have z := h.sz
  have sub : ∀ {l ks}, Shp4 T T 1 1 l ks → Shp4 T T T 1 l ks := fun k => ⟨k.con, k.form, k.ne, k.left0, k.up, { left := k.sz.left.mono t0 t0, xs := k.sz.xs, ys := k.sz.ys, ss := fun q m => (k.sz.ss q m).mono t0 t0 }, k.len⟩
  unfold L_law_made L_law_made_b
  rcases five w0 w1 with rfl | rfl | rfl | rfl | rfl
  · obtain ⟨M, H⟩ := plus_cm z t0 hT (h.asked (by omega) "amount")
    refine ⟨_, _, ?_, sub H, fun x => ?_⟩
    · simp -implicitDefEqProofs only [sb_sr, sb_sb, M, sl_ok]
      rfl
    · rw [one_ev]; clear sub; rw [cm0]; unfold ln; split <;> grind
  · obtain ⟨M, H⟩ := times_cm z t0 hT (h.asked (by omega) "ratio") (hr rfl)
    refine ⟨_, _, ?_, H, fun x => ?_⟩
    · simp -implicitDefEqProofs only [sb_sr, sb_sb, M, sl_ok]
      rfl
    · rw [one_ev]; clear sub; rw [cm1]; unfold ln; split <;> grind
  · obtain ⟨M, H⟩ := least_cm z t0 hT (h.asked (by omega) "bound")
    refine ⟨_, _, ?_, sub H, fun x => ?_⟩
    · simp -implicitDefEqProofs only [sb_sr, sb_sb, M, sl_ok]
      rfl
    · rw [one_ev]; clear sub; rw [cm2]; unfold ln; split <;> grind
  · obtain ⟨M, H⟩ := most_cm z t0 hT (h.asked (by omega) "bound")
    refine ⟨_, _, ?_, sub H, fun x => ?_⟩
    · simp -implicitDefEqProofs only [sb_sr, sb_sb, M, sl_ok]
      rfl
    · rw [one_ev]; clear sub; rw [cm3]; unfold ln; split <;> grind
  · obtain ⟨M, H⟩ := always_cm z t0 hT (h.asked (by omega) "amount")
    refine ⟨_, _, ?_, sub H, fun x => ?_⟩
    · simp -implicitDefEqProofs only [sb_sr, sb_sb, M, sl_ok]
      rfl
    · rw [one_ev]; clear sub; rw [cm4]; unfold ln; split <;> grind
theorem made_no {v : D} {w : Int} (h : is_fraction v = .ok false) (w0 : 0 ≤ w) (w1 : w < 5) : L_law_made w v = .error (.exc "InvalidFraction" [(("name" : Str), .str (cmN w))]) := by
  unfold L_law_made L_law_made_b
  rcases five w0 w1 with rfl | rfl | rfl | rfl | rfl
  · have e : Step_plus .it v = .error (.exc "InvalidFraction" [(("name" : Str), .str "amount")]) := by
      unfold Step_plus Step_plus_b
      simp -implicitDefEqProofs only [sb_sr, sb_sb]
      rw [asked_no h]
      rfl
    simp -implicitDefEqProofs only [sb_sr, sb_sb, e]
    rfl
  · have e : Step_times .it v = .error (.exc "InvalidFraction" [(("name" : Str), .str "ratio")]) := by
      unfold Step_times Step_times_b
      simp -implicitDefEqProofs only [sb_sr, sb_sb]
      rw [asked_no h]
      rfl
    simp -implicitDefEqProofs only [sb_sr, sb_sb, e]
    rfl
  · have e : Step_at_least .it v = .error (.exc "InvalidFraction" [(("name" : Str), .str "bound")]) := by
      unfold Step_at_least Step_at_least_b
      simp -implicitDefEqProofs only [sb_sr, sb_sb]
      rw [asked_no h]
      rfl
    simp -implicitDefEqProofs only [sb_sr, sb_sb, e]
    rfl
  · have e : Step_at_most .it v = .error (.exc "InvalidFraction" [(("name" : Str), .str "bound")]) := by
      unfold Step_at_most Step_at_most_b
      simp -implicitDefEqProofs only [sb_sr, sb_sb]
      rw [asked_no h]
      rfl
    simp -implicitDefEqProofs only [sb_sr, sb_sb, e]
    rfl
  · have e : Step_always .it v = .error (.exc "InvalidFraction" [(("name" : Str), .str "amount")]) := by
      unfold Step_always Step_always_b
      simp -implicitDefEqProofs only [sb_sr, sb_sb]
      rw [asked_no h]
      rfl
    simp -implicitDefEqProofs only [sb_sr, sb_sb, e]
    rfl
theorem made_neg {T : Nat} {r : Rat} {v : D} (h : Gv T v r) (hT : T ≤ 9000) (hr : r < 0) : L_law_made 1 v = .error (.exc "InvalidBound" [(("name" : Str), .str "ratio")]) := by
  have neg : decide ((fr r).1 < 0) = true := decide_eq_true (by have := mt Rat.num_nonneg.mp (Rat.not_le.mpr hr); show r.num < 0; omega)
  have m : mk_InvalidBound ("ratio" : Str) = .ok [(("name" : Str), .str "ratio")] := rfl
  have e : Step_times .it v = .error (.exc "InvalidBound" [(("name" : Str), .str "ratio")]) := by
    unfold Step_times Step_times_b
    simp -implicitDefEqProofs only [sb_sr, sb_sb, h.asked hT "ratio", sl_ok, neg, sIf_t, m]
    rfl
  unfold L_law_made L_law_made_b
  simp -implicitDefEqProofs only [sb_sr, sb_sb, e]
  rfl
/-- .. and how a try of it is told -/
theorem try_no {v : D} {w : Int} (h : is_fraction v = .ok false) (w0 : 0 ≤ w) (w1 : w < 5) : L_law_try w v = .ok (.tup [.str "no fraction", .str (cmN w)]) := by
  unfold L_law_try L_law_try_b
  simp -implicitDefEqProofs only [sb_sr, sb_sb]
  rw [made_no h w0 w1]
  rfl
theorem try_neg {T : Nat} {r : Rat} {v : D} (h : Gv T v r) (hT : T ≤ 9000) (hr : r < 0) : L_law_try 1 v = .ok (.tup [.str "bound", .str "ratio"]) := by
  unfold L_law_try L_law_try_b
  simp -implicitDefEqProofs only [sb_sr, sb_sb]
  rw [made_neg h hT hr]
  rfl
theorem lcall_no {s : StepO} {v : D} (h : is_fraction v = .ok false) : L_law_call s v = .ok (.tup [.str "no fraction", .str "amount"]) := by
  unfold L_law_call L_law_call_b
  simp -implicitDefEqProofs only [sb_sr, sb_sb]
  rw [call_no h]
  rfl
theorem due_q {A B : Nat} {w : Int} {n x : Int × Int} {r y : Rat} (hn : Fq A n r) (hx : Fq B x y) (c : A + B ≤ 700000) (w0 : 0 ≤ w) (w1 : w < 5) : ∃ d, L_law_due w n x = .ok d ∧ Fq (A + B + 1) d (cmV w r y) := by
  obtain ⟨p, e1, g1⟩ := plus_q hx hn (by omega)
  obtain ⟨q, e2, g2⟩ := times_q hx hn (by omega)
  have e3 := less_q hx hn (by omega)
  unfold L_law_due L_law_due_b
  simp -implicitDefEqProofs only [sb_sr, sb_sb, e3, sl_ok]
  rcases five w0 w1 with rfl | rfl | rfl | rfl | rfl
  · simp -implicitDefEqProofs only [e1, sl_ok, sb_sr]
    exact ⟨p, rfl, by rw [cm0]; exact g1.mono (by omega)⟩
  · simp -implicitDefEqProofs only [e2, sl_ok, sb_sr]
    exact ⟨q, rfl, by rw [cm1, Rat.mul_comm]; exact g2.mono (by omega)⟩
  · by_cases k : y < r
    · refine ⟨n, by rw [decide_eq_true k]; rfl, ?_⟩
      rw [cm2, if_neg (Rat.not_le.mpr k)]
      exact hn.mono (by omega)
    · refine ⟨x, by rw [decide_eq_false k]; rfl, ?_⟩
      rw [cm2, if_pos (Rat.not_lt.mp k)]
      exact hx.mono (by omega)
  · by_cases k : y < r
    · refine ⟨x, by rw [decide_eq_true k]; rfl, ?_⟩
      rw [cm3, if_neg (Rat.not_le.mpr k)]
      exact hx.mono (by omega)
    · refine ⟨n, by rw [decide_eq_false k]; rfl, ?_⟩
      rw [cm3, if_pos (Rat.not_lt.mp k)]
      exact hn.mono (by omega)
  · refine ⟨n, rfl, ?_⟩
    rw [cm4]
    exact hn.mono (by omega)
end Lw

set_option Elab.async false
set_option linter.all false
set_option maxRecDepth 100000
set_option maxHeartbeats 0
namespace Lw
open PySem Mi
theorem dr_fq {v : Int × Int} (h : Dr wideP v) : Fq 134 v (qt v) := ⟨h.1, rfl, h.2.1.mono (by decide), h.2.2.mono (by decide)⟩
theorem fq_17 : Fq 3 ((1, 7) : Int × Int) (qt (1, 7)) := ⟨by decide, rfl, by show (1 : Int).natAbs < 2 ^ 3; decide, by show (7 : Int).natAbs < 2 ^ 3; decide⟩
theorem qt_neg {v : Int × Int} (h : v.1 < 0) (k : 0 < v.2) : qt v < 0 := by
  refine Rat.not_le.mp fun z => ?_
  have p := cast_pos k
  have e : qt v * (v.2 : Rat) = (v.1 : Rat) := by unfold qt; have := cast_ne k; grind
  have q : (0 : Rat) ≤ (v.1 : Rat) := by rw [← e]; exact Rat.mul_nonneg z (Rat.le_of_lt p)
  have q : (0 : Int) ≤ v.1 := by exact_mod_cast q
  omega
theorem peq_bound : peqD (.tup [.str "bound", .str "ratio"]) (.tup [.str "bound", .str "ratio"]) = some true := by decide +kernel
theorem peq_name {w : Int} (w0 : 0 ≤ w) (w1 : w < 5) : peqD (.tup [.str "no fraction", .str (cmN w)]) (.tup [.str "no fraction", .str (cmN w)]) = some true := by
  rcases five w0 w1 with rfl | rfl | rfl | rfl | rfl <;> decide +kernel
theorem names_at {w : Int} (w0 : 0 ≤ w) (w1 : w < 5) : pix (["amount", "ratio", "bound", "bound", "amount"] : List Str) w = some (cmN w) := by
  rcases five w0 w1 with rfl | rfl | rfl | rfl | rfl <;> decide +kernel
theorem plen3 {α : Type} (x y z : α) : plen [x, y, z] = some [x, y, z] := plen_ok (Nat.le_of_ble_eq_true rfl)
theorem plen5 {α : Type} (x y z u v : α) : plen [x, y, z, u, v] = some [x, y, z, u, v] := plen_ok (Nat.le_of_ble_eq_true rfl)
theorem pdtup2 (x y : D) : pdtup [x, y] = some (.tup [x, y]) := rfl
theorem methods_q (st : Pool) (g : GoodPool st) : Ok L_law_methods st fun b s => b = true ∧ GoodPool s := by
  unfold L_law_methods
  refine Ok.runP ?_
  unfold L_law_methods_b
  simp -implicitDefEqProofs only [sb_sr, sb_sb]
  rw [show prng 0 5 = _ from prng0 (n := 5) (by omega), so_some, sb_sr]
  refine Ok.obdP (fun _ s => GoodPool s) (Ok.forI (fun _ s => GoodPool s) g (fun w r s m g => ?_) (fun r s g => ⟨_, rfl, g⟩)) (fun r s g => Ok.sr ⟨rfl, g⟩)
  have hw : 0 ≤ w ∧ w < 5 := by
    obtain ⟨j, hj, rfl⟩ := List.mem_map.mp m
    have := List.mem_range.mp hj
    omega
  refine Ok.then_ (number_d s g) fun n s ⟨g, hn⟩ => ?_
  refine Ok.obdP (fun (r4 : Int × Int) s => GoodPool s ∧ Fq 134 r4 (qt r4) ∧ (w = 1 → 0 ≤ qt r4)) ?_ ?_
  · refine Ok.sIf (Ok.sAnd ⟨fun h1 => ⟨fun h2 => ?_, fun h2 => ?_⟩, fun h1 => ⟨fun h => (nomatch h), fun _ => ?_⟩⟩)
    · have e : w = 1 := of_decide_eq_true h1
      have n0 : n.1 < 0 := of_decide_eq_true h2
      have neg := qt_neg n0 hn.1
      refine Ok.obdP (fun _ s => GoodPool s) (Ok.sIf ?_) fun _ s g => ?_
      · refine Ok.then_ (given_q (dr_fq hn) (by decide) (by decide) s g) fun v s ⟨g, hv⟩ => ?_
        rw [try_neg hv (by decide) neg, sl_ok, sb_sr, pdtup2, so_some, sb_sr]
        rw [show peqD _ (.tup [toD ("bound" : Str), toD ("ratio" : Str)]) = some true from peq_bound, so_some, sb_sr]
        exact ⟨fun z => (nomatch z), fun _ => ⟨_, rfl, g⟩⟩
      · have e2 : qt (-n.1, n.2) = -qt n := by unfold qt; simp only [Rat.intCast_neg]; have := cast_ne hn.1; grind
        exact ⟨_, rfl, g, ⟨hn.1, rfl, (hn.2.1.mono (by decide)).neg, hn.2.2.mono (by decide)⟩, fun _ => by rw [e2]; grind⟩
    · have n0 : 0 ≤ n.1 := by have := of_decide_eq_false h2; omega
      exact ⟨_, rfl, g, dr_fq hn, fun _ => qt_nonneg n0 hn.1⟩
    · exact ⟨_, rfl, g, dr_fq hn, fun e => absurd e (of_decide_eq_false ‹_›)⟩
  · intro n s ⟨g, hn, hp⟩
    refine Ok.then_ (given_q hn (by decide) (by decide) s g) fun v s ⟨g, hv⟩ => ?_
    obtain ⟨l, ks, M, H, ev⟩ := made_q hv (by decide) (by decide) hw.1 hw.2 hp
    rw [M, sl_ok, sb_sr]
    refine Ok.then_ (number_d s g) fun m1 s ⟨g, hm⟩ => ?_
    obtain ⟨q, e1, g1⟩ := plus_q hn fq_17 (by decide)
    rw [e1, sl_ok, sb_sr, plen3, so_some, sb_sr]
    have all : ∀ x ∈ [m1, n, q], ∃ y, Fq 140 x y := fun x k => by
      rcases List.mem_cons.mp k with rfl | k
      · exact ⟨_, (dr_fq hm).mono (by decide)⟩
      · rcases List.mem_cons.mp k with rfl | k
        · exact ⟨_, hn.mono (by decide)⟩
        · rw [List.mem_singleton.mp k]; exact ⟨_, g1.mono (by decide)⟩
    refine Ok.obdP (fun _ s => GoodPool s) (Ok.forI (fun _ s => GoodPool s) g (fun x r s m g => ?_) (fun r s g => ⟨_, rfl, g⟩)) fun r s g => ?_
    · obtain ⟨y, hx⟩ := all x m
      refine Ok.obdP (fun _ s => GoodPool s) (Ok.sIf ?_) fun _ s g => Ok.sr g
      refine Ok.then_ (given_q hx (by decide) (by decide) s g) fun u s ⟨g, hu⟩ => ?_
      obtain ⟨d, e2, g2⟩ := due_q hn hx (by decide) hw.1 hw.2
      have V := call_g H (hu.asked (by decide) "amount") hu.sz (by decide) (by decide)
      rw [V, sl_ok, sb_sr, e2, sl_ok, sb_sr, ev y, gives_q (A := 1000) (T := 275) ?_ (g2.mono (by decide)) (by decide), sl_ok, sb_sr]
      · exact ⟨fun z => (nomatch z), fun _ => ⟨_, rfl, g⟩⟩
      · exact (g2.sz).mono (by decide) (by decide)
    · rw [plen5, so_some, sb_sr, names_at hw.1 hw.2, so_some, sb_sr]
      refine Ok.obdP (fun _ s => GoodPool s) (Ok.sIf ?_) fun _ s g => Ok.sr g
      refine Ok.then_ (odd_q s g) fun u s ⟨g, hu⟩ => ?_
      rw [try_no hu hw.1 hw.2, sl_ok, sb_sr, pdtup2, so_some, sb_sr]
      rw [show peqD _ (.tup [toD ("no fraction" : Str), toD (cmN w)]) = some true from peq_name hw.1 hw.2, so_some, sb_sr]
      exact ⟨fun z => (nomatch z), fun _ => ⟨_, rfl, g⟩⟩
end Lw

set_option Elab.async false
set_option linter.all false
set_option maxRecDepth 100000
set_option maxHeartbeats 0
namespace Lw
open PySem Mi
theorem peq_amount : peqD (.tup [.str "no fraction", .str "amount"]) (.tup [.str "no fraction", .str "amount"]) = some true := by decide +kernel
theorem fq_nano : Fq 30 ((1, 10 ^ 9) : Int × Int) (qt (1, 10 ^ 9)) := ⟨by decide, rfl, by show (1 : Int).natAbs < 2 ^ 30; decide, by show (10 ^ 9 : Int).natAbs < 2 ^ 30; decide⟩
theorem lawOk (s : Ro Int) : law s = .ok true := by
  unfold law
  refine runF_of ?_
  unfold law_b
  refine Ok.ofP ?_
  unfold law_p
  simp -implicitDefEqProofs only [sb_sr, sb_sb]
  rw [show prng 0 8 = _ from prng0 (n := 8) (by omega), so_some, sb_sr]
  refine Ok.obdP (fun _ s => GoodPool s) (Ok.forI (fun _ s => GoodPool s) (good_of _) (fun x r s m g => ?_) (fun r s g => ⟨_, rfl, g⟩)) (fun r s g => Ok.sr rfl)
  refine Ok.sb (Ok.draw g (by decide) (by decide) fun w s g w0 w1 => ?_)
  generalize decide (w = 0) = w
  refine Ok.then_ (spec_d (p := wideP) (K := 4) (by decide) (by decide) (by decide) (by decide) (by decide) (by decide) (fun _ => rfl) s g) fun f s ⟨g, hf, lf⟩ => ?_
  have hf : SpOk 275 134 f := hf
  have lf : f.b.length ≤ 5 := lf
  have A := hf.shp (by decide) lf
  have pf := hf.spA (by decide)
  have ef := hf.ev
  have lpos : 0 < f.b.length := List.length_pos_iff.mpr hf.ne
  rw [law_step_ok hf (by decide) (by decide)]
  generalize canR (f.b.map qk) (qt f.a) (qt f.c) = ks at A ef
  rw [sl_ok, sb_sr]
  rw [lcL_ok (t := fun _ => true) (g := fun k : (Int × Int) × (Int × Int) => k.1) (fun x hx => ⟨rfl, fun _ => rfl⟩) (by simp; omega), sb_sr, List.filter_eq_self.mpr fun _ _ => rfl, List.nil_append]
  have all0 : AllF 275 (f.b.map fun k => k.1) := fun v m => by
    obtain ⟨k, mk, rfl⟩ := List.mem_map.mp m
    exact ⟨_, (pf.k k mk).1.mono (by decide)⟩
  have len0 : (f.b.map fun k => k.1).length = f.b.length := List.length_map ..
  generalize (f.b.map fun k => k.1) = qs at all0 len0
  refine Ok.sb (Ok.draw g (by omega) (log_small (by omega)) fun i s g i0 i1 => ?_)
  obtain ⟨j, rfl⟩ : ∃ j : Nat, i = j := ⟨i.toNat, by omega⟩
  have hj : j < qs.length := by omega
  rw [pix_at (List.getElem?_eq_getElem hj), so_some, sb_sr]
  obtain ⟨y, hy⟩ := all0 _ (List.getElem_mem hj)
  obtain ⟨q, e1, g1⟩ := plus_q hy fq_nano (by decide)
  rw [show ppow 10 9 = some (10 ^ 9 : Int) from rfl, so_some, sb_sr, e1, sl_ok, sb_sr, papp_ok (by omega), so_some, sb_sr]
  have all1 : AllF 310 (qs ++ [q]) := (all0.mono (by decide)).app (AllF.one (g1.mono (by decide)))
  have len1 : (qs ++ [q]).length = f.b.length + 1 := by simp [len0]
  have fst : ∃ z, (qs ++ [q])[0]? = some z := ⟨(qs ++ [q])[0], List.getElem?_eq_getElem (by omega)⟩
  generalize qs ++ [q] = qs1 at all1 len1 fst
  rw [show prng 0 3 = _ from prng0 (n := 3) (by omega), so_some, sb_sr]
  refine Ok.obdP (fun (rs : List (Int × Int)) s => GoodPool s ∧ AllF 310 rs ∧ ∃ z, rs[0]? = some z) (Ok.for_ (fun d rs s => GoodPool s ∧ AllF 310 rs ∧ rs.length ≤ 10 + d.length ∧ ∃ z, rs[0]? = some z) (fun _ _ => False) (fun _ _ => False) ⟨g, all1, by simp; omega, fst⟩ (fun d x rs s e ⟨g, h1, h2, z, h3⟩ => ?_) (fun rs s ⟨g, h1, h2, h3⟩ => ⟨_, rfl, g, h1, h3⟩) (fun _ _ z => z.elim) (fun _ _ z => z.elim)) fun rs s ⟨g, hr, z0, ez⟩ => ?_
  · have ld : d.length ≤ 3 := by
      have := congrArg List.length e
      simp at this
      omega
    refine Ok.then_ (number_d s g) fun n s ⟨g, hn⟩ => ?_
    rw [papp_ok (by omega), so_some, sb_sr]
    have lt : 0 < rs.length := by
      have := List.getElem?_eq_some_iff.mp h3
      exact this.1
    exact ⟨g, h1.app (AllF.one ((dr_fq hn).mono (by decide))), by simp; omega, z, by rw [List.getElem?_append_left lt]; exact h3⟩
  have good : ∀ x ∈ rs, ∀ v : D, (∃ T, T ≤ 330 ∧ ∀ y, Fq 310 x y → asked v "amount" = .ok (fr y) ∧ Sz T T y) → ∃ w d, Step___call__ (stp (qt f.a) ks) v = .ok w ∧ L_law_at f x = .ok d ∧ L_law_gives (toD w) d = .ok true := fun x m v ⟨T, hT, hv⟩ => by
    obtain ⟨y, hx⟩ := hr x m
    obtain ⟨hv1, hv2⟩ := hv y hx
    obtain ⟨d, e2, g2⟩ := at_q pf hx (by decide)
    have V := call_g A hv1 hv2 (by omega) (by decide)
    refine ⟨_, d, V, e2, ?_⟩
    rw [ef y]
    exact gives_q (A := 1966) (T := 1966) (g2.sz.mono (by decide) (by decide)) (g2.mono (by decide)) (by decide)
  refine Ok.obdP (fun _ s => GoodPool s) (Ok.forI (fun _ s => GoodPool s) g (fun x r s m g => ?_) (fun r s g => ⟨_, rfl, g⟩)) fun r s g => ?_
  · refine Ok.obdP (fun _ s => GoodPool s) (Ok.sIf ?_) fun _ s g => Ok.sr g
    obtain ⟨y0, hx0⟩ := hr x m
    refine Ok.then_ (given_q hx0 (by decide) (by decide) s g) fun u s ⟨g, hu⟩ => ?_
    obtain ⟨w, d, e2, e3, e4⟩ := good x m u ⟨314, by decide, fun y hy => by
      have : y = y0 := by rw [← hy.val, hx0.val]
      subst this
      exact ⟨hu.asked (by decide) "amount", hu.sz⟩⟩
    rw [e2, sl_ok, sb_sr, e3, sl_ok, sb_sr, e4, sl_ok, sb_sr]
    exact ⟨fun z => (nomatch z), fun _ => ⟨_, rfl, g⟩⟩
  refine Ok.obdP (fun _ s => GoodPool s) (Ok.sIf ?_) fun _ s g => ?_
  · refine Ok.then_ (odd_q s g) fun u s ⟨g, hu⟩ => ?_
    rw [lcall_no hu, sl_ok, sb_sr, pdtup2, so_some, sb_sr]
    rw [show peqD _ (.tup [toD ("no fraction" : Str), toD ("amount" : Str)]) = some true from peq_amount, so_some, sb_sr]
    exact ⟨fun z => (nomatch z), fun _ => ⟨_, rfl, g⟩⟩
  have m0 : z0 ∈ rs := List.mem_of_getElem? ez
  obtain ⟨w, d, e2, e3, e4⟩ := good z0 m0 (toD z0) ⟨310, by decide, fun y hy => ⟨by rw [← hy.val]; exact asked_ok hy.pos (hy.b2.mono (by decide)), hy.sz⟩⟩
  have ep : pix rs 0 = some z0 := pix_at (i := 0) ez
  rw [ep, so_some, sb_sr, e2, sl_ok, sb_sr, sb_sr, e3, sl_ok, sb_sr, e4, sl_ok, sb_sr]
  rw [show (!true) = false from rfl, sIf_f, obd_nx]
  refine Ok.obdP (fun _ s => GoodPool s) (Ok.sIf (Ok.sAnd ⟨fun h1 => ?_, fun h1 => ⟨fun z => (nomatch z), fun _ => ⟨_, rfl, g⟩⟩⟩)) fun _ s g => Ok.sr g
  refine Ok.then_ (methods_q s g) fun b s ⟨hb, g⟩ => ?_
  subst hb
  exact ⟨fun z => (nomatch z), fun _ => ⟨_, rfl, g⟩⟩
end Lw
namespace Lw
open PySem PySem.Spec PyProof.Rows L2 Mi
theorem facts {K : Fg} {h : Heap} {mg : Str → Option Value} (X : K.In h) (G : h.Ns mainGlobals mg) (c : SaysM theFacts theDefs theXs K) : Facts PySem.Challenge.pw_everylot_k08_steps_turn_amounts K mg := {
  f_own_copy := c.def_ 0,
  g_own_copy := He.glo_ok X G (c.fact 0),
  f_is_integer := c.def_ 1,
  g_is_integer := He.glo_ok X G (c.fact 1),
  f_is_fraction := c.def_ 2,
  g_is_fraction := He.glo_ok X G (c.fact 2),
  f_reduced := c.def_ 3,
  g_reduced := He.glo_ok X G (c.fact 3),
  f_told := c.def_ 4,
  g_told := He.glo_ok X G (c.fact 4),
  f_asked := c.def_ 5,
  g_asked := He.glo_ok X G (c.fact 5),
  f_fsum := c.def_ 6,
  g_fsum := He.glo_ok X G (c.fact 6),
  f_fdiff := c.def_ 7,
  g_fdiff := He.glo_ok X G (c.fact 7),
  f_fprod := c.def_ 8,
  g_fprod := He.glo_ok X G (c.fact 8),
  f_fquot := c.def_ 9,
  g_fquot := He.glo_ok X G (c.fact 9),
  f_fless := c.def_ 10,
  g_fless := He.glo_ok X G (c.fact 10),
  f_canonical := c.def_ 11,
  g_canonical := He.glo_ok X G (c.fact 11),
  f_value_at := c.def_ 12,
  g_value_at := He.glo_ok X G (c.fact 12),
  f_place_of := c.def_ 13,
  g_place_of := He.glo_ok X G (c.fact 13),
  f_joined := c.def_ 14,
  g_joined := He.glo_ok X G (c.fact 14),
  f_is_slope := c.def_ 15,
  g_is_slope := He.glo_ok X G (c.fact 15),
  f_told_knot := c.def_ 16,
  g_told_knot := He.glo_ok X G (c.fact 16),
  f_checked_knots := c.def_ 17,
  g_checked_knots := He.glo_ok X G (c.fact 17),
  f__law_pool := c.def_ 18,
  g__law_pool := He.glo_ok X G (c.fact 18),
  f__law_draw := c.def_ 19,
  g__law_draw := He.glo_ok X G (c.fact 19),
  f__law_whole := c.def_ 20,
  g__law_whole := He.glo_ok X G (c.fact 20),
  f__law_gcd := c.def_ 21,
  g__law_gcd := He.glo_ok X G (c.fact 21),
  f__law_told := c.def_ 22,
  g__law_told := He.glo_ok X G (c.fact 22),
  f__law_even := c.def_ 23,
  g__law_even := He.glo_ok X G (c.fact 23),
  f__law_less := c.def_ 24,
  g__law_less := He.glo_ok X G (c.fact 24),
  f__law_gives := c.def_ 25,
  g__law_gives := He.glo_ok X G (c.fact 25),
  f__law_plus := c.def_ 26,
  g__law_plus := He.glo_ok X G (c.fact 26),
  f__law_minus := c.def_ 27,
  g__law_minus := He.glo_ok X G (c.fact 27),
  f__law_times := c.def_ 28,
  g__law_times := He.glo_ok X G (c.fact 28),
  f__law_over := c.def_ 29,
  g__law_over := He.glo_ok X G (c.fact 29),
  f__law_number := c.def_ 30,
  g__law_number := He.glo_ok X G (c.fact 30),
  f__law_small := c.def_ 31,
  g__law_small := He.glo_ok X G (c.fact 31),
  f__law_rise := c.def_ 32,
  g__law_rise := He.glo_ok X G (c.fact 32),
  f__law_slope := c.def_ 33,
  g__law_slope := He.glo_ok X G (c.fact 33),
  f__law_general := c.def_ 34,
  g__law_general := He.glo_ok X G (c.fact 34),
  f__law_spec := c.def_ 35,
  g__law_spec := He.glo_ok X G (c.fact 35),
  f__law_at := c.def_ 36,
  g__law_at := He.glo_ok X G (c.fact 36),
  f__law_step := c.def_ 37,
  g__law_step := He.glo_ok X G (c.fact 37),
  f__law_given := c.def_ 38,
  g__law_given := He.glo_ok X G (c.fact 38),
  f__law_odd := c.def_ 39,
  g__law_odd := He.glo_ok X G (c.fact 39),
  f__law_made := c.def_ 40,
  g__law_made := He.glo_ok X G (c.fact 40),
  f__law_try := c.def_ 41,
  g__law_try := He.glo_ok X G (c.fact 41),
  f__law_call := c.def_ 42,
  g__law_call := He.glo_ok X G (c.fact 42),
  f__law_due := c.def_ 43,
  g__law_due := He.glo_ok X G (c.fact 43),
  f__law_methods := c.def_ 44,
  g__law_methods := He.glo_ok X G (c.fact 44),
  f_law := c.def_ 45,
  g_law := He.glo_ok X G (c.fact 45),
  x_InvalidFraction := funX_of (c.xdef 0) (c.fact 46),
  e_InvalidFraction := exnB_ok (c.fact 47),
  x_InvalidStep := funX_of (c.xdef 1) (c.fact 48),
  e_InvalidStep := exnB_ok (c.fact 49),
  x_InvalidBound := funX_of (c.xdef 2) (c.fact 50),
  e_InvalidBound := exnB_ok (c.fact 51),
  f_Knots___init__ := c.def_ 46,
  f_Step___init__ := c.def_ 47,
  f_Step_shape := c.def_ 48,
  f_Step_left := c.def_ 49,
  f_Step_right := c.def_ 50,
  f_Step_knots := c.def_ 51,
  f_Step___call__ := c.def_ 52,
  f_Step___rshift__ := c.def_ 53,
  f_Step_plus := funC_of (d := { c := "Step", name := "plus", qual := "Step.plus", params := defArgs (clsM (topS 39) 1), body := defBody (clsM (topS 39) 1), scope := defScope (clsM (topS 39) 1), clo := [], at_ := fun K => cmAd K "Step" "plus" }) (c.xdef 3) (c.fact 52),
  f_Step_times := funC_of (d := { c := "Step", name := "times", qual := "Step.times", params := defArgs (clsM (topS 39) 2), body := defBody (clsM (topS 39) 2), scope := defScope (clsM (topS 39) 2), clo := [], at_ := fun K => cmAd K "Step" "times" }) (c.xdef 4) (c.fact 53),
  f_Step_at_least := funC_of (d := { c := "Step", name := "at_least", qual := "Step.at_least", params := defArgs (clsM (topS 39) 3), body := defBody (clsM (topS 39) 3), scope := defScope (clsM (topS 39) 3), clo := [], at_ := fun K => cmAd K "Step" "at_least" }) (c.xdef 5) (c.fact 54),
  f_Step_at_most := funC_of (d := { c := "Step", name := "at_most", qual := "Step.at_most", params := defArgs (clsM (topS 39) 4), body := defBody (clsM (topS 39) 4), scope := defScope (clsM (topS 39) 4), clo := [], at_ := fun K => cmAd K "Step" "at_most" }) (c.xdef 6) (c.fact 55),
  f_Step_always := funC_of (d := { c := "Step", name := "always", qual := "Step.always", params := defArgs (clsM (topS 39) 5), body := defBody (clsM (topS 39) 5), scope := defScope (clsM (topS 39) 5), clo := [], at_ := fun K => cmAd K "Step" "always" }) (c.xdef 7) (c.fact 56),
  c_Knots := He.cls_ok (c.fact 57),
  n_Knots_rows := He.noat_ok (c.fact 58),
  k_Knots := He.mkr_ok (c.fact 59),
  g_Knots := He.glo_ok X G (c.fact 60),
  c_Step := He.cls_ok (c.fact 61),
  n_Step_points := He.noat_ok (c.fact 62),
  n_Step_slopes := He.noat_ok (c.fact 63),
  k_Step := He.mkr_ok (c.fact 64),
  g_Step := He.glo_ok X G (c.fact 65),
  m_Step_shape := He.meth_ok (c.fact 66),
  m_Step_left := He.meth_ok (c.fact 67),
  m_Step_right := He.meth_ok (c.fact 68),
  m_Step_knots := He.meth_ok (c.fact 69),
  m_Step___call__ := He.meth_ok (c.fact 70),
  m_Step___rshift__ := He.meth_ok (c.fact 71),
  v_Step_plus := cmB_ok (c.fact 72),
  v_Step_times := cmB_ok (c.fact 73),
  v_Step_at_least := cmB_ok (c.fact 74),
  v_Step_at_most := cmB_ok (c.fact 75),
  v_Step_always := cmB_ok (c.fact 76),
  w_Step___call__ := c.fact 77,
  g_InvalidFraction := He.glo_ok X G (c.fact 78),
  g_InvalidStep := He.glo_ok X G (c.fact 79),
  g_InvalidBound := He.glo_ok X G (c.fact 80),
  tags := tags_of X G (c.fact 81),
  t_InvalidFraction_name := fldB_ok (c.fact 82),
  t_InvalidStep_part := fldB_ok (c.fact 83),
  t_InvalidStep_at := fldB_ok (c.fact 84),
  t_InvalidBound_name := fldB_ok (c.fact 85),
  file := by decide +kernel,
  tops := by decide +kernel,
  opq := of_decide_eq_true (c.fact 86),
  o_InvalidFraction := ⟨of_decide_eq_true (c.fact 87), fun o ho => of_decide_eq_true (List.all_eq_true.mp (c.fact 88) o ho), He.glo_ok X G (c.fact 89), (exnB_ok (c.fact 90)).2.2.2⟩,
  o_InvalidBound := ⟨of_decide_eq_true (c.fact 91), fun o ho => of_decide_eq_true (List.all_eq_true.mp (c.fact 92) o ho), He.glo_ok X G (c.fact 93), (exnB_ok (c.fact 94)).2.2.2⟩,
  b_abs := He.free_ok X G (c.fact 95),
  b_bool := He.free_ok X G (c.fact 96),
  b_dict := He.free_ok X G (c.fact 97),
  b_int := He.free_ok X G (c.fact 98),
  b_isinstance := He.free_ok X G (c.fact 99),
  b_len := He.free_ok X G (c.fact 100),
  b_list := He.free_ok X G (c.fact 101),
  b_max := He.free_ok X G (c.fact 102),
  b_range := He.free_ok X G (c.fact 103),
  b_super := He.free_ok X G (c.fact 104),
  b_tuple := He.free_ok X G (c.fact 105),
  c_ZERO := con_fr X G (c.fact 106) (c.fact 107),
  c_ONE := con_fr X G (c.fact 108) (c.fact 109) }
end Lw
open PySem PySem.W PySem.Calls PyProof.Rows
theorem PySem.Challenge.cw_everylot_k08_steps_turn_amounts_holds : PySem.Challenge.rw_everylot_k08_steps_turn_amounts.Holds := by
  w_on; o_law
  refine HandSHeadRun.head_any (r := Lw.RowX) (q := Lw.seen) (H := Lw.hk) (ob := Lw.ob) (M := 20000) (loose := Lw.names) (d := HandSHeadRun.topDef Lw.RowX.prog 68) (kwd := []) Lw.ob_eq
    (by kernel_rfl) (fun s => by kernel_rfl) Lw.run (by kernel_rfl) (by kernel_rfl) (by kernel_rfl) (by rfl) (by first | assumption | decide +kernel) (by decide +kernel) ⟨rfl, rfl, rfl, rfl, rfl, by decide +kernel⟩ ?ww ?cc
  case ww => w_witness2
  case cc =>
    refine Mi.walk_ofM (law := PySem.Challenge.rw_everylot_k08_steps_turn_amounts) (n := 63) (k := 11) (x := "script") rfl (by decide) (by kernel_rfl) ⟨rfl, by decide, by decide⟩ fun w mg fa h Y G hmg0 => ?_
    obtain ⟨K, KX, c⟩ := Y
    have Z := Lw.facts KX G c
    have hmg : mg ("law" : PySem.Str) = some (.ref fa) := by
      have e : (HandSHeadRun.topDef Lw.RowX.prog 68).name = ("law" : PySem.Str) := by kernel_rfl
      rw [← e]
      exact hmg0
    obtain ⟨fd, F⟩ := Z.f_law
    have e := hmg.symm.trans Z.g_law
    cases e
    exact ⟨K, fd, fun a => Lw.law a.1, KX, fun ns hl => Lw.lawOk _, fun s v => (L2.FunD.bindsA (ps := ["script"]) F fun _ _ _ _ _ _ us hl => match us, hl with | [_], _ => rfl) s [v] rfl, fun base _ _ => Lw.ok_law Z F⟩
