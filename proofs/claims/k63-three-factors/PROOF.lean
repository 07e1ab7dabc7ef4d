import PyProof.Rows.All
import Wide.All
import OpenK.AllK
import Wide.FinOn
import HandS.ForMost
import HandS.Exc
import HandS.WideBits
import HandS.TupAny
import HandS.Deep
import HandS.Style
import KE.KxField
import HandS.IsInst
import HandS.FStr
import HandS.CallSlots
import HandS.Words
import HandS.RaiseMore
import HandS.SortInts
import HandS.Lambda
import HandS.WordsExc
import HandS.Conv
import HandS.Comp
import HandS.Ends
import KE.BitLaws
import HandS.Text
import PyProof.ReprLen
import PySem.Challenge.RW_blindtwins_k63_whole_three_factors
set_option Elab.async false
set_option linter.all false
section
set_option maxRecDepth 100000
namespace BT
open PySem L2

inductive D where
  | non
  | bl (b : Bool)
  | int (i : Int)
  | str (s : PySem.Str)
  | tup (xs : List D)
  | lst (xs : List D)
  | dct (ks : List Key) (xs : List D)
  | obj (c : Nat) (ns : List PySem.Str) (xs : List D)
  deriving Inhabited

inductive DV where
  | val (d : D)
  | loc (n : Nat)

abbrev Store := List (Option (Bool × D))
abbrev Slots := List (Option DV)

structure Tx where
  K : PySem.W.Frag
  cl : Nat → Addr

def SL (T : Tx) (F : Addr → Prop) (H : Hp) (a : Addr) (xs : List V) : Prop :=
  (¬ F a ∧ Rd H a (.lst xs)) ∨ SqL T.K (fun _ => none) a xs
def ST (T : Tx) (F : Addr → Prop) (H : Hp) (a : Addr) (xs : List V) : Prop :=
  (¬ F a ∧ Rd H a (.tup xs)) ∨ SqT T.K (fun _ => none) a xs

theorem SL.sq {T : Tx} {F : Addr → Prop} {H : Hp} {a : Addr} {xs : List V} (h : SL T F H a xs) : SqL T.K H a xs := by
  rcases h with ⟨_, h⟩ | h
  · exact .inl h
  · rcases h with h | h
    · rcases h with h | ⟨o, h⟩ <;> cases h
    · exact .inr h
theorem ST.sq {T : Tx} {F : Addr → Prop} {H : Hp} {a : Addr} {xs : List V} (h : ST T F H a xs) : SqT T.K H a xs := by
  rcases h with ⟨_, h⟩ | h
  · exact .inl h
  · rcases h with h | h
    · rcases h with h | ⟨o, h⟩ <;> cases h
    · exact .inr h

mutual
def Fz (T : Tx) (F : Addr → Prop) (H : Hp) : D → V → Prop
  | .non, v => v = .non
  | .bl b, v => v = .bl b
  | .int i, v => v = .int i
  | .str s, v => v = .str s
  | .tup ds, v => ∃ a xs, v = .ref a ∧ ST T F H a xs ∧ FzL T F H ds xs
  | .lst ds, v => ∃ a xs, v = .ref a ∧ SL T F H a xs ∧ FzL T F H ds xs
  | .dct ks ds, v => ∃ a xs, v = .ref a ∧ (¬ F a ∧ H a = some (.dK (ks.zip xs)) ∧ ks.length = xs.length) ∧ FzL T F H ds xs
  | .obj c ns ds, v => ∃ a xs, v = .ref a ∧ (¬ F a ∧ (∃ dx, H a = some (.ins (T.cl c) dx (ns.zip xs))) ∧ ns.length = xs.length) ∧ FzL T F H ds xs
def FzL (T : Tx) (F : Addr → Prop) (H : Hp) : List D → List V → Prop
  | [], vs => vs = []
  | d :: ds, vs => ∃ v r, vs = v :: r ∧ Fz T F H d v ∧ FzL T F H ds r
end

def Rt (T : Tx) (F : Addr → Prop) (H : Hp) (a : Addr) : D → Prop
  | .lst ds => ∃ xs, H a = some (.lst xs) ∧ FzL T F H ds xs
  | .dct ks ds => ∃ xs, H a = some (.dK (ks.zip xs)) ∧ ks.length = xs.length ∧ FzL T F H ds xs
  | .obj c ns ds => ∃ xs dx, H a = some (.ins (T.cl c) dx (ns.zip xs)) ∧ ns.length = xs.length ∧ FzL T F H ds xs
  | _ => False

section
variable {T : Tx} {F F' : Addr → Prop} {H H' : Hp}
theorem SL.mono {a : Addr} {xs : List V} (k : ∀ a o, H a = some o → ¬ F a → H' a = some o) (f : ∀ a o, H a = some o → F' a → F a) (h : SL T F H a xs) : SL T F' H' a xs := by
  rcases h with ⟨n, h⟩ | h
  · rcases h with h | ⟨o, h⟩
    · exact .inl ⟨fun z => n (f _ _ h z), .inl (k _ _ h n)⟩
    · exact .inl ⟨fun z => n (f _ _ h z), .inr ⟨o, k _ _ h n⟩⟩
  · exact .inr h
theorem ST.mono {a : Addr} {xs : List V} (k : ∀ a o, H a = some o → ¬ F a → H' a = some o) (f : ∀ a o, H a = some o → F' a → F a) (h : ST T F H a xs) : ST T F' H' a xs := by
  rcases h with ⟨n, h⟩ | h
  · rcases h with h | ⟨o, h⟩
    · exact .inl ⟨fun z => n (f _ _ h z), .inl (k _ _ h n)⟩
    · exact .inl ⟨fun z => n (f _ _ h z), .inr ⟨o, k _ _ h n⟩⟩
  · exact .inr h
mutual
theorem Fz.mono (k : ∀ a o, H a = some o → ¬ F a → H' a = some o) (f : ∀ a o, H a = some o → F' a → F a) : ∀ (d : D) (v : V), Fz T F H d v → Fz T F' H' d v
  | .non, _, h => h
  | .bl _, _, h => h
  | .int _, _, h => h
  | .str _, _, h => h
  | .tup ds, v, h => by
    unfold Fz at h ⊢
    obtain ⟨a, xs, e, s, r⟩ := h
    exact ⟨a, xs, e, s.mono k f, FzL.mono k f ds xs r⟩
  | .lst ds, v, h => by
    unfold Fz at h ⊢
    obtain ⟨a, xs, e, s, r⟩ := h
    exact ⟨a, xs, e, s.mono k f, FzL.mono k f ds xs r⟩
  | .dct ks ds, v, h => by
    unfold Fz at h ⊢
    obtain ⟨a, xs, e, ⟨n, s, l⟩, r⟩ := h
    exact ⟨a, xs, e, ⟨fun z => n (f _ _ s z), k _ _ s n, l⟩, FzL.mono k f ds xs r⟩
  | .obj c ns ds, v, h => by
    unfold Fz at h ⊢
    obtain ⟨a, xs, e, ⟨n, ⟨dx, s⟩, l⟩, r⟩ := h
    exact ⟨a, xs, e, ⟨fun z => n (f _ _ s z), ⟨dx, k _ _ s n⟩, l⟩, FzL.mono k f ds xs r⟩
theorem FzL.mono (k : ∀ a o, H a = some o → ¬ F a → H' a = some o) (f : ∀ a o, H a = some o → F' a → F a) : ∀ (ds : List D) (vs : List V), FzL T F H ds vs → FzL T F' H' ds vs
  | [], _, h => by unfold FzL at h ⊢; exact h
  | d :: ds, _, h => by
    unfold FzL at h ⊢
    obtain ⟨v, r, e, h1, h2⟩ := h
    exact ⟨v, r, e, Fz.mono k f d v h1, FzL.mono k f ds r h2⟩
end
theorem FzL.length : ∀ {ds : List D} {vs : List V}, FzL T F H ds vs → ds.length = vs.length
  | [], _, h => by unfold FzL at h; subst h; rfl
  | d :: ds, _, h => by
    unfold FzL at h
    obtain ⟨v, r, e, h1, h2⟩ := h
    subst e
    simp [FzL.length h2]
theorem FzL.get : ∀ {ds : List D} {vs : List V} {i : Nat} {d : D}, FzL T F H ds vs → ds[i]? = some d → ∃ v, vs[i]? = some v ∧ Fz T F H d v
  | [], _, _, _, _, e => by simp at e
  | d :: ds, _, 0, _, h, e => by
    unfold FzL at h
    obtain ⟨v, r, e1, h1, h2⟩ := h
    subst e1
    simp at e
    subst e
    exact ⟨v, rfl, h1⟩
  | d :: ds, _, i + 1, _, h, e => by
    unfold FzL at h
    obtain ⟨v, r, e1, h1, h2⟩ := h
    subst e1
    obtain ⟨u, e2, h3⟩ := FzL.get (i := i) h2 (by simpa using e)
    exact ⟨u, by simpa using e2, h3⟩
theorem FzL.getV : ∀ {ds : List D} {vs : List V} {i : Nat} {v : V}, FzL T F H ds vs → vs[i]? = some v → ∃ d, ds[i]? = some d ∧ Fz T F H d v
  | [], _, _, _, h, e => by unfold FzL at h; subst h; simp at e
  | d :: ds, _, 0, _, h, e => by
    unfold FzL at h
    obtain ⟨v, r, e1, h1, h2⟩ := h
    subst e1
    simp at e
    subst e
    exact ⟨d, rfl, h1⟩
  | d :: ds, _, i + 1, _, h, e => by
    unfold FzL at h
    obtain ⟨v, r, e1, h1, h2⟩ := h
    subst e1
    obtain ⟨u, e2, h3⟩ := FzL.getV (i := i) h2 (by simpa using e)
    exact ⟨u, by simpa using e2, h3⟩
theorem FzL.append : ∀ {ds es : List D} {vs us : List V}, FzL T F H ds vs → FzL T F H es us → FzL T F H (ds ++ es) (vs ++ us)
  | [], _, _, _, h, g => by unfold FzL at h; subst h; exact g
  | d :: ds, _, _, _, h, g => by
    unfold FzL at h
    obtain ⟨v, r, e1, h1, h2⟩ := h
    subst e1
    show FzL T F H (d :: (ds ++ _)) (v :: (r ++ _))
    unfold FzL
    exact ⟨v, _, rfl, h1, FzL.append h2 g⟩
theorem FzL.set : ∀ {ds : List D} {vs : List V} {d : D} {v : V} (i : Nat), FzL T F H ds vs → Fz T F H d v → FzL T F H (ds.set i d) (vs.set i v)
  | [], _, _, _, _, h, _ => by unfold FzL at h; subst h; unfold FzL; rfl
  | d :: ds, _, _, _, 0, h, g => by
    unfold FzL at h
    obtain ⟨v, r, e1, h1, h2⟩ := h
    subst e1
    show FzL T F H (_ :: ds) (_ :: r)
    unfold FzL
    exact ⟨_, _, rfl, g, h2⟩
  | d :: ds, _, _, _, i + 1, h, g => by
    unfold FzL at h
    obtain ⟨v, r, e1, h1, h2⟩ := h
    subst e1
    show FzL T F H (d :: ds.set i _) (v :: r.set i _)
    unfold FzL
    exact ⟨_, _, rfl, h1, FzL.set i h2 g⟩
theorem FzL.take : ∀ {ds : List D} {vs : List V} (i : Nat), FzL T F H ds vs → FzL T F H (ds.take i) (vs.take i)
  | _, _, 0, _ => by simp [FzL]
  | [], _, _ + 1, h => by unfold FzL at h; subst h; simp [FzL]
  | d :: ds, _, i + 1, h => by
    unfold FzL at h
    obtain ⟨v, r, e1, h1, h2⟩ := h
    subst e1
    show FzL T F H (d :: ds.take i) (v :: r.take i)
    unfold FzL
    exact ⟨_, _, rfl, h1, FzL.take i h2⟩
theorem FzL.drop : ∀ {ds : List D} {vs : List V} (i : Nat), FzL T F H ds vs → FzL T F H (ds.drop i) (vs.drop i)
  | _, _, 0, h => h
  | [], _, _ + 1, h => by unfold FzL at h; subst h; simp [FzL]
  | d :: ds, _, i + 1, h => by
    unfold FzL at h
    obtain ⟨v, r, e1, h1, h2⟩ := h
    subst e1
    exact FzL.drop i h2
theorem Rt.mono {a : Addr} {d : D} (k : ∀ a o, H a = some o → ¬ F a → H' a = some o) (f : ∀ a o, H a = some o → F' a → F a) (ka : H' a = H a) (h : Rt T F H a d) : Rt T F' H' a d := by
  cases d with
  | lst ds =>
    obtain ⟨xs, e, r⟩ := h
    exact ⟨xs, by rw [ka]; exact e, r.mono k f⟩
  | dct ks ds =>
    obtain ⟨xs, e, l, r⟩ := h
    exact ⟨xs, by rw [ka]; exact e, l, r.mono k f⟩
  | obj c ns ds =>
    obtain ⟨xs, dx, e, l, r⟩ := h
    exact ⟨xs, dx, by rw [ka]; exact e, l, r.mono k f⟩
  | _ => exact h
theorem Rt.freeze {a : Addr} {d : D} (h : Rt T F H a d) (n : ¬ F a) : Fz T F H d (.ref a) := by
  cases d with
  | lst ds =>
    obtain ⟨xs, e, r⟩ := h
    unfold Fz
    exact ⟨a, xs, rfl, .inl ⟨n, .inl e⟩, r⟩
  | dct ks ds =>
    obtain ⟨xs, e, l, r⟩ := h
    unfold Fz
    exact ⟨a, xs, rfl, ⟨n, e, l⟩, r⟩
  | obj c ns ds =>
    obtain ⟨xs, dx, e, l, r⟩ := h
    unfold Fz
    exact ⟨a, xs, rfl, ⟨n, ⟨dx, e⟩, l⟩, r⟩
  | _ => exact h.elim
theorem Rt.tracked {a : Addr} {d : D} (h : Rt T F H a d) : ∃ o, H a = some o := by
  cases d with
  | lst ds => obtain ⟨xs, e, _⟩ := h; exact ⟨_, e⟩
  | dct ks ds => obtain ⟨xs, e, _⟩ := h; exact ⟨_, e⟩
  | obj c ns ds => obtain ⟨xs, dx, e, _⟩ := h; exact ⟨_, e⟩
  | _ => exact h.elim
end

def Lv (β : List Addr) (so : Store) (a : Addr) : Prop := ∃ (n : Nat) (d : D), so[n]? = some (some (true, d)) ∧ β[n]? = some a
def Av (Fb : Addr → Prop) (β : List Addr) (so : Store) (a : Addr) : Prop := Fb a ∨ Lv β so a

def RV (T : Tx) (F : Addr → Prop) (H : Hp) (β : List Addr) : DV → V → Prop
  | .val d, v => Fz T F H d v
  | .loc n, v => ∃ a, β[n]? = some a ∧ v = .ref a

structure Cn where
  T : Tx
  Fb : Addr → Prop
  B : List (Option Addr)
  H0 : Hp

abbrev Cn.F (C : Cn) (β : List Addr) (so : Store) : Addr → Prop := Av C.Fb β so

structure Rel (C : Cn) (β : List Addr) (sl : Slots) (so : Store) (σ : L2.St) (H : Hp) : Prop where
  len : β.length = so.length
  nsl : sl.length ≤ so.length
  sll : σ.length = sl.length
  bor : ∀ (n : Nat) (a : Addr), C.B[n]? = some (some a) → n < sl.length ∧ β[n]? = some a ∧ ∃ e, so[n]? = some (some e)
  own : ∀ (i j : Nat), sl[i]? = some (some (.loc j)) → j = i ∧ ∃ e, so[i]? = some (some e)
  slots : ∀ (i : Nat) (dv : DV), sl[i]? = some (some dv) → ∃ v, σ[i]? = some (some v) ∧ RV C.T (C.F β so) H β dv v
  live : ∀ (n : Nat) (d : D) (a : Addr), so[n]? = some (some (true, d)) → β[n]? = some a → Rt C.T (C.F β so) H a d
  froz : ∀ (n : Nat) (d : D) (a : Addr), so[n]? = some (some (false, d)) → β[n]? = some a → Fz C.T (C.F β so) H d (.ref a)
  dist : ∀ (n m : Nat) (d e : D) (a : Addr), so[n]? = some (some (true, d)) → so[m]? = some (some (true, e)) → β[n]? = some a → β[m]? = some a → n = m
  trk : ∀ (n : Nat) (e : Bool × D) (a : Addr), so[n]? = some (some e) → β[n]? = some a → ∃ o, H a = some o
  keep : ∀ a o, C.H0 a = some o → some a ∉ C.B → H a = some o
  fresh : ∀ (n : Nat) (e : Bool × D) (a : Addr), so[n]? = some (some e) → β[n]? = some a → C.B[n]? = some (some a) ∨ C.H0 a = none
  fb : ∀ a, C.Fb a → (∃ o, C.H0 a = some o) ∧ some a ∉ C.B

structure Step (β : List Addr) (so : Store) (H : Hp) (β' : List Addr) (so' : Store) (H' : Hp) : Prop where
  lv : ∀ a, Lv β' so' a → Lv β so a ∨ H a = none
  keep : ∀ a o, H a = some o → ¬ Lv β so a → H' a = some o
  stay : ∀ a o, H a = some o → ∃ o', H' a = some o'
structure Run (β : List Addr) (so : Store) (H : Hp) (β' : List Addr) (so' : Store) (H' : Hp) : Prop extends Step β so H β' so' H' where
  pre : β <+: β'
  ne : ∀ (i : Nat) (e : Bool × D), so[i]? = some (some e) → ∃ e', so'[i]? = some (some e')

theorem Step.refl {β : List Addr} {so : Store} {H : Hp} : Step β so H β so H := ⟨fun _ h => .inl h, fun _ _ h _ => h, fun _ _ h => ⟨_, h⟩⟩
theorem Step.trans {β β1 β2 : List Addr} {so so1 so2 : Store} {H H1 H2 : Hp} (a : Step β so H β1 so1 H1) (b : Step β1 so1 H1 β2 so2 H2) : Step β so H β2 so2 H2 where
  lv := fun x h => by
    rcases b.lv x h with h | h
    · exact a.lv x h
    · right
      cases q : H x with
      | none => rfl
      | some o =>
        obtain ⟨o', e⟩ := a.stay x o q
        rw [h] at e; cases e
  keep := fun x o h n => by
    refine b.keep x o (a.keep x o h n) fun z => ?_
    rcases a.lv x z with z | z
    · exact n z
    · rw [h] at z; cases z
  stay := fun x o h => by
    obtain ⟨o', e⟩ := a.stay x o h
    exact b.stay x o' e
theorem Run.refl {β : List Addr} {so : Store} {H : Hp} : Run β so H β so H := ⟨.refl, List.prefix_refl _, fun _ e h => ⟨e, h⟩⟩
theorem Run.trans {β β1 β2 : List Addr} {so so1 so2 : Store} {H H1 H2 : Hp} (a : Run β so H β1 so1 H1) (b : Run β1 so1 H1 β2 so2 H2) : Run β so H β2 so2 H2 := ⟨a.toStep.trans b.toStep, a.pre.trans b.pre, fun i e h => let ⟨e1, h1⟩ := a.ne i e h; b.ne i e1 h1⟩

section
variable {C : Cn} {β β' : List Addr} {sl sl' : Slots} {so so' : Store} {σ σ' : L2.St} {H H' : Hp}
theorem Rel.lvOf (R : Rel C β sl so σ H) {a : Addr} (h : Lv β so a) : ∃ o, H a = some o := by
  obtain ⟨n, d, h1, h2⟩ := h
  exact (R.live n d a h1 h2).tracked
theorem Rel.fbNot (R : Rel C β sl so σ H) {a : Addr} (h : C.Fb a) : ¬ Lv β so a := by
  rintro ⟨n, d, h1, h2⟩
  obtain ⟨⟨o, e⟩, nb⟩ := R.fb a h
  rcases R.fresh n _ a h1 h2 with z | z
  · exact nb (List.mem_of_getElem? z)
  · rw [z] at e; cases e
theorem Rel.fbOf (R : Rel C β sl so σ H) {a : Addr} (h : C.Fb a) : ∃ o, H a = some o := by
  obtain ⟨⟨o, e⟩, nb⟩ := R.fb a h
  exact ⟨o, R.keep a o e nb⟩
theorem Rel.avOf (R : Rel C β sl so σ H) {a : Addr} (h : C.F β so a) : ∃ o, H a = some o := h.elim R.fbOf R.lvOf
theorem Step.frz (S : Step β so H β' so' H') : ∀ a o, H a = some o → ¬ C.F β so a → H' a = some o := fun a o h n => S.keep a o h fun z => n (.inr z)
theorem Step.avd (S : Step β so H β' so' H') : ∀ a o, H a = some o → C.F β' so' a → C.F β so a := fun a o h z => by
  rcases z with z | z
  · exact .inl z
  · rcases S.lv a z with z | z
    · exact .inr z
    · rw [h] at z; cases z
theorem Fz.step {d : D} {v : V} (S : Step β so H β' so' H') (h : Fz C.T (C.F β so) H d v) : Fz C.T (C.F β' so') H' d v := h.mono S.frz S.avd
theorem FzL.step {d : List D} {v : List V} (S : Step β so H β' so' H') (h : FzL C.T (C.F β so) H d v) : FzL C.T (C.F β' so') H' d v := h.mono S.frz S.avd
theorem pre_get {α : Type} {l l' : List α} (h : l <+: l') {n : Nat} {a : α} (e : l[n]? = some a) : l'[n]? = some a := by
  obtain ⟨t, rfl⟩ := h
  rw [List.getElem?_append_left (List.getElem?_eq_some_iff.mp e).1]
  exact e
theorem RV.stp {dv : DV} {v : V} (S : Step β so H β' so' H') (p : β <+: β') (h : RV C.T (C.F β so) H β dv v) : RV C.T (C.F β' so') H' β' dv v := by
  cases dv with
  | val d => exact Fz.step S h
  | loc n =>
    obtain ⟨a, e, q⟩ := h
    exact ⟨a, pre_get p e, q⟩
theorem RV.step {dv : DV} {v : V} (S : Run β so H β' so' H') (h : RV C.T (C.F β so) H β dv v) : RV C.T (C.F β' so') H' β' dv v := RV.stp S.toStep S.pre h
theorem RV.stay {dv : DV} {v : V} (S : Step β so H β so' H') (h : RV C.T (C.F β so) H β dv v) : RV C.T (C.F β so') H' β dv v := RV.stp S (List.prefix_refl _) h
end
end BT
end

section
set_option maxRecDepth 100000
namespace BT
open PySem L2
section
variable {C : Cn} {β : List Addr} {sl : Slots} {so : Store} {σ : L2.St} {H : Hp}

theorem upd_keep {p : Addr} {o : HO} (hp : H p = none) : ∀ a u, H a = some u → upd H p o a = some u := fun a u h => by
  rw [upd_ne (ne_of_none h hp)]; exact h

theorem Run.new {p : Addr} {o : HO} (hp : H p = none) : Run β so H β so (upd H p o) :=
  ⟨⟨fun _ h => .inl h, fun a u h _ => upd_keep hp a u h, fun a u h => ⟨u, upd_keep hp a u h⟩⟩, List.prefix_refl _, fun _ e h => ⟨e, h⟩⟩
theorem Rel.new (R : Rel C β sl so σ H) {p : Addr} {o : HO} (hp : H p = none) : Rel C β sl so σ (upd H p o) := by
  have S : Run β so H β so (upd H p o) := Run.new hp
  refine ⟨R.len, R.nsl, R.sll, R.bor, R.own, fun i dv h => ?_, fun n d a h1 h2 => ?_, fun n d a h1 h2 => (R.froz n d a h1 h2).step S.toStep, R.dist, fun n e a h1 h2 => ?_, fun a u h n => upd_keep hp a u (R.keep a u h n), R.fresh, R.fb⟩
  · obtain ⟨v, e, r⟩ := R.slots i dv h
    exact ⟨v, e, r.step S⟩
  · have r := R.live n d a h1 h2
    obtain ⟨u, hu⟩ := r.tracked
    exact r.mono S.frz S.avd (upd_ne (ne_of_none hu hp))
  · obtain ⟨u, hu⟩ := R.trk n e a h1 h2
    exact ⟨u, upd_keep hp a u hu⟩

theorem getElem?_push {α : Type} {l : List α} {x : α} {n : Nat} {y : α} (h : (l ++ [x])[n]? = some y) : (n < l.length ∧ l[n]? = some y) ∨ (n = l.length ∧ y = x) := by
  by_cases hn : n < l.length
  · rw [List.getElem?_append_left hn] at h
    exact .inl ⟨hn, h⟩
  · rw [List.getElem?_append_right (by omega)] at h
    have hz : n - l.length = 0 := by
      cases q : n - l.length with
      | zero => rfl
      | succ k => rw [q] at h; simp at h
    rw [hz] at h
    simp at h
    exact .inr ⟨by omega, h.symm⟩
theorem getElem?_push_of {α : Type} {l : List α} {x : α} {n : Nat} {y : α} (h : l[n]? = some y) : (l ++ [x])[n]? = some y := by
  rw [List.getElem?_append_left (List.getElem?_eq_some_iff.mp h).1]; exact h
theorem lv_push {p a : Addr} {d : D} (hl : β.length = so.length) : Lv (β ++ [p]) (so ++ [some (true, d)]) a ↔ Lv β so a ∨ a = p := by
  constructor
  · rintro ⟨n, e, h1, h2⟩
    rcases getElem?_push h1 with ⟨l1, h1⟩ | ⟨l1, h1⟩
    · rcases getElem?_push h2 with ⟨l2, h2⟩ | ⟨l2, h2⟩
      · exact .inl ⟨n, e, h1, h2⟩
      · omega
    · rcases getElem?_push h2 with ⟨l2, h2⟩ | ⟨l2, h2⟩
      · omega
      · exact .inr h2
  · rintro (⟨n, e, h1, h2⟩ | rfl)
    · exact ⟨n, e, getElem?_push_of h1, getElem?_push_of h2⟩
    · exact ⟨so.length, d, by simp, by rw [← hl]; simp⟩
theorem Rel.h0 (R : Rel C β sl so σ H) {p : Addr} (hp : H p = none) : C.H0 p = none := by
  cases q : C.H0 p with
  | none => rfl
  | some u =>
    by_cases hb : some p ∈ C.B
    · obtain ⟨i, hi⟩ := List.mem_iff_getElem?.mp hb
      obtain ⟨_, h2, e, h3⟩ := R.bor i p hi
      obtain ⟨u', hu⟩ := R.trk i e p h3 h2
      rw [hp] at hu; cases hu
    · have := R.keep p u q hb
      rw [hp] at this; cases this

theorem Run.push {p : Addr} {o : HO} {d : D} (R : Rel C β sl so σ H) (hp : H p = none) : Run β so H (β ++ [p]) (so ++ [some (true, d)]) (upd H p o) :=
  ⟨⟨fun a h => ((lv_push R.len).mp h).imp (fun z => z) (fun (e : a = p) => by rw [e]; exact hp), fun a u h _ => upd_keep hp a u h, fun a u h => ⟨u, upd_keep hp a u h⟩⟩, List.prefix_append _ _, fun _ e h => ⟨e, getElem?_push_of h⟩⟩
theorem Rel.push (R : Rel C β sl so σ H) {p : Addr} {o : HO} {d : D} (hp : H p = none) (r : Rt C.T (C.F (β ++ [p]) (so ++ [some (true, d)])) (upd H p o) p d) :
    Rel C (β ++ [p]) sl (so ++ [some (true, d)]) σ (upd H p o) := by
  have S : Run β so H (β ++ [p]) (so ++ [some (true, d)]) (upd H p o) := Run.push R hp
  have h0 : C.H0 p = none := R.h0 hp
  have hl := R.len
  refine ⟨by simp [R.len], by have := R.nsl; simp; omega, R.sll, fun n a h => ?_, fun i j h => ?_, fun i dv h => ?_, fun n e a h1 h2 => ?_, fun n e a h1 h2 => ?_, fun n m e1 e2 a h1 h2 h3 h4 => ?_, fun n e a h1 h2 => ?_, fun a u h n => upd_keep hp a u (R.keep a u h n), fun n e a h1 h2 => ?_, R.fb⟩
  · obtain ⟨q1, q2, e, q3⟩ := R.bor n a h
    exact ⟨q1, getElem?_push_of q2, e, getElem?_push_of q3⟩
  · obtain ⟨q1, e, q2⟩ := R.own i j h
    exact ⟨q1, e, getElem?_push_of q2⟩
  · obtain ⟨v, e, q⟩ := R.slots i dv h
    exact ⟨v, e, q.step S⟩
  · rcases getElem?_push h1 with ⟨l1, h1⟩ | ⟨l1, h1⟩
    · rcases getElem?_push h2 with ⟨l2, h2⟩ | ⟨l2, h2⟩
      · have q := R.live n e a h1 h2
        obtain ⟨u, hu⟩ := q.tracked
        exact q.mono S.frz S.avd (upd_ne (ne_of_none hu hp))
      · omega
    · rcases getElem?_push h2 with ⟨l2, h2⟩ | ⟨l2, h2⟩
      · omega
      · cases h1; subst h2; exact r
  · rcases getElem?_push h1 with ⟨l1, h1⟩ | ⟨l1, h1⟩
    · rcases getElem?_push h2 with ⟨l2, h2⟩ | ⟨l2, h2⟩
      · exact (R.froz n e a h1 h2).step S.toStep
      · omega
    · cases h1
  · rcases getElem?_push h1 with ⟨l1, h1⟩ | ⟨l1, h1⟩ <;> rcases getElem?_push h2 with ⟨l2, h2⟩ | ⟨l2, h2⟩ <;> rcases getElem?_push h3 with ⟨l3, h3⟩ | ⟨l3, h3⟩ <;> rcases getElem?_push h4 with ⟨l4, h4⟩ | ⟨l4, h4⟩
    all_goals first
      | exact R.dist n m e1 e2 a h1 h2 h3 h4
      | omega
      | skip
    all_goals (exfalso; first
      | (obtain ⟨u, hu⟩ := (R.live n e1 a h1 h3).tracked; subst h4; rw [hp] at hu; cases hu)
      | (obtain ⟨u, hu⟩ := (R.live m e2 a h2 h4).tracked; subst h3; rw [hp] at hu; cases hu))
  · rcases getElem?_push h1 with ⟨l1, h1⟩ | ⟨l1, h1⟩
    · rcases getElem?_push h2 with ⟨l2, h2⟩ | ⟨l2, h2⟩
      · obtain ⟨u, hu⟩ := R.trk n e a h1 h2
        exact ⟨u, upd_keep hp a u hu⟩
      · omega
    · rcases getElem?_push h2 with ⟨l2, h2⟩ | ⟨l2, h2⟩
      · omega
      · subst h2; exact ⟨o, upd_same⟩
  · rcases getElem?_push h1 with ⟨l1, h1⟩ | ⟨l1, h1⟩
    · rcases getElem?_push h2 with ⟨l2, h2⟩ | ⟨l2, h2⟩
      · exact R.fresh n e a h1 h2
      · omega
    · rcases getElem?_push h2 with ⟨l2, h2⟩ | ⟨l2, h2⟩
      · omega
      · subst h2; exact .inr h0

theorem lv_set_out {n : Nat} {e : Option (Bool × D)} {a : Addr} (he : ∀ d, e ≠ some (true, d)) (h : Lv β (so.set n e) a) : Lv β so a := by
  obtain ⟨m, d, h1, h2⟩ := h
  by_cases hm : n = m
  · subst hm
    by_cases hl : n < so.length
    · rw [List.getElem?_set_self hl] at h1; exact absurd (Option.some.inj h1) (he d)
    · rw [List.getElem?_eq_none (by simpa using hl)] at h1; cases h1
  · rw [List.getElem?_set_ne hm] at h1
    exact ⟨m, d, h1, h2⟩
theorem lv_set_true {n : Nat} {d d' : D} {a : Addr} (hn : so[n]? = some (some (true, d))) : Lv β (so.set n (some (true, d'))) a ↔ Lv β so a := by
  constructor
  · rintro ⟨m, e, h1, h2⟩
    by_cases hm : n = m
    · subst hm; exact ⟨n, d, hn, h2⟩
    · rw [List.getElem?_set_ne hm] at h1
      exact ⟨m, e, h1, h2⟩
  · rintro ⟨m, e, h1, h2⟩
    by_cases hm : n = m
    · subst hm
      exact ⟨n, d', List.getElem?_set_self (List.getElem?_eq_some_iff.mp h1).1, h2⟩
    · exact ⟨m, e, by rw [List.getElem?_set_ne hm]; exact h1, h2⟩
theorem Step.out {n : Nat} {e : Option (Bool × D)} (he : ∀ d, e ≠ some (true, d)) : Step β so H β (so.set n e) H :=
  ⟨fun a h => .inl (lv_set_out he h), fun a u h _ => h, fun a u h => ⟨u, h⟩⟩
theorem ne_set {n : Nat} {e : Bool × D} : ∀ (i : Nat) (x : Bool × D), so[i]? = some (some x) → ∃ x', (so.set n (some e))[i]? = some (some x') := fun i x h => by
  by_cases hi : n = i
  · subst hi; exact ⟨e, List.getElem?_set_self (List.getElem?_eq_some_iff.mp h).1⟩
  · exact ⟨x, by rw [List.getElem?_set_ne hi]; exact h⟩
theorem Run.fr {n : Nat} {d : D} : Run β so H β (so.set n (some (false, d))) H := ⟨Step.out (fun _ z => by cases z), List.prefix_refl _, ne_set⟩
theorem Rel.fr (R : Rel C β sl so σ H) {n : Nat} {d : D} (hn : so[n]? = some (some (true, d))) : Rel C β sl (so.set n (some (false, d))) σ H := by
  have S : Run β so H β (so.set n (some (false, d))) H := Run.fr
  have hlt := (List.getElem?_eq_some_iff.mp hn).1
  have ne : ∀ {m : Nat} {e : Bool × D}, so[m]? = some (some e) → ∃ e', (so.set n (some (false, d)))[m]? = some (some e') := fun {m e} h => by
    by_cases hm : n = m
    · subst hm; exact ⟨_, List.getElem?_set_self hlt⟩
    · exact ⟨e, by rw [List.getElem?_set_ne hm]; exact h⟩
  have ne' : ∀ {m : Nat} {e : Bool × D}, (so.set n (some (false, d)))[m]? = some (some e) → ∃ e', so[m]? = some (some e') := fun {m e} h => by
    by_cases hm : n = m
    · subst hm; exact ⟨_, hn⟩
    · rw [List.getElem?_set_ne hm] at h; exact ⟨e, h⟩
  refine ⟨by simp [R.len], by simpa using R.nsl, R.sll, fun m a h => ?_, fun i j h => ?_, fun i dv h => ?_, fun m e a h1 h2 => ?_, fun m e a h1 h2 => ?_, fun m k e1 e2 a h1 h2 h3 h4 => ?_, fun m e a h1 h2 => ?_, R.keep, fun m e a h1 h2 => ?_, R.fb⟩
  · obtain ⟨q1, q2, e, q3⟩ := R.bor m a h
    exact ⟨q1, q2, ne q3⟩
  · obtain ⟨q1, e, q2⟩ := R.own i j h
    exact ⟨q1, ne q2⟩
  · obtain ⟨v, e, q⟩ := R.slots i dv h
    exact ⟨v, e, q.step S⟩
  · by_cases hm : n = m
    · subst hm; rw [List.getElem?_set_self hlt] at h1; cases h1
    · rw [List.getElem?_set_ne hm] at h1
      exact (R.live m e a h1 h2).mono S.frz S.avd rfl
  · by_cases hm : n = m
    · subst hm
      rw [List.getElem?_set_self hlt] at h1; cases h1
      refine ((R.live n d a hn h2).mono S.frz S.avd rfl).freeze ?_
      rintro (z | ⟨k, e', q1, q2⟩)
      · exact R.fbNot z ⟨n, d, hn, h2⟩
      · by_cases hk : n = k
        · subst hk; rw [List.getElem?_set_self hlt] at q1; cases q1
        · rw [List.getElem?_set_ne hk] at q1
          exact hk (R.dist n k d e' a hn q1 h2 q2)
    · rw [List.getElem?_set_ne hm] at h1
      exact (R.froz m e a h1 h2).step S.toStep
  · by_cases hm : n = m
    · subst hm; rw [List.getElem?_set_self hlt] at h1; cases h1
    · rw [List.getElem?_set_ne hm] at h1
      by_cases hk : n = k
      · subst hk; rw [List.getElem?_set_self hlt] at h2; cases h2
      · rw [List.getElem?_set_ne hk] at h2
        exact R.dist m k e1 e2 a h1 h2 h3 h4
  · obtain ⟨e', q⟩ := ne' h1
    exact R.trk m e' a q h2
  · obtain ⟨e', q⟩ := ne' h1
    exact R.fresh m e' a q h2
theorem Run.wr {n : Nat} {d d' : D} {a : Addr} {o : HO} (hn : so[n]? = some (some (true, d))) (ha : β[n]? = some a) : Run β so H β (so.set n (some (true, d'))) (upd H a o) :=
  ⟨⟨fun b h => .inl ((lv_set_true hn).mp h), fun b u h nb => by
    rw [upd_ne (fun z => nb (by rw [z]; exact ⟨n, d, hn, ha⟩))]; exact h, fun b u h => by
    by_cases hb : b = a
    · subst hb; exact ⟨o, upd_same⟩
    · exact ⟨u, by rw [upd_ne hb]; exact h⟩⟩, List.prefix_refl _, ne_set⟩
theorem Rel.wr (R : Rel C β sl so σ H) {n : Nat} {d d' : D} {a : Addr} {o : HO} (hn : so[n]? = some (some (true, d))) (ha : β[n]? = some a)
    (r : Rt C.T (C.F β (so.set n (some (true, d')))) (upd H a o) a d') : Rel C β sl (so.set n (some (true, d'))) σ (upd H a o) := by
  have S : Run β so H β (so.set n (some (true, d'))) (upd H a o) := Run.wr hn ha
  have hlt := (List.getElem?_eq_some_iff.mp hn).1
  have nb : ∀ b u, C.H0 b = some u → some b ∉ C.B → b ≠ a := fun b u h hb z => by
    subst z
    rcases R.fresh n _ b hn ha with z | z
    · exact hb (List.mem_of_getElem? z)
    · rw [z] at h; cases h
  have ne : ∀ {m : Nat} {e : Bool × D}, so[m]? = some (some e) → ∃ e', (so.set n (some (true, d')))[m]? = some (some e') := fun {m e} h => by
    by_cases hm : n = m
    · subst hm; exact ⟨_, List.getElem?_set_self hlt⟩
    · exact ⟨e, by rw [List.getElem?_set_ne hm]; exact h⟩
  have ne' : ∀ {m : Nat} {e : Bool × D}, (so.set n (some (true, d')))[m]? = some (some e) → ∃ e', so[m]? = some (some e') := fun {m e} h => by
    by_cases hm : n = m
    · subst hm; exact ⟨_, hn⟩
    · rw [List.getElem?_set_ne hm] at h; exact ⟨e, h⟩
  refine ⟨by simp [R.len], by simpa using R.nsl, R.sll, fun m a h => ?_, fun i j h => ?_, fun i dv h => ?_, fun m e b h1 h2 => ?_, fun m e b h1 h2 => ?_, fun m k e1 e2 b h1 h2 h3 h4 => ?_, fun m e b h1 h2 => ?_, fun b u h hb => by rw [upd_ne (nb b u h hb)]; exact R.keep b u h hb, fun m e b h1 h2 => ?_, R.fb⟩
  · obtain ⟨q1, q2, e, q3⟩ := R.bor m a h
    exact ⟨q1, q2, ne q3⟩
  · obtain ⟨q1, e, q2⟩ := R.own i j h
    exact ⟨q1, ne q2⟩
  · obtain ⟨v, e, q⟩ := R.slots i dv h
    exact ⟨v, e, q.step S⟩
  · by_cases hm : n = m
    · subst hm
      rw [List.getElem?_set_self hlt] at h1
      cases h1
      rw [ha] at h2; cases h2
      exact r
    · rw [List.getElem?_set_ne hm] at h1
      have hne : b ≠ a := fun z => hm (R.dist n m d e a hn h1 ha (by rw [← z]; exact h2))
      exact (R.live m e b h1 h2).mono S.frz S.avd (upd_ne hne)
  · by_cases hm : n = m
    · subst hm; rw [List.getElem?_set_self hlt] at h1; cases h1
    · rw [List.getElem?_set_ne hm] at h1
      exact (R.froz m e b h1 h2).step S.toStep
  · have g : ∀ {m : Nat} {e : D}, (so.set n (some (true, d')))[m]? = some (some (true, e)) → ∃ e', so[m]? = some (some (true, e')) := fun {m e} h => by
      by_cases hm : n = m
      · subst hm; exact ⟨d, hn⟩
      · rw [List.getElem?_set_ne hm] at h; exact ⟨e, h⟩
    obtain ⟨e1', g1⟩ := g h1
    obtain ⟨e2', g2⟩ := g h2
    exact R.dist m k e1' e2' b g1 g2 h3 h4
  · obtain ⟨e', q⟩ := ne' h1
    exact (S.stay b _ (R.trk m e' b q h2).choose_spec)
  · obtain ⟨e', q⟩ := ne' h1
    exact R.fresh m e' b q h2

theorem Rel.cut (R : Rel C β sl so σ H) {n : Nat} (hn : sl.length ≤ n) : Rel C (β.take n) sl (so.take n) σ H := by
  have g : ∀ {α : Type} {l : List α} {m : Nat} {x : α}, (l.take n)[m]? = some x → l[m]? = some x ∧ m < n := fun {α l m x} h => by
    by_cases hm : m < n
    · rw [List.getElem?_take_of_lt hm] at h; exact ⟨h, hm⟩
    · rw [List.getElem?_eq_none (by simp; omega)] at h; cases h
  have g' : ∀ {α : Type} {l : List α} {m : Nat} {x : α}, l[m]? = some x → m < n → (l.take n)[m]? = some x := fun {α l m x} h hm => by
    rw [List.getElem?_take_of_lt hm]; exact h
  have lvx : ∀ a, Lv (β.take n) (so.take n) a → Lv β so a := fun a ⟨m, d, h1, h2⟩ => ⟨m, d, (g h1).1, (g h2).1⟩
  have S : Step β so H (β.take n) (so.take n) H := ⟨fun a h => .inl (lvx a h), fun a u h _ => h, fun a u h => ⟨u, h⟩⟩
  refine ⟨by simp [R.len], by have := R.nsl; simp; omega, R.sll, fun m a h => ?_, fun i j h => ?_, fun i dv h => ?_, fun m e a h1 h2 => (R.live m e a (g h1).1 (g h2).1).mono S.frz S.avd rfl,
    fun m e a h1 h2 => (R.froz m e a (g h1).1 (g h2).1).step S, fun m k e1 e2 a h1 h2 h3 h4 => R.dist m k e1 e2 a (g h1).1 (g h2).1 (g h3).1 (g h4).1, fun m e a h1 h2 => R.trk m e a (g h1).1 (g h2).1, R.keep, fun m e a h1 h2 => R.fresh m e a (g h1).1 (g h2).1, R.fb⟩
  · obtain ⟨q1, q2, e, q3⟩ := R.bor m a h
    exact ⟨q1, g' q2 (by omega), e, g' q3 (by omega)⟩
  · obtain ⟨q1, e, q2⟩ := R.own i j h
    have := (List.getElem?_eq_some_iff.mp h).1
    exact ⟨q1, e, g' q2 (by omega)⟩
  · obtain ⟨v, e, q⟩ := R.slots i dv h
    refine ⟨v, e, ?_⟩
    cases dv with
    | val d => exact Fz.step S q
    | loc j =>
      obtain ⟨q1, _⟩ := R.own i j h
      have := (List.getElem?_eq_some_iff.mp h).1
      obtain ⟨a, e1, e2⟩ := q
      exact ⟨a, g' e1 (by omega), e2⟩
theorem Step.cut {n : Nat} : Step β so H (β.take n) (so.take n) H := by
  refine ⟨fun a ⟨m, d, h1, h2⟩ => .inl ?_, fun a u h _ => h, fun a u h => ⟨u, h⟩⟩
  by_cases hm : m < n
  · rw [List.getElem?_take_of_lt hm] at h1 h2
    exact ⟨m, d, h1, h2⟩
  · rw [List.getElem?_eq_none (by simp; omega)] at h1; cases h1

theorem Rel.setVal (R : Rel C β sl so σ H) {i : Nat} {d : D} {v : V} (hb : ∀ a, C.B[i]? ≠ some (some a)) (q : Fz C.T (C.F β so) H d v) : Rel C β (sl.set i (some (.val d))) (so.set i none) (σ.set i (some v)) H := by
  have S : Step β so H β (so.set i none) H := Step.out fun _ z => by cases z
  have g : ∀ {m : Nat} {e : Bool × D}, (so.set i none)[m]? = some (some e) → so[m]? = some (some e) ∧ i ≠ m := fun {m e} h => by
    by_cases hm : i = m
    · subst hm
      by_cases hl : i < so.length
      · rw [List.getElem?_set_self hl] at h; cases h
      · rw [List.getElem?_eq_none (by simpa using hl)] at h; cases h
    · rw [List.getElem?_set_ne hm] at h; exact ⟨h, hm⟩
  have g' : ∀ {m : Nat} {e : Bool × D}, i ≠ m → so[m]? = some (some e) → (so.set i none)[m]? = some (some e) := fun {m e} hm h => by rw [List.getElem?_set_ne hm]; exact h
  have kx : ∀ {j : Nat} {dv : DV}, (sl.set i (some (.val d)))[j]? = some (some dv) → (j = i ∧ dv = .val d ∧ i < sl.length) ∨ (i ≠ j ∧ sl[j]? = some (some dv)) := fun {j dv} h => by
    by_cases hj : i = j
    · subst hj
      by_cases hl : i < sl.length
      · rw [List.getElem?_set_self hl] at h; cases h; exact .inl ⟨rfl, rfl, hl⟩
      · rw [List.getElem?_eq_none (by simpa using hl)] at h; cases h
    · rw [List.getElem?_set_ne hj] at h; exact .inr ⟨hj, h⟩
  refine ⟨by simp [R.len], by simpa using R.nsl, by simp [R.sll], fun m a h => ?_, fun j k h => ?_, fun j dv h => ?_, fun m e a h1 h2 => (R.live m e a (g h1).1 h2).mono S.frz S.avd rfl,
    fun m e a h1 h2 => (R.froz m e a (g h1).1 h2).step S, fun m k e1 e2 a h1 h2 h3 h4 => R.dist m k e1 e2 a (g h1).1 (g h2).1 h3 h4, fun m e a h1 h2 => R.trk m e a (g h1).1 h2, R.keep, fun m e a h1 h2 => R.fresh m e a (g h1).1 h2, R.fb⟩
  · obtain ⟨q1, q2, e, q3⟩ := R.bor m a h
    have hm : i ≠ m := fun z => hb a (by rw [z]; exact h)
    exact ⟨by simpa using q1, q2, e, g' hm q3⟩
  · rcases kx h with ⟨_, e, _⟩ | ⟨hj, h⟩
    · cases e
    · obtain ⟨q1, e, q2⟩ := R.own j k h
      exact ⟨q1, e, g' hj q2⟩
  · rcases kx h with ⟨rfl, rfl, hl⟩ | ⟨hj, h⟩
    · exact ⟨v, List.getElem?_set_self (by rw [R.sll]; exact hl), Fz.step S q⟩
    · obtain ⟨w, e, r⟩ := R.slots j dv h
      exact ⟨w, by rw [List.getElem?_set_ne hj]; exact e, r.stay S⟩
theorem Rel.setTmp (R : Rel C β sl so σ H) {i j : Nat} {e : Bool × D} {a : Addr} (hb : ∀ a, C.B[i]? ≠ some (some a)) (hi : i < sl.length) (hj : sl.length ≤ j) (he : so[j]? = some (some e)) (ha : β[j]? = some a) :
    Rel C (β.set i a) (sl.set i (some (.loc i))) ((so.set i (some e)).set j none) (σ.set i (some (.ref a))) H ∧ Step β so H (β.set i a) ((so.set i (some e)).set j none) H := by
  have hij : i ≠ j := by omega
  have hlj : j < so.length := (List.getElem?_eq_some_iff.mp he).1
  have hl := R.len
  have g : ∀ {m : Nat} {x : Bool × D}, ((so.set i (some e)).set j none)[m]? = some (some x) → (m = i ∧ x = e) ∨ (m ≠ i ∧ m ≠ j ∧ so[m]? = some (some x)) := fun {m x} h => by
    by_cases hm : j = m
    · subst hm; rw [List.getElem?_set_self (by simpa using hlj)] at h; cases h
    · rw [List.getElem?_set_ne hm] at h
      by_cases hm2 : i = m
      · subst hm2; rw [List.getElem?_set_self (by omega)] at h; cases h; exact .inl ⟨rfl, rfl⟩
      · rw [List.getElem?_set_ne hm2] at h; exact .inr ⟨fun z => hm2 z.symm, fun z => hm z.symm, h⟩
  have b : ∀ {m : Nat} {x : Addr}, (β.set i a)[m]? = some x → (m = i ∧ x = a) ∨ (m ≠ i ∧ β[m]? = some x) := fun {m x} h => by
    by_cases hm2 : i = m
    · subst hm2; rw [List.getElem?_set_self (by omega)] at h; cases h; exact .inl ⟨rfl, rfl⟩
    · rw [List.getElem?_set_ne hm2] at h; exact .inr ⟨fun z => hm2 z.symm, h⟩
  have lvx : ∀ x, Lv (β.set i a) ((so.set i (some e)).set j none) x → Lv β so x := by
    rintro x ⟨m, d, h1, h2⟩
    rcases g h1 with ⟨rfl, hx⟩ | ⟨n1, n2, h1⟩
    · rcases b h2 with ⟨_, rfl⟩ | ⟨n, _⟩
      · exact ⟨j, d, by rw [he, hx], ha⟩
      · exact absurd rfl n
    · rcases b h2 with ⟨n, _⟩ | ⟨_, h2⟩
      · exact absurd n n1
      · exact ⟨m, d, h1, h2⟩
  have S : Step β so H (β.set i a) ((so.set i (some e)).set j none) H := ⟨fun x h => .inl (lvx x h), fun x u h _ => h, fun x u h => ⟨u, h⟩⟩
  -- each entry is an old one, at its old place or at j
  have old : ∀ {m : Nat} {x : Bool × D} {y : Addr}, ((so.set i (some e)).set j none)[m]? = some (some x) → (β.set i a)[m]? = some y → ∃ m', so[m']? = some (some x) ∧ β[m']? = some y ∧ ((m = i ∧ m' = j) ∨ (m ≠ i ∧ m' = m ∧ m ≠ j)) := fun {m x y} h1 h2 => by
    rcases g h1 with ⟨rfl, rfl⟩ | ⟨n1, n2, h1⟩
    · rcases b h2 with ⟨_, rfl⟩ | ⟨n, _⟩
      · exact ⟨j, he, ha, .inl ⟨rfl, rfl⟩⟩
      · exact absurd rfl n
    · rcases b h2 with ⟨n, _⟩ | ⟨_, h2⟩
      · exact absurd n n1
      · exact ⟨m, h1, h2, .inr ⟨n1, rfl, n2⟩⟩
  refine ⟨⟨by simp [R.len], by simpa using R.nsl, by simp [R.sll], fun m y h => ?_, fun m k h => ?_, fun m dv h => ?_, fun m d y h1 h2 => ?_, fun m d y h1 h2 => ?_, fun m k e1 e2 y h1 h2 h3 h4 => ?_, fun m x y h1 h2 => ?_, R.keep, fun m x y h1 h2 => ?_, R.fb⟩, S⟩
  · obtain ⟨q1, q2, x, q3⟩ := R.bor m y h
    have hm : i ≠ m := fun z => hb y (by rw [z]; exact h)
    have hm2 : j ≠ m := by omega
    exact ⟨by simpa using q1, by rw [List.getElem?_set_ne hm]; exact q2, x, by rw [List.getElem?_set_ne hm2, List.getElem?_set_ne hm]; exact q3⟩
  · by_cases hm : i = m
    · subst hm
      rw [List.getElem?_set_self hi] at h
      cases h
      exact ⟨rfl, e, by rw [List.getElem?_set_ne hij.symm, List.getElem?_set_self (by omega)]⟩
    · rw [List.getElem?_set_ne hm] at h
      obtain ⟨q1, x, q2⟩ := R.own m k h
      have := (List.getElem?_eq_some_iff.mp h).1
      exact ⟨q1, x, by rw [List.getElem?_set_ne (by omega), List.getElem?_set_ne hm]; exact q2⟩
  · by_cases hm : i = m
    · subst hm
      rw [List.getElem?_set_self hi] at h
      cases h
      exact ⟨_, List.getElem?_set_self (by rw [R.sll]; exact hi), a, List.getElem?_set_self (by omega), rfl⟩
    · rw [List.getElem?_set_ne hm] at h
      obtain ⟨w, q, r⟩ := R.slots m dv h
      refine ⟨w, by rw [List.getElem?_set_ne hm]; exact q, ?_⟩
      cases dv with
      | val d => exact Fz.step S r
      | loc k =>
        obtain ⟨q1, _⟩ := R.own m k h
        obtain ⟨y, r1, r2⟩ := r
        exact ⟨y, by rw [List.getElem?_set_ne (by omega)]; exact r1, r2⟩
  · obtain ⟨m', o1, o2, _⟩ := old h1 h2
    exact (R.live m' d y o1 o2).mono S.frz S.avd rfl
  · obtain ⟨m', o1, o2, _⟩ := old h1 h2
    exact (R.froz m' d y o1 o2).step S
  · obtain ⟨m', o1, o2, o3⟩ := old h1 h3
    obtain ⟨k', p1, p2, p3⟩ := old h2 h4
    have := R.dist m' k' e1 e2 y o1 p1 o2 p2
    omega
  · obtain ⟨m', o1, o2, _⟩ := old h1 h2
    exact R.trk m' x y o1 o2
  · obtain ⟨m', o1, o2, o3⟩ := old h1 h2
    rcases R.fresh m' x y o1 o2 with z | z
    · rcases o3 with ⟨_, rfl⟩ | ⟨_, rfl, _⟩
      · have := (R.bor _ _ z).1
        omega
      · exact .inl z
    · exact .inr z
end
end BT
end

section
set_option maxRecDepth 100000
namespace BT
open PySem L2

inductive Out (α : Type) where
  | ok (a : α)
  | exc (c : Nat) (d : D)
abbrev EM (α : Type) := Slots → Store → Option (Out α × Store)
def bnd {α γ : Type} (f : EM α) (g : α → EM γ) : EM γ := fun sl so => match f sl so with
  | none => none
  | some (.exc c d, so') => some (.exc c d, so')
  | some (.ok a, so') => g a sl so'
def pur {α : Type} (a : α) : EM α := fun _ so => some (.ok a, so)
def lft {α : Type} (g : Store → Option (α × Store)) : EM α := fun _ so => match g so with
  | none => none
  | some (a, so') => some (.ok a, so')
inductive Fl where
  | nx
  | rt (v : DV)
  | bk
  | ct
  | exc (c : Nat) (d : D)
abbrev SM := Slots → Store → Option (Fl × Slots × Store)
def sq (f g : SM) : SM := fun sl so => match f sl so with
  | some (.nx, sl', so') => g sl' so'
  | r => r
def bnS {α : Type} (f : EM α) (g : α → SM) : SM := fun sl so => match f sl so with
  | none => none
  | some (.exc c d, so') => some (.exc c d, sl, so')
  | some (.ok a, so') => g a sl so'

abbrev Rp (α ν : Type) := Tx → (Addr → Prop) → Hp → List Addr → α → ν → Prop
def RVs : Rp (List DV) (List V)
  | _, _, _, _, [], vs => vs = []
  | T, F, H, β, d :: ds, vs => ∃ v r, vs = v :: r ∧ RV T F H β d v ∧ RVs T F H β ds r
def RB : Rp Bool Bool := fun _ _ _ _ a b => a = b

section
variable {C : Cn} {W : WX} {α γ ν μ : Type} {Ra : Rp α ν} {Rc : Rp γ μ} {β β' : List Addr} {sl sl' : Slots} {so so' : Store} {σ σ' : L2.St} {H H' : Hp}

theorem RVs.step {ds : List DV} {vs : List V} (S : Run β so H β' so' H') (h : RVs C.T (C.F β so) H β ds vs) : RVs C.T (C.F β' so') H' β' ds vs := by
  induction ds generalizing vs with
  | nil => exact h
  | cons d ds ih =>
    obtain ⟨v, r, e, h1, h2⟩ := h
    exact ⟨v, r, e, RV.step S h1, ih h2⟩
theorem RVs.length {F : Addr → Prop} {T : Tx} : ∀ {ds : List DV} {vs : List V}, RVs T F H β ds vs → ds.length = vs.length
  | [], _, h => by cases h; rfl
  | d :: ds, _, ⟨v, r, e, h1, h2⟩ => by subst e; simp [RVs.length h2]

def KX (C : Cn) (W : WX) (β : List Addr) (so : Store) (H : Hp) (c : Nat) (d : D) (sl' : Slots) (so' : Store) : Prop :=
  ∀ β' σ' H', Rel C β' sl' so' σ' H' → Step β so H β' so' H' → ∀ dx v, H' dx = some (.xd [("what", v)]) → Fz C.T (C.F β' so') H' d v → W (.ref (C.T.cl c)) (some dx) σ' H'
def KR (C : Cn) (W : WX) (Ra : Rp α ν) (sl : Slots) (P : List Addr → Store → L2.St → Hp → α → ν → Prop) (β : List Addr) (so : Store) (σ : L2.St) (H : Hp) : Option (Out α × Store) → Prop
  | none => False
  | some (.ok a, so') => ∀ β' H' v, Rel C β' sl so' σ H' → Run β so H β' so' H' → Ra C.T (C.F β' so') H' β' a v → P β' so' σ H' a v
  | some (.exc c d, so') => ∀ β' H', Rel C β' sl so' σ H' → Run β so H β' so' H' → ∀ dx v, H' dx = some (.xd [("what", v)]) → Fz C.T (C.F β' so') H' d v → W (.ref (C.T.cl c)) (some dx) σ H'
def rd (C : Cn) (W : WX) (Ra : Rp α ν) (f : EM α) (σ : L2.St) (H : Hp) (Q : ν → Hp → Prop) : Prop :=
  ∃ β sl so, Rel C β sl so σ H ∧ KR C W Ra sl (fun _ _ _ H' _ v => Q v H') β so σ H (f sl so)
abbrev rdE (C : Cn) (W : WX) (f : EM DV) : TE := fun σ H Q => rd C W RV f σ H Q
abbrev rdT (C : Cn) (W : WX) (f : EM Bool) : TT := fun σ H Q => rd C W RB f σ H Q
abbrev rdA (C : Cn) (W : WX) (f : EM (List DV)) : TA := fun σ H Q => rd C W RVs f σ H Q

theorem KR.mono {P P' : List Addr → Store → L2.St → Hp → α → ν → Prop} {r : Option (Out α × Store)} (i : ∀ β' so' H' a v, P β' so' σ H' a v → P' β' so' σ H' a v) (h : KR C W Ra sl P β so σ H r) : KR C W Ra sl P' β so σ H r := by
  rcases r with _ | ⟨r, so'⟩
  · exact h
  · cases r with
    | ok a => exact fun β' H' v R S q => i _ _ _ _ _ (h β' H' v R S q)
    | exc c d => exact h
theorem KR.base {P : List Addr → Store → L2.St → Hp → α → ν → Prop} {r : Option (Out α × Store)} (S0 : Run β so H β' so' H') (h : KR C W Ra sl P β so σ H r) : KR C W Ra sl P β' so' σ H' r := by
  rcases r with _ | ⟨r, so'⟩
  · exact h
  · cases r with
    | ok a => exact fun β' H' v R S q => h β' H' v R (S0.trans S) q
    | exc c d => exact fun β' H' R S => h β' H' R (S0.trans S)
theorem KR.bnd {f : EM α} {g : α → EM γ} {P : List Addr → Store → L2.St → Hp → γ → μ → Prop} (h : KR C W Rc sl P β so σ H (bnd f g sl so)) :
    KR C W Ra sl (fun β1 so1 σ1 H1 a x => Rel C β1 sl so1 σ1 H1 ∧ Run β so H β1 so1 H1 ∧ Ra C.T (C.F β1 so1) H1 β1 a x ∧ KR C W Rc sl P β1 so1 σ1 H1 (g a sl so1)) β so σ H (f sl so) := by
  unfold BT.bnd at h
  rcases e : f sl so with _ | ⟨r, so'⟩
  · rw [e] at h; exact h
  · rw [e] at h
    cases r with
    | ok a => exact fun β' H' v R S q => ⟨R, S, q, KR.base S h⟩
    | exc c d => exact h
theorem KR.pur {a : α} {P : List Addr → Store → L2.St → Hp → α → ν → Prop} {v : ν} (R : Rel C β sl so σ H) (q : Ra C.T (C.F β so) H β a v) (h : KR C W Ra sl P β so σ H (pur a sl so)) : P β so σ H a v := h β H v R .refl q

def KS (C : Cn) (W : WX) (D : Ends) (β : List Addr) (so : Store) (H : Hp) : Option (Fl × Slots × Store) → Prop
  | none => False
  | some (.nx, sl', so') => ∀ β' σ' H', Rel C β' sl' so' σ' H' → Step β so H β' so' H' → D.nx σ' H'
  | some (.bk, sl', so') => ∀ β' σ' H', Rel C β' sl' so' σ' H' → Step β so H β' so' H' → D.bk σ' H'
  | some (.ct, sl', so') => ∀ β' σ' H', Rel C β' sl' so' σ' H' → Step β so H β' so' H' → D.ct σ' H'
  | some (.rt dv, sl', so') => ∀ β' σ' H' v, Rel C β' sl' so' σ' H' → Step β so H β' so' H' → RV C.T (C.F β' so') H' β' dv v → D.rt v H'
  | some (.exc c d, sl', so') => KX C W β so H c d sl' so'
def rdS (C : Cn) (W : WX) (f : SM) : TS := fun D σ H => ∃ β sl so, Rel C β sl so σ H ∧ KS C W D β so H (f sl so)
theorem KS.base {D : Ends} {r : Option (Fl × Slots × Store)} (S0 : Step β so H β' so' H') (h : KS C W D β so H r) : KS C W D β' so' H' r := by
  rcases r with _ | ⟨r, sl1, so1⟩
  · exact h
  · cases r with
    | rt v => exact fun β' σ' H' v R S q => h β' σ' H' v R (S0.trans S) q
    | exc c d => exact fun β' σ' H' R S => h β' σ' H' R (S0.trans S)
    | _ => exact fun β' σ' H' R S => h β' σ' H' R (S0.trans S)
theorem KS.mono {D D' : Ends} {r : Option (Fl × Slots × Store)} (h : KS C W D β so H r) (hn : ∀ sl' so' β' σ' H', r = some (.nx, sl', so') → Rel C β' sl' so' σ' H' → Step β so H β' so' H' → D.nx σ' H' → D'.nx σ' H')
    (hr : ∀ v H', D.rt v H' → D'.rt v H') (hb : ∀ sl' so' β' σ' H', r = some (.bk, sl', so') → Rel C β' sl' so' σ' H' → Step β so H β' so' H' → D.bk σ' H' → D'.bk σ' H')
    (hc : ∀ sl' so' β' σ' H', r = some (.ct, sl', so') → Rel C β' sl' so' σ' H' → Step β so H β' so' H' → D.ct σ' H' → D'.ct σ' H') : KS C W D' β so H r := by
  rcases r with _ | ⟨r, sl1, so1⟩
  · exact h
  · cases r with
    | nx => exact fun β' σ' H' R S => hn _ _ _ _ _ rfl R S (h β' σ' H' R S)
    | bk => exact fun β' σ' H' R S => hb _ _ _ _ _ rfl R S (h β' σ' H' R S)
    | ct => exact fun β' σ' H' R S => hc _ _ _ _ _ rfl R S (h β' σ' H' R S)
    | rt v => exact fun β' σ' H' v R S q => hr _ _ (h β' σ' H' v R S q)
    | exc c d => exact h
theorem KS.bnS {f : EM α} {g : α → SM} {D : Ends} (R : Rel C β sl so σ H) (h : KS C W D β so H (bnS f g sl so)) :
    KR C W Ra sl (fun β1 so1 σ1 H1 a x => Rel C β1 sl so1 σ1 H1 ∧ Run β so H β1 so1 H1 ∧ Ra C.T (C.F β1 so1) H1 β1 a x ∧ KS C W D β1 so1 H1 (g a sl so1)) β so σ H (f sl so) := by
  unfold BT.bnS at h
  rcases e : f sl so with _ | ⟨r, so'⟩
  · rw [e] at h; exact h
  · rw [e] at h
    cases r with
    | ok a => exact fun β' H' v R S q => ⟨R, S, q, KS.base S.toStep h⟩
    | exc c d => exact fun β' H' R S => h β' σ H' R S.toStep

end

theorem _root_.L2.PE.imp {X : Cx} {e : Expr} {t t' : TE} (h : PE X e t) (i : ∀ σ H Q, t' σ H Q → t σ H Q) : PE X e t' := ⟨fun pins s σ H Q I q => h.run pins s σ H Q I (i σ H Q q)⟩
theorem _root_.L2.PT.imp {X : Cx} {e : Expr} {t t' : TT} (h : PT X e t) (i : ∀ σ H Q, t' σ H Q → t σ H Q) : PT X e t' := ⟨fun pins s σ H Q I q => h.run pins s σ H Q I (i σ H Q q)⟩
theorem _root_.L2.PW.imp {X : Cx} {e : Expr} {t t' : TT} (h : PW X e t) (i : ∀ σ H Q, t' σ H Q → t σ H Q) : PW X e t' := ⟨fun w pins s σ H Q I q => h.run w pins s σ H Q I (i σ H Q q)⟩
theorem _root_.L2.PA.imp {X : Cx} {e : List Expr} {t t' : TA} (h : PA X e t) (i : ∀ σ H Q, t' σ H Q → t σ H Q) : PA X e t' := ⟨fun p pins s σ H Q I q => h.run p pins s σ H Q I (i σ H Q q)⟩
theorem _root_.L2.PS.imp {X : Cx} {st : Stmt} {t t' : TS} (h : PS X st t) (i : ∀ D σ H, t' D σ H → t D σ H) : PS X st t' := ⟨fun pins s σ H D I q => h.run pins s σ H D I (i D σ H q)⟩
theorem _root_.L2.PSs.imp {X : Cx} {st : List Stmt} {t t' : TS} (h : PSs X st t) (i : ∀ D σ H, t' D σ H → t D σ H) : PSs X st t' := ⟨fun pins s σ H D I q => h.run pins s σ H D I (i D σ H q)⟩

abbrev O2 := DV → DV → Store → Option (DV × Store)
abbrev O1 := DV → Store → Option (DV × Store)
abbrev ON := List DV → Store → Option (DV × Store)
def KO (C : Cn) (sl : Slots) (σ : L2.St) (Q : VK) (β : List Addr) (so : Store) (H : Hp) : Option (DV × Store) → Prop
  | none => False
  | some (dv, so') => ∀ β' H' v, Rel C β' sl so' σ H' → Run β so H β' so' H' → RV C.T (C.F β' so') H' β' dv v → Q v H'
def rO (C : Cn) (g : O2) : R2 := fun x y H Q => ∃ β sl so σ a b, Rel C β sl so σ H ∧ RV C.T (C.F β so) H β a x ∧ RV C.T (C.F β so) H β b y ∧ KO C sl σ Q β so H (g a b so)
def rU (C : Cn) (g : O1) : V → Hp → VK → Prop := fun x H Q => ∃ β sl so σ a, Rel C β sl so σ H ∧ RV C.T (C.F β so) H β a x ∧ KO C sl σ Q β so H (g a so)
def rN (C : Cn) (g : ON) : List V → Hp → VK → Prop := fun xs H Q => ∃ β sl so σ as, Rel C β sl so σ H ∧ RVs C.T (C.F β so) H β as xs ∧ KO C sl σ Q β so H (g as so)
section
variable {C : Cn} {W : WX} {β β' : List Addr} {sl sl' : Slots} {so so' : Store} {σ σ' : L2.St} {H H' : Hp}
theorem KO.of {g : Store → Option (DV × Store)} {Q : VK} (h : KR C W RV sl (fun _ _ _ H' _ v => Q v H') β so σ H (lft g sl so)) : KO C sl σ Q β so H (g so) := by
  unfold lft at h
  rcases e : g so with _ | ⟨a, so'⟩
  · rw [e] at h; exact h
  · rw [e] at h; exact h
def f2 (g : O2) (fa fb : EM DV) : EM DV := bnd fa fun a => bnd fb fun b => lft (g a b)
def f1 (g : O1) (fa : EM DV) : EM DV := bnd fa fun a => lft (g a)
def fN (g : ON) (fa : EM (List DV)) : EM DV := bnd fa fun a => lft (g a)
theorem to_op {g : O2} {fa fb : EM DV} {Q : VK} (h : rdE C W (f2 g fa fb) σ H Q) : tOp (rO C g) (rdE C W fa) (rdE C W fb) σ H Q := by
  obtain ⟨β, sl, so, R, k⟩ := h
  refine ⟨β, sl, so, R, (KR.bnd k).mono fun β1 so1 H1 a x ⟨R1, S1, ra, k1⟩ => ?_⟩
  exact ⟨β1, sl, so1, R1, (KR.bnd k1).mono fun β2 so2 H2 b y ⟨R2, S2, rb, k2⟩ => ⟨β2, sl, so2, σ, a, b, R2, RV.step S2 ra, rb, KO.of k2⟩⟩
theorem to_un {g : O1} {fa : EM DV} {Q : VK} (h : rdE C W (f1 g fa) σ H Q) : tUn (rU C g) (rdE C W fa) σ H Q := by
  obtain ⟨β, sl, so, R, k⟩ := h
  exact ⟨β, sl, so, R, (KR.bnd k).mono fun β1 so1 H1 a x ⟨R1, S1, ra, k1⟩ => ⟨β1, sl, so1, σ, a, R1, ra, KO.of k1⟩⟩
theorem to_cb {g : ON} {fa : EM (List DV)} {Q : VK} (h : rdE C W (fN g fa) σ H Q) : tCB (rN C g) (rdA C W fa) σ H Q := by
  obtain ⟨β, sl, so, R, k⟩ := h
  exact ⟨β, sl, so, R, (KR.bnd k).mono fun β1 so1 H1 a x ⟨R1, S1, ra, k1⟩ => ⟨β1, sl, so1, σ, a, R1, ra, KO.of k1⟩⟩
end
end BT
end

section
set_option maxRecDepth 100000
namespace BT
open PySem L2

def rdv (so : Store) : DV → Option D
  | .val d => some d
  | .loc n => match so[n]? with
    | some (some (_, d)) => some d
    | _ => none

section
variable {C : Cn} {W : WX} {β β' : List Addr} {sl sl' : Slots} {so so' : Store} {σ σ' : L2.St} {H H' : Hp} {a b : DV} {x y : V}
theorem Rel.frzOr (R : Rel C β sl so σ H) (r : RV C.T (C.F β so) H β a x) {d : D} (e : rdv so a = some d) : Fz C.T (C.F β so) H d x ∨ ∃ n p, a = .loc n ∧ so[n]? = some (some (true, d)) ∧ β[n]? = some p ∧ x = .ref p ∧ Rt C.T (C.F β so) H p d := by
  cases a with
  | val d' => cases e; exact .inl r
  | loc n =>
    obtain ⟨p, hp, rfl⟩ := r
    rcases q : so[n]? with _ | _ | ⟨l, d'⟩
    · simp only [rdv, q] at e; cases e
    · simp only [rdv, q] at e; cases e
    · simp only [rdv, q] at e
      cases e
      cases l with
      | true => exact .inr ⟨n, p, rfl, q, hp, rfl, R.live n _ p q hp⟩
      | false => exact .inl (R.froz n _ p q hp)
theorem Rel.lst (R : Rel C β sl so σ H) (r : RV C.T (C.F β so) H β a x) {ds : List D} (e : rdv so a = some (.lst ds)) : ∃ p xs, x = .ref p ∧ SqL C.T.K H p xs ∧ FzL C.T (C.F β so) H ds xs := by
  rcases R.frzOr r e with h | ⟨n, p, _, _, _, rfl, h⟩
  · unfold Fz at h
    obtain ⟨p, xs, rfl, s, q⟩ := h
    exact ⟨p, xs, rfl, s.sq, q⟩
  · obtain ⟨xs, q, z⟩ := h
    exact ⟨p, xs, rfl, SqL.of q, z⟩
theorem Rel.tup (R : Rel C β sl so σ H) (r : RV C.T (C.F β so) H β a x) {ds : List D} (e : rdv so a = some (.tup ds)) : ∃ p xs, x = .ref p ∧ SqT C.T.K H p xs ∧ FzL C.T (C.F β so) H ds xs := by
  rcases R.frzOr r e with h | ⟨n, p, _, _, _, rfl, h⟩
  · unfold Fz at h
    obtain ⟨p, xs, rfl, s, q⟩ := h
    exact ⟨p, xs, rfl, s.sq, q⟩
  · exact h.elim
theorem Rel.dct (R : Rel C β sl so σ H) (r : RV C.T (C.F β so) H β a x) {ks : List Key} {ds : List D} (e : rdv so a = some (.dct ks ds)) :
    ∃ p xs, x = .ref p ∧ H p = some (.dK (ks.zip xs)) ∧ ks.length = xs.length ∧ FzL C.T (C.F β so) H ds xs := by
  rcases R.frzOr r e with h | ⟨n, p, _, _, _, rfl, h⟩
  · unfold Fz at h
    obtain ⟨p, xs, rfl, ⟨_, s, l⟩, q⟩ := h
    exact ⟨p, xs, rfl, s, l, q⟩
  · obtain ⟨xs, q, l, z⟩ := h
    exact ⟨p, xs, rfl, q, l, z⟩
theorem Rel.obj (R : Rel C β sl so σ H) (r : RV C.T (C.F β so) H β a x) {c : Nat} {ns : List PySem.Str} {ds : List D} (e : rdv so a = some (.obj c ns ds)) :
    ∃ p dx xs, x = .ref p ∧ H p = some (.ins (C.T.cl c) dx (ns.zip xs)) ∧ ns.length = xs.length ∧ FzL C.T (C.F β so) H ds xs := by
  rcases R.frzOr r e with h | ⟨n, p, _, _, _, rfl, h⟩
  · unfold Fz at h
    obtain ⟨p, xs, rfl, ⟨_, ⟨dx, s⟩, l⟩, q⟩ := h
    exact ⟨p, dx, xs, rfl, s, l, q⟩
  · obtain ⟨xs, dx, q, l, z⟩ := h
    exact ⟨p, dx, xs, rfl, q, l, z⟩
theorem Rel.non (R : Rel C β sl so σ H) (r : RV C.T (C.F β so) H β a x) (e : rdv so a = some .non) : x = .non := by
  rcases R.frzOr r e with h | ⟨n, p, _, _, _, rfl, h⟩
  · unfold Fz at h; exact h
  · exact h.elim
theorem Rel.bl (R : Rel C β sl so σ H) (r : RV C.T (C.F β so) H β a x) {i : Bool} (e : rdv so a = some (.bl i)) : x = .bl i := by
  rcases R.frzOr r e with h | ⟨n, p, _, _, _, rfl, h⟩
  · unfold Fz at h; exact h
  · exact h.elim
theorem Rel.int (R : Rel C β sl so σ H) (r : RV C.T (C.F β so) H β a x) {i : Int} (e : rdv so a = some (.int i)) : x = .int i := by
  rcases R.frzOr r e with h | ⟨n, p, _, _, _, rfl, h⟩
  · unfold Fz at h; exact h
  · exact h.elim
theorem Rel.str (R : Rel C β sl so σ H) (r : RV C.T (C.F β so) H β a x) {i : PySem.Str} (e : rdv so a = some (.str i)) : x = .str i := by
  rcases R.frzOr r e with h | ⟨n, p, _, _, _, rfl, h⟩
  · unfold Fz at h; exact h
  · exact h.elim

theorem KO.here {Q : VK} {dv : DV} {v : V} (R : Rel C β sl so σ H) (k : KO C sl σ Q β so H (some (dv, so))) (r : RV C.T (C.F β so) H β dv v) : Q v H := k β H v R .refl r
theorem KO.int {Q : VK} {i : Int} (R : Rel C β sl so σ H) (k : KO C sl σ Q β so H (some (.val (.int i), so))) : Q (.int i) H := k.here R (by show Fz _ _ _ _ _; unfold Fz; rfl)
theorem KO.bl {Q : VK} {i : Bool} (R : Rel C β sl so σ H) (k : KO C sl σ Q β so H (some (.val (.bl i), so))) : Q (.bl i) H := k.here R (by show Fz _ _ _ _ _; unfold Fz; rfl)
theorem KO.str {Q : VK} {i : PySem.Str} (R : Rel C β sl so σ H) (k : KO C sl σ Q β so H (some (.val (.str i), so))) : Q (.str i) H := k.here R (by show Fz _ _ _ _ _; unfold Fz; rfl)
theorem KO.non {Q : VK} (R : Rel C β sl so σ H) (k : KO C sl σ Q β so H (some (.val .non, so))) : Q .non H := k.here R (by show Fz _ _ _ _ _; unfold Fz; rfl)
theorem KO.tup {Q : VK} {ds : List D} {xs : List V} (R : Rel C β sl so σ H) (k : KO C sl σ Q β so H (some (.val (.tup ds), so))) (r : FzL C.T (C.F β so) H ds xs) : ∀ p, H p = none → Q (.ref p) (upd H p (.tup xs)) := fun p hp => by
  have S : Run β so H β so (upd H p (.tup xs)) := Run.new hp
  refine k β _ _ (R.new hp) S ?_
  show Fz _ _ _ _ _
  unfold Fz
  refine ⟨p, xs, rfl, .inl ⟨fun z => ?_, .inl upd_same⟩, FzL.step S.toStep r⟩
  obtain ⟨u, hu⟩ := R.avOf z
  rw [hp] at hu; cases hu
theorem KO.lst {Q : VK} {ds : List D} {xs : List V} (R : Rel C β sl so σ H) (k : KO C sl σ Q β so H (some (.loc so.length, so ++ [some (true, .lst ds)]))) (r : FzL C.T (C.F β so) H ds xs) : ∀ p, H p = none → Q (.ref p) (upd H p (.lst xs)) := fun p hp => by
  have S : Run β so H (β ++ [p]) (so ++ [some (true, .lst ds)]) (upd H p (.lst xs)) := Run.push R hp
  exact k _ _ _ (R.push hp ⟨xs, upd_same, FzL.step S.toStep r⟩) S ⟨p, by rw [← R.len]; simp, rfl⟩
theorem KO.dct {Q : VK} (R : Rel C β sl so σ H) (k : KO C sl σ Q β so H (some (.loc so.length, so ++ [some (true, .dct [] [])]))) : ∀ p, H p = none → Q (.ref p) (upd H p (.dK [])) := fun p hp => by
  have S : Run β so H (β ++ [p]) (so ++ [some (true, .dct [] [])]) (upd H p (.dK [])) := Run.push R hp
  exact k _ _ _ (R.push hp ⟨[], upd_same, rfl, by unfold FzL; rfl⟩) S ⟨p, by rw [← R.len]; simp, rfl⟩
theorem Rel.liveLst (R : Rel C β sl so σ H) (r : RV C.T (C.F β so) H β a x) {n : Nat} {ds : List D} (ea : a = .loc n) (e : so[n]? = some (some (true, .lst ds))) :
    ∃ p xs, x = .ref p ∧ β[n]? = some p ∧ H p = some (.lst xs) ∧ FzL C.T (C.F β so) H ds xs := by
  subst ea
  obtain ⟨p, hp, rfl⟩ := r
  obtain ⟨xs, q, z⟩ := R.live n _ p e hp
  exact ⟨p, xs, rfl, hp, q, z⟩
theorem Rel.liveDct (R : Rel C β sl so σ H) (r : RV C.T (C.F β so) H β a x) {n : Nat} {ks : List Key} {ds : List D} (ea : a = .loc n) (e : so[n]? = some (some (true, .dct ks ds))) :
    ∃ p xs, x = .ref p ∧ β[n]? = some p ∧ H p = some (.dK (ks.zip xs)) ∧ ks.length = xs.length ∧ FzL C.T (C.F β so) H ds xs := by
  subst ea
  obtain ⟨p, hp, rfl⟩ := r
  obtain ⟨xs, q, l, z⟩ := R.live n _ p e hp
  exact ⟨p, xs, rfl, hp, q, l, z⟩
theorem Rel.wrLst (R : Rel C β sl so σ H) {n : Nat} {ds ds' : List D} {p : Addr} {xs' : List V} (e : so[n]? = some (some (true, .lst ds))) (hp : β[n]? = some p) (z : FzL C.T (C.F β so) H ds' xs') :
    Rel C β sl (so.set n (some (true, .lst ds'))) σ (upd H p (.lst xs')) ∧ Run β so H β (so.set n (some (true, .lst ds'))) (upd H p (.lst xs')) := by
  have S : Run β so H β (so.set n (some (true, .lst ds'))) (upd H p (.lst xs')) := Run.wr e hp
  exact ⟨R.wr e hp ⟨xs', upd_same, FzL.step S.toStep z⟩, S⟩
theorem Rel.wrDct (R : Rel C β sl so σ H) {n : Nat} {ks ks' : List Key} {ds ds' : List D} {p : Addr} {xs' : List V} (e : so[n]? = some (some (true, .dct ks ds))) (hp : β[n]? = some p) (l : ks'.length = xs'.length) (z : FzL C.T (C.F β so) H ds' xs') :
    Rel C β sl (so.set n (some (true, .dct ks' ds'))) σ (upd H p (.dK (ks'.zip xs'))) ∧ Run β so H β (so.set n (some (true, .dct ks' ds'))) (upd H p (.dK (ks'.zip xs'))) := by
  have S : Run β so H β (so.set n (some (true, .dct ks' ds'))) (upd H p (.dK (ks'.zip xs'))) := Run.wr e hp
  exact ⟨R.wr e hp ⟨xs', upd_same, l, FzL.step S.toStep z⟩, S⟩
end

noncomputable instance (i j : Int) : Decidable (CMulX i j) := Classical.propDecidable _
noncomputable instance (i j : Int) : Decidable (CShl i j) := Classical.propDecidable _
noncomputable instance (i j : Int) : Decidable (CDivN i j) := Classical.propDecidable _
noncomputable instance (i j : Int) : Decidable (CPow i j) := Classical.propDecidable _

def oI (c : Int → Int → Bool) (g : Int → Int → Int) : O2
  | .val (.int i), .val (.int j), so => if c i j = true then some (.val (.int (g i j)), so) else none
  | _, _, _ => none
def oB (g : Int → Int → Bool) : O2
  | .val (.int i), .val (.int j), so => some (.val (.bl (g i j)), so)
  | _, _, _ => none
section
variable {X : Cx} {C : Cn}
theorem rO_int {r : R2} {f : Value → Value → Sem Value} {c : Int → Int → Bool} {g : Int → Int → Int} (h : OpR X f r) (i : ∀ i j H Q, c i j = true → Q (.int (g i j)) H → r (.int i) (.int j) H Q) : OpR X f (rO C (oI c g)) := by
  rintro pins s σ H x y v u Q I rx ry ⟨β, sl, so, σ0, a, b, R, ra, rb, k⟩
  unfold oI at k
  split at k
  · rename_i p q _
    split at k
    · rename_i hc
      obtain rfl := R.int ra rfl
      obtain rfl := R.int rb rfl
      exact h pins s σ H _ _ v u Q I rx ry (i _ _ H Q hc (k.int R))
    · exact k.elim
  · exact k.elim
theorem rO_bl {r : R2} {f : Value → Value → Sem Value} {g : Int → Int → Bool} (h : OpR X f r) (i : ∀ i j H Q, Q (.bl (g i j)) H → r (.int i) (.int j) H Q) : OpR X f (rO C (oB g)) := by
  rintro pins s σ H x y v u Q I rx ry ⟨β, sl, so, σ0, a, b, R, ra, rb, k⟩
  unfold oB at k
  split at k
  · obtain rfl := R.int ra rfl
    obtain rfl := R.int rb rfl
    exact h pins s σ H _ _ v u Q I rx ry (i _ _ H Q (k.bl R))
  · exact k.elim

def oSub : O2 := oI (fun _ _ => true) fun i j => i - j
noncomputable def oFdiv : O2 := oI (fun i j => decide (CDivN i j)) fun i j => i.fdiv j
def oMod : O2 := oI (fun _ j => decide (j ≠ 0)) fun i j => i.fmod j
noncomputable def oPow : O2 := oI (fun i j => decide (CPow i j)) fun i j => i ^ j.toNat
noncomputable def oShl : O2 := oI (fun i j => decide (CShl i j)) fun i j => i * 2 ^ j.toNat
def oShr : O2 := oI (fun _ j => decide (0 ≤ j)) fun i j => i / 2 ^ j.toNat
def oAnd : O2 := oI (fun _ _ => true) Builtin.bitAnd
def oOr : O2 := oI (fun _ _ => true) Builtin.bitOr
def oXor : O2 := oI (fun _ _ => true) Builtin.bitXor
theorem ok_sub : OpR X (binaryOp .Sub) (rO C oSub) := rO_int op_sub fun i j H Q _ q => ⟨i, j, rfl, rfl, q⟩
theorem ok_fdiv : OpR X (binaryOp .FloorDiv) (rO C oFdiv) := rO_int op_fdivN fun i j H Q h q => ⟨i, j, rfl, rfl, of_decide_eq_true h, q⟩
theorem ok_mod : OpR X (binaryOp .Mod) (rO C oMod) := rO_int op_modN fun i j H Q h q => ⟨i, j, rfl, rfl, of_decide_eq_true h, q⟩
theorem ok_pow : OpR X (binaryOp .Pow) (rO C oPow) := rO_int op_pow fun i j H Q h q => ⟨i, j, rfl, rfl, of_decide_eq_true h, q⟩
theorem ok_shl : OpR X (binaryOp .LShift) (rO C oShl) := rO_int op_shlW fun i j H Q h q => ⟨i, j, rfl, rfl, of_decide_eq_true h, q⟩
theorem ok_shr : OpR X (binaryOp .RShift) (rO C oShr) := rO_int op_shr fun i j H Q h q => ⟨i, j, rfl, rfl, of_decide_eq_true h, q⟩
theorem ok_and : OpR X (binaryOp .BitAnd) (rO C oAnd) := rO_int op_and fun i j H Q _ q => ⟨i, j, rfl, rfl, q⟩
theorem ok_or : OpR X (binaryOp .BitOr) (rO C oOr) := rO_int op_or fun i j H Q _ q => ⟨i, j, rfl, rfl, q⟩
theorem ok_xor : OpR X (binaryOp .BitXor) (rO C oXor) := rO_int op_xor fun i j H Q _ q => ⟨i, j, rfl, rfl, q⟩

def oAdd : O2 := fun a b so => match rdv so a, rdv so b with
  | some (.int i), some (.int j) => some (.val (.int (i + j)), so)
  | some (.str i), some (.str j) => if i.length + j.length ≤ sizeLine then some (.val (.str (i ++ j)), so) else none
  | some (.lst ds), some (.lst es) => if ds.length + es.length ≤ sizeLine then some (.loc so.length, so ++ [some (true, .lst (ds ++ es))]) else none
  | some (.tup ds), some (.tup es) => if ds.length + es.length ≤ sizeLine then some (.val (.tup (ds ++ es)), so) else none
  | _, _ => none
theorem op_catS : OpR X (binaryOp .Add) (fun x y H Q => ∃ l b xs zs, x = .ref l ∧ y = .ref b ∧ SqL X.K H l xs ∧ SqL X.K H b zs ∧ xs.length + zs.length ≤ sizeLine ∧ ∀ p, H p = none → Q (.ref p) (upd H p (.lst (xs ++ zs)))) := by
  intro pins s σ H x y v u Q I rx ry h
  obtain ⟨l, b, xs, zs, rfl, rfl, hl, hb, hz, q⟩ := h
  cases rx
  cases ry
  obtain ⟨i1, r1, ⟨⟨c1, d1, t1, q1⟩, n1, e1, g1, g2, g3⟩, z1⟩ := I.list hl
  obtain ⟨i2, r2, ⟨⟨c2, d2, t2, q2⟩, n2, e2, k1, k2, k3⟩, z2⟩ := I.list hb
  simp only at g1 g2 g3 k1 k2 k3
  subst g1 g2 g3 k1 k2 k3
  have l1 := r1.length
  have l2 := r2.length
  have w := PyProof.Rows.list_addW l b i1.toArray i2.toArray n1 n2 none none q1 q2 (by simp only [List.size_toArray]; omega)
  refine concat_meets ⟨_, e1, rfl⟩ ⟨_, e2, rfl⟩ noFill_list_add seq_list_add PySem.F.slot_list_add PySem.F.entry_list_add (PySem.F.args_list_add_2 _ _) w ⟨e1, e2, ?_⟩
  rw [show i1.toArray ++ i2.toArray = (i1 ++ i2).toArray by simp]
  exact ⟨.ref _, _, I.lnew (t' := s.toks) (r1.append r2) (by rw [List.length_append]; omega), rfl, q _ I.fresh⟩

theorem Rel.tupF {β : List Addr} {sl : Slots} {so : Store} {σ : L2.St} {H : Hp} {a : DV} {x : V} (R : Rel C β sl so σ H) (r : RV C.T (C.F β so) H β a x) {ds : List D} (e : rdv so a = some (.tup ds)) : Fz C.T (C.F β so) H (.tup ds) x := by
  rcases R.frzOr r e with h | ⟨n, p, _, _, _, rfl, h⟩
  · exact h
  · exact h.elim
theorem ok_add (hK : X.K = C.T.K) : OpR X (binaryOp .Add) (rO C oAdd) := by
  rintro pins s σ H x y v u Q I rx ry ⟨β, sl, so, σ0, a, b, R, ra, rb, k⟩
  unfold oAdd at k
  split at k
  · rename_i i j e1 e2
    obtain rfl := R.int ra e1
    obtain rfl := R.int rb e2
    exact op_add pins s σ H _ _ v u Q I rx ry ⟨_, _, rfl, rfl, k.int R⟩
  · rename_i i j e1 e2
    obtain rfl := R.str ra e1
    obtain rfl := R.str rb e2
    split at k
    · rename_i hz
      exact op_add_str pins s σ H _ _ v u Q I rx ry ⟨_, _, rfl, rfl, hz, k.str R⟩
    · exact k.elim
  · rename_i ds es e1 e2
    obtain ⟨p, xs, rfl, s1, z1⟩ := R.lst ra e1
    obtain ⟨q, ys, rfl, s2, z2⟩ := R.lst rb e2
    split at k
    · rename_i hz
      rw [← hK] at s1 s2
      exact op_catS pins s σ H _ _ v u Q I rx ry ⟨p, q, xs, ys, rfl, rfl, s1, s2, by rw [← z1.length, ← z2.length]; exact hz, k.lst R (z1.append z2)⟩
    · exact k.elim
  · rename_i ds es e1 e2
    obtain ⟨p, xs, rfl, s1, z1⟩ := R.tup ra e1
    obtain ⟨q, ys, rfl, s2, z2⟩ := R.tup rb e2
    have l1 := z1.length
    have l2 := z2.length
    split at k
    · rename_i hz
      rw [← hK] at s1 s2
      refine op_catA pins s σ H _ _ v u Q I rx ry ⟨p, q, xs, ys, rfl, rfl, s1, s2, by rw [← l1, ← l2]; exact hz, fun h => ?_, fun _ h => ?_, fun _ _ => k.tup R (z1.append z2)⟩
      · subst h
        have : ds = [] := List.length_eq_zero_iff.mp (by rw [l1]; rfl)
        subst this
        exact k.here R (R.tupF rb e2)
      · subst h
        have : es = [] := List.length_eq_zero_iff.mp (by rw [l2]; rfl)
        subst this
        rw [List.append_nil] at k
        exact k.here R (R.tupF ra e1)
    · exact k.elim
  · exact k.elim
noncomputable def oMul : O2 := fun a b so => match rdv so a, rdv so b with
  | some (.int i), some (.int j) => if CMulX i j then some (.val (.int (i * j)), so) else none
  | _, _ => none
theorem ok_mul : OpR X (binaryOp .Mult) (rO C oMul) := by
  rintro pins s σ H x y v u Q I rx ry ⟨β, sl, so, σ0, a, b, R, ra, rb, k⟩
  unfold oMul at k
  split at k
  · rename_i i j e1 e2
    obtain rfl := R.int ra e1
    obtain rfl := R.int rb e2
    split at k
    · rename_i hz
      exact op_mulX pins s σ H _ _ v u Q I rx ry ⟨_, _, rfl, rfl, hz, k.int R⟩
    · exact k.elim
  · exact k.elim
end

mutual
def toPy : D → Option PyData
  | .non => some .none
  | .bl b => some (.bool b)
  | .int i => some (.int i)
  | .str s => some (.str s)
  | .tup ds => (toPys ds).map .tuple
  | .lst ds => (toPys ds).map .list
  | .dct _ _ => none
  | .obj _ _ _ => none
def toPys : List D → Option (List PyData)
  | [] => some []
  | d :: ds => (toPy d).bind fun p => (toPys ds).map fun r => p :: r
end
section
variable {T : Tx} {F : Addr → Prop} {H : Hp}
mutual
theorem Fz.dp : ∀ {d : D} {v : V} {p : PyData}, Fz T F H d v → toPy d = some p → Dp T.K H v p
  | .non, v, p, h, e => by unfold Fz at h; unfold toPy at e; cases e; subst h; exact .non
  | .bl b, v, p, h, e => by unfold Fz at h; unfold toPy at e; cases e; subst h; exact .bl b
  | .int i, v, p, h, e => by unfold Fz at h; unfold toPy at e; cases e; subst h; exact .int i
  | .str i, v, p, h, e => by unfold Fz at h; unfold toPy at e; cases e; subst h; exact .str i
  | .tup ds, v, p, h, e => by
    unfold Fz at h
    unfold toPy at e
    obtain ⟨a, xs, rfl, s, z⟩ := h
    obtain ⟨ps, e1, rfl⟩ := Option.map_eq_some_iff.mp e
    exact .tup s.sq (FzL.dps z e1)
  | .lst ds, v, p, h, e => by
    unfold Fz at h
    unfold toPy at e
    obtain ⟨a, xs, rfl, s, z⟩ := h
    obtain ⟨ps, e1, rfl⟩ := Option.map_eq_some_iff.mp e
    exact .lst s.sq (FzL.dps z e1)
  | .dct _ _, v, p, h, e => by unfold toPy at e; cases e
  | .obj _ _ _, v, p, h, e => by unfold toPy at e; cases e
theorem FzL.dps : ∀ {ds : List D} {vs : List V} {ps : List PyData}, FzL T F H ds vs → toPys ds = some ps → DpAll T.K H vs ps
  | [], vs, ps, h, e => by unfold FzL at h; unfold toPys at e; cases e; subst h; exact .nil
  | d :: ds, vs, ps, h, e => by
    unfold FzL at h
    unfold toPys at e
    obtain ⟨v, r, rfl, z1, z2⟩ := h
    obtain ⟨p, e1, e2⟩ := Option.bind_eq_some_iff.mp e
    obtain ⟨q, e3, rfl⟩ := Option.map_eq_some_iff.mp e2
    exact .cons (Fz.dp z1 e1) (FzL.dps z2 e3)
end
end
theorem Rel.dp {C : Cn} {β : List Addr} {sl : Slots} {so : Store} {σ : L2.St} {H : Hp} {a : DV} {x : V} {d : D} {p : PyData} (R : Rel C β sl so σ H) (r : RV C.T (C.F β so) H β a x) (e : rdv so a = some d) (ep : toPy d = some p) : Dp C.T.K H x p := by
  rcases R.frzOr r e with h | ⟨n, q, _, _, _, rfl, h⟩
  · exact h.dp ep
  · cases d with
    | lst ds =>
      obtain ⟨xs, e2, z⟩ := h
      unfold toPy at ep
      obtain ⟨ps, e1, rfl⟩ := Option.map_eq_some_iff.mp ep
      exact .lst (SqL.of e2) (z.dps e1)
    | dct _ _ => unfold toPy at ep; cases ep
    | obj _ _ _ => unfold toPy at ep; cases ep
    | _ => exact h.elim

def eqP (x y : D) : Option Bool := match toPy x, toPy y with
  | some p, some q => if SeqAt.shaped p = true ∧ SeqAt.shaped q = true then some (PyData.eqv p q) else none
  | _, _ => none
def eqD (x y : D) : Option Bool := match x, y with
  | .str i, .str j => some (i == j)
  | x, y => eqP x y
def oEq : O2 := fun a b so => match rdv so a, rdv so b with
  | some x, some y => (eqD x y).map fun r => (.val (.bl r), so)
  | _, _ => none
def oNe : O2 := fun a b so => match rdv so a, rdv so b with
  | some x, some y => (eqD x y).map fun r => (.val (.bl (!r)), so)
  | _, _ => none
def inD (x : D) (ds : List D) : Option Bool := match toPy x, toPys ds with
  | some p, some ps => if SeqAt.shaped p = true ∧ SeqAt.shaped (.list ps) = true then some (ps.any fun z => PyData.eqv z p) else none
  | _, _ => none
def flatD : D → Option V
  | .non => some .non
  | .bl b => some (.bl b)
  | .int i => some (.int i)
  | .str s => some (.str s)
  | _ => none
def flats : List D → Option (List V)
  | [] => some []
  | d :: ds => (flatD d).bind fun v => (flats ds).map fun r => v :: r
def inT (x : D) (ds : List D) : Option Bool := match flatD x, flats ds with
  | some v, some vs => some (inV v vs)
  | _, _ => none
def oIn (g : Bool → Bool) : O2 := fun a b so => match rdv so a, rdv so b with
  | some x, some (.lst ds) => (inD x ds).map fun r => (.val (.bl (g r)), so)
  | some x, some (.tup ds) => (inT x ds).map fun r => (.val (.bl (g r)), so)
  | _, _ => none
def isD (x y : D) : Option Bool := match x, y with
  | .non, .non => some true
  | _, .non => some false
  | .bl a, .bl b => some (decide (a = b))
  | _, _ => none
def oIs (g : Bool → Bool) : O2 := fun a b so => match rdv so a, rdv so b with
  | some x, some y => (isD x y).map fun r => (.val (.bl (g r)), so)
  | _, _ => none
section
variable {X : Cx} {C : Cn} {T : Tx} {F : Addr → Prop} {H : Hp}
theorem flat_fz {d : D} {v w : V} (h : Fz T F H d v) (e : flatD d = some w) : v = w ∧ flatV v = true := by
  cases d <;> first | (unfold Fz at h; cases e; subst h; exact ⟨rfl, rfl⟩) | cases e
theorem flats_fz : ∀ {ds : List D} {vs ws : List V}, FzL T F H ds vs → flats ds = some ws → vs = ws ∧ vs.all flatV = true
  | [], vs, ws, h, e => by unfold FzL at h; unfold flats at e; cases e; subst h; exact ⟨rfl, rfl⟩
  | d :: ds, vs, ws, h, e => by
    unfold FzL at h
    unfold flats at e
    obtain ⟨v, r, rfl, z1, z2⟩ := h
    obtain ⟨p, e1, e2⟩ := Option.bind_eq_some_iff.mp e
    obtain ⟨q, e3, rfl⟩ := Option.map_eq_some_iff.mp e2
    obtain ⟨rfl, f1⟩ := flat_fz z1 e1
    obtain ⟨rfl, f2⟩ := flats_fz z2 e3
    exact ⟨rfl, by simp [f1, f2]⟩
theorem ok_eq (hK : X.K = C.T.K) (hu : X.A.units + 64 < cLine) : OpR X (compareOp .Eq) (rO C oEq) := by
  rintro pins s σ H x y v u Q I rx ry ⟨β, sl, so, σ0, a, b, R, ra, rb, k⟩
  unfold oEq at k
  split at k
  · rename_i d e e1 e2
    unfold eqD at k
    split at k
    · rename_i i j
      obtain rfl := R.str ra e1
      obtain rfl := R.str rb e2
      have k : KO C sl σ0 Q β so H (some (.val (.bl ((i == j))), so)) := k
      refine op_eq pins s σ H _ _ v u Q I rx ry ⟨rfl, ?_⟩
      rw [dec_str]
      exact k.bl R
    unfold eqP at k
    split at k
    · rename_i p q h1 h2
      split at k
      · rename_i hs
        refine op_eqD hu pins s σ H x y v u Q I rx ry ⟨p, q, ?_, ?_, hs.1, hs.2, k.bl R⟩
        · rw [hK]; exact R.dp ra e1 h1
        · rw [hK]; exact R.dp rb e2 h2
      · exact k.elim
    · exact k.elim
  · exact k.elim
theorem ok_ne (hK : X.K = C.T.K) (hu : X.A.units + 64 < cLine) : OpR X (compareOp .NotEq) (rO C oNe) := by
  rintro pins s σ H x y v u Q I rx ry ⟨β, sl, so, σ0, a, b, R, ra, rb, k⟩
  unfold oNe at k
  split at k
  · rename_i d e e1 e2
    unfold eqD at k
    split at k
    · rename_i i j
      obtain rfl := R.str ra e1
      obtain rfl := R.str rb e2
      have k : KO C sl σ0 Q β so H (some (.val (.bl (!(i == j))), so)) := k
      refine op_ne pins s σ H _ _ v u Q I rx ry ⟨rfl, ?_⟩
      rw [dec_str]
      exact k.bl R
    unfold eqP at k
    split at k
    · rename_i p q h1 h2
      split at k
      · rename_i hs
        refine op_neD hu pins s σ H x y v u Q I rx ry ⟨p, q, ?_, ?_, hs.1, hs.2, k.bl R⟩
        · rw [hK]; exact R.dp ra e1 h1
        · rw [hK]; exact R.dp rb e2 h2
      · exact k.elim
    · exact k.elim
  · exact k.elim
theorem ok_in (hK : X.K = C.T.K) (hu : X.A.units + 65 < cLine) : OpR X (compareOp .In) (rO C (oIn fun r => r)) := by
  rintro pins s σ H x y v u Q I rx ry ⟨β, sl, so, σ0, a, b, R, ra, rb, k⟩
  unfold oIn at k
  split at k
  · rename_i d ds e1 e2
    unfold inD at k
    split at k
    · rename_i p q h1 h2
      split at k
      · rename_i hs
        have q2 : Dp C.T.K H y (.list q) := R.dp rb e2 (by unfold toPy; rw [h2]; rfl)
        refine op_inD hu pins s σ H x y v u Q I rx ry ⟨p, q, ?_, ?_, hs.1, hs.2, k.bl R⟩
        · rw [hK]; exact R.dp ra e1 h1
        · rw [hK]; exact q2
      · exact k.elim
    · exact k.elim
  · rename_i d ds e1 e2
    unfold inT at k
    split at k
    · rename_i w ws h1 h2
      obtain ⟨p, ys, rfl, s2, z2⟩ := R.tup rb e2
      obtain ⟨rfl, f2⟩ := flats_fz z2 h2
      rcases R.frzOr ra e1 with z1 | ⟨n, p', _, _, _, rfl, h⟩
      · obtain ⟨rfl, f1⟩ := flat_fz z1 h1
        rw [← hK] at s2
        exact op_in_seq pins s σ H _ _ v u Q I rx ry ⟨p, _, rfl, .inr s2, f1, f2, k.bl R⟩
      · cases d <;> first | exact h.elim | cases h1
    · exact k.elim
  · exact k.elim
theorem ok_notIn (hK : X.K = C.T.K) (hu : X.A.units + 65 < cLine) : OpR X (compareOp .NotIn) (rO C (oIn fun r => !r)) := by
  rintro pins s σ H x y v u Q I rx ry ⟨β, sl, so, σ0, a, b, R, ra, rb, k⟩
  unfold oIn at k
  split at k
  · rename_i d ds e1 e2
    unfold inD at k
    split at k
    · rename_i p q h1 h2
      split at k
      · rename_i hs
        have q2 : Dp C.T.K H y (.list q) := R.dp rb e2 (by unfold toPy; rw [h2]; rfl)
        refine op_notInD hu pins s σ H x y v u Q I rx ry ⟨p, q, ?_, ?_, hs.1, hs.2, k.bl R⟩
        · rw [hK]; exact R.dp ra e1 h1
        · rw [hK]; exact q2
      · exact k.elim
    · exact k.elim
  · rename_i d ds e1 e2
    unfold inT at k
    split at k
    · rename_i w ws h1 h2
      obtain ⟨p, ys, rfl, s2, z2⟩ := R.tup rb e2
      obtain ⟨rfl, f2⟩ := flats_fz z2 h2
      rcases R.frzOr ra e1 with z1 | ⟨n, p', _, _, _, rfl, h⟩
      · obtain ⟨rfl, f1⟩ := flat_fz z1 h1
        rw [← hK] at s2
        exact op_notIn_seq pins s σ H _ _ v u Q I rx ry ⟨p, _, rfl, .inr s2, f1, f2, k.bl R⟩
      · cases d <;> first | exact h.elim | cases h1
    · exact k.elim
  · exact k.elim
theorem ok_lt : OpR X (compareOp .Lt) (rO C (oB fun i j => decide (i < j))) := rO_bl op_lt fun i j H Q q => ⟨i, j, rfl, rfl, q⟩
theorem ok_le : OpR X (compareOp .LtE) (rO C (oB fun i j => decide (i ≤ j))) := rO_bl op_le fun i j H Q q => ⟨i, j, rfl, rfl, q⟩
theorem ok_gt : OpR X (compareOp .Gt) (rO C (oB fun i j => decide (j < i))) := rO_bl op_gt fun i j H Q q => ⟨i, j, rfl, rfl, q⟩
theorem ok_ge : OpR X (compareOp .GtE) (rO C (oB fun i j => decide (j ≤ i))) := rO_bl op_ge fun i j H Q q => ⟨i, j, rfl, rfl, q⟩
theorem Rel.notNon {β : List Addr} {sl : Slots} {so : Store} {σ : L2.St} {H : Hp} {a : DV} {x : V} {d : D} (R : Rel C β sl so σ H) (r : RV C.T (C.F β so) H β a x) (e : rdv so a = some d) (hd : d ≠ .non) : x ≠ .non := by
  rcases R.frzOr r e with h | ⟨n, q, _, _, _, rfl, h⟩
  · cases d with
    | non => exact absurd rfl hd
    | bl b => unfold Fz at h; subst h; exact fun z => nomatch z
    | int b => unfold Fz at h; subst h; exact fun z => nomatch z
    | str b => unfold Fz at h; subst h; exact fun z => nomatch z
    | tup ds => unfold Fz at h; obtain ⟨_, _, rfl, _⟩ := h; exact fun z => nomatch z
    | lst ds => unfold Fz at h; obtain ⟨_, _, rfl, _⟩ := h; exact fun z => nomatch z
    | dct _ ds => unfold Fz at h; obtain ⟨_, _, rfl, _⟩ := h; exact fun z => nomatch z
    | obj _ _ ds => unfold Fz at h; obtain ⟨_, _, rfl, _⟩ := h; exact fun z => nomatch z
  · exact fun z => nomatch z
theorem ok_is : OpR X (compareOp .Is) (rO C (oIs fun r => r)) := by
  rintro pins s σ H x y v u Q I rx ry ⟨β, sl, so, σ0, a, b, R, ra, rb, k⟩
  unfold oIs at k
  split at k
  · rename_i d e e1 e2
    unfold isD at k
    split at k
    · obtain rfl := R.non ra e1
      obtain rfl := R.non rb e2
      exact op_isN pins s σ H _ _ v u Q I rx ry ⟨rfl, k.bl R⟩
    · rename_i hd
      obtain rfl := R.non rb e2
      have hx := R.notNon ra e1 fun z => hd z
      refine op_isN pins s σ H _ _ v u Q I rx ry ⟨rfl, ?_⟩
      rw [decide_eq_false hx]
      exact k.bl R
    · obtain rfl := R.bl ra e1
      obtain rfl := R.bl rb e2
      exact op_isBl pins s σ H _ _ v u Q I rx ry ⟨_, _, rfl, rfl, k.bl R⟩
    · exact k.elim
  · exact k.elim
theorem ok_isNot : OpR X (compareOp .IsNot) (rO C (oIs fun r => !r)) := by
  rintro pins s σ H x y v u Q I rx ry ⟨β, sl, so, σ0, a, b, R, ra, rb, k⟩
  unfold oIs at k
  split at k
  · rename_i d e e1 e2
    unfold isD at k
    split at k
    · obtain rfl := R.non ra e1
      obtain rfl := R.non rb e2
      exact op_notN pins s σ H _ _ v u Q I rx ry ⟨rfl, k.bl R⟩
    · rename_i hd
      obtain rfl := R.non rb e2
      have hx := R.notNon ra e1 fun z => hd z
      refine op_notN pins s σ H _ _ v u Q I rx ry ⟨rfl, ?_⟩
      rw [decide_eq_false hx]
      exact k.bl R
    · obtain rfl := R.bl ra e1
      obtain rfl := R.bl rb e2
      exact op_notBl pins s σ H _ _ v u Q I rx ry ⟨_, _, rfl, rfl, k.bl R⟩
    · exact k.elim
  · exact k.elim

def oNeg : O1 | .val (.int i), so => some (.val (.int (-i)), so) | _, _ => none
def oInv : O1 | .val (.int i), so => some (.val (.int (Builtin.bitNot i)), so) | _, _ => none
theorem ok_neg : UnR X (unaryOp .USub) (rU C oNeg) := by
  rintro pins s σ H x v Q I rx ⟨β, sl, so, σ0, a, R, ra, k⟩
  unfold oNeg at k
  split at k
  · obtain rfl := R.int ra rfl
    exact un_neg pins s σ H _ v Q I rx ⟨_, rfl, k.int R⟩
  · exact k.elim
theorem ok_inv : UnR X (unaryOp .Invert) (rU C oInv) := by
  rintro pins s σ H x v Q I rx ⟨β, sl, so, σ0, a, R, ra, k⟩
  unfold oInv at k
  split at k
  · obtain rfl := R.int ra rfl
    exact un_inv pins s σ H _ v Q I rx ⟨_, rfl, k.int R⟩
  · exact k.elim
def oIx : O2 := fun a b so => match rdv so a, b with
  | some (.lst ds), .val (.int i) => (atI ds i).map fun d => (.val d, so)
  | some (.tup ds), .val (.int i) => (atI ds i).map fun d => (.val d, so)
  | _, _ => none
theorem atI_fz {ds : List D} {xs : List V} {i : Int} {d : D} (z : FzL T F H ds xs) (e : atI ds i = some d) : ∃ v, atI xs i = some v ∧ Fz T F H d v := by
  unfold atI at e ⊢
  rw [← z.length]
  obtain ⟨j, e1, e2⟩ := Option.bind_eq_some_iff.mp e
  obtain ⟨v, e3, q⟩ := z.get e2
  exact ⟨v, by rw [e1]; exact e3, q⟩
theorem ok_ix (hK : X.K = C.T.K) : IxR X (rO C oIx) := by
  rintro value slice pins s σ H x y v u Q I rx ry ⟨β, sl, so, σ0, a, b, R, ra, rb, k⟩ hs
  unfold oIx at k
  split at k
  · rename_i ds i e1
    obtain rfl := R.int rb rfl
    obtain ⟨p, xs, rfl, s1, z1⟩ := R.lst ra e1
    rcases e : atI ds i with _ | d
    · rw [e] at k; exact k.elim
    · rw [e] at k
      obtain ⟨w, e3, q⟩ := atI_fz z1 e
      rw [← hK] at s1
      exact ix_seq value slice pins s σ H _ _ v u Q I rx ry (.inl ⟨p, xs, i, w, rfl, rfl, s1, e3, k.here R q⟩) hs
  · rename_i ds i e1
    obtain rfl := R.int rb rfl
    obtain ⟨p, xs, rfl, s1, z1⟩ := R.tup ra e1
    rcases e : atI ds i with _ | d
    · rw [e] at k; exact k.elim
    · rw [e] at k
      obtain ⟨w, e3, q⟩ := atI_fz z1 e
      rw [← hK] at s1
      exact ix_seq value slice pins s σ H _ _ v u Q I rx ry (.inr (.inl ⟨p, xs, i, w, rfl, rfl, s1, e3, k.here R q⟩)) hs
  · exact k.elim
end
end BT
end

section
set_option maxRecDepth 100000
set_option maxHeartbeats 400000
namespace BT
open PySem L2 PySem.Spec PyProof.Rows PySem.Builtin PySem.W
def binText (a : Int) : PySem.Str := ⟨((if a < 0 then [45] else []) ++ (Nat.toDigits 2 a.natAbs).map Char.toNat).toArray⟩
theorem field_bin (a : Int) (ds : List Nat) (h : ds ≠ []) : intField' { align := 62, type := some 98 } (decide (a < 0)) [] ds [] 4 = ⟨((if a < 0 then [45] else []) ++ ds).toArray⟩ := by
  unfold intField'
  have e1 : ((32 : Nat) == 48 && (62 : Nat) == 61) = false := by decide
  have e2 : ds.isEmpty = false := by cases ds with | nil => exact absurd rfl h | cons _ _ => rfl
  simp [e1, e2]
  try (by_cases hn : a < 0 <;> simp [hn] <;> omega)
theorem meets_b (a : Int) (t u : Tok) (hz : (binText a).length ≤ sizeLine) :
    Meets («int.__format__» ⟨[.int a t, .str ⟨#[98]⟩ u], []⟩) (fun _ R s => ∀ t' k, R (.ok (.ret (.str (binText a) t'))) { s with toks := k }) := by
  apply KPc.meets_of
  intro prog w A s Q E h
  unfold Builtin.«int.__format__»
  simp only [selfAndOne, noKeywords, Int.intOfSelf, asInt?, asStr?, List.isEmpty_nil, if_true, pure_bind, bind_pure, bind_assoc, show ((⟨#[98]⟩ : PySem.Str).length == 0) = false from rfl, Bool.false_eq_true, if_false, show (Value.str ⟨#[98]⟩ u == Value.none) = false from rfl]
  refine wpAny_bind (wpAny_typeNameOf (T := "str") (typeIs_str _ _ _) (by decide) fun _ => ?_)
  rw [if_neg (by decide +kernel)]
  refine wpAny_bind (wpAny_typeNameOfCut_int ?_)
  obtain ⟨f, hf⟩ : ∃ f : Float.FormatSpec, f = { align := 62, type := some 98 } := ⟨_, rfl⟩
  have hp : Float.parseFormatSpec (#[98] : Array Nat).toList "int" 62 = .ok f := by rw [hf]; rfl
  have hty : f.type.getD (if (#[98] : Array Nat).back? == some 0 then 0 else 100) = 98 := by rw [hf]; rfl
  have hpr : f.precision = none := by rw [hf]
  have hz2 : f.noNeg0 = false := by rw [hf]
  have hal : f.alt = false := by rw [hf]
  have hw : f.width = none := by rw [hf]
  simp only [hp, hty]
  rw [if_pos (by decide +kernel)]
  show wpAny _ _ (if _ then _ else _) _ _ _
  rw [if_neg (by simp [hpr])]
  show wpAny _ _ (if _ then _ else _) _ _ _
  rw [if_neg (by simp [hz2])]
  show wpAny _ _ (if _ then _ else _) _ _ _
  rw [if_neg (by decide)]
  show wpAny _ _ (if _ then _ else _) _ _ _
  rw [if_neg (by decide)]
  show wpAny _ _ (if _ then _ else _) _ _ _
  rw [if_neg (by simp [hw])]
  have hgr : f.grouping = none := by rw [hf]
  have hsg : f.sign = none := by rw [hf]
  have e : intField' f (decide (a < 0)) [] ((Nat.toDigits 2 a.natAbs).map fun c => (if (98 : Nat) == 88 then c.toUpper else c).toNat) [] 4 = binText a := by
    subst hf
    rw [show (fun c : Char => (if (98 : Nat) == 88 then c.toUpper else c).toNat) = Char.toNat from rfl]
    exact field_bin a _ (by rw [ne_eq, List.map_eq_nil_iff]; exact Nat.toDigits_ne_nil)
  rw [← e] at hz h
  clear e hf hp hty
  show wpAny _ _ (retStr _) _ _ _
  unfold retStr
  refine wpAny_bind (wpAny_mkStr (wpAny_pure ?_) ?hs2)
  case hs2 =>
    simp only [hal, Bool.false_eq_true, if_false, show ((2 : Nat) == 10) = false by decide, if_true]
    conv => lhs; arg 1; whnf
    simp only [intField', hgr, hsg, hal, Bool.false_eq_true, if_false, show ((2 : Nat) == 10) = false by decide, if_true] at hz ⊢
    exact hz
  simp only [hal, Bool.false_eq_true, if_false, show ((2 : Nat) == 10) = false by decide, if_true]
  have h := h s.toks (s.toks + 1)
  conv => arg 1; arg 1; arg 1; arg 1; whnf
  simp only [intField', hgr, hsg, hal, Bool.false_eq_true, if_false, show ((2 : Nat) == 10) = false by decide, if_true] at h ⊢
  exact h
end BT
end

section
set_option maxRecDepth 100000
namespace BT
open PySem L2

section
variable {X : Cx} {C : Cn} {W : WX} {β β' : List Addr} {sl sl' : Slots} {so so' : Store} {σ σ' : L2.St} {H H' : Hp}

def fVar (i : Nat) : EM DV := fun sl so => match sl[i]? with
  | some (some dv) => some (.ok dv, so)
  | _ => none
def fC (d : D) : EM DV := fun _ so => some (.ok (.val d), so)
theorem e_var {i : Nat} {x : PySem.Str} {pos : Pos} (hN : X.N[i]? = some x) (hv : Vis X.env.scope x) (hd : (x == ("__debug__" : PySem.Str)) = false) (hcd : (x == ("__classdict__" : PySem.Str)) = false) : PE X (.Name x pos) (rdE C W (fVar i)) :=
  (pe_var hN hv hd hcd).imp fun σ H Q ⟨β, sl, so, R, k⟩ => by
    unfold fVar at k
    split at k
    · rename_i dv e
      obtain ⟨v, e2, r⟩ := R.slots i dv e
      exact ⟨v, e2, k β H v R .refl r⟩
    · exact k.elim
theorem to_c {d : D} {v : V} (h : ∀ T F H, Fz T F H d v) {Q : VK} (q : rdE C W (fC d) σ H Q) : tC v σ H Q := by
  obtain ⟨β, sl, so, R, k⟩ := q
  exact k β H v R .refl (h _ _ _)
theorem e_int {i j pos} : PE X (.Constant (.int i) j pos) (rdE C W (fC (.int i))) := pe_int.imp fun σ H Q q => to_c (fun T F H => by unfold Fz; rfl) q
theorem e_bl {i j pos} : PE X (.Constant (.bool i) j pos) (rdE C W (fC (.bl i))) := pe_bl.imp fun σ H Q q => to_c (fun T F H => by unfold Fz; rfl) q
theorem e_str {i j pos} : PE X (.Constant (.str i) j pos) (rdE C W (fC (.str i))) := pe_str.imp fun σ H Q q => to_c (fun T F H => by unfold Fz; rfl) q
theorem e_non {j pos} : PE X (.Constant .none j pos) (rdE C W (fC .non)) := pe_non.imp fun σ H Q q => to_c (fun T F H => by unfold Fz; rfl) q
theorem e_glob {x : PySem.Str} {d : D} {v : V} {u : Value} {pos : Pos} (hg : Gl X x) (hm : X.mg x = some u) (r : RelV v u) (h : ∀ T F H, Fz T F H d v) (hd : (x == ("__debug__" : PySem.Str)) = false) : PE X (.Name x pos) (rdE C W (fC d)) :=
  (pe_glob hg hm r hd).imp fun σ H Q q => to_c h q

theorem e_bin {op : Operator} {g : O2} {a b : Expr} {fa fb : EM DV} {pos : Pos} (ho : OpR X (binaryOp op) (rO C g)) (ha : PE X a (rdE C W fa)) (hb : PE X b (rdE C W fb)) : PE X (.BinOp a op b pos) (rdE C W (f2 g fa fb)) :=
  (pe_op ho ha hb).imp fun σ H Q q => to_op q
theorem e_un {op : UnaryOp} {g : O1} {a : Expr} {fa : EM DV} {pos : Pos} (ho : UnR X (unaryOp op) (rU C g)) (ha : PE X a (rdE C W fa)) : PE X (.UnaryOp op a pos) (rdE C W (f1 g fa)) :=
  (pe_un ho ha).imp fun σ H Q q => to_un q
theorem e_cmp {op : CmpOp} {g : O2} {a b : Expr} {fa fb : EM DV} {pos : Pos} (ho : OpR X (compareOp op) (rO C g)) (ha : PE X a (rdE C W fa)) (hb : PE X b (rdE C W fb)) (hm : behindInMarks op b = false) : PE X (.Compare a [op] [b] pos) (rdE C W (f2 g fa fb)) :=
  (pe_cmpR ho ha hb hm).imp fun σ H Q q => to_op q
theorem e_ix {a b : Expr} {fa fb : EM DV} {pos : Pos} (ho : IxR X (rO C oIx)) (ha : PE X a (rdE C W fa)) (hb : PE X b (rdE C W fb)) (hs : PlainIx b) : PE X (.Subscript a b pos) (rdE C W (f2 oIx fa fb)) :=
  (pe_ix ho ha hb hs).imp fun σ H Q q => to_op q

def truD : D → Option Bool
  | .non => some false
  | .bl b => some b
  | .int i => some (i != 0)
  | .str s => if s.length ≤ sizeLine then some ((s.length : Int) != 0) else none
  | .tup ds => some (!ds.isEmpty)
  | .lst ds => some (!ds.isEmpty)
  | .dct ks _ => some (!ks.isEmpty)
  | .obj _ _ _ => none
def lfB (g : Store → Option Bool) : EM Bool := fun _ so => match g so with
  | none => none
  | some b => some (.ok b, so)
def fTru (fa : EM DV) : EM Bool := bnd fa fun a => lfB fun so => (rdv so a).bind truD
theorem isEmpty_of_length {α γ : Type} {l : List α} {m : List γ} (h : l.length = m.length) : l.isEmpty = m.isEmpty := by
  cases l <;> cases m <;> simp_all
theorem tru_of {a : DV} {x : V} {d : D} {k : Bool} (R : Rel C β sl so σ H) (r : RV C.T (C.F β so) H β a x) (e : rdv so a = some d) (t : truD d = some k) : TruV C.T.K x H k := by
  cases d with
  | non => obtain rfl := R.non r e; cases t; rfl
  | bl b => obtain rfl := R.bl r e; cases t; rfl
  | int i => obtain rfl := R.int r e; cases t; rfl
  | str s =>
    obtain rfl := R.str r e
    have t : (if s.length ≤ sizeLine then some ((s.length : Int) != 0) else none) = some k := t
    split at t
    · rename_i hz
      cases t
      exact ⟨hz, rfl⟩
    · cases t
  | tup ds =>
    obtain ⟨p, xs, rfl, s, z⟩ := R.tup r e
    cases t
    exact .inr (.inl ⟨xs, s, by rw [isEmpty_of_length z.length]⟩)
  | lst ds =>
    obtain ⟨p, xs, rfl, s, z⟩ := R.lst r e
    cases t
    exact .inl ⟨xs, s, by rw [isEmpty_of_length z.length]⟩
  | dct ks ds =>
    obtain ⟨p, xs, rfl, s, l, z⟩ := R.dct r e
    cases t
    refine .inr (.inr ⟨_, s, ?_⟩)
    rw [isEmpty_of_length (l := ks) (m := ks.zip xs) (by simp [l])]
  | obj _ _ _ => cases t
theorem KR.lfB {g : Store → Option Bool} {P : Bool → Hp → Prop} (R : Rel C β sl so σ H) (h : KR C W RB sl (fun _ _ _ H' _ v => P v H') β so σ H (lfB g sl so)) : ∃ b, g so = some b ∧ P b H := by
  unfold BT.lfB at h
  rcases e : g so with _ | b
  · rw [e] at h; exact h.elim
  · rw [e] at h
    exact ⟨b, rfl, h β H b R .refl rfl⟩
theorem t_tru {a : Expr} {fa : EM DV} (hK : X.K = C.T.K) (ha : PE X a (rdE C W fa)) (he : ∀ whole, isTrue a X.env whole = (do let v ← whole; standAt a.pos; holding [v] (truthy v))) : PT X a (rdT C W (fTru fa)) :=
  (pt_truth ha he).imp fun σ H Q ⟨β, sl, so, R, k⟩ => ⟨β, sl, so, R, (KR.bnd k).mono fun β1 so1 H1 a x ⟨R1, S1, ra, k1⟩ => by
    obtain ⟨b, e, q⟩ := KR.lfB R1 k1
    obtain ⟨d, e1, e2⟩ := Option.bind_eq_some_iff.mp e
    exact ⟨b, by rw [hK]; exact tru_of R1 ra e1 e2, q⟩⟩
def asB (a : DV) : Option Bool := match a with
  | .val (.bl b) => some b
  | _ => none
def fAsB (fa : EM DV) : EM Bool := bnd fa fun a => lfB fun _ => asB a
theorem to_test {t : TE} {fa : EM DV} {Q : Bool → Hp → Prop} (i : ∀ Q', rdE C W fa σ H Q' → t σ H Q') (q : rdT C W (fAsB fa) σ H Q) : tTest t σ H Q := by
  refine i _ ?_
  obtain ⟨β, sl, so, R, k⟩ := q
  refine ⟨β, sl, so, R, (KR.bnd k).mono fun β1 so1 H1 a x ⟨R1, S1, ra, k1⟩ => ?_⟩
  obtain ⟨b, e, q⟩ := KR.lfB R1 k1
  unfold asB at e
  split at e
  · cases e
    exact ⟨b, R1.bl ra rfl, q⟩
  · cases e
theorem t_cmp {op : CmpOp} {g : O2} {a b : Expr} {fa fb : EM DV} {pos : Pos} (ho : OpR X (compareOp op) (rO C g)) (ha : PE X a (rdE C W fa)) (hb : PE X b (rdE C W fb)) (hm : behindInMarks op b = false) : PT X (.Compare a [op] [b] pos) (rdT C W (fAsB (f2 g fa fb))) :=
  (pt_cmpR ho ha hb hm).imp fun σ H Q q => to_test (fun Q' q' => to_op q') q
def fNot (ft : EM Bool) : EM Bool := bnd ft fun b => pur !b
def fAnd (ft fu : EM Bool) : EM Bool := bnd ft fun b => if b = true then fu else pur false
def fOr (ft fu : EM Bool) : EM Bool := bnd ft fun b => if b = true then pur true else fu
theorem t_not {a : Expr} {ft : EM Bool} {pos : Pos} (ha : PT X a (rdT C W ft)) : PT X (.UnaryOp .Not a pos) (rdT C W (fNot ft)) :=
  (pt_not ha).imp fun σ H Q ⟨β, sl, so, R, k⟩ => ⟨β, sl, so, R, (KR.bnd k).mono fun β1 so1 H1 a x ⟨R1, S1, ra, k1⟩ => by
    cases ra
    exact KR.pur R1 rfl k1⟩
theorem t_and1 {a : Expr} {ft : EM Bool} {pos : Pos} (ha : PT X a (rdT C W ft)) : PW X (.BoolOp .And [a] pos) (rdT C W ft) := pw_and1 ha
theorem t_or1 {a : Expr} {ft : EM Bool} {pos : Pos} (ha : PT X a (rdT C W ft)) : PW X (.BoolOp .Or [a] pos) (rdT C W ft) := pw_or1 ha
theorem t_and {a b : Expr} {rest : List Expr} {ft fu : EM Bool} {pos : Pos} (ha : PT X a (rdT C W ft)) (hb : PW X (.BoolOp .And (b :: rest) pos) (rdT C W fu)) : PW X (.BoolOp .And (a :: b :: rest) pos) (rdT C W (fAnd ft fu)) :=
  (pw_and ha hb).imp fun σ H Q ⟨β, sl, so, R, k⟩ => ⟨β, sl, so, R, (KR.bnd k).mono fun β1 so1 H1 a x ⟨R1, S1, ra, k1⟩ => by
    cases ra
    cases a with
    | true => rw [if_pos rfl]; exact ⟨β1, sl, so1, R1, k1⟩
    | false => rw [if_neg Bool.false_ne_true]; exact KR.pur R1 rfl k1⟩
theorem t_or {a b : Expr} {rest : List Expr} {ft fu : EM Bool} {pos : Pos} (ha : PT X a (rdT C W ft)) (hb : PW X (.BoolOp .Or (b :: rest) pos) (rdT C W fu)) : PW X (.BoolOp .Or (a :: b :: rest) pos) (rdT C W (fOr ft fu)) :=
  (pw_or ha hb).imp fun σ H Q ⟨β, sl, so, R, k⟩ => ⟨β, sl, so, R, (KR.bnd k).mono fun β1 so1 H1 a x ⟨R1, S1, ra, k1⟩ => by
    cases ra
    cases a with
    | true => rw [if_pos rfl]; exact KR.pur R1 rfl k1
    | false => rw [if_neg Bool.false_ne_true]; exact ⟨β1, sl, so1, R1, k1⟩⟩
def fNotV (fa : EM DV) : EM DV := bnd fa fun a => match asB a with
  | some b => pur (.val (.bl (!b)))
  | none => fun _ _ => none
def fAndV (fa fb : EM DV) : EM DV := bnd fa fun a => match asB a with
  | some b => if b = true then fb else pur (.val (.bl false))
  | none => fun _ _ => none
def fOrV (fa fb : EM DV) : EM DV := bnd fa fun a => match asB a with
  | some b => if b = true then pur (.val (.bl true)) else fb
  | none => fun _ _ => none
theorem asB_of {a : DV} {x : V} {b : Bool} (R : Rel C β sl so σ H) (ra : RV C.T (C.F β so) H β a x) (e : asB a = some b) : x = .bl b := by
  unfold asB at e
  split at e
  · cases e; exact R.bl ra rfl
  · cases e
theorem rv_bl {T : Tx} {F : Addr → Prop} {b : Bool} : RV T F H β (.val (.bl b)) (.bl b) := by show Fz _ _ _ _ _; unfold Fz; rfl
theorem e_not {a : Expr} {fa : EM DV} {pos : Pos} (ha : PE X a (rdE C W fa)) : PE X (.UnaryOp .Not a pos) (rdE C W (fNotV fa)) :=
  (pe_not ha).imp fun σ H Q ⟨β, sl, so, R, k⟩ => ⟨β, sl, so, R, (KR.bnd k).mono fun β1 so1 H1 a x ⟨R1, S1, ra, k1⟩ => by
    rcases e : asB a with _ | b
    · rw [e] at k1; exact k1.elim
    · rw [e] at k1
      exact ⟨b, asB_of R1 ra e, KR.pur R1 rv_bl k1⟩⟩
theorem e_and {a b : Expr} {rest : List Expr} {fa fb : EM DV} {pos : Pos} (ha : PE X a (rdE C W fa)) (hb : PE X (.BoolOp .And (b :: rest) pos) (rdE C W fb)) : PE X (.BoolOp .And (a :: b :: rest) pos) (rdE C W (fAndV fa fb)) :=
  (pe_and ha hb).imp fun σ H Q ⟨β, sl, so, R, k⟩ => ⟨β, sl, so, R, (KR.bnd k).mono fun β1 so1 H1 a x ⟨R1, S1, ra, k1⟩ => by
    rcases e : asB a with _ | b
    · rw [e] at k1; exact k1.elim
    · rw [e] at k1
      refine ⟨b, asB_of R1 ra e, ?_⟩
      cases b with
      | true => rw [if_pos rfl]; exact ⟨β1, sl, so1, R1, k1⟩
      | false => rw [if_neg Bool.false_ne_true]; exact KR.pur R1 rv_bl k1⟩
theorem e_or {a b : Expr} {rest : List Expr} {fa fb : EM DV} {pos : Pos} (ha : PE X a (rdE C W fa)) (hb : PE X (.BoolOp .Or (b :: rest) pos) (rdE C W fb)) : PE X (.BoolOp .Or (a :: b :: rest) pos) (rdE C W (fOrV fa fb)) :=
  (pe_or ha hb).imp fun σ H Q ⟨β, sl, so, R, k⟩ => ⟨β, sl, so, R, (KR.bnd k).mono fun β1 so1 H1 a x ⟨R1, S1, ra, k1⟩ => by
    rcases e : asB a with _ | b
    · rw [e] at k1; exact k1.elim
    · rw [e] at k1
      refine ⟨b, asB_of R1 ra e, ?_⟩
      cases b with
      | true => rw [if_pos rfl]; exact KR.pur R1 rv_bl k1
      | false => rw [if_neg Bool.false_ne_true]; exact ⟨β1, sl, so1, R1, k1⟩⟩
theorem e_one {op} {a : Expr} {fa : EM DV} {pos : Pos} (ha : PE X a (rdE C W fa)) : PE X (.BoolOp op [a] pos) (rdE C W fa) := pe_one ha
def fIf (ft : EM Bool) (fa fb : EM DV) : EM DV := bnd ft fun b => if b = true then fa else fb
theorem e_if {c a b : Expr} {ft : EM Bool} {fa fb : EM DV} {pos : Pos} (hc : PT X c (rdT C W ft)) (ha : PE X a (rdE C W fa)) (hb : PE X b (rdE C W fb)) : PE X (.IfExp c a b pos) (rdE C W (fIf ft fa fb)) :=
  (pe_ifExp hc ha hb).imp fun σ H Q ⟨β, sl, so, R, k⟩ => ⟨β, sl, so, R, (KR.bnd k).mono fun β1 so1 H1 a x ⟨R1, S1, ra, k1⟩ => by
    cases ra
    cases a with
    | true => rw [if_pos rfl]; exact ⟨β1, sl, so1, R1, k1⟩
    | false => rw [if_neg Bool.false_ne_true]; exact ⟨β1, sl, so1, R1, k1⟩⟩
def fChain (g g' : O2) (fa fb fc : EM DV) : EM DV := bnd fa fun a => bnd fb fun b => bnd (lft (g a b)) fun z => match asB z with
  | some k => if k = true then bnd fc fun c => lft (g' b c) else pur (.val (.bl false))
  | none => fun _ _ => none
theorem KO.of2 {g : Store → Option (DV × Store)} {h : DV → EM DV} {Q : VK} (k : KR C W RV sl (fun _ _ _ H' _ v => Q v H') β so σ H (bnd (lft g) h sl so)) :
    KO C sl σ (fun v H' => ∃ β' so' a, Rel C β' sl so' σ H' ∧ Run β so H β' so' H' ∧ RV C.T (C.F β' so') H' β' a v ∧ KR C W RV sl (fun _ _ _ H' _ v => Q v H') β' so' σ H' (h a sl so')) β so H (g so) := by
  unfold bnd lft at k
  rcases e : g so with _ | ⟨a, so'⟩
  · rw [e] at k; exact k
  · rw [e] at k
    exact fun β' H' v R S r => ⟨β', so', a, R, S, r, KR.base S k⟩
theorem to_chain {g g' : O2} {fa fb fc : EM DV} {Q : VK} (q : rdE C W (fChain g g' fa fb fc) σ H Q) : tChain (rO C g) (rO C g') (rdE C W fa) (rdE C W fb) (rdE C W fc) σ H Q := by
  obtain ⟨β, sl, so, R, k⟩ := q
  refine ⟨β, sl, so, R, (KR.bnd k).mono fun β1 so1 H1 a x ⟨R1, S1, ra, k1⟩ => ?_⟩
  refine ⟨β1, sl, so1, R1, (KR.bnd k1).mono fun β2 so2 H2 b y ⟨R2, S2, rb, k2⟩ => ?_⟩
  refine ⟨β2, sl, so2, σ, a, b, R2, RV.step S2 ra, rb, ?_⟩
  have k3 := KO.of2 k2
  rcases e : g a b so2 with _ | ⟨z, so3⟩
  · rw [e] at k3; exact k3
  · rw [e] at k3
    intro β3 H3 v R3 S3 rz
    obtain ⟨β4, so4, a4, R4, S4, ra4, k4⟩ := k3 β3 H3 v R3 S3 rz
    rcases e4 : asB a4 with _ | c
    · rw [e4] at k4; exact k4.elim
    · rw [e4] at k4
      refine ⟨c, asB_of R4 ra4 e4, ?_⟩
      cases c with
      | true =>
        rw [if_pos rfl]
        have k4 : KR C W RV sl (fun _ _ _ H' _ v => Q v H') β4 so4 σ H3 (bnd fc (fun c => lft (g' b c)) sl so4) := k4
        exact ⟨β4, sl, so4, R4, (KR.bnd k4).mono fun β5 so5 H5 w x5 ⟨R5, S5, rw5, k5⟩ => ⟨β5, sl, so5, σ, b, w, R5, RV.step S5 (RV.step S4 rb), rw5, KO.of k5⟩⟩
      | false =>
        rw [if_neg Bool.false_ne_true]
        have k4 : KR C W RV sl (fun _ _ _ H' _ v => Q v H') β4 so4 σ H3 (pur (.val (.bl false)) sl so4) := k4
        exact KR.pur R4 rv_bl k4
theorem e_chain {op op' : CmpOp} {g g' : O2} {a b c : Expr} {fa fb fc : EM DV} {pos : Pos} (ho : OpR X (compareOp op) (rO C g)) (ho' : OpR X (compareOp op') (rO C g')) (ha : PE X a (rdE C W fa)) (hb : PE X b (rdE C W fb)) (hc : PE X c (rdE C W fc))
    (hm : lastMarks [op, op'] [b, c] = false) : PE X (.Compare a [op, op'] [b, c] pos) (rdE C W (fChain g g' fa fb fc)) := (pe_chain ho ho' ha hb hc hm).imp fun σ H Q q => to_chain q
theorem t_chain {op op' : CmpOp} {g g' : O2} {a b c : Expr} {fa fb fc : EM DV} {pos : Pos} (ho : OpR X (compareOp op) (rO C g)) (ho' : OpR X (compareOp op') (rO C g')) (ha : PE X a (rdE C W fa)) (hb : PE X b (rdE C W fb)) (hc : PE X c (rdE C W fc))
    (hm : lastMarks [op, op'] [b, c] = false) : PT X (.Compare a [op, op'] [b, c] pos) (rdT C W (fAsB (fChain g g' fa fb fc))) := (pt_chain ho ho' ha hb hc hm).imp fun σ H Q q => to_test (fun Q' q' => to_chain q') q
end
end BT
end

section
set_option maxRecDepth 100000
namespace BT
open PySem L2

section
variable {X : Cx} {C : Cn} {W : WX} {β β' : List Addr} {sl sl' : Slots} {so so' : Store} {σ σ' : L2.St} {H H' : Hp} {T : Tx} {F : Addr → Prop}

def fNil : EM (List DV) := pur []
def fCons (fa : EM DV) (fr : EM (List DV)) : EM (List DV) := bnd fa fun a => bnd fr fun r => pur (a :: r)
theorem a_nil : PA X [] (rdA C W fNil) := pa_nil.imp fun σ H Q ⟨β, sl, so, R, k⟩ => KR.pur R rfl k
theorem a_cons {e : Expr} {es : List Expr} {fa : EM DV} {fr : EM (List DV)} (ha : PE X e (rdE C W fa)) (hr : PA X es (rdA C W fr)) (hs : starEach (e :: es) X.env = (false, eval e X.env) :: starEach es X.env) : PA X (e :: es) (rdA C W (fCons fa fr)) :=
  (pa_cons ha hr hs).imp fun σ H Q ⟨β, sl, so, R, k⟩ => ⟨β, sl, so, R, (KR.bnd k).mono fun β1 so1 H1 a x ⟨R1, S1, ra, k1⟩ =>
    ⟨β1, sl, so1, R1, (KR.bnd k1).mono fun β2 so2 H2 as xs ⟨R2, S2, ras, k2⟩ => KR.pur R2 ⟨x, xs, rfl, RV.step S2 ra, ras⟩ k2⟩⟩

def frz (so : Store) : DV → Option (D × Store)
  | .val d => some (d, so)
  | .loc n => match so[n]? with
    | some (some (true, d)) => some (d, so.set n (some (false, d)))
    | some (some (false, d)) => some (d, so)
    | _ => none
def frzs (so : Store) : List DV → Option (List D × Store)
  | [] => some ([], so)
  | a :: as => (frz so a).bind fun (d, so1) => (frzs so1 as).map fun (ds, so2) => (d :: ds, so2)
theorem Rel.frz {a : DV} {x : V} {d : D} (R : Rel C β sl so σ H) (r : RV C.T (C.F β so) H β a x) (e : frz so a = some (d, so')) :
    Rel C β sl so' σ H ∧ Run β so H β so' H ∧ Fz C.T (C.F β so') H d x := by
  cases a with
  | val d' => cases e; exact ⟨R, .refl, r⟩
  | loc n =>
    obtain ⟨p, hp, rfl⟩ := r
    rcases q : so[n]? with _ | _ | ⟨l, d'⟩
    · simp only [BT.frz, q] at e; cases e
    · simp only [BT.frz, q] at e; cases e
    · cases l with
      | true =>
        simp only [BT.frz, q] at e
        cases e
        have R' := R.fr q
        refine ⟨R', Run.fr, ?_⟩
        exact R'.froz n d p (List.getElem?_set_self (List.getElem?_eq_some_iff.mp q).1) hp
      | false =>
        simp only [BT.frz, q] at e
        cases e
        exact ⟨R, .refl, R.froz n d p q hp⟩
theorem Rel.frzs {as : List DV} {xs : List V} {ds : List D} (R : Rel C β sl so σ H) (r : RVs C.T (C.F β so) H β as xs) (e : frzs so as = some (ds, so')) :
    Rel C β sl so' σ H ∧ Run β so H β so' H ∧ FzL C.T (C.F β so') H ds xs := by
  induction as generalizing xs ds so with
  | nil => cases e; cases r; exact ⟨R, .refl, by unfold FzL; rfl⟩
  | cons a as ih =>
    obtain ⟨v, vs, rfl, r1, r2⟩ := r
    obtain ⟨⟨d, so1⟩, e1, e2⟩ := Option.bind_eq_some_iff.mp e
    obtain ⟨⟨ds', so2⟩, e3, e4⟩ := Option.map_eq_some_iff.mp e2
    cases e4
    obtain ⟨R1, S1, z1⟩ := R.frz r1 e1
    obtain ⟨R2, S2, z2⟩ := ih R1 (RVs.step S1 r2) e3
    refine ⟨R2, S1.trans S2, ?_⟩
    unfold FzL
    exact ⟨v, vs, rfl, Fz.step S2.toStep z1, z2⟩
def nTup : ON := fun as so => (frzs so as).bind fun (ds, so') => if ds.length ≤ sizeLine then some (.val (.tup ds), so') else none
def nLst : ON := fun as so => (frzs so as).bind fun (ds, so') => if ds.length ≤ sizeLine then some (.loc so'.length, so' ++ [some (true, .lst ds)]) else none
theorem KO.rebase {Q : VK} {r : Option (DV × Store)} (S : Run β so H β' so' H') (h : KO C sl σ Q β so H r) : KO C sl σ Q β' so' H' r := by
  rcases r with _ | ⟨dv, so1⟩
  · exact h
  · exact fun β1 H1 v R1 S1 r => h β1 H1 v R1 (S.trans S1) r
theorem e_tup {es : List Expr} {fa : EM (List DV)} {n pos} (ha : PA X es (rdA C W fa)) : PE X (.Tuple es n pos) (rdE C W (fN nTup fa)) :=
  (pe_tup ha).imp fun σ H Q ⟨β, sl, so, R, k⟩ => ⟨β, sl, so, R, (KR.bnd k).mono fun β1 so1 H1 as xs ⟨R1, S1, ras, k1⟩ => by
    have k2 := KO.of k1
    unfold nTup at k2
    rcases e : frzs so1 as with _ | ⟨ds, so2⟩
    · rw [e] at k2; exact k2.elim
    · rw [e] at k2
      have k2 : KO C sl σ Q β1 so1 H1 (if ds.length ≤ sizeLine then some (.val (.tup ds), so2) else none) := k2
      obtain ⟨R2, S2, z⟩ := R1.frzs ras e
      split at k2
      · rename_i hz
        exact ⟨by rw [← z.length]; exact hz, (k2.rebase S2).tup R2 z⟩
      · exact k2.elim⟩
theorem e_lst {es : List Expr} {fa : EM (List DV)} {pos} (ha : PA X es (rdA C W fa)) : PE X (.List es pos) (rdE C W (fN nLst fa)) :=
  (pe_lst ha).imp fun σ H Q ⟨β, sl, so, R, k⟩ => ⟨β, sl, so, R, (KR.bnd k).mono fun β1 so1 H1 as xs ⟨R1, S1, ras, k1⟩ => by
    have k2 := KO.of k1
    unfold nLst at k2
    rcases e : frzs so1 as with _ | ⟨ds, so2⟩
    · rw [e] at k2; exact k2.elim
    · rw [e] at k2
      have k2 : KO C sl σ Q β1 so1 H1 (if ds.length ≤ sizeLine then some (.loc so2.length, so2 ++ [some (true, .lst ds)]) else none) := k2
      obtain ⟨R2, S2, z⟩ := R1.frzs ras e
      split at k2
      · rename_i hz
        exact ⟨by rw [← z.length]; exact hz, (k2.rebase S2).lst R2 z⟩
      · exact k2.elim⟩
def fDct : EM DV := fun _ so => some (.ok (.loc so.length), so ++ [some (true, .dct [] [])])
theorem e_dct0 {pos} : PE X (.Dict [] [] pos) (rdE C W fDct) := pe_dnewK.imp fun σ H Q ⟨β, sl, so, R, k⟩ => KO.dct R (k : KO C sl σ Q β so H (some (.loc so.length, so ++ [some (true, .dct [] [])])))

theorem e_callB {id : String} {g : ON} {x : PySem.Str} {p pos : Pos} {e : Expr} {es : List Expr} {fa : EM (List DV)} (hc : CallR X (.builtin id) (rN C g)) (hg : Gl X x) (hm : X.mg x = none) (hv : bootBuiltins x = some (.builtin id)) (ha : PA X (e :: es) (rdA C W fa))
    (hn : x ≠ "__name__") (hdb : (x == ("__debug__" : PySem.Str)) = false) (he : starEach (e :: es) X.env = (false, eval e X.env) :: starEach es X.env) (hpl : (backTo pos (starEach es X.env)).any (·.1) = false) :
    PE X (.Call (.Name x p) (e :: es) [] pos) (rdE C W (fN g fa)) := (pe_callB hc hg hm hv ha hn hdb he hpl).imp fun σ H Q q => to_cb q
theorem e_callTy {id : String} {g : ON} {x : PySem.Str} {p pos : Pos} {e : Expr} {es : List Expr} {fa : EM (List DV)} (hc : CallR X (.type id) (rN C g)) (hg : Gl X x) (hm : X.mg x = none) (hv : bootBuiltins x = some (.type id)) (ha : PA X (e :: es) (rdA C W fa))
    (hn : x ≠ "__name__") (hdb : (x == ("__debug__" : PySem.Str)) = false) (he : starEach (e :: es) X.env = (false, eval e X.env) :: starEach es X.env) (hpl : (backTo pos (starEach es X.env)).any (·.1) = false) :
    PE X (.Call (.Name x p) (e :: es) [] pos) (rdE C W (fN g fa)) := (pe_callTy hc hg hm hv ha hn hdb he hpl).imp fun σ H Q q => to_cb q

theorem RVs.one {a : DV} {xs : List V} (r : RVs T F H β [a] xs) : ∃ x, xs = [x] ∧ RV T F H β a x := by
  obtain ⟨v, vs, rfl, r1, r2⟩ := r
  cases r2
  exact ⟨v, rfl, r1⟩
theorem RVs.two {a b : DV} {xs : List V} (r : RVs T F H β [a, b] xs) : ∃ x y, xs = [x, y] ∧ RV T F H β a x ∧ RV T F H β b y := by
  obtain ⟨v, vs, rfl, r1, r2⟩ := r
  obtain ⟨y, rfl, r3⟩ := r2.one
  exact ⟨v, y, rfl, r1, r3⟩

def nLen : ON
  | [a], so => match rdv so a with
    | some (.lst ds) => some (.val (.int ds.length), so)
    | some (.tup ds) => some (.val (.int ds.length), so)
    | some (.str s) => if s.length ≤ sizeLine then some (.val (.int s.length), so) else none
    | _ => none
  | _, _ => none
theorem ok_len (hK : X.K = C.T.K) : CallR X (.builtin "len") (rN C nLen) := by
  rintro pins s σ H xs us Q I rx ⟨β, sl, so, σ0, as, R, ra, k⟩
  unfold nLen at k
  split at k
  · obtain ⟨x, rfl, r⟩ := ra.one
    split at k
    · rename_i ds e
      obtain ⟨p, ys, rfl, z1, z2⟩ := R.lst r e
      refine call_len pins s σ H _ us Q I rx ⟨_, ds.length, rfl, .inl ⟨ys, by rw [hK]; exact z1, z2.length⟩, k.int R⟩
    · rename_i ds e
      obtain ⟨p, ys, rfl, z1, z2⟩ := R.tup r e
      refine call_len pins s σ H _ us Q I rx ⟨_, ds.length, rfl, .inr ⟨ys, by rw [hK]; exact z1, z2.length⟩, k.int R⟩
    · rename_i z e
      obtain rfl := R.str r e
      split at k
      · rename_i hz
        exact call_len pins s σ H _ us Q I rx ⟨_, z.length, rfl, ⟨hz, rfl⟩, k.int R⟩
      · exact k.elim
    · exact k.elim
  · exact k.elim
def nInt : ON
  | [a], so => match rdv so a with
    | some (.int i) => some (.val (.int i), so)
    | some (.bl b) => some (.val (.int (if b then 1 else 0)), so)
    | _ => none
  | _, _ => none
theorem ok_int : CallR X (.type "int") (rN C nInt) := by
  rintro pins s σ H xs us Q I rx ⟨β, sl, so, σ0, as, R, ra, k⟩
  unfold nInt at k
  split at k
  · obtain ⟨x, rfl, r⟩ := ra.one
    split at k
    · rename_i i e
      obtain rfl := R.int r e
      exact call_int1 pins s σ H _ us Q I rx (.inl ⟨i, rfl, k.int R⟩)
    · rename_i b e
      obtain rfl := R.bl r e
      exact call_int1 pins s σ H _ us Q I rx (.inr ⟨b, rfl, k.int R⟩)
    · exact k.elim
  · exact k.elim
def nAbs : ON
  | [a], so => match rdv so a with
    | some (.int i) => some (.val (.int (if i < 0 then -i else i)), so)
    | _ => none
  | _, _ => none
theorem ok_abs : CallR X (.builtin "abs") (rN C nAbs) := by
  rintro pins s σ H xs us Q I rx ⟨β, sl, so, σ0, as, R, ra, k⟩
  unfold nAbs at k
  split at k
  · obtain ⟨x, rfl, r⟩ := ra.one
    split at k
    · rename_i i e
      obtain rfl := R.int r e
      exact call_abs pins s σ H _ us Q I rx ⟨i, rfl, k.int R⟩
    · exact k.elim
  · exact k.elim
def intsD : List D → Option (List Int)
  | [] => some []
  | .int i :: r => (intsD r).map fun l => i :: l
  | _ :: _ => none
theorem ints_fz : ∀ {ds : List D} {xs : List V} {ns : List Int}, FzL T F H ds xs → intsD ds = some ns → xs = ns.map V.int
  | [], xs, ns, h, e => by unfold FzL at h; cases e; subst h; rfl
  | d :: ds, xs, ns, h, e => by
    unfold FzL at h
    obtain ⟨v, r, rfl, h1, h2⟩ := h
    cases d with
    | int i =>
      obtain ⟨l, e1, rfl⟩ := Option.map_eq_some_iff.mp (show (intsD ds).map (fun l => i :: l) = some ns from e)
      unfold Fz at h1
      subst h1
      rw [ints_fz h2 e1]
      rfl
    | _ => cases e
def blsD : List D → Option (List Bool)
  | [] => some []
  | .bl i :: r => (blsD r).map fun l => i :: l
  | _ :: _ => none
theorem bls_fz : ∀ {ds : List D} {xs : List V} {ns : List Bool}, FzL T F H ds xs → blsD ds = some ns → xs = ns.map V.bl
  | [], xs, ns, h, e => by unfold FzL at h; cases e; subst h; rfl
  | d :: ds, xs, ns, h, e => by
    unfold FzL at h
    obtain ⟨v, r, rfl, h1, h2⟩ := h
    cases d with
    | bl i =>
      obtain ⟨l, e1, rfl⟩ := Option.map_eq_some_iff.mp (show (blsD ds).map (fun l => i :: l) = some ns from e)
      unfold Fz at h1
      subst h1
      rw [bls_fz h2 e1]
      rfl
    | _ => cases e
def nSum : ON
  | [a], so => match rdv so a with
    | some (.lst ds) => (intsD ds).map fun ns => (.val (.int ns.sum), so)
    | _ => none
  | _, _ => none
theorem ok_sum (hK : X.K = C.T.K) (hc : X.calm = true) : CallR X (.builtin "sum") (rN C nSum) := by
  rintro pins s σ H xs us Q I rx ⟨β, sl, so, σ0, as, R, ra, k⟩
  unfold nSum at k
  split at k
  · obtain ⟨x, rfl, r⟩ := ra.one
    split at k
    · rename_i ds e
      obtain ⟨p, ys, rfl, z1, z2⟩ := R.lst r e
      rcases e2 : intsD ds with _ | ns
      · rw [e2] at k; exact k.elim
      · rw [e2] at k
        obtain rfl := ints_fz z2 e2
        exact cr_sum hc pins s σ H _ us Q I rx ⟨p, ns, rfl, by rw [hK]; exact z1, k.int R⟩
    · exact k.elim
  · exact k.elim
def nBools (f : List Bool → Bool) : ON
  | [a], so => match rdv so a with
    | some (.lst ds) => (blsD ds).map fun ns => (.val (.bl (f ns)), so)
    | _ => none
  | _, _ => none
theorem ok_any (hK : X.K = C.T.K) (hc : X.calm = true) : CallR X (.builtin "any") (rN C (nBools fun l => l.any id)) := by
  rintro pins s σ H xs us Q I rx ⟨β, sl, so, σ0, as, R, ra, k⟩
  unfold nBools at k
  split at k
  · obtain ⟨x, rfl, r⟩ := ra.one
    split at k
    · rename_i ds e
      obtain ⟨p, ys, rfl, z1, z2⟩ := R.lst r e
      rcases e2 : blsD ds with _ | ns
      · rw [e2] at k; exact k.elim
      · rw [e2] at k
        obtain rfl := bls_fz z2 e2
        exact cr_any hc pins s σ H _ us Q I rx ⟨p, ns, rfl, by rw [hK]; exact z1, k.bl R⟩
    · exact k.elim
  · exact k.elim
theorem ok_all (hK : X.K = C.T.K) (hc : X.calm = true) : CallR X (.builtin "all") (rN C (nBools fun l => l.all id)) := by
  rintro pins s σ H xs us Q I rx ⟨β, sl, so, σ0, as, R, ra, k⟩
  unfold nBools at k
  split at k
  · obtain ⟨x, rfl, r⟩ := ra.one
    split at k
    · rename_i ds e
      obtain ⟨p, ys, rfl, z1, z2⟩ := R.lst r e
      rcases e2 : blsD ds with _ | ns
      · rw [e2] at k; exact k.elim
      · rw [e2] at k
        obtain rfl := bls_fz z2 e2
        exact cr_all hc pins s σ H _ us Q I rx ⟨p, ns, rfl, by rw [hK]; exact z1, k.bl R⟩
    · exact k.elim
  · exact k.elim
def nTuple : ON
  | [a], so => match rdv so a with
    | some (.lst ds) => some (.val (.tup ds), so)
    | some (.tup ds) => some (.val (.tup ds), so)
    | _ => none
  | _, _ => none
theorem ok_tuple (hK : X.K = C.T.K) : CallR X (.type "tuple") (rN C nTuple) := by
  rintro pins s σ H xs us Q I rx ⟨β, sl, so, σ0, as, R, ra, k⟩
  unfold nTuple at k
  split at k
  · obtain ⟨x, rfl, r⟩ := ra.one
    split at k
    · rename_i ds e
      obtain ⟨p, ys, rfl, z1, z2⟩ := R.lst r e
      exact call_tuple_of pins s σ H _ us Q I rx ⟨p, ys, rfl, .inl ⟨by rw [hK]; exact z1, k.tup R z2⟩⟩
    · rename_i ds e
      have zf := R.tupF r e
      obtain ⟨p, ys, rfl, z1, z2⟩ := R.tup r e
      exact call_tuple_of pins s σ H _ us Q I rx ⟨p, ys, rfl, .inr ⟨by rw [hK]; exact z1, k.here R zf⟩⟩
    · exact k.elim
  · exact k.elim
def nList : ON
  | [a], so => match rdv so a with
    | some (.lst ds) => some (.loc so.length, so ++ [some (true, .lst ds)])
    | some (.tup ds) => some (.loc so.length, so ++ [some (true, .lst ds)])
    | _ => none
  | _, _ => none
theorem ok_list (hK : X.K = C.T.K) : CallR X (.type "list") (rN C nList) := by
  rintro pins s σ H xs us Q I rx ⟨β, sl, so, σ0, as, R, ra, k⟩
  unfold nList at k
  split at k
  · obtain ⟨x, rfl, r⟩ := ra.one
    split at k
    · rename_i ds e
      obtain ⟨p, ys, rfl, z1, z2⟩ := R.lst r e
      exact call_list_of pins s σ H _ us Q I rx ⟨p, ys, rfl, .inl (by rw [hK]; exact z1), k.lst R z2⟩
    · rename_i ds e
      obtain ⟨p, ys, rfl, z1, z2⟩ := R.tup r e
      exact call_list_of pins s σ H _ us Q I rx ⟨p, ys, rfl, .inr (by rw [hK]; exact z1), k.lst R z2⟩
    · exact k.elim
  · exact k.elim

def tyD : D → String
  | .non => "NoneType"
  | .bl _ => "bool"
  | .int _ => "int"
  | .str _ => "str"
  | .tup _ => "tuple"
  | .lst _ => "list"
  | .dct _ _ => "dict"
  | .obj _ _ _ => "?"
theorem tyx_of {a : DV} {x : V} {d : D} (hK : X.K = C.T.K) (R : Rel C β sl so σ H) (r : RV C.T (C.F β so) H β a x) (e : rdv so a = some d) (hd : ∀ c ns ds, d ≠ .obj c ns ds) : TyX X.K H x (.type (tyD d)) := by
  cases d with
  | non => obtain rfl := R.non r e; exact .base .non
  | bl b => obtain rfl := R.bl r e; exact .base (.bl b)
  | int i => obtain rfl := R.int r e; exact .base (.int i)
  | str s => obtain rfl := R.str r e; exact .base (.str s)
  | tup ds =>
    obtain ⟨p, xs, rfl, s, z⟩ := R.tup r e
    rw [← hK] at s
    rcases s with (s | ⟨o, s⟩) | ⟨o, its, n, s, c, _⟩
    · exact .base (.tup s)
    · exact .fTuple s
    · exact .kTuple s c
  | lst ds =>
    obtain ⟨p, xs, rfl, s, z⟩ := R.lst r e
    rw [← hK] at s
    rcases s with (s | ⟨o, s⟩) | ⟨o, its, n, s, c, _⟩
    · exact .base (.lst s)
    · exact .base (.frz s)
    · exact .kList s c
  | dct ks ds =>
    obtain ⟨p, xs, rfl, s, l, z⟩ := R.dct r e
    exact .base (.dK s)
  | obj c ns ds => exact absurd rfl (hd c ns ds)
inductive Ty where | int | bool | str | tuple | list | dict
  deriving DecidableEq
def Ty.nm : Ty → String | .int => "int" | .bool => "bool" | .str => "str" | .tuple => "tuple" | .list => "list" | .dict => "dict"
def isTy : Ty → D → Option Bool
  | _, .obj _ _ _ => none
  | .int, .int _ => some true
  | .int, .bl _ => some true
  | .bool, .bl _ => some true
  | .str, .str _ => some true
  | .tuple, .tup _ => some true
  | .list, .lst _ => some true
  | .dict, .dct _ _ => some true
  | _, _ => some false
theorem isTy_kit {t : Ty} {d : D} {b : Bool} (e : isTy t d = some b) : kitB (tyD d) t.nm = some b := by
  cases t <;> cases d <;> cases e <;> simp only [tyD, Ty.nm] <;> decide +kernel
def fIsi (t : Ty) (fa : EM DV) : EM DV := f1 (fun a so => (rdv so a).bind fun d => (isTy t d).map fun b => (.val (.bl b), so)) fa
theorem e_isi {t : Ty} {e : Expr} {fa : EM DV} {p pos p2 : Pos} {y : PySem.Str} (hK : X.K = C.T.K) (hg : Gl X "isinstance") (hm : X.mg "isinstance" = none) (hg2 : Gl X y) (hm2 : X.mg y = none) (hv2 : bootBuiltins y = some (.type t.nm)) (hn2 : y ≠ "__name__") (hd2 : (y == ("__debug__" : PySem.Str)) = false)
    (ha : PE X e (rdE C W fa)) (he : starEach [e, .Name y p2] X.env = (false, eval e X.env) :: starEach [.Name y p2] X.env) : PE X (.Call (.Name "isinstance" p) [e, .Name y p2] [] pos) (rdE C W (fIsi t fa)) :=
  (pe_callB call_isi hg hm (by decide +kernel) (pa_cons ha (pa_cons (pe_bltn (v := .ty t.nm) hg2 hm2 hv2 rfl hn2 hd2) pa_nil) he) (he := he)).imp fun σ H Q ⟨β, sl, so, R, k⟩ => ⟨β, sl, so, R, (KR.bnd k).mono fun β1 so1 H1 a x ⟨R1, S1, ra, k1⟩ => by
    have k2 : KO C sl σ Q β1 so1 H1 ((rdv so1 a).bind fun d => (isTy t d).map fun b => (.val (.bl b), so1)) := KO.of k1
    rcases e1 : rdv so1 a with _ | d
    · rw [e1] at k2; exact k2.elim
    · rw [e1] at k2
      have k2 : KO C sl σ Q β1 so1 H1 ((isTy t d).map fun b => (.val (.bl b), so1)) := k2
      rcases e2 : isTy t d with _ | b
      · rw [e2] at k2; exact k2.elim
      · rw [e2] at k2
        refine ⟨x, .ty t.nm, .type (tyD d), .type t.nm, b, rfl, .ty _, tyx_of hK R1 ra e1 ?_, kit_ty (isTy_kit e2), k2.bl R1⟩
        intro c ns ds z
        subst z
        cases t <;> cases e2⟩
end
end BT
end

section
set_option maxRecDepth 100000
namespace BT
open PySem L2

section
variable {X : Cx} {C : Cn} {W : WX} {α ν : Type} {Ra : Rp α ν} {β β' : List Addr} {sl sl' : Slots} {so so' : Store} {σ σ' : L2.St} {H H' : Hp} {T : Tx} {F : Addr → Prop}

def bnT (f : EM α) (g : α → SM) : SM := bnS f fun a sl so => g a sl (so.take sl.length)
theorem KS.cut {D : Ends} {n : Nat} {r : Option (Fl × Slots × Store)} (h : KS C W D β so H r) : KS C W D (β.take n) (so.take n) H r := h.base Step.cut

theorem KS.bnT {f : EM α} {g : α → SM} {D : Ends} (R : Rel C β sl so σ H) (h : KS C W D β so H (BT.bnT f g sl so)) :
    KR C W Ra sl (fun β1 so1 σ1 H1 a x => Rel C (β1.take sl.length) sl (so1.take sl.length) σ1 H1 ∧ Step β so H (β1.take sl.length) (so1.take sl.length) H1 ∧ Ra C.T (C.F β1 so1) H1 β1 a x ∧ Step β1 so1 H1 (β1.take sl.length) (so1.take sl.length) H1 ∧
      KS C W D (β1.take sl.length) (so1.take sl.length) H1 (g a sl (so1.take sl.length))) β so σ H (f sl so) := by
  have h : KS C W D β so H (BT.bnS f (fun (a : α) (sl : Slots) (so : Store) => g a sl (so.take sl.length)) sl so) := h
  exact (KS.bnS R h).mono fun β1 so1 H1 a x ⟨R1, S1, ra, k1⟩ => ⟨R1.cut (Nat.le_refl _), S1.toStep.trans Step.cut, ra, Step.cut, KS.cut k1⟩

def sNx : SM := fun sl so => some (.nx, sl, so)
theorem s_nil : PSs X [] (rdS C W sNx) := pss_nil.imp fun D σ H ⟨β, sl, so, R, k⟩ => k β σ H R .refl
theorem s_cons {st : Stmt} {rest : List Stmt} {f g : SM} (h1 : PS X st (rdS C W f)) (h2 : PSs X rest (rdS C W g)) : PSs X (st :: rest) (rdS C W (sq f g)) :=
  (pss_cons h1 h2).imp fun D σ H ⟨β, sl, so, R, k⟩ => by
    refine ⟨β, sl, so, R, ?_⟩
    unfold sq at k
    rcases e : f sl so with _ | ⟨r, sl1, so1⟩
    · rw [e] at k; exact k
    · rw [e] at k
      cases r with
      | nx => exact fun β' σ' H' R' S' => ⟨β', sl1, so1, R', KS.base S' k⟩
      | _ => exact k
theorem s_pass {pos} : PS X (.Pass pos) (rdS C W sNx) := ps_pass.imp fun D σ H ⟨β, sl, so, R, k⟩ => k β σ H R .refl
theorem s_doc {x j pos pos'} : PS X (.Expr (.Constant (.str x) j pos) pos') (rdS C W sNx) := ps_doc.imp fun D σ H ⟨β, sl, so, R, k⟩ => k β σ H R .refl
def sBk : SM := fun sl so => some (.bk, sl, so)
def sCt : SM := fun sl so => some (.ct, sl, so)
theorem s_break {pos} : PS X (.Break pos) (rdS C W sBk) := ps_break.imp fun D σ H ⟨β, sl, so, R, k⟩ => k β σ H R .refl
theorem s_continue {pos} : PS X (.Continue pos) (rdS C W sCt) := ps_continue.imp fun D σ H ⟨β, sl, so, R, k⟩ => k β σ H R .refl
def sExp (fe : EM DV) : SM := bnT fe fun _ => sNx
theorem s_expr {e : Expr} {fe : EM DV} {pos : Pos} (he : PE X e (rdE C W fe)) (hs : swapsWith e none pos.line X.env = pure false) : PS X (.Expr e pos) (rdS C W (sExp fe)) :=
  (ps_expr he hs).imp fun D σ H ⟨β, sl, so, R, k⟩ => ⟨β, sl, so, R, (KS.bnT (Ra := RV) (g := fun _ => sNx) R k).mono fun β1 so1 H1 a x ⟨R1, S1, ra, _, k1⟩ => k1 _ σ H1 R1 .refl⟩
def sRet (fe : EM DV) : SM := bnS fe fun a sl so => some (.rt a, sl, so)
theorem s_ret {e : Expr} {fe : EM DV} {pos : Pos} (he : PE X e (rdE C W fe)) : PS X (.Return (some e) pos) (rdS C W (sRet fe)) :=
  (ps_ret he).imp fun D σ H ⟨β, sl, so, R, k⟩ => ⟨β, sl, so, R, (KS.bnS (Ra := RV) (g := fun a sl so => some (.rt a, sl, so)) R k).mono fun β1 so1 H1 a x ⟨R1, S1, ra, k1⟩ => k1 β1 σ H1 x R1 .refl ra⟩
def sRetN : SM := fun sl so => some (.rt (.val .non), sl, so)
theorem s_retN {pos : Pos} : PS X (.Return none pos) (rdS C W sRetN) :=
  ps_retN.imp fun D σ H ⟨β, sl, so, R, k⟩ => k β σ H .non R .refl (by show Fz _ _ _ _ _; unfold Fz; rfl)
def sIf (ft : EM Bool) (fa fb : SM) : SM := bnT ft fun b => if b = true then fa else fb
theorem s_if {c : Expr} {a b : List Stmt} {ft : EM Bool} {fa fb : SM} {pos : Pos} (hc : PT X c (rdT C W ft)) (ha : PSs X a (rdS C W fa)) (hb : PSs X b (rdS C W fb)) : PS X (.If c a b pos) (rdS C W (sIf ft fa fb)) :=
  (ps_if hc ha hb).imp fun D σ H ⟨β, sl, so, R, k⟩ => ⟨β, sl, so, R, (KS.bnT (Ra := RB) (g := fun b => if b = true then fa else fb) R k).mono fun β1 so1 H1 a x ⟨R1, S1, ra, _, k1⟩ => by
    cases ra
    cases a with
    | true => rw [if_pos rfl]; exact ⟨_, sl, _, R1, k1⟩
    | false => rw [if_neg Bool.false_ne_true]; exact ⟨_, sl, _, R1, k1⟩⟩

def stor (i : Nat) : DV → SM
  | .val d => fun sl so => some (.nx, sl.set i (some (.val d)), (so.set i none).take sl.length)
  | .loc j => fun sl so => match so[j]? with
    | some (some (b, d)) =>
      if j = i then some (.nx, sl.set i (some (.loc i)), so.take sl.length)
      else if j < sl.length then some (.nx, sl.set i (some (.val d)), ((so.set j (some (false, d))).set i none).take sl.length)
      else some (.nx, sl.set i (some (.loc i)), (so.set i (some (b, d))).take sl.length)
    | _ => none
theorem Rel.setSelf (R : Rel C β sl so σ H) {i : Nat} {e : Bool × D} {a : Addr} (hb : ∀ a, C.B[i]? ≠ some (some a)) (he : so[i]? = some (some e)) (ha : β[i]? = some a) : Rel C β (sl.set i (some (.loc i))) so (σ.set i (some (.ref a))) H := by
  refine ⟨R.len, by simpa using R.nsl, by simp [R.sll], fun m y h => ?_, fun m k h => ?_, fun m dv h => ?_, R.live, R.froz, R.dist, R.trk, R.keep, R.fresh, R.fb⟩
  · obtain ⟨q1, q2⟩ := R.bor m y h
    exact ⟨by simpa using q1, q2⟩
  · by_cases hm : i = m
    · subst hm
      by_cases hl : i < sl.length
      · rw [List.getElem?_set_self hl] at h; cases h; exact ⟨rfl, e, he⟩
      · rw [List.getElem?_eq_none (by simpa using hl)] at h; cases h
    · rw [List.getElem?_set_ne hm] at h; exact R.own m k h
  · by_cases hm : i = m
    · subst hm
      by_cases hl : i < sl.length
      · rw [List.getElem?_set_self hl] at h; cases h
        exact ⟨_, List.getElem?_set_self (by rw [R.sll]; exact hl), a, ha, rfl⟩
      · rw [List.getElem?_eq_none (by simpa using hl)] at h; cases h
    · rw [List.getElem?_set_ne hm] at h
      obtain ⟨w, q, r⟩ := R.slots m dv h
      exact ⟨w, by rw [List.getElem?_set_ne hm]; exact q, r⟩
theorem take_set_out {α : Type} {l : List α} {n j : Nat} {x : α} (h : n ≤ j) : (l.set j x).take n = l.take n := by
  apply List.ext_getElem?
  intro i
  by_cases hi : i < n
  · rw [List.getElem?_take_of_lt hi, List.getElem?_take_of_lt hi, List.getElem?_set_ne (by omega)]
  · rw [List.getElem?_eq_none (by simp; omega), List.getElem?_eq_none (by simp; omega)]
theorem stor_ok {i : Nat} {dv : DV} {x : V} {D : Ends} (hb : ∀ a, C.B[i]? ≠ some (some a)) (hi : i < sl.length) (R : Rel C β sl so σ H) (r : RV C.T (C.F β so) H β dv x) (k : KS C W D β so H (stor i dv sl so)) : D.nx (σ.set i (some x)) H := by
  cases dv with
  | val d =>
    have S : Step β so H (β.take sl.length) ((so.set i none).take sl.length) H := (Step.out (fun _ z => by cases z)).trans Step.cut
    have R' := (R.setVal hb r).cut (n := sl.length) (by simp)
    exact k _ _ H R' S
  | loc j =>
    obtain ⟨a, ha, rfl⟩ := r
    unfold stor at k
    rcases q : so[j]? with _ | _ | ⟨b, d⟩
    · simp only [q] at k; exact k.elim
    · simp only [q] at k; exact k.elim
    · simp only [q] at k
      by_cases h1 : j = i
      · rw [if_pos h1] at k
        subst h1
        exact k _ _ H ((R.setSelf hb q ha).cut (n := sl.length) (by simp)) Step.cut
      · rw [if_neg h1] at k
        by_cases h2 : j < sl.length
        · rw [if_pos h2] at k
          cases b with
          | true =>
            have R1 := R.fr q
            have z := R1.froz j d a (List.getElem?_set_self (List.getElem?_eq_some_iff.mp q).1) ha
            have S : Step β so H β (so.set j (some (false, d))) H := (Step.out (fun _ z => by cases z))
            exact k _ _ H ((R1.setVal hb z).cut (n := sl.length) (by simp)) (S.trans ((Step.out (fun _ z => by cases z)).trans Step.cut))
          | false =>
            have z := R.froz j d a q ha
            have e : so.set j (some (false, d)) = so := by
              apply List.ext_getElem?
              intro m
              by_cases hm : j = m
              · subst hm; rw [List.getElem?_set_self (List.getElem?_eq_some_iff.mp q).1, q]
              · rw [List.getElem?_set_ne hm]
            rw [e] at k
            exact k _ _ H ((R.setVal hb z).cut (n := sl.length) (by simp)) ((Step.out (fun _ z => by cases z)).trans Step.cut)
        · rw [if_neg h2] at k
          obtain ⟨R1, S1⟩ := R.setTmp hb hi (by omega) q ha
          have R2 := R1.cut (n := sl.length) (by simp)
          rw [take_set_out (l := so.set i (some (b, d))) (n := sl.length) (j := j) (by omega)] at R2
          have S2 : Step (β.set i a) ((so.set i (some (b, d))).set j none) H ((β.set i a).take sl.length) (((so.set i (some (b, d))).set j none).take sl.length) H := Step.cut
          rw [take_set_out (l := so.set i (some (b, d))) (n := sl.length) (j := j) (by omega)] at S2
          exact k _ _ H R2 (S1.trans S2)
def sSet (i : Nat) (fe : EM DV) : SM := bnS fe (stor i)
theorem to_set {i : Nat} {fe : EM DV} {te : TE} {D : Ends} (hb : ∀ a, C.B[i]? ≠ some (some a)) (hi : i < X.N.length) (hl : ∀ {β sl so σ H}, Rel C β sl so σ H → sl.length = X.N.length) (i2 : ∀ σ H Q, rdE C W fe σ H Q → te σ H Q) (q : rdS C W (sSet i fe) D σ H) : tAsg te (gName i) D σ H := by
  refine i2 _ _ _ ?_
  obtain ⟨β, sl, so, R, k⟩ := q
  exact ⟨β, sl, so, R, (KS.bnS (Ra := RV) R k).mono fun β1 so1 H1 a x ⟨R1, S1, ra, k1⟩ => stor_ok hb (by rw [hl R1]; exact hi) R1 ra k1⟩
end
end BT
end

section
set_option maxRecDepth 100000
namespace BT
open PySem L2

abbrev GM := D → Slots → Store → Option (Slots × Store)
abbrev GMs := List D → Slots → Store → Option (Slots × Store)
def Ag (ts : List Nat) (σ σ' : L2.St) : Prop := σ'.length = σ.length ∧ ∀ j, j ∉ ts → σ'[j]? = σ[j]?
theorem Ag.refl {σ : L2.St} : Ag [] σ σ := ⟨rfl, fun _ _ => rfl⟩
theorem Ag.trans {ts us : List Nat} {σ σ1 σ2 : L2.St} (a : Ag ts σ σ1) (b : Ag us σ1 σ2) : Ag (ts ++ us) σ σ2 := ⟨b.1.trans a.1, fun j h => by
  rw [List.mem_append, not_or] at h
  exact (b.2 j h.2).trans (a.2 j h.1)⟩
def rdG (C : Cn) (ts : List Nat) (g : GM) : TG := fun v σ H Q => ∃ β sl so d, Rel C β sl so σ H ∧ Fz C.T (C.F β so) H d v ∧ match g d sl so with
  | none => False
  | some (sl', so') => ∀ σ', Ag ts σ σ' → Rel C β sl' so' σ' H → Step β so H β so' H → Q σ' H
def rdGs (C : Cn) (ts : List Nat) (g : GMs) : TGs := fun vs σ H Q => ∃ β sl so ds, Rel C β sl so σ H ∧ FzL C.T (C.F β so) H ds vs ∧ match g ds sl so with
  | none => False
  | some (sl', so') => ∀ σ', Ag ts σ σ' → Rel C β sl' so' σ' H → Step β so H β so' H → Q σ' H
section
variable {X : Cx} {C : Cn} {W : WX} {α ν : Type} {Ra : Rp α ν} {β β' : List Addr} {sl sl' : Slots} {so so' : Store} {σ σ' : L2.St} {H H' : Hp} {T : Tx} {F : Addr → Prop}
theorem _root_.L2.PG.imp {X : Cx} {e : Expr} {t t' : TG} (h : PG X e t) (i : ∀ v σ H Q, t' v σ H Q → t v σ H Q) : PG X e t' := ⟨fun pins s σ H v u Q I r q => h.run pins s σ H v u Q I r (i v σ H Q q)⟩
theorem _root_.L2.PGs.imp {X : Cx} {e : List Expr} {t t' : TGs} (h : PGs X e t) (i : ∀ v σ H Q, t' v σ H Q → t v σ H Q) : PGs X e t' := ⟨fun pins s σ H v u Q I r q => h.run pins s σ H v u Q I r (i v σ H Q q)⟩
def gNm (i : Nat) : GM := fun d sl so => some (sl.set i (some (.val d)), so.set i none)
theorem g_name {i : Nat} {x : PySem.Str} {pos : Pos} (hN : X.N.Nodup) (hi : X.N[i]? = some x) (hx : Loc X.env.scope x) (hf : X.fn x = true ∨ X.env.scope.names.lookup x = some .local) (hb : ∀ a, C.B[i]? ≠ some (some a)) : PG X (.Name x pos) (rdG C [i] (gNm i)) :=
  (pg_name hN hi hx hf).imp fun v σ H Q ⟨β, sl, so, d, R, z, k⟩ => k _ ⟨by simp, fun j hj => List.getElem?_set_ne (fun e => hj (by simp [e]))⟩ (R.setVal hb z) (Step.out (fun _ z => by cases z))
def gNilM : GMs | [], sl, so => some (sl, so) | _ :: _, _, _ => none
def gConsM (g : GM) (gs : GMs) : GMs | [], _, _ => none | d :: ds, sl, so => match g d sl so with
  | none => none
  | some (sl1, so1) => gs ds sl1 so1
theorem g_nil : PGs X [] (rdGs C [] gNilM) := pgs_nil.imp fun v σ H Q ⟨β, sl, so, ds, R, z, k⟩ => by
  cases ds with
  | nil => unfold FzL at z; exact ⟨z, k σ .refl R .refl⟩
  | cons d ds => exact k.elim
theorem g_cons {e : Expr} {es : List Expr} {g : GM} {gs : GMs} {ts us : List Nat} (h1 : PG X e (rdG C ts g)) (h2 : PGs X es (rdGs C us gs)) (hs : (assignEach (e :: es) X.env).map (·.2) = assign e X.env :: (assignEach es X.env).map (·.2)) : PGs X (e :: es) (rdGs C (ts ++ us) (gConsM g gs)) :=
  (pgs_cons h1 h2 hs).imp fun v σ H Q ⟨β, sl, so, ds, R, z, k⟩ => by
    cases ds with
    | nil => exact k.elim
    | cons d ds =>
      unfold FzL at z
      obtain ⟨w, r, rfl, z1, z2⟩ := z
      refine ⟨w, r, rfl, β, sl, so, d, R, z1, ?_⟩
      rcases e : g d sl so with _ | ⟨sl1, so1⟩
      · simp only [gConsM, e] at k
      · simp only [gConsM, e] at k
        intro σ1 A1 R1 S1
        refine ⟨β, sl1, so1, ds, R1, FzL.step S1 z2, ?_⟩
        rcases e2 : gs ds sl1 so1 with _ | ⟨sl2, so2⟩
        · simp only [e2] at k
        · simp only [e2] at k
          exact fun σ2 A2 R2 S2 => k σ2 (A1.trans A2) R2 (S1.trans S2)
def gTpl (n : Nat) (gs : GMs) : GM := fun d sl so => match d with
  | .tup ds => if ds.length = n then gs ds sl so else none
  | _ => none
theorem g_tup {es : List Expr} {k : Nat} {gs : GMs} {n : Nat} {pos : Pos} {ts : List Nat} (hK : X.K = C.T.K) (hc : X.calm = true) (h : PGs X es (rdGs C ts gs)) (hn : (assignEach es X.env).length = n) (hst : (assignEach es X.env).findIdx? (·.1) = none) : PG X (.Tuple es k pos) (rdG C ts (gTpl n gs)) :=
  (pg_tup hc h hn hst).imp fun v σ H Q ⟨β, sl, so, d, R, z, k⟩ => by
    cases d with
    | tup ds =>
      unfold Fz at z
      obtain ⟨a, xs, rfl, s, z⟩ := z
      unfold gTpl at k
      by_cases hl : ds.length = n
      · simp only [if_pos hl] at k
        exact ⟨a, xs, rfl, by rw [hK]; exact s.sq, by rw [← z.length]; exact hl, β, sl, so, ds, R, z, k⟩
      · simp only [if_neg hl] at k
    | _ => exact k.elim

structure Wk (C : Cn) (J : It) (ds : List D) (Ok : List Addr → Store → Hp → Prop) : Prop where
  go : ∀ {i : Nat} {β : List Addr} {sl : Slots} {so : Store} {σ : L2.St} {H : Hp}, Rel C β sl so σ H → Ok β so H → i < ds.length → J.go i H
  yld : ∀ {i : Nat} {β : List Addr} {sl : Slots} {so : Store} {σ : L2.St} {H : Hp} {x : V} {H' : Hp}, Rel C β sl so σ H → Ok β so H → i < ds.length → J.yld i H x H' →
    Rel C β sl so σ H' ∧ Run β so H β so H' ∧ ∃ d, ds[i]? = some d ∧ Fz C.T (C.F β so) H' d x
  stop : ∀ {β : List Addr} {sl : Slots} {so : Store} {σ : L2.St} {H : Hp}, Rel C β sl so σ H → Ok β so H → J.stop ds.length H
  keep : ∀ {β β' : List Addr} {so so' : Store} {H H' : Hp}, Ok β so H → Step β so H β' so' H' → Ok β' so' H'
def KI (C : Cn) (W : WX) (sl : Slots) (R : It → Hp → Prop) (β : List Addr) (so : Store) (σ : L2.St) (H : Hp) : Option (Out (List D) × Store) → Prop
  | none => False
  | some (.ok ds, so') => ∀ β' H' J Ok, Rel C β' sl so' σ H' → Run β so H β' so' H' → Wk C J ds Ok → Ok β' so' H' → R J H'
  | some (.exc c d, so') => ∀ β' H', Rel C β' sl so' σ H' → Run β so H β' so' H' → ∀ dx v, H' dx = some (.xd [("what", v)]) → Fz C.T (C.F β' so') H' d v → W (.ref (C.T.cl c)) (some dx) σ H'
def rdI (C : Cn) (W : WX) (f : EM (List D)) : TI := fun σ H R => ∃ β sl so, Rel C β sl so σ H ∧ KI C W sl R β so σ H (f sl so)
theorem _root_.L2.PI.imp {X : Cx} {tg e : Expr} {t t' : TI} (h : PI X tg e t) (i : ∀ σ H R, t' σ H R → t σ H R) : PI X tg e t' := ⟨fun pins s σ H R I q => h.run pins s σ H R I (i σ H R q)⟩
theorem KI.base {R : It → Hp → Prop} {r : Option (Out (List D) × Store)} (S : Run β so H β' so' H') (h : KI C W sl R β so σ H r) : KI C W sl R β' so' σ H' r := by
  rcases r with _ | ⟨r, so1⟩
  · exact h
  · cases r with
    | ok a => exact fun β1 H1 J Ok R1 S1 w o => h β1 H1 J Ok R1 (S.trans S1) w o
    | exc c d => exact fun β1 H1 R1 S1 => h β1 H1 R1 (S.trans S1)
theorem KI.bnd {f : EM α} {g : α → EM (List D)} {R : It → Hp → Prop} (h : KI C W sl R β so σ H (bnd f g sl so)) :
    KR C W Ra sl (fun β1 so1 σ1 H1 a x => Rel C β1 sl so1 σ1 H1 ∧ Run β so H β1 so1 H1 ∧ Ra C.T (C.F β1 so1) H1 β1 a x ∧ KI C W sl R β1 so1 σ1 H1 (g a sl so1)) β so σ H (f sl so) := by
  unfold BT.bnd at h
  rcases e : f sl so with _ | ⟨r, so'⟩
  · rw [e] at h; exact h
  · rw [e] at h
    cases r with
    | ok a => exact fun β' H' v R S q => ⟨R, S, q, KI.base S h⟩
    | exc c d => exact h

def itmD : D → Option (List D)
  | .lst ds => some ds
  | .tup ds => some ds
  | _ => none
def fItm (fa : EM DV) : EM (List D) := bnd fa fun a _ so => match frz so a with
  | none => none
  | some (d, so') => match itmD d with
    | none => none
    | some ds => some (.ok ds, so')
theorem wk_list {K : PySem.W.Frag} (hK : K = C.T.K) {a : Addr} {ds : List D} {xs : List V} : Wk C (Itl K a) ds (fun β so H => SL C.T (C.F β so) H a xs ∧ FzL C.T (C.F β so) H ds xs) where
  go := fun {i β sl so σ H} R ⟨s, z⟩ hi => by
    have hx : i < xs.length := by rw [← z.length]; exact hi
    exact ⟨xs, xs[i], by rw [hK]; exact s.sq, List.getElem?_eq_getElem hx⟩
  yld := fun {i β sl so σ H x H'} R ⟨s, z⟩ hi y => by
    obtain ⟨rfl, y⟩ := y
    have e := y xs (by rw [hK]; exact s.sq)
    exact ⟨R, .refl, z.getV e⟩
  stop := fun {β sl so σ H} R ⟨s, z⟩ => ⟨xs, by rw [hK]; exact s.sq, by rw [z.length]; exact Nat.le_refl _⟩
  keep := fun ⟨s, z⟩ S => ⟨s.mono S.frz S.avd, FzL.step S z⟩
theorem wk_tup {K : PySem.W.Frag} (hK : K = C.T.K) {a : Addr} {ds : List D} {xs : List V} : Wk C (Itt K a) ds (fun β so H => ST C.T (C.F β so) H a xs ∧ FzL C.T (C.F β so) H ds xs) where
  go := fun {i β sl so σ H} R ⟨s, z⟩ hi => by
    have hx : i < xs.length := by rw [← z.length]; exact hi
    exact ⟨xs, xs[i], by rw [hK]; exact s.sq, List.getElem?_eq_getElem hx⟩
  yld := fun {i β sl so σ H x H'} R ⟨s, z⟩ hi y => by
    obtain ⟨rfl, y⟩ := y
    have e := y xs (by rw [hK]; exact s.sq)
    exact ⟨R, .refl, z.getV e⟩
  stop := fun {β sl so σ H} R ⟨s, z⟩ => ⟨xs, by rw [hK]; exact s.sq, by rw [z.length]; exact Nat.le_refl _⟩
  keep := fun ⟨s, z⟩ S => ⟨s.mono S.frz S.avd, FzL.step S z⟩
def iSeq (K : PySem.W.Frag) (tl : TE) : TI := fun σ H R => tl σ H fun x H1 => ∃ a, x = .ref a ∧ (((∃ xs, SqL K H1 a xs) ∧ R (Itl K a) H1) ∨ ((∃ xs, SqT K H1 a xs) ∧ R (Itt K a) H1))
theorem pi_seq {tg l : Expr} {tl : TE} (hl : PE X l tl) : PI X tg l (iSeq X.K tl) := by
  refine ⟨fun pins s σ H R I h => ?_⟩
  refine thn (hl.run pins s σ H _ I h) fun v s1 ⟨x, H1, I1, r1, a, e, q⟩ => ?_
  subst e
  cases r1
  have one : ∀ b ∈ [s1.heap.objs.size], FpOk X pins H1 b := fun b hb => by
    have e : b = s1.heap.objs.size := by simpa using hb
    subst e
    exact I1.fpOk (Nat.le_refl _) (I1.hok.fresh (Nat.le_refl _))
  rcases q with ⟨⟨xs, hq⟩, q⟩ | ⟨⟨xs, hq⟩, q⟩
  · obtain ⟨its, rv, p, hz⟩ := I1.list hq
    exact wpAny_pyIter_list p.isList ⟨s1.heap.objs.size, [s1.heap.objs.size], _, _, H1, rfl, I1.kept (t' := s1.toks) fun b o e => Heap.get?_push_of_some _ e, turn_list a _, ⟨_, Heap.get?_push_size _ rfl, rfl, rfl⟩, one, q⟩
  · obtain ⟨its, rv, p, hz⟩ := I1.tuple hq
    exact wpAny_pyIter_tuple (show s1.heap.IsTuple a its.toArray from p) ⟨s1.heap.objs.size, [s1.heap.objs.size], _, _, H1, rfl, I1.kept (t' := s1.toks) fun b o e => Heap.get?_push_of_some _ e, turn_tuple a _, ⟨_, Heap.get?_push_size _ rfl, rfl, rfl⟩, one, q⟩
theorem i_seq {tg e : Expr} {fa : EM DV} (hK : X.K = C.T.K) (he : PE X e (rdE C W fa)) : PI X tg e (rdI C W (fItm fa)) :=
  (pi_seq he).imp fun σ H Rr ⟨β, sl, so, R, k⟩ => ⟨β, sl, so, R, (KI.bnd (Ra := RV) k).mono fun β1 so1 H1 a x ⟨R1, S1, ra, k1⟩ => by
    rcases e1 : frz so1 a with _ | ⟨d, so2⟩
    · simp only [e1] at k1; exact k1.elim
    · simp only [e1] at k1
      obtain ⟨R2, S2, z⟩ := R1.frz ra e1
      cases d with
      | lst ds =>
        unfold Fz at z
        obtain ⟨p, xs, rfl, s, z⟩ := z
        exact ⟨p, rfl, .inl ⟨⟨xs, by rw [hK]; exact s.sq⟩, k1 β1 H1 _ _ R2 S2 (wk_list hK) ⟨s, z⟩⟩⟩
      | tup ds =>
        unfold Fz at z
        obtain ⟨p, xs, rfl, s, z⟩ := z
        exact ⟨p, rfl, .inr ⟨⟨xs, by rw [hK]; exact s.sq⟩, k1 β1 H1 _ _ R2 S2 (wk_tup hK) ⟨s, z⟩⟩⟩
      | _ => exact k1.elim⟩
def rngD (lo : Int) (n : Nat) : List D := (List.range n).map fun (i : Nat) => .int (lo + i)
noncomputable def inR (i : Int) : Bool := @decide (-(2 ^ 62) ≤ i ∧ i < 2 ^ 62) (Classical.propDecidable _)
theorem inR_of {i : Int} (h : inR i = true) : -(2 ^ 62) ≤ i ∧ i < 2 ^ 62 := @of_decide_eq_true _ (Classical.propDecidable _) h
noncomputable def fRng (fa : EM (List DV)) : EM (List D) := bnd fa fun as _ so => match as with
  | [.val (.int j)] => if inR j = true then some (.ok (rngD 0 j.toNat), so) else none
  | [.val (.int i), .val (.int j)] => if inR i = true ∧ inR j = true then some (.ok (rngD i (j - i).toNat), so) else none
  | _ => none
theorem wk_rng {lo : Int} {n : Nat} : Wk C (Itr lo n) (rngD lo n) (fun _ _ _ => True) where
  go := fun {i β sl so σ H} R _ hi => by
    have : i < (rngD lo n).length := hi
    simp only [rngD, List.length_map, List.length_range] at this
    exact this
  yld := fun {i β sl so σ H x H'} R _ hi y => by
    obtain ⟨rfl, rfl⟩ := y
    have : i < (rngD lo n).length := hi
    simp only [rngD, List.length_map, List.length_range] at this
    refine ⟨R, .refl, .int (lo + i), ?_, by unfold Fz; rfl⟩
    unfold rngD
    rw [List.getElem?_map, List.getElem?_range this]
    rfl
  stop := fun {β sl so σ H} R _ => by
    show n ≤ (rngD lo n).length
    simp [rngD]
  keep := fun _ _ => True.intro
theorem i_rng1 {tg a : Expr} {fa : EM (List DV)} {p pos : Pos} (hg : Gl X "range") (hm : X.mg "range" = none) (ha : PA X [a] (rdA C W fa)) (hs : starEach [a] X.env = [(false, eval a X.env)]) (h1 : ∀ sl so r so', fa sl so = some (.ok r, so') → r.length = 1) :
    PI X tg (.Call (.Name "range" p) [a] [] pos) (rdI C W (fRng fa)) :=
  (pi_range1 hg hm ha hs).imp fun σ H Rr ⟨β, sl, so, R, k⟩ => by
    refine ⟨β, sl, so, R, ?_⟩
    have k' := KI.bnd (Ra := RVs) k
    rcases e : fa sl so with _ | ⟨r, so1⟩
    · rw [e] at k'; exact k'
    · rw [e] at k'
      cases r with
      | exc c d => exact k'
      | ok r =>
        have hl := h1 _ _ _ _ e
        intro β1 H1 xs R1 S1 ras
        obtain ⟨_, _, _, k1⟩ := k' β1 H1 xs R1 S1 ras
        split at k1
        · rename_i j
          obtain ⟨x, rfl, rj⟩ := ras.one
          obtain rfl := R1.int rj rfl
          split at k1
          · rename_i hj
            have hj := inR_of hj
            exact ⟨_, rfl, hj.1, hj.2, k1 β1 H1 _ _ R1 .refl wk_rng True.intro⟩
          · exact k1.elim
        · simp at hl
        · exact k1.elim
theorem i_rng2 {tg a b : Expr} {fa : EM (List DV)} {p pos : Pos} (hg : Gl X "range") (hm : X.mg "range" = none) (ha : PA X [a, b] (rdA C W fa)) (hs : starEach [a, b] X.env = [(false, eval a X.env), (false, eval b X.env)]) (hs2 : starEach [b] X.env = [(false, eval b X.env)])
    (h1 : ∀ sl so r so', fa sl so = some (.ok r, so') → r.length = 2) : PI X tg (.Call (.Name "range" p) [a, b] [] pos) (rdI C W (fRng fa)) :=
  (pi_range2 hg hm ha hs hs2).imp fun σ H Rr ⟨β, sl, so, R, k⟩ => by
    refine ⟨β, sl, so, R, ?_⟩
    have k' := KI.bnd (Ra := RVs) k
    rcases e : fa sl so with _ | ⟨r, so1⟩
    · rw [e] at k'; exact k'
    · rw [e] at k'
      cases r with
      | exc c d => exact k'
      | ok r =>
        have hl := h1 _ _ _ _ e
        intro β1 H1 xs R1 S1 ras
        obtain ⟨_, _, _, k1⟩ := k' β1 H1 xs R1 S1 ras
        split at k1
        · simp at hl
        · rename_i i j
          obtain ⟨x, y, rfl, ri, rj⟩ := ras.two
          obtain rfl := R1.int ri rfl
          obtain rfl := R1.int rj rfl
          split at k1
          · rename_i hj
            have h1 := inR_of hj.1
            have h2 := inR_of hj.2
            exact ⟨_, _, rfl, ⟨h1.1, h1.2, h2.1, h2.2⟩, k1 β1 H1 _ _ R1 .refl wk_rng True.intro⟩
          · exact k1.elim
        · exact k1.elim

def forD (g : GM) (body : SM) : List D → SM
  | [] => sNx
  | d :: ds => fun sl so => match g d sl so with
    | none => none
    | some (sl1, so1) => match body sl1 so1 with
      | some (.nx, sl2, so2) => forD g body ds sl2 so2
      | some (.ct, sl2, so2) => forD g body ds sl2 so2
      | some (.bk, sl2, so2) => some (.nx, sl2, so2)
      | r => r
def sFor (fi : EM (List D)) (g : GM) (body : SM) : SM := bnT fi (forD g body)
theorem KI.of_bnT {fi : EM (List D)} {h : List D → SM} {D : Ends} {Rr : It → Hp → Prop} (R : Rel C β sl so σ H) (k : KS C W D β so H (bnT fi h sl so))
    (i : ∀ ds β1 so1 H1 J Ok, Rel C β1 sl so1 σ H1 → Step β so H β1 so1 H1 → Wk C J ds Ok → Ok β1 so1 H1 → KS C W D β1 so1 H1 (h ds sl so1) → Rr J H1) : KI C W sl Rr β so σ H (fi sl so) := by
  unfold bnT bnS at k
  rcases e : fi sl so with _ | ⟨r, so'⟩
  · rw [e] at k; exact k
  · rw [e] at k
    cases r with
    | ok ds =>
      intro β1 H1 J Ok R1 S1 w o
      have S2 : Step β1 so' H1 (β1.take sl.length) (so'.take sl.length) H1 := Step.cut
      exact i ds _ _ H1 J Ok (R1.cut (Nat.le_refl _)) (S1.toStep.trans S2) w (w.keep o S2) (KS.base (S1.toStep.trans S2) k)
    | exc c d => exact fun β1 H1 R1 S1 => k β1 σ H1 R1 S1.toStep
theorem s_for {tg iter : Expr} {body : List Stmt} {fi : EM (List D)} {g : GM} {ts : List Nat} {fb : SM} {pos : Pos} (hp : PassesOwn (model X.prog X.w) X.A X.env X.xe) (hc : X.calm = true) (hi : PI X tg iter (rdI C W fi)) (hg : PG X tg (rdG C ts g)) (hb : PSs X body (rdS C W fb))
    (hs : ∀ x, foldedSetIterable iter X.env x = pure x) : PS X (.For tg iter body [] pos) (rdS C W (sFor fi g fb)) :=
  (ps_for hp hc hi hg hb hs).imp fun D σ H ⟨β, sl, so, R, k⟩ => by
    refine ⟨β, sl, so, R, KI.of_bnT R k fun ds β1 so1 H1 J Ok R1 S1 w o k1 => ?_⟩
    refine ⟨fun i m σ H => m = ds.length - i ∧ i ≤ ds.length ∧ ∃ β sl so, Rel C β sl so σ H ∧ Ok β so H ∧ KS C W D β so H (forD g fb (ds.drop i) sl so), ⟨_, rfl, Nat.zero_le _, β1, sl, so1, R1, o, k1⟩, ?_⟩
    rintro i m σ2 H2 ⟨rfl, hi, β2, sl2, so2, R2, o2, k2⟩
    by_cases hlt : i < ds.length
    · refine .inr ⟨w.go R2 o2 hlt, fun σ3 H3 => ∃ β3 sl3 so3, Rel C β3 sl3 so3 σ3 H3 ∧ Ok β3 so3 H3 ∧ KS C W D β3 so3 H3 (forD g fb (ds.drop (i + 1)) sl3 so3), fun σ3 H3 h => ⟨ds.length - (i + 1), by omega, rfl, hlt, h⟩, fun x H3 y => ?_⟩
      obtain ⟨R3, S3, d, e, z⟩ := w.yld R2 o2 hlt y
      have hd : ds.drop i = d :: ds.drop (i + 1) := by
        rw [List.drop_eq_getElem_cons hlt]
        congr 1
        rw [List.getElem?_eq_getElem hlt] at e
        exact Option.some.inj e
      rw [hd] at k2
      refine ⟨β2, sl2, so2, d, R3, z, ?_⟩
      rcases eg : g d sl2 so2 with _ | ⟨sl4, so4⟩
      · simp only [forD, eg] at k2; exact k2.elim
      · simp only [forD, eg] at k2
        intro σ4 _ R4 S4
        have S34 : Step β2 so2 H2 β2 so4 H3 := S3.toStep.trans S4
        have o4 := w.keep o2 S34
        refine ⟨β2, sl4, so4, R4, ?_⟩
        have k4 := KS.base S34 k2
        rcases eb : fb sl4 so4 with _ | ⟨r, sl5, so5⟩
        · simp only [eb] at k4; exact k4
        · simp only [eb] at k4
          cases r with
          | nx => exact fun β5 σ5 H5 R5 S5 => ⟨β5, sl5, so5, R5, w.keep o4 S5, KS.base S5 k4⟩
          | ct => exact fun β5 σ5 H5 R5 S5 => ⟨β5, sl5, so5, R5, w.keep o4 S5, KS.base S5 k4⟩
          | bk => exact fun β5 σ5 H5 R5 S5 => k4 β5 σ5 H5 R5 S5
          | rt v => exact k4
          | exc c d => exact k4
    · have e : i = ds.length := by omega
      subst e
      rw [List.drop_length] at k2
      exact .inl ⟨w.stop R2 o2, k2 β2 σ2 H2 R2 .refl⟩

def whl (ft : EM Bool) (fb : SM) : Nat → SM
  | 0 => fun _ _ => none
  | n + 1 => bnT ft fun b => if b = true then fun sl so => match fb sl so with
      | some (.nx, sl2, so2) => whl ft fb n sl2 so2
      | some (.ct, sl2, so2) => whl ft fb n sl2 so2
      | some (.bk, sl2, so2) => some (.nx, sl2, so2)
      | r => r
    else sNx
theorem s_while {c : Expr} {body : List Stmt} {ft : EM Bool} {fb : SM} {pos : Pos} (n : Nat) (hp : PassesOwn (model X.prog X.w) X.A X.env X.xe) (hc : PT X c (rdT C W ft)) (hb : PSs X body (rdS C W fb)) : PS X (.While c body [] pos) (rdS C W (whl ft fb n)) :=
  (ps_while hp hc hb).imp fun D σ H ⟨β, sl, so, R, k⟩ => by
    refine ⟨fun m σ H => ∃ β sl so, Rel C β sl so σ H ∧ KS C W D β so H (whl ft fb m sl so), ⟨n, β, sl, so, R, k⟩, ?_⟩
    rintro m σ1 H1 ⟨β1, sl1, so1, R1, k1⟩
    cases m with
    | zero => exact k1.elim
    | succ m =>
      refine ⟨β1, sl1, so1, R1, (KS.bnT (Ra := RB) R1 k1).mono fun β2 so2 H2 a x ⟨R2, S2, ra, S3, k2⟩ => ?_⟩
      cases ra
      cases a with
      | false =>
        rw [if_neg Bool.false_ne_true]
        exact k2 _ σ1 H2 R2 .refl
      | true =>
        rw [if_pos rfl]
        refine ⟨fun σ3 H3 => ∃ β3 sl3 so3, Rel C β3 sl3 so3 σ3 H3 ∧ KS C W D β3 so3 H3 (whl ft fb m sl3 so3), fun σ3 H3 h => ⟨m, Nat.lt_succ_self _, h⟩, _, sl1, _, R2, ?_⟩
        have k3 : KS C W D (β2.take sl1.length) (so2.take sl1.length) H2 (match fb sl1 (so2.take sl1.length) with
          | some (.nx, sl2, so2) => whl ft fb m sl2 so2
          | some (.ct, sl2, so2) => whl ft fb m sl2 so2
          | some (.bk, sl2, so2) => some (.nx, sl2, so2)
          | r => r) := k2
        rcases eb : fb sl1 (so2.take sl1.length) with _ | ⟨r, sl5, so5⟩
        · simp only [eb] at k3; exact k3
        · simp only [eb] at k3
          cases r with
          | nx => exact fun β5 σ5 H5 R5 S5 => ⟨β5, sl5, so5, R5, KS.base S5 k3⟩
          | ct => exact fun β5 σ5 H5 R5 S5 => ⟨β5, sl5, so5, R5, KS.base S5 k3⟩
          | bk => exact fun β5 σ5 H5 R5 S5 => k3 β5 σ5 H5 R5 S5
          | rt v => exact k3
          | exc c d => exact k3
end
end BT
end

section
set_option maxRecDepth 100000
namespace BT
open PySem L2

def wipeS (sl : Slots) : List Nat → Slots
  | [] => sl
  | v :: vs => (wipeS sl vs).set v none
def gNmC (i : Nat) : GM := fun d sl so => some (sl.set i (some (.val d)), so)
def lcLoop (n : Nat) (slw : Slots) (g : GM) (ft : EM Bool) (fe : EM DV) : List D → Store → Option Store
  | [], so => some so
  | d :: ds, so => match g d slw so with
    | none => none
    | some (sl1, so1) => match ft sl1 so1 with
      | some (.ok false, so2) => lcLoop n slw g ft fe ds (so2.take (n + 1))
      | some (.ok true, so2) => match fe sl1 so2 with
        | some (.ok a, so3) => match frz so3 a with
          | some (d', so4) => match so4[n]? with
            | some (some (true, .lst acc)) => if acc.length < sizeLine then lcLoop n slw g ft fe ds ((so4.set n (some (true, .lst (acc ++ [d'])))).take (n + 1)) else none
            | _ => none
          | none => none
        | _ => none
      | _ => none
def fLc (vs : List Nat) (fi : EM (List D)) (g : GM) (ft : EM Bool) (fe : EM DV) : EM DV := bnd fi fun ds sl so =>
  match lcLoop so.length (wipeS sl vs) g ft fe ds (so ++ [some (true, .lst [])]) with
  | none => none
  | some so' => some (.ok (.loc so.length), so')
def fYes : EM Bool := pur true

section
variable {X : Cx} {C : Cn} {W : WX} {β β' : List Addr} {sl sl' : Slots} {so so' : Store} {σ σ' : L2.St} {H H' : Hp}
theorem wipeS_length (sl : Slots) : ∀ vs : List Nat, (wipeS sl vs).length = sl.length
  | [] => rfl
  | v :: vs => by unfold wipeS; rw [List.length_set, wipeS_length sl vs]
theorem wipeS_some {i : Nat} {x : DV} : ∀ {vs : List Nat}, (wipeS sl vs)[i]? = some (some x) → sl[i]? = some (some x) ∧ i ∉ vs
  | [], h => ⟨h, by simp⟩
  | v :: vs, h => by
    unfold wipeS at h
    by_cases hi : v = i
    · subst hi
      by_cases hv : v < (wipeS sl vs).length
      · rw [List.getElem?_set_self hv] at h; cases h
      · rw [List.getElem?_eq_none (by simpa using hv)] at h; cases h
    · rw [List.getElem?_set_ne hi] at h
      obtain ⟨h1, h2⟩ := wipeS_some h
      exact ⟨h1, by simp only [List.mem_cons, not_or]; exact ⟨fun e => hi e.symm, h2⟩⟩
theorem wipe_in {i : Nat} : ∀ {vs : List Nat}, i ∈ vs → i < σ.length → (wipe σ vs)[i]? = some none
  | v :: vs, h, hl => by
    unfold wipe
    by_cases hi : v = i
    · subst hi
      exact List.getElem?_set_self (by rw [wipe_length]; exact hl)
    · rw [List.getElem?_set_ne hi]
      rcases List.mem_cons.mp h with e | h
      · exact absurd e.symm hi
      · exact wipe_in h hl
theorem wipe_ag {ts vs : List Nat} (hts : ∀ i ∈ ts, i ∈ vs) (a : Ag ts (wipe σ vs) σ') : wipe σ' vs = wipe σ vs := by
  have hl : σ'.length = σ.length := by rw [a.1, wipe_length]
  apply List.ext_getElem?
  intro i
  by_cases hi : i ∈ vs
  · by_cases hlt : i < σ.length
    · rw [wipe_in hi (by omega), wipe_in hi hlt]
    · rw [List.getElem?_eq_none (by rw [wipe_length]; omega), List.getElem?_eq_none (by rw [wipe_length]; omega)]
  · rw [wipe_out hi, wipe_out hi, a.2 i fun z => hi (hts i z), wipe_out hi]
theorem Rel.wipe (R : Rel C β sl so σ H) (vs : List Nat) : Rel C β (wipeS sl vs) so (L2.wipe σ vs) H := by
  refine ⟨R.len, by rw [wipeS_length]; exact R.nsl, by rw [wipe_length, wipeS_length]; exact R.sll, fun m y h => ?_, fun m k h => ?_, fun m dv h => ?_, R.live, R.froz, R.dist, R.trk, R.keep, R.fresh, R.fb⟩
  · rw [wipeS_length]; exact R.bor m y h
  · exact R.own m k (wipeS_some h).1
  · obtain ⟨h1, h2⟩ := wipeS_some h
    obtain ⟨v, e, r⟩ := R.slots m dv h1
    exact ⟨v, by rw [wipe_out h2]; exact e, r⟩
theorem Rel.back {sl1 : Slots} {σ1 : L2.St} (R : Rel C β sl so σ H) (R' : Rel C β' sl1 so' σ1 H') (S : Run β so H β' so' H') : Rel C β' sl so' σ H' := by
  have hle : so.length ≤ so'.length := by rw [← R.len, ← R'.len]; exact S.pre.length_le
  refine ⟨R'.len, by have := R.nsl; omega, R.sll, fun m y h => ?_, fun m k h => ?_, fun m dv h => ?_, R'.live, R'.froz, R'.dist, R'.trk, R'.keep, R'.fresh, R'.fb⟩
  · exact ⟨(R.bor m y h).1, (R'.bor m y h).2⟩
  · obtain ⟨q1, e, q2⟩ := R.own m k h
    exact ⟨q1, S.ne m e q2⟩
  · obtain ⟨v, e, r⟩ := R.slots m dv h
    exact ⟨v, e, r.step S⟩
theorem Run.cut {n : Nat} (S : Run β so H β' so' H') (h1 : β.length ≤ n) (h2 : so.length ≤ n) : Run β so H (β'.take n) (so'.take n) H' := by
  refine ⟨S.toStep.trans Step.cut, ?_, fun i e h => ?_⟩
  · exact List.prefix_take_iff.mpr ⟨S.pre, h1⟩
  · obtain ⟨e', h'⟩ := S.ne i e h
    have := (List.getElem?_eq_some_iff.mp h).1
    exact ⟨e', by rw [List.getElem?_take_of_lt (by omega)]; exact h'⟩

abbrev W0 : WX := fun _ _ _ _ => False
theorem to_lc {g : GM} {ts vs : List Nat} {fi : EM (List D)} {ft : EM Bool} {fe : EM DV} {Q : VK} (hgs : ∀ d sl so sl' so', g d sl so = some (sl', so') → so' = so) (hts : ∀ i ∈ ts, i ∈ vs) (q : rdE C W (fLc vs fi g ft fe) σ H Q) :
    tLc (rdI C W fi) (rdG C ts g) (rdT C W0 ft) (rdE C W0 fe) vs σ H Q := by
  obtain ⟨β, sl, so, R, k⟩ := q
  refine ⟨β, sl, so, R, ?_⟩
  unfold fLc BT.bnd at k
  rcases e : fi sl so with _ | ⟨r, so1⟩
  · rw [e] at k; exact k
  rw [e] at k
  cases r with
  | exc c d => exact k
  | ok ds =>
  intro β1 H1 J Ok R1 S1 w o L hL
  rcases el : lcLoop so1.length (wipeS sl vs) g ft fe ds (so1 ++ [some (true, .lst [])]) with _ | fin
  · simp only [el] at k; exact k.elim
  simp only [el] at k
  have hn : β1.length = so1.length := R1.len
  have hsl : sl.length ≤ so1.length := R1.nsl
  have S2 : Run β1 so1 H1 (β1 ++ [L]) (so1 ++ [some (true, .lst [])]) (upd H1 L (.lst [])) := Run.push R1 hL
  have R2 : Rel C (β1 ++ [L]) sl (so1 ++ [some (true, .lst [])]) σ (upd H1 L (.lst [])) := R1.push hL ⟨[], upd_same, by unfold FzL; rfl⟩
  refine ⟨fun i m Hc => m = ds.length - i ∧ i ≤ ds.length ∧ ∃ βc soc, Rel C βc sl soc σ Hc ∧ Run (β1 ++ [L]) (so1 ++ [some (true, .lst [])]) (upd H1 L (.lst [])) βc soc Hc ∧ Ok βc soc Hc ∧ βc.length = so1.length + 1 ∧ lcLoop so1.length (wipeS sl vs) g ft fe (ds.drop i) soc = some fin,
    ⟨_, rfl, Nat.zero_le _, _, _, R2, .refl, w.keep o S2.toStep, by simp [hn], el⟩, ?_⟩
  rintro i m Hc ⟨rfl, hi, βc, soc, Rc, Sc, oc, lc, ec⟩
  have hLc : βc[so1.length]? = some L := pre_get Sc.pre (by rw [← hn]; simp)
  have hsc : soc.length = so1.length + 1 := by rw [← Rc.len]; exact lc
  by_cases hlt : i < ds.length
  · refine .inr ⟨w.go Rc oc hlt, fun H' => ∃ βc soc, Rel C βc sl soc σ H' ∧ Run (β1 ++ [L]) (so1 ++ [some (true, .lst [])]) (upd H1 L (.lst [])) βc soc H' ∧ Ok βc soc H' ∧ βc.length = so1.length + 1 ∧ lcLoop so1.length (wipeS sl vs) g ft fe (ds.drop (i + 1)) soc = some fin,
      fun H' h => ⟨ds.length - (i + 1), by omega, rfl, hlt, h⟩, fun x H3 y => ?_⟩
    obtain ⟨R3, S3, d, ed, z⟩ := w.yld Rc oc hlt y
    have hd : ds.drop i = d :: ds.drop (i + 1) := by
      rw [List.drop_eq_getElem_cons hlt]
      congr 1
      rw [List.getElem?_eq_getElem hlt] at ed
      exact Option.some.inj ed
    rw [hd] at ec
    refine ⟨βc, wipeS sl vs, soc, d, R3.wipe vs, z, ?_⟩
    rcases eg : g d (wipeS sl vs) soc with _ | ⟨sl4, so4⟩
    · simp only [lcLoop, eg] at ec; cases ec
    have hso := hgs _ _ _ _ _ eg
    subst hso
    simp only [lcLoop, eg] at ec
    intro σ4 A4 R4 _
    refine ⟨wipe_ag hts A4, βc, sl4, so4, R4, ?_⟩
    -- the turn's end
    have fin' : ∀ {β5 : List Addr} {sl5 : Slots} {so5 : Store} {σ5 : L2.St} {H5 : Hp}, Rel C β5 sl5 so5 σ5 H5 → Run βc so4 H3 β5 so5 H5 → lcLoop so1.length (wipeS sl vs) g ft fe (ds.drop (i + 1)) (so5.take (so1.length + 1)) = some fin →
        ∃ βc soc, Rel C βc sl soc σ H5 ∧ Run (β1 ++ [L]) (so1 ++ [some (true, .lst [])]) (upd H1 L (.lst [])) βc soc H5 ∧ Ok βc soc H5 ∧ βc.length = so1.length + 1 ∧ lcLoop so1.length (wipeS sl vs) g ft fe (ds.drop (i + 1)) soc = some fin := fun {β5 sl5 so5 σ5 H5} R5 S5 e5 => by
      have Rb := R3.back R5 S5
      have Sx := (Sc.trans S3).trans S5
      refine ⟨_, _, Rb.cut (n := so1.length + 1) (by omega), Sx.cut (by simp [hn]) (by simp), w.keep (w.keep oc (S3.toStep.trans S5.toStep)) Step.cut, ?_, e5⟩
      have := S5.pre.length_le
      rw [List.length_take]
      omega
    rcases et : ft sl4 so4 with _ | ⟨r, so5⟩
    · simp only [et] at ec; cases ec
    cases r with
    | exc c d => simp only [et] at ec; cases ec
    | ok b =>
    intro β5 H5 b' R5 S5 rb
    have rb : b = b' := rb
    subst rb
    cases b with
    | false =>
      simp only [et] at ec
      refine L2.iteF ?_
      exact fin' R5 S5 ec
    | true =>
    simp only [et] at ec
    refine L2.iteT ?_
    refine ⟨β5, sl4, so5, R5, ?_⟩
    rcases ee : fe sl4 so5 with _ | ⟨r, so6⟩
    · simp only [ee] at ec; cases ec
    cases r with
    | exc c d => simp only [ee] at ec; cases ec
    | ok a =>
    simp only [ee] at ec
    intro β6 H6 v R6 S6 ra
    rcases ef : frz so6 a with _ | ⟨d', so7⟩
    · simp only [ef] at ec; cases ec
    simp only [ef] at ec
    obtain ⟨R7, S7, zf⟩ := R6.frz ra ef
    split at ec
    · rename_i acc q
      split at ec
      · rename_i hz
        have hL6 : β6[so1.length]? = some L := pre_get (S5.pre.trans S6.pre) hLc
        obtain ⟨xs, e8, z8⟩ := R7.live _ _ L q hL6
        have zz : FzL C.T (C.F β6 so7) H6 (acc ++ [d']) (xs ++ [v]) := z8.append (by unfold FzL; exact ⟨v, [], rfl, zf, by unfold FzL; rfl⟩)
        obtain ⟨R9, S9⟩ := R7.wrLst q hL6 zz
        exact ⟨xs, e8, by rw [← z8.length]; exact hz, fin' R9 (((S5.trans S6).trans S7).trans S9) ec⟩
      · cases ec
    · cases ec
  · have e : i = ds.length := by omega
    subst e
    rw [List.drop_length] at ec
    have ec : some soc = some fin := ec
    cases ec
    exact .inl ⟨w.stop Rc oc, k βc Hc (.ref L) Rc ((S1.trans S2).trans Sc) ⟨L, hLc, rfl⟩⟩
theorem e_lc {elt tg iter : Expr} {ifs : List Expr} {scope : Scope} {own : List (PySem.Str × Nat)} {pos : Pos} {g : GM} {ts : List Nat} {fi : EM (List D)} {ft : EM Bool} {fe : EM DV} (hgs : ∀ d sl so sl' so', g d sl so = some (sl', so') → so' = so) (hts : ∀ i ∈ ts, i ∈ own.map (·.2))
    (hc : X.calm = true) (hN : X.N.Nodup) (hi : PI X tg iter (rdI C W fi)) (ok : BlkOk X.N X.env.scope scope own)
    (hg : ∀ (s : Shared) (H : Hp) (A : Addr) (cl : List (PySem.Str × Addr)) (fp : List Addr), PG (X.blk s H scope (compEnvC scope cl A X.env) fp) tg (rdG C ts g))
    (ht : ∀ (s : Shared) (H : Hp) (A : Addr) (cl : List (PySem.Str × Addr)) (fp : List Addr), PTs (X.blk s H scope (compEnvC scope cl A X.env) fp) ifs (rdT C W0 ft))
    (he : ∀ (s : Shared) (H : Hp) (A : Addr) (cl : List (PySem.Str × Addr)) (fp : List Addr), PE (X.blk s H scope (compEnvC scope cl A X.env) fp) elt (rdE C W0 fe)) (hs : ∀ x, foldedSetIterable iter X.env x = pure x) :
    PE X (.ListComp elt [⟨tg, iter, ifs, 0⟩] scope pos) (rdE C W (fLc (own.map (·.2)) fi g ft fe)) := (pe_lc hc hN hi ok hg ht he hs).imp fun σ H Q q => to_lc hgs hts q
theorem s_setLc {i : Nat} {y : PySem.Str} {py spos : Pos} {elt tg iter : Expr} {ifs : List Expr} {scope : Scope} {own : List (PySem.Str × Nat)} {pos : Pos} {g : GM} {ts : List Nat} {fi : EM (List D)} {ft : EM Bool} {fe : EM DV} (hgs : ∀ d sl so sl' so', g d sl so = some (sl', so') → so' = so) (hts : ∀ i ∈ ts, i ∈ own.map (·.2))
    (hc : X.calm = true) (hN : X.N.Nodup) (hy : X.N[i]? = some y) (hyl : X.env.scope.names.lookup y = some .local) (hsw : swapsWith (.ListComp elt [⟨tg, iter, ifs, 0⟩] scope pos) (some (.Name y py)) spos.line X.env = pure true)
    (hi : PI X tg iter (rdI C W fi)) (ok : BlkOk X.N X.env.scope scope own)
    (hg : ∀ (s : Shared) (H : Hp) (A : Addr) (cl : List (PySem.Str × Addr)) (fp : List Addr), PG (X.blk s H scope (compEnvC scope cl A X.env) fp) tg (rdG C ts g))
    (ht : ∀ (s : Shared) (H : Hp) (A : Addr) (cl : List (PySem.Str × Addr)) (fp : List Addr), PTs (X.blk s H scope (compEnvC scope cl A X.env) fp) ifs (rdT C W0 ft))
    (he : ∀ (s : Shared) (H : Hp) (A : Addr) (cl : List (PySem.Str × Addr)) (fp : List Addr), PE (X.blk s H scope (compEnvC scope cl A X.env) fp) elt (rdE C W0 fe)) (hs : ∀ x, foldedSetIterable iter X.env x = pure x)
    (hb : ∀ a, C.B[i]? ≠ some (some a)) (hl : ∀ {β sl so σ H}, Rel C β sl so σ H → sl.length = X.N.length) :
    PS X (.Assign [.Name y py] (.ListComp elt [⟨tg, iter, ifs, 0⟩] scope pos) spos) (rdS C W (sSet i (fLc (own.map (·.2)) fi g ft fe))) :=
  (ps_setLc hc hN hy hyl hsw hi ok hg ht he hs).imp fun D σ H q => to_set hb (List.getElem?_eq_some_iff.mp hy).1 hl (fun σ H Q q => to_lc hgs hts q) q
theorem gNmC_so {i : Nat} : ∀ d sl so sl' so', gNmC i d sl so = some (sl', so') → so' = so := fun d sl so sl' so' h => by cases h; rfl
theorem Rel.setValC (R : Rel C β sl so σ H) {i : Nat} {d : D} {v : V} (q : Fz C.T (C.F β so) H d v) : Rel C β (sl.set i (some (.val d))) so (σ.set i (some v)) H := by
  refine ⟨R.len, by simpa using R.nsl, by simp [R.sll], fun m y h => by simpa using R.bor m y h, fun m k h => ?_, fun m dv h => ?_, R.live, R.froz, R.dist, R.trk, R.keep, R.fresh, R.fb⟩
  · by_cases hm : i = m
    · subst hm
      by_cases hl : i < sl.length
      · rw [List.getElem?_set_self hl] at h; cases h
      · rw [List.getElem?_eq_none (by simpa using hl)] at h; cases h
    · rw [List.getElem?_set_ne hm] at h; exact R.own m k h
  · by_cases hm : i = m
    · subst hm
      by_cases hl : i < sl.length
      · rw [List.getElem?_set_self hl] at h; cases h
        exact ⟨v, List.getElem?_set_self (by rw [R.sll]; exact hl), q⟩
      · rw [List.getElem?_eq_none (by simpa using hl)] at h; cases h
    · rw [List.getElem?_set_ne hm] at h
      obtain ⟨w, q, r⟩ := R.slots m dv h
      exact ⟨w, by rw [List.getElem?_set_ne hm]; exact q, r⟩
theorem g_nameC {i : Nat} {x : PySem.Str} {pos : Pos} (hN : X.N.Nodup) (hi : X.N[i]? = some x) (hx : Loc X.env.scope x) (hf : X.fn x = true ∨ X.env.scope.names.lookup x = some .local) : PG X (.Name x pos) (rdG C [i] (gNmC i)) :=
  (pg_name hN hi hx hf).imp fun v σ H Q ⟨β, sl, so, d, R, z, k⟩ => k _ ⟨by simp, fun j hj => List.getElem?_set_ne (fun e => hj (by simp [e]))⟩ (R.setValC z) .refl
theorem ts_nil : PTs X [] (rdT C W fYes) := ⟨fun pins s σ H Q I ⟨β, sl, so, R, k⟩ => pts_nil.run pins s σ H Q I (KR.pur (Ra := RB) (v := true) R rfl k)⟩
theorem ts_one {c : Expr} {ft : EM Bool} (h : PT X c (rdT C W ft)) : PTs X [c] (rdT C W ft) := pts_one h
end
end BT
end

section
set_option maxRecDepth 100000
namespace BT
open PySem L2

section
variable {X : Cx} {C : Cn} {W : WX} {β β' : List Addr} {sl sl' : Slots} {so so' : Store} {σ σ' : L2.St} {H H' : Hp} {T : Tx} {F : Addr → Prop}

abbrev OM := DV → List DV → Store → Option (DV × Store)
def rM (C : Cn) (g : OM) : V → List V → Hp → VK → Prop := fun x xs H Q => ∃ β sl so σ a as, Rel C β sl so σ H ∧ RV C.T (C.F β so) H β a x ∧ RVs C.T (C.F β so) H β as xs ∧ KO C sl σ Q β so H (g a as so)
def tyM (T : String) (so : Store) (a : DV) : Bool := match rdv so a with
  | some (.lst _) => T == "list"
  | some (.str _) => T == "str"
  | some (.int _) => T == "int"
  | some (.dct _ _) => T == "dict"
  | _ => false
theorem tyM_ok {a : DV} {x : V} {T : String} {K : PySem.W.Frag} (hK : K = C.T.K) (R : Rel C β sl so σ H) (r : RV C.T (C.F β so) H β a x) (e : tyM T so a = true) : tyV K T x H := by
  unfold tyM at e
  split at e
  · rename_i ds q
    obtain ⟨p, xs, rfl, s, _⟩ := R.lst r q
    exact .inl ⟨by simpa using e, xs, by rw [hK]; exact s⟩
  · rename_i z q
    obtain rfl := R.str r q
    show T = "str"
    simpa using e
  · rename_i z q
    obtain rfl := R.int r q
    show T = "int"
    simpa using e
  · rename_i ks ds q
    obtain ⟨p, xs, rfl, s, _⟩ := R.dct r q
    exact .inr (.inr (.inl ⟨by simpa using e, .inl ⟨_, s⟩⟩))
  · cases e
def fM (T : String) (g : OM) (fo : EM DV) (fa : EM (List DV)) : EM DV := bnd fo fun o sl so => if tyM T so o = true then bnd fa (fun as => lft (g o as)) sl so else none
theorem to_bm {K : PySem.W.Frag} (hK : K = C.T.K) {T : String} {g : OM} {fo : EM DV} {fa : EM (List DV)} {Q : VK} (q : rdE C W (fM T g fo fa) σ H Q) : tBM K T (rM C g) (rdE C W fo) (rdA C W fa) σ H Q := by
  obtain ⟨β, sl, so, R, k⟩ := q
  refine ⟨β, sl, so, R, (KR.bnd k).mono fun β1 so1 H1 a x ⟨R1, S1, ra, k1⟩ => ?_⟩
  by_cases e : tyM T so1 a = true
  · rw [if_pos e] at k1
    exact ⟨tyM_ok hK R1 ra e, β1, sl, so1, R1, (KR.bnd k1).mono fun β2 so2 H2 as xs ⟨R2, S2, ras, k2⟩ => ⟨β2, sl, so2, σ, a, as, R2, RV.step S2 ra, ras, KO.of k2⟩⟩
  · rw [if_neg e] at k1; exact k1.elim
theorem to_bm0 {K : PySem.W.Frag} (hK : K = C.T.K) {T : String} {g : OM} {fo : EM DV} {Q : VK} (q : rdE C W (fM T g fo fNil) σ H Q) : tBM0 K T (rM C g) (rdE C W fo) σ H Q := by
  obtain ⟨β, sl, so, R, k⟩ := q
  refine ⟨β, sl, so, R, (KR.bnd k).mono fun β1 so1 H1 a x ⟨R1, S1, ra, k1⟩ => ?_⟩
  by_cases e : tyM T so1 a = true
  · rw [if_pos e] at k1
    exact ⟨tyM_ok hK R1 ra e, β1, sl, so1, σ, a, [], R1, ra, rfl, KO.of (g := g a []) k1⟩
  · rw [if_neg e] at k1; exact k1.elim

def mAppend : OM
  | .loc n, [a], so => (frz so a).bind fun (d, so1) => match so1[n]? with
    | some (some (true, .lst ds)) => if ds.length < sizeLine then some (.val .non, so1.set n (some (true, .lst (ds ++ [d])))) else none
    | _ => none
  | _, _, _ => none
theorem rv_non {T : Tx} {F : Addr → Prop} : RV T F H β (.val .non) .non := by show Fz _ _ _ _ _; unfold Fz; rfl
theorem ok_append : MtR X "list.append" (rM C mAppend) := by
  intro pins s σ H x xs v us Q I rx rxs ⟨β, sl, so, σ0, a, as, R, ra, ras, k⟩
  unfold mAppend at k
  split at k
  · rename_i n b
    obtain ⟨y, rfl, rb⟩ := ras.one
    rcases e : frz so b with _ | ⟨d, so1⟩
    · rw [e] at k; exact k.elim
    · rw [e] at k
      obtain ⟨R1, S1, z⟩ := R.frz rb e
      have k : KO C sl σ0 Q β so H (match so1[n]? with
        | some (some (true, .lst ds)) => if ds.length < sizeLine then some (.val .non, so1.set n (some (true, .lst (ds ++ [d])))) else none
        | _ => none) := k
      split at k
      · rename_i ds q
        split at k
        · rename_i hz
          obtain ⟨p, xs, rfl, hp, eL, zL⟩ := R1.liveLst (RV.step S1 ra) rfl q
          have zz : FzL C.T (C.F β so1) H (ds ++ [d]) (xs ++ [y]) := zL.append (by unfold FzL; exact ⟨y, [], rfl, z, by unfold FzL; rfl⟩)
          obtain ⟨R2, S2⟩ := R1.wrLst q hp zz
          exact mt_append pins s σ H _ _ v us Q I rx rxs ⟨p, xs, y, rfl, rfl, eL, by rw [← zL.length]; exact hz, (k.rebase S1) β _ _ R2 S2 rv_non⟩
        · exact k.elim
      · exact k.elim
  · exact k.elim
def mPop : OM
  | .loc n, [.val (.int i)], so => match so[n]? with
    | some (some (true, .lst ds)) => if -(2 ^ 63) ≤ i ∧ i < 2 ^ 63 then match seqIndex? i ds.length with
      | some k => (ds[k]?).map fun d => (.val d, so.set n (some (true, .lst (ds.eraseIdx k))))
      | none => none
      else none
    | _ => none
  | _, _, _ => none
theorem FzL.eraseIdx : ∀ {ds : List D} {vs : List V} (i : Nat), FzL T F H ds vs → FzL T F H (ds.eraseIdx i) (vs.eraseIdx i)
  | [], _, _, h => by unfold FzL at h; subst h; simp [FzL]
  | d :: ds, _, 0, h => by
    unfold FzL at h
    obtain ⟨v, r, e1, h1, h2⟩ := h
    subst e1
    exact h2
  | d :: ds, _, i + 1, h => by
    unfold FzL at h
    obtain ⟨v, r, e1, h1, h2⟩ := h
    subst e1
    show FzL T F H (d :: ds.eraseIdx i) (v :: r.eraseIdx i)
    unfold FzL
    exact ⟨_, _, rfl, h1, FzL.eraseIdx i h2⟩
theorem ok_pop : MtR X "list.pop" (rM C mPop) := by
  intro pins s σ H x xs v us Q I rx rxs ⟨β, sl, so, σ0, a, as, R, ra, ras, k⟩
  unfold mPop at k
  split at k
  · rename_i n i
    obtain ⟨y, rfl, rb⟩ := ras.one
    obtain rfl := R.int rb rfl
    split at k
    · rename_i ds q
      obtain ⟨p, xs, rfl, hp, eL, zL⟩ := R.liveLst ra rfl q
      split at k
      · rename_i hb
        split at k
        · rename_i j hj
          rcases e : ds[j]? with _ | d
          · rw [e] at k; exact k.elim
          · rw [e] at k
            obtain ⟨w, ew, zw⟩ := zL.get e
            obtain ⟨R2, S2⟩ := R.wrLst q hp (zL.eraseIdx j)
            refine mt_popAt pins s σ H _ _ v us Q I rx rxs ⟨p, xs, i, j, w, rfl, rfl, eL, hb.1, hb.2, by rw [← zL.length]; exact hj, ew, ?_⟩
            exact k β _ _ R2 S2 (Fz.step S2.toStep zw)
        · exact k.elim
      · exact k.elim
    · exact k.elim
  · exact k.elim
def mCount : OM
  | .val (.str a), [.val (.str b)], so => some (.val (.int (Txt.count a b)), so)
  | _, _, _ => none
theorem ok_count : MtR X "str.count" (rM C mCount) := by
  intro pins s σ H x xs v us Q I rx rxs ⟨β, sl, so, σ0, a, as, R, ra, ras, k⟩
  unfold mCount at k
  split at k
  · obtain ⟨y, rfl, rb⟩ := ras.one
    obtain rfl := R.str rb rfl
    obtain rfl := R.str ra rfl
    exact mt_count pins s σ H _ _ v us Q I rx rxs ⟨_, _, rfl, rfl, k.int R⟩
  · exact k.elim
def oBits : O1 | .val (.int i), so => some (.val (.int (Builtin.Int.intBits i : Nat)), so) | _, _ => none
theorem e_bits {o : Expr} {fo : EM DV} {apos pos : Pos} (ho : PE X o (rdE C W fo)) (hbase : attributeBase o "bit_length" X.env (eval o X.env) = eval o X.env) (hline : (apos.endLine == pos.line) = true) : PE X (.Call (.Attribute o "bit_length" apos) [] [] pos) (rdE C W (f1 oBits fo)) :=
  (pe_bits ho hbase hline).imp fun σ H Q ⟨β, sl, so, R, k⟩ => ⟨β, sl, so, R, (KR.bnd k).mono fun β1 so1 H1 a x ⟨R1, S1, ra, k1⟩ => by
    have k1 := KO.of k1
    unfold oBits at k1
    split at k1
    · obtain rfl := R1.int ra rfl
      exact ⟨_, rfl, k1.int R1⟩
    · exact k1.elim⟩
def oBin : O1 | .val (.int i), so => if (binText i).length ≤ sizeLine then some (.val (.str (binText i)), so) else none | _, _ => none
theorem pe_fmtB {e : Expr} {te : TE} {j : Nat} {p1 p2 pos : Pos} (he : PE X e te) : PE X (.FormattedValue e (-1) (some (.JoinedStr [.Constant (.str ⟨#[98]⟩) j p1] p2)) pos) (fun σ H Q => te σ H fun x H1 => ∃ i : Int, x = .int i ∧ (binText i).length ≤ sizeLine ∧ Q (.str (binText i)) H1) := by
  refine ⟨fun pins s σ H Q I h => ?_⟩
  refine wpAny_FormattedValue_spec (thn (he.run pins s σ H _ I h) fun v s1 ⟨x, H1, I1, r1, q1⟩ => ?_)
  obtain ⟨i, rfl, hz, q⟩ := q1
  obtain ⟨t, rfl⟩ := r1
  refine thn ((pe_joined1 (pe_str (X := X) (x := ⟨#[98]⟩) (j := j) (pos := p1))).run pins s1 σ H1 (fun y H2 => y = .str ⟨#[98]⟩ ∧ H2 = H1) I1 ⟨rfl, rfl⟩) fun r s2 ⟨y, H2, I2, r2, e1, e2⟩ => ?_
  subst e1 e2
  obtain ⟨u, rfl⟩ := r2
  refine ⟨_, u, rfl, PySem.W.KXf.field_int rfl (by decide) (by rw [show (⟨#[98]⟩ : PySem.Str).length = 1 from rfl]; simp only [sizeLine_eq]; omega) (fun w => meets_b i t w hz) fun t' k => ?_⟩
  exact ⟨.str (binText i), H2, I2.tok _, ⟨_, rfl⟩, q⟩
theorem e_fmtB {e : Expr} {fe : EM DV} {j : Nat} {p1 p2 p3 pos : Pos} (he : PE X e (rdE C W fe)) : PE X (.JoinedStr [.FormattedValue e (-1) (some (.JoinedStr [.Constant (.str ⟨#[98]⟩) j p1] p2)) pos] p3) (rdE C W (f1 oBin fe)) :=
  (pe_joined1 (pe_fmtB he)).imp fun σ H Q ⟨β, sl, so, R, k⟩ => ⟨β, sl, so, R, (KR.bnd k).mono fun β1 so1 H1 a x ⟨R1, S1, ra, k1⟩ => by
    have k1 := KO.of k1
    unfold oBin at k1
    split at k1
    · obtain rfl := R1.int ra rfl
      split at k1
      · rename_i hz
        exact ⟨_, rfl, hz, k1.str R1⟩
      · exact k1.elim
    · exact k1.elim⟩

def fPart : Option (EM DV) → EM (Option Int)
  | none => pur none
  | some f => bnd f fun a => match a with
    | .val (.int i) => pur (some i)
    | _ => fun _ _ => none
def RP : Rp (Option Int) (Option Int) := fun _ _ _ _ a b => a = b
abbrev rdO (C : Cn) (W : WX) (f : EM (Option Int)) : TO := fun σ H Q => rd C W RP f σ H Q
theorem _root_.L2.PO.imp {e : Option Expr} {t t' : TO} (h : PO X e t) (i : ∀ σ H Q, t' σ H Q → t σ H Q) : PO X e t' := ⟨fun pins s σ H Q I q => h.run pins s σ H Q I (i σ H Q q)⟩
theorem o_none : PO X none (rdO C W (fPart none)) := po_none.imp fun σ H Q ⟨β, sl, so, R, k⟩ => KR.pur (Ra := RP) R rfl k
theorem o_some {e : Expr} {fe : EM DV} (he : PE X e (rdE C W fe)) : PO X (some e) (rdO C W (fPart (some fe))) :=
  (po_some he).imp fun σ H Q ⟨β, sl, so, R, k⟩ => ⟨β, sl, so, R, (KR.bnd (Ra := RV) k).mono fun β1 so1 H1 a x ⟨R1, S1, ra, k1⟩ => by
    split at k1
    · obtain rfl := R1.int ra rfl
      exact ⟨_, rfl, KR.pur (Ra := RP) R1 rfl k1⟩
    · exact k1.elim⟩
def cutD (xs : List D) (lo hi : Option Int) : List D := (xs.drop (HT.sIx xs.length 0 lo)).take (HT.sIx xs.length xs.length hi - HT.sIx xs.length 0 lo)
theorem FzL.cut {ds : List D} {vs : List V} (h : FzL T F H ds vs) (lo hi : Option Int) : FzL T F H (cutD ds lo hi) (cutV vs lo hi) := by
  unfold cutD cutV
  rw [h.length]
  exact (h.drop _).take _
def slcL (a : DV) (lo hi : Option Int) (so : Store) : Option (DV × Store) := match rdv so a with
  | some (.lst ds) => some (.loc so.length, so ++ [some (true, .lst (cutD ds lo hi))])
  | _ => none
def fSl (fe : EM DV) (fl fh : EM (Option Int)) : EM DV := bnd fe fun a => bnd fl fun l => bnd fh fun h => lft (slcL a l h)
theorem e_slice {e : Expr} {lo hi : Option Expr} {fe : EM DV} {fl fh : EM (Option Int)} {p2 pos : Pos} (hK : X.K = C.T.K) (he : PE X e (rdE C W fe)) (hl : PO X lo (rdO C W fl)) (hu : PO X hi (rdO C W fh)) : PE X (.Subscript e (.Slice lo hi none p2) pos) (rdE C W (fSl fe fl fh)) :=
  (pe_slice sl_list he hl hu).imp fun σ H Q ⟨β, sl, so, R, k⟩ => ⟨β, sl, so, R, (KR.bnd k).mono fun β1 so1 H1 a x ⟨R1, S1, ra, k1⟩ =>
    ⟨β1, sl, so1, R1, (KR.bnd (Ra := RP) k1).mono fun β2 so2 H2 l l' ⟨R2, S2, rl, k2⟩ => by
      cases rl
      exact ⟨β2, sl, so2, R2, (KR.bnd (Ra := RP) k2).mono fun β3 so3 H3 h h' ⟨R3, S3, rh, k3⟩ => by
        cases rh
        have k4 := KO.of k3
        unfold slcL at k4
        split at k4
        · rename_i ds e
          obtain ⟨p, xs, rfl, s1, z1⟩ := R3.lst (RV.step S3 (RV.step S2 ra)) e
          exact ⟨p, xs, rfl, by rw [hK]; exact s1, k4.lst R3 (z1.cut _ _)⟩
        · exact k4.elim⟩⟩⟩

def setX (o i v : DV) : SM := fun sl so => (frz so v).bind fun (d, so1) => match o, i with
  | .loc n, .val (.int k) => match so1[n]? with
    | some (some (true, .lst ds)) => (ixN ds.length k).map fun j => (.nx, sl, (so1.set n (some (true, .lst (ds.set j d)))).take sl.length)
    | _ => none
  | _, _ => none
def sSetX (fe fo fi : EM DV) : SM := bnS fe fun v => bnS fo fun o => bnS fi fun i => setX o i v
theorem to_setX {fe fo fi : EM DV} {D : Ends} (q : rdS C W (sSetX fe fo fi) D σ H) : tAsg (rdE C W fe) (gSub (rdE C W fo) (rdE C W fi) rSetL) D σ H := by
  obtain ⟨β, sl, so, R, k⟩ := q
  refine ⟨β, sl, so, R, (KS.bnS (Ra := RV) R k).mono fun β1 so1 H1 v x ⟨R1, S1, rv, k1⟩ => ?_⟩
  refine ⟨β1, sl, so1, R1, (KS.bnS (Ra := RV) R1 k1).mono fun β2 so2 H2 o y ⟨R2, S2, ro, k2⟩ => ?_⟩
  refine ⟨β2, sl, so2, R2, (KS.bnS (Ra := RV) R2 k2).mono fun β3 so3 H3 i z ⟨R3, S3, ri, k3⟩ => ?_⟩
  have rv := RV.step S3 (RV.step S2 rv)
  have ro := RV.step S3 ro
  unfold setX at k3
  rcases e : frz so3 v with _ | ⟨d, so4⟩
  · rw [e] at k3; exact k3.elim
  · rw [e] at k3
    obtain ⟨R4, S4, zd⟩ := R3.frz rv e
    dsimp only [Option.bind_some] at k3
    split at k3
    · rename_i n k _ _ _
      obtain rfl := R3.int ri rfl
      split at k3
      · rename_i ds q
        obtain ⟨p, xs, rfl, hp, eL, zL⟩ := R4.liveLst (RV.step S4 ro) rfl q
        rcases ej : ixN ds.length k with _ | j
        · rw [ej] at k3; exact k3.elim
        · rw [ej] at k3
          obtain ⟨R5, S5⟩ := R4.wrLst q hp (zL.set j zd)
          refine ⟨p, xs, k, j, rfl, rfl, eL, by rw [← zL.length]; exact ej, ?_⟩
          exact k3 _ σ _ (R5.cut (n := sl.length) (Nat.le_refl _)) ((S4.toStep.trans S5.toStep).trans Step.cut)
      · exact k3.elim
    · exact k3.elim
end
end BT
end

section
set_option maxRecDepth 100000
namespace BT
open PySem L2 PySem.Spec PyProof.Rows

inductive Ar where
  | v (d : D)
  | m (d : D)
inductive Rs where
  | val (d : D)
  | new (d : D)
  | arg (j : Nat)
abbrev FR := Out Rs × List (Option (Bool × D))
abbrev Fn := List Ar → Option FR

def ArOk (T : Tx) (F : Addr → Prop) (H : Hp) : Ar → Option Addr → V → Prop
  | .v d, ao, v => ao = none ∧ Fz T F H d v
  | .m d, ao, v => ∃ a, ao = some a ∧ v = .ref a ∧ Rt T F H a d
structure ArgsOk (T : Tx) (F : Addr → Prop) (H : Hp) (ars : List Ar) (as : List (Option Addr)) (vs : List V) : Prop where
  la : as.length = ars.length
  lv : vs.length = ars.length
  at_ : ∀ (i : Nat) (ar : Ar), ars[i]? = some ar → ∃ ao v, as[i]? = some ao ∧ vs[i]? = some v ∧ ArOk T F H ar ao v
  dist : ∀ (i j : Nat) (a : Addr), as[i]? = some (some a) → as[j]? = some (some a) → i = j

structure Frm (Fb : Addr → Prop) (as : List (Option Addr)) (H : Hp) (F' : Addr → Prop) (H' : Hp) : Prop where
  keep : ∀ a o, H a = some o → some a ∉ as → H' a = some o
  stay : ∀ a o, H a = some o → ∃ o', H' a = some o'
  up : ∀ a, Fb a → F' a
def FinOk (T : Tx) (F' : Addr → Prop) (H' : Hp) (as : List (Option Addr)) (fs : List (Option (Bool × D))) : Prop :=
  ∀ (i : Nat) (a : Addr), as[i]? = some (some a) → ∃ b d, fs[i]? = some (some (b, d)) ∧ (b = true → F' a ∧ Rt T F' H' a d) ∧ (b = false → Fz T F' H' d (.ref a))
def RsOk (T : Tx) (H : Hp) (as : List (Option Addr)) (F' : Addr → Prop) (H' : Hp) : Rs → V → Prop
  | .val d, v => Fz T F' H' d v
  | .new d, v => ∃ a, v = .ref a ∧ H a = none ∧ F' a ∧ Rt T F' H' a d
  | .arg j, v => ∃ a, as[j]? = some (some a) ∧ v = .ref a
def Post (T : Tx) (Fb : Addr → Prop) (as : List (Option Addr)) (H : Hp) (Q : VK) (E : XK) : Option FR → Prop
  | none => False
  | some (.ok r, fs) => ∀ F' H' v, Frm Fb as H F' H' → FinOk T F' H' as fs → RsOk T H as F' H' r v → Q v H'
  | some (.exc c d, fs) => ∀ F' H', Frm Fb as H F' H' → FinOk T F' H' as fs → ∀ dx v, H' dx = some (.xd [("what", v)]) → Fz T F' H' d v → E (.ref (T.cl c)) (some dx) H'
def spF (T : Tx) (np : Nat) (run : Fn) : Sp := fun vs H Q E => vs.length = np ∧ ∃ (Fb : Addr → Prop) (ars : List Ar) (as : List (Option Addr)),
  ArgsOk T (fun a => Fb a ∨ some a ∈ as) H ars as vs ∧ (∀ a, Fb a → (∃ o, H a = some o) ∧ some a ∉ as) ∧ Post T Fb as H Q E (run ars)

def arS (i : Nat) : Ar → Option DV
  | .v d => some (.val d)
  | .m _ => some (.loc i)
def arO : Ar → Option (Bool × D)
  | .v _ => none
  | .m d => some (true, d)
def slS : Nat → List Ar → Slots
  | _, [] => []
  | i, a :: r => arS i a :: slS (i + 1) r
def sl0 (n : Nat) (ars : List Ar) : Slots := slS 0 ars ++ List.replicate (n - ars.length) none
def so0 (n : Nat) (ars : List Ar) : Store := ars.map arO ++ List.replicate (n - ars.length) none
def fins (so : Store) : Nat → List Ar → Option (List (Option (Bool × D)))
  | _, [] => some []
  | i, .v _ :: r => (fins so (i + 1) r).map fun l => none :: l
  | i, .m _ :: r => match so[i]? with
    | some (some e) => (fins so (i + 1) r).map fun l => some e :: l
    | _ => none
def isM : Option Ar → Bool
  | some (.m _) => true
  | _ => false
def outF (ars : List Ar) (so : Store) : Fl → Option (Out Rs)
  | .nx => some (.ok (.val .non))
  | .rt (.val d) => some (.ok (.val d))
  | .rt (.loc n) => if isM ars[n]? = true then some (.ok (.arg n)) else match so[n]? with
    | some (some (true, d)) => some (.ok (.new d))
    | some (some (false, d)) => some (.ok (.val d))
    | _ => none
  | .exc c d => some (.exc c d)
  | _ => none
def msOk : List Bool → List Ar → Bool
  | _, [] => true
  | ms, .m _ :: r => ms.headD false && msOk ms.tail r
  | ms, .v _ :: r => msOk ms.tail r
def runF (ms : List Bool) (n : Nat) (f : SM) : Fn := fun ars => if ars.length = ms.length ∧ msOk ms ars = true then match f (sl0 n ars) (so0 n ars) with
  | none => none
  | some (fl, _, so') => match fins so' 0 ars, outF ars so' fl with
    | some fs, some r => some (r, fs)
    | _, _ => none
  else none

theorem msOk_get : ∀ {ars : List Ar} {ms : List Bool} {i : Nat} {d : D}, msOk ms ars = true → ars[i]? = some (.m d) → ms[i]? = some true
  | [], _, _, _, _, h => by simp at h
  | .v _ :: r, ms, 0, d, o, h => by simp at h
  | .v _ :: r, ms, i + 1, d, o, h => by
    have q := msOk_get (ms := ms.tail) (i := i) (show msOk ms.tail r = true from o) (by simpa using h)
    cases ms with
    | nil => simp at q
    | cons b ms => simpa using q
  | .m _ :: r, ms, 0, d, o, h => by
    unfold msOk at o
    rw [Bool.and_eq_true] at o
    cases ms with
    | nil => cases o.1
    | cons b ms => have := o.1; simp at this; simp [this]
  | .m _ :: r, ms, i + 1, d, o, h => by
    unfold msOk at o
    rw [Bool.and_eq_true] at o
    have q := msOk_get (ms := ms.tail) (i := i) o.2 (by simpa using h)
    cases ms with
    | nil => simp at q
    | cons b ms => simpa using q
theorem slS_get : ∀ {ars : List Ar} {j i : Nat}, (slS j ars)[i]? = (ars[i]?).map (arS (j + i))
  | [], j, i => by simp [slS]
  | a :: r, j, 0 => by simp [slS]
  | a :: r, j, i + 1 => by simp [slS, slS_get (ars := r), show j + 1 + i = j + (i + 1) by omega]
theorem slS_length : ∀ {ars : List Ar} {j : Nat}, (slS j ars).length = ars.length
  | [], _ => rfl
  | a :: r, j => by simp [slS, slS_length (ars := r)]
theorem pad_get {α : Type} {l : List (Option α)} {k i : Nat} {x : α} (h : (l ++ List.replicate k none)[i]? = some (some x)) : l[i]? = some (some x) := by
  by_cases hi : i < l.length
  · rwa [List.getElem?_append_left hi] at h
  · rw [List.getElem?_append_right (by omega), List.getElem?_replicate] at h
    split at h <;> cases h
theorem fins_get : ∀ {ars : List Ar} {so : Store} {j i : Nat} {fs : List (Option (Bool × D))} {d : D}, fins so j ars = some fs → ars[i]? = some (.m d) → ∃ e, so[j + i]? = some (some e) ∧ fs[i]? = some (some e)
  | [], _, _, _, _, _, _, h => by simp at h
  | .v _ :: r, so, j, 0, fs, d, e, h => by simp at h
  | .v _ :: r, so, j, i + 1, fs, d, e, h => by
    unfold fins at e
    obtain ⟨l, e1, rfl⟩ := Option.map_eq_some_iff.mp e
    obtain ⟨x, h1, h2⟩ := fins_get (i := i) e1 (by simpa using h)
    exact ⟨x, by rw [show j + (i + 1) = j + 1 + i by omega]; exact h1, by simpa using h2⟩
  | .m _ :: r, so, j, 0, fs, d, e, h => by
    unfold fins at e
    split at e
    · rename_i x q
      obtain ⟨l, e1, rfl⟩ := Option.map_eq_some_iff.mp e
      exact ⟨x, by simpa using q, by simp⟩
    · cases e
  | .m _ :: r, so, j, i + 1, fs, d, e, h => by
    unfold fins at e
    split at e
    · rename_i x q
      obtain ⟨l, e1, rfl⟩ := Option.map_eq_some_iff.mp e
      obtain ⟨y, h1, h2⟩ := fins_get (i := i) e1 (by simpa using h)
      exact ⟨y, by rw [show j + (i + 1) = j + 1 + i by omega]; exact h1, by simpa using h2⟩
    · cases e

section
variable {T : Tx} {Fb : Addr → Prop} {H : Hp} {ars : List Ar} {as : List (Option Addr)} {vs : List V}
theorem ArgsOk.m_of (G : ArgsOk T (fun a => Fb a ∨ some a ∈ as) H ars as vs) {i : Nat} {a : Addr} (h : as[i]? = some (some a)) : ∃ d, ars[i]? = some (.m d) ∧ vs[i]? = some (.ref a) ∧ Rt T (fun a => Fb a ∨ some a ∈ as) H a d := by
  have hi : i < ars.length := by have := (List.getElem?_eq_some_iff.mp h).1; rw [← G.la]; exact this
  obtain ⟨ao, v, e1, e2, r⟩ := G.at_ i _ (List.getElem?_eq_getElem hi)
  rw [h] at e1
  cases e1
  cases q : ars[i] with
  | v d => rw [q] at r; exact nomatch r.1
  | m d =>
    rw [q] at r
    obtain ⟨a', e3, rfl, rt⟩ := r
    cases e3
    exact ⟨d, by rw [List.getElem?_eq_getElem hi, q], e2, rt⟩
theorem ArgsOk.m_to (G : ArgsOk T (fun a => Fb a ∨ some a ∈ as) H ars as vs) {i : Nat} {d : D} (h : ars[i]? = some (.m d)) : ∃ a, as[i]? = some (some a) ∧ vs[i]? = some (.ref a) ∧ Rt T (fun a => Fb a ∨ some a ∈ as) H a d := by
  obtain ⟨ao, v, e1, e2, a, rfl, rfl, rt⟩ := G.at_ i _ h
  exact ⟨a, e1, e2, rt⟩
def cnF (T : Tx) (Fb : Addr → Prop) (as : List (Option Addr)) (H : Hp) : Cn := ⟨T, Fb, as, H⟩
def β0 (n : Nat) (as : List (Option Addr)) : List Addr := as.map (·.getD 0) ++ List.replicate (n - as.length) 0
theorem so0_get {n i : Nat} {e : Bool × D} (h : (so0 n ars)[i]? = some (some e)) : ∃ d, ars[i]? = some (.m d) ∧ e = (true, d) := by
  have h := pad_get h
  rw [List.getElem?_map] at h
  obtain ⟨a, e1, e2⟩ := Option.map_eq_some_iff.mp h
  cases a with
  | v d => cases e2
  | m d => cases e2; exact ⟨d, e1, rfl⟩
theorem so0_m {n i : Nat} {d : D} (h : ars[i]? = some (.m d)) : (so0 n ars)[i]? = some (some (true, d)) := by
  unfold so0
  have := (List.getElem?_eq_some_iff.mp h).1
  rw [List.getElem?_append_left (by simpa using this), List.getElem?_map, h]
  rfl
theorem β0_get {n i : Nat} {a : Addr} (h : as[i]? = some (some a)) : (β0 n as)[i]? = some a := by
  unfold β0
  have := (List.getElem?_eq_some_iff.mp h).1
  rw [List.getElem?_append_left (by simpa using this), List.getElem?_map, h]
  rfl
theorem β0_of (G : ArgsOk T (fun a => Fb a ∨ some a ∈ as) H ars as vs) {n i : Nat} {d : D} {a : Addr} (h : ars[i]? = some (.m d)) (e : (β0 n as)[i]? = some a) : as[i]? = some (some a) := by
  obtain ⟨a', e1, _, _⟩ := G.m_to h
  rw [β0_get e1] at e
  cases e
  exact e1
theorem lv0 (G : ArgsOk T (fun a => Fb a ∨ some a ∈ as) H ars as vs) {n : Nat} {a : Addr} : Lv (β0 n as) (so0 n ars) a ↔ some a ∈ as := by
  constructor
  · rintro ⟨i, d, h1, h2⟩
    obtain ⟨d', e1, _⟩ := so0_get h1
    exact List.mem_of_getElem? (β0_of G e1 h2)
  · intro h
    obtain ⟨i, hi, e⟩ := List.mem_iff_getElem.mp h
    have e : as[i]? = some (some a) := by rw [List.getElem?_eq_getElem hi, e]
    obtain ⟨d, e1, _, _⟩ := G.m_of e
    exact ⟨i, d, so0_m e1, β0_get e⟩
theorem Rt.iff {F F' : Addr → Prop} {a : Addr} {d : D} (f : ∀ a, F' a ↔ F a) (h : Rt T F H a d) : Rt T F' H a d := h.mono (fun _ _ e _ => e) (fun a o _ z => (f a).mp z) rfl
theorem Fz.iff {F F' : Addr → Prop} {v : V} {d : D} (f : ∀ a, F' a ↔ F a) (h : Fz T F H d v) : Fz T F' H d v := h.mono (fun _ _ e _ => e) (fun a o _ z => (f a).mp z)
theorem Rel.start {n : Nat} {N : List PySem.Str} (hn : N.length = n) (hv : ars.length ≤ n) (G : ArgsOk T (fun a => Fb a ∨ some a ∈ as) H ars as vs) (fb : ∀ a, Fb a → (∃ o, H a = some o) ∧ some a ∉ as) :
    Rel (cnF T Fb as H) (β0 n as) (sl0 n ars) (so0 n ars) (start N vs) H := by
  have av : ∀ a, (cnF T Fb as H).F (β0 n as) (so0 n ars) a ↔ (Fb a ∨ some a ∈ as) := fun a => by
    show (Fb a ∨ Lv _ _ a) ↔ _
    rw [lv0 G]
  have ll := G.la
  have lv := G.lv
  refine ⟨by simp [β0, so0, ll], by simp [sl0, so0, slS_length], by simp [L2.start, sl0, slS_length, hn, lv], fun i a h => ?_, fun i j h => ?_, fun i dv h => ?_, fun i d a h1 h2 => ?_, fun i d a h1 h2 => ?_, fun i j d e a h1 h2 h3 h4 => ?_, fun i e a h1 h2 => ?_, fun a o h _ => h, fun i e a h1 h2 => ?_, fb⟩
  · obtain ⟨d, e1, _, _⟩ := G.m_of h
    have := (List.getElem?_eq_some_iff.mp e1).1
    exact ⟨by simp [sl0, slS_length]; omega, β0_get h, _, so0_m e1⟩
  · have h := pad_get h
    rw [slS_get] at h
    obtain ⟨ar, e1, e2⟩ := Option.map_eq_some_iff.mp h
    cases ar with
    | v d => cases e2
    | m d => cases e2; exact ⟨by omega, _, so0_m e1⟩
  · have h := pad_get h
    rw [slS_get] at h
    obtain ⟨ar, e1, e2⟩ := Option.map_eq_some_iff.mp h
    obtain ⟨ao, v, e3, e4, r⟩ := G.at_ i ar e1
    have hi := (List.getElem?_eq_some_iff.mp e4).1
    refine ⟨v, ?_, ?_⟩
    · unfold L2.start
      rw [List.getElem?_append_left (by simpa using hi), List.getElem?_map, e4]
      rfl
    · cases ar with
      | v d => cases e2; exact Fz.iff av r.2
      | m d =>
        cases e2
        obtain ⟨a, rfl, rfl, _⟩ := r
        exact ⟨a, by rw [show 0 + i = i by omega]; exact β0_get e3, rfl⟩
  · obtain ⟨d', e1, e2⟩ := so0_get h1
    cases e2
    obtain ⟨a', e3, _, rt⟩ := G.m_to e1
    rw [β0_get e3] at h2
    cases h2
    exact Rt.iff av rt
  · obtain ⟨d', e1, e2⟩ := so0_get h1
    cases e2
  · obtain ⟨d1, e1, _⟩ := so0_get h1
    obtain ⟨d2, e2, _⟩ := so0_get h2
    exact G.dist i j a (β0_of G e1 h3) (β0_of G e2 h4)
  · obtain ⟨d1, e1, _⟩ := so0_get h1
    obtain ⟨a', e3, _, rt⟩ := G.m_to e1
    rw [β0_get e3] at h2
    cases h2
    exact rt.tracked
  · obtain ⟨d1, e1, _⟩ := so0_get h1
    exact .inl (β0_of G e1 h2)

theorem frm_of {C : Cn} {β β' : List Addr} {sl' : Slots} {so so' : Store} {σ' : L2.St} {H' : Hp} (hC : C = cnF T Fb as H) (R' : Rel C β' sl' so' σ' H') (S : Step β so H β' so' H') (lv : ∀ a, Lv β so a ↔ some a ∈ as) : Frm Fb as H (C.F β' so') H' := by
  subst hC
  exact ⟨fun a o h n => S.keep a o h fun z => n ((lv a).mp z), S.stay, fun a h => .inl h⟩
theorem fin_of' {C : Cn} {β' : List Addr} {sl' : Slots} {so' : Store} {σ' : L2.St} {H' : Hp} {fs : List (Option (Bool × D))} (hC : C = cnF T Fb as H) (R' : Rel C β' sl' so' σ' H') (G : ArgsOk T (fun a => Fb a ∨ some a ∈ as) H ars as vs) (hf : fins so' 0 ars = some fs) : FinOk T (C.F β' so') H' as fs := by
  subst hC
  intro i a h
  obtain ⟨d, e1, _, _⟩ := G.m_of h
  obtain ⟨⟨b, d'⟩, e2, e3⟩ := fins_get hf e1
  rw [Nat.zero_add] at e2
  obtain ⟨_, e4, _⟩ := R'.bor i a h
  refine ⟨b, d', e3, fun hb => ?_, fun hb => ?_⟩
  · subst hb; exact ⟨.inr ⟨i, d', e2, e4⟩, R'.live i d' a e2 e4⟩
  · subst hb; exact R'.froz i d' a e2 e4
theorem body_end {n : Nat} {ms : List Bool} {N : List PySem.Str} {f : SM} {Q : VK} {E : XK} (hn : N.length = n) (hnp : ms.length ≤ n) (G : ArgsOk T (fun a => Fb a ∨ some a ∈ as) H ars as vs) (fb : ∀ a, Fb a → (∃ o, H a = some o) ∧ some a ∉ as)
    (p : Post T Fb as H Q E (runF ms n f ars)) : rdS (cnF T Fb as H) (fun cls d _ H' => E cls d H') f { nx := fun _ H' => Q .non H', rt := Q } (start N vs) H := by
  unfold runF at p
  split at p
  · rename_i hl
    have R := Rel.start hn (by have := hl.1; omega) G fb
    refine ⟨_, _, _, R, ?_⟩
    rcases e : f (sl0 n ars) (so0 n ars) with _ | ⟨fl, sl', so'⟩
    · rw [e] at p; exact p.elim
    · rw [e] at p
      have p : Post T Fb as H Q E (match fins so' 0 ars, outF ars so' fl with
        | some fs, some r => some (r, fs)
        | _, _ => none) := p
      split at p
      · rename_i fs r hf ho
        have fo : ∀ {β' : List Addr} {σ' : L2.St} {H' : Hp}, Rel (cnF T Fb as H) β' sl' so' σ' H' → Step (β0 n as) (so0 n ars) H β' so' H' → Frm Fb as H ((cnF T Fb as H).F β' so') H' ∧ FinOk T ((cnF T Fb as H).F β' so') H' as fs :=
          fun R' S => ⟨frm_of rfl R' S fun a => lv0 G, fin_of' rfl R' G hf⟩
        cases fl with
        | nx =>
          cases ho
          exact fun β' σ' H' R' S => p _ H' .non (fo R' S).1 (fo R' S).2 (by show Fz _ _ _ _ _; unfold Fz; rfl)
        | bk => cases ho
        | ct => cases ho
        | exc c d =>
          cases ho
          exact fun β' σ' H' R' S dx v h1 h2 => p _ H' (fo R' S).1 (fo R' S).2 dx v h1 h2
        | rt dv =>
          cases dv with
          | val d =>
            cases ho
            exact fun β' σ' H' v R' S q => p _ H' v (fo R' S).1 (fo R' S).2 q
          | loc m =>
            have ho : (if isM ars[m]? = true then some (Out.ok (Rs.arg m)) else match so'[m]? with
              | some (some (true, d)) => some (.ok (.new d))
              | some (some (false, d)) => some (.ok (.val d))
              | _ => none) = some r := ho
            intro β' σ' H' v R' S q
            obtain ⟨a, ha, rfl⟩ := q
            split at ho
            · rename_i hm
              cases ho
              refine p _ H' (.ref a) (fo R' S).1 (fo R' S).2 ?_
              unfold isM at hm
              split at hm
              · rename_i d q
                obtain ⟨a', e1, _, _⟩ := G.m_to q
                obtain ⟨_, e2, _⟩ := R'.bor m a' e1
                rw [ha] at e2
                cases e2
                exact ⟨a, e1, rfl⟩
              · cases hm
            · rename_i hm
              split at ho
              · rename_i d q
                cases ho
                refine p _ H' (.ref a) (fo R' S).1 (fo R' S).2 ⟨a, rfl, ?_, .inr ⟨m, d, q, ha⟩, R'.live m d a q ha⟩
                rcases R'.fresh m _ a q ha with z | z
                · obtain ⟨d', e1, _, _⟩ := G.m_of z
                  rw [e1] at hm
                  exact absurd rfl hm
                · exact z
              · rename_i d q
                cases ho
                exact p _ H' (.ref a) (fo R' S).1 (fo R' S).2 (R'.froz m d a q ha)
              · cases ho
      · exact p.elim
  · exact p.elim
end

structure RoomG (k : Nat) (A : Around) : Prop where
  room : Room k A
  gd : A.guards = some []
theorem RoomG.mono {j k : Nat} {A : Around} (r : RoomG k A) (h : j ≤ k) : RoomG j A := ⟨r.room.mono h, r.gd⟩
theorem RoomG.deeper {k : Nat} {A : Around} (r : RoomG (k + 1) A) (env : Env) : RoomG k (A.deeper env) := ⟨r.room.deeper env, r.gd⟩
structure FnG (P : Program) (w : World) (K : PySem.W.Frag) (mg : PySem.Str → Option Value) (base : Heap) (k : Nat) (f : Addr) (fd : FuncData) (ps : List PySem.Str) (sp : Sp) : Prop where
  len : ∀ vs H Q E, sp vs H Q E → vs.length = ps.length
  run : ∀ (A : Around) (outer : List Env) (s : Shared) (H : Hp) (args : Args) (us : List Value) (vs : List V) (Q : VK) (E : XK), RoomG k A → Env0 P w K mg base A outer s H → BindsTo s fd args (ps.zip us) → Vals vs us → sp vs H Q E →
    codeAny (model P w) A (.call (.ref f) args) (CR (L2.CX P w) outer P w H s Q E) s
theorem fng_of {P : Program} {w : World} {K : PySem.W.Frag} {mg : PySem.Str → Option Value} {base : Heap} {k : Nat} {f : Addr} {name qual : PySem.Str} {params : Arguments} {body : List Stmt} {scope : Scope} {dV kV doc pm cdv ct oc : Value} {an od : Option Addr}
    {osl : Array (Option Value)} {N ps : List PySem.Str} {sp : Sp} (lk : K.lookup f = some ⟨oc, od, .func (PySem.W.fnOf name qual params body scope dV kV doc pm an cdv ct), osl⟩) (hcd : PySem.W.codeIn K cdv qual = true) (S : FnScope N ps scope)
    (len : ∀ vs H Q E, sp vs H Q E → vs.length = ps.length)
    (hbody : ∀ (A : Around) (outer : List Env) (s : Shared) (H : Hp) (vs : List V) (Q : VK) (E : XK), RoomG k (A.deeper (envOfC qual scope s.heap.objs.size f cdv)) → sp vs H Q E →
      ∃ t, PSs (cxOf (L2.CX P w) P w K mg base N qual scope f cdv A outer s H E) body t ∧ t { nx := fun _ H' => Q .non H', rt := Q } (start N vs) H) :
    FnG P w K mg base (k + 1) f (PySem.W.fnOf name qual params body scope dV kV doc pm an cdv ct) ps sp := by
  refine ⟨len, fun A outer s H args us vs Q E hr e0 hb r hsp => ?_⟩
  have hl := len _ _ _ _ hsp
  have KX : K.In s.heap := e0.mod.kin.keeps fun b o e => (e0.bs b o e).1
  have lim : s.heap.NoLimit := e0.mod.nolimit.keeps fun b o e => (e0.bs b o e).1
  have hkind : ∀ y ∈ ps.zip us, scope.names.lookup y.1 = some .local ∨ (scope.names.lookup y.1 = some .cell ∧ ((cellsFrom (s.heap.objs.size + 1) scope.names []).lookup y.1).isSome = true) := by
    rintro ⟨n, v⟩ hy
    cases S.par n (List.of_mem_zip hy).1 with
    | inl q => exact .inl q
    | inr q => exact .inr ⟨q, PySem.W.cellsFrom_some _ _ _ (.inl q)⟩
  refine codeAny_call_function hr.room.depth (KX _ _ lk) rfl S.co S.gen rfl (PySem.W.codeRec_of KX hcd) (hb _ _ _ _ ?_)
  refine wpAny_newFunctionEnv_cells S.kind hkind fun env he s1 x => ?_
  subst he
  refine ⟨lim.keeps x.toInCall.keep, codeAny_func ?_⟩
  obtain ⟨t, ht, hq⟩ := hbody A outer s H vs Q E (hr.deeper _) hsp
  have I := inv_start (CX := L2.CX P w) (P := P) (w := w) (qual := qual) (f := f) (cd := cdv) (E := E) S hr.room.hd e0 hl r x
  refine wpAny_mono (ht.run [] s1 (start N vs) H _ I hq) (fun fl s' hs => ?_) fun e s' hs => hs
  cases fl with
  | ret u =>
    obtain ⟨v, σ', H', J, rv, q⟩ := hs
    exact ⟨v, H', J.os, J.bare, J.base, J.hok, rv, q⟩
  | next =>
    obtain ⟨σ', H', J, q⟩ := hs
    exact ⟨V.non, H', J.os, J.bare, J.base, J.hok, rfl, q⟩
  | brk => exact hs.choose_spec.choose_spec.2.elim
  | cont => exact hs.choose_spec.choose_spec.2.elim
theorem Fun.okG {P : Program} {w : World} {K : PySem.W.Frag} {mg : PySem.Str → Option Value} {base : Heap} {T : Tx} {x qual : PySem.Str} {st : Stmt} {f : Addr} {fd : FuncData} {N ps : List PySem.Str} {k : Nat} {ms : List Bool} {g : SM} (F : Fun K x qual st f fd) (S : FnScope N ps (defScope st)) (hp : ps.length = ms.length)
    (hbody : ∀ (cdv : Value) (A : Around) (outer : List Env) (s : Shared) (H : Hp) (E : XK) (C : Cn), C.T = T → (∀ (i : Nat) (a : Addr), C.B[i]? = some (some a) → ms[i]? = some true) → RoomG k (A.deeper (envOfC qual (defScope st) s.heap.objs.size f cdv)) →
      PSs (cxOf (L2.CX P w) P w K mg base N qual (defScope st) f cdv A outer s H E) (defBody st) (rdS C (fun cls d _ H' => E cls d H') g)) : FnG P w K mg base (k + 1) f fd ps (spF T ms.length (runF ms N.length g)) := by
  obtain ⟨oc, od, kV, doc, pm, an, cdv, ct, osl, rfl, lk, hcd⟩ := F.ex
  have hpl : ps.length ≤ N.length := by have := congrArg List.length S.pre; rw [List.length_take] at this; omega
  refine fng_of lk hcd S (fun vs H Q E h => by rw [h.1, hp]) fun A outer s H vs Q E hr hsp => ?_
  obtain ⟨hl, Fb, ars, as, G, fb, p⟩ := hsp
  by_cases hc : ars.length = ms.length ∧ msOk ms ars = true
  · refine ⟨_, hbody cdv A outer s H E (cnF T Fb as H) rfl (fun i a h => ?_) hr, body_end rfl (by omega) G fb p⟩
    obtain ⟨d, e, _⟩ := G.m_of h
    exact msOk_get hc.2 e
  · unfold runF at p
    rw [if_neg hc] at p
    exact p.elim
end BT
end

section
set_option maxRecDepth 100000
namespace BT
open PySem L2 PySem.Spec

def liveAt (so : Store) : DV → Option (Nat × D)
  | .loc n => match so[n]? with
    | some (some (true, d)) => some (n, d)
    | _ => none
  | .val _ => none
def mkAr (flat md : Bool) (so : Store) (a : DV) : Option (Ar × Option Nat) := match liveAt so a with
  | some (n, d) => if md = true then some (.m d, some n) else if flat = true then some (.v d, none) else none
  | none => (rdv so a).map fun d => (.v d, none)
def mkArs (flat : Bool) (so : Store) : List Bool → List DV → Option (List (Ar × Option Nat))
  | _, [] => some []
  | ms, a :: as => (mkAr flat (ms.headD false) so a).bind fun p => (mkArs flat so ms.tail as).map fun r => p :: r
def frzN : List Bool → Store → List DV → Option Store
  | _, so, [] => some so
  | ms, so, a :: as => if ms.headD false = true then frzN ms.tail so as else (frz so a).bind fun p => frzN ms.tail p.2 as
def lives (so : Store) (as : List DV) : List Nat := as.filterMap fun a => (liveAt so a).map (·.1)
def pureT : D → Bool
  | .tup ds => pureTs ds
  | .lst _ => false
  | .dct _ _ => false
  | .obj _ _ _ => false
  | _ => true
where pureTs : List D → Bool
  | [] => true
  | d :: ds => pureT d && pureTs ds
def pureI : D → Bool
  | .lst ds => pureT.pureTs ds
  | .dct _ ds => pureT.pureTs ds
  | .obj _ _ ds => pureT.pureTs ds
  | _ => false
def okFs : List (Option (Bool × D)) → Bool
  | [] => true
  | none :: r => okFs r
  | some (b, d) :: r => b && pureI d && okFs r
def okR : Out Rs → Bool
  | .ok (.val d) => pureT d
  | .ok (.new d) => pureI d
  | .ok (.arg _) => true
  | .exc _ d => pureT d
def putFs (so : Store) : List (Option Nat) → List (Option (Bool × D)) → Store
  | some n :: ns, some e :: fs => putFs (so.set n (some e)) ns fs
  | none :: ns, _ :: fs => putFs so ns fs
  | some _ :: ns, none :: fs => putFs so ns fs
  | _, _ => so
def endC (ns : List (Option Nat)) (so : Store) : Out Rs → Option (Out DV × Store)
  | .ok (.val d) => some (.ok (.val d), so)
  | .ok (.new d) => some (.ok (.loc so.length), so ++ [some (true, d)])
  | .ok (.arg j) => match ns[j]? with
    | some (some n) => some (.ok (.loc n), so)
    | _ => none
  | .exc c d => some (.exc c d, so)
def callO (run : Fn) (ms : List Bool) (flat : Bool) (as : List DV) (so : Store) : Option (Out DV × Store) :=
  (if flat = true then some so else frzN ms so as).bind fun so1 => (mkArs flat so1 ms as).bind fun l =>
    if (lives so1 as).Nodup then (run (l.map (·.1))).bind fun r => if flat = true → (okR r.1 && okFs r.2) = true then endC (l.map (·.2)) (putFs so1 (l.map (·.2)) r.2) r.1 else none
    else none
def fCall (run : Fn) (ms : List Bool) (flat : Bool) (fa : EM (List DV)) : EM DV := bnd fa fun as _ so => callO run ms flat as so

section
variable {C : Cn} {W : WX} {β β' : List Addr} {sl sl' : Slots} {so so' so1 : Store} {σ σ' : L2.St} {H H' : Hp} {T : Tx} {F F' : Addr → Prop}
theorem liveAt_of {a : DV} {n : Nat} {d : D} (h : liveAt so a = some (n, d)) : a = .loc n ∧ so[n]? = some (some (true, d)) := by
  unfold liveAt at h
  split at h
  · split at h
    · rename_i q
      cases h; exact ⟨rfl, q⟩
    · cases h
  · cases h
theorem mkArs_get {flat : Bool} : ∀ {as : List DV} {ms : List Bool} {l : List (Ar × Option Nat)}, mkArs flat so ms as = some l → l.length = as.length ∧ ∀ (i : Nat) (a : DV), as[i]? = some a → ∃ p md, l[i]? = some p ∧ mkAr flat md so a = some p
  | [], ms, l, h => by cases h; exact ⟨rfl, fun i a e => by simp at e⟩
  | a :: as, ms, l, h => by
    unfold mkArs at h
    obtain ⟨p, e1, e2⟩ := Option.bind_eq_some_iff.mp h
    obtain ⟨r, e3, rfl⟩ := Option.map_eq_some_iff.mp e2
    obtain ⟨i1, i2⟩ := mkArs_get e3
    refine ⟨by simp [i1], fun i b e => ?_⟩
    cases i with
    | zero => simp at e; subst e; exact ⟨p, _, rfl, e1⟩
    | succ i =>
      obtain ⟨q, md, e4, e5⟩ := i2 i b (by simpa using e)
      exact ⟨q, md, by simpa using e4, e5⟩
theorem filterMap_pos {α γ : Type} {f : α → Option γ} : ∀ {l : List α} {i j : Nat} {x y : α} {n : γ}, (l.filterMap f).Nodup → l[i]? = some x → l[j]? = some y → f x = some n → f y = some n → i = j
  | [], i, _, _, _, _, _, h, _, _, _ => by simp at h
  | a :: l, 0, 0, _, _, _, _, _, _, _, _ => rfl
  | a :: l, 0, j + 1, x, y, n, nd, h1, h2, e1, e2 => by
    simp at h1; subst h1
    rw [List.filterMap_cons_some e1, List.nodup_cons] at nd
    exact absurd (List.mem_filterMap.mpr ⟨y, List.mem_of_getElem? (by simpa using h2), e2⟩) nd.1
  | a :: l, i + 1, 0, x, y, n, nd, h1, h2, e1, e2 => by
    simp at h2; subst h2
    rw [List.filterMap_cons_some e2, List.nodup_cons] at nd
    exact absurd (List.mem_filterMap.mpr ⟨x, List.mem_of_getElem? (by simpa using h1), e1⟩) nd.1
  | a :: l, i + 1, j + 1, x, y, n, nd, h1, h2, e1, e2 => by
    have nd' : (l.filterMap f).Nodup := by
      cases q : f a with
      | none => rwa [List.filterMap_cons_none q] at nd
      | some b => rw [List.filterMap_cons_some q, List.nodup_cons] at nd; exact nd.2
    exact congrArg (· + 1) (filterMap_pos nd' (by simpa using h1) (by simpa using h2) e1 e2)
theorem Rel.frzN {ms : List Bool} {as : List DV} {xs : List V} (R : Rel C β sl so σ H) (r : RVs C.T (C.F β so) H β as xs) (e : BT.frzN ms so as = some so') : Rel C β sl so' σ H ∧ Run β so H β so' H := by
  induction as generalizing ms xs so with
  | nil => cases e; exact ⟨R, .refl⟩
  | cons a as ih =>
    obtain ⟨v, vs, rfl, r1, r2⟩ := r
    unfold BT.frzN at e
    split at e
    · exact ih R r2 e
    · obtain ⟨⟨d, so1⟩, e1, e2⟩ := Option.bind_eq_some_iff.mp e
      obtain ⟨R1, S1, _⟩ := R.frz r1 e1
      obtain ⟨R2, S2⟩ := ih R1 (RVs.step S1 r2) e2
      exact ⟨R2, S1.trans S2⟩
theorem RVs.get : ∀ {as : List DV} {xs : List V} {i : Nat} {a : DV}, RVs T F H β as xs → as[i]? = some a → ∃ x, xs[i]? = some x ∧ RV T F H β a x
  | [], _, _, _, _, e => by simp at e
  | b :: as, _, 0, a, ⟨v, r, rfl, h1, h2⟩, e => by simp at e; subst e; exact ⟨v, rfl, h1⟩
  | b :: as, _, i + 1, a, ⟨v, r, rfl, h1, h2⟩, e => by
    obtain ⟨x, e1, e2⟩ := RVs.get (i := i) h2 (by simpa using e)
    exact ⟨x, by simpa using e1, e2⟩

def NotTup (H : Hp) (a : Addr) : Prop := ∀ xs, ¬ Rd H a (.tup xs)
mutual
theorem Fz.pureT (f : ∀ a, F' a → F a ∨ NotTup H a) : ∀ (d : D) (v : V), BT.pureT d = true → Fz T F H d v → Fz T F' H d v
  | .non, _, _, h => h
  | .bl _, _, _, h => h
  | .int _, _, _, h => h
  | .str _, _, _, h => h
  | .tup ds, v, p, h => by
    unfold Fz at h ⊢
    obtain ⟨a, xs, e, s, r⟩ := h
    refine ⟨a, xs, e, ?_, FzL.pureT f ds xs p r⟩
    rcases s with ⟨n, s⟩ | s
    · refine .inl ⟨fun z => ?_, s⟩
      rcases f a z with z | z
      · exact n z
      · exact z xs s
    · exact .inr s
  | .lst _, _, p, _ => by cases p
  | .dct _ _, _, p, _ => by cases p
  | .obj _ _ _, _, p, _ => by cases p
theorem FzL.pureT (f : ∀ a, F' a → F a ∨ NotTup H a) : ∀ (ds : List D) (vs : List V), pureT.pureTs ds = true → FzL T F H ds vs → FzL T F' H ds vs
  | [], _, _, h => by unfold FzL at h ⊢; exact h
  | d :: ds, _, p, h => by
    unfold pureT.pureTs at p
    rw [Bool.and_eq_true] at p
    unfold FzL at h ⊢
    obtain ⟨v, r, e, h1, h2⟩ := h
    exact ⟨v, r, e, Fz.pureT f d v p.1 h1, FzL.pureT f ds r p.2 h2⟩
end
theorem Rt.pureI {a : Addr} {d : D} (f : ∀ a, F' a → F a ∨ NotTup H a) (p : BT.pureI d = true) (h : Rt T F H a d) : Rt T F' H a d := by
  cases d with
  | lst ds => obtain ⟨xs, e, r⟩ := h; exact ⟨xs, e, r.pureT f _ _ p⟩
  | dct ks ds => obtain ⟨xs, e, l, r⟩ := h; exact ⟨xs, e, l, r.pureT f _ _ p⟩
  | obj c ns ds => obtain ⟨xs, dx, e, l, r⟩ := h; exact ⟨xs, dx, e, l, r.pureT f _ _ p⟩
  | _ => exact h
theorem Rt.notTup {a : Addr} {d : D} (h : Rt T F H a d) : NotTup H a := by
  intro xs z
  cases d with
  | lst ds => obtain ⟨ys, e, r⟩ := h; rcases z with z | ⟨o, z⟩ <;> (rw [e] at z; cases z)
  | dct ks ds => obtain ⟨ys, e, l, r⟩ := h; rcases z with z | ⟨o, z⟩ <;> (rw [e] at z; cases z)
  | obj c ns ds => obtain ⟨ys, dx, e, l, r⟩ := h; rcases z with z | ⟨o, z⟩ <;> (rw [e] at z; cases z)
  | _ => exact h

theorem Rel.after {β3 : List Addr} {so3 : Store} (R : Rel C β sl so1 σ H) (S : Step β so1 H β3 so3 H') (pre : β <+: β3) (len : β3.length = so3.length) (ne : ∀ (i : Nat) (e : Bool × D), so1[i]? = some (some e) → ∃ e', so3[i]? = some (some e'))
    (hE : ∀ (m : Nat) (e : Bool × D) (a : Addr), so3[m]? = some (some e) → β3[m]? = some a → (so1[m]? = some (some e) ∧ β[m]? = some a ∧ (e.1 = true → H' a = H a)) ∨
      ((e.1 = true → Rt C.T (C.F β3 so3) H' a e.2) ∧ (e.1 = false → Fz C.T (C.F β3 so3) H' e.2 (.ref a)) ∧ (∃ o, H' a = some o) ∧ (C.B[m]? = some (some a) ∨ C.H0 a = none)))
    (hD : ∀ (m k : Nat) (d e : D) (a : Addr), so3[m]? = some (some (true, d)) → so3[k]? = some (some (true, e)) → β3[m]? = some a → β3[k]? = some a → m = k) : Rel C β3 sl so3 σ H' := by
  have hle := pre.length_le
  refine ⟨len, by have := R.nsl; have := R.len; omega, R.sll, fun m a h => ?_, fun i j h => ?_, fun i dv h => ?_, fun m d a h1 h2 => ?_, fun m d a h1 h2 => ?_, hD, fun m e a h1 h2 => ?_, fun a o h hb => ?_, fun m e a h1 h2 => ?_, R.fb⟩
  · obtain ⟨q1, q2, e, q3⟩ := R.bor m a h
    exact ⟨q1, pre_get pre q2, ne m e q3⟩
  · obtain ⟨q1, e, q2⟩ := R.own i j h
    exact ⟨q1, ne i e q2⟩
  · obtain ⟨v, e, q⟩ := R.slots i dv h
    exact ⟨v, e, q.stp S pre⟩
  · rcases hE m _ a h1 h2 with ⟨q1, q2, q3⟩ | ⟨q, _⟩
    · exact (R.live m d a q1 q2).mono S.frz S.avd (q3 rfl)
    · exact q rfl
  · rcases hE m _ a h1 h2 with ⟨q1, q2, q3⟩ | ⟨_, q, _⟩
    · exact (R.froz m d a q1 q2).step S
    · exact q rfl
  · rcases hE m e a h1 h2 with ⟨q1, q2, q3⟩ | ⟨_, _, q, _⟩
    · exact S.stay a _ (R.trk m e a q1 q2).choose_spec
    · exact q
  · refine S.keep a o (R.keep a o h hb) ?_
    rintro ⟨m, d, q1, q2⟩
    rcases R.fresh m _ a q1 q2 with z | z
    · exact hb (List.mem_of_getElem? z)
    · rw [z] at h; cases h
  · rcases hE m e a h1 h2 with ⟨q1, q2, q3⟩ | ⟨_, _, _, q⟩
    · exact R.fresh m e a q1 q2
    · exact q

def NsOk (ns : List (Option Nat)) : Prop := ∀ (i j n : Nat), ns[i]? = some (some n) → ns[j]? = some (some n) → i = j
theorem NsOk.tail {n : Option Nat} {ns : List (Option Nat)} (h : NsOk (n :: ns)) : NsOk ns := fun i j m h1 h2 => by
  have := h (i + 1) (j + 1) m (by simpa using h1) (by simpa using h2)
  omega
theorem putFs_length : ∀ (ns : List (Option Nat)) (fs : List (Option (Bool × D))) (so : Store), (putFs so ns fs).length = so.length
  | [], _, _ => by unfold putFs; rfl
  | some n :: ns, some e :: fs, so => by unfold putFs; rw [putFs_length]; simp
  | none :: ns, _ :: fs, so => by unfold putFs; rw [putFs_length]
  | some n :: ns, none :: fs, so => by unfold putFs; rw [putFs_length]
  | some n :: ns, [], so => by unfold putFs; rfl
  | none :: ns, [], so => by unfold putFs; rfl
theorem putFs_out : ∀ {ns : List (Option Nat)} {fs : List (Option (Bool × D))} {so : Store} {m : Nat}, (∀ i : Nat, ns[i]? ≠ some (some m)) → (putFs so ns fs)[m]? = so[m]?
  | [], _, _, _, _ => by unfold putFs; rfl
  | some n :: ns, some e :: fs, so, m, h => by
    unfold putFs
    rw [putFs_out fun i => by have := h (i + 1); simpa using this]
    have := h 0
    exact List.getElem?_set_ne (by intro z; subst z; exact this rfl)
  | none :: ns, _ :: fs, so, m, h => by unfold putFs; exact putFs_out fun i => by have := h (i + 1); simpa using this
  | some n :: ns, none :: fs, so, m, h => by unfold putFs; exact putFs_out fun i => by have := h (i + 1); simpa using this
  | some n :: ns, [], so, m, h => by unfold putFs; rfl
  | none :: ns, [], so, m, h => by unfold putFs; rfl
theorem putFs_in : ∀ {ns : List (Option Nat)} {fs : List (Option (Bool × D))} {so : Store} {i m : Nat} {e : Bool × D}, NsOk ns → ns[i]? = some (some m) → fs[i]? = some (some e) → m < so.length → (putFs so ns fs)[m]? = some (some e)
  | [], _, _, _, _, _, _, h, _, _ => by simp at h
  | n :: ns, [], _, _, _, _, _, _, h, _ => by simp at h
  | some n :: ns, some e' :: fs, so, 0, m, e, hn, h1, h2, hl => by
    simp at h1 h2
    subst h1 h2
    unfold putFs
    rw [putFs_out fun i z => by have := hn 0 (i + 1) n (by simp) (by simpa using z); omega]
    exact List.getElem?_set_self hl
  | none :: ns, f :: fs, so, 0, m, e, hn, h1, h2, hl => by simp at h1
  | some n :: ns, none :: fs, so, 0, m, e, hn, h1, h2, hl => by simp at h2
  | some n :: ns, some e' :: fs, so, i + 1, m, e, hn, h1, h2, hl => by
    unfold putFs
    exact putFs_in (i := i) hn.tail (by simpa using h1) (by simpa using h2) (by simpa using hl)
  | none :: ns, f :: fs, so, i + 1, m, e, hn, h1, h2, hl => by
    unfold putFs
    exact putFs_in (i := i) hn.tail (by simpa using h1) (by simpa using h2) hl
  | some n :: ns, none :: fs, so, i + 1, m, e, hn, h1, h2, hl => by
    unfold putFs
    exact putFs_in (i := i) hn.tail (by simpa using h1) (by simpa using h2) hl
theorem okFs_get : ∀ {fs : List (Option (Bool × D))} {i : Nat} {b : Bool} {d : D}, okFs fs = true → fs[i]? = some (some (b, d)) → b = true ∧ pureI d = true
  | [], _, _, _, _, h => by simp at h
  | none :: r, 0, _, _, _, h => by simp at h
  | none :: r, i + 1, b, d, o, h => by
    unfold okFs at o
    exact okFs_get (i := i) o (by simpa using h)
  | some (b', d') :: r, 0, b, d, o, h => by
    simp at h
    obtain ⟨rfl, rfl⟩ := h
    unfold okFs at o
    rw [Bool.and_eq_true, Bool.and_eq_true] at o
    exact o.1
  | some (b', d') :: r, i + 1, b, d, o, h => by
    unfold okFs at o
    rw [Bool.and_eq_true] at o
    exact okFs_get (i := i) o.2 (by simpa using h)

theorem to_call {run : Fn} {ms : List Bool} {flat : Bool} {as : List DV} {xs : List V} {np : Nat} {Q : VK} (hnp : ∀ ars r, run ars = some r → ars.length = np) (R : Rel C β sl so σ H) (ra : RVs C.T (C.F β so) H β as xs)
    (k : KR C W RV sl (fun _ _ _ H' _ v => Q v H') β so σ H (callO run ms flat as so)) : spF C.T np run (xs ++ []) H Q (WE W σ) := by
  rw [List.append_nil]
  unfold callO at k
  -- the data of the call
  obtain ⟨so1, e1, k⟩ : ∃ so1, (if flat = true then some so else frzN ms so as) = some so1 ∧ KR C W RV sl (fun _ _ _ H' _ v => Q v H') β so σ H ((mkArs flat so1 ms as).bind fun l =>
      if (lives so1 as).Nodup then (run (l.map (·.1))).bind fun r => if flat = true → (okR r.1 && okFs r.2) = true then endC (l.map (·.2)) (putFs so1 (l.map (·.2)) r.2) r.1 else none else none) := by
    rcases e : (if flat = true then some so else frzN ms so as) with _ | so1
    · rw [e] at k; exact k.elim
    · rw [e] at k; exact ⟨so1, rfl, k⟩
  obtain ⟨l, e2, k⟩ : ∃ l, mkArs flat so1 ms as = some l ∧ KR C W RV sl (fun _ _ _ H' _ v => Q v H') β so σ H (
      if (lives so1 as).Nodup then (run (l.map (·.1))).bind fun r => if flat = true → (okR r.1 && okFs r.2) = true then endC (l.map (·.2)) (putFs so1 (l.map (·.2)) r.2) r.1 else none else none) := by
    rcases e : mkArs flat so1 ms as with _ | l
    · rw [e] at k; exact k.elim
    · rw [e] at k; exact ⟨l, rfl, k⟩
  by_cases nd : (lives so1 as).Nodup
  case neg => rw [if_neg nd] at k; exact k.elim
  rw [if_pos nd] at k
  obtain ⟨⟨o, fs⟩, e3, k⟩ : ∃ r, run (l.map (·.1)) = some r ∧ KR C W RV sl (fun _ _ _ H' _ v => Q v H') β so σ H (if flat = true → (okR r.1 && okFs r.2) = true then endC (l.map (·.2)) (putFs so1 (l.map (·.2)) r.2) r.1 else none) := by
    rcases e : run (l.map (·.1)) with _ | r
    · rw [e] at k; exact k.elim
    · rw [e] at k; exact ⟨r, by rw [← e], k⟩
  by_cases hfl : flat = true → (okR o && okFs fs) = true
  case neg => rw [if_neg hfl] at k; exact k.elim
  rw [if_pos hfl] at k
  have hR1 : Rel C β sl so1 σ H ∧ Run β so H β so1 H := by
    cases flat with
    | true => rw [if_pos rfl] at e1; cases e1; exact ⟨R, .refl⟩
    | false => rw [if_neg Bool.false_ne_true] at e1; exact R.frzN ra e1
  obtain ⟨R1, S1⟩ := hR1
  have ra := RVs.step S1 ra
  have k := KR.base S1 k
  clear e1
  obtain ⟨g1, g2⟩ := mkArs_get e2
  obtain ⟨ns, hns⟩ : ∃ ns, ns = l.map (·.2) := ⟨_, rfl⟩
  have k : KR C W RV sl (fun _ _ _ H' _ v => Q v H') β so1 σ H (endC ns (putFs so1 ns fs) o) := by rw [hns]; exact k
  obtain ⟨ao, hao⟩ : ∃ ao : List (Option Addr), ao = ns.map fun n => n.bind fun n => β[n]? := ⟨_, rfl⟩
  -- what stands at a place
  have nsI : ∀ {i n : Nat}, ns[i]? = some (some n) → ∃ d p x, as[i]? = some (.loc n) ∧ liveAt so1 (.loc n) = some (n, d) ∧ so1[n]? = some (some (true, d)) ∧ β[n]? = some p ∧ ao[i]? = some (some p) ∧ xs[i]? = some x ∧ x = .ref p ∧ (l.map (·.1))[i]? = some (.m d) := by
    intro i n h
    rw [hns, List.getElem?_map] at h
    obtain ⟨p, e4, e5⟩ := Option.map_eq_some_iff.mp h
    have hi : i < as.length := by rw [← g1]; exact (List.getElem?_eq_some_iff.mp e4).1
    obtain ⟨p', md, e6, e7⟩ := g2 i _ (List.getElem?_eq_getElem hi)
    rw [e4] at e6; cases e6
    unfold mkAr at e7
    split at e7
    · rename_i m d q
      obtain ⟨q1, q2⟩ := liveAt_of q
      split at e7
      · cases e7
        cases e5
        obtain ⟨x, e8, r⟩ := ra.get (List.getElem?_eq_getElem hi)
        rw [q1] at r
        obtain ⟨a, r1, r2⟩ := r
        have e9 : ns[i]? = some (some n) := by rw [hns, List.getElem?_map, e4]; rfl
        refine ⟨d, a, x, by rw [List.getElem?_eq_getElem hi, q1], by rw [← q1]; exact q, q2, r1, ?_, e8, r2, by rw [List.getElem?_map, e4]; rfl⟩
        rw [hao, List.getElem?_map, e9]
        show some (β[n]?) = _
        rw [r1]
      · split at e7
        · cases e7; cases e5
        · cases e7
    · obtain ⟨d, _, rfl⟩ := Option.map_eq_some_iff.mp e7
      cases e5
  have aoI : ∀ {i : Nat} {a : Addr}, ao[i]? = some (some a) → ∃ n, ns[i]? = some (some n) ∧ β[n]? = some a := by
    intro i a h
    rw [hao, List.getElem?_map] at h
    obtain ⟨n, e4, e5⟩ := Option.map_eq_some_iff.mp h
    cases n with
    | none => cases e5
    | some n => exact ⟨n, e4, e5⟩
  have liveN : ∀ {n : Nat} {d : D}, so1[n]? = some (some (true, d)) → liveAt so1 (.loc n) = some (n, d) := fun {n d} h => by simp only [liveAt, h]
  have posN : ∀ {i j n : Nat} {d : D}, so1[n]? = some (some (true, d)) → as[i]? = some (.loc n) → as[j]? = some (.loc n) → i = j := fun {i j n d} h h1 h2 => by
    refine filterMap_pos (n := n) nd h1 h2 ?_ ?_ <;> (rw [liveN h]; rfl)
  have nsok : NsOk ns := fun i j n h1 h2 => by
    obtain ⟨d, _, _, q1, _, q2, _⟩ := nsI h1
    obtain ⟨_, _, _, q3, _⟩ := nsI h2
    exact posN q2 q1 q3
  have aoLv : ∀ {a : Addr}, some a ∈ ao → Lv β so1 a := fun {a} h => by
    obtain ⟨i, hi, e⟩ := List.mem_iff_getElem.mp h
    obtain ⟨n, h1, h2⟩ := aoI (i := i) (a := a) (by rw [List.getElem?_eq_getElem hi, e])
    obtain ⟨d, p, _, _, _, q2, q3, _⟩ := nsI h1
    exact ⟨n, d, q2, h2⟩
  -- what the callee must avoid
  obtain ⟨Fb', hFb⟩ : ∃ Fb' : Addr → Prop, Fb' = fun a => C.Fb a ∨ ∃ n d, so1[n]? = some (some (true, d)) ∧ β[n]? = some a ∧ ∀ i : Nat, as[i]? ≠ some (.loc n) := ⟨_, rfl⟩
  have fbN : ∀ {a : Addr}, Fb' a → some a ∉ ao := by
    intro a h hm
    obtain ⟨i, hi, e⟩ := List.mem_iff_getElem.mp hm
    obtain ⟨n, h1, h2⟩ := aoI (i := i) (a := a) (by rw [List.getElem?_eq_getElem hi, e])
    obtain ⟨d, p, x, q0, _, q2, q3, _⟩ := nsI h1
    rw [hFb] at h
    rcases h with h | ⟨m, d', z1, z2, z3⟩
    · exact R1.fbNot h ⟨n, d, q2, h2⟩
    · have : m = n := R1.dist m n d' d a z1 q2 z2 h2
      subst this
      exact z3 i q0
  have fbF : ∀ {a : Addr}, (Fb' a ∨ some a ∈ ao) → C.F β so1 a := fun {a} h => by
    rcases h with h | h
    · rw [hFb] at h
      rcases h with h | ⟨m, d', z1, z2, z3⟩
      · exact .inl h
      · exact .inr ⟨m, d', z1, z2⟩
    · exact .inr (aoLv h)
  have zf : ∀ {d : D} {v : V}, Fz C.T (C.F β so1) H d v → Fz C.T (fun a => Fb' a ∨ some a ∈ ao) H d v := fun h => h.mono (fun _ _ e _ => e) fun a _ _ z => fbF z
  have zr : ∀ {d : D} {a : Addr}, Rt C.T (C.F β so1) H a d → Rt C.T (fun a => Fb' a ∨ some a ∈ ao) H a d := fun h => h.mono (fun _ _ e _ => e) (fun a _ _ z => fbF z) rfl
  have hxl := RVs.length ra
  have G : ArgsOk C.T (fun a => Fb' a ∨ some a ∈ ao) H (l.map (·.1)) ao xs := by
    refine ⟨by rw [hao, hns]; simp, by simp; omega, fun i ar h => ?_, fun i j a h1 h2 => ?_⟩
    · rw [List.getElem?_map] at h
      obtain ⟨p, e4, e5⟩ := Option.map_eq_some_iff.mp h
      have hi : i < as.length := by rw [← g1]; exact (List.getElem?_eq_some_iff.mp e4).1
      obtain ⟨p', md, e6, e7⟩ := g2 i _ (List.getElem?_eq_getElem hi)
      rw [e4] at e6; cases e6
      obtain ⟨x, e8, r⟩ := ra.get (List.getElem?_eq_getElem hi)
      have eo : ∀ {z : Option Nat}, p.2 = z → ao[i]? = some (z.bind fun n => β[n]?) := fun {z} hz => by
        rw [hao, List.getElem?_map, hns, List.getElem?_map, e4, ← hz]
        rfl
      unfold mkAr at e7
      split at e7
      · rename_i m d q
        obtain ⟨q1, q2⟩ := liveAt_of q
        rw [q1] at r
        obtain ⟨a, r1, rfl⟩ := r
        have rt := R1.live m d a q2 r1
        split at e7
        · cases e7
          cases e5
          exact ⟨_, _, eo rfl, e8, a, r1, rfl, zr rt⟩
        · split at e7
          · cases e7
            cases e5
            refine ⟨_, _, eo rfl, e8, rfl, (zr rt).freeze ?_⟩
            rintro (z | z)
            · rw [hFb] at z
              rcases z with z | ⟨m', d', z1, z2, z3⟩
              · exact R1.fbNot z ⟨m, d, q2, r1⟩
              · have : m' = m := R1.dist m' m d' d a z1 q2 z2 r1
                subst this
                exact z3 i (by rw [List.getElem?_eq_getElem hi, q1])
            · obtain ⟨j, hj, e⟩ := List.mem_iff_getElem.mp z
              obtain ⟨n, h1, h2⟩ := aoI (i := j) (a := a) (by rw [List.getElem?_eq_getElem hj, e])
              obtain ⟨d2, p2, x2, w0, _, w2, w3, _⟩ := nsI h1
              have : n = m := R1.dist n m d2 d a w2 q2 h2 r1
              subst this
              have : i = j := posN q2 (by rw [List.getElem?_eq_getElem hi, q1]) w0
              subst this
              rw [hns, List.getElem?_map, e4] at h1
              cases h1
          · cases e7
      · rename_i q
        obtain ⟨d, e9, rfl⟩ := Option.map_eq_some_iff.mp e7
        cases e5
        refine ⟨_, _, eo rfl, e8, rfl, ?_⟩
        rcases R1.frzOr r e9 with z | ⟨n, p, z1, z2, _⟩
        · exact zf z
        · rw [z1, liveN z2] at q
          cases q
    · obtain ⟨n, q1, q2⟩ := aoI h1
      obtain ⟨m, q3, q4⟩ := aoI h2
      obtain ⟨d, _, _, w1, _, w2, _⟩ := nsI q1
      obtain ⟨d', _, _, w3, _, w4, _⟩ := nsI q3
      have : n = m := R1.dist n m d d' a w2 w4 q2 q4
      subst this
      exact posN w2 w1 w3
  have fbT : ∀ a, Fb' a → (∃ o, H a = some o) ∧ some a ∉ ao := fun a h => by
    refine ⟨?_, fbN h⟩
    rcases fbF (.inl h) with z | z
    · exact R1.fbOf z
    · exact R1.lvOf z
  refine ⟨by have := hnp _ _ e3; simp at this; omega, Fb', _, ao, G, fbT, ?_⟩
  rw [e3]
  -- behind the call
  obtain ⟨so2, hso2⟩ : ∃ so2, so2 = putFs so1 ns fs := ⟨_, rfl⟩
  rw [← hso2] at k
  have hl2 : so2.length = so1.length := by rw [hso2, putFs_length]
  have so2In : ∀ {i n : Nat} {e : Bool × D}, ns[i]? = some (some n) → fs[i]? = some (some e) → so2[n]? = some (some e) := fun {i n e} h1 h2 => by
    obtain ⟨d, _, _, _, _, q, _⟩ := nsI h1
    rw [hso2]
    exact putFs_in nsok h1 h2 (List.getElem?_eq_some_iff.mp q).1
  have cases2 : ∀ (F' : Addr → Prop) (H' : Hp), FinOk C.T F' H' ao fs → ∀ {m : Nat} {e : Bool × D}, so2[m]? = some (some e) → (∃ i a, ns[i]? = some (some m) ∧ fs[i]? = some (some e) ∧ β[m]? = some a ∧ (e.1 = true → F' a ∧ Rt C.T F' H' a e.2) ∧ (e.1 = false → Fz C.T F' H' e.2 (.ref a))) ∨
      ((∀ i : Nat, ns[i]? ≠ some (some m)) ∧ so1[m]? = some (some e)) := fun F' H' fin {m e} h => by
    by_cases hm : ∃ i : Nat, ns[i]? = some (some m)
    · obtain ⟨i, hi⟩ := hm
      obtain ⟨d, a, _, _, _, q1, q2, q3, _⟩ := nsI hi
      obtain ⟨b, d', f1, f2, f3⟩ := fin i a q3
      rw [so2In hi f1] at h
      cases h
      exact .inl ⟨i, a, hi, f1, q2, f2, f3⟩
    · right
      have hm : ∀ i : Nat, ns[i]? ≠ some (some m) := fun i z => hm ⟨i, z⟩
      rw [hso2, putFs_out hm] at h
      exact ⟨hm, h⟩
  have ne2 : ∀ (F' : Addr → Prop) (H' : Hp), FinOk C.T F' H' ao fs → ∀ (i : Nat) (e : Bool × D), so1[i]? = some (some e) → ∃ e', so2[i]? = some (some e') := fun F' H' fin m e h => by
    by_cases hm : ∃ i : Nat, ns[i]? = some (some m)
    · obtain ⟨i, hi⟩ := hm
      obtain ⟨d, a, _, _, _, q1, q2, q3, _⟩ := nsI hi
      obtain ⟨b, d', f1, f2, f3⟩ := fin i a q3
      exact ⟨_, so2In hi f1⟩
    · exact ⟨e, by rw [hso2, putFs_out fun i z => hm ⟨i, z⟩]; exact h⟩
  have lv2 : ∀ (F' : Addr → Prop) (H' : Hp), FinOk C.T F' H' ao fs → ∀ a, Lv β so2 a → Lv β so1 a := fun F' H' fin a ⟨m, d, h1, h2⟩ => by
    rcases cases2 F' H' fin h1 with ⟨i, a', q1, q2, q3, _⟩ | ⟨_, q⟩
    · obtain ⟨d', _, _, _, _, w, _⟩ := nsI q1
      exact ⟨m, d', w, h2⟩
    · exact ⟨m, d, q, h2⟩
  -- what is avoided then was avoided by the callee, or is no tuple (and then all that comes back is made of tuples)
  have F2 : ∀ (F' : Addr → Prop) (H' : Hp), Frm Fb' ao H F' H' → FinOk C.T F' H' ao fs → ∀ a, C.F β so2 a → F' a ∨ (flat = true ∧ NotTup H' a) := fun F' H' fr fin a h => by
    rcases h with h | ⟨m, d, h1, h2⟩
    · exact .inl (fr.up a (by rw [hFb]; exact .inl h))
    · rcases cases2 F' H' fin h1 with ⟨i, a', q1, q2, q3, q4, _⟩ | ⟨q1, q⟩
      · rw [h2] at q3; cases q3
        exact .inl (q4 rfl).1
      · by_cases hm : ∃ i : Nat, as[i]? = some (.loc m)
        · obtain ⟨i, hi⟩ := hm
          have key : flat = true := by
            obtain ⟨p, md, e6, e7⟩ := g2 i _ hi
            unfold mkAr at e7
            rw [liveN q] at e7
            have e7 : (if md = true then some (Ar.m d, some m) else if flat = true then some (Ar.v d, none) else none) = some p := e7
            by_cases h3 : md = true
            · rw [if_pos h3] at e7
              cases e7
              exact absurd (by rw [hns, List.getElem?_map, e6]; rfl) (q1 i)
            · rw [if_neg h3] at e7
              by_cases h4 : flat = true
              · exact h4
              · rw [if_neg h4] at e7; cases e7
          refine .inr ⟨key, ?_⟩
          have rt := R1.live m d a q h2
          have nt := rt.notTup
          obtain ⟨o', ho⟩ := rt.tracked
          have hk := fr.keep a o' ho fun z => by
            obtain ⟨j, hj, e⟩ := List.mem_iff_getElem.mp z
            obtain ⟨n, w1, w2⟩ := aoI (i := j) (a := a) (by rw [List.getElem?_eq_getElem hj, e])
            obtain ⟨d2, _, _, _, _, w3, _⟩ := nsI w1
            have : n = m := R1.dist n m d2 d a w3 q w2 h2
            subst this
            exact q1 j w1
          intro ys z
          exact nt ys (by unfold Rd at z ⊢; rw [hk] at z; rw [ho]; exact z)
        · exact .inl (fr.up a (by rw [hFb]; exact .inr ⟨m, d, q, h2, fun i z => hm ⟨i, z⟩⟩))
  have step2 : ∀ (F' : Addr → Prop) (H' : Hp), Frm Fb' ao H F' H' → FinOk C.T F' H' ao fs → Run β so1 H β so2 H' := fun F' H' fr fin =>
    ⟨⟨fun a h => .inl (lv2 F' H' fin a h), fun a o h n => fr.keep a o h fun z => n (aoLv z), fr.stay⟩, List.prefix_refl _, ne2 F' H' fin⟩
  have hfin : ∀ {i : Nat} {b : Bool} {d : D}, flat = true → fs[i]? = some (some (b, d)) → b = true ∧ pureI d = true := fun {i b d} hf h => by
    have := hfl hf
    rw [Bool.and_eq_true] at this
    exact okFs_get this.2 h
  have keepM : ∀ (F' : Addr → Prop) (H' : Hp), Frm Fb' ao H F' H' → ∀ {m : Nat} {d : D} {a : Addr}, (∀ i : Nat, ns[i]? ≠ some (some m)) → so1[m]? = some (some (true, d)) → β[m]? = some a → H' a = H a := fun F' H' fr {m d a} hm h1 h2 => by
    obtain ⟨o', ho⟩ := (R1.live m d a h1 h2).tracked
    rw [ho]
    refine fr.keep a o' ho fun z => ?_
    obtain ⟨j, hj, e⟩ := List.mem_iff_getElem.mp z
    obtain ⟨n, w1, w2⟩ := aoI (i := j) (a := a) (by rw [List.getElem?_eq_getElem hj, e])
    obtain ⟨d2, _, _, _, _, w3, _⟩ := nsI w1
    have : n = m := R1.dist n m d2 d a w3 h1 w2 h2
    subst this
    exact hm j w1
  -- the state, perhaps with a new object behind it
  have fin3 : ∀ (F' : Addr → Prop) (H' : Hp), Frm Fb' ao H F' H' → FinOk C.T F' H' ao fs → ∀ (β3 : List Addr) (so3 : Store), (β3 = β ∧ so3 = so2) ∨ (∃ a d, β3 = β ++ [a] ∧ so3 = so2 ++ [some (true, d)] ∧ H a = none ∧ F' a ∧ Rt C.T F' H' a d ∧ (flat = true → pureI d = true)) →
      Rel C β3 sl so3 σ H' ∧ Run β so1 H β3 so3 H' ∧ ∀ a, C.F β3 so3 a → F' a ∨ (flat = true ∧ NotTup H' a) := fun F' H' fr fin β3 so3 h => by
    have lenβ := R1.len
    have S2 := step2 F' H' fr fin
    have pre3 : β <+: β3 := by
      rcases h with ⟨rfl, _⟩ | ⟨a, d, rfl, _⟩
      · exact List.prefix_refl _
      · exact List.prefix_append _ _
    have sub : ∀ {m : Nat} {e : Bool × D} {a : Addr}, so3[m]? = some (some e) → β3[m]? = some a → (so2[m]? = some (some e) ∧ β[m]? = some a) ∨ (m = so2.length ∧ H a = none ∧ F' a ∧ e.1 = true ∧ Rt C.T F' H' a e.2 ∧ (flat = true → pureI e.2 = true)) := fun {m e a} h1 h2 => by
      rcases h with ⟨rfl, rfl⟩ | ⟨b, d, rfl, rfl, z1, z2, z3, z4⟩
      · exact .inl ⟨h1, h2⟩
      · by_cases hm : m < so2.length
        · rw [List.getElem?_append_left hm] at h1
          rw [List.getElem?_append_left (by omega)] at h2
          exact .inl ⟨h1, h2⟩
        · have hm2 : m < so2.length + 1 := by simpa using (List.getElem?_eq_some_iff.mp h1).1
          have hm3 : m = so2.length := by omega
          subst hm3
          rw [List.getElem?_append_right (Nat.le_refl _), Nat.sub_self] at h1
          rw [List.getElem?_append_right (by omega), show so2.length - β.length = 0 by omega] at h2
          cases h1
          cases h2
          exact .inr ⟨rfl, z1, z2, rfl, z3, z4⟩
    have lv3 : ∀ a, Lv β3 so3 a → Lv β so2 a ∨ (H a = none ∧ F' a) := fun a ⟨m, d, h1, h2⟩ => by
      rcases sub h1 h2 with ⟨q1, q2⟩ | ⟨_, q1, q2, _⟩
      · exact .inl ⟨m, d, q1, q2⟩
      · exact .inr ⟨q1, q2⟩
    have F3 : ∀ a, C.F β3 so3 a → F' a ∨ (flat = true ∧ NotTup H' a) := fun a z => by
      rcases z with z | z
      · exact F2 F' H' fr fin a (.inl z)
      · rcases lv3 a z with z | ⟨_, z⟩
        · exact F2 F' H' fr fin a (.inr z)
        · exact .inl z
    have ne3 : ∀ (i : Nat) (e : Bool × D), so1[i]? = some (some e) → ∃ e', so3[i]? = some (some e') := fun i e hi => by
      obtain ⟨e', he⟩ := ne2 F' H' fin i e hi
      rcases h with ⟨rfl, rfl⟩ | ⟨b, d, rfl, rfl, _⟩
      · exact ⟨e', he⟩
      · exact ⟨e', by rw [List.getElem?_append_left (List.getElem?_eq_some_iff.mp he).1]; exact he⟩
    have S3 : Run β so1 H β3 so3 H' := by
      refine ⟨⟨fun a z => ?_, S2.keep, S2.stay⟩, pre3, ne3⟩
      rcases lv3 a z with z | ⟨z, _⟩
      · exact S2.lv a z
      · exact .inr z
    have len3 : β3.length = so3.length := by
      rcases h with ⟨rfl, rfl⟩ | ⟨b, d, rfl, rfl, _⟩
      · omega
      · simp; omega
    have cR : ∀ {a : Addr} {d : D}, (flat = true → pureI d = true) → Rt C.T F' H' a d → Rt C.T (C.F β3 so3) H' a d := fun {a d} hp h => by
      by_cases hf : flat = true
      · exact h.pureI (fun a z => (F3 a z).imp_right (·.2)) (hp hf)
      · exact h.mono (fun _ _ e _ => e) (fun a _ _ z => (F3 a z).resolve_right fun y => hf y.1) rfl
    refine ⟨R1.after S3.toStep pre3 len3 ne3 (fun m e a h1 h2 => ?_) (fun m k' d e a h1 h2 h3 h4 => ?_), S3, F3⟩
    · rcases sub h1 h2 with ⟨q1, q2⟩ | ⟨hm, z1, z2, z3, z4, z5⟩
      · rcases cases2 F' H' fin q1 with ⟨i, a', w1, w2, w3, w4, w5⟩ | ⟨w1, w2⟩
        · rw [q2] at w3; cases w3
          obtain ⟨d0, p0, _, _, _, y1, y2, y3, _⟩ := nsI w1
          rw [q2] at y2; cases y2
          refine .inr ⟨fun hb => cR (fun hf => (hfin (d := e.2) (b := e.1) hf w2).2) (w4 hb).2, fun hb => ?_, ?_, ?_⟩
          · refine (w5 hb).mono (fun _ _ e _ => e) fun b _ _ z => ?_
            rcases F3 b z with z | ⟨hf, _⟩
            · exact z
            · have := (hfin (d := e.2) (b := e.1) hf w2).1
              rw [hb] at this; cases this
          · exact fr.stay a _ (R1.trk m _ a y1 q2).choose_spec
          · exact R1.fresh m _ a y1 q2
        · exact .inl ⟨w2, q2, fun hb => by
            obtain ⟨b, d⟩ := e
            cases hb
            exact keepM F' H' fr w1 w2 q2⟩
      · refine .inr ⟨fun _ => cR z5 z4, fun hb => absurd (z3.symm.trans hb) (by decide), z4.tracked, .inr ?_⟩
        cases q : C.H0 a with
        | none => rfl
        | some o =>
          by_cases hb : some a ∈ C.B
          · obtain ⟨i, hi, e⟩ := List.mem_iff_getElem.mp hb
            obtain ⟨_, q2, e', q3⟩ := R1.bor i a (by rw [List.getElem?_eq_getElem hi, e])
            obtain ⟨o', q4⟩ := R1.trk i e' a q3 q2
            rw [z1] at q4; cases q4
          · have := R1.keep a o q hb
            rw [z1] at this; cases this
    · have old : ∀ {m : Nat} {d : D}, so2[m]? = some (some (true, d)) → β[m]? = some a → ∃ d', so1[m]? = some (some (true, d')) := fun {m d} q1 q2 => by
        rcases cases2 F' H' fin q1 with ⟨i, a', w1, w2, w3, w4, w5⟩ | ⟨w1, w2⟩
        · obtain ⟨d0, p0, _, _, _, y1, y2, y3, _⟩ := nsI w1
          exact ⟨d0, y1⟩
        · exact ⟨d, w2⟩
      rcases sub h1 h3 with ⟨q1, q2⟩ | ⟨hm, z1, _⟩
      · rcases sub h2 h4 with ⟨q3, q4⟩ | ⟨hm, z1, _⟩
        · obtain ⟨d1, y1⟩ := old q1 q2
          obtain ⟨d2, y2⟩ := old q3 q4
          exact R1.dist m k' d1 d2 a y1 y2 q2 q4
        · obtain ⟨d1, y1⟩ := old q1 q2
          obtain ⟨o', y2⟩ := R1.trk m _ a y1 q2
          rw [z1] at y2; cases y2
      · rcases sub h2 h4 with ⟨q3, q4⟩ | ⟨hm', _⟩
        · obtain ⟨d1, y1⟩ := old q3 q4
          obtain ⟨o', y2⟩ := R1.trk k' _ a y1 q4
          rw [z1] at y2; cases y2
        · omega
  have cF : ∀ (F' : Addr → Prop) (H' : Hp) {F3 : Addr → Prop}, (∀ a, F3 a → F' a ∨ (flat = true ∧ NotTup H' a)) → ∀ {d : D} {v : V}, (flat = true → pureT d = true) → Fz C.T F' H' d v → Fz C.T F3 H' d v := fun F' H' F3 hF {d v} hp h => by
    by_cases hf : flat = true
    · exact h.pureT (fun a z => (hF a z).imp_right (·.2)) d v (hp hf)
    · exact h.mono (fun _ _ e _ => e) fun a _ _ z => (hF a z).resolve_right fun y => hf y.1
  have hokR : flat = true → okR o = true := fun hf => by
    have := hfl hf
    rw [Bool.and_eq_true] at this
    exact this.1
  cases o with
  | exc c d =>
    intro F' H' fr fin dx v hx hz
    obtain ⟨R3, S3, F3⟩ := fin3 F' H' fr fin β so2 (.inl ⟨rfl, rfl⟩)
    exact k β H' R3 S3 dx v hx (cF F' H' F3 hokR hz)
  | ok r =>
    intro F' H' v fr fin hr
    cases r with
    | val d =>
      obtain ⟨R3, S3, F3⟩ := fin3 F' H' fr fin β so2 (.inl ⟨rfl, rfl⟩)
      exact k β H' v R3 S3 (cF F' H' F3 hokR hr)
    | new d =>
      obtain ⟨a, rfl, z1, z2, z3⟩ := hr
      obtain ⟨R3, S3, F3⟩ := fin3 F' H' fr fin (β ++ [a]) (so2 ++ [some (true, d)]) (.inr ⟨a, d, rfl, rfl, z1, z2, z3, hokR⟩)
      refine k (β ++ [a]) H' (.ref a) R3 S3 ⟨a, ?_, rfl⟩
      have := R1.len
      rw [List.getElem?_append_right (by omega), show so2.length - β.length = 0 by omega]
      rfl
    | arg j =>
      obtain ⟨a, q1, rfl⟩ := hr
      obtain ⟨n, q2, q3⟩ := aoI q1
      obtain ⟨R3, S3, F3⟩ := fin3 F' H' fr fin β so2 (.inl ⟨rfl, rfl⟩)
      have k : KR C W RV sl (fun _ _ _ H' _ v => Q v H') β so1 σ H (some (.ok (.loc n), so2)) := by
        have e : endC ns so2 (.ok (.arg j)) = some (.ok (.loc n), so2) := by simp only [endC, q2]
        rw [e] at k
        exact k
      exact k β H' (.ref a) R3 S3 ⟨a, q3, rfl⟩
end

section
variable {X : Cx} {C : Cn} {W : WX} {k : Nat} {f : Addr} {fd : FuncData} {ps : List PySem.Str} {sp : Sp} {x : PySem.Str} {p pos : Pos} {e : Expr} {es : List Expr} {t : TA}
theorem run_fnG {pins : List (Addr × Obj)} {σ : St} {H : Hp} {s : Shared} {Q : VK} {us : List Value} {vs : List V} {E : XK} (F : FnG X.prog X.w X.K X.mg X.base k f fd ps sp) (hr : RoomG k X.A) (hb : Binds X.K fd ps []) (hx : PassesAt (L2.CX X.prog X.w) X σ E)
    (I : Inv X pins σ H s) (r : Vals vs us) (h : sp (vs ++ []) H Q E) : wpAny (model X.prog X.w) X.A (call (.ref f) us) (EP X pins σ Q) X.xe s := by
  rw [List.append_nil] at h
  have hl : us.length = ps.length := by rw [← r.length]; exact F.len _ _ _ _ h
  have b := hb s us I.kIn (by rw [List.append_nil]; exact hl)
  rw [List.append_nil] at b
  refine wpAny_call (codeAny_mono (F.run X.A X.stack s H ⟨us, []⟩ us vs Q E hr I.env0 b r h) fun z s' hq => ?_)
  match z, hq with
  | .error e, hq => exact hx pins H s e s' I hq
  | .ok (.ret u), hq => exact I.after hq
theorem e_call {np : Nat} {run : Fn} {ms : List Bool} {flat : Bool} {fa : EM (List DV)} (hnp : ∀ ars r, run ars = some r → ars.length = np) (F : FnG X.prog X.w X.K X.mg X.base k f fd ps (spF C.T np run)) (hr : RoomG k X.A) (tk : Takes X W)
    (hg : Gl X x) (hm : X.mg x = some (.ref f)) (hk : PySem.W.keepIn X.K (.ref f) = true) (hb : Binds X.K fd ps []) (ha : PA X (e :: es) (rdA C W fa)) (hdb : (x == ("__debug__" : PySem.Str)) = false)
    (he : starEach (e :: es) X.env = (false, eval e X.env) :: starEach es X.env) (hpl : (backTo pos (starEach es X.env)).any (·.1) = false) : PE X (.Call (.Name x p) (e :: es) [] pos) (rdE C W (fCall run ms flat fa)) := by
  refine ⟨fun pins s σ H Q I ⟨β, sl, so, R, k0⟩ => ?_⟩
  refine wpAny_Call_Name_kw (ld_glob I hg hm ?_ hdb)
  refine PySem.W.callWith_K (h₀ := X.base) I.ok.mod.kin hk (thn (ha.run pos pins s σ H (fun xs H1 => spF C.T np run (xs ++ []) H1 Q (WE W σ)) I ⟨β, sl, so, R, (KR.bnd k0).mono fun β1 so1 H1 as xs ⟨R1, S1, ra, k1⟩ => to_call hnp R1 ra k1⟩) fun us s1 ⟨vs, H1, I1, r, q⟩ => ⟨I1.kIn, ?_⟩) he hpl
  exact run_fnG F hr hb (passAt tk σ) I1 r q
theorem runF_len {n : Nat} {ms : List Bool} {g : SM} : ∀ ars r, runF ms n g ars = some r → ars.length = ms.length := fun ars r h => by
  unfold runF at h
  split at h
  · rename_i q; exact q.1
  · cases h
end
end BT
end

section
set_option maxRecDepth 100000
namespace BT
open PySem L2 PySem.Spec

mutual
theorem toPy_noDict : ∀ (d : D) (p : PyData), toPy d = some p → p.hasDict = false
  | .non, p, e => by unfold toPy at e; cases e; rfl
  | .bl b, p, e => by unfold toPy at e; cases e; rfl
  | .int i, p, e => by unfold toPy at e; cases e; rfl
  | .str s, p, e => by unfold toPy at e; cases e; rfl
  | .tup ds, p, e => by
    unfold toPy at e
    obtain ⟨ps, e1, rfl⟩ := Option.map_eq_some_iff.mp e
    simp only [PyData.hasDict]
    exact toPys_noDict ds ps e1
  | .lst ds, p, e => by
    unfold toPy at e
    obtain ⟨ps, e1, rfl⟩ := Option.map_eq_some_iff.mp e
    simp only [PyData.hasDict]
    exact toPys_noDict ds ps e1
  | .dct _ _, p, e => by unfold toPy at e; cases e
  | .obj _ _ _, p, e => by unfold toPy at e; cases e
theorem toPys_noDict : ∀ (ds : List D) (ps : List PyData), toPys ds = some ps → PyData.hasDictAll ps = false
  | [], ps, e => by unfold toPys at e; cases e; rfl
  | d :: ds, ps, e => by
    unfold toPys at e
    obtain ⟨p, e1, e2⟩ := Option.bind_eq_some_iff.mp e
    obtain ⟨q, e3, rfl⟩ := Option.map_eq_some_iff.mp e2
    simp only [PyData.hasDictAll, toPy_noDict d p e1, toPys_noDict ds q e3, Bool.or_self]
end
def reprD (d : D) : Option PySem.Str := (toPy d).bind fun p => if p.showable = true ∧ p.depth ≤ 40 ∧ p.shown.length ≤ sizeLine then some p.shown else none
def nRepr : ON
  | [a], so => (rdv so a).bind fun d => (reprD d).map fun s => (.val (.str s), so)
  | _, _ => none
section
variable {X : Cx} {C : Cn} {W : WX} {β β' : List Addr} {sl sl' : Slots} {so so' : Store} {σ σ' : L2.St} {H H' : Hp} {T : Tx} {F : Addr → Prop}
theorem ok_repr {k : Nat} (hK : X.K = C.T.K) (hr : RoomG k X.A) : CallR X (.builtin "repr") (rN C nRepr) := by
  rintro pins s σ H xs us Q I rx ⟨β, sl, so, σ0, as, R, ra, kq⟩
  unfold nRepr at kq
  split at kq
  · rename_i a
    obtain ⟨x, rfl, r⟩ := ra.one
    rcases e : rdv so a with _ | d
    · rw [e] at kq; exact kq.elim
    rw [e] at kq
    have kq : KO C sl σ0 Q β so H ((reprD d).map fun s => (.val (.str s), so)) := kq
    rcases e2 : reprD d with _ | t
    · rw [e2] at kq; exact kq.elim
    rw [e2] at kq
    have q : Q (.str t) H := kq.str R
    obtain ⟨p, e3, e4⟩ := Option.bind_eq_some_iff.mp e2
    split at e4
    · rename_i hs
      obtain ⟨h1, h2, h3⟩ := hs
      cases e4
      obtain ⟨u, rfl, ru⟩ := vals1 rx
      have hd : Dp X.K H x p := by rw [hK]; exact R.dp r e e3
      have hu := hr.room.units
      obtain ⟨as, rd⟩ := Dp.reads I p x u hd ru
      cases d with
      | non =>
        cases e3
        obtain rfl := R.non r e
        cases (show u = Value.none from ru)
        exact call_repr_gives (typeIs_none s) F.slot_NoneType_repr F.entry_NoneType_repr (F.args_NoneType_repr_1 _) gives_none_repr ⟨.str _, H, I.tok _, ⟨_, rfl⟩, q⟩ (hx := h3)
      | bl b =>
        cases e3
        obtain rfl := R.bl r e
        cases (show u = Value.bool b from ru)
        exact call_repr_gives (typeIs_bool s b) F.slot_bool_repr F.entry_bool_repr (F.args_bool_repr_1 _) (gives_bool_repr b) ⟨.str _, H, I.tok _, ⟨_, rfl⟩, q⟩ (hx := h3)
      | int i =>
        cases e3
        obtain rfl := R.int r e
        obtain ⟨tk, rfl⟩ := (show ∃ tk, u = Value.int i tk from ru)
        exact PySem.P.repr_of_int (of_decide_eq_true h1) ⟨.str _, H, I.tok _, ⟨_, rfl⟩, q⟩
      | str z =>
        cases e3
        obtain rfl := R.str r e
        obtain ⟨tk, rfl⟩ := (show ∃ tk, u = Value.str z tk from ru)
        exact call_repr_gives (typeIs_str s z tk) F.slot_str_repr F.entry_str_repr (F.args_str_repr_1 _) (gives_str_repr z tk) ⟨.str _, H, I.tok _, ⟨_, rfl⟩, q⟩ (hx := h3)
      | tup ds =>
        obtain ⟨a', xs', rfl, _, _⟩ := R.tup r e
        cases (show u = Value.ref a' from ru)
        exact repr_of_reads' rd h1 (PyData.noDict_hsm (toPy_noDict _ _ e3)) hr.gd (by omega) (fun _ _ e => e) (fun h' w tk hk => ⟨.str _, H, I.kept hk, ⟨_, rfl⟩, q⟩) h3
      | lst ds =>
        obtain ⟨a', xs', rfl, _, _⟩ := R.lst r e
        cases (show u = Value.ref a' from ru)
        exact repr_of_reads' rd h1 (PyData.noDict_hsm (toPy_noDict _ _ e3)) hr.gd (by omega) (fun _ _ e => e) (fun h' w tk hk => ⟨.str _, H, I.kept hk, ⟨_, rfl⟩, q⟩) h3
      | dct _ _ => unfold toPy at e3; cases e3
      | obj _ _ _ => unfold toPy at e3; cases e3
    · cases e4
  · exact kq.elim
def sortI (ns : List Int) : List Int := ns.mergeSort fun a b => decide (a ≤ b)
theorem sortI_of {ns ms : List Int} (p : ms.Perm ns) (s : ms.Pairwise (· ≤ ·)) : ms = sortI ns := by
  have h2 : (sortI ns).Pairwise (· ≤ ·) := by
    have := List.pairwise_mergeSort (le := fun a b : Int => decide (a ≤ b)) (fun a b c h1 h2 => by simp at *; omega) (fun a b => by simp; omega) ns
    exact this.imp fun h => by simpa using h
  exact (p.trans (List.mergeSort_perm ns _).symm).eq_of_pairwise (fun a b _ _ h1 h2 => Int.le_antisymm h1 h2) s h2
def nSorted : ON
  | [a], so => match rdv so a with
    | some (.lst ds) => (intsD ds).map fun ns => (.loc so.length, so ++ [some (true, .lst ((sortI ns).map .int))])
    | _ => none
  | _, _ => none
theorem fzl_ints : ∀ {ns : List Int}, FzL T F H (ns.map D.int) (ns.map V.int)
  | [] => by unfold FzL; rfl
  | n :: ns => by
    show FzL T F H (.int n :: ns.map D.int) (.int n :: ns.map V.int)
    unfold FzL
    exact ⟨_, _, rfl, by unfold Fz; rfl, fzl_ints⟩
theorem ok_sorted (hK : X.K = C.T.K) : CallR X (.builtin "sorted") (rN C nSorted) := by
  rintro pins s σ H xs us Q I rx ⟨β, sl, so, σ0, as, R, ra, k⟩
  unfold nSorted at k
  split at k
  · obtain ⟨x, rfl, r⟩ := ra.one
    split at k
    · rename_i ds e
      obtain ⟨p, ys, rfl, z1, z2⟩ := R.lst r e
      rcases e2 : intsD ds with _ | ns
      · rw [e2] at k; exact k.elim
      · rw [e2] at k
        obtain rfl := ints_fz z2 e2
        refine cr_sortedI pins s σ H _ us Q I rx ⟨p, ns, rfl, by rw [hK]; exact z1, fun ms q h1 h2 h3 => ?_⟩
        rw [sortI_of h1 h2]
        exact k.lst R fzl_ints q h3
    · exact k.elim
  · exact k.elim
def nMax2 : ON | [.val (.int i), .val (.int j)], so => some (.val (.int (if j > i then j else i)), so) | _, _ => none
def nMin2 : ON | [.val (.int i), .val (.int j)], so => some (.val (.int (if j < i then j else i)), so) | _, _ => none
theorem ok_max (hc : X.calm = true) : CallR X (.builtin "max") (rN C nMax2) := by
  rintro pins s σ H xs us Q I rx ⟨β, sl, so, σ0, as, R, ra, k⟩
  unfold nMax2 at k
  split at k
  · rename_i i j
    obtain ⟨x, y, rfl, r1, r2⟩ := ra.two
    obtain rfl := R.int r1 rfl
    obtain rfl := R.int r2 rfl
    exact call_max2 hc pins s σ H _ us Q I rx ⟨i, j, rfl, k.int R⟩
  · exact k.elim
theorem ok_min (hc : X.calm = true) : CallR X (.builtin "min") (rN C nMin2) := by
  rintro pins s σ H xs us Q I rx ⟨β, sl, so, σ0, as, R, ra, k⟩
  unfold nMin2 at k
  split at k
  · rename_i i j
    obtain ⟨x, y, rfl, r1, r2⟩ := ra.two
    obtain rfl := R.int r1 rfl
    obtain rfl := R.int r2 rfl
    exact call_min2 hc pins s σ H _ us Q I rx ⟨i, j, rfl, k.int R⟩
  · exact k.elim
noncomputable def rgC (i j : Int) : Bool := @decide (RgOk i j) (Classical.propDecidable _)
noncomputable def rgL (i j : Int) (so : Store) : Option (DV × Store) := if rgC i j = true then some (.loc so.length, so ++ [some (true, .lst (rngD i (j - i).toNat))]) else none
noncomputable def fLr1 (fa : EM DV) : EM DV := bnd fa fun a => match a with
  | .val (.int j) => lft (rgL 0 j)
  | _ => fun _ _ => none
noncomputable def fLr2 (fa fb : EM DV) : EM DV := bnd fa fun a => bnd fb fun b => match a, b with
  | .val (.int i), .val (.int j) => lft (rgL i j)
  | _, _ => fun _ _ => none
theorem fzl_rng {i : Int} : ∀ {l : List Nat}, FzL T F H (l.map fun (k : Nat) => D.int (i + k)) (l.map fun (k : Nat) => V.int (i + k))
  | [] => by unfold FzL; rfl
  | n :: ns => by
    show FzL T F H (.int (i + n) :: ns.map _) (.int (i + n) :: ns.map _)
    unfold FzL
    exact ⟨_, _, rfl, by unfold Fz; rfl, fzl_rng⟩
theorem rgL_ok {i j : Int} {Q : VK} (R : Rel C β sl so σ H) (k : KO C sl σ Q β so H (rgL i j so)) : RgOk i j ∧ ∀ q, H q = none → Q (.ref q) (upd H q (.lst (rgV i j))) := by
  unfold rgL at k
  split at k
  · rename_i h
    exact ⟨@of_decide_eq_true _ (Classical.propDecidable _) h, k.lst R fzl_rng⟩
  · exact k.elim
theorem e_lr1 {a : Expr} {fa : EM DV} {p p2 pos pos2 : Pos} (hc : X.calm = true) (hg : Gl X "list") (hm : X.mg "list" = none) (hg2 : Gl X "range") (hm2 : X.mg "range" = none) (ha : PE X a (rdE C W fa)) (hs : starEach [a] X.env = (false, eval a X.env) :: starEach [] X.env) :
    PE X (.Call (.Name "list" p) [.Call (.Name "range" p2) [a] [] pos2] [] pos) (rdE C W (fLr1 fa)) :=
  (pe_listRg hc hg hm (prg_1 hg2 hm2 ha hs)).imp fun σ H Q ⟨β, sl, so, R, k⟩ => ⟨β, sl, so, R, (KR.bnd k).mono fun β1 so1 H1 a x ⟨R1, S1, ra, k1⟩ => by
    split at k1
    · obtain rfl := R1.int ra rfl
      exact ⟨_, rfl, rgL_ok R1 (KO.of k1)⟩
    · exact k1.elim⟩
theorem e_lr2 {a b : Expr} {fa fb : EM DV} {p p2 pos pos2 : Pos} (hc : X.calm = true) (hg : Gl X "list") (hm : X.mg "list" = none) (hg2 : Gl X "range") (hm2 : X.mg "range" = none) (ha : PE X a (rdE C W fa)) (hb : PE X b (rdE C W fb))
    (hs : starEach [a, b] X.env = (false, eval a X.env) :: starEach [b] X.env) (hs2 : starEach [b] X.env = (false, eval b X.env) :: starEach [] X.env) (hp : (backTo pos2 (starEach [b] X.env)).any (·.1) = false) :
    PE X (.Call (.Name "list" p) [.Call (.Name "range" p2) [a, b] [] pos2] [] pos) (rdE C W (fLr2 fa fb)) :=
  (pe_listRg hc hg hm (prg_2 hg2 hm2 ha hb hs hs2 hp)).imp fun σ H Q ⟨β, sl, so, R, k⟩ => ⟨β, sl, so, R, (KR.bnd k).mono fun β1 so1 H1 a x ⟨R1, S1, ra, k1⟩ =>
    ⟨β1, sl, so1, R1, (KR.bnd k1).mono fun β2 so2 H2 b y ⟨R2, S2, rb, k2⟩ => by
      have ra := RV.step S2 ra
      split at k2
      · obtain rfl := R2.int ra rfl
        obtain rfl := R2.int rb rfl
        exact ⟨_, _, rfl, rfl, rgL_ok R2 (KO.of k2)⟩
      · exact k2.elim⟩⟩
end
end BT
end

section
set_option maxRecDepth 100000
namespace BT
open PySem L2 PySem.Spec

structure FS where
  i : Nat
  ms : List Bool
  flat : Bool
structure SE where
  N : List PySem.Str
  sc : Scope
  raw : Scope
  blk : Bool
  ro : List Nat
  fns : List (PySem.Str × FS)
  glb : List (PySem.Str × D)

def fBad {α : Type} : EM α := fun _ _ => none
def sBad : SM := fun _ _ => none
def gBad : GM := fun _ _ _ => none
def slotOf : List PySem.Str → PySem.Str → Option Nat
  | [], _ => none
  | y :: r, x => if x = y then some 0 else (slotOf r x).map (· + 1)
def vis (S : SE) (x : PySem.Str) : Bool := match S.sc.names.lookup x with
  | some .local => true
  | some .cell => true
  | some .free => true
  | _ => false
def gl (S : SE) (x : PySem.Str) : Bool := match S.sc.names.lookup x with
  | some .globalImplicit => true
  | _ => false
def okN (x : PySem.Str) : Bool := !(x == "__debug__") && !(x == "__classdict__")
def isStar : Expr → Bool | .Starred _ _ => true | _ => false
def noStar (es : List Expr) : Bool := es.all fun e => !isStar e
def notSet : Expr → Bool | .Set _ _ _ => false | _ => true
def notSlice : Expr → Bool | .Slice _ _ _ _ => false | _ => true
def notComp : Expr → Bool | .ListComp _ _ _ _ => false | .SetComp _ _ _ _ => false | .DictComp _ _ _ _ _ => false | _ => true
def notTup : Expr → Bool | .Tuple _ _ _ => false | _ => true
def isPlain : Expr → Bool | .UnaryOp .Not _ _ => false | .BoolOp _ _ _ => false | .IfExp _ _ _ _ => false | .Compare _ _ _ _ => false | _ => true
def baseOk : Expr → Bool | .Call (.Name _ _) [] [] _ => false | _ => true
noncomputable def opB : Operator → Option O2
  | .Add => some oAdd | .Sub => some oSub | .Mult => some oMul | .FloorDiv => some oFdiv | .Mod => some oMod | .Pow => some oPow | .LShift => some oShl | .RShift => some oShr | .BitAnd => some oAnd | .BitOr => some oOr | .BitXor => some oXor | _ => none
def opC : CmpOp → O2
  | .Eq => oEq | .NotEq => oNe | .Lt => oB fun i j => decide (i < j) | .LtE => oB fun i j => decide (i ≤ j) | .Gt => oB fun i j => decide (j < i) | .GtE => oB fun i j => decide (j ≤ i)
  | .Is => oIs fun r => r | .IsNot => oIs fun r => !r | .In => oIn fun r => r | .NotIn => oIn fun r => !r
def tyOf (y : PySem.Str) : Option Ty := if y = "int" then some .int else if y = "bool" then some .bool else if y = "str" then some .str else if y = "tuple" then some .tuple else if y = "list" then some .list else if y = "dict" then some .dict else none
def bltN (x : PySem.Str) : Option ON :=
  if x = "len" then some nLen else if x = "int" then some nInt else if x = "abs" then some nAbs else if x = "sum" then some nSum else if x = "any" then some (nBools fun l => l.any id) else if x = "all" then some (nBools fun l => l.all id)
  else if x = "tuple" then some nTuple else if x = "list" then some nList else if x = "repr" then some nRepr else if x = "sorted" then some nSorted else if x = "max" then some nMax2 else if x = "min" then some nMin2 else none
def bltAll : List PySem.Str := ["len", "int", "abs", "sum", "any", "all", "tuple", "list", "repr", "sorted", "max", "min", "isinstance", "range", "bool", "str", "dict"]
def metN (x : PySem.Str) : Option (String × OM) := if x = "append" then some ("list", mAppend) else if x = "pop" then some ("list", mPop) else if x = "count" then some ("str", mCount) else none
def relSc (scope sc : Scope) : Scope := { scope with names := scope.names.map fun (n, k) => if (k == .free && sc.kind == .function && sc.names.lookup n == some .cell) then (n, .cell) else (n, k) }
def ownOf (N : List PySem.Str) (scope : Scope) : List (PySem.Str × Nat) := scope.names.filterMap fun y => match y.2 with
  | .local => (slotOf N y.1).map fun i => (y.1, i)
  | .cell => (slotOf N y.1).map fun i => (y.1, i)
  | _ => none
def inner (S : SE) (scope : Scope) : SE := { S with sc := relSc scope S.sc, raw := scope, blk := true }

mutual
def trG (S : SE) : Nat → Expr → GM × List Nat
  | 0, _ => (gBad, [])
  | n + 1, e => match e with
    | .Name x _ => match slotOf S.N x with
      | some i => (match S.sc.names.lookup x with
        | some .local => if S.blk = true then (gNmC i, [i]) else if S.ro.contains i = true then (gBad, []) else (gNm i, [i])
        | some .cell => (match S.raw.names.lookup x with
          | some .cell => if S.blk = true then (gNmC i, [i]) else if S.ro.contains i = true then (gBad, []) else (gNm i, [i])
          | _ => (gBad, []))
        | _ => (gBad, []))
      | none => (gBad, [])
    | .Tuple es _ _ => if noStar es = true then (gTpl es.length (trGs S n es).1, (trGs S n es).2) else (gBad, [])
    | _ => (gBad, [])
def trGs (S : SE) : Nat → List Expr → GMs × List Nat
  | 0, _ => (fun _ _ _ => none, [])
  | _ + 1, [] => (gNilM, [])
  | n + 1, e :: es => (gConsM (trG S n e).1 (trGs S n es).1, (trG S n e).2 ++ (trGs S n es).2)
end

variable (rs : Nat → Fn)
noncomputable section
mutual
def trE (S : SE) : Nat → Expr → EM DV
  | 0, _ => fBad
  | n + 1, e => match e with
    | .Name x _ => if okN x = true then (if vis S x = true then (match slotOf S.N x with | some i => fVar i | none => fBad) else if gl S x = true then (match S.glb.lookup x with | some d => fC d | none => fBad) else fBad) else fBad
    | .Constant c _ _ => (match c with
      | .int i => fC (.int i)
      | .bool b => fC (.bl b)
      | .str s => fC (.str s)
      | .none => fC .non
      | _ => fBad)
    | .BinOp a op b _ => (match opB op with | some g => f2 g (trE S n a) (trE S n b) | none => fBad)
    | .UnaryOp op a _ => (match op with
      | .Not => fNotV (trE S n a)
      | .USub => f1 oNeg (trE S n a)
      | .Invert => f1 oInv (trE S n a)
      | .UAdd => fBad)
    | .BoolOp op es pos => (match op, es with
      | .And, a :: b :: r => fAndV (trE S n a) (trE S n (.BoolOp .And (b :: r) pos))
      | .Or, a :: b :: r => fOrV (trE S n a) (trE S n (.BoolOp .Or (b :: r) pos))
      | _, [a] => trE S n a
      | _, _ => fBad)
    | .Compare a ops es _ => (match ops, es with
      | [op], [b] => if notSet b = true then f2 (opC op) (trE S n a) (trE S n b) else fBad
      | [op, op'], [b, c] => if notSet c = true then fChain (opC op) (opC op') (trE S n a) (trE S n b) (trE S n c) else fBad
      | _, _ => fBad)
    | .IfExp c a b _ => fIf (trT S n c) (trE S n a) (trE S n b)
    | .Subscript a b _ => (match b with
      | .Slice lo hi none _ => fSl (trE S n a) (trO S n lo) (trO S n hi)
      | .Slice _ _ _ _ => fBad
      | b => f2 oIx (trE S n a) (trE S n b))
    | .Tuple es _ _ => fN nTup (trA S n es)
    | .List es _ => fN nLst (trA S n es)
    | .Dict ks vs _ => (match ks, vs with | [], [] => fDct | _, _ => fBad)
    | .ListComp elt gens scope _ => (match gens with
      | [⟨tg, iter, ifs, 0⟩] => if blkC S.N S.sc scope (ownOf S.N scope) && notSet iter && (trG (inner S scope) n tg).2.all (fun i => ((ownOf S.N scope).map (·.2)).contains i) then
          fLc ((ownOf S.N scope).map (·.2)) (trI S n iter) (trG (inner S scope) n tg).1 (trTs (inner S scope) n ifs) (trE (inner S scope) n elt) else fBad
      | _ => fBad)
    | .JoinedStr es _ => (match es with
      | [.FormattedValue e (-1) (some (.JoinedStr [.Constant (.str s) _ _] _)) _] => if s = ⟨#[98]⟩ then f1 oBin (trE S n e) else fBad
      | _ => fBad)
    | .Call f args kws pos => (match f, kws with
      | .Name x _, [] => if okN x && gl S x && noStar args then (match S.fns.lookup x with
          | some fs => (match args with | [] => fBad | _ => fCall (rs fs.i) fs.ms fs.flat (trA S n args))
          | none => if x = "isinstance" then (match args with
              | [e, .Name y _] => (match tyOf y with | some t => if gl S y = true then fIsi t (trE S n e) else fBad | none => fBad)
              | _ => fBad)
            else if x = "list" then (match args with
              | [.Call (.Name y _) [a] [] _] => if y = "range" then (if gl S y && !isStar a then fLr1 (trE S n a) else fBad) else fN nList (trA S n args)
              | [.Call (.Name y _) [a, b] [] _] => if y = "range" then (if gl S y && !isStar a && !isStar b then fLr2 (trE S n a) (trE S n b) else fBad) else fN nList (trA S n args)
              | [] => fBad
              | _ => fN nList (trA S n args))
            else (match args with
              | [] => fBad
              | _ => (match bltN x with | some g => fN g (trA S n args) | none => fBad))) else fBad
      | .Attribute o m apos, [] => if noStar args && baseOk o && (apos.endLine == pos.line) then (match args with
          | [] => if m = "bit_length" then f1 oBits (trE S n o) else fBad
          | _ => (match metN m with | some (T, g) => if args.length < 29 then fM T g (trE S n o) (trA S n args) else fBad | none => fBad)) else fBad
      | _, _ => fBad)
    | _ => fBad
def trT (S : SE) : Nat → Expr → EM Bool
  | 0, _ => fBad
  | n + 1, e => match e with
    | .UnaryOp op a pos => (match op with | .Not => fNot (trT S n a) | op => fTru (trE S n (.UnaryOp op a pos)))
    | .BoolOp op es pos => trW S n op es pos
    | .IfExp _ _ _ _ => fBad
    | .Compare a ops es _ => (match ops, es with
      | [op], [b] => if notSet b = true then fAsB (f2 (opC op) (trE S n a) (trE S n b)) else fBad
      | [op, op'], [b, c] => if notSet c = true then fAsB (fChain (opC op) (opC op') (trE S n a) (trE S n b) (trE S n c)) else fBad
      | _, _ => fBad)
    | e => fTru (trE S n e)
def trW (S : SE) : Nat → BoolOp → List Expr → Pos → EM Bool
  | 0, _, _, _ => fBad
  | n + 1, op, es, pos => (match op, es with
      | .And, a :: b :: r => fAnd (trT S n a) (trW S n .And (b :: r) pos)
      | .Or, a :: b :: r => fOr (trT S n a) (trW S n .Or (b :: r) pos)
      | _, [a] => trT S n a
      | _, _ => fBad)
def trTs (S : SE) : Nat → List Expr → EM Bool
  | 0, _ => fBad
  | n + 1, es => (match es with | [] => fYes | [c] => trT S n c | _ => fBad)
def trA (S : SE) : Nat → List Expr → EM (List DV)
  | 0, _ => fBad
  | n + 1, es => (match es with | [] => fNil | e :: es => if isStar e = true then fBad else fCons (trE S n e) (trA S n es))
def trO (S : SE) : Nat → Option Expr → EM (Option Int)
  | 0, _ => fBad
  | n + 1, e => (match e with | none => fPart none | some e => fPart (some (trE S n e)))
def trI (S : SE) : Nat → Expr → EM (List D)
  | 0, _ => fBad
  | n + 1, e => match e with
    | .Call f args kws pos => (match f, args, kws with
      | .Name x p, [a], [] => if x = "range" then (if gl S x && !isStar a then fRng (trA S n [a]) else fBad) else fItm (trE S n (.Call (.Name x p) [a] [] pos))
      | .Name x p, [a, b], [] => if x = "range" then (if gl S x && !isStar a && !isStar b then fRng (trA S n [a, b]) else fBad) else fItm (trE S n (.Call (.Name x p) [a, b] [] pos))
      | f, args, kws => fItm (trE S n (.Call f args kws pos)))
    | e => fItm (trE S n e)
end
def sSetG (fe : EM DV) (g : GM) : SM := bnS fe fun a sl so => match frz so a with
  | none => none
  | some (d, so1) => match g d sl so1 with
    | none => none
    | some (sl', so2) => some (.nx, sl', so2.take sl'.length)
mutual
def trS (S : SE) : Nat → Stmt → SM
  | 0, _ => sBad
  | n + 1, st => match st with
    | .Expr e _ => (match e with
      | .Constant (.str _) _ _ => sNx
      | e => if notComp e = true then sExp (trE rs S n e) else sBad)
    | .Return e _ => (match e with | none => sRetN | some e => sRet (trE rs S n e))
    | .Assign tgs e _ => (match tgs with
      | [.Name y py] => (match slotOf S.N y with
        | some i => if S.ro.contains i || S.blk then sBad else (match S.sc.names.lookup y with
          | some .local => sSet i (trE rs S n e)
          | some .cell => (match S.raw.names.lookup y with | some .cell => sSet i (trE rs S n e) | _ => sBad)
          | _ => sBad)
        | none => sBad)
      | [.Subscript o i _] => if notComp e && notSlice i then sSetX (trE rs S n e) (trE rs S n o) (trE rs S n i) else sBad
      | [.Tuple es k p] => if notComp e && notTup e then sSetG (trE rs S n e) (trG S n (.Tuple es k p)).1 else sBad
      | _ => sBad)
    | .If c a b _ => sIf (trT rs S n c) (trSs S n a) (trSs S n b)
    | .For tg iter body els _ => (match els with | [] => if notSet iter = true then sFor (trI rs S n iter) (trG S n tg).1 (trSs S n body) else sBad | _ => sBad)
    | .While c body els _ => (match els with | [] => whl (trT rs S n c) (trSs S n body) 1000000 | _ => sBad)
    | .Pass _ => sNx
    | .Break _ => sBk
    | .Continue _ => sCt
    | _ => sBad
def trSs (S : SE) : Nat → List Stmt → SM
  | 0, _ => sBad
  | n + 1, sts => (match sts with | [] => sNx | st :: r => sq (trS S n st) (trSs S n r))
end
end
end BT
end

section
set_option maxRecDepth 100000
namespace BT
open PySem L2 PySem.Spec

structure OkX (rs : Nat → Fn) (S : SE) (X : Cx) (C : Cn) (W : WX) : Prop where
  N : X.N = S.N
  nd : X.N.Nodup
  sc : X.env.scope = S.sc
  kind : S.sc.kind = .function
  calm : X.calm = true
  K : X.K = C.T.K
  fnc : ∀ x, S.raw.names.lookup x = some .cell → X.fn x = true
  fns : ∀ x fs, S.fns.lookup x = some fs → ∃ (f : Addr) (fd : FuncData) (ps : List PySem.Str) (k : Nat), X.mg x = some (.ref f) ∧ PySem.W.keepIn X.K (.ref f) = true ∧ Binds X.K fd ps [] ∧
    FnG X.prog X.w X.K X.mg X.base k f fd ps (spF C.T fs.ms.length (rs fs.i)) ∧ RoomG k X.A ∧ ∀ ars r, rs fs.i ars = some r → ars.length = fs.ms.length
  glb : ∀ x d, S.glb.lookup x = some d → ∃ v u, X.mg x = some u ∧ RelV v u ∧ ∀ T F H, Fz T F H d v
  blt : ∀ x ∈ bltAll, X.mg x = none
  tk : Takes X W
  rm : ∃ k, RoomG k X.A
  ro : ∀ i, S.ro.contains i = false → ∀ a, C.B[i]? ≠ some (some a)
  pass : S.blk = false → PassesOwn (model X.prog X.w) X.A X.env X.xe

section
variable {rs : Nat → Fn} {S : SE} {X : Cx} {C : Cn} {W : WX}
theorem e_bad {e : Expr} : PE X e (rdE C W fBad) := ⟨fun _ _ _ _ _ _ ⟨_, _, _, _, k⟩ => k.elim⟩
theorem t_bad {e : Expr} : PT X e (rdT C W fBad) := ⟨fun _ _ _ _ _ _ ⟨_, _, _, _, k⟩ => k.elim⟩
theorem w_bad {e : Expr} : PW X e (rdT C W fBad) := ⟨fun _ _ _ _ _ _ _ ⟨_, _, _, _, k⟩ => k.elim⟩
theorem ts_bad {e : List Expr} : PTs X e (rdT C W fBad) := ⟨fun _ _ _ _ _ _ ⟨_, _, _, _, k⟩ => k.elim⟩
theorem a_bad {e : List Expr} : PA X e (rdA C W fBad) := ⟨fun _ _ _ _ _ _ _ ⟨_, _, _, _, k⟩ => k.elim⟩
theorem o_bad {e : Option Expr} : PO X e (rdO C W fBad) := ⟨fun _ _ _ _ _ _ ⟨_, _, _, _, k⟩ => k.elim⟩
theorem i_bad {tg e : Expr} : PI X tg e (rdI C W fBad) := ⟨fun _ _ _ _ _ _ ⟨_, _, _, _, k⟩ => k.elim⟩
theorem s_bad {e : Stmt} : PS X e (rdS C W sBad) := ⟨fun _ _ _ _ _ _ ⟨_, _, _, _, k⟩ => k.elim⟩
theorem ss_bad {e : List Stmt} : PSs X e (rdS C W sBad) := ⟨fun _ _ _ _ _ _ ⟨_, _, _, _, k⟩ => k.elim⟩
theorem g_bad {e : Expr} {ts : List Nat} : PG X e (rdG C ts gBad) := ⟨fun _ _ _ _ _ _ _ _ _ ⟨_, _, _, _, _, _, k⟩ => k.elim⟩
theorem gs_bad {e : List Expr} {ts : List Nat} : PGs X e (rdGs C ts fun _ _ _ => none) := ⟨fun _ _ _ _ _ _ _ _ _ ⟨_, _, _, _, _, _, k⟩ => k.elim⟩

theorem slotOf_get : ∀ {N : List PySem.Str} {x : PySem.Str} {i : Nat}, slotOf N x = some i → N[i]? = some x
  | [], _, _, h => by cases h
  | y :: r, x, i, h => by
    unfold slotOf at h
    split at h
    · rename_i e; cases h; subst e; rfl
    · obtain ⟨j, e, rfl⟩ := Option.map_eq_some_iff.mp h
      exact slotOf_get (N := r) e
theorem okN_of {x : PySem.Str} (h : okN x = true) : (x == ("__debug__" : PySem.Str)) = false ∧ (x == ("__classdict__" : PySem.Str)) = false := by
  unfold okN at h
  rw [Bool.and_eq_true, Bool.not_eq_true', Bool.not_eq_true'] at h
  exact h
theorem gl_of (ok : OkX rs S X C W) {x : PySem.Str} (h : gl S x = true) : Gl X x := by
  show X.env.scope.names.lookup x = _
  rw [ok.sc]
  unfold gl at h
  split at h
  · assumption
  · cases h
theorem vis_of (ok : OkX rs S X C W) {x : PySem.Str} (h : vis S x = true) : Vis X.env.scope x := by
  unfold Vis
  rw [ok.sc]
  unfold vis at h
  split at h
  · exact .inl (by assumption)
  · exact .inr (.inl (by assumption))
  · exact .inr (.inr (by assumption))
  · cases h
theorem star1 {e : Expr} {es : List Expr} {env : Env} (h : isStar e = false) : starEach (e :: es) env = (false, eval e env) :: starEach es env := by
  cases e with
  | Starred _ _ => cases h
  | _ => first | rfl | simp [starEach]
theorem plain_of {env : Env} {pos : Pos} : ∀ {es : List Expr}, noStar es = true → (backTo pos (starEach es env)).any (·.1) = false
  | [], _ => by simp [starEach, backTo]
  | e :: es, h => by
    unfold noStar at h
    rw [List.all_cons, Bool.and_eq_true, Bool.not_eq_true'] at h
    rw [star1 h.1]
    have := plain_of (env := env) (pos := pos) (es := es) h.2
    unfold backTo at this ⊢
    simp only [List.map_cons, List.any_cons, Bool.false_or]
    exact this
theorem noStar_cons {e : Expr} {es : List Expr} (h : noStar (e :: es) = true) : isStar e = false ∧ noStar es = true := by
  unfold noStar at h ⊢
  rw [List.all_cons, Bool.and_eq_true, Bool.not_eq_true'] at h
  exact h
theorem behind_of {op : CmpOp} {b : Expr} (h : notSet b = true) : behindInMarks op b = false := by
  cases b with
  | Set _ _ _ => cases h
  | _ => rfl
theorem last2 {op op' : CmpOp} {b c : Expr} (h : notSet c = true) : lastMarks [op, op'] [b, c] = false := behind_of h
theorem fold_of {e : Expr} {env : Env} (h : notSet e = true) : ∀ x, foldedSetIterable e env x = pure x := by
  intro x
  cases e with
  | Set _ _ _ => cases h
  | _ => rfl
theorem plainIx_of {b : Expr} (h : notSlice b = true) : PlainIx b := by
  intro o i
  cases b with
  | Slice _ _ _ _ => cases h
  | _ => rfl
theorem base_of {o : Expr} {m : PySem.Str} {env : Env} {w : Sem Value} (h : baseOk o = true) : attributeBase o m env w = w := by
  unfold attributeBase
  split
  · rename_i id p pos; cases h
  · rfl
theorem swaps_of {e : Expr} {t : Option Expr} {l : Nat} {env : Env} (h : notComp e = true) : swapsWith e t l env = pure false := by
  cases e with
  | ListComp _ _ _ _ => cases h
  | SetComp _ _ _ _ => cases h
  | DictComp _ _ _ _ _ => cases h
  | _ => rfl
theorem isTrue_of {e : Expr} {env : Env} (h : isPlain e = true) : ∀ whole, PySem.isTrue e env whole = (do let v ← whole; standAt e.pos; holding [v] (truthy v)) := by
  intro whole
  cases e with
  | UnaryOp op _ _ => cases op with
    | Not => cases h
    | _ => first | rfl | simp [PySem.isTrue]
  | BoolOp _ _ _ => cases h
  | IfExp _ _ _ _ => cases h
  | Compare _ _ _ _ => cases h
  | _ => first | rfl | simp [PySem.isTrue]

theorem ok_opB (ok : OkX rs S X C W) {op : Operator} {g : O2} (h : opB op = some g) : OpR X (binaryOp op) (rO C g) := by
  cases op <;> cases h
  · exact ok_add ok.K
  · exact ok_sub
  · exact ok_mul
  · exact ok_mod
  · exact ok_pow
  · exact ok_shl
  · exact ok_shr
  · exact ok_or
  · exact ok_xor
  · exact ok_and
  · exact ok_fdiv
theorem ok_opC (ok : OkX rs S X C W) (op : CmpOp) : OpR X (compareOp op) (rO C (opC op)) := by
  obtain ⟨k, r⟩ := ok.rm
  have hu := r.room.units
  have hu2 := r.room.un
  cases op
  · exact ok_eq ok.K hu
  · exact ok_ne ok.K hu
  · exact ok_lt
  · exact ok_le
  · exact ok_gt
  · exact ok_ge
  · exact ok_is
  · exact ok_isNot
  · exact ok_in ok.K (by omega)
  · exact ok_notIn ok.K (by omega)
end
end BT
end

section
set_option maxRecDepth 100000
set_option maxHeartbeats 1000000
namespace BT
open PySem L2 PySem.Spec

section
variable {rs : Nat → Fn} {S : SE} {X : Cx} {C : Cn} {W : WX}

theorem g_ok : ∀ (n : Nat), (∀ (S : SE) (X : Cx) (C : Cn) (W : WX) (e : Expr), OkX rs S X C W → PG X e (rdG C (trG S n e).2 (trG S n e).1)) ∧ (∀ (S : SE) (X : Cx) (C : Cn) (W : WX) (es : List Expr), OkX rs S X C W → noStar es = true → PGs X es (rdGs C (trGs S n es).2 (trGs S n es).1)) := by
  intro n
  induction n with
  | zero => exact ⟨fun S X C W e ok => by unfold trG; exact g_bad, fun S X C W es ok _ => by unfold trGs; exact gs_bad⟩
  | succ n ih =>
    refine ⟨fun S X C W e ok => ?_, fun S X C W es ok hst => ?_⟩
    · unfold trG
      have name : ∀ {x : PySem.Str} {p : Pos} {i : Nat}, slotOf S.N x = some i → (S.sc.names.lookup x = some .local ∨ S.sc.names.lookup x = some .cell ∧ S.raw.names.lookup x = some .cell) →
          PG X (.Name x p) (rdG C (if S.blk = true then (gNmC i, [i]) else if S.ro.contains i = true then (gBad, []) else (gNm i, [i])).2 (if S.blk = true then (gNmC i, [i]) else if S.ro.contains i = true then (gBad, []) else (gNm i, [i])).1) := by
        intro x p i hi hx
        have hi : X.N[i]? = some x := by rw [ok.N]; exact slotOf_get hi
        have hl : L2.Loc X.env.scope x := by
          unfold L2.Loc
          rw [ok.sc]
          exact hx.imp_right (·.1)
        have hf : X.fn x = true ∨ X.env.scope.names.lookup x = some .local := by
          rw [ok.sc]
          rcases hx with h | h
          · exact .inr h
          · exact .inl (ok.fnc x h.2)
        by_cases hb : S.blk = true
        · simp only [if_pos hb]
          exact g_nameC ok.nd hi hl hf
        · simp only [if_neg hb]
          by_cases hr : S.ro.contains i = true
          · simp only [if_pos hr]
            exact g_bad
          · simp only [if_neg hr]
            exact g_name ok.nd hi hl hf (ok.ro i (by simpa using hr))
      split
      · split
        · rename_i i hi
          split
          · rename_i hx
            exact name hi (.inl hx)
          · rename_i hx
            split
            · rename_i hy
              exact name hi (.inr ⟨hx, hy⟩)
            · exact g_bad
          · exact g_bad
        · exact g_bad
      · rename_i es k p
        split
        · rename_i hs
          refine g_tup ok.K ok.calm (ih.2 S X C W es ok hs) ?_ ?_
          · clear ih name
            induction es with
            | nil => simp [assignEach]
            | cons e es ihe =>
              obtain ⟨h1, h2⟩ := noStar_cons hs
              have := ihe h2
              cases e with
              | Starred _ _ => cases h1
              | _ => simp [assignEach, this]
          · clear ih name
            induction es with
            | nil => simp [assignEach]
            | cons e es ihe =>
              obtain ⟨h1, h2⟩ := noStar_cons hs
              have := ihe h2
              cases e with
              | Starred _ _ => cases h1
              | _ => simp [assignEach, List.findIdx?_cons, this]
        · exact g_bad
      · exact g_bad
    · cases es with
      | nil => unfold trGs; exact g_nil
      | cons e es =>
        unfold trGs
        obtain ⟨h1, h2⟩ := noStar_cons hst
        refine g_cons (ih.1 S X C W e ok) (ih.2 S X C W es ok h2) ?_
        cases e with
        | Starred _ _ => cases h1
        | _ => simp [assignEach]
theorem g_so : ∀ (n : Nat) (S : SE), S.blk = true → (∀ (e : Expr) d sl so sl' so', (trG S n e).1 d sl so = some (sl', so') → so' = so) ∧ (∀ (es : List Expr) ds sl so sl' so', (trGs S n es).1 ds sl so = some (sl', so') → so' = so) := by
  intro n S hb
  induction n with
  | zero => exact ⟨fun e d sl so sl' so' h => (by unfold trG at h; cases h), fun e d sl so sl' so' h => (by unfold trGs at h; cases h)⟩
  | succ n ih =>
    refine ⟨fun e d sl so sl' so' h => ?_, fun es d sl so sl' so' h => ?_⟩
    · unfold trG at h
      split at h
      · split at h
        · split at h
          · rw [if_pos hb] at h; cases h; rfl
          · split at h
            · rw [if_pos hb] at h; cases h; rfl
            · cases h
          · cases h
        · cases h
      · split at h
        · unfold gTpl at h
          dsimp only at h
          split at h
          · split at h
            · exact ih.2 _ _ _ _ _ _ h
            · cases h
          · cases h
        · cases h
      · cases h
    · cases es with
      | nil =>
        unfold trGs at h
        cases d with
        | nil => cases h; rfl
        | cons _ _ => cases h
      | cons e es =>
        unfold trGs at h
        cases d with
        | nil => cases h
        | cons d ds =>
          have h : (match (trG S n e).1 d sl so with
            | none => none
            | some (sl1, so1) => (trGs S n es).1 ds sl1 so1) = some (sl', so') := h
          rcases q : (trG S n e).1 d sl so with _ | ⟨sl1, so1⟩
          · rw [q] at h; cases h
          · rw [q] at h
            have h1 := ih.1 _ _ _ _ _ _ q
            have h2 := ih.2 _ _ _ _ _ _ h
            rw [h2, h1]
theorem trA_len : ∀ (n : Nat) (S : SE) (es : List Expr) sl so r so', trA rs S n es sl so = some (.ok r, so') → r.length = es.length := by
  intro n
  induction n with
  | zero => intro S es sl so r so' h; unfold trA at h; cases h
  | succ n ih =>
    intro S es sl so r so' h
    unfold trA at h
    cases es with
    | nil => cases h; rfl
    | cons e es =>
      have h : (if isStar e = true then fBad else fCons (trE rs S n e) (trA rs S n es)) sl so = some (.ok r, so') := h
      split at h
      · cases h
      · unfold fCons bnd at h
        split at h
        · cases h
        · cases h
        · rename_i a so1 e1
          dsimp only at h
          split at h
          · cases h
          · cases h
          · rename_i b so2 e2
            cases h
            have := ih _ _ _ _ _ _ e2
            simp [this]

structure All (rs : Nat → Fn) (n : Nat) : Prop where
  e : ∀ (S : SE) (X : Cx) (C : Cn) (W : WX) (x : Expr), OkX rs S X C W → PE X x (rdE C W (trE rs S n x))
  t : ∀ (S : SE) (X : Cx) (C : Cn) (W : WX) (x : Expr), OkX rs S X C W → PT X x (rdT C W (trT rs S n x))
  w : ∀ (S : SE) (X : Cx) (C : Cn) (W : WX) (op : BoolOp) (es : List Expr) (pos : Pos), OkX rs S X C W → PW X (.BoolOp op es pos) (rdT C W (trW rs S n op es pos))
  ts : ∀ (S : SE) (X : Cx) (C : Cn) (W : WX) (x : List Expr), OkX rs S X C W → PTs X x (rdT C W (trTs rs S n x))
  a : ∀ (S : SE) (X : Cx) (C : Cn) (W : WX) (x : List Expr), OkX rs S X C W → PA X x (rdA C W (trA rs S n x))
  o : ∀ (S : SE) (X : Cx) (C : Cn) (W : WX) (x : Option Expr), OkX rs S X C W → PO X x (rdO C W (trO rs S n x))
  i : ∀ (S : SE) (X : Cx) (C : Cn) (W : WX) (tg x : Expr), OkX rs S X C W → notSet x = true → PI X tg x (rdI C W (trI rs S n x))

theorem bad_o {e : Option Expr} : PO X e (rdO C W fBad) := o_bad
theorem OkX.inn {scope : Scope} (ok : OkX rs S X C W) (hk : scope.kind = .function) (s : Shared) (H : Hp) (A : Addr) (cl : List (PySem.Str × Addr)) (fp : List Addr) : OkX rs (inner S scope) (X.blk s H scope (compEnvC scope cl A X.env) fp) C W0 where
  N := ok.N
  nd := ok.nd
  sc := by
    show relabel scope X.env = relSc scope S.sc
    rw [← ok.sc]
    rfl
  kind := hk
  calm := ok.calm
  K := ok.K
  fnc := fun x h => by
    show (scope.names.lookup x == some .cell) = true
    rw [show scope.names.lookup x = some .cell from h]
    rfl
  fns := ok.fns
  glb := ok.glb
  blt := ok.blt
  tk := takes0
  rm := ok.rm
  ro := ok.ro
  pass := fun h => nomatch h

theorem call_ok (ok : OkX rs S X C W) {x : PySem.Str} {e : Expr} {es : List Expr} {fa : EM (List DV)} {p pos : Pos} {g : ON} (hx : okN x = true) (hg : gl S x = true) (hs : noStar (e :: es) = true) (hb : bltN x = some g) (ha : PA X (e :: es) (rdA C W fa)) :
    PE X (.Call (.Name x p) (e :: es) [] pos) (rdE C W (fN g fa)) := by
  have hd := (okN_of hx).1
  have hG := gl_of ok hg
  obtain ⟨h1, h2⟩ := noStar_cons hs
  have hst : starEach (e :: es) X.env = (false, eval e X.env) :: starEach es X.env := star1 h1
  have hpl : (backTo pos (starEach es X.env)).any (·.1) = false := plain_of h2
  obtain ⟨k, r⟩ := ok.rm
  unfold bltN at hb
  split at hb
  · rename_i e1; subst e1; cases hb; exact e_callB (ok_len ok.K) hG (ok.blt _ (by decide)) (by decide +kernel) ha (by decide) hd hst hpl
  split at hb
  · rename_i e1; subst e1; cases hb; exact e_callTy ok_int hG (ok.blt _ (by decide)) (by decide +kernel) ha (by decide) hd hst hpl
  split at hb
  · rename_i e1; subst e1; cases hb; exact e_callB ok_abs hG (ok.blt _ (by decide)) (by decide +kernel) ha (by decide) hd hst hpl
  split at hb
  · rename_i e1; subst e1; cases hb; exact e_callB (ok_sum ok.K ok.calm) hG (ok.blt _ (by decide)) (by decide +kernel) ha (by decide) hd hst hpl
  split at hb
  · rename_i e1; subst e1; cases hb; exact e_callB (ok_any ok.K ok.calm) hG (ok.blt _ (by decide)) (by decide +kernel) ha (by decide) hd hst hpl
  split at hb
  · rename_i e1; subst e1; cases hb; exact e_callB (ok_all ok.K ok.calm) hG (ok.blt _ (by decide)) (by decide +kernel) ha (by decide) hd hst hpl
  split at hb
  · rename_i e1; subst e1; cases hb; exact e_callTy (ok_tuple ok.K) hG (ok.blt _ (by decide)) (by decide +kernel) ha (by decide) hd hst hpl
  split at hb
  · rename_i e1; subst e1; cases hb; exact e_callTy (ok_list ok.K) hG (ok.blt _ (by decide)) (by decide +kernel) ha (by decide) hd hst hpl
  split at hb
  · rename_i e1; subst e1; cases hb; exact e_callB (ok_repr ok.K r) hG (ok.blt _ (by decide)) (by decide +kernel) ha (by decide) hd hst hpl
  split at hb
  · rename_i e1; subst e1; cases hb; exact e_callB (ok_sorted ok.K) hG (ok.blt _ (by decide)) (by decide +kernel) ha (by decide) hd hst hpl
  split at hb
  · rename_i e1; subst e1; cases hb; exact e_callB (ok_max ok.calm) hG (ok.blt _ (by decide)) (by decide +kernel) ha (by decide) hd hst hpl
  split at hb
  · rename_i e1; subst e1; cases hb; exact e_callB (ok_min ok.calm) hG (ok.blt _ (by decide)) (by decide +kernel) ha (by decide) hd hst hpl
  · cases hb
theorem tyOf_ok (ok : OkX rs S X C W) {y : PySem.Str} {t : Ty} (h : tyOf y = some t) : X.mg y = none ∧ bootBuiltins y = some (.type t.nm) ∧ y ≠ "__name__" ∧ (y == ("__debug__" : PySem.Str)) = false := by
  unfold tyOf at h
  split at h
  · rename_i e; subst e; cases h; exact ⟨ok.blt _ (by decide), by decide +kernel, by decide, by decide⟩
  split at h
  · rename_i e; subst e; cases h; exact ⟨ok.blt _ (by decide), by decide +kernel, by decide, by decide⟩
  split at h
  · rename_i e; subst e; cases h; exact ⟨ok.blt _ (by decide), by decide +kernel, by decide, by decide⟩
  split at h
  · rename_i e; subst e; cases h; exact ⟨ok.blt _ (by decide), by decide +kernel, by decide, by decide⟩
  split at h
  · rename_i e; subst e; cases h; exact ⟨ok.blt _ (by decide), by decide +kernel, by decide, by decide⟩
  split at h
  · rename_i e; subst e; cases h; exact ⟨ok.blt _ (by decide), by decide +kernel, by decide, by decide⟩
  · cases h
theorem met_ok (ok : OkX rs S X C W) {m : PySem.Str} {T : String} {g : OM} {o e : Expr} {es : List Expr} {fo : EM DV} {fa : EM (List DV)} {apos pos : Pos} (h : metN m = some (T, g)) (hs : noStar (e :: es) = true) (hl : (e :: es).length < 29) (hbs : baseOk o = true) (hp : (apos.endLine == pos.line) = true)
    (ho : PE X o (rdE C W fo)) (ha : PA X (e :: es) (rdA C W fa)) : PE X (.Call (.Attribute o m apos) (e :: es) [] pos) (rdE C W (fM T g fo fa)) := by
  obtain ⟨h1, h2⟩ := noStar_cons hs
  have hst : starEach (e :: es) X.env = (false, eval e X.env) :: starEach es X.env := star1 h1
  have hpl : (backTo pos (starEach es X.env)).any (·.1) = false := plain_of h2
  have hfew : ((backTo pos (starEach (e :: es) X.env)).all (fun x => !x.1) && (backToKw pos (keywordEach [] X.env)).all (fun x => x.1.isSome)
      && decide ((e :: es).length + ([] : List Keyword).length + (if ([] : List Keyword).isEmpty then 0 else 1) < 30)) = true := by
    rw [Bool.and_eq_true, Bool.and_eq_true]
    refine ⟨⟨?_, by simp [keywordEach, backToKw]⟩, ?_⟩
    · rw [hst]
      have : backTo pos ((false, eval e X.env) :: starEach es X.env) = (false, eval e X.env) :: backTo pos (starEach es X.env) := rfl
      rw [this, List.all_cons, Bool.and_eq_true]
      refine ⟨rfl, ?_⟩
      rw [List.all_eq_true]
      intro x hx
      have := List.any_eq_false.mp hpl x hx
      simpa using this
    · simp only [List.length_nil, Nat.add_zero, decide_eq_true_eq]
      simp
      simp at hl
      omega
  unfold metN at h
  split at h
  · rename_i e1; subst e1; cases h
    exact (pe_bm F.plainAttrs_list F.slot_list_append F.type_list_append ok_append ho ha (base_of hbs) hfew hp hst hpl).imp fun σ H Q q => to_bm ok.K q
  split at h
  · rename_i e1; subst e1; cases h
    exact (pe_bm F.plainAttrs_list F.slot_list_pop F.type_list_pop ok_pop ho ha (base_of hbs) hfew hp hst hpl).imp fun σ H Q q => to_bm ok.K q
  split at h
  · rename_i e1; subst e1; cases h
    exact (pe_bm F.plainAttrs_str F.slot_str_count F.type_str_count ok_count ho ha (base_of hbs) hfew hp hst hpl).imp fun σ H Q q => to_bm ok.K q
  · cases h
end
end BT
end

section
set_option maxRecDepth 100000
set_option maxHeartbeats 1000000
namespace BT
open PySem L2 PySem.Spec

section
variable {rs : Nat → Fn} {S : SE} {X : Cx} {C : Cn} {W : WX} {n : Nat}

theorem comp_ok (ih : All rs n) (ok : OkX rs S X C W) {elt tg iter : Expr} {ifs : List Expr} {scope : Scope} {pos : Pos} (h : (blkC S.N S.sc scope (ownOf S.N scope) && notSet iter && (trG (inner S scope) n tg).2.all (fun i => ((ownOf S.N scope).map (·.2)).contains i)) = true) :
    BlkOk X.N X.env.scope scope (ownOf S.N scope) ∧ (∀ x, foldedSetIterable iter X.env x = pure x) ∧ (∀ i ∈ (trG (inner S scope) n tg).2, i ∈ (ownOf S.N scope).map (·.2)) ∧ PI X tg iter (rdI C W (trI rs S n iter)) ∧
    (∀ (s : Shared) (H : Hp) (A : Addr) (cl : List (PySem.Str × Addr)) (fp : List Addr), PG (X.blk s H scope (compEnvC scope cl A X.env) fp) tg (rdG C (trG (inner S scope) n tg).2 (trG (inner S scope) n tg).1)) ∧
    (∀ (s : Shared) (H : Hp) (A : Addr) (cl : List (PySem.Str × Addr)) (fp : List Addr), PTs (X.blk s H scope (compEnvC scope cl A X.env) fp) ifs (rdT C W0 (trTs rs (inner S scope) n ifs))) ∧
    (∀ (s : Shared) (H : Hp) (A : Addr) (cl : List (PySem.Str × Addr)) (fp : List Addr), PE (X.blk s H scope (compEnvC scope cl A X.env) fp) elt (rdE C W0 (trE rs (inner S scope) n elt))) := by
  rw [Bool.and_eq_true, Bool.and_eq_true] at h
  obtain ⟨⟨h1, h2⟩, h3⟩ := h
  have hB : BlkOk X.N X.env.scope scope (ownOf S.N scope) := by rw [ok.N, ok.sc]; exact blkOk_by h1
  refine ⟨hB, fold_of h2, fun i hi => ?_, ih.i S X C W tg iter ok h2, fun s H A cl fp => (g_ok n).1 _ _ C W0 tg (ok.inn hB.kind s H A cl fp), fun s H A cl fp => ih.ts _ _ C W0 ifs (ok.inn hB.kind s H A cl fp), fun s H A cl fp => ih.e _ _ C W0 elt (ok.inn hB.kind s H A cl fp)⟩
  have := List.all_eq_true.mp h3 i hi
  simpa using this
theorem inner_blk {scope : Scope} : (inner S scope).blk = true := rfl

theorem tu_ok (ih : All rs n) (ok : OkX rs S X C W) {e : Expr} (h : isPlain e = true) : PT X e (rdT C W (fTru (trE rs S n e))) := t_tru ok.K (ih.e S X C W e ok) (isTrue_of h)

theorem notSlice_of {b : Expr} (h : ∀ l u s p, b = .Slice l u s p → False) : notSlice b = true := by
  cases b with
  | Slice l u s p => exact (h l u s p rfl).elim
  | _ => rfl
theorem isPlain_of {x : Expr} (h1 : ∀ a b c, x = .UnaryOp a b c → False) (h2 : ∀ a b c, x = .BoolOp a b c → False) (h3 : ∀ a b c d, x = .IfExp a b c d → False) (h4 : ∀ a b c d, x = .Compare a b c d → False) : isPlain x = true := by
  cases x with
  | UnaryOp a b c => exact (h1 a b c rfl).elim
  | BoolOp a b c => exact (h2 a b c rfl).elim
  | IfExp a b c d => exact (h3 a b c d rfl).elim
  | Compare a b c d => exact (h4 a b c d rfl).elim
  | _ => rfl
theorem isPlain_un {op : UnaryOp} {a : Expr} {p : Pos} (h : op = .Not → False) : isPlain (.UnaryOp op a p) = true := by
  cases op with
  | Not => exact (h rfl).elim
  | _ => rfl
theorem cons_of {α : Type} {l : List α} (h : l = [] → False) : ∃ a r, l = a :: r := by
  cases l with
  | nil => exact (h rfl).elim
  | cons a r => exact ⟨a, r, rfl⟩

theorem bltN_list : bltN "list" = some nList := by kernel_rfl
theorem all_ok : ∀ n, All rs n := by
  intro n
  induction n with
  | zero =>
    refine ⟨fun S X C W x ok => ?_, fun S X C W x ok => ?_, fun S X C W op es pos ok => ?_, fun S X C W x ok => ?_, fun S X C W x ok => ?_, fun S X C W x ok => ?_, fun S X C W tg x ok _ => ?_⟩
    · unfold trE; exact e_bad
    · unfold trT; exact t_bad
    · unfold trW; exact w_bad
    · unfold trTs; exact ts_bad
    · unfold trA; exact a_bad
    · unfold trO; exact o_bad
    · unfold trI; exact i_bad
  | succ n ih =>
    refine ⟨fun S X C W x ok => ?_, fun S X C W x ok => ?_, fun S X C W op es pos ok => ?_, fun S X C W x ok => ?_, fun S X C W x ok => ?_, fun S X C W x ok => ?_, fun S X C W tg x ok hns => ?_⟩
    · -- expressions
      unfold trE
      split
      · -- a name
        rename_i x p
        split
        · rename_i hx
          obtain ⟨d1, d2⟩ := okN_of hx
          split
          · rename_i hv
            split
            · rename_i i hi
              exact e_var (by rw [ok.N]; exact slotOf_get hi) (vis_of ok hv) d1 d2
            · exact e_bad
          · split
            · rename_i hg
              split
              · rename_i d hd
                obtain ⟨v, u, g1, g2, g3⟩ := ok.glb x d hd
                exact e_glob (gl_of ok hg) g1 g2 g3 d1
              · exact e_bad
            · exact e_bad
        · exact e_bad
      · split
        · exact e_int
        · exact e_bl
        · exact e_str
        · exact e_non
        · exact e_bad
      · split
        · rename_i g hg
          exact e_bin (ok_opB ok hg) (ih.e S X C W _ ok) (ih.e S X C W _ ok)
        · exact e_bad
      · split
        · exact e_not (ih.e S X C W _ ok)
        · exact e_un ok_neg (ih.e S X C W _ ok)
        · exact e_un ok_inv (ih.e S X C W _ ok)
        · exact e_bad
      · split
        · exact e_and (ih.e S X C W _ ok) (ih.e S X C W _ ok)
        · exact e_or (ih.e S X C W _ ok) (ih.e S X C W _ ok)
        · exact e_one (ih.e S X C W _ ok)
        · exact e_bad
      · split
        · split
          · rename_i hs
            exact e_cmp (ok_opC ok _) (ih.e S X C W _ ok) (ih.e S X C W _ ok) (behind_of hs)
          · exact e_bad
        · split
          · rename_i hs
            exact e_chain (ok_opC ok _) (ok_opC ok _) (ih.e S X C W _ ok) (ih.e S X C W _ ok) (ih.e S X C W _ ok) (last2 hs)
          · exact e_bad
        · exact e_bad
      · exact e_if (ih.t S X C W _ ok) (ih.e S X C W _ ok) (ih.e S X C W _ ok)
      · split
        · exact e_slice ok.K (ih.e S X C W _ ok) (ih.o S X C W _ ok) (ih.o S X C W _ ok)
        · exact e_bad
        · rename_i hb
          exact e_ix (ok_ix ok.K) (ih.e S X C W _ ok) (ih.e S X C W _ ok) (plainIx_of (notSlice_of hb))
      · exact e_tup (ih.a S X C W _ ok)
      · exact e_lst (ih.a S X C W _ ok)
      · split
        · exact e_dct0
        · exact e_bad
      · split
        · rename_i tg iter ifs
          split
          · rename_i hc
            obtain ⟨c1, c2, c3, c4, c5, c6, c7⟩ := comp_ok (tg := tg) (ifs := ifs) (pos := ⟨0, 0, 0, 0⟩) ih ok hc
            exact e_lc ((g_so n _ inner_blk).1 tg) c3 ok.calm ok.nd c4 c1 c5 c6 c7 c2
          · exact e_bad
        · exact e_bad
      · split
        · split
          · rename_i hs
            subst hs
            exact e_fmtB (ih.e S X C W _ ok)
          · exact e_bad
        · exact e_bad
      · rename_i f0 args kws0 pos0
        split
        · rename_i x p
          split
          · rename_i hx
            rw [Bool.and_eq_true, Bool.and_eq_true] at hx
            obtain ⟨⟨hx, hg⟩, hst⟩ := hx
            split
            · rename_i fs hf
              split
              · exact e_bad
              · rename_i hne
                obtain ⟨e, es, rfl⟩ := cons_of hne
                · obtain ⟨f, fd, ps, k, m1, m2, m3, m4, m5, m6⟩ := ok.fns x fs hf
                  obtain ⟨h1, h2⟩ := noStar_cons hst
                  exact e_call m6 m4 m5 ok.tk (gl_of ok hg) m1 m2 m3 (ih.a S X C W _ ok) (okN_of hx).1 (star1 h1) (plain_of h2)
            · split
              · rename_i hi
                subst hi
                split
                · rename_i e y p2
                  split
                  · rename_i t ht
                    split
                    · rename_i hgy
                      obtain ⟨b1, b2, b3, b4⟩ := tyOf_ok ok ht
                      obtain ⟨h1, h2⟩ := noStar_cons hst
                      exact e_isi ok.K (gl_of ok hg) (ok.blt _ (by decide)) (gl_of ok hgy) b1 b2 b3 b4 (ih.e S X C W _ ok) (star1 h1)
                    · exact e_bad
                  · exact e_bad
                · exact e_bad
              · split
                · rename_i hi
                  subst hi
                  split
                  · split
                    · rename_i hy
                      subst hy
                      split
                      · rename_i hc
                        rw [Bool.and_eq_true, Bool.not_eq_true'] at hc
                        exact e_lr1 ok.calm (gl_of ok hg) (ok.blt _ (by decide)) (gl_of ok hc.1) (ok.blt _ (by decide)) (ih.e S X C W _ ok) (star1 hc.2)
                      · exact e_bad
                    · exact call_ok ok hx hg hst bltN_list (ih.a S X C W _ ok)
                  · split
                    · rename_i hy
                      subst hy
                      split
                      · rename_i hc
                        rw [Bool.and_eq_true, Bool.and_eq_true, Bool.not_eq_true', Bool.not_eq_true'] at hc
                        exact e_lr2 ok.calm (gl_of ok hg) (ok.blt _ (by decide)) (gl_of ok hc.1.1) (ok.blt _ (by decide)) (ih.e S X C W _ ok) (ih.e S X C W _ ok) (star1 hc.1.2) (star1 hc.2) (by rw [star1 hc.2]; simp [starEach, backTo])
                      · exact e_bad
                    · exact call_ok ok hx hg hst bltN_list (ih.a S X C W _ ok)
                  · exact e_bad
                  · rename_i hne
                    obtain ⟨e, es, rfl⟩ := cons_of hne
                    exact call_ok ok hx hg hst bltN_list (ih.a S X C W _ ok)
                · split
                  · exact e_bad
                  · rename_i hne
                    split
                    · rename_i g hb
                      obtain ⟨e, es, rfl⟩ := cons_of hne
                      exact call_ok ok hx hg hst hb (ih.a S X C W _ ok)
                    · exact e_bad
          · exact e_bad
        · rename_i o m apos
          split
          · rename_i hc
            rw [Bool.and_eq_true, Bool.and_eq_true] at hc
            obtain ⟨⟨hst, hbs⟩, hp⟩ := hc
            split
            · split
              · rename_i hm
                subst hm
                exact e_bits (ih.e S X C W _ ok) (base_of hbs) hp
              · exact e_bad
            · rename_i hne
              split
              · rename_i T g hm
                split
                · rename_i hl
                  obtain ⟨e, es, rfl⟩ := cons_of hne
                  exact met_ok ok hm hst hl hbs hp (ih.e S X C W _ ok) (ih.a S X C W _ ok)
                · exact e_bad
              · exact e_bad
          · exact e_bad
        · exact e_bad
      · exact e_bad
    · -- tests
      unfold trT
      split
      · split
        · exact t_not (ih.t S X C W _ ok)
        · rename_i hop
          exact tu_ok ih ok (isPlain_un hop)
      · exact (ih.w S X C W _ _ _ ok).pt
      · exact t_bad
      · split
        · split
          · rename_i hs
            exact t_cmp (ok_opC ok _) (ih.e S X C W _ ok) (ih.e S X C W _ ok) (behind_of hs)
          · exact t_bad
        · split
          · rename_i hs
            exact t_chain (ok_opC ok _) (ok_opC ok _) (ih.e S X C W _ ok) (ih.e S X C W _ ok) (ih.e S X C W _ ok) (last2 hs)
          · exact t_bad
        · exact t_bad
      · rename_i h1 h2 h3 h4
        exact tu_ok ih ok (isPlain_of h1 h2 h3 h4)
    · unfold trW
      split
      · exact t_and (ih.t S X C W _ ok) (ih.w S X C W _ _ _ ok)
      · exact t_or (ih.t S X C W _ ok) (ih.w S X C W _ _ _ ok)
      · cases op with
        | And => exact t_and1 (ih.t S X C W _ ok)
        | Or => exact t_or1 (ih.t S X C W _ ok)
      · exact w_bad
    · unfold trTs
      split
      · exact ts_nil
      · exact ts_one (ih.t S X C W _ ok)
      · exact ts_bad
    · unfold trA
      split
      · exact a_nil
      · split
        · exact a_bad
        · rename_i hs
          exact a_cons (ih.e S X C W _ ok) (ih.a S X C W _ ok) (star1 (by simpa using hs))
    · unfold trO
      split
      · exact o_none
      · exact o_some (ih.e S X C W _ ok)
    · unfold trI
      split
      · split
        · rename_i x p a
          split
          · rename_i hx
            subst hx
            split
            · rename_i hc
              rw [Bool.and_eq_true, Bool.not_eq_true'] at hc
              exact i_rng1 (gl_of ok hc.1) (ok.blt _ (by decide)) (ih.a S X C W _ ok) (by rw [star1 hc.2]; simp [starEach]) fun sl so r so' h => trA_len n S [a] sl so r so' h
            · exact i_bad
          · exact i_seq ok.K (ih.e S X C W _ ok)
        · rename_i x p a b
          split
          · rename_i hx
            subst hx
            split
            · rename_i hc
              rw [Bool.and_eq_true, Bool.and_eq_true, Bool.not_eq_true', Bool.not_eq_true'] at hc
              exact i_rng2 (gl_of ok hc.1.1) (ok.blt _ (by decide)) (ih.a S X C W _ ok) (by rw [star1 hc.1.2, star1 hc.2]; simp [starEach]) (by rw [star1 hc.2]; simp [starEach]) fun sl so r so' h => trA_len n S [a, b] sl so r so' h
            · exact i_bad
          · exact i_seq ok.K (ih.e S X C W _ ok)
        · exact i_seq ok.K (ih.e S X C W _ ok)
      · exact i_seq ok.K (ih.e S X C W _ ok)
end
end BT
end

section
set_option maxRecDepth 100000
set_option maxHeartbeats 1000000
namespace BT
open PySem L2 PySem.Spec

section
variable {rs : Nat → Fn} {S : SE} {X : Cx} {C : Cn} {W : WX} {n : Nat} {σ : L2.St} {H : Hp}
theorem _root_.L2.PS.impI {X : Cx} {st : Stmt} {t t' : TS} (h : PS X st t) (i : ∀ D σ H, σ.length = X.N.length → t' D σ H → t D σ H) : PS X st t' := ⟨fun pins s σ H D I q => h.run pins s σ H D I (i D σ H I.len q)⟩
theorem to_setI {i : Nat} {fe : EM DV} {te : TE} {D : Ends} (hb : ∀ a, C.B[i]? ≠ some (some a)) (hi : i < X.N.length) (hl : σ.length = X.N.length) (i2 : ∀ σ H Q, rdE C W fe σ H Q → te σ H Q) (q : rdS C W (sSet i fe) D σ H) : tAsg te (gName i) D σ H := by
  refine i2 _ _ _ ?_
  obtain ⟨β, sl, so, R, k⟩ := q
  exact ⟨β, sl, so, R, (KS.bnS (Ra := RV) R k).mono fun β1 so1 H1 a x ⟨R1, S1, ra, k1⟩ => stor_ok hb (by rw [← R1.sll, hl]; exact hi) R1 ra k1⟩
theorem s_set {i : Nat} {y : PySem.Str} {e : Expr} {fe : EM DV} {py pos : Pos} (hN : X.N.Nodup) (hi : X.N[i]? = some y) (hx : L2.Loc X.env.scope y) (hf : X.fn y = true ∨ X.env.scope.names.lookup y = some .local) (hb : ∀ a, C.B[i]? ≠ some (some a)) (he : PE X e (rdE C W fe))
    (hs : swapsWith e (some (.Name y py)) pos.line X.env = pure false) : PS X (.Assign [.Name y py] e pos) (rdS C W (sSet i fe)) :=
  (ps_set hN hi hx he hs hf).impI fun D σ H hl q => to_setI hb (List.getElem?_eq_some_iff.mp hi).1 hl (fun σ H Q q => q) q
theorem s_setLcI {i : Nat} {y : PySem.Str} {py spos : Pos} {elt tg iter : Expr} {ifs : List Expr} {scope : Scope} {own : List (PySem.Str × Nat)} {pos : Pos} {g : GM} {ts : List Nat} {fi : EM (List D)} {ft : EM Bool} {fe : EM DV} (hgs : ∀ d sl so sl' so', g d sl so = some (sl', so') → so' = so) (hts : ∀ i ∈ ts, i ∈ own.map (·.2))
    (hc : X.calm = true) (hN : X.N.Nodup) (hy : X.N[i]? = some y) (hyl : X.env.scope.names.lookup y = some .local) (hsw : swapsWith (.ListComp elt [⟨tg, iter, ifs, 0⟩] scope pos) (some (.Name y py)) spos.line X.env = pure true)
    (hi : PI X tg iter (rdI C W fi)) (ok : BlkOk X.N X.env.scope scope own)
    (hg : ∀ (s : Shared) (H : Hp) (A : Addr) (cl : List (PySem.Str × Addr)) (fp : List Addr), PG (X.blk s H scope (compEnvC scope cl A X.env) fp) tg (rdG C ts g))
    (ht : ∀ (s : Shared) (H : Hp) (A : Addr) (cl : List (PySem.Str × Addr)) (fp : List Addr), PTs (X.blk s H scope (compEnvC scope cl A X.env) fp) ifs (rdT C W0 ft))
    (he : ∀ (s : Shared) (H : Hp) (A : Addr) (cl : List (PySem.Str × Addr)) (fp : List Addr), PE (X.blk s H scope (compEnvC scope cl A X.env) fp) elt (rdE C W0 fe)) (hs : ∀ x, foldedSetIterable iter X.env x = pure x)
    (hb : ∀ a, C.B[i]? ≠ some (some a)) : PS X (.Assign [.Name y py] (.ListComp elt [⟨tg, iter, ifs, 0⟩] scope pos) spos) (rdS C W (sSet i (fLc (own.map (·.2)) fi g ft fe))) :=
  (ps_setLc hc hN hy hyl hsw hi ok hg ht he hs).impI fun D σ H hl q => to_setI hb (List.getElem?_eq_some_iff.mp hy).1 hl (fun σ H Q q => to_lc hgs hts q) q
theorem s_setG {tg e : Expr} {ts : List Nat} {g : GM} {fe : EM DV} {pos : Pos} (he : PE X e (rdE C W fe)) (hg : PG X tg (rdG C ts g)) (hs : swapsWithSole [tg] e pos.line X.env = pure false) (hw : swappedStores [tg] e X.env = pure none) (h1 : (assignEach [tg] X.env).map (·.2) = [assign tg X.env]) : PS X (.Assign [tg] e pos) (rdS C W (sSetG fe g)) :=
  (ps_asg he hg hs hw h1).imp fun D σ H ⟨β, sl, so, R, k⟩ => ⟨β, sl, so, R, (KS.bnS (Ra := RV) R k).mono fun β1 so1 H1 a x ⟨R1, S1, ra, k1⟩ => by
    rcases e1 : frz so1 a with _ | ⟨d, so2⟩
    · simp only [e1] at k1; exact k1.elim
    · simp only [e1] at k1
      obtain ⟨R2, S2, z⟩ := R1.frz ra e1
      refine ⟨β1, sl, so2, d, R2, z, ?_⟩
      rcases e2 : g d sl so2 with _ | ⟨sl3, so3⟩
      · simp only [e2] at k1; exact k1
      · simp only [e2] at k1
        exact fun σ3 A3 R3 S3 => k1 _ σ3 H1 (R3.cut (n := sl3.length) (Nat.le_refl _)) ((S2.toStep.trans S3).trans Step.cut)⟩
theorem s_setX {o i e : Expr} {fe fo fi : EM DV} {p pos : Pos} (he : PE X e (rdE C W fe)) (ho : PE X o (rdE C W fo)) (hi : PE X i (rdE C W fi)) (hs : notComp e = true) (hn : notSlice i = true) : PS X (.Assign [.Subscript o i p] e pos) (rdS C W (sSetX fe fo fi)) :=
  (ps_asg he (pg_sub ho hi set_list (fun v => by
    cases i with
    | Slice _ _ _ _ => cases hn
    | _ => exact PySem.arm_assign_Subscript o _ p X.env v)) (by unfold swapsWithSole; exact swaps_of hs) (by unfold swappedStores; rfl) rfl).imp fun D σ H q => to_setX q

theorem lc_swap (ok : OkX rs S X C W) {elt tg iter : Expr} {ifs : List Expr} {scope : Scope} {pos py : Pos} {y : PySem.Str} {l : Nat} :
    swapsWith (.ListComp elt [⟨tg, iter, ifs, 0⟩] scope pos) (some (.Name y py)) l X.env = pure true ∧ S.sc.names.lookup y = some .local ∨ swapsWith (.ListComp elt [⟨tg, iter, ifs, 0⟩] scope pos) (some (.Name y py)) l X.env = pure false := by
  have hk : X.env.scope.kind = .function := by rw [ok.sc]; exact ok.kind
  have hb : X.env.blockKind = .function := by unfold Env.blockKind; rw [hk]; rfl
  have e : swapsWith (.ListComp elt [⟨tg, iter, ifs, 0⟩] scope pos) (some (.Name y py)) l X.env = pure (X.env.blockKind == .function && X.env.kindOf y == some .local && py.line == (Expr.ListComp elt [⟨tg, iter, ifs, 0⟩] scope pos).pos.line && !(scope.names.any fun (n, k) => n == y && (k == .local || k == .cell))) := rfl
  rw [e]
  cases q : (X.env.blockKind == .function && X.env.kindOf y == some .local && py.line == (Expr.ListComp elt [⟨tg, iter, ifs, 0⟩] scope pos).pos.line && !(scope.names.any fun (n, k) => n == y && (k == .local || k == .cell))) with
  | false => exact .inr rfl
  | true =>
    refine .inl ⟨rfl, ?_⟩
    rw [Bool.and_eq_true, Bool.and_eq_true, Bool.and_eq_true] at q
    have := q.1.1.2
    rw [← ok.sc]
    exact eq_of_beq this

structure AllS (rs : Nat → Fn) (n : Nat) : Prop where
  s : ∀ (S : SE) (X : Cx) (C : Cn) (W : WX) (x : Stmt), OkX rs S X C W → S.blk = false → PS X x (rdS C W (trS rs S n x))
  ss : ∀ (S : SE) (X : Cx) (C : Cn) (W : WX) (x : List Stmt), OkX rs S X C W → S.blk = false → PSs X x (rdS C W (trSs rs S n x))

theorem lc_set (ok : OkX rs S X C W) (i : Nat) {y : PySem.Str} {e : Expr} {py pos : Pos} (hi : slotOf S.N y = some i) (hx : S.sc.names.lookup y = some .local ∨ S.sc.names.lookup y = some .cell) (hf : X.fn y = true ∨ X.env.scope.names.lookup y = some .local) (hb : ∀ a, C.B[i]? ≠ some (some a)) :
    PS X (.Assign [.Name y py] e pos) (rdS C W (sSet i (trE rs S n e))) := by
  have hN : X.N[i]? = some y := by rw [ok.N]; exact slotOf_get hi
  have hl : L2.Loc X.env.scope y := by unfold L2.Loc; rw [ok.sc]; exact hx
  have he := (all_ok (rs := rs) n).e S X C W e ok
  by_cases hc : notComp e = true
  · exact s_set ok.nd hN hl hf hb he (swaps_of hc)
  · cases n with
    | zero => unfold trE; exact ⟨fun _ _ _ _ _ _ ⟨_, _, _, _, k⟩ => k.elim⟩
    | succ n =>
      cases e with
      | ListComp elt gens scope p =>
        unfold trE at he ⊢
        dsimp only
        split
        · rename_i tg iter ifs
          split
          · rename_i hcond
            have he : PE X (.ListComp elt [⟨tg, iter, ifs, 0⟩] scope p) (rdE C W (if (blkC S.N S.sc scope (ownOf S.N scope) && notSet iter && (trG (inner S scope) n tg).2.all (fun i => ((ownOf S.N scope).map (·.2)).contains i)) = true then fLc ((ownOf S.N scope).map (·.2)) (trI rs S n iter) (trG (inner S scope) n tg).1 (trTs rs (inner S scope) n ifs) (trE rs (inner S scope) n elt) else fBad)) := he
            rw [if_pos hcond] at he
            rcases lc_swap ok (elt := elt) (tg := tg) (iter := iter) (ifs := ifs) (scope := scope) (pos := p) (py := py) (y := y) (l := pos.line) with ⟨h1, h2⟩ | h1
            · obtain ⟨c1, c2, c3, c4, c5, c6, c7⟩ := comp_ok (elt := elt) (tg := tg) (ifs := ifs) (pos := p) (all_ok (rs := rs) n) ok hcond
              exact s_setLcI ((g_so n _ inner_blk).1 tg) c3 ok.calm ok.nd hN (by rw [ok.sc]; exact h2) h1 c4 c1 c5 c6 c7 c2 hb
            · exact s_set ok.nd hN hl hf hb he h1
          · exact ⟨fun _ _ _ _ _ _ ⟨_, _, _, _, k⟩ => k.elim⟩
        · exact ⟨fun _ _ _ _ _ _ ⟨_, _, _, _, k⟩ => k.elim⟩
      | SetComp _ _ _ _ => unfold trE; exact ⟨fun _ _ _ _ _ _ ⟨_, _, _, _, k⟩ => k.elim⟩
      | DictComp _ _ _ _ _ => unfold trE; exact ⟨fun _ _ _ _ _ _ ⟨_, _, _, _, k⟩ => k.elim⟩
      | _ => exact absurd rfl hc
end
end BT
end

section
set_option maxRecDepth 100000
set_option maxHeartbeats 1000000
namespace BT
open PySem L2 PySem.Spec

section
variable {rs : Nat → Fn} {S : SE} {X : Cx} {C : Cn} {W : WX} {n : Nat} {σ : L2.St} {H : Hp}
theorem swst_of {e : Expr} {es : List Expr} {k : Nat} {p : Pos} {env : Env} (h : notTup e = true) : swappedStores [.Tuple es k p] e env = pure none := by
  unfold swappedStores
  cases e with
  | Tuple _ _ _ => cases h
  | _ => rfl
theorem allS_ok : ∀ n, AllS rs n := by
  intro n
  induction n with
  | zero =>
    refine ⟨fun S X C W x ok _ => ?_, fun S X C W x ok _ => ?_⟩
    · unfold trS; exact s_bad
    · unfold trSs; exact ss_bad
  | succ n ih =>
    refine ⟨fun S X C W x ok hb => ?_, fun S X C W x ok hb => ?_⟩
    · unfold trS
      split
      · split
        · exact s_doc
        · split
          · rename_i hc
            exact s_expr ((all_ok n).e S X C W _ ok) (swaps_of hc)
          · exact s_bad
      · split
        · exact s_retN
        · exact s_ret ((all_ok n).e S X C W _ ok)
      · split
        · split
          · rename_i i hi
            split
            · exact s_bad
            · rename_i hr
              rw [Bool.or_eq_true, not_or] at hr
              have hro : ∀ a, C.B[i]? ≠ some (some a) := ok.ro i (by simpa using hr.1)
              split
              · rename_i hl
                exact lc_set ok i hi (.inl hl) (.inr (by rw [ok.sc]; exact hl)) hro
              · rename_i hl
                split
                · rename_i hl2
                  exact lc_set ok i hi (.inr hl) (.inl (ok.fnc _ hl2)) hro
                · exact s_bad
              · exact s_bad
          · exact s_bad
        · split
          · rename_i hc
            rw [Bool.and_eq_true] at hc
            exact s_setX ((all_ok n).e S X C W _ ok) ((all_ok n).e S X C W _ ok) ((all_ok n).e S X C W _ ok) hc.1 hc.2
          · exact s_bad
        · split
          · rename_i hc
            rw [Bool.and_eq_true] at hc
            exact s_setG ((all_ok n).e S X C W _ ok) ((g_ok (rs := rs) n).1 S X C W _ ok) (by unfold swapsWithSole; exact swaps_of hc.1) (swst_of hc.2) rfl
          · exact s_bad
        · exact s_bad
      · exact s_if ((all_ok n).t S X C W _ ok) (ih.ss S X C W _ ok hb) (ih.ss S X C W _ ok hb)
      · split
        · split
          · rename_i hs
            exact s_for (ok.pass hb) ok.calm ((all_ok n).i S X C W _ _ ok hs) ((g_ok (rs := rs) n).1 S X C W _ ok) (ih.ss S X C W _ ok hb) (fold_of hs)
          · exact s_bad
        · exact s_bad
      · split
        · exact s_while _ (ok.pass hb) ((all_ok n).t S X C W _ ok) (ih.ss S X C W _ ok hb)
        · exact s_bad
      · exact s_pass
      · exact s_break
      · exact s_continue
      · exact s_bad
    · unfold trSs
      split
      · exact s_nil
      · exact s_cons (ih.s S X C W _ ok hb) (ih.ss S X C W _ ok hb)
end
end BT
end

section
set_option maxRecDepth 100000
set_option maxHeartbeats 1000000
namespace BT
open PySem L2 PySem.Spec PyProof.Rows

structure DF where
  x : PySem.Str
  ms : List Bool
  flat : Bool
  N : List PySem.Str
  st : Stmt
def roOf (ms : List Bool) : List Nat := (List.range ms.length).filter fun i => ms[i]? == some true
def fnsOf : Nat → List DF → List (PySem.Str × FS)
  | _, [] => []
  | i, d :: r => (d.x, ⟨i, d.ms, d.flat⟩) :: fnsOf (i + 1) r
def seOf (ds : List DF) (glb : List (PySem.Str × D)) (d : DF) : SE := ⟨d.N, defScope d.st, defScope d.st, false, roOf d.ms, fnsOf 0 ds, glb⟩
noncomputable def rsL (ds : List DF) (glb : List (PySem.Str × D)) : Nat → Nat → Fn
  | 0, _ => fun _ => none
  | k + 1, i => match ds[i]? with
    | none => fun _ => none
    | some d => runF d.ms d.N.length (trSs (rsL ds glb k) (seOf ds glb d) 400 (defBody d.st))
theorem fnsOf_get : ∀ {ds : List DF} {j : Nat} {x : PySem.Str} {fs : FS}, (fnsOf j ds).lookup x = some fs → ∃ i d, ds[i]? = some d ∧ d.x = x ∧ fs = ⟨j + i, d.ms, d.flat⟩
  | [], _, _, _, h => by cases h
  | d :: r, j, x, fs, h => by
    unfold fnsOf at h
    rw [List.lookup_cons] at h
    split at h
    · rename_i e
      cases h
      exact ⟨0, d, rfl, (eq_of_beq e).symm, rfl⟩
    · obtain ⟨i, d', e1, e2, e3⟩ := fnsOf_get h
      exact ⟨i + 1, d', by simpa using e1, e2, by rw [e3, show j + 1 + i = j + (i + 1) by omega]⟩
theorem roOf_of {ms : List Bool} {i : Nat} (h : (roOf ms).contains i = false) : ms[i]? ≠ some true := fun e => by
  have hi := (List.getElem?_eq_some_iff.mp e).1
  have : i ∈ roOf ms := by
    unfold roOf
    rw [List.mem_filter]
    exact ⟨List.mem_range.mpr hi, by rw [e]; rfl⟩
  rw [← List.contains_iff_mem] at this
  rw [h] at this
  cases this

structure TxtOk (K : PySem.W.Frag) (mg : PySem.Str → Option Value) (ds : List DF) (glb : List (PySem.Str × D)) : Prop where
  def_ : ∀ (i : Nat) (d : DF), ds[i]? = some d → ∃ (f : Addr) (fd : FuncData) (ps : List PySem.Str) (qual : PySem.Str), mg d.x = some (.ref f) ∧ Fun K d.x qual d.st f fd ∧ FnScope d.N ps (defScope d.st) ∧ ps.length = d.ms.length ∧ Binds K fd ps []
  glb : ∀ x d, glb.lookup x = some d → ∃ v u, mg x = some u ∧ RelV v u ∧ ∀ T F H, Fz T F H d v
  blt : ∀ x ∈ bltAll, mg x = none
section
variable {P : Program} {w : World} {K : PySem.W.Frag} {mg : PySem.Str → Option Value} {base : Heap} {ds : List DF} {glb : List (PySem.Str × D)} {T : Tx}
theorem rsL_len {k i : Nat} {d : DF} (hd : ds[i]? = some d) : ∀ ars r, rsL ds glb k i ars = some r → ars.length = d.ms.length := by
  cases k with
  | zero => intro ars r h; cases h
  | succ k =>
    intro ars r h
    unfold rsL at h
    rw [hd] at h
    exact runF_len ars r h
theorem level (tx : TxtOk K mg ds glb) (hT : T.K = K) : ∀ (k : Nat) (i : Nat) (d : DF), ds[i]? = some d → ∀ (f : Addr) (fd : FuncData) (ps : List PySem.Str) (qual : PySem.Str), mg d.x = some (.ref f) → Fun K d.x qual d.st f fd → FnScope d.N ps (defScope d.st) → ps.length = d.ms.length →
    FnG P w K mg base k f fd ps (spF T d.ms.length (rsL ds glb k i)) := by
  intro k
  induction k with
  | zero =>
    intro i d hd f fd ps qual hm F Sc hp
    refine ⟨fun vs H Q E h => by rw [h.1, hp], fun A outer s H args us vs Q E hr he hb hv hs => ?_⟩
    obtain ⟨_, _, _, _, _, _, p⟩ := hs
    exact p.elim
  | succ k ih =>
    intro i d hd f fd ps qual hm F Sc hp
    have e : rsL ds glb (k + 1) i = runF d.ms d.N.length (trSs (rsL ds glb k) (seOf ds glb d) 400 (defBody d.st)) := by
      conv => lhs; unfold rsL
      rw [hd]
    rw [e]
    refine BT.Fun.okG F Sc hp fun cdv A outer s H E C hC hB hr => ?_
    refine (allS_ok (rs := rsL ds glb k) 400).ss (seOf ds glb d) _ C _ (defBody d.st) ?_ rfl
    exact {
      N := rfl
      nd := Sc.nd
      sc := rfl
      kind := Sc.kind
      calm := rfl
      K := by show K = C.T.K; rw [hC, hT]
      fnc := fun _ _ => rfl
      fns := fun x fs hx => by
        obtain ⟨j, d', e1, e2, rfl⟩ := fnsOf_get hx
        obtain ⟨f', fd', ps', q', m1, m2, m3, m4, m5⟩ := tx.def_ j d' e1
        rw [Nat.zero_add]
        rw [hC]
        exact ⟨f', fd', ps', k, by rw [← e2]; exact m1, m2.kp, m5, ih j d' e1 f' fd' ps' q' m1 m2 m3 m4, hr, rsL_len e1⟩
      glb := tx.glb
      blt := tx.blt
      tk := takes_of rfl rfl rfl rfl
      rm := ⟨k, hr⟩
      ro := fun i hi a z => roOf_of hi (hB i a z)
      pass := fun _ => passes_of rfl }

theorem script_heap {h : Heap} {a : Addr} {vs : List Value} {ns : List Int} (KX : K.In h) (ha : h.get? a = some { cls := .type "list", data := .seq vs.toArray }) (hi : IntsAre vs ns) (hl : ns.length ≤ sizeLine) :
    ∃ H : Hp, Only H ∧ SqL K H a (ns.map V.int) ∧ HOk P w H h ∧ (∀ b, H b ≠ none → b = a) ∧ (H a ≠ none → K.lookup a = none) := by
  have rv := vals_ints hi
  rcases hk : K.lookup a with _ | o
  · refine ⟨fun b => if b = a then some (.frz { cls := .type "list", data := .seq vs.toArray } (.lst (ns.map V.int))) else none, fun b => ?_, .inl (.inr ⟨_, if_pos rfl⟩), fun b u z => ?_, fun b z => ?_, fun _ => rfl⟩
    · by_cases e : b = a
      · right; exact ⟨_, _, if_pos e⟩
      · left; exact if_neg e
    · by_cases e : b = a
      · subst e
        have z := (if_pos rfl).symm.trans z
        cases z
        exact ⟨ha, by simpa using hl, vs, _, rv, ha⟩
      · have z := (if_neg e).symm.trans z
        cases z
    · by_cases e : b = a
      · exact e
      · exact absurd (if_neg e) z
  · have e := KX a o hk
    rw [ha] at e; cases e
    exact ⟨fun _ => none, fun _ => .inl rfl, .inr ⟨_, vs.toArray, _, hk, rfl, rfl, rfl, (by rw [List.size_toArray, hi.length]; exact hl), (by simpa using rv)⟩, (fun b u z => nomatch (show (none : Option HO) = some u from z)), (fun b z => absurd rfl z), fun z => absurd rfl z⟩
theorem lawG {mb : PySem.Str → Option Value} {k : Nat} {fa a : Addr} {fd : FuncData} {x : PySem.Str} {sp : Sp} {s₁ : Shared} {vs : List Value} {ns : List Int}
    (KX : K.In s₁.heap) (hns : s₁.heap.Ns mainGlobals mg) (hb : s₁.heap.Ns builtinsNs mb) (hbb : ∀ x : PySem.Str, x ≠ "__name__" → mb x = bootBuiltins x) (hlim : s₁.heap.NoLimit) (hg : s₁.gens = #[])
    (ha : s₁.heap.get? a = some { cls := .type "list", data := .seq vs.toArray }) (hi : IntsAre vs ns) (hl : ns.length ≤ sizeLine) (hr : RoomG k callerA)
    (F : ∀ base : Heap, FnG P w K mg base k fa fd [x] sp) (hbind : BindsTo s₁ fd ⟨[.ref a], []⟩ [(x, .ref a)])
    (hsp : ∀ H : Hp, Only H → SqL K H a (ns.map V.int) → sp [.ref a] H (fun v _ => v = .bl true) fun _ _ _ => False) :
    codeAny (model P w) callerA (.call (.ref fa) ⟨[.ref a], []⟩) (fun r s' => r = .ok (.ret (.bool true)) ∧ OldK s₁.heap s'.heap ∧ s'.os = s₁.os ∧ AllBare s'.gens) s₁ := by
  obtain ⟨H, hO, hS, hok, hA, hK⟩ := script_heap (P := P) (w := w) KX ha hi hl
  have away : ∀ {b : Addr} {o : Obj} {es : Array DictEntry} {ep : Nat}, s₁.heap.get? b = some o → o.data = .dict es ep → H b = none := by
    intro b o es ep e d
    rcases q : H b with _ | u
    · rfl
    · have := hA b (by rw [q]; exact fun z => nomatch z)
      subst this
      rw [ha] at e; cases e; exact nomatch d
  have ns' : ∀ {b : Addr} {m : PySem.Str → Option Value}, s₁.heap.Ns b m → (hidT s₁.heap H).Ns b m := by
    rintro b m ⟨o, es, ep, e, d, r⟩
    exact ⟨o, es, ep, hidT_get e (away e d), d, r⟩
  have hKb : K.In (hidT s₁.heap H) := by
    intro b o e
    refine hidT_get (KX b o e) ?_
    rcases q : H b with _ | u
    · rfl
    · have := hA b (by rw [q]; exact fun z => nomatch z)
      subst this
      rw [hK (by rw [q]; exact fun z => nomatch z)] at e; cases e
  obtain ⟨mc, l1, l2⟩ := hlim
  have e0 : Env0 P w K mg (hidT s₁.heap H) callerA [] s₁ H :=
    { frames := rfl, mod := ⟨hKb, ns' hns, ⟨mb, ns' hb, hbb⟩, mc, ns' l1, l2⟩, bs := fun b o e => of_hidT e, bsz := Nat.le_of_eq (hidT_size _ _), funs := trivial, frf := fun b hb => (nomatch hb), hok := hok, bare := .of_eq hg }
  have run := (F (hidT s₁.heap H)).run callerA [] s₁ H ⟨[.ref a], []⟩ [.ref a] [.ref a] (fun v _ => v = .bl true) (fun _ _ _ => False) hr e0 hbind (.cons rfl .nil) (hsp H hO hS)
  refine codeAny_mono run fun r s' h => ?_
  match r, h with
  | .error e, h => obtain ⟨_, _, _, _, _, _, _, _, _, _, _, _, z⟩ := h; exact z.elim
  | .ok (.ret u), h =>
    obtain ⟨v, H', os, bare, un, hok', r', q⟩ := h
    cases (show v = .bl true from q)
    cases (show u = Value.bool true from r')
    refine ⟨rfl, OldK.of_keep fun b o e => ?_, os, bare⟩
    rcases hO b with q | ⟨ob, xs, q⟩
    · exact un.keep b o e q (fun z => nomatch z) (fun z => nomatch z)
    · have z2 := un.frzs b ob _ q
      have e1 := (hok b _ q).1
      rw [e] at e1; cases e1
      exact (hok' b _ z2).1
theorem roomG_caller : RoomG 50 callerA := ⟨⟨rfl, by decide, by decide⟩, rfl⟩
end

theorem walkG {l : PySem.W.OpenLaw} {q : Program} {loose : List PySem.Str} {XP : (PySem.Str → Option Value) → Heap → Prop} {YP : World → Heap → Prop} {d : DefRec} {K : Params → PySem.W.Frag} (ds : List DF) (glb : List (PySem.Str × D)) (i : Nat) (df : DF)
    (hn : l.most = some 63) (hdf : d.params.defaults = []) (hi : ds[i]? = some df) (hx : df.x = d.name) (hms : df.ms = [false])
    (hY : ∀ (w : World) (h : Heap), YP w h → (K w.params).In h)
    (tx : ∀ (w : World) (mg : PySem.Str → Option Value) (h : Heap), (K w.params).In h → h.Ns mainGlobals mg → TxtOk (K w.params) mg ds glb)
    (tr : ∀ ns : List Int, ns.length ≤ 63 → ∃ fs, rsL ds glb 50 i [.v (.lst (ns.map .int))] = some (.ok (.val (.bl true)), fs)) :
    PySem.W.WalkO q loose XP YP l.row.toRowW d [] (fun f vs => PySem.call f vs) := by
  refine Att.attach_call hn hdf fun w s₀ s₁ mg mb fa o pm cd doc a vs ns G Y ho hd hcd hmg hobj hints hlen hg => ?_
  have KX := hY w _ Y
  have T0 := tx w mg _ KX G.T.g
  obtain ⟨f, fd, ps, qual, m1, m2, m3, m4, m5⟩ := T0.def_ i df hi
  rw [hx, hmg] at m1
  cases m1
  rw [hms] at m4
  obtain ⟨x, rfl⟩ : ∃ x, ps = [x] := List.length_eq_one_iff.mp m4
  have hz : ns.length ≤ sizeLine := Nat.le_trans hlen (by decide)
  have hL : ∀ (base : Heap), FnG l.prog w (K w.params) mg base 50 fa fd [x] (spF ⟨K w.params, fun _ => 0⟩ df.ms.length (rsL ds glb 50 i)) := fun base =>
    level (T := ⟨K w.params, fun _ => 0⟩) T0 rfl 50 i df hi fa fd [x] qual (by rw [hx]; exact hmg) m2 m3 (by rw [hms]; rfl)
  refine lawG KX G.T.g G.T.b G.T.builtins G.T.nolimit hg hobj hints hz roomG_caller hL ?_ fun H hO hS => ?_
  · exact m5 s₁ [.ref a] KX rfl
  · obtain ⟨fs, e⟩ := tr ns hlen
    rw [hms]
    refine ⟨rfl, fun _ => False, [.v (.lst (ns.map .int))], [none], ⟨rfl, rfl, fun i ar h => ?_, fun i j b h => ?_⟩, fun a h => h.elim, ?_⟩
    · cases i with
      | zero =>
        simp at h
        subst h
        refine ⟨none, .ref a, rfl, rfl, rfl, ?_⟩
        unfold Fz
        refine ⟨a, ns.map V.int, rfl, ?_, fzl_ints⟩
        rcases hS with hS | hS
        · exact .inl ⟨by rintro (z | z); exact z; simp at z, hS⟩
        · exact .inr (.inr hS)
      | succ i => simp at h
    · cases i with
      | zero => simp at h
      | succ i => simp at h
    · rw [e]
      intro F' H' v fr fin hr
      have hr : Fz ⟨K w.params, fun _ => 0⟩ F' H' (.bl true) v := hr
      unfold Fz at hr
      exact hr
end BT
end

section
set_option maxRecDepth 100000
namespace BT
open PySem L2 PySem.Spec PyProof.Rows
def DOk (K : PySem.W.Frag) (d : DF) : Prop := ∃ (f : Addr) (fd : FuncData) (ps : List PySem.Str) (qual : PySem.Str), PySem.W.nsIn K mainGlobals d.x = some (some (.ref f)) ∧ Fun K d.x qual d.st f fd ∧ FnScope d.N ps (defScope d.st) ∧ ps.length = d.ms.length ∧ Binds K fd ps []
def COk (K : PySem.W.Frag) (p : PySem.Str × D) : Prop := ∃ v u, PySem.W.nsIn K mainGlobals p.1 = some (some u) ∧ RelV v u ∧ ∀ T F H, Fz T F H p.2 v
theorem cok_int {K : PySem.W.Frag} {x : PySem.Str} {i : Int} {t} (h : PySem.W.nsIn K mainGlobals x = some (some (.int i t))) : COk K (x, .int i) :=
  ⟨.int i, _, h, ⟨t, rfl⟩, fun _ _ _ => by unfold Fz; rfl⟩
theorem cok_str {K : PySem.W.Frag} {x i : PySem.Str} {t} (h : PySem.W.nsIn K mainGlobals x = some (some (.str i t))) : COk K (x, .str i) :=
  ⟨.str i, _, h, ⟨t, rfl⟩, fun _ _ _ => by unfold Fz; rfl⟩
def NOk (K : PySem.W.Frag) (x : PySem.Str) : Prop := PySem.W.nsIn K mainGlobals x = some none
inductive AllP {α : Type} (p : α → Prop) : List α → Prop
  | nil : AllP p []
  | cons {a : α} {l : List α} : p a → AllP p l → AllP p (a :: l)
theorem AllP.mem {α : Type} {p : α → Prop} : ∀ {l : List α}, AllP p l → ∀ a ∈ l, p a
  | _, .nil, _, h => by cases h
  | _, .cons h1 h2, a, h => by
    rcases List.mem_cons.mp h with rfl | h
    · exact h1
    · exact h2.mem a h
theorem mem_of_lookup {x : PySem.Str} {d : D} : ∀ {l : List (PySem.Str × D)}, l.lookup x = some d → (x, d) ∈ l
  | [], h => by cases h
  | (y, e) :: l, h => by
    rw [List.lookup_cons] at h
    split at h
    · rename_i q
      cases h
      rw [eq_of_beq q]
      exact List.mem_cons_self
    · exact List.mem_cons_of_mem _ (mem_of_lookup h)
theorem txt_of {K : PySem.W.Frag} {mg : PySem.Str → Option Value} {h : Heap} {ds : List DF} {glb : List (PySem.Str × D)} (X : K.In h) (G : h.Ns mainGlobals mg) (hd : AllP (DOk K) ds) (hg : AllP (COk K) glb) (hb : AllP (NOk K) bltAll) : TxtOk K mg ds glb where
  def_ i d hi := by
    obtain ⟨f, fd, ps, qual, a, r⟩ := hd.mem d (List.mem_of_getElem? hi)
    exact ⟨f, fd, ps, qual, PySem.W.mg_of X G a, r⟩
  glb x d hx := by
    obtain ⟨v, u, a, r⟩ := hg.mem _ (mem_of_lookup hx)
    exact ⟨v, u, PySem.W.mg_of X G a, r⟩
  blt x hx := PySem.W.mg_none_of X G (hb.mem x hx)
end BT
end

section
set_option maxRecDepth 100000
namespace BT
open PySem L2
section
variable {α γ : Type} {sl : Slots} {so : Store}
theorem bnd_a {f : EM α} {g : α → EM γ} : bnd f g sl so = match f sl so with
  | none => none
  | some (.exc c d, so') => some (.exc c d, so')
  | some (.ok a, so') => g a sl so' := rfl
theorem pur_a {a : α} : pur a sl so = some (.ok a, so) := rfl
theorem lft_a {g : Store → Option (α × Store)} : lft g sl so = match g so with
  | none => none
  | some (a, so') => some (.ok a, so') := rfl
theorem fVar_a {i : Nat} : fVar i sl so = match sl[i]? with
  | some (some dv) => some (.ok dv, so)
  | _ => none := rfl
theorem fC_a {d : D} : fC d sl so = some (.ok (.val d), so) := rfl
theorem f2_a {g : O2} {fa fb : EM DV} : f2 g fa fb sl so = bnd fa (fun a => bnd fb fun b => lft (g a b)) sl so := rfl
theorem f1_a {g : O1} {fa : EM DV} : f1 g fa sl so = bnd fa (fun a => lft (g a)) sl so := rfl
theorem fN_a {g : ON} {fa : EM (List DV)} : fN g fa sl so = bnd fa (fun a => lft (g a)) sl so := rfl
theorem sq_a {f g : SM} : sq f g sl so = match f sl so with
  | some (.nx, sl', so') => g sl' so'
  | r => r := rfl
theorem bnS_a {f : EM α} {g : α → SM} : bnS f g sl so = match f sl so with
  | none => none
  | some (.exc c d, so') => some (.exc c d, sl, so')
  | some (.ok a, so') => g a sl so' := rfl
theorem bnT_a {f : EM α} {g : α → SM} : bnT f g sl so = match f sl so with
  | none => none
  | some (.exc c d, so') => some (.exc c d, sl, so')
  | some (.ok a, so') => g a sl (so'.take sl.length) := rfl
theorem sNx_a : sNx sl so = some (.nx, sl, so) := rfl
theorem sBk_a : sBk sl so = some (.bk, sl, so) := rfl
theorem sCt_a : sCt sl so = some (.ct, sl, so) := rfl
theorem sExp_a {fe : EM DV} : sExp fe sl so = bnT fe (fun _ => sNx) sl so := rfl
theorem sRet_a {fe : EM DV} : sRet fe sl so = bnS fe (fun a sl so => some (.rt a, sl, so)) sl so := rfl
theorem sRetN_a : sRetN sl so = some (.rt (.val .non), sl, so) := rfl
theorem sIf_a {ft : EM Bool} {fa fb : SM} : sIf ft fa fb sl so = match ft sl so with
  | none => none
  | some (.exc c d, so') => some (.exc c d, sl, so')
  | some (.ok true, so') => fa sl (so'.take sl.length)
  | some (.ok false, so') => fb sl (so'.take sl.length) := by
  unfold sIf bnT bnS
  rcases ft sl so with _ | ⟨r, so'⟩
  · rfl
  · cases r with
    | exc c d => rfl
    | ok b => cases b <;> rfl
theorem sSet_a {i : Nat} {fe : EM DV} : sSet i fe sl so = bnS fe (stor i) sl so := rfl
theorem storV_a {i : Nat} {d : D} : stor i (.val d) sl so = some (.nx, sl.set i (some (.val d)), (so.set i none).take sl.length) := rfl
theorem storL_a {i j : Nat} : stor i (.loc j) sl so = match so[j]? with
    | some (some (b, d)) =>
      if j = i then some (.nx, sl.set i (some (.loc i)), so.take sl.length)
      else if j < sl.length then some (.nx, sl.set i (some (.val d)), ((so.set j (some (false, d))).set i none).take sl.length)
      else some (.nx, sl.set i (some (.loc i)), (so.set i (some (b, d))).take sl.length)
    | _ => none := rfl
theorem sSetX_a {fe fo fi : EM DV} : sSetX fe fo fi sl so = bnS fe (fun v => bnS fo fun o => bnS fi fun i => setX o i v) sl so := rfl
theorem sSetG_a {fe : EM DV} {g : GM} : sSetG fe g sl so = bnS fe (fun a sl so => match frz so a with
  | none => none
  | some (d, so1) => match g d sl so1 with
    | none => none
    | some (sl', so2) => some (.nx, sl', so2.take sl'.length)) sl so := rfl
theorem lfB_a {g : Store → Option Bool} : lfB g sl so = match g so with
  | none => none
  | some b => some (.ok b, so) := rfl
theorem fTru_a {fa : EM DV} : fTru fa sl so = bnd fa (fun a => lfB fun so => (rdv so a).bind truD) sl so := rfl
theorem fAsB_a {fa : EM DV} : fAsB fa sl so = bnd fa (fun a => lfB fun _ => asB a) sl so := rfl
theorem fNot_a {ft : EM Bool} : fNot ft sl so = bnd ft (fun b => pur !b) sl so := rfl
theorem fAnd_a {ft fu : EM Bool} : fAnd ft fu sl so = match ft sl so with
  | none => none
  | some (.exc c d, so') => some (.exc c d, so')
  | some (.ok true, so') => fu sl so'
  | some (.ok false, so') => some (.ok false, so') := by
  unfold fAnd bnd
  rcases ft sl so with _ | ⟨r, so'⟩
  · rfl
  · cases r with
    | exc c d => rfl
    | ok b => cases b <;> rfl
theorem fOr_a {ft fu : EM Bool} : fOr ft fu sl so = match ft sl so with
  | none => none
  | some (.exc c d, so') => some (.exc c d, so')
  | some (.ok false, so') => fu sl so'
  | some (.ok true, so') => some (.ok true, so') := by
  unfold fOr bnd
  rcases ft sl so with _ | ⟨r, so'⟩
  · rfl
  · cases r with
    | exc c d => rfl
    | ok b => cases b <;> rfl
theorem fNotV_a {fa : EM DV} : fNotV fa sl so = match fa sl so with
  | none => none
  | some (.exc c d, so') => some (.exc c d, so')
  | some (.ok a, so') => match asB a with
    | some b => some (.ok (.val (.bl (!b))), so')
    | none => none := by
  unfold fNotV bnd
  rcases fa sl so with _ | ⟨r, so'⟩
  · rfl
  · cases r with
    | exc c d => rfl
    | ok a => cases h : asB a <;> simp [h, pur]
theorem fAndV_a {fa fb : EM DV} : fAndV fa fb sl so = match fa sl so with
  | none => none
  | some (.exc c d, so') => some (.exc c d, so')
  | some (.ok a, so') => match asB a with
    | some true => fb sl so'
    | some false => some (.ok (.val (.bl false)), so')
    | none => none := by
  unfold fAndV bnd
  rcases fa sl so with _ | ⟨r, so'⟩
  · rfl
  · cases r with
    | exc c d => rfl
    | ok a =>
      rcases h : asB a with _ | b
      · simp [h]
      · cases b <;> simp [h, pur]
theorem fOrV_a {fa fb : EM DV} : fOrV fa fb sl so = match fa sl so with
  | none => none
  | some (.exc c d, so') => some (.exc c d, so')
  | some (.ok a, so') => match asB a with
    | some false => fb sl so'
    | some true => some (.ok (.val (.bl true)), so')
    | none => none := by
  unfold fOrV bnd
  rcases fa sl so with _ | ⟨r, so'⟩
  · rfl
  · cases r with
    | exc c d => rfl
    | ok a =>
      rcases h : asB a with _ | b
      · simp [h]
      · cases b <;> simp [h, pur]
theorem fIf_a {ft : EM Bool} {fa fb : EM DV} : fIf ft fa fb sl so = match ft sl so with
  | none => none
  | some (.exc c d, so') => some (.exc c d, so')
  | some (.ok true, so') => fa sl so'
  | some (.ok false, so') => fb sl so' := by
  unfold fIf bnd
  rcases ft sl so with _ | ⟨r, so'⟩
  · rfl
  · cases r with
    | exc c d => rfl
    | ok b => cases b <;> rfl
theorem fChain_a {g g' : O2} {fa fb fc : EM DV} : fChain g g' fa fb fc sl so = bnd fa (fun a => bnd fb fun b => bnd (lft (g a b)) fun z => match asB z with
  | some k => if k = true then bnd fc fun c => lft (g' b c) else pur (.val (.bl false))
  | none => fun _ _ => none) sl so := rfl
theorem fIsi_a {t : Ty} {fa : EM DV} : fIsi t fa sl so = bnd fa (fun a => lft fun so => (rdv so a).bind fun d => (isTy t d).map fun b => (.val (.bl b), so)) sl so := rfl
theorem fNil_a : fNil sl so = some (.ok [], so) := rfl
theorem fCons_a {fa : EM DV} {fr : EM (List DV)} : fCons fa fr sl so = bnd fa (fun a => bnd fr fun r => pur (a :: r)) sl so := rfl
theorem fCall_a {run : Fn} {ms : List Bool} {flat : Bool} {fa : EM (List DV)} : fCall run ms flat fa sl so = bnd fa (fun as _ so => callO run ms flat as so) sl so := rfl
theorem fM_a {T : String} {g : OM} {fo : EM DV} {fa : EM (List DV)} : fM T g fo fa sl so = bnd fo (fun o sl so => if tyM T so o = true then bnd fa (fun as => lft (g o as)) sl so else none) sl so := rfl
theorem fDct_a : fDct sl so = some (.ok (.loc so.length), so ++ [some (true, .dct [] [])]) := rfl
theorem fPartN_a : fPart none sl so = some (.ok none, so) := rfl
theorem fPartS_a {f : EM DV} : fPart (some f) sl so = bnd f (fun a => match a with
    | .val (.int i) => pur (some i)
    | _ => fun _ _ => none) sl so := rfl
theorem fSl_a {fe : EM DV} {fl fh : EM (Option Int)} : fSl fe fl fh sl so = bnd fe (fun a => bnd fl fun l => bnd fh fun h => lft (slcL a l h)) sl so := rfl
theorem fItm_a {fa : EM DV} : fItm fa sl so = bnd fa (fun a _ so => match frz so a with
  | none => none
  | some (d, so') => match itmD d with
    | none => none
    | some ds => some (.ok ds, so')) sl so := rfl
theorem fRng_a {fa : EM (List DV)} : fRng fa sl so = bnd fa (fun as _ so => match as with
  | [.val (.int j)] => if inR j = true then some (.ok (rngD 0 j.toNat), so) else none
  | [.val (.int i), .val (.int j)] => if inR i = true ∧ inR j = true then some (.ok (rngD i (j - i).toNat), so) else none
  | _ => none) sl so := rfl
theorem sFor_a {fi : EM (List D)} {g : GM} {body : SM} : sFor fi g body sl so = bnT fi (forD g body) sl so := rfl
theorem for0_a {g : GM} {body : SM} : forD g body [] sl so = some (.nx, sl, so) := rfl
theorem for1_a {g : GM} {body : SM} {d : D} {ds : List D} : forD g body (d :: ds) sl so = match g d sl so with
    | none => none
    | some (sl1, so1) => match body sl1 so1 with
      | some (.nx, sl2, so2) => forD g body ds sl2 so2
      | some (.ct, sl2, so2) => forD g body ds sl2 so2
      | some (.bk, sl2, so2) => some (.nx, sl2, so2)
      | r => r := rfl
theorem gNm_a {i : Nat} {d : D} : gNm i d sl so = some (sl.set i (some (.val d)), so.set i none) := rfl
theorem gNmC_a {i : Nat} {d : D} : gNmC i d sl so = some (sl.set i (some (.val d)), so) := rfl
theorem whl_a {ft : EM Bool} {fb : SM} {n : Nat} : whl ft fb (n + 1) sl so = match ft sl so with
  | none => none
  | some (.exc c d, so') => some (.exc c d, sl, so')
  | some (.ok false, so') => some (.nx, sl, so'.take sl.length)
  | some (.ok true, so') => match fb sl (so'.take sl.length) with
      | some (.nx, sl2, so2) => whl ft fb n sl2 so2
      | some (.ct, sl2, so2) => whl ft fb n sl2 so2
      | some (.bk, sl2, so2) => some (.nx, sl2, so2)
      | r => r := by
  conv => lhs; unfold whl
  unfold bnT bnS
  rcases ft sl so with _ | ⟨r, so'⟩
  · rfl
  · cases r with
    | exc c d => rfl
    | ok b => cases b <;> rfl
theorem fLr1_a {fa : EM DV} : fLr1 fa sl so = bnd fa (fun a => match a with
  | .val (.int j) => lft (rgL 0 j)
  | _ => fun _ _ => none) sl so := rfl
theorem fLc_a {vs : List Nat} {fi : EM (List D)} {g : GM} {ft : EM Bool} {fe : EM DV} : fLc vs fi g ft fe sl so = bnd fi (fun ds sl so =>
  match lcLoop so.length (wipeS sl vs) g ft fe ds (so ++ [some (true, .lst [])]) with
  | none => none
  | some so' => some (.ok (.loc so.length), so')) sl so := rfl
end
section
variable {a b : DV} {so : Store} {as : List DV}
theorem oSub_a : oSub a b so = oI (fun _ _ => true) (fun i j => i - j) a b so := rfl
theorem oFdiv_a : oFdiv a b so = oI (fun i j => decide (CDivN i j)) (fun i j => i.fdiv j) a b so := rfl
theorem oMod_a : oMod a b so = oI (fun _ j => decide (j ≠ 0)) (fun i j => i.fmod j) a b so := rfl
theorem oPow_a : oPow a b so = oI (fun i j => decide (CPow i j)) (fun i j => i ^ j.toNat) a b so := rfl
theorem oShl_a : oShl a b so = oI (fun i j => decide (CShl i j)) (fun i j => i * 2 ^ j.toNat) a b so := rfl
theorem oShr_a : oShr a b so = oI (fun _ j => decide (0 ≤ j)) (fun i j => i / 2 ^ j.toNat) a b so := rfl
theorem oAnd_a : oAnd a b so = oI (fun _ _ => true) Builtin.bitAnd a b so := rfl
theorem oOr_a : oOr a b so = oI (fun _ _ => true) Builtin.bitOr a b so := rfl
theorem oXor_a : oXor a b so = oI (fun _ _ => true) Builtin.bitXor a b so := rfl
theorem oI_a {c : Int → Int → Bool} {g : Int → Int → Int} {i j : Int} : oI c g (.val (.int i)) (.val (.int j)) so = if c i j = true then some (.val (.int (g i j)), so) else none := rfl
theorem oB_a {g : Int → Int → Bool} {i j : Int} : oB g (.val (.int i)) (.val (.int j)) so = some (.val (.bl (g i j)), so) := rfl
theorem oAdd_a : oAdd a b so = (match rdv so a, rdv so b with
  | some (.int i), some (.int j) => some (.val (.int (i + j)), so)
  | some (.str i), some (.str j) => if i.length + j.length ≤ sizeLine then some (.val (.str (i ++ j)), so) else none
  | some (.lst ds), some (.lst es) => if ds.length + es.length ≤ sizeLine then some (.loc so.length, so ++ [some (true, .lst (ds ++ es))]) else none
  | some (.tup ds), some (.tup es) => if ds.length + es.length ≤ sizeLine then some (.val (.tup (ds ++ es)), so) else none
  | _, _ => none) := rfl
theorem oMul_a : oMul a b so = (match rdv so a, rdv so b with
  | some (.int i), some (.int j) => if CMulX i j then some (.val (.int (i * j)), so) else none
  | _, _ => none) := rfl
theorem oEq_a : oEq a b so = (match rdv so a, rdv so b with
  | some x, some y => (eqD x y).map fun r => (.val (.bl r), so)
  | _, _ => none) := rfl
theorem oNe_a : oNe a b so = (match rdv so a, rdv so b with
  | some x, some y => (eqD x y).map fun r => (.val (.bl (!r)), so)
  | _, _ => none) := rfl
theorem oIn_a {g : Bool → Bool} : oIn g a b so = (match rdv so a, rdv so b with
  | some x, some (.lst ds) => (inD x ds).map fun r => (.val (.bl (g r)), so)
  | some x, some (.tup ds) => (inT x ds).map fun r => (.val (.bl (g r)), so)
  | _, _ => none) := rfl
theorem oIs_a {g : Bool → Bool} : oIs g a b so = (match rdv so a, rdv so b with
  | some x, some y => (isD x y).map fun r => (.val (.bl (g r)), so)
  | _, _ => none) := rfl
theorem oIx_a : oIx a b so = (match rdv so a, b with
  | some (.lst ds), .val (.int i) => (atI ds i).map fun d => (.val d, so)
  | some (.tup ds), .val (.int i) => (atI ds i).map fun d => (.val d, so)
  | _, _ => none) := rfl
theorem nTup_a : nTup as so = (frzs so as).bind fun (ds, so') => if ds.length ≤ sizeLine then some (.val (.tup ds), so') else none := rfl
theorem nLst_a : nLst as so = (frzs so as).bind fun (ds, so') => if ds.length ≤ sizeLine then some (.loc so'.length, so' ++ [some (true, .lst ds)]) else none := rfl
theorem eqI (i j : Int) : eqD (.int i) (.int j) = some (i == j) := rfl
theorem eqS (i j : PySem.Str) : eqD (.str i) (.str j) = some (i == j) := rfl
theorem eqB (i j : Bool) : eqD (.bl i) (.bl j) = some (i == j) := rfl
end
end BT
namespace BT
theorem ty_ii (i : Int) : isTy .int (.int i) = some true := rfl
theorem ty_bi (i : Int) : isTy .bool (.int i) = some false := rfl
theorem ty_tt (ds : List D) : isTy .tuple (.tup ds) = some true := rfl
theorem ty_ll (ds : List D) : isTy .list (.lst ds) = some true := rfl
end BT
namespace BT
open L2
theorem sq_nx {f g : SM} {sl sl' : Slots} {so so' : Store} {r : Option (Fl × Slots × Store)} (h : f sl so = some (.nx, sl', so')) (k : g sl' so' = r) : sq f g sl so = r := by
  rw [sq_a, h]
  exact k
theorem sq_rt {f g : SM} {sl sl' : Slots} {so so' : Store} {v : DV} {r : Option (Fl × Slots × Store)} (h : f sl so = some (.rt v, sl', so')) (k : some (.rt v, sl', so') = r) : sq f g sl so = r := by
  rw [sq_a, h]
  exact k
theorem run_of {ms : List Bool} {n : Nat} {f : SM} {ars : List Ar} {fl : Fl} {sl' : Slots} {so' : Store} {r : Out Rs} {fs : List (Option (Bool × D))} (hl : ars.length = ms.length) (hm : msOk ms ars = true) (e : f (sl0 n ars) (so0 n ars) = some (fl, sl', so')) (hf : fins so' 0 ars = some fs)
    (ho : outF ars so' fl = some r) : runF ms n f ars = some (r, fs) := by
  unfold runF
  rw [if_pos ⟨hl, hm⟩, e]
  simp only [hf, ho]
end BT
namespace BT
open L2
theorem for1_nx {g : GM} {body : SM} {d : D} {ds : List D} {sl sl1 sl2 : Slots} {so so1 so2 : Store} {r : Option (Fl × Slots × Store)} (hg : g d sl so = some (sl1, so1)) (hb : body sl1 so1 = some (.nx, sl2, so2)) (k : forD g body ds sl2 so2 = r) : forD g body (d :: ds) sl so = r := by
  rw [for1_a, hg]
  dsimp only
  rw [hb]
  exact k
theorem whl_nx {ft : EM Bool} {fb : SM} {n : Nat} {sl sl2 : Slots} {so so1 so2 : Store} {r : Option (Fl × Slots × Store)} (ht : ft sl so = some (.ok true, so1)) (hb : fb sl (so1.take sl.length) = some (.nx, sl2, so2)) (k : whl ft fb n sl2 so2 = r) : whl ft fb (n + 1) sl so = r := by
  rw [whl_a, ht]
  dsimp only
  rw [hb]
  exact k
theorem whl_end {ft : EM Bool} {fb : SM} {n : Nat} {sl : Slots} {so so1 : Store} {r : Option (Fl × Slots × Store)} (ht : ft sl so = some (.ok false, so1)) (k : some (.nx, sl, so1.take sl.length) = r) : whl ft fb (n + 1) sl so = r := by
  rw [whl_a, ht]
  exact k
end BT
end

section
set_option maxRecDepth 100000
namespace LK
open PySem L2 BT

def bits10 (m : Nat) : List Nat := (List.range 10).filter fun p => m.testBit p
def pc (m : Nat) : Nat := (bits10 m).length
def lotD (m : Nat) : D := .tup ((bits10 m).map fun p => .int (p : Nat))
def AscF : Nat → List Nat → Nat → Prop
  | _, [], _ => True
  | low, p :: r, size => low ≤ p ∧ p < size ∧ AscF (p + 1) r size
instance : ∀ low l size, Decidable (AscF low l size)
  | _, [], _ => isTrue True.intro
  | low, p :: r, size => by
    unfold AscF
    have := instDecidableAscF (p + 1) r size
    exact inferInstance
def orAll (m : Nat) (l : List Nat) : Nat := l.foldl (fun a p => a ||| 2 ^ p) m
def leastN (m : Nat) : Nat := (bits10 m).headD 0
theorem asc10 : ∀ m < 1024, AscF 0 (bits10 m) 10 := by decide +kernel
theorem or10 : ∀ m < 1024, orAll 0 (bits10 m) = m := by decide +kernel
theorem cnt10 : ∀ m < 1024, (binText (m : Nat)).length ≤ sizeLine ∧ Txt.count (binText (m : Nat)) ("1" : PySem.Str) = (pc m : Nat) := by decide +kernel
theorem low10 : ∀ m < 1024, 0 < m → bits10 m = leastN m :: bits10 (m &&& (m - 1)) ∧ (m &&& (m - 1)) < m ∧ ((Builtin.Int.intBits (Builtin.bitAnd (m : Nat) (-(m : Nat))) : Nat) : Int) - 1 = (leastN m : Nat) ∧ Builtin.bitAnd (m : Nat) ((m : Nat) - 1) = ((m &&& (m - 1) : Nat) : Int) := by decide +kernel
theorem pc_le (m : Nat) : pc m ≤ 10 := by
  unfold pc bits10
  exact Nat.le_trans (List.length_filter_le _ _) (by simp)
theorem and_lt {a b : Nat} (h : a < 1024) : a &&& b < 1024 := Nat.lt_of_le_of_lt Nat.and_le_left h
theorem xor_lt {a b : Nat} (h : a < 1024) (h2 : b < 1024) : a ^^^ b < 1024 := Nat.xor_lt_two_pow (n := 10) h h2

structure Lk where
  s : Nat
  f : Nat
  t : Nat
  deriving DecidableEq
structure Lk.Ok (L : Lk) : Prop where
  s : L.s < 2
  f : L.f < 1024
  t : L.t < 1024
def lookD (L : Lk) : D := .tup [.int (L.s : Nat), lotD L.f, lotD L.t]
def maskD (L : Lk) : D := .tup [.int (L.s : Nat), .int (L.f : Nat), .int (L.t : Nat)]
def goT (A B : Lk) : Bool := (pc (A.f &&& B.t) + pc (A.t &&& B.f)) % 2 == 0
def quarters (A B : Lk) : Int := 2 * ((A.s : Int) + B.s + pc (A.t &&& B.f)) + ((pc (A.f &&& A.t) : Int) + pc (B.f &&& B.t)) - pc ((A.f ^^^ B.f) &&& (A.t ^^^ B.t))
def prod (A B : Lk) : Lk := ⟨((quarters A B) / 2 % 2).toNat, A.f ^^^ B.f, A.t ^^^ B.t⟩
theorem prod_ok {A B : Lk} (a : A.Ok) (b : B.Ok) : (prod A B).Ok := by
  refine ⟨?_, xor_lt a.f b.f, xor_lt a.t b.t⟩
  unfold prod
  have := Int.emod_lt_of_pos (quarters A B / 2) (show (0 : Int) < 2 by decide)
  have := Int.emod_nonneg (quarters A B / 2) (show (2 : Int) ≠ 0 by decide)
  show ((quarters A B) / 2 % 2).toNat < 2
  omega

end LK
end

section
set_option maxRecDepth 100000
namespace LK
open PySem L2 BT
theorem and_nat (a b : Nat) : Builtin.bitAnd (a : Int) (b : Int) = ((a &&& b : Nat) : Int) := by unfold Builtin.bitAnd; simp
theorem or_nat (a b : Nat) : Builtin.bitOr (a : Int) (b : Int) = ((a ||| b : Nat) : Int) := by rw [bitOr_nn (Int.natCast_nonneg _) (Int.natCast_nonneg _)]; simp
theorem xor_nat (a b : Nat) : Builtin.bitXor (a : Int) (b : Int) = ((a ^^^ b : Nat) : Int) := by
  rw [PyProof.Rows.bitXor_and, and_nat]
  have := Bits.nat_xor_add_and a b
  omega
theorem atN {α : Type} (l : List α) (n : Nat) : atI l (n : Int) = l[n]? := by
  by_cases h : n < l.length
  · simp [atI, ixN, h]
  · simp [atI, ixN, h]
theorem at0 {α : Type} (a : α) (r : List α) : atI (a :: r) 0 = some a := atN (a :: r) 0
theorem at1 {α : Type} (a b : α) (r : List α) : atI (a :: b :: r) 1 = some b := atN (a :: b :: r) 1
theorem at2 {α : Type} (a b c : α) (r : List α) : atI (a :: b :: c :: r) 2 = some c := atN (a :: b :: c :: r) 2
theorem shl_bits {p : Nat} (h : p < 1000) : decide (CShl 1 (p : Int)) = true := by
  rw [decide_eq_true_eq]
  exact shl_ok (n := 1) (by decide) (by omega)
theorem mod2 (a : Nat) : Builtin.bitAnd (a : Int) 1 = ((a % 2 : Nat) : Int) := by rw [PyProof.Rows.bitAnd_m1]; omega
end LK
namespace LK
open PySem L2 BT
theorem mul64 {i j : Int} (h1 : -18446744073709551616 < i) (h2 : i < 18446744073709551616) (h3 : -18446744073709551616 < j) (h4 : j < 18446744073709551616) : CMulX i j :=
  mulx_ok (a := 64) (b := 64) (by omega) (by omega) (by decide)
theorem divN {i : Int} {j : Nat} (h : 0 < j) (h2 : j < 1073741824) : decide (CDivN i (j : Int)) = true := by
  rw [decide_eq_true_eq]
  exact ⟨by omega, by omega⟩
theorem div1009 (i : Int) : decide (CDivN i 1009) = true := divN (j := 1009) (by decide) (by decide)
theorem div2003 (i : Int) : decide (CDivN i 2003) = true := divN (j := 2003) (by decide) (by decide)
theorem div997 (i : Int) : decide (CDivN i 997) = true := divN (j := 997) (by decide) (by decide)
theorem div16 (i : Int) : decide (CDivN i 16) = true := divN (j := 16) (by decide) (by decide)
theorem pow1018 : decide (CPow 10 18) = true := by
  rw [decide_eq_true_eq]
  exact ⟨by decide, by decide, by decide⟩
theorem fm (i : Int) {j : Int} (h : 0 ≤ j) : i.fmod j = i % j := Int.fmod_eq_emod_of_nonneg i h
theorem fd (i : Int) {j : Int} (h : 0 ≤ j) : i.fdiv j = i / j := Int.fdiv_eq_ediv_of_nonneg i h
theorem ints_map : ∀ ns : List Int, intsD (ns.map .int) = some ns
  | [] => rfl
  | n :: ns => by
    show (intsD (ns.map .int)).map (fun l => n :: l) = _
    rw [ints_map ns]
    rfl
end LK
namespace LK
open PySem L2 BT
def spare (s : Int) (j : Nat) : Int := ((s % 2147483629 + 65537 * (j : Int) + 65537) * 48271) % 2147483647
def spare2 (s : Int) (j : Nat) : Int := (spare s j * (spare s j / 997 + 69623)) % 2147483647
theorem spare_b (s : Int) (j : Nat) : 0 ≤ spare s j ∧ spare s j < 2147483647 := by unfold spare; omega
end LK
namespace LK
open PySem L2 BT
def num1 (a b : Nat) : Int := (((a : Int) % 2147483629 + 7919 * ((b : Int) + 1) + 1) * 48271) % 2147483647
def num2 (a b : Nat) : Int := (num1 a b * (num1 a b / 1009 + 69621)) % 2147483647
def num3 (a b : Nat) : Int := (num2 a b * (num2 a b / 2003 + 40692)) % 2147483399
theorem num1_b (a b : Nat) (h : b < 1000000000) : 0 ≤ num1 a b ∧ num1 a b < 2147483647 := by unfold num1; omega
theorem num2_b (a b : Nat) : 0 ≤ num2 a b ∧ num2 a b < 2147483647 := ⟨Int.emod_nonneg _ (by decide), Int.emod_lt_of_pos _ (by decide)⟩
theorem num3_b (a b : Nat) : 0 ≤ num3 a b ∧ num3 a b < 2147483399 := ⟨Int.emod_nonneg _ (by decide), Int.emod_lt_of_pos _ (by decide)⟩
end LK
namespace LK
theorem r_lt (x : Int) {m : Nat} (h : 0 < m) : (x % (m : Int)).toNat < m := by
  have h1 := Int.emod_lt_of_pos x (show (0 : Int) < (m : Int) by omega)
  have h2 := Int.emod_nonneg x (show (m : Int) ≠ 0 by omega)
  omega
end LK
namespace LK
theorem r_ex (x : Int) {m : Nat} (h : 0 < m) : ∃ r : Nat, r < m ∧ x % (m : Int) = (r : Int) := by
  have h1 := Int.emod_lt_of_pos x (show (0 : Int) < (m : Int) by omega)
  have h2 := Int.emod_nonneg x (show (m : Int) ≠ 0 by omega)
  exact ⟨(x % (m : Int)).toNat, by omega, by omega⟩
end LK
namespace LK
open PySem L2 BT
theorem shl1 (p : Nat) : (1 : Int) * 2 ^ ((p : Nat) : Int).toNat = ((2 ^ p : Nat) : Int) := by simp
theorem bits10_lt {m p : Nat} (h : p ∈ bits10 m) : p < 10 := by
  unfold bits10 at h
  rw [List.mem_filter, List.mem_range] at h
  exact h.1
theorem bits10_0 : bits10 0 = [] := by decide
theorem goT_int (A B : Lk) : (((pc (A.f &&& B.t) : Int) + (pc (A.t &&& B.f) : Int)) % 2 == 0) = goT A B := by
  unfold goT
  rw [Bool.eq_iff_iff]
  simp only [beq_iff_eq]
  omega
theorem prod_s (A B : Lk) : quarters A B / 2 % 2 = ((prod A B).s : Int) := by
  show _ = (((quarters A B / 2 % 2).toNat : Nat) : Int)
  have := Int.emod_nonneg (quarters A B / 2) (show (2 : Int) ≠ 0 by decide)
  omega
end LK
namespace LK
open PySem L2 BT
theorem tb_int (m i : Nat) : (((m : Int) / 2 ^ i) % 2 == 1) = m.testBit i := by
  rw [Nat.testBit_eq_decide_div_mod_eq]
  have h : (m : Int) / 2 ^ i % 2 = ((m / 2 ^ i % 2 : Nat) : Int) := by simp
  rw [h, Bool.eq_iff_iff]
  simp
  omega
end LK
namespace LK
open PySem L2 BT
theorem flats_nat : ∀ l : List Nat, flats (l.map fun p => .int (p : Nat)) = some (l.map fun p => V.int (p : Nat))
  | [] => rfl
  | p :: l => by
    rw [List.map_cons]
    unfold flats
    rw [flats_nat l]
    rfl
theorem inT_nat (w : Nat) (l : List Nat) : inT (.int (w : Nat)) (l.map fun p => .int (p : Nat)) = some (decide (w ∈ l)) := by
  unfold inT
  rw [flats_nat]
  show some (inV (V.int w) (l.map fun p => V.int (p : Nat))) = _
  congr 1
  unfold inV
  induction l with
  | nil => rfl
  | cons p l ih =>
    rw [List.map_cons, List.any_cons, ih]
    show ((p : Int) == (w : Int) || _) = _
    rw [Bool.eq_iff_iff]
    simp only [Bool.or_eq_true, beq_iff_eq, decide_eq_true_eq, List.mem_cons]
    exact or_congr_left ⟨fun h => by omega, fun h => by omega⟩
theorem mem_bits10 {w m : Nat} (h : w < 10) : decide (w ∈ bits10 m) = m.testBit w := by
  unfold bits10
  rw [Bool.eq_iff_iff]
  simp [h]
def touch (L : Lk) (w : Nat) : Nat := 2 * (L.f.testBit w).toNat + (L.t.testBit w).toNat
def differ (A B : Lk) : Nat := ((List.range 10).filter fun w => decide (0 < touch A w) && (decide (0 < touch B w) && (touch A w != touch B w))).length
theorem b2i (b : Bool) : (if b = true then (1 : Int) else 0) = (b.toNat : Int) := by cases b <;> rfl
end LK
namespace LK
open PySem L2 BT
theorem par_list (P Q R : Nat → Bool) : ∀ l : List Nat, (∀ w ∈ l, P w = (Q w ^^ R w)) → (l.filter P).length % 2 = ((l.filter Q).length + (l.filter R).length) % 2
  | [], _ => rfl
  | w :: l, h => by
    have i := par_list P Q R l fun v hv => h v (List.mem_cons_of_mem _ hv)
    have e := h w List.mem_cons_self
    rw [List.filter_cons, List.filter_cons, List.filter_cons, e]
    cases hq : Q w <;> cases hr : R w <;> simp <;> omega
theorem t16 : ∀ a b c d : Bool, (decide (0 < 2 * a.toNat + b.toNat) && (decide (0 < 2 * c.toNat + d.toNat) && (2 * a.toNat + b.toNat != 2 * c.toNat + d.toNat))) = (a && d ^^ b && c) := by decide
theorem differ_par (A B : Lk) : (differ A B % 2 == 0) = goT A B := by
  unfold goT
  have e := par_list (fun w => decide (0 < touch A w) && (decide (0 < touch B w) && (touch A w != touch B w))) (fun w => (A.f &&& B.t).testBit w) (fun w => (A.t &&& B.f).testBit w) (List.range 10) fun w _ => by
    simp only [Nat.testBit_and, touch]
    exact t16 _ _ _ _
  unfold differ pc bits10
  rw [e]
theorem repr_bl (b : Bool) : reprD (.bl b) = some (if b = true then "True" else "False") := by
  have h1 : (4 : Nat) ≤ sizeLine := by decide
  cases b <;> (unfold reprD; decide +kernel)
theorem goT_sign (A B : Lk) (s : Nat) : goT A ⟨s, B.f, B.t⟩ = goT A B := rfl
theorem and_comm' (a b : Nat) : a &&& b = b &&& a := Nat.and_comm a b
theorem goT_comm (A B : Lk) : goT A B = goT B A := by
  unfold goT
  rw [Nat.and_comm A.f B.t, Nat.and_comm A.t B.f, Nat.add_comm]
theorem goT_self (A : Lk) : goT A A = true := by
  unfold goT
  rw [Nat.and_comm A.t A.f]
  simp
  omega
theorem pc_xor (a b c : Nat) : pc (a &&& (b ^^^ c)) % 2 = (pc (a &&& b) + pc (a &&& c)) % 2 := by
  unfold pc bits10
  exact par_list _ _ _ _ fun w _ => by
    simp only [Nat.testBit_and, Nat.testBit_xor]
    cases a.testBit w <;> cases b.testBit w <;> cases c.testBit w <;> rfl
theorem m2 (x y : Nat) : ((x + y) % 2 == 0) = ((x % 2 == 0) == (y % 2 == 0)) := by
  have h1 : x % 2 = 0 ∨ x % 2 = 1 := by omega
  have h2 : y % 2 = 0 ∨ y % 2 = 1 := by omega
  rw [Nat.add_mod]
  rcases h1 with h1 | h1 <;> rcases h2 with h2 | h2 <;> rw [h1, h2] <;> rfl
theorem goT_prod (F A B : Lk) : goT F (prod A B) = (goT F A == goT F B) := by
  unfold goT prod
  have h1 := pc_xor F.f A.t B.t
  have h2 := pc_xor F.t A.f B.f
  rw [← m2]
  have e : (pc (F.f &&& (A.t ^^^ B.t)) + pc (F.t &&& (A.f ^^^ B.f))) % 2 = (pc (F.f &&& A.t) + pc (F.t &&& A.f) + (pc (F.f &&& B.t) + pc (F.t &&& B.f))) % 2 := by omega
  dsimp only
  rw [e]
end LK
namespace LK
open PySem L2 BT
theorem lotD_0 : lotD 0 = .tup [] := by unfold lotD; rw [bits10_0]; rfl
theorem or_lt {a b : Nat} (h : a < 1024) (h2 : b < 1024) : a ||| b < 1024 := Nat.or_lt_two_pow (n := 10) h h2
end LK
namespace LK
open PySem L2 BT
theorem ba00 : Builtin.bitAnd 0 0 = 0 := by decide
theorem ba01 : Builtin.bitAnd 0 1 = 0 := by decide
theorem ba10 : Builtin.bitAnd 1 0 = 0 := by decide
theorem ba11 : Builtin.bitAnd 1 1 = 1 := by decide
theorem bx00 : Builtin.bitXor 0 0 = 0 := by decide
theorem bx01 : Builtin.bitXor 0 1 = 1 := by decide
theorem bx10 : Builtin.bitXor 1 0 = 1 := by decide
theorem bx11 : Builtin.bitXor 1 1 = 0 := by decide
theorem m20 : CMulX 2 0 := mul64 (by decide) (by decide) (by decide) (by decide)
theorem m21 : CMulX 2 1 := mul64 (by decide) (by decide) (by decide) (by decide)
def scr (f b : Nat) : Nat := b ^^^ f
def scq (f t b : Nat) : Nat := if f &&& t = 1 then 1 + 2 * b else 2 * (t &&& b)
def plcd (a : Nat) (P : List Nat) : List Nat := ((List.range P.length).filter fun k => a.testBit k).map fun k => P.getD k 0
end LK
namespace LK
open PySem L2 BT
theorem inR_mk {i : Int} (h1 : -1000000 ≤ i) (h2 : i ≤ 1000000) : inR i = true := @decide_eq_true _ (Classical.propDecidable _) ⟨by omega, by omega⟩
end LK
namespace LK
open PySem L2 BT
theorem getD_at {P : List Nat} {k : Nat} (h : k < P.length) : P.getD k 0 = P[k] := by
  rw [List.getD_eq_getElem?_getD, List.getElem?_eq_getElem h]
  rfl
theorem mem_plcd {a : Nat} {P : List Nat} (nd : P.Nodup) {k : Nat} (hk : k < P.length) : decide (P[k] ∈ plcd a P) = a.testBit k := by
  unfold plcd
  rw [Bool.eq_iff_iff]
  simp only [decide_eq_true_eq, List.mem_map, List.mem_filter, List.mem_range]
  constructor
  · rintro ⟨j, ⟨hj, hb⟩, e⟩
    rw [getD_at hj] at e
    have : j = k := by
      rcases Nat.lt_trichotomy j k with h | h | h
      · exact absurd e (List.pairwise_iff_getElem.mp nd j k hj hk h)
      · exact h
      · exact absurd e.symm (List.pairwise_iff_getElem.mp nd k j hk hj h)
    rw [← this]
    exact hb
  · intro h
    exact ⟨k, ⟨hk, h⟩, getD_at hk⟩
def bit (a k : Nat) : Nat := (a.testBit k).toNat
theorem bit_lt (a k : Nat) : bit a k < 2 := by unfold bit; cases a.testBit k <;> decide
def colStep (a b start : Nat) (r : Nat × Nat) (k : Nat) : Nat × Nat := (r.1 ||| (scr (bit a k) (bit start k)) * 2 ^ k, r.2 + scq (bit a k) (bit b k) (bit start k))
def colN (s a b n start : Nat) : Nat × Nat :=
  let r := (List.range n).foldl (colStep a b start) (0, 2 * s)
  (r.1, r.2 % 4)
theorem bit_int (m i : Nat) : ((m : Int) / 2 ^ i) % 2 = (bit m i : Nat) := by
  have h : (m : Int) / 2 ^ i % 2 = ((m / 2 ^ i % 2 : Nat) : Int) := by simp
  rw [h]
  unfold bit
  rw [Nat.testBit_eq_decide_div_mod_eq]
  have : m / 2 ^ i % 2 = 0 ∨ m / 2 ^ i % 2 = 1 := by omega
  rcases this with h | h <;> rw [h] <;> rfl
end LK
end

section
set_option maxRecDepth 100000
namespace BT
open PySem L2
section
variable {α : Type} {slw : Slots} {g : GM} {ft : EM Bool} {fe : EM DV}
theorem lcLoop_map (base : Store) (f : α → D) (G : α → Slots) (t : α → Bool) (e : α → D) : ∀ (l : List α) (acc : List D), (∀ a ∈ l, ∀ so, g (f a) slw so = some (G a, so)) →
    (∀ a ∈ l, ∀ acc : List D, ft (G a) (base ++ [some (true, .lst acc)]) = some (.ok (t a), base ++ [some (true, .lst acc)])) →
    (∀ a ∈ l, t a = true → ∀ acc : List D, ∃ v so3 so4, fe (G a) (base ++ [some (true, .lst acc)]) = some (.ok v, so3) ∧ frz so3 v = some (e a, so4) ∧ so4[base.length]? = some (some (true, .lst acc)) ∧ ∀ y, (so4.set base.length y).take (base.length + 1) = base ++ [y]) →
    acc.length + l.length < sizeLine → lcLoop base.length slw g ft fe (l.map f) (base ++ [some (true, .lst acc)]) = some (base ++ [some (true, .lst (acc ++ (l.filter t).map e))])
  | [], acc, _, _, _, _ => by simp [lcLoop]
  | a :: l, acc, h1, h2, h3, hz => by
    have hz : acc.length + (l.length + 1) < sizeLine := by simpa using hz
    have i := fun acc' (hz' : acc'.length + l.length < sizeLine) => lcLoop_map base f G t e l acc' (fun b hb => h1 b (List.mem_cons_of_mem _ hb)) (fun b hb => h2 b (List.mem_cons_of_mem _ hb)) (fun b hb => h3 b (List.mem_cons_of_mem _ hb)) hz'
    have e1 := h1 a List.mem_cons_self (base ++ [some (true, .lst acc)])
    have e2 := h2 a List.mem_cons_self acc
    rw [List.map_cons]
    cases ht : t a with
    | false =>
      rw [ht] at e2
      simp only [lcLoop, e1, e2]
      rw [show (base ++ [some (true, D.lst acc)]).take (base.length + 1) = base ++ [some (true, D.lst acc)] from List.take_of_length_le (by simp), i acc (by omega)]
      simp [ht]
    | true =>
      rw [ht] at e2
      obtain ⟨v, so3, so4, q1, q2, q3, q4⟩ := h3 a List.mem_cons_self ht acc
      simp only [lcLoop, e1, e2, q1, q2, q3]
      rw [if_pos (by omega), q4, i (acc ++ [e a]) (by simp; omega)]
      simp [ht]
theorem lc_val (base : Store) {G : Slots} {d : D} {acc : List D} (h : fe G (base ++ [some (true, .lst acc)]) = some (.ok (.val d), base ++ [some (true, .lst acc)])) :
    ∃ v so3 so4, fe G (base ++ [some (true, .lst acc)]) = some (.ok v, so3) ∧ frz so3 v = some (d, so4) ∧ so4[base.length]? = some (some (true, .lst acc)) ∧ ∀ y, (so4.set base.length y).take (base.length + 1) = base ++ [y] :=
  ⟨_, _, _, h, rfl, by simp, fun y => by simp [List.set_append, List.take_of_length_le]⟩
theorem fLc_eq {sl : Slots} {base : Store} {vs : List Nat} {fi : EM (List D)} (l : List α) (f : α → D) (G : α → Slots) (t : α → Bool) (e : α → D) (hi : fi sl base = some (.ok (l.map f), base)) (h1 : ∀ a ∈ l, ∀ so, g (f a) (wipeS sl vs) so = some (G a, so))
    (h2 : ∀ a ∈ l, ∀ acc : List D, ft (G a) (base ++ [some (true, .lst acc)]) = some (.ok (t a), base ++ [some (true, .lst acc)]))
    (h3 : ∀ a ∈ l, t a = true → ∀ acc : List D, ∃ v so3 so4, fe (G a) (base ++ [some (true, .lst acc)]) = some (.ok v, so3) ∧ frz so3 v = some (e a, so4) ∧ so4[base.length]? = some (some (true, .lst acc)) ∧ ∀ y, (so4.set base.length y).take (base.length + 1) = base ++ [y])
    (hz : l.length < sizeLine) : fLc vs fi g ft fe sl base = some (.ok (.loc base.length), base ++ [some (true, .lst ((l.filter t).map e))]) := by
  rw [fLc_a, bnd_a, hi]
  dsimp only
  rw [lcLoop_map base f G t e l [] h1 h2 h3 (by simpa using hz)]
  simp
end
end BT
end

section
set_option maxRecDepth 100000
namespace LK
open PySem L2 BT
theorem pow8 {n : Nat} (h : n < 4) : 2 ^ n ≤ 8 := by
  have : n = 0 ∨ n = 1 ∨ n = 2 ∨ n = 3 := by omega
  rcases this with rfl | rfl | rfl | rfl <;> decide
def colD (s a b n start : Nat) : D := .tup [.int ((colN s a b n start).1 : Nat), .int ((colN s a b n start).2 : Nat)]
theorem and3 (q : Nat) : Builtin.bitAnd (q : Int) 3 = ((q % 4 : Nat) : Int) := by rw [PyProof.Rows.bitAnd_m2]; omega
def qs (a b start : Nat) (ks : List Nat) : Nat := (ks.map fun k => scq (bit a k) (bit b k) (bit start k)).sum
def rowN (a start : Nat) (r : Nat) (ks : List Nat) : Nat := ks.foldl (fun r k => r ||| (scr (bit a k) (bit start k)) * 2 ^ k) r
theorem fold_col (a b start : Nat) : ∀ (ks : List Nat) (r q : Nat), ks.foldl (colStep a b start) (r, q) = (rowN a start r ks, q + qs a b start ks)
  | [], r, q => rfl
  | k :: ks, r, q => by
    rw [List.foldl_cons]
    have e : colStep a b start (r, q) k = (r ||| (scr (bit a k) (bit start k)) * 2 ^ k, q + scq (bit a k) (bit b k) (bit start k)) := rfl
    rw [e, fold_col a b start ks]
    unfold rowN qs
    rw [List.foldl_cons, List.map_cons, List.sum_cons, Nat.add_assoc]
theorem row_x : ∀ n < 4, ∀ a < 8, ∀ st < 8, a < 2 ^ n → st < 2 ^ n → rowN a st 0 (List.range n) = st ^^^ a := by decide +kernel
theorem colN_eq {s a b n st : Nat} (hn : n < 4) (ha : a < 2 ^ n) (hs : st < 2 ^ n) : colN s a b n st = (st ^^^ a, (2 * s + qs a b st (List.range n)) % 4) := by
  have h8 : 2 ^ n ≤ 8 := pow8 (by omega)
  unfold colN
  rw [fold_col, row_x n hn a (by omega) st (by omega) ha hs]
theorem scq_c : ∀ a < 2, ∀ b < 2, ∀ x < 2, ∀ y < 2, ∀ s < 2, (scq a b (s ^^^ x) + scq x y s) % 4 = (scq x y (s ^^^ a) + scq a b s + 2 * (b * x + a * y)) % 4 := by decide
theorem bit_xor (a b k : Nat) : bit (a ^^^ b) k = bit a k ^^^ bit b k := by
  unfold bit
  rw [Nat.testBit_xor]
  cases a.testBit k <;> cases b.testBit k <;> rfl
def dots (a b : Nat) (ks : List Nat) : Nat := (ks.map fun k => bit a k * bit b k).sum
theorem qs_c (a b x y st : Nat) : ∀ ks : List Nat, (qs a b (st ^^^ x) ks + qs x y st ks) % 4 = (qs x y (st ^^^ a) ks + qs a b st ks + 2 * (dots b x ks + dots a y ks)) % 4
  | [] => rfl
  | k :: ks => by
    have i := qs_c a b x y st ks
    have e := scq_c (bit a k) (bit_lt _ _) (bit b k) (bit_lt _ _) (bit x k) (bit_lt _ _) (bit y k) (bit_lt _ _) (bit st k) (bit_lt _ _)
    unfold qs dots at i ⊢
    simp only [List.map_cons, List.sum_cons, bit_xor] at i ⊢
    omega
def allP : List (List Nat) := (List.range 10).flatMap fun x => [x] :: ((List.range 10).filter fun y => decide (x < y)).flatMap fun y => [x, y] :: ((List.range 10).filter fun z => decide (y < z)).map fun z => [x, y, z]
def spr (P : List Nat) (a : Nat) : Nat := orAll 0 (plcd a P)
theorem spr_bits : ∀ P ∈ allP, ∀ a < 8, a < 2 ^ P.length → bits10 (spr P a) = plcd a P ∧ spr P a < 1024 := by decide +kernel
theorem spr_pc : ∀ P ∈ allP, ∀ a < 8, ∀ y < 8, a < 2 ^ P.length → y < 2 ^ P.length → pc (spr P a &&& spr P y) = dots a y (List.range P.length) := by decide +kernel
theorem allP_len : ∀ P ∈ allP, P.length < 4 ∧ 0 < P.length ∧ P.Nodup := by decide +kernel
theorem mem1 : ∀ x < 10, [x] ∈ allP := by decide +kernel
theorem mem2 : ∀ x < 10, ∀ y < 10, x < y → [x, y] ∈ allP := by decide +kernel
set_option synthInstance.maxSize 2000 in
set_option synthInstance.maxHeartbeats 400000 in
theorem mem3 : ∀ x < 10, ∀ y < 10, ∀ z < 10, (x < y ∧ y < z) → [x, y, z] ∈ allP := by decide +kernel
def pD (f g : Nat → Int) (l : List Nat) : List D := l.map fun st => .tup [.int (f st), .int (g st)]
def pP (f g : Nat → Int) (l : List Nat) : List PyData := l.map fun st => .tuple [.int (f st), .int (g st)]
theorem toPys_p (f g : Nat → Int) : ∀ l : List Nat, toPys (pD f g l) = some (pP f g l)
  | [] => rfl
  | a :: l => by
    show ((toPy (.tup [.int (f a), .int (g a)])).bind fun p => (toPys (pD f g l)).map fun r => p :: r) = _
    rw [toPys_p f g l]
    rfl
theorem can_p (f g : Nat → Int) : ∀ l : List Nat, PyData.canLayAll0 (pP f g l) = true
  | [] => rfl
  | a :: l => by
    show PyData.canLayAll0 (.tuple [.int (f a), .int (g a)] :: pP f g l) = true
    simp [PyData.canLayAll0, PyData.canLay0, can_p f g l]
theorem dep_p (f g : Nat → Int) : ∀ l : List Nat, PyData.depthAll (pP f g l) ≤ 8
  | [] => by simp [pP, PyData.depthAll]
  | a :: l => by
    show PyData.depthAll (.tuple [.int (f a), .int (g a)] :: pP f g l) ≤ 8
    have := dep_p f g l
    simp [PyData.depthAll, PyData.depth]
    omega
theorem eqv_p (f g f' g' : Nat → Int) : ∀ l : List Nat, PyData.eqvAll (pP f g l) (pP f' g' l) = l.all fun st => f st == f' st && g st == g' st
  | [] => by simp [pP, PyData.eqvAll]
  | a :: l => by
    show PyData.eqvAll (.tuple [.int (f a), .int (g a)] :: pP f g l) (.tuple [.int (f' a), .int (g' a)] :: pP f' g' l) = _
    simp [PyData.eqvAll, PyData.eqv, eqv_p f g f' g' l]
theorem eq_pairs (f g f' g' : Nat → Int) (l : List Nat) : eqD (.lst (pD f g l)) (.lst (pD f' g' l)) = some (l.all fun st => f st == f' st && g st == g' st) := by
  have e : ∀ f g : Nat → Int, toPy (.lst (pD f g l)) = some (.list (pP f g l)) := fun f g => by unfold toPy; rw [toPys_p]; rfl
  have sh : ∀ f g : Nat → Int, SeqAt.shaped (.list (pP f g l)) = true := fun f g => by
    have := dep_p f g l
    simp [SeqAt.shaped, PyData.canLay0, PyData.depth, can_p]
    omega
  show eqP _ _ = _
  unfold eqP
  rw [e, e]
  dsimp only
  rw [if_pos ⟨sh _ _, sh _ _⟩]
  simp [PyData.eqv, eqv_p]
theorem sort_places (F : List Nat) (nd : F.Nodup) (h10 : ∀ p ∈ F, p < 10) (h1 : 0 < F.length) (h3 : F.length < 4) : ∃ P ∈ allP, P.length = F.length ∧ (sortI (F.map fun p => ((p : Nat) : Int))) = P.map fun p => ((p : Nat) : Int) := by
  let P := F.mergeSort fun a b => decide (a ≤ b)
  have pw : P.Pairwise fun a b => decide (a ≤ b) = true := List.pairwise_mergeSort (le := fun a b : Nat => decide (a ≤ b)) (fun a b c h1 h2 => by simp at *; omega) (fun a b => by simp; omega) F
  have pm : P.Perm F := List.mergeSort_perm F _
  have ndP : P.Nodup := pm.nodup_iff.mpr nd
  have hl : P.length = F.length := pm.length_eq
  have hm : ∀ p ∈ P, p < 10 := fun p hp => h10 p (pm.mem_iff.mp hp)
  have st : P.Pairwise (· < ·) := by
    refine (pw.and ndP).imp ?_
    rintro a b ⟨h1, h2⟩
    simp at h1
    omega
  refine ⟨P, ?_, hl, ?_⟩
  · rcases e : P with _ | ⟨x, _ | ⟨y, _ | ⟨z, _ | ⟨w, r⟩⟩⟩⟩
    · rw [e] at hl; simp at hl; omega
    · rw [e] at hm; exact mem1 x (hm x (by simp))
    · rw [e] at hm st
      simp at st
      exact mem2 x (hm x (by simp)) y (hm y (by simp)) st
    · rw [e] at hm st
      simp at st
      exact mem3 x (hm x (by simp)) y (hm y (by simp)) z (hm z (by simp)) ⟨st.1.1, st.2⟩
    · rw [e] at hl; simp at hl; omega
  · symm
    refine sortI_of (pm.map _) ?_
    rw [List.pairwise_map]
    exact st.imp fun h => by omega
theorem cols_go {P : List Nat} (hP : P ∈ allP) {s a b s' x y : Nat} (ha : a < 2 ^ P.length) (hb : b < 2 ^ P.length) (hx : x < 2 ^ P.length) (hy : y < 2 ^ P.length) :
    ((List.range (2 ^ P.length)).all fun st => (((colN s a b P.length (colN s' x y P.length st).1).1 : Nat) : Int) == (((colN s' x y P.length (colN s a b P.length st).1).1 : Nat) : Int) &&
      ((((colN s a b P.length (colN s' x y P.length st).1).2 + (colN s' x y P.length st).2) % 4 : Nat) : Int) == ((((colN s' x y P.length (colN s a b P.length st).1).2 + (colN s a b P.length st).2) % 4 : Nat) : Int))
    = goT ⟨s, spr P a, spr P b⟩ ⟨s', spr P x, spr P y⟩ := by
  obtain ⟨h4, h0, nd⟩ := allP_len P hP
  have h8 : 2 ^ P.length ≤ 8 := pow8 (by omega)
  have e1 := spr_pc P hP a (by omega) y (by omega) ha hy
  have e2 := spr_pc P hP b (by omega) x (by omega) hb hx
  have key : ∀ st < 2 ^ P.length, ((((colN s a b P.length (colN s' x y P.length st).1).1 : Nat) : Int) == (((colN s' x y P.length (colN s a b P.length st).1).1 : Nat) : Int) &&
      ((((colN s a b P.length (colN s' x y P.length st).1).2 + (colN s' x y P.length st).2) % 4 : Nat) : Int) == ((((colN s' x y P.length (colN s a b P.length st).1).2 + (colN s a b P.length st).2) % 4 : Nat) : Int))
      = goT ⟨s, spr P a, spr P b⟩ ⟨s', spr P x, spr P y⟩ := fun st hs => by
    have l1 : st ^^^ x < 2 ^ P.length := Nat.xor_lt_two_pow hs hx
    have l2 : st ^^^ a < 2 ^ P.length := Nat.xor_lt_two_pow hs ha
    rw [colN_eq h4 hx hs, colN_eq h4 ha hs]
    dsimp only
    rw [colN_eq h4 ha l1, colN_eq h4 hx l2]
    dsimp only
    have q := qs_c a b x y st (List.range P.length)
    rw [show st ^^^ x ^^^ a = st ^^^ a ^^^ x by rw [Nat.xor_assoc, Nat.xor_comm x a, ← Nat.xor_assoc]]
    unfold goT
    dsimp only
    rw [e1, e2, Bool.eq_iff_iff]
    simp only [Bool.and_eq_true, beq_iff_eq]
    generalize qs a b (st ^^^ x) (List.range P.length) = q1 at *
    generalize qs x y st (List.range P.length) = q2 at *
    generalize qs x y (st ^^^ a) (List.range P.length) = q3 at *
    generalize qs a b st (List.range P.length) = q4 at *
    generalize dots b x (List.range P.length) = d1 at *
    generalize dots a y (List.range P.length) = d2 at *
    refine ⟨fun h => ?_, fun h => ⟨trivial, ?_⟩⟩
    · have h := h.2
      clear hP ha hb hx hy h8 l1 l2 e1 e2
      omega
    · clear hP ha hb hx hy h8 l1 l2 e1 e2
      omega
  have mem0 : 0 < 2 ^ P.length := Nat.two_pow_pos _
  cases hg : goT ⟨s, spr P a, spr P b⟩ ⟨s', spr P x, spr P y⟩ with
  | true =>
    rw [List.all_eq_true]
    intro st hs
    rw [key st (List.mem_range.mp hs), hg]
  | false =>
    rw [List.all_eq_false]
    refine ⟨0, List.mem_range.mpr mem0, ?_⟩
    rw [key 0 mem0, hg]
    decide
theorem lot_spr {P : List Nat} (hP : P ∈ allP) {a : Nat} (ha : a < 2 ^ P.length) : lotD (spr P a) = .tup ((plcd a P).map fun p => .int (p : Nat)) := by
  obtain ⟨h4, h0, nd⟩ := allP_len P hP
  have h8 : 2 ^ P.length ≤ 8 := pow8 (by omega)
  unfold lotD
  rw [(spr_bits P hP a (by omega) ha).1]
theorem lt_spr {P : List Nat} (hP : P ∈ allP) {a : Nat} (ha : a < 2 ^ P.length) : spr P a < 1024 := by
  obtain ⟨h4, h0, nd⟩ := allP_len P hP
  have h8 : 2 ^ P.length ≤ 8 := pow8 (by omega)
  exact (spr_bits P hP a (by omega) ha).2
theorem inR_nat {m : Nat} (h : m ≤ 1000000) : inR (m : Int) = true := inR_mk (by omega) (by omega)
theorem erase_perm : ∀ (R : List Nat) (r : Nat) (h : r < R.length), (R[r] :: R.eraseIdx r).Perm R
  | [], _, h => by simp at h
  | x :: R, 0, _ => .refl _
  | x :: R, r + 1, h => by
    have h2 : r < R.length := by simpa using h
    exact (List.Perm.swap _ _ _).trans ((erase_perm R r h2).cons x)
theorem erase_map {α β : Type} (f : α → β) : ∀ (R : List α) (r : Nat), (R.map f).eraseIdx r = (R.eraseIdx r).map f
  | [], _ => rfl
  | x :: R, 0 => rfl
  | x :: R, r + 1 => by
    show f x :: (R.map f).eraseIdx r = f x :: (R.eraseIdx r).map f
    rw [erase_map f R r]
theorem rest10 (so : Store) : rgL 0 10 so = some (.loc so.length, so ++ [some (true, .lst ((List.range 10).map fun p => .int (p : Nat)))]) := by
  unfold rgL
  rw [if_pos (show rgC 0 10 = true from @decide_eq_true _ (Classical.propDecidable _) (by unfold RgOk; decide))]
  rfl
theorem seq_ix {r n : Nat} (h : r < n) : seqIndex? (r : Int) n = some r := by
  unfold seqIndex?
  have h0 : ¬ ((r : Int) < 0) := by omega
  simp only [h0, if_false]
  simp [h]
theorem pop_a {n r : Nat} {so : Store} {ds : List D} (h : so[n]? = some (some (true, .lst ds))) (hr : r < ds.length) (h2 : r < 1000000) : mPop (.loc n) [.val (.int (r : Nat))] so = some (.val ds[r], so.set n (some (true, .lst (ds.eraseIdx r)))) := by
  unfold mPop
  dsimp only
  rw [h]
  dsimp only
  have b : -(2 ^ 63) ≤ (r : Int) ∧ (r : Int) < 2 ^ 63 := ⟨by omega, by omega⟩
  rw [if_pos b, seq_ix hr]
  dsimp only
  rw [List.getElem?_eq_getElem hr]
  rfl
end LK
end

section
set_option maxRecDepth 100000
namespace LK
open PySem L2 BT
def lotP (m : Nat) : PyData := .tuple ((bits10 m).map fun p => .int (p : Nat))
theorem toPys_ints : ∀ l : List Nat, toPys (l.map fun p => D.int (p : Nat)) = some (l.map fun p => PyData.int (p : Nat))
  | [] => rfl
  | p :: l => by
    show ((toPy (.int (p : Nat))).bind fun q => (toPys (l.map fun p => D.int (p : Nat))).map fun r => q :: r) = _
    rw [toPys_ints l]
    rfl
theorem toPy_lot (m : Nat) : toPy (lotD m) = some (lotP m) := by
  unfold lotD lotP
  unfold toPy
  rw [toPys_ints]
  rfl
theorem show1 : ∀ p < 10, (PyData.shown (.int (p : Nat))).length ≤ 2 ∧ PyData.showable (.int (p : Nat)) = true := by decide +kernel
theorem show_all : ∀ l : List Nat, (∀ p ∈ l, p < 10) → ((PyData.shownAll (l.map fun p => .int (p : Nat))).map (·.length)).sum ≤ 2 * l.length ∧ (PyData.shownAll (l.map fun p => .int (p : Nat))).length = l.length ∧ PyData.showableAll (l.map fun p => .int (p : Nat)) = true ∧ PyData.depthAll (l.map fun p => .int (p : Nat)) ≤ 4
  | [], _ => by simp [PyData.shownAll, PyData.showableAll, PyData.depthAll]
  | p :: l, h => by
    obtain ⟨h1, h2, h3, h4⟩ := show_all l fun q hq => h q (List.mem_cons_of_mem _ hq)
    obtain ⟨s1, s2⟩ := show1 p (h p List.mem_cons_self)
    simp only [List.map_cons, PyData.shownAll, PyData.showableAll, PyData.depthAll, PyData.depth, List.sum_cons, List.length_cons, h3, s2]
    refine ⟨by omega, by omega, rfl, by omega⟩
theorem lot_shown (m : Nat) : (lotP m).shown.length ≤ 60 ∧ (lotP m).showable = true ∧ (lotP m).depth ≤ 10 := by
  obtain ⟨h1, h2, h3, h4⟩ := show_all (bits10 m) fun p hp => bits10_lt hp
  have hl : (bits10 m).length ≤ 10 := pc_le m
  refine ⟨?_, ?_, ?_⟩
  · have := tupleText_len_le (PyData.shownAll ((bits10 m).map fun p => .int (p : Nat)))
    show (tupleText (PyData.shownAll ((bits10 m).map fun p => .int (p : Nat)))).length ≤ 60
    omega
  · unfold lotP PyData.showable
    exact h3
  · unfold lotP
    simp only [PyData.depth]
    omega
theorem repr_look (L : Lk) (h : L.Ok) : ∃ s, reprD (lookD L) = some s := by
  obtain ⟨a1, a2, a3⟩ := lot_shown L.f
  obtain ⟨b1, b2, b3⟩ := lot_shown L.t
  obtain ⟨c1, c2⟩ := show1 L.s (Nat.lt_of_lt_of_le h.s (by decide))
  have e : toPy (lookD L) = some (.tuple [.int (L.s : Nat), lotP L.f, lotP L.t]) := by
    unfold lookD toPy
    show Option.map _ ((toPy (.int (L.s : Nat))).bind fun p => ((toPy (lotD L.f)).bind fun q => ((toPy (lotD L.t)).bind fun r => (some []).map fun l => r :: l).map fun l => q :: l).map fun l => p :: l) = _
    rw [toPy_lot, toPy_lot]
    rfl
  refine ⟨(PyData.tuple [.int (L.s : Nat), lotP L.f, lotP L.t]).shown, ?_⟩
  unfold reprD
  rw [e]
  show (if _ then _ else _) = _
  rw [if_pos]
  refine ⟨?_, ?_, ?_⟩
  · simp only [PyData.showable, PyData.showableAll] at c2 ⊢
    rw [a2, b2, c2]
    rfl
  · simp only [PyData.depth, PyData.depthAll]
    omega
  · have := tupleText_len_le (PyData.shownAll [.int (L.s : Nat), lotP L.f, lotP L.t])
    have q : (300 : Nat) ≤ sizeLine := by decide
    refine Nat.le_trans ?_ q
    show (tupleText (PyData.shownAll [.int (L.s : Nat), lotP L.f, lotP L.t])).length ≤ 300
    simp only [PyData.shownAll, List.map_cons, List.map_nil, List.sum_cons, List.sum_nil, List.length_cons, List.length_nil] at this
    simp only [PyData.shownAll]
    omega
def ph (L : Lk) : Nat := 2 * L.s + pc (L.f &&& L.t)
theorem pc_xorR (a b c : Nat) : pc ((b ^^^ c) &&& a) % 2 = (pc (b &&& a) + pc (c &&& a)) % 2 := by
  rw [Nat.and_comm, pc_xor, Nat.and_comm a b, Nat.and_comm a c]
theorem ph_prod {A B : Lk} (h : goT A B = true) : ph (prod A B) % 4 = (ph A + ph B + 2 * pc (A.t &&& B.f)) % 4 := by
  have g : (pc (A.f &&& B.t) + pc (A.t &&& B.f)) % 2 = 0 := by simpa [goT] using h
  have e1 := pc_xorR (A.t ^^^ B.t) A.f B.f
  have e2 := pc_xor A.f A.t B.t
  have e3 := pc_xor B.f A.t B.t
  rw [Nat.and_comm B.f A.t] at e3
  have hs : ((prod A B).s : Int) = quarters A B / 2 % 2 := (prod_s A B).symm
  have hf : (prod A B).f = A.f ^^^ B.f := rfl
  have ht : (prod A B).t = A.t ^^^ B.t := rfl
  unfold ph
  rw [hf, ht]
  unfold quarters at hs
  omega
theorem look_ext {A B : Lk} (a : A.Ok) (b : B.Ok) (hf : A.f = B.f) (ht : A.t = B.t) (hp : ph A % 4 = ph B % 4) : A = B := by
  have h1 := a.s
  have h2 := b.s
  unfold ph at hp
  rw [hf, ht] at hp
  cases A
  cases B
  simp only [Lk.mk.injEq]
  simp only at hf ht hp h1 h2
  exact ⟨by omega, hf, ht⟩
theorem prod_comm {A B : Lk} (a : A.Ok) (b : B.Ok) (h : goT A B = true) : prod A B = prod B A := by
  have h2 : goT B A = true := by rw [goT_comm]; exact h
  have g : (pc (A.f &&& B.t) + pc (A.t &&& B.f)) % 2 = 0 := by simpa [goT] using h
  refine look_ext (prod_ok a b) (prod_ok b a) (Nat.xor_comm _ _) (Nat.xor_comm _ _) ?_
  rw [ph_prod h, ph_prod h2, Nat.and_comm B.t A.f]
  omega
theorem go_prodL {F A B : Lk} (h1 : goT A F = true) (h2 : goT B F = true) : goT (prod A B) F = true := by
  rw [goT_comm, goT_prod, goT_comm F A, goT_comm F B, h1, h2]
  rfl
theorem go_prodR {F A B : Lk} (h1 : goT F A = true) (h2 : goT F B = true) : goT F (prod A B) = true := by
  rw [goT_prod, h1, h2]
  rfl
theorem prod_assoc {A B C : Lk} (a : A.Ok) (b : B.Ok) (c : C.Ok) (hab : goT A B = true) (hac : goT A C = true) (hbc : goT B C = true) : prod (prod A B) C = prod A (prod B C) := by
  refine look_ext (prod_ok (prod_ok a b) c) (prod_ok a (prod_ok b c)) (Nat.xor_assoc _ _ _) (Nat.xor_assoc _ _ _) ?_
  have e1 := ph_prod (go_prodL hac hbc : goT (prod A B) C = true)
  have e2 := ph_prod (go_prodR hab hac : goT A (prod B C) = true)
  have e3 := ph_prod hab
  have e4 := ph_prod hbc
  have e5 := pc_xorR C.f A.t B.t
  have e6 := pc_xor A.t B.f C.f
  have ht : (prod A B).t = A.t ^^^ B.t := rfl
  have hf : (prod B C).f = B.f ^^^ C.f := rfl
  rw [ht] at e1
  rw [hf] at e2
  omega
def idL : Lk := ⟨0, 0, 0⟩
def negL (A : Lk) : Lk := ⟨1 - A.s, A.f, A.t⟩
theorem idL_ok : idL.Ok := ⟨by decide, by decide, by decide⟩
theorem neg_ok {A : Lk} (a : A.Ok) : (negL A).Ok := ⟨by show 1 - A.s < 2; omega, a.f, a.t⟩
theorem ph_neg {A : Lk} (a : A.Ok) : ph (negL A) % 4 = (ph A + 2) % 4 := by
  have := a.s
  unfold ph negL
  dsimp only
  omega
theorem pc_0 : pc 0 = 0 := by decide
theorem prod_self {A : Lk} (a : A.Ok) : prod A A = idL := by
  refine look_ext (prod_ok a a) idL_ok (Nat.xor_self _) (Nat.xor_self _) ?_
  rw [ph_prod (goT_self A), Nat.and_comm A.t A.f]
  have h : ph idL = 0 := by decide
  rw [h]
  unfold ph
  omega
theorem prod_negself {A : Lk} (a : A.Ok) : prod A (negL A) = negL idL := by
  have g : goT A (negL A) = true := goT_self A
  refine look_ext (prod_ok a (neg_ok a)) (neg_ok idL_ok) (Nat.xor_self _) (Nat.xor_self _) ?_
  have e := ph_neg a
  have e2 := ph_prod g
  have hf : (negL A).f = A.f := rfl
  rw [hf, Nat.and_comm A.t A.f] at e2
  have h : ph (negL idL) = 2 := by decide
  rw [h]
  unfold ph at *
  omega
theorem prod_back {A B : Lk} (a : A.Ok) (b : B.Ok) (h : goT A B = true) : prod (prod A B) B = A := by
  refine look_ext (prod_ok (prod_ok a b) b) a ?_ ?_ ?_
  · show A.f ^^^ B.f ^^^ B.f = A.f
    rw [Nat.xor_assoc, Nat.xor_self, Nat.xor_zero]
  · show A.t ^^^ B.t ^^^ B.t = A.t
    rw [Nat.xor_assoc, Nat.xor_self, Nat.xor_zero]
  · have e1 := ph_prod (go_prodL h (goT_self B) : goT (prod A B) B = true)
    have e2 := ph_prod h
    have e5 := pc_xorR B.f A.t B.t
    have ht : (prod A B).t = A.t ^^^ B.t := rfl
    rw [ht] at e1
    rw [Nat.and_comm B.t B.f] at e5
    unfold ph at *
    omega
theorem prod_id {A : Lk} (a : A.Ok) : prod A idL = A := by
  have g : goT A idL = true := by
    unfold goT idL
    dsimp only
    rw [Nat.and_zero, Nat.and_zero]
    decide
  refine look_ext (prod_ok a idL_ok) a (Nat.xor_zero _) (Nat.xor_zero _) ?_
  rw [ph_prod g]
  have h : ph idL = 0 := by decide
  have h2 : pc (A.t &&& idL.f) = 0 := by
    show pc (A.t &&& 0) = 0
    rw [Nat.and_zero]
    exact pc_0
  rw [h, h2]
  rfl
theorem go_neg (A B : Lk) : goT (negL A) B = goT A B := rfl
theorem prod_neg {A B : Lk} (a : A.Ok) (b : B.Ok) (h : goT A B = true) : prod (negL A) B = negL (prod A B) := by
  refine look_ext (prod_ok (neg_ok a) b) (neg_ok (prod_ok a b)) rfl rfl ?_
  have e1 := ph_prod (show goT (negL A) B = true from h)
  have e2 := ph_prod h
  have e3 := ph_neg a
  have e4 := ph_neg (prod_ok a b)
  have ht : (negL A).t = A.t := rfl
  rw [ht] at e1
  omega
def mv (L : Lk) (x : Nat × Nat) : Nat × Nat := (x.1 ^^^ L.f, (x.2 + (2 * L.s + 2 * pc (L.t &&& x.1) + pc (L.f &&& L.t))) % 4)
theorem mv_prod {A B : Lk} (h : goT A B = true) (x : Nat × Nat) : mv (prod A B) x = mv A (mv B x) := by
  have e := ph_prod h
  have e1 := pc_xorR x.1 A.t B.t
  have e2 := pc_xor A.t x.1 B.f
  have hf : (prod A B).f = A.f ^^^ B.f := rfl
  have ht : (prod A B).t = A.t ^^^ B.t := rfl
  unfold mv
  unfold ph at e
  dsimp only
  rw [Prod.mk.injEq]
  constructor
  · rw [hf, Nat.xor_comm A.f B.f, Nat.xor_assoc]
  · rw [ht] at e ⊢
    omega
theorem mv_sign {E : Lk} (e : E.Ok) (s : Nat) (hs : s < 2) : (((mv ⟨s, E.f, E.t⟩ (0, 0)).2 : Int) == ((mv E (0, 0)).2 : Int)) = (s == E.s) := by
  have := e.s
  unfold mv
  dsimp only
  rw [Bool.eq_iff_iff, beq_iff_eq, beq_iff_eq]
  omega
def cL (s c : Nat) : Lk := ⟨s, c % 1024, c / 1024⟩
def goC (c d : Nat) : Bool := goT (cL 0 c) (cL 0 d)
theorem cL_ok {s c : Nat} (hs : s < 2) (hc : c < 1048576) : (cL s c).Ok := ⟨hs, Nat.mod_lt _ (by decide), by show c / 1024 < 1024; omega⟩
theorem goC_0 (d : Nat) : goC 0 d = true := by
  unfold goC goT cL
  dsimp only
  rw [Nat.zero_mod, Nat.zero_div, Nat.zero_and, Nat.zero_and]
  decide
def suits (c : Nat) (cs : List Nat) : Bool := cs.all (goC c)
theorem suits_0 (cs : List Nat) : suits 0 cs = true := by
  unfold suits
  rw [List.all_eq_true]
  exact fun d _ => goC_0 d
theorem and1023 (c : Nat) : Builtin.bitAnd (c : Int) 1023 = ((c % 1024 : Nat) : Int) := by
  have e := and_nat c 1023
  rw [show c &&& 1023 = c % 1024 from Nat.and_two_pow_sub_one_eq_mod c 10] at e
  exact e
theorem sum_cast {α : Type} (g : α → Nat) : ∀ l : List α, (l.map fun p => ((g p : Nat) : Int)).sum = ((l.map g).sum : Nat)
  | [] => rfl
  | a :: l => by
    rw [List.map_cons, List.sum_cons, sum_cast g l, List.map_cons, List.sum_cons]
    exact (Int.natCast_add _ _).symm
theorem mask_sum : ∀ m < 1024, ((bits10 m).map fun p => 2 ^ p).sum = m := by decide +kernel
theorem pc_sum : ∀ m < 1024, ((List.range 10).map fun k => bit m k).sum = pc m := by decide +kernel
theorem x20 {c p : Nat} (hc : c < 1048576) (hp : p < 20) : c ^^^ 2 ^ p < 1048576 := Nat.xor_lt_two_pow (n := 20) hc (Nat.pow_lt_pow_right (by decide) hp)
end LK
end

section
set_option maxRecDepth 100000
namespace K63
open PySem L2 PySem.Spec BT
def top (i : Nat) : Stmt := PySem.Challenge.pw_blindtwins_k63_whole_three_factors.main.body.getD i (.Pass ⟨0, 0, 0, 0⟩)
def glb : List (PySem.Str × D) := [("MOST_WIRES", (.int 10))]
def d0 : DF := ⟨"is_integer", [false], false, ["value"], top 5⟩
def d1 : DF := ⟨"is_within", [false, false, false], false, ["value", "low", "high"], top 6⟩
def d2 : DF := ⟨"is_bit", [false], false, ["value"], top 7⟩
def d3 : DF := ⟨"is_lot_of", [false, false], false, ["value", "size", "low", "place"], top 8⟩
def d4 : DF := ⟨"mask_of", [false], false, ["lot", "mask", "place"], top 10⟩
def d5 : DF := ⟨"lot_of", [false], false, ["mask", "places"], top 11⟩
def d6 : DF := ⟨"ones", [false], false, ["mask"], top 12⟩
def d7 : DF := ⟨"least", [false], false, ["mask"], top 13⟩
def d8 : DF := ⟨"masks_of", [false], false, ["look"], top 15⟩
def d9 : DF := ⟨"look_of", [false], false, ["masks"], top 16⟩
def d10 : DF := ⟨"go_together", [false, false], false, ["one", "other"], top 17⟩
def d11 : DF := ⟨"quarters_of", [false, false], false, ["one", "other", "both", "crossing", "taken"], top 18⟩
def d12 : DF := ⟨"product_of", [false, false], false, ["one", "other"], top 19⟩
def d13 : DF := ⟨"is_look_of", [false, false], false, ["value", "wires"], top 22⟩
def d14 : DF := ⟨"check_look", [false, false], false, ["value", "wires"], top 23⟩
def d15 : DF := ⟨"times", [false, false], false, ["one", "other", "first", "second"], top 24⟩
def d16 : DF := ⟨"_law_cell", [false, false], false, ["script", "k", "spare"], top 26⟩
def d17 : DF := ⟨"_law_source", [false, false], false, ["script", "k"], top 27⟩
def d18 : DF := ⟨"_law_draw", [true, false], false, ["source", "many", "digit", "number"], top 28⟩
def d19 : DF := ⟨"_law_lot", [false], false, ["mask", "place"], top 29⟩
def d20 : DF := ⟨"_law_mask", [false], false, ["lot", "place"], top 30⟩
def d21 : DF := ⟨"_law_ones", [false], false, ["mask", "place"], top 31⟩
def d22 : DF := ⟨"_law_goes", [false, false], false, ["first", "second", "crossings"], top 32⟩
def d23 : DF := ⟨"_law_shaped", [true, false], true, ["source", "earlier", "kind", "flips", "turns"], top 33⟩
def d24 : DF := ⟨"_law_suits", [false, false], true, ["code", "earlier", "other"], top 34⟩
def d25 : DF := ⟨"_law_fitted", [false, false], true, ["code", "earlier", "place", "second"], top 35⟩
def d26 : DF := ⟨"_law_drawn_looks", [true], false, ["source", "codes", "k", "code"], top 36⟩
def d27 : DF := ⟨"_law_moved", [false, false], false, ["look", "start", "flips", "turns", "quarters"], top 37⟩
def d28 : DF := ⟨"_law_moved_by_all", [false, false], false, ["looks", "index", "found", "k"], top 38⟩
def d29 : DF := ⟨"_law_expected", [false], false, ["looks", "flips", "turns", "look", "sign"], top 39⟩
def d30 : DF := ⟨"_law_orders_hold", [false, false], false, ["looks", "expected", "order", "first", "second", "third"], top 40⟩
def d31 : DF := ⟨"_law_facts_hold", [false, false], false, ["looks", "expected", "k", "look", "other", "negative", "rest"], top 41⟩
def d32 : DF := ⟨"law", [false], false, ["script", "source", "looks", "expected", "turn", "index"], top 42⟩
def ds : List DF := [d0, d1, d2, d3, d4, d5, d6, d7, d8, d9, d10, d11, d12, d13, d14, d15, d16, d17, d18, d19, d20, d21, d22, d23, d24, d25, d26, d27, d28, d29, d30, d31, d32]
noncomputable def g0 (rs : Nat → Fn) : SM := (sq (sRet (fAndV (fIsi .int (fVar 0)) (fNotV (fIsi .bool (fVar 0))))) sNx)
theorem tr0 (rs : Nat → Fn) : trSs rs (seOf ds glb d0) 400 (defBody d0.st) = g0 rs := by kernel_rfl
theorem r0 (k : Nat) : rsL ds glb (k + 1) 0 = runF [false] 1 (g0 (rsL ds glb k)) := by rw [← tr0]; rfl
noncomputable def g1 (rs : Nat → Fn) : SM := (sq (sRet (fAndV (fCall (rs 0) [false] false (fCons (fVar 0) fNil)) (fChain (oB fun i j => decide (i ≤ j)) (oB fun i j => decide (i ≤ j)) (fVar 1) (fVar 0) (fVar 2)))) sNx)
theorem tr1 (rs : Nat → Fn) : trSs rs (seOf ds glb d1) 400 (defBody d1.st) = g1 rs := by kernel_rfl
theorem r1 (k : Nat) : rsL ds glb (k + 1) 1 = runF [false, false, false] 3 (g1 (rsL ds glb k)) := by rw [← tr1]; rfl
noncomputable def g2 (rs : Nat → Fn) : SM := (sq (sRet (fCall (rs 1) [false, false, false] false (fCons (fVar 0) (fCons (fC (.int 0)) (fCons (fC (.int 1)) fNil))))) sNx)
theorem tr2 (rs : Nat → Fn) : trSs rs (seOf ds glb d2) 400 (defBody d2.st) = g2 rs := by kernel_rfl
theorem r2 (k : Nat) : rsL ds glb (k + 1) 2 = runF [false] 1 (g2 (rsL ds glb k)) := by rw [← tr2]; rfl
noncomputable def g3 (rs : Nat → Fn) : SM := (sq (sIf (fNot (fTru (fIsi .tuple (fVar 0)))) (sq (sRet (fC (.bl false))) sNx) sNx) (sq (sSet 2 (fC (.int 0))) (sq (sFor (fItm (fVar 0)) (gNm 3) (sq (sIf (fNot (fTru (fCall (rs 1) [false, false, false] false (fCons (fVar 3) (fCons (fVar 2) (fCons (f2 oSub (fVar 1) (fC (.int 1))) fNil)))))) (sq (sRet (fC (.bl false))) sNx) sNx) (sq (sSet 2 (f2 oAdd (fVar 3) (fC (.int 1)))) sNx))) (sq (sRet (fC (.bl true))) sNx))))
theorem tr3 (rs : Nat → Fn) : trSs rs (seOf ds glb d3) 400 (defBody d3.st) = g3 rs := by kernel_rfl
theorem r3 (k : Nat) : rsL ds glb (k + 1) 3 = runF [false, false] 4 (g3 (rsL ds glb k)) := by rw [← tr3]; rfl
noncomputable def g4 (rs : Nat → Fn) : SM := (sq (sSet 1 (fC (.int 0))) (sq (sFor (fItm (fVar 0)) (gNm 2) (sq (sSet 1 (f2 oOr (fVar 1) (f2 oShl (fC (.int 1)) (fVar 2)))) sNx)) (sq (sRet (fVar 1)) sNx)))
theorem tr4 (rs : Nat → Fn) : trSs rs (seOf ds glb d4) 400 (defBody d4.st) = g4 rs := by kernel_rfl
theorem r4 (k : Nat) : rsL ds glb (k + 1) 4 = runF [false] 3 (g4 (rsL ds glb k)) := by rw [← tr4]; rfl
noncomputable def g5 (rs : Nat → Fn) : SM := (sq (sSet 1 (fN nLst fNil)) (sq (whl (fAsB (f2 (oB fun i j => decide (j < i)) (fVar 0) (fC (.int 0)))) (sq (sExp (fM "list" mAppend (fVar 1) (fCons (fCall (rs 7) [false] false (fCons (fVar 0) fNil)) fNil))) (sq (sSet 0 (f2 oAnd (fVar 0) (f2 oSub (fVar 0) (fC (.int 1))))) sNx)) 1000000) (sq (sRet (fN nTuple (fCons (fVar 1) fNil))) sNx)))
theorem tr5 (rs : Nat → Fn) : trSs rs (seOf ds glb d5) 400 (defBody d5.st) = g5 rs := by kernel_rfl
theorem r5 (k : Nat) : rsL ds glb (k + 1) 5 = runF [false] 2 (g5 (rsL ds glb k)) := by rw [← tr5]; rfl
noncomputable def g6 (rs : Nat → Fn) : SM := (sq (sRet (fM "str" mCount (f1 oBin (fVar 0)) (fCons (fC (.str "1")) fNil))) sNx)
theorem tr6 (rs : Nat → Fn) : trSs rs (seOf ds glb d6) 400 (defBody d6.st) = g6 rs := by kernel_rfl
theorem r6 (k : Nat) : rsL ds glb (k + 1) 6 = runF [false] 1 (g6 (rsL ds glb k)) := by rw [← tr6]; rfl
noncomputable def g7 (rs : Nat → Fn) : SM := (sq (sRet (f2 oSub (f1 oBits (f2 oAnd (fVar 0) (f1 oNeg (fVar 0)))) (fC (.int 1)))) sNx)
theorem tr7 (rs : Nat → Fn) : trSs rs (seOf ds glb d7) 400 (defBody d7.st) = g7 rs := by kernel_rfl
theorem r7 (k : Nat) : rsL ds glb (k + 1) 7 = runF [false] 1 (g7 (rsL ds glb k)) := by rw [← tr7]; rfl
noncomputable def g8 (rs : Nat → Fn) : SM := (sq (sRet (fN nTup (fCons (f2 oIx (fVar 0) (fC (.int 0))) (fCons (fCall (rs 4) [false] false (fCons (f2 oIx (fVar 0) (fC (.int 1))) fNil)) (fCons (fCall (rs 4) [false] false (fCons (f2 oIx (fVar 0) (fC (.int 2))) fNil)) fNil))))) sNx)
theorem tr8 (rs : Nat → Fn) : trSs rs (seOf ds glb d8) 400 (defBody d8.st) = g8 rs := by kernel_rfl
theorem r8 (k : Nat) : rsL ds glb (k + 1) 8 = runF [false] 1 (g8 (rsL ds glb k)) := by rw [← tr8]; rfl
noncomputable def g9 (rs : Nat → Fn) : SM := (sq (sRet (fN nTup (fCons (f2 oIx (fVar 0) (fC (.int 0))) (fCons (fCall (rs 5) [false] false (fCons (f2 oIx (fVar 0) (fC (.int 1))) fNil)) (fCons (fCall (rs 5) [false] false (fCons (f2 oIx (fVar 0) (fC (.int 2))) fNil)) fNil))))) sNx)
theorem tr9 (rs : Nat → Fn) : trSs rs (seOf ds glb d9) 400 (defBody d9.st) = g9 rs := by kernel_rfl
theorem r9 (k : Nat) : rsL ds glb (k + 1) 9 = runF [false] 1 (g9 (rsL ds glb k)) := by rw [← tr9]; rfl
noncomputable def g10 (rs : Nat → Fn) : SM := (sq (sRet (f2 oEq (f2 oAnd (f2 oAdd (fCall (rs 6) [false] false (fCons (f2 oAnd (f2 oIx (fVar 0) (fC (.int 1))) (f2 oIx (fVar 1) (fC (.int 2)))) fNil)) (fCall (rs 6) [false] false (fCons (f2 oAnd (f2 oIx (fVar 0) (fC (.int 2))) (f2 oIx (fVar 1) (fC (.int 1)))) fNil))) (fC (.int 1))) (fC (.int 0)))) sNx)
theorem tr10 (rs : Nat → Fn) : trSs rs (seOf ds glb d10) 400 (defBody d10.st) = g10 rs := by kernel_rfl
theorem r10 (k : Nat) : rsL ds glb (k + 1) 10 = runF [false, false] 2 (g10 (rsL ds glb k)) := by rw [← tr10]; rfl
noncomputable def g11 (rs : Nat → Fn) : SM := (sq (sSet 2 (f2 oAdd (fCall (rs 6) [false] false (fCons (f2 oAnd (f2 oIx (fVar 0) (fC (.int 1))) (f2 oIx (fVar 0) (fC (.int 2)))) fNil)) (fCall (rs 6) [false] false (fCons (f2 oAnd (f2 oIx (fVar 1) (fC (.int 1))) (f2 oIx (fVar 1) (fC (.int 2)))) fNil)))) (sq (sSet 3 (fCall (rs 6) [false] false (fCons (f2 oAnd (f2 oIx (fVar 0) (fC (.int 2))) (f2 oIx (fVar 1) (fC (.int 1)))) fNil))) (sq (sSet 4 (fCall (rs 6) [false] false (fCons (f2 oAnd (f2 oXor (f2 oIx (fVar 0) (fC (.int 1))) (f2 oIx (fVar 1) (fC (.int 1)))) (f2 oXor (f2 oIx (fVar 0) (fC (.int 2))) (f2 oIx (fVar 1) (fC (.int 2))))) fNil))) (sq (sRet (f2 oSub (f2 oAdd (f2 oMul (fC (.int 2)) (f2 oAdd (f2 oAdd (f2 oIx (fVar 0) (fC (.int 0))) (f2 oIx (fVar 1) (fC (.int 0)))) (fVar 3))) (fVar 2)) (fVar 4))) sNx))))
theorem tr11 (rs : Nat → Fn) : trSs rs (seOf ds glb d11) 400 (defBody d11.st) = g11 rs := by kernel_rfl
theorem r11 (k : Nat) : rsL ds glb (k + 1) 11 = runF [false, false] 5 (g11 (rsL ds glb k)) := by rw [← tr11]; rfl
noncomputable def g12 (rs : Nat → Fn) : SM := (sq (sRet (fN nTup (fCons (f2 oAnd (f2 oShr (fCall (rs 11) [false, false] false (fCons (fVar 0) (fCons (fVar 1) fNil))) (fC (.int 1))) (fC (.int 1))) (fCons (f2 oXor (f2 oIx (fVar 0) (fC (.int 1))) (f2 oIx (fVar 1) (fC (.int 1)))) (fCons (f2 oXor (f2 oIx (fVar 0) (fC (.int 2))) (f2 oIx (fVar 1) (fC (.int 2)))) fNil))))) sNx)
theorem tr12 (rs : Nat → Fn) : trSs rs (seOf ds glb d12) 400 (defBody d12.st) = g12 rs := by kernel_rfl
theorem r12 (k : Nat) : rsL ds glb (k + 1) 12 = runF [false, false] 2 (g12 (rsL ds glb k)) := by rw [← tr12]; rfl
noncomputable def g13 (rs : Nat → Fn) : SM := (sq (sIf (fOr (fNot (fTru (fIsi .tuple (fVar 0)))) (fAsB (f2 oNe (fN nLen (fCons (fVar 0) fNil)) (fC (.int 3))))) (sq (sRet (fC (.bl false))) sNx) sNx) (sq (sRet (fAndV (fCall (rs 2) [false] false (fCons (f2 oIx (fVar 0) (fC (.int 0))) fNil)) (fAndV (fCall (rs 3) [false, false] false (fCons (f2 oIx (fVar 0) (fC (.int 1))) (fCons (fVar 1) fNil))) (fCall (rs 3) [false, false] false (fCons (f2 oIx (fVar 0) (fC (.int 2))) (fCons (fVar 1) fNil)))))) sNx))
theorem tr13 (rs : Nat → Fn) : trSs rs (seOf ds glb d13) 400 (defBody d13.st) = g13 rs := by kernel_rfl
theorem r13 (k : Nat) : rsL ds glb (k + 1) 13 = runF [false, false] 2 (g13 (rsL ds glb k)) := by rw [← tr13]; rfl
noncomputable def g14 (rs : Nat → Fn) : SM := (sq (sIf (fNot (fTru (fCall (rs 13) [false, false] false (fCons (fVar 0) (fCons (fVar 1) fNil))))) (sq sBad sNx) sNx) sNx)
theorem tr14 (rs : Nat → Fn) : trSs rs (seOf ds glb d14) 400 (defBody d14.st) = g14 rs := by kernel_rfl
theorem r14 (k : Nat) : rsL ds glb (k + 1) 14 = runF [false, false] 2 (g14 (rsL ds glb k)) := by rw [← tr14]; rfl
noncomputable def g15 (rs : Nat → Fn) : SM := (sq (sExp (fCall (rs 14) [false, false] false (fCons (fVar 0) (fCons (fC (.int 10)) fNil)))) (sq (sExp (fCall (rs 14) [false, false] false (fCons (fVar 1) (fCons (fC (.int 10)) fNil)))) (sq (sSet 2 (fCall (rs 8) [false] false (fCons (fVar 0) fNil))) (sq (sSet 3 (fCall (rs 8) [false] false (fCons (fVar 1) fNil))) (sq (sIf (fNot (fTru (fCall (rs 10) [false, false] false (fCons (fVar 2) (fCons (fVar 3) fNil))))) (sq sBad sNx) sNx) (sq (sRet (fCall (rs 9) [false] false (fCons (fCall (rs 12) [false, false] false (fCons (fVar 2) (fCons (fVar 3) fNil))) fNil))) sNx))))))
theorem tr15 (rs : Nat → Fn) : trSs rs (seOf ds glb d15) 400 (defBody d15.st) = g15 rs := by kernel_rfl
theorem r15 (k : Nat) : rsL ds glb (k + 1) 15 = runF [false, false] 4 (g15 (rsL ds glb k)) := by rw [← tr15]; rfl
noncomputable def g16 (rs : Nat → Fn) : SM := (sq (sIf (fAsB (f2 (oB fun i j => decide (i < j)) (fVar 1) (fN nLen (fCons (fVar 0) fNil)))) (sq (sRet (fN nInt (fCons (f2 oIx (fVar 0) (fVar 1)) fNil))) sNx) sNx) (sq (sSet 2 (f2 oMod (f2 oMul (fN nInt (fCons (f2 oAdd (f2 oAdd (f2 oMod (fN nInt (fCons (fN nSum (fCons (fVar 0) fNil)) fNil)) (fC (.int 2147483629))) (f2 oMul (fC (.int 65537)) (fVar 1))) (fC (.int 65537))) fNil)) (fC (.int 48271))) (fC (.int 2147483647)))) (sq (sRet (f2 oMod (fN nInt (fCons (f2 oMul (fVar 2) (f2 oAdd (f2 oFdiv (fVar 2) (fC (.int 997))) (fC (.int 69623)))) fNil)) (fC (.int 2147483647)))) sNx)))
theorem tr16 (rs : Nat → Fn) : trSs rs (seOf ds glb d16) 400 (defBody d16.st) = g16 rs := by kernel_rfl
theorem r16 (k : Nat) : rsL ds glb (k + 1) 16 = runF [false, false] 3 (g16 (rsL ds glb k)) := by rw [← tr16]; rfl
noncomputable def g17 (rs : Nat → Fn) : SM := (sq (sRet (fN nLst (fCons (fN nAbs (fCons (fCall (rs 16) [false, false] false (fCons (fVar 0) (fCons (fVar 1) fNil))) fNil)) (fCons (f2 oMul (fC (.int 1000)) (fVar 1)) fNil)))) sNx)
theorem tr17 (rs : Nat → Fn) : trSs rs (seOf ds glb d17) 400 (defBody d17.st) = g17 rs := by kernel_rfl
theorem r17 (k : Nat) : rsL ds glb (k + 1) 17 = runF [false, false] 2 (g17 (rsL ds glb k)) := by rw [← tr17]; rfl
noncomputable def g18 (rs : Nat → Fn) : SM := (sq (sIf (fAsB (f2 (oB fun i j => decide (j ≤ i)) (f2 oIx (fVar 0) (fC (.int 0))) (f2 oPow (fC (.int 10)) (fC (.int 18))))) (sq (sSet 2 (f2 oMod (fN nInt (fCons (f2 oIx (fVar 0) (fC (.int 0))) fNil)) (fVar 1))) (sq (sSetX (f2 oFdiv (f2 oIx (fVar 0) (fC (.int 0))) (fVar 1)) (fVar 0) (fC (.int 0))) (sq (sRet (fVar 2)) sNx))) sNx) (sq (sSetX (f2 oAdd (f2 oIx (fVar 0) (fC (.int 1))) (fC (.int 1))) (fVar 0) (fC (.int 1))) (sq (sSet 3 (f2 oMod (f2 oMul (fN nInt (fCons (f2 oAdd (f2 oAdd (f2 oMod (fN nInt (fCons (f2 oIx (fVar 0) (fC (.int 0))) fNil)) (fC (.int 2147483629))) (f2 oMul (fC (.int 7919)) (f2 oIx (fVar 0) (fC (.int 1))))) (fC (.int 1))) fNil)) (fC (.int 48271))) (fC (.int 2147483647)))) (sq (sSet 3 (f2 oMod (fN nInt (fCons (f2 oMul (fVar 3) (f2 oAdd (f2 oFdiv (fVar 3) (fC (.int 1009))) (fC (.int 69621)))) fNil)) (fC (.int 2147483647)))) (sq (sSet 3 (f2 oMod (fN nInt (fCons (f2 oMul (fVar 3) (f2 oAdd (f2 oFdiv (fVar 3) (fC (.int 2003))) (fC (.int 40692)))) fNil)) (fC (.int 2147483399)))) (sq (sRet (f2 oMod (fN nInt (fCons (f2 oFdiv (fVar 3) (fC (.int 16))) fNil)) (fVar 1))) sNx))))))
theorem tr18 (rs : Nat → Fn) : trSs rs (seOf ds glb d18) 400 (defBody d18.st) = g18 rs := by kernel_rfl
theorem r18 (k : Nat) : rsL ds glb (k + 1) 18 = runF [true, false] 4 (g18 (rsL ds glb k)) := by rw [← tr18]; rfl
noncomputable def g19 (rs : Nat → Fn) : SM := (sq (sRet (fN nTuple (fCons (fLc [1] (fRng (fCons (fC (.int 10)) fNil)) (gNmC 1) (fAsB (f2 oEq (f2 oAnd (f2 oShr (fVar 0) (fVar 1)) (fC (.int 1))) (fC (.int 1)))) (fVar 1)) fNil))) sNx)
theorem tr19 (rs : Nat → Fn) : trSs rs (seOf ds glb d19) 400 (defBody d19.st) = g19 rs := by kernel_rfl
theorem r19 (k : Nat) : rsL ds glb (k + 1) 19 = runF [false] 2 (g19 (rsL ds glb k)) := by rw [← tr19]; rfl
noncomputable def g20 (rs : Nat → Fn) : SM := (sq (sRet (fN nSum (fCons (fLc [1] (fItm (fVar 0)) (gNmC 1) (fYes) (f2 oShl (fC (.int 1)) (fVar 1))) fNil))) sNx)
theorem tr20 (rs : Nat → Fn) : trSs rs (seOf ds glb d20) 400 (defBody d20.st) = g20 rs := by kernel_rfl
theorem r20 (k : Nat) : rsL ds glb (k + 1) 20 = runF [false] 2 (g20 (rsL ds glb k)) := by rw [← tr20]; rfl
noncomputable def g21 (rs : Nat → Fn) : SM := (sq (sRet (fN nSum (fCons (fLc [1] (fRng (fCons (fC (.int 10)) fNil)) (gNmC 1) (fYes) (f2 oAnd (f2 oShr (fVar 0) (fVar 1)) (fC (.int 1)))) fNil))) sNx)
theorem tr21 (rs : Nat → Fn) : trSs rs (seOf ds glb d21) 400 (defBody d21.st) = g21 rs := by kernel_rfl
theorem r21 (k : Nat) : rsL ds glb (k + 1) 21 = runF [false] 2 (g21 (rsL ds glb k)) := by rw [← tr21]; rfl
noncomputable def g22 (rs : Nat → Fn) : SM := (sq (sSet 2 (f2 oAdd (fCall (rs 21) [false] false (fCons (f2 oAnd (f2 oAnd (fVar 0) (fC (.int 1023))) (f2 oShr (fVar 1) (fC (.int 10)))) fNil)) (fCall (rs 21) [false] false (fCons (f2 oAnd (f2 oShr (fVar 0) (fC (.int 10))) (f2 oAnd (fVar 1) (fC (.int 1023)))) fNil)))) (sq (sRet (f2 oEq (f2 oAnd (fVar 2) (fC (.int 1))) (fC (.int 0)))) sNx))
theorem tr22 (rs : Nat → Fn) : trSs rs (seOf ds glb d22) 400 (defBody d22.st) = g22 rs := by kernel_rfl
theorem r22 (k : Nat) : rsL ds glb (k + 1) 22 = runF [false, false] 3 (g22 (rsL ds glb k)) := by rw [← tr22]; rfl
noncomputable def g23 (rs : Nat → Fn) : SM := (sq (sSet 2 (fCall (rs 18) [true, false] false (fCons (fVar 0) (fCons (fC (.int 8)) fNil)))) (sq (sSet 3 (fCall (rs 18) [true, false] false (fCons (fVar 0) (fCons (fC (.int 1024)) fNil)))) (sq (sSet 4 (fCall (rs 18) [true, false] false (fCons (fVar 0) (fCons (fC (.int 1024)) fNil)))) (sq (sIf (fAsB (f2 oEq (fVar 2) (fC (.int 0)))) (sq (sRet (fVar 3)) sNx) sNx) (sq (sIf (fAsB (f2 oEq (fVar 2) (fC (.int 1)))) (sq (sRet (f2 oShl (fVar 4) (fC (.int 10)))) sNx) sNx) (sq (sIf (fAsB (f2 oEq (fVar 2) (fC (.int 2)))) (sq (sRet (f2 oOr (f2 oAnd (fVar 3) (fVar 4)) (f2 oShl (f2 oAnd (fVar 3) (fVar 4)) (fC (.int 10))))) sNx) sNx) (sq (sIf (fAnd (fAsB (f2 oEq (fVar 2) (fC (.int 3)))) (fAsB (f2 (oB fun i j => decide (j < i)) (fN nLen (fCons (fVar 1) fNil)) (fC (.int 0))))) (sq (sRet (f2 oIx (fVar 1) (fCall (rs 18) [true, false] false (fCons (fVar 0) (fCons (fN nLen (fCons (fVar 1) fNil)) fNil))))) sNx) sNx) (sq (sIf (fAnd (fAsB (f2 oEq (fVar 2) (fC (.int 4)))) (fAsB (f2 (oB fun i j => decide (j < i)) (fN nLen (fCons (fVar 1) fNil)) (fC (.int 1))))) (sq (sRet (f2 oXor (f2 oIx (fVar 1) (fC (.int 0))) (f2 oIx (fVar 1) (fC (.int 1))))) sNx) sNx) (sq (sIf (fAsB (f2 oEq (fVar 2) (fC (.int 5)))) (sq (sRet (f2 oOr (f2 oShl (fC (.int 1)) (fCall (rs 18) [true, false] false (fCons (fVar 0) (fCons (fC (.int 10)) fNil)))) (f2 oShl (fC (.int 1)) (f2 oAdd (fC (.int 10)) (fCall (rs 18) [true, false] false (fCons (fVar 0) (fCons (fC (.int 10)) fNil))))))) sNx) sNx) (sq (sRet (f2 oOr (fVar 3) (f2 oShl (fVar 4) (fC (.int 10))))) sNx))))))))))
theorem tr23 (rs : Nat → Fn) : trSs rs (seOf ds glb d23) 400 (defBody d23.st) = g23 rs := by kernel_rfl
theorem r23 (k : Nat) : rsL ds glb (k + 1) 23 = runF [true, false] 5 (g23 (rsL ds glb k)) := by rw [← tr23]; rfl
noncomputable def g24 (rs : Nat → Fn) : SM := (sq (sRet (fN (nBools fun l => l.all id) (fCons (fLc [2] (fItm (fVar 1)) (gNmC 2) (fYes) (fCall (rs 22) [false, false] false (fCons (fVar 0) (fCons (fVar 2) fNil)))) fNil))) sNx)
theorem tr24 (rs : Nat → Fn) : trSs rs (seOf ds glb d24) 400 (defBody d24.st) = g24 rs := by kernel_rfl
theorem r24 (k : Nat) : rsL ds glb (k + 1) 24 = runF [false, false] 3 (g24 (rsL ds glb k)) := by rw [← tr24]; rfl
noncomputable def g25 (rs : Nat → Fn) : SM := (sq (sIf (fTru (fCall (rs 24) [false, false] true (fCons (fVar 0) (fCons (fVar 1) fNil)))) (sq (sRet (fVar 0)) sNx) sNx) (sq (sFor (fRng (fCons (fC (.int 20)) fNil)) (gNm 2) (sq (sIf (fTru (fCall (rs 24) [false, false] true (fCons (f2 oXor (fVar 0) (f2 oShl (fC (.int 1)) (fVar 2))) (fCons (fVar 1) fNil)))) (sq (sRet (f2 oXor (fVar 0) (f2 oShl (fC (.int 1)) (fVar 2)))) sNx) sNx) sNx)) (sq (sFor (fRng (fCons (fC (.int 20)) fNil)) (gNm 2) (sq (sFor (fRng (fCons (fVar 2) fNil)) (gNm 3) (sq (sIf (fTru (fCall (rs 24) [false, false] true (fCons (f2 oXor (f2 oXor (fVar 0) (f2 oShl (fC (.int 1)) (fVar 2))) (f2 oShl (fC (.int 1)) (fVar 3))) (fCons (fVar 1) fNil)))) (sq (sRet (f2 oXor (f2 oXor (fVar 0) (f2 oShl (fC (.int 1)) (fVar 2))) (f2 oShl (fC (.int 1)) (fVar 3)))) sNx) sNx) sNx)) sNx)) (sq (sRet (fC (.int 0))) sNx))))
theorem tr25 (rs : Nat → Fn) : trSs rs (seOf ds glb d25) 400 (defBody d25.st) = g25 rs := by kernel_rfl
theorem r25 (k : Nat) : rsL ds glb (k + 1) 25 = runF [false, false] 4 (g25 (rsL ds glb k)) := by rw [← tr25]; rfl
noncomputable def g26 (rs : Nat → Fn) : SM := (sq (sSet 1 (fN nLst fNil)) (sq (sFor (fRng (fCons (fC (.int 3)) fNil)) (gNm 2) (sq (sExp (fM "list" mAppend (fVar 1) (fCons (fCall (rs 25) [false, false] true (fCons (fCall (rs 23) [true, false] true (fCons (fVar 0) (fCons (fVar 1) fNil))) (fCons (fVar 1) fNil))) fNil))) sNx)) (sq (sRet (fLc [3] (fItm (fVar 1)) (gNmC 3) (fYes) (fN nTup (fCons (fCall (rs 18) [true, false] false (fCons (fVar 0) (fCons (fC (.int 2)) fNil))) (fCons (fCall (rs 19) [false] false (fCons (f2 oAnd (fVar 3) (fC (.int 1023))) fNil)) (fCons (fCall (rs 19) [false] false (fCons (f2 oShr (fVar 3) (fC (.int 10))) fNil)) fNil)))))) sNx)))
theorem tr26 (rs : Nat → Fn) : trSs rs (seOf ds glb d26) 400 (defBody d26.st) = g26 rs := by kernel_rfl
theorem r26 (k : Nat) : rsL ds glb (k + 1) 26 = runF [true] 4 (g26 (rsL ds glb k)) := by rw [← tr26]; rfl
noncomputable def g27 (rs : Nat → Fn) : SM := (sq (sSet 2 (fCall (rs 20) [false] false (fCons (f2 oIx (fVar 0) (fC (.int 1))) fNil))) (sq (sSet 3 (fCall (rs 20) [false] false (fCons (f2 oIx (fVar 0) (fC (.int 2))) fNil))) (sq (sSet 4 (f2 oAdd (f2 oAdd (f2 oMul (fC (.int 2)) (f2 oIx (fVar 0) (fC (.int 0)))) (f2 oMul (fC (.int 2)) (fCall (rs 21) [false] false (fCons (f2 oAnd (fVar 3) (f2 oIx (fVar 1) (fC (.int 0)))) fNil)))) (fCall (rs 21) [false] false (fCons (f2 oAnd (fVar 2) (fVar 3)) fNil)))) (sq (sRet (fN nTup (fCons (f2 oXor (f2 oIx (fVar 1) (fC (.int 0))) (fVar 2)) (fCons (f2 oAnd (f2 oAdd (f2 oIx (fVar 1) (fC (.int 1))) (fVar 4)) (fC (.int 3))) fNil)))) sNx))))
theorem tr27 (rs : Nat → Fn) : trSs rs (seOf ds glb d27) 400 (defBody d27.st) = g27 rs := by kernel_rfl
theorem r27 (k : Nat) : rsL ds glb (k + 1) 27 = runF [false, false] 5 (g27 (rsL ds glb k)) := by rw [← tr27]; rfl
noncomputable def g28 (rs : Nat → Fn) : SM := (sq (sSet 2 (fN nTup (fCons (fVar 1) (fCons (fC (.int 0)) fNil)))) (sq (sFor (fRng (fCons (fN nLen (fCons (fVar 0) fNil)) fNil)) (gNm 3) (sq (sSet 2 (fCall (rs 27) [false, false] false (fCons (f2 oIx (fVar 0) (f2 oSub (f2 oSub (fN nLen (fCons (fVar 0) fNil)) (fC (.int 1))) (fVar 3))) (fCons (fVar 2) fNil)))) sNx)) (sq (sRet (fVar 2)) sNx)))
theorem tr28 (rs : Nat → Fn) : trSs rs (seOf ds glb d28) 400 (defBody d28.st) = g28 rs := by kernel_rfl
theorem r28 (k : Nat) : rsL ds glb (k + 1) 28 = runF [false, false] 4 (g28 (rsL ds glb k)) := by rw [← tr28]; rfl
noncomputable def g29 (rs : Nat → Fn) : SM := (sq (sSet 1 (fC (.int 0))) (sq (sSet 2 (fC (.int 0))) (sq (sFor (fItm (fVar 0)) (gNm 3) (sq (sSet 1 (f2 oXor (fVar 1) (fCall (rs 20) [false] false (fCons (f2 oIx (fVar 3) (fC (.int 1))) fNil)))) (sq (sSet 2 (f2 oXor (fVar 2) (fCall (rs 20) [false] false (fCons (f2 oIx (fVar 3) (fC (.int 2))) fNil)))) sNx))) (sq (sFor (fRng (fCons (fC (.int 2)) fNil)) (gNm 4) (sq (sSet 3 (fN nTup (fCons (fVar 4) (fCons (fCall (rs 19) [false] false (fCons (fVar 1) fNil)) (fCons (fCall (rs 19) [false] false (fCons (fVar 2) fNil)) fNil))))) (sq (sIf (fAsB (f2 oEq (fCall (rs 27) [false, false] false (fCons (fVar 3) (fCons (fN nTup (fCons (fC (.int 0)) (fCons (fC (.int 0)) fNil))) fNil))) (fCall (rs 28) [false, false] false (fCons (fVar 0) (fCons (fC (.int 0)) fNil))))) (sq (sRet (fVar 3)) sNx) sNx) sNx))) (sq (sRet (fC .non)) sNx)))))
theorem tr29 (rs : Nat → Fn) : trSs rs (seOf ds glb d29) 400 (defBody d29.st) = g29 rs := by kernel_rfl
theorem r29 (k : Nat) : rsL ds glb (k + 1) 29 = runF [false] 5 (g29 (rsL ds glb k)) := by rw [← tr29]; rfl
noncomputable def g30 (rs : Nat → Fn) : SM := (sq (sFor (fItm (fN nLst (fCons (fN nTup (fCons (fC (.int 0)) (fCons (fC (.int 1)) (fCons (fC (.int 2)) fNil)))) (fCons (fN nTup (fCons (fC (.int 0)) (fCons (fC (.int 2)) (fCons (fC (.int 1)) fNil)))) (fCons (fN nTup (fCons (fC (.int 1)) (fCons (fC (.int 0)) (fCons (fC (.int 2)) fNil)))) (fCons (fN nTup (fCons (fC (.int 1)) (fCons (fC (.int 2)) (fCons (fC (.int 0)) fNil)))) (fCons (fN nTup (fCons (fC (.int 2)) (fCons (fC (.int 0)) (fCons (fC (.int 1)) fNil)))) (fCons (fN nTup (fCons (fC (.int 2)) (fCons (fC (.int 1)) (fCons (fC (.int 0)) fNil)))) fNil)))))))) (gNm 2) (sq (sSet 3 (f2 oIx (fVar 0) (f2 oIx (fVar 2) (fC (.int 0))))) (sq (sSet 4 (f2 oIx (fVar 0) (f2 oIx (fVar 2) (fC (.int 1))))) (sq (sSet 5 (f2 oIx (fVar 0) (f2 oIx (fVar 2) (fC (.int 2))))) (sq (sIf (fAsB (f2 oNe (fN nRepr (fCons (fCall (rs 15) [false, false] false (fCons (fCall (rs 15) [false, false] false (fCons (fVar 3) (fCons (fVar 4) fNil))) (fCons (fVar 5) fNil))) fNil)) (fN nRepr (fCons (fVar 1) fNil)))) (sq (sRet (fC (.bl false))) sNx) sNx) (sq (sIf (fAsB (f2 oNe (fN nRepr (fCons (fCall (rs 15) [false, false] false (fCons (fVar 3) (fCons (fCall (rs 15) [false, false] false (fCons (fVar 4) (fCons (fVar 5) fNil))) fNil))) fNil)) (fN nRepr (fCons (fVar 1) fNil)))) (sq (sRet (fC (.bl false))) sNx) sNx) sNx)))))) (sq (sRet (fC (.bl true))) sNx))
theorem tr30 (rs : Nat → Fn) : trSs rs (seOf ds glb d30) 400 (defBody d30.st) = g30 rs := by kernel_rfl
theorem r30 (k : Nat) : rsL ds glb (k + 1) 30 = runF [false, false] 6 (g30 (rsL ds glb k)) := by rw [← tr30]; rfl
noncomputable def g31 (rs : Nat → Fn) : SM := (sq (sFor (fRng (fCons (fC (.int 3)) fNil)) (gNm 2) (sq (sSet 3 (f2 oIx (fVar 0) (fVar 2))) (sq (sSet 4 (f2 oIx (fVar 0) (f2 oMod (f2 oAdd (fVar 2) (fC (.int 1))) (fC (.int 3))))) (sq (sSet 5 (fN nTup (fCons (f2 oSub (fC (.int 1)) (f2 oIx (fVar 3) (fC (.int 0)))) (fCons (f2 oIx (fVar 3) (fC (.int 1))) (fCons (f2 oIx (fVar 3) (fC (.int 2))) fNil))))) (sq (sIf (fOr (fAsB (f2 oNe (fN nRepr (fCons (fCall (rs 15) [false, false] false (fCons (fVar 3) (fCons (fVar 3) fNil))) fNil)) (fN nRepr (fCons (fN nTup (fCons (fC (.int 0)) (fCons (fN nTup fNil) (fCons (fN nTup fNil) fNil)))) fNil)))) (fAsB (f2 oNe (fN nRepr (fCons (fCall (rs 15) [false, false] false (fCons (fVar 3) (fCons (fVar 5) fNil))) fNil)) (fN nRepr (fCons (fN nTup (fCons (fC (.int 1)) (fCons (fN nTup fNil) (fCons (fN nTup fNil) fNil)))) fNil))))) (sq (sRet (fC (.bl false))) sNx) sNx) (sq (sIf (fAsB (f2 oNe (fN nRepr (fCons (fCall (rs 15) [false, false] false (fCons (fCall (rs 15) [false, false] false (fCons (fVar 3) (fCons (fVar 4) fNil))) (fCons (fVar 4) fNil))) fNil)) (fN nRepr (fCons (fVar 3) fNil)))) (sq (sRet (fC (.bl false))) sNx) sNx) (sq (sSet 6 (fCall (rs 15) [false, false] false (fCons (fVar 4) (fCons (f2 oIx (fVar 0) (f2 oMod (f2 oAdd (fVar 2) (fC (.int 2))) (fC (.int 3)))) fNil)))) (sq (sIf (fAsB (f2 oNe (fN nRepr (fCons (fCall (rs 15) [false, false] false (fCons (fVar 5) (fCons (fVar 6) fNil))) fNil)) (fN nRepr (fCons (fN nTup (fCons (f2 oSub (fC (.int 1)) (f2 oIx (fVar 1) (fC (.int 0)))) (fCons (f2 oIx (fVar 1) (fC (.int 1))) (fCons (f2 oIx (fVar 1) (fC (.int 2))) fNil)))) fNil)))) (sq (sRet (fC (.bl false))) sNx) sNx) (sq (sIf (fOr (fAsB (f2 oNe (fN nRepr (fCons (fCall (rs 15) [false, false] false (fCons (fVar 3) (fCons (fN nTup (fCons (fC (.int 0)) (fCons (fN nTup fNil) (fCons (fN nTup fNil) fNil)))) fNil))) fNil)) (fN nRepr (fCons (fVar 3) fNil)))) (fAsB (f2 oNe (fN nRepr (fCons (fCall (rs 15) [false, false] false (fCons (fVar 1) (fCons (fVar 6) fNil))) fNil)) (fN nRepr (fCons (fVar 3) fNil))))) (sq (sRet (fC (.bl false))) sNx) sNx) sNx))))))))) (sq (sRet (fC (.bl true))) sNx))
theorem tr31 (rs : Nat → Fn) : trSs rs (seOf ds glb d31) 400 (defBody d31.st) = g31 rs := by kernel_rfl
theorem r31 (k : Nat) : rsL ds glb (k + 1) 31 = runF [false, false] 7 (g31 (rsL ds glb k)) := by rw [← tr31]; rfl
noncomputable def g32 (rs : Nat → Fn) : SM := (sq (sSet 1 (fCall (rs 17) [false, false] false (fCons (fVar 0) (fCons (fC (.int 0)) fNil)))) (sq (sSet 2 (fCall (rs 26) [true] false (fCons (fVar 1) fNil))) (sq (sSet 3 (fCall (rs 29) [false] false (fCons (fVar 2) fNil))) (sq (sIf (fAsB (f2 (oIs fun r => r) (fVar 3) (fC .non))) (sq (sRet (fC (.bl false))) sNx) sNx) (sq (sFor (fRng (fCons (fC (.int 6)) fNil)) (gNm 4) (sq (sSet 5 (fCall (rs 18) [true, false] false (fCons (fVar 1) (fCons (fC (.int 1024)) fNil)))) (sq (sIf (fAsB (f2 oNe (fCall (rs 27) [false, false] false (fCons (fVar 3) (fCons (fN nTup (fCons (fVar 5) (fCons (fC (.int 0)) fNil))) fNil))) (fCall (rs 28) [false, false] false (fCons (fVar 2) (fCons (fVar 5) fNil))))) (sq (sRet (fC (.bl false))) sNx) sNx) sNx))) (sq (sRet (fAndV (fCall (rs 30) [false, false] false (fCons (fVar 2) (fCons (fVar 3) fNil))) (fCall (rs 31) [false, false] false (fCons (fVar 2) (fCons (fVar 3) fNil))))) sNx))))))
theorem tr32 (rs : Nat → Fn) : trSs rs (seOf ds glb d32) 400 (defBody d32.st) = g32 rs := by kernel_rfl
theorem r32 (k : Nat) : rsL ds glb (k + 1) 32 = runF [false] 6 (g32 (rsL ds glb k)) := by rw [← tr32]; rfl
end K63
end

section
set_option maxRecDepth 100000
namespace K63
open PySem L2 PySem.Spec BT LK
theorem is_integer_ok (k : Nat) (d : D) (b c : Bool) (h : isTy .int d = some b) (h2 : isTy .bool d = some c) : rsL ds glb (k + 1) 0 [.v d] = some (.ok (.val (.bl (b && !c))), [none]) := by
  rw [r0]
  cases b <;> cases c <;> simp -implicitDefEqProofs [g0, runF, msOk, sl0, slS, so0, arS, arO, fins, outF, isM, callO, frzN, frz, frzs, mkArs, mkAr, liveAt, rdv, lives, endC, putFs, truD, asB, bnd_a, pur_a, lft_a, fVar_a, fC_a, f2_a, f1_a, fN_a, sq_a, bnS_a, bnT_a, sNx_a, sBk_a, sCt_a, sExp_a, sRet_a, sRetN_a, sIf_a, sSet_a, storV_a, storL_a, sSetX_a, sSetG_a, lfB_a, fTru_a, fAsB_a, fNot_a, fAnd_a, fOr_a, fNotV_a, fAndV_a, fOrV_a, fIf_a, fChain_a, fIsi_a, fNil_a, fCons_a, fCall_a, fM_a, fDct_a, fPartN_a, fPartS_a, fSl_a, fItm_a, fRng_a, sFor_a, for0_a, gNm_a, gNmC_a, fLr1_a, oSub_a, oFdiv_a, oMod_a, oPow_a, oShl_a, oShr_a, oAnd_a, oOr_a, oXor_a, oI_a, oB_a, oAdd_a, oMul_a, oEq_a, oNe_a, oIn_a, oIs_a, oIx_a, nTup_a, nLst_a, eqI, eqS, eqB, itmD, ty_ii, ty_bi, ty_tt, ty_ll, tyM, h, h2]
theorem is_within_int (k : Nat) (i a b : Int) : rsL ds glb (k + 2) 1 [.v (.int i), .v (.int a), .v (.int b)] = some (.ok (.val (.bl (decide (a ≤ i) && decide (i ≤ b)))), [none, none, none]) := by
  rw [r1]
  by_cases h : a ≤ i <;> simp -implicitDefEqProofs [g1, runF, msOk, sl0, slS, so0, arS, arO, fins, outF, isM, callO, frzN, frz, frzs, mkArs, mkAr, liveAt, rdv, lives, endC, putFs, truD, asB, bnd_a, pur_a, lft_a, fVar_a, fC_a, f2_a, f1_a, fN_a, sq_a, bnS_a, bnT_a, sNx_a, sBk_a, sCt_a, sExp_a, sRet_a, sRetN_a, sIf_a, sSet_a, storV_a, storL_a, sSetX_a, sSetG_a, lfB_a, fTru_a, fAsB_a, fNot_a, fAnd_a, fOr_a, fNotV_a, fAndV_a, fOrV_a, fIf_a, fChain_a, fIsi_a, fNil_a, fCons_a, fCall_a, fM_a, fDct_a, fPartN_a, fPartS_a, fSl_a, fItm_a, fRng_a, sFor_a, for0_a, gNm_a, gNmC_a, fLr1_a, oSub_a, oFdiv_a, oMod_a, oPow_a, oShl_a, oShr_a, oAnd_a, oOr_a, oXor_a, oI_a, oB_a, oAdd_a, oMul_a, oEq_a, oNe_a, oIn_a, oIs_a, oIx_a, nTup_a, nLst_a, eqI, eqS, eqB, itmD, ty_ii, ty_bi, ty_tt, ty_ll, tyM, is_integer_ok k (.int i) true false rfl rfl, h]
theorem is_bit_ok (k s : Nat) (h : s < 2) : rsL ds glb (k + 3) 2 [.v (.int (s : Nat))] = some (.ok (.val (.bl true)), [none]) := by
  rw [r2]
  have : ((s : Nat) : Int) ≤ 1 := by omega
  simp -implicitDefEqProofs [g2, runF, msOk, sl0, slS, so0, arS, arO, fins, outF, isM, callO, frzN, frz, frzs, mkArs, mkAr, liveAt, rdv, lives, endC, putFs, truD, asB, bnd_a, pur_a, lft_a, fVar_a, fC_a, f2_a, f1_a, fN_a, sq_a, bnS_a, bnT_a, sNx_a, sBk_a, sCt_a, sExp_a, sRet_a, sRetN_a, sIf_a, sSet_a, storV_a, storL_a, sSetX_a, sSetG_a, lfB_a, fTru_a, fAsB_a, fNot_a, fAnd_a, fOr_a, fNotV_a, fAndV_a, fOrV_a, fIf_a, fChain_a, fIsi_a, fNil_a, fCons_a, fCall_a, fM_a, fDct_a, fPartN_a, fPartS_a, fSl_a, fItm_a, fRng_a, sFor_a, for0_a, gNm_a, gNmC_a, fLr1_a, oSub_a, oFdiv_a, oMod_a, oPow_a, oShl_a, oShr_a, oAnd_a, oOr_a, oXor_a, oI_a, oB_a, oAdd_a, oMul_a, oEq_a, oNe_a, oIn_a, oIs_a, oIx_a, nTup_a, nLst_a, eqI, eqS, eqB, itmD, ty_ii, ty_bi, ty_tt, ty_ll, tyM, is_within_int k s 0 1, this]
theorem lot_loop (k : Nat) (v : DV) (size : Nat) : ∀ (l : List Nat) (low : Nat) (x : Option DV), AscF low l size → ∃ (low' : Nat) (x' : Option DV),
    forD (gNm 3) (sq (sIf (fNot (fTru (fCall (rsL ds glb (k + 2) 1) [false, false, false] false (fCons (fVar 3) (fCons (fVar 2) (fCons (f2 oSub (fVar 1) (fC (.int 1))) fNil)))))) (sq (sRet (fC (.bl false))) sNx) sNx) (sq (sSet 2 (f2 oAdd (fVar 3) (fC (.int 1)))) sNx)) (l.map fun p => .int (p : Nat))
      [some v, some (.val (.int (size : Nat))), some (.val (.int (low : Nat))), x] [none, none, none, none] = some (.nx, [some v, some (.val (.int (size : Nat))), some (.val (.int (low' : Nat))), x'], [none, none, none, none])
  | [], low, x, _ => ⟨low, x, rfl⟩
  | p :: r, low, x, h => by
    obtain ⟨h1, h2, h3⟩ := h
    obtain ⟨low', x', e⟩ := lot_loop k v size r (p + 1) (some (.val (.int (p : Nat)))) h3
    refine ⟨low', x', ?_⟩
    have q1 : ((low : Nat) : Int) ≤ p := by omega
    have q2 : ((p : Nat) : Int) ≤ (size : Int) - 1 := by omega
    rw [List.map_cons, for1_a]
    simp -implicitDefEqProofs [runF, msOk, sl0, slS, so0, arS, arO, fins, outF, isM, callO, frzN, frz, frzs, mkArs, mkAr, liveAt, rdv, lives, endC, putFs, truD, asB, bnd_a, pur_a, lft_a, fVar_a, fC_a, f2_a, f1_a, fN_a, sq_a, bnS_a, bnT_a, sNx_a, sBk_a, sCt_a, sExp_a, sRet_a, sRetN_a, sIf_a, sSet_a, storV_a, storL_a, sSetX_a, sSetG_a, lfB_a, fTru_a, fAsB_a, fNot_a, fAnd_a, fOr_a, fNotV_a, fAndV_a, fOrV_a, fIf_a, fChain_a, fIsi_a, fNil_a, fCons_a, fCall_a, fM_a, fDct_a, fPartN_a, fPartS_a, fSl_a, fItm_a, fRng_a, sFor_a, for0_a, gNm_a, gNmC_a, fLr1_a, oSub_a, oFdiv_a, oMod_a, oPow_a, oShl_a, oShr_a, oAnd_a, oOr_a, oXor_a, oI_a, oB_a, oAdd_a, oMul_a, oEq_a, oNe_a, oIn_a, oIs_a, oIx_a, nTup_a, nLst_a, eqI, eqS, eqB, itmD, ty_ii, ty_bi, ty_tt, ty_ll, tyM, is_within_int k p low ((size : Int) - 1), q1, q2]
    exact e
theorem is_lot_ok (k : Nat) (l : List Nat) (size : Nat) (h : AscF 0 l size) : rsL ds glb (k + 3) 3 [.v (.tup (l.map fun p => .int (p : Nat))), .v (.int (size : Nat))] = some (.ok (.val (.bl true)), [none, none]) := by
  rw [r3]
  obtain ⟨low', x', e⟩ := lot_loop k (.val (.tup (l.map fun p => .int (p : Nat)))) size l 0 none h
  simp -implicitDefEqProofs [g3, runF, msOk, sl0, slS, so0, arS, arO, fins, outF, isM, callO, frzN, frz, frzs, mkArs, mkAr, liveAt, rdv, lives, endC, putFs, truD, asB, bnd_a, pur_a, lft_a, fVar_a, fC_a, f2_a, f1_a, fN_a, sq_a, bnS_a, bnT_a, sNx_a, sBk_a, sCt_a, sExp_a, sRet_a, sRetN_a, sIf_a, sSet_a, storV_a, storL_a, sSetX_a, sSetG_a, lfB_a, fTru_a, fAsB_a, fNot_a, fAnd_a, fOr_a, fNotV_a, fAndV_a, fOrV_a, fIf_a, fChain_a, fIsi_a, fNil_a, fCons_a, fCall_a, fM_a, fDct_a, fPartN_a, fPartS_a, fSl_a, fItm_a, fRng_a, sFor_a, for0_a, gNm_a, gNmC_a, fLr1_a, oSub_a, oFdiv_a, oMod_a, oPow_a, oShl_a, oShr_a, oAnd_a, oOr_a, oXor_a, oI_a, oB_a, oAdd_a, oMul_a, oEq_a, oNe_a, oIn_a, oIs_a, oIx_a, nTup_a, nLst_a, eqI, eqS, eqB, itmD, ty_ii, ty_bi, ty_tt, ty_ll, tyM]
  erw [e]
theorem cell_ok (k : Nat) (ns : List Int) (j : Nat) (hj : j < 1000) : ∃ c : Int, rsL ds glb (k + 1) 16 [.v (.lst (ns.map .int)), .v (.int (j : Nat))] = some (.ok (.val (.int c)), [none, none]) := by
  rw [r16]
  by_cases h : j < ns.length
  · have h2 : ((j : Nat) : Int) < ns.length := by omega
    exact ⟨ns[j], by simp -implicitDefEqProofs [g16, runF, msOk, sl0, slS, so0, arS, arO, fins, outF, isM, callO, frzN, frz, frzs, mkArs, mkAr, liveAt, rdv, lives, endC, putFs, truD, asB, bnd_a, pur_a, lft_a, fVar_a, fC_a, f2_a, f1_a, fN_a, sq_a, bnS_a, bnT_a, sNx_a, sBk_a, sCt_a, sExp_a, sRet_a, sRetN_a, sIf_a, sSet_a, storV_a, storL_a, sSetX_a, sSetG_a, lfB_a, fTru_a, fAsB_a, fNot_a, fAnd_a, fOr_a, fNotV_a, fAndV_a, fOrV_a, fIf_a, fChain_a, fIsi_a, fNil_a, fCons_a, fCall_a, fM_a, fDct_a, fPartN_a, fPartS_a, fSl_a, fItm_a, fRng_a, sFor_a, for0_a, gNm_a, gNmC_a, fLr1_a, oSub_a, oFdiv_a, oMod_a, oPow_a, oShl_a, oShr_a, oAnd_a, oOr_a, oXor_a, oI_a, oB_a, oAdd_a, oMul_a, oEq_a, oNe_a, oIn_a, oIs_a, oIx_a, nTup_a, nLst_a, eqI, eqS, eqB, itmD, ty_ii, ty_bi, ty_tt, ty_ll, tyM, nLen, h, h2, atN, nInt]⟩
  · have h2 : ¬ ((j : Nat) : Int) < ns.length := by omega
    refine ⟨spare2 ns.sum j, ?_⟩
    have hs := spare_b ns.sum j
    have m1 : CMulX 65537 (j : Int) := mul64 (by decide) (by decide) (by omega) (by omega)
    have m2 : CMulX (ns.sum % 2147483629 + 65537 * (j : Int) + 65537) 48271 := mul64 (by omega) (by omega) (by decide) (by decide)
    have m3 : CMulX (spare ns.sum j) (spare ns.sum j / 997 + 69623) := mul64 (by omega) (by omega) (by omega) (by omega)
    have e1 : ((ns.sum % 2147483629 + 65537 * (j : Int) + 65537) * 48271) % 2147483647 = spare ns.sum j := by unfold spare; with_reducible rfl
    simp -implicitDefEqProofs [g16, runF, msOk, sl0, slS, so0, arS, arO, fins, outF, isM, callO, frzN, frz, frzs, mkArs, mkAr, liveAt, rdv, lives, endC, putFs, truD, asB, bnd_a, pur_a, lft_a, fVar_a, fC_a, f2_a, f1_a, fN_a, sq_a, bnS_a, bnT_a, sNx_a, sBk_a, sCt_a, sExp_a, sRet_a, sRetN_a, sIf_a, sSet_a, storV_a, storL_a, sSetX_a, sSetG_a, lfB_a, fTru_a, fAsB_a, fNot_a, fAnd_a, fOr_a, fNotV_a, fAndV_a, fOrV_a, fIf_a, fChain_a, fIsi_a, fNil_a, fCons_a, fCall_a, fM_a, fDct_a, fPartN_a, fPartS_a, fSl_a, fItm_a, fRng_a, sFor_a, for0_a, gNm_a, gNmC_a, fLr1_a, oSub_a, oFdiv_a, oMod_a, oPow_a, oShl_a, oShr_a, oAnd_a, oOr_a, oXor_a, oI_a, oB_a, oAdd_a, oMul_a, oEq_a, oNe_a, oIn_a, oIs_a, oIx_a, nTup_a, nLst_a, eqI, eqS, eqB, itmD, ty_ii, ty_bi, ty_tt, ty_ll, tyM, nLen, h2, nInt, nSum, ints_map, div997, fm, fd, m1, m2, e1, m3, spare2]
theorem source_ok (k : Nat) (ns : List Int) (j : Nat) (hj : j < 1000) : ∃ c : Nat, rsL ds glb (k + 2) 17 [.v (.lst (ns.map .int)), .v (.int (j : Nat))] = some (.ok (.new (.lst [.int (c : Nat), .int ((1000 * j : Nat) : Int)])), [none, none]) := by
  rw [r17]
  obtain ⟨c, hc⟩ := cell_ok k ns j hj
  have m1 : CMulX 1000 (j : Int) := mul64 (by decide) (by decide) (by omega) (by omega)
  refine ⟨c.natAbs, ?_⟩
  have hz : (2 : Nat) ≤ sizeLine := by decide
  have e : (if c < 0 then -c else c) = (c.natAbs : Int) := by split <;> omega
  simp -implicitDefEqProofs [g17, runF, msOk, sl0, slS, so0, arS, arO, fins, outF, isM, callO, frzN, frz, frzs, mkArs, mkAr, liveAt, rdv, lives, endC, putFs, truD, asB, bnd_a, pur_a, lft_a, fVar_a, fC_a, f2_a, f1_a, fN_a, sq_a, bnS_a, bnT_a, sNx_a, sBk_a, sCt_a, sExp_a, sRet_a, sRetN_a, sIf_a, sSet_a, storV_a, storL_a, sSetX_a, sSetG_a, lfB_a, fTru_a, fAsB_a, fNot_a, fAnd_a, fOr_a, fNotV_a, fAndV_a, fOrV_a, fIf_a, fChain_a, fIsi_a, fNil_a, fCons_a, fCall_a, fM_a, fDct_a, fPartN_a, fPartS_a, fSl_a, fItm_a, fRng_a, sFor_a, for0_a, gNm_a, gNmC_a, fLr1_a, oSub_a, oFdiv_a, oMod_a, oPow_a, oShl_a, oShr_a, oAnd_a, oOr_a, oXor_a, oI_a, oB_a, oAdd_a, oMul_a, oEq_a, oNe_a, oIn_a, oIs_a, oIx_a, nTup_a, nLst_a, eqI, eqS, eqB, itmD, ty_ii, ty_bi, ty_tt, ty_ll, tyM, hc, nAbs, m1, hz, e]
theorem draw_ok (k a b m : Nat) (hm : 0 < m) (hm2 : m < 1073741824) (hb : b < 1000000000) : ∃ r a' b' : Nat, r < m ∧ b' ≤ b + 1 ∧
    rsL ds glb (k + 1) 18 [.m (.lst [.int (a : Nat), .int (b : Nat)]), .v (.int (m : Nat))] = some (.ok (.val (.int (r : Nat))), [some (true, .lst [.int (a' : Nat), .int (b' : Nat)]), none]) := by
  rw [r18]
  by_cases h : 10 ^ 18 ≤ a
  · have h2 : (1000000000000000000 : Int) ≤ (a : Int) := by omega
    refine ⟨a % m, a / m, b, Nat.mod_lt _ hm, by omega, ?_⟩
    have q1 : ¬ m = 0 := by omega
    have q2 := divN (i := (a : Int)) hm hm2
    simp -implicitDefEqProofs [g18, runF, msOk, sl0, slS, so0, arS, arO, fins, outF, isM, callO, frzN, frz, frzs, mkArs, mkAr, liveAt, rdv, lives, endC, putFs, truD, asB, bnd_a, pur_a, lft_a, fVar_a, fC_a, f2_a, f1_a, fN_a, sq_a, bnS_a, bnT_a, sNx_a, sBk_a, sCt_a, sExp_a, sRet_a, sRetN_a, sIf_a, sSet_a, storV_a, storL_a, sSetX_a, sSetG_a, lfB_a, fTru_a, fAsB_a, fNot_a, fAnd_a, fOr_a, fNotV_a, fAndV_a, fOrV_a, fIf_a, fChain_a, fIsi_a, fNil_a, fCons_a, fCall_a, fM_a, fDct_a, fPartN_a, fPartS_a, fSl_a, fItm_a, fRng_a, sFor_a, for0_a, gNm_a, gNmC_a, fLr1_a, oSub_a, oFdiv_a, oMod_a, oPow_a, oShl_a, oShr_a, oAnd_a, oOr_a, oXor_a, oI_a, oB_a, oAdd_a, oMul_a, oEq_a, oNe_a, oIn_a, oIs_a, oIx_a, nTup_a, nLst_a, eqI, eqS, eqB, itmD, ty_ii, ty_bi, ty_tt, ty_ll, tyM, at0, h2, nInt, pow1018, fm, fd, q1, q2, setX, ixN]
  · have h2 : ¬ (1000000000000000000 : Int) ≤ (a : Int) := by omega
    have n1 := num1_b a b hb
    have n2 := num2_b a b
    have n3 := num3_b a b
    have m0 : CMulX 7919 ((b : Int) + 1) := mul64 (by decide) (by decide) (by omega) (by omega)
    have m1 : CMulX ((a : Int) % 2147483629 + 7919 * ((b : Int) + 1) + 1) 48271 := mul64 (by omega) (by omega) (by decide) (by decide)
    have m2 : CMulX (num1 a b) (num1 a b / 1009 + 69621) := mul64 (by omega) (by omega) (by omega) (by omega)
    have m3 : CMulX (num2 a b) (num2 a b / 2003 + 40692) := mul64 (by omega) (by omega) (by omega) (by omega)
    have e1 : (((a : Int) % 2147483629 + 7919 * ((b : Int) + 1) + 1) * 48271) % 2147483647 = num1 a b := by unfold num1; with_reducible rfl
    have e2 : (num1 a b * (num1 a b / 1009 + 69621)) % 2147483647 = num2 a b := by unfold num2; with_reducible rfl
    have e3 : (num2 a b * (num2 a b / 2003 + 40692)) % 2147483399 = num3 a b := by unfold num3; with_reducible rfl
    have q1 : ¬ m = 0 := by omega
    obtain ⟨r, hr1, hr2⟩ := r_ex (num3 a b / 16) hm
    refine ⟨r, a, b + 1, hr1, Nat.le_refl _, ?_⟩
    · refine run_of (sl' := [some (.loc 0), some (.val (.int m)), none, some (.val (.int (num3 a b)))]) (so' := [some (true, .lst [.int a, .int ((b : Int) + 1)]), none, none, none]) (fl := .rt (.val (.int r))) rfl rfl ?_ rfl rfl
      refine sq_nx (sl' := [some (.loc 0), some (.val (.int m)), none, none]) (so' := [some (true, .lst [.int a, .int b]), none, none, none]) ?_ ?_
      · simp -implicitDefEqProofs [runF, msOk, sl0, slS, so0, arS, arO, fins, outF, isM, callO, frzN, frz, frzs, mkArs, mkAr, liveAt, rdv, lives, endC, putFs, truD, asB, bnd_a, pur_a, lft_a, fVar_a, fC_a, f2_a, f1_a, fN_a, sq_a, bnS_a, bnT_a, sNx_a, sBk_a, sCt_a, sExp_a, sRet_a, sRetN_a, sIf_a, sSet_a, storV_a, storL_a, sSetX_a, sSetG_a, lfB_a, fTru_a, fAsB_a, fNot_a, fAnd_a, fOr_a, fNotV_a, fAndV_a, fOrV_a, fIf_a, fChain_a, fIsi_a, fNil_a, fCons_a, fCall_a, fM_a, fDct_a, fPartN_a, fPartS_a, fSl_a, fItm_a, fRng_a, sFor_a, for0_a, gNm_a, gNmC_a, fLr1_a, oSub_a, oFdiv_a, oMod_a, oPow_a, oShl_a, oShr_a, oAnd_a, oOr_a, oXor_a, oI_a, oB_a, oAdd_a, oMul_a, oEq_a, oNe_a, oIn_a, oIs_a, oIx_a, nTup_a, nLst_a, eqI, eqS, eqB, itmD, ty_ii, ty_bi, ty_tt, ty_ll, tyM, at0, h2, pow1018]
      refine sq_nx (sl' := [some (.loc 0), some (.val (.int m)), none, none]) (so' := [some (true, .lst [.int a, .int ((b : Int) + 1)]), none, none, none]) ?_ ?_
      · simp -implicitDefEqProofs [runF, msOk, sl0, slS, so0, arS, arO, fins, outF, isM, callO, frzN, frz, frzs, mkArs, mkAr, liveAt, rdv, lives, endC, putFs, truD, asB, bnd_a, pur_a, lft_a, fVar_a, fC_a, f2_a, f1_a, fN_a, sq_a, bnS_a, bnT_a, sNx_a, sBk_a, sCt_a, sExp_a, sRet_a, sRetN_a, sIf_a, sSet_a, storV_a, storL_a, sSetX_a, sSetG_a, lfB_a, fTru_a, fAsB_a, fNot_a, fAnd_a, fOr_a, fNotV_a, fAndV_a, fOrV_a, fIf_a, fChain_a, fIsi_a, fNil_a, fCons_a, fCall_a, fM_a, fDct_a, fPartN_a, fPartS_a, fSl_a, fItm_a, fRng_a, sFor_a, for0_a, gNm_a, gNmC_a, fLr1_a, oSub_a, oFdiv_a, oMod_a, oPow_a, oShl_a, oShr_a, oAnd_a, oOr_a, oXor_a, oI_a, oB_a, oAdd_a, oMul_a, oEq_a, oNe_a, oIn_a, oIs_a, oIx_a, nTup_a, nLst_a, eqI, eqS, eqB, itmD, ty_ii, ty_bi, ty_tt, ty_ll, tyM, at1, setX, ixN]
      refine sq_nx (sl' := [some (.loc 0), some (.val (.int m)), none, some (.val (.int (num1 a b)))]) (so' := [some (true, .lst [.int a, .int ((b : Int) + 1)]), none, none, none]) ?_ ?_
      · simp -implicitDefEqProofs [runF, msOk, sl0, slS, so0, arS, arO, fins, outF, isM, callO, frzN, frz, frzs, mkArs, mkAr, liveAt, rdv, lives, endC, putFs, truD, asB, bnd_a, pur_a, lft_a, fVar_a, fC_a, f2_a, f1_a, fN_a, sq_a, bnS_a, bnT_a, sNx_a, sBk_a, sCt_a, sExp_a, sRet_a, sRetN_a, sIf_a, sSet_a, storV_a, storL_a, sSetX_a, sSetG_a, lfB_a, fTru_a, fAsB_a, fNot_a, fAnd_a, fOr_a, fNotV_a, fAndV_a, fOrV_a, fIf_a, fChain_a, fIsi_a, fNil_a, fCons_a, fCall_a, fM_a, fDct_a, fPartN_a, fPartS_a, fSl_a, fItm_a, fRng_a, sFor_a, for0_a, gNm_a, gNmC_a, fLr1_a, oSub_a, oFdiv_a, oMod_a, oPow_a, oShl_a, oShr_a, oAnd_a, oOr_a, oXor_a, oI_a, oB_a, oAdd_a, oMul_a, oEq_a, oNe_a, oIn_a, oIs_a, oIx_a, nTup_a, nLst_a, eqI, eqS, eqB, itmD, ty_ii, ty_bi, ty_tt, ty_ll, tyM, at0, at1, nInt, fm, m0, m1, e1]
      refine sq_nx (sl' := [some (.loc 0), some (.val (.int m)), none, some (.val (.int (num2 a b)))]) (so' := [some (true, .lst [.int a, .int ((b : Int) + 1)]), none, none, none]) ?_ ?_
      · simp -implicitDefEqProofs [runF, msOk, sl0, slS, so0, arS, arO, fins, outF, isM, callO, frzN, frz, frzs, mkArs, mkAr, liveAt, rdv, lives, endC, putFs, truD, asB, bnd_a, pur_a, lft_a, fVar_a, fC_a, f2_a, f1_a, fN_a, sq_a, bnS_a, bnT_a, sNx_a, sBk_a, sCt_a, sExp_a, sRet_a, sRetN_a, sIf_a, sSet_a, storV_a, storL_a, sSetX_a, sSetG_a, lfB_a, fTru_a, fAsB_a, fNot_a, fAnd_a, fOr_a, fNotV_a, fAndV_a, fOrV_a, fIf_a, fChain_a, fIsi_a, fNil_a, fCons_a, fCall_a, fM_a, fDct_a, fPartN_a, fPartS_a, fSl_a, fItm_a, fRng_a, sFor_a, for0_a, gNm_a, gNmC_a, fLr1_a, oSub_a, oFdiv_a, oMod_a, oPow_a, oShl_a, oShr_a, oAnd_a, oOr_a, oXor_a, oI_a, oB_a, oAdd_a, oMul_a, oEq_a, oNe_a, oIn_a, oIs_a, oIx_a, nTup_a, nLst_a, eqI, eqS, eqB, itmD, ty_ii, ty_bi, ty_tt, ty_ll, tyM, nInt, fm, fd, m2, e2, div1009]
      refine sq_nx (sl' := [some (.loc 0), some (.val (.int m)), none, some (.val (.int (num3 a b)))]) (so' := [some (true, .lst [.int a, .int ((b : Int) + 1)]), none, none, none]) ?_ ?_
      · simp -implicitDefEqProofs [runF, msOk, sl0, slS, so0, arS, arO, fins, outF, isM, callO, frzN, frz, frzs, mkArs, mkAr, liveAt, rdv, lives, endC, putFs, truD, asB, bnd_a, pur_a, lft_a, fVar_a, fC_a, f2_a, f1_a, fN_a, sq_a, bnS_a, bnT_a, sNx_a, sBk_a, sCt_a, sExp_a, sRet_a, sRetN_a, sIf_a, sSet_a, storV_a, storL_a, sSetX_a, sSetG_a, lfB_a, fTru_a, fAsB_a, fNot_a, fAnd_a, fOr_a, fNotV_a, fAndV_a, fOrV_a, fIf_a, fChain_a, fIsi_a, fNil_a, fCons_a, fCall_a, fM_a, fDct_a, fPartN_a, fPartS_a, fSl_a, fItm_a, fRng_a, sFor_a, for0_a, gNm_a, gNmC_a, fLr1_a, oSub_a, oFdiv_a, oMod_a, oPow_a, oShl_a, oShr_a, oAnd_a, oOr_a, oXor_a, oI_a, oB_a, oAdd_a, oMul_a, oEq_a, oNe_a, oIn_a, oIs_a, oIx_a, nTup_a, nLst_a, eqI, eqS, eqB, itmD, ty_ii, ty_bi, ty_tt, ty_ll, tyM, nInt, fm, fd, m3, e3, div2003]
      · simp -implicitDefEqProofs [runF, msOk, sl0, slS, so0, arS, arO, fins, outF, isM, callO, frzN, frz, frzs, mkArs, mkAr, liveAt, rdv, lives, endC, putFs, truD, asB, bnd_a, pur_a, lft_a, fVar_a, fC_a, f2_a, f1_a, fN_a, sq_a, bnS_a, bnT_a, sNx_a, sBk_a, sCt_a, sExp_a, sRet_a, sRetN_a, sIf_a, sSet_a, storV_a, storL_a, sSetX_a, sSetG_a, lfB_a, fTru_a, fAsB_a, fNot_a, fAnd_a, fOr_a, fNotV_a, fAndV_a, fOrV_a, fIf_a, fChain_a, fIsi_a, fNil_a, fCons_a, fCall_a, fM_a, fDct_a, fPartN_a, fPartS_a, fSl_a, fItm_a, fRng_a, sFor_a, for0_a, gNm_a, gNmC_a, fLr1_a, oSub_a, oFdiv_a, oMod_a, oPow_a, oShl_a, oShr_a, oAnd_a, oOr_a, oXor_a, oI_a, oB_a, oAdd_a, oMul_a, oEq_a, oNe_a, oIn_a, oIs_a, oIx_a, nTup_a, nLst_a, eqI, eqS, eqB, itmD, ty_ii, ty_bi, ty_tt, ty_ll, tyM, nInt, fm, fd, div16, q1, hr2]
theorem mask_loop (v : DV) : ∀ (l : List Nat) (m : Nat) (x : Option DV), (∀ p ∈ l, p < 1000) → ∃ x',
    forD (gNm 2) (sq (sSet 1 (f2 oOr (fVar 1) (f2 oShl (fC (.int 1)) (fVar 2)))) sNx) (l.map fun p => .int (p : Nat)) [some v, some (.val (.int (m : Nat))), x] [none, none, none] = some (.nx, [some v, some (.val (.int (orAll m l : Nat))), x'], [none, none, none])
  | [], m, x, _ => ⟨x, rfl⟩
  | p :: r, m, x, h => by
    obtain ⟨x', e⟩ := mask_loop v r (m ||| 2 ^ p) (some (.val (.int (p : Nat)))) fun q hq => h q (List.mem_cons_of_mem _ hq)
    refine ⟨x', ?_⟩
    have q1 := shl_bits (h p List.mem_cons_self)
    refine for1_nx (sl1 := [some v, some (.val (.int (m : Nat))), some (.val (.int (p : Nat)))]) (so1 := [none, none, none]) rfl (sq_nx (sl' := [some v, some (.val (.int ((m ||| 2 ^ p : Nat) : Int))), some (.val (.int (p : Nat)))]) (so' := [none, none, none]) ?_ rfl) e
    have q2 := or_nat m (2 ^ p)
    have q3 := shl1 p
    simp -implicitDefEqProofs only [runF, msOk, sl0, slS, so0, arS, arO, fins, outF, isM, callO, frzN, frz, frzs, mkArs, mkAr, liveAt, rdv, lives, endC, putFs, truD, asB, bnd_a, pur_a, lft_a, fVar_a, fC_a, f2_a, f1_a, fN_a, sq_a, bnS_a, bnT_a, sNx_a, sBk_a, sCt_a, sExp_a, sRet_a, sRetN_a, sIf_a, sSet_a, storV_a, storL_a, sSetX_a, sSetG_a, lfB_a, fTru_a, fAsB_a, fNot_a, fAnd_a, fOr_a, fNotV_a, fAndV_a, fOrV_a, fIf_a, fChain_a, fIsi_a, fNil_a, fCons_a, fCall_a, fM_a, fDct_a, fPartN_a, fPartS_a, fSl_a, fItm_a, fRng_a, sFor_a, for0_a, gNm_a, gNmC_a, fLr1_a, oSub_a, oFdiv_a, oMod_a, oPow_a, oShl_a, oShr_a, oAnd_a, oOr_a, oXor_a, oI_a, oB_a, oAdd_a, oMul_a, oEq_a, oNe_a, oIn_a, oIs_a, oIx_a, nTup_a, nLst_a, eqI, eqS, eqB, itmD, ty_ii, ty_bi, ty_tt, ty_ll, tyM, q1, q3, q2, if_true, List.getElem?_cons_zero, List.getElem?_cons_succ, List.set_cons_zero, List.set_cons_succ, List.length_cons, List.length_nil, List.take_succ_cons, List.take_zero]
theorem mask_ok (k : Nat) (l : List Nat) (h : ∀ p ∈ l, p < 1000) : rsL ds glb (k + 1) 4 [.v (.tup (l.map fun p => .int (p : Nat)))] = some (.ok (.val (.int (orAll 0 l : Nat))), [none]) := by
  rw [r4]
  obtain ⟨x', e⟩ := mask_loop (.val (.tup (l.map fun p => .int (p : Nat)))) l 0 none h
  refine run_of (sl' := [some (.val (.tup (l.map fun p => .int (p : Nat)))), some (.val (.int (orAll 0 l : Nat))), x']) (so' := [none, none, none]) (fl := .rt (.val (.int (orAll 0 l : Nat)))) rfl rfl ?_ rfl rfl
  refine sq_nx (sl' := [some (.val (.tup (l.map fun p => .int (p : Nat)))), some (.val (.int ((0 : Nat) : Int))), none]) (so' := [none, none, none]) rfl ?_
  refine sq_nx (sl' := [some (.val (.tup (l.map fun p => .int (p : Nat)))), some (.val (.int (orAll 0 l : Nat))), x']) (so' := [none, none, none]) e ?_
  rfl
theorem ones_ok (k m : Nat) (h : m < 1024) : rsL ds glb (k + 1) 6 [.v (.int (m : Nat))] = some (.ok (.val (.int (pc m : Nat))), [none]) := by
  rw [r6]
  obtain ⟨h1, h2⟩ := cnt10 m h
  simp -implicitDefEqProofs [g6, runF, msOk, sl0, slS, so0, arS, arO, fins, outF, isM, callO, frzN, frz, frzs, mkArs, mkAr, liveAt, rdv, lives, endC, putFs, truD, asB, bnd_a, pur_a, lft_a, fVar_a, fC_a, f2_a, f1_a, fN_a, sq_a, bnS_a, bnT_a, sNx_a, sBk_a, sCt_a, sExp_a, sRet_a, sRetN_a, sIf_a, sSet_a, storV_a, storL_a, sSetX_a, sSetG_a, lfB_a, fTru_a, fAsB_a, fNot_a, fAnd_a, fOr_a, fNotV_a, fAndV_a, fOrV_a, fIf_a, fChain_a, fIsi_a, fNil_a, fCons_a, fCall_a, fM_a, fDct_a, fPartN_a, fPartS_a, fSl_a, fItm_a, fRng_a, sFor_a, for0_a, gNm_a, gNmC_a, fLr1_a, oSub_a, oFdiv_a, oMod_a, oPow_a, oShl_a, oShr_a, oAnd_a, oOr_a, oXor_a, oI_a, oB_a, oAdd_a, oMul_a, oEq_a, oNe_a, oIn_a, oIs_a, oIx_a, nTup_a, nLst_a, eqI, eqS, eqB, itmD, ty_ii, ty_bi, ty_tt, ty_ll, tyM, mCount, oBin, h1, h2]
theorem least_ok (k m : Nat) (h : m < 1024) (h0 : 0 < m) : rsL ds glb (k + 1) 7 [.v (.int (m : Nat))] = some (.ok (.val (.int (leastN m : Nat))), [none]) := by
  rw [r7]
  obtain ⟨_, _, h3, _⟩ := low10 m h h0
  refine run_of (sl' := [some (.val (.int (m : Nat)))]) (so' := [none]) (fl := .rt (.val (.int (leastN m : Nat)))) rfl rfl ?_ rfl rfl
  rw [← h3]
  rfl
theorem lotof_loop (k : Nat) : ∀ (fuel m : Nat) (acc : List Nat), m < 1024 → m < fuel → acc.length + (bits10 m).length ≤ 100 →
    whl (fAsB (f2 (oB fun i j => decide (j < i)) (fVar 0) (fC (.int 0)))) (sq (sExp (fM "list" mAppend (fVar 1) (fCons (fCall (rsL ds glb (k + 1) 7) [false] false (fCons (fVar 0) fNil)) fNil))) (sq (sSet 0 (f2 oAnd (fVar 0) (f2 oSub (fVar 0) (fC (.int 1))))) sNx)) fuel
      [some (.val (.int (m : Nat))), some (.loc 1)] [none, some (true, .lst (acc.map fun p => .int (p : Nat)))] = some (.nx, [some (.val (.int 0)), some (.loc 1)], [none, some (true, .lst ((acc ++ bits10 m).map fun p => .int (p : Nat)))])
  | 0, m, acc, _, h, _ => by omega
  | fuel + 1, m, acc, hm, hf, hl => by
    by_cases h0 : m = 0
    · subst h0
      refine whl_end (so1 := [none, some (true, .lst (acc.map fun p => .int (p : Nat)))]) (by simp [runF, msOk, sl0, slS, so0, arS, arO, fins, outF, isM, callO, frzN, frz, frzs, mkArs, mkAr, liveAt, rdv, lives, endC, putFs, truD, asB, bnd_a, pur_a, lft_a, fVar_a, fC_a, f2_a, f1_a, fN_a, sq_a, bnS_a, bnT_a, sNx_a, sBk_a, sCt_a, sExp_a, sRet_a, sRetN_a, sIf_a, sSet_a, storV_a, storL_a, sSetX_a, sSetG_a, lfB_a, fTru_a, fAsB_a, fNot_a, fAnd_a, fOr_a, fNotV_a, fAndV_a, fOrV_a, fIf_a, fChain_a, fIsi_a, fNil_a, fCons_a, fCall_a, fM_a, fDct_a, fPartN_a, fPartS_a, fSl_a, fItm_a, fRng_a, sFor_a, for0_a, gNm_a, gNmC_a, fLr1_a, oSub_a, oFdiv_a, oMod_a, oPow_a, oShl_a, oShr_a, oAnd_a, oOr_a, oXor_a, oI_a, oB_a, oAdd_a, oMul_a, oEq_a, oNe_a, oIn_a, oIs_a, oIx_a, nTup_a, nLst_a, eqI, eqS, eqB, itmD, ty_ii, ty_bi, ty_tt, ty_ll, tyM]) ?_
      simp [bits10_0]
    · have hp : 0 < m := by omega
      obtain ⟨e1, e2, _, e4⟩ := low10 m hm hp
      have e5 : (0 : Int) < (m : Int) := by omega
      have ih := lotof_loop k fuel (m &&& (m - 1)) (acc ++ [leastN m]) (by omega) (by omega) (by rw [e1] at hl; simp at hl ⊢; omega)
      have hz : acc.length < sizeLine := by
        have : (100 : Nat) < sizeLine := by decide
        omega
      rw [e1, show acc ++ leastN m :: bits10 (m &&& m - 1) = (acc ++ [leastN m]) ++ bits10 (m &&& (m - 1)) by simp]
      refine whl_nx (so1 := [none, some (true, .lst (acc.map fun p => .int (p : Nat)))]) (by simp [runF, msOk, sl0, slS, so0, arS, arO, fins, outF, isM, callO, frzN, frz, frzs, mkArs, mkAr, liveAt, rdv, lives, endC, putFs, truD, asB, bnd_a, pur_a, lft_a, fVar_a, fC_a, f2_a, f1_a, fN_a, sq_a, bnS_a, bnT_a, sNx_a, sBk_a, sCt_a, sExp_a, sRet_a, sRetN_a, sIf_a, sSet_a, storV_a, storL_a, sSetX_a, sSetG_a, lfB_a, fTru_a, fAsB_a, fNot_a, fAnd_a, fOr_a, fNotV_a, fAndV_a, fOrV_a, fIf_a, fChain_a, fIsi_a, fNil_a, fCons_a, fCall_a, fM_a, fDct_a, fPartN_a, fPartS_a, fSl_a, fItm_a, fRng_a, sFor_a, for0_a, gNm_a, gNmC_a, fLr1_a, oSub_a, oFdiv_a, oMod_a, oPow_a, oShl_a, oShr_a, oAnd_a, oOr_a, oXor_a, oI_a, oB_a, oAdd_a, oMul_a, oEq_a, oNe_a, oIn_a, oIs_a, oIx_a, nTup_a, nLst_a, eqI, eqS, eqB, itmD, ty_ii, ty_bi, ty_tt, ty_ll, tyM, hp]) (sq_nx (sl' := [some (.val (.int (m : Nat))), some (.loc 1)]) (so' := [none, some (true, .lst ((acc ++ [leastN m]).map fun p => .int (p : Nat)))]) ?_ (sq_nx (sl' := [some (.val (.int ((m &&& (m - 1) : Nat) : Int))), some (.loc 1)]) (so' := [none, some (true, .lst ((acc ++ [leastN m]).map fun p => .int (p : Nat)))]) ?_ rfl)) ih
      · simp -implicitDefEqProofs [runF, msOk, sl0, slS, so0, arS, arO, fins, outF, isM, callO, frzN, frz, frzs, mkArs, mkAr, liveAt, rdv, lives, endC, putFs, truD, asB, bnd_a, pur_a, lft_a, fVar_a, fC_a, f2_a, f1_a, fN_a, sq_a, bnS_a, bnT_a, sNx_a, sBk_a, sCt_a, sExp_a, sRet_a, sRetN_a, sIf_a, sSet_a, storV_a, storL_a, sSetX_a, sSetG_a, lfB_a, fTru_a, fAsB_a, fNot_a, fAnd_a, fOr_a, fNotV_a, fAndV_a, fOrV_a, fIf_a, fChain_a, fIsi_a, fNil_a, fCons_a, fCall_a, fM_a, fDct_a, fPartN_a, fPartS_a, fSl_a, fItm_a, fRng_a, sFor_a, for0_a, gNm_a, gNmC_a, fLr1_a, oSub_a, oFdiv_a, oMod_a, oPow_a, oShl_a, oShr_a, oAnd_a, oOr_a, oXor_a, oI_a, oB_a, oAdd_a, oMul_a, oEq_a, oNe_a, oIn_a, oIs_a, oIx_a, nTup_a, nLst_a, eqI, eqS, eqB, itmD, ty_ii, ty_bi, ty_tt, ty_ll, tyM, least_ok k m hm hp, mAppend, hz]
      · simp -implicitDefEqProofs [runF, msOk, sl0, slS, so0, arS, arO, fins, outF, isM, callO, frzN, frz, frzs, mkArs, mkAr, liveAt, rdv, lives, endC, putFs, truD, asB, bnd_a, pur_a, lft_a, fVar_a, fC_a, f2_a, f1_a, fN_a, sq_a, bnS_a, bnT_a, sNx_a, sBk_a, sCt_a, sExp_a, sRet_a, sRetN_a, sIf_a, sSet_a, storV_a, storL_a, sSetX_a, sSetG_a, lfB_a, fTru_a, fAsB_a, fNot_a, fAnd_a, fOr_a, fNotV_a, fAndV_a, fOrV_a, fIf_a, fChain_a, fIsi_a, fNil_a, fCons_a, fCall_a, fM_a, fDct_a, fPartN_a, fPartS_a, fSl_a, fItm_a, fRng_a, sFor_a, for0_a, gNm_a, gNmC_a, fLr1_a, oSub_a, oFdiv_a, oMod_a, oPow_a, oShl_a, oShr_a, oAnd_a, oOr_a, oXor_a, oI_a, oB_a, oAdd_a, oMul_a, oEq_a, oNe_a, oIn_a, oIs_a, oIx_a, nTup_a, nLst_a, eqI, eqS, eqB, itmD, ty_ii, ty_bi, ty_tt, ty_ll, tyM, e4]
theorem lot_of_ok (k m : Nat) (h : m < 1024) : rsL ds glb (k + 2) 5 [.v (.int (m : Nat))] = some (.ok (.val (lotD m)), [none]) := by
  rw [r5]
  have hl := pc_le m
  have e := lotof_loop k 1000000 m [] h (by omega) (by unfold pc at hl; simp; omega)
  refine run_of (sl' := [some (.val (.int 0)), some (.loc 1)]) (so' := [none, some (true, .lst ((bits10 m).map fun p => .int (p : Nat)))]) (fl := .rt (.val (lotD m))) rfl rfl ?_ rfl rfl
  refine sq_nx (sl' := [some (.val (.int (m : Nat))), some (.loc 1)]) (so' := [none, some (true, .lst [])]) ?_ ?_
  · have hz : 0 ≤ sizeLine := Nat.zero_le _
    simp -implicitDefEqProofs [runF, msOk, sl0, slS, so0, arS, arO, fins, outF, isM, callO, frzN, frz, frzs, mkArs, mkAr, liveAt, rdv, lives, endC, putFs, truD, asB, bnd_a, pur_a, lft_a, fVar_a, fC_a, f2_a, f1_a, fN_a, sq_a, bnS_a, bnT_a, sNx_a, sBk_a, sCt_a, sExp_a, sRet_a, sRetN_a, sIf_a, sSet_a, storV_a, storL_a, sSetX_a, sSetG_a, lfB_a, fTru_a, fAsB_a, fNot_a, fAnd_a, fOr_a, fNotV_a, fAndV_a, fOrV_a, fIf_a, fChain_a, fIsi_a, fNil_a, fCons_a, fCall_a, fM_a, fDct_a, fPartN_a, fPartS_a, fSl_a, fItm_a, fRng_a, sFor_a, for0_a, gNm_a, gNmC_a, fLr1_a, oSub_a, oFdiv_a, oMod_a, oPow_a, oShl_a, oShr_a, oAnd_a, oOr_a, oXor_a, oI_a, oB_a, oAdd_a, oMul_a, oEq_a, oNe_a, oIn_a, oIs_a, oIx_a, nTup_a, nLst_a, eqI, eqS, eqB, itmD, ty_ii, ty_bi, ty_tt, ty_ll, tyM]
  refine sq_nx (sl' := [some (.val (.int 0)), some (.loc 1)]) (so' := [none, some (true, .lst ((bits10 m).map fun p => .int (p : Nat)))]) e ?_
  simp -implicitDefEqProofs [runF, msOk, sl0, slS, so0, arS, arO, fins, outF, isM, callO, frzN, frz, frzs, mkArs, mkAr, liveAt, rdv, lives, endC, putFs, truD, asB, bnd_a, pur_a, lft_a, fVar_a, fC_a, f2_a, f1_a, fN_a, sq_a, bnS_a, bnT_a, sNx_a, sBk_a, sCt_a, sExp_a, sRet_a, sRetN_a, sIf_a, sSet_a, storV_a, storL_a, sSetX_a, sSetG_a, lfB_a, fTru_a, fAsB_a, fNot_a, fAnd_a, fOr_a, fNotV_a, fAndV_a, fOrV_a, fIf_a, fChain_a, fIsi_a, fNil_a, fCons_a, fCall_a, fM_a, fDct_a, fPartN_a, fPartS_a, fSl_a, fItm_a, fRng_a, sFor_a, for0_a, gNm_a, gNmC_a, fLr1_a, oSub_a, oFdiv_a, oMod_a, oPow_a, oShl_a, oShr_a, oAnd_a, oOr_a, oXor_a, oI_a, oB_a, oAdd_a, oMul_a, oEq_a, oNe_a, oIn_a, oIs_a, oIx_a, nTup_a, nLst_a, eqI, eqS, eqB, itmD, ty_ii, ty_bi, ty_tt, ty_ll, tyM, nTuple, lotD]
theorem masks_of_ok (k : Nat) (L : Lk) (h : L.Ok) : rsL ds glb (k + 2) 8 [.v (lookD L)] = some (.ok (.val (maskD L)), [none]) := by
  rw [r8]
  have a1 := mask_ok k (bits10 L.f) fun p hp => by have := bits10_lt hp; omega
  have a2 := mask_ok k (bits10 L.t) fun p hp => by have := bits10_lt hp; omega
  rw [or10 _ h.f] at a1
  rw [or10 _ h.t] at a2
  have hz : (3 : Nat) ≤ sizeLine := by decide
  simp -implicitDefEqProofs [g8, runF, msOk, sl0, slS, so0, arS, arO, fins, outF, isM, callO, frzN, frz, frzs, mkArs, mkAr, liveAt, rdv, lives, endC, putFs, truD, asB, bnd_a, pur_a, lft_a, fVar_a, fC_a, f2_a, f1_a, fN_a, sq_a, bnS_a, bnT_a, sNx_a, sBk_a, sCt_a, sExp_a, sRet_a, sRetN_a, sIf_a, sSet_a, storV_a, storL_a, sSetX_a, sSetG_a, lfB_a, fTru_a, fAsB_a, fNot_a, fAnd_a, fOr_a, fNotV_a, fAndV_a, fOrV_a, fIf_a, fChain_a, fIsi_a, fNil_a, fCons_a, fCall_a, fM_a, fDct_a, fPartN_a, fPartS_a, fSl_a, fItm_a, fRng_a, sFor_a, for0_a, gNm_a, gNmC_a, fLr1_a, oSub_a, oFdiv_a, oMod_a, oPow_a, oShl_a, oShr_a, oAnd_a, oOr_a, oXor_a, oI_a, oB_a, oAdd_a, oMul_a, oEq_a, oNe_a, oIn_a, oIs_a, oIx_a, nTup_a, nLst_a, eqI, eqS, eqB, itmD, ty_ii, ty_bi, ty_tt, ty_ll, tyM, lookD, lotD, maskD, at0, at1, at2, a1, a2, hz]
theorem look_of_ok (k : Nat) (L : Lk) (h : L.Ok) : rsL ds glb (k + 3) 9 [.v (maskD L)] = some (.ok (.val (lookD L)), [none]) := by
  rw [r9]
  have a1 := lot_of_ok k L.f h.f
  have a2 := lot_of_ok k L.t h.t
  have hz : (3 : Nat) ≤ sizeLine := by decide
  simp -implicitDefEqProofs [g9, runF, msOk, sl0, slS, so0, arS, arO, fins, outF, isM, callO, frzN, frz, frzs, mkArs, mkAr, liveAt, rdv, lives, endC, putFs, truD, asB, bnd_a, pur_a, lft_a, fVar_a, fC_a, f2_a, f1_a, fN_a, sq_a, bnS_a, bnT_a, sNx_a, sBk_a, sCt_a, sExp_a, sRet_a, sRetN_a, sIf_a, sSet_a, storV_a, storL_a, sSetX_a, sSetG_a, lfB_a, fTru_a, fAsB_a, fNot_a, fAnd_a, fOr_a, fNotV_a, fAndV_a, fOrV_a, fIf_a, fChain_a, fIsi_a, fNil_a, fCons_a, fCall_a, fM_a, fDct_a, fPartN_a, fPartS_a, fSl_a, fItm_a, fRng_a, sFor_a, for0_a, gNm_a, gNmC_a, fLr1_a, oSub_a, oFdiv_a, oMod_a, oPow_a, oShl_a, oShr_a, oAnd_a, oOr_a, oXor_a, oI_a, oB_a, oAdd_a, oMul_a, oEq_a, oNe_a, oIn_a, oIs_a, oIx_a, nTup_a, nLst_a, eqI, eqS, eqB, itmD, ty_ii, ty_bi, ty_tt, ty_ll, tyM, lookD, maskD, at0, at1, at2, a1, a2, hz]
theorem go_ok (k : Nat) (A B : Lk) (a : A.Ok) (b : B.Ok) : rsL ds glb (k + 2) 10 [.v (maskD A), .v (maskD B)] = some (.ok (.val (.bl (goT A B))), [none, none]) := by
  rw [r10]
  have a1 := ones_ok k (A.f &&& B.t) (and_lt a.f)
  have a2 := ones_ok k (A.t &&& B.f) (and_lt a.t)
  have e := goT_int A B
  simp -implicitDefEqProofs [g10, runF, msOk, sl0, slS, so0, arS, arO, fins, outF, isM, callO, frzN, frz, frzs, mkArs, mkAr, liveAt, rdv, lives, endC, putFs, truD, asB, bnd_a, pur_a, lft_a, fVar_a, fC_a, f2_a, f1_a, fN_a, sq_a, bnS_a, bnT_a, sNx_a, sBk_a, sCt_a, sExp_a, sRet_a, sRetN_a, sIf_a, sSet_a, storV_a, storL_a, sSetX_a, sSetG_a, lfB_a, fTru_a, fAsB_a, fNot_a, fAnd_a, fOr_a, fNotV_a, fAndV_a, fOrV_a, fIf_a, fChain_a, fIsi_a, fNil_a, fCons_a, fCall_a, fM_a, fDct_a, fPartN_a, fPartS_a, fSl_a, fItm_a, fRng_a, sFor_a, for0_a, gNm_a, gNmC_a, fLr1_a, oSub_a, oFdiv_a, oMod_a, oPow_a, oShl_a, oShr_a, oAnd_a, oOr_a, oXor_a, oI_a, oB_a, oAdd_a, oMul_a, oEq_a, oNe_a, oIn_a, oIs_a, oIx_a, nTup_a, nLst_a, eqI, eqS, eqB, itmD, ty_ii, ty_bi, ty_tt, ty_ll, tyM, maskD, at0, at1, at2, and_nat, a1, a2, PyProof.Rows.bitAnd_m1]
  exact e
theorem quarters_ok (k : Nat) (A B : Lk) (a : A.Ok) (b : B.Ok) : rsL ds glb (k + 2) 11 [.v (maskD A), .v (maskD B)] = some (.ok (.val (.int (quarters A B))), [none, none]) := by
  rw [r11]
  have a1 := ones_ok k (A.f &&& A.t) (and_lt a.f)
  have a2 := ones_ok k (B.f &&& B.t) (and_lt b.f)
  have a3 := ones_ok k (A.t &&& B.f) (and_lt a.t)
  have a4 := ones_ok k ((A.f ^^^ B.f) &&& (A.t ^^^ B.t)) (and_lt (xor_lt a.f b.f))
  have p1 := pc_le (A.t &&& B.f)
  have m1 : CMulX 2 ((A.s : Int) + B.s + pc (A.t &&& B.f)) := mul64 (by decide) (by decide) (by have := a.s; have := b.s; omega) (by have := a.s; have := b.s; omega)
  simp -implicitDefEqProofs [g11, runF, msOk, sl0, slS, so0, arS, arO, fins, outF, isM, callO, frzN, frz, frzs, mkArs, mkAr, liveAt, rdv, lives, endC, putFs, truD, asB, bnd_a, pur_a, lft_a, fVar_a, fC_a, f2_a, f1_a, fN_a, sq_a, bnS_a, bnT_a, sNx_a, sBk_a, sCt_a, sExp_a, sRet_a, sRetN_a, sIf_a, sSet_a, storV_a, storL_a, sSetX_a, sSetG_a, lfB_a, fTru_a, fAsB_a, fNot_a, fAnd_a, fOr_a, fNotV_a, fAndV_a, fOrV_a, fIf_a, fChain_a, fIsi_a, fNil_a, fCons_a, fCall_a, fM_a, fDct_a, fPartN_a, fPartS_a, fSl_a, fItm_a, fRng_a, sFor_a, for0_a, gNm_a, gNmC_a, fLr1_a, oSub_a, oFdiv_a, oMod_a, oPow_a, oShl_a, oShr_a, oAnd_a, oOr_a, oXor_a, oI_a, oB_a, oAdd_a, oMul_a, oEq_a, oNe_a, oIn_a, oIs_a, oIx_a, nTup_a, nLst_a, eqI, eqS, eqB, itmD, ty_ii, ty_bi, ty_tt, ty_ll, tyM, maskD, at0, at1, at2, and_nat, xor_nat, a1, a2, a3, a4, m1, quarters]
theorem product_ok (k : Nat) (A B : Lk) (a : A.Ok) (b : B.Ok) : rsL ds glb (k + 3) 12 [.v (maskD A), .v (maskD B)] = some (.ok (.val (maskD (prod A B))), [none, none]) := by
  rw [r12]
  have a1 := quarters_ok k A B a b
  have e := prod_s A B
  have hz : (3 : Nat) ≤ sizeLine := by decide
  have m1 : maskD (prod A B) = .tup [.int (quarters A B / 2 % 2), .int ((A.f ^^^ B.f : Nat) : Int), .int ((A.t ^^^ B.t : Nat) : Int)] := by rw [e]; rfl
  rw [m1]
  simp -implicitDefEqProofs [g12, runF, msOk, sl0, slS, so0, arS, arO, fins, outF, isM, callO, frzN, frz, frzs, mkArs, mkAr, liveAt, rdv, lives, endC, putFs, truD, asB, bnd_a, pur_a, lft_a, fVar_a, fC_a, f2_a, f1_a, fN_a, sq_a, bnS_a, bnT_a, sNx_a, sBk_a, sCt_a, sExp_a, sRet_a, sRetN_a, sIf_a, sSet_a, storV_a, storL_a, sSetX_a, sSetG_a, lfB_a, fTru_a, fAsB_a, fNot_a, fAnd_a, fOr_a, fNotV_a, fAndV_a, fOrV_a, fIf_a, fChain_a, fIsi_a, fNil_a, fCons_a, fCall_a, fM_a, fDct_a, fPartN_a, fPartS_a, fSl_a, fItm_a, fRng_a, sFor_a, for0_a, gNm_a, gNmC_a, fLr1_a, oSub_a, oFdiv_a, oMod_a, oPow_a, oShl_a, oShr_a, oAnd_a, oOr_a, oXor_a, oI_a, oB_a, oAdd_a, oMul_a, oEq_a, oNe_a, oIn_a, oIs_a, oIx_a, nTup_a, nLst_a, eqI, eqS, eqB, itmD, ty_ii, ty_bi, ty_tt, ty_ll, tyM, a1]
  simp -implicitDefEqProofs [runF, msOk, sl0, slS, so0, arS, arO, fins, outF, isM, callO, frzN, frz, frzs, mkArs, mkAr, liveAt, rdv, lives, endC, putFs, truD, asB, bnd_a, pur_a, lft_a, fVar_a, fC_a, f2_a, f1_a, fN_a, sq_a, bnS_a, bnT_a, sNx_a, sBk_a, sCt_a, sExp_a, sRet_a, sRetN_a, sIf_a, sSet_a, storV_a, storL_a, sSetX_a, sSetG_a, lfB_a, fTru_a, fAsB_a, fNot_a, fAnd_a, fOr_a, fNotV_a, fAndV_a, fOrV_a, fIf_a, fChain_a, fIsi_a, fNil_a, fCons_a, fCall_a, fM_a, fDct_a, fPartN_a, fPartS_a, fSl_a, fItm_a, fRng_a, sFor_a, for0_a, gNm_a, gNmC_a, fLr1_a, oSub_a, oFdiv_a, oMod_a, oPow_a, oShl_a, oShr_a, oAnd_a, oOr_a, oXor_a, oI_a, oB_a, oAdd_a, oMul_a, oEq_a, oNe_a, oIn_a, oIs_a, oIx_a, nTup_a, nLst_a, eqI, eqS, eqB, itmD, ty_ii, ty_bi, ty_tt, ty_ll, tyM, maskD, at0, at1, at2, xor_nat, hz, PyProof.Rows.bitAnd_m1]
theorem is_look_ok (k : Nat) (L : Lk) (h : L.Ok) : rsL ds glb (k + 4) 13 [.v (lookD L), .v (.int 10)] = some (.ok (.val (.bl true)), [none, none]) := by
  rw [r13]
  have a1 := is_bit_ok k L.s h.s
  have a2 := is_lot_ok k (bits10 L.f) 10 (asc10 _ h.f)
  have a3 := is_lot_ok k (bits10 L.t) 10 (asc10 _ h.t)
  simp -implicitDefEqProofs [g13, runF, msOk, sl0, slS, so0, arS, arO, fins, outF, isM, callO, frzN, frz, frzs, mkArs, mkAr, liveAt, rdv, lives, endC, putFs, truD, asB, bnd_a, pur_a, lft_a, fVar_a, fC_a, f2_a, f1_a, fN_a, sq_a, bnS_a, bnT_a, sNx_a, sBk_a, sCt_a, sExp_a, sRet_a, sRetN_a, sIf_a, sSet_a, storV_a, storL_a, sSetX_a, sSetG_a, lfB_a, fTru_a, fAsB_a, fNot_a, fAnd_a, fOr_a, fNotV_a, fAndV_a, fOrV_a, fIf_a, fChain_a, fIsi_a, fNil_a, fCons_a, fCall_a, fM_a, fDct_a, fPartN_a, fPartS_a, fSl_a, fItm_a, fRng_a, sFor_a, for0_a, gNm_a, gNmC_a, fLr1_a, oSub_a, oFdiv_a, oMod_a, oPow_a, oShl_a, oShr_a, oAnd_a, oOr_a, oXor_a, oI_a, oB_a, oAdd_a, oMul_a, oEq_a, oNe_a, oIn_a, oIs_a, oIx_a, nTup_a, nLst_a, eqI, eqS, eqB, itmD, ty_ii, ty_bi, ty_tt, ty_ll, tyM, lookD, lotD, at0, at1, at2, nLen, a1]
  erw [a2]
  simp -implicitDefEqProofs [runF, msOk, sl0, slS, so0, arS, arO, fins, outF, isM, callO, frzN, frz, frzs, mkArs, mkAr, liveAt, rdv, lives, endC, putFs, truD, asB, bnd_a, pur_a, lft_a, fVar_a, fC_a, f2_a, f1_a, fN_a, sq_a, bnS_a, bnT_a, sNx_a, sBk_a, sCt_a, sExp_a, sRet_a, sRetN_a, sIf_a, sSet_a, storV_a, storL_a, sSetX_a, sSetG_a, lfB_a, fTru_a, fAsB_a, fNot_a, fAnd_a, fOr_a, fNotV_a, fAndV_a, fOrV_a, fIf_a, fChain_a, fIsi_a, fNil_a, fCons_a, fCall_a, fM_a, fDct_a, fPartN_a, fPartS_a, fSl_a, fItm_a, fRng_a, sFor_a, for0_a, gNm_a, gNmC_a, fLr1_a, oSub_a, oFdiv_a, oMod_a, oPow_a, oShl_a, oShr_a, oAnd_a, oOr_a, oXor_a, oI_a, oB_a, oAdd_a, oMul_a, oEq_a, oNe_a, oIn_a, oIs_a, oIx_a, nTup_a, nLst_a, eqI, eqS, eqB, itmD, ty_ii, ty_bi, ty_tt, ty_ll, tyM, at2]
  erw [a3]
  rfl
theorem check_ok (k : Nat) (L : Lk) (h : L.Ok) : rsL ds glb (k + 5) 14 [.v (lookD L), .v (.int 10)] = some (.ok (.val .non), [none, none]) := by
  rw [r14]
  simp -implicitDefEqProofs [g14, runF, msOk, sl0, slS, so0, arS, arO, fins, outF, isM, callO, frzN, frz, frzs, mkArs, mkAr, liveAt, rdv, lives, endC, putFs, truD, asB, bnd_a, pur_a, lft_a, fVar_a, fC_a, f2_a, f1_a, fN_a, sq_a, bnS_a, bnT_a, sNx_a, sBk_a, sCt_a, sExp_a, sRet_a, sRetN_a, sIf_a, sSet_a, storV_a, storL_a, sSetX_a, sSetG_a, lfB_a, fTru_a, fAsB_a, fNot_a, fAnd_a, fOr_a, fNotV_a, fAndV_a, fOrV_a, fIf_a, fChain_a, fIsi_a, fNil_a, fCons_a, fCall_a, fM_a, fDct_a, fPartN_a, fPartS_a, fSl_a, fItm_a, fRng_a, sFor_a, for0_a, gNm_a, gNmC_a, fLr1_a, oSub_a, oFdiv_a, oMod_a, oPow_a, oShl_a, oShr_a, oAnd_a, oOr_a, oXor_a, oI_a, oB_a, oAdd_a, oMul_a, oEq_a, oNe_a, oIn_a, oIs_a, oIx_a, nTup_a, nLst_a, eqI, eqS, eqB, itmD, ty_ii, ty_bi, ty_tt, ty_ll, tyM, is_look_ok k L h]
theorem times_ok (k : Nat) (A B : Lk) (a : A.Ok) (b : B.Ok) (h : goT A B = true) : rsL ds glb (k + 6) 15 [.v (lookD A), .v (lookD B)] = some (.ok (.val (lookD (prod A B))), [none, none]) := by
  rw [r15]
  simp -implicitDefEqProofs [g15, runF, msOk, sl0, slS, so0, arS, arO, fins, outF, isM, callO, frzN, frz, frzs, mkArs, mkAr, liveAt, rdv, lives, endC, putFs, truD, asB, bnd_a, pur_a, lft_a, fVar_a, fC_a, f2_a, f1_a, fN_a, sq_a, bnS_a, bnT_a, sNx_a, sBk_a, sCt_a, sExp_a, sRet_a, sRetN_a, sIf_a, sSet_a, storV_a, storL_a, sSetX_a, sSetG_a, lfB_a, fTru_a, fAsB_a, fNot_a, fAnd_a, fOr_a, fNotV_a, fAndV_a, fOrV_a, fIf_a, fChain_a, fIsi_a, fNil_a, fCons_a, fCall_a, fM_a, fDct_a, fPartN_a, fPartS_a, fSl_a, fItm_a, fRng_a, sFor_a, for0_a, gNm_a, gNmC_a, fLr1_a, oSub_a, oFdiv_a, oMod_a, oPow_a, oShl_a, oShr_a, oAnd_a, oOr_a, oXor_a, oI_a, oB_a, oAdd_a, oMul_a, oEq_a, oNe_a, oIn_a, oIs_a, oIx_a, nTup_a, nLst_a, eqI, eqS, eqB, itmD, ty_ii, ty_bi, ty_tt, ty_ll, tyM, check_ok k A a, check_ok k B b, masks_of_ok (k + 3) A a, masks_of_ok (k + 3) B b, go_ok (k + 3) A B a b, h, product_ok (k + 2) A B a b, look_of_ok (k + 2) (prod A B) (prod_ok a b)]
end K63
end

section
set_option maxRecDepth 100000
namespace K63
open PySem L2 PySem.Spec BT LK
theorem law_lot_ok (k m : Nat) (h : m < 1024) : rsL ds glb (k + 1) 19 [.v (.int (m : Nat))] = some (.ok (.val (lotD m)), [none]) := by
  rw [r19]
  have c := fLc_eq (sl := [some (.val (.int (m : Nat))), none]) (base := [none, none]) (vs := [1]) (fi := fRng (fCons (fC (.int 10)) fNil)) (g := gNmC 1) (ft := fAsB (f2 oEq (f2 oAnd (f2 oShr (fVar 0) (fVar 1)) (fC (.int 1))) (fC (.int 1)))) (fe := fVar 1)
    (List.range 10) (fun i => .int (0 + (i : Nat))) (fun i => [some (.val (.int (m : Nat))), some (.val (.int (0 + (i : Nat))))]) (fun i => m.testBit i) (fun i => .int (i : Nat)) (by simp [runF, msOk, sl0, slS, so0, arS, arO, fins, outF, isM, callO, frzN, frz, frzs, mkArs, mkAr, liveAt, rdv, lives, endC, putFs, truD, asB, bnd_a, pur_a, lft_a, fVar_a, fC_a, f2_a, f1_a, fN_a, sq_a, bnS_a, bnT_a, sNx_a, sBk_a, sCt_a, sExp_a, sRet_a, sRetN_a, sIf_a, sSet_a, storV_a, storL_a, sSetX_a, sSetG_a, lfB_a, fTru_a, fAsB_a, fNot_a, fAnd_a, fOr_a, fNotV_a, fAndV_a, fOrV_a, fIf_a, fChain_a, fIsi_a, fNil_a, fCons_a, fCall_a, fM_a, fDct_a, fPartN_a, fPartS_a, fSl_a, fItm_a, fRng_a, sFor_a, for0_a, gNm_a, gNmC_a, fLr1_a, oSub_a, oFdiv_a, oMod_a, oPow_a, oShl_a, oShr_a, oAnd_a, oOr_a, oXor_a, oI_a, oB_a, oAdd_a, oMul_a, oEq_a, oNe_a, oIn_a, oIs_a, oIx_a, nTup_a, nLst_a, eqI, eqS, eqB, itmD, ty_ii, ty_bi, ty_tt, ty_ll, tyM, inR, rngD]) (fun i _ so => by simp [wipeS, gNmC_a])
    (fun i _ acc => by
      have e := tb_int m i
      simp -implicitDefEqProofs [runF, msOk, sl0, slS, so0, arS, arO, fins, outF, isM, callO, frzN, frz, frzs, mkArs, mkAr, liveAt, rdv, lives, endC, putFs, truD, asB, bnd_a, pur_a, lft_a, fVar_a, fC_a, f2_a, f1_a, fN_a, sq_a, bnS_a, bnT_a, sNx_a, sBk_a, sCt_a, sExp_a, sRet_a, sRetN_a, sIf_a, sSet_a, storV_a, storL_a, sSetX_a, sSetG_a, lfB_a, fTru_a, fAsB_a, fNot_a, fAnd_a, fOr_a, fNotV_a, fAndV_a, fOrV_a, fIf_a, fChain_a, fIsi_a, fNil_a, fCons_a, fCall_a, fM_a, fDct_a, fPartN_a, fPartS_a, fSl_a, fItm_a, fRng_a, sFor_a, for0_a, gNm_a, gNmC_a, fLr1_a, oSub_a, oFdiv_a, oMod_a, oPow_a, oShl_a, oShr_a, oAnd_a, oOr_a, oXor_a, oI_a, oB_a, oAdd_a, oMul_a, oEq_a, oNe_a, oIn_a, oIs_a, oIx_a, nTup_a, nLst_a, eqI, eqS, eqB, itmD, ty_ii, ty_bi, ty_tt, ty_ll, tyM, PyProof.Rows.bitAnd_m1]
      simpa using e)
    (fun i _ _ acc => lc_val [none, none] (by simp -implicitDefEqProofs [runF, msOk, sl0, slS, so0, arS, arO, fins, outF, isM, callO, frzN, frz, frzs, mkArs, mkAr, liveAt, rdv, lives, endC, putFs, truD, asB, bnd_a, pur_a, lft_a, fVar_a, fC_a, f2_a, f1_a, fN_a, sq_a, bnS_a, bnT_a, sNx_a, sBk_a, sCt_a, sExp_a, sRet_a, sRetN_a, sIf_a, sSet_a, storV_a, storL_a, sSetX_a, sSetG_a, lfB_a, fTru_a, fAsB_a, fNot_a, fAnd_a, fOr_a, fNotV_a, fAndV_a, fOrV_a, fIf_a, fChain_a, fIsi_a, fNil_a, fCons_a, fCall_a, fM_a, fDct_a, fPartN_a, fPartS_a, fSl_a, fItm_a, fRng_a, sFor_a, for0_a, gNm_a, gNmC_a, fLr1_a, oSub_a, oFdiv_a, oMod_a, oPow_a, oShl_a, oShr_a, oAnd_a, oOr_a, oXor_a, oI_a, oB_a, oAdd_a, oMul_a, oEq_a, oNe_a, oIn_a, oIs_a, oIx_a, nTup_a, nLst_a, eqI, eqS, eqB, itmD, ty_ii, ty_bi, ty_tt, ty_ll, tyM])) (by decide)
  simp -implicitDefEqProofs [g19, runF, msOk, sl0, slS, so0, arS, arO, fins, outF, isM, callO, frzN, frz, frzs, mkArs, mkAr, liveAt, rdv, lives, endC, putFs, truD, asB, bnd_a, pur_a, lft_a, fVar_a, fC_a, f2_a, f1_a, fN_a, sq_a, bnS_a, bnT_a, sNx_a, sBk_a, sCt_a, sExp_a, sRet_a, sRetN_a, sIf_a, sSet_a, storV_a, storL_a, sSetX_a, sSetG_a, lfB_a, fTru_a, fAsB_a, fNot_a, fAnd_a, fOr_a, fNotV_a, fAndV_a, fOrV_a, fIf_a, fChain_a, fIsi_a, fNil_a, fCons_a, fCall_a, fM_a, fDct_a, fPartN_a, fPartS_a, fSl_a, fItm_a, fRng_a, sFor_a, for0_a, gNm_a, gNmC_a, fLr1_a, oSub_a, oFdiv_a, oMod_a, oPow_a, oShl_a, oShr_a, oAnd_a, oOr_a, oXor_a, oI_a, oB_a, oAdd_a, oMul_a, oEq_a, oNe_a, oIn_a, oIs_a, oIx_a, nTup_a, nLst_a, eqI, eqS, eqB, itmD, ty_ii, ty_bi, ty_tt, ty_ll, tyM, nTuple, lotD, bits10]
  simp -implicitDefEqProofs [runF, msOk, sl0, slS, so0, arS, arO, fins, outF, isM, callO, frzN, frz, frzs, mkArs, mkAr, liveAt, rdv, lives, endC, putFs, truD, asB, bnd_a, pur_a, lft_a, fVar_a, fC_a, f2_a, f1_a, fN_a, sq_a, bnS_a, bnT_a, sNx_a, sBk_a, sCt_a, sExp_a, sRet_a, sRetN_a, sIf_a, sSet_a, storV_a, storL_a, sSetX_a, sSetG_a, lfB_a, fTru_a, fAsB_a, fNot_a, fAnd_a, fOr_a, fNotV_a, fAndV_a, fOrV_a, fIf_a, fChain_a, fIsi_a, fNil_a, fCons_a, fCall_a, fM_a, fDct_a, fPartN_a, fPartS_a, fSl_a, fItm_a, fRng_a, sFor_a, for0_a, gNm_a, gNmC_a, fLr1_a, oSub_a, oFdiv_a, oMod_a, oPow_a, oShl_a, oShr_a, oAnd_a, oOr_a, oXor_a, oI_a, oB_a, oAdd_a, oMul_a, oEq_a, oNe_a, oIn_a, oIs_a, oIx_a, nTup_a, nLst_a, eqI, eqS, eqB, itmD, ty_ii, ty_bi, ty_tt, ty_ll, tyM] at c
  rw [c]
  rfl
theorem rng_c (sl : Slots) (so : Store) (n : Nat) (h : n ≤ 1000000) : fRng (fCons (fC (.int (n : Nat))) fNil) sl so = some (.ok ((List.range n).map fun j => .int (0 + (j : Nat))), so) := by
  have hr := inR_nat h
  simp -implicitDefEqProofs [runF, msOk, sl0, slS, so0, arS, arO, fins, outF, isM, callO, frzN, frz, frzs, mkArs, mkAr, liveAt, rdv, lives, endC, putFs, truD, asB, bnd_a, pur_a, lft_a, fVar_a, fC_a, f2_a, f1_a, fN_a, sq_a, bnS_a, bnT_a, sNx_a, sBk_a, sCt_a, sExp_a, sRet_a, sRetN_a, sIf_a, sSet_a, storV_a, storL_a, sSetX_a, sSetG_a, lfB_a, fTru_a, fAsB_a, fNot_a, fAnd_a, fOr_a, fNotV_a, fAndV_a, fOrV_a, fIf_a, fChain_a, fIsi_a, fNil_a, fCons_a, fCall_a, fM_a, fDct_a, fPartN_a, fPartS_a, fSl_a, fItm_a, fRng_a, sFor_a, for0_a, gNm_a, gNmC_a, fLr1_a, oSub_a, oFdiv_a, oMod_a, oPow_a, oShl_a, oShr_a, oAnd_a, oOr_a, oXor_a, oI_a, oB_a, oAdd_a, oMul_a, oEq_a, oNe_a, oIn_a, oIs_a, oIx_a, nTup_a, nLst_a, eqI, eqS, eqB, itmD, ty_ii, ty_bi, ty_tt, ty_ll, tyM, hr, rngD]
theorem law_mask_ok (k m : Nat) (h : m < 1024) : rsL ds glb (k + 1) 20 [.v (lotD m)] = some (.ok (.val (.int (m : Nat))), [none]) := by
  rw [r20]
  obtain ⟨LD, hLD⟩ : ∃ LD : D, LD = lotD m := ⟨_, rfl⟩
  have hz : (bits10 m).length < sizeLine := Nat.lt_of_le_of_lt (pc_le m) (by decide)
  have c := fLc_eq (sl := [some (.val LD), none]) (base := [none, none]) (vs := [1]) (fi := fItm (fVar 0)) (g := gNmC 1) (ft := fYes) (fe := f2 oShl (fC (.int 1)) (fVar 1))
    (bits10 m) (fun p => .int (p : Nat)) (fun p => [some (.val LD), some (.val (.int (p : Nat)))]) (fun _ => true) (fun p => .int ((2 ^ p : Nat) : Int)) (by simp [runF, msOk, sl0, slS, so0, arS, arO, fins, outF, isM, callO, frzN, frz, frzs, mkArs, mkAr, liveAt, rdv, lives, endC, putFs, truD, asB, bnd_a, pur_a, lft_a, fVar_a, fC_a, f2_a, f1_a, fN_a, sq_a, bnS_a, bnT_a, sNx_a, sBk_a, sCt_a, sExp_a, sRet_a, sRetN_a, sIf_a, sSet_a, storV_a, storL_a, sSetX_a, sSetG_a, lfB_a, fTru_a, fAsB_a, fNot_a, fAnd_a, fOr_a, fNotV_a, fAndV_a, fOrV_a, fIf_a, fChain_a, fIsi_a, fNil_a, fCons_a, fCall_a, fM_a, fDct_a, fPartN_a, fPartS_a, fSl_a, fItm_a, fRng_a, sFor_a, for0_a, gNm_a, gNmC_a, fLr1_a, oSub_a, oFdiv_a, oMod_a, oPow_a, oShl_a, oShr_a, oAnd_a, oOr_a, oXor_a, oI_a, oB_a, oAdd_a, oMul_a, oEq_a, oNe_a, oIn_a, oIs_a, oIx_a, nTup_a, nLst_a, eqI, eqS, eqB, itmD, ty_ii, ty_bi, ty_tt, ty_ll, tyM, hLD, lotD]) (fun i _ so => by simp [wipeS, gNmC_a])
    (fun i _ acc => rfl)
    (fun i hi _ acc => lc_val [none, none] (by
      have h1 := shl_bits (p := i) (Nat.lt_trans (bits10_lt hi) (by decide))
      simp -implicitDefEqProofs [runF, msOk, sl0, slS, so0, arS, arO, fins, outF, isM, callO, frzN, frz, frzs, mkArs, mkAr, liveAt, rdv, lives, endC, putFs, truD, asB, bnd_a, pur_a, lft_a, fVar_a, fC_a, f2_a, f1_a, fN_a, sq_a, bnS_a, bnT_a, sNx_a, sBk_a, sCt_a, sExp_a, sRet_a, sRetN_a, sIf_a, sSet_a, storV_a, storL_a, sSetX_a, sSetG_a, lfB_a, fTru_a, fAsB_a, fNot_a, fAnd_a, fOr_a, fNotV_a, fAndV_a, fOrV_a, fIf_a, fChain_a, fIsi_a, fNil_a, fCons_a, fCall_a, fM_a, fDct_a, fPartN_a, fPartS_a, fSl_a, fItm_a, fRng_a, sFor_a, for0_a, gNm_a, gNmC_a, fLr1_a, oSub_a, oFdiv_a, oMod_a, oPow_a, oShl_a, oShr_a, oAnd_a, oOr_a, oXor_a, oI_a, oB_a, oAdd_a, oMul_a, oEq_a, oNe_a, oIn_a, oIs_a, oIx_a, nTup_a, nLst_a, eqI, eqS, eqB, itmD, ty_ii, ty_bi, ty_tt, ty_ll, tyM, h1])) hz
  have e : intsD ((bits10 m).map fun p => .int ((2 ^ p : Nat) : Int)) = some ((bits10 m).map fun p => ((2 ^ p : Nat) : Int)) := by
    have := ints_map ((bits10 m).map fun p => ((2 ^ p : Nat) : Int))
    rw [List.map_map] at this
    exact this
  obtain ⟨DL, hDL⟩ : ∃ DL, DL = (bits10 m).map fun p => D.int ((2 ^ p : Nat) : Int) := ⟨_, rfl⟩
  obtain ⟨IS, hIS⟩ : ∃ IS, IS = (bits10 m).map fun p => ((2 ^ p : Nat) : Int) := ⟨_, rfl⟩
  have q := sum_cast (fun p => 2 ^ p) (bits10 m)
  rw [mask_sum m h] at q
  rw [← hDL, ← hIS] at e
  rw [← hIS] at q
  rw [List.filter_eq_self.mpr fun _ _ => rfl, ← hDL] at c
  rw [← hLD]
  refine run_of (sl' := [some (.val LD), none]) (so' := [none, none, some (true, .lst DL)]) (fl := .rt (.val (.int (m : Nat)))) rfl rfl ?_ rfl rfl
  refine sq_rt ?_ rfl
  rw [sRet_a, bnS_a, fN_a, bnd_a, fCons_a, bnd_a]
  erw [c]
  simp -implicitDefEqProofs [runF, msOk, sl0, slS, so0, arS, arO, fins, outF, isM, callO, frzN, frz, frzs, mkArs, mkAr, liveAt, rdv, lives, endC, putFs, truD, asB, bnd_a, pur_a, lft_a, fVar_a, fC_a, f2_a, f1_a, fN_a, sq_a, bnS_a, bnT_a, sNx_a, sBk_a, sCt_a, sExp_a, sRet_a, sRetN_a, sIf_a, sSet_a, storV_a, storL_a, sSetX_a, sSetG_a, lfB_a, fTru_a, fAsB_a, fNot_a, fAnd_a, fOr_a, fNotV_a, fAndV_a, fOrV_a, fIf_a, fChain_a, fIsi_a, fNil_a, fCons_a, fCall_a, fM_a, fDct_a, fPartN_a, fPartS_a, fSl_a, fItm_a, fRng_a, sFor_a, for0_a, gNm_a, gNmC_a, fLr1_a, oSub_a, oFdiv_a, oMod_a, oPow_a, oShl_a, oShr_a, oAnd_a, oOr_a, oXor_a, oI_a, oB_a, oAdd_a, oMul_a, oEq_a, oNe_a, oIn_a, oIs_a, oIx_a, nTup_a, nLst_a, eqI, eqS, eqB, itmD, ty_ii, ty_bi, ty_tt, ty_ll, tyM, nSum, e, q]
theorem law_ones_ok (k m : Nat) (h : m < 1024) : rsL ds glb (k + 1) 21 [.v (.int (m : Nat))] = some (.ok (.val (.int (pc m : Nat))), [none]) := by
  rw [r21]
  have c := fLc_eq (sl := [some (.val (.int (m : Nat))), none]) (base := [none, none]) (vs := [1]) (fi := fRng (fCons (fC (.int 10)) fNil)) (g := gNmC 1) (ft := fYes) (fe := f2 oAnd (f2 oShr (fVar 0) (fVar 1)) (fC (.int 1)))
    (List.range 10) (fun i => .int (0 + (i : Nat))) (fun i => [some (.val (.int (m : Nat))), some (.val (.int (0 + (i : Nat))))]) (fun _ => true) (fun i => .int (bit m i : Nat)) (rng_c _ _ 10 (by decide)) (fun i _ so => by simp [wipeS, gNmC_a])
    (fun i _ acc => rfl)
    (fun i _ _ acc => lc_val [none, none] (by
      have b1 := bit_int m i
      simp -implicitDefEqProofs [runF, msOk, sl0, slS, so0, arS, arO, fins, outF, isM, callO, frzN, frz, frzs, mkArs, mkAr, liveAt, rdv, lives, endC, putFs, truD, asB, bnd_a, pur_a, lft_a, fVar_a, fC_a, f2_a, f1_a, fN_a, sq_a, bnS_a, bnT_a, sNx_a, sBk_a, sCt_a, sExp_a, sRet_a, sRetN_a, sIf_a, sSet_a, storV_a, storL_a, sSetX_a, sSetG_a, lfB_a, fTru_a, fAsB_a, fNot_a, fAnd_a, fOr_a, fNotV_a, fAndV_a, fOrV_a, fIf_a, fChain_a, fIsi_a, fNil_a, fCons_a, fCall_a, fM_a, fDct_a, fPartN_a, fPartS_a, fSl_a, fItm_a, fRng_a, sFor_a, for0_a, gNm_a, gNmC_a, fLr1_a, oSub_a, oFdiv_a, oMod_a, oPow_a, oShl_a, oShr_a, oAnd_a, oOr_a, oXor_a, oI_a, oB_a, oAdd_a, oMul_a, oEq_a, oNe_a, oIn_a, oIs_a, oIx_a, nTup_a, nLst_a, eqI, eqS, eqB, itmD, ty_ii, ty_bi, ty_tt, ty_ll, tyM, PyProof.Rows.bitAnd_m1, b1])) (by decide)
  have e : intsD ((List.range 10).map fun p => .int (bit m p : Nat)) = some ((List.range 10).map fun p => ((bit m p : Nat) : Int)) := by
    have := ints_map ((List.range 10).map fun p => ((bit m p : Nat) : Int))
    rw [List.map_map] at this
    exact this
  obtain ⟨DL, hDL⟩ : ∃ DL, DL = (List.range 10).map fun p => D.int (bit m p : Nat) := ⟨_, rfl⟩
  obtain ⟨IS, hIS⟩ : ∃ IS, IS = (List.range 10).map fun p => ((bit m p : Nat) : Int) := ⟨_, rfl⟩
  have q := sum_cast (fun p => bit m p) (List.range 10)
  rw [pc_sum m h] at q
  rw [← hDL, ← hIS] at e
  rw [← hIS] at q
  rw [List.filter_eq_self.mpr fun _ _ => rfl, ← hDL] at c
  refine run_of (sl' := [some (.val (.int (m : Nat))), none]) (so' := [none, none, some (true, .lst DL)]) (fl := .rt (.val (.int (pc m : Nat)))) rfl rfl ?_ rfl rfl
  refine sq_rt ?_ rfl
  rw [sRet_a, bnS_a, fN_a, bnd_a, fCons_a, bnd_a]
  erw [c]
  simp -implicitDefEqProofs [runF, msOk, sl0, slS, so0, arS, arO, fins, outF, isM, callO, frzN, frz, frzs, mkArs, mkAr, liveAt, rdv, lives, endC, putFs, truD, asB, bnd_a, pur_a, lft_a, fVar_a, fC_a, f2_a, f1_a, fN_a, sq_a, bnS_a, bnT_a, sNx_a, sBk_a, sCt_a, sExp_a, sRet_a, sRetN_a, sIf_a, sSet_a, storV_a, storL_a, sSetX_a, sSetG_a, lfB_a, fTru_a, fAsB_a, fNot_a, fAnd_a, fOr_a, fNotV_a, fAndV_a, fOrV_a, fIf_a, fChain_a, fIsi_a, fNil_a, fCons_a, fCall_a, fM_a, fDct_a, fPartN_a, fPartS_a, fSl_a, fItm_a, fRng_a, sFor_a, for0_a, gNm_a, gNmC_a, fLr1_a, oSub_a, oFdiv_a, oMod_a, oPow_a, oShl_a, oShr_a, oAnd_a, oOr_a, oXor_a, oI_a, oB_a, oAdd_a, oMul_a, oEq_a, oNe_a, oIn_a, oIs_a, oIx_a, nTup_a, nLst_a, eqI, eqS, eqB, itmD, ty_ii, ty_bi, ty_tt, ty_ll, tyM, nSum, e, q]
theorem shr10 (c : Nat) : (c : Int) / 1024 = ((c / 1024 : Nat) : Int) := (Int.natCast_ediv _ _).symm
theorem law_goes_ok (k c d : Nat) (hc : c < 1048576) (hd : d < 1048576) : rsL ds glb (k + 2) 22 [.v (.int (c : Nat)), .v (.int (d : Nat))] = some (.ok (.val (.bl (goC c d))), [none, none]) := by
  rw [r22]
  have o1 := law_ones_ok k (c % 1024 &&& d / 1024) (and_lt (Nat.mod_lt _ (by decide)))
  have o2 := law_ones_ok k (c / 1024 &&& d % 1024) (and_lt (by omega))
  have g := goT_int (cL 0 c) (cL 0 d)
  have g2 : (((pc (c % 1024 &&& d / 1024) : Int) + (pc (c / 1024 &&& d % 1024) : Int)) % 2 == 0) = goC c d := g
  obtain ⟨X, hX⟩ : ∃ X, X = c % 1024 &&& d / 1024 := ⟨_, rfl⟩
  obtain ⟨Y, hY⟩ : ∃ Y, Y = c / 1024 &&& d % 1024 := ⟨_, rfl⟩
  rw [← hX] at o1 g2
  rw [← hY] at o2 g2
  have h1 : Builtin.bitAnd (Builtin.bitAnd (c : Int) 1023) ((d : Int) / 1024) = (X : Int) := by rw [and1023, shr10, and_nat, hX]
  have h2 : Builtin.bitAnd ((c : Int) / 1024) (Builtin.bitAnd (d : Int) 1023) = (Y : Int) := by rw [and1023, shr10, and_nat, hY]
  refine run_of (sl' := [some (.val (.int (c : Nat))), some (.val (.int (d : Nat))), some (.val (.int ((pc X : Int) + (pc Y : Int))))]) (so' := [none, none, none]) (fl := .rt (.val (.bl (goC c d)))) rfl rfl ?_ rfl rfl
  refine sq_nx (sl' := [some (.val (.int (c : Nat))), some (.val (.int (d : Nat))), some (.val (.int ((pc X : Int) + (pc Y : Int))))]) (so' := [none, none, none]) ?_ ?_
  · simp -implicitDefEqProofs [runF, msOk, sl0, slS, so0, arS, arO, fins, outF, isM, callO, frzN, frz, frzs, mkArs, mkAr, liveAt, rdv, lives, endC, putFs, truD, asB, bnd_a, pur_a, lft_a, fVar_a, fC_a, f2_a, f1_a, fN_a, sq_a, bnS_a, bnT_a, sNx_a, sBk_a, sCt_a, sExp_a, sRet_a, sRetN_a, sIf_a, sSet_a, storV_a, storL_a, sSetX_a, sSetG_a, lfB_a, fTru_a, fAsB_a, fNot_a, fAnd_a, fOr_a, fNotV_a, fAndV_a, fOrV_a, fIf_a, fChain_a, fIsi_a, fNil_a, fCons_a, fCall_a, fM_a, fDct_a, fPartN_a, fPartS_a, fSl_a, fItm_a, fRng_a, sFor_a, for0_a, gNm_a, gNmC_a, fLr1_a, oSub_a, oFdiv_a, oMod_a, oPow_a, oShl_a, oShr_a, oAnd_a, oOr_a, oXor_a, oI_a, oB_a, oAdd_a, oMul_a, oEq_a, oNe_a, oIn_a, oIs_a, oIx_a, nTup_a, nLst_a, eqI, eqS, eqB, itmD, ty_ii, ty_bi, ty_tt, ty_ll, tyM, h1, h2, o1, o2]
  · simp -implicitDefEqProofs [runF, msOk, sl0, slS, so0, arS, arO, fins, outF, isM, callO, frzN, frz, frzs, mkArs, mkAr, liveAt, rdv, lives, endC, putFs, truD, asB, bnd_a, pur_a, lft_a, fVar_a, fC_a, f2_a, f1_a, fN_a, sq_a, bnS_a, bnT_a, sNx_a, sBk_a, sCt_a, sExp_a, sRet_a, sRetN_a, sIf_a, sSet_a, storV_a, storL_a, sSetX_a, sSetG_a, lfB_a, fTru_a, fAsB_a, fNot_a, fAnd_a, fOr_a, fNotV_a, fAndV_a, fOrV_a, fIf_a, fChain_a, fIsi_a, fNil_a, fCons_a, fCall_a, fM_a, fDct_a, fPartN_a, fPartS_a, fSl_a, fItm_a, fRng_a, sFor_a, for0_a, gNm_a, gNmC_a, fLr1_a, oSub_a, oFdiv_a, oMod_a, oPow_a, oShl_a, oShr_a, oAnd_a, oOr_a, oXor_a, oI_a, oB_a, oAdd_a, oMul_a, oEq_a, oNe_a, oIn_a, oIs_a, oIx_a, nTup_a, nLst_a, eqI, eqS, eqB, itmD, ty_ii, ty_bi, ty_tt, ty_ll, tyM, PyProof.Rows.bitAnd_m1, g2]
theorem shaped_ok (k a b : Nat) (cs : List Nat) (hb : b < 999000000) (hl : cs.length < 10) (hcs : ∀ c ∈ cs, c < 1048576) : ∃ c a' b' : Nat, c < 1048576 ∧ b' ≤ b + 5 ∧
    rsL ds glb (k + 2) 23 [.m (.lst [.int (a : Nat), .int (b : Nat)]), .v (.lst (cs.map fun c => .int (c : Nat)))] = some (.ok (.val (.int (c : Nat))), [some (true, .lst [.int (a' : Nat), .int (b' : Nat)]), none]) := by
  rw [r23]
  obtain ⟨q, a1, b1, hq, hb1, e1⟩ := draw_ok k a b 8 (by decide) (by decide) (by omega)
  obtain ⟨f, a2, b2, hf, hb2, e2⟩ := draw_ok k a1 b1 1024 (by decide) (by decide) (by omega)
  obtain ⟨t, a3, b3, ht, hb3, e3⟩ := draw_ok k a2 b2 1024 (by decide) (by decide) (by omega)
  have e1 : rsL ds glb (k + 1) 18 [.m (.lst [.int (a : Nat), .int (b : Nat)]), .v (.int 8)] = some (.ok (.val (.int (q : Nat))), [some (true, .lst [.int (a1 : Nat), .int (b1 : Nat)]), none]) := e1
  have e2 : rsL ds glb (k + 1) 18 [.m (.lst [.int (a1 : Nat), .int (b1 : Nat)]), .v (.int 1024)] = some (.ok (.val (.int (f : Nat))), [some (true, .lst [.int (a2 : Nat), .int (b2 : Nat)]), none]) := e2
  have e3 : rsL ds glb (k + 1) 18 [.m (.lst [.int (a2 : Nat), .int (b2 : Nat)]), .v (.int 1024)] = some (.ok (.val (.int (t : Nat))), [some (true, .lst [.int (a3 : Nat), .int (b3 : Nat)]), none]) := e3
  obtain ⟨CS, hCS⟩ : ∃ CS : D, CS = .lst (cs.map fun c => .int (c : Nat)) := ⟨_, rfl⟩
  rw [← hCS]
  obtain ⟨N, hN⟩ : ∃ N, N = cs.length := ⟨_, rfl⟩
  have ln : ∀ so : Store, nLen [.val CS] so = some (.val (.int (N : Nat)), so) := fun so => by
    rw [hCS, hN]
    simp [nLen, rdv]
  have ix : ∀ (i : Nat) (h : i < cs.length) (so : Store), oIx (.val CS) (.val (.int (i : Nat))) so = some (.val (.int (cs[i] : Nat)), so) := fun i h so => by
    rw [hCS]
    simp [oIx_a, rdv, atN, h]
  have st : ∀ (c a' b' : Nat) (rest : SM), c < 1048576 → b' ≤ b3 + 2 → g23 (rsL ds glb (k + 1)) = sq (sSet 2 (fCall (rsL ds glb (k + 1) 18) [true, false] false (fCons (fVar 0) (fCons (fC (.int 8)) fNil)))) (sq (sSet 3 (fCall (rsL ds glb (k + 1) 18) [true, false] false (fCons (fVar 0) (fCons (fC (.int 1024)) fNil)))) (sq (sSet 4 (fCall (rsL ds glb (k + 1) 18) [true, false] false (fCons (fVar 0) (fCons (fC (.int 1024)) fNil)))) rest)) →
      rest [some (.loc 0), some (.val CS), some (.val (.int (q : Nat))), some (.val (.int (f : Nat))), some (.val (.int (t : Nat)))] [some (true, .lst [.int (a3 : Nat), .int (b3 : Nat)]), none, none, none, none] = some (.rt (.val (.int (c : Nat))), [some (.loc 0), some (.val CS), some (.val (.int (q : Nat))), some (.val (.int (f : Nat))), some (.val (.int (t : Nat)))], [some (true, .lst [.int (a' : Nat), .int (b' : Nat)]), none, none, none, none]) →
      ∃ c a' b' : Nat, c < 1048576 ∧ b' ≤ b + 5 ∧ runF [true, false] 5 (g23 (rsL ds glb (k + 1))) [.m (.lst [.int (a : Nat), .int (b : Nat)]), .v CS] = some (.ok (.val (.int (c : Nat))), [some (true, .lst [.int (a' : Nat), .int (b' : Nat)]), none]) := by
    intro c a' b' rest hc hb' hg hrest
    refine ⟨c, a', b', hc, by omega, ?_⟩
    rw [hg]
    refine run_of (sl' := [some (.loc 0), some (.val CS), some (.val (.int (q : Nat))), some (.val (.int (f : Nat))), some (.val (.int (t : Nat)))]) (so' := [some (true, .lst [.int (a' : Nat), .int (b' : Nat)]), none, none, none, none]) (fl := .rt (.val (.int (c : Nat)))) rfl rfl ?_ rfl rfl
    refine sq_nx (sl' := [some (.loc 0), some (.val CS), some (.val (.int (q : Nat))), none, none]) (so' := [some (true, .lst [.int (a1 : Nat), .int (b1 : Nat)]), none, none, none, none]) (by simp -implicitDefEqProofs [runF, msOk, sl0, slS, so0, arS, arO, fins, outF, isM, callO, frzN, frz, frzs, mkArs, mkAr, liveAt, rdv, lives, endC, putFs, truD, asB, bnd_a, pur_a, lft_a, fVar_a, fC_a, f2_a, f1_a, fN_a, sq_a, bnS_a, bnT_a, sNx_a, sBk_a, sCt_a, sExp_a, sRet_a, sRetN_a, sIf_a, sSet_a, storV_a, storL_a, sSetX_a, sSetG_a, lfB_a, fTru_a, fAsB_a, fNot_a, fAnd_a, fOr_a, fNotV_a, fAndV_a, fOrV_a, fIf_a, fChain_a, fIsi_a, fNil_a, fCons_a, fCall_a, fM_a, fDct_a, fPartN_a, fPartS_a, fSl_a, fItm_a, fRng_a, sFor_a, for0_a, gNm_a, gNmC_a, fLr1_a, oSub_a, oFdiv_a, oMod_a, oPow_a, oShl_a, oShr_a, oAnd_a, oOr_a, oXor_a, oI_a, oB_a, oAdd_a, oMul_a, oEq_a, oNe_a, oIn_a, oIs_a, oIx_a, nTup_a, nLst_a, eqI, eqS, eqB, itmD, ty_ii, ty_bi, ty_tt, ty_ll, tyM, e1]) ?_
    refine sq_nx (sl' := [some (.loc 0), some (.val CS), some (.val (.int (q : Nat))), some (.val (.int (f : Nat))), none]) (so' := [some (true, .lst [.int (a2 : Nat), .int (b2 : Nat)]), none, none, none, none]) (by simp -implicitDefEqProofs [runF, msOk, sl0, slS, so0, arS, arO, fins, outF, isM, callO, frzN, frz, frzs, mkArs, mkAr, liveAt, rdv, lives, endC, putFs, truD, asB, bnd_a, pur_a, lft_a, fVar_a, fC_a, f2_a, f1_a, fN_a, sq_a, bnS_a, bnT_a, sNx_a, sBk_a, sCt_a, sExp_a, sRet_a, sRetN_a, sIf_a, sSet_a, storV_a, storL_a, sSetX_a, sSetG_a, lfB_a, fTru_a, fAsB_a, fNot_a, fAnd_a, fOr_a, fNotV_a, fAndV_a, fOrV_a, fIf_a, fChain_a, fIsi_a, fNil_a, fCons_a, fCall_a, fM_a, fDct_a, fPartN_a, fPartS_a, fSl_a, fItm_a, fRng_a, sFor_a, for0_a, gNm_a, gNmC_a, fLr1_a, oSub_a, oFdiv_a, oMod_a, oPow_a, oShl_a, oShr_a, oAnd_a, oOr_a, oXor_a, oI_a, oB_a, oAdd_a, oMul_a, oEq_a, oNe_a, oIn_a, oIs_a, oIx_a, nTup_a, nLst_a, eqI, eqS, eqB, itmD, ty_ii, ty_bi, ty_tt, ty_ll, tyM, e2]) ?_
    refine sq_nx (sl' := [some (.loc 0), some (.val CS), some (.val (.int (q : Nat))), some (.val (.int (f : Nat))), some (.val (.int (t : Nat)))]) (so' := [some (true, .lst [.int (a3 : Nat), .int (b3 : Nat)]), none, none, none, none]) (by simp -implicitDefEqProofs [runF, msOk, sl0, slS, so0, arS, arO, fins, outF, isM, callO, frzN, frz, frzs, mkArs, mkAr, liveAt, rdv, lives, endC, putFs, truD, asB, bnd_a, pur_a, lft_a, fVar_a, fC_a, f2_a, f1_a, fN_a, sq_a, bnS_a, bnT_a, sNx_a, sBk_a, sCt_a, sExp_a, sRet_a, sRetN_a, sIf_a, sSet_a, storV_a, storL_a, sSetX_a, sSetG_a, lfB_a, fTru_a, fAsB_a, fNot_a, fAnd_a, fOr_a, fNotV_a, fAndV_a, fOrV_a, fIf_a, fChain_a, fIsi_a, fNil_a, fCons_a, fCall_a, fM_a, fDct_a, fPartN_a, fPartS_a, fSl_a, fItm_a, fRng_a, sFor_a, for0_a, gNm_a, gNmC_a, fLr1_a, oSub_a, oFdiv_a, oMod_a, oPow_a, oShl_a, oShr_a, oAnd_a, oOr_a, oXor_a, oI_a, oB_a, oAdd_a, oMul_a, oEq_a, oNe_a, oIn_a, oIs_a, oIx_a, nTup_a, nLst_a, eqI, eqS, eqB, itmD, ty_ii, ty_bi, ty_tt, ty_ll, tyM, e3]) ?_
    exact hrest
  have s10 : ∀ t : Nat, t < 1024 → decide (CShl (t : Int) 10) = true := fun t ht => by
    rw [decide_eq_true_eq]
    exact (shl_ok (n := 10) (i := (t : Int)) (j := 10) (by omega) (by omega) : CShl (t : Int) ((10 : Nat) : Int))
  have s10t := s10 t ht
  have t10 : ∀ t : Nat, (t : Int) * 1024 = ((t * 1024 : Nat) : Int) := fun t => by omega
  have o1 : Builtin.bitOr (f : Int) ((t : Int) * 1024) = ((f ||| t * 1024 : Nat) : Int) := by rw [t10]; exact or_nat f (t * 1024)
  have hft : f &&& t < 1024 := and_lt hf
  have s10f := s10 (f &&& t) hft
  have o2 : Builtin.bitOr ((f &&& t : Nat) : Int) (((f &&& t : Nat) : Int) * 1024) = ((f &&& t ||| (f &&& t) * 1024 : Nat) : Int) := by rw [t10]; exact or_nat _ _
  have big : ∀ x y : Nat, x < 1024 → y < 1024 → x ||| y * 1024 < 1048576 := fun x y hx hy => Nat.or_lt_two_pow (n := 20) (by omega) (by omega)
  have hk : q = 0 ∨ q = 1 ∨ q = 2 ∨ q = 3 ∨ q = 4 ∨ q = 5 ∨ q = 6 ∨ q = 7 := by omega
  rcases hk with rfl | rfl | rfl | rfl | rfl | rfl | rfl | rfl
  · exact st f a3 b3 _ (by omega) (by omega) rfl (by simp -implicitDefEqProofs [runF, msOk, sl0, slS, so0, arS, arO, fins, outF, isM, callO, frzN, frz, frzs, mkArs, mkAr, liveAt, rdv, lives, endC, putFs, truD, asB, bnd_a, pur_a, lft_a, fVar_a, fC_a, f2_a, f1_a, fN_a, sq_a, bnS_a, bnT_a, sNx_a, sBk_a, sCt_a, sExp_a, sRet_a, sRetN_a, sIf_a, sSet_a, storV_a, storL_a, sSetX_a, sSetG_a, lfB_a, fTru_a, fAsB_a, fNot_a, fAnd_a, fOr_a, fNotV_a, fAndV_a, fOrV_a, fIf_a, fChain_a, fIsi_a, fNil_a, fCons_a, fCall_a, fM_a, fDct_a, fPartN_a, fPartS_a, fSl_a, fItm_a, fRng_a, sFor_a, for0_a, gNm_a, gNmC_a, fLr1_a, oSub_a, oFdiv_a, oMod_a, oPow_a, oShl_a, oShr_a, oAnd_a, oOr_a, oXor_a, oI_a, oB_a, oAdd_a, oMul_a, oEq_a, oNe_a, oIn_a, oIs_a, oIx_a, nTup_a, nLst_a, eqI, eqS, eqB, itmD, ty_ii, ty_bi, ty_tt, ty_ll, tyM])
  · exact st (t * 1024) a3 b3 _ (by omega) (by omega) rfl (by simp -implicitDefEqProofs [runF, msOk, sl0, slS, so0, arS, arO, fins, outF, isM, callO, frzN, frz, frzs, mkArs, mkAr, liveAt, rdv, lives, endC, putFs, truD, asB, bnd_a, pur_a, lft_a, fVar_a, fC_a, f2_a, f1_a, fN_a, sq_a, bnS_a, bnT_a, sNx_a, sBk_a, sCt_a, sExp_a, sRet_a, sRetN_a, sIf_a, sSet_a, storV_a, storL_a, sSetX_a, sSetG_a, lfB_a, fTru_a, fAsB_a, fNot_a, fAnd_a, fOr_a, fNotV_a, fAndV_a, fOrV_a, fIf_a, fChain_a, fIsi_a, fNil_a, fCons_a, fCall_a, fM_a, fDct_a, fPartN_a, fPartS_a, fSl_a, fItm_a, fRng_a, sFor_a, for0_a, gNm_a, gNmC_a, fLr1_a, oSub_a, oFdiv_a, oMod_a, oPow_a, oShl_a, oShr_a, oAnd_a, oOr_a, oXor_a, oI_a, oB_a, oAdd_a, oMul_a, oEq_a, oNe_a, oIn_a, oIs_a, oIx_a, nTup_a, nLst_a, eqI, eqS, eqB, itmD, ty_ii, ty_bi, ty_tt, ty_ll, tyM, s10t])
  · exact st (f &&& t ||| (f &&& t) * 1024) a3 b3 _ (big _ _ hft hft) (by omega) rfl (by simp -implicitDefEqProofs [runF, msOk, sl0, slS, so0, arS, arO, fins, outF, isM, callO, frzN, frz, frzs, mkArs, mkAr, liveAt, rdv, lives, endC, putFs, truD, asB, bnd_a, pur_a, lft_a, fVar_a, fC_a, f2_a, f1_a, fN_a, sq_a, bnS_a, bnT_a, sNx_a, sBk_a, sCt_a, sExp_a, sRet_a, sRetN_a, sIf_a, sSet_a, storV_a, storL_a, sSetX_a, sSetG_a, lfB_a, fTru_a, fAsB_a, fNot_a, fAnd_a, fOr_a, fNotV_a, fAndV_a, fOrV_a, fIf_a, fChain_a, fIsi_a, fNil_a, fCons_a, fCall_a, fM_a, fDct_a, fPartN_a, fPartS_a, fSl_a, fItm_a, fRng_a, sFor_a, for0_a, gNm_a, gNmC_a, fLr1_a, oSub_a, oFdiv_a, oMod_a, oPow_a, oShl_a, oShr_a, oAnd_a, oOr_a, oXor_a, oI_a, oB_a, oAdd_a, oMul_a, oEq_a, oNe_a, oIn_a, oIs_a, oIx_a, nTup_a, nLst_a, eqI, eqS, eqB, itmD, ty_ii, ty_bi, ty_tt, ty_ll, tyM, and_nat, s10f, o2])
  · by_cases h0 : 0 < N
    · obtain ⟨r, a4, b4, hr, hb4, e4⟩ := draw_ok k a3 b3 N h0 (by omega) (by omega)
      have hr : r < cs.length := by omega
      have ixr := ix r hr
      exact st cs[r] a4 b4 _ (hcs _ (List.getElem_mem _)) (by omega) rfl (by
        have h0' : (0 : Int) < (N : Int) := by omega
        simp -implicitDefEqProofs [runF, msOk, sl0, slS, so0, arS, arO, fins, outF, isM, callO, frzN, frz, frzs, mkArs, mkAr, liveAt, rdv, lives, endC, putFs, truD, asB, bnd_a, pur_a, lft_a, fVar_a, fC_a, f2_a, f1_a, fN_a, sq_a, bnS_a, bnT_a, sNx_a, sBk_a, sCt_a, sExp_a, sRet_a, sRetN_a, sIf_a, sSet_a, storV_a, storL_a, sSetX_a, sSetG_a, lfB_a, fTru_a, fAsB_a, fNot_a, fAnd_a, fOr_a, fNotV_a, fAndV_a, fOrV_a, fIf_a, fChain_a, fIsi_a, fNil_a, fCons_a, fCall_a, fM_a, fDct_a, fPartN_a, fPartS_a, fSl_a, fItm_a, fRng_a, sFor_a, for0_a, gNm_a, gNmC_a, fLr1_a, oSub_a, oFdiv_a, oMod_a, oPow_a, oShl_a, oShr_a, oAnd_a, oOr_a, oXor_a, oI_a, oB_a, oAdd_a, oMul_a, oEq_a, oNe_a, oIn_a, oIs_a, nTup_a, nLst_a, eqI, eqS, eqB, itmD, ty_ii, ty_bi, ty_tt, ty_ll, tyM, ln, h0, h0', e4, ixr])
    · exact st (f ||| t * 1024) a3 b3 _ (big _ _ hf ht) (by omega) rfl (by
        have h0' : ¬ (0 : Int) < (N : Int) := by omega
        simp -implicitDefEqProofs [runF, msOk, sl0, slS, so0, arS, arO, fins, outF, isM, callO, frzN, frz, frzs, mkArs, mkAr, liveAt, rdv, lives, endC, putFs, truD, asB, bnd_a, pur_a, lft_a, fVar_a, fC_a, f2_a, f1_a, fN_a, sq_a, bnS_a, bnT_a, sNx_a, sBk_a, sCt_a, sExp_a, sRet_a, sRetN_a, sIf_a, sSet_a, storV_a, storL_a, sSetX_a, sSetG_a, lfB_a, fTru_a, fAsB_a, fNot_a, fAnd_a, fOr_a, fNotV_a, fAndV_a, fOrV_a, fIf_a, fChain_a, fIsi_a, fNil_a, fCons_a, fCall_a, fM_a, fDct_a, fPartN_a, fPartS_a, fSl_a, fItm_a, fRng_a, sFor_a, for0_a, gNm_a, gNmC_a, fLr1_a, oSub_a, oFdiv_a, oMod_a, oPow_a, oShl_a, oShr_a, oAnd_a, oOr_a, oXor_a, oI_a, oB_a, oAdd_a, oMul_a, oEq_a, oNe_a, oIn_a, oIs_a, nTup_a, nLst_a, eqI, eqS, eqB, itmD, ty_ii, ty_bi, ty_tt, ty_ll, tyM, ln, h0, h0', s10t, o1])
  · by_cases h0 : 1 < N
    · have ix0 := ix 0 (by omega)
      have ix1 := ix 1 (by omega)
      have ix0 : ∀ so : Store, oIx (.val CS) (.val (.int 0)) so = some (.val (.int (cs[0] : Nat)), so) := ix0
      have ix1 : ∀ so : Store, oIx (.val CS) (.val (.int 1)) so = some (.val (.int (cs[1] : Nat)), so) := ix1
      exact st (cs[0] ^^^ cs[1]) a3 b3 _ (Nat.xor_lt_two_pow (n := 20) (hcs _ (List.getElem_mem _)) (hcs _ (List.getElem_mem _))) (by omega) rfl (by
        have h0' : (1 : Int) < (N : Int) := by omega
        simp -implicitDefEqProofs [runF, msOk, sl0, slS, so0, arS, arO, fins, outF, isM, callO, frzN, frz, frzs, mkArs, mkAr, liveAt, rdv, lives, endC, putFs, truD, asB, bnd_a, pur_a, lft_a, fVar_a, fC_a, f2_a, f1_a, fN_a, sq_a, bnS_a, bnT_a, sNx_a, sBk_a, sCt_a, sExp_a, sRet_a, sRetN_a, sIf_a, sSet_a, storV_a, storL_a, sSetX_a, sSetG_a, lfB_a, fTru_a, fAsB_a, fNot_a, fAnd_a, fOr_a, fNotV_a, fAndV_a, fOrV_a, fIf_a, fChain_a, fIsi_a, fNil_a, fCons_a, fCall_a, fM_a, fDct_a, fPartN_a, fPartS_a, fSl_a, fItm_a, fRng_a, sFor_a, for0_a, gNm_a, gNmC_a, fLr1_a, oSub_a, oFdiv_a, oMod_a, oPow_a, oShl_a, oShr_a, oAnd_a, oOr_a, oXor_a, oI_a, oB_a, oAdd_a, oMul_a, oEq_a, oNe_a, oIn_a, oIs_a, nTup_a, nLst_a, eqI, eqS, eqB, itmD, ty_ii, ty_bi, ty_tt, ty_ll, tyM, ln, h0, h0', ix0, ix1, xor_nat])
    · exact st (f ||| t * 1024) a3 b3 _ (big _ _ hf ht) (by omega) rfl (by
        have h0' : ¬ (1 : Int) < (N : Int) := by omega
        simp -implicitDefEqProofs [runF, msOk, sl0, slS, so0, arS, arO, fins, outF, isM, callO, frzN, frz, frzs, mkArs, mkAr, liveAt, rdv, lives, endC, putFs, truD, asB, bnd_a, pur_a, lft_a, fVar_a, fC_a, f2_a, f1_a, fN_a, sq_a, bnS_a, bnT_a, sNx_a, sBk_a, sCt_a, sExp_a, sRet_a, sRetN_a, sIf_a, sSet_a, storV_a, storL_a, sSetX_a, sSetG_a, lfB_a, fTru_a, fAsB_a, fNot_a, fAnd_a, fOr_a, fNotV_a, fAndV_a, fOrV_a, fIf_a, fChain_a, fIsi_a, fNil_a, fCons_a, fCall_a, fM_a, fDct_a, fPartN_a, fPartS_a, fSl_a, fItm_a, fRng_a, sFor_a, for0_a, gNm_a, gNmC_a, fLr1_a, oSub_a, oFdiv_a, oMod_a, oPow_a, oShl_a, oShr_a, oAnd_a, oOr_a, oXor_a, oI_a, oB_a, oAdd_a, oMul_a, oEq_a, oNe_a, oIn_a, oIs_a, nTup_a, nLst_a, eqI, eqS, eqB, itmD, ty_ii, ty_bi, ty_tt, ty_ll, tyM, ln, h0, h0', s10t, o1])
  · obtain ⟨r, a4, b4, hr, hb4, e4⟩ := draw_ok k a3 b3 10 (by decide) (by decide) (by omega)
    obtain ⟨u, a5, b5, hu, hb5, e5⟩ := draw_ok k a4 b4 10 (by decide) (by decide) (by omega)
    have e4 : rsL ds glb (k + 1) 18 [.m (.lst [.int (a3 : Nat), .int (b3 : Nat)]), .v (.int 10)] = some (.ok (.val (.int (r : Nat))), [some (true, .lst [.int (a4 : Nat), .int (b4 : Nat)]), none]) := e4
    have e5 : rsL ds glb (k + 1) 18 [.m (.lst [.int (a4 : Nat), .int (b4 : Nat)]), .v (.int 10)] = some (.ok (.val (.int (u : Nat))), [some (true, .lst [.int (a5 : Nat), .int (b5 : Nat)]), none]) := e5
    have h1 := shl_bits (p := r) (by omega)
    have h2 := shl_bits (p := 10 + u) (by omega)
    have h2 : decide (CShl 1 (10 + (u : Int))) = true := h2
    have o3 : Builtin.bitOr (2 ^ r) (2 ^ (10 + (u : Int)).toNat) = ((2 ^ r ||| 2 ^ (10 + u) : Nat) : Int) := by
      rw [show (10 + (u : Int)).toNat = 10 + u by omega]
      have := or_nat (2 ^ r) (2 ^ (10 + u))
      simpa using this
    exact st (2 ^ r ||| 2 ^ (10 + u)) a5 b5 _ (Nat.or_lt_two_pow (n := 20) (Nat.pow_lt_pow_right (by decide) (by omega)) (Nat.pow_lt_pow_right (by decide) (by omega))) (by omega) rfl (by
      simp -implicitDefEqProofs [runF, msOk, sl0, slS, so0, arS, arO, fins, outF, isM, callO, frzN, frz, frzs, mkArs, mkAr, liveAt, rdv, lives, endC, putFs, truD, asB, bnd_a, pur_a, lft_a, fVar_a, fC_a, f2_a, f1_a, fN_a, sq_a, bnS_a, bnT_a, sNx_a, sBk_a, sCt_a, sExp_a, sRet_a, sRetN_a, sIf_a, sSet_a, storV_a, storL_a, sSetX_a, sSetG_a, lfB_a, fTru_a, fAsB_a, fNot_a, fAnd_a, fOr_a, fNotV_a, fAndV_a, fOrV_a, fIf_a, fChain_a, fIsi_a, fNil_a, fCons_a, fCall_a, fM_a, fDct_a, fPartN_a, fPartS_a, fSl_a, fItm_a, fRng_a, sFor_a, for0_a, gNm_a, gNmC_a, fLr1_a, oSub_a, oFdiv_a, oMod_a, oPow_a, oShl_a, oShr_a, oAnd_a, oOr_a, oXor_a, oI_a, oB_a, oAdd_a, oMul_a, oEq_a, oNe_a, oIn_a, oIs_a, oIx_a, nTup_a, nLst_a, eqI, eqS, eqB, itmD, ty_ii, ty_bi, ty_tt, ty_ll, tyM, e4, e5, h1, h2, o3])
  · exact st (f ||| t * 1024) a3 b3 _ (big _ _ hf ht) (by omega) rfl (by simp -implicitDefEqProofs [runF, msOk, sl0, slS, so0, arS, arO, fins, outF, isM, callO, frzN, frz, frzs, mkArs, mkAr, liveAt, rdv, lives, endC, putFs, truD, asB, bnd_a, pur_a, lft_a, fVar_a, fC_a, f2_a, f1_a, fN_a, sq_a, bnS_a, bnT_a, sNx_a, sBk_a, sCt_a, sExp_a, sRet_a, sRetN_a, sIf_a, sSet_a, storV_a, storL_a, sSetX_a, sSetG_a, lfB_a, fTru_a, fAsB_a, fNot_a, fAnd_a, fOr_a, fNotV_a, fAndV_a, fOrV_a, fIf_a, fChain_a, fIsi_a, fNil_a, fCons_a, fCall_a, fM_a, fDct_a, fPartN_a, fPartS_a, fSl_a, fItm_a, fRng_a, sFor_a, for0_a, gNm_a, gNmC_a, fLr1_a, oSub_a, oFdiv_a, oMod_a, oPow_a, oShl_a, oShr_a, oAnd_a, oOr_a, oXor_a, oI_a, oB_a, oAdd_a, oMul_a, oEq_a, oNe_a, oIn_a, oIs_a, oIx_a, nTup_a, nLst_a, eqI, eqS, eqB, itmD, ty_ii, ty_bi, ty_tt, ty_ll, tyM, s10t, o1])
  · exact st (f ||| t * 1024) a3 b3 _ (big _ _ hf ht) (by omega) rfl (by simp -implicitDefEqProofs [runF, msOk, sl0, slS, so0, arS, arO, fins, outF, isM, callO, frzN, frz, frzs, mkArs, mkAr, liveAt, rdv, lives, endC, putFs, truD, asB, bnd_a, pur_a, lft_a, fVar_a, fC_a, f2_a, f1_a, fN_a, sq_a, bnS_a, bnT_a, sNx_a, sBk_a, sCt_a, sExp_a, sRet_a, sRetN_a, sIf_a, sSet_a, storV_a, storL_a, sSetX_a, sSetG_a, lfB_a, fTru_a, fAsB_a, fNot_a, fAnd_a, fOr_a, fNotV_a, fAndV_a, fOrV_a, fIf_a, fChain_a, fIsi_a, fNil_a, fCons_a, fCall_a, fM_a, fDct_a, fPartN_a, fPartS_a, fSl_a, fItm_a, fRng_a, sFor_a, for0_a, gNm_a, gNmC_a, fLr1_a, oSub_a, oFdiv_a, oMod_a, oPow_a, oShl_a, oShr_a, oAnd_a, oOr_a, oXor_a, oI_a, oB_a, oAdd_a, oMul_a, oEq_a, oNe_a, oIn_a, oIs_a, oIx_a, nTup_a, nLst_a, eqI, eqS, eqB, itmD, ty_ii, ty_bi, ty_tt, ty_ll, tyM, s10t, o1])
end K63
end

section
set_option maxRecDepth 100000
namespace K63
open PySem L2 PySem.Spec BT LK
theorem suits_ok (k c : Nat) (cs : List Nat) (hc : c < 1048576) (hl : cs.length < 1000) (hcs : ∀ d ∈ cs, d < 1048576) : rsL ds glb (k + 3) 24 [.v (.int (c : Nat)), .v (.lst (cs.map fun c => .int (c : Nat)))] = some (.ok (.val (.bl (suits c cs))), [none, none]) := by
  rw [r24]
  obtain ⟨CS, hCS⟩ : ∃ CS : D, CS = .lst (cs.map fun c => .int (c : Nat)) := ⟨_, rfl⟩
  rw [← hCS]
  have hz : cs.length < sizeLine := Nat.lt_of_lt_of_le hl (by decide)
  have cc := fLc_eq (sl := [some (.val (.int (c : Nat))), some (.val CS), none]) (base := [none, none, none]) (vs := [2]) (fi := fItm (fVar 1)) (g := gNmC 2) (ft := fYes) (fe := fCall (rsL ds glb (k + 2) 22) [false, false] false (fCons (fVar 0) (fCons (fVar 2) fNil)))
    cs (fun d => .int (d : Nat)) (fun d => [some (.val (.int (c : Nat))), some (.val CS), some (.val (.int (d : Nat)))]) (fun _ => true) (fun d => .bl (goC c d)) (by simp [runF, msOk, sl0, slS, so0, arS, arO, fins, outF, isM, callO, frzN, frz, frzs, mkArs, mkAr, liveAt, rdv, lives, endC, putFs, truD, asB, bnd_a, pur_a, lft_a, fVar_a, fC_a, f2_a, f1_a, fN_a, sq_a, bnS_a, bnT_a, sNx_a, sBk_a, sCt_a, sExp_a, sRet_a, sRetN_a, sIf_a, sSet_a, storV_a, storL_a, sSetX_a, sSetG_a, lfB_a, fTru_a, fAsB_a, fNot_a, fAnd_a, fOr_a, fNotV_a, fAndV_a, fOrV_a, fIf_a, fChain_a, fIsi_a, fNil_a, fCons_a, fCall_a, fM_a, fDct_a, fPartN_a, fPartS_a, fSl_a, fItm_a, fRng_a, sFor_a, for0_a, gNm_a, gNmC_a, fLr1_a, oSub_a, oFdiv_a, oMod_a, oPow_a, oShl_a, oShr_a, oAnd_a, oOr_a, oXor_a, oI_a, oB_a, oAdd_a, oMul_a, oEq_a, oNe_a, oIn_a, oIs_a, oIx_a, nTup_a, nLst_a, eqI, eqS, eqB, itmD, ty_ii, ty_bi, ty_tt, ty_ll, tyM, hCS]) (fun i _ so => by simp [wipeS, gNmC_a])
    (fun i _ acc => rfl)
    (fun d hd _ acc => lc_val [none, none, none] (by
      have h := law_goes_ok k c d hc (hcs d hd)
      simp -implicitDefEqProofs [runF, msOk, sl0, slS, so0, arS, arO, fins, outF, isM, callO, frzN, frz, frzs, mkArs, mkAr, liveAt, rdv, lives, endC, putFs, truD, asB, bnd_a, pur_a, lft_a, fVar_a, fC_a, f2_a, f1_a, fN_a, sq_a, bnS_a, bnT_a, sNx_a, sBk_a, sCt_a, sExp_a, sRet_a, sRetN_a, sIf_a, sSet_a, storV_a, storL_a, sSetX_a, sSetG_a, lfB_a, fTru_a, fAsB_a, fNot_a, fAnd_a, fOr_a, fNotV_a, fAndV_a, fOrV_a, fIf_a, fChain_a, fIsi_a, fNil_a, fCons_a, fCall_a, fM_a, fDct_a, fPartN_a, fPartS_a, fSl_a, fItm_a, fRng_a, sFor_a, for0_a, gNm_a, gNmC_a, fLr1_a, oSub_a, oFdiv_a, oMod_a, oPow_a, oShl_a, oShr_a, oAnd_a, oOr_a, oXor_a, oI_a, oB_a, oAdd_a, oMul_a, oEq_a, oNe_a, oIn_a, oIs_a, oIx_a, nTup_a, nLst_a, eqI, eqS, eqB, itmD, ty_ii, ty_bi, ty_tt, ty_ll, tyM, h])) hz
  rw [List.filter_eq_self.mpr fun _ _ => rfl] at cc
  have e : ∀ l : List Nat, blsD (l.map fun d => .bl (goC c d)) = some (l.map (goC c)) := by
    intro l
    induction l with
    | nil => rfl
    | cons a l ih =>
      show (blsD (l.map fun d => .bl (goC c d))).map (fun r => goC c a :: r) = _
      rw [ih]
      rfl
  have e := e cs
  obtain ⟨BL, hBL⟩ : ∃ BL, BL = cs.map fun d => D.bl (goC c d) := ⟨_, rfl⟩
  rw [← hBL] at e cc
  have q : (cs.map (goC c)).all id = suits c cs := by
    unfold suits
    rw [List.all_map]
    rfl
  refine run_of (sl' := [some (.val (.int (c : Nat))), some (.val CS), none]) (so' := [none, none, none, some (true, .lst BL)]) (fl := .rt (.val (.bl (suits c cs)))) rfl rfl ?_ rfl rfl
  refine sq_rt ?_ rfl
  rw [sRet_a, bnS_a, fN_a, bnd_a, fCons_a, bnd_a]
  erw [cc]
  obtain ⟨BB, hBB⟩ : ∃ BB, BB = cs.map (goC c) := ⟨_, rfl⟩
  rw [← hBB] at e q
  simp -implicitDefEqProofs [runF, msOk, sl0, slS, so0, arS, arO, fins, outF, isM, callO, frzN, frz, frzs, mkArs, mkAr, liveAt, rdv, lives, endC, putFs, truD, asB, bnd_a, pur_a, lft_a, fVar_a, fC_a, f2_a, f1_a, fN_a, sq_a, bnS_a, bnT_a, sNx_a, sBk_a, sCt_a, sExp_a, sRet_a, sRetN_a, sIf_a, sSet_a, storV_a, storL_a, sSetX_a, sSetG_a, lfB_a, fTru_a, fAsB_a, fNot_a, fAnd_a, fOr_a, fNotV_a, fAndV_a, fOrV_a, fIf_a, fChain_a, fIsi_a, fNil_a, fCons_a, fCall_a, fM_a, fDct_a, fPartN_a, fPartS_a, fSl_a, fItm_a, fRng_a, sFor_a, for0_a, gNm_a, gNmC_a, fLr1_a, oSub_a, oFdiv_a, oMod_a, oPow_a, oShl_a, oShr_a, oAnd_a, oOr_a, oXor_a, oI_a, oB_a, oAdd_a, oMul_a, oEq_a, oNe_a, oIn_a, oIs_a, oIx_a, nTup_a, nLst_a, eqI, eqS, eqB, itmD, ty_ii, ty_bi, ty_tt, ty_ll, tyM, nBools, e, q]
theorem fit1 (k c : Nat) (cs : List Nat) (hc : c < 1048576) (hl : cs.length < 1000) (hcs : ∀ d ∈ cs, d < 1048576) (CS : D) (hCS : CS = .lst (cs.map fun c => .int (c : Nat))) : ∀ (ps : List Nat) (x2 x3 : Option DV), (∀ p ∈ ps, p < 20) →
    (∃ y2, forD (gNm 2) (sq (sIf (fTru (fCall (rsL ds glb (k + 3) 24) [false, false] true (fCons (f2 oXor (fVar 0) (f2 oShl (fC (.int 1)) (fVar 2))) (fCons (fVar 1) fNil)))) (sq (sRet (f2 oXor (fVar 0) (f2 oShl (fC (.int 1)) (fVar 2)))) sNx) sNx) sNx) (ps.map fun p => .int (0 + (p : Nat)))
      [some (.val (.int (c : Nat))), some (.val CS), x2, x3] [none, none, none, none] = some (.nx, [some (.val (.int (c : Nat))), some (.val CS), y2, x3], [none, none, none, none])) ∨
    (∃ (y2 : Option DV) (c' : Nat), c' < 1048576 ∧ suits c' cs = true ∧ forD (gNm 2) (sq (sIf (fTru (fCall (rsL ds glb (k + 3) 24) [false, false] true (fCons (f2 oXor (fVar 0) (f2 oShl (fC (.int 1)) (fVar 2))) (fCons (fVar 1) fNil)))) (sq (sRet (f2 oXor (fVar 0) (f2 oShl (fC (.int 1)) (fVar 2)))) sNx) sNx) sNx) (ps.map fun p => .int (0 + (p : Nat)))
      [some (.val (.int (c : Nat))), some (.val CS), x2, x3] [none, none, none, none] = some (.rt (.val (.int (c' : Nat))), [some (.val (.int (c : Nat))), some (.val CS), y2, x3], [none, none, none, none]))
  | [], x2, x3, _ => .inl ⟨x2, rfl⟩
  | p :: ps, x2, x3, h => by
    have hp := h p List.mem_cons_self
    have h1 := shl_bits (p := p) (by omega)
    have s := suits_ok k (c ^^^ 2 ^ p) cs (x20 hc hp) hl hcs
    rw [← hCS] at s
    have xr : Builtin.bitXor (c : Int) (2 ^ p) = ((c ^^^ 2 ^ p : Nat) : Int) := by
      have := xor_nat c (2 ^ p)
      simpa using this
    obtain ⟨C', hC'⟩ : ∃ C', C' = c ^^^ 2 ^ p := ⟨_, rfl⟩
    rw [← hC'] at s xr
    cases hs : suits C' cs with
    | true =>
      rw [hs] at s
      refine .inr ⟨some (.val (.int (p : Nat))), C', by rw [hC']; exact x20 hc hp, hs, ?_⟩
      simp -implicitDefEqProofs [for1_a, runF, msOk, sl0, slS, so0, arS, arO, fins, outF, isM, callO, frzN, frz, frzs, mkArs, mkAr, liveAt, rdv, lives, endC, putFs, truD, asB, bnd_a, pur_a, lft_a, fVar_a, fC_a, f2_a, f1_a, fN_a, sq_a, bnS_a, bnT_a, sNx_a, sBk_a, sCt_a, sExp_a, sRet_a, sRetN_a, sIf_a, sSet_a, storV_a, storL_a, sSetX_a, sSetG_a, lfB_a, fTru_a, fAsB_a, fNot_a, fAnd_a, fOr_a, fNotV_a, fAndV_a, fOrV_a, fIf_a, fChain_a, fIsi_a, fNil_a, fCons_a, fCall_a, fM_a, fDct_a, fPartN_a, fPartS_a, fSl_a, fItm_a, fRng_a, sFor_a, for0_a, gNm_a, gNmC_a, fLr1_a, oSub_a, oFdiv_a, oMod_a, oPow_a, oShl_a, oShr_a, oAnd_a, oOr_a, oXor_a, oI_a, oB_a, oAdd_a, oMul_a, oEq_a, oNe_a, oIn_a, oIs_a, oIx_a, nTup_a, nLst_a, eqI, eqS, eqB, itmD, ty_ii, ty_bi, ty_tt, ty_ll, tyM, h1, xr, s, pureT, okR, okFs]
    | false =>
      rw [hs] at s
      rcases fit1 k c cs hc hl hcs CS hCS ps (some (.val (.int (p : Nat)))) x3 (fun q hq => h q (List.mem_cons_of_mem _ hq)) with ⟨y2, e⟩ | ⟨y2, c', hc', hs', e⟩
      · refine .inl ⟨y2, ?_⟩
        rw [List.map_cons]
        refine for1_nx (sl1 := [some (.val (.int (c : Nat))), some (.val CS), some (.val (.int (p : Nat))), x3]) (so1 := [none, none, none, none]) (by rw [Int.zero_add]; rfl) ?_ e
        simp -implicitDefEqProofs [runF, msOk, sl0, slS, so0, arS, arO, fins, outF, isM, callO, frzN, frz, frzs, mkArs, mkAr, liveAt, rdv, lives, endC, putFs, truD, asB, bnd_a, pur_a, lft_a, fVar_a, fC_a, f2_a, f1_a, fN_a, sq_a, bnS_a, bnT_a, sNx_a, sBk_a, sCt_a, sExp_a, sRet_a, sRetN_a, sIf_a, sSet_a, storV_a, storL_a, sSetX_a, sSetG_a, lfB_a, fTru_a, fAsB_a, fNot_a, fAnd_a, fOr_a, fNotV_a, fAndV_a, fOrV_a, fIf_a, fChain_a, fIsi_a, fNil_a, fCons_a, fCall_a, fM_a, fDct_a, fPartN_a, fPartS_a, fSl_a, fItm_a, fRng_a, sFor_a, for0_a, gNm_a, gNmC_a, fLr1_a, oSub_a, oFdiv_a, oMod_a, oPow_a, oShl_a, oShr_a, oAnd_a, oOr_a, oXor_a, oI_a, oB_a, oAdd_a, oMul_a, oEq_a, oNe_a, oIn_a, oIs_a, oIx_a, nTup_a, nLst_a, eqI, eqS, eqB, itmD, ty_ii, ty_bi, ty_tt, ty_ll, tyM, h1, xr, s, pureT, okR, okFs]
      · refine .inr ⟨y2, c', hc', hs', ?_⟩
        rw [List.map_cons]
        refine for1_nx (sl1 := [some (.val (.int (c : Nat))), some (.val CS), some (.val (.int (p : Nat))), x3]) (so1 := [none, none, none, none]) (by rw [Int.zero_add]; rfl) ?_ e
        simp -implicitDefEqProofs [runF, msOk, sl0, slS, so0, arS, arO, fins, outF, isM, callO, frzN, frz, frzs, mkArs, mkAr, liveAt, rdv, lives, endC, putFs, truD, asB, bnd_a, pur_a, lft_a, fVar_a, fC_a, f2_a, f1_a, fN_a, sq_a, bnS_a, bnT_a, sNx_a, sBk_a, sCt_a, sExp_a, sRet_a, sRetN_a, sIf_a, sSet_a, storV_a, storL_a, sSetX_a, sSetG_a, lfB_a, fTru_a, fAsB_a, fNot_a, fAnd_a, fOr_a, fNotV_a, fAndV_a, fOrV_a, fIf_a, fChain_a, fIsi_a, fNil_a, fCons_a, fCall_a, fM_a, fDct_a, fPartN_a, fPartS_a, fSl_a, fItm_a, fRng_a, sFor_a, for0_a, gNm_a, gNmC_a, fLr1_a, oSub_a, oFdiv_a, oMod_a, oPow_a, oShl_a, oShr_a, oAnd_a, oOr_a, oXor_a, oI_a, oB_a, oAdd_a, oMul_a, oEq_a, oNe_a, oIn_a, oIs_a, oIx_a, nTup_a, nLst_a, eqI, eqS, eqB, itmD, ty_ii, ty_bi, ty_tt, ty_ll, tyM, h1, xr, s, pureT, okR, okFs]
theorem fit2 (k c p : Nat) (hp : p < 20) (cs : List Nat) (hc : c < 1048576) (hl : cs.length < 1000) (hcs : ∀ d ∈ cs, d < 1048576) (CS : D) (hCS : CS = .lst (cs.map fun c => .int (c : Nat))) : ∀ (ps : List Nat) (x3 : Option DV), (∀ p ∈ ps, p < 20) →
    (∃ y3, forD (gNm 3) (sq (sIf (fTru (fCall (rsL ds glb (k + 3) 24) [false, false] true (fCons (f2 oXor (f2 oXor (fVar 0) (f2 oShl (fC (.int 1)) (fVar 2))) (f2 oShl (fC (.int 1)) (fVar 3))) (fCons (fVar 1) fNil)))) (sq (sRet (f2 oXor (f2 oXor (fVar 0) (f2 oShl (fC (.int 1)) (fVar 2))) (f2 oShl (fC (.int 1)) (fVar 3)))) sNx) sNx) sNx) (ps.map fun p => .int (0 + (p : Nat)))
      [some (.val (.int (c : Nat))), some (.val CS), some (.val (.int (p : Nat))), x3] [none, none, none, none] = some (.nx, [some (.val (.int (c : Nat))), some (.val CS), some (.val (.int (p : Nat))), y3], [none, none, none, none])) ∨
    (∃ (y3 : Option DV) (c' : Nat), c' < 1048576 ∧ suits c' cs = true ∧ forD (gNm 3) (sq (sIf (fTru (fCall (rsL ds glb (k + 3) 24) [false, false] true (fCons (f2 oXor (f2 oXor (fVar 0) (f2 oShl (fC (.int 1)) (fVar 2))) (f2 oShl (fC (.int 1)) (fVar 3))) (fCons (fVar 1) fNil)))) (sq (sRet (f2 oXor (f2 oXor (fVar 0) (f2 oShl (fC (.int 1)) (fVar 2))) (f2 oShl (fC (.int 1)) (fVar 3)))) sNx) sNx) sNx) (ps.map fun p => .int (0 + (p : Nat)))
      [some (.val (.int (c : Nat))), some (.val CS), some (.val (.int (p : Nat))), x3] [none, none, none, none] = some (.rt (.val (.int (c' : Nat))), [some (.val (.int (c : Nat))), some (.val CS), some (.val (.int (p : Nat))), y3], [none, none, none, none]))
  | [], x3, _ => .inl ⟨x3, rfl⟩
  | r :: ps, x3, h => by
    have hr := h r List.mem_cons_self
    have h1 := shl_bits (p := p) (by omega)
    have h2 := shl_bits (p := r) (by omega)
    have s := suits_ok k (c ^^^ 2 ^ p ^^^ 2 ^ r) cs (x20 (x20 hc hp) hr) hl hcs
    rw [← hCS] at s
    have xr : Builtin.bitXor (Builtin.bitXor (c : Int) (2 ^ p)) (2 ^ r) = ((c ^^^ 2 ^ p ^^^ 2 ^ r : Nat) : Int) := by
      have h1 := xor_nat c (2 ^ p)
      have h2 := xor_nat (c ^^^ 2 ^ p) (2 ^ r)
      rw [← h1] at h2
      simpa using h2
    obtain ⟨C', hC'⟩ : ∃ C', C' = c ^^^ 2 ^ p ^^^ 2 ^ r := ⟨_, rfl⟩
    rw [← hC'] at s xr
    cases hs : suits C' cs with
    | true =>
      rw [hs] at s
      refine .inr ⟨some (.val (.int (r : Nat))), C', by rw [hC']; exact x20 (x20 hc hp) hr, hs, ?_⟩
      simp -implicitDefEqProofs [for1_a, runF, msOk, sl0, slS, so0, arS, arO, fins, outF, isM, callO, frzN, frz, frzs, mkArs, mkAr, liveAt, rdv, lives, endC, putFs, truD, asB, bnd_a, pur_a, lft_a, fVar_a, fC_a, f2_a, f1_a, fN_a, sq_a, bnS_a, bnT_a, sNx_a, sBk_a, sCt_a, sExp_a, sRet_a, sRetN_a, sIf_a, sSet_a, storV_a, storL_a, sSetX_a, sSetG_a, lfB_a, fTru_a, fAsB_a, fNot_a, fAnd_a, fOr_a, fNotV_a, fAndV_a, fOrV_a, fIf_a, fChain_a, fIsi_a, fNil_a, fCons_a, fCall_a, fM_a, fDct_a, fPartN_a, fPartS_a, fSl_a, fItm_a, fRng_a, sFor_a, for0_a, gNm_a, gNmC_a, fLr1_a, oSub_a, oFdiv_a, oMod_a, oPow_a, oShl_a, oShr_a, oAnd_a, oOr_a, oXor_a, oI_a, oB_a, oAdd_a, oMul_a, oEq_a, oNe_a, oIn_a, oIs_a, oIx_a, nTup_a, nLst_a, eqI, eqS, eqB, itmD, ty_ii, ty_bi, ty_tt, ty_ll, tyM, h1, h2, xr, s, pureT, okR, okFs]
    | false =>
      rw [hs] at s
      rcases fit2 k c p hp cs hc hl hcs CS hCS ps (some (.val (.int (r : Nat)))) (fun q hq => h q (List.mem_cons_of_mem _ hq)) with ⟨y2, e⟩ | ⟨y2, c', hc', hs', e⟩
      · refine .inl ⟨y2, ?_⟩
        rw [List.map_cons]
        refine for1_nx (sl1 := [some (.val (.int (c : Nat))), some (.val CS), some (.val (.int (p : Nat))), some (.val (.int (r : Nat)))]) (so1 := [none, none, none, none]) (by rw [Int.zero_add]; rfl) ?_ e
        simp -implicitDefEqProofs [runF, msOk, sl0, slS, so0, arS, arO, fins, outF, isM, callO, frzN, frz, frzs, mkArs, mkAr, liveAt, rdv, lives, endC, putFs, truD, asB, bnd_a, pur_a, lft_a, fVar_a, fC_a, f2_a, f1_a, fN_a, sq_a, bnS_a, bnT_a, sNx_a, sBk_a, sCt_a, sExp_a, sRet_a, sRetN_a, sIf_a, sSet_a, storV_a, storL_a, sSetX_a, sSetG_a, lfB_a, fTru_a, fAsB_a, fNot_a, fAnd_a, fOr_a, fNotV_a, fAndV_a, fOrV_a, fIf_a, fChain_a, fIsi_a, fNil_a, fCons_a, fCall_a, fM_a, fDct_a, fPartN_a, fPartS_a, fSl_a, fItm_a, fRng_a, sFor_a, for0_a, gNm_a, gNmC_a, fLr1_a, oSub_a, oFdiv_a, oMod_a, oPow_a, oShl_a, oShr_a, oAnd_a, oOr_a, oXor_a, oI_a, oB_a, oAdd_a, oMul_a, oEq_a, oNe_a, oIn_a, oIs_a, oIx_a, nTup_a, nLst_a, eqI, eqS, eqB, itmD, ty_ii, ty_bi, ty_tt, ty_ll, tyM, h1, h2, xr, s, pureT, okR, okFs]
      · refine .inr ⟨y2, c', hc', hs', ?_⟩
        rw [List.map_cons]
        refine for1_nx (sl1 := [some (.val (.int (c : Nat))), some (.val CS), some (.val (.int (p : Nat))), some (.val (.int (r : Nat)))]) (so1 := [none, none, none, none]) (by rw [Int.zero_add]; rfl) ?_ e
        simp -implicitDefEqProofs [runF, msOk, sl0, slS, so0, arS, arO, fins, outF, isM, callO, frzN, frz, frzs, mkArs, mkAr, liveAt, rdv, lives, endC, putFs, truD, asB, bnd_a, pur_a, lft_a, fVar_a, fC_a, f2_a, f1_a, fN_a, sq_a, bnS_a, bnT_a, sNx_a, sBk_a, sCt_a, sExp_a, sRet_a, sRetN_a, sIf_a, sSet_a, storV_a, storL_a, sSetX_a, sSetG_a, lfB_a, fTru_a, fAsB_a, fNot_a, fAnd_a, fOr_a, fNotV_a, fAndV_a, fOrV_a, fIf_a, fChain_a, fIsi_a, fNil_a, fCons_a, fCall_a, fM_a, fDct_a, fPartN_a, fPartS_a, fSl_a, fItm_a, fRng_a, sFor_a, for0_a, gNm_a, gNmC_a, fLr1_a, oSub_a, oFdiv_a, oMod_a, oPow_a, oShl_a, oShr_a, oAnd_a, oOr_a, oXor_a, oI_a, oB_a, oAdd_a, oMul_a, oEq_a, oNe_a, oIn_a, oIs_a, oIx_a, nTup_a, nLst_a, eqI, eqS, eqB, itmD, ty_ii, ty_bi, ty_tt, ty_ll, tyM, h1, h2, xr, s, pureT, okR, okFs]
end K63
end

section
set_option maxRecDepth 100000
namespace K63
open PySem L2 PySem.Spec BT LK
theorem fit3 (k c : Nat) (cs : List Nat) (hc : c < 1048576) (hl : cs.length < 1000) (hcs : ∀ d ∈ cs, d < 1048576) (CS : D) (hCS : CS = .lst (cs.map fun c => .int (c : Nat))) : ∀ (ps : List Nat) (x2 x3 : Option DV), (∀ p ∈ ps, p < 20) →
    (∃ y2 y3, forD (gNm 2) (sq (sFor (fRng (fCons (fVar 2) fNil)) (gNm 3) (sq (sIf (fTru (fCall (rsL ds glb (k + 3) 24) [false, false] true (fCons (f2 oXor (f2 oXor (fVar 0) (f2 oShl (fC (.int 1)) (fVar 2))) (f2 oShl (fC (.int 1)) (fVar 3))) (fCons (fVar 1) fNil)))) (sq (sRet (f2 oXor (f2 oXor (fVar 0) (f2 oShl (fC (.int 1)) (fVar 2))) (f2 oShl (fC (.int 1)) (fVar 3)))) sNx) sNx) sNx)) sNx) (ps.map fun p => .int (0 + (p : Nat))) [some (.val (.int (c : Nat))), some (.val CS), x2, x3] [none, none, none, none] = some (.nx, [some (.val (.int (c : Nat))), some (.val CS), y2, y3], [none, none, none, none])) ∨
    (∃ (y2 y3 : Option DV) (c' : Nat), c' < 1048576 ∧ suits c' cs = true ∧ forD (gNm 2) (sq (sFor (fRng (fCons (fVar 2) fNil)) (gNm 3) (sq (sIf (fTru (fCall (rsL ds glb (k + 3) 24) [false, false] true (fCons (f2 oXor (f2 oXor (fVar 0) (f2 oShl (fC (.int 1)) (fVar 2))) (f2 oShl (fC (.int 1)) (fVar 3))) (fCons (fVar 1) fNil)))) (sq (sRet (f2 oXor (f2 oXor (fVar 0) (f2 oShl (fC (.int 1)) (fVar 2))) (f2 oShl (fC (.int 1)) (fVar 3)))) sNx) sNx) sNx)) sNx) (ps.map fun p => .int (0 + (p : Nat))) [some (.val (.int (c : Nat))), some (.val CS), x2, x3] [none, none, none, none] = some (.rt (.val (.int (c' : Nat))), [some (.val (.int (c : Nat))), some (.val CS), y2, y3], [none, none, none, none]))
  | [], x2, x3, _ => .inl ⟨x2, x3, rfl⟩
  | p :: ps, x2, x3, h => by
    have hp := h p List.mem_cons_self
    have er : fRng (fCons (fVar 2) fNil) [some (.val (.int (c : Nat))), some (.val CS), some (.val (.int (p : Nat))), x3] [none, none, none, none] = some (.ok ((List.range p).map fun j => .int (0 + (j : Nat))), [none, none, none, none]) := by
      have hr := inR_nat (m := p) (by omega)
      simp -implicitDefEqProofs [runF, msOk, sl0, slS, so0, arS, arO, fins, outF, isM, callO, frzN, frz, frzs, mkArs, mkAr, liveAt, rdv, lives, endC, putFs, truD, asB, bnd_a, pur_a, lft_a, fVar_a, fC_a, f2_a, f1_a, fN_a, sq_a, bnS_a, bnT_a, sNx_a, sBk_a, sCt_a, sExp_a, sRet_a, sRetN_a, sIf_a, sSet_a, storV_a, storL_a, sSetX_a, sSetG_a, lfB_a, fTru_a, fAsB_a, fNot_a, fAnd_a, fOr_a, fNotV_a, fAndV_a, fOrV_a, fIf_a, fChain_a, fIsi_a, fNil_a, fCons_a, fCall_a, fM_a, fDct_a, fPartN_a, fPartS_a, fSl_a, fItm_a, fRng_a, sFor_a, for0_a, gNm_a, gNmC_a, fLr1_a, oSub_a, oFdiv_a, oMod_a, oPow_a, oShl_a, oShr_a, oAnd_a, oOr_a, oXor_a, oI_a, oB_a, oAdd_a, oMul_a, oEq_a, oNe_a, oIn_a, oIs_a, oIx_a, nTup_a, nLst_a, eqI, eqS, eqB, itmD, ty_ii, ty_bi, ty_tt, ty_ll, tyM, hr, rngD]
    rcases fit2 k c p hp cs hc hl hcs CS hCS (List.range p) x3 (fun q hq => by rw [List.mem_range] at hq; omega) with ⟨z3, e2⟩ | ⟨z3, c', hc', hs', e2⟩
    · have bd : sq (sFor (fRng (fCons (fVar 2) fNil)) (gNm 3) (sq (sIf (fTru (fCall (rsL ds glb (k + 3) 24) [false, false] true (fCons (f2 oXor (f2 oXor (fVar 0) (f2 oShl (fC (.int 1)) (fVar 2))) (f2 oShl (fC (.int 1)) (fVar 3))) (fCons (fVar 1) fNil)))) (sq (sRet (f2 oXor (f2 oXor (fVar 0) (f2 oShl (fC (.int 1)) (fVar 2))) (f2 oShl (fC (.int 1)) (fVar 3)))) sNx) sNx) sNx)) sNx [some (.val (.int (c : Nat))), some (.val CS), some (.val (.int (p : Nat))), x3] [none, none, none, none] = some (.nx, [some (.val (.int (c : Nat))), some (.val CS), some (.val (.int (p : Nat))), z3], [none, none, none, none]) := by
        refine sq_nx (sl' := [some (.val (.int (c : Nat))), some (.val CS), some (.val (.int (p : Nat))), z3]) (so' := [none, none, none, none]) ?_ rfl
        rw [sFor_a, bnT_a, er]
        exact e2
      rcases fit3 k c cs hc hl hcs CS hCS ps (some (.val (.int (p : Nat)))) z3 (fun q hq => h q (List.mem_cons_of_mem _ hq)) with ⟨y2, y3, e⟩ | ⟨y2, y3, c', hc', hs', e⟩
      · refine .inl ⟨y2, y3, ?_⟩
        rw [List.map_cons]
        exact for1_nx (sl1 := [some (.val (.int (c : Nat))), some (.val CS), some (.val (.int (p : Nat))), x3]) (so1 := [none, none, none, none]) (by rw [Int.zero_add]; rfl) bd e
      · refine .inr ⟨y2, y3, c', hc', hs', ?_⟩
        rw [List.map_cons]
        exact for1_nx (sl1 := [some (.val (.int (c : Nat))), some (.val CS), some (.val (.int (p : Nat))), x3]) (so1 := [none, none, none, none]) (by rw [Int.zero_add]; rfl) bd e
    · refine .inr ⟨some (.val (.int (p : Nat))), z3, c', hc', hs', ?_⟩
      rw [List.map_cons, for1_a]
      have bd : sq (sFor (fRng (fCons (fVar 2) fNil)) (gNm 3) (sq (sIf (fTru (fCall (rsL ds glb (k + 3) 24) [false, false] true (fCons (f2 oXor (f2 oXor (fVar 0) (f2 oShl (fC (.int 1)) (fVar 2))) (f2 oShl (fC (.int 1)) (fVar 3))) (fCons (fVar 1) fNil)))) (sq (sRet (f2 oXor (f2 oXor (fVar 0) (f2 oShl (fC (.int 1)) (fVar 2))) (f2 oShl (fC (.int 1)) (fVar 3)))) sNx) sNx) sNx)) sNx [some (.val (.int (c : Nat))), some (.val CS), some (.val (.int (p : Nat))), x3] [none, none, none, none] = some (.rt (.val (.int (c' : Nat))), [some (.val (.int (c : Nat))), some (.val CS), some (.val (.int (p : Nat))), z3], [none, none, none, none]) := by
        refine sq_rt (sl' := [some (.val (.int (c : Nat))), some (.val CS), some (.val (.int (p : Nat))), z3]) (so' := [none, none, none, none]) ?_ rfl
        rw [sFor_a, bnT_a, er]
        exact e2
      have g0 : gNm 2 (.int (0 + (p : Nat))) [some (.val (.int (c : Nat))), some (.val CS), x2, x3] [none, none, none, none] = some ([some (.val (.int (c : Nat))), some (.val CS), some (.val (.int (p : Nat))), x3], [none, none, none, none]) := by rw [Int.zero_add]; rfl
      rw [g0]
      dsimp only
      rw [bd]
theorem fitted_ok (k c : Nat) (cs : List Nat) (hc : c < 1048576) (hl : cs.length < 1000) (hcs : ∀ d ∈ cs, d < 1048576) : ∃ c' : Nat, c' < 1048576 ∧ suits c' cs = true ∧
    rsL ds glb (k + 4) 25 [.v (.int (c : Nat)), .v (.lst (cs.map fun c => .int (c : Nat)))] = some (.ok (.val (.int (c' : Nat))), [none, none]) := by
  rw [r25]
  obtain ⟨CS, hCS⟩ : ∃ CS : D, CS = .lst (cs.map fun c => .int (c : Nat)) := ⟨_, rfl⟩
  have s := suits_ok k c cs hc hl hcs
  rw [← hCS] at s ⊢
  cases hs : suits c cs with
  | true =>
    rw [hs] at s
    refine ⟨c, hc, hs, ?_⟩
    simp -implicitDefEqProofs [g25, runF, msOk, sl0, slS, so0, arS, arO, fins, outF, isM, callO, frzN, frz, frzs, mkArs, mkAr, liveAt, rdv, lives, endC, putFs, truD, asB, bnd_a, pur_a, lft_a, fVar_a, fC_a, f2_a, f1_a, fN_a, sq_a, bnS_a, bnT_a, sNx_a, sBk_a, sCt_a, sExp_a, sRet_a, sRetN_a, sIf_a, sSet_a, storV_a, storL_a, sSetX_a, sSetG_a, lfB_a, fTru_a, fAsB_a, fNot_a, fAnd_a, fOr_a, fNotV_a, fAndV_a, fOrV_a, fIf_a, fChain_a, fIsi_a, fNil_a, fCons_a, fCall_a, fM_a, fDct_a, fPartN_a, fPartS_a, fSl_a, fItm_a, fRng_a, sFor_a, for0_a, gNm_a, gNmC_a, fLr1_a, oSub_a, oFdiv_a, oMod_a, oPow_a, oShl_a, oShr_a, oAnd_a, oOr_a, oXor_a, oI_a, oB_a, oAdd_a, oMul_a, oEq_a, oNe_a, oIn_a, oIs_a, oIx_a, nTup_a, nLst_a, eqI, eqS, eqB, itmD, ty_ii, ty_bi, ty_tt, ty_ll, tyM, s, pureT, okR, okFs]
  | false =>
    rw [hs] at s
    have mr : ∀ p ∈ List.range 20, p < 20 := fun p hp => List.mem_range.mp hp
    rcases fit1 k c cs hc hl hcs CS hCS (List.range 20) none none mr with ⟨y2, e1⟩ | ⟨y2, c', hc', hs', e1⟩
    · rcases fit3 k c cs hc hl hcs CS hCS (List.range 20) y2 none mr with ⟨z2, z3, e3⟩ | ⟨z2, z3, c', hc', hs', e3⟩
      · refine ⟨0, by decide, suits_0 cs, ?_⟩
        refine run_of (sl' := [some (.val (.int (c : Nat))), some (.val CS), z2, z3]) (so' := [none, none, none, none]) (fl := .rt (.val (.int (0 : Nat)))) rfl rfl ?_ rfl rfl
        refine sq_nx (sl' := [some (.val (.int (c : Nat))), some (.val CS), none, none]) (so' := [none, none, none, none]) (by simp -implicitDefEqProofs [runF, msOk, sl0, slS, so0, arS, arO, fins, outF, isM, callO, frzN, frz, frzs, mkArs, mkAr, liveAt, rdv, lives, endC, putFs, truD, asB, bnd_a, pur_a, lft_a, fVar_a, fC_a, f2_a, f1_a, fN_a, sq_a, bnS_a, bnT_a, sNx_a, sBk_a, sCt_a, sExp_a, sRet_a, sRetN_a, sIf_a, sSet_a, storV_a, storL_a, sSetX_a, sSetG_a, lfB_a, fTru_a, fAsB_a, fNot_a, fAnd_a, fOr_a, fNotV_a, fAndV_a, fOrV_a, fIf_a, fChain_a, fIsi_a, fNil_a, fCons_a, fCall_a, fM_a, fDct_a, fPartN_a, fPartS_a, fSl_a, fItm_a, fRng_a, sFor_a, for0_a, gNm_a, gNmC_a, fLr1_a, oSub_a, oFdiv_a, oMod_a, oPow_a, oShl_a, oShr_a, oAnd_a, oOr_a, oXor_a, oI_a, oB_a, oAdd_a, oMul_a, oEq_a, oNe_a, oIn_a, oIs_a, oIx_a, nTup_a, nLst_a, eqI, eqS, eqB, itmD, ty_ii, ty_bi, ty_tt, ty_ll, tyM, s, pureT, okR, okFs]) ?_
        refine sq_nx (sl' := [some (.val (.int (c : Nat))), some (.val CS), y2, none]) (so' := [none, none, none, none]) (by rw [sFor_a, bnT_a]; erw [rng_c _ _ 20 (by decide)]; exact e1) ?_
        refine sq_nx (sl' := [some (.val (.int (c : Nat))), some (.val CS), z2, z3]) (so' := [none, none, none, none]) (by rw [sFor_a, bnT_a]; erw [rng_c _ _ 20 (by decide)]; exact e3) ?_
        rfl
      · refine ⟨c', hc', hs', ?_⟩
        refine run_of (sl' := [some (.val (.int (c : Nat))), some (.val CS), z2, z3]) (so' := [none, none, none, none]) (fl := .rt (.val (.int (c' : Nat)))) rfl rfl ?_ rfl rfl
        refine sq_nx (sl' := [some (.val (.int (c : Nat))), some (.val CS), none, none]) (so' := [none, none, none, none]) (by simp -implicitDefEqProofs [runF, msOk, sl0, slS, so0, arS, arO, fins, outF, isM, callO, frzN, frz, frzs, mkArs, mkAr, liveAt, rdv, lives, endC, putFs, truD, asB, bnd_a, pur_a, lft_a, fVar_a, fC_a, f2_a, f1_a, fN_a, sq_a, bnS_a, bnT_a, sNx_a, sBk_a, sCt_a, sExp_a, sRet_a, sRetN_a, sIf_a, sSet_a, storV_a, storL_a, sSetX_a, sSetG_a, lfB_a, fTru_a, fAsB_a, fNot_a, fAnd_a, fOr_a, fNotV_a, fAndV_a, fOrV_a, fIf_a, fChain_a, fIsi_a, fNil_a, fCons_a, fCall_a, fM_a, fDct_a, fPartN_a, fPartS_a, fSl_a, fItm_a, fRng_a, sFor_a, for0_a, gNm_a, gNmC_a, fLr1_a, oSub_a, oFdiv_a, oMod_a, oPow_a, oShl_a, oShr_a, oAnd_a, oOr_a, oXor_a, oI_a, oB_a, oAdd_a, oMul_a, oEq_a, oNe_a, oIn_a, oIs_a, oIx_a, nTup_a, nLst_a, eqI, eqS, eqB, itmD, ty_ii, ty_bi, ty_tt, ty_ll, tyM, s, pureT, okR, okFs]) ?_
        refine sq_nx (sl' := [some (.val (.int (c : Nat))), some (.val CS), y2, none]) (so' := [none, none, none, none]) (by rw [sFor_a, bnT_a]; erw [rng_c _ _ 20 (by decide)]; exact e1) ?_
        exact sq_rt (sl' := [some (.val (.int (c : Nat))), some (.val CS), z2, z3]) (so' := [none, none, none, none]) (by rw [sFor_a, bnT_a]; erw [rng_c _ _ 20 (by decide)]; exact e3) rfl
    · refine ⟨c', hc', hs', ?_⟩
      refine run_of (sl' := [some (.val (.int (c : Nat))), some (.val CS), y2, none]) (so' := [none, none, none, none]) (fl := .rt (.val (.int (c' : Nat)))) rfl rfl ?_ rfl rfl
      refine sq_nx (sl' := [some (.val (.int (c : Nat))), some (.val CS), none, none]) (so' := [none, none, none, none]) (by simp -implicitDefEqProofs [runF, msOk, sl0, slS, so0, arS, arO, fins, outF, isM, callO, frzN, frz, frzs, mkArs, mkAr, liveAt, rdv, lives, endC, putFs, truD, asB, bnd_a, pur_a, lft_a, fVar_a, fC_a, f2_a, f1_a, fN_a, sq_a, bnS_a, bnT_a, sNx_a, sBk_a, sCt_a, sExp_a, sRet_a, sRetN_a, sIf_a, sSet_a, storV_a, storL_a, sSetX_a, sSetG_a, lfB_a, fTru_a, fAsB_a, fNot_a, fAnd_a, fOr_a, fNotV_a, fAndV_a, fOrV_a, fIf_a, fChain_a, fIsi_a, fNil_a, fCons_a, fCall_a, fM_a, fDct_a, fPartN_a, fPartS_a, fSl_a, fItm_a, fRng_a, sFor_a, for0_a, gNm_a, gNmC_a, fLr1_a, oSub_a, oFdiv_a, oMod_a, oPow_a, oShl_a, oShr_a, oAnd_a, oOr_a, oXor_a, oI_a, oB_a, oAdd_a, oMul_a, oEq_a, oNe_a, oIn_a, oIs_a, oIx_a, nTup_a, nLst_a, eqI, eqS, eqB, itmD, ty_ii, ty_bi, ty_tt, ty_ll, tyM, s, pureT, okR, okFs]) ?_
      exact sq_rt (sl' := [some (.val (.int (c : Nat))), some (.val CS), y2, none]) (so' := [none, none, none, none]) (by rw [sFor_a, bnT_a]; erw [rng_c _ _ 20 (by decide)]; exact e1) rfl
end K63
end

section
set_option maxRecDepth 100000
namespace K63
open PySem L2 PySem.Spec BT LK
def GoodC (cs : List Nat) : Prop := (∀ c ∈ cs, c < 1048576) ∧ cs.Pairwise fun d c => goC c d = true
theorem dl_loop (k : Nat) : ∀ (ds0 : List D) (a b : Nat) (cs : List Nat) (x2 : Option DV), cs.length + ds0.length < 10 → b + 10 * ds0.length < 990000000 → GoodC cs → ∃ (a' b' : Nat) (cs' : List Nat) (y2 : Option DV), cs'.length = cs.length + ds0.length ∧ GoodC cs' ∧ b' ≤ b + 10 * ds0.length ∧
    forD (gNm 2) (sq (sExp (fM "list" mAppend (fVar 1) (fCons (fCall (rsL ds glb (k + 4) 25) [false, false] true (fCons (fCall (rsL ds glb (k + 4) 23) [true, false] true (fCons (fVar 0) (fCons (fVar 1) fNil))) (fCons (fVar 1) fNil))) fNil))) sNx) ds0 [some (.loc 0), some (.loc 1), x2, none] [some (true, .lst [.int (a : Nat), .int (b : Nat)]), some (true, .lst (cs.map fun c => .int (c : Nat))), none, none] = some (.nx, [some (.loc 0), some (.loc 1), y2, none], [some (true, .lst [.int (a' : Nat), .int (b' : Nat)]), some (true, .lst (cs'.map fun c => .int (c : Nat))), none, none]) := by
  intro ds0
  induction ds0 with
  | nil =>
    intro a b cs x2 _ _ g
    exact ⟨a, b, cs, x2, rfl, g, Nat.le_refl _, by rw [for0_a]⟩
  | cons d ds0 ih =>
    intro a b cs x2 hl hb g
    have hl : cs.length + (ds0.length + 1) < 10 := by simpa using hl
    have hb : b + 10 * (ds0.length + 1) < 990000000 := by simpa using hb
    obtain ⟨c, a1, b1, hc, hb1, e1⟩ := shaped_ok (k + 2) a b cs (by omega) (by omega) g.1
    obtain ⟨c', hc', hs', e2⟩ := fitted_ok k c cs hc (by omega) g.1
    have hz : cs.length < sizeLine := Nat.lt_of_lt_of_le (show cs.length < 10 by omega) (by decide)
    have g' : GoodC (cs ++ [c']) := by
      refine ⟨fun x hx => ?_, ?_⟩
      · rcases List.mem_append.mp hx with h | h
        · exact g.1 x h
        · rw [List.mem_singleton.mp h]; exact hc'
      · rw [List.pairwise_append]
        refine ⟨g.2, List.pairwise_singleton _ _, fun x hx y hy => ?_⟩
        rw [List.mem_singleton.mp hy]
        exact List.all_eq_true.mp hs' x hx
    obtain ⟨a2, b2, cs', y2, hl', gd, hb', e⟩ := ih a1 b1 (cs ++ [c']) (some (.val d)) (by simp; omega) (by omega) g'
    refine ⟨a2, b2, cs', y2, by rw [hl']; simp; omega, gd, by simp; omega, ?_⟩
    refine for1_nx (sl1 := [some (.loc 0), some (.loc 1), some (.val d), none]) (so1 := [some (true, .lst [.int (a : Nat), .int (b : Nat)]), some (true, .lst (cs.map fun c => .int (c : Nat))), none, none]) rfl ?_ e
    have s1 : (fCall (rsL ds glb (k + 4) 23) [true, false] true (fCons (fVar 0) (fCons (fVar 1) fNil))) [some (.loc 0), some (.loc 1), some (.val d), none] [some (true, .lst [.int (a : Nat), .int (b : Nat)]), some (true, .lst (cs.map fun c => .int (c : Nat))), none, none] = some (.ok (.val (.int (c : Nat))), [some (true, .lst [.int (a1 : Nat), .int (b1 : Nat)]), some (true, .lst (cs.map fun c => .int (c : Nat))), none, none]) := by
      obtain ⟨CS, hCS⟩ : ∃ CS : D, CS = .lst (cs.map fun c => .int (c : Nat)) := ⟨_, rfl⟩
      rw [← hCS] at e1 ⊢
      simp -implicitDefEqProofs [runF, msOk, sl0, slS, so0, arS, arO, fins, outF, isM, callO, frzN, frz, frzs, mkArs, mkAr, liveAt, rdv, lives, endC, putFs, truD, asB, bnd_a, pur_a, lft_a, fVar_a, fC_a, f2_a, f1_a, fN_a, sq_a, bnS_a, bnT_a, sNx_a, sBk_a, sCt_a, sExp_a, sRet_a, sRetN_a, sIf_a, sSet_a, storV_a, storL_a, sSetX_a, sSetG_a, lfB_a, fTru_a, fAsB_a, fNot_a, fAnd_a, fOr_a, fNotV_a, fAndV_a, fOrV_a, fIf_a, fChain_a, fIsi_a, fNil_a, fCons_a, fCall_a, fM_a, fDct_a, fPartN_a, fPartS_a, fSl_a, fItm_a, fRng_a, sFor_a, for0_a, gNm_a, gNmC_a, fLr1_a, oSub_a, oFdiv_a, oMod_a, oPow_a, oShl_a, oShr_a, oAnd_a, oOr_a, oXor_a, oI_a, oB_a, oAdd_a, oMul_a, oEq_a, oNe_a, oIn_a, oIs_a, oIx_a, nTup_a, nLst_a, eqI, eqS, eqB, itmD, ty_ii, ty_bi, ty_tt, ty_ll, tyM, e1, pureT, pureT.pureTs, pureI, okR, okFs]
    have s2 : (fCall (rsL ds glb (k + 4) 25) [false, false] true (fCons (fCall (rsL ds glb (k + 4) 23) [true, false] true (fCons (fVar 0) (fCons (fVar 1) fNil))) (fCons (fVar 1) fNil))) [some (.loc 0), some (.loc 1), some (.val d), none] [some (true, .lst [.int (a : Nat), .int (b : Nat)]), some (true, .lst (cs.map fun c => .int (c : Nat))), none, none] = some (.ok (.val (.int (c' : Nat))), [some (true, .lst [.int (a1 : Nat), .int (b1 : Nat)]), some (true, .lst (cs.map fun c => .int (c : Nat))), none, none]) := by
      rw [fCall_a, bnd_a, fCons_a, bnd_a, s1]
      obtain ⟨CS, hCS⟩ : ∃ CS : D, CS = .lst (cs.map fun c => .int (c : Nat)) := ⟨_, rfl⟩
      rw [← hCS] at e2 ⊢
      simp -implicitDefEqProofs [runF, msOk, sl0, slS, so0, arS, arO, fins, outF, isM, callO, frzN, frz, frzs, mkArs, mkAr, liveAt, rdv, lives, endC, putFs, truD, asB, bnd_a, pur_a, lft_a, fVar_a, fC_a, f2_a, f1_a, fN_a, sq_a, bnS_a, bnT_a, sNx_a, sBk_a, sCt_a, sExp_a, sRet_a, sRetN_a, sIf_a, sSet_a, storV_a, storL_a, sSetX_a, sSetG_a, lfB_a, fTru_a, fAsB_a, fNot_a, fAnd_a, fOr_a, fNotV_a, fAndV_a, fOrV_a, fIf_a, fChain_a, fIsi_a, fNil_a, fCons_a, fCall_a, fM_a, fDct_a, fPartN_a, fPartS_a, fSl_a, fItm_a, fRng_a, sFor_a, for0_a, gNm_a, gNmC_a, fLr1_a, oSub_a, oFdiv_a, oMod_a, oPow_a, oShl_a, oShr_a, oAnd_a, oOr_a, oXor_a, oI_a, oB_a, oAdd_a, oMul_a, oEq_a, oNe_a, oIn_a, oIs_a, oIx_a, nTup_a, nLst_a, eqI, eqS, eqB, itmD, ty_ii, ty_bi, ty_tt, ty_ll, tyM, e2, pureT, pureT.pureTs, pureI, okR, okFs]
    refine sq_nx (sl' := [some (.loc 0), some (.loc 1), some (.val d), none]) (so' := [some (true, .lst [.int (a1 : Nat), .int (b1 : Nat)]), some (true, .lst ((cs ++ [c']).map fun c => .int (c : Nat))), none, none]) ?_ rfl
    have s3 : fM "list" mAppend (fVar 1) (fCons (fCall (rsL ds glb (k + 4) 25) [false, false] true (fCons (fCall (rsL ds glb (k + 4) 23) [true, false] true (fCons (fVar 0) (fCons (fVar 1) fNil))) (fCons (fVar 1) fNil))) fNil) [some (.loc 0), some (.loc 1), some (.val d), none] [some (true, .lst [.int (a : Nat), .int (b : Nat)]), some (true, .lst (cs.map fun c => .int (c : Nat))), none, none] = some (.ok (.val .non), [some (true, .lst [.int (a1 : Nat), .int (b1 : Nat)]), some (true, .lst ((cs ++ [c']).map fun c => .int (c : Nat))), none, none]) := by
      rw [fM_a, bnd_a, fVar_a]
      dsimp only [List.getElem?_cons_succ, List.getElem?_cons_zero]
      rw [if_pos (by rfl), bnd_a, fCons_a, bnd_a, s2]
      simp -implicitDefEqProofs [runF, msOk, sl0, slS, so0, arS, arO, fins, outF, isM, callO, frzN, frz, frzs, mkArs, mkAr, liveAt, rdv, lives, endC, putFs, truD, asB, bnd_a, pur_a, lft_a, fVar_a, fC_a, f2_a, f1_a, fN_a, sq_a, bnS_a, bnT_a, sNx_a, sBk_a, sCt_a, sExp_a, sRet_a, sRetN_a, sIf_a, sSet_a, storV_a, storL_a, sSetX_a, sSetG_a, lfB_a, fTru_a, fAsB_a, fNot_a, fAnd_a, fOr_a, fNotV_a, fAndV_a, fOrV_a, fIf_a, fChain_a, fIsi_a, fNil_a, fCons_a, fCall_a, fM_a, fDct_a, fPartN_a, fPartS_a, fSl_a, fItm_a, fRng_a, sFor_a, for0_a, gNm_a, gNmC_a, fLr1_a, oSub_a, oFdiv_a, oMod_a, oPow_a, oShl_a, oShr_a, oAnd_a, oOr_a, oXor_a, oI_a, oB_a, oAdd_a, oMul_a, oEq_a, oNe_a, oIn_a, oIs_a, oIx_a, nTup_a, nLst_a, eqI, eqS, eqB, itmD, ty_ii, ty_bi, ty_tt, ty_ll, tyM, mAppend, hz]
    rw [sExp_a, bnT_a, s3]
    rfl
theorem dl_lc (k : Nat) (CS : D) (y2 : Option DV) : ∀ (cs : List Nat) (a b : Nat) (acc : List D), (∀ c ∈ cs, c < 1048576) → acc.length + cs.length < 10 → b + cs.length < 999000000 → ∃ (a' b' : Nat) (Ls : List Lk), (∃ ss : List Nat, ss.length = cs.length ∧ (∀ s ∈ ss, s < 2) ∧ Ls = List.zipWith cL ss cs) ∧ b' ≤ b + cs.length ∧
    lcLoop 4 [some (.loc 0), some (.loc 1), y2, none] (gNmC 3) fYes (fN nTup (fCons (fCall (rsL ds glb (k + 4) 18) [true, false] false (fCons (fVar 0) (fCons (fC (.int 2)) fNil))) (fCons (fCall (rsL ds glb (k + 4) 19) [false] false (fCons (f2 oAnd (fVar 3) (fC (.int 1023))) fNil)) (fCons (fCall (rsL ds glb (k + 4) 19) [false] false (fCons (f2 oShr (fVar 3) (fC (.int 10))) fNil)) fNil)))) (cs.map fun c => .int (c : Nat)) [some (true, .lst [.int (a : Nat), .int (b : Nat)]), some (false, CS), none, none, some (true, .lst acc)] = some [some (true, .lst [.int (a' : Nat), .int (b' : Nat)]), some (false, CS), none, none, some (true, .lst (acc ++ Ls.map lookD))]
  | [], a, b, acc, _, _, _ => ⟨a, b, [], ⟨[], rfl, fun s hs => (by cases hs), rfl⟩, Nat.le_refl _, by simp [lcLoop]⟩
  | c :: cs, a, b, acc, h, hl, hb => by
    have hl : acc.length + (cs.length + 1) < 10 := by simpa using hl
    have hb : b + (cs.length + 1) < 999000000 := by simpa using hb
    have hc := h c List.mem_cons_self
    obtain ⟨s, a1, b1, hs, hb1, e1⟩ := draw_ok (k + 3) a b 2 (by decide) (by decide) (by omega)
    have e1 : rsL ds glb (k + 4) 18 [.m (.lst [.int (a : Nat), .int (b : Nat)]), .v (.int 2)] = some (.ok (.val (.int (s : Nat))), [some (true, .lst [.int (a1 : Nat), .int (b1 : Nat)]), none]) := e1
    have l1 := law_lot_ok (k + 3) (c % 1024) (Nat.mod_lt _ (by decide))
    have l2 := law_lot_ok (k + 3) (c / 1024) (by omega)
    obtain ⟨a', b', Ls, ⟨ss, hss, hs2, hLs⟩, hb', e⟩ := dl_lc k CS y2 cs a1 b1 (acc ++ [lookD (cL s c)]) (fun x hx => h x (List.mem_cons_of_mem _ hx)) (by simp; omega) (by omega)
    have hz3 : (3 : Nat) ≤ sizeLine := by decide
    have hz : acc.length < sizeLine := Nat.lt_of_lt_of_le (show acc.length < 10 by omega) (by decide)
    have ev : (fN nTup (fCons (fCall (rsL ds glb (k + 4) 18) [true, false] false (fCons (fVar 0) (fCons (fC (.int 2)) fNil))) (fCons (fCall (rsL ds glb (k + 4) 19) [false] false (fCons (f2 oAnd (fVar 3) (fC (.int 1023))) fNil)) (fCons (fCall (rsL ds glb (k + 4) 19) [false] false (fCons (f2 oShr (fVar 3) (fC (.int 10))) fNil)) fNil)))) [some (.loc 0), some (.loc 1), y2, some (.val (.int (c : Nat)))] [some (true, .lst [.int (a : Nat), .int (b : Nat)]), some (false, CS), none, none, some (true, .lst acc)] = some (.ok (.val (lookD (cL s c))), [some (true, .lst [.int (a1 : Nat), .int (b1 : Nat)]), some (false, CS), none, none, some (true, .lst acc)]) := by
      obtain ⟨X, hX⟩ : ∃ X, X = c % 1024 := ⟨_, rfl⟩
      obtain ⟨Y, hY⟩ : ∃ Y, Y = c / 1024 := ⟨_, rfl⟩
      have h1 : Builtin.bitAnd (c : Int) 1023 = (X : Int) := by rw [and1023, hX]
      have h2 : (c : Int) / 1024 = (Y : Int) := by rw [shr10, hY]
      have hL : lookD (cL s c) = .tup [.int (s : Nat), lotD X, lotD Y] := by rw [hX, hY]; rfl
      rw [← hX] at l1
      rw [← hY] at l2
      rw [hL]
      simp -implicitDefEqProofs [runF, msOk, sl0, slS, so0, arS, arO, fins, outF, isM, callO, frzN, frz, frzs, mkArs, mkAr, liveAt, rdv, lives, endC, putFs, truD, asB, bnd_a, pur_a, lft_a, fVar_a, fC_a, f2_a, f1_a, fN_a, sq_a, bnS_a, bnT_a, sNx_a, sBk_a, sCt_a, sExp_a, sRet_a, sRetN_a, sIf_a, sSet_a, storV_a, storL_a, sSetX_a, sSetG_a, lfB_a, fTru_a, fAsB_a, fNot_a, fAnd_a, fOr_a, fNotV_a, fAndV_a, fOrV_a, fIf_a, fChain_a, fIsi_a, fNil_a, fCons_a, fCall_a, fM_a, fDct_a, fPartN_a, fPartS_a, fSl_a, fItm_a, fRng_a, sFor_a, for0_a, gNm_a, gNmC_a, fLr1_a, oSub_a, oFdiv_a, oMod_a, oPow_a, oShl_a, oShr_a, oAnd_a, oOr_a, oXor_a, oI_a, oB_a, oAdd_a, oMul_a, oEq_a, oNe_a, oIn_a, oIs_a, oIx_a, nTup_a, nLst_a, eqI, eqS, eqB, itmD, ty_ii, ty_bi, ty_tt, ty_ll, tyM, e1, h1, h2, l1, l2, hz3]
    refine ⟨a', b', cL s c :: Ls, ⟨s :: ss, by simp [hss], fun x hx => ?_, by rw [hLs]; rfl⟩, by simp; omega, ?_⟩
    · rcases List.mem_cons.mp hx with rfl | hx
      · exact hs
      · exact hs2 x hx
    rw [List.map_cons]
    have g0 : gNmC 3 (.int (c : Nat)) [some (.loc 0), some (.loc 1), y2, none] [some (true, .lst [.int (a : Nat), .int (b : Nat)]), some (false, CS), none, none, some (true, .lst acc)] = some ([some (.loc 0), some (.loc 1), y2, some (.val (.int (c : Nat)))], [some (true, .lst [.int (a : Nat), .int (b : Nat)]), some (false, CS), none, none, some (true, .lst acc)]) := rfl
    have y0 : fYes [some (.loc 0), some (.loc 1), y2, some (.val (.int (c : Nat)))] [some (true, .lst [.int (a : Nat), .int (b : Nat)]), some (false, CS), none, none, some (true, .lst acc)] = some (.ok true, [some (true, .lst [.int (a : Nat), .int (b : Nat)]), some (false, CS), none, none, some (true, .lst acc)]) := rfl
    unfold lcLoop
    rw [g0]
    dsimp only
    rw [y0]
    dsimp only
    rw [ev]
    dsimp only [frz]
    show (if acc.length < sizeLine then _ else none) = _
    rw [if_pos hz]
    rw [show acc ++ (cL s c :: Ls).map lookD = (acc ++ [lookD (cL s c)]) ++ Ls.map lookD by simp]
    exact e
theorem drawn_ok (k a b : Nat) (hb : b < 980000000) : ∃ (A B C : Lk) (a' b' : Nat), A.Ok ∧ B.Ok ∧ C.Ok ∧ goT A B = true ∧ goT A C = true ∧ goT B C = true ∧ b' ≤ b + 40 ∧
    rsL ds glb (k + 5) 26 [.m (.lst [.int (a : Nat), .int (b : Nat)])] = some (.ok (.new (.lst [lookD A, lookD B, lookD C])), [some (true, .lst [.int (a' : Nat), .int (b' : Nat)])]) := by
  rw [r26]
  obtain ⟨a1, b1, cs, y2, hl, g, hb1, e1⟩ := dl_loop k ((List.range 3).map fun j => .int (0 + (j : Nat))) a b [] none (by simp) (by simp; omega) ⟨fun x hx => (by cases hx), .nil⟩
  have hl : cs.length = 3 := by simpa using hl
  have hb1 : b1 ≤ b + 30 := by simpa using hb1
  obtain ⟨CS, hCS⟩ : ∃ CS : D, CS = .lst (cs.map fun c => .int (c : Nat)) := ⟨_, rfl⟩
  obtain ⟨a', b', Ls, ⟨ss, hss, hs2, hLs⟩, hb', e2⟩ := dl_lc k CS y2 cs a1 b1 [] g.1 (by simp; omega) (by omega)
  rcases cs with _ | ⟨c1, _ | ⟨c2, _ | ⟨c3, _ | ⟨c4, r⟩⟩⟩⟩ <;> simp only [List.length_cons, List.length_nil] at hl <;> try omega
  rcases ss with _ | ⟨s1, _ | ⟨s2, _ | ⟨s3, _ | ⟨s4, r⟩⟩⟩⟩ <;> simp only [List.length_cons, List.length_nil] at hss <;> try omega
  have hLs : Ls = [cL s1 c1, cL s2 c2, cL s3 c3] := hLs
  have pw := g.2
  simp only [List.pairwise_cons, List.mem_cons, List.not_mem_nil, or_false, forall_eq_or_imp, forall_eq] at pw
  obtain ⟨⟨p12, p13⟩, p23, _⟩ := pw
  have k1 := cL_ok (hs2 s1 (by simp)) (g.1 c1 (by simp))
  have k2 := cL_ok (hs2 s2 (by simp)) (g.1 c2 (by simp))
  have k3 := cL_ok (hs2 s3 (by simp)) (g.1 c3 (by simp))
  have hz0 : (0 : Nat) ≤ sizeLine := by decide
  refine ⟨cL s1 c1, cL s2 c2, cL s3 c3, a', b', k1, k2, k3, (by rw [goT_comm]; exact p12), (by rw [goT_comm]; exact p13), (by rw [goT_comm]; exact p23), (by simp only [List.length_cons, List.length_nil] at hb'; omega), ?_⟩
  rw [hLs] at e2
  refine run_of (sl' := [some (.loc 0), some (.loc 1), y2, none]) (so' := [some (true, .lst [.int (a' : Nat), .int (b' : Nat)]), some (false, CS), none, none, some (true, .lst [lookD (cL s1 c1), lookD (cL s2 c2), lookD (cL s3 c3)])]) (fl := .rt (.loc 4)) rfl rfl ?_ rfl rfl
  refine sq_nx (sl' := [some (.loc 0), some (.loc 1), none, none]) (so' := [some (true, .lst [.int (a : Nat), .int (b : Nat)]), some (true, .lst []), none, none]) (by simp -implicitDefEqProofs [runF, msOk, sl0, slS, so0, arS, arO, fins, outF, isM, callO, frzN, frz, frzs, mkArs, mkAr, liveAt, rdv, lives, endC, putFs, truD, asB, bnd_a, pur_a, lft_a, fVar_a, fC_a, f2_a, f1_a, fN_a, sq_a, bnS_a, bnT_a, sNx_a, sBk_a, sCt_a, sExp_a, sRet_a, sRetN_a, sIf_a, sSet_a, storV_a, storL_a, sSetX_a, sSetG_a, lfB_a, fTru_a, fAsB_a, fNot_a, fAnd_a, fOr_a, fNotV_a, fAndV_a, fOrV_a, fIf_a, fChain_a, fIsi_a, fNil_a, fCons_a, fCall_a, fM_a, fDct_a, fPartN_a, fPartS_a, fSl_a, fItm_a, fRng_a, sFor_a, for0_a, gNm_a, gNmC_a, fLr1_a, oSub_a, oFdiv_a, oMod_a, oPow_a, oShl_a, oShr_a, oAnd_a, oOr_a, oXor_a, oI_a, oB_a, oAdd_a, oMul_a, oEq_a, oNe_a, oIn_a, oIs_a, oIx_a, nTup_a, nLst_a, eqI, eqS, eqB, itmD, ty_ii, ty_bi, ty_tt, ty_ll, tyM, hz0]) ?_
  refine sq_nx (sl' := [some (.loc 0), some (.loc 1), y2, none]) (so' := [some (true, .lst [.int (a1 : Nat), .int (b1 : Nat)]), some (true, CS), none, none]) ?_ ?_
  · rw [sFor_a, bnT_a]
    erw [rng_c _ _ 3 (by decide)]
    rw [hCS]
    exact e1
  refine sq_rt (sl' := [some (.loc 0), some (.loc 1), y2, none]) (so' := [some (true, .lst [.int (a' : Nat), .int (b' : Nat)]), some (false, CS), none, none, some (true, .lst [lookD (cL s1 c1), lookD (cL s2 c2), lookD (cL s3 c3)])]) ?_ rfl
  rw [sRet_a, bnS_a, fLc_a, bnd_a]
  have it : fItm (fVar 1) [some (.loc 0), some (.loc 1), y2, none] [some (true, .lst [.int (a1 : Nat), .int (b1 : Nat)]), some (true, CS), none, none] = some (.ok ([c1, c2, c3].map fun c => .int (c : Nat)), [some (true, .lst [.int (a1 : Nat), .int (b1 : Nat)]), some (false, CS), none, none]) := by
    simp -implicitDefEqProofs [runF, msOk, sl0, slS, so0, arS, arO, fins, outF, isM, callO, frzN, frz, frzs, mkArs, mkAr, liveAt, rdv, lives, endC, putFs, truD, asB, bnd_a, pur_a, lft_a, fVar_a, fC_a, f2_a, f1_a, fN_a, sq_a, bnS_a, bnT_a, sNx_a, sBk_a, sCt_a, sExp_a, sRet_a, sRetN_a, sIf_a, sSet_a, storV_a, storL_a, sSetX_a, sSetG_a, lfB_a, fTru_a, fAsB_a, fNot_a, fAnd_a, fOr_a, fNotV_a, fAndV_a, fOrV_a, fIf_a, fChain_a, fIsi_a, fNil_a, fCons_a, fCall_a, fM_a, fDct_a, fPartN_a, fPartS_a, fSl_a, fItm_a, fRng_a, sFor_a, for0_a, gNm_a, gNmC_a, fLr1_a, oSub_a, oFdiv_a, oMod_a, oPow_a, oShl_a, oShr_a, oAnd_a, oOr_a, oXor_a, oI_a, oB_a, oAdd_a, oMul_a, oEq_a, oNe_a, oIn_a, oIs_a, oIx_a, nTup_a, nLst_a, eqI, eqS, eqB, itmD, ty_ii, ty_bi, ty_tt, ty_ll, tyM, hCS]
  rw [it]
  dsimp only
  have w : wipeS [some (.loc 0), some (.loc 1), y2, none] [3] = [some (.loc 0), some (.loc 1), y2, none] := rfl
  rw [w]
  erw [e2]
  rfl
end K63
end

section
set_option maxRecDepth 100000
namespace K63
open PySem L2 PySem.Spec BT LK
theorem eq_tup2 (a b c d : Int) : eqD (.tup [.int a, .int b]) (.tup [.int c, .int d]) = some (a == c && b == d) := by
  have e : ∀ a b : Int, toPy (.tup [.int a, .int b]) = some (.tuple [.int a, .int b]) := fun a b => rfl
  have sh : ∀ a b : Int, SeqAt.shaped (.tuple [.int a, .int b]) = true := fun a b => by
    simp [SeqAt.shaped, PyData.canLay0, PyData.canLayAll0, PyData.depth, PyData.depthAll]
  show eqP (.tup [.int a, .int b]) (.tup [.int c, .int d]) = _
  unfold eqP
  rw [e, e]
  dsimp only
  rw [if_pos ⟨sh _ _, sh _ _⟩]
  simp [PyData.eqv, PyData.eqvAll]
def ptD (x : Nat × Nat) : D := .tup [.int (x.1 : Nat), .int (x.2 : Nat)]
theorem moved_ok (k : Nat) (L : Lk) (l : L.Ok) (x : Nat × Nat) (hq : x.2 < 1000) : rsL ds glb (k + 2) 27 [.v (lookD L), .v (ptD x)] = some (.ok (.val (ptD (mv L x))), [none, none]) := by
  rw [r27]
  obtain ⟨i, q⟩ := x
  have m1 := law_mask_ok k L.f l.f
  have m2 := law_mask_ok k L.t l.t
  have o1 := law_ones_ok k (L.t &&& i) (and_lt l.t)
  have o2 := law_ones_ok k (L.f &&& L.t) (and_lt l.f)
  have hs := l.s
  have hX1 := pc_le (L.t &&& i)
  have hY1 := pc_le (L.f &&& L.t)
  obtain ⟨X, hX⟩ : ∃ X, X = pc (L.t &&& i) := ⟨_, rfl⟩
  obtain ⟨Y, hY⟩ : ∃ Y, Y = pc (L.f &&& L.t) := ⟨_, rfl⟩
  rw [← hX] at o1 hX1
  rw [← hY] at o2 hY1
  obtain ⟨X0, hX0⟩ : ∃ X0, X0 = L.t &&& i := ⟨_, rfl⟩
  obtain ⟨Y0, hY0⟩ : ∃ Y0, Y0 = L.f &&& L.t := ⟨_, rfl⟩
  rw [← hX0] at o1
  rw [← hY0] at o2
  have b1 : Builtin.bitAnd (L.t : Int) (i : Int) = (X0 : Int) := by rw [and_nat, hX0]
  have b2 : Builtin.bitAnd (L.f : Int) (L.t : Int) = (Y0 : Int) := by rw [and_nat, hY0]
  have c1 : CMulX 2 (L.s : Int) := mul64 (by omega) (by omega) (by omega) (by omega)
  have c2 : CMulX 2 (X : Int) := mul64 (by omega) (by omega) (by omega) (by omega)
  obtain ⟨R1, hR1⟩ : ∃ R1, R1 = i ^^^ L.f := ⟨_, rfl⟩
  obtain ⟨R2, hR2⟩ : ∃ R2, R2 = (q + (2 * L.s + 2 * X + Y)) % 4 := ⟨_, rfl⟩
  have x1 : Builtin.bitXor (i : Int) (L.f : Int) = (R1 : Int) := by rw [xor_nat, hR1]
  have a3 : Builtin.bitAnd ((q : Int) + (2 * (L.s : Int) + 2 * (X : Int) + (Y : Int))) 3 = (R2 : Int) := by
    have := and3 (q + (2 * L.s + 2 * X + Y))
    rw [hR2, ← this]
    congr 1
  have em : mv L (i, q) = (R1, R2) := by
    unfold mv
    rw [hR1, hR2, hX, hY]
  rw [em]
  unfold ptD lookD
  obtain ⟨DF, hDF⟩ : ∃ DF, DF = lotD L.f := ⟨_, rfl⟩
  obtain ⟨DT, hDT⟩ : ∃ DT, DT = lotD L.t := ⟨_, rfl⟩
  rw [← hDF] at m1 ⊢
  rw [← hDT] at m2 ⊢
  have hz2 : (2 : Nat) ≤ sizeLine := by decide
  refine run_of (sl' := [some (.val (.tup [.int (L.s : Nat), DF, DT])), some (.val (.tup [.int (i : Nat), .int (q : Nat)])), some (.val (.int (L.f : Nat))), some (.val (.int (L.t : Nat))), some (.val (.int (2 * (L.s : Int) + 2 * (X : Int) + (Y : Int))))]) (so' := [none, none, none, none, none]) (fl := .rt (.val (.tup [.int (R1 : Nat), .int (R2 : Nat)]))) rfl rfl ?_ rfl rfl
  refine sq_nx (sl' := [some (.val (.tup [.int (L.s : Nat), DF, DT])), some (.val (.tup [.int (i : Nat), .int (q : Nat)])), some (.val (.int (L.f : Nat))), none, none]) (so' := [none, none, none, none, none]) (by simp -implicitDefEqProofs [runF, msOk, sl0, slS, so0, arS, arO, fins, outF, isM, callO, frzN, frz, frzs, mkArs, mkAr, liveAt, rdv, lives, endC, putFs, truD, asB, bnd_a, pur_a, lft_a, fVar_a, fC_a, f2_a, f1_a, fN_a, sq_a, bnS_a, bnT_a, sNx_a, sBk_a, sCt_a, sExp_a, sRet_a, sRetN_a, sIf_a, sSet_a, storV_a, storL_a, sSetX_a, sSetG_a, lfB_a, fTru_a, fAsB_a, fNot_a, fAnd_a, fOr_a, fNotV_a, fAndV_a, fOrV_a, fIf_a, fChain_a, fIsi_a, fNil_a, fCons_a, fCall_a, fM_a, fDct_a, fPartN_a, fPartS_a, fSl_a, fItm_a, fRng_a, sFor_a, for0_a, gNm_a, gNmC_a, fLr1_a, oSub_a, oFdiv_a, oMod_a, oPow_a, oShl_a, oShr_a, oAnd_a, oOr_a, oXor_a, oI_a, oB_a, oAdd_a, oMul_a, oEq_a, oNe_a, oIn_a, oIs_a, oIx_a, nTup_a, nLst_a, eqI, eqS, eqB, itmD, ty_ii, ty_bi, ty_tt, ty_ll, tyM, at1, m1]) ?_
  refine sq_nx (sl' := [some (.val (.tup [.int (L.s : Nat), DF, DT])), some (.val (.tup [.int (i : Nat), .int (q : Nat)])), some (.val (.int (L.f : Nat))), some (.val (.int (L.t : Nat))), none]) (so' := [none, none, none, none, none]) (by simp -implicitDefEqProofs [runF, msOk, sl0, slS, so0, arS, arO, fins, outF, isM, callO, frzN, frz, frzs, mkArs, mkAr, liveAt, rdv, lives, endC, putFs, truD, asB, bnd_a, pur_a, lft_a, fVar_a, fC_a, f2_a, f1_a, fN_a, sq_a, bnS_a, bnT_a, sNx_a, sBk_a, sCt_a, sExp_a, sRet_a, sRetN_a, sIf_a, sSet_a, storV_a, storL_a, sSetX_a, sSetG_a, lfB_a, fTru_a, fAsB_a, fNot_a, fAnd_a, fOr_a, fNotV_a, fAndV_a, fOrV_a, fIf_a, fChain_a, fIsi_a, fNil_a, fCons_a, fCall_a, fM_a, fDct_a, fPartN_a, fPartS_a, fSl_a, fItm_a, fRng_a, sFor_a, for0_a, gNm_a, gNmC_a, fLr1_a, oSub_a, oFdiv_a, oMod_a, oPow_a, oShl_a, oShr_a, oAnd_a, oOr_a, oXor_a, oI_a, oB_a, oAdd_a, oMul_a, oEq_a, oNe_a, oIn_a, oIs_a, oIx_a, nTup_a, nLst_a, eqI, eqS, eqB, itmD, ty_ii, ty_bi, ty_tt, ty_ll, tyM, at2, m2]) ?_
  refine sq_nx (sl' := [some (.val (.tup [.int (L.s : Nat), DF, DT])), some (.val (.tup [.int (i : Nat), .int (q : Nat)])), some (.val (.int (L.f : Nat))), some (.val (.int (L.t : Nat))), some (.val (.int (2 * (L.s : Int) + 2 * (X : Int) + (Y : Int))))]) (so' := [none, none, none, none, none]) (by simp -implicitDefEqProofs [runF, msOk, sl0, slS, so0, arS, arO, fins, outF, isM, callO, frzN, frz, frzs, mkArs, mkAr, liveAt, rdv, lives, endC, putFs, truD, asB, bnd_a, pur_a, lft_a, fVar_a, fC_a, f2_a, f1_a, fN_a, sq_a, bnS_a, bnT_a, sNx_a, sBk_a, sCt_a, sExp_a, sRet_a, sRetN_a, sIf_a, sSet_a, storV_a, storL_a, sSetX_a, sSetG_a, lfB_a, fTru_a, fAsB_a, fNot_a, fAnd_a, fOr_a, fNotV_a, fAndV_a, fOrV_a, fIf_a, fChain_a, fIsi_a, fNil_a, fCons_a, fCall_a, fM_a, fDct_a, fPartN_a, fPartS_a, fSl_a, fItm_a, fRng_a, sFor_a, for0_a, gNm_a, gNmC_a, fLr1_a, oSub_a, oFdiv_a, oMod_a, oPow_a, oShl_a, oShr_a, oAnd_a, oOr_a, oXor_a, oI_a, oB_a, oAdd_a, oMul_a, oEq_a, oNe_a, oIn_a, oIs_a, oIx_a, nTup_a, nLst_a, eqI, eqS, eqB, itmD, ty_ii, ty_bi, ty_tt, ty_ll, tyM, at0, b1, b2, o1, o2, c1, c2]) ?_
  simp -implicitDefEqProofs [runF, msOk, sl0, slS, so0, arS, arO, fins, outF, isM, callO, frzN, frz, frzs, mkArs, mkAr, liveAt, rdv, lives, endC, putFs, truD, asB, bnd_a, pur_a, lft_a, fVar_a, fC_a, f2_a, f1_a, fN_a, sq_a, bnS_a, bnT_a, sNx_a, sBk_a, sCt_a, sExp_a, sRet_a, sRetN_a, sIf_a, sSet_a, storV_a, storL_a, sSetX_a, sSetG_a, lfB_a, fTru_a, fAsB_a, fNot_a, fAnd_a, fOr_a, fNotV_a, fAndV_a, fOrV_a, fIf_a, fChain_a, fIsi_a, fNil_a, fCons_a, fCall_a, fM_a, fDct_a, fPartN_a, fPartS_a, fSl_a, fItm_a, fRng_a, sFor_a, for0_a, gNm_a, gNmC_a, fLr1_a, oSub_a, oFdiv_a, oMod_a, oPow_a, oShl_a, oShr_a, oAnd_a, oOr_a, oXor_a, oI_a, oB_a, oAdd_a, oMul_a, oEq_a, oNe_a, oIn_a, oIs_a, oIx_a, nTup_a, nLst_a, eqI, eqS, eqB, itmD, ty_ii, ty_bi, ty_tt, ty_ll, tyM, at0, at1, x1, a3, hz2]
theorem mv_lt (L : Lk) (x : Nat × Nat) : (mv L x).2 < 4 := Nat.mod_lt _ (by decide)
theorem by_all_ok (k i : Nat) (A B C : Lk) (a : A.Ok) (b : B.Ok) (c : C.Ok) : rsL ds glb (k + 3) 28 [.v (.lst [lookD A, lookD B, lookD C]), .v (.int (i : Nat))] = some (.ok (.val (ptD (mv A (mv B (mv C (i, 0)))))), [none, none]) := by
  rw [r28]
  have m1 := moved_ok k C c (i, 0) (by show 0 < 1000; decide)
  have m2 := moved_ok k B b (mv C (i, 0)) (Nat.lt_trans (mv_lt _ _) (by decide))
  have m3 := moved_ok k A a (mv B (mv C (i, 0))) (Nat.lt_trans (mv_lt _ _) (by decide))
  obtain ⟨P1, hP1⟩ : ∃ P1, P1 = ptD (mv C (i, 0)) := ⟨_, rfl⟩
  obtain ⟨P2, hP2⟩ : ∃ P2, P2 = ptD (mv B (mv C (i, 0))) := ⟨_, rfl⟩
  obtain ⟨P3, hP3⟩ : ∃ P3, P3 = ptD (mv A (mv B (mv C (i, 0)))) := ⟨_, rfl⟩
  have p0 : ptD (i, 0) = .tup [.int (i : Nat), .int 0] := rfl
  rw [p0] at m1
  rw [← hP1] at m1 m2
  rw [← hP2] at m2 m3
  rw [← hP3] at m3 ⊢
  obtain ⟨DA, hDA⟩ : ∃ DA, DA = lookD A := ⟨_, rfl⟩
  obtain ⟨DB, hDB⟩ : ∃ DB, DB = lookD B := ⟨_, rfl⟩
  obtain ⟨DC, hDC⟩ : ∃ DC, DC = lookD C := ⟨_, rfl⟩
  rw [← hDA] at m3
  rw [← hDB] at m2
  rw [← hDC] at m1
  rw [← hDA, ← hDB, ← hDC]
  have hz2 : (2 : Nat) ≤ sizeLine := by decide
  have hr : inR 3 = true := inR_nat (m := 3) (by decide)
  refine run_of (sl' := [some (.val (.lst [DA, DB, DC])), some (.val (.int (i : Nat))), some (.val P3), some (.val (.int 2))]) (so' := [none, none, none, none]) (fl := .rt (.val P3)) rfl rfl ?_ rfl rfl
  refine sq_nx (sl' := [some (.val (.lst [DA, DB, DC])), some (.val (.int (i : Nat))), some (.val (.tup [.int (i : Nat), .int 0])), none]) (so' := [none, none, none, none]) (by simp -implicitDefEqProofs [runF, msOk, sl0, slS, so0, arS, arO, fins, outF, isM, callO, frzN, frz, frzs, mkArs, mkAr, liveAt, rdv, lives, endC, putFs, truD, asB, bnd_a, pur_a, lft_a, fVar_a, fC_a, f2_a, f1_a, fN_a, sq_a, bnS_a, bnT_a, sNx_a, sBk_a, sCt_a, sExp_a, sRet_a, sRetN_a, sIf_a, sSet_a, storV_a, storL_a, sSetX_a, sSetG_a, lfB_a, fTru_a, fAsB_a, fNot_a, fAnd_a, fOr_a, fNotV_a, fAndV_a, fOrV_a, fIf_a, fChain_a, fIsi_a, fNil_a, fCons_a, fCall_a, fM_a, fDct_a, fPartN_a, fPartS_a, fSl_a, fItm_a, fRng_a, sFor_a, for0_a, gNm_a, gNmC_a, fLr1_a, oSub_a, oFdiv_a, oMod_a, oPow_a, oShl_a, oShr_a, oAnd_a, oOr_a, oXor_a, oI_a, oB_a, oAdd_a, oMul_a, oEq_a, oNe_a, oIn_a, oIs_a, oIx_a, nTup_a, nLst_a, eqI, eqS, eqB, itmD, ty_ii, ty_bi, ty_tt, ty_ll, tyM, hz2]) ?_
  refine sq_nx (sl' := [some (.val (.lst [DA, DB, DC])), some (.val (.int (i : Nat))), some (.val P3), some (.val (.int 2))]) (so' := [none, none, none, none]) ?_ (by simp -implicitDefEqProofs [runF, msOk, sl0, slS, so0, arS, arO, fins, outF, isM, callO, frzN, frz, frzs, mkArs, mkAr, liveAt, rdv, lives, endC, putFs, truD, asB, bnd_a, pur_a, lft_a, fVar_a, fC_a, f2_a, f1_a, fN_a, sq_a, bnS_a, bnT_a, sNx_a, sBk_a, sCt_a, sExp_a, sRet_a, sRetN_a, sIf_a, sSet_a, storV_a, storL_a, sSetX_a, sSetG_a, lfB_a, fTru_a, fAsB_a, fNot_a, fAnd_a, fOr_a, fNotV_a, fAndV_a, fOrV_a, fIf_a, fChain_a, fIsi_a, fNil_a, fCons_a, fCall_a, fM_a, fDct_a, fPartN_a, fPartS_a, fSl_a, fItm_a, fRng_a, sFor_a, for0_a, gNm_a, gNmC_a, fLr1_a, oSub_a, oFdiv_a, oMod_a, oPow_a, oShl_a, oShr_a, oAnd_a, oOr_a, oXor_a, oI_a, oB_a, oAdd_a, oMul_a, oEq_a, oNe_a, oIn_a, oIs_a, oIx_a, nTup_a, nLst_a, eqI, eqS, eqB, itmD, ty_ii, ty_bi, ty_tt, ty_ll, tyM])
  rw [sFor_a, bnT_a]
  have er : fRng (fCons (fN nLen (fCons (fVar 0) fNil)) fNil) [some (.val (.lst [DA, DB, DC])), some (.val (.int (i : Nat))), some (.val (.tup [.int (i : Nat), .int 0])), none] [none, none, none, none] = some (.ok [.int 0, .int 1, .int 2], [none, none, none, none]) := by
    simp -implicitDefEqProofs [runF, msOk, sl0, slS, so0, arS, arO, fins, outF, isM, callO, frzN, frz, frzs, mkArs, mkAr, liveAt, rdv, lives, endC, putFs, truD, asB, bnd_a, pur_a, lft_a, fVar_a, fC_a, f2_a, f1_a, fN_a, sq_a, bnS_a, bnT_a, sNx_a, sBk_a, sCt_a, sExp_a, sRet_a, sRetN_a, sIf_a, sSet_a, storV_a, storL_a, sSetX_a, sSetG_a, lfB_a, fTru_a, fAsB_a, fNot_a, fAnd_a, fOr_a, fNotV_a, fAndV_a, fOrV_a, fIf_a, fChain_a, fIsi_a, fNil_a, fCons_a, fCall_a, fM_a, fDct_a, fPartN_a, fPartS_a, fSl_a, fItm_a, fRng_a, sFor_a, for0_a, gNm_a, gNmC_a, fLr1_a, oSub_a, oFdiv_a, oMod_a, oPow_a, oShl_a, oShr_a, oAnd_a, oOr_a, oXor_a, oI_a, oB_a, oAdd_a, oMul_a, oEq_a, oNe_a, oIn_a, oIs_a, oIx_a, nTup_a, nLst_a, eqI, eqS, eqB, itmD, ty_ii, ty_bi, ty_tt, ty_ll, tyM, nLen, hr, rngD]
    rfl
  erw [er]
  refine for1_nx (sl1 := [some (.val (.lst [DA, DB, DC])), some (.val (.int (i : Nat))), some (.val (.tup [.int (i : Nat), .int 0])), some (.val (.int 0))]) (so1 := [none, none, none, none]) (sl2 := [some (.val (.lst [DA, DB, DC])), some (.val (.int (i : Nat))), some (.val P1), some (.val (.int 0))]) (so2 := [none, none, none, none]) rfl ?_
    (for1_nx (sl1 := [some (.val (.lst [DA, DB, DC])), some (.val (.int (i : Nat))), some (.val P1), some (.val (.int 1))]) (so1 := [none, none, none, none]) (sl2 := [some (.val (.lst [DA, DB, DC])), some (.val (.int (i : Nat))), some (.val P2), some (.val (.int 1))]) (so2 := [none, none, none, none]) rfl ?_
    (for1_nx (sl1 := [some (.val (.lst [DA, DB, DC])), some (.val (.int (i : Nat))), some (.val P2), some (.val (.int 2))]) (so1 := [none, none, none, none]) (sl2 := [some (.val (.lst [DA, DB, DC])), some (.val (.int (i : Nat))), some (.val P3), some (.val (.int 2))]) (so2 := [none, none, none, none]) rfl ?_ rfl))
  · simp -implicitDefEqProofs [runF, msOk, sl0, slS, so0, arS, arO, fins, outF, isM, callO, frzN, frz, frzs, mkArs, mkAr, liveAt, rdv, lives, endC, putFs, truD, asB, bnd_a, pur_a, lft_a, fVar_a, fC_a, f2_a, f1_a, fN_a, sq_a, bnS_a, bnT_a, sNx_a, sBk_a, sCt_a, sExp_a, sRet_a, sRetN_a, sIf_a, sSet_a, storV_a, storL_a, sSetX_a, sSetG_a, lfB_a, fTru_a, fAsB_a, fNot_a, fAnd_a, fOr_a, fNotV_a, fAndV_a, fOrV_a, fIf_a, fChain_a, fIsi_a, fNil_a, fCons_a, fCall_a, fM_a, fDct_a, fPartN_a, fPartS_a, fSl_a, fItm_a, fRng_a, sFor_a, for0_a, gNm_a, gNmC_a, fLr1_a, oSub_a, oFdiv_a, oMod_a, oPow_a, oShl_a, oShr_a, oAnd_a, oOr_a, oXor_a, oI_a, oB_a, oAdd_a, oMul_a, oEq_a, oNe_a, oIn_a, oIs_a, oIx_a, nTup_a, nLst_a, eqI, eqS, eqB, itmD, ty_ii, ty_bi, ty_tt, ty_ll, tyM, nLen, at2, m1]
  · simp -implicitDefEqProofs [runF, msOk, sl0, slS, so0, arS, arO, fins, outF, isM, callO, frzN, frz, frzs, mkArs, mkAr, liveAt, rdv, lives, endC, putFs, truD, asB, bnd_a, pur_a, lft_a, fVar_a, fC_a, f2_a, f1_a, fN_a, sq_a, bnS_a, bnT_a, sNx_a, sBk_a, sCt_a, sExp_a, sRet_a, sRetN_a, sIf_a, sSet_a, storV_a, storL_a, sSetX_a, sSetG_a, lfB_a, fTru_a, fAsB_a, fNot_a, fAnd_a, fOr_a, fNotV_a, fAndV_a, fOrV_a, fIf_a, fChain_a, fIsi_a, fNil_a, fCons_a, fCall_a, fM_a, fDct_a, fPartN_a, fPartS_a, fSl_a, fItm_a, fRng_a, sFor_a, for0_a, gNm_a, gNmC_a, fLr1_a, oSub_a, oFdiv_a, oMod_a, oPow_a, oShl_a, oShr_a, oAnd_a, oOr_a, oXor_a, oI_a, oB_a, oAdd_a, oMul_a, oEq_a, oNe_a, oIn_a, oIs_a, oIx_a, nTup_a, nLst_a, eqI, eqS, eqB, itmD, ty_ii, ty_bi, ty_tt, ty_ll, tyM, nLen, at1, m2]
  · simp -implicitDefEqProofs [runF, msOk, sl0, slS, so0, arS, arO, fins, outF, isM, callO, frzN, frz, frzs, mkArs, mkAr, liveAt, rdv, lives, endC, putFs, truD, asB, bnd_a, pur_a, lft_a, fVar_a, fC_a, f2_a, f1_a, fN_a, sq_a, bnS_a, bnT_a, sNx_a, sBk_a, sCt_a, sExp_a, sRet_a, sRetN_a, sIf_a, sSet_a, storV_a, storL_a, sSetX_a, sSetG_a, lfB_a, fTru_a, fAsB_a, fNot_a, fAnd_a, fOr_a, fNotV_a, fAndV_a, fOrV_a, fIf_a, fChain_a, fIsi_a, fNil_a, fCons_a, fCall_a, fM_a, fDct_a, fPartN_a, fPartS_a, fSl_a, fItm_a, fRng_a, sFor_a, for0_a, gNm_a, gNmC_a, fLr1_a, oSub_a, oFdiv_a, oMod_a, oPow_a, oShl_a, oShr_a, oAnd_a, oOr_a, oXor_a, oI_a, oB_a, oAdd_a, oMul_a, oEq_a, oNe_a, oIn_a, oIs_a, oIx_a, nTup_a, nLst_a, eqI, eqS, eqB, itmD, ty_ii, ty_bi, ty_tt, ty_ll, tyM, nLen, at0, m3]
theorem exp_ok (k : Nat) (A B C : Lk) (a : A.Ok) (b : B.Ok) (c : C.Ok) (hab : goT A B = true) (hac : goT A C = true) (hbc : goT B C = true) : rsL ds glb (k + 4) 29 [.v (.lst [lookD A, lookD B, lookD C])] = some (.ok (.val (lookD (prod A (prod B C)))), [none]) := by
  rw [r29]
  have m1 := law_mask_ok (k + 2) A.f a.f
  have m2 := law_mask_ok (k + 2) B.f b.f
  have m3 := law_mask_ok (k + 2) C.f c.f
  have n1 := law_mask_ok (k + 2) A.t a.t
  have n2 := law_mask_ok (k + 2) B.t b.t
  have n3 := law_mask_ok (k + 2) C.t c.t
  have al := by_all_ok k 0 A B C a b c
  have goABC : goT A (prod B C) = true := go_prodR hab hac
  have okE : (prod A (prod B C)).Ok := prod_ok a (prod_ok b c)
  have eE : mv A (mv B (mv C (0, 0))) = mv (prod A (prod B C)) (0, 0) := by rw [mv_prod goABC, mv_prod hbc]
  rw [eE] at al
  obtain ⟨E, hE⟩ : ∃ E, E = prod A (prod B C) := ⟨_, rfl⟩
  have f3 : A.f ^^^ B.f ^^^ C.f = E.f := by rw [hE]; exact Nat.xor_assoc _ _ _
  have t3 : A.t ^^^ B.t ^^^ C.t = E.t := by rw [hE]; exact Nat.xor_assoc _ _ _
  rw [← hE] at al okE ⊢
  have mo : ∀ s : Nat, s < 2 → rsL ds glb (k + 3) 27 [.v (lookD ⟨s, E.f, E.t⟩), .v (ptD (0, 0))] = some (.ok (.val (ptD (mv ⟨s, E.f, E.t⟩ (0, 0)))), [none, none]) := fun s hs => moved_ok (k + 1) ⟨s, E.f, E.t⟩ ⟨hs, okE.f, okE.t⟩ (0, 0) (by show 0 < 1000; decide)
  have eq : ∀ s : Nat, s < 2 → eqD (ptD (mv ⟨s, E.f, E.t⟩ (0, 0))) (ptD (mv E (0, 0))) = some (s == E.s) := fun s hs => by
    unfold ptD
    rw [eq_tup2, mv_sign okE s hs]
    have : (mv ⟨s, E.f, E.t⟩ (0, 0)).1 = (mv E (0, 0)).1 := rfl
    rw [this]
    simp
  have l1 := law_lot_ok (k + 2) E.f okE.f
  have l2 := law_lot_ok (k + 2) E.t okE.t
  have x1 : Builtin.bitXor 0 (A.f : Int) = (A.f : Int) := by have := xor_nat 0 A.f; simpa using this
  have x2 : Builtin.bitXor 0 (A.t : Int) = (A.t : Int) := by have := xor_nat 0 A.t; simpa using this
  obtain ⟨ff2, hf2⟩ : ∃ ff2, ff2 = A.f ^^^ B.f := ⟨_, rfl⟩
  obtain ⟨tt2, ht2⟩ : ∃ tt2, tt2 = A.t ^^^ B.t := ⟨_, rfl⟩
  rw [← hf2] at f3
  rw [← ht2] at t3
  have y1 : Builtin.bitXor (A.f : Int) (B.f : Int) = (ff2 : Int) := by rw [xor_nat, hf2]
  have y2 : Builtin.bitXor (A.t : Int) (B.t : Int) = (tt2 : Int) := by rw [xor_nat, ht2]
  have z1 : Builtin.bitXor (ff2 : Int) (C.f : Int) = (E.f : Int) := by rw [xor_nat, f3]
  have z2 : Builtin.bitXor (tt2 : Int) (C.t : Int) = (E.t : Int) := by rw [xor_nat, t3]
  have hA : lookD A = .tup [.int (A.s : Nat), lotD A.f, lotD A.t] := rfl
  have hB : lookD B = .tup [.int (B.s : Nat), lotD B.f, lotD B.t] := rfl
  have hC : lookD C = .tup [.int (C.s : Nat), lotD C.f, lotD C.t] := rfl
  have hz2 : (2 : Nat) ≤ sizeLine := by decide
  have hz3 : (3 : Nat) ≤ sizeLine := by decide
  have p0 : ptD (0, 0) = .tup [.int 0, .int 0] := rfl
  rw [p0] at mo
  obtain ⟨LS, hLS⟩ : ∃ LS, LS = D.lst [lookD A, lookD B, lookD C] := ⟨_, rfl⟩
  rw [← hLS] at al ⊢
  obtain ⟨PE, hPE⟩ : ∃ PE, PE = ptD (mv E (0, 0)) := ⟨_, rfl⟩
  rw [← hPE] at al
  have al : rsL ds glb (k + 3) 28 [.v LS, .v (.int 0)] = some (.ok (.val PE), [none, none]) := al
  have lk : ∀ s : Nat, lookD ⟨s, E.f, E.t⟩ = .tup [.int (s : Nat), lotD E.f, lotD E.t] := fun s => rfl
  have fin : ∃ (x3 x4 : Option DV), forD (gNm 4) (sq (sSet 3 (fN nTup (fCons (fVar 4) (fCons (fCall (rsL ds glb (k + 3) 19) [false] false (fCons (fVar 1) fNil)) (fCons (fCall (rsL ds glb (k + 3) 19) [false] false (fCons (fVar 2) fNil)) fNil))))) (sq (sIf (fAsB (f2 oEq (fCall (rsL ds glb (k + 3) 27) [false, false] false (fCons (fVar 3) (fCons (fN nTup (fCons (fC (.int 0)) (fCons (fC (.int 0)) fNil))) fNil))) (fCall (rsL ds glb (k + 3) 28) [false, false] false (fCons (fVar 0) (fCons (fC (.int 0)) fNil))))) (sq (sRet (fVar 3)) sNx) sNx) sNx)) [.int 0, .int 1]
      [some (.val LS), some (.val (.int (E.f : Nat))), some (.val (.int (E.t : Nat))), some (.val (lookD C)), none] [none, none, none, none, none] = some (.rt (.val (lookD E)), [some (.val LS), some (.val (.int (E.f : Nat))), some (.val (.int (E.t : Nat))), x3, x4], [none, none, none, none, none]) := by
    obtain ⟨P0, hP0⟩ : ∃ P0, P0 = ptD (mv ⟨0, E.f, E.t⟩ (0, 0)) := ⟨_, rfl⟩
    obtain ⟨P1, hP1⟩ : ∃ P1, P1 = ptD (mv ⟨1, E.f, E.t⟩ (0, 0)) := ⟨_, rfl⟩
    have mo0 := mo 0 (by decide)
    have mo1 := mo 1 (by decide)
    have eq0 := eq 0 (by decide)
    have eq1 := eq 1 (by decide)
    rw [← hP0] at mo0 eq0
    rw [← hP1] at mo1 eq1
    rw [← hPE] at eq0 eq1
    obtain ⟨L0, hL0⟩ : ∃ L0, L0 = lookD ⟨0, E.f, E.t⟩ := ⟨_, rfl⟩
    obtain ⟨L1, hL1⟩ : ∃ L1, L1 = lookD ⟨1, E.f, E.t⟩ := ⟨_, rfl⟩
    rw [← hL0] at mo0
    rw [← hL1] at mo1
    have b0 : sSet 3 (fN nTup (fCons (fVar 4) (fCons (fCall (rsL ds glb (k + 3) 19) [false] false (fCons (fVar 1) fNil)) (fCons (fCall (rsL ds glb (k + 3) 19) [false] false (fCons (fVar 2) fNil)) fNil)))) [some (.val LS), some (.val (.int (E.f : Nat))), some (.val (.int (E.t : Nat))), some (.val (lookD C)), some (.val (.int 0))] [none, none, none, none, none] = some (.nx, [some (.val LS), some (.val (.int (E.f : Nat))), some (.val (.int (E.t : Nat))), some (.val L0), some (.val (.int 0))], [none, none, none, none, none]) := by
      rw [hL0, lk 0]
      simp -implicitDefEqProofs [runF, msOk, sl0, slS, so0, arS, arO, fins, outF, isM, callO, frzN, frz, frzs, mkArs, mkAr, liveAt, rdv, lives, endC, putFs, truD, asB, bnd_a, pur_a, lft_a, fVar_a, fC_a, f2_a, f1_a, fN_a, sq_a, bnS_a, bnT_a, sNx_a, sBk_a, sCt_a, sExp_a, sRet_a, sRetN_a, sIf_a, sSet_a, storV_a, storL_a, sSetX_a, sSetG_a, lfB_a, fTru_a, fAsB_a, fNot_a, fAnd_a, fOr_a, fNotV_a, fAndV_a, fOrV_a, fIf_a, fChain_a, fIsi_a, fNil_a, fCons_a, fCall_a, fM_a, fDct_a, fPartN_a, fPartS_a, fSl_a, fItm_a, fRng_a, sFor_a, for0_a, gNm_a, gNmC_a, fLr1_a, oSub_a, oFdiv_a, oMod_a, oPow_a, oShl_a, oShr_a, oAnd_a, oOr_a, oXor_a, oI_a, oB_a, oAdd_a, oMul_a, oEq_a, oNe_a, oIn_a, oIs_a, oIx_a, nTup_a, nLst_a, eqI, eqS, eqB, itmD, ty_ii, ty_bi, ty_tt, ty_ll, tyM, l1, l2, hz3]
    by_cases hs : E.s = 0
    · have q0 : lookD E = L0 := by rw [hL0, ← hs]
      have e0 : ((0 : Nat) == E.s) = true := by rw [hs]; rfl
      rw [e0] at eq0
      rw [q0]
      refine ⟨some (.val L0), some (.val (.int 0)), ?_⟩
      rw [for1_a, gNm_a]
      show (match sq _ _ [some (.val LS), some (.val (.int (E.f : Nat))), some (.val (.int (E.t : Nat))), some (.val (lookD C)), some (.val (.int 0))] [none, none, none, none, none] with | some (.nx, sl2, so2) => _ | some (.ct, sl2, so2) => _ | some (.bk, sl2, so2) => _ | r => r) = _
      rw [sq_nx b0 rfl]
      simp -implicitDefEqProofs [runF, msOk, sl0, slS, so0, arS, arO, fins, outF, isM, callO, frzN, frz, frzs, mkArs, mkAr, liveAt, rdv, lives, endC, putFs, truD, asB, bnd_a, pur_a, lft_a, fVar_a, fC_a, f2_a, f1_a, fN_a, sq_a, bnS_a, bnT_a, sNx_a, sBk_a, sCt_a, sExp_a, sRet_a, sRetN_a, sIf_a, sSet_a, storV_a, storL_a, sSetX_a, sSetG_a, lfB_a, fTru_a, fAsB_a, fNot_a, fAnd_a, fOr_a, fNotV_a, fAndV_a, fOrV_a, fIf_a, fChain_a, fIsi_a, fNil_a, fCons_a, fCall_a, fM_a, fDct_a, fPartN_a, fPartS_a, fSl_a, fItm_a, fRng_a, sFor_a, for0_a, gNm_a, gNmC_a, fLr1_a, oSub_a, oFdiv_a, oMod_a, oPow_a, oShl_a, oShr_a, oAnd_a, oOr_a, oXor_a, oI_a, oB_a, oAdd_a, oMul_a, oEq_a, oNe_a, oIn_a, oIs_a, oIx_a, nTup_a, nLst_a, eqI, eqS, eqB, itmD, ty_ii, ty_bi, ty_tt, ty_ll, tyM, mo0, al, eq0, hz2]
    · have hs1 : E.s = 1 := by have := okE.s; omega
      have q0 : lookD E = L1 := by rw [hL1, ← hs1]
      have e0 : ((0 : Nat) == E.s) = false := by rw [hs1]; rfl
      have e1 : ((1 : Nat) == E.s) = true := by rw [hs1]; rfl
      rw [e0] at eq0
      rw [e1] at eq1
      rw [q0]
      have b1 : sSet 3 (fN nTup (fCons (fVar 4) (fCons (fCall (rsL ds glb (k + 3) 19) [false] false (fCons (fVar 1) fNil)) (fCons (fCall (rsL ds glb (k + 3) 19) [false] false (fCons (fVar 2) fNil)) fNil)))) [some (.val LS), some (.val (.int (E.f : Nat))), some (.val (.int (E.t : Nat))), some (.val L0), some (.val (.int 1))] [none, none, none, none, none] = some (.nx, [some (.val LS), some (.val (.int (E.f : Nat))), some (.val (.int (E.t : Nat))), some (.val L1), some (.val (.int 1))], [none, none, none, none, none]) := by
        rw [hL1, lk 1]
        simp -implicitDefEqProofs [runF, msOk, sl0, slS, so0, arS, arO, fins, outF, isM, callO, frzN, frz, frzs, mkArs, mkAr, liveAt, rdv, lives, endC, putFs, truD, asB, bnd_a, pur_a, lft_a, fVar_a, fC_a, f2_a, f1_a, fN_a, sq_a, bnS_a, bnT_a, sNx_a, sBk_a, sCt_a, sExp_a, sRet_a, sRetN_a, sIf_a, sSet_a, storV_a, storL_a, sSetX_a, sSetG_a, lfB_a, fTru_a, fAsB_a, fNot_a, fAnd_a, fOr_a, fNotV_a, fAndV_a, fOrV_a, fIf_a, fChain_a, fIsi_a, fNil_a, fCons_a, fCall_a, fM_a, fDct_a, fPartN_a, fPartS_a, fSl_a, fItm_a, fRng_a, sFor_a, for0_a, gNm_a, gNmC_a, fLr1_a, oSub_a, oFdiv_a, oMod_a, oPow_a, oShl_a, oShr_a, oAnd_a, oOr_a, oXor_a, oI_a, oB_a, oAdd_a, oMul_a, oEq_a, oNe_a, oIn_a, oIs_a, oIx_a, nTup_a, nLst_a, eqI, eqS, eqB, itmD, ty_ii, ty_bi, ty_tt, ty_ll, tyM, l1, l2, hz3]
      refine ⟨some (.val L1), some (.val (.int 1)), ?_⟩
      refine for1_nx (sl1 := [some (.val LS), some (.val (.int (E.f : Nat))), some (.val (.int (E.t : Nat))), some (.val (lookD C)), some (.val (.int 0))]) (so1 := [none, none, none, none, none]) (sl2 := [some (.val LS), some (.val (.int (E.f : Nat))), some (.val (.int (E.t : Nat))), some (.val L0), some (.val (.int 0))]) (so2 := [none, none, none, none, none]) rfl (sq_nx b0 ?_) ?_
      · simp -implicitDefEqProofs [runF, msOk, sl0, slS, so0, arS, arO, fins, outF, isM, callO, frzN, frz, frzs, mkArs, mkAr, liveAt, rdv, lives, endC, putFs, truD, asB, bnd_a, pur_a, lft_a, fVar_a, fC_a, f2_a, f1_a, fN_a, sq_a, bnS_a, bnT_a, sNx_a, sBk_a, sCt_a, sExp_a, sRet_a, sRetN_a, sIf_a, sSet_a, storV_a, storL_a, sSetX_a, sSetG_a, lfB_a, fTru_a, fAsB_a, fNot_a, fAnd_a, fOr_a, fNotV_a, fAndV_a, fOrV_a, fIf_a, fChain_a, fIsi_a, fNil_a, fCons_a, fCall_a, fM_a, fDct_a, fPartN_a, fPartS_a, fSl_a, fItm_a, fRng_a, sFor_a, for0_a, gNm_a, gNmC_a, fLr1_a, oSub_a, oFdiv_a, oMod_a, oPow_a, oShl_a, oShr_a, oAnd_a, oOr_a, oXor_a, oI_a, oB_a, oAdd_a, oMul_a, oEq_a, oNe_a, oIn_a, oIs_a, oIx_a, nTup_a, nLst_a, eqI, eqS, eqB, itmD, ty_ii, ty_bi, ty_tt, ty_ll, tyM, mo0, al, eq0, hz2]
      · rw [for1_a, gNm_a]
        show (match sq _ _ [some (.val LS), some (.val (.int (E.f : Nat))), some (.val (.int (E.t : Nat))), some (.val L0), some (.val (.int 1))] [none, none, none, none, none] with | some (.nx, sl2, so2) => _ | some (.ct, sl2, so2) => _ | some (.bk, sl2, so2) => _ | r => r) = _
        rw [sq_nx b1 rfl]
        simp -implicitDefEqProofs [runF, msOk, sl0, slS, so0, arS, arO, fins, outF, isM, callO, frzN, frz, frzs, mkArs, mkAr, liveAt, rdv, lives, endC, putFs, truD, asB, bnd_a, pur_a, lft_a, fVar_a, fC_a, f2_a, f1_a, fN_a, sq_a, bnS_a, bnT_a, sNx_a, sBk_a, sCt_a, sExp_a, sRet_a, sRetN_a, sIf_a, sSet_a, storV_a, storL_a, sSetX_a, sSetG_a, lfB_a, fTru_a, fAsB_a, fNot_a, fAnd_a, fOr_a, fNotV_a, fAndV_a, fOrV_a, fIf_a, fChain_a, fIsi_a, fNil_a, fCons_a, fCall_a, fM_a, fDct_a, fPartN_a, fPartS_a, fSl_a, fItm_a, fRng_a, sFor_a, for0_a, gNm_a, gNmC_a, fLr1_a, oSub_a, oFdiv_a, oMod_a, oPow_a, oShl_a, oShr_a, oAnd_a, oOr_a, oXor_a, oI_a, oB_a, oAdd_a, oMul_a, oEq_a, oNe_a, oIn_a, oIs_a, oIx_a, nTup_a, nLst_a, eqI, eqS, eqB, itmD, ty_ii, ty_bi, ty_tt, ty_ll, tyM, mo1, al, eq1, hz2]
  obtain ⟨x3, x4, fin⟩ := fin
  refine run_of (sl' := [some (.val LS), some (.val (.int (E.f : Nat))), some (.val (.int (E.t : Nat))), x3, x4]) (so' := [none, none, none, none, none]) (fl := .rt (.val (lookD E))) rfl rfl ?_ rfl rfl
  refine sq_nx (sl' := [some (.val LS), some (.val (.int 0)), none, none, none]) (so' := [none, none, none, none, none]) (by simp -implicitDefEqProofs [runF, msOk, sl0, slS, so0, arS, arO, fins, outF, isM, callO, frzN, frz, frzs, mkArs, mkAr, liveAt, rdv, lives, endC, putFs, truD, asB, bnd_a, pur_a, lft_a, fVar_a, fC_a, f2_a, f1_a, fN_a, sq_a, bnS_a, bnT_a, sNx_a, sBk_a, sCt_a, sExp_a, sRet_a, sRetN_a, sIf_a, sSet_a, storV_a, storL_a, sSetX_a, sSetG_a, lfB_a, fTru_a, fAsB_a, fNot_a, fAnd_a, fOr_a, fNotV_a, fAndV_a, fOrV_a, fIf_a, fChain_a, fIsi_a, fNil_a, fCons_a, fCall_a, fM_a, fDct_a, fPartN_a, fPartS_a, fSl_a, fItm_a, fRng_a, sFor_a, for0_a, gNm_a, gNmC_a, fLr1_a, oSub_a, oFdiv_a, oMod_a, oPow_a, oShl_a, oShr_a, oAnd_a, oOr_a, oXor_a, oI_a, oB_a, oAdd_a, oMul_a, oEq_a, oNe_a, oIn_a, oIs_a, oIx_a, nTup_a, nLst_a, eqI, eqS, eqB, itmD, ty_ii, ty_bi, ty_tt, ty_ll, tyM]) ?_
  refine sq_nx (sl' := [some (.val LS), some (.val (.int 0)), some (.val (.int 0)), none, none]) (so' := [none, none, none, none, none]) (by simp -implicitDefEqProofs [runF, msOk, sl0, slS, so0, arS, arO, fins, outF, isM, callO, frzN, frz, frzs, mkArs, mkAr, liveAt, rdv, lives, endC, putFs, truD, asB, bnd_a, pur_a, lft_a, fVar_a, fC_a, f2_a, f1_a, fN_a, sq_a, bnS_a, bnT_a, sNx_a, sBk_a, sCt_a, sExp_a, sRet_a, sRetN_a, sIf_a, sSet_a, storV_a, storL_a, sSetX_a, sSetG_a, lfB_a, fTru_a, fAsB_a, fNot_a, fAnd_a, fOr_a, fNotV_a, fAndV_a, fOrV_a, fIf_a, fChain_a, fIsi_a, fNil_a, fCons_a, fCall_a, fM_a, fDct_a, fPartN_a, fPartS_a, fSl_a, fItm_a, fRng_a, sFor_a, for0_a, gNm_a, gNmC_a, fLr1_a, oSub_a, oFdiv_a, oMod_a, oPow_a, oShl_a, oShr_a, oAnd_a, oOr_a, oXor_a, oI_a, oB_a, oAdd_a, oMul_a, oEq_a, oNe_a, oIn_a, oIs_a, oIx_a, nTup_a, nLst_a, eqI, eqS, eqB, itmD, ty_ii, ty_bi, ty_tt, ty_ll, tyM]) ?_
  refine sq_nx (sl' := [some (.val LS), some (.val (.int (E.f : Nat))), some (.val (.int (E.t : Nat))), some (.val (lookD C)), none]) (so' := [none, none, none, none, none]) ?_ ?_
  · rw [sFor_a, bnT_a]
    have er : fItm (fVar 0) [some (.val LS), some (.val (.int 0)), some (.val (.int 0)), none, none] [none, none, none, none, none] = some (.ok [lookD A, lookD B, lookD C], [none, none, none, none, none]) := by
      simp -implicitDefEqProofs [runF, msOk, sl0, slS, so0, arS, arO, fins, outF, isM, callO, frzN, frz, frzs, mkArs, mkAr, liveAt, rdv, lives, endC, putFs, truD, asB, bnd_a, pur_a, lft_a, fVar_a, fC_a, f2_a, f1_a, fN_a, sq_a, bnS_a, bnT_a, sNx_a, sBk_a, sCt_a, sExp_a, sRet_a, sRetN_a, sIf_a, sSet_a, storV_a, storL_a, sSetX_a, sSetG_a, lfB_a, fTru_a, fAsB_a, fNot_a, fAnd_a, fOr_a, fNotV_a, fAndV_a, fOrV_a, fIf_a, fChain_a, fIsi_a, fNil_a, fCons_a, fCall_a, fM_a, fDct_a, fPartN_a, fPartS_a, fSl_a, fItm_a, fRng_a, sFor_a, for0_a, gNm_a, gNmC_a, fLr1_a, oSub_a, oFdiv_a, oMod_a, oPow_a, oShl_a, oShr_a, oAnd_a, oOr_a, oXor_a, oI_a, oB_a, oAdd_a, oMul_a, oEq_a, oNe_a, oIn_a, oIs_a, oIx_a, nTup_a, nLst_a, eqI, eqS, eqB, itmD, ty_ii, ty_bi, ty_tt, ty_ll, tyM, hLS]
    erw [er]
    refine for1_nx (sl1 := [some (.val LS), some (.val (.int 0)), some (.val (.int 0)), some (.val (lookD A)), none]) (so1 := [none, none, none, none, none]) (sl2 := [some (.val LS), some (.val (.int (A.f : Nat))), some (.val (.int (A.t : Nat))), some (.val (lookD A)), none]) (so2 := [none, none, none, none, none]) rfl ?_
      (for1_nx (sl1 := [some (.val LS), some (.val (.int (A.f : Nat))), some (.val (.int (A.t : Nat))), some (.val (lookD B)), none]) (so1 := [none, none, none, none, none]) (sl2 := [some (.val LS), some (.val (.int (ff2 : Nat))), some (.val (.int (tt2 : Nat))), some (.val (lookD B)), none]) (so2 := [none, none, none, none, none]) rfl ?_
      (for1_nx (sl1 := [some (.val LS), some (.val (.int (ff2 : Nat))), some (.val (.int (tt2 : Nat))), some (.val (lookD C)), none]) (so1 := [none, none, none, none, none]) (sl2 := [some (.val LS), some (.val (.int (E.f : Nat))), some (.val (.int (E.t : Nat))), some (.val (lookD C)), none]) (so2 := [none, none, none, none, none]) rfl ?_ rfl))
    · simp -implicitDefEqProofs [runF, msOk, sl0, slS, so0, arS, arO, fins, outF, isM, callO, frzN, frz, frzs, mkArs, mkAr, liveAt, rdv, lives, endC, putFs, truD, asB, bnd_a, pur_a, lft_a, fVar_a, fC_a, f2_a, f1_a, fN_a, sq_a, bnS_a, bnT_a, sNx_a, sBk_a, sCt_a, sExp_a, sRet_a, sRetN_a, sIf_a, sSet_a, storV_a, storL_a, sSetX_a, sSetG_a, lfB_a, fTru_a, fAsB_a, fNot_a, fAnd_a, fOr_a, fNotV_a, fAndV_a, fOrV_a, fIf_a, fChain_a, fIsi_a, fNil_a, fCons_a, fCall_a, fM_a, fDct_a, fPartN_a, fPartS_a, fSl_a, fItm_a, fRng_a, sFor_a, for0_a, gNm_a, gNmC_a, fLr1_a, oSub_a, oFdiv_a, oMod_a, oPow_a, oShl_a, oShr_a, oAnd_a, oOr_a, oXor_a, oI_a, oB_a, oAdd_a, oMul_a, oEq_a, oNe_a, oIn_a, oIs_a, oIx_a, nTup_a, nLst_a, eqI, eqS, eqB, itmD, ty_ii, ty_bi, ty_tt, ty_ll, tyM, hA, at1, at2, m1, n1, x1, x2]
    · simp -implicitDefEqProofs [runF, msOk, sl0, slS, so0, arS, arO, fins, outF, isM, callO, frzN, frz, frzs, mkArs, mkAr, liveAt, rdv, lives, endC, putFs, truD, asB, bnd_a, pur_a, lft_a, fVar_a, fC_a, f2_a, f1_a, fN_a, sq_a, bnS_a, bnT_a, sNx_a, sBk_a, sCt_a, sExp_a, sRet_a, sRetN_a, sIf_a, sSet_a, storV_a, storL_a, sSetX_a, sSetG_a, lfB_a, fTru_a, fAsB_a, fNot_a, fAnd_a, fOr_a, fNotV_a, fAndV_a, fOrV_a, fIf_a, fChain_a, fIsi_a, fNil_a, fCons_a, fCall_a, fM_a, fDct_a, fPartN_a, fPartS_a, fSl_a, fItm_a, fRng_a, sFor_a, for0_a, gNm_a, gNmC_a, fLr1_a, oSub_a, oFdiv_a, oMod_a, oPow_a, oShl_a, oShr_a, oAnd_a, oOr_a, oXor_a, oI_a, oB_a, oAdd_a, oMul_a, oEq_a, oNe_a, oIn_a, oIs_a, oIx_a, nTup_a, nLst_a, eqI, eqS, eqB, itmD, ty_ii, ty_bi, ty_tt, ty_ll, tyM, hB, at1, at2, m2, n2, y1, y2]
    · simp -implicitDefEqProofs [runF, msOk, sl0, slS, so0, arS, arO, fins, outF, isM, callO, frzN, frz, frzs, mkArs, mkAr, liveAt, rdv, lives, endC, putFs, truD, asB, bnd_a, pur_a, lft_a, fVar_a, fC_a, f2_a, f1_a, fN_a, sq_a, bnS_a, bnT_a, sNx_a, sBk_a, sCt_a, sExp_a, sRet_a, sRetN_a, sIf_a, sSet_a, storV_a, storL_a, sSetX_a, sSetG_a, lfB_a, fTru_a, fAsB_a, fNot_a, fAnd_a, fOr_a, fNotV_a, fAndV_a, fOrV_a, fIf_a, fChain_a, fIsi_a, fNil_a, fCons_a, fCall_a, fM_a, fDct_a, fPartN_a, fPartS_a, fSl_a, fItm_a, fRng_a, sFor_a, for0_a, gNm_a, gNmC_a, fLr1_a, oSub_a, oFdiv_a, oMod_a, oPow_a, oShl_a, oShr_a, oAnd_a, oOr_a, oXor_a, oI_a, oB_a, oAdd_a, oMul_a, oEq_a, oNe_a, oIn_a, oIs_a, oIx_a, nTup_a, nLst_a, eqI, eqS, eqB, itmD, ty_ii, ty_bi, ty_tt, ty_ll, tyM, hC, at1, at2, m3, n3, z1, z2]
  refine sq_rt (sl' := [some (.val LS), some (.val (.int (E.f : Nat))), some (.val (.int (E.t : Nat))), x3, x4]) (so' := [none, none, none, none, none]) ?_ rfl
  rw [sFor_a, bnT_a]
  erw [rng_c _ _ 2 (by decide)]
  exact fin
end K63
end

section
set_option maxRecDepth 100000
namespace K63
open PySem L2 PySem.Spec BT LK
theorem ord_body (k : Nat) (LS : D) (E X Y Z : Lk) (x : X.Ok) (y : Y.Ok) (z : Z.Ok) (e : E.Ok) (hxy : goT X Y = true) (hxz : goT X Z = true) (hyz : goT Y Z = true) (h1 : prod (prod X Y) Z = E) (h2 : prod X (prod Y Z) = E) (i j l : Int)
    (ix : ∀ so : Store, oIx (.val LS) (.val (.int i)) so = some (.val (lookD X), so)) (iy : ∀ so : Store, oIx (.val LS) (.val (.int j)) so = some (.val (lookD Y), so)) (iz : ∀ so : Store, oIx (.val LS) (.val (.int l)) so = some (.val (lookD Z), so)) (x3 x4 x5 : Option DV) :
    (sq (sSet 3 (f2 oIx (fVar 0) (f2 oIx (fVar 2) (fC (.int 0))))) (sq (sSet 4 (f2 oIx (fVar 0) (f2 oIx (fVar 2) (fC (.int 1))))) (sq (sSet 5 (f2 oIx (fVar 0) (f2 oIx (fVar 2) (fC (.int 2))))) (sq (sIf (fAsB (f2 oNe (fN nRepr (fCons (fCall (rsL ds glb (k + 6) 15) [false, false] false (fCons (fCall (rsL ds glb (k + 6) 15) [false, false] false (fCons (fVar 3) (fCons (fVar 4) fNil))) (fCons (fVar 5) fNil))) fNil)) (fN nRepr (fCons (fVar 1) fNil)))) (sq (sRet (fC (.bl false))) sNx) sNx) (sq (sIf (fAsB (f2 oNe (fN nRepr (fCons (fCall (rsL ds glb (k + 6) 15) [false, false] false (fCons (fVar 3) (fCons (fCall (rsL ds glb (k + 6) 15) [false, false] false (fCons (fVar 4) (fCons (fVar 5) fNil))) fNil))) fNil)) (fN nRepr (fCons (fVar 1) fNil)))) (sq (sRet (fC (.bl false))) sNx) sNx) sNx))))) [some (.val LS), some (.val (lookD E)), some (.val (.tup [.int i, .int j, .int l])), x3, x4, x5] [none, none, none, none, none, none] = some (.nx, [some (.val LS), some (.val (lookD E)), some (.val (.tup [.int i, .int j, .int l])), some (.val (lookD X)), some (.val (lookD Y)), some (.val (lookD Z))], [none, none, none, none, none, none]) := by
  have t1 := times_ok k X Y x y hxy
  have t2 := times_ok k (prod X Y) Z (prod_ok x y) z (go_prodL hxz hyz)
  have t3 := times_ok k Y Z y z hyz
  have t4 := times_ok k X (prod Y Z) x (prod_ok y z) (go_prodR hxy hxz)
  rw [h1] at t2
  rw [h2] at t4
  obtain ⟨s, hs⟩ := repr_look E e
  obtain ⟨O, hO⟩ : ∃ O : D, O = (.tup [.int i, .int j, .int l]) := ⟨_, rfl⟩
  have q0 : ∀ so : Store, oIx (.val O) (.val (.int 0)) so = some (.val (.int i), so) := fun so => by rw [hO]; simp [oIx_a, rdv, at0]
  have q1 : ∀ so : Store, oIx (.val O) (.val (.int 1)) so = some (.val (.int j), so) := fun so => by rw [hO]; simp [oIx_a, rdv, at1]
  have q2 : ∀ so : Store, oIx (.val O) (.val (.int 2)) so = some (.val (.int l), so) := fun so => by rw [hO]; simp [oIx_a, rdv, at2]
  obtain ⟨DX, hDX⟩ : ∃ DX, DX = lookD X := ⟨_, rfl⟩
  obtain ⟨DY, hDY⟩ : ∃ DY, DY = lookD Y := ⟨_, rfl⟩
  obtain ⟨DZ, hDZ⟩ : ∃ DZ, DZ = lookD Z := ⟨_, rfl⟩
  obtain ⟨DE, hDE⟩ : ∃ DE, DE = lookD E := ⟨_, rfl⟩
  obtain ⟨P1, hP1⟩ : ∃ P1, P1 = lookD (prod X Y) := ⟨_, rfl⟩
  obtain ⟨P2, hP2⟩ : ∃ P2, P2 = lookD (prod Y Z) := ⟨_, rfl⟩
  rw [← hDX, ← hDY, ← hP1] at t1
  rw [← hP1, ← hDZ, ← hDE] at t2
  rw [← hDY, ← hDZ, ← hP2] at t3
  rw [← hDX, ← hP2, ← hDE] at t4
  rw [← hDX] at ix
  rw [← hDY] at iy
  rw [← hDZ] at iz
  rw [← hDE] at hs
  rw [← hO, ← hDX, ← hDY, ← hDZ, ← hDE]
  refine sq_nx (sl' := [some (.val LS), some (.val DE), some (.val O), some (.val DX), x4, x5]) (so' := [none, none, none, none, none, none]) (by simp -implicitDefEqProofs [runF, msOk, sl0, slS, so0, arS, arO, fins, outF, isM, callO, frzN, frz, frzs, mkArs, mkAr, liveAt, rdv, lives, endC, putFs, truD, asB, bnd_a, pur_a, lft_a, fVar_a, fC_a, f2_a, f1_a, fN_a, sq_a, bnS_a, bnT_a, sNx_a, sBk_a, sCt_a, sExp_a, sRet_a, sRetN_a, sIf_a, sSet_a, storV_a, storL_a, sSetX_a, sSetG_a, lfB_a, fTru_a, fAsB_a, fNot_a, fAnd_a, fOr_a, fNotV_a, fAndV_a, fOrV_a, fIf_a, fChain_a, fIsi_a, fNil_a, fCons_a, fCall_a, fM_a, fDct_a, fPartN_a, fPartS_a, fSl_a, fItm_a, fRng_a, sFor_a, for0_a, gNm_a, gNmC_a, fLr1_a, oSub_a, oFdiv_a, oMod_a, oPow_a, oShl_a, oShr_a, oAnd_a, oOr_a, oXor_a, oI_a, oB_a, oAdd_a, oMul_a, oEq_a, oNe_a, oIn_a, oIs_a, nTup_a, nLst_a, eqI, eqS, eqB, itmD, ty_ii, ty_bi, ty_tt, ty_ll, tyM, q0, ix]) ?_
  refine sq_nx (sl' := [some (.val LS), some (.val DE), some (.val O), some (.val DX), some (.val DY), x5]) (so' := [none, none, none, none, none, none]) (by simp -implicitDefEqProofs [runF, msOk, sl0, slS, so0, arS, arO, fins, outF, isM, callO, frzN, frz, frzs, mkArs, mkAr, liveAt, rdv, lives, endC, putFs, truD, asB, bnd_a, pur_a, lft_a, fVar_a, fC_a, f2_a, f1_a, fN_a, sq_a, bnS_a, bnT_a, sNx_a, sBk_a, sCt_a, sExp_a, sRet_a, sRetN_a, sIf_a, sSet_a, storV_a, storL_a, sSetX_a, sSetG_a, lfB_a, fTru_a, fAsB_a, fNot_a, fAnd_a, fOr_a, fNotV_a, fAndV_a, fOrV_a, fIf_a, fChain_a, fIsi_a, fNil_a, fCons_a, fCall_a, fM_a, fDct_a, fPartN_a, fPartS_a, fSl_a, fItm_a, fRng_a, sFor_a, for0_a, gNm_a, gNmC_a, fLr1_a, oSub_a, oFdiv_a, oMod_a, oPow_a, oShl_a, oShr_a, oAnd_a, oOr_a, oXor_a, oI_a, oB_a, oAdd_a, oMul_a, oEq_a, oNe_a, oIn_a, oIs_a, nTup_a, nLst_a, eqI, eqS, eqB, itmD, ty_ii, ty_bi, ty_tt, ty_ll, tyM, q1, iy]) ?_
  refine sq_nx (sl' := [some (.val LS), some (.val DE), some (.val O), some (.val DX), some (.val DY), some (.val DZ)]) (so' := [none, none, none, none, none, none]) (by simp -implicitDefEqProofs [runF, msOk, sl0, slS, so0, arS, arO, fins, outF, isM, callO, frzN, frz, frzs, mkArs, mkAr, liveAt, rdv, lives, endC, putFs, truD, asB, bnd_a, pur_a, lft_a, fVar_a, fC_a, f2_a, f1_a, fN_a, sq_a, bnS_a, bnT_a, sNx_a, sBk_a, sCt_a, sExp_a, sRet_a, sRetN_a, sIf_a, sSet_a, storV_a, storL_a, sSetX_a, sSetG_a, lfB_a, fTru_a, fAsB_a, fNot_a, fAnd_a, fOr_a, fNotV_a, fAndV_a, fOrV_a, fIf_a, fChain_a, fIsi_a, fNil_a, fCons_a, fCall_a, fM_a, fDct_a, fPartN_a, fPartS_a, fSl_a, fItm_a, fRng_a, sFor_a, for0_a, gNm_a, gNmC_a, fLr1_a, oSub_a, oFdiv_a, oMod_a, oPow_a, oShl_a, oShr_a, oAnd_a, oOr_a, oXor_a, oI_a, oB_a, oAdd_a, oMul_a, oEq_a, oNe_a, oIn_a, oIs_a, nTup_a, nLst_a, eqI, eqS, eqB, itmD, ty_ii, ty_bi, ty_tt, ty_ll, tyM, q2, iz]) ?_
  refine sq_nx (sl' := [some (.val LS), some (.val DE), some (.val O), some (.val DX), some (.val DY), some (.val DZ)]) (so' := [none, none, none, none, none, none]) (by simp -implicitDefEqProofs [runF, msOk, sl0, slS, so0, arS, arO, fins, outF, isM, callO, frzN, frz, frzs, mkArs, mkAr, liveAt, rdv, lives, endC, putFs, truD, asB, bnd_a, pur_a, lft_a, fVar_a, fC_a, f2_a, f1_a, fN_a, sq_a, bnS_a, bnT_a, sNx_a, sBk_a, sCt_a, sExp_a, sRet_a, sRetN_a, sIf_a, sSet_a, storV_a, storL_a, sSetX_a, sSetG_a, lfB_a, fTru_a, fAsB_a, fNot_a, fAnd_a, fOr_a, fNotV_a, fAndV_a, fOrV_a, fIf_a, fChain_a, fIsi_a, fNil_a, fCons_a, fCall_a, fM_a, fDct_a, fPartN_a, fPartS_a, fSl_a, fItm_a, fRng_a, sFor_a, for0_a, gNm_a, gNmC_a, fLr1_a, oSub_a, oFdiv_a, oMod_a, oPow_a, oShl_a, oShr_a, oAnd_a, oOr_a, oXor_a, oI_a, oB_a, oAdd_a, oMul_a, oEq_a, oNe_a, oIn_a, oIs_a, oIx_a, nTup_a, nLst_a, eqI, eqS, eqB, itmD, ty_ii, ty_bi, ty_tt, ty_ll, tyM, t1, t2, nRepr, hs]) ?_
  refine sq_nx (sl' := [some (.val LS), some (.val DE), some (.val O), some (.val DX), some (.val DY), some (.val DZ)]) (so' := [none, none, none, none, none, none]) (by simp -implicitDefEqProofs [runF, msOk, sl0, slS, so0, arS, arO, fins, outF, isM, callO, frzN, frz, frzs, mkArs, mkAr, liveAt, rdv, lives, endC, putFs, truD, asB, bnd_a, pur_a, lft_a, fVar_a, fC_a, f2_a, f1_a, fN_a, sq_a, bnS_a, bnT_a, sNx_a, sBk_a, sCt_a, sExp_a, sRet_a, sRetN_a, sIf_a, sSet_a, storV_a, storL_a, sSetX_a, sSetG_a, lfB_a, fTru_a, fAsB_a, fNot_a, fAnd_a, fOr_a, fNotV_a, fAndV_a, fOrV_a, fIf_a, fChain_a, fIsi_a, fNil_a, fCons_a, fCall_a, fM_a, fDct_a, fPartN_a, fPartS_a, fSl_a, fItm_a, fRng_a, sFor_a, for0_a, gNm_a, gNmC_a, fLr1_a, oSub_a, oFdiv_a, oMod_a, oPow_a, oShl_a, oShr_a, oAnd_a, oOr_a, oXor_a, oI_a, oB_a, oAdd_a, oMul_a, oEq_a, oNe_a, oIn_a, oIs_a, oIx_a, nTup_a, nLst_a, eqI, eqS, eqB, itmD, ty_ii, ty_bi, ty_tt, ty_ll, tyM, t3, t4, nRepr, hs]) rfl
theorem ord_ok (k : Nat) (A B C E : Lk) (a : A.Ok) (b : B.Ok) (c : C.Ok) (hab : goT A B = true) (hac : goT A C = true) (hbc : goT B C = true) (hE : E = prod A (prod B C)) : rsL ds glb (k + 7) 30 [.v (.lst [lookD A, lookD B, lookD C]), .v (lookD E)] = some (.ok (.val (.bl true)), [none, none]) := by
  rw [r30]
  have hba : goT B A = true := by rw [goT_comm]; exact hab
  have hca : goT C A = true := by rw [goT_comm]; exact hac
  have hcb : goT C B = true := by rw [goT_comm]; exact hbc
  have e : E.Ok := by rw [hE]; exact prod_ok a (prod_ok b c)
  have h012 : prod A (prod B C) = E := hE.symm
  have h021 : prod A (prod C B) = E := by rw [prod_comm c b hcb]; exact h012
  have h120 : prod B (prod C A) = E := by
    rw [prod_comm c a hca, ← prod_assoc b a c hba hbc hac, prod_comm b a hba, prod_assoc a b c hab hac hbc]
    exact h012
  have h102 : prod B (prod A C) = E := by rw [prod_comm a c hac]; exact h120
  have h201 : prod C (prod A B) = E := by
    rw [prod_comm c (prod_ok a b) (go_prodR hca hcb), prod_assoc a b c hab hac hbc]
    exact h012
  have h210 : prod C (prod B A) = E := by rw [prod_comm b a hba]; exact h201
  obtain ⟨LS, hLS⟩ : ∃ LS, LS = D.lst [lookD A, lookD B, lookD C] := ⟨_, rfl⟩
  have i0 : ∀ so : Store, oIx (.val LS) (.val (.int 0)) so = some (.val (lookD A), so) := fun so => by rw [hLS]; simp [oIx_a, rdv, at0]
  have i1 : ∀ so : Store, oIx (.val LS) (.val (.int 1)) so = some (.val (lookD B), so) := fun so => by rw [hLS]; simp [oIx_a, rdv, at1]
  have i2 : ∀ so : Store, oIx (.val LS) (.val (.int 2)) so = some (.val (lookD C), so) := fun so => by rw [hLS]; simp [oIx_a, rdv, at2]
  rw [← hLS]
  have hz3 : (3 : Nat) ≤ sizeLine := by decide
  have hz6 : (6 : Nat) ≤ sizeLine := by decide
  have as0 : prod (prod A B) C = E := by rw [prod_assoc a b c hab hac hbc]; exact h012
  have bd0 := ord_body k LS E A B C a b c e hab hac hbc as0 h012 0 1 2 i0 i1 i2
  have as1 : prod (prod A C) B = E := by rw [prod_assoc a c b hac hab hcb]; exact h021
  have bd1 := ord_body k LS E A C B a c b e hac hab hcb as1 h021 0 2 1 i0 i2 i1
  have as2 : prod (prod B A) C = E := by rw [prod_assoc b a c hba hbc hac]; exact h102
  have bd2 := ord_body k LS E B A C b a c e hba hbc hac as2 h102 1 0 2 i1 i0 i2
  have as3 : prod (prod B C) A = E := by rw [prod_assoc b c a hbc hba hca]; exact h120
  have bd3 := ord_body k LS E B C A b c a e hbc hba hca as3 h120 1 2 0 i1 i2 i0
  have as4 : prod (prod C A) B = E := by rw [prod_assoc c a b hca hcb hab]; exact h201
  have bd4 := ord_body k LS E C A B c a b e hca hcb hab as4 h201 2 0 1 i2 i0 i1
  have as5 : prod (prod C B) A = E := by rw [prod_assoc c b a hcb hca hba]; exact h210
  have bd5 := ord_body k LS E C B A c b a e hcb hca hba as5 h210 2 1 0 i2 i1 i0
  refine run_of (sl' := [some (.val LS), some (.val (lookD E)), some (.val (.tup [.int 2, .int 1, .int 0])), some (.val (lookD C)), some (.val (lookD B)), some (.val (lookD A))]) (so' := [none, none, none, none, none, none]) (fl := .rt (.val (.bl true))) rfl rfl ?_ rfl rfl
  refine sq_nx (sl' := [some (.val LS), some (.val (lookD E)), some (.val (.tup [.int 2, .int 1, .int 0])), some (.val (lookD C)), some (.val (lookD B)), some (.val (lookD A))]) (so' := [none, none, none, none, none, none]) ?_ rfl
  show sFor _ _ _ [some (.val LS), some (.val (lookD E)), none, none, none, none] [none, none, none, none, none, none] = _
  rw [sFor_a, bnT_a]
  have er : ∃ so1, fItm (fN nLst (fCons (fN nTup (fCons (fC (.int 0)) (fCons (fC (.int 1)) (fCons (fC (.int 2)) fNil)))) (fCons (fN nTup (fCons (fC (.int 0)) (fCons (fC (.int 2)) (fCons (fC (.int 1)) fNil)))) (fCons (fN nTup (fCons (fC (.int 1)) (fCons (fC (.int 0)) (fCons (fC (.int 2)) fNil)))) (fCons (fN nTup (fCons (fC (.int 1)) (fCons (fC (.int 2)) (fCons (fC (.int 0)) fNil)))) (fCons (fN nTup (fCons (fC (.int 2)) (fCons (fC (.int 0)) (fCons (fC (.int 1)) fNil)))) (fCons (fN nTup (fCons (fC (.int 2)) (fCons (fC (.int 1)) (fCons (fC (.int 0)) fNil)))) fNil))))))) [some (.val LS), some (.val (lookD E)), none, none, none, none] [none, none, none, none, none, none] = some (.ok [.tup [.int 0, .int 1, .int 2], .tup [.int 0, .int 2, .int 1], .tup [.int 1, .int 0, .int 2], .tup [.int 1, .int 2, .int 0], .tup [.int 2, .int 0, .int 1], .tup [.int 2, .int 1, .int 0]], so1) ∧ so1.take 6 = [none, none, none, none, none, none] ∧ so1.length = 7 := by
    refine ⟨_, by simp -implicitDefEqProofs [runF, msOk, sl0, slS, so0, arS, arO, fins, outF, isM, callO, frzN, frz, frzs, mkArs, mkAr, liveAt, rdv, lives, endC, putFs, truD, asB, bnd_a, pur_a, lft_a, fVar_a, fC_a, f2_a, f1_a, fN_a, sq_a, bnS_a, bnT_a, sNx_a, sBk_a, sCt_a, sExp_a, sRet_a, sRetN_a, sIf_a, sSet_a, storV_a, storL_a, sSetX_a, sSetG_a, lfB_a, fTru_a, fAsB_a, fNot_a, fAnd_a, fOr_a, fNotV_a, fAndV_a, fOrV_a, fIf_a, fChain_a, fIsi_a, fNil_a, fCons_a, fCall_a, fM_a, fDct_a, fPartN_a, fPartS_a, fSl_a, fItm_a, fRng_a, sFor_a, for0_a, gNm_a, gNmC_a, fLr1_a, oSub_a, oFdiv_a, oMod_a, oPow_a, oShl_a, oShr_a, oAnd_a, oOr_a, oXor_a, oI_a, oB_a, oAdd_a, oMul_a, oEq_a, oNe_a, oIn_a, oIs_a, oIx_a, nTup_a, nLst_a, eqI, eqS, eqB, itmD, ty_ii, ty_bi, ty_tt, ty_ll, tyM, hz3, hz6]; rfl, rfl, rfl⟩
  obtain ⟨so1, er, tk, ln⟩ := er
  rw [er]
  dsimp only
  show forD _ _ _ _ (List.take 6 so1) = _
  rw [tk]
  exact (for1_nx (sl1 := [some (.val LS), some (.val (lookD E)), some (.val (.tup [.int 0, .int 1, .int 2])), none, none, none]) (so1 := [none, none, none, none, none, none]) (sl2 := [some (.val LS), some (.val (lookD E)), some (.val (.tup [.int 0, .int 1, .int 2])), some (.val (lookD A)), some (.val (lookD B)), some (.val (lookD C))]) (so2 := [none, none, none, none, none, none]) rfl (bd0 _ _ _) (for1_nx (sl1 := [some (.val LS), some (.val (lookD E)), some (.val (.tup [.int 0, .int 2, .int 1])), some (.val (lookD A)), some (.val (lookD B)), some (.val (lookD C))]) (so1 := [none, none, none, none, none, none]) (sl2 := [some (.val LS), some (.val (lookD E)), some (.val (.tup [.int 0, .int 2, .int 1])), some (.val (lookD A)), some (.val (lookD C)), some (.val (lookD B))]) (so2 := [none, none, none, none, none, none]) rfl (bd1 _ _ _) (for1_nx (sl1 := [some (.val LS), some (.val (lookD E)), some (.val (.tup [.int 1, .int 0, .int 2])), some (.val (lookD A)), some (.val (lookD C)), some (.val (lookD B))]) (so1 := [none, none, none, none, none, none]) (sl2 := [some (.val LS), some (.val (lookD E)), some (.val (.tup [.int 1, .int 0, .int 2])), some (.val (lookD B)), some (.val (lookD A)), some (.val (lookD C))]) (so2 := [none, none, none, none, none, none]) rfl (bd2 _ _ _) (for1_nx (sl1 := [some (.val LS), some (.val (lookD E)), some (.val (.tup [.int 1, .int 2, .int 0])), some (.val (lookD B)), some (.val (lookD A)), some (.val (lookD C))]) (so1 := [none, none, none, none, none, none]) (sl2 := [some (.val LS), some (.val (lookD E)), some (.val (.tup [.int 1, .int 2, .int 0])), some (.val (lookD B)), some (.val (lookD C)), some (.val (lookD A))]) (so2 := [none, none, none, none, none, none]) rfl (bd3 _ _ _) (for1_nx (sl1 := [some (.val LS), some (.val (lookD E)), some (.val (.tup [.int 2, .int 0, .int 1])), some (.val (lookD B)), some (.val (lookD C)), some (.val (lookD A))]) (so1 := [none, none, none, none, none, none]) (sl2 := [some (.val LS), some (.val (lookD E)), some (.val (.tup [.int 2, .int 0, .int 1])), some (.val (lookD C)), some (.val (lookD A)), some (.val (lookD B))]) (so2 := [none, none, none, none, none, none]) rfl (bd4 _ _ _) (for1_nx (sl1 := [some (.val LS), some (.val (lookD E)), some (.val (.tup [.int 2, .int 1, .int 0])), some (.val (lookD C)), some (.val (lookD A)), some (.val (lookD B))]) (so1 := [none, none, none, none, none, none]) (sl2 := [some (.val LS), some (.val (lookD E)), some (.val (.tup [.int 2, .int 1, .int 0])), some (.val (lookD C)), some (.val (lookD B)), some (.val (lookD A))]) (so2 := [none, none, none, none, none, none]) rfl (bd5 _ _ _) rfl))))))
theorem fact_body (k : Nat) (LS : D) (E X Y Z : Lk) (x : X.Ok) (y : Y.Ok) (z : Z.Ok) (hxy : goT X Y = true) (hxz : goT X Z = true) (hyz : goT Y Z = true) (hE : prod X (prod Y Z) = E) (i j l : Int) (hj : (i + 1).fmod 3 = j) (hl : (i + 2).fmod 3 = l)
    (ix : ∀ so : Store, oIx (.val LS) (.val (.int i)) so = some (.val (lookD X), so)) (iy : ∀ so : Store, oIx (.val LS) (.val (.int j)) so = some (.val (lookD Y), so)) (iz : ∀ so : Store, oIx (.val LS) (.val (.int l)) so = some (.val (lookD Z), so)) (x3 x4 x5 x6 : Option DV) :
    (sq (sSet 3 (f2 oIx (fVar 0) (fVar 2))) (sq (sSet 4 (f2 oIx (fVar 0) (f2 oMod (f2 oAdd (fVar 2) (fC (.int 1))) (fC (.int 3))))) (sq (sSet 5 (fN nTup (fCons (f2 oSub (fC (.int 1)) (f2 oIx (fVar 3) (fC (.int 0)))) (fCons (f2 oIx (fVar 3) (fC (.int 1))) (fCons (f2 oIx (fVar 3) (fC (.int 2))) fNil))))) (sq (sIf (fOr (fAsB (f2 oNe (fN nRepr (fCons (fCall (rsL ds glb (k + 6) 15) [false, false] false (fCons (fVar 3) (fCons (fVar 3) fNil))) fNil)) (fN nRepr (fCons (fN nTup (fCons (fC (.int 0)) (fCons (fN nTup fNil) (fCons (fN nTup fNil) fNil)))) fNil)))) (fAsB (f2 oNe (fN nRepr (fCons (fCall (rsL ds glb (k + 6) 15) [false, false] false (fCons (fVar 3) (fCons (fVar 5) fNil))) fNil)) (fN nRepr (fCons (fN nTup (fCons (fC (.int 1)) (fCons (fN nTup fNil) (fCons (fN nTup fNil) fNil)))) fNil))))) (sq (sRet (fC (.bl false))) sNx) sNx) (sq (sIf (fAsB (f2 oNe (fN nRepr (fCons (fCall (rsL ds glb (k + 6) 15) [false, false] false (fCons (fCall (rsL ds glb (k + 6) 15) [false, false] false (fCons (fVar 3) (fCons (fVar 4) fNil))) (fCons (fVar 4) fNil))) fNil)) (fN nRepr (fCons (fVar 3) fNil)))) (sq (sRet (fC (.bl false))) sNx) sNx) (sq (sSet 6 (fCall (rsL ds glb (k + 6) 15) [false, false] false (fCons (fVar 4) (fCons (f2 oIx (fVar 0) (f2 oMod (f2 oAdd (fVar 2) (fC (.int 2))) (fC (.int 3)))) fNil)))) (sq (sIf (fAsB (f2 oNe (fN nRepr (fCons (fCall (rsL ds glb (k + 6) 15) [false, false] false (fCons (fVar 5) (fCons (fVar 6) fNil))) fNil)) (fN nRepr (fCons (fN nTup (fCons (f2 oSub (fC (.int 1)) (f2 oIx (fVar 1) (fC (.int 0)))) (fCons (f2 oIx (fVar 1) (fC (.int 1))) (fCons (f2 oIx (fVar 1) (fC (.int 2))) fNil)))) fNil)))) (sq (sRet (fC (.bl false))) sNx) sNx) (sq (sIf (fOr (fAsB (f2 oNe (fN nRepr (fCons (fCall (rsL ds glb (k + 6) 15) [false, false] false (fCons (fVar 3) (fCons (fN nTup (fCons (fC (.int 0)) (fCons (fN nTup fNil) (fCons (fN nTup fNil) fNil)))) fNil))) fNil)) (fN nRepr (fCons (fVar 3) fNil)))) (fAsB (f2 oNe (fN nRepr (fCons (fCall (rsL ds glb (k + 6) 15) [false, false] false (fCons (fVar 1) (fCons (fVar 6) fNil))) fNil)) (fN nRepr (fCons (fVar 3) fNil))))) (sq (sRet (fC (.bl false))) sNx) sNx) sNx)))))))) [some (.val LS), some (.val (lookD E)), some (.val (.int i)), x3, x4, x5, x6] [none, none, none, none, none, none, none] = some (.nx, [some (.val LS), some (.val (lookD E)), some (.val (.int i)), some (.val (lookD X)), some (.val (lookD Y)), some (.val (lookD (negL X))), some (.val (lookD (prod Y Z)))], [none, none, none, none, none, none, none]) := by
  have okE : E.Ok := by rw [← hE]; exact prod_ok x (prod_ok y z)
  have hxyz : goT X (prod Y Z) = true := go_prodR hxy hxz
  have t1 := times_ok k X X x x (goT_self X)
  have t2 := times_ok k X (negL X) x (neg_ok x) (goT_self X)
  have t3 := times_ok k X Y x y hxy
  have t4 := times_ok k (prod X Y) Y (prod_ok x y) y (go_prodL hxy (goT_self Y))
  have t5 := times_ok k Y Z y z hyz
  have t6 := times_ok k (negL X) (prod Y Z) (neg_ok x) (prod_ok y z) hxyz
  have gid : goT X idL = true := by
    unfold goT idL
    dsimp only
    rw [Nat.and_zero, Nat.and_zero]
    decide
  have t7 := times_ok k X idL x idL_ok gid
  have t8 := times_ok k E (prod Y Z) okE (prod_ok y z) (by rw [← hE]; exact go_prodL hxyz (goT_self _))
  rw [prod_self x] at t1
  rw [prod_negself x] at t2
  rw [prod_back x y hxy] at t4
  rw [prod_neg x (prod_ok y z) hxyz, hE] at t6
  rw [prod_id x] at t7
  rw [← hE, prod_back x (prod_ok y z) hxyz, hE] at t8
  have d0 : lookD idL = .tup [.int 0, .tup [], .tup []] := by unfold lookD idL; rw [lotD_0]; rfl
  have d1 : lookD (negL idL) = .tup [.int 1, .tup [], .tup []] := by unfold lookD negL idL; dsimp only; rw [lotD_0]; rfl
  have nX : ∀ A : Lk, A.Ok → lookD (negL A) = .tup [.int (1 - (A.s : Int)), lotD A.f, lotD A.t] := fun A a => by
    have := a.s
    unfold lookD negL
    dsimp only
    rw [show ((1 - A.s : Nat) : Int) = 1 - (A.s : Int) by omega]
  have f0 : ∀ (A : Lk) (so : Store), oIx (.val (lookD A)) (.val (.int 0)) so = some (.val (.int (A.s : Nat)), so) := fun A so => by unfold lookD; simp [oIx_a, rdv, at0]
  have f1 : ∀ (A : Lk) (so : Store), oIx (.val (lookD A)) (.val (.int 1)) so = some (.val (lotD A.f), so) := fun A so => by unfold lookD; simp [oIx_a, rdv, at1]
  have f3 : ∀ (A : Lk) (so : Store), oIx (.val (lookD A)) (.val (.int 2)) so = some (.val (lotD A.t), so) := fun A so => by unfold lookD; simp [oIx_a, rdv, at2]
  have hz3 : (3 : Nat) ≤ sizeLine := by decide
  have hz0 : (0 : Nat) ≤ sizeLine := by decide
  obtain ⟨r0, hr0⟩ := repr_look idL idL_ok
  obtain ⟨r1, hr1⟩ := repr_look (negL idL) (neg_ok idL_ok)
  obtain ⟨rX, hrX⟩ := repr_look X x
  obtain ⟨rE, hrE⟩ := repr_look (negL E) (neg_ok okE)
  have nE := nX E okE
  have nXX := nX X x
  have g0 := f0 X
  have g1 := f1 X
  have g2 := f3 X
  have e0 := f0 E
  have e1 := f1 E
  have e2 := f3 E
  clear f0 f1 f3 nX
  obtain ⟨LF, hLF⟩ : ∃ LF, LF = lotD X.f := ⟨_, rfl⟩
  obtain ⟨LT, hLT⟩ : ∃ LT, LT = lotD X.t := ⟨_, rfl⟩
  obtain ⟨EF, hEF⟩ : ∃ EF, EF = lotD E.f := ⟨_, rfl⟩
  obtain ⟨ET, hET⟩ : ∃ ET, ET = lotD E.t := ⟨_, rfl⟩
  rw [← hLF] at g1 nXX
  rw [← hLT] at g2 nXX
  rw [← hEF] at e1 nE
  rw [← hET] at e2 nE
  obtain ⟨DX, hDX⟩ : ∃ DX, DX = lookD X := ⟨_, rfl⟩
  obtain ⟨DY, hDY⟩ : ∃ DY, DY = lookD Y := ⟨_, rfl⟩
  obtain ⟨DZ, hDZ⟩ : ∃ DZ, DZ = lookD Z := ⟨_, rfl⟩
  obtain ⟨DE, hDE⟩ : ∃ DE, DE = lookD E := ⟨_, rfl⟩
  obtain ⟨DN, hDN⟩ : ∃ DN, DN = lookD (negL X) := ⟨_, rfl⟩
  obtain ⟨NE, hNE⟩ : ∃ NE, NE = lookD (negL E) := ⟨_, rfl⟩
  obtain ⟨I0, hI0⟩ : ∃ I0, I0 = lookD idL := ⟨_, rfl⟩
  obtain ⟨I1, hI1⟩ : ∃ I1, I1 = lookD (negL idL) := ⟨_, rfl⟩
  obtain ⟨P1, hP1⟩ : ∃ P1, P1 = lookD (prod X Y) := ⟨_, rfl⟩
  obtain ⟨P2, hP2⟩ : ∃ P2, P2 = lookD (prod Y Z) := ⟨_, rfl⟩
  rw [← hDX, ← hI0] at t1
  rw [← hDX, ← hDN, ← hI1] at t2
  rw [← hDX, ← hDY, ← hP1] at t3
  rw [← hP1, ← hDY, ← hDX] at t4
  rw [← hDY, ← hDZ, ← hP2] at t5
  rw [← hDN, ← hP2, ← hNE] at t6
  rw [← hDX, ← hI0] at t7
  rw [← hDE, ← hP2, ← hDX] at t8
  rw [← hI0] at d0 hr0
  rw [← hI1] at d1 hr1
  rw [← hDX] at ix hrX g0 g1 g2
  rw [← hDY] at iy
  rw [← hDZ] at iz
  rw [← hDE] at e0 e1 e2
  rw [← hDN] at nXX
  rw [← hNE] at nE hrE
  rw [← hDX, ← hDY, ← hDE, ← hDN, ← hP2]
  refine sq_nx (sl' := [some (.val LS), some (.val DE), some (.val (.int i)), some (.val DX), x4, x5, x6]) (so' := [none, none, none, none, none, none, none]) (by simp -implicitDefEqProofs [runF, msOk, sl0, slS, so0, arS, arO, fins, outF, isM, callO, frzN, frz, frzs, mkArs, mkAr, liveAt, rdv, lives, endC, putFs, truD, asB, bnd_a, pur_a, lft_a, fVar_a, fC_a, f2_a, f1_a, fN_a, sq_a, bnS_a, bnT_a, sNx_a, sBk_a, sCt_a, sExp_a, sRet_a, sRetN_a, sIf_a, sSet_a, storV_a, storL_a, sSetX_a, sSetG_a, lfB_a, fTru_a, fAsB_a, fNot_a, fAnd_a, fOr_a, fNotV_a, fAndV_a, fOrV_a, fIf_a, fChain_a, fIsi_a, fNil_a, fCons_a, fCall_a, fM_a, fDct_a, fPartN_a, fPartS_a, fSl_a, fItm_a, fRng_a, sFor_a, for0_a, gNm_a, gNmC_a, fLr1_a, oSub_a, oFdiv_a, oMod_a, oPow_a, oShl_a, oShr_a, oAnd_a, oOr_a, oXor_a, oI_a, oB_a, oAdd_a, oMul_a, oEq_a, oNe_a, oIn_a, oIs_a, nTup_a, nLst_a, eqI, eqS, eqB, itmD, ty_ii, ty_bi, ty_tt, ty_ll, tyM, ix]) ?_
  refine sq_nx (sl' := [some (.val LS), some (.val DE), some (.val (.int i)), some (.val DX), some (.val DY), x5, x6]) (so' := [none, none, none, none, none, none, none]) (by simp -implicitDefEqProofs [runF, msOk, sl0, slS, so0, arS, arO, fins, outF, isM, callO, frzN, frz, frzs, mkArs, mkAr, liveAt, rdv, lives, endC, putFs, truD, asB, bnd_a, pur_a, lft_a, fVar_a, fC_a, f2_a, f1_a, fN_a, sq_a, bnS_a, bnT_a, sNx_a, sBk_a, sCt_a, sExp_a, sRet_a, sRetN_a, sIf_a, sSet_a, storV_a, storL_a, sSetX_a, sSetG_a, lfB_a, fTru_a, fAsB_a, fNot_a, fAnd_a, fOr_a, fNotV_a, fAndV_a, fOrV_a, fIf_a, fChain_a, fIsi_a, fNil_a, fCons_a, fCall_a, fM_a, fDct_a, fPartN_a, fPartS_a, fSl_a, fItm_a, fRng_a, sFor_a, for0_a, gNm_a, gNmC_a, fLr1_a, oSub_a, oFdiv_a, oMod_a, oPow_a, oShl_a, oShr_a, oAnd_a, oOr_a, oXor_a, oI_a, oB_a, oAdd_a, oMul_a, oEq_a, oNe_a, oIn_a, oIs_a, nTup_a, nLst_a, eqI, eqS, eqB, itmD, ty_ii, ty_bi, ty_tt, ty_ll, tyM, hj, iy]) ?_
  refine sq_nx (sl' := [some (.val LS), some (.val DE), some (.val (.int i)), some (.val DX), some (.val DY), some (.val DN), x6]) (so' := [none, none, none, none, none, none, none]) (by simp -implicitDefEqProofs [runF, msOk, sl0, slS, so0, arS, arO, fins, outF, isM, callO, frzN, frz, frzs, mkArs, mkAr, liveAt, rdv, lives, endC, putFs, truD, asB, bnd_a, pur_a, lft_a, fVar_a, fC_a, f2_a, f1_a, fN_a, sq_a, bnS_a, bnT_a, sNx_a, sBk_a, sCt_a, sExp_a, sRet_a, sRetN_a, sIf_a, sSet_a, storV_a, storL_a, sSetX_a, sSetG_a, lfB_a, fTru_a, fAsB_a, fNot_a, fAnd_a, fOr_a, fNotV_a, fAndV_a, fOrV_a, fIf_a, fChain_a, fIsi_a, fNil_a, fCons_a, fCall_a, fM_a, fDct_a, fPartN_a, fPartS_a, fSl_a, fItm_a, fRng_a, sFor_a, for0_a, gNm_a, gNmC_a, fLr1_a, oSub_a, oFdiv_a, oMod_a, oPow_a, oShl_a, oShr_a, oAnd_a, oOr_a, oXor_a, oI_a, oB_a, oAdd_a, oMul_a, oEq_a, oNe_a, oIn_a, oIs_a, nTup_a, nLst_a, eqI, eqS, eqB, itmD, ty_ii, ty_bi, ty_tt, ty_ll, tyM, g0, g1, g2, nXX, hz3]) ?_
  refine sq_nx (sl' := [some (.val LS), some (.val DE), some (.val (.int i)), some (.val DX), some (.val DY), some (.val DN), x6]) (so' := [none, none, none, none, none, none, none]) (by simp -implicitDefEqProofs [runF, msOk, sl0, slS, so0, arS, arO, fins, outF, isM, callO, frzN, frz, frzs, mkArs, mkAr, liveAt, rdv, lives, endC, putFs, truD, asB, bnd_a, pur_a, lft_a, fVar_a, fC_a, f2_a, f1_a, fN_a, sq_a, bnS_a, bnT_a, sNx_a, sBk_a, sCt_a, sExp_a, sRet_a, sRetN_a, sIf_a, sSet_a, storV_a, storL_a, sSetX_a, sSetG_a, lfB_a, fTru_a, fAsB_a, fNot_a, fAnd_a, fOr_a, fNotV_a, fAndV_a, fOrV_a, fIf_a, fChain_a, fIsi_a, fNil_a, fCons_a, fCall_a, fM_a, fDct_a, fPartN_a, fPartS_a, fSl_a, fItm_a, fRng_a, sFor_a, for0_a, gNm_a, gNmC_a, fLr1_a, oSub_a, oFdiv_a, oMod_a, oPow_a, oShl_a, oShr_a, oAnd_a, oOr_a, oXor_a, oI_a, oB_a, oAdd_a, oMul_a, oEq_a, oNe_a, oIn_a, oIs_a, nTup_a, nLst_a, eqI, eqS, eqB, itmD, ty_ii, ty_bi, ty_tt, ty_ll, tyM, t1, t2, nRepr, ← d0, ← d1, hr0, hr1, hz3, hz0]) ?_
  refine sq_nx (sl' := [some (.val LS), some (.val DE), some (.val (.int i)), some (.val DX), some (.val DY), some (.val DN), x6]) (so' := [none, none, none, none, none, none, none]) (by simp -implicitDefEqProofs [runF, msOk, sl0, slS, so0, arS, arO, fins, outF, isM, callO, frzN, frz, frzs, mkArs, mkAr, liveAt, rdv, lives, endC, putFs, truD, asB, bnd_a, pur_a, lft_a, fVar_a, fC_a, f2_a, f1_a, fN_a, sq_a, bnS_a, bnT_a, sNx_a, sBk_a, sCt_a, sExp_a, sRet_a, sRetN_a, sIf_a, sSet_a, storV_a, storL_a, sSetX_a, sSetG_a, lfB_a, fTru_a, fAsB_a, fNot_a, fAnd_a, fOr_a, fNotV_a, fAndV_a, fOrV_a, fIf_a, fChain_a, fIsi_a, fNil_a, fCons_a, fCall_a, fM_a, fDct_a, fPartN_a, fPartS_a, fSl_a, fItm_a, fRng_a, sFor_a, for0_a, gNm_a, gNmC_a, fLr1_a, oSub_a, oFdiv_a, oMod_a, oPow_a, oShl_a, oShr_a, oAnd_a, oOr_a, oXor_a, oI_a, oB_a, oAdd_a, oMul_a, oEq_a, oNe_a, oIn_a, oIs_a, nTup_a, nLst_a, eqI, eqS, eqB, itmD, ty_ii, ty_bi, ty_tt, ty_ll, tyM, t3, t4, nRepr, hrX]) ?_
  refine sq_nx (sl' := [some (.val LS), some (.val DE), some (.val (.int i)), some (.val DX), some (.val DY), some (.val DN), some (.val P2)]) (so' := [none, none, none, none, none, none, none]) (by simp -implicitDefEqProofs [runF, msOk, sl0, slS, so0, arS, arO, fins, outF, isM, callO, frzN, frz, frzs, mkArs, mkAr, liveAt, rdv, lives, endC, putFs, truD, asB, bnd_a, pur_a, lft_a, fVar_a, fC_a, f2_a, f1_a, fN_a, sq_a, bnS_a, bnT_a, sNx_a, sBk_a, sCt_a, sExp_a, sRet_a, sRetN_a, sIf_a, sSet_a, storV_a, storL_a, sSetX_a, sSetG_a, lfB_a, fTru_a, fAsB_a, fNot_a, fAnd_a, fOr_a, fNotV_a, fAndV_a, fOrV_a, fIf_a, fChain_a, fIsi_a, fNil_a, fCons_a, fCall_a, fM_a, fDct_a, fPartN_a, fPartS_a, fSl_a, fItm_a, fRng_a, sFor_a, for0_a, gNm_a, gNmC_a, fLr1_a, oSub_a, oFdiv_a, oMod_a, oPow_a, oShl_a, oShr_a, oAnd_a, oOr_a, oXor_a, oI_a, oB_a, oAdd_a, oMul_a, oEq_a, oNe_a, oIn_a, oIs_a, nTup_a, nLst_a, eqI, eqS, eqB, itmD, ty_ii, ty_bi, ty_tt, ty_ll, tyM, hl, iz, t5]) ?_
  refine sq_nx (sl' := [some (.val LS), some (.val DE), some (.val (.int i)), some (.val DX), some (.val DY), some (.val DN), some (.val P2)]) (so' := [none, none, none, none, none, none, none]) (by simp -implicitDefEqProofs [runF, msOk, sl0, slS, so0, arS, arO, fins, outF, isM, callO, frzN, frz, frzs, mkArs, mkAr, liveAt, rdv, lives, endC, putFs, truD, asB, bnd_a, pur_a, lft_a, fVar_a, fC_a, f2_a, f1_a, fN_a, sq_a, bnS_a, bnT_a, sNx_a, sBk_a, sCt_a, sExp_a, sRet_a, sRetN_a, sIf_a, sSet_a, storV_a, storL_a, sSetX_a, sSetG_a, lfB_a, fTru_a, fAsB_a, fNot_a, fAnd_a, fOr_a, fNotV_a, fAndV_a, fOrV_a, fIf_a, fChain_a, fIsi_a, fNil_a, fCons_a, fCall_a, fM_a, fDct_a, fPartN_a, fPartS_a, fSl_a, fItm_a, fRng_a, sFor_a, for0_a, gNm_a, gNmC_a, fLr1_a, oSub_a, oFdiv_a, oMod_a, oPow_a, oShl_a, oShr_a, oAnd_a, oOr_a, oXor_a, oI_a, oB_a, oAdd_a, oMul_a, oEq_a, oNe_a, oIn_a, oIs_a, nTup_a, nLst_a, eqI, eqS, eqB, itmD, ty_ii, ty_bi, ty_tt, ty_ll, tyM, t6, e0, e1, e2, ← nE, nRepr, hrE, hz3]) ?_
  refine sq_nx (sl' := [some (.val LS), some (.val DE), some (.val (.int i)), some (.val DX), some (.val DY), some (.val DN), some (.val P2)]) (so' := [none, none, none, none, none, none, none]) (by simp -implicitDefEqProofs [runF, msOk, sl0, slS, so0, arS, arO, fins, outF, isM, callO, frzN, frz, frzs, mkArs, mkAr, liveAt, rdv, lives, endC, putFs, truD, asB, bnd_a, pur_a, lft_a, fVar_a, fC_a, f2_a, f1_a, fN_a, sq_a, bnS_a, bnT_a, sNx_a, sBk_a, sCt_a, sExp_a, sRet_a, sRetN_a, sIf_a, sSet_a, storV_a, storL_a, sSetX_a, sSetG_a, lfB_a, fTru_a, fAsB_a, fNot_a, fAnd_a, fOr_a, fNotV_a, fAndV_a, fOrV_a, fIf_a, fChain_a, fIsi_a, fNil_a, fCons_a, fCall_a, fM_a, fDct_a, fPartN_a, fPartS_a, fSl_a, fItm_a, fRng_a, sFor_a, for0_a, gNm_a, gNmC_a, fLr1_a, oSub_a, oFdiv_a, oMod_a, oPow_a, oShl_a, oShr_a, oAnd_a, oOr_a, oXor_a, oI_a, oB_a, oAdd_a, oMul_a, oEq_a, oNe_a, oIn_a, oIs_a, nTup_a, nLst_a, eqI, eqS, eqB, itmD, ty_ii, ty_bi, ty_tt, ty_ll, tyM, ← d0, t7, t8, nRepr, hrX, hz3, hz0]) rfl
theorem facts_ok (k : Nat) (A B C E : Lk) (a : A.Ok) (b : B.Ok) (c : C.Ok) (hab : goT A B = true) (hac : goT A C = true) (hbc : goT B C = true) (hE : E = prod A (prod B C)) : rsL ds glb (k + 7) 31 [.v (.lst [lookD A, lookD B, lookD C]), .v (lookD E)] = some (.ok (.val (.bl true)), [none, none]) := by
  rw [r31]
  have hba : goT B A = true := by rw [goT_comm]; exact hab
  have hca : goT C A = true := by rw [goT_comm]; exact hac
  have hcb : goT C B = true := by rw [goT_comm]; exact hbc
  have e : E.Ok := by rw [hE]; exact prod_ok a (prod_ok b c)
  have h012 : prod A (prod B C) = E := hE.symm
  have h021 : prod A (prod C B) = E := by rw [prod_comm c b hcb]; exact h012
  have h120 : prod B (prod C A) = E := by
    rw [prod_comm c a hca, ← prod_assoc b a c hba hbc hac, prod_comm b a hba, prod_assoc a b c hab hac hbc]
    exact h012
  have h102 : prod B (prod A C) = E := by rw [prod_comm a c hac]; exact h120
  have h201 : prod C (prod A B) = E := by
    rw [prod_comm c (prod_ok a b) (go_prodR hca hcb), prod_assoc a b c hab hac hbc]
    exact h012
  have h210 : prod C (prod B A) = E := by rw [prod_comm b a hba]; exact h201
  obtain ⟨LS, hLS⟩ : ∃ LS, LS = D.lst [lookD A, lookD B, lookD C] := ⟨_, rfl⟩
  have i0 : ∀ so : Store, oIx (.val LS) (.val (.int 0)) so = some (.val (lookD A), so) := fun so => by rw [hLS]; simp [oIx_a, rdv, at0]
  have i1 : ∀ so : Store, oIx (.val LS) (.val (.int 1)) so = some (.val (lookD B), so) := fun so => by rw [hLS]; simp [oIx_a, rdv, at1]
  have i2 : ∀ so : Store, oIx (.val LS) (.val (.int 2)) so = some (.val (lookD C), so) := fun so => by rw [hLS]; simp [oIx_a, rdv, at2]
  rw [← hLS]
  have bd0 := fact_body k LS E A B C a b c hab hac hbc h012 0 1 2 rfl rfl i0 i1 i2
  have bd1 := fact_body k LS E B C A b c a hbc hba hca h120 1 2 0 rfl rfl i1 i2 i0
  have bd2 := fact_body k LS E C A B c a b hca hcb hab h201 2 0 1 rfl rfl i2 i0 i1
  refine run_of (sl' := [some (.val LS), some (.val (lookD E)), some (.val (.int 2)), some (.val (lookD C)), some (.val (lookD A)), some (.val (lookD (negL C))), some (.val (lookD (prod A B)))]) (so' := [none, none, none, none, none, none, none]) (fl := .rt (.val (.bl true))) rfl rfl ?_ rfl rfl
  refine sq_nx (sl' := [some (.val LS), some (.val (lookD E)), some (.val (.int 2)), some (.val (lookD C)), some (.val (lookD A)), some (.val (lookD (negL C))), some (.val (lookD (prod A B)))]) (so' := [none, none, none, none, none, none, none]) ?_ rfl
  show sFor _ _ _ [some (.val LS), some (.val (lookD E)), none, none, none, none, none] [none, none, none, none, none, none, none] = _
  rw [sFor_a, bnT_a]
  erw [rng_c _ _ 3 (by decide)]
  exact (for1_nx (sl1 := [some (.val LS), some (.val (lookD E)), some (.val (.int 0)), none, none, none, none]) (so1 := [none, none, none, none, none, none, none]) (sl2 := [some (.val LS), some (.val (lookD E)), some (.val (.int 0)), some (.val (lookD A)), some (.val (lookD B)), some (.val (lookD (negL A))), some (.val (lookD (prod B C)))]) (so2 := [none, none, none, none, none, none, none]) rfl (bd0 _ _ _ _)
    (for1_nx (sl1 := [some (.val LS), some (.val (lookD E)), some (.val (.int 1)), some (.val (lookD A)), some (.val (lookD B)), some (.val (lookD (negL A))), some (.val (lookD (prod B C)))]) (so1 := [none, none, none, none, none, none, none]) (sl2 := [some (.val LS), some (.val (lookD E)), some (.val (.int 1)), some (.val (lookD B)), some (.val (lookD C)), some (.val (lookD (negL B))), some (.val (lookD (prod C A)))]) (so2 := [none, none, none, none, none, none, none]) rfl (bd1 _ _ _ _)
    (for1_nx (sl1 := [some (.val LS), some (.val (lookD E)), some (.val (.int 2)), some (.val (lookD B)), some (.val (lookD C)), some (.val (lookD (negL B))), some (.val (lookD (prod C A)))]) (so1 := [none, none, none, none, none, none, none]) (sl2 := [some (.val LS), some (.val (lookD E)), some (.val (.int 2)), some (.val (lookD C)), some (.val (lookD A)), some (.val (lookD (negL C))), some (.val (lookD (prod A B)))]) (so2 := [none, none, none, none, none, none, none]) rfl (bd2 _ _ _ _) rfl)))
theorem law_loop (k : Nat) (NS LS : D) (A B C E : Lk) (a : A.Ok) (b : B.Ok) (c : C.Ok) (hab : goT A B = true) (hac : goT A C = true) (hbc : goT B C = true) (hE : E = prod A (prod B C)) (hLS : LS = .lst [lookD A, lookD B, lookD C]) : ∀ (ds0 : List D) (p q : Nat) (x4 x5 : Option DV), q + ds0.length < 999000000 → ∃ (p' q' : Nat) (y4 y5 : Option DV),
    forD (gNm 4) (sq (sSet 5 (fCall (rsL ds glb (k + 7) 18) [true, false] false (fCons (fVar 1) (fCons (fC (.int 1024)) fNil)))) (sq (sIf (fAsB (f2 oNe (fCall (rsL ds glb (k + 7) 27) [false, false] false (fCons (fVar 3) (fCons (fN nTup (fCons (fVar 5) (fCons (fC (.int 0)) fNil))) fNil))) (fCall (rsL ds glb (k + 7) 28) [false, false] false (fCons (fVar 2) (fCons (fVar 5) fNil))))) (sq (sRet (fC (.bl false))) sNx) sNx) sNx)) ds0 [some (.val NS), some (.loc 1), some (.loc 2), some (.val (lookD E)), x4, x5] [none, some (true, .lst [.int (p : Nat), .int (q : Nat)]), some (false, LS), none, none, none] = some (.nx, [some (.val NS), some (.loc 1), some (.loc 2), some (.val (lookD E)), y4, y5], [none, some (true, .lst [.int (p' : Nat), .int (q' : Nat)]), some (false, LS), none, none, none]) := by
  intro ds0
  have okE : E.Ok := by rw [hE]; exact prod_ok a (prod_ok b c)
  have hz2 : (2 : Nat) ≤ sizeLine := by decide
  induction ds0 with
  | nil =>
    intro p q x4 x5 _
    exact ⟨p, q, x4, x5, by rw [for0_a]⟩
  | cons d ds0 ih =>
    intro p q x4 x5 hq
    have hq : q + (ds0.length + 1) < 999000000 := by simpa using hq
    obtain ⟨i, p1, q1, hi, hq1, e1⟩ := draw_ok (k + 6) p q 1024 (by decide) (by decide) (by omega)
    have e1 : rsL ds glb (k + 7) 18 [.m (.lst [.int (p : Nat), .int (q : Nat)]), .v (.int 1024)] = some (.ok (.val (.int (i : Nat))), [some (true, .lst [.int (p1 : Nat), .int (q1 : Nat)]), none]) := e1
    obtain ⟨p', q', y4, y5, e⟩ := ih p1 q1 (some (.val d)) (some (.val (.int (i : Nat)))) (by omega)
    have m1 := moved_ok (k + 5) E okE (i, 0) (by show 0 < 1000; decide)
    have m2 := by_all_ok (k + 4) i A B C a b c
    have eE : mv A (mv B (mv C (i, 0))) = mv E (i, 0) := by rw [hE, mv_prod (go_prodR hab hac), mv_prod hbc]
    rw [eE] at m2
    obtain ⟨PE, hPE⟩ : ∃ PE, PE = ptD (mv E (i, 0)) := ⟨_, rfl⟩
    have p0 : ptD (i, 0) = .tup [.int (i : Nat), .int 0] := rfl
    have eq : eqD PE PE = some true := by
      rw [hPE]
      unfold ptD
      rw [eq_tup2]
      simp
    rw [p0, ← hPE] at m1
    rw [← hPE, ← hLS] at m2
    obtain ⟨DE, hDE⟩ : ∃ DE, DE = lookD E := ⟨_, rfl⟩
    rw [← hDE] at m1 e ⊢
    refine ⟨p', q', y4, y5, ?_⟩
    refine for1_nx (sl1 := [some (.val NS), some (.loc 1), some (.loc 2), some (.val DE), some (.val d), x5]) (so1 := [none, some (true, .lst [.int (p : Nat), .int (q : Nat)]), some (false, LS), none, none, none]) rfl ?_ e
    refine sq_nx (sl' := [some (.val NS), some (.loc 1), some (.loc 2), some (.val DE), some (.val d), some (.val (.int (i : Nat)))]) (so' := [none, some (true, .lst [.int (p1 : Nat), .int (q1 : Nat)]), some (false, LS), none, none, none]) (by simp -implicitDefEqProofs [runF, msOk, sl0, slS, so0, arS, arO, fins, outF, isM, callO, frzN, frz, frzs, mkArs, mkAr, liveAt, rdv, lives, endC, putFs, truD, asB, bnd_a, pur_a, lft_a, fVar_a, fC_a, f2_a, f1_a, fN_a, sq_a, bnS_a, bnT_a, sNx_a, sBk_a, sCt_a, sExp_a, sRet_a, sRetN_a, sIf_a, sSet_a, storV_a, storL_a, sSetX_a, sSetG_a, lfB_a, fTru_a, fAsB_a, fNot_a, fAnd_a, fOr_a, fNotV_a, fAndV_a, fOrV_a, fIf_a, fChain_a, fIsi_a, fNil_a, fCons_a, fCall_a, fM_a, fDct_a, fPartN_a, fPartS_a, fSl_a, fItm_a, fRng_a, sFor_a, for0_a, gNm_a, gNmC_a, fLr1_a, oSub_a, oFdiv_a, oMod_a, oPow_a, oShl_a, oShr_a, oAnd_a, oOr_a, oXor_a, oI_a, oB_a, oAdd_a, oMul_a, oEq_a, oNe_a, oIn_a, oIs_a, oIx_a, nTup_a, nLst_a, eqI, eqS, eqB, itmD, ty_ii, ty_bi, ty_tt, ty_ll, tyM, e1]) ?_
    refine sq_nx (sl' := [some (.val NS), some (.loc 1), some (.loc 2), some (.val DE), some (.val d), some (.val (.int (i : Nat)))]) (so' := [none, some (true, .lst [.int (p1 : Nat), .int (q1 : Nat)]), some (false, LS), none, none, none]) (by simp -implicitDefEqProofs [runF, msOk, sl0, slS, so0, arS, arO, fins, outF, isM, callO, frzN, frz, frzs, mkArs, mkAr, liveAt, rdv, lives, endC, putFs, truD, asB, bnd_a, pur_a, lft_a, fVar_a, fC_a, f2_a, f1_a, fN_a, sq_a, bnS_a, bnT_a, sNx_a, sBk_a, sCt_a, sExp_a, sRet_a, sRetN_a, sIf_a, sSet_a, storV_a, storL_a, sSetX_a, sSetG_a, lfB_a, fTru_a, fAsB_a, fNot_a, fAnd_a, fOr_a, fNotV_a, fAndV_a, fOrV_a, fIf_a, fChain_a, fIsi_a, fNil_a, fCons_a, fCall_a, fM_a, fDct_a, fPartN_a, fPartS_a, fSl_a, fItm_a, fRng_a, sFor_a, for0_a, gNm_a, gNmC_a, fLr1_a, oSub_a, oFdiv_a, oMod_a, oPow_a, oShl_a, oShr_a, oAnd_a, oOr_a, oXor_a, oI_a, oB_a, oAdd_a, oMul_a, oEq_a, oNe_a, oIn_a, oIs_a, oIx_a, nTup_a, nLst_a, eqI, eqS, eqB, itmD, ty_ii, ty_bi, ty_tt, ty_ll, tyM, m1, m2, eq, hz2]) rfl
theorem law_ok (k : Nat) (ns : List Int) : ∃ fs, rsL ds glb (k + 8) 32 [.v (.lst (ns.map .int))] = some (.ok (.val (.bl true)), fs) := by
  rw [r32]
  obtain ⟨c0, e0⟩ := source_ok (k + 5) ns 0 (by decide)
  obtain ⟨B0, hB0⟩ : ∃ B0 : Nat, B0 = 1000 * 0 := ⟨_, rfl⟩
  rw [← hB0] at e0
  have e0 : rsL ds glb (k + 7) 17 [.v (.lst (ns.map .int)), .v (.int 0)] = some (.ok (.new (.lst [.int (c0 : Nat), .int (B0 : Nat)])), [none, none]) := e0
  obtain ⟨A, B, C, p, q, a, b, c, hab, hac, hbc, hq, ed⟩ := drawn_ok (k + 2) c0 B0 (by omega)
  obtain ⟨E, hE⟩ : ∃ E, E = prod A (prod B C) := ⟨_, rfl⟩
  have ex := exp_ok (k + 3) A B C a b c hab hac hbc
  have oh := ord_ok k A B C E a b c hab hac hbc hE
  have fh := facts_ok k A B C E a b c hab hac hbc hE
  rw [← hE] at ex
  obtain ⟨LS, hLS⟩ : ∃ LS, LS = D.lst [lookD A, lookD B, lookD C] := ⟨_, rfl⟩
  obtain ⟨p', q', y4, y5, el⟩ := law_loop k (.lst (ns.map .int)) LS A B C E a b c hab hac hbc hE hLS ((List.range 6).map fun j => .int (0 + (j : Nat))) p q none none (by simp; omega)
  rw [← hLS] at ed ex oh fh
  obtain ⟨NS, hNS⟩ : ∃ NS : D, NS = .lst (ns.map .int) := ⟨_, rfl⟩
  rw [← hNS] at e0 el ⊢
  have is0 : isD (lookD E) .non = some false := rfl
  obtain ⟨DE, hDE⟩ : ∃ DE, DE = lookD E := ⟨_, rfl⟩
  rw [← hDE] at ex oh fh el is0
  refine ⟨_, run_of (sl' := [some (.val NS), some (.loc 1), some (.loc 2), some (.val DE), y4, y5]) (so' := [none, some (true, .lst [.int (p' : Nat), .int (q' : Nat)]), some (false, LS), none, none, none]) (fl := .rt (.val (.bl true))) rfl rfl ?_ rfl rfl⟩
  refine sq_nx (sl' := [some (.val NS), some (.loc 1), none, none, none, none]) (so' := [none, some (true, .lst [.int (c0 : Nat), .int (B0 : Nat)]), none, none, none, none]) (by simp -implicitDefEqProofs [runF, msOk, sl0, slS, so0, arS, arO, fins, outF, isM, callO, frzN, frz, frzs, mkArs, mkAr, liveAt, rdv, lives, endC, putFs, truD, asB, bnd_a, pur_a, lft_a, fVar_a, fC_a, f2_a, f1_a, fN_a, sq_a, bnS_a, bnT_a, sNx_a, sBk_a, sCt_a, sExp_a, sRet_a, sRetN_a, sIf_a, sSet_a, storV_a, storL_a, sSetX_a, sSetG_a, lfB_a, fTru_a, fAsB_a, fNot_a, fAnd_a, fOr_a, fNotV_a, fAndV_a, fOrV_a, fIf_a, fChain_a, fIsi_a, fNil_a, fCons_a, fCall_a, fM_a, fDct_a, fPartN_a, fPartS_a, fSl_a, fItm_a, fRng_a, sFor_a, for0_a, gNm_a, gNmC_a, fLr1_a, oSub_a, oFdiv_a, oMod_a, oPow_a, oShl_a, oShr_a, oAnd_a, oOr_a, oXor_a, oI_a, oB_a, oAdd_a, oMul_a, oEq_a, oNe_a, oIn_a, oIs_a, oIx_a, nTup_a, nLst_a, eqI, eqS, eqB, itmD, ty_ii, ty_bi, ty_tt, ty_ll, tyM, e0]) ?_
  refine sq_nx (sl' := [some (.val NS), some (.loc 1), some (.loc 2), none, none, none]) (so' := [none, some (true, .lst [.int (p : Nat), .int (q : Nat)]), some (true, LS), none, none, none]) (by simp -implicitDefEqProofs [runF, msOk, sl0, slS, so0, arS, arO, fins, outF, isM, callO, frzN, frz, frzs, mkArs, mkAr, liveAt, rdv, lives, endC, putFs, truD, asB, bnd_a, pur_a, lft_a, fVar_a, fC_a, f2_a, f1_a, fN_a, sq_a, bnS_a, bnT_a, sNx_a, sBk_a, sCt_a, sExp_a, sRet_a, sRetN_a, sIf_a, sSet_a, storV_a, storL_a, sSetX_a, sSetG_a, lfB_a, fTru_a, fAsB_a, fNot_a, fAnd_a, fOr_a, fNotV_a, fAndV_a, fOrV_a, fIf_a, fChain_a, fIsi_a, fNil_a, fCons_a, fCall_a, fM_a, fDct_a, fPartN_a, fPartS_a, fSl_a, fItm_a, fRng_a, sFor_a, for0_a, gNm_a, gNmC_a, fLr1_a, oSub_a, oFdiv_a, oMod_a, oPow_a, oShl_a, oShr_a, oAnd_a, oOr_a, oXor_a, oI_a, oB_a, oAdd_a, oMul_a, oEq_a, oNe_a, oIn_a, oIs_a, oIx_a, nTup_a, nLst_a, eqI, eqS, eqB, itmD, ty_ii, ty_bi, ty_tt, ty_ll, tyM, ed]) ?_
  refine sq_nx (sl' := [some (.val NS), some (.loc 1), some (.loc 2), some (.val DE), none, none]) (so' := [none, some (true, .lst [.int (p : Nat), .int (q : Nat)]), some (false, LS), none, none, none]) (by simp -implicitDefEqProofs [runF, msOk, sl0, slS, so0, arS, arO, fins, outF, isM, callO, frzN, frz, frzs, mkArs, mkAr, liveAt, rdv, lives, endC, putFs, truD, asB, bnd_a, pur_a, lft_a, fVar_a, fC_a, f2_a, f1_a, fN_a, sq_a, bnS_a, bnT_a, sNx_a, sBk_a, sCt_a, sExp_a, sRet_a, sRetN_a, sIf_a, sSet_a, storV_a, storL_a, sSetX_a, sSetG_a, lfB_a, fTru_a, fAsB_a, fNot_a, fAnd_a, fOr_a, fNotV_a, fAndV_a, fOrV_a, fIf_a, fChain_a, fIsi_a, fNil_a, fCons_a, fCall_a, fM_a, fDct_a, fPartN_a, fPartS_a, fSl_a, fItm_a, fRng_a, sFor_a, for0_a, gNm_a, gNmC_a, fLr1_a, oSub_a, oFdiv_a, oMod_a, oPow_a, oShl_a, oShr_a, oAnd_a, oOr_a, oXor_a, oI_a, oB_a, oAdd_a, oMul_a, oEq_a, oNe_a, oIn_a, oIs_a, oIx_a, nTup_a, nLst_a, eqI, eqS, eqB, itmD, ty_ii, ty_bi, ty_tt, ty_ll, tyM, ex]) ?_
  refine sq_nx (sl' := [some (.val NS), some (.loc 1), some (.loc 2), some (.val DE), none, none]) (so' := [none, some (true, .lst [.int (p : Nat), .int (q : Nat)]), some (false, LS), none, none, none]) (by simp -implicitDefEqProofs [runF, msOk, sl0, slS, so0, arS, arO, fins, outF, isM, callO, frzN, frz, frzs, mkArs, mkAr, liveAt, rdv, lives, endC, putFs, truD, asB, bnd_a, pur_a, lft_a, fVar_a, fC_a, f2_a, f1_a, fN_a, sq_a, bnS_a, bnT_a, sNx_a, sBk_a, sCt_a, sExp_a, sRet_a, sRetN_a, sIf_a, sSet_a, storV_a, storL_a, sSetX_a, sSetG_a, lfB_a, fTru_a, fAsB_a, fNot_a, fAnd_a, fOr_a, fNotV_a, fAndV_a, fOrV_a, fIf_a, fChain_a, fIsi_a, fNil_a, fCons_a, fCall_a, fM_a, fDct_a, fPartN_a, fPartS_a, fSl_a, fItm_a, fRng_a, sFor_a, for0_a, gNm_a, gNmC_a, fLr1_a, oSub_a, oFdiv_a, oMod_a, oPow_a, oShl_a, oShr_a, oAnd_a, oOr_a, oXor_a, oI_a, oB_a, oAdd_a, oMul_a, oEq_a, oNe_a, oIn_a, oIs_a, oIx_a, nTup_a, nLst_a, eqI, eqS, eqB, itmD, ty_ii, ty_bi, ty_tt, ty_ll, tyM, is0]) ?_
  refine sq_nx (sl' := [some (.val NS), some (.loc 1), some (.loc 2), some (.val DE), y4, y5]) (so' := [none, some (true, .lst [.int (p' : Nat), .int (q' : Nat)]), some (false, LS), none, none, none]) ?_ ?_
  · rw [sFor_a, bnT_a]
    erw [rng_c _ _ 6 (by decide)]
    exact el
  · simp -implicitDefEqProofs [runF, msOk, sl0, slS, so0, arS, arO, fins, outF, isM, callO, frzN, frz, frzs, mkArs, mkAr, liveAt, rdv, lives, endC, putFs, truD, asB, bnd_a, pur_a, lft_a, fVar_a, fC_a, f2_a, f1_a, fN_a, sq_a, bnS_a, bnT_a, sNx_a, sBk_a, sCt_a, sExp_a, sRet_a, sRetN_a, sIf_a, sSet_a, storV_a, storL_a, sSetX_a, sSetG_a, lfB_a, fTru_a, fAsB_a, fNot_a, fAnd_a, fOr_a, fNotV_a, fAndV_a, fOrV_a, fIf_a, fChain_a, fIsi_a, fNil_a, fCons_a, fCall_a, fM_a, fDct_a, fPartN_a, fPartS_a, fSl_a, fItm_a, fRng_a, sFor_a, for0_a, gNm_a, gNmC_a, fLr1_a, oSub_a, oFdiv_a, oMod_a, oPow_a, oShl_a, oShr_a, oAnd_a, oOr_a, oXor_a, oI_a, oB_a, oAdd_a, oMul_a, oEq_a, oNe_a, oIn_a, oIs_a, oIx_a, nTup_a, nLst_a, eqI, eqS, eqB, itmD, ty_ii, ty_bi, ty_tt, ty_ll, tyM, oh, fh]
end K63
end

section
set_option maxRecDepth 100000
namespace K63
open PySem L2 PySem.Spec BT
theorem dok0 {K : PySem.W.Frag} {f : Addr} {oc : Value} {od an : Option Addr} {sl : Array (Option Value)} {kV dc pm cd ct : Value} (a : PySem.W.nsIn K mainGlobals "is_integer" = some (some (.ref f))) (l : K.lookup f = some ⟨oc, od, .func (PySem.W.fnOf "is_integer" "is_integer" (defArgs (top 5)) (defBody (top 5)) (defScope (top 5)) .none kV dc pm an cd ct), sl⟩) (c : PySem.W.codeIn K cd "is_integer" = true) (kp : PySem.W.keepIn K (.ref f) = true) : DOk K d0 :=
  ⟨f, _, ["value"], "is_integer", a, fun_mk (st := top 5) l c kp, ⟨rfl, rfl, rfl, by decide +kernel, rfl, by decide +kernel, by decide +kernel⟩, rfl, (fun_mk (st := top 5) l c kp).binds (ps := ["value"]) fun _ _ _ _ _ _ us hl => match us, hl with | [_], _ => rfl⟩
theorem dok1 {K : PySem.W.Frag} {f : Addr} {oc : Value} {od an : Option Addr} {sl : Array (Option Value)} {kV dc pm cd ct : Value} (a : PySem.W.nsIn K mainGlobals "is_within" = some (some (.ref f))) (l : K.lookup f = some ⟨oc, od, .func (PySem.W.fnOf "is_within" "is_within" (defArgs (top 6)) (defBody (top 6)) (defScope (top 6)) .none kV dc pm an cd ct), sl⟩) (c : PySem.W.codeIn K cd "is_within" = true) (kp : PySem.W.keepIn K (.ref f) = true) : DOk K d1 :=
  ⟨f, _, ["value", "low", "high"], "is_within", a, fun_mk (st := top 6) l c kp, ⟨rfl, rfl, rfl, by decide +kernel, rfl, by decide +kernel, by decide +kernel⟩, rfl, (fun_mk (st := top 6) l c kp).binds (ps := ["value", "low", "high"]) fun _ _ _ _ _ _ us hl => match us, hl with | [_, _, _], _ => rfl⟩
theorem dok2 {K : PySem.W.Frag} {f : Addr} {oc : Value} {od an : Option Addr} {sl : Array (Option Value)} {kV dc pm cd ct : Value} (a : PySem.W.nsIn K mainGlobals "is_bit" = some (some (.ref f))) (l : K.lookup f = some ⟨oc, od, .func (PySem.W.fnOf "is_bit" "is_bit" (defArgs (top 7)) (defBody (top 7)) (defScope (top 7)) .none kV dc pm an cd ct), sl⟩) (c : PySem.W.codeIn K cd "is_bit" = true) (kp : PySem.W.keepIn K (.ref f) = true) : DOk K d2 :=
  ⟨f, _, ["value"], "is_bit", a, fun_mk (st := top 7) l c kp, ⟨rfl, rfl, rfl, by decide +kernel, rfl, by decide +kernel, by decide +kernel⟩, rfl, (fun_mk (st := top 7) l c kp).binds (ps := ["value"]) fun _ _ _ _ _ _ us hl => match us, hl with | [_], _ => rfl⟩
theorem dok3 {K : PySem.W.Frag} {f : Addr} {oc : Value} {od an : Option Addr} {sl : Array (Option Value)} {kV dc pm cd ct : Value} (a : PySem.W.nsIn K mainGlobals "is_lot_of" = some (some (.ref f))) (l : K.lookup f = some ⟨oc, od, .func (PySem.W.fnOf "is_lot_of" "is_lot_of" (defArgs (top 8)) (defBody (top 8)) (defScope (top 8)) .none kV dc pm an cd ct), sl⟩) (c : PySem.W.codeIn K cd "is_lot_of" = true) (kp : PySem.W.keepIn K (.ref f) = true) : DOk K d3 :=
  ⟨f, _, ["value", "size"], "is_lot_of", a, fun_mk (st := top 8) l c kp, ⟨rfl, rfl, rfl, by decide +kernel, rfl, by decide +kernel, by decide +kernel⟩, rfl, (fun_mk (st := top 8) l c kp).binds (ps := ["value", "size"]) fun _ _ _ _ _ _ us hl => match us, hl with | [_, _], _ => rfl⟩
theorem dok4 {K : PySem.W.Frag} {f : Addr} {oc : Value} {od an : Option Addr} {sl : Array (Option Value)} {kV dc pm cd ct : Value} (a : PySem.W.nsIn K mainGlobals "mask_of" = some (some (.ref f))) (l : K.lookup f = some ⟨oc, od, .func (PySem.W.fnOf "mask_of" "mask_of" (defArgs (top 10)) (defBody (top 10)) (defScope (top 10)) .none kV dc pm an cd ct), sl⟩) (c : PySem.W.codeIn K cd "mask_of" = true) (kp : PySem.W.keepIn K (.ref f) = true) : DOk K d4 :=
  ⟨f, _, ["lot"], "mask_of", a, fun_mk (st := top 10) l c kp, ⟨rfl, rfl, rfl, by decide +kernel, rfl, by decide +kernel, by decide +kernel⟩, rfl, (fun_mk (st := top 10) l c kp).binds (ps := ["lot"]) fun _ _ _ _ _ _ us hl => match us, hl with | [_], _ => rfl⟩
theorem dok5 {K : PySem.W.Frag} {f : Addr} {oc : Value} {od an : Option Addr} {sl : Array (Option Value)} {kV dc pm cd ct : Value} (a : PySem.W.nsIn K mainGlobals "lot_of" = some (some (.ref f))) (l : K.lookup f = some ⟨oc, od, .func (PySem.W.fnOf "lot_of" "lot_of" (defArgs (top 11)) (defBody (top 11)) (defScope (top 11)) .none kV dc pm an cd ct), sl⟩) (c : PySem.W.codeIn K cd "lot_of" = true) (kp : PySem.W.keepIn K (.ref f) = true) : DOk K d5 :=
  ⟨f, _, ["mask"], "lot_of", a, fun_mk (st := top 11) l c kp, ⟨rfl, rfl, rfl, by decide +kernel, rfl, by decide +kernel, by decide +kernel⟩, rfl, (fun_mk (st := top 11) l c kp).binds (ps := ["mask"]) fun _ _ _ _ _ _ us hl => match us, hl with | [_], _ => rfl⟩
theorem dok6 {K : PySem.W.Frag} {f : Addr} {oc : Value} {od an : Option Addr} {sl : Array (Option Value)} {kV dc pm cd ct : Value} (a : PySem.W.nsIn K mainGlobals "ones" = some (some (.ref f))) (l : K.lookup f = some ⟨oc, od, .func (PySem.W.fnOf "ones" "ones" (defArgs (top 12)) (defBody (top 12)) (defScope (top 12)) .none kV dc pm an cd ct), sl⟩) (c : PySem.W.codeIn K cd "ones" = true) (kp : PySem.W.keepIn K (.ref f) = true) : DOk K d6 :=
  ⟨f, _, ["mask"], "ones", a, fun_mk (st := top 12) l c kp, ⟨rfl, rfl, rfl, by decide +kernel, rfl, by decide +kernel, by decide +kernel⟩, rfl, (fun_mk (st := top 12) l c kp).binds (ps := ["mask"]) fun _ _ _ _ _ _ us hl => match us, hl with | [_], _ => rfl⟩
theorem dok7 {K : PySem.W.Frag} {f : Addr} {oc : Value} {od an : Option Addr} {sl : Array (Option Value)} {kV dc pm cd ct : Value} (a : PySem.W.nsIn K mainGlobals "least" = some (some (.ref f))) (l : K.lookup f = some ⟨oc, od, .func (PySem.W.fnOf "least" "least" (defArgs (top 13)) (defBody (top 13)) (defScope (top 13)) .none kV dc pm an cd ct), sl⟩) (c : PySem.W.codeIn K cd "least" = true) (kp : PySem.W.keepIn K (.ref f) = true) : DOk K d7 :=
  ⟨f, _, ["mask"], "least", a, fun_mk (st := top 13) l c kp, ⟨rfl, rfl, rfl, by decide +kernel, rfl, by decide +kernel, by decide +kernel⟩, rfl, (fun_mk (st := top 13) l c kp).binds (ps := ["mask"]) fun _ _ _ _ _ _ us hl => match us, hl with | [_], _ => rfl⟩
theorem dok8 {K : PySem.W.Frag} {f : Addr} {oc : Value} {od an : Option Addr} {sl : Array (Option Value)} {kV dc pm cd ct : Value} (a : PySem.W.nsIn K mainGlobals "masks_of" = some (some (.ref f))) (l : K.lookup f = some ⟨oc, od, .func (PySem.W.fnOf "masks_of" "masks_of" (defArgs (top 15)) (defBody (top 15)) (defScope (top 15)) .none kV dc pm an cd ct), sl⟩) (c : PySem.W.codeIn K cd "masks_of" = true) (kp : PySem.W.keepIn K (.ref f) = true) : DOk K d8 :=
  ⟨f, _, ["look"], "masks_of", a, fun_mk (st := top 15) l c kp, ⟨rfl, rfl, rfl, by decide +kernel, rfl, by decide +kernel, by decide +kernel⟩, rfl, (fun_mk (st := top 15) l c kp).binds (ps := ["look"]) fun _ _ _ _ _ _ us hl => match us, hl with | [_], _ => rfl⟩
theorem dok9 {K : PySem.W.Frag} {f : Addr} {oc : Value} {od an : Option Addr} {sl : Array (Option Value)} {kV dc pm cd ct : Value} (a : PySem.W.nsIn K mainGlobals "look_of" = some (some (.ref f))) (l : K.lookup f = some ⟨oc, od, .func (PySem.W.fnOf "look_of" "look_of" (defArgs (top 16)) (defBody (top 16)) (defScope (top 16)) .none kV dc pm an cd ct), sl⟩) (c : PySem.W.codeIn K cd "look_of" = true) (kp : PySem.W.keepIn K (.ref f) = true) : DOk K d9 :=
  ⟨f, _, ["masks"], "look_of", a, fun_mk (st := top 16) l c kp, ⟨rfl, rfl, rfl, by decide +kernel, rfl, by decide +kernel, by decide +kernel⟩, rfl, (fun_mk (st := top 16) l c kp).binds (ps := ["masks"]) fun _ _ _ _ _ _ us hl => match us, hl with | [_], _ => rfl⟩
theorem dok10 {K : PySem.W.Frag} {f : Addr} {oc : Value} {od an : Option Addr} {sl : Array (Option Value)} {kV dc pm cd ct : Value} (a : PySem.W.nsIn K mainGlobals "go_together" = some (some (.ref f))) (l : K.lookup f = some ⟨oc, od, .func (PySem.W.fnOf "go_together" "go_together" (defArgs (top 17)) (defBody (top 17)) (defScope (top 17)) .none kV dc pm an cd ct), sl⟩) (c : PySem.W.codeIn K cd "go_together" = true) (kp : PySem.W.keepIn K (.ref f) = true) : DOk K d10 :=
  ⟨f, _, ["one", "other"], "go_together", a, fun_mk (st := top 17) l c kp, ⟨rfl, rfl, rfl, by decide +kernel, rfl, by decide +kernel, by decide +kernel⟩, rfl, (fun_mk (st := top 17) l c kp).binds (ps := ["one", "other"]) fun _ _ _ _ _ _ us hl => match us, hl with | [_, _], _ => rfl⟩
theorem dok11 {K : PySem.W.Frag} {f : Addr} {oc : Value} {od an : Option Addr} {sl : Array (Option Value)} {kV dc pm cd ct : Value} (a : PySem.W.nsIn K mainGlobals "quarters_of" = some (some (.ref f))) (l : K.lookup f = some ⟨oc, od, .func (PySem.W.fnOf "quarters_of" "quarters_of" (defArgs (top 18)) (defBody (top 18)) (defScope (top 18)) .none kV dc pm an cd ct), sl⟩) (c : PySem.W.codeIn K cd "quarters_of" = true) (kp : PySem.W.keepIn K (.ref f) = true) : DOk K d11 :=
  ⟨f, _, ["one", "other"], "quarters_of", a, fun_mk (st := top 18) l c kp, ⟨rfl, rfl, rfl, by decide +kernel, rfl, by decide +kernel, by decide +kernel⟩, rfl, (fun_mk (st := top 18) l c kp).binds (ps := ["one", "other"]) fun _ _ _ _ _ _ us hl => match us, hl with | [_, _], _ => rfl⟩
theorem dok12 {K : PySem.W.Frag} {f : Addr} {oc : Value} {od an : Option Addr} {sl : Array (Option Value)} {kV dc pm cd ct : Value} (a : PySem.W.nsIn K mainGlobals "product_of" = some (some (.ref f))) (l : K.lookup f = some ⟨oc, od, .func (PySem.W.fnOf "product_of" "product_of" (defArgs (top 19)) (defBody (top 19)) (defScope (top 19)) .none kV dc pm an cd ct), sl⟩) (c : PySem.W.codeIn K cd "product_of" = true) (kp : PySem.W.keepIn K (.ref f) = true) : DOk K d12 :=
  ⟨f, _, ["one", "other"], "product_of", a, fun_mk (st := top 19) l c kp, ⟨rfl, rfl, rfl, by decide +kernel, rfl, by decide +kernel, by decide +kernel⟩, rfl, (fun_mk (st := top 19) l c kp).binds (ps := ["one", "other"]) fun _ _ _ _ _ _ us hl => match us, hl with | [_, _], _ => rfl⟩
theorem dok13 {K : PySem.W.Frag} {f : Addr} {oc : Value} {od an : Option Addr} {sl : Array (Option Value)} {kV dc pm cd ct : Value} (a : PySem.W.nsIn K mainGlobals "is_look_of" = some (some (.ref f))) (l : K.lookup f = some ⟨oc, od, .func (PySem.W.fnOf "is_look_of" "is_look_of" (defArgs (top 22)) (defBody (top 22)) (defScope (top 22)) .none kV dc pm an cd ct), sl⟩) (c : PySem.W.codeIn K cd "is_look_of" = true) (kp : PySem.W.keepIn K (.ref f) = true) : DOk K d13 :=
  ⟨f, _, ["value", "wires"], "is_look_of", a, fun_mk (st := top 22) l c kp, ⟨rfl, rfl, rfl, by decide +kernel, rfl, by decide +kernel, by decide +kernel⟩, rfl, (fun_mk (st := top 22) l c kp).binds (ps := ["value", "wires"]) fun _ _ _ _ _ _ us hl => match us, hl with | [_, _], _ => rfl⟩
theorem dok14 {K : PySem.W.Frag} {f : Addr} {oc : Value} {od an : Option Addr} {sl : Array (Option Value)} {kV dc pm cd ct : Value} (a : PySem.W.nsIn K mainGlobals "check_look" = some (some (.ref f))) (l : K.lookup f = some ⟨oc, od, .func (PySem.W.fnOf "check_look" "check_look" (defArgs (top 23)) (defBody (top 23)) (defScope (top 23)) .none kV dc pm an cd ct), sl⟩) (c : PySem.W.codeIn K cd "check_look" = true) (kp : PySem.W.keepIn K (.ref f) = true) : DOk K d14 :=
  ⟨f, _, ["value", "wires"], "check_look", a, fun_mk (st := top 23) l c kp, ⟨rfl, rfl, rfl, by decide +kernel, rfl, by decide +kernel, by decide +kernel⟩, rfl, (fun_mk (st := top 23) l c kp).binds (ps := ["value", "wires"]) fun _ _ _ _ _ _ us hl => match us, hl with | [_, _], _ => rfl⟩
theorem dok15 {K : PySem.W.Frag} {f : Addr} {oc : Value} {od an : Option Addr} {sl : Array (Option Value)} {kV dc pm cd ct : Value} (a : PySem.W.nsIn K mainGlobals "times" = some (some (.ref f))) (l : K.lookup f = some ⟨oc, od, .func (PySem.W.fnOf "times" "times" (defArgs (top 24)) (defBody (top 24)) (defScope (top 24)) .none kV dc pm an cd ct), sl⟩) (c : PySem.W.codeIn K cd "times" = true) (kp : PySem.W.keepIn K (.ref f) = true) : DOk K d15 :=
  ⟨f, _, ["one", "other"], "times", a, fun_mk (st := top 24) l c kp, ⟨rfl, rfl, rfl, by decide +kernel, rfl, by decide +kernel, by decide +kernel⟩, rfl, (fun_mk (st := top 24) l c kp).binds (ps := ["one", "other"]) fun _ _ _ _ _ _ us hl => match us, hl with | [_, _], _ => rfl⟩
theorem dok16 {K : PySem.W.Frag} {f : Addr} {oc : Value} {od an : Option Addr} {sl : Array (Option Value)} {kV dc pm cd ct : Value} (a : PySem.W.nsIn K mainGlobals "_law_cell" = some (some (.ref f))) (l : K.lookup f = some ⟨oc, od, .func (PySem.W.fnOf "_law_cell" "_law_cell" (defArgs (top 26)) (defBody (top 26)) (defScope (top 26)) .none kV dc pm an cd ct), sl⟩) (c : PySem.W.codeIn K cd "_law_cell" = true) (kp : PySem.W.keepIn K (.ref f) = true) : DOk K d16 :=
  ⟨f, _, ["script", "k"], "_law_cell", a, fun_mk (st := top 26) l c kp, ⟨rfl, rfl, rfl, by decide +kernel, rfl, by decide +kernel, by decide +kernel⟩, rfl, (fun_mk (st := top 26) l c kp).binds (ps := ["script", "k"]) fun _ _ _ _ _ _ us hl => match us, hl with | [_, _], _ => rfl⟩
theorem dok17 {K : PySem.W.Frag} {f : Addr} {oc : Value} {od an : Option Addr} {sl : Array (Option Value)} {kV dc pm cd ct : Value} (a : PySem.W.nsIn K mainGlobals "_law_source" = some (some (.ref f))) (l : K.lookup f = some ⟨oc, od, .func (PySem.W.fnOf "_law_source" "_law_source" (defArgs (top 27)) (defBody (top 27)) (defScope (top 27)) .none kV dc pm an cd ct), sl⟩) (c : PySem.W.codeIn K cd "_law_source" = true) (kp : PySem.W.keepIn K (.ref f) = true) : DOk K d17 :=
  ⟨f, _, ["script", "k"], "_law_source", a, fun_mk (st := top 27) l c kp, ⟨rfl, rfl, rfl, by decide +kernel, rfl, by decide +kernel, by decide +kernel⟩, rfl, (fun_mk (st := top 27) l c kp).binds (ps := ["script", "k"]) fun _ _ _ _ _ _ us hl => match us, hl with | [_, _], _ => rfl⟩
theorem dok18 {K : PySem.W.Frag} {f : Addr} {oc : Value} {od an : Option Addr} {sl : Array (Option Value)} {kV dc pm cd ct : Value} (a : PySem.W.nsIn K mainGlobals "_law_draw" = some (some (.ref f))) (l : K.lookup f = some ⟨oc, od, .func (PySem.W.fnOf "_law_draw" "_law_draw" (defArgs (top 28)) (defBody (top 28)) (defScope (top 28)) .none kV dc pm an cd ct), sl⟩) (c : PySem.W.codeIn K cd "_law_draw" = true) (kp : PySem.W.keepIn K (.ref f) = true) : DOk K d18 :=
  ⟨f, _, ["source", "many"], "_law_draw", a, fun_mk (st := top 28) l c kp, ⟨rfl, rfl, rfl, by decide +kernel, rfl, by decide +kernel, by decide +kernel⟩, rfl, (fun_mk (st := top 28) l c kp).binds (ps := ["source", "many"]) fun _ _ _ _ _ _ us hl => match us, hl with | [_, _], _ => rfl⟩
theorem dok19 {K : PySem.W.Frag} {f : Addr} {oc : Value} {od an : Option Addr} {sl : Array (Option Value)} {kV dc pm cd ct : Value} (a : PySem.W.nsIn K mainGlobals "_law_lot" = some (some (.ref f))) (l : K.lookup f = some ⟨oc, od, .func (PySem.W.fnOf "_law_lot" "_law_lot" (defArgs (top 29)) (defBody (top 29)) (defScope (top 29)) .none kV dc pm an cd ct), sl⟩) (c : PySem.W.codeIn K cd "_law_lot" = true) (kp : PySem.W.keepIn K (.ref f) = true) : DOk K d19 :=
  ⟨f, _, ["mask"], "_law_lot", a, fun_mk (st := top 29) l c kp, ⟨rfl, rfl, rfl, by decide +kernel, rfl, by decide +kernel, by decide +kernel⟩, rfl, (fun_mk (st := top 29) l c kp).binds (ps := ["mask"]) fun _ _ _ _ _ _ us hl => match us, hl with | [_], _ => rfl⟩
theorem dok20 {K : PySem.W.Frag} {f : Addr} {oc : Value} {od an : Option Addr} {sl : Array (Option Value)} {kV dc pm cd ct : Value} (a : PySem.W.nsIn K mainGlobals "_law_mask" = some (some (.ref f))) (l : K.lookup f = some ⟨oc, od, .func (PySem.W.fnOf "_law_mask" "_law_mask" (defArgs (top 30)) (defBody (top 30)) (defScope (top 30)) .none kV dc pm an cd ct), sl⟩) (c : PySem.W.codeIn K cd "_law_mask" = true) (kp : PySem.W.keepIn K (.ref f) = true) : DOk K d20 :=
  ⟨f, _, ["lot"], "_law_mask", a, fun_mk (st := top 30) l c kp, ⟨rfl, rfl, rfl, by decide +kernel, rfl, by decide +kernel, by decide +kernel⟩, rfl, (fun_mk (st := top 30) l c kp).binds (ps := ["lot"]) fun _ _ _ _ _ _ us hl => match us, hl with | [_], _ => rfl⟩
theorem dok21 {K : PySem.W.Frag} {f : Addr} {oc : Value} {od an : Option Addr} {sl : Array (Option Value)} {kV dc pm cd ct : Value} (a : PySem.W.nsIn K mainGlobals "_law_ones" = some (some (.ref f))) (l : K.lookup f = some ⟨oc, od, .func (PySem.W.fnOf "_law_ones" "_law_ones" (defArgs (top 31)) (defBody (top 31)) (defScope (top 31)) .none kV dc pm an cd ct), sl⟩) (c : PySem.W.codeIn K cd "_law_ones" = true) (kp : PySem.W.keepIn K (.ref f) = true) : DOk K d21 :=
  ⟨f, _, ["mask"], "_law_ones", a, fun_mk (st := top 31) l c kp, ⟨rfl, rfl, rfl, by decide +kernel, rfl, by decide +kernel, by decide +kernel⟩, rfl, (fun_mk (st := top 31) l c kp).binds (ps := ["mask"]) fun _ _ _ _ _ _ us hl => match us, hl with | [_], _ => rfl⟩
theorem dok22 {K : PySem.W.Frag} {f : Addr} {oc : Value} {od an : Option Addr} {sl : Array (Option Value)} {kV dc pm cd ct : Value} (a : PySem.W.nsIn K mainGlobals "_law_goes" = some (some (.ref f))) (l : K.lookup f = some ⟨oc, od, .func (PySem.W.fnOf "_law_goes" "_law_goes" (defArgs (top 32)) (defBody (top 32)) (defScope (top 32)) .none kV dc pm an cd ct), sl⟩) (c : PySem.W.codeIn K cd "_law_goes" = true) (kp : PySem.W.keepIn K (.ref f) = true) : DOk K d22 :=
  ⟨f, _, ["first", "second"], "_law_goes", a, fun_mk (st := top 32) l c kp, ⟨rfl, rfl, rfl, by decide +kernel, rfl, by decide +kernel, by decide +kernel⟩, rfl, (fun_mk (st := top 32) l c kp).binds (ps := ["first", "second"]) fun _ _ _ _ _ _ us hl => match us, hl with | [_, _], _ => rfl⟩
theorem dok23 {K : PySem.W.Frag} {f : Addr} {oc : Value} {od an : Option Addr} {sl : Array (Option Value)} {kV dc pm cd ct : Value} (a : PySem.W.nsIn K mainGlobals "_law_shaped" = some (some (.ref f))) (l : K.lookup f = some ⟨oc, od, .func (PySem.W.fnOf "_law_shaped" "_law_shaped" (defArgs (top 33)) (defBody (top 33)) (defScope (top 33)) .none kV dc pm an cd ct), sl⟩) (c : PySem.W.codeIn K cd "_law_shaped" = true) (kp : PySem.W.keepIn K (.ref f) = true) : DOk K d23 :=
  ⟨f, _, ["source", "earlier"], "_law_shaped", a, fun_mk (st := top 33) l c kp, ⟨rfl, rfl, rfl, by decide +kernel, rfl, by decide +kernel, by decide +kernel⟩, rfl, (fun_mk (st := top 33) l c kp).binds (ps := ["source", "earlier"]) fun _ _ _ _ _ _ us hl => match us, hl with | [_, _], _ => rfl⟩
theorem dok24 {K : PySem.W.Frag} {f : Addr} {oc : Value} {od an : Option Addr} {sl : Array (Option Value)} {kV dc pm cd ct : Value} (a : PySem.W.nsIn K mainGlobals "_law_suits" = some (some (.ref f))) (l : K.lookup f = some ⟨oc, od, .func (PySem.W.fnOf "_law_suits" "_law_suits" (defArgs (top 34)) (defBody (top 34)) (defScope (top 34)) .none kV dc pm an cd ct), sl⟩) (c : PySem.W.codeIn K cd "_law_suits" = true) (kp : PySem.W.keepIn K (.ref f) = true) : DOk K d24 :=
  ⟨f, _, ["code", "earlier"], "_law_suits", a, fun_mk (st := top 34) l c kp, ⟨rfl, rfl, rfl, by decide +kernel, rfl, by decide +kernel, by decide +kernel⟩, rfl, (fun_mk (st := top 34) l c kp).binds (ps := ["code", "earlier"]) fun _ _ _ _ _ _ us hl => match us, hl with | [_, _], _ => rfl⟩
theorem dok25 {K : PySem.W.Frag} {f : Addr} {oc : Value} {od an : Option Addr} {sl : Array (Option Value)} {kV dc pm cd ct : Value} (a : PySem.W.nsIn K mainGlobals "_law_fitted" = some (some (.ref f))) (l : K.lookup f = some ⟨oc, od, .func (PySem.W.fnOf "_law_fitted" "_law_fitted" (defArgs (top 35)) (defBody (top 35)) (defScope (top 35)) .none kV dc pm an cd ct), sl⟩) (c : PySem.W.codeIn K cd "_law_fitted" = true) (kp : PySem.W.keepIn K (.ref f) = true) : DOk K d25 :=
  ⟨f, _, ["code", "earlier"], "_law_fitted", a, fun_mk (st := top 35) l c kp, ⟨rfl, rfl, rfl, by decide +kernel, rfl, by decide +kernel, by decide +kernel⟩, rfl, (fun_mk (st := top 35) l c kp).binds (ps := ["code", "earlier"]) fun _ _ _ _ _ _ us hl => match us, hl with | [_, _], _ => rfl⟩
theorem dok26 {K : PySem.W.Frag} {f : Addr} {oc : Value} {od an : Option Addr} {sl : Array (Option Value)} {kV dc pm cd ct : Value} (a : PySem.W.nsIn K mainGlobals "_law_drawn_looks" = some (some (.ref f))) (l : K.lookup f = some ⟨oc, od, .func (PySem.W.fnOf "_law_drawn_looks" "_law_drawn_looks" (defArgs (top 36)) (defBody (top 36)) (defScope (top 36)) .none kV dc pm an cd ct), sl⟩) (c : PySem.W.codeIn K cd "_law_drawn_looks" = true) (kp : PySem.W.keepIn K (.ref f) = true) : DOk K d26 :=
  ⟨f, _, ["source"], "_law_drawn_looks", a, fun_mk (st := top 36) l c kp, ⟨rfl, rfl, rfl, by decide +kernel, rfl, by decide +kernel, by decide +kernel⟩, rfl, (fun_mk (st := top 36) l c kp).binds (ps := ["source"]) fun _ _ _ _ _ _ us hl => match us, hl with | [_], _ => rfl⟩
theorem dok27 {K : PySem.W.Frag} {f : Addr} {oc : Value} {od an : Option Addr} {sl : Array (Option Value)} {kV dc pm cd ct : Value} (a : PySem.W.nsIn K mainGlobals "_law_moved" = some (some (.ref f))) (l : K.lookup f = some ⟨oc, od, .func (PySem.W.fnOf "_law_moved" "_law_moved" (defArgs (top 37)) (defBody (top 37)) (defScope (top 37)) .none kV dc pm an cd ct), sl⟩) (c : PySem.W.codeIn K cd "_law_moved" = true) (kp : PySem.W.keepIn K (.ref f) = true) : DOk K d27 :=
  ⟨f, _, ["look", "start"], "_law_moved", a, fun_mk (st := top 37) l c kp, ⟨rfl, rfl, rfl, by decide +kernel, rfl, by decide +kernel, by decide +kernel⟩, rfl, (fun_mk (st := top 37) l c kp).binds (ps := ["look", "start"]) fun _ _ _ _ _ _ us hl => match us, hl with | [_, _], _ => rfl⟩
theorem dok28 {K : PySem.W.Frag} {f : Addr} {oc : Value} {od an : Option Addr} {sl : Array (Option Value)} {kV dc pm cd ct : Value} (a : PySem.W.nsIn K mainGlobals "_law_moved_by_all" = some (some (.ref f))) (l : K.lookup f = some ⟨oc, od, .func (PySem.W.fnOf "_law_moved_by_all" "_law_moved_by_all" (defArgs (top 38)) (defBody (top 38)) (defScope (top 38)) .none kV dc pm an cd ct), sl⟩) (c : PySem.W.codeIn K cd "_law_moved_by_all" = true) (kp : PySem.W.keepIn K (.ref f) = true) : DOk K d28 :=
  ⟨f, _, ["looks", "index"], "_law_moved_by_all", a, fun_mk (st := top 38) l c kp, ⟨rfl, rfl, rfl, by decide +kernel, rfl, by decide +kernel, by decide +kernel⟩, rfl, (fun_mk (st := top 38) l c kp).binds (ps := ["looks", "index"]) fun _ _ _ _ _ _ us hl => match us, hl with | [_, _], _ => rfl⟩
theorem dok29 {K : PySem.W.Frag} {f : Addr} {oc : Value} {od an : Option Addr} {sl : Array (Option Value)} {kV dc pm cd ct : Value} (a : PySem.W.nsIn K mainGlobals "_law_expected" = some (some (.ref f))) (l : K.lookup f = some ⟨oc, od, .func (PySem.W.fnOf "_law_expected" "_law_expected" (defArgs (top 39)) (defBody (top 39)) (defScope (top 39)) .none kV dc pm an cd ct), sl⟩) (c : PySem.W.codeIn K cd "_law_expected" = true) (kp : PySem.W.keepIn K (.ref f) = true) : DOk K d29 :=
  ⟨f, _, ["looks"], "_law_expected", a, fun_mk (st := top 39) l c kp, ⟨rfl, rfl, rfl, by decide +kernel, rfl, by decide +kernel, by decide +kernel⟩, rfl, (fun_mk (st := top 39) l c kp).binds (ps := ["looks"]) fun _ _ _ _ _ _ us hl => match us, hl with | [_], _ => rfl⟩
theorem dok30 {K : PySem.W.Frag} {f : Addr} {oc : Value} {od an : Option Addr} {sl : Array (Option Value)} {kV dc pm cd ct : Value} (a : PySem.W.nsIn K mainGlobals "_law_orders_hold" = some (some (.ref f))) (l : K.lookup f = some ⟨oc, od, .func (PySem.W.fnOf "_law_orders_hold" "_law_orders_hold" (defArgs (top 40)) (defBody (top 40)) (defScope (top 40)) .none kV dc pm an cd ct), sl⟩) (c : PySem.W.codeIn K cd "_law_orders_hold" = true) (kp : PySem.W.keepIn K (.ref f) = true) : DOk K d30 :=
  ⟨f, _, ["looks", "expected"], "_law_orders_hold", a, fun_mk (st := top 40) l c kp, ⟨rfl, rfl, rfl, by decide +kernel, rfl, by decide +kernel, by decide +kernel⟩, rfl, (fun_mk (st := top 40) l c kp).binds (ps := ["looks", "expected"]) fun _ _ _ _ _ _ us hl => match us, hl with | [_, _], _ => rfl⟩
theorem dok31 {K : PySem.W.Frag} {f : Addr} {oc : Value} {od an : Option Addr} {sl : Array (Option Value)} {kV dc pm cd ct : Value} (a : PySem.W.nsIn K mainGlobals "_law_facts_hold" = some (some (.ref f))) (l : K.lookup f = some ⟨oc, od, .func (PySem.W.fnOf "_law_facts_hold" "_law_facts_hold" (defArgs (top 41)) (defBody (top 41)) (defScope (top 41)) .none kV dc pm an cd ct), sl⟩) (c : PySem.W.codeIn K cd "_law_facts_hold" = true) (kp : PySem.W.keepIn K (.ref f) = true) : DOk K d31 :=
  ⟨f, _, ["looks", "expected"], "_law_facts_hold", a, fun_mk (st := top 41) l c kp, ⟨rfl, rfl, rfl, by decide +kernel, rfl, by decide +kernel, by decide +kernel⟩, rfl, (fun_mk (st := top 41) l c kp).binds (ps := ["looks", "expected"]) fun _ _ _ _ _ _ us hl => match us, hl with | [_, _], _ => rfl⟩
theorem dok32 {K : PySem.W.Frag} {f : Addr} {oc : Value} {od an : Option Addr} {sl : Array (Option Value)} {kV dc pm cd ct : Value} (a : PySem.W.nsIn K mainGlobals "law" = some (some (.ref f))) (l : K.lookup f = some ⟨oc, od, .func (PySem.W.fnOf "law" "law" (defArgs (top 42)) (defBody (top 42)) (defScope (top 42)) .none kV dc pm an cd ct), sl⟩) (c : PySem.W.codeIn K cd "law" = true) (kp : PySem.W.keepIn K (.ref f) = true) : DOk K d32 :=
  ⟨f, _, ["script"], "law", a, fun_mk (st := top 42) l c kp, ⟨rfl, rfl, rfl, by decide +kernel, rfl, by decide +kernel, by decide +kernel⟩, rfl, (fun_mk (st := top 42) l c kp).binds (ps := ["script"]) fun _ _ _ _ _ _ us hl => match us, hl with | [_], _ => rfl⟩
end K63

open PySem PySem.W PyProof.Rows in
set_option maxRecDepth 100000 in
set_option maxHeartbeats 0 in
theorem PySem.Challenge.cw_blindtwins_k63_whole_three_factors_holds : PySem.Challenge.rw_blindtwins_k63_whole_three_factors.Holds := by
  w_on; o_law; k_head; (case hw => w_witness2)
  k_fill
  refine BT.walkG (l := PySem.Challenge.rw_blindtwins_k63_whole_three_factors) K63.ds K63.glb 32 K63.d32 rfl rfl rfl rfl rfl (fun w h Y => PySem.W.kIn_of Y) ?tx (fun ns _ => K63.law_ok 42 ns)
  case tx =>
    intro w mg h KX G
    refine BT.txt_of KX G ((.cons ?zd0 (.cons ?zd1 (.cons ?zd2 (.cons ?zd3 (.cons ?zd4 (.cons ?zd5 (.cons ?zd6 (.cons ?zd7 (.cons ?zd8 (.cons ?zd9 (.cons ?zd10 (.cons ?zd11 (.cons ?zd12 (.cons ?zd13 (.cons ?zd14 (.cons ?zd15 (.cons ?zd16 (.cons ?zd17 (.cons ?zd18 (.cons ?zd19 (.cons ?zd20 (.cons ?zd21 (.cons ?zd22 (.cons ?zd23 (.cons ?zd24 (.cons ?zd25 (.cons ?zd26 (.cons ?zd27 (.cons ?zd28 (.cons ?zd29 (.cons ?zd30 (.cons ?zd31 (.cons ?zd32 .nil)))))))))))))))))))))))))))))))))) (.cons ?zg0 .nil) (.cons ?zb0 (.cons ?zb1 (.cons ?zb2 (.cons ?zb3 (.cons ?zb4 (.cons ?zb5 (.cons ?zb6 (.cons ?zb7 (.cons ?zb8 (.cons ?zb9 (.cons ?zb10 (.cons ?zb11 (.cons ?zb12 (.cons ?zb13 (.cons ?zb14 (.cons ?zb15 (.cons ?zb16 .nil)))))))))))))))))
    case zd0 =>
      refine' K63.dok0 ?za ?zl ?zc ?zk
      (case za => k_is); (case zl => k_is); (case zc => k_is); (case zk => k_is)
    case zd1 =>
      refine' K63.dok1 ?za ?zl ?zc ?zk
      (case za => k_is); (case zl => k_is); (case zc => k_is); (case zk => k_is)
    case zd2 =>
      refine' K63.dok2 ?za ?zl ?zc ?zk
      (case za => k_is); (case zl => k_is); (case zc => k_is); (case zk => k_is)
    case zd3 =>
      refine' K63.dok3 ?za ?zl ?zc ?zk
      (case za => k_is); (case zl => k_is); (case zc => k_is); (case zk => k_is)
    case zd4 =>
      refine' K63.dok4 ?za ?zl ?zc ?zk
      (case za => k_is); (case zl => k_is); (case zc => k_is); (case zk => k_is)
    case zd5 =>
      refine' K63.dok5 ?za ?zl ?zc ?zk
      (case za => k_is); (case zl => k_is); (case zc => k_is); (case zk => k_is)
    case zd6 =>
      refine' K63.dok6 ?za ?zl ?zc ?zk
      (case za => k_is); (case zl => k_is); (case zc => k_is); (case zk => k_is)
    case zd7 =>
      refine' K63.dok7 ?za ?zl ?zc ?zk
      (case za => k_is); (case zl => k_is); (case zc => k_is); (case zk => k_is)
    case zd8 =>
      refine' K63.dok8 ?za ?zl ?zc ?zk
      (case za => k_is); (case zl => k_is); (case zc => k_is); (case zk => k_is)
    case zd9 =>
      refine' K63.dok9 ?za ?zl ?zc ?zk
      (case za => k_is); (case zl => k_is); (case zc => k_is); (case zk => k_is)
    case zd10 =>
      refine' K63.dok10 ?za ?zl ?zc ?zk
      (case za => k_is); (case zl => k_is); (case zc => k_is); (case zk => k_is)
    case zd11 =>
      refine' K63.dok11 ?za ?zl ?zc ?zk
      (case za => k_is); (case zl => k_is); (case zc => k_is); (case zk => k_is)
    case zd12 =>
      refine' K63.dok12 ?za ?zl ?zc ?zk
      (case za => k_is); (case zl => k_is); (case zc => k_is); (case zk => k_is)
    case zd13 =>
      refine' K63.dok13 ?za ?zl ?zc ?zk
      (case za => k_is); (case zl => k_is); (case zc => k_is); (case zk => k_is)
    case zd14 =>
      refine' K63.dok14 ?za ?zl ?zc ?zk
      (case za => k_is); (case zl => k_is); (case zc => k_is); (case zk => k_is)
    case zd15 =>
      refine' K63.dok15 ?za ?zl ?zc ?zk
      (case za => k_is); (case zl => k_is); (case zc => k_is); (case zk => k_is)
    case zd16 =>
      refine' K63.dok16 ?za ?zl ?zc ?zk
      (case za => k_is); (case zl => k_is); (case zc => k_is); (case zk => k_is)
    case zd17 =>
      refine' K63.dok17 ?za ?zl ?zc ?zk
      (case za => k_is); (case zl => k_is); (case zc => k_is); (case zk => k_is)
    case zd18 =>
      refine' K63.dok18 ?za ?zl ?zc ?zk
      (case za => k_is); (case zl => k_is); (case zc => k_is); (case zk => k_is)
    case zd19 =>
      refine' K63.dok19 ?za ?zl ?zc ?zk
      (case za => k_is); (case zl => k_is); (case zc => k_is); (case zk => k_is)
    case zd20 =>
      refine' K63.dok20 ?za ?zl ?zc ?zk
      (case za => k_is); (case zl => k_is); (case zc => k_is); (case zk => k_is)
    case zd21 =>
      refine' K63.dok21 ?za ?zl ?zc ?zk
      (case za => k_is); (case zl => k_is); (case zc => k_is); (case zk => k_is)
    case zd22 =>
      refine' K63.dok22 ?za ?zl ?zc ?zk
      (case za => k_is); (case zl => k_is); (case zc => k_is); (case zk => k_is)
    case zd23 =>
      refine' K63.dok23 ?za ?zl ?zc ?zk
      (case za => k_is); (case zl => k_is); (case zc => k_is); (case zk => k_is)
    case zd24 =>
      refine' K63.dok24 ?za ?zl ?zc ?zk
      (case za => k_is); (case zl => k_is); (case zc => k_is); (case zk => k_is)
    case zd25 =>
      refine' K63.dok25 ?za ?zl ?zc ?zk
      (case za => k_is); (case zl => k_is); (case zc => k_is); (case zk => k_is)
    case zd26 =>
      refine' K63.dok26 ?za ?zl ?zc ?zk
      (case za => k_is); (case zl => k_is); (case zc => k_is); (case zk => k_is)
    case zd27 =>
      refine' K63.dok27 ?za ?zl ?zc ?zk
      (case za => k_is); (case zl => k_is); (case zc => k_is); (case zk => k_is)
    case zd28 =>
      refine' K63.dok28 ?za ?zl ?zc ?zk
      (case za => k_is); (case zl => k_is); (case zc => k_is); (case zk => k_is)
    case zd29 =>
      refine' K63.dok29 ?za ?zl ?zc ?zk
      (case za => k_is); (case zl => k_is); (case zc => k_is); (case zk => k_is)
    case zd30 =>
      refine' K63.dok30 ?za ?zl ?zc ?zk
      (case za => k_is); (case zl => k_is); (case zc => k_is); (case zk => k_is)
    case zd31 =>
      refine' K63.dok31 ?za ?zl ?zc ?zk
      (case za => k_is); (case zl => k_is); (case zc => k_is); (case zk => k_is)
    case zd32 =>
      refine' K63.dok32 ?za ?zl ?zc ?zk
      (case za => k_is); (case zl => k_is); (case zc => k_is); (case zk => k_is)
    case zg0 => exact BT.cok_int (by k_is)
    case zb0 => show PySem.W.nsIn _ mainGlobals "len" = some none; k_is
    case zb1 => show PySem.W.nsIn _ mainGlobals "int" = some none; k_is
    case zb2 => show PySem.W.nsIn _ mainGlobals "abs" = some none; k_is
    case zb3 => show PySem.W.nsIn _ mainGlobals "sum" = some none; k_is
    case zb4 => show PySem.W.nsIn _ mainGlobals "any" = some none; k_is
    case zb5 => show PySem.W.nsIn _ mainGlobals "all" = some none; k_is
    case zb6 => show PySem.W.nsIn _ mainGlobals "tuple" = some none; k_is
    case zb7 => show PySem.W.nsIn _ mainGlobals "list" = some none; k_is
    case zb8 => show PySem.W.nsIn _ mainGlobals "repr" = some none; k_is
    case zb9 => show PySem.W.nsIn _ mainGlobals "sorted" = some none; k_is
    case zb10 => show PySem.W.nsIn _ mainGlobals "max" = some none; k_is
    case zb11 => show PySem.W.nsIn _ mainGlobals "min" = some none; k_is
    case zb12 => show PySem.W.nsIn _ mainGlobals "isinstance" = some none; k_is
    case zb13 => show PySem.W.nsIn _ mainGlobals "range" = some none; k_is
    case zb14 => show PySem.W.nsIn _ mainGlobals "bool" = some none; k_is
    case zb15 => show PySem.W.nsIn _ mainGlobals "str" = some none; k_is
    case zb16 => show PySem.W.nsIn _ mainGlobals "dict" = some none; k_is
end
