import PyProof.Rows.All
import Wide.All
import OpenK.AllK
import Wide.FinOn
import HandS.ForMost
import HandS.Rev
import HandS.IsInst
import HandS.Style
import HandS.Conv
import KE.GoesEnum
import KE.KIndexOf
import PySem.Challenge.RW_trainring_k63_whole_full_yards
import KE.KTupSum
set_option Elab.async false
set_option linter.all false
set_option maxRecDepth 100000
set_option maxHeartbeats 4000000
/-! Layer A: values as data, environments as data; what an expression, a test, a walked thing, a statement is worth by data alone. -/
namespace Tr
open PySem PySem.Spec PyProof.Rows L2

inductive Dat where
  | none
  | bool (b : Bool)
  | int (i : Int)
  | list (xs : List Dat)
  | tup (xs : List Dat)
  | fz (ns : List Int)
  | raw (v : V)

abbrev Bd := Addr → Prop
mutual
inductive Dv (B : Bd) (H : Hp) : V → Dat → Prop
  | non : Dv B H .non .none
  | bl (b : Bool) : Dv B H (.bl b) (.bool b)
  | int (i : Int) : Dv B H (.int i) (.int i)
  | lst {a : Addr} {xs : List V} {ds : List Dat} : ¬ B a → H a = some (.lst xs) → Das B H xs ds → Dv B H (.ref a) (.list ds)
  | tup {a : Addr} {xs : List V} {ds : List Dat} : ¬ B a → H a = some (.tup xs) → Das B H xs ds → Dv B H (.ref a) (.tup ds)
  | fz {a : Addr} {o : Obj} {ns : List Int} : ¬ B a → H a = some (.frz o (.tup (ns.map V.int))) → o.dict = Option.none → Dv B H (.ref a) (.fz ns)
  | raw (v : V) : Dv B H v (.raw v)
inductive Das (B : Bd) (H : Hp) : List V → List Dat → Prop
  | nil : Das B H [] []
  | cons {v : V} {vs : List V} {d : Dat} {ds : List Dat} : Dv B H v d → Das B H vs ds → Das B H (v :: vs) (d :: ds)
end

structure Le (B : Bd) (H : Hp) (B' : Bd) (H' : Hp) : Prop where
  new : ∀ b, B' b → B b ∨ H b = Option.none
  old : ∀ b, B b → B' b
  keep : ∀ a o, ¬ B' a → H a = some o → H' a = some o
theorem Le.refl (B : Bd) (H : Hp) : Le B H B H := ⟨fun _ h => .inl h, fun _ h => h, fun _ _ _ h => h⟩
theorem Le.same {B : Bd} {H H' : Hp} (s : Same H H') : Le B H B H' := ⟨fun _ h => .inl h, fun _ h => h, fun a o _ h => s a o h⟩
theorem Le.trans {B B1 B2 : Bd} {H H1 H2 : Hp} (a : Le B H B1 H1) (b : Le B1 H1 B2 H2) : Le B H B2 H2 := by
  refine ⟨fun x h => ?_, fun x h => b.old x (a.old x h), fun x o hn h => b.keep x o hn (a.keep x o (fun z => hn (b.old x z)) h)⟩
  rcases b.new x h with h1 | h1
  · exact a.new x h1
  · by_cases hb : B x
    · exact .inl hb
    · cases e : H x with
      | none => exact .inr rfl
      | some o =>
        by_cases h2 : B1 x
        · rcases a.new x h2 with q | q
          · exact absurd q hb
          · rw [q] at e; cases e
        · rw [a.keep x o h2 e] at h1; cases h1
def Bp (B : Bd) (p : Addr) : Bd := fun b => B b ∨ b = p
theorem Le.new1 {B : Bd} {H : Hp} {p : Addr} {o : HO} (h : H p = Option.none) : Le B H (Bp B p) (upd H p o) := by
  refine ⟨fun b hb => ?_, fun b hb => .inl hb, fun a u hn e => ?_⟩
  · rcases hb with hb | rfl
    · exact .inl hb
    · exact .inr h
  · rw [upd_ne (fun z => hn (.inr z))]; exact e
theorem Le.mut {B : Bd} {H : Hp} {p : Addr} {o : HO} (h : B p) : Le B H B (upd H p o) :=
  ⟨fun b hb => .inl hb, fun b hb => hb, fun a u hn e => by rw [upd_ne (fun z => hn (by rw [z]; exact h))]; exact e⟩
/-- what is forbidden stands -/
def Ok (B : Bd) (H : Hp) : Prop := ∀ b, B b → H b ≠ Option.none
theorem Ok.same {B : Bd} {H H' : Hp} (k : Ok B H) (s : Same H H') : Ok B H' := fun b hb e => by
  cases q : H b with
  | none => exact k b hb q
  | some o => rw [s b o q] at e; cases e
theorem Ok.fresh {B : Bd} {H : Hp} {p : Addr} (k : Ok B H) (h : H p = Option.none) : ¬ B p := fun z => k p z h
theorem Ok.upd {B : Bd} {H : Hp} {p : Addr} {o : HO} (k : Ok B H) : Ok B (upd H p o) := fun b hb e => by
  by_cases h : b = p
  · subst h; rw [upd_same] at e; cases e
  · rw [upd_ne h] at e; exact k b hb e
theorem Ok.new1 {B : Bd} {H : Hp} {p : Addr} {o : HO} (k : Ok B H) : Ok (Bp B p) (L2.upd H p o) := fun b hb e => by
  rcases hb with hb | rfl
  · exact k.upd b hb e
  · rw [upd_same] at e; cases e
theorem same_new {H : Hp} {p : Addr} {o : HO} (h : H p = Option.none) : Same H (upd H p o) := fun b x e => by
  rw [upd_ne (ne_of_none e h)]; exact e

mutual
theorem Dv.le {B B' : Bd} {H H' : Hp} (l : Le B H B' H') : ∀ {v : V} {d : Dat}, Dv B H v d → Dv B' H' v d
  | _, _, .non => .non
  | _, _, .bl b => .bl b
  | _, _, .int i => .int i
  | _, _, .lst hb h r => by
    have hn : ¬ B' _ := fun z => (l.new _ z).elim hb (fun q => by rw [q] at h; cases h)
    exact .lst hn (l.keep _ _ hn h) (Das.le l r)
  | _, _, .tup hb h r => by
    have hn : ¬ B' _ := fun z => (l.new _ z).elim hb (fun q => by rw [q] at h; cases h)
    exact .tup hn (l.keep _ _ hn h) (Das.le l r)
  | _, _, .fz hb h r => by
    have hn : ¬ B' _ := fun z => (l.new _ z).elim hb (fun q => by rw [q] at h; cases h)
    exact .fz hn (l.keep _ _ hn h) r
  | _, _, .raw v => .raw v
theorem Das.le {B B' : Bd} {H H' : Hp} (l : Le B H B' H') : ∀ {vs : List V} {ds : List Dat}, Das B H vs ds → Das B' H' vs ds
  | _, _, .nil => .nil
  | _, _, .cons h r => .cons (Dv.le l h) (Das.le l r)
end
theorem Dv.same {B : Bd} {H H' : Hp} {v : V} {d : Dat} (h : Dv B H v d) (s : Same H H') : Dv B H' v d := h.le (.same s)
theorem Das.same {B : Bd} {H H' : Hp} {v : List V} {d : List Dat} (h : Das B H v d) (s : Same H H') : Das B H' v d := h.le (.same s)
theorem Das.length {B : Bd} {H : Hp} : ∀ {vs : List V} {ds : List Dat}, Das B H vs ds → vs.length = ds.length
  | _, _, .nil => rfl
  | _, _, .cons _ r => by rw [List.length_cons, List.length_cons, r.length]
theorem Das.get {B : Bd} {H : Hp} : ∀ {vs : List V} {ds : List Dat} {i : Nat} {d : Dat}, Das B H vs ds → ds[i]? = some d → ∃ v, vs[i]? = some v ∧ Dv B H v d
  | _, _, _, _, .nil, h => by simp at h
  | _, _, 0, _, .cons h _, e => ⟨_, rfl, by have := Option.some.inj e; subst this; exact h⟩
  | _, _, i + 1, _, .cons _ r, e => r.get (i := i) e
theorem Das.append {B : Bd} {H : Hp} : ∀ {vs ws : List V} {ds es : List Dat}, Das B H vs ds → Das B H ws es → Das B H (vs ++ ws) (ds ++ es)
  | _, _, _, _, .nil, h => h
  | _, _, _, _, .cons a r, h => .cons a (r.append h)
theorem Das.take {B : Bd} {H : Hp} : ∀ {vs : List V} {ds : List Dat} (n : Nat), Das B H vs ds → Das B H (vs.take n) (ds.take n)
  | _, _, 0, _ => .nil
  | _, _, _ + 1, .nil => .nil
  | _, _, n + 1, .cons h r => .cons h (r.take n)
theorem Das.drop {B : Bd} {H : Hp} : ∀ {vs : List V} {ds : List Dat} (n : Nat), Das B H vs ds → Das B H (vs.drop n) (ds.drop n)
  | _, _, 0, h => h
  | _, _, _ + 1, .nil => .nil
  | _, _, n + 1, .cons _ r => r.drop n
theorem das_ints {B : Bd} {H : Hp} : ∀ (ns : List Int), Das B H (ns.map V.int) (ns.map Dat.int)
  | [] => .nil
  | n :: r => .cons (.int n) (das_ints r)
theorem ints_das {B : Bd} {H : Hp} : ∀ (ns : List Int) {vs : List V}, Das B H vs (ns.map Dat.int) → vs = ns.map V.int
  | [], _, .nil => rfl
  | n :: r, _, .cons h t => by cases h; rw [ints_das r t]; rfl
theorem bools_das {B : Bd} {H : Hp} : ∀ (bs : List Bool) {vs : List V}, Das B H vs (bs.map Dat.bool) → vs = bs.map V.bl
  | [], _, .nil => rfl
  | n :: r, _, .cons h t => by cases h; rw [bools_das r t]; rfl

/-- tuples: their items -/
def tuI : Dat → Option (List Dat)
  | .tup ds => some ds
  | .fz ns => some (ns.map Dat.int)
  | _ => Option.none
theorem Dv.tu {B : Bd} {H : Hp} {v : V} {d : Dat} {ds : List Dat} (K : PySem.W.Frag) (h : Dv B H v d) (e : tuI d = some ds) : ∃ a xs, v = .ref a ∧ ¬ B a ∧ SqT K H a xs ∧ Das B H xs ds ∧ Rd H a (.tup xs) := by
  cases h with
  | tup hb h r => cases e; exact ⟨_, _, rfl, hb, .inl (.inl h), r, .inl h⟩
  | fz hb h r => cases e; exact ⟨_, _, rfl, hb, .inl (.inr ⟨_, h⟩), das_ints _, .inr ⟨_, h⟩⟩
  | _ => cases e
theorem Dv.ls {B : Bd} {H : Hp} {v : V} {ds : List Dat} (h : Dv B H v (.list ds)) : ∃ a xs, v = .ref a ∧ ¬ B a ∧ H a = some (.lst xs) ∧ Das B H xs ds := by
  cases h with
  | lst hb h r => exact ⟨_, _, rfl, hb, h, r⟩

/-! ### environments -/
abbrev Gam := List (Option Dat)
structure Sd (B : Bd) (σ : L2.St) (H : Hp) (Γ : Gam) : Prop where
  len : σ.length = Γ.length
  at_ : ∀ (i : Nat) (d : Dat), Γ[i]? = some (some d) → ∃ v, σ[i]? = some (some v) ∧ Dv B H v d
theorem Sd.le {B B' : Bd} {σ : L2.St} {H H' : Hp} {Γ : Gam} (s : Sd B σ H Γ) (l : Le B H B' H') : Sd B' σ H' Γ := ⟨s.len, fun i d h => let ⟨v, a, b⟩ := s.at_ i d h; ⟨v, a, b.le l⟩⟩
theorem Sd.same {B : Bd} {σ : L2.St} {H H' : Hp} {Γ : Gam} (s : Sd B σ H Γ) (l : Same H H') : Sd B σ H' Γ := s.le (.same l)
theorem Sd.set {B : Bd} {σ : L2.St} {H : Hp} {Γ : Gam} {v : V} {d : Dat} (s : Sd B σ H Γ) (i : Nat) (h : Dv B H v d) : Sd B (σ.set i (some v)) H (Γ.set i (some d)) := by
  refine ⟨by rw [List.length_set, List.length_set, s.len], fun j e q => ?_⟩
  by_cases hj : i = j
  · subst hj
    have hl : i < Γ.length := by
      have := (List.getElem?_eq_some_iff.mp q).1
      rw [List.length_set] at this; exact this
    rw [List.getElem?_set_self hl] at q
    cases q
    exact ⟨v, by rw [List.getElem?_set_self (by rw [s.len]; exact hl)], h⟩
  · rw [List.getElem?_set_ne hj] at q
    obtain ⟨w, a, b⟩ := s.at_ j e q
    exact ⟨w, by rw [List.getElem?_set_ne hj]; exact a, b⟩
/-- a slot that the data do not speak of -/
theorem Sd.setN {B : Bd} {σ : L2.St} {H : Hp} {Γ : Gam} {x : Option V} (s : Sd B σ H Γ) (i : Nat) : Sd B (σ.set i x) H (Γ.set i Option.none) := by
  refine ⟨by rw [List.length_set, List.length_set, s.len], fun j e q => ?_⟩
  by_cases hj : i = j
  · subst hj
    have hl : i < Γ.length := by
      have := (List.getElem?_eq_some_iff.mp q).1
      rw [List.length_set] at this; exact this
    rw [List.getElem?_set_self hl] at q
    cases q
  · rw [List.getElem?_set_ne hj] at q
    obtain ⟨w, a, b⟩ := s.at_ j e q
    exact ⟨w, by rw [List.getElem?_set_ne hj]; exact a, b⟩
def wG (Γ : Gam) : List Nat → Gam
  | [] => Γ
  | v :: vs => (wG Γ vs).set v Option.none
theorem Sd.wipe {B : Bd} {σ : L2.St} {H : Hp} {Γ : Gam} (s : Sd B σ H Γ) : ∀ vs : List Nat, Sd B (L2.wipe σ vs) H (wG Γ vs)
  | [] => s
  | v :: vs => (Sd.wipe s vs).setN v
theorem wipe_get {σ : L2.St} : ∀ (vs : List Nat) (i : Nat), (L2.wipe σ vs)[i]? = if i ∈ vs ∧ i < σ.length then some Option.none else σ[i]?
  | [], i => by simp [L2.wipe]
  | v :: vs, i => by
    show ((L2.wipe σ vs).set v Option.none)[i]? = _
    by_cases h : v = i
    · subst h
      by_cases hl : v < σ.length
      · rw [List.getElem?_set_self (by rw [wipe_length]; exact hl), if_pos ⟨by simp, hl⟩]
      · rw [if_neg (fun z => hl z.2), List.getElem?_eq_none (by rw [List.length_set, wipe_length]; omega), List.getElem?_eq_none (by omega)]
    · rw [List.getElem?_set_ne h, wipe_get vs i]
      have e : (i ∈ v :: vs) ↔ i ∈ vs := by simp [Ne.symm h]
      simp only [e]
theorem wipe_eq {σ σ2 : L2.St} {vs : List Nat} (hl : σ2.length = σ.length) (h : ∀ i, i ∉ vs → σ2[i]? = σ[i]?) : L2.wipe σ2 vs = L2.wipe σ vs := by
  apply List.ext_getElem?
  intro i
  rw [wipe_get, wipe_get, hl]
  by_cases hi : i ∈ vs
  · by_cases hb : i < σ.length
    · rw [if_pos ⟨hi, hb⟩, if_pos ⟨hi, hb⟩]
    · rw [if_neg (fun z => hb z.2), if_neg (fun z => hb z.2), List.getElem?_eq_none (by omega), List.getElem?_eq_none (by omega)]
  · rw [if_neg (fun z => hi z.1), if_neg (fun z => hi z.1), h i hi]
theorem wipe_idem (σ : L2.St) (vs : List Nat) : L2.wipe (L2.wipe σ vs) vs = L2.wipe σ vs :=
  wipe_eq (wipe_length _ _) fun i hi => by rw [wipe_get, if_neg (fun z => hi z.1)]

/-! ### what a reading is worth -/
def Eg (te : TE) (Γ : Gam) (d : Dat) : Prop := ∀ B σ H, Ok B H → Sd B σ H Γ → ∀ Q : VK, (∀ v H2, Same H H2 → Dv B H2 v d → Q v H2) → te σ H Q
def Tg (tt : TT) (Γ : Gam) (b : Bool) : Prop := ∀ B σ H, Ok B H → Sd B σ H Γ → ∀ Q : Bool → Hp → Prop, (∀ H2, Same H H2 → Q b H2) → tt σ H Q
def Ag (ta : TA) (Γ : Gam) (ds : List Dat) : Prop := ∀ B σ H, Ok B H → Sd B σ H Γ → ∀ Q : List V → Hp → Prop, (∀ vs H2, Same H H2 → Das B H2 vs ds → Q vs H2) → ta σ H Q
def Og (to : TO) (Γ : Gam) (o : Option Int) : Prop := ∀ B σ H, Ok B H → Sd B σ H Γ → ∀ Q : Option Int → Hp → Prop, (∀ H2, Same H H2 → Q o H2) → to σ H Q
def RG (r : R2) (d e f : Dat) : Prop := ∀ B H x y, Ok B H → Dv B H x d → Dv B H y e → ∀ Q : VK, (∀ v H2, Same H H2 → Dv B H2 v f → Q v H2) → r x y H Q
def UG (r : V → Hp → VK → Prop) (d f : Dat) : Prop := ∀ B H x, Ok B H → Dv B H x d → ∀ Q : VK, (∀ v H2, Same H H2 → Dv B H2 v f → Q v H2) → r x H Q
def CG (r : List V → Hp → VK → Prop) (ds : List Dat) (f : Dat) : Prop := ∀ B H xs, Ok B H → Das B H xs ds → ∀ Q : VK, (∀ v H2, Same H H2 → Dv B H2 v f → Q v H2) → r xs H Q

section
variable {Γ : Gam} {d e f : Dat} {ta tb tc te : TE} {K : PySem.W.Frag}
theorem eg_var {i : Nat} (h : Γ[i]? = some (some d)) : Eg (tVar i) Γ d := fun B σ H _ s Q q => let ⟨v, a, b⟩ := s.at_ i d h; ⟨v, a, q v H (.refl H) b⟩
theorem eg_int {i : Int} : Eg (tC (.int i)) Γ (.int i) := fun B σ H _ _ Q q => q _ H (.refl H) (.int i)
theorem eg_bl {i : Bool} : Eg (tC (.bl i)) Γ (.bool i) := fun B σ H _ _ Q q => q _ H (.refl H) (.bl i)
theorem eg_non : Eg (tC .non) Γ .none := fun B σ H _ _ Q q => q _ H (.refl H) .non
theorem eg_op {r : R2} (ha : Eg ta Γ d) (hb : Eg tb Γ e) (hr : RG r d e f) : Eg (tOp r ta tb) Γ f := fun B σ H k s Q q =>
  ha B σ H k s _ fun x H1 e1 r1 => hb B σ H1 (k.same e1) (s.same e1) _ fun y H2 e2 r2 => hr B H2 x y ((k.same e1).same e2) (r1.same e2) r2 Q fun v H3 e3 r3 => q v H3 ((e1.trans e2).trans e3) r3
theorem eg_un {r : V → Hp → VK → Prop} (ha : Eg ta Γ d) (hr : UG r d f) : Eg (tUn r ta) Γ f := fun B σ H k s Q q =>
  ha B σ H k s _ fun x H1 e1 r1 => hr B H1 x (k.same e1) r1 Q fun v H3 e3 r3 => q v H3 (e1.trans e3) r3
theorem eg_is (h : Eg te Γ d) (e' : d = e) : Eg te Γ e := e' ▸ h
theorem tg_is {t : TT} {a b : Bool} (h : Tg t Γ a) (e' : a = b) : Tg t Γ b := e' ▸ h
theorem eg_cb {r : List V → Hp → VK → Prop} {t : TA} {ds : List Dat} (h : Ag t Γ ds) (hr : CG r ds f) : Eg (tCB r t) Γ f := fun B σ H k s Q q =>
  h B σ H k s _ fun x H1 e1 r1 => hr B H1 x (k.same e1) r1 Q fun v H3 e3 r3 => q v H3 (e1.trans e3) r3
theorem ag_nil : Ag tNil Γ [] := fun B σ H _ _ Q q => q [] H (.refl H) .nil
theorem ag_cons {t : TA} {ds : List Dat} (h : Eg te Γ d) (hr : Ag t Γ ds) : Ag (tCons te t) Γ (d :: ds) := fun B σ H k s Q q =>
  h B σ H k s _ fun x H1 e1 r1 => hr B σ H1 (k.same e1) (s.same e1) _ fun xs H2 e2 r2 => q _ H2 (e1.trans e2) (.cons (r1.same e2) r2)
theorem sz40 {n : Nat} (h : n ≤ 40000) : n ≤ sizeLine := Nat.le_trans h (by decide)
theorem eg_tup {t : TA} {ds : List Dat} (h : Ag t Γ ds) (hz : ds.length ≤ 40000) : Eg (tTup t) Γ (.tup ds) := fun B σ H k s Q q =>
  h B σ H k s _ fun xs H1 e1 r1 => ⟨by rw [r1.length]; exact sz40 hz, fun p hp => q _ _ (e1.trans (same_new hp)) (.tup ((k.same e1).fresh hp) upd_same (r1.same (same_new hp)))⟩
theorem eg_lst {t : TA} {ds : List Dat} (h : Ag t Γ ds) (hz : ds.length ≤ 40000) : Eg (tLst t) Γ (.list ds) := fun B σ H k s Q q =>
  h B σ H k s _ fun xs H1 e1 r1 => ⟨by rw [r1.length]; exact sz40 hz, fun p hp => q _ _ (e1.trans (same_new hp)) (.lst ((k.same e1).fresh hp) upd_same (r1.same (same_new hp)))⟩
theorem eg_andV {a b : Bool} (h1 : Eg ta Γ (.bool a)) (h2 : a = true → Eg tb Γ (.bool b)) : Eg (tAndV ta tb) Γ (.bool (a && b)) := fun B σ H k s Q q =>
  h1 B σ H k s _ fun x H1 e1 r1 => by
    cases r1
    refine ⟨a, rfl, ?_⟩
    cases a with
    | false => exact iteF (q _ H1 e1 (.bl false))
    | true => exact iteT (h2 rfl B σ H1 (k.same e1) (s.same e1) Q fun v H2 e2 r2 => q v H2 (e1.trans e2) r2)
theorem eg_notV {a : Bool} (h1 : Eg ta Γ (.bool a)) : Eg (tNotV ta) Γ (.bool (!a)) := fun B σ H k s Q q =>
  h1 B σ H k s _ fun x H1 e1 r1 => by
    cases r1
    exact ⟨a, rfl, q _ H1 e1 (.bl _)⟩
theorem eg_if {t : TT} {b : Bool} (h : Tg t Γ b) (h1 : b = true → Eg ta Γ d) (h2 : b = false → Eg tb Γ d) : Eg (tIf t ta tb) Γ d := fun B σ H k s Q q =>
  h B σ H k s _ fun H1 e1 => by
    cases b with
    | true => exact iteT (h1 rfl B σ H1 (k.same e1) (s.same e1) Q fun v H2 e2 r2 => q v H2 (e1.trans e2) r2)
    | false => exact iteF (h2 rfl B σ H1 (k.same e1) (s.same e1) Q fun v H2 e2 r2 => q v H2 (e1.trans e2) r2)
theorem eg_chain {r r' : R2} {b c : Bool} (ha : Eg ta Γ d) (hb : Eg tb Γ e) (hc : b = true → Eg tc Γ f) (h1 : RG r d e (.bool b)) (h2 : b = true → RG r' e f (.bool c)) : Eg (tChain r r' ta tb tc) Γ (.bool (b && c)) := fun B σ H k s Q q =>
  ha B σ H k s _ fun x H1 e1 r1 => hb B σ H1 (k.same e1) (s.same e1) _ fun y H2 e2 r2 => h1 B H2 x y ((k.same e1).same e2) (r1.same e2) r2 _ fun z H3 e3 r3 => by
    cases r3
    refine ⟨b, rfl, ?_⟩
    have k3 : Ok B H3 := ((k.same e1).same e2).same e3
    have e13 : Same H H3 := (e1.trans e2).trans e3
    cases b with
    | false => exact iteF (q _ H3 e13 (.bl false))
    | true => exact iteT (hc rfl B σ H3 k3 (s.same e13) _ fun w H4 e4 r4 => h2 rfl B H4 y w (k3.same e4) (r2.same (e3.trans e4)) r4 Q fun v H5 e5 r5 => q v H5 ((e13.trans e4).trans e5) r5)
theorem tg_test {b : Bool} (h : Eg te Γ (.bool b)) : Tg (tTest te) Γ b := fun B σ H k s Q q => h B σ H k s _ fun v H1 e1 r1 => by cases r1; exact ⟨b, rfl, q H1 e1⟩
theorem tg_B {b : Bool} (h : Eg te Γ (.bool b)) : Tg (tB te) Γ b := fun B σ H k s Q q => h B σ H k s _ fun v H1 e1 r1 => by cases r1; exact ⟨b, rfl, q H1 e1⟩
theorem tg_yes : Tg tYes Γ true := fun B σ H k s Q q => q H (.refl H)
theorem tg_not {t : TT} {b : Bool} (h : Tg t Γ b) : Tg (tNot t) Γ (!b) := fun B σ H k s Q q => h B σ H k s _ fun H1 e1 => q H1 e1
theorem tg_and {t u : TT} {a b : Bool} (h1 : Tg t Γ a) (h2 : a = true → Tg u Γ b) : Tg (tAnd t u) Γ (a && b) := fun B σ H k s Q q => h1 B σ H k s _ fun H1 e1 => by
  cases a with
  | false => exact iteF (q H1 e1)
  | true => exact iteT (h2 rfl B σ H1 (k.same e1) (s.same e1) Q fun H2 e2 => q H2 (e1.trans e2))
theorem tg_or {t u : TT} {a b : Bool} (h1 : Tg t Γ a) (h2 : a = false → Tg u Γ b) : Tg (tOr t u) Γ (a || b) := fun B σ H k s Q q => h1 B σ H k s _ fun H1 e1 => by
  cases a with
  | true => exact iteT (q H1 e1)
  | false => exact iteF (h2 rfl B σ H1 (k.same e1) (s.same e1) Q fun H2 e2 => q H2 (e1.trans e2))
theorem og_none : Og tNoPart Γ Option.none := fun B σ H k s Q q => q H (.refl H)
theorem og_some {i : Int} (h : Eg te Γ (.int i)) : Og (tPart te) Γ (some i) := fun B σ H k s Q q => h B σ H k s _ fun v H1 e1 r1 => by cases r1; exact ⟨i, rfl, q H1 e1⟩

/-! operators on ints -/
theorem rg_I0 {g : Int → Int → V} {i j : Int} {d : Dat} (h : ∀ B H, Dv B H (g i j) d) : RG (rI0 g) (.int i) (.int j) d := fun B H x y k a b Q q => by
  cases a; cases b
  exact ⟨i, j, rfl, rfl, q _ H (.refl H) (h B H)⟩
theorem rg_I {C : Int → Int → Prop} {g : Int → Int → V} {i j : Int} {d : Dat} (hc : C i j) (h : ∀ B H, Dv B H (g i j) d) : RG (rI C g) (.int i) (.int j) d := fun B H x y k a b Q q => by
  cases a; cases b
  exact ⟨i, j, rfl, rfl, hc, q _ H (.refl H) (h B H)⟩
theorem ug_neg {i : Int} : UG (rU fun i => .int (-i)) (.int i) (.int (-i)) := fun B H x k a Q q => by
  cases a
  exact ⟨i, rfl, q _ H (.refl H) (.int _)⟩
/-! == of data -/
def flatD : Dat → Bool
  | .none => true
  | .bool _ => true
  | .int _ => true
  | _ => false
theorem rg_eqI {i j : Int} : RG rEq (.int i) (.int j) (.bool (decide (i = j))) := fun B H x y k a b Q q => by
  cases a; cases b
  refine ⟨rfl, ?_⟩
  have e : decide (V.int i = V.int j) = decide (i = j) := decide_eq_decide.mpr ⟨fun z => V.int.inj z, fun z => by rw [z]⟩
  rw [e]
  exact q _ H (.refl H) (.bl _)
theorem rg_neI {i j : Int} : RG rNe (.int i) (.int j) (.bool (!decide (i = j))) := fun B H x y k a b Q q => by
  cases a; cases b
  refine ⟨rfl, ?_⟩
  have e : decide (V.int i = V.int j) = decide (i = j) := decide_eq_decide.mpr ⟨fun z => V.int.inj z, fun z => by rw [z]⟩
  rw [e]
  exact q _ H (.refl H) (.bl _)
/-- is None -/
def isNon : Dat → Bool
  | .none => true
  | .raw v => decide (v = .non)
  | _ => false
theorem Dv.non_iff {B : Bd} {H : Hp} {v : V} (h : Dv B H v d) : decide (v = V.non) = isNon d := by
  cases h <;> first | rfl | exact decide_eq_false (fun z => nomatch z)
theorem eg_isN (h : Eg ta Γ d) : Eg (tIsN ta) Γ (.bool (isNon d)) := fun B σ H k s Q q => h B σ H k s _ fun v H1 e1 r1 => by
  rw [r1.non_iff]; exact q _ H1 e1 (.bl _)
theorem eg_notN (h : Eg ta Γ d) : Eg (tNotN ta) Γ (.bool (!isNon d)) := fun B σ H k s Q q => h B σ H k s _ fun v H1 e1 r1 => by
  rw [r1.non_iff]; exact q _ H1 e1 (.bl _)
theorem rg_notB {a b : Bool} : RG rNotB (.bool a) (.bool b) (.bool (!decide (a = b))) := fun B H x y k r s Q q => by
  cases r; cases s
  exact ⟨a, b, rfl, rfl, q _ H (.refl H) (.bl _)⟩
end
end Tr
/-! enumerate of a tuple: made, drawn, walked (over the library's Begins and Draws). -/
namespace Tr
open PySem PySem.Spec PyProof.Rows L2
theorem enum_meets {v : Value} {ob : Obj} {G : Heap → Prop} (bg : Begins v ob G) :
    Meets (Builtin.«enumerate.__new__» ⟨[.type "enumerate", v], []⟩) (fun _ R s => G s.heap ∧
      R (.ok (.ret (.ref (s.heap.push ob).objs.size))) { s with heap := (s.heap.push ob).push { cls := .type "enumerate", data := .fields #[.none, .bool false, .ref s.heap.objs.size, rawInt 0, .none, .none] } }) :=
  .of_wp fun prog w A R s h => by
    obtain ⟨hp, g, d, tk, os⟩ := s
    obtain ⟨hg, h⟩ := h
    have hsub := sub_enumerate
    have it0 : ∀ {A' : Around} {E Q : Value → Shared → Prop}, Q (.ref hp.objs.size) ⟨hp.push ob, g, d, tk, os⟩ → wpAny (model prog w) A' (pyIter v) Q E ⟨hp, g, d, tk, os⟩ := fun q => bg.iter prog w _ _ ⟨hp, g, d, tk, os⟩ _ hg q
    wp_walk using it0
    refine wpAny_stack_any fun st => wpAny_pure ?_
    split
    · rename_i c _ _ _ _ _
      cases (c == Value.type "enumerate") <;> (wp_walk using it0; exact ⟨_, rfl, h⟩)
    · wp_walk using it0
      exact ⟨_, rfl, h⟩
theorem call_enumT {prog : Program} {w : World} {A : Around} {E : Value → Shared → Prop} {s : Shared} {l : Addr} {items : Array Value} {Q : Value → Shared → Prop} (ht : s.heap.IsTuple l items)
    (h : ∀ h', IsEnum h' (s.heap.objs.size + 1) s.heap.objs.size 0 .none → h'.IsTupleIter s.heap.objs.size l 0 → h'.objs.size = s.heap.objs.size + 2 →
      (∀ b o, s.heap.get? b = some o → h'.get? b = some o) → Q (.ref (s.heap.objs.size + 1)) { s with heap := h' }) : wpAny (model prog w) A (call (.type "enumerate") [.ref l]) Q E s := by
  refine callType_new F.called_enumerate (by decide) (F.typeCall_enumerate_1 _) (F.newCall_enumerate_1 _) (fun obj => F.args_object_init_2 obj _) F.entry_enumerate_new (enum_meets (begins_tuple l items)) ⟨ht, ?_⟩
  generalize hob : ({ cls := .type "tuple_iterator", data := .fields #[.ref l, .int 0 0] } : Obj) = ob
  have hz : (s.heap.push ob).objs.size = s.heap.objs.size + 1 := Heap.size_push ..
  show _ ∧ _
  rw [hz]
  have he : IsEnum ((s.heap.push ob).push { cls := .type "enumerate", data := .fields #[.none, .bool false, .ref s.heap.objs.size, rawInt 0, .none, .none] }) (s.heap.objs.size + 1) s.heap.objs.size 0 .none := by
    have q := Heap.get?_push_size (s.heap.push ob) (o := { cls := .type "enumerate", data := .fields #[.none, .bool false, .ref s.heap.objs.size, rawInt 0, .none, .none] }) rfl
    rw [hz] at q
    exact q
  refine ⟨⟨_, he, rfl⟩, h _ he ⟨ob, Heap.get?_push_of_some _ (Heap.get?_push_size _ (by rw [← hob]; rfl)), by rw [← hob], by rw [← hob]; rfl⟩ (by rw [Heap.size_push, hz]) fun b o x => Heap.get?_push_of_some _ (Heap.get?_push_of_some _ x)⟩

/-- the tuple at a, each item with its place in a new pair -/
def Itet (K : PySem.W.Frag) (a : Addr) : It :=
  ⟨fun i H => ∃ (xs : List V) (x : V), SqT K H a xs ∧ xs[i]? = some x,
   fun i H v H' => ∃ T x, v = .ref T ∧ H T = none ∧ H' = upd H T (.tup [.int (i : Nat), x]) ∧ ∀ xs, SqT K H a xs → xs[i]? = some x,
   fun i H => ∃ xs : List V, SqT K H a xs ∧ xs.length ≤ i⟩
theorem turn_enumT {P : Program} {w : World} {K : PySem.W.Frag} {elts : List Expr} {kk : Nat} {tpos : Pos} (a e it : Addr) :
    Turn P w K (.Tuple elts kk tpos) (Itet K a) [e, it] e (fun i h => (∃ old, IsEnum h e it ((i : Nat) : Int) old) ∧ h.IsTupleIter it a i ∧ e ≠ it ∧ a ≠ it ∧ e ≠ a) where
  mem := by simp
  obj := fun i h st b hb => by
    obtain ⟨⟨old, he⟩, ⟨o, ho, hc, hd⟩, _⟩ := st
    have e' : b = e ∨ b = it := by simpa using hb
    rcases e' with z | z
    · rw [z]; exact ⟨_, he, fun v q => nomatch q⟩
    · rw [z]; exact ⟨o, ho, fun v q => by rw [hd] at q; cases q⟩
  keep := fun i h h' st k => let ⟨⟨old, he⟩, hi, r⟩ := st; ⟨⟨old, k e (by simp) _ he⟩, hi.at fun o q => k it (by simp) o q, r⟩
  item := by
    intro X hP hw hK hc i pins s σ H E I hf st hg
    subst hP hw hK
    obtain ⟨⟨old, he⟩, hit, hne, hai, hea⟩ := st
    obtain ⟨xs, x, hq, hx⟩ := hg
    obtain ⟨its, rv, p, hz⟩ := I.tuple hq
    obtain ⟨u, hu, ru⟩ := rv.get hx
    have hel : e < s.heap.objs.size := Heap.lt_size he
    have hil : it < s.heap.objs.size := by obtain ⟨_, q, _⟩ := hit; exact Heap.lt_size q
    have hit0 : i < its.toArray.size := by
      have := (List.getElem?_eq_some_iff.mp hu).1
      simpa using this
    have D := Draws.tuple (prog := X.prog) (w := X.w) (A := X.A.in1) (I.ok.hd hc) it a hai its.toArray
    refine wpAny_pyNext_enum_itemC D he ⟨hit, p⟩ hit0 hne (by simp [hne, hea]) fun u' h' tk hu' ho st' hT hsz hk => ?_
    have eu : u' = u := by
      have q : its.toArray[i]? = some u := by simpa using hu
      exact Option.some.inj (hu'.symm.trans q)
    subst eu
    refine ⟨_, rfl, wpAny_letOwnedTupleGo_enum (s := { s with heap := h', toks := tk + 1 }) ho fun h'' he' sb => ?_⟩
    have hT2 : h''.get? s.heap.objs.size = some { cls := .type "tuple", data := .seq #[.int (i : Nat) tk, u'] } := (sb.2 _ (Nat.ne_of_gt hel)).trans hT
    have new : ObjOk X.prog X.w (upd H s.heap.objs.size (.tup [.int (i : Nat), x])) h'' s.heap.objs.size (.tup [.int (i : Nat), x]) :=
      ⟨by show 2 ≤ sizeLine; decide, [.int (i : Nat) tk, u'], .cons ⟨_, rfl⟩ (.cons ru .nil), ⟨_, hT2, rfl, _, rfl⟩⟩
    have I1 : Inv X pins σ (upd H s.heap.objs.size (.tup [.int (i : Nat), x])) { s with heap := h'', toks := tk + 1 } :=
      I.turnedNew (ch := [e, it]) (fun b ob hb q => (sb.2 b (fun z => hb (by simp [z]))).trans (hk b ob (fun z => hb (by simp [z])) (fun z => hb (by simp [z])) q)) hf (Nat.le_refl _) new
    refine ⟨.ref s.heap.objs.size, _, I1, rfl, ⟨_, x, rfl, I.hok.fresh (Nat.le_refl _), rfl, fun ys hy => by rw [I.tuple_inj hy hq]; exact hx⟩, ⟨⟨u', ?_⟩, st'.1.at fun o q => (sb.2 it (Ne.symm hne)).trans q, hne, hai, hea⟩, fun b hb => ?_⟩
    · have e1 : ((i + 1 : Nat) : Int) = (i : Int) + 1 := by omega
      rw [e1]; exact he'
    · have hb' : b < s.heap.objs.size := by
        have e' : b = e ∨ b = it := by simpa using hb
        rcases e' with z | z
        · rw [z]; exact hel
        · rw [z]; exact hil
      rw [upd_ne (Nat.ne_of_lt hb')]
      exact (hf b hb).1
  done := by
    intro X hP hw hK hc i pins s σ H E I hf st hg
    subst hP hw hK
    obtain ⟨⟨old, he⟩, hit, hne, hai, hea⟩ := st
    obtain ⟨xs, hq, hx⟩ := hg
    obtain ⟨its, rv, p, hz⟩ := I.tuple hq
    obtain ⟨f0, f1, f2, f3, f4, f5⟩ := hf it (by simp)
    have hl := rv.length
    have hT : s.TypeIs (.ref e) "enumerate" := ⟨_, he, rfl⟩
    unfold pyNext
    refine wpAny_bind (wpAny_attempt (wpAny_callSpecial?_slot (name := Str.ofString "__next__") hT F.slot_enumerate_next
      (wpAny_call_entry F.slot_enumerate_next hT F.entry_enumerate_next ?_ (F.args_enumerate_next_1 _))))
    show wpAny _ _ (field (.ref e) 2 >>= _) _ _ _
    refine wpAny_bind (wpAny_field he rfl (x := .ref it) rfl ?_)
    refine wpAny_bind (wpAny_nextOf_tuple_end (I.ok.hd hc) hit (show s.heap.IsTuple a its.toArray from p) (by simp; omega) fun h' e' eb hx' => ?_)
    obtain ⟨o, ho, hcl⟩ := hx'
    refine wpAny_bind (wpAny_isInstance (T := "StopIteration") (b := true) ⟨o, ho, hcl⟩ isSubtype_stop ?_)
    exact wpAny_pure ⟨rfl, I.turned (t' := s.toks) (fun b o hb q => eb b o hb q) f0 f1 f3 f4 f5⟩
  self := fun A i s Q E st h => let ⟨⟨_, he⟩, _⟩ := st; wpAny_pyIter_enum he h
def iEnT (K : PySem.W.Frag) (ta : TA) : TI := fun σ H R => ta σ H fun vs H1 => ∃ a xs, vs = [.ref a] ∧ SqT K H1 a xs ∧ R (Itet K a) H1
theorem pi_enumT {X : Cx} {e : Expr} {ta : TA} {p pos tpos : Pos} {elts : List Expr} {kk : Nat} (hg : Gl X "enumerate") (hm : X.mg "enumerate" = none) (ha : PA X [e] ta) (hs : starEach [e] X.env = [(false, eval e X.env)] := by rfl) :
    PI X (.Tuple elts kk tpos) (.Call (.Name "enumerate" p) [e] [] pos) (iEnT X.K ta) := by
  refine ⟨fun pins s σ H R I h => ?_⟩
  refine Call_ (ld_blt I hg hm boot_enumerate (PyProof.Rows.callWith_type1 (thn (ha.run pos pins s σ H _ I h) fun us s1 ⟨vs, H1, I1, r1, q1⟩ => ?_) hs rfl))
  obtain ⟨a, xs, ex, hq, q⟩ := q1
  subst ex
  cases r1 with
  | cons r rr =>
    cases rr
    cases r
    obtain ⟨its, rv, p', hz⟩ := I1.tuple hq
    have hal : a < s1.heap.objs.size := by obtain ⟨_, z, _⟩ := p'; exact Heap.lt_size z
    refine call_enumT p' fun h' he hit hsz hk => wpAny_pyIter_enum he ?_
    have I2 : Inv X pins σ H1 { s1 with heap := h' } := I1.kept (t' := s1.toks) hk
    refine ⟨s1.heap.objs.size + 1, [s1.heap.objs.size + 1, s1.heap.objs.size], _, _, H1, rfl, I2, turn_enumT a (s1.heap.objs.size + 1) s1.heap.objs.size, ⟨⟨.none, he⟩, hit, Nat.succ_ne_self _, Nat.ne_of_lt hal, Nat.ne_of_gt (Nat.lt_succ_of_lt hal)⟩, fun b hb => ?_, q⟩
    have e' : b = s1.heap.objs.size + 1 ∨ b = s1.heap.objs.size := by simpa using hb
    have hle : s1.heap.objs.size ≤ b := by
      rcases e' with z | z
      · rw [z]; exact Nat.le_succ _
      · rw [z]; exact Nat.le_refl _
    exact I1.fpOk hle (I1.hok.fresh hle)
end Tr
/-! Layer C: targets, walked things, comprehensions, statements, loops, defs by data. -/
namespace Tr
open PySem PySem.Spec PyProof.Rows L2 RT
mutual
theorem Dv.sub {B B' : Bd} {H : Hp} (l : ∀ b, B' b → B b) : ∀ {v : V} {d : Dat}, Dv B H v d → Dv B' H v d
  | _, _, .non => .non
  | _, _, .bl b => .bl b
  | _, _, .int i => .int i
  | _, _, .lst hb h r => .lst (fun z => hb (l _ z)) h (Das.sub l r)
  | _, _, .tup hb h r => .tup (fun z => hb (l _ z)) h (Das.sub l r)
  | _, _, .fz hb h r => .fz (fun z => hb (l _ z)) h r
  | _, _, .raw v => .raw v
theorem Das.sub {B B' : Bd} {H : Hp} (l : ∀ b, B' b → B b) : ∀ {vs : List V} {ds : List Dat}, Das B H vs ds → Das B' H vs ds
  | _, _, .nil => .nil
  | _, _, .cons h r => .cons (Dv.sub l h) (Das.sub l r)
end
/-! ### targets -/
def GG (g : TG) (js : List Nat) (Γ : Gam) (d : Dat) (Γ' : Gam) : Prop := ∀ B σ H v, Ok B H → Sd B σ H Γ → Dv B H v d → ∀ Q : L2.St → Hp → Prop,
  (∀ σ2, Sd B σ2 H Γ' → σ2.length = σ.length → (∀ i, i ∉ js → σ2[i]? = σ[i]?) → Q σ2 H) → g v σ H Q
def GGs (g : TGs) (js : List Nat) (Γ : Gam) (ds : List Dat) (Γ' : Gam) : Prop := ∀ B σ H vs, Ok B H → Sd B σ H Γ → Das B H vs ds → ∀ Q : L2.St → Hp → Prop,
  (∀ σ2, Sd B σ2 H Γ' → σ2.length = σ.length → (∀ i, i ∉ js → σ2[i]? = σ[i]?) → Q σ2 H) → g vs σ H Q
theorem gg_name {Γ : Gam} {d : Dat} (j : Nat) : GG (gName j) [j] Γ d (Γ.set j (some d)) := fun B σ H v k s h Q q =>
  q _ (s.set j h) (List.length_set ..) fun i hi => List.getElem?_set_ne (fun z => hi (by simp [z]))
theorem ggs_nil {Γ : Gam} : GGs gNil [] Γ [] Γ := fun B σ H vs k s h Q q => by
  cases h
  exact ⟨rfl, q σ s rfl fun _ _ => rfl⟩
theorem ggs_cons {Γ Γ1 Γ2 : Gam} {g : TG} {u : TGs} {js ks : List Nat} {d : Dat} {ds : List Dat} (h1 : GG g js Γ d Γ1) (h2 : GGs u ks Γ1 ds Γ2) : GGs (gCons g u) (js ++ ks) Γ (d :: ds) Γ2 := fun B σ H vs k s h Q q => by
  cases h with
  | cons hv hr =>
    refine ⟨_, _, rfl, h1 B σ H _ k s hv _ fun σ1 s1 l1 o1 => h2 B σ1 H _ k s1 hr Q fun σ2 s2 l2 o2 => q σ2 s2 (l2.trans l1) fun i hi => ?_⟩
    rw [o2 i (fun z => hi (by simp [z])), o1 i (fun z => hi (by simp [z]))]
theorem gg_tup {K : PySem.W.Frag} {Γ Γ' : Gam} {n : Nat} {t : TGs} {js : List Nat} {d : Dat} {ds : List Dat} (e : tuI d = some ds) (h : GGs t js Γ ds Γ') (hn : ds.length = n := by rfl) : GG (gTup K n t) js Γ d Γ' := fun B σ H v k s hv Q q => by
  obtain ⟨a, xs, rfl, hb, hq, hd, hr⟩ := hv.tu K e
  exact ⟨a, xs, rfl, hq, by rw [hd.length, hn], h B σ H xs k s hd Q q⟩

/-! ### what is walked -/
def Wk (J : It) (ds : List Dat) (B : Bd) (H1 : Hp) : Prop := ∀ B' H', Le B H1 B' H' → Ok B' H' →
  (∀ i d, ds[i]? = some d → J.go i H' ∧ ∀ x H'', J.yld i H' x H'' → Same H' H'' ∧ Dv B' H'' x d) ∧ J.stop ds.length H'
def IG (wi : TI) (Γ : Gam) (ds : List Dat) : Prop := ∀ B σ H, Ok B H → Sd B σ H Γ → ∀ R : It → Hp → Prop, (∀ J H1, Same H H1 → Wk J ds B H1 → R J H1) → wi σ H R
theorem Le.rd {B B' : Bd} {H H' : Hp} {a : Addr} {u : HO} (l : Le B H B' H') (hb : ¬ B a) (h : Rd H a u) : ¬ B' a ∧ Rd H' a u := by
  have hn : ¬ B' a := fun z => (l.new _ z).elim hb (fun q => by
    rcases h with h | ⟨o, h⟩ <;> rw [q] at h <;> cases h)
  refine ⟨hn, ?_⟩
  rcases h with h | ⟨o, h⟩
  · exact .inl (l.keep _ _ hn h)
  · exact .inr ⟨o, l.keep _ _ hn h⟩
section
variable {K : PySem.W.Frag} {Γ : Gam} {te : TE} {ta : TA} {d : Dat} {ds es : List Dat}
theorem ig_tup (h : Eg te Γ d) (e : tuI d = some ds) : IG (iTup K te) Γ ds := fun B σ H k s R q => h B σ H k s _ fun v H1 e1 r1 => by
  obtain ⟨a, xs, rfl, hb, hq, hd, hr⟩ := r1.tu K e
  refine ⟨a, rfl, ⟨xs, hq⟩, q (Itt K a) H1 e1 fun B' H' l k' => ?_⟩
  have hr' := (l.rd hb hr).2
  have hd' := hd.le l
  refine ⟨fun i d hi => ?_, ⟨xs, .inl hr', by rw [hd.length]; exact Nat.le_refl _⟩⟩
  obtain ⟨x, hx, rx⟩ := hd'.get hi
  refine ⟨⟨xs, x, .inl hr', hx⟩, fun y H'' hy => ?_⟩
  obtain ⟨rfl, f⟩ := hy
  have e2 := f xs (.inl hr')
  rw [hx] at e2
  cases e2
  exact ⟨.refl _, rx⟩
theorem ig_list (h : Eg te Γ (.list ds)) : IG (iList K te) Γ ds := fun B σ H k s R q => h B σ H k s _ fun v H1 e1 r1 => by
  obtain ⟨a, xs, rfl, hb, hr, hd⟩ := r1.ls
  refine ⟨a, rfl, ⟨xs, SqL.of hr⟩, q (Itl K a) H1 e1 fun B' H' l k' => ?_⟩
  have hr' : SqL K H' a xs := .inl (l.rd hb (.inl hr)).2
  have hd' := hd.le l
  refine ⟨fun i d hi => ?_, ⟨xs, hr', by rw [hd.length]; exact Nat.le_refl _⟩⟩
  obtain ⟨x, hx, rx⟩ := hd'.get hi
  refine ⟨⟨xs, x, hr', hx⟩, fun y H'' hy => ?_⟩
  obtain ⟨rfl, f⟩ := hy
  have e2 := f xs hr'
  rw [hx] at e2
  cases e2
  exact ⟨.refl _, rx⟩
theorem wk_rng {B : Bd} {H1 : Hp} (lo : Int) (n : Nat) : Wk (Itr lo n) ((List.range n).map fun i => Dat.int (lo + (i : Nat))) B H1 := fun B' H' l k' => by
  refine ⟨fun i d hi => ?_, ?_⟩
  · rw [List.getElem?_map] at hi
    by_cases h : i < n
    · rw [List.getElem?_range h] at hi
      cases hi
      exact ⟨h, fun x H'' hy => by obtain ⟨rfl, rfl⟩ := hy; exact ⟨.refl _, .int _⟩⟩
    · rw [List.getElem?_eq_none (by simp; omega)] at hi
      cases hi
  · show n ≤ _
    simp
theorem ig_rng1 {n : Int} (h : Ag ta Γ [.int n]) (h1 : 0 ≤ n) (h2 : n ≤ 40000) : IG (iRng1 ta) Γ ((List.range n.toNat).map fun i => Dat.int (i : Nat)) := fun B σ H k s R q => h B σ H k s _ fun vs H1 e1 r1 => by
  cases r1 with
  | cons a b =>
    cases b; cases a
    have hw := wk_rng (B := B) (H1 := H1) 0 n.toNat
    simp only [Int.zero_add] at hw
    exact ⟨n, rfl, by omega, by omega, q _ H1 e1 hw⟩
theorem ig_rng2 {lo n : Int} (h : Ag ta Γ [.int lo, .int n]) (h1 : 0 ≤ lo ∧ lo ≤ 40000) (h2 : 0 ≤ n ∧ n ≤ 40000) : IG (iRng2 ta) Γ ((List.range (n - lo).toNat).map fun i => Dat.int (lo + (i : Nat))) := fun B σ H k s R q => h B σ H k s _ fun vs H1 e1 r1 => by
  cases r1 with
  | cons a b =>
    cases b with
    | cons c z => cases z; cases a; cases c; exact ⟨lo, n, rfl, ⟨by omega, by omega, by omega, by omega⟩, q _ H1 e1 (wk_rng lo _)⟩
theorem ig_enT (h : Ag ta Γ [d]) (e : tuI d = some ds) : IG (iEnT K ta) Γ (ds.zipIdx.map fun p => Dat.tup [.int (p.2 : Nat), p.1]) := fun B σ H k s R q => h B σ H k s _ fun vs H1 e1 r1 => by
  cases r1 with
  | cons r1 z =>
    cases z
    obtain ⟨a, xs, rfl, hb, hq, hd, hr⟩ := r1.tu K e
    refine ⟨a, xs, rfl, hq, q (Itet K a) H1 e1 fun B' H' l k' => ?_⟩
    have hr' : SqT K H' a xs := .inl (l.rd hb hr).2
    have hd' := hd.le l
    refine ⟨fun i d hi => ?_, ⟨xs, hr', by simp [hd.length]⟩⟩
    rw [List.getElem?_map, List.getElem?_zipIdx] at hi
    cases hdi : ds[i]? with
    | none => rw [hdi] at hi; cases hi
    | some d' =>
      rw [hdi] at hi
      simp only [Option.map_some, Nat.zero_add] at hi
      cases hi
      obtain ⟨x, hx, rx⟩ := hd'.get hdi
      refine ⟨⟨xs, x, hr', hx⟩, fun y H'' hy => ?_⟩
      obtain ⟨T, x', rfl, hT, rfl, f⟩ := hy
      have e2 := f xs hr'
      rw [hx] at e2
      cases e2
      exact ⟨same_new hT, .tup (k'.fresh hT) upd_same (.cons (.int _) (.cons (rx.same (same_new hT)) .nil))⟩
theorem ig_zip (h : Ag ta Γ [.list ds, .list es]) : IG (iZip K ta) Γ ((ds.zip es).map fun p => Dat.tup [p.1, p.2]) := fun B σ H k s R q => h B σ H k s _ fun vs H1 e1 r1 => by
  cases r1 with
  | cons r1 z =>
    cases z with
    | cons r2 z =>
      cases z
      obtain ⟨a, xs, rfl, hb, hr, hd⟩ := r1.ls
      obtain ⟨b, ys, rfl, hb2, hr2, hd2⟩ := r2.ls
      refine ⟨a, b, xs, ys, rfl, SqL.of hr, SqL.of hr2, q (Itz K a b) H1 e1 fun B' H' l k' => ?_⟩
      have hx' : SqL K H' a xs := .inl (l.rd hb (.inl hr)).2
      have hy' : SqL K H' b ys := .inl (l.rd hb2 (.inl hr2)).2
      have hd' := hd.le l
      have hd2' := hd2.le l
      refine ⟨fun i d hi => ?_, ⟨xs, ys, hx', hy', by simp [hd.length, hd2.length]; omega⟩⟩
      rw [List.getElem?_map] at hi
      cases hz : (ds.zip es)[i]? with
      | none => rw [hz] at hi; cases hi
      | some p =>
        rw [hz] at hi
        cases hi
        rw [List.getElem?_zip_eq_some] at hz
        obtain ⟨x, hx, rx⟩ := hd'.get hz.1
        obtain ⟨y, hy, ry⟩ := hd2'.get hz.2
        refine ⟨⟨xs, ys, x, y, hx', hy', hx, hy⟩, fun v H'' hv => ?_⟩
        obtain ⟨T, x', y', rfl, hT, rfl, f1, f2⟩ := hv
        have e2 := f1 xs hx'
        have e3 := f2 ys hy'
        rw [hx] at e2; rw [hy] at e3
        cases e2; cases e3
        exact ⟨same_new hT, .tup (k'.fresh hT) upd_same (.cons (rx.same (same_new hT)) (.cons (ry.same (same_new hT)) .nil))⟩
theorem ig_revT (h : Eg te Γ d) (e : tuI d = some ds) : IG (iRevA K te) Γ ds.reverse := fun B σ H k s R q => h B σ H k s _ fun v H1 e1 r1 => by
  obtain ⟨a, xs, rfl, hb, hq, hd, hr⟩ := r1.tu K e
  refine ⟨a, xs, rfl, .inr ⟨hq, q (ItvT K a xs.length) H1 e1 fun B' H' l k' => ?_⟩⟩
  have hr' : SqT K H' a xs := .inl (l.rd hb hr).2
  have hd' := hd.le l
  refine ⟨fun i d hi => ?_, by show xs.length ≤ ds.reverse.length; rw [List.length_reverse, hd.length]; exact Nat.le_refl _⟩
  have hlt : i < ds.length := by
    have := (List.getElem?_eq_some_iff.mp hi).1
    rw [List.length_reverse] at this; exact this
  rw [List.getElem?_reverse hlt, ← hd.length] at hi
  obtain ⟨x, hx, rx⟩ := hd'.get hi
  refine ⟨⟨by rw [hd.length]; exact hlt, xs, x, hr', hx⟩, fun y H'' hy => ?_⟩
  obtain ⟨rfl, f⟩ := hy
  have e2 := f xs hr'
  rw [hx] at e2
  cases e2
  exact ⟨.refl _, rx⟩
end

/-! ### comprehensions -/
/-- a new list, of some data that do not touch it -/
def EgN (te : TE) (Γ : Gam) (ds : List Dat) : Prop := ∀ B σ H, Ok B H → Sd B σ H Γ → ∀ Q : VK, (∀ a xs H2, H a = Option.none → Same H H2 → H2 a = some (.lst xs) → Das (Bp B a) H2 xs ds → Q (.ref a) H2) → te σ H Q
theorem EgN.eg {te : TE} {Γ : Gam} {ds : List Dat} (h : EgN te Γ ds) : Eg te Γ (.list ds) := fun B σ H k s Q q =>
  h B σ H k s Q fun a xs H2 ha e hx hd => q _ H2 e (.lst (k.fresh ha) hx (hd.sub fun b hb => .inl hb))
theorem Same.free' {H H' : Hp} (e : Same H H') {l : Addr} (h : H' l = Option.none) : H l = Option.none := by
  cases q : H l with
  | none => rfl
  | some o => rw [e l o q] at h; cases h
theorem take_one {α : Type} {xs : List α} {i : Nat} {a : α} (h : xs[i]? = some a) : xs.take (i + 1) = xs.take i ++ [a] := by
  rw [List.take_add_one, h]; rfl
section
variable {Γ : Gam} {wi : TI} {g : TG} {tt : TT} {te : TE} {vs js : List Nat}
theorem egn_lc {α : Type} (xs : List α) (it : α → Dat) (p : α → Bool) (r : α → Dat) (G' : α → Gam) (hjs : ∀ j ∈ js, j ∈ vs) (hI : IG wi Γ (xs.map it)) (hg : ∀ a ∈ xs, GG g js (wG Γ vs) (it a) (G' a)) (ht : ∀ a ∈ xs, Tg tt (G' a) (p a))
    (he : ∀ a ∈ xs, p a = true → Eg te (G' a) (r a)) (hz : xs.length ≤ 30000) : EgN (tLc wi g tt te vs) Γ ((xs.filter p).map r) := by
  intro B σ H k s Q q
  refine hI B σ H k s _ fun J H1 e1 w1 => ?_
  intro D hD
  have k1 := k.same e1
  refine ⟨fun i m H' => m = xs.length - i ∧ i ≤ xs.length ∧ Same H1 H' ∧ ∃ acc, H' D = some (.lst acc) ∧ Das (Bp B D) H' acc (((xs.take i).filter p).map r),
    ⟨_, rfl, Nat.zero_le _, same_new hD, [], upd_same, .nil⟩, ?_⟩
  rintro i m H' ⟨rfl, hi, sm, acc, hacc, hda⟩
  have l1 : Le B H1 (Bp B D) H' := ⟨fun b hb => hb.elim .inl fun z => .inr (z ▸ hD), fun b hb => .inl hb, fun a o _ h => sm a o h⟩
  have k2 : Ok (Bp B D) H' := fun b hb => hb.elim (fun z => (k1.same sm) b z) fun z => by rw [z, hacc]; exact fun q => nomatch q
  obtain ⟨w2, w3⟩ := w1 (Bp B D) H' l1 k2
  by_cases hlt : i < xs.length
  · have hxi : xs[i]? = some xs[i] := List.getElem?_eq_getElem hlt
    have ha : xs[i] ∈ xs := List.getElem_mem hlt
    generalize xs[i] = a at hxi ha
    obtain ⟨go, yl⟩ := w2 i (it a) (by rw [List.getElem?_map, hxi]; rfl)
    refine .inr ⟨go, fun H' => Same H1 H' ∧ ∃ acc, H' D = some (.lst acc) ∧ Das (Bp B D) H' acc (((xs.take (i + 1)).filter p).map r), fun H3 h3 => ⟨_, by omega, rfl, hlt, h3⟩, fun x H2 hy => ?_⟩
    obtain ⟨e2, rx⟩ := yl x H2 hy
    have s2 : Sd (Bp B D) (wipe σ vs) H2 (wG Γ vs) := (((s.same e1).le l1).same e2).wipe vs
    refine hg a ha (Bp B D) (wipe σ vs) H2 x (k2.same e2) s2 rx _ fun σ2 s3 hl hout => ⟨?_, ht a ha (Bp B D) σ2 H2 (k2.same e2) s3 _ fun H3 e3 => ?_⟩
    · rw [← wipe_idem σ vs]
      exact wipe_eq hl fun j hj => hout j fun z => hj (hjs j z)
    · have k3 := (k2.same e2).same e3
      cases hp : p a with
      | false =>
        refine iteF ⟨(sm.trans e2).trans e3, acc, e3 _ _ (e2 _ _ hacc), ?_⟩
        rw [take_one hxi, List.filter_append, List.filter_cons_of_neg (by simp [hp]), List.filter_nil, List.append_nil]
        exact (hda.same e2).same e3
      | true =>
        refine iteT (he a ha hp (Bp B D) σ2 H3 k3 (s3.same e3) _ fun y H4 e4 ry => ⟨acc, e4 _ _ (e3 _ _ (e2 _ _ hacc)), ?_, ?_, ?_⟩)
        · rw [hda.length, List.length_map]
          refine Nat.lt_of_le_of_lt (m := 30000) ?_ (by decide)
          exact Nat.le_trans (List.length_filter_le _ _) (Nat.le_trans (List.length_take_le _ _) (by omega))
        · intro b o hb
          rw [upd_ne (ne_of_none hb hD)]
          exact e4 _ _ (e3 _ _ (e2 _ _ (sm _ _ hb)))
        · refine ⟨_, upd_same, ?_⟩
          rw [take_one hxi, List.filter_append, List.filter_cons_of_pos (by simp [hp]), List.filter_nil, List.map_append]
          have lm : Le (Bp B D) H4 (Bp B D) (upd H4 D (.lst (acc ++ [y]))) := .mut (.inr rfl)
          exact ((((hda.same e2).same e3).same e4).le lm).append (.cons (ry.le lm) .nil)
  · have e : i = xs.length := by omega
    subst e
    refine .inl ⟨by rw [List.length_map] at w3; exact w3, q D acc H' (Same.free' e1 hD) (e1.trans sm) hacc ?_⟩
    rw [List.take_length] at hda
    exact hda
theorem eg_lc {α : Type} (xs : List α) (it : α → Dat) (p : α → Bool) (r : α → Dat) (G' : α → Gam) (hjs : ∀ j ∈ js, j ∈ vs) (hI : IG wi Γ (xs.map it)) (hg : ∀ a ∈ xs, GG g js (wG Γ vs) (it a) (G' a)) (ht : ∀ a ∈ xs, Tg tt (G' a) (p a))
    (he : ∀ a ∈ xs, p a = true → Eg te (G' a) (r a)) (hz : xs.length ≤ 30000) : Eg (tLc wi g tt te vs) Γ (.list ((xs.filter p).map r)) := (egn_lc xs it p r G' hjs hI hg ht he hz).eg
theorem egn_lcA {α : Type} (xs : List α) (it : α → Dat) (r : α → Dat) (G' : α → Gam) (hjs : ∀ j ∈ js, j ∈ vs) (hI : IG wi Γ (xs.map it)) (hg : ∀ a ∈ xs, GG g js (wG Γ vs) (it a) (G' a))
    (he : ∀ a ∈ xs, Eg te (G' a) (r a)) (hz : xs.length ≤ 30000) : EgN (tLc wi g tYes te vs) Γ (xs.map r) := by
  have h := egn_lc (tt := tYes) xs it (fun _ => true) r G' hjs hI hg (fun a _ => tg_yes) (fun a ha _ => he a ha) hz
  rw [List.filter_eq_self.mpr (fun _ _ => rfl)] at h
  exact h
/-- without a test -/
theorem eg_lcA {α : Type} (xs : List α) (it : α → Dat) (r : α → Dat) (G' : α → Gam) (hjs : ∀ j ∈ js, j ∈ vs) (hI : IG wi Γ (xs.map it)) (hg : ∀ a ∈ xs, GG g js (wG Γ vs) (it a) (G' a))
    (he : ∀ a ∈ xs, Eg te (G' a) (r a)) (hz : xs.length ≤ 30000) : Eg (tLc wi g tYes te vs) Γ (.list (xs.map r)) := by
  have h := eg_lc (tt := tYes) xs it (fun _ => true) r G' hjs hI hg (fun a _ => tg_yes) (fun a ha _ => he a ha) hz
  rw [List.filter_eq_self.mpr (fun _ _ => rfl)] at h
  exact h
theorem eg_lc2 {α β : Type} {wi1 : TI} {g1 : TG} {vs1 js1 : List Nat} (xs : List α) (it : α → Dat) (ys : α → List β) (it1 : α → β → Dat) (r : α → β → Dat) (G1 : α → Gam) (G2 : α → β → Gam) (hjs : ∀ j ∈ js, j ∈ vs) (hjs1 : ∀ j ∈ js1, j ∈ vs1)
    (hI : IG wi Γ (xs.map it)) (hg : ∀ a ∈ xs, GG g js (wG Γ vs) (it a) (G1 a)) (hI1 : ∀ a ∈ xs, IG wi1 (G1 a) ((ys a).map (it1 a))) (hg1 : ∀ a ∈ xs, ∀ b ∈ ys a, GG g1 js1 (wG (G1 a) vs1) (it1 a b) (G2 a b))
    (he : ∀ a ∈ xs, ∀ b ∈ ys a, Eg te (G2 a b) (r a b)) (hz : (xs.map fun a => (ys a).map (r a)).flatten.length ≤ 30000) : Eg (tLc2 wi g tYes wi1 g1 tYes te vs vs1) Γ (.list (xs.map fun a => (ys a).map (r a)).flatten) := by
  intro B σ H k s Q q
  refine hI B σ H k s _ fun J H1 e1 w1 => ?_
  intro D hD
  have k1 := k.same e1
  have lof : ∀ {H'}, Same H1 H' → Le B H1 (Bp B D) H' := fun sm => ⟨fun b hb => hb.elim .inl fun z => .inr (z ▸ hD), fun b hb => .inl hb, fun a o _ h => sm a o h⟩
  have kof : ∀ {H' acc}, Same H1 H' → H' D = some (.lst acc) → Ok (Bp B D) H' := fun sm hacc b hb => hb.elim (fun z => (k1.same sm) b z) fun z => by rw [z, hacc]; exact fun q => nomatch q
  refine ⟨fun i m H' => m = xs.length - i ∧ i ≤ xs.length ∧ Same H1 H' ∧ ∃ acc, H' D = some (.lst acc) ∧ Das (Bp B D) H' acc ((xs.take i).map fun a => (ys a).map (r a)).flatten,
    ⟨_, rfl, Nat.zero_le _, same_new hD, [], upd_same, .nil⟩, ?_⟩
  rintro i m H' ⟨rfl, hi, sm, acc, hacc, hda⟩
  have l1 := lof sm
  have k2 := kof sm hacc
  obtain ⟨w2, w3⟩ := w1 (Bp B D) H' l1 k2
  by_cases hlt : i < xs.length
  · have hxi : xs[i]? = some xs[i] := List.getElem?_eq_getElem hlt
    have ha : xs[i] ∈ xs := List.getElem_mem hlt
    generalize xs[i] = a at hxi ha
    obtain ⟨go, yl⟩ := w2 i (it a) (by rw [List.getElem?_map, hxi]; rfl)
    refine .inr ⟨go, fun H' => Same H1 H' ∧ ∃ acc, H' D = some (.lst acc) ∧ Das (Bp B D) H' acc ((xs.take (i + 1)).map fun a => (ys a).map (r a)).flatten, fun H3 h3 => ⟨_, by omega, rfl, hlt, h3⟩, fun x H2 hy => ?_⟩
    obtain ⟨e2, rx⟩ := yl x H2 hy
    have s2 : Sd (Bp B D) (wipe σ vs) H2 (wG Γ vs) := (((s.same e1).le l1).same e2).wipe vs
    refine hg a ha (Bp B D) (wipe σ vs) H2 x (k2.same e2) s2 rx _ fun σ2 s3 hl hout => ⟨?_, ?_⟩
    · rw [← wipe_idem σ vs]
      exact wipe_eq hl fun j hj => hout j fun z => hj (hjs j z)
    · refine tg_yes (Γ := G1 a) (Bp B D) σ2 H2 (k2.same e2) s3 _ fun H2' e2' => ?_
      replace e2 := e2.trans e2'
      replace s3 := s3.same e2'
      clear e2' hy
      clear s2 rx
      generalize H2' = H2 at *
      simp only [reduceIte]
      refine hI1 a ha (Bp B D) σ2 H2 (k2.same e2) s3 _ fun J1 H3 e3 v1 => ?_
      have e13 : Same H1 H3 := (sm.trans e2).trans e3
      have hH3 : H3 D = some (.lst acc) := e3 _ _ (e2 _ _ hacc)
      have hpre : (((xs.take (i + 1)).map fun a => (ys a).map (r a)).flatten) = ((xs.take i).map fun a => (ys a).map (r a)).flatten ++ (ys a).map (r a) := by
        rw [take_one hxi, List.map_append, List.flatten_append]
        simp
      refine ⟨fun j m H' => m = (ys a).length - j ∧ j ≤ (ys a).length ∧ Le (Bp B D) H3 (Bp B D) H' ∧ Same H1 H' ∧ ∃ acc, H' D = some (.lst acc) ∧ Das (Bp B D) H' acc (((xs.take i).map fun a => (ys a).map (r a)).flatten ++ ((ys a).take j).map (r a)),
        ⟨_, rfl, Nat.zero_le _, .refl _ _, e13, acc, hH3, by rw [List.take_zero, List.map_nil, List.append_nil]; exact (hda.same e2).same e3⟩, ?_⟩
      rintro j m' H4 ⟨rfl, hj, l4, sm4, acc4, hacc4, hda4⟩
      have k4 := kof sm4 hacc4
      obtain ⟨v2, v3⟩ := v1 (Bp B D) H4 l4 k4
      by_cases hjt : j < (ys a).length
      · have hyj : (ys a)[j]? = some (ys a)[j] := List.getElem?_eq_getElem hjt
        have hb : (ys a)[j] ∈ ys a := List.getElem_mem hjt
        generalize (ys a)[j] = b at hyj hb
        obtain ⟨go1, yl1⟩ := v2 j (it1 a b) (by rw [List.getElem?_map, hyj]; rfl)
        refine .inr ⟨go1, fun H' => Le (Bp B D) H3 (Bp B D) H' ∧ Same H1 H' ∧ ∃ acc, H' D = some (.lst acc) ∧ Das (Bp B D) H' acc (((xs.take i).map fun a => (ys a).map (r a)).flatten ++ ((ys a).take (j + 1)).map (r a)), fun H5 h5 => ⟨_, by omega, rfl, hjt, h5⟩, fun x1 H5 hy1 => ?_⟩
        obtain ⟨e5, rx1⟩ := yl1 x1 H5 hy1
        have s5 : Sd (Bp B D) (wipe σ2 vs1) H5 (wG (G1 a) vs1) := (((s3.same e3).le l4).same e5).wipe vs1
        refine hg1 a ha b hb (Bp B D) (wipe σ2 vs1) H5 x1 (k4.same e5) s5 rx1 _ fun σ3 s6 hl6 hout6 => ⟨?_, ?_⟩
        · rw [← wipe_idem σ2 vs1]
          exact wipe_eq hl6 fun j hj => hout6 j fun z => hj (hjs1 j z)
        · refine tg_yes (Γ := G2 a b) (Bp B D) σ3 H5 (k4.same e5) s6 _ fun H5' e5' => ?_
          replace e5 := e5.trans e5'
          replace s6 := s6.same e5'
          clear e5' hy1 s5 rx1
          generalize H5' = H5 at *
          simp only [reduceIte]
          refine he a ha b hb (Bp B D) σ3 H5 (k4.same e5) s6 _ fun y H6 e6 ry => ⟨acc4, e6 _ _ (e5 _ _ hacc4), ?_, ?_, ?_, ?_⟩
          · rw [hda4.length]
            refine Nat.lt_of_le_of_lt (m := 30000) (Nat.le_trans ?_ hz) (by decide)
            have hxs : xs = xs.take (i + 1) ++ xs.drop (i + 1) := (List.take_append_drop _ _).symm
            rw [hxs, List.map_append, List.flatten_append, ← hxs, hpre, List.length_append, List.length_append, List.length_append, List.length_map, List.length_map, List.length_take]
            omega
          · exact (l4.trans (.same (e5.trans e6))).trans (.mut (.inr rfl))
          · intro c o hc
            rw [upd_ne (ne_of_none hc hD)]
            exact e6 _ _ (e5 _ _ (sm4 _ _ hc))
          · refine ⟨_, upd_same, ?_⟩
            rw [take_one hyj, List.map_append, ← List.append_assoc]
            have lm : Le (Bp B D) H6 (Bp B D) (upd H6 D (.lst (acc4 ++ [y]))) := .mut (.inr rfl)
            exact (((hda4.same e5).same e6).le lm).append (.cons (ry.le lm) .nil)
      · have e : j = (ys a).length := by omega
        subst e
        refine .inl ⟨by rw [List.length_map] at v3; exact v3, sm4, acc4, hacc4, ?_⟩
        rw [hpre]
        rw [List.take_length] at hda4
        exact hda4
  · have e : i = xs.length := by omega
    subst e
    refine .inl ⟨by rw [List.length_map] at w3; exact w3, q _ H' (e1.trans sm) (.lst (k1.fresh hD) hacc ?_)⟩
    rw [List.take_length] at hda
    exact hda.sub fun b hb => .inl hb
end

/-! ### statements -/
inductive Out where
  | nx (Γ : Gam)
  | rt (d : Dat)
def Wish (B : Bd) (D : Ends) (H : Hp) : Out → Prop
  | .nx Γ' => ∀ σ' H', Same H H' → Sd B σ' H' Γ' → D.nx σ' H'
  | .rt d => ∀ v H', Same H H' → Dv B H' v d → D.rt v H'
theorem Wish.same {B : Bd} {D : Ends} {H H1 : Hp} {o : Out} (w : Wish B D H o) (e : Same H H1) : Wish B D H1 o := by
  cases o with
  | nx Γ => exact fun σ' H' e' s => w σ' H' (e.trans e') s
  | rt d => exact fun v H' e' s => w v H' (e.trans e') s
def Rg (t : TS) (Γ : Gam) (o : Out) : Prop := ∀ B (D : Ends) σ H, Ok B H → Sd B σ H Γ → Wish B D H o → t D σ H
section
variable {Γ Γ1 Γ' : Gam} {t u : TS} {te : TE} {ta : TA} {g : TG} {d e : Dat} {o : Out} {js : List Nat}
theorem rg_nx : Rg tNext Γ (.nx Γ) := fun B D σ H k s w => w σ H (.refl H) s
theorem rg_seq (h1 : Rg t Γ (.nx Γ1)) (h2 : Rg u Γ1 o) : Rg (tSeq t u) Γ o := fun B D σ H k s w =>
  h1 B { D with nx := u D } σ H k s fun σ1 H1 e1 s1 => h2 B D σ1 H1 (k.same e1) s1 (w.same e1)
theorem rg_seqR (h1 : Rg t Γ (.rt d)) : Rg (tSeq t u) Γ (.rt d) := fun B D σ H k s w => h1 B { D with nx := u D } σ H k s w
theorem rg_asg (h : Eg te Γ d) (hg : GG g js Γ d Γ') : Rg (tAsg te g) Γ (.nx Γ') := fun B D σ H k s w =>
  h B σ H k s _ fun v H1 e1 r1 => hg B σ H1 v (k.same e1) (s.same e1) r1 _ fun σ2 s2 _ _ => w σ2 H1 e1 s2
theorem rg_set (i : Nat) (h : Eg te Γ d) : Rg (tAsg te (gName i)) Γ (.nx (Γ.set i (some d))) := rg_asg h (gg_name i)
theorem rg_par {i j : Nat} (h : Ag ta Γ [d, e]) : Rg (tPar i j ta) Γ (.nx ((Γ.set i (some d)).set j (some e))) := fun B D σ H k s w =>
  h B σ H k s _ fun vs H1 e1 r1 => by
    cases r1 with
    | cons a b =>
      cases b with
      | cons b z => cases z; exact ⟨_, _, rfl, w _ H1 e1 (((s.same e1).set i a).set j b)⟩
theorem rg_drop (h : Eg te Γ d) : Rg (tDrop te) Γ (.nx Γ) := fun B D σ H k s w => h B σ H k s _ fun v H1 e1 r1 => w σ H1 e1 (s.same e1)
theorem rg_ret (h : Eg te Γ d) : Rg (tRet te) Γ (.rt d) := fun B D σ H k s w => h B σ H k s _ w
theorem rg_retN : Rg tRetN Γ (.rt .none) := fun B D σ H k s w => w _ H (.refl H) .non
theorem rg_ifF {tc : TT} (h : Tg tc Γ false) (hu : Rg u Γ o) : Rg (tIfS tc t u) Γ o := fun B D σ H k s w =>
  h B σ H k s _ fun H1 e1 => iteF (hu B D σ H1 (k.same e1) (s.same e1) (w.same e1))
theorem rg_ifT {tc : TT} (h : Tg tc Γ true) (ht : Rg t Γ o) : Rg (tIfS tc t u) Γ o := fun B D σ H k s w =>
  h B σ H k s _ fun H1 e1 => iteT (ht B D σ H1 (k.same e1) (s.same e1) (w.same e1))
end
section
variable {wi : TI} {g : TG} {tb : TS} {α : Type}
/-- a loop that goes on for m turns: to its end, or to a turn that returns -/
theorem rg_for (xs : List α) (it : α → Dat) (Γs : Nat → Gam) (m : Nat) (o : Out) (hI : IG wi (Γs 0) (xs.map it))
    (hb : ∀ i a, i < m → xs[i]? = some a → ∃ Γ1 js, GG g js (Γs i) (it a) Γ1 ∧ Rg tb Γ1 (.nx (Γs (i + 1))))
    (hd : (m = xs.length ∧ o = .nx (Γs m)) ∨ ∃ a d Γ1 js, xs[m]? = some a ∧ GG g js (Γs m) (it a) Γ1 ∧ Rg tb Γ1 (.rt d) ∧ o = .rt d) : Rg (tFor wi g tb) (Γs 0) o := by
  intro B D σ H k s w
  have hm : m ≤ xs.length := by
    rcases hd with ⟨h, _⟩ | ⟨a, d, Γ1, js, h, _⟩
    · omega
    · exact Nat.le_of_lt (List.getElem?_eq_some_iff.mp h).1
  refine hI B σ H k s _ fun J H1 e1 w1 => ?_
  refine ⟨fun i n σ' H' => n = xs.length - i ∧ i ≤ m ∧ Same H1 H' ∧ Sd B σ' H' (Γs i), ⟨_, rfl, Nat.zero_le _, .refl _, s.same e1⟩, ?_⟩
  rintro i n σ' H' ⟨rfl, hi, sm, s'⟩
  have k' : Ok B H' := (k.same e1).same sm
  obtain ⟨w2, w3⟩ := w1 B H' (.same sm) k'
  by_cases him : i < m
  · have hlt : i < xs.length := by omega
    have hxi : xs[i]? = some xs[i] := List.getElem?_eq_getElem hlt
    generalize xs[i] = a at hxi
    obtain ⟨go, yl⟩ := w2 i (it a) (by rw [List.getElem?_map, hxi]; rfl)
    refine .inr ⟨go, fun σ2 H2 => Same H1 H2 ∧ Sd B σ2 H2 (Γs (i + 1)), fun σ2 H2 h2 => ⟨_, by omega, rfl, him, h2⟩, fun x H2 hy => ?_⟩
    obtain ⟨e2, rx⟩ := yl x H2 hy
    obtain ⟨Γ1, js, hg, hr⟩ := hb i a him hxi
    exact hg B σ' H2 x (k'.same e2) (s'.same e2) rx _ fun σ2 s2 _ _ => hr B _ σ2 H2 (k'.same e2) s2 fun σ3 H3 e3 s3 => ⟨(sm.trans e2).trans e3, s3⟩
  · have e : i = m := by omega
    subst e
    rcases hd with ⟨rfl, rfl⟩ | ⟨a, d, Γ1, js, hxi, hg, hr, rfl⟩
    · exact .inl ⟨by rw [List.length_map] at w3; exact w3, w σ' H' (e1.trans sm) s'⟩
    · have hlt := (List.getElem?_eq_some_iff.mp hxi).1
      obtain ⟨go, yl⟩ := w2 i (it a) (by rw [List.getElem?_map, hxi]; rfl)
      refine .inr ⟨go, fun _ _ => False, fun σ2 H2 h2 => h2.elim, fun x H2 hy => ?_⟩
      obtain ⟨e2, rx⟩ := yl x H2 hy
      exact hg B σ' H2 x (k'.same e2) (s'.same e2) rx _ fun σ2 s2 _ _ => hr B _ σ2 H2 (k'.same e2) s2 fun v H3 e3 r3 => w v H3 (((e1.trans sm).trans e2).trans e3) r3
end

/-! ### defs -/
def spG (F : List Dat → Dat → Prop) : Sp := fun vs H Q _ => ∃ B ds r, F ds r ∧ Ok B H ∧ Das B H vs ds ∧ ∀ v H', Same H H' → Dv B H' v r → Q v H'
theorem eg_call {Γ : Gam} {F : List Dat → Dat → Prop} {E : XK} {ta : TA} {ds : List Dat} {r : Dat} (h : Ag ta Γ ds) (hf : F ds r) : Eg (tCall (spG F) [] E ta) Γ r := fun B σ H k s Q q =>
  h B σ H k s _ fun vs H1 e1 r1 => by
    rw [List.append_nil]
    exact ⟨B, ds, r, hf, k.same e1, r1, fun v H2 e2 r2 => q v H2 (e1.trans e2) r2⟩
theorem das_start {B : Bd} {H : Hp} (N : Nat) : ∀ {vs : List V} {ds : List Dat}, Das B H vs ds → ∀ (i : Nat) (d : Dat), (ds.map some ++ List.replicate N Option.none)[i]? = some (some d) → ∃ v, (vs.map some ++ List.replicate N Option.none)[i]? = some (some v) ∧ Dv B H v d
  | _, _, .nil, i, d, h => by
    simp only [List.map_nil, List.nil_append] at h
    rw [List.getElem?_replicate] at h
    split at h <;> cases h
  | _, _, .cons a r, 0, d, h => by
    cases h
    exact ⟨_, rfl, a⟩
  | _, _, .cons a r, i + 1, d, h => das_start N r i d h
section
variable {P : Program} {w : World} {K : PySem.W.Frag} {mg : Str → Option Value} {base : Heap}
/-- a def by data: its body's term, and what that is worth -/
theorem fnG {x qual : Str} {st : Stmt} {f : Addr} {fd : FuncData} {N ps : List Str} {k : Nat} {F : List Dat → Dat → Prop} (Fn : Fun K x qual st f fd) (S : FnScope N ps (defScope st)) (len : ∀ ds r, F ds r → ds.length = ps.length)
    (hbody : ∀ (cdv : Value) (A : Around) (outer : List Env) (s : Shared) (H : Hp) (E : XK), Room k (A.deeper (envOfC qual (defScope st) s.heap.objs.size f cdv)) → ∀ ds r, F ds r →
      ∃ t, PSs (cxOf CX0 P w K mg base N qual (defScope st) f cdv A outer s H E).nox (defBody st) t ∧ (Rg t (ds.map some ++ List.replicate (N.length - ds.length) Option.none) (.rt r) ∨ (r = .none ∧ ∃ Γ', Rg t (ds.map some ++ List.replicate (N.length - ds.length) Option.none) (.nx Γ')))) : FnOk P w K mg base CX0 (k + 1) f fd ps (spG F) := by
  refine Fn.ok S (fun vs H Q E h => ?_) (fun cdv A outer s H vs Q E hr h => ?_)
  · obtain ⟨B, ds, r, hf, _, hd, _⟩ := h
    rw [hd.length, len ds r hf]
  · obtain ⟨B, ds, r, hf, k, hd, q⟩ := h
    obtain ⟨t, ht, ho⟩ := hbody cdv A outer s H E hr ds r hf
    have hsd : Sd B (L2.start N vs) H (ds.map some ++ List.replicate (N.length - ds.length) Option.none) := by
      refine ⟨?_, fun i d hi => ?_⟩
      · unfold L2.start
        rw [List.length_append, List.length_append, List.length_map, List.length_map, List.length_replicate, List.length_replicate, hd.length]
      · have := das_start (N.length - ds.length) hd i d hi
        unfold L2.start
        rw [hd.length]
        exact this
    rcases ho with ho | ⟨rfl, Γ', ho⟩
    · exact ⟨t, ht, ho B _ _ H k hsd fun v H' e r => q v H' e r⟩
    · exact ⟨t, ht, ho B _ _ H k hsd fun σ' H' e _ => q _ H' e .non⟩
end
end Tr
/-! Layer F: tuples of ints whose object is known to have no dict (fz); index; operators, calls, slices by data. -/
namespace Tr
open PySem PySem.Spec PyProof.Rows L2 RT
section
variable {X : Cx}
/-! ### makers of such tuples -/
def tTupF : TE := fun _ H Q => ∀ p o, H p = none → o.dict = Option.none → Q (.ref p) (upd H p (.frz o (.tup [])))
theorem pe_tupF {x1} {pos : Pos} : PE X (.Tuple [] x1 pos) tTupF := by
  refine ⟨fun pins s σ H Q I hq => ?_⟩
  refine wpAny_Tuple_spliced (Calls.spliced_nil ⟨by show 0 ≤ sizeLine; decide, ?_⟩)
  have hf : H s.heap.objs.size = none := I.hok.fresh (Nat.le_refl _)
  refine ⟨.ref s.heap.objs.size, _, I.laid (t' := s.toks) (o := .frz { cls := .type "tuple", data := .seq (#[] : Array Value) } (.tup [])) (fun b u e => Heap.get?_push_of_some _ e) (Nat.le_refl _) ?_, rfl, hq _ _ hf rfl⟩
  exact ⟨Heap.get?_push_size _ rfl, by show 0 ≤ sizeLine; decide, [], .nil, ⟨_, Heap.get?_push_size _ rfl, rfl, _, rfl⟩⟩
def rTupF (K : PySem.W.Frag) : List V → Hp → VK → Prop := fun xs H Q => ∃ p ys, xs = [.ref p] ∧ SqL K H p ys ∧ ∀ l o, H l = none → o.dict = Option.none → Q (.ref l) (upd H l (.frz o (.tup ys)))
theorem call_tupF : CallR X (.type "tuple") (rTupF X.K) := by
  intro pins s σ H xs us Q I r h
  obtain ⟨p, ys, rfl, hq, q⟩ := h
  obtain ⟨u, rfl, rx⟩ := vals1 r
  cases rx
  obtain ⟨its, r', pl, hz⟩ := I.list hq
  have hlen := r'.length
  refine call_tuple_list pl.isList (fun h' kp => ?_) (by simp only [List.size_toArray] <;> omega)
  have I1 : Inv X pins σ H { s with heap := h' } := I.kept (t' := s.toks) kp
  refine ⟨.ref h'.objs.size, _, I1.laid (t' := s.toks) (o := .frz { cls := .type "tuple", data := .seq its.toArray } (.tup ys)) (fun b o e => Heap.get?_push_of_some _ e) (Nat.le_refl _) ?_, rfl, q _ _ (I1.hok.fresh (Nat.le_refl _)) rfl⟩
  exact ⟨Heap.get?_push_size _ rfl, hz, its, r', IsTup.new _ _⟩
def rCatF (K : PySem.W.Frag) : R2 := fun x y H Q => ∃ a b xs ys, x = .ref a ∧ y = .ref b ∧ SqT K H a xs ∧ SqT K H b ys ∧ xs ≠ [] ∧ ys ≠ [] ∧ xs.length + ys.length ≤ sizeLine ∧
  ∀ p o, H p = none → o.dict = Option.none → Q (.ref p) (upd H p (.frz o (.tup (xs ++ ys))))
theorem op_catF : OpR X (binaryOp .Add) (rCatF X.K) := by
  intro pins s σ H x y v u Q I rx ry h
  obtain ⟨a, b, xs, ys, rfl, rfl, ha, hb, hx, hy, hz, q2⟩ := h
  cases rx
  cases ry
  obtain ⟨its, r1, p1, _⟩ := I.tuple ha
  obtain ⟨its2, r2, p2, _⟩ := I.tuple hb
  refine HT.cat_tup p1 p2 (fun z => hx (r1.nil_iff.mp z)) (fun z => absurd (r2.nil_iff.mp z) hy) (fun z => ?_) (by rw [← r1.length, ← r2.length]; exact hz)
  refine ⟨.ref s.heap.objs.size, _, I.laid (t' := s.toks) (o := .frz { cls := .type "tuple", data := .seq (its ++ its2).toArray } (.tup (xs ++ ys))) (fun b ob q => Heap.get?_push_of_some _ q) (Nat.le_refl _) ?_, rfl, q2 _ _ (I.hok.fresh (Nat.le_refl _)) rfl⟩
  exact ⟨Heap.get?_push_size _ rfl, by rw [List.length_append]; exact hz, _, r1.append r2, IsTup.new _ _⟩
/-! ### t.index(c), l.index(c) of ints -/
def rTIx : V → V → Hp → VK → Prop := fun x y H Q => ∃ (a : Addr) (ob : Obj) (ns : List Int) (c : Int), x = .ref a ∧ y = .int c ∧ H a = some (.frz ob (.tup (ns.map V.int))) ∧ ob.dict = Option.none ∧ c ∈ ns ∧ Q (.int (ns.idxOf c : Nat)) H
def tTIx (to : TE) (t : TA) : TE := fun σ H Q => to σ H fun x H1 => (∃ a ob ns, x = .ref a ∧ H1 a = some (.frz ob (.tup ns)) ∧ ob.dict = Option.none) ∧ t σ H1 fun vs H2 => ∃ y, vs = [y] ∧ rTIx x y H2 Q
theorem pe_tIx {o e : Expr} {to : TE} {t : TA} {apos cpos : Pos} (ho : PE X o to) (ha : PA X [e] t)
    (hbase : attributeBase o "index" X.env (eval o X.env) = eval o X.env := by rfl)
    (hfew : ((backTo cpos (starEach [e] X.env)).all (fun x => !x.1) && (backToKw cpos (keywordEach [] X.env)).all (fun x => x.1.isSome)
      && decide ([e].length + ([] : List Keyword).length + (if ([] : List Keyword).isEmpty then 0 else 1) < 30)) = true := by rfl)
    (hline : (apos.endLine == cpos.line) = true := by rfl) (hs : starEach [e] X.env = (false, eval e X.env) :: starEach [] X.env := by rfl) (hplain : (backTo cpos (starEach [] X.env)).any (·.1) = false := by rfl) :
    PE X (.Call (.Attribute o "index" apos) [e] [] cpos) (tTIx to t) := by
  refine ⟨fun pins s σ H Q I h => ?_⟩
  refine wpAny_Call_method_late hbase hfew hline rfl (thn (ho.run pins s σ H _ I h) fun v s1 ⟨x, H1, I1, r1, ty, q1⟩ => ?_)
  obtain ⟨a, ob, ns, rfl, hH, hd⟩ := ty
  cases r1
  obtain ⟨hg, _, its, _, ho', hget, hcls, _⟩ := (show ObjOk X.prog X.w H1 s1.heap a (.frz ob (.tup ns)) from I1.hok a _ hH)
  refine ⟨"tuple", "tuple.index", PySem.F.plainAttrs_tuple, PySem.F.slot_tuple_index, PySem.F.type_tuple_index, ⟨_, hget, hcls⟩, fun a' e' => ?_, ?_⟩
  · cases e'
    exact ⟨ob, hg, hd⟩
  have hA := ha.run cpos pins s1 σ H1 _ I1 q1
  rw [hs] at hA ⊢
  refine Calls.callWith_builtin (by show (false || (backTo cpos (starEach [] X.env)).any (·.1)) = false; rw [hplain] <;> rfl) (Calls.evalArgs_plain ?_)
  refine thn hA fun us s2 ⟨vs, H2, I2, r2, q2⟩ => ?_
  obtain ⟨y, rfl, q2⟩ := q2
  obtain ⟨a2, ob2, ms, c, ea, rfl, hH2, hd2, hc, q⟩ := q2
  cases ea
  obtain ⟨u, rfl, ru⟩ := vals1 r2
  obtain ⟨tk, rfl⟩ := ru
  obtain ⟨its2, rv, p2, _⟩ := I2.tuple (show SqT X.K H2 a (ms.map V.int) from .inl (.inr ⟨_, hH2⟩))
  exact PySem.SeqAt.tuple_index_ints p2 (Vals.ints rv) hc ⟨.int _, H2, I2.tok _, ⟨_, rfl⟩, q⟩
def rLIx (K : PySem.W.Frag) : V → List V → Hp → VK → Prop := fun x xs H Q => ∃ (a : Addr) (ns : List Int) (c : Int), x = .ref a ∧ xs = [.int c] ∧ SqL K H a (ns.map V.int) ∧ c ∈ ns ∧ Q (.int (ns.idxOf c : Nat)) H
theorem mt_lIx : MtR X "list.index" (rLIx X.K) := by
  intro pins s σ H x xs v us Q I rx rxs h
  obtain ⟨a, ns, c, rfl, rfl, hs, hc, q⟩ := h
  cases rx
  obtain ⟨u, rfl, ru⟩ := vals1 rxs
  obtain ⟨tk, rfl⟩ := ru
  obtain ⟨its, rv, pl, hz⟩ := I.list hs
  exact PySem.SeqAt.list_index_ints pl.isList (Vals.ints rv) (by simpa using hz) hc ⟨.int _, H, I.tok _, ⟨_, rfl⟩, q⟩
end

/-! ### by data -/
section
variable {Γ : Gam} {K : PySem.W.Frag} {te to : TE} {ta : TA} {d e : Dat} {ds es : List Dat}
theorem eg_tupF0 : Eg tTupF Γ (.fz []) := fun B σ H k s Q q => fun p o hp ho => q _ _ (same_new hp) (.fz (k.fresh hp) upd_same ho)
theorem cg_tupF {ns : List Int} : CG (rTupF K) [.list (ns.map Dat.int)] (.fz ns) := fun B H xs k h Q q => by
  cases h with
  | cons r1 z =>
    cases z
    obtain ⟨a, xs, rfl, hb, hr, hd⟩ := r1.ls
    rw [ints_das ns hd] at hr
    exact ⟨a, _, rfl, SqL.of hr, fun l o hl ho => q _ _ (same_new hl) (.fz (k.fresh hl) upd_same ho)⟩
/-- tuple(list) -/
theorem cg_tupL : CG (fun xs H Q => ∃ p ys, xs = [.ref p] ∧ ((SqL K H p ys ∧ ∀ l, H l = none → Q (.ref l) (upd H l (.tup ys))) ∨ (SqT K H p ys ∧ Q (.ref p) H))) [.list ds] (.tup ds) := fun B H xs k h Q q => by
  cases h with
  | cons r1 z =>
    cases z
    obtain ⟨a, xs, rfl, hb, hr, hd⟩ := r1.ls
    exact ⟨a, xs, rfl, .inl ⟨SqL.of hr, fun l hl => q _ _ (same_new hl) (.tup (k.fresh hl) upd_same (hd.same (same_new hl)))⟩⟩
theorem fz_cons {B : Bd} {H : Hp} {ns : List Int} {v : V} (h : Dv B H v (.fz ns)) : ∃ a o, v = .ref a ∧ ¬ B a ∧ H a = some (.frz o (.tup (ns.map V.int))) ∧ o.dict = Option.none := by
  cases h with
  | fz hb h r => exact ⟨_, _, rfl, hb, h, r⟩
theorem rg_catF {ns ms : List Int} (h1 : ns ≠ []) (h2 : ms ≠ []) (hz : ns.length + ms.length ≤ 40000) : RG (rCatF K) (.fz ns) (.fz ms) (.fz (ns ++ ms)) := fun B H x y k ha hb Q q => by
  obtain ⟨a, o, rfl, _, ha, _⟩ := fz_cons ha
  obtain ⟨b, o', rfl, _, hb, _⟩ := fz_cons hb
  refine ⟨a, b, ns.map V.int, ms.map V.int, rfl, rfl, .inl (.inr ⟨_, ha⟩), .inl (.inr ⟨_, hb⟩), by simpa using h1, by simpa using h2, by rw [List.length_map, List.length_map]; exact sz40 hz, fun p o hp ho => ?_⟩
  exact q _ _ (same_new hp) (.fz (k.fresh hp) (by rw [List.map_append]; exact upd_same) ho)
theorem rg_catT (h1 : ds ≠ []) (h2 : es ≠ []) (hz : ds.length + es.length ≤ 40000) : RG (rCatT K) (.tup ds) (.tup es) (.tup (ds ++ es)) := fun B H x y k ha hb Q q => by
  cases ha with
  | tup n1 ha hd =>
    cases hb with
    | tup n2 hb he =>
      have e1 := hd.length
      have e2 := he.length
      refine ⟨_, _, _, _, rfl, rfl, SqT.of ha, SqT.of hb, fun z => ?_, by rw [e1, e2]; exact sz40 hz, fun z => ?_, fun _ p hp => ?_⟩
      · rw [z] at e1
        exact h1 (List.eq_nil_of_length_eq_zero e1.symm)
      · rw [z] at e2
        exact absurd (List.eq_nil_of_length_eq_zero e2.symm) h2
      · exact q _ _ (same_new hp) (.tup (k.fresh hp) upd_same ((hd.append he).same (same_new hp)))
/-- list + list -/
theorem rg_cat (hz : ds.length + es.length ≤ 40000) : RG rCat (.list ds) (.list es) (.list (ds ++ es)) := fun B H x y k ha hb Q q => by
  obtain ⟨a, xs, rfl, _, ha, hd⟩ := ha.ls
  obtain ⟨b, ys, rfl, _, hb, he⟩ := hb.ls
  refine ⟨a, b, xs, ys, rfl, rfl, ha, hb, by rw [hd.length, he.length]; exact sz40 hz, fun p hp => ?_⟩
  exact q _ _ (same_new hp) (.lst (k.fresh hp) upd_same ((hd.append he).same (same_new hp)))
/-- indices -/
theorem rg_ixL {i : Int} (h : atI ds i = some d) : RG (rIxL K) (.list ds) (.int i) d := fun B H x y k ha hb Q q => by
  obtain ⟨a, xs, rfl, _, ha, hd⟩ := ha.ls
  cases hb
  obtain ⟨j, hj⟩ : ∃ j, ixN ds.length i = some j ∧ ds[j]? = some d := by
    unfold atI at h
    cases e : ixN ds.length i with
    | none => rw [e] at h; cases h
    | some j => rw [e] at h; exact ⟨j, rfl, h⟩
  obtain ⟨v, hv, rv⟩ := hd.get hj.2
  refine ⟨a, xs, i, v, rfl, rfl, SqL.of ha, ?_, q v H (.refl H) rv⟩
  unfold atI
  rw [hd.length, hj.1]
  exact hv
theorem rg_ixT {i : Int} (ht : tuI e = some ds) (h : atI ds i = some d) : RG (rIxT K) e (.int i) d := fun B H x y k ha hb Q q => by
  obtain ⟨a, xs, rfl, _, ha, hd, _⟩ := ha.tu K ht
  cases hb
  obtain ⟨j, hj⟩ : ∃ j, ixN ds.length i = some j ∧ ds[j]? = some d := by
    unfold atI at h
    cases e : ixN ds.length i with
    | none => rw [e] at h; cases h
    | some j => rw [e] at h; exact ⟨j, rfl, h⟩
  obtain ⟨v, hv, rv⟩ := hd.get hj.2
  refine ⟨a, xs, i, v, rfl, rfl, ha, ?_, q v H (.refl H) rv⟩
  unfold atI
  rw [hd.length, hj.1]
  exact hv
/-- slices -/
def cutD (xs : List Dat) (lo hi : Option Int) : List Dat := (xs.drop (HT.sIx xs.length 0 lo)).take (HT.sIx xs.length xs.length hi - HT.sIx xs.length 0 lo)
theorem das_cut {B : Bd} {H : Hp} {xs : List V} (lo hi : Option Int) (h : Das B H xs ds) : Das B H (cutV xs lo hi) (cutD ds lo hi) := by
  unfold cutV cutD
  rw [h.length]
  exact (h.drop _).take _
theorem eg_slL {tl th : TO} {lo hi : Option Int} (h : Eg te Γ (.list ds)) (h1 : Og tl Γ lo) (h2 : Og th Γ hi) : Eg (tSl (rSlL K) te tl th) Γ (.list (cutD ds lo hi)) := fun B σ H k s Q q =>
  h B σ H k s _ fun x H1 e1 r1 => h1 B σ H1 (k.same e1) (s.same e1) _ fun H2 e2 => h2 B σ H2 ((k.same e1).same e2) ((s.same e1).same e2) _ fun H3 e3 => by
    obtain ⟨a, xs, rfl, _, ha, hd⟩ := r1.ls
    have e13 : Same H1 H3 := e2.trans e3
    exact ⟨a, xs, rfl, SqL.of (e13 _ _ ha), fun p hp => q _ _ ((e1.trans e13).trans (same_new hp)) (.lst (((k.same e1).same e13).fresh hp) upd_same ((das_cut lo hi hd).same (e13.trans (same_new hp))))⟩
theorem eg_slT {tl th : TO} {lo hi : Option Int} (h : Eg te Γ (.tup ds)) (h1 : Og tl Γ lo) (h2 : Og th Γ hi) (hw : ¬ (HT.sIx ds.length 0 lo = 0 ∧ HT.sIx ds.length ds.length hi = ds.length)) : Eg (tSl (rSlT K) te tl th) Γ (.tup (cutD ds lo hi)) := fun B σ H k s Q q =>
  h B σ H k s _ fun x H1 e1 r1 => h1 B σ H1 (k.same e1) (s.same e1) _ fun H2 e2 => h2 B σ H2 ((k.same e1).same e2) ((s.same e1).same e2) _ fun H3 e3 => by
    cases r1 with
    | tup hb ha hd =>
      have e13 : Same H1 H3 := e2.trans e3
      exact ⟨_, _, rfl, SqT.of (e13 _ _ ha), by rw [hd.length]; exact hw, fun p hp => q _ _ ((e1.trans e13).trans (same_new hp)) (.tup (((k.same e1).same e13).fresh hp) upd_same ((das_cut lo hi hd).same (e13.trans (same_new hp))))⟩
/-- list.index, tuple.index -/
theorem eg_lIx {ns : List Int} {c : Int} (h : Eg to Γ (.list (ns.map Dat.int))) (ha : Eg te Γ (.int c)) (hc : c ∈ ns) : Eg (tBM K "list" (rLIx K) to (tCons te tNil)) Γ (.int (ns.idxOf c : Nat)) := fun B σ H k s Q q =>
  h B σ H k s _ fun x H1 e1 r1 => by
    obtain ⟨a, xs, rfl, _, hr, hd⟩ := r1.ls
    rw [ints_das ns hd] at hr
    refine ⟨.inl ⟨rfl, _, SqL.of hr⟩, ha B σ H1 (k.same e1) (s.same e1) _ fun y H2 e2 r2 => ?_⟩
    cases r2
    exact ⟨a, ns, c, rfl, rfl, SqL.of (e2 _ _ hr), hc, q _ H2 (e1.trans e2) (.int _)⟩
theorem eg_tIx {ns : List Int} {c : Int} (h : Eg to Γ (.fz ns)) (ha : Eg te Γ (.int c)) (hc : c ∈ ns) : Eg (tTIx to (tCons te tNil)) Γ (.int (ns.idxOf c : Nat)) := fun B σ H k s Q q =>
  h B σ H k s _ fun x H1 e1 r1 => by
    obtain ⟨a, o, rfl, _, hr, hd⟩ := fz_cons r1
    refine ⟨⟨a, o, _, rfl, hr, hd⟩, ha B σ H1 (k.same e1) (s.same e1) _ fun y H2 e2 r2 => ?_⟩
    cases r2
    exact ⟨_, rfl, a, o, ns, c, rfl, rfl, e2 _ _ hr, hd, hc, q _ H2 (e1.trans e2) (.int _)⟩
/-- c in a tuple of ints -/
theorem inV_int (c : Int) : ∀ ns : List Int, inV (V.int c) (ns.map V.int) = decide (c ∈ ns)
  | [] => rfl
  | n :: r => by
    have ih := inV_int c r
    unfold inV at ih ⊢
    rw [List.map_cons, List.any_cons, ih]
    show ((n == c) || decide (c ∈ r)) = _
    by_cases h : n = c
    · subst h; simp
    · have h' : ¬ c = n := fun z => h z.symm
      simp [h, h']
theorem flat_ints : ∀ ns : List Int, (ns.map V.int).all flatV = true
  | [] => rfl
  | _ :: r => flat_ints r
theorem rg_inF {ns : List Int} {c : Int} : RG (rIn K false) (.int c) (.fz ns) (.bool (decide (c ∈ ns))) := fun B H x y k ha hb Q q => by
  obtain ⟨a, o, rfl, _, hr, _⟩ := fz_cons hb
  cases ha
  refine ⟨a, _, rfl, .inr (.inl (.inr ⟨_, hr⟩)), rfl, flat_ints ns, ?_⟩
  rw [inV_int]
  exact q _ H (.refl H) (.bl _)
/-! == of tuples -/
theorem dp_ints {H : Hp} : ∀ ns : List Int, DpAll K H (ns.map V.int) (ns.map PyData.int)
  | [] => .nil
  | n :: r => .cons (.int n) (dp_ints r)
theorem Dv.dpFz {B : Bd} {H : Hp} {v : V} {ns : List Int} (h : Dv B H v (.fz ns)) : Dp K H v (.tuple (ns.map PyData.int)) := by
  obtain ⟨a, o, rfl, _, hr, _⟩ := fz_cons h
  exact .tup (.inl (.inr ⟨_, hr⟩)) (dp_ints ns)
theorem Dv.dpInts {B : Bd} {H : Hp} {v : V} {ns : List Int} (h : Dv B H v (.tup (ns.map Dat.int))) : Dp K H v (.tuple (ns.map PyData.int)) := by
  cases h with
  | tup hb hr hd =>
    rw [ints_das ns hd] at hr
    exact .tup (SqT.of hr) (dp_ints ns)
theorem dp_fzs {B : Bd} {H : Hp} : ∀ (S : List (List Int)) {vs : List V}, Das B H vs (S.map Dat.fz) → DpAll K H vs (S.map fun t => PyData.tuple (t.map PyData.int))
  | [], _, .nil => .nil
  | t :: r, _, .cons a b => .cons a.dpFz (dp_fzs r b)
theorem Dv.dpSt {B : Bd} {H : Hp} {v : V} {S : List (List Int)} (h : Dv B H v (.tup (S.map Dat.fz))) : Dp K H v (.tuple (S.map fun t => PyData.tuple (t.map PyData.int))) := by
  cases h with
  | tup hb hr hd => exact .tup (SqT.of hr) (dp_fzs S hd)
theorem eqvAll_ints : ∀ (ns ms : List Int), PyData.eqvAll (ns.map PyData.int) (ms.map PyData.int) = decide (ns = ms)
  | [], [] => by simp only [List.map_nil, PyData.eqvAll, decide_true]
  | [], _ :: _ => by simp [PyData.eqvAll]
  | _ :: _, [] => by simp [PyData.eqvAll]
  | n :: r, m :: t => by
    rw [List.map_cons, List.map_cons, PyData.eqvAll, eqvAll_ints r t]
    simp only [PyData.eqv]
    by_cases h : n = m <;> by_cases h2 : r = t <;> simp [h, h2]
theorem eqv_ints (ns ms : List Int) : PyData.eqv (.tuple (ns.map PyData.int)) (.tuple (ms.map PyData.int)) = decide (ns = ms) := by
  simp only [PyData.eqv]
  exact eqvAll_ints ns ms
theorem eqvAll_st : ∀ (S T : List (List Int)), PyData.eqvAll (S.map fun t => PyData.tuple (t.map PyData.int)) (T.map fun t => PyData.tuple (t.map PyData.int)) = decide (S = T)
  | [], [] => by simp only [List.map_nil, PyData.eqvAll, decide_true]
  | [], _ :: _ => by simp [PyData.eqvAll]
  | _ :: _, [] => by simp [PyData.eqvAll]
  | n :: r, m :: t => by
    rw [List.map_cons, List.map_cons, PyData.eqvAll, eqvAll_st r t, eqv_ints]
    by_cases h : n = m <;> by_cases h2 : r = t <;> simp [h, h2]
theorem eqv_st (S T : List (List Int)) : PyData.eqv (.tuple (S.map fun t => PyData.tuple (t.map PyData.int))) (.tuple (T.map fun t => PyData.tuple (t.map PyData.int))) = decide (S = T) := by
  simp only [PyData.eqv]
  exact eqvAll_st S T
theorem shaped_ints : ∀ ns : List Int, PyData.canLayAll0 (ns.map PyData.int) = true ∧ PyData.depthAll (ns.map PyData.int) = 0
  | [] => ⟨rfl, rfl⟩
  | n :: r => by
    have ih := shaped_ints r
    constructor
    · simp only [List.map_cons, PyData.canLayAll0, PyData.canLay0, ih.1, Bool.and_self]
    · simp only [List.map_cons, PyData.depthAll, PyData.depth, ih.2]; rfl
theorem shaped_t (ns : List Int) : SeqAt.shaped (.tuple (ns.map PyData.int)) = true := by
  unfold SeqAt.shaped
  simp only [PyData.canLay0, PyData.depth, (shaped_ints ns).1, (shaped_ints ns).2]
  decide
theorem shaped_fzs : ∀ S : List (List Int), PyData.canLayAll0 (S.map fun t => PyData.tuple (t.map PyData.int)) = true ∧ PyData.depthAll (S.map fun t => PyData.tuple (t.map PyData.int)) ≤ 1
  | [] => ⟨rfl, by decide⟩
  | n :: r => by
    have ih := shaped_fzs r
    constructor
    · simp only [List.map_cons, PyData.canLayAll0, PyData.canLay0, ih.1, (shaped_ints n).1, Bool.and_self]
    · simp only [List.map_cons, PyData.depthAll, PyData.depth, (shaped_ints n).2]
      exact Nat.max_le.mpr ⟨Nat.le_refl _, ih.2⟩
theorem shaped_st (S : List (List Int)) : SeqAt.shaped (.tuple (S.map fun t => PyData.tuple (t.map PyData.int))) = true := by
  unfold SeqAt.shaped
  simp only [PyData.canLay0, PyData.depth]
  rw [Bool.and_eq_true]
  exact ⟨(shaped_fzs S).1, decide_eq_true (Nat.le_trans (Nat.succ_le_succ (shaped_fzs S).2) (by decide))⟩
theorem rg_eqT {ns ms : List Int} : RG (rEqD K) (.tup (ns.map Dat.int)) (.tup (ms.map Dat.int)) (.bool (decide (ns = ms))) := fun B H x y k ha hb Q q =>
  ⟨_, _, ha.dpInts, hb.dpInts, shaped_t _, shaped_t _, by rw [eqv_ints]; exact q _ H (.refl H) (.bl _)⟩
theorem rg_neT {ns ms : List Int} : RG (rNeD K) (.tup (ns.map Dat.int)) (.tup (ms.map Dat.int)) (.bool (!decide (ns = ms))) := fun B H x y k ha hb Q q =>
  ⟨_, _, ha.dpInts, hb.dpInts, shaped_t _, shaped_t _, by rw [eqv_ints]; exact q _ H (.refl H) (.bl _)⟩
theorem rg_neSt {S T : List (List Int)} : RG (rNeD K) (.tup (S.map Dat.fz)) (.tup (T.map Dat.fz)) (.bool (!decide (S = T))) := fun B H x y k ha hb Q q =>
  ⟨_, _, ha.dpSt, hb.dpSt, shaped_st _, shaped_st _, by rw [eqv_st]; exact q _ H (.refl H) (.bl _)⟩
/-- train != () -/
theorem rg_neFz0 {ns : List Int} : RG (rNeD K) (.fz ns) (.tup []) (.bool (!decide (ns = []))) := fun B H x y k ha hb Q q =>
  ⟨_, _, ha.dpFz, hb.dpInts (ns := []), shaped_t _, shaped_t [], by rw [eqv_ints]; exact q _ H (.refl H) (.bl _)⟩
/-! sum, max, any, all, len -/
theorem cg_sum {ns : List Int} : CG (rSum K) [.list (ns.map Dat.int)] (.int ns.sum) := fun B H xs k h Q q => by
  cases h with
  | cons r1 z =>
    cases z
    obtain ⟨a, xs, rfl, hb, hr, hd⟩ := r1.ls
    rw [ints_das ns hd] at hr
    exact ⟨a, ns, rfl, SqL.of hr, q _ H (.refl H) (.int _)⟩
theorem cg_sumT {ns : List Int} {r : List V → Hp → VK → Prop} (h : CG r [.list (ns.map Dat.int)] (.int ns.sum)) : CG r [.list (ns.map Dat.int)] (.int ns.sum) := h
theorem cg_max {ns : List Int} {m : Int} (hm : m ∈ ns) (hle : ∀ y ∈ ns, y ≤ m) : CG (rMax K) [.list (ns.map Dat.int)] (.int m) := fun B H xs k h Q q => by
  cases h with
  | cons r1 z =>
    cases z
    obtain ⟨a, xs, rfl, hb, hr, hd⟩ := r1.ls
    rw [ints_das ns hd] at hr
    refine ⟨a, ns, rfl, SqL.of hr, List.length_pos_of_mem hm, fun m' h1 h2 => ?_⟩
    have e : m' = m := Int.le_antisymm (hle m' h1) (h2 m hm)
    rw [e]
    exact q _ H (.refl H) (.int _)
theorem cg_any {bs : List Bool} : CG (rAny K) [.list (bs.map Dat.bool)] (.bool (bs.any id)) := fun B H xs k h Q q => by
  cases h with
  | cons r1 z =>
    cases z
    obtain ⟨a, xs, rfl, hb, hr, hd⟩ := r1.ls
    rw [bools_das bs hd] at hr
    exact ⟨a, bs, rfl, SqL.of hr, q _ H (.refl H) (.bl _)⟩
theorem cg_all {bs : List Bool} : CG (rAll K) [.list (bs.map Dat.bool)] (.bool (bs.all id)) := fun B H xs k h Q q => by
  cases h with
  | cons r1 z =>
    cases z
    obtain ⟨a, xs, rfl, hb, hr, hd⟩ := r1.ls
    rw [bools_das bs hd] at hr
    exact ⟨a, bs, rfl, SqL.of hr, q _ H (.refl H) (.bl _)⟩
def rLenS (K : PySem.W.Frag) : List V → Hp → VK → Prop := fun xs H Q => ∃ p ys, xs = [.ref p] ∧ (SqL K H p ys ∨ SqT K H p ys) ∧ Q (.int ys.length) H
theorem cg_lenL : CG (rLenS K) [.list ds] (.int (ds.length : Nat)) := fun B H xs k h Q q => by
  cases h with
  | cons r1 z =>
    cases z
    obtain ⟨a, xs, rfl, hb, hr, hd⟩ := r1.ls
    exact ⟨a, xs, rfl, .inl (SqL.of hr), by rw [hd.length]; exact q _ H (.refl H) (.int _)⟩
theorem cg_lenT (e' : tuI d = some ds) : CG (rLenS K) [d] (.int (ds.length : Nat)) := fun B H xs k h Q q => by
  cases h with
  | cons r1 z =>
    cases z
    obtain ⟨a, xs, rfl, hb, hq, hd, _⟩ := r1.tu K e'
    exact ⟨a, xs, rfl, .inr hq, by rw [hd.length]; exact q _ H (.refl H) (.int _)⟩
/-! isinstance(x, T) of a built-in class -/
def tyD : Dat → String
  | .none => "NoneType"
  | .bool _ => "bool"
  | .int _ => "int"
  | .list _ => "list"
  | .tup _ => "tuple"
  | .fz _ => "tuple"
  | .raw _ => ""
def notRaw : Dat → Bool
  | .raw _ => false
  | _ => true
theorem Dv.tyx {B : Bd} {H : Hp} {v : V} (h : Dv B H v d) (hr : notRaw d = true) : TyX K H v (.type (tyD d)) := by
  cases h with
  | non => exact .base .non
  | bl b => exact .base (.bl b)
  | int i => exact .base (.int i)
  | lst _ h _ => exact .base (.lst h)
  | tup _ h _ => exact .base (.tup h)
  | fz _ h _ => exact .fTuple h
  | raw v => cases hr
theorem eg_isi {T : String} {b : Bool} (h : Eg te Γ d) (hk : kitB (tyD d) T = some b) (hr : notRaw d = true := by rfl) : Eg (tCB (rIsi K) (tCons te (tCons (tC (.ty T)) tNil))) Γ (.bool b) := fun B σ H k s Q q =>
  h B σ H k s _ fun v H1 e1 r1 => ⟨v, .ty T, .type (tyD d), .type T, b, rfl, .ty T, r1.tyx hr, kit_ty hk, q _ H1 e1 (.bl _)⟩
end
end Tr
/-! Defs 1: checks and yards. -/
namespace Tr
open PySem PySem.Spec PyProof.Rows L2 RT
def top (i : Nat) : Stmt := PySem.Challenge.pw_trainring_k63_whole_full_yards.main.body.getD i (.Pass ⟨0, 0, 0, 0⟩)
/-- a def of the text as its callers see it -/
structure Cal (P : Program) (w : World) (K : PySem.W.Frag) (mg : Str → Option Value) (base : Heap) (x : Str) (k : Nat) (ps : List Str) (F : List Dat → Dat → Prop) : Prop where
  ex : ∃ (f : Addr) (fd : FuncData), FnOk P w K mg base CX0 k f fd ps (spG F) ∧ mg x = some (.ref f) ∧ PySem.W.keepIn K (.ref f) = true ∧ Binds K fd ps []
theorem Cal.mono {P : Program} {w : World} {K : PySem.W.Frag} {mg : Str → Option Value} {base : Heap} {x : Str} {j k : Nat} {ps : List Str} {F : List Dat → Dat → Prop} (c : Cal P w K mg base x j ps F) (h : j ≤ k) : Cal P w K mg base x k ps F :=
  let ⟨f, fd, a, b, d, e⟩ := c.ex; ⟨f, fd, a.mono h, b, d, e⟩
theorem pe_cal {X : Cx} {x : Str} {k : Nat} {ps : List Str} {F : List Dat → Dat → Prop} {e : Expr} {es : List Expr} {t : TA} {p pos : Pos} (c : Cal X.prog X.w X.K X.mg X.base x k ps F) (hr : Room k X.A) (hg : Gl X x) (ha : PA X (e :: es) t)
    (he : starEach (e :: es) X.env = (false, eval e X.env) :: starEach es X.env := by rfl) (hpl : (backTo pos (starEach es X.env)).any (·.1) = false := by rfl) (hd : (x == ("__debug__" : Str)) = false := by decide) : PE X (.Call (.Name x p) (e :: es) [] pos) (tCall (spG F) [] E0 t) := by
  obtain ⟨f, fd, a, b, d, z⟩ := c.ex
  exact pe_call a hr hg b d z .nil pass0 ha hd he hpl
/-- what the module's names are -/
structure Txt (mg : Str → Option Value) : Prop where
  isi : mg "isinstance" = none
  int : mg "int" = none
  bool : mg "bool" = none
  tuple : mg "tuple" = none
  len : mg "len" = none
  enumerate : mg "enumerate" = none
  all : mg "all" = none
  range : mg "range" = none
  reversed : mg "reversed" = none
  max : mg "max" = none
  zip : mg "zip" = none
  any : mg "any" = none
  sum : mg "sum" = none
  list : mg "list" = none
  mc : ∃ t, mg "MOST_CARS" = some (.int 7 t)
  ms : ∃ t, mg "MOST_STATIONS" = some (.int 8 t)
section
variable {P : Program} {w : World} {K : PySem.W.Frag} {mg : Str → Option Value} {base : Heap} {f : Addr} {fd : FuncData}
abbrev sIsInteger : Stmt := top 1
abbrev sIsIn : Stmt := top 2
abbrev sIsList : Stmt := top 3
abbrev sNeedYard : Stmt := top 13
theorem pe_isi {X : Cx} {e : Expr} {te : TE} {T : String} {x : Str} {p q pos : Pos} (he : PE X e te) (hg : Gl X "isinstance") (hm : X.mg "isinstance" = none) (hg2 : Gl X x) (hm2 : X.mg x = none) (hv : bootBuiltins x = some (.type T))
    (hn : x ≠ "__name__" := by decide) (hd : (x == ("__debug__" : Str)) = false := by decide) (h1 : starEach (e :: [.Name x q]) X.env = (false, eval e X.env) :: starEach [.Name x q] X.env := by rfl) (h2 : (backTo pos (starEach [.Name x q] X.env)).any (·.1) = false := by rfl) (h3 : starEach [.Name x q] X.env = (false, eval (.Name x q) X.env) :: starEach [] X.env := by rfl) :
    PE X (.Call (.Name "isinstance" p) [e, .Name x q] [] pos) (tCB (rIsi X.K) (tCons te (tCons (tC (.ty T)) tNil))) :=
  pe_callB call_isi hg hm (by decide +kernel) (pa_cons he (pa_cons (pe_bltn hg2 hm2 hv rfl hn hd) pa_nil h3) h1) (by decide) (by decide) h1 h2

def FIsInteger (ds : List Dat) (r : Dat) : Prop := ∃ i : Int, ds = [.int i] ∧ r = .bool true
theorem sc_is_integer : FnScope ["value"] ["value"] (defScope sIsInteger) := ⟨rfl, rfl, rfl, by decide +kernel, rfl, by decide +kernel, by decide +kernel⟩
theorem ok_is_integer (F : Fun K "is_integer" "is_integer" sIsInteger f fd) (T : Txt mg) : FnOk P w K mg base CX0 1 f fd ["value"] (spG FIsInteger) := by
  refine fnG F sc_is_integer (fun ds r h => by obtain ⟨i, rfl, _⟩ := h; rfl) fun cdv A outer s H E hr ds r h => ?_
  obtain ⟨i, rfl, rfl⟩ := h
  refine ⟨_, pss_one (ps_ret (pe_and (pe_isi (T := "int") (pv 0) (by rfl) T.isi (by rfl) T.int (by decide +kernel)) (pe_one (pe_not (pe_isi (T := "bool") (pv 0) (by rfl) T.isi (by rfl) T.bool (by decide +kernel)))))), .inl ?_⟩
  exact rg_ret (eg_is (eg_andV (eg_isi (b := true) (eg_var rfl) (by show kitB "int" "int" = some true; decide +kernel)) fun _ => eg_notV (eg_isi (b := false) (eg_var rfl) (by show kitB "int" "bool" = some false; decide +kernel))) rfl)

def FIsIn (ds : List Dat) (r : Dat) : Prop := ∃ v a b : Int, ds = [.int v, .int a, .int b] ∧ r = .bool (decide (a ≤ v) && decide (v ≤ b))
theorem sc_is_in : FnScope ["value", "least", "most"] ["value", "least", "most"] (defScope sIsIn) := ⟨rfl, rfl, rfl, by decide +kernel, rfl, by decide +kernel, by decide +kernel⟩
theorem ok_is_in (F : Fun K "is_in" "is_in" sIsIn f fd) (c1 : Cal P w K mg base "is_integer" 1 ["value"] FIsInteger) : FnOk P w K mg base CX0 2 f fd ["value", "least", "most"] (spG FIsIn) := by
  refine fnG F sc_is_in (fun ds r h => by obtain ⟨v, a, b, rfl, _⟩ := h; rfl) fun cdv A outer s H E hr ds r h => ?_
  obtain ⟨v, a, b, rfl, rfl⟩ := h
  refine ⟨_, pss_one (ps_ret (pe_and (pe_cal c1 hr (by rfl) (pa_cons (pv 0) pa_nil)) (pe_one (pe_chain op_le op_le (pv 1) (pv 0) (pv 2))))), .inl ?_⟩
  exact rg_ret (eg_is (eg_andV (a := true) (eg_call (ag_cons (eg_var rfl) ag_nil) ⟨v, rfl, rfl⟩) fun _ => eg_chain (eg_var rfl) (eg_var rfl) (fun _ => eg_var rfl) (rg_I0 fun _ _ => .bl _) (fun _ => rg_I0 fun _ _ => .bl _)) rfl)

def FIsList (ds : List Dat) (r : Dat) : Prop := ∃ d es, ∃ a b : Int, ds = [d, .int a, .int b] ∧ tuI d = some es ∧ r = .bool (decide (a ≤ (es.length : Nat)) && decide (((es.length : Nat) : Int) ≤ b))
theorem tyD_tu {d : Dat} {es : List Dat} (h : tuI d = some es) : tyD d = "tuple" := by
  cases d <;> first | rfl | cases h
theorem sc_is_list : FnScope ["value", "least", "most"] ["value", "least", "most"] (defScope sIsList) := ⟨rfl, rfl, rfl, by decide +kernel, rfl, by decide +kernel, by decide +kernel⟩
theorem ok_is_list (F : Fun K "is_list" "is_list" sIsList f fd) (T : Txt mg) : FnOk P w K mg base CX0 1 f fd ["value", "least", "most"] (spG FIsList) := by
  refine fnG F sc_is_list (fun ds r h => by obtain ⟨d, es, a, b, rfl, _⟩ := h; rfl) fun cdv A outer s H E hr ds r h => ?_
  obtain ⟨d, es, a, b, rfl, ht, rfl⟩ := h
  refine ⟨_, pss_one (ps_ret (pe_and (pe_isi (T := "tuple") (pv 0) (by rfl) T.isi (by rfl) T.tuple (by decide +kernel)) (pe_one (pe_chain op_le op_le (pv 1) (pe_callB call_len_seq (by rfl) T.len PySem.boot_len (pa_cons (pv 0) pa_nil)) (pv 2))))), .inl ?_⟩
  exact rg_ret (eg_is (eg_andV (a := true) (eg_isi (b := true) (eg_var rfl) (by rw [tyD_tu ht]; decide +kernel) (by cases d <;> first | rfl | cases ht)) fun _ => eg_chain (eg_var rfl) (eg_cb (ag_cons (eg_var rfl) ag_nil) (cg_lenT (K := K) ht)) (fun _ => eg_var rfl) (rg_I0 fun _ _ => .bl _) (fun _ => rg_I0 fun _ _ => .bl _)) rfl)

abbrev yardD (n k : Nat) : Dat := .tup [.int (n : Nat), .int (k : Nat)]
def FNeedYard (ds : List Dat) (r : Dat) : Prop := ∃ n k : Nat, ds = [yardD n k] ∧ 1 ≤ n ∧ n ≤ 7 ∧ 2 ≤ k ∧ k ≤ 8 ∧ r = .none
theorem sc_need_yard : FnScope ["yard"] ["yard"] (defScope sNeedYard) := ⟨rfl, rfl, rfl, by decide +kernel, rfl, by decide +kernel, by decide +kernel⟩
theorem ok_need_yard (F : Fun K "need_yard" "need_yard" sNeedYard f fd) (T : Txt mg) (c2 : Cal P w K mg base "is_in" 2 ["value", "least", "most"] FIsIn) (c3 : Cal P w K mg base "is_list" 1 ["value", "least", "most"] FIsList) : FnOk P w K mg base CX0 3 f fd ["yard"] (spG FNeedYard) := by
  refine fnG F sc_need_yard (fun ds r h => by obtain ⟨n, k, rfl, _⟩ := h; rfl) fun cdv A outer s H E hr ds r h => ?_
  obtain ⟨n, k, rfl, n1, n7, k2, k8, rfl⟩ := h
  obtain ⟨t1, mc⟩ := T.mc
  obtain ⟨t2, ms⟩ := T.ms
  refine ⟨_, pss_one (ps_if (PW.pt (pw_or (pt_not (pt_val (pe_cal c3 (hr.mono (by decide)) (by rfl) (pa_cons (pv 0) (pa_cons pe_int (pa_cons pe_int pa_nil))))))
      (pw_or (pt_not (pt_val (pe_cal c2 hr (by rfl) (pa_cons (pe_ix ix_tup (pv 0) pe_int (fun _ _ => rfl)) (pa_cons pe_int (pa_cons (pe_glob (v := .int 7) (by rfl) mc ⟨_, rfl⟩) pa_nil))))))
      (pw_or1 (pt_not (pt_val (pe_cal c2 hr (by rfl) (pa_cons (pe_ix ix_tup (pv 0) pe_int (fun _ _ => rfl)) (pa_cons pe_int (pa_cons (pe_glob (v := .int 8) (by rfl) ms ⟨_, rfl⟩) pa_nil)))))))))) pss_never pss_nil), .inr ⟨rfl, ?_⟩⟩
  refine ⟨_, rg_ifF (tg_is (tg_or (tg_not (tg_B (eg_call (ag_cons (eg_var rfl) (ag_cons eg_int (ag_cons eg_int ag_nil))) ⟨_, _, _, _, rfl, rfl, rfl⟩))) fun _ => tg_or (tg_not (tg_B (eg_call (ag_cons (eg_op (eg_var rfl) eg_int (rg_ixT (K := K) (i := 0) rfl rfl)) (ag_cons eg_int (ag_cons eg_int ag_nil))) ⟨_, _, _, rfl, rfl⟩))) fun _ =>
      tg_not (tg_B (eg_call (ag_cons (eg_op (eg_var rfl) eg_int (rg_ixT (K := K) (i := 1) rfl rfl)) (ag_cons eg_int (ag_cons eg_int ag_nil))) ⟨_, _, _, rfl, rfl⟩))) ?_) rg_nx⟩
  have h1 : decide ((1 : Int) ≤ (n : Nat)) = true := decide_eq_true (by omega)
  have h2 : decide (((n : Nat) : Int) ≤ 7) = true := decide_eq_true (by omega)
  have h3 : decide ((2 : Int) ≤ (k : Nat)) = true := decide_eq_true (by omega)
  have h4 : decide (((k : Nat) : Int) ≤ 8) = true := decide_eq_true (by omega)
  rw [h1, h2, h3, h4]
  rfl
end
end Tr
/-! Layer G: statements that change objects of their own (at addresses of ms). -/
namespace Tr
open PySem PySem.Spec PyProof.Rows L2 RT
def Chg (ms : List Addr) (H H' : Hp) : Prop := ∀ a o, a ∉ ms → H a = some o → H' a = some o
theorem Chg.refl (ms : List Addr) (H : Hp) : Chg ms H H := fun _ _ _ h => h
theorem Chg.same {ms : List Addr} {H H' : Hp} (s : Same H H') : Chg ms H H' := fun a o _ h => s a o h
theorem Chg.trans {ms : List Addr} {H H1 H2 : Hp} (a : Chg ms H H1) (b : Chg ms H1 H2) : Chg ms H H2 := fun x o hn h => b x o hn (a x o hn h)
theorem Chg.upd {ms : List Addr} {H : Hp} {p : Addr} {o : HO} (h : p ∈ ms) : Chg ms H (upd H p o) := fun a u hn e => by rw [upd_ne (fun z => hn (by rw [z]; exact h))]; exact e
theorem Chg.le {ms : List Addr} {B : Bd} {H H' : Hp} (c : Chg ms H H') (hb : ∀ a ∈ ms, B a) : Le B H B H' := ⟨fun _ h => .inl h, fun _ h => h, fun a o hn e => c a o (fun z => hn (hb a z)) e⟩
/-- a word about the heap that new objects do not touch -/
def Mon (M : Hp → Prop) : Prop := ∀ H H', Same H H' → M H → M H'
def RgM (B : Bd) (ms : List Addr) (t : TS) (Γ : Gam) (M : Hp → Prop) (Γ' : Gam) (M' : Hp → Prop) : Prop := ∀ (D : Ends) σ H, Ok B H → Sd B σ H Γ → M H →
  (∀ σ' H', Chg ms H H' → Ok B H' → Sd B σ' H' Γ' → M' H' → D.nx σ' H') → t D σ H
section
variable {B : Bd} {ms : List Addr} {t u : TS} {Γ Γ1 Γ' : Gam} {M M1 M' : Hp → Prop}
theorem rgm_of (h : Rg t Γ (.nx Γ')) (hm : Mon M) : RgM B ms t Γ M Γ' M := fun D σ H k s m q =>
  h B D σ H k s fun σ' H' e s' => q σ' H' (.same e) (k.same e) s' (hm _ _ e m)
theorem rgm_nx : RgM B ms tNext Γ M Γ M := fun D σ H k s m q => q σ H (.refl _ _) k s m
theorem rgm_seq (h1 : RgM B ms t Γ M Γ1 M1) (h2 : RgM B ms u Γ1 M1 Γ' M') : RgM B ms (tSeq t u) Γ M Γ' M' := fun D σ H k s m q =>
  h1 { D with nx := u D } σ H k s m fun σ1 H1 c1 k1 s1 m1 => h2 D σ1 H1 k1 s1 m1 fun σ2 H2 c2 k2 s2 m2 => q σ2 H2 (c1.trans c2) k2 s2 m2
theorem rgm_pre {o : Out} (h1 : Rg t Γ (.nx Γ1)) (h2 : Rg u Γ1 o) : Rg (tSeq t u) Γ o := rg_seq h1 h2
theorem rgm_ifF {tc : TT} (h : Tg tc Γ false) (hm : Mon M) (hu : RgM B ms u Γ M Γ' M') : RgM B ms (tIfS tc t u) Γ M Γ' M' := fun D σ H k s m q =>
  h B σ H k s _ fun H1 e1 => iteF (hu D σ H1 (k.same e1) (s.same e1) (hm _ _ e1 m) fun σ2 H2 c2 k2 s2 m2 => q σ2 H2 (.trans (.same e1) c2) k2 s2 m2)
/-- the same where the test's way is given by the word -/
def TgM (B : Bd) (tt : TT) (Γ : Gam) (M : Hp → Prop) (b : Bool) : Prop := ∀ σ H, Ok B H → Sd B σ H Γ → M H → ∀ Q : Bool → Hp → Prop, (∀ H2, Same H H2 → Q b H2) → tt σ H Q
theorem tgm_of {tt : TT} {b : Bool} (h : Tg tt Γ b) : TgM B tt Γ M b := fun σ H k s m Q q => h B σ H k s Q q
theorem tgm_or {t u : TT} {a b : Bool} (hm : Mon M) (h1 : TgM B t Γ M a) (h2 : a = false → TgM B u Γ M b) : TgM B (tOr t u) Γ M (a || b) := fun σ H k s m Q q => h1 σ H k s m _ fun H1 e1 => by
  cases a with
  | true => exact iteT (q H1 e1)
  | false => exact iteF (h2 rfl σ H1 (k.same e1) (s.same e1) (hm _ _ e1 m) Q fun H2 e2 => q H2 (e1.trans e2))
theorem rgm_ifFM {tc : TT} (h : TgM B tc Γ M false) (hm : Mon M) (hu : RgM B ms u Γ M Γ' M') : RgM B ms (tIfS tc t u) Γ M Γ' M' := fun D σ H k s m q =>
  h σ H k s m _ fun H1 e1 => iteF (hu D σ H1 (k.same e1) (s.same e1) (hm _ _ e1 m) fun σ2 H2 c2 k2 s2 m2 => q σ2 H2 (.trans (.same e1) c2) k2 s2 m2)
/-- a loop -/
theorem rgm_for {α : Type} {wi : TI} {g : TG} {tb : TS} (hms : ∀ a ∈ ms, B a) (xs : List α) (it : α → Dat) (Γs : Nat → Gam) (Ms : Nat → Hp → Prop) (hmon : ∀ i, Mon (Ms i)) (hI : IG wi (Γs 0) (xs.map it))
    (hb : ∀ i a, xs[i]? = some a → ∃ Γ1 js, GG g js (Γs i) (it a) Γ1 ∧ RgM B ms tb Γ1 (Ms i) (Γs (i + 1)) (Ms (i + 1))) : RgM B ms (tFor wi g tb) (Γs 0) (Ms 0) (Γs xs.length) (Ms xs.length) := by
  intro D σ H k s m0 q
  refine hI B σ H k s _ fun J H1 e1 w1 => ?_
  refine ⟨fun i n σ' H' => n = xs.length - i ∧ i ≤ xs.length ∧ Chg ms H1 H' ∧ Ok B H' ∧ Sd B σ' H' (Γs i) ∧ Ms i H', ⟨_, rfl, Nat.zero_le _, .refl _ _, k.same e1, s.same e1, hmon 0 _ _ e1 m0⟩, ?_⟩
  rintro i n σ' H' ⟨rfl, hi, c, k', s', m'⟩
  obtain ⟨w2, w3⟩ := w1 B H' (c.le hms) k'
  by_cases hlt : i < xs.length
  · have hxi : xs[i]? = some xs[i] := List.getElem?_eq_getElem hlt
    generalize xs[i] = a at hxi
    obtain ⟨go, yl⟩ := w2 i (it a) (by rw [List.getElem?_map, hxi]; rfl)
    refine .inr ⟨go, fun σ2 H2 => Chg ms H1 H2 ∧ Ok B H2 ∧ Sd B σ2 H2 (Γs (i + 1)) ∧ Ms (i + 1) H2, fun σ2 H2 h2 => ⟨_, by omega, rfl, hlt, h2⟩, fun x H2 hy => ?_⟩
    obtain ⟨e2, rx⟩ := yl x H2 hy
    obtain ⟨Γ1, js, hg, hr⟩ := hb i a hxi
    exact hg B σ' H2 x (k'.same e2) (s'.same e2) rx _ fun σ2 s2 _ _ => hr _ σ2 H2 (k'.same e2) s2 (hmon i _ _ e2 m') fun σ3 H3 c3 k3 s3 m3 => ⟨(c.trans (.same e2)).trans c3, k3, s3, m3⟩
  · have e : i = xs.length := by omega
    subst e
    exact .inl ⟨by rw [List.length_map] at w3; exact w3, q σ' H' (.trans (.same e1) c) k' s' m'⟩
end
end Tr
/-! Defs 2: need_trains, need_state. -/
namespace Tr
open PySem PySem.Spec PyProof.Rows L2 RT
abbrev St := List (List Int)
abbrev stD (S : Tr.St) : Dat := .tup (S.map Dat.fz)
structure Good (n k : Nat) (S : Tr.St) : Prop where
  len : S.length = k
  cars : S.flatten.length = n
  nd : S.flatten.Nodup
  rng : ∀ c ∈ S.flatten, 0 ≤ c ∧ c < (n : Int)
structure Yd (n k : Nat) : Prop where
  n1 : 1 ≤ n
  n7 : n ≤ 7
  k2 : 2 ≤ k
  k8 : k ≤ 8
theorem Sd.sub {B B' : Bd} {σ : L2.St} {H : Hp} {Γ : Gam} (s : Sd B σ H Γ) (l : ∀ b, B' b → B b) : Sd B' σ H Γ := ⟨s.len, fun i d h => let ⟨v, a, b⟩ := s.at_ i d h; ⟨v, a, b.sub l⟩⟩
/-- forgetting -/
def Wkr (Γ Γ' : Gam) : Prop := Γ'.length = Γ.length ∧ ∀ (i : Nat) (d : Dat), Γ'[i]? = some (some d) → Γ[i]? = some (some d)
theorem Sd.weak {B : Bd} {σ : L2.St} {H : Hp} {Γ Γ' : Gam} (s : Sd B σ H Γ) (h : Wkr Γ Γ') : Sd B σ H Γ' := ⟨by rw [s.len, h.1], fun i d e => s.at_ i d (h.2 i d e)⟩
theorem wkr_refl (Γ : Gam) : Wkr Γ Γ := ⟨rfl, fun _ _ h => h⟩
theorem wkr_nil : Wkr [] [] := wkr_refl _
theorem wkr_keep {x : Option Dat} {Γ Γ' : Gam} (h : Wkr Γ Γ') : Wkr (x :: Γ) (x :: Γ') := ⟨by rw [List.length_cons, List.length_cons, h.1], fun i d e => by
  cases i with
  | zero => exact e
  | succ i => exact h.2 i d e⟩
theorem wkr_drop {x : Option Dat} {Γ Γ' : Gam} (h : Wkr Γ Γ') : Wkr (x :: Γ) (Option.none :: Γ') := ⟨by rw [List.length_cons, List.length_cons, h.1], fun i d e => by
  cases i with
  | zero => cases e
  | succ i => exact h.2 i d e⟩
section
variable {B : Bd} {ms : List Addr} {t u : TS} {Γ Γ1 Γ' : Gam} {M M1 M' : Hp → Prop}
theorem rgm_weak (h : RgM B ms t Γ M Γ1 M') (hw : Wkr Γ1 Γ') : RgM B ms t Γ M Γ' M' := fun D σ H k s m q => h D σ H k s m fun σ' H' c k' s' m' => q σ' H' c k' (s'.weak hw) m'
theorem rgm_pre' (h : RgM B ms t Γ M1 Γ' M') (hm : ∀ H, M H → M1 H) : RgM B ms t Γ M Γ' M' := fun D σ H k s m q => h D σ H k s (hm H m) q
theorem rg_weak (h : Rg t Γ (.nx Γ1)) (hw : Wkr Γ1 Γ') : Rg t Γ (.nx Γ') := fun B D σ H k s q => h B D σ H k s fun σ' H' c s' => q σ' H' c (s'.weak hw)
/-- a new dict of one's own; behind it nothing is said of the slots -/
theorem rg_newK {i : Nat} {Γf : Addr → Gam} {Mf : Addr → Hp → Prop} (h : ∀ B m, RgM (Bp B m) [m] u (Γ.set i (some (.raw (.ref m)))) (fun H => H m = some (.dK [])) (Γf m) (Mf m)) (hl : ∀ m, (Γf m).length = Γ.length) :
    Rg (tSeq (tAsg tDNewK (gName i)) u) Γ (.nx (List.replicate Γ.length Option.none)) := by
  intro B D σ H k s w
  intro m hm
  refine h B m D _ _ k.new1 ((s.le (.new1 hm)).set i (.raw _)) upd_same fun σ' H' c k' s' m' => w σ' H' (fun a o e => ?_) ⟨?_, fun j d e => ?_⟩
  · have hne := ne_of_none e hm
    exact c a o (by simpa using hne) (by rw [upd_ne hne]; exact e)
  · rw [s'.len, hl, List.length_replicate]
  · rw [List.getElem?_replicate] at e
    split at e <;> cases e
end
def kvC (cs : List Int) : List (Key × V) := cs.map fun c => (Sum.inl c, V.bl true)
theorem valV_kvC (c : Int) : ∀ cs : List Int, (valV (kvC cs) (Sum.inl c : Key)).isSome = decide (c ∈ cs)
  | [] => rfl
  | x :: r => by
    have ih := valV_kvC c r
    show (valV ((Sum.inl x, V.bl true) :: kvC r) (Sum.inl c : Key)).isSome = _
    by_cases h : x = c
    · subst h
      rw [valV_pos rfl]; simp
    · rw [valV_neg (fun z => h (Sum.inl.inj z)), ih]
      have h' : ¬ c = x := fun z => h z.symm
      simp [h']
theorem putK_kvC {c : Int} {cs : List Int} (h : c ∉ cs) : putK (kvC cs) (Sum.inl c : Key) (V.bl true) = kvC (cs ++ [c]) := by
  unfold putK
  rw [valV_any, valV_kvC, decide_eq_false h, if_neg Bool.false_ne_true]
  unfold kvC
  rw [List.map_append]; rfl
section
variable {P : Program} {w : World} {K : PySem.W.Frag} {mg : Str → Option Value} {base : Heap} {f : Addr} {fd : FuncData}
abbrev sNeedTrains : Stmt := top 14
abbrev sNeedState : Stmt := top 15
def FNeedTrains (ds : List Dat) (r : Dat) : Prop := ∃ (n k : Nat) (S : Tr.St), ds = [yardD n k, stD S] ∧ Yd n k ∧ Good n k S ∧ r = .none
theorem sc_need_trains : FnScope ["yard", "state", "cars", "stations", "met", "index", "train", "car"] ["yard", "state"] (defScope sNeedTrains) := ⟨rfl, rfl, rfl, by decide +kernel, rfl, by decide +kernel, by decide +kernel⟩
theorem tgm_in {B : Bd} {Γ : Gam} {i j : Nat} {m : Addr} {c : Int} {cs : List Int} (h1 : Γ[i]? = some (some (.int c))) (h2 : Γ[j]? = some (some (.raw (.ref m)))) :
    TgM B (tB (tDIn (tVar i) (tVar j))) Γ (fun H => H m = some (.dK (kvC cs))) (decide (c ∈ cs)) := fun σ H k s hM Q q => by
  obtain ⟨v, e1, r1⟩ := s.at_ i _ h1
  obtain ⟨u, e2, r2⟩ := s.at_ j _ h2
  cases r1; cases r2
  refine ⟨_, e1, _, e2, m, _, rfl, DGet.k (k := Sum.inl c) hM, _, rfl, ?_⟩
  rw [valV_kvC]
  exact q H (.refl H)
theorem rgm_put {B : Bd} {Γ : Gam} {i j : Nat} {m : Addr} {c : Int} {cs : List Int} (h1 : Γ[i]? = some (some (.int c))) (h2 : Γ[j]? = some (some (.raw (.ref m)))) (hc : c ∉ cs) (hl : cs.length ≤ 1000) (hB : B m) :
    RgM B [m] (sDPut (tVar j) (tVar i) (tC (.bl true))) Γ (fun H => H m = some (.dK (kvC cs))) Γ (fun H => H m = some (.dK (kvC (cs ++ [c])))) := fun D σ H k s hM q => by
  obtain ⟨v, e1, r1⟩ := s.at_ i _ h1
  obtain ⟨u, e2, r2⟩ := s.at_ j _ h2
  cases r1; cases r2
  refine ⟨_, e2, _, e1, m, _, rfl, DPut.k (k := Sum.inl c) hM (by unfold kvC; rw [List.length_map]; exact small1000 hl), ?_⟩
  refine q σ _ (.upd (by simp)) k.upd (s.le (.mut hB)) ?_
  show upd H m _ m = _
  rw [upd_same, putK_kvC hc]
theorem mon_dK (m : Addr) (kvs : List (Key × V)) : Mon fun H => H m = some (.dK kvs) := fun H H' s h => s _ _ h
theorem flat_at_ {S : Tr.St} {i : Nat} {t : List Int} (h : S[i]? = some t) : S.flatten = (S.take i).flatten ++ (t ++ (S.drop (i + 1)).flatten) := by
  have hl := (List.getElem?_eq_some_iff.mp h).1
  have e : S = S.take i ++ (t :: S.drop (i + 1)) := by
    have e1 := (List.take_append_drop i S).symm
    rw [List.drop_eq_getElem_cons hl] at e1
    rw [(List.getElem?_eq_some_iff.mp h).2] at e1
    exact e1
  rw [e, List.flatten_append, List.flatten_cons, ← e]
theorem ok_need_trains (F : Fun K "need_trains" "need_trains" sNeedTrains f fd) (T : Txt mg) (c2 : Cal P w K mg base "is_in" 2 ["value", "least", "most"] FIsIn) (c3 : Cal P w K mg base "is_list" 1 ["value", "least", "most"] FIsList) :
    FnOk P w K mg base CX0 3 f fd ["yard", "state"] (spG FNeedTrains) := by
  have nd := sc_need_trains.nd
  refine fnG F sc_need_trains (fun ds r h => by obtain ⟨n, k, S, rfl, _⟩ := h; rfl) fun cdv A outer s H E hr ds r h => ?_
  obtain ⟨n, k, S, rfl, Y, G, rfl⟩ := h
  have hr1 : Room 1 _ := hr.mono (by decide)
  refine ⟨_, pss_cons (ps_asg (pv 0) (pg_tup rfl (pgs_cons (pg_name (i := 2) nd rfl (.inl rfl)) (pgs_cons (pg_name (i := 3) nd rfl (.inl rfl)) pgs_nil))))
    (pss_cons (ps_if (pt_not (pt_val (pe_cal c3 hr1 (by rfl) (pa_cons (pv 1) (pa_cons (pv 3) (pa_cons (pv 3) pa_nil)))))) pss_never pss_nil)
    (pss_cons (ps_set (i := 4) nd rfl (.inl rfl) pe_dnewK)
    (pss_cons (ps_for PassesOwn.never rfl (pi_enumT (by rfl) T.enumerate (pa_cons (pv 1) pa_nil)) (pg_tup rfl (pgs_cons (pg_name (i := 5) nd rfl (.inl rfl)) (pgs_cons (pg_name (i := 6) nd rfl (.inl rfl)) pgs_nil)))
      (pss_cons (ps_if (pt_not (pt_val (pe_cal c3 hr1 (by rfl) (pa_cons (pv 6) (pa_cons pe_int (pa_cons (pv 2) pa_nil)))))) pss_never pss_nil)
      (pss_one (ps_for PassesOwn.never rfl (pi_tup (pv 6)) (pg_name (i := 7) nd rfl (.inl rfl))
        (pss_cons (ps_if (PW.pt (pw_or (pt_not (pt_val (pe_cal c2 hr (by rfl) (pa_cons (pv 7) (pa_cons pe_int (pa_cons (pe_op op_sub (pv 2) pe_int) pa_nil)))))) (pw_or1 (pt_cmp (pc_din (hu_of hr) (pv 7) (pv 4)))))) pss_never pss_nil)
        (pss_one (ps_dput (hu_of hr) (pv 4) (pv 7) pe_bl rfl)))))))
    (pss_one (ps_if (pt_cmpR op_lt (pe_callB call_lenD (by rfl) T.len PySem.boot_len (pa_cons (pv 4) pa_nil)) (pv 2) (nomark _)) pss_never pss_nil))))), .inr ⟨rfl, ?_⟩⟩
  refine ⟨_, rg_seq (rg_asg (eg_var rfl) (gg_tup rfl (ggs_cons (gg_name 2) (ggs_cons (gg_name 3) ggs_nil)))) (rg_seq (rg_ifF (tg_is (tg_not (tg_B (eg_call (ag_cons (eg_var rfl) (ag_cons (eg_var rfl) (ag_cons (eg_var rfl) ag_nil))) ⟨_, _, _, _, rfl, rfl, rfl⟩))) ?_) rg_nx) (rg_newK (Γf := fun m => [some (yardD n k), some (stD S), some (.int (n : Nat)), some (.int (k : Nat)), some (.raw (.ref m)), none, none, none]) (Mf := fun m H => H m = some (.dK (kvC S.flatten))) (fun B m => ?_) fun m => rfl))⟩
  · rw [List.length_map, G.len]
    simp
  have hB : ∀ a ∈ [m], Bp B m a := by simp [Bp]
  have ez : (S.take S.zipIdx.length).flatten = S.flatten := by rw [List.length_zipIdx, List.take_length]
  have hi0 : IG (iEnT K (tCons (tVar 1) tNil)) [some (yardD n k), some (stD S), some (.int (n : Nat)), some (.int (k : Nat)), some (.raw (.ref m)), none, none, none] (S.zipIdx.map fun p => Dat.tup [.int (p.2 : Nat), .fz p.1]) := by
    have h0 := ig_enT (K := K) (Γ := [some (yardD n k), some (stD S), some (.int (n : Nat)), some (.int (k : Nat)), some (.raw (.ref m)), none, none, none]) (ta := tCons (tVar 1) tNil) (ag_cons (eg_var (i := 1) rfl) ag_nil) (ds := S.map Dat.fz) rfl
    have e : (S.map Dat.fz).zipIdx.map (fun p => Dat.tup [.int (p.2 : Nat), p.1]) = S.zipIdx.map fun p => Dat.tup [.int (p.2 : Nat), .fz p.1] := by
      rw [List.zipIdx_map, List.map_map]; rfl
    rw [← e]
    exact h0
  refine rgm_seq (M1 := fun H => H m = some (.dK (kvC (S.take S.zipIdx.length).flatten))) (Γ1 := [some (yardD n k), some (stD S), some (.int (n : Nat)), some (.int (k : Nat)), some (.raw (.ref m)), none, none, none]) ?_ ?_
  · refine rgm_for hB S.zipIdx (fun p => Dat.tup [.int (p.2 : Nat), .fz p.1]) (fun _ => [some (yardD n k), some (stD S), some (.int (n : Nat)), some (.int (k : Nat)), some (.raw (.ref m)), none, none, none])
      (fun i H => H m = some (.dK (kvC (S.take i).flatten))) (fun i => mon_dK m _) hi0 (fun i p hp => ?_)
    obtain ⟨t, j⟩ := p
    rw [List.getElem?_zipIdx] at hp
    cases hS : S[i]? with
    | none => rw [hS] at hp; cases hp
    | some t' =>
      rw [hS] at hp
      simp only [Option.map_some, Nat.zero_add, Option.some.injEq, Prod.mk.injEq] at hp
      obtain ⟨rfl, rfl⟩ := hp
      have hfl := flat_at_ hS
      have hnd := G.nd
      rw [hfl] at hnd
      have hln := G.cars
      rw [hfl, List.length_append, List.length_append] at hln
      have etk : (S.take (i + 1)).flatten = (S.take i).flatten ++ t' := by
        rw [take_one hS, List.flatten_append]; simp
      have etl : (S.take i).flatten ++ t'.take t'.length = (S.take (i + 1)).flatten := by rw [List.take_length, etk]
      refine ⟨_, _, gg_tup rfl (ggs_cons (gg_name 5) (ggs_cons (gg_name 6) ggs_nil)), rgm_weak (Γ1 := [some (yardD n k), some (stD S), some (.int (n : Nat)), some (.int (k : Nat)), some (.raw (.ref m)), some (.int (i : Nat)), some (.fz t'), none]) ?_ (wkr_keep (wkr_keep (wkr_keep (wkr_keep (wkr_keep (wkr_drop (wkr_drop (wkr_drop wkr_nil))))))))⟩
      refine rgm_seq (rgm_ifF (tg_is (tg_not (tg_B (eg_call (ag_cons (eg_var (i := 6) rfl) (ag_cons eg_int (ag_cons (eg_var (i := 2) rfl) ag_nil))) ⟨_, _, _, _, rfl, rfl, rfl⟩))) ?_) (mon_dK _ _) rgm_nx) ?_
      · simp only [List.length_map]
        rw [decide_eq_true (by omega), decide_eq_true (by omega)]
        rfl
      · rw [← etl]
        refine rgm_pre' (M1 := fun H => H m = some (.dK (kvC ((S.take i).flatten ++ t'.take 0)))) ?_ (fun H h => by rw [List.take_zero, List.append_nil]; exact h)
        refine rgm_for hB t' Dat.int (fun _ => [some (yardD n k), some (stD S), some (.int (n : Nat)), some (.int (k : Nat)), some (.raw (.ref m)), some (.int (i : Nat)), some (.fz t'), none])
          (fun j H => H m = some (.dK (kvC ((S.take i).flatten ++ t'.take j)))) (fun j => mon_dK m _) (ig_tup (eg_var (i := 6) rfl) rfl) (fun j c hc => ?_)
        have hct : c ∈ t' := List.mem_of_getElem? hc
        have hcS : c ∈ S.flatten := by rw [hfl]; simp [hct]
        have hrg := G.rng c hcS
        have hjl : (t'.take j).length ≤ t'.length := List.length_take_le' ..
        have hcn : c ∉ (S.take i).flatten ++ t'.take j := by
          have et : t' = t'.take j ++ (c :: t'.drop (j + 1)) := by
            have e1 := (List.take_append_drop j t').symm
            rw [List.drop_eq_getElem_cons (List.getElem?_eq_some_iff.mp hc).1, (List.getElem?_eq_some_iff.mp hc).2] at e1
            exact e1
          rw [et] at hnd
          simp only [List.append_assoc, List.cons_append] at hnd
          rw [← List.append_assoc] at hnd
          intro z
          exact (List.nodup_append.mp hnd).2.2 c z c (by simp) rfl
        refine ⟨_, _, gg_name 7, rgm_weak (Γ1 := [some (yardD n k), some (stD S), some (.int (n : Nat)), some (.int (k : Nat)), some (.raw (.ref m)), some (.int (i : Nat)), some (.fz t'), some (.int c)]) ?_ (wkr_keep (wkr_keep (wkr_keep (wkr_keep (wkr_keep (wkr_keep (wkr_keep (wkr_drop wkr_nil))))))))⟩
        refine rgm_seq (rgm_ifFM ?_ (mon_dK _ _) rgm_nx) ?_
        · have h1 : decide ((0 : Int) ≤ c) = true := decide_eq_true hrg.1
          have h2 : decide (c ≤ (n : Int) - 1) = true := decide_eq_true (by omega)
          have h3 : decide (c ∈ (S.take i).flatten ++ t'.take j) = false := decide_eq_false hcn
          have := tgm_or (B := Bp B m) (Γ := [some (yardD n k), some (stD S), some (.int (n : Nat)), some (.int (k : Nat)), some (.raw (.ref m)), some (.int (i : Nat)), some (.fz t'), some (.int c)]) (mon_dK m (kvC ((S.take i).flatten ++ t'.take j))) (tgm_of (tg_not (tg_B (eg_call (E := E0) (F := FIsIn) (ag_cons (eg_var (i := 7) rfl) (ag_cons (eg_int (i := 0)) (ag_cons (eg_op (eg_var (i := 2) rfl) (eg_int (i := 1)) (rg_I0 (g := fun i j => .int (i - j)) fun _ _ => .int _)) ag_nil))) ⟨_, _, _, rfl, rfl⟩)))) (fun _ => tgm_in (i := 7) (j := 4) rfl rfl)
          rw [h1, h2, h3] at this
          exact this
        · rw [take_one hc, ← List.append_assoc]
          refine rgm_put rfl rfl hcn ?_ (hB m (by simp))
          rw [List.length_append]
          have := Y.n7
          omega
  · rw [ez]
    refine fun D σ H k s hM q => ?_
    obtain ⟨u, e2, r2⟩ := s.at_ 4 _ rfl
    obtain ⟨u3, e3, r3⟩ := s.at_ 2 _ rfl
    cases r2; cases r3
    refine ⟨_, e2, m, _, rfl, hM, _, e3, _, _, rfl, rfl, _, rfl, ?_⟩
    have hl : (kvC S.flatten).length = n := by unfold kvC; rw [List.length_map, G.cars]
    rw [hl]
    refine ite2 (fun z => absurd (of_decide_eq_true z) (by omega)) (fun _ => ?_)
    exact q σ H (.refl _ _) k s hM
def FNeedState (ds : List Dat) (r : Dat) : Prop := FNeedTrains ds r
theorem sc_need_state : FnScope ["yard", "state"] ["yard", "state"] (defScope sNeedState) := ⟨rfl, rfl, rfl, by decide +kernel, rfl, by decide +kernel, by decide +kernel⟩
theorem ok_need_state (F : Fun K "need_state" "need_state" sNeedState f fd) (c1 : Cal P w K mg base "need_yard" 3 ["yard"] FNeedYard) (c2 : Cal P w K mg base "need_trains" 3 ["yard", "state"] FNeedTrains) :
    FnOk P w K mg base CX0 4 f fd ["yard", "state"] (spG FNeedState) := by
  refine fnG F sc_need_state (fun ds r h => by obtain ⟨n, k, S, rfl, _⟩ := h; rfl) fun cdv A outer s H E hr ds r h => ?_
  obtain ⟨n, k, S, rfl, Y, G, rfl⟩ := h
  refine ⟨_, pss_cons (ps_expr (pe_cal c1 hr (by rfl) (pa_cons (pv 0) pa_nil))) (pss_one (ps_expr (pe_cal c2 hr (by rfl) (pa_cons (pv 0) (pa_cons (pv 1) pa_nil))))), .inr ⟨rfl, ?_⟩⟩
  exact ⟨_, rg_seq (rg_drop (eg_call (ag_cons (eg_var rfl) ag_nil) ⟨n, k, rfl, Y.n1, Y.n7, Y.k2, Y.k8, rfl⟩)) (rg_drop (eg_call (ag_cons (eg_var rfl) (ag_cons (eg_var rfl) ag_nil)) ⟨n, k, S, rfl, Y, G, rfl⟩))⟩
end
end Tr
/-! Defs 3: station_in, trains_in, is_full, choose, word_in. -/
namespace Tr
open PySem PySem.Spec PyProof.Rows L2 RT
/-! ### rules within a block: the written part named -/
section
variable {X : Cx}
theorem pg_tupK (K : PySem.W.Frag) (n : Nat) {es : List Expr} {k : Nat} {t : TGs} {pos : Pos} (hc : X.calm = true) (h : PGs X es t) (hK : X.K = K := by rfl) (hn : (assignEach es X.env).length = n := by rfl) (hst : (assignEach es X.env).findIdx? (·.1) = none := by rfl) : PG X (.Tuple es k pos) (gTup K n t) := by
  subst hK
  exact pg_tup hc h hn hst
theorem op_inK (K : PySem.W.Frag) (hK : X.K = K := by rfl) : OpR X (compareOp .In) (rIn K false) := by
  subst hK
  exact op_in_seq
theorem op_neK (K : PySem.W.Frag) (hu : X.A.units + 64 < cLine) (hK : X.K = K := by rfl) : OpR X (compareOp .NotEq) (rNeD K) := by
  subst hK
  exact op_neD hu
theorem pi_tupK (K : PySem.W.Frag) {tg l : Expr} {tl : TE} (hl : PE X l tl) (hK : X.K = K := by rfl) : PI X tg l (iTup K tl) := by
  subst hK
  exact pi_tup hl
theorem ix_listK (K : PySem.W.Frag) (hK : X.K = K := by rfl) : IxR X (rIxL K) := by
  subst hK
  exact ix_list
theorem ix_tupK (K : PySem.W.Frag) (hK : X.K = K := by rfl) : IxR X (rIxT K) := by
  subst hK
  exact ix_tup
end
/-! ### the mirror -/
def stIx (S : Tr.St) (c : Int) : Nat := S.findIdx fun t => decide (c ∈ t)
def trL (S : Tr.St) : List (List Int × Nat) := S.zipIdx.filter fun p => !decide (p.1 = [])
def trD (S : Tr.St) : Dat := .list ((trL S).map fun p => .tup [.int (p.2 : Nat), .fz p.1])
def fullM (S : Tr.St) : Bool := S.all fun t => !decide (t = [])
def chF (m : Nat) (i : Nat) : Int := (List.range i).foldl (fun f j => f * ((m : Int) - (j : Nat)) / (((j : Nat) : Int) + 1)) 1
def readM (S : Tr.St) : List Int := S.reverse.flatten
def wordM (S : Tr.St) : List Int := (readM S).drop ((readM S).idxOf 0) ++ (readM S).take ((readM S).idxOf 0)
theorem stIx_first (c : Int) : ∀ (S : Tr.St) (k : Nat), c ∈ S.flatten → ((S.zipIdx k).filter fun p => decide (c ∈ p.1)).map (fun p => Dat.int (p.2 : Nat)) ≠ [] ∧ (((S.zipIdx k).filter fun p => decide (c ∈ p.1)).map (fun p => Dat.int (p.2 : Nat)))[0]? = some (Dat.int ((k + stIx S c : Nat) : Int))
  | [], k, h => by simp at h
  | t :: S, k, h => by
    rw [List.zipIdx_cons]
    by_cases ht : c ∈ t
    · rw [List.filter_cons_of_pos (by simpa using ht)]
      unfold stIx
      rw [List.findIdx_cons]
      simp [ht]
    · rw [List.filter_cons_of_neg (by simpa using ht)]
      have hS : c ∈ S.flatten := by
        rw [List.flatten_cons] at h
        exact (List.mem_append.mp h).resolve_left ht
      have ih := stIx_first c S (k + 1) hS
      refine ⟨ih.1, ?_⟩
      rw [ih.2]
      unfold stIx
      rw [List.findIdx_cons]
      simp only [ht, decide_false, cond_false]
      congr 2
      omega
theorem ixN_zero {n : Nat} (h : 0 < n) : ixN n 0 = some 0 := by
  unfold ixN
  rw [if_pos (by omega), if_pos (by omega)]; rfl
theorem atI_zero {ds : List Dat} {d : Dat} (h : ds[0]? = some d) : atI ds 0 = some d := by
  unfold atI
  rw [ixN_zero (List.getElem?_eq_some_iff.mp h).1]; exact h
theorem cutD_from (ds : List Dat) (j : Nat) (h : j ≤ ds.length) : cutD ds (some (j : Int)) none = ds.drop j := by
  unfold cutD
  rw [HT.sIx_nat, HT.sIx_none, Nat.min_eq_left h]
  exact List.take_of_length_le (by rw [List.length_drop]; exact Nat.le_refl _)
theorem cutD_to (ds : List Dat) (j : Nat) (h : j ≤ ds.length) : cutD ds none (some (j : Int)) = ds.take j := by
  unfold cutD
  rw [HT.sIx_nat, HT.sIx_none, Nat.min_eq_left h, List.drop_zero, Nat.sub_zero]
section
variable {P : Program} {w : World} {K : PySem.W.Frag} {mg : Str → Option Value} {base : Heap} {f : Addr} {fd : FuncData}
abbrev sStationIn : Stmt := top 16
abbrev sTrainsIn : Stmt := top 17
abbrev sIsFull : Stmt := top 18
abbrev sChoose : Stmt := top 19
abbrev sWordIn : Stmt := top 21
theorem st_zip (S : Tr.St) : (S.map Dat.fz).zipIdx.map (fun p => Dat.tup [.int (p.2 : Nat), p.1]) = S.zipIdx.map fun p => Dat.tup [.int (p.2 : Nat), .fz p.1] := by
  rw [List.zipIdx_map, List.map_map]; rfl
theorem ig_enS {Γ : Gam} {i : Nat} {S : Tr.St} (h : Γ[i]? = some (some (stD S))) : IG (iEnT K (tCons (tVar i) tNil)) Γ (S.zipIdx.map fun p => Dat.tup [.int (p.2 : Nat), .fz p.1]) := by
  rw [← st_zip]
  exact ig_enT (ag_cons (eg_var h) ag_nil) rfl

def FStationIn (ds : List Dat) (r : Dat) : Prop := ∃ (S : Tr.St) (c : Int), ds = [stD S, .int c] ∧ S.length ≤ 8 ∧ c ∈ S.flatten ∧ r = .int (stIx S c : Nat)
theorem sc_station_in : FnScope ["state", "car", "station", "train"] ["state", "car"] (defScope sStationIn) := ⟨rfl, rfl, rfl, by decide +kernel, rfl, by decide +kernel, by decide +kernel⟩
theorem ok_station_in (F : Fun K "station_in" "station_in" sStationIn f fd) (T : Txt mg) : FnOk P w K mg base CX0 1 f fd ["state", "car"] (spG FStationIn) := by
  have nd := sc_station_in.nd
  refine fnG F sc_station_in (fun ds r h => by obtain ⟨S, c, rfl, _⟩ := h; rfl) fun cdv A outer s H E hr ds r h => ?_
  obtain ⟨S, c, rfl, hS, hc, rfl⟩ := h
  refine ⟨_, pss_one (ps_ret (pe_ix ix_list (pe_lc (own := [("station", 2), ("train", 3)]) rfl nd (pi_enumT (by rfl) T.enumerate (pa_cons (pv 0) pa_nil)) (blkOk_by (N := ["state", "car", "station", "train"]) (sc := defScope sStationIn) (by decide +kernel))
    (fun _ _ _ _ _ => pg_tupK K 2 rfl (pgs_cons (pg_name (i := 2) nd rfl (.inl rfl)) (pgs_cons (pg_name (i := 3) nd rfl (.inl rfl)) pgs_nil))) (fun _ _ _ _ _ => pts_one (pt_cmpR (op_inK K) (pv 1) (pv 3) (by with_unfolding_all rfl))) (fun _ _ _ _ _ => pv 2)) pe_int (fun _ _ => rfl))), .inl ?_⟩
  have h1 := stIx_first c S 0 hc
  refine rg_ret (eg_op (eg_lc S.zipIdx _ (fun p => decide (c ∈ p.1)) (fun p => .int (p.2 : Nat)) (fun p => [some (stD S), some (.int c), some (.int (p.2 : Nat)), some (.fz p.1)]) (js := [2, 3]) (by simp) (ig_enS rfl) (fun p _ => gg_tup rfl (ggs_cons (gg_name 2) (ggs_cons (gg_name 3) ggs_nil))) (fun p _ => tg_test (eg_op (eg_var (i := 1) rfl) (eg_var (i := 3) rfl) rg_inF)) (fun p _ _ => eg_var (i := 2) rfl) (by rw [List.length_zipIdx]; omega)) eg_int (rg_ixL (i := 0) (atI_zero ?_)))
  rw [h1.2, Nat.zero_add]

def FTrainsIn (ds : List Dat) (r : Dat) : Prop := ∃ S : Tr.St, ds = [stD S] ∧ S.length ≤ 8 ∧ r = trD S
theorem sc_trains_in : FnScope ["state", "station", "train"] ["state"] (defScope sTrainsIn) := ⟨rfl, rfl, rfl, by decide +kernel, rfl, by decide +kernel, by decide +kernel⟩
theorem ok_trains_in (F : Fun K "trains_in" "trains_in" sTrainsIn f fd) (T : Txt mg) : FnOk P w K mg base CX0 1 f fd ["state"] (spG FTrainsIn) := by
  have nd := sc_trains_in.nd
  refine fnG F sc_trains_in (fun ds r h => by obtain ⟨S, rfl, _⟩ := h; rfl) fun cdv A outer s H E hr ds r h => ?_
  obtain ⟨S, rfl, hS, rfl⟩ := h
  refine ⟨_, pss_one (ps_ret (pe_lc (own := [("station", 1), ("train", 2)]) rfl nd (pi_enumT (by rfl) T.enumerate (pa_cons (pv 0) pa_nil)) (blkOk_by (N := ["state", "station", "train"]) (sc := defScope sTrainsIn) (by decide +kernel))
    (fun _ _ _ _ _ => pg_tupK K 2 rfl (pgs_cons (pg_name (i := 1) nd rfl (.inl rfl)) (pgs_cons (pg_name (i := 2) nd rfl (.inl rfl)) pgs_nil))) (fun _ _ _ _ _ => pts_one (pt_cmpR (op_neK K hr.units) (pv 2) (pe_tup pa_nil) (nomark _))) (fun _ _ _ _ _ => pe_tup (pa_cons (pv 1) (pa_cons (pv 2) pa_nil))))), .inl ?_⟩
  exact rg_ret (eg_lc S.zipIdx _ (fun p => !decide (p.1 = [])) (fun p => .tup [.int (p.2 : Nat), .fz p.1]) (fun p => [some (stD S), some (.int (p.2 : Nat)), some (.fz p.1)]) (js := [1, 2]) (by simp) (ig_enS rfl) (fun p _ => gg_tup rfl (ggs_cons (gg_name 1) (ggs_cons (gg_name 2) ggs_nil))) (fun p _ => tg_test (eg_op (eg_var (i := 2) rfl) (eg_tup ag_nil (by simp)) rg_neFz0)) (fun p _ _ => eg_tup (ag_cons (eg_var (i := 1) rfl) (ag_cons (eg_var (i := 2) rfl) ag_nil)) (by simp)) (by rw [List.length_zipIdx]; omega))

def FIsFull (ds : List Dat) (r : Dat) : Prop := ∃ (n k : Nat) (S : Tr.St), ds = [yardD n k, stD S] ∧ Yd n k ∧ Good n k S ∧ r = .bool (fullM S)
theorem sc_is_full : FnScope ["yard", "state", "train"] ["yard", "state"] (defScope sIsFull) := ⟨rfl, rfl, rfl, by decide +kernel, rfl, by decide +kernel, by decide +kernel⟩
theorem ok_is_full (F : Fun K "is_full" "is_full" sIsFull f fd) (T : Txt mg) (c1 : Cal P w K mg base "need_state" 4 ["yard", "state"] FNeedState) : FnOk P w K mg base CX0 5 f fd ["yard", "state"] (spG FIsFull) := by
  have nd := sc_is_full.nd
  refine fnG F sc_is_full (fun ds r h => by obtain ⟨n, k, S, rfl, _⟩ := h; rfl) fun cdv A outer s H E hr ds r h => ?_
  obtain ⟨n, k, S, rfl, Y, G, rfl⟩ := h
  refine ⟨_, pss_cons (ps_expr (pe_cal c1 hr (by rfl) (pa_cons (pv 0) (pa_cons (pv 1) pa_nil)))) (pss_one (ps_ret (pe_callB (cr_all rfl) (by rfl) T.all (by decide +kernel) (pa_cons (pe_lc (own := [("train", 2)]) rfl nd (pi_tup (pv 1)) (blkOk_by (N := ["yard", "state", "train"]) (sc := defScope sIsFull) (by decide +kernel))
    (fun _ _ _ _ _ => pg_name (i := 2) nd rfl (.inl rfl)) (fun _ _ _ _ _ => pts_nil) (fun _ _ _ _ _ => pe_cmpR (op_neK K hr.units) (pv 2) (pe_tup pa_nil) (nomark _))) pa_nil)))), .inl ?_⟩
  have hl := G.len
  have hk := Y.k8
  have e : (S.map fun t => Dat.bool (!decide (t = []))) = (S.map fun t => !decide (t = [])).map Dat.bool := by rw [List.map_map]; rfl
  have h1 := eg_lcA (wi := iTup K (tVar 1)) (g := gName 2) (te := tOp (rNeD K) (tVar 2) (tTup tNil)) (vs := [2]) (Γ := [some (yardD n k), some (stD S), none]) (js := [2]) S Dat.fz (fun t => Dat.bool (!decide (t = []))) (fun t => [some (yardD n k), some (stD S), some (.fz t)]) (by simp) (ig_tup (eg_var rfl) rfl) (fun p _ => gg_name 2) (fun p _ => (eg_op (eg_var (i := 2) rfl) (eg_tup ag_nil (by simp)) rg_neFz0)) (by omega)
  rw [e] at h1
  refine rg_seq (rg_drop (eg_call (ag_cons (eg_var rfl) (ag_cons (eg_var rfl) ag_nil)) ⟨n, k, S, rfl, Y, G, rfl⟩)) (rg_ret (eg_is (eg_cb (ag_cons h1 ag_nil) cg_all) ?_))
  unfold fullM
  rw [List.all_map]; rfl

def FChoose (ds : List Dat) (r : Dat) : Prop := ∃ m s : Nat, ds = [.int (m : Nat), .int (s : Nat)] ∧ m ≤ 30 ∧ s ≤ m ∧ r = .int (chF m s)
theorem sc_choose : FnScope ["many", "some", "found", "number"] ["many", "some"] (defScope sChoose) := ⟨rfl, rfl, rfl, by decide +kernel, rfl, by decide +kernel, by decide +kernel⟩
theorem ok_choose (F : Fun K "choose" "choose" sChoose f fd) (T : Txt mg) : FnOk P w K mg base CX0 1 f fd ["many", "some"] (spG FChoose) := by
  have nd := sc_choose.nd
  refine fnG F sc_choose (fun ds r h => by obtain ⟨m, s, rfl, _⟩ := h; rfl) fun cdv A outer s H E hr ds r h => ?_
  obtain ⟨m, s, rfl, hm, hs, rfl⟩ := h
  refine ⟨_, pss_cons (ps_if (pt_not (pt_chain op_le op_le pe_int (pv 1) (pv 0))) (pss_one (ps_ret pe_int)) pss_nil)
    (pss_cons (ps_set (i := 2) nd rfl (.inl rfl) pe_int)
    (pss_cons (ps_for PassesOwn.never rfl (pi_range1 (by rfl) T.range (pa_cons (pv 1) pa_nil)) (pg_name (i := 3) nd rfl (.inl rfl))
      (pss_one (ps_set (i := 2) nd rfl (.inl rfl) (pe_op op_fdiv (pe_op op_mul (pv 2) (pe_op op_sub (pv 0) (pv 3))) (pe_op op_add (pv 3) pe_int)))))
    (pss_one (ps_ret (pv 2))))), .inl ?_⟩
  have ef : ∀ i : Nat, chF m (i + 1) = chF m i * ((m : Int) - (i : Nat)) / (((i : Nat) : Int) + 1) := fun i => by
    unfold chF
    rw [List.range_succ, List.foldl_append]; rfl
  refine rg_seq (rg_ifF (tg_is (tg_not (tg_test (eg_chain eg_int (eg_var (i := 1) rfl) (fun _ => eg_var (i := 0) rfl) (rg_I0 fun _ _ => .bl _) (fun _ => rg_I0 fun _ _ => .bl _)))) ?_) rg_nx) (rg_seq (rg_set 2 eg_int) (rg_seq (rg_for (List.range s) (fun i => Dat.int (i : Nat)) (fun i => [some (.int (m : Nat)), some (.int (s : Nat)), some (.int (chF m i)), none]) s _ ?_ (fun i a hi ha => ?_) (.inl ⟨by simp, rfl⟩)) (rg_ret (eg_var rfl))))
  · rw [decide_eq_true (show (0 : Int) ≤ (s : Nat) by omega), decide_eq_true (show ((s : Nat) : Int) ≤ (m : Nat) by omega)]; rfl
  · have := ig_rng1 (Γ := [some (.int (m : Nat)), some (.int (s : Nat)), some (.int (chF m 0)), none]) (ta := tCons (tVar 1) tNil) (n := (s : Nat)) (ag_cons (eg_var (i := 1) rfl) ag_nil) (by omega) (by omega)
    rw [Int.toNat_natCast] at this
    exact this
  · rw [List.getElem?_range hi] at ha
    cases ha
    refine ⟨_, _, gg_name 3, rg_weak (Γ1 := [some (.int (m : Nat)), some (.int (s : Nat)), some (.int (chF m (i + 1))), some (.int (i : Nat))]) ?_ (wkr_keep (wkr_keep (wkr_keep (wkr_drop wkr_nil))))⟩
    rw [ef]
    refine rg_set 2 (eg_op (eg_op (eg_var (i := 2) rfl) (eg_op (eg_var (i := 0) rfl) (eg_var (i := 3) rfl) (rg_I0 fun _ _ => .int _)) (rg_I (.inr ⟨?_, ?_⟩) fun _ _ => .int _)) (eg_op (eg_var (i := 3) rfl) eg_int (rg_I0 fun _ _ => .int _)) (rg_I ⟨?_, ?_⟩ fun _ _ => .int _))
    all_goals omega

def FWordIn (ds : List Dat) (r : Dat) : Prop := ∃ S : Tr.St, ds = [stD S] ∧ S.length ≤ 8 ∧ S.flatten.length ≤ 7 ∧ (0 : Int) ∈ S.flatten ∧ r = .tup ((wordM S).map Dat.int)
theorem sc_word_in : FnScope ["state", "read", "at", "train", "car"] ["state"] (defScope sWordIn) := ⟨rfl, rfl, rfl, by decide +kernel, rfl, by decide +kernel, by decide +kernel⟩
theorem ok_word_in (F : Fun K "word_in" "word_in" sWordIn f fd) (T : Txt mg) : FnOk P w K mg base CX0 1 f fd ["state"] (spG FWordIn) := by
  have nd := sc_word_in.nd
  refine fnG F sc_word_in (fun ds r h => by obtain ⟨S, rfl, _⟩ := h; rfl) fun cdv A outer s H E hr ds r h => ?_
  obtain ⟨S, rfl, hS, hn, h0, rfl⟩ := h
  refine ⟨_, pss_cons (ps_setLc2 (i := 1) (own := [("train", 3), ("car", 4)]) (vs1 := [4]) rfl nd rfl rfl (sw_true rfl rfl rfl (by decide +kernel)) (RT.pi_revA (by rfl) T.reversed (pv 0)) (blkOk_by (N := ["state", "read", "at", "train", "car"]) (sc := defScope sWordIn) (by decide +kernel)) (by decide)
      (fun _ _ _ _ _ => pg_name (i := 3) nd rfl (.inl rfl)) (fun _ _ _ _ _ => pts_nil) (fun _ _ _ _ _ => pi_tupK K (pv 3)) (fun _ _ _ _ _ => pg_name (i := 4) nd rfl (.inl rfl)) (fun _ _ _ _ _ => pts_nil) (fun _ _ _ _ _ => pv 4))
    (pss_cons (ps_set (i := 2) nd rfl (.inl rfl) (pe_bm PySem.F.plainAttrs_list PySem.F.slot_list_index PySem.F.type_list_index mt_lIx (pv 1) (pa_cons pe_int pa_nil)))
    (pss_one (ps_ret (pe_callTy call_tuple_of (by rfl) T.tuple (by decide +kernel) (pa_cons (pe_op op_cat (pe_slice sl_list (pv 1) (po_some (pv 2)) po_none) (pe_slice sl_list (pv 1) po_none (po_some (pv 2)))) pa_nil))))), .inl ?_⟩
  have ei : (S.reverse.map fun t => t.map Dat.int).flatten = (readM S).map Dat.int := by
    unfold readM
    rw [List.map_flatten]
  have el : (readM S).length ≤ 7 := by
    unfold readM
    rw [(List.Perm.flatten (List.reverse_perm S)).length_eq]
    exact hn
  have hm0 : (0 : Int) ∈ readM S := by
    unfold readM
    rw [(List.Perm.flatten (List.reverse_perm S)).mem_iff]
    exact h0
  have hix : (readM S).idxOf 0 ≤ (readM S).length := Nat.le_of_lt (List.idxOf_lt_length_iff.mpr hm0)
  have h1 := eg_lc2 (wi := RT.iRevA K (tVar 0)) (wi1 := iTup K (tVar 3)) (g := gName 3) (g1 := gName 4) (te := tVar 4) (vs := [3, 4]) (vs1 := [4]) (js := [3]) (js1 := [4]) (Γ := [some (stD S), none, none, none, none]) S.reverse Dat.fz (fun t => t) (fun _ c => Dat.int c) (fun _ c => Dat.int c) (fun t => [some (stD S), none, none, some (.fz t), none]) (fun t c => [some (stD S), none, none, some (.fz t), some (.int c)]) (by simp) (by simp)
    (by rw [List.map_reverse]; exact ig_revT (eg_var (i := 0) rfl) rfl) (fun t _ => gg_name 3) (fun t _ => ig_tup (eg_var (i := 3) rfl) rfl) (fun t _ c _ => gg_name 4) (fun t _ c _ => eg_var (i := 4) rfl) (by
      have : (S.reverse.map fun t => t.map Dat.int).flatten.length ≤ 7 := by rw [ei, List.length_map]; exact el
      exact Nat.le_trans this (by decide))
  have h1 : Eg _ _ (.list ((S.reverse.map fun t => t.map Dat.int).flatten)) := h1
  rw [ei] at h1
  refine rg_seq (rg_set 1 h1) (rg_seq (rg_set 2 (eg_lIx (eg_var (i := 1) rfl) eg_int hm0)) (rg_ret (eg_is (eg_cb (ag_cons (eg_op (eg_slL (eg_var (i := 1) rfl) (og_some (eg_var (i := 2) rfl)) og_none) (eg_slL (eg_var (i := 1) rfl) og_none (og_some (eg_var (i := 2) rfl))) (rg_cat ?_)) ag_nil) cg_tupL) ?_)))
  · unfold cutD
    rw [List.length_take, List.length_take, List.length_drop, List.length_drop, List.length_map]
    omega
  · rw [cutD_from _ _ (by rw [List.length_map]; exact hix), cutD_to _ _ (by rw [List.length_map]; exact hix)]
    unfold wordM
    rw [List.map_append, List.map_drop, List.map_take]
end
end Tr
/-! Defs 4: heights_in. -/
namespace Tr
open PySem PySem.Spec PyProof.Rows L2 RT
/-! ### the mirror -/
def trainAt (S : Tr.St) (i : Nat) : List Int := S.getD i []
def condM (S : Tr.St) (c : Int) : Bool := decide ((0 : Int) ∈ trainAt S (stIx S c)) && decide ((((trainAt S (stIx S c)).idxOf c : Nat) : Int) < (((trainAt S (stIx S c)).idxOf 0 : Nat) : Int))
def hOf (S : Tr.St) (k : Int) (fd : List Int) (c : Int) : Option Int → Int
  | none => (stIx S c : Nat)
  | some l => if condM S c = true then fd.getD 0 0 - k else l - (l - (stIx S c : Nat)) % k
def hStep (S : Tr.St) (k : Int) (st : List Int × Option Int) (c : Int) : List Int × Option Int := (st.1.set c.toNat (hOf S k st.1 c st.2), some (hOf S k st.1 c st.2))
def hFold (S : Tr.St) (k : Int) (i : Nat) : List Int × Option Int := ((wordM S).take i).foldl (hStep S k) (List.replicate (wordM S).length 0, none)
def heightsM (S : Tr.St) : List Int := (hFold S S.length (wordM S).length).1
def lastD : Option Int → Dat
  | none => .none
  | some l => .int l
theorem wordM_perm (S : Tr.St) : (wordM S).Perm S.flatten := by
  unfold wordM
  refine (List.perm_append_comm).trans ?_
  rw [List.take_append_drop]
  exact (List.Perm.flatten (List.reverse_perm S))
theorem stIx_at {S : Tr.St} {c : Int} (h : c ∈ S.flatten) : S[stIx S c]? = some (trainAt S (stIx S c)) ∧ c ∈ trainAt S (stIx S c) := by
  obtain ⟨t, ht, hc⟩ := List.mem_flatten.mp h
  have hl : stIx S c < S.length := List.findIdx_lt_length_of_exists ⟨t, ht, by simpa using hc⟩
  have e : S[stIx S c]? = some S[stIx S c] := List.getElem?_eq_getElem hl
  have e2 : trainAt S (stIx S c) = S[stIx S c] := by
    unfold trainAt
    rw [List.getD_eq_getElem?_getD, e]; rfl
  rw [e2]
  refine ⟨e, ?_⟩
  have h3 := List.findIdx_getElem (xs := S) (p := fun t => decide (c ∈ t)) (w := hl)
  exact of_decide_eq_true h3
theorem nd_len : ∀ (m : Nat) (a : Int) (l : List Int), l.Nodup → (∀ c ∈ l, a ≤ c ∧ c < a + (m : Nat)) → l.length ≤ m
  | 0, a, l, _, h => by
    cases l with
    | nil => exact Nat.le_refl _
    | cons c r => have := h c (by simp); omega
  | m + 1, a, l, hn, h => by
    by_cases hm : (a + (m : Nat)) ∈ l
    · have h1 := nd_len m a (l.erase (a + (m : Nat))) (hn.erase _) (fun c hc => by
        have h2 := (List.Nodup.mem_erase_iff hn).mp hc
        have h3 := h c h2.2
        have h4 := h2.1
        omega)
      rw [List.length_erase_of_mem hm] at h1
      omega
    · have h1 := nd_len m a l hn (fun c hc => by
        have h3 := h c hc
        have h4 : c ≠ a + (m : Nat) := fun z => hm (z ▸ hc)
        omega)
      omega
theorem hFold_succ {S : Tr.St} {k : Int} {i : Nat} {c : Int} (h : (wordM S)[i]? = some c) : hFold S k (i + 1) = hStep S k (hFold S k i) c := by
  unfold hFold
  rw [take_one h, List.foldl_append]; rfl
theorem hFold_len (S : Tr.St) (k : Int) : ∀ i, i ≤ (wordM S).length → (hFold S k i).1.length = (wordM S).length
  | 0, _ => by unfold hFold; simp
  | i + 1, h => by
    have hl : i < (wordM S).length := h
    rw [hFold_succ (List.getElem?_eq_getElem hl)]
    unfold hStep
    rw [List.length_set]
    exact hFold_len S k i (Nat.le_of_lt hl)
section
variable {B : Bd} {ms : List Addr} {t u : TS} {Γ Γ1 Γ' : Gam} {M M1 M' : Hp → Prop} {K : PySem.W.Frag}
theorem rgm_if {tc : TT} {b : Bool} (h : Tg tc Γ b) (hm : Mon M) (h1 : b = true → RgM B ms t Γ M Γ' M') (h2 : b = false → RgM B ms u Γ M Γ' M') : RgM B ms (tIfS tc t u) Γ M Γ' M' := fun D σ H k s m q =>
  h B σ H k s _ fun H1 e1 => by
    cases b with
    | true => exact iteT (h1 rfl D σ H1 (k.same e1) (s.same e1) (hm _ _ e1 m) fun σ2 H2 c2 k2 s2 m2 => q σ2 H2 (.trans (.same e1) c2) k2 s2 m2)
    | false => exact iteF (h2 rfl D σ H1 (k.same e1) (s.same e1) (hm _ _ e1 m) fun σ2 H2 c2 k2 s2 m2 => q σ2 H2 (.trans (.same e1) c2) k2 s2 m2)
theorem seq_raw {D : Ends} {σ : L2.St} {H : Hp} (h : t { D with nx := u D } σ H) : tSeq t u D σ H := h
theorem par_raw {i j : Nat} {ta : TA} {D : Ends} {σ : L2.St} {H : Hp} (h : ta σ H fun vs H1 => ∃ v w, vs = [v, w] ∧ D.nx ((σ.set i (some v)).set j (some w)) H1) : tPar i j ta D σ H := h
theorem cons_raw {ta : TE} {tr : TA} {σ : L2.St} {H : Hp} {Q : List V → Hp → Prop} (h : ta σ H fun x H1 => tr σ H1 fun xs H2 => Q (x :: xs) H2) : tCons ta tr σ H Q := h
theorem op_raw {r : R2} {ta tb : TE} {σ : L2.St} {H : Hp} {Q : VK} (h : ta σ H fun x H1 => tb σ H1 fun y H2 => r x y H2 Q) : tOp r ta tb σ H Q := h
theorem asg_raw {te : TE} {g : TG} {D : Ends} {σ : L2.St} {H : Hp} (h : te σ H fun x H1 => g x σ H1 D.nx) : tAsg te g D σ H := h
theorem mon_lst (p : Addr) (xs : List V) : Mon fun H => H p = some (.lst xs) := fun H H' s h => s _ _ h
/-- x = l[0] - y, l a list of one's own -/
theorem rgm_sub0 {i j x : Nat} {p : Addr} {L : List Int} {a b : Int} (h1 : Γ[i]? = some (some (.raw (.ref p)))) (h2 : Γ[j]? = some (some (.int b))) (h0 : L[0]? = some a) :
    RgM B ms (tAsg (tOp (rI0 fun i j => .int (i - j)) (tOp (rIxL K) (tVar i) (tC (.int 0))) (tVar j)) (gName x)) Γ (fun H => H p = some (.lst (L.map V.int))) (Γ.set x (some (.int (a - b)))) (fun H => H p = some (.lst (L.map V.int))) := fun D σ H k s hM q => by
  obtain ⟨v, e1, r1⟩ := s.at_ i _ h1
  obtain ⟨u, e2, r2⟩ := s.at_ j _ h2
  cases r1; cases r2
  have e0 : (L.map V.int)[0]? = some (V.int a) := by rw [List.getElem?_map, h0]; rfl
  refine ⟨_, e1, p, _, 0, .int a, rfl, rfl, SqL.of hM, ?_, _, e2, a, b, rfl, rfl, ?_⟩
  · exact atI_nat (j := 0) e0
  · exact q _ H (.refl _ _) k (s.set x (.int _)) hM
/-- l[c], y = (h, h) -/
theorem rgm_store {i j x y : Nat} {p : Addr} {L : List Int} {c : Nat} {h : Int} (h1 : Γ[i]? = some (some (.raw (.ref p)))) (h2 : Γ[j]? = some (some (.int (c : Nat)))) (h3 : Γ[x]? = some (some (.int h))) (hc : c < L.length) (hp : p ∈ ms) (hB : B p) :
    RgM B ms (tAsg (tTup (tCons (tVar x) (tCons (tVar x) tNil))) (gTup K 2 (gCons (gSub (tVar i) (tVar j) rSetL) (gCons (gName y) gNil)))) Γ (fun H => H p = some (.lst (L.map V.int))) (Γ.set y (some (.int h))) (fun H => H p = some (.lst ((L.set c h).map V.int))) := fun D σ H k s hM q => by
  obtain ⟨v, e1, r1⟩ := s.at_ i _ h1
  obtain ⟨u, e2, r2⟩ := s.at_ j _ h2
  obtain ⟨z, e3, r3⟩ := s.at_ x _ h3
  cases r1; cases r2; cases r3
  refine ⟨_, e3, _, e3, by show 2 ≤ sizeLine; decide, fun T hT => ?_⟩
  have hpT : p ≠ T := ne_of_none hM hT
  refine ⟨T, [.int h, .int h], rfl, SqT.of upd_same, rfl, _, _, rfl, _, e1, _, e2, p, L.map V.int, _, c, rfl, rfl, by rw [upd_ne hpT]; exact hM, ?_, _, _, rfl, rfl, ?_⟩
  · unfold ixN
    rw [if_pos (by omega), if_pos (by rw [List.length_map]; omega)]
    rfl
  · refine q _ _ ?_ ?_ ?_ ?_
    · exact (Chg.same (same_new hT)).trans (.upd hp)
    · exact k.upd.upd
    · exact ((s.same (same_new hT)).le (.mut hB)).set y (.int h)
    · show upd _ p _ p = _
      rw [upd_same, List.map_set]
end
section
variable {P : Program} {w : World} {K : PySem.W.Frag} {mg : Str → Option Value} {base : Heap} {f : Addr} {fd : FuncData}
abbrev sHeightsIn : Stmt := top 22
def FHeightsIn (ds : List Dat) (r : Dat) : Prop := ∃ (n k : Nat) (S : Tr.St), ds = [stD S] ∧ Yd n k ∧ Good n k S ∧ r = .list ((heightsM S).map Dat.int)
theorem sc_heights_in : FnScope ["state", "stations", "word", "found", "last", "car", "here", "height"] ["state"] (defScope sHeightsIn) := ⟨rfl, rfl, rfl, by decide +kernel, rfl, by decide +kernel, by decide +kernel⟩
theorem Good.has {n k : Nat} {S : Tr.St} (G : Good n k S) {c : Int} (h0 : 0 ≤ c) (hc : c < n) : c ∈ S.flatten := by
  by_cases h : c ∈ S.flatten
  · exact h
  · exfalso
    have h1 := nd_len n 0 (c :: S.flatten) (List.nodup_cons.mpr ⟨h, G.nd⟩) (fun x hx => by
      rcases List.mem_cons.mp hx with rfl | hx
      · omega
      · have := G.rng x hx; omega)
    rw [List.length_cons, G.cars] at h1
    omega
theorem Good.zero {n k : Nat} {S : Tr.St} (Y : Yd n k) (G : Good n k S) : (0 : Int) ∈ S.flatten := G.has (Int.le_refl _) (by have := Y.n1; omega)
theorem ok_heights_in (F : Fun K "heights_in" "heights_in" sHeightsIn f fd) (T : Txt mg) (c1 : Cal P w K mg base "word_in" 1 ["state"] FWordIn) (c2 : Cal P w K mg base "station_in" 1 ["state", "car"] FStationIn) : FnOk P w K mg base CX0 2 f fd ["state"] (spG FHeightsIn) := by
  have nd := sc_heights_in.nd
  refine fnG F sc_heights_in (fun ds r h => by obtain ⟨n, k, S, rfl, _⟩ := h; rfl) fun cdv A outer s H E hr ds r h => ?_
  obtain ⟨n, k, S, rfl, Y, G, rfl⟩ := h
  refine ⟨_, pss_cons (ps_par (i := 1) (j := 2) (by rfl) nd rfl rfl (by decide) rfl rfl (pa_cons (pe_callB call_len_seq (by rfl) T.len PySem.boot_len (pa_cons (pv 0) pa_nil)) (pa_cons (pe_cal c1 hr (by rfl) (pa_cons (pv 0) pa_nil)) pa_nil)) (by rfl))
    (pss_cons (ps_par (i := 3) (j := 4) (by rfl) nd rfl rfl (by decide) rfl rfl (pa_cons (pe_op op_rep (pe_lst (pa_cons pe_int pa_nil)) (pe_callB call_len_seq (by rfl) T.len PySem.boot_len (pa_cons (pv 2) pa_nil))) (pa_cons pe_non pa_nil)) (by rfl))
    (pss_cons (ps_for PassesOwn.never rfl (pi_tup (pv 2)) (pg_name (i := 5) nd rfl (.inl rfl))
      (pss_cons (ps_set (i := 6) nd rfl (.inl rfl) (pe_cal c2 hr (by rfl) (pa_cons (pv 0) (pa_cons (pv 5) pa_nil))))
      (pss_cons (ps_if (pt_cmp (pc_isN (pv 4))) (pss_one (ps_set (i := 7) nd rfl (.inl rfl) (pv 6)))
        (pss_cons (ps_set (i := 7) nd rfl (.inl rfl) (pe_op op_sub (pv 4) (pe_op op_mod (pe_op op_sub (pv 4) (pv 6)) (pv 1))))
        (pss_one (ps_if (PW.pt (pw_and (pt_cmpR op_in_seq pe_int (pe_ix ix_tup (pv 0) (pv 6) (fun _ _ => rfl)) (by with_unfolding_all rfl)) (pw_and1 (pt_cmpR op_lt (pe_tIx (pe_ix ix_tup (pv 0) (pv 6) (fun _ _ => rfl)) (pa_cons (pv 5) pa_nil)) (pe_tIx (pe_ix ix_tup (pv 0) (pv 6) (fun _ _ => rfl)) (pa_cons pe_int pa_nil)) (nomark _)))))
          (pss_one (ps_set (i := 7) nd rfl (.inl rfl) (pe_op op_sub (pe_ix ix_list (pv 3) pe_int (fun _ _ => rfl)) (pv 1)))) pss_nil))))
      (pss_one (ps_asg (pe_tup (pa_cons (pv 7) (pa_cons (pv 7) pa_nil))) (pg_tup rfl (pgs_cons (pg_sub (pv 3) (pv 5) set_list) (pgs_cons (pg_name (i := 4) nd rfl (.inl rfl)) pgs_nil))))))))
    (pss_one (ps_ret (pv 3))))), .inl ?_⟩
  have h0 := G.zero Y
  have hl8 : S.length ≤ 8 := by rw [G.len]; exact Y.k8
  have hn7 : S.flatten.length ≤ 7 := by rw [G.cars]; exact Y.n7
  have hwp := wordM_perm S
  have hwl : (wordM S).length = n := by rw [hwp.length_eq, G.cars]
  have hk0 : (0 : Int) < (S.length : Nat) := by rw [G.len]; have := Y.k2; omega
  refine rg_seq (rg_par (ag_cons (eg_cb (ag_cons (eg_var rfl) ag_nil) (cg_lenT (K := K) rfl)) (ag_cons (eg_call (ag_cons (eg_var rfl) ag_nil) ⟨S, rfl, hl8, hn7, h0, rfl⟩) ag_nil))) ?_
  rw [List.length_map]
  intro B D σ H kk s wsh
  refine seq_raw (par_raw (cons_raw (op_raw ?_)))
  refine eg_lst (ag_cons (eg_int (i := 0)) ag_nil) (by simp) B σ H kk s _ fun v1 H1 e1 r1 => ?_
  refine eg_cb (ag_cons (eg_var (i := 2) rfl) ag_nil) (cg_lenT (K := K) rfl) B σ H1 (kk.same e1) (s.same e1) _ fun v2 H2 e2 r2 => ?_
  cases r2
  obtain ⟨l, xs, rfl, _, hl, hdl⟩ := r1.ls
  have hx := ints_das [0] hdl
  subst hx
  rw [List.length_map, hwl]
  refine ⟨l, _, _, rfl, rfl, e2 _ _ hl, by omega, ?_, ?_, fun p hp => ?_⟩
  · have := Y.n7
    have : ((n : Nat) : Int) ≤ 7 := by omega
    exact Int.lt_of_le_of_lt this (by decide)
  · rw [List.length_map, Int.toNat_natCast]
    refine Nat.le_trans (m := 7) ?_ (by decide)
    have := Y.n7
    simp; exact this
  have e12 : Same H H2 := e1.trans e2
  have erep : (List.replicate ((n : Nat) : Int).toNat ([0].map V.int)).flatten = (hFold S (S.length : Nat) 0).1.map V.int := by
    unfold hFold
    rw [Int.toNat_natCast, hwl]
    simp
  rw [erep]
  refine ⟨_, _, rfl, ?_⟩
  have hB : ∀ a ∈ [p], Bp B p a := by simp [Bp]
  have kB : Ok (Bp B p) (upd H2 p (.lst ((hFold S (S.length : Nat) 0).1.map V.int))) := ((kk.same e12)).new1
  have sB := (((s.same e12).le (.new1 (o := .lst ((hFold S (S.length : Nat) 0).1.map V.int)) hp)).set 3 (.raw (.ref p))).set 4 .non
  refine seq_raw ?_
  refine rgm_for hB (wordM S) Dat.int (fun i => [some (stD S), some (.int (S.length : Nat)), some (.tup ((wordM S).map Dat.int)), some (.raw (.ref p)), some (lastD (hFold S (S.length : Nat) i).2), none, none, none])
    (fun i H => H p = some (.lst ((hFold S (S.length : Nat) i).1.map V.int))) (fun i => mon_lst p _) (ig_tup (K := K) (eg_var (i := 2) rfl) rfl) (fun i c hc => ?_) _ _ _ kB sB upd_same fun σ3 H3 c3 k3 s3 m3 => ?_
  rotate_left
  · obtain ⟨v, e3, r3⟩ := s3.at_ 3 _ rfl
    cases r3
    refine ⟨_, e3, wsh _ _ (fun a o ha => ?_) (.lst ((kk.same e12).fresh hp) m3 ?_)⟩
    · have ha2 := e12 _ _ ha
      exact c3 a o (by simpa using ne_of_none ha2 hp) (by rw [upd_ne (ne_of_none ha2 hp)]; exact ha2)
    · exact das_ints _
  · have hcw : c ∈ wordM S := List.mem_of_getElem? hc
    have hcS : c ∈ S.flatten := hwp.mem_iff.mp hcw
    have hrg := G.rng c hcS
    have hat := stIx_at hcS
    have hilt : i < (wordM S).length := (List.getElem?_eq_some_iff.mp hc).1
    have hLl := hFold_len S (S.length : Nat) i (Nat.le_of_lt hilt)
    have hcn : ((c.toNat : Nat) : Int) = c := Int.toNat_of_nonneg hrg.1
    have hat2 : atI (S.map Dat.fz) ((stIx S c : Nat) : Int) = some (.fz (trainAt S (stIx S c))) := atI_nat (by rw [List.getElem?_map, hat.1]; rfl)
    refine ⟨_, _, gg_name 5, rgm_weak (Γ1 := [some (stD S), some (.int (S.length : Nat)), some (.tup ((wordM S).map Dat.int)), some (.raw (.ref p)), some (lastD (hFold S (S.length : Nat) (i + 1)).2), some (.int c), some (.int (stIx S c : Nat)), some (.int (hOf S (S.length : Nat) (hFold S (S.length : Nat) i).1 c (hFold S (S.length : Nat) i).2))]) ?_ (wkr_keep (wkr_keep (wkr_keep (wkr_keep (wkr_keep (wkr_drop (wkr_drop (wkr_drop wkr_nil))))))))⟩
    rw [hFold_succ hc]
    refine rgm_seq (rgm_of (rg_set 6 (eg_call (ag_cons (eg_var (i := 0) rfl) (ag_cons (eg_var (i := 5) rfl) ag_nil)) ⟨S, c, rfl, hl8, hcS, rfl⟩)) (mon_lst _ _)) ?_
    generalize hFold S (S.length : Nat) i = st at hLl ⊢
    obtain ⟨L, last⟩ := st
    refine rgm_seq (Γ1 := [some (stD S), some (.int (S.length : Nat)), some (.tup ((wordM S).map Dat.int)), some (.raw (.ref p)), some (lastD last), some (.int c), some (.int (stIx S c : Nat)), some (.int (hOf S (S.length : Nat) L c last))]) (M1 := fun H => H p = some (.lst (L.map V.int))) ?_
      (rgm_store (i := 3) (j := 5) (x := 7) (y := 4) (c := c.toNat) rfl (by rw [hcn]; rfl) rfl (by show c.toNat < L.length; have : L.length = (wordM S).length := hLl; omega) (by simp) (hB p (by simp)))
    refine rgm_if (tg_B (eg_isN (eg_var (i := 4) rfl))) (mon_lst _ _) (fun hb => ?_) (fun hb => ?_)
    · cases last with
      | some l => cases hb
      | none => exact rgm_of (rg_set 7 (eg_var (i := 6) rfl)) (mon_lst _ _)
    · cases last with
      | none => cases hb
      | some l =>
        refine rgm_seq (rgm_of (rg_set 7 (eg_op (eg_var (i := 4) rfl) (eg_op (eg_op (eg_var (i := 4) rfl) (eg_var (i := 6) rfl) (rg_I0 fun _ _ => .int _)) (eg_var (i := 1) rfl) (rg_I hk0 fun _ _ => .int _)) (rg_I0 fun _ _ => .int _))) (mon_lst _ _)) ?_
        refine rgm_if (b := condM S c) (tg_and (tg_test (eg_op eg_int (eg_op (eg_var (i := 0) rfl) (eg_var (i := 6) rfl) (rg_ixT rfl hat2)) rg_inF)) fun h0 => tg_test (eg_op (eg_tIx (eg_op (eg_var (i := 0) rfl) (eg_var (i := 6) rfl) (rg_ixT rfl hat2)) (eg_var (i := 5) rfl) hat.2) (eg_tIx (eg_op (eg_var (i := 0) rfl) (eg_var (i := 6) rfl) (rg_ixT rfl hat2)) eg_int (of_decide_eq_true h0)) (rg_I0 fun _ _ => .bl _))) (mon_lst _ _) (fun hb => ?_) (fun hb => ?_)
        · have h0 : L[0]? = some (L.getD 0 0) := by
            have hlen : 0 < L.length := by
              have : L.length = (wordM S).length := hLl
              omega
            rw [List.getD_eq_getElem?_getD, List.getElem?_eq_getElem hlen]; rfl
          have e : hOf S (S.length : Nat) L c (some l) = L.getD 0 0 - (S.length : Nat) := by
            show (if condM S c = true then _ else _) = _
            rw [if_pos hb]
          rw [e]
          exact rgm_sub0 (i := 3) (j := 1) (x := 7) rfl rfl h0
        · have e : hOf S (S.length : Nat) L c (some l) = l - (l - (stIx S c : Nat)) % (S.length : Nat) := by
            show (if condM S c = true then _ else _) = _
            rw [if_neg (by rw [hb]; exact Bool.false_ne_true)]
          rw [e]
          exact rgm_nx
end
end Tr
/-! Defs 5: rises_in and what leans on it. -/
namespace Tr
open PySem PySem.Spec PyProof.Rows L2 RT
/-! ### the mirror -/
def maxI : List Int → Int
  | [] => 0
  | x :: r => r.foldl max x
theorem foldl_max (r : List Int) : ∀ x : Int, x ≤ r.foldl max x ∧ (∀ y ∈ r, y ≤ r.foldl max x) ∧ (r.foldl max x = x ∨ r.foldl max x ∈ r) := by
  induction r with
  | nil => intro x; exact ⟨Int.le_refl _, by simp, .inl rfl⟩
  | cons a r ih =>
    intro x
    obtain ⟨h1, h2, h3⟩ := ih (max x a)
    rw [List.foldl_cons]
    refine ⟨by omega, fun y hy => ?_, ?_⟩
    · rcases List.mem_cons.mp hy with rfl | hy
      · omega
      · exact h2 y hy
    · rcases h3 with h3 | h3
      · rw [h3]
        by_cases hxa : x ≤ a
        · right; rw [Int.max_eq_right hxa]; simp
        · left; exact Int.max_eq_left (by omega)
      · right; simp [h3]
theorem maxI_mem {l : List Int} (h : l ≠ []) : maxI l ∈ l := by
  cases l with
  | nil => exact absurd rfl h
  | cons x r =>
    rcases (foldl_max r x).2.2 with h3 | h3
    · show r.foldl max x ∈ _
      rw [h3]; simp
    · exact List.mem_cons_of_mem _ h3
theorem maxI_le {l : List Int} : ∀ y ∈ l, y ≤ maxI l := by
  cases l with
  | nil => simp
  | cons x r =>
    intro y hy
    rcases List.mem_cons.mp hy with rfl | hy
    · exact (foldl_max r y).1
    · exact (foldl_max r x).2.1 y hy
def turnsM (h1 h2 : List Int) (k : Int) : Int := maxI ((h1.zip h2).map fun p => -(-(p.1 - p.2) / k))
def foundM (h1 h2 : List Int) (k : Int) : List Int := (h1.zip h2).map fun p => p.2 + turnsM h1 h2 k * k - p.1
def gI (l : List Int) (c : Int) : Int := l.getD c.toNat 0
def badM (l : List Int) (t : List Int) : Bool := t.any fun c => !decide (gI l c = gI l (t.headD 0))
def risesM (S T : Tr.St) : Option (List Int) :=
  if wordM S ≠ wordM T then none
  else if ((trL S).any fun p => badM (foundM (heightsM S) (heightsM T) (S.length : Nat)) p.1) = true then none else some (foundM (heightsM S) (heightsM T) (S.length : Nat))
def optD : Option (List Int) → Dat
  | none => .none
  | some l => .list (l.map Dat.int)
def stuckM (S T : Tr.St) : Bool := fullM S && (fullM T && !decide (S = T))
def ronM (S T : Tr.St) : Option (List Int) := if stuckM S T = true then none else risesM S T
def fewM (l : List Int) (T : Tr.St) : Int := ((trL T).map fun p => maxI (p.1.map fun c => gI l c)).sum
theorem heightsM_len (S : Tr.St) : (heightsM S).length = (wordM S).length := hFold_len S _ _ (Nat.le_refl _)
theorem Good.hl {n k : Nat} {S : Tr.St} (G : Good n k S) : (heightsM S).length = n := by rw [heightsM_len, (wordM_perm S).length_eq, G.cars]
theorem foundM_len {n k : Nat} {S T : Tr.St} (G : Good n k S) (G' : Good n k T) (j : Int) : (foundM (heightsM S) (heightsM T) j).length = n := by
  unfold foundM
  rw [List.length_map, List.length_zip, G.hl, G'.hl, Nat.min_self]
theorem trL_mem {S : Tr.St} {p : List Int × Nat} (h : p ∈ trL S) : p.1 ∈ S ∧ p.1 ≠ [] := by
  unfold trL at h
  rw [List.mem_filter] at h
  refine ⟨?_, by simpa using h.2⟩
  have h1 := List.mem_zipIdx h.1
  rw [h1.2.2]
  exact List.getElem_mem _
section
variable {X : Cx}
theorem cr_maxK (K : PySem.W.Frag) (hc : X.calm = true) (hK : X.K = K := by rfl) : CallR X (.builtin "max") (rMax K) := by
  subst hK
  exact cr_max hc
end
section
variable {P : Program} {w : World} {K : PySem.W.Frag} {mg : Str → Option Value} {base : Heap} {f : Addr} {fd : FuncData}
abbrev sRisesIn : Stmt := top 24
abbrev sIsStuck : Stmt := top 25
abbrev sRisesOrNone : Stmt := top 26
abbrev sCanCome : Stmt := top 27
abbrev sNeedRisesR : Stmt := top 28
abbrev sFewestIn : Stmt := top 30
abbrev sFewestCalls : Stmt := top 31
abbrev sCanComeAO : Stmt := top 33
abbrev sNeedRisesG : Stmt := top 34
abbrev sFewestGroups : Stmt := top 36
def F2 (r : Tr.St → Tr.St → Dat) (ds : List Dat) (d : Dat) : Prop := ∃ (n k : Nat) (S T : Tr.St), ds = [stD S, stD T] ∧ Yd n k ∧ Good n k S ∧ Good n k T ∧ d = r S T
def F3 (r : Tr.St → Tr.St → Dat) (ds : List Dat) (d : Dat) : Prop := ∃ (n k : Nat) (S T : Tr.St), ds = [yardD n k, stD S, stD T] ∧ Yd n k ∧ Good n k S ∧ Good n k T ∧ d = r S T
def FRisesIn := F2 fun S T => optD (risesM S T)
theorem zip_ints (a b : List Int) : ((a.map Dat.int).zip (b.map Dat.int)).map (fun p => Dat.tup [p.1, p.2]) = (a.zip b).map fun p => Dat.tup [.int p.1, .int p.2] := by
  rw [List.zip_map, List.map_map]; rfl
theorem sc_rises_in : FnScope ["one", "other", "stations", "first", "second", "turns", "found", "station", "train", "low", "high", "car"] ["one", "other"] (defScope sRisesIn) := ⟨rfl, rfl, rfl, by decide +kernel, rfl, by decide +kernel, by decide +kernel⟩
theorem ok_rises_in (F : Fun K "rises_in" "rises_in" sRisesIn f fd) (T : Txt mg) (c1 : Cal P w K mg base "word_in" 1 ["state"] FWordIn) (c2 : Cal P w K mg base "heights_in" 2 ["state"] FHeightsIn) (c3 : Cal P w K mg base "trains_in" 1 ["state"] FTrainsIn) :
    FnOk P w K mg base CX0 3 f fd ["one", "other"] (spG FRisesIn) := by
  have nd := sc_rises_in.nd
  refine fnG F sc_rises_in (fun ds r h => by obtain ⟨n, k, S, U, rfl, _⟩ := h; rfl) fun cdv A outer s H E hr ds r h => ?_
  obtain ⟨n, k, S, U, rfl, Y, G, G', rfl⟩ := h
  have hr1 : Room 1 _ := hr.mono (by decide)
  refine ⟨_, pss_cons (ps_if (pt_cmpR (op_neK K hr.units) (pe_cal c1 hr1 (by rfl) (pa_cons (pv 0) pa_nil)) (pe_cal c1 hr1 (by rfl) (pa_cons (pv 1) pa_nil)) (nomark _)) (pss_one (ps_ret pe_non)) pss_nil)
    (pss_cons (ps_asg (pe_tup (pa_cons (pe_callB call_len_seq (by rfl) T.len PySem.boot_len (pa_cons (pv 0) pa_nil)) (pa_cons (pe_cal c2 hr (by rfl) (pa_cons (pv 0) pa_nil)) (pa_cons (pe_cal c2 hr (by rfl) (pa_cons (pv 1) pa_nil)) pa_nil))))
      (pg_tupK K 3 rfl (pgs_cons (pg_name (i := 2) nd rfl (.inr rfl)) (pgs_cons (pg_name (i := 3) nd rfl (.inl rfl)) (pgs_cons (pg_name (i := 4) nd rfl (.inl rfl)) pgs_nil)))))
    (pss_cons (ps_set (i := 5) nd rfl (.inr rfl) (pe_callB (cr_maxK K rfl) (by rfl) T.max (by decide +kernel) (pa_cons (pe_lc (own := [("low", 9), ("high", 10)]) rfl nd (pi_zip (by rfl) T.zip (pa_cons (pv 3) (pa_cons (pv 4) pa_nil))) (blkOk_by (N := ["one", "other", "stations", "first", "second", "turns", "found", "station", "train", "low", "high", "car"]) (sc := defScope sRisesIn) (by decide +kernel))
      (fun _ _ _ _ _ => pg_tupK K 2 rfl (pgs_cons (pg_name (i := 9) nd rfl (.inl rfl)) (pgs_cons (pg_name (i := 10) nd rfl (.inl rfl)) pgs_nil))) (fun _ _ _ _ _ => pts_nil) (fun _ _ _ _ _ => pe_un un_neg (pe_op op_fdiv (pe_un un_neg (pe_op op_sub (pv 9) (pv 10))) (pv 2)))) pa_nil)))
    (pss_cons (ps_set (i := 6) nd rfl (.inr rfl) (pe_lc (own := [("low", 9), ("high", 10)]) rfl nd (pi_zip (by rfl) T.zip (pa_cons (pv 3) (pa_cons (pv 4) pa_nil))) (blkOk_by (N := ["one", "other", "stations", "first", "second", "turns", "found", "station", "train", "low", "high", "car"]) (sc := defScope sRisesIn) (by decide +kernel))
      (fun _ _ _ _ _ => pg_tupK K 2 rfl (pgs_cons (pg_name (i := 9) nd rfl (.inl rfl)) (pgs_cons (pg_name (i := 10) nd rfl (.inl rfl)) pgs_nil))) (fun _ _ _ _ _ => pts_nil) (fun _ _ _ _ _ => pe_op op_sub (pe_op op_add (pv 10) (pe_op op_mul (pv 5) (pv 2))) (pv 9))))
    (pss_cons (ps_for PassesOwn.never rfl (pi_list (pe_cal c3 hr1 (by rfl) (pa_cons (pv 0) pa_nil))) (pg_tupK K 2 rfl (pgs_cons (pg_name (i := 7) nd rfl (.inl rfl)) (pgs_cons (pg_name (i := 8) nd rfl (.inr rfl)) pgs_nil)))
      (pss_one (ps_if (pt_val (pe_callB (cr_any rfl) (by rfl) T.any (by decide +kernel) (pa_cons (pe_lc (own := [("car", 11)]) rfl nd (pi_tup (pv 8)) (blkOk_by (N := ["one", "other", "stations", "first", "second", "turns", "found", "station", "train", "low", "high", "car"]) (sc := defScope sRisesIn) (by decide +kernel))
        (fun _ _ _ _ _ => pg_name (i := 11) nd rfl (.inl rfl)) (fun _ _ _ _ _ => pts_nil) (fun _ _ _ _ _ => pe_cmpR op_ne (pe_ix (ix_listK K) (pv 6) (pv 11) (fun _ _ => rfl)) (pe_ix (ix_listK K) (pv 6) (pe_ix (ix_tupK K) (pv 8) pe_int (fun _ _ => rfl)) (fun _ _ => rfl)) (nomark _))) pa_nil)))
        (pss_one (ps_ret pe_non)) pss_nil)))
    (pss_one (ps_ret (pv 6))))))), .inl ?_⟩
  have hl8 : S.length ≤ 8 := by rw [G.len]; exact Y.k8
  have hl8' : U.length ≤ 8 := by rw [G'.len]; exact Y.k8
  have hn7 : S.flatten.length ≤ 7 := by rw [G.cars]; exact Y.n7
  have hn7' : U.flatten.length ≤ 7 := by rw [G'.cars]; exact Y.n7
  have hk0 : (0 : Int) < (S.length : Nat) := by rw [G.len]; have := Y.k2; omega
  have hk8 : ((S.length : Nat) : Int) ≤ 8 := by omega
  have w1 : ∀ Γ : Gam, Γ[0]? = some (some (stD S)) → Eg (tCall (spG FWordIn) [] E0 (tCons (tVar 0) tNil)) Γ (.tup ((wordM S).map Dat.int)) := fun Γ h => eg_call (ag_cons (eg_var h) ag_nil) ⟨S, rfl, hl8, hn7, G.zero Y, rfl⟩
  have w2 : ∀ Γ : Gam, Γ[1]? = some (some (stD U)) → Eg (tCall (spG FWordIn) [] E0 (tCons (tVar 1) tNil)) Γ (.tup ((wordM U).map Dat.int)) := fun Γ h => eg_call (ag_cons (eg_var h) ag_nil) ⟨U, rfl, hl8', hn7', G'.zero Y, rfl⟩
  by_cases hw' : ¬ wordM S = wordM U
  · have e : risesM S U = none := by unfold risesM; rw [if_pos hw']
    show Rg _ _ (.rt (optD (risesM S U)))
    rw [e]
    exact rg_seqR (rg_ifT (tg_is (tg_test (eg_op (w1 _ rfl) (w2 _ rfl) rg_neT)) (by rw [decide_eq_false hw']; rfl)) (rg_ret eg_non))
  have hw := Decidable.not_not.mp hw'
  refine rg_seq (rg_ifF (tg_is (tg_test (eg_op (w1 _ rfl) (w2 _ rfl) rg_neT)) (by rw [decide_eq_true hw]; rfl)) rg_nx) ?_
  refine rg_seq (rg_asg (eg_tup (ag_cons (eg_cb (ag_cons (eg_var (i := 0) rfl) ag_nil) (cg_lenT (K := K) rfl)) (ag_cons (eg_call (ag_cons (eg_var (i := 0) rfl) ag_nil) ⟨n, k, S, rfl, Y, G, rfl⟩) (ag_cons (eg_call (ag_cons (eg_var (i := 1) rfl) ag_nil) ⟨n, k, U, rfl, Y, G', rfl⟩) ag_nil))) (by simp)) (gg_tup rfl (ggs_cons (gg_name 2) (ggs_cons (gg_name 3) (ggs_cons (gg_name 4) ggs_nil))))) ?_
  rw [List.length_map]
  show Rg _ _ (.rt (optD (risesM S U)))
  generalize hh1 : heightsM S = h1
  generalize hh2 : heightsM U = h2
  have l1 : h1.length = n := by rw [← hh1]; exact G.hl
  have l2 : h2.length = n := by rw [← hh2]; exact G'.hl
  have lz : (h1.zip h2).length = n := by rw [List.length_zip, l1, l2, Nat.min_self]
  have hz : (h1.zip h2) ≠ [] := fun z => by rw [z] at lz; have := Y.n1; simp at lz; omega
  generalize hkk : ((S.length : Nat) : Int) = kk at hk0 hk8 ⊢
  have ezip : ∀ Γ : Gam, Γ[3]? = some (some (.list (h1.map Dat.int))) → Γ[4]? = some (some (.list (h2.map Dat.int))) → IG (iZip K (tCons (tVar 3) (tCons (tVar 4) tNil))) Γ ((h1.zip h2).map fun p => Dat.tup [.int p.1, .int p.2]) := fun Γ ha hb => by
    rw [← zip_ints]
    exact ig_zip (ag_cons (eg_var ha) (ag_cons (eg_var hb) ag_nil))
  have hn7z : (h1.zip h2).length ≤ 30000 := by rw [lz]; have := Y.n7; omega
  have eturn := eg_lcA (te := tUn (rU fun i => .int (-i)) (tOp (rI CDiv fun i j => .int (i / j)) (tUn (rU fun i => .int (-i)) (tOp (rI0 fun i j => .int (i - j)) (tVar 9) (tVar 10))) (tVar 2))) (g := gTup K 2 (gCons (gName 9) (gCons (gName 10) gNil))) (vs := [9, 10]) (js := [9, 10]) (Γ := [some (stD S), some (stD U), some (.int kk), some (.list (h1.map Dat.int)), some (.list (h2.map Dat.int)), none, none, none, none, none, none, none]) (h1.zip h2) (fun p => Dat.tup [.int p.1, .int p.2]) (fun p => Dat.int (-(-(p.1 - p.2) / kk)))
    (fun p => [some (stD S), some (stD U), some (.int kk), some (.list (h1.map Dat.int)), some (.list (h2.map Dat.int)), none, none, none, none, some (.int p.1), some (.int p.2), none]) (by simp) (ezip _ rfl rfl) (fun p _ => gg_tup rfl (ggs_cons (gg_name 9) (ggs_cons (gg_name 10) ggs_nil)))
    (fun p _ => eg_un (eg_op (eg_un (eg_op (eg_var (i := 9) rfl) (eg_var (i := 10) rfl) (rg_I0 fun _ _ => .int _)) ug_neg) (eg_var (i := 2) rfl) (rg_I ⟨hk0, by omega⟩ fun _ _ => .int _)) ug_neg) hn7z
  have em1 : ((h1.zip h2).map fun p => Dat.int (-(-(p.1 - p.2) / kk))) = ((h1.zip h2).map fun p => -(-(p.1 - p.2) / kk)).map Dat.int := by rw [List.map_map]; rfl
  rw [em1] at eturn
  have hnz : ((h1.zip h2).map fun p => -(-(p.1 - p.2) / kk)) ≠ [] := fun z => hz (List.map_eq_nil_iff.mp z)
  refine rg_seq (rg_set 5 (d := .int (turnsM h1 h2 kk)) (eg_cb (ag_cons eturn ag_nil) (cg_max (maxI_mem hnz) maxI_le))) ?_
  have efound := eg_lcA (te := tOp (rI0 fun i j => .int (i - j)) (tOp (rI0 fun i j => .int (i + j)) (tVar 10) (tOp (rI CMul fun i j => .int (i * j)) (tVar 5) (tVar 2))) (tVar 9)) (g := gTup K 2 (gCons (gName 9) (gCons (gName 10) gNil))) (vs := [9, 10]) (js := [9, 10]) (Γ := [some (stD S), some (stD U), some (.int kk), some (.list (h1.map Dat.int)), some (.list (h2.map Dat.int)), some (.int (turnsM h1 h2 kk)), none, none, none, none, none, none]) (h1.zip h2) (fun p => Dat.tup [.int p.1, .int p.2]) (fun p => Dat.int (p.2 + turnsM h1 h2 kk * kk - p.1))
    (fun p => [some (stD S), some (stD U), some (.int kk), some (.list (h1.map Dat.int)), some (.list (h2.map Dat.int)), some (.int (turnsM h1 h2 kk)), none, none, none, some (.int p.1), some (.int p.2), none]) (by simp) (ezip _ rfl rfl) (fun p _ => gg_tup rfl (ggs_cons (gg_name 9) (ggs_cons (gg_name 10) ggs_nil)))
    (fun p _ => eg_op (eg_op (eg_var (i := 10) rfl) (eg_op (eg_var (i := 5) rfl) (eg_var (i := 2) rfl) (rg_I (.inr ⟨by omega, by omega⟩) fun _ _ => .int _)) (rg_I0 fun _ _ => .int _)) (eg_var (i := 9) rfl) (rg_I0 fun _ _ => .int _)) hn7z
  have em2 : ((h1.zip h2).map fun p => Dat.int (p.2 + turnsM h1 h2 kk * kk - p.1)) = (foundM h1 h2 kk).map Dat.int := by unfold foundM; rw [List.map_map]; rfl
  rw [em2] at efound
  refine rg_seq (rg_set 6 efound) ?_
  have er : risesM S U = if ((trL S).any fun p => badM (foundM h1 h2 kk) p.1) = true then none else some (foundM h1 h2 kk) := by
    unfold risesM
    rw [if_neg (fun z => z hw), hh1, hh2, hkk]
  rw [er]
  have lfd : (foundM h1 h2 kk).length = n := by unfold foundM; rw [List.length_map, lz]
  generalize foundM h1 h2 kk = fd at lfd ⊢
  generalize turnsM h1 h2 kk = tn
  -- the loop's test
  have htest : ∀ p ∈ trL S, Tg (tB (tCB (rAny K) (tCons (tLc (iTup K (tVar 8)) (gName 11) tYes (tOp rNe (tOp (rIxL K) (tVar 6) (tVar 11)) (tOp (rIxL K) (tVar 6) (tOp (rIxT K) (tVar 8) (tC (.int 0))))) [11]) tNil)))
      [some (stD S), some (stD U), some (.int kk), some (.list (h1.map Dat.int)), some (.list (h2.map Dat.int)), some (.int tn), some (.list (fd.map Dat.int)), some (.int (p.2 : Nat)), some (.fz p.1), none, none, none] (badM fd p.1) := fun p hp => by
    obtain ⟨hpS, hpn⟩ := trL_mem hp
    have hcar : ∀ c ∈ p.1, atI (fd.map Dat.int) c = some (.int (gI fd c)) := fun c hc => by
      have hrg := G.rng c (List.mem_flatten.mpr ⟨_, hpS, hc⟩)
      have hcn : ((c.toNat : Nat) : Int) = c := Int.toNat_of_nonneg hrg.1
      have hlt : c.toNat < fd.length := by omega
      have h5 : atI (fd.map Dat.int) ((c.toNat : Nat) : Int) = some (.int (gI fd c)) := atI_nat (by
        rw [List.getElem?_map, List.getElem?_eq_getElem hlt]
        unfold gI
        rw [List.getD_eq_getElem?_getD, List.getElem?_eq_getElem hlt]; rfl)
      rw [hcn] at h5
      exact h5
    have hhd : p.1.headD 0 ∈ p.1 := by
      cases hpe : p.1 with
      | nil => exact absurd hpe hpn
      | cons x r => simp
    have h0 : atI (p.1.map Dat.int) 0 = some (.int (p.1.headD 0)) := by
      cases hpe : p.1 with
      | nil => exact absurd hpe hpn
      | cons x r => exact atI_zero rfl
    have hl7 : p.1.length ≤ 7 := by
      have : p.1.length ≤ S.flatten.length := (List.sublist_flatten_of_mem hpS).length_le
      omega
    have elc := eg_lcA (te := tOp rNe (tOp (rIxL K) (tVar 6) (tVar 11)) (tOp (rIxL K) (tVar 6) (tOp (rIxT K) (tVar 8) (tC (.int 0))))) (wi := iTup K (tVar 8)) (g := gName 11) (vs := [11]) (js := [11]) (Γ := [some (stD S), some (stD U), some (.int kk), some (.list (h1.map Dat.int)), some (.list (h2.map Dat.int)), some (.int tn), some (.list (fd.map Dat.int)), some (.int (p.2 : Nat)), some (.fz p.1), none, none, none]) p.1 Dat.int (fun c => .bool (!decide (gI fd c = gI fd (p.1.headD 0))))
      (fun c => [some (stD S), some (stD U), some (.int kk), some (.list (h1.map Dat.int)), some (.list (h2.map Dat.int)), some (.int tn), some (.list (fd.map Dat.int)), some (.int (p.2 : Nat)), some (.fz p.1), none, none, some (.int c)]) (by simp) (ig_tup (eg_var (i := 8) rfl) rfl) (fun c _ => gg_name 11)
      (fun c hc => eg_op (eg_op (eg_var (i := 6) rfl) (eg_var (i := 11) rfl) (rg_ixL (hcar c hc))) (eg_op (eg_var (i := 6) rfl) (eg_op (eg_var (i := 8) rfl) eg_int (rg_ixT rfl h0)) (rg_ixL (hcar _ hhd))) rg_neI) (by omega)
    have em : (p.1.map fun c => Dat.bool (!decide (gI fd c = gI fd (p.1.headD 0)))) = (p.1.map fun c => !decide (gI fd c = gI fd (p.1.headD 0))).map Dat.bool := by rw [List.map_map]; rfl
    rw [em] at elc
    refine tg_is (tg_B (eg_cb (ag_cons elc ag_nil) cg_any)) ?_
    unfold badM
    rw [List.any_map]; rfl
  have hIG : IG (iList K (tCall (spG FTrainsIn) [] E0 (tCons (tVar 0) tNil))) [some (stD S), some (stD U), some (.int kk), some (.list (h1.map Dat.int)), some (.list (h2.map Dat.int)), some (.int tn), some (.list (fd.map Dat.int)), none, none, none, none, none] ((trL S).map fun p => Dat.tup [.int (p.2 : Nat), .fz p.1]) := ig_list (eg_call (ag_cons (eg_var rfl) ag_nil) ⟨S, rfl, hl8, rfl⟩)
  by_cases hb : ((trL S).any fun p => badM fd p.1) = true
  · rw [if_pos hb]
    show Rg _ _ (.rt .none)
    have hex : ∃ p ∈ trL S, badM fd p.1 = true := List.any_eq_true.mp hb
    have hlt : (trL S).findIdx (fun p : List Int × Nat => badM fd p.1) < (trL S).length := List.findIdx_lt_length_of_exists hex
    refine rg_seqR (rg_for (trL S) _ (fun _ => [some (stD S), some (stD U), some (.int kk), some (.list (h1.map Dat.int)), some (.list (h2.map Dat.int)), some (.int tn), some (.list (fd.map Dat.int)), none, none, none, none, none]) ((trL S).findIdx (fun p : List Int × Nat => badM fd p.1)) _ hIG (fun i p hi hp => ?_) (.inr ⟨(trL S)[(trL S).findIdx (fun p : List Int × Nat => badM fd p.1)], .none, _, _, List.getElem?_eq_getElem hlt, gg_tup rfl (ggs_cons (gg_name 7) (ggs_cons (gg_name 8) ggs_nil)), rg_ifT (tg_is (htest _ (List.getElem_mem hlt)) (List.findIdx_getElem (w := hlt))) (rg_ret eg_non), rfl⟩))
    refine ⟨_, _, gg_tup rfl (ggs_cons (gg_name 7) (ggs_cons (gg_name 8) ggs_nil)), rg_weak (Γ1 := [some (stD S), some (stD U), some (.int kk), some (.list (h1.map Dat.int)), some (.list (h2.map Dat.int)), some (.int tn), some (.list (fd.map Dat.int)), some (.int (p.2 : Nat)), some (.fz p.1), none, none, none]) (rg_ifF (tg_is (htest p (List.mem_of_getElem? hp)) ?_) rg_nx) (wkr_keep (wkr_keep (wkr_keep (wkr_keep (wkr_keep (wkr_keep (wkr_keep (wkr_drop (wkr_drop (wkr_keep (wkr_keep (wkr_keep wkr_nil))))))))))))⟩
    have := List.not_of_lt_findIdx hi
    have he : (trL S)[i] = p := (List.getElem?_eq_some_iff.mp hp).2
    rw [he] at this
    exact this
  · rw [if_neg hb]
    show Rg _ _ (.rt (.list (fd.map Dat.int)))
    refine rg_seq (rg_for (trL S) _ (fun _ => [some (stD S), some (stD U), some (.int kk), some (.list (h1.map Dat.int)), some (.list (h2.map Dat.int)), some (.int tn), some (.list (fd.map Dat.int)), none, none, none, none, none]) (trL S).length _ hIG (fun i p hi hp => ?_) (.inl ⟨rfl, rfl⟩)) (rg_ret (eg_var (i := 6) rfl))
    refine ⟨_, _, gg_tup rfl (ggs_cons (gg_name 7) (ggs_cons (gg_name 8) ggs_nil)), rg_weak (Γ1 := [some (stD S), some (stD U), some (.int kk), some (.list (h1.map Dat.int)), some (.list (h2.map Dat.int)), some (.int tn), some (.list (fd.map Dat.int)), some (.int (p.2 : Nat)), some (.fz p.1), none, none, none]) (rg_ifF (tg_is (htest p (List.mem_of_getElem? hp)) ?_) rg_nx) (wkr_keep (wkr_keep (wkr_keep (wkr_keep (wkr_keep (wkr_keep (wkr_keep (wkr_drop (wkr_drop (wkr_keep (wkr_keep (wkr_keep wkr_nil))))))))))))⟩
    cases hpb : badM fd p.1 with
    | false => rfl
    | true => exact absurd (List.any_eq_true.mpr ⟨p, List.mem_of_getElem? hp, hpb⟩) hb
end
end Tr
/-! Defs 6: is_stuck .. fewest_groups. -/
namespace Tr
open PySem PySem.Spec PyProof.Rows L2 RT
section
variable {P : Program} {w : World} {K : PySem.W.Frag} {mg : Str → Option Value} {base : Heap} {f : Addr} {fd : FuncData}
def FIsStuck := F2 fun S T => .bool (stuckM S T)
def FRon := F2 fun S T => optD (ronM S T)
def FCanCome := F3 fun S T => .bool (ronM S T).isSome
def FCanComeAO := F3 fun S T => .bool (risesM S T).isSome
def FNeed (g : Tr.St → Tr.St → Option (List Int)) (ds : List Dat) (d : Dat) : Prop := ∃ (n k : Nat) (S T : Tr.St) (l : List Int), ds = [yardD n k, stD S, stD T] ∧ Yd n k ∧ Good n k S ∧ Good n k T ∧ g S T = some l ∧ d = .list (l.map Dat.int)
theorem isNon_optD (o : Option (List Int)) : isNon (optD o) = !o.isSome := by cases o <;> rfl
theorem full_dat (S : Tr.St) : (S.map fun t => Dat.bool (!decide (t = []))) = (S.map fun t => !decide (t = [])).map Dat.bool := by rw [List.map_map]; rfl
/-- all([t != () for t in x]) -/
theorem eg_full {Γ Γ' : Gam} {i j : Nat} {S : Tr.St} (h : Γ[i]? = some (some (stD S))) (hl : S.length ≤ 8) (hg : ∀ t : List Int, (wG Γ [j]).set j (some (.fz t)) = Γ'.set j (some (.fz t))) (hj : ∀ t : List Int, (Γ'.set j (some (Dat.fz t)))[j]? = some (some (.fz t))) :
    Eg (tCB (rAll K) (tCons (tLc (iTup K (tVar i)) (gName j) tYes (tOp (rNeD K) (tVar j) (tTup tNil)) [j]) tNil)) Γ (.bool (fullM S)) := by
  have h1 := eg_lcA (wi := iTup K (tVar i)) (g := gName j) (te := tOp (rNeD K) (tVar j) (tTup tNil)) (vs := [j]) (Γ := Γ) (js := [j]) S Dat.fz (fun t => Dat.bool (!decide (t = []))) (fun t => (wG Γ [j]).set j (some (.fz t))) (by simp) (ig_tup (eg_var h) rfl) (fun p _ => gg_name j) (fun p _ => (eg_op (eg_var (i := j) (by rw [hg]; exact hj p)) (eg_tup ag_nil (by simp)) rg_neFz0)) (by omega)
  rw [full_dat] at h1
  refine eg_is (eg_cb (ag_cons h1 ag_nil) cg_all) ?_
  unfold fullM
  rw [List.all_map]; rfl
theorem sc_is_stuck : FnScope ["one", "other", "train"] ["one", "other"] (defScope sIsStuck) := ⟨rfl, rfl, rfl, by decide +kernel, rfl, by decide +kernel, by decide +kernel⟩
theorem ok_is_stuck (F : Fun K "is_stuck" "is_stuck" sIsStuck f fd) (T : Txt mg) : FnOk P w K mg base CX0 1 f fd ["one", "other"] (spG FIsStuck) := by
  have nd := sc_is_stuck.nd
  refine fnG F sc_is_stuck (fun ds r h => by obtain ⟨n, k, S, U, rfl, _⟩ := h; rfl) fun cdv A outer s H E hr ds r h => ?_
  obtain ⟨n, k, S, U, rfl, Y, G, G', rfl⟩ := h
  have hl8 : S.length ≤ 8 := by rw [G.len]; exact Y.k8
  have hl8' : U.length ≤ 8 := by rw [G'.len]; exact Y.k8
  refine ⟨_, pss_one (ps_ret (pe_and
    (pe_callB (cr_all rfl) (by rfl) T.all (by decide +kernel) (pa_cons (pe_lc (own := [("train", 2)]) rfl nd (pi_tup (pv 0)) (blkOk_by (N := ["one", "other", "train"]) (sc := defScope sIsStuck) (by decide +kernel)) (fun _ _ _ _ _ => pg_name (i := 2) nd rfl (.inl rfl)) (fun _ _ _ _ _ => pts_nil) (fun _ _ _ _ _ => pe_cmpR (op_neK K hr.units) (pv 2) (pe_tup pa_nil) (nomark _))) pa_nil))
    (pe_and (pe_callB (cr_all rfl) (by rfl) T.all (by decide +kernel) (pa_cons (pe_lc (own := [("train", 2)]) rfl nd (pi_tup (pv 1)) (blkOk_by (N := ["one", "other", "train"]) (sc := defScope sIsStuck) (by decide +kernel)) (fun _ _ _ _ _ => pg_name (i := 2) nd rfl (.inl rfl)) (fun _ _ _ _ _ => pts_nil) (fun _ _ _ _ _ => pe_cmpR (op_neK K hr.units) (pv 2) (pe_tup pa_nil) (nomark _))) pa_nil))
    (pe_one (pe_cmpR (op_neK K hr.units) (pv 0) (pv 1) (nomark _)))))), .inl ?_⟩
  exact rg_ret (eg_andV (eg_full (Γ' := [some (stD S), some (stD U), none]) (j := 2) rfl hl8 (fun t => rfl) (fun t => rfl)) fun _ => eg_andV (eg_full (Γ' := [some (stD S), some (stD U), none]) (j := 2) rfl hl8' (fun t => rfl) (fun t => rfl)) fun _ => eg_op (eg_var rfl) (eg_var rfl) rg_neSt)
theorem sc_ron : FnScope ["one", "other"] ["one", "other"] (defScope sRisesOrNone) := ⟨rfl, rfl, rfl, by decide +kernel, rfl, by decide +kernel, by decide +kernel⟩
theorem ok_ron (F : Fun K "rises_or_none" "rises_or_none" sRisesOrNone f fd) (c1 : Cal P w K mg base "is_stuck" 1 ["one", "other"] FIsStuck) (c2 : Cal P w K mg base "rises_in" 3 ["one", "other"] FRisesIn) : FnOk P w K mg base CX0 4 f fd ["one", "other"] (spG FRon) := by
  refine fnG F sc_ron (fun ds r h => by obtain ⟨n, k, S, U, rfl, _⟩ := h; rfl) fun cdv A outer s H E hr ds r h => ?_
  obtain ⟨n, k, S, U, rfl, Y, G, G', rfl⟩ := h
  refine ⟨_, pss_one (ps_ret (pe_ifExp (pt_val (pe_cal c1 (hr.mono (by decide)) (by rfl) (pa_cons (pv 0) (pa_cons (pv 1) pa_nil)))) pe_non (pe_cal c2 hr (by rfl) (pa_cons (pv 0) (pa_cons (pv 1) pa_nil))))), .inl ?_⟩
  refine rg_ret (eg_if (tg_B (eg_call (ag_cons (eg_var rfl) (ag_cons (eg_var rfl) ag_nil)) ⟨n, k, S, U, rfl, Y, G, G', rfl⟩)) (fun hb => ?_) (fun hb => ?_))
  · show Eg _ _ (optD (ronM S U))
    unfold ronM
    rw [if_pos hb]
    exact eg_non
  · show Eg _ _ (optD (ronM S U))
    unfold ronM
    rw [if_neg (by rw [hb]; exact Bool.false_ne_true)]
    exact eg_call (ag_cons (eg_var rfl) (ag_cons (eg_var rfl) ag_nil)) ⟨n, k, S, U, rfl, Y, G, G', rfl⟩
theorem sc_can_come : FnScope ["yard", "one", "other"] ["yard", "one", "other"] (defScope sCanCome) := ⟨rfl, rfl, rfl, by decide +kernel, rfl, by decide +kernel, by decide +kernel⟩
theorem ok_can_come (F : Fun K "can_come" "can_come" sCanCome f fd) (c1 : Cal P w K mg base "need_state" 4 ["yard", "state"] FNeedState) (c2 : Cal P w K mg base "need_trains" 3 ["yard", "state"] FNeedTrains) (c3 : Cal P w K mg base "rises_or_none" 4 ["one", "other"] FRon) :
    FnOk P w K mg base CX0 5 f fd ["yard", "one", "other"] (spG FCanCome) := by
  refine fnG F sc_can_come (fun ds r h => by obtain ⟨n, k, S, U, rfl, _⟩ := h; rfl) fun cdv A outer s H E hr ds r h => ?_
  obtain ⟨n, k, S, U, rfl, Y, G, G', rfl⟩ := h
  refine ⟨_, pss_cons (ps_expr (pe_cal c1 hr (by rfl) (pa_cons (pv 0) (pa_cons (pv 1) pa_nil)))) (pss_cons (ps_expr (pe_cal c2 (hr.mono (by decide)) (by rfl) (pa_cons (pv 0) (pa_cons (pv 2) pa_nil)))) (pss_one (ps_ret (pe_cmp (pc_notN (pe_cal c3 hr (by rfl) (pa_cons (pv 1) (pa_cons (pv 2) pa_nil)))))))), .inl ?_⟩
  refine rg_seq (rg_drop (eg_call (ag_cons (eg_var rfl) (ag_cons (eg_var rfl) ag_nil)) ⟨n, k, S, rfl, Y, G, rfl⟩)) (rg_seq (rg_drop (eg_call (ag_cons (eg_var rfl) (ag_cons (eg_var rfl) ag_nil)) ⟨n, k, U, rfl, Y, G', rfl⟩)) (rg_ret (eg_is (eg_notN (eg_call (ag_cons (eg_var rfl) (ag_cons (eg_var rfl) ag_nil)) ⟨n, k, S, U, rfl, Y, G, G', rfl⟩)) ?_)))
  rw [isNon_optD, Bool.not_not]
theorem sc_can_come_ao : FnScope ["yard", "one", "other"] ["yard", "one", "other"] (defScope sCanComeAO) := ⟨rfl, rfl, rfl, by decide +kernel, rfl, by decide +kernel, by decide +kernel⟩
theorem ok_can_come_ao (F : Fun K "can_come_at_once" "can_come_at_once" sCanComeAO f fd) (c1 : Cal P w K mg base "need_state" 4 ["yard", "state"] FNeedState) (c2 : Cal P w K mg base "need_trains" 3 ["yard", "state"] FNeedTrains) (c3 : Cal P w K mg base "rises_in" 3 ["one", "other"] FRisesIn) :
    FnOk P w K mg base CX0 5 f fd ["yard", "one", "other"] (spG FCanComeAO) := by
  refine fnG F sc_can_come_ao (fun ds r h => by obtain ⟨n, k, S, U, rfl, _⟩ := h; rfl) fun cdv A outer s H E hr ds r h => ?_
  obtain ⟨n, k, S, U, rfl, Y, G, G', rfl⟩ := h
  refine ⟨_, pss_cons (ps_expr (pe_cal c1 hr (by rfl) (pa_cons (pv 0) (pa_cons (pv 1) pa_nil)))) (pss_cons (ps_expr (pe_cal c2 (hr.mono (by decide)) (by rfl) (pa_cons (pv 0) (pa_cons (pv 2) pa_nil)))) (pss_one (ps_ret (pe_cmp (pc_notN (pe_cal c3 (hr.mono (by decide)) (by rfl) (pa_cons (pv 1) (pa_cons (pv 2) pa_nil)))))))), .inl ?_⟩
  refine rg_seq (rg_drop (eg_call (ag_cons (eg_var rfl) (ag_cons (eg_var rfl) ag_nil)) ⟨n, k, S, rfl, Y, G, rfl⟩)) (rg_seq (rg_drop (eg_call (ag_cons (eg_var rfl) (ag_cons (eg_var rfl) ag_nil)) ⟨n, k, U, rfl, Y, G', rfl⟩)) (rg_ret (eg_is (eg_notN (eg_call (ag_cons (eg_var rfl) (ag_cons (eg_var rfl) ag_nil)) ⟨n, k, S, U, rfl, Y, G, G', rfl⟩)) ?_)))
  rw [isNon_optD, Bool.not_not]
theorem sc_need_r : FnScope ["yard", "one", "other", "found"] ["yard", "one", "other"] (defScope sNeedRisesR) := ⟨rfl, rfl, rfl, by decide +kernel, rfl, by decide +kernel, by decide +kernel⟩
theorem ok_need_r (F : Fun K "need_rises" "need_rises" sNeedRisesR f fd) (c1 : Cal P w K mg base "need_state" 4 ["yard", "state"] FNeedState) (c2 : Cal P w K mg base "need_trains" 3 ["yard", "state"] FNeedTrains) (c3 : Cal P w K mg base "rises_or_none" 4 ["one", "other"] FRon) :
    FnOk P w K mg base CX0 5 f fd ["yard", "one", "other"] (spG (FNeed ronM)) := by
  have nd := sc_need_r.nd
  refine fnG F sc_need_r (fun ds r h => by obtain ⟨n, k, S, U, l, rfl, _⟩ := h; rfl) fun cdv A outer s H E hr ds r h => ?_
  obtain ⟨n, k, S, U, l, rfl, Y, G, G', hl, rfl⟩ := h
  refine ⟨_, pss_cons (ps_expr (pe_cal c1 hr (by rfl) (pa_cons (pv 0) (pa_cons (pv 1) pa_nil)))) (pss_cons (ps_expr (pe_cal c2 (hr.mono (by decide)) (by rfl) (pa_cons (pv 0) (pa_cons (pv 2) pa_nil)))) (pss_cons (ps_set (i := 3) nd rfl (.inl rfl) (pe_cal c3 hr (by rfl) (pa_cons (pv 1) (pa_cons (pv 2) pa_nil))))
    (pss_cons (ps_if (pt_cmp (pc_isN (pv 3))) pss_never pss_nil) (pss_one (ps_ret (pv 3)))))), .inl ?_⟩
  have h3 : Eg (tCall (spG FRon) [] E0 (tCons (tVar 1) (tCons (tVar 2) tNil))) [some (yardD n k), some (stD S), some (stD U), none] (.list (l.map Dat.int)) := eg_is (eg_call (ag_cons (eg_var rfl) (ag_cons (eg_var rfl) ag_nil)) ⟨n, k, S, U, rfl, Y, G, G', rfl⟩) (by show optD _ = _; rw [hl]; rfl)
  exact rg_seq (rg_drop (eg_call (ag_cons (eg_var rfl) (ag_cons (eg_var rfl) ag_nil)) ⟨n, k, S, rfl, Y, G, rfl⟩)) (rg_seq (rg_drop (eg_call (ag_cons (eg_var rfl) (ag_cons (eg_var rfl) ag_nil)) ⟨n, k, U, rfl, Y, G', rfl⟩)) (rg_seq (rg_set 3 h3) (rg_seq (rg_ifF (tg_B (eg_isN (eg_var (d := .list (l.map Dat.int)) rfl))) rg_nx) (rg_ret (eg_var rfl)))))
theorem sc_need_g : FnScope ["yard", "one", "other", "found"] ["yard", "one", "other"] (defScope sNeedRisesG) := ⟨rfl, rfl, rfl, by decide +kernel, rfl, by decide +kernel, by decide +kernel⟩
theorem ok_need_g (F : Fun K "need_rises" "need_rises" sNeedRisesG f fd) (c1 : Cal P w K mg base "need_state" 4 ["yard", "state"] FNeedState) (c2 : Cal P w K mg base "need_trains" 3 ["yard", "state"] FNeedTrains) (c3 : Cal P w K mg base "rises_in" 3 ["one", "other"] FRisesIn) :
    FnOk P w K mg base CX0 5 f fd ["yard", "one", "other"] (spG (FNeed risesM)) := by
  have nd := sc_need_g.nd
  refine fnG F sc_need_g (fun ds r h => by obtain ⟨n, k, S, U, l, rfl, _⟩ := h; rfl) fun cdv A outer s H E hr ds r h => ?_
  obtain ⟨n, k, S, U, l, rfl, Y, G, G', hl, rfl⟩ := h
  refine ⟨_, pss_cons (ps_expr (pe_cal c1 hr (by rfl) (pa_cons (pv 0) (pa_cons (pv 1) pa_nil)))) (pss_cons (ps_expr (pe_cal c2 (hr.mono (by decide)) (by rfl) (pa_cons (pv 0) (pa_cons (pv 2) pa_nil)))) (pss_cons (ps_set (i := 3) nd rfl (.inl rfl) (pe_cal c3 (hr.mono (by decide)) (by rfl) (pa_cons (pv 1) (pa_cons (pv 2) pa_nil))))
    (pss_cons (ps_if (pt_cmp (pc_isN (pv 3))) pss_never pss_nil) (pss_one (ps_ret (pv 3)))))), .inl ?_⟩
  have h3 : Eg (tCall (spG FRisesIn) [] E0 (tCons (tVar 1) (tCons (tVar 2) tNil))) [some (yardD n k), some (stD S), some (stD U), none] (.list (l.map Dat.int)) := eg_is (eg_call (ag_cons (eg_var rfl) (ag_cons (eg_var rfl) ag_nil)) ⟨n, k, S, U, rfl, Y, G, G', rfl⟩) (by show optD _ = _; rw [hl]; rfl)
  exact rg_seq (rg_drop (eg_call (ag_cons (eg_var rfl) (ag_cons (eg_var rfl) ag_nil)) ⟨n, k, S, rfl, Y, G, rfl⟩)) (rg_seq (rg_drop (eg_call (ag_cons (eg_var rfl) (ag_cons (eg_var rfl) ag_nil)) ⟨n, k, U, rfl, Y, G', rfl⟩)) (rg_seq (rg_set 3 h3) (rg_seq (rg_ifF (tg_B (eg_isN (eg_var (d := .list (l.map Dat.int)) rfl))) rg_nx) (rg_ret (eg_var rfl)))))
def fiScope : Scope := match defBody sFewestIn with
  | [.Return (some (.Call _ [.ListComp _ _ sc _] _ _)) _] => sc
  | _ => { kind := .function, names := [], isGenerator := false, isCoroutine := false }
def fiScope2 : Scope := match defBody sFewestIn with
  | [.Return (some (.Call _ [.ListComp (.Call _ [.ListComp _ _ sc _] _ _) _ _ _] _ _)) _] => sc
  | _ => { kind := .function, names := [], isGenerator := false, isCoroutine := false }
def FFewestIn (ds : List Dat) (d : Dat) : Prop := ∃ (n k : Nat) (l : List Int) (T : Tr.St), ds = [.list (l.map Dat.int), stD T] ∧ Yd n k ∧ Good n k T ∧ l.length = n ∧ d = .int (fewM l T)
theorem sc_fewest_in : FnScope ["rises_found", "other", "station", "train", "car"] ["rises_found", "other"] (defScope sFewestIn) := ⟨rfl, rfl, rfl, by decide +kernel, rfl, by decide +kernel, by decide +kernel⟩
theorem ok_fewest_in (F : Fun K "fewest_in" "fewest_in" sFewestIn f fd) (T : Txt mg) (c1 : Cal P w K mg base "trains_in" 1 ["state"] FTrainsIn) : FnOk P w K mg base CX0 2 f fd ["rises_found", "other"] (spG FFewestIn) := by
  have nd := sc_fewest_in.nd
  refine fnG F sc_fewest_in (fun ds r h => by obtain ⟨n, k, l, U, rfl, _⟩ := h; rfl) fun cdv A outer s H E hr ds r h => ?_
  obtain ⟨n, k, l, U, rfl, Y, G, hl, rfl⟩ := h
  refine ⟨_, pss_one (ps_ret (pe_callB (cr_sum rfl) (by rfl) T.sum (by decide +kernel) (pa_cons (pe_lc (own := [("station", 2), ("train", 3)]) rfl nd (pi_list (pe_cal c1 hr (by rfl) (pa_cons (pv 1) pa_nil))) (blkOk_by (N := ["rises_found", "other", "station", "train", "car"]) (sc := defScope sFewestIn) (by decide +kernel))
    (fun _ _ _ _ _ => pg_tupK K 2 rfl (pgs_cons (pg_name (i := 2) nd rfl (.inl rfl)) (pgs_cons (pg_name (i := 3) nd rfl (.inl rfl)) pgs_nil))) (fun _ _ _ _ _ => pts_nil)
    (fun _ _ _ _ _ => pe_callB (cr_maxK K rfl) (by rfl) T.max (by decide +kernel) (pa_cons (pe_lc (own := [("car", 4)]) rfl nd (pi_tupK K (pv 3)) (by exact blkOk_by (N := ["rises_found", "other", "station", "train", "car"]) (sc := relS fiScope (defScope sFewestIn)) (scope := fiScope2) (own := [("car", 4)]) (by decide +kernel)) (g := gName 4) (by exact fun _ _ _ _ _ => pg_name (i := 4) nd rfl (.inl rfl)) (fun _ _ _ _ _ => pts_nil) (fun _ _ _ _ _ => pe_ix (ix_listK K) (pv 0) (pv 4) (fun _ _ => rfl))) pa_nil))) pa_nil))), .inl ?_⟩
  have hl8 : U.length ≤ 8 := by rw [G.len]; exact Y.k8
  have hn7 : U.flatten.length ≤ 7 := by rw [G.cars]; exact Y.n7
  have htl : (trL U).length ≤ 8 := by
    unfold trL
    refine Nat.le_trans (List.length_filter_le _ _) ?_
    rw [List.length_zipIdx]; exact hl8
  have hin : ∀ p ∈ trL U, Eg (tCB (rMax K) (tCons (tLc (iTup K (tVar 3)) (gName 4) tYes (tOp (rIxL K) (tVar 0) (tVar 4)) [4]) tNil)) [some (.list (l.map Dat.int)), some (stD U), some (.int (p.2 : Nat)), some (.fz p.1), none] (.int (maxI (p.1.map fun c => gI l c))) := fun p hp => by
    obtain ⟨hpS, hpn⟩ := trL_mem hp
    have hcar : ∀ c ∈ p.1, atI (l.map Dat.int) c = some (.int (gI l c)) := fun c hc => by
      have hrg := G.rng c (List.mem_flatten.mpr ⟨_, hpS, hc⟩)
      have hcn : ((c.toNat : Nat) : Int) = c := Int.toNat_of_nonneg hrg.1
      have hlt : c.toNat < l.length := by omega
      have h5 : atI (l.map Dat.int) ((c.toNat : Nat) : Int) = some (.int (gI l c)) := atI_nat (by
        rw [List.getElem?_map, List.getElem?_eq_getElem hlt]
        unfold gI
        rw [List.getD_eq_getElem?_getD, List.getElem?_eq_getElem hlt]; rfl)
      rw [hcn] at h5
      exact h5
    have hl7 : p.1.length ≤ 7 := by
      have : p.1.length ≤ U.flatten.length := (List.sublist_flatten_of_mem hpS).length_le
      omega
    have elc := eg_lcA (te := tOp (rIxL K) (tVar 0) (tVar 4)) (wi := iTup K (tVar 3)) (g := gName 4) (vs := [4]) (js := [4]) (Γ := [some (.list (l.map Dat.int)), some (stD U), some (.int (p.2 : Nat)), some (.fz p.1), none]) p.1 Dat.int (fun c => .int (gI l c))
      (fun c => [some (.list (l.map Dat.int)), some (stD U), some (.int (p.2 : Nat)), some (.fz p.1), some (.int c)]) (by simp) (ig_tup (eg_var (i := 3) rfl) rfl) (fun c _ => gg_name 4) (fun c hc => eg_op (eg_var (i := 0) rfl) (eg_var (i := 4) rfl) (rg_ixL (hcar c hc))) (by omega)
    have em : (p.1.map fun c => Dat.int (gI l c)) = (p.1.map fun c => gI l c).map Dat.int := by rw [List.map_map]; rfl
    rw [em] at elc
    exact eg_cb (ag_cons elc ag_nil) (cg_max (maxI_mem (fun z => hpn (List.map_eq_nil_iff.mp z))) maxI_le)
  have hout := eg_lcA (te := tCB (rMax K) (tCons (tLc (iTup K (tVar 3)) (gName 4) tYes (tOp (rIxL K) (tVar 0) (tVar 4)) [4]) tNil)) (wi := iList K (tCall (spG FTrainsIn) [] E0 (tCons (tVar 1) tNil))) (g := gTup K 2 (gCons (gName 2) (gCons (gName 3) gNil))) (vs := [2, 3]) (js := [2, 3]) (Γ := [some (.list (l.map Dat.int)), some (stD U), none, none, none]) (trL U) (fun p => .tup [.int (p.2 : Nat), .fz p.1]) (fun p => .int (maxI (p.1.map fun c => gI l c)))
    (fun p => [some (.list (l.map Dat.int)), some (stD U), some (.int (p.2 : Nat)), some (.fz p.1), none]) (by simp) (ig_list (eg_call (ag_cons (eg_var rfl) ag_nil) ⟨U, rfl, hl8, rfl⟩)) (fun p _ => gg_tup rfl (ggs_cons (gg_name 2) (ggs_cons (gg_name 3) ggs_nil))) hin (by omega)
  have em : ((trL U).map fun p => Dat.int (maxI (p.1.map fun c => gI l c))) = ((trL U).map fun p => maxI (p.1.map fun c => gI l c)).map Dat.int := by rw [List.map_map]; rfl
  rw [em] at hout
  exact rg_ret (eg_cb (ag_cons hout ag_nil) cg_sum)
theorem rises_len {n k : Nat} {S T : Tr.St} (G : Good n k S) (G' : Good n k T) {l : List Int} (h : risesM S T = some l) : l.length = n := by
  unfold risesM at h
  split at h
  · cases h
  · split at h
    · cases h
    · cases h
      exact foundM_len G G' _
theorem ron_len {n k : Nat} {S T : Tr.St} (G : Good n k S) (G' : Good n k T) {l : List Int} (h : ronM S T = some l) : l.length = n := by
  unfold ronM at h
  split at h
  · cases h
  · exact rises_len G G' h
def FFewestCalls (ds : List Dat) (d : Dat) : Prop := ∃ (n k : Nat) (S T : Tr.St) (l : List Int), ds = [yardD n k, stD S, stD T] ∧ Yd n k ∧ Good n k S ∧ Good n k T ∧ ronM S T = some l ∧ d = .int (fewM l T)
theorem sc_fewest_calls : FnScope ["yard", "one", "other"] ["yard", "one", "other"] (defScope sFewestCalls) := ⟨rfl, rfl, rfl, by decide +kernel, rfl, by decide +kernel, by decide +kernel⟩
theorem ok_fewest_calls (F : Fun K "fewest_calls" "fewest_calls" sFewestCalls f fd) (c1 : Cal P w K mg base "fewest_in" 2 ["rises_found", "other"] FFewestIn) (c2 : Cal P w K mg base "need_rises_reach" 5 ["yard", "one", "other"] (FNeed ronM)) : FnOk P w K mg base CX0 6 f fd ["yard", "one", "other"] (spG FFewestCalls) := by
  refine fnG F sc_fewest_calls (fun ds r h => by obtain ⟨n, k, S, U, l, rfl, _⟩ := h; rfl) fun cdv A outer s H E hr ds r h => ?_
  obtain ⟨n, k, S, U, l, rfl, Y, G, G', hl, rfl⟩ := h
  refine ⟨_, pss_one (ps_ret (pe_cal c1 (hr.mono (by decide)) (by rfl) (pa_cons (pe_cal c2 hr (by rfl) (pa_cons (pv 0) (pa_cons (pv 1) (pa_cons (pv 2) pa_nil)))) (pa_cons (pv 2) pa_nil)))), .inl ?_⟩
  exact rg_ret (eg_call (ag_cons (eg_call (ag_cons (eg_var rfl) (ag_cons (eg_var rfl) (ag_cons (eg_var rfl) ag_nil))) ⟨n, k, S, U, l, rfl, Y, G, G', hl, rfl⟩) (ag_cons (eg_var rfl) ag_nil)) ⟨n, k, l, U, rfl, Y, G', ron_len G G' hl, rfl⟩)
def FFewestGroups (ds : List Dat) (d : Dat) : Prop := ∃ (n k : Nat) (S T : Tr.St) (l : List Int), ds = [yardD n k, stD S, stD T] ∧ Yd n k ∧ Good n k S ∧ Good n k T ∧ risesM S T = some l ∧ d = .int (maxI l)
theorem sc_fewest_groups : FnScope ["yard", "one", "other"] ["yard", "one", "other"] (defScope sFewestGroups) := ⟨rfl, rfl, rfl, by decide +kernel, rfl, by decide +kernel, by decide +kernel⟩
theorem ok_fewest_groups (F : Fun K "fewest_groups" "fewest_groups" sFewestGroups f fd) (T : Txt mg) (c2 : Cal P w K mg base "need_rises_groups" 5 ["yard", "one", "other"] (FNeed risesM)) : FnOk P w K mg base CX0 6 f fd ["yard", "one", "other"] (spG FFewestGroups) := by
  refine fnG F sc_fewest_groups (fun ds r h => by obtain ⟨n, k, S, U, l, rfl, _⟩ := h; rfl) fun cdv A outer s H E hr ds r h => ?_
  obtain ⟨n, k, S, U, l, rfl, Y, G, G', hl, rfl⟩ := h
  have hne : l ≠ [] := fun z => by
    have h1 := rises_len G G' hl
    rw [z] at h1
    have := Y.n1
    simp at h1; omega
  refine ⟨_, pss_one (ps_ret (pe_callB (cr_maxK K rfl) (by rfl) T.max (by decide +kernel) (pa_cons (pe_cal c2 hr (by rfl) (pa_cons (pv 0) (pa_cons (pv 1) (pa_cons (pv 2) pa_nil)))) pa_nil))), .inl ?_⟩
  exact rg_ret (eg_cb (ag_cons (eg_call (ag_cons (eg_var rfl) (ag_cons (eg_var rfl) (ag_cons (eg_var rfl) ag_nil))) ⟨n, k, S, U, l, rfl, Y, G, G', hl, rfl⟩) ag_nil) (cg_max (maxI_mem hne) maxI_le))
end
end Tr
/-! Defs 7: all_at_once, turned, count_reached, count_by_left. -/
namespace Tr
open PySem PySem.Spec PyProof.Rows L2 RT
def rotM (S : Tr.St) (m : Nat) : Tr.St := S.drop (S.length - m) ++ S.take (S.length - m)
def turnM (S : Tr.St) (m : Nat) : Tr.St := (List.range S.length).map fun i => trainAt S ((((i : Nat) : Int) - (m : Nat)) % (S.length : Nat)).toNat
def reachedM (k t : Nat) : Int := if t = k then (t : Int) * chF (k + t - 1) t - k + 1 else (t : Int) * chF (k + t - 1) t
def leftM (k : Nat) : List Int := (List.range k).map fun i => (1 + (i : Nat) : Int) * chF k (1 + i) * chF k (1 + i)
def byLeftM (k : Nat) : List Int := (leftM k).set (k - 1) 1
section
variable {P : Program} {w : World} {K : PySem.W.Frag} {mg : Str → Option Value} {base : Heap} {f : Addr} {fd : FuncData}
abbrev sAllAtOnce : Stmt := top 37
abbrev sTurned : Stmt := top 39
abbrev sCountReached : Stmt := top 41
abbrev sCountByLeft : Stmt := top 42
def FAllAtOnce (ds : List Dat) (d : Dat) : Prop := ∃ (n k m : Nat) (S : Tr.St), ds = [yardD n k, stD S, .int (m : Nat)] ∧ Yd n k ∧ Good n k S ∧ 1 ≤ m ∧ m < k ∧ d = stD (rotM S m)
theorem sc_all_at_once : FnScope ["yard", "state", "many", "turn"] ["yard", "state", "many"] (defScope sAllAtOnce) := ⟨rfl, rfl, rfl, by decide +kernel, rfl, by decide +kernel, by decide +kernel⟩
theorem ok_all_at_once (F : Fun K "all_at_once" "all_at_once" sAllAtOnce f fd) (T : Txt mg) (c1 : Cal P w K mg base "need_state" 4 ["yard", "state"] FNeedState) (c2 : Cal P w K mg base "is_in" 2 ["value", "least", "most"] FIsIn) : FnOk P w K mg base CX0 5 f fd ["yard", "state", "many"] (spG FAllAtOnce) := by
  have nd := sc_all_at_once.nd
  refine fnG F sc_all_at_once (fun ds r h => by obtain ⟨n, k, m, S, rfl, _⟩ := h; rfl) fun cdv A outer s H E hr ds r h => ?_
  obtain ⟨n, k, m, S, rfl, Y, G, m1, mk, rfl⟩ := h
  refine ⟨_, pss_cons (ps_expr (pe_cal c1 hr (by rfl) (pa_cons (pv 0) (pa_cons (pv 1) pa_nil)))) (pss_cons (ps_if (pt_not (pt_val (pe_cal c2 (hr.mono (by decide)) (by rfl) (pa_cons (pv 2) (pa_cons pe_int (pa_cons pe_int pa_nil)))))) pss_never pss_nil)
    (pss_cons (ps_set (i := 3) nd rfl (.inl rfl) (pe_op op_mod (pv 2) (pe_ix ix_tup (pv 0) pe_int (fun _ _ => rfl))))
    (pss_one (ps_ret (pe_op op_catT (pe_slice sl_tup (pv 1) (po_some (pe_op op_sub (pe_callB call_len_seq (by rfl) T.len PySem.boot_len (pa_cons (pv 1) pa_nil)) (pv 3))) po_none) (pe_slice sl_tup (pv 1) po_none (po_some (pe_op op_sub (pe_callB call_len_seq (by rfl) T.len PySem.boot_len (pa_cons (pv 1) pa_nil)) (pv 3))))))))), .inl ?_⟩
  have hl := G.len
  have hk8 := Y.k8
  have e1 : ((m : Nat) : Int) % ((k : Nat) : Int) = ((m : Nat) : Int) := Int.emod_eq_of_lt (by omega) (by omega)
  have hlm : (S.map Dat.fz).length = k := by rw [List.length_map, hl]
  have e2 : (((S.map Dat.fz).length : Nat) : Int) - ((m : Nat) : Int) = ((k - m : Nat) : Int) := by rw [hlm]; omega
  have h1 : Tg (tNot (tB (tCall (spG FIsIn) [] E0 (tCons (tVar 2) (tCons (tC (.int 0)) (tCons (tC (.int 1000000)) tNil)))))) [some (yardD n k), some (stD S), some (.int (m : Nat)), none] false := tg_is (tg_not (tg_B (eg_call (ag_cons (eg_var rfl) (ag_cons eg_int (ag_cons eg_int ag_nil))) ⟨_, _, _, rfl, rfl⟩))) (by rw [decide_eq_true (by omega), decide_eq_true (by omega)]; rfl)
  refine rg_seq (rg_drop (eg_call (ag_cons (eg_var rfl) (ag_cons (eg_var rfl) ag_nil)) ⟨n, k, S, rfl, Y, G, rfl⟩)) (rg_seq (rg_ifF h1 rg_nx) (rg_seq (rg_set 3 (d := .int (m : Nat)) (eg_is (eg_op (eg_var (i := 2) rfl) (eg_op (eg_var (i := 0) rfl) eg_int (rg_ixT (i := 1) rfl rfl)) (rg_I (by omega) fun _ _ => .int _)) (by rw [e1]))) (rg_ret (eg_is (eg_op (eg_slT (eg_var (i := 1) rfl) (og_some (i := ((k - m : Nat) : Int)) (eg_is (eg_op (eg_cb (ag_cons (eg_var (i := 1) rfl) ag_nil) (cg_lenT (K := K) rfl)) (eg_var (i := 3) rfl) (rg_I0 fun _ _ => .int _)) (by rw [e2]))) og_none ?_) (eg_slT (eg_var (i := 1) rfl) og_none (og_some (i := ((k - m : Nat) : Int)) (eg_is (eg_op (eg_cb (ag_cons (eg_var (i := 1) rfl) ag_nil) (cg_lenT (K := K) rfl)) (eg_var (i := 3) rfl) (rg_I0 fun _ _ => .int _)) (by rw [e2]))) ?_) (rg_catT ?_ ?_ ?_)) ?_))))
  · rw [HT.sIx_nat, hlm]; intro z; omega
  · rw [HT.sIx_nat, hlm]; intro z; omega
  · rw [cutD_from _ _ (by omega)]
    intro z
    have := congrArg List.length z
    rw [List.length_drop, hlm] at this
    simp at this; omega
  · rw [cutD_to _ _ (by omega)]
    intro z
    have := congrArg List.length z
    rw [List.length_take, hlm] at this
    simp at this; omega
  · rw [cutD_from _ _ (by omega), cutD_to _ _ (by omega), List.length_take, List.length_drop, hlm]
    omega
  · rw [cutD_from _ _ (by omega), cutD_to _ _ (by omega)]
    unfold rotM
    rw [hl]
    show _ = Dat.tup (List.map Dat.fz _)
    rw [List.map_append, List.map_drop, List.map_take]

def FTurned (ds : List Dat) (d : Dat) : Prop := ∃ (n k m : Nat) (S : Tr.St), ds = [yardD n k, stD S, .int (m : Nat)] ∧ Yd n k ∧ Good n k S ∧ m ≤ 100 ∧ d = stD (turnM S m)
theorem sc_turned : FnScope ["yard", "state", "many", "station"] ["yard", "state", "many"] (defScope sTurned) := ⟨rfl, rfl, rfl, by decide +kernel, rfl, by decide +kernel, by decide +kernel⟩
theorem ok_turned (F : Fun K "turned" "turned" sTurned f fd) (T : Txt mg) (c1 : Cal P w K mg base "need_state" 4 ["yard", "state"] FNeedState) (c2 : Cal P w K mg base "is_in" 2 ["value", "least", "most"] FIsIn) : FnOk P w K mg base CX0 5 f fd ["yard", "state", "many"] (spG FTurned) := by
  have nd := sc_turned.nd
  refine fnG F sc_turned (fun ds r h => by obtain ⟨n, k, m, S, rfl, _⟩ := h; rfl) fun cdv A outer s H E hr ds r h => ?_
  obtain ⟨n, k, m, S, rfl, Y, G, m1, rfl⟩ := h
  refine ⟨_, pss_cons (ps_expr (pe_cal c1 hr (by rfl) (pa_cons (pv 0) (pa_cons (pv 1) pa_nil)))) (pss_cons (ps_if (pt_not (pt_val (pe_cal c2 (hr.mono (by decide)) (by rfl) (pa_cons (pv 2) (pa_cons (pe_un un_neg pe_int) (pa_cons pe_int pa_nil)))))) pss_never pss_nil)
    (pss_one (ps_ret (pe_callTy call_tuple_of (by rfl) T.tuple (by decide +kernel) (pa_cons (pe_lc (own := [("station", 3)]) rfl nd (pi_range1 (by rfl) T.range (pa_cons (pe_ix ix_tup (pv 0) pe_int (fun _ _ => rfl)) pa_nil)) (blkOk_by (N := ["yard", "state", "many", "station"]) (sc := defScope sTurned) (by decide +kernel))
      (fun _ _ _ _ _ => pg_name (i := 3) nd rfl (.inl rfl)) (fun _ _ _ _ _ => pts_nil) (fun _ _ _ _ _ => pe_ix (ix_tupK K) (pv 1) (pe_op op_mod (pe_op op_sub (pv 3) (pv 2)) (pe_ix (ix_tupK K) (pv 0) pe_int (fun _ _ => rfl))) (fun _ _ => rfl))) pa_nil))))), .inl ?_⟩
  have hl := G.len
  have hk8 := Y.k8
  have hk2 := Y.k2
  have h1 : Tg (tNot (tB (tCall (spG FIsIn) [] E0 (tCons (tVar 2) (tCons (tUn (rU fun i => .int (-i)) (tC (.int 100))) (tCons (tC (.int 100)) tNil)))))) [some (yardD n k), some (stD S), some (.int (m : Nat)), none] false := tg_is (tg_not (tg_B (eg_call (ag_cons (eg_var rfl) (ag_cons (eg_un eg_int ug_neg) (ag_cons eg_int ag_nil))) ⟨_, _, _, rfl, rfl⟩))) (by rw [decide_eq_true (by omega), decide_eq_true (by omega)]; rfl)
  have hat : ∀ i : Nat, atI (S.map Dat.fz) ((((i : Nat) : Int) - (m : Nat)) % (k : Nat)) = some (.fz (trainAt S ((((i : Nat) : Int) - (m : Nat)) % (k : Nat)).toNat)) := fun i => by
    have hk0 : (0 : Int) < (k : Nat) := by omega
    have h0 := Int.emod_nonneg (((i : Nat) : Int) - (m : Nat)) (Int.ne_of_gt hk0)
    have hlt := Int.emod_lt_of_pos (((i : Nat) : Int) - (m : Nat)) hk0
    generalize (((i : Nat) : Int) - (m : Nat)) % (k : Nat) = j at h0 hlt
    have hj : ((j.toNat : Nat) : Int) = j := Int.toNat_of_nonneg h0
    have hjl : j.toNat < S.length := by omega
    have h5 : atI (S.map Dat.fz) ((j.toNat : Nat) : Int) = some (.fz (trainAt S j.toNat)) := atI_nat (by
      rw [List.getElem?_map, List.getElem?_eq_getElem hjl]
      unfold trainAt
      rw [List.getD_eq_getElem?_getD, List.getElem?_eq_getElem hjl]; rfl)
    rw [hj] at h5
    exact h5
  have hlc := eg_lcA (te := tOp (rIxT K) (tVar 1) (tOp (rI (fun _ j => 0 < j) fun i j => .int (i % j)) (tOp (rI0 fun i j => .int (i - j)) (tVar 3) (tVar 2)) (tOp (rIxT K) (tVar 0) (tC (.int 1))))) (wi := iRng1 (tCons (tOp (rIxT K) (tVar 0) (tC (.int 1))) tNil)) (g := gName 3) (vs := [3]) (js := [3]) (Γ := [some (yardD n k), some (stD S), some (.int (m : Nat)), none]) (List.range k) (fun i => .int (i : Nat)) (fun i => .fz (trainAt S ((((i : Nat) : Int) - (m : Nat)) % (k : Nat)).toNat))
    (fun i => [some (yardD n k), some (stD S), some (.int (m : Nat)), some (.int (i : Nat))]) (by simp) (by
      have := ig_rng1 (Γ := [some (yardD n k), some (stD S), some (.int (m : Nat)), none]) (ta := tCons (tOp (rIxT K) (tVar 0) (tC (.int 1))) tNil) (n := (k : Nat)) (ag_cons (eg_op (eg_var (i := 0) rfl) eg_int (rg_ixT (i := 1) rfl rfl)) ag_nil) (by omega) (by omega)
      rw [Int.toNat_natCast] at this
      exact this) (fun i _ => gg_name 3) (fun i _ => eg_op (eg_var (i := 1) rfl) (eg_op (eg_op (eg_var (i := 3) rfl) (eg_var (i := 2) rfl) (rg_I0 fun _ _ => .int _)) (eg_op (eg_var (i := 0) rfl) eg_int (rg_ixT (i := 1) rfl rfl)) (rg_I (by omega) fun _ _ => .int _)) (rg_ixT rfl (hat i))) (by rw [List.length_range]; omega)
  refine rg_seq (rg_drop (eg_call (ag_cons (eg_var rfl) (ag_cons (eg_var rfl) ag_nil)) ⟨n, k, S, rfl, Y, G, rfl⟩)) (rg_seq (rg_ifF h1 rg_nx) (rg_ret (eg_is (eg_cb (ag_cons hlc ag_nil) cg_tupL) ?_)))
  unfold turnM
  rw [hl]
  show _ = Dat.tup (List.map Dat.fz _)
  rw [List.map_map]; rfl

def FCountReached (ds : List Dat) (d : Dat) : Prop := ∃ (n k : Nat) (S : Tr.St), ds = [yardD n k, stD S] ∧ Yd n k ∧ Good n k S ∧ d = .int (reachedM k (trL S).length)
theorem trL_len {n k : Nat} {S : Tr.St} (G : Good n k S) : (trL S).length ≤ k := by
  unfold trL
  refine Nat.le_trans (List.length_filter_le _ _) ?_
  rw [List.length_zipIdx, G.len]; exact Nat.le_refl _
theorem eg_nTr {Γ : Gam} {i : Nat} {n k : Nat} {S : Tr.St} (Y : Yd n k) (G : Good n k S) (h : Γ[i]? = some (some (stD S))) : Eg (tCB (rLenS K) (tCons (tCall (spG FTrainsIn) [] E0 (tCons (tVar i) tNil)) tNil)) Γ (.int ((trL S).length : Nat)) := by
  have := eg_cb (ag_cons (eg_call (E := E0) (F := FTrainsIn) (ag_cons (eg_var h) ag_nil) ⟨S, rfl, by rw [G.len]; exact Y.k8, rfl⟩) ag_nil) (cg_lenL (K := K))
  rw [List.length_map] at this
  exact this
theorem sc_count_reached : FnScope ["yard", "state", "many", "stations", "whole"] ["yard", "state"] (defScope sCountReached) := ⟨rfl, rfl, rfl, by decide +kernel, rfl, by decide +kernel, by decide +kernel⟩
theorem ok_count_reached (F : Fun K "count_reached" "count_reached" sCountReached f fd) (T : Txt mg) (c1 : Cal P w K mg base "need_state" 4 ["yard", "state"] FNeedState) (c2 : Cal P w K mg base "trains_in" 1 ["state"] FTrainsIn) (c3 : Cal P w K mg base "choose" 1 ["many", "some"] FChoose) : FnOk P w K mg base CX0 5 f fd ["yard", "state"] (spG FCountReached) := by
  have nd := sc_count_reached.nd
  refine fnG F sc_count_reached (fun ds r h => by obtain ⟨n, k, S, rfl, _⟩ := h; rfl) fun cdv A outer s H E hr ds r h => ?_
  obtain ⟨n, k, S, rfl, Y, G, rfl⟩ := h
  have hr1 : Room 1 _ := hr.mono (by decide)
  refine ⟨_, pss_cons (ps_expr (pe_cal c1 hr (by rfl) (pa_cons (pv 0) (pa_cons (pv 1) pa_nil))))
    (pss_cons (ps_par (i := 2) (j := 3) (by rfl) nd rfl rfl (by decide) rfl rfl (pa_cons (pe_callB call_len_seq (by rfl) T.len PySem.boot_len (pa_cons (pe_cal c2 hr1 (by rfl) (pa_cons (pv 1) pa_nil)) pa_nil)) (pa_cons (pe_ix ix_tup (pv 0) pe_int (fun _ _ => rfl)) pa_nil)) (by rfl))
    (pss_cons (ps_set (i := 4) nd rfl (.inl rfl) (pe_op op_mul (pv 2) (pe_cal c3 hr1 (by rfl) (pa_cons (pe_op op_sub (pe_op op_add (pv 3) (pv 2)) pe_int) (pa_cons (pv 2) pa_nil)))))
    (pss_one (ps_ret (pe_ifExp (pt_cmpR op_eq (pv 2) (pv 3) (nomark _)) (pe_op op_add (pe_op op_sub (pv 4) (pv 3)) pe_int) (pv 4)))))), .inl ?_⟩
  have htl := trL_len G
  have hk8 := Y.k8
  have hk2 := Y.k2
  refine rg_seq (rg_drop (eg_call (ag_cons (eg_var rfl) (ag_cons (eg_var rfl) ag_nil)) ⟨n, k, S, rfl, Y, G, rfl⟩)) (rg_seq (rg_par (ag_cons (eg_nTr Y G (i := 1) rfl) (ag_cons (eg_op (eg_var (i := 0) rfl) eg_int (rg_ixT (i := 1) rfl rfl)) ag_nil))) ?_)
  generalize (trL S).length = t at htl ⊢
  have e1 : ((k : Nat) : Int) + ((t : Nat) : Int) - 1 = ((k + t - 1 : Nat) : Int) := by omega
  refine rg_seq (rg_set 4 (eg_op (eg_var (i := 2) rfl) (eg_call (ag_cons (eg_is (eg_op (eg_op (eg_var (i := 3) rfl) (eg_var (i := 2) rfl) (rg_I0 fun _ _ => .int _)) eg_int (rg_I0 fun _ _ => .int _)) (by rw [e1])) (ag_cons (eg_var (i := 2) rfl) ag_nil)) ⟨k + t - 1, t, rfl, by omega, by omega, rfl⟩) (rg_I (.inl ⟨by omega, by omega⟩) fun _ _ => .int _))) (rg_ret (eg_if (tg_test (eg_op (eg_var (i := 2) rfl) (eg_var (i := 3) rfl) rg_eqI)) (fun hb => ?_) (fun hb => ?_)))
  · have htk : t = k := by have := of_decide_eq_true hb; omega
    have e : reachedM k t = (t : Int) * chF (k + t - 1) t - k + 1 := by unfold reachedM; rw [if_pos htk]
    rw [e]
    exact eg_op (eg_op (eg_var (i := 4) rfl) (eg_var (i := 3) rfl) (rg_I0 fun _ _ => .int _)) eg_int (rg_I0 fun _ _ => .int _)
  · have htk : ¬ t = k := fun z => by have := of_decide_eq_false hb; rw [z] at this; exact this rfl
    have e : reachedM k t = (t : Int) * chF (k + t - 1) t := by unfold reachedM; rw [if_neg htk]
    rw [e]
    exact eg_var (i := 4) rfl
def FCountByLeft (ds : List Dat) (d : Dat) : Prop := ∃ (n k : Nat) (S : Tr.St), ds = [yardD n k, stD S] ∧ Yd n k ∧ Good n k S ∧ (trL S).length = k ∧ d = .tup ((byLeftM k).map Dat.int)
theorem chB : ∀ m : Fin 9, ∀ s : Fin 9, 0 ≤ chF m.val s.val ∧ chF m.val s.val ≤ 100 := by decide +kernel
theorem sc_count_by_left : FnScope ["yard", "state", "many", "stations", "found", "left"] ["yard", "state"] (defScope sCountByLeft) := ⟨rfl, rfl, rfl, by decide +kernel, rfl, by decide +kernel, by decide +kernel⟩
theorem ok_count_by_left (F : Fun K "count_by_left" "count_by_left" sCountByLeft f fd) (T : Txt mg) (c1 : Cal P w K mg base "need_state" 4 ["yard", "state"] FNeedState) (c2 : Cal P w K mg base "trains_in" 1 ["state"] FTrainsIn) (c3 : Cal P w K mg base "choose" 1 ["many", "some"] FChoose) : FnOk P w K mg base CX0 5 f fd ["yard", "state"] (spG FCountByLeft) := by
  have nd := sc_count_by_left.nd
  refine fnG F sc_count_by_left (fun ds r h => by obtain ⟨n, k, S, rfl, _⟩ := h; rfl) fun cdv A outer s H E hr ds r h => ?_
  obtain ⟨n, k, S, rfl, Y, G, htl, rfl⟩ := h
  have hr1 : Room 1 _ := hr.mono (by decide)
  refine ⟨_, pss_cons (ps_expr (pe_cal c1 hr (by rfl) (pa_cons (pv 0) (pa_cons (pv 1) pa_nil))))
    (pss_cons (ps_asg (pe_tup (pa_cons (pe_callB call_len_seq (by rfl) T.len PySem.boot_len (pa_cons (pe_cal c2 hr1 (by rfl) (pa_cons (pv 1) pa_nil)) pa_nil)) (pa_cons (pe_ix ix_tup (pv 0) pe_int (fun _ _ => rfl)) pa_nil))) (pg_tupK K 2 rfl (pgs_cons (pg_name (i := 2) nd rfl (.inr rfl)) (pgs_cons (pg_name (i := 3) nd rfl (.inr rfl)) pgs_nil))))
    (pss_cons (ps_setLc (i := 4) (own := [("left", 5)]) rfl nd rfl rfl (sw_true rfl rfl rfl (by decide +kernel)) (pi_range2 (by rfl) T.range (pa_cons pe_int (pa_cons (pe_op op_add (pv 2) pe_int) pa_nil))) (blkOk_by (N := ["yard", "state", "many", "stations", "found", "left"]) (sc := defScope sCountByLeft) (by decide +kernel))
      (fun _ _ _ _ _ => pg_name (i := 5) nd rfl (.inl rfl)) (fun _ _ _ _ _ => pts_nil) (fun _ _ _ _ _ => pe_op op_mul (pe_op op_mul (pv 5) (pe_cal c3 hr1 (by rfl) (pa_cons (pv 2) (pa_cons (pv 5) pa_nil)))) (pe_cal c3 hr1 (by rfl) (pa_cons (pv 3) (pa_cons (pv 5) pa_nil)))))
    (pss_cons (ps_if (pt_cmpR op_eq (pv 2) (pv 3) (nomark _)) (pss_one (ps_asg pe_int (pg_sub (pv 4) (pe_un un_neg pe_int) set_list))) pss_nil)
    (pss_one (ps_ret (pe_callTy call_tuple_of (by rfl) T.tuple (by decide +kernel) (pa_cons (pv 4) pa_nil))))))), .inl ?_⟩
  have hk8 := Y.k8
  have hk2 := Y.k2
  refine rg_seq (rg_drop (eg_call (ag_cons (eg_var rfl) (ag_cons (eg_var rfl) ag_nil)) ⟨n, k, S, rfl, Y, G, rfl⟩)) (rg_seq (rg_asg (eg_tup (ag_cons (eg_nTr (K := K) Y G (i := 1) rfl) (ag_cons (eg_op (eg_var (i := 0) rfl) eg_int (rg_ixT (i := 1) rfl rfl)) ag_nil)) (by simp)) (gg_tup rfl (ggs_cons (gg_name 2) (ggs_cons (gg_name 3) ggs_nil)))) ?_)
  rw [htl]
  have hIG : IG (iRng2 (tCons (tC (.int 1)) (tCons (tOp (rI0 fun i j => .int (i + j)) (tVar 2) (tC (.int 1))) tNil))) [some (yardD n k), some (stD S), some (.int (k : Nat)), some (.int (k : Nat)), none, none] ((List.range k).map fun i => Dat.int ((1 + i : Nat) : Int)) := by
    have h1 := ig_rng2 (Γ := [some (yardD n k), some (stD S), some (.int (k : Nat)), some (.int (k : Nat)), none, none]) (lo := 1) (n := (k : Nat) + 1) (ta := tCons (tC (.int 1)) (tCons (tOp (rI0 fun i j => .int (i + j)) (tVar 2) (tC (.int 1))) tNil)) (ag_cons eg_int (ag_cons (eg_op (eg_var (i := 2) rfl) eg_int (rg_I0 fun _ _ => .int _)) ag_nil)) (by omega) (by omega)
    have e1 : (((k : Nat) : Int) + 1 - 1).toNat = k := by omega
    rw [e1] at h1
    have e2 : ((List.range k).map fun i => Dat.int (1 + (i : Nat))) = (List.range k).map fun i => Dat.int ((1 + i : Nat) : Int) := List.map_congr_left fun i _ => by congr 1
    rw [e2] at h1
    exact h1
  intro B D σ H kk s wsh
  refine seq_raw (asg_raw ?_)
  refine egn_lcA (List.range k) (fun i => Dat.int ((1 + i : Nat) : Int)) (fun i => .int ((1 + (i : Nat) : Int) * chF k (1 + i) * chF k (1 + i))) (fun i => [some (yardD n k), some (stD S), some (.int (k : Nat)), some (.int (k : Nat)), none, some (.int ((1 + i : Nat) : Int))]) (js := [5]) (by simp) hIG (fun i _ => gg_name 5) (fun i hi => ?_) (by rw [List.length_range]; omega) B σ H kk s _ fun p xs H2 hp e2 hx hd => ?_
  · have hik : i < k := List.mem_range.mp hi
    have hb := chB ⟨k, by omega⟩ ⟨1 + i, by omega⟩
    have e1 : (1 + (i : Nat) : Int) = ((1 + i : Nat) : Int) := by omega
    have hb1 : 0 ≤ chF k (1 + i) := hb.1
    have hb2 : chF k (1 + i) ≤ 100 := hb.2
    rw [e1]
    refine eg_op (eg_op (eg_var (i := 5) rfl) (eg_call (ag_cons (eg_var (i := 2) rfl) (ag_cons (eg_var (i := 5) rfl) ag_nil)) ⟨k, 1 + i, rfl, by omega, by omega, rfl⟩) (rg_I (.inl ⟨by omega, by omega⟩) fun _ _ => .int _)) (eg_call (ag_cons (eg_var (i := 3) rfl) (ag_cons (eg_var (i := 5) rfl) ag_nil)) ⟨k, 1 + i, rfl, by omega, by omega, rfl⟩) (rg_I (.inr ⟨by omega, by omega⟩) fun _ _ => .int _)
  · have em : ((List.range k).map fun i => Dat.int ((1 + (i : Nat) : Int) * chF k (1 + i) * chF k (1 + i))) = (leftM k).map Dat.int := by unfold leftM; rw [List.map_map]; rfl
    rw [em] at hd
    have hxs := ints_das _ hd
    subst hxs
    have kB : Ok (Bp B p) H2 := fun b hb => hb.elim (fun z => (kk.same e2) b z) fun z => by rw [z, hx]; exact fun q => nomatch q
    have sB : Sd (Bp B p) (σ.set 4 (some (.ref p))) H2 [some (yardD n k), some (stD S), some (.int (k : Nat)), some (.int (k : Nat)), some (.raw (.ref p)), none] := (s.le ⟨fun b hb => hb.elim .inl fun z => .inr (z ▸ hp), fun b hb => .inl hb, fun a o _ h => e2 a o h⟩).set 4 (.raw _)
    show tSeq _ _ D (σ.set 4 (some (.ref p))) H2
    refine seq_raw ?_
    refine (tg_is (tg_test (eg_op (eg_var (i := 2) rfl) (eg_var (i := 3) rfl) rg_eqI)) (decide_eq_true rfl) : Tg _ _ true) (Bp B p) _ H2 kB sB _ fun H3 e3 => iteT ?_
    obtain ⟨v, e4, r4⟩ := sB.at_ 4 _ rfl
    cases r4
    have hlen : ((leftM k).map V.int).length = k := by unfold leftM; simp
    refine ⟨_, e4, 1, rfl, p, _, -1, k - 1, rfl, rfl, e3 _ _ hx, ?_, ?_⟩
    · unfold ixN
      rw [hlen, if_neg (by omega), if_pos (by omega)]
      congr 1
      omega
    · refine ⟨_, e4, p, _, rfl, .inl ⟨SqL.of upd_same, fun l hl => ?_⟩⟩
      have hpl : p ≠ l := fun z => by rw [← z, upd_same] at hl; cases hl
      refine wsh _ _ (fun a o ha => ?_) (.tup ?_ upd_same ?_)
      · have h2 := e2 _ _ ha
        have hap : a ≠ p := ne_of_none ha hp
        have h3 : upd H3 p (.lst (((leftM k).map V.int).set (k - 1) (V.int 1))) a = some o := by rw [upd_ne hap]; exact e3 _ _ h2
        exact same_new hl _ _ h3
      · intro z
        have h1 := ((kk.same e2).same e3) l z
        rw [upd_ne (Ne.symm hpl)] at hl
        exact h1 hl
      · have : ((leftM k).map V.int).set (k - 1) (V.int 1) = (byLeftM k).map V.int := by unfold byLeftM; rw [List.map_set]
        rw [this]
        exact das_ints _
end
end Tr
/-! Defs 8: _law_taken, _law_move. -/
namespace Tr
open PySem PySem.Spec PyProof.Rows L2 RT
/-! ### plain values, the heap as it is -/
def Vl (te : TE) (σ : L2.St) (H : Hp) (v : V) : Prop := ∀ Q : VK, Q v H → te σ H Q
def VlA (ta : TA) (σ : L2.St) (H : Hp) (vs : List V) : Prop := ∀ Q : List V → Hp → Prop, Q vs H → ta σ H Q
section
variable {σ : L2.St} {H : Hp} {ta tb te to ti : TE} {x y z v : V} {K : PySem.W.Frag} {D : Ends} {t u : TS}
theorem vl_var {i : Nat} (h : σ[i]? = some (some v)) : Vl (tVar i) σ H v := fun Q q => ⟨v, h, q⟩
theorem vl_c : Vl (tC v) σ H v := fun Q q => q
theorem vl_op {r : R2} (ha : Vl ta σ H x) (hb : Vl tb σ H y) (hr : ∀ Q : VK, Q z H → r x y H Q) : Vl (tOp r ta tb) σ H z := fun Q q => ha _ (hb _ (hr Q q))
theorem vl_I0 {g : Int → Int → V} {i j : Int} (ha : Vl ta σ H (.int i)) (hb : Vl tb σ H (.int j)) : Vl (tOp (rI0 g) ta tb) σ H (g i j) := vl_op ha hb fun Q q => ⟨i, j, rfl, rfl, q⟩
theorem vl_I {C : Int → Int → Prop} {g : Int → Int → V} {i j : Int} (ha : Vl ta σ H (.int i)) (hb : Vl tb σ H (.int j)) (hc : C i j) : Vl (tOp (rI C g) ta tb) σ H (g i j) := vl_op ha hb fun Q q => ⟨i, j, rfl, rfl, hc, q⟩
theorem vl_ixL {p : Addr} {xs : List V} {i : Int} (ha : Vl ta σ H (.ref p)) (hb : Vl tb σ H (.int i)) (hp : SqL K H p xs) (hi : atI xs i = some v) : Vl (tOp (rIxL K) ta tb) σ H v := vl_op ha hb fun Q q => ⟨p, xs, i, v, rfl, rfl, hp, hi, q⟩
theorem vla_nil : VlA tNil σ H [] := fun Q q => q
theorem vla_cons {tr : TA} {vs : List V} (h : Vl te σ H v) (hr : VlA tr σ H vs) : VlA (tCons te tr) σ H (v :: vs) := fun Q q => h _ (hr _ q)
theorem vl_cb {r : List V → Hp → VK → Prop} {tr : TA} {vs : List V} (h : VlA tr σ H vs) (hr : ∀ Q : VK, Q v H → r vs H Q) : Vl (tCB r tr) σ H v := fun Q q => h _ (hr Q q)
theorem vl_int {i : Int} (h : Vl te σ H (.int i)) : Vl (tCB (fun xs H Q => (∃ i, xs = [V.int i] ∧ Q (.int i) H) ∨ ∃ k, xs = [V.bl k] ∧ Q (.int (if k then 1 else 0)) H) (tCons te tNil)) σ H (.int i) := vl_cb (vla_cons h vla_nil) fun Q q => .inl ⟨i, rfl, q⟩
theorem vl_is (h : Vl te σ H v) (e : v = x) : Vl te σ H x := e ▸ h
theorem s_set {i : Nat} (h : Vl te σ H v) (k : D.nx (σ.set i (some v)) H) : tAsg te (gName i) D σ H := h _ k
theorem s_store {p : Addr} {xs : List V} {i : Int} {j : Nat} (h : Vl te σ H v) (ho : Vl to σ H (.ref p)) (hi : Vl ti σ H (.int i)) (hp : H p = some (.lst xs)) (hj : ixN xs.length i = some j) (k : D.nx σ (upd H p (.lst (xs.set j v)))) : tAsg te (gSub to ti rSetL) D σ H :=
  h _ (ho _ (hi _ ⟨p, xs, i, j, rfl, rfl, hp, hj, k⟩))
/-- .. once more at the same object -/
theorem s_storeU {p : Addr} {o : HO} {xs : List V} {i : Int} {j : Nat} (ho' : o = .lst xs) (h : Vl te σ (upd H p o) v) (ho : Vl to σ (upd H p o) (.ref p)) (hi : Vl ti σ (upd H p o) (.int i)) (hj : ixN xs.length i = some j) (k : D.nx σ (upd H p (.lst (xs.set j v)))) : tAsg te (gSub to ti rSetL) D σ (upd H p o) :=
  s_store h ho hi (by rw [upd_same, ho']) hj (by rw [upd_upd]; exact k)
theorem s_ret (h : Vl te σ H v) (k : D.rt v H) : tRet te D σ H := h _ k
theorem s_if {b : Bool} (h : Vl te σ H (.bl b)) (h1 : b = true → t D σ H) (h2 : b = false → u D σ H) : tIfS (tTest te) t u D σ H := h _ ⟨b, rfl, by
  cases b with
  | true => exact iteT (h1 rfl)
  | false => exact iteF (h2 rfl)⟩
end
/-! ### the row of draws -/
structure RowAt (H : Hp) (r sc : Addr) (i x y : Int) : Prop where
  at_ : H r = some (.lst [.ref sc, .int i, .int x, .int y])
  i0 : 0 ≤ i
  x0 : 0 ≤ x
  x1 : x < 2147483648
def rowV (sc : Addr) (i x y : Int) : HO := .lst [.ref sc, .int i, .int x, .int y]
section
variable {P : Program} {w : World} {K : PySem.W.Frag} {mg : Str → Option Value} {base : Heap} {f : Addr} {fd : FuncData}
abbrev sLawTaken : Stmt := top 44
abbrev sLawMove : Stmt := top 45
def spTaken (K : PySem.W.Frag) : Sp := fun vs H Q _ => ∃ (H0 : Hp) (r sc : Addr) (ns : List Int) (i x y m : Int), vs = [.ref r, .int m] ∧ 0 < m ∧ m ≤ 8 ∧ RowAt H r sc i x y ∧ SqL K H0 sc (ns.map V.int) ∧ Same H0 H ∧ H0 r = none ∧
  ∀ v i' x' y' : Int, 0 ≤ v → v < m → 0 ≤ i' → 0 ≤ x' → x' < 2147483648 → Q (.int v) (upd H r (rowV sc i' x' y'))
theorem sc_law_taken : FnScope ["_law_row", "_law_many", "_law_found", "_law_cell"] ["_law_row", "_law_many"] (defScope sLawTaken) := ⟨rfl, rfl, rfl, by decide +kernel, rfl, by decide +kernel, by decide +kernel⟩
theorem same_upd0 {H0 H : Hp} {r : Addr} {o : HO} (s : Same H0 H) (h : H0 r = none) : Same H0 (upd H r o) := fun a u e => by
  rw [upd_ne (ne_of_none e h)]; exact s _ _ e
theorem ok_law_taken (F : Fun K "_law_taken" "_law_taken" sLawTaken f fd) (T : Txt mg) : FnOk P w K mg base CX0 1 f fd ["_law_row", "_law_many"] (spTaken K) := by
  have nd := sc_law_taken.nd
  refine F.ok sc_law_taken (fun vs H Q E h => ?_) (fun cdv A outer s H vs Q E hr h => ?_)
  · obtain ⟨H0, r, sc, ns, i, x, y, m, rfl, _⟩ := h
    rfl
  · obtain ⟨H0, r, sc, ns, i, x, y, m, rfl, m0, m8, R, hS, s0, hr0, q⟩ := h
    refine ⟨_, pss_cons (ps_if (pt_cmpR op_gt (pe_ix ix_list (pv 0) pe_int (fun _ _ => rfl)) pe_int (nomark _))
        (pss_cons (ps_set (i := 2) nd rfl (.inl rfl) (pe_op op_mod (pe_callTy call_int1 (by rfl) T.int (by decide +kernel) (pa_cons (pe_ix ix_list (pv 0) pe_int (fun _ _ => rfl)) pa_nil)) (pv 1)))
        (pss_cons (ps_asg (pe_op op_fdiv (pe_ix ix_list (pv 0) pe_int (fun _ _ => rfl)) (pv 1)) (pg_sub (pv 0) pe_int set_list)) (pss_one (ps_ret (pv 2))))) pss_nil)
      (pss_cons (ps_asg (pe_op op_add (pe_ix ix_list (pv 0) pe_int (fun _ _ => rfl)) pe_int) (pg_sub (pv 0) pe_int set_list))
      (pss_cons (ps_if (pt_cmpR op_gt (pe_ix ix_list (pv 0) pe_int (fun _ _ => rfl)) (pe_callB call_len_seq (by rfl) T.len PySem.boot_len (pa_cons (pe_ix ix_list (pv 0) pe_int (fun _ _ => rfl)) pa_nil)) (nomark _))
        (pss_cons (ps_asg (pe_op op_mod (pe_callTy call_int1 (by rfl) T.int (by decide +kernel) (pa_cons (pe_op op_add (pe_op op_mul (pe_ix ix_list (pv 0) pe_int (fun _ _ => rfl)) pe_int) pe_int) pa_nil)) pe_int) (pg_sub (pv 0) pe_int set_list))
        (pss_one (ps_ret (pe_op op_mod (pe_callTy call_int1 (by rfl) T.int (by decide +kernel) (pa_cons (pe_op op_fdiv (pe_ix ix_list (pv 0) pe_int (fun _ _ => rfl)) pe_int) pa_nil)) (pv 1))))) pss_nil)
      (pss_cons (ps_set (i := 3) nd rfl (.inl rfl) (pe_ix ix_list (pe_ix ix_list (pv 0) pe_int (fun _ _ => rfl)) (pe_op op_sub (pe_ix ix_list (pv 0) pe_int (fun _ _ => rfl)) pe_int) (fun _ _ => rfl)))
      (pss_cons (ps_asg (pe_op op_mod (pe_callTy call_int1 (by rfl) T.int (by decide +kernel) (pa_cons (pe_op op_add (pe_op op_add (pe_op op_mul (pe_ix ix_list (pv 0) pe_int (fun _ _ => rfl)) pe_int) (pv 3)) pe_int) pa_nil)) pe_int) (pg_sub (pv 0) pe_int set_list))
      (pss_cons (ps_if (pt_cmpR op_ge (pv 3) (pe_op op_pow pe_int pe_int) (nomark _)) (pss_one (ps_asg (pe_op op_fdiv (pv 3) (pv 1)) (pg_sub (pv 0) pe_int set_list))) pss_nil)
      (pss_one (ps_ret (pe_op op_mod (pe_callTy call_int1 (by rfl) T.int (by decide +kernel) (pa_cons (pv 3) pa_nil)) (pv 1))))))))), ?_⟩
    have hm : (0 : Int) < m ∧ m < 1073741824 := ⟨m0, by omega⟩
    have rd : ∀ (σ : L2.St) (H' : Hp) (i' x' y' : Int) (j : Nat) (v : V), σ[0]? = some (some (.ref r)) → H' r = some (rowV sc i' x' y') → [V.ref sc, V.int i', V.int x', V.int y'][j]? = some v → Vl (tOp (rIxL K) (tVar 0) (tC (.int (j : Nat)))) σ H' v := fun σ H' i' x' y' j v h0 h1 h2 => vl_ixL (vl_var h0) vl_c (SqL.of h1) (atI_nat h2)
    refine seq_raw (s_if (vl_I0 (rd _ _ i x y 3 _ rfl R.at_ rfl) vl_c) (fun hy => ?_) (fun hy => ?_))
    · refine seq_raw (s_set (vl_I (vl_int (rd _ _ i x y 3 _ rfl R.at_ rfl)) (vl_var rfl) m0) ?_)
      refine seq_raw (s_store (p := r) (j := 3) (vl_I (rd _ _ i x y 3 _ rfl R.at_ rfl) (vl_var rfl) hm) (vl_var rfl) vl_c R.at_ rfl ?_)
      refine s_ret (vl_var rfl) ?_
      exact q _ i x _ (Int.emod_nonneg _ (by omega)) (Int.emod_lt_of_pos _ m0) R.i0 R.x0 R.x1
    · refine seq_raw (s_store (p := r) (j := 1) (vl_I0 (rd _ _ i x y 1 _ rfl R.at_ rfl) vl_c) (vl_var rfl) vl_c R.at_ rfl ?_)
      have a1 : upd H r (rowV sc (i + 1) x y) r = some (rowV sc (i + 1) x y) := upd_same
      have c1 : SqL K (upd H r (rowV sc (i + 1) x y)) sc (ns.map V.int) := (same_upd0 s0 hr0).seq hS
      have hx := R.x0
      have hx1 := R.x1
      have hi := R.i0
      have hM : CMul x 48271 := .inl ⟨by omega, by omega⟩
      dsimp only
      refine seq_raw (s_if (vl_I0 (rd _ _ (i + 1) x y 1 _ rfl a1 rfl) (vl_cb (v := .int ((ns.map V.int).length : Nat)) (vla_cons (rd _ _ (i + 1) x y 0 _ rfl a1 rfl) vla_nil) fun Q q => ⟨sc, _, rfl, .inl c1, q⟩)) (fun hy => ?_) (fun hy => ?_))
      · dsimp only
        refine seq_raw (s_storeU (p := r) (j := 2) (xs := [.ref sc, .int (i + 1), .int x, .int y]) rfl (vl_I (vl_int (vl_I0 (vl_I (rd _ _ (i + 1) x y 2 _ rfl a1 rfl) vl_c hM) vl_c)) vl_c (by decide)) (vl_var rfl) vl_c rfl ?_)
        have hx2 := Int.emod_nonneg (x * 48271 + 11) (show (2147483647 : Int) ≠ 0 by decide)
        have hx3 := Int.emod_lt_of_pos (x * 48271 + 11) (show (0 : Int) < 2147483647 by decide)
        generalize (x * 48271 + 11) % 2147483647 = x2 at hx2 hx3
        dsimp only
        refine s_ret (vl_I (vl_int (vl_I (rd _ _ (i + 1) x2 y 2 _ rfl upd_same rfl) vl_c (⟨by decide, by decide⟩ : CDiv x2 7))) (vl_var rfl) m0) ?_
        exact q _ _ _ _ (Int.emod_nonneg _ (by omega)) (Int.emod_lt_of_pos _ m0) (by omega) hx2 (by omega)
      · have hlt : i.toNat < ns.length := by
          have := of_decide_eq_false hy
          rw [List.length_map] at this
          omega
        obtain ⟨c, hc⟩ : ∃ c, ns[i.toNat]? = some c := ⟨_, List.getElem?_eq_getElem hlt⟩
        have hat : atI (ns.map V.int) (i + 1 - 1) = some (.int c) := by
          have e : i + 1 - 1 = ((i.toNat : Nat) : Int) := by omega
          rw [e]
          exact atI_nat (by rw [List.getElem?_map, hc]; rfl)
        refine seq_raw (s_set (vl_ixL (rd _ _ (i + 1) x y 0 _ rfl a1 rfl) (vl_I0 (rd _ _ (i + 1) x y 1 _ rfl a1 rfl) vl_c) c1 hat) ?_)
        dsimp only
        refine seq_raw (s_storeU (p := r) (j := 2) (xs := [.ref sc, .int (i + 1), .int x, .int y]) rfl (vl_I (vl_int (vl_I0 (vl_I0 (vl_I (rd _ _ (i + 1) x y 2 _ rfl a1 rfl) vl_c hM) (vl_var rfl)) vl_c)) vl_c (by decide)) (vl_var rfl) vl_c rfl ?_)
        have hx2 := Int.emod_nonneg (x * 48271 + c + 11) (show (2147483647 : Int) ≠ 0 by decide)
        have hx3 := Int.emod_lt_of_pos (x * 48271 + c + 11) (show (0 : Int) < 2147483647 by decide)
        generalize (x * 48271 + c + 11) % 2147483647 = x2 at hx2 hx3
        dsimp only
        refine seq_raw (s_if (vl_I0 (vl_var rfl) (vl_I vl_c vl_c (⟨by decide, by decide, by decide⟩ : CPow 10 18))) (fun hy => ?_) (fun hy => ?_))
        · dsimp only
          refine s_storeU (p := r) (j := 3) (xs := [.ref sc, .int (i + 1), .int x2, .int y]) rfl (vl_I (vl_var rfl) (vl_var rfl) hm) (vl_var rfl) vl_c rfl ?_
          dsimp only
          refine s_ret (vl_I (vl_int (vl_var rfl)) (vl_var rfl) m0) ?_
          exact q _ _ _ _ (Int.emod_nonneg _ (by omega)) (Int.emod_lt_of_pos _ m0) (by omega) hx2 (by omega)
        · unfold tNext
          dsimp only
          refine s_ret (vl_I (vl_int (vl_var rfl)) (vl_var rfl) m0) ?_
          exact q _ _ _ _ (Int.emod_nonneg _ (by omega)) (Int.emod_lt_of_pos _ m0) (by omega) hx2 (by omega)
end
end Tr
/-! Defs 9: _law_move. -/
namespace Tr
open PySem PySem.Spec PyProof.Rows L2 RT
def moveM (S : Tr.St) (s : Nat) : Tr.St := (S.set ((s + 1) % S.length) (trainAt S ((s + 1) % S.length) ++ trainAt S s)).set s []
theorem Das.set {B : Bd} {H : Hp} {v : V} {d : Dat} : ∀ {vs : List V} {ds : List Dat} (j : Nat), Das B H vs ds → Dv B H v d → Das B H (vs.set j v) (ds.set j d)
  | _, _, _, .nil, _ => .nil
  | _, _, 0, .cons _ r, h => .cons h r
  | _, _, j + 1, .cons a r, h => .cons a (r.set j h)
theorem Dv.tupD {B : Bd} {H : Hp} {v : V} {ds : List Dat} (h : Dv B H v (.tup ds)) : ∃ a xs, v = .ref a ∧ ¬ B a ∧ H a = some (.tup xs) ∧ Das B H xs ds := by
  cases h with
  | tup hb h r => exact ⟨_, _, rfl, hb, h, r⟩
/-- at p a list of trains -/
def LM (B : Bd) (p : Addr) (S : Tr.St) : Hp → Prop := fun H => ∃ xs, H p = some (.lst xs) ∧ Das B H xs (S.map Dat.fz)
theorem mon_LM (B : Bd) (p : Addr) (S : Tr.St) : Mon (LM B p S) := fun H H' s ⟨xs, h, d⟩ => ⟨xs, s _ _ h, d.same s⟩
theorem cg_int1 {i : Int} : CG (fun xs H Q => (∃ i, xs = [V.int i] ∧ Q (.int i) H) ∨ ∃ k, xs = [V.bl k] ∧ Q (.int (if k then 1 else 0)) H) [.int i] (.int i) := fun B H xs k h Q q => by
  cases h with
  | cons a z => cases z; cases a; exact .inl ⟨i, rfl, q _ H (.refl H) (.int i)⟩
section
variable {B : Bd} {ms : List Addr} {Γ : Gam} {te : TE}
theorem rgm_setD {i j jj : Nat} {p : Addr} {S : Tr.St} {t : List Int} (h : Eg te Γ (.fz t)) (h1 : Γ[i]? = some (some (.raw (.ref p)))) (h2 : Γ[j]? = some (some (.int (jj : Nat)))) (hj : jj < S.length) (hp : p ∈ ms) (hB : B p) :
    RgM B ms (tAsg te (gSub (tVar i) (tVar j) rSetL)) Γ (LM B p S) Γ (LM B p (S.set jj t)) := fun D σ H k s hM q => by
  obtain ⟨v, e1, r1⟩ := s.at_ i _ h1
  obtain ⟨u, e2, r2⟩ := s.at_ j _ h2
  cases r1; cases r2
  refine asg_raw (h B σ H k s _ fun z H2 e3 rz => ?_)
  obtain ⟨xs, hx, hd⟩ := mon_LM B p S _ _ e3 hM
  refine ⟨_, e1, _, e2, p, xs, _, jj, rfl, rfl, hx, ?_, ?_⟩
  · unfold ixN
    rw [hd.length, List.length_map, if_pos (by omega), if_pos (by omega)]
    rfl
  · have lm : Le B H2 B (upd H2 p (.lst (xs.set jj z))) := .mut hB
    refine q σ _ ((Chg.same e3).trans (.upd hp)) (k.same e3).upd ((s.same e3).le lm) ⟨_, upd_same, ?_⟩
    rw [List.map_set]
    exact (hd.set jj rz).le lm
end
section
variable {P : Program} {w : World} {K : PySem.W.Frag} {mg : Str → Option Value} {base : Heap} {f : Addr} {fd : FuncData}
def FLawMove (ds : List Dat) (d : Dat) : Prop := ∃ (n k s : Nat) (S : Tr.St), ds = [stD S, .int (s : Nat)] ∧ Yd n k ∧ Good n k S ∧ (∀ t ∈ S, t ≠ []) ∧ s < k ∧ d = stD (moveM S s)
theorem trainAt_get {S : Tr.St} {i : Nat} (h : i < S.length) : S[i]? = some (trainAt S i) := by
  unfold trainAt
  rw [List.getD_eq_getElem?_getD, List.getElem?_eq_getElem h]; rfl
theorem trainAt_mem {S : Tr.St} {i : Nat} (h : i < S.length) : trainAt S i ∈ S := List.mem_of_getElem? (trainAt_get h)
theorem sc_law_move : FnScope ["_law_state", "_law_station", "_law_places", "_law_goal"] ["_law_state", "_law_station"] (defScope sLawMove) := ⟨rfl, rfl, rfl, by decide +kernel, rfl, by decide +kernel, by decide +kernel⟩
theorem ok_law_move (F : Fun K "_law_move" "_law_move" sLawMove f fd) (T : Txt mg) : FnOk P w K mg base CX0 1 f fd ["_law_state", "_law_station"] (spG FLawMove) := by
  have nd := sc_law_move.nd
  refine fnG F sc_law_move (fun ds r h => by obtain ⟨n, k, m, S, rfl, _⟩ := h; rfl) fun cdv A outer s H E hr ds r h => ?_
  obtain ⟨n, k, m, S, rfl, Y, G, hne, hmk, rfl⟩ := h
  refine ⟨_, pss_cons (ps_par (i := 2) (j := 3) (by rfl) nd rfl rfl (by decide) rfl rfl (pa_cons (pe_callTy call_list_of (by rfl) T.list (by decide +kernel) (pa_cons (pv 0) pa_nil)) (pa_cons (pe_op op_mod (pe_callTy call_int1 (by rfl) T.int (by decide +kernel) (pa_cons (pe_op op_add (pv 1) pe_int) pa_nil)) (pe_callB call_len_seq (by rfl) T.len PySem.boot_len (pa_cons (pv 0) pa_nil))) pa_nil)) (by rfl))
    (pss_cons (ps_asg (pe_op op_catF (pe_ix ix_tup (pv 0) (pv 3) (fun _ _ => rfl)) (pe_ix ix_tup (pv 0) (pv 1) (fun _ _ => rfl))) (pg_sub (pv 2) (pv 3) set_list))
    (pss_cons (ps_asg pe_tupF (pg_sub (pv 2) (pv 1) set_list))
    (pss_one (ps_ret (pe_callTy call_tuple_of (by rfl) T.tuple (by decide +kernel) (pa_cons (pv 2) pa_nil)))))), .inl ?_⟩
  have hl := G.len
  have hk2 := Y.k2
  have hn7 := Y.n7
  have hgl : (m + 1) % S.length < S.length := Nat.mod_lt _ (by omega)
  intro B D σ H kk sd wsh
  refine seq_raw (par_raw (cons_raw ?_))
  obtain ⟨v0, e0, r0⟩ := sd.at_ 0 _ rfl
  obtain ⟨a, xs, rfl, hb, ha, hd⟩ := r0.tupD
  refine ⟨_, e0, a, xs, rfl, .inr (SqT.of ha), fun p hp => ?_⟩
  have lm := Le.new1 (B := B) (o := .lst xs) hp
  have kB : Ok (Bp B p) (upd H p (.lst xs)) := kk.new1
  have hpB : Bp B p p := .inr rfl
  have hgoal : Eg (tOp (rI (fun _ j => 0 < j) fun i j => .int (i % j)) (tCB (fun xs H Q => (∃ i, xs = [V.int i] ∧ Q (.int i) H) ∨ ∃ k, xs = [V.bl k] ∧ Q (.int (if k then 1 else 0)) H) (tCons (tOp (rI0 fun i j => .int (i + j)) (tVar 1) (tC (.int 1))) tNil)) (tCB (rLenS K) (tCons (tVar 0) tNil))) [some (stD S), some (.int (m : Nat)), none, none] (.int (((m + 1) % S.length : Nat) : Int)) := by
    refine eg_is (eg_op (eg_cb (ag_cons (eg_op (eg_var (i := 1) rfl) eg_int (rg_I0 fun _ _ => .int _)) ag_nil) cg_int1) (eg_cb (ag_cons (eg_var (i := 0) rfl) ag_nil) (cg_lenT (K := K) rfl)) (rg_I ?_ fun _ _ => .int _)) ?_
    · rw [List.length_map]; omega
    · rw [List.length_map]
      congr 1
  refine cons_raw (hgoal (Bp B p) σ _ kB (sd.le lm) _ fun v1 H1 e1 r1 => ?_)
  cases r1
  refine ⟨_, _, rfl, ?_⟩
  have s1 : Sd (Bp B p) ((σ.set 2 (some (.ref p))).set 3 (some (.int (((m + 1) % S.length : Nat) : Int)))) H1 [some (stD S), some (.int (m : Nat)), some (.raw (.ref p)), some (.int (((m + 1) % S.length : Nat) : Int))] := (((sd.le lm).same e1).set 2 (.raw _)).set 3 (.int _)
  have m1 : LM (Bp B p) p S H1 := ⟨xs, e1 _ _ upd_same, (hd.le lm).same e1⟩
  have k1 := kB.same e1
  have at1 : atI (S.map Dat.fz) (((m + 1) % S.length : Nat) : Int) = some (.fz (trainAt S ((m + 1) % S.length))) := atI_nat (by rw [List.getElem?_map, trainAt_get hgl]; rfl)
  have at2 : atI (S.map Dat.fz) ((m : Nat) : Int) = some (.fz (trainAt S m)) := atI_nat (by rw [List.getElem?_map, trainAt_get (by omega)]; rfl)
  have ne1 := hne _ (trainAt_mem hgl)
  have ne2 := hne _ (trainAt_mem (S := S) (i := m) (by omega))
  have ll : ∀ t ∈ S, t.length ≤ 7 := fun t ht => by
    have h1 : t.length ≤ S.flatten.length := (List.sublist_flatten_of_mem ht).length_le
    have := G.cars
    omega
  have l1 := ll _ (trainAt_mem hgl)
  have l2 := ll _ (trainAt_mem (S := S) (i := m) (by omega))
  dsimp only
  refine seq_raw ?_
  refine rgm_setD (ms := [p]) (S := S) (eg_op (eg_op (eg_var (i := 0) rfl) (eg_var (i := 3) rfl) (rg_ixT (K := K) rfl at1)) (eg_op (eg_var (i := 0) rfl) (eg_var (i := 1) rfl) (rg_ixT (K := K) rfl at2)) (rg_catF (K := K) ne1 ne2 (by omega))) rfl rfl hgl (by simp) hpB _ _ _ k1 s1 m1 fun σ2 H2 c2 k2 s2 m2 => ?_
  dsimp only
  refine seq_raw ?_
  refine rgm_setD (ms := [p]) (jj := m) eg_tupF0 rfl rfl (by rw [List.length_set]; omega) (by simp) hpB _ _ _ k2 s2 m2 fun σ3 H3 c3 k3 s3 m3 => ?_
  dsimp only
  obtain ⟨ys, hy, hdy⟩ := m3
  obtain ⟨v4, e4, r4⟩ := s3.at_ 2 _ rfl
  cases r4
  refine ⟨_, e4, p, ys, rfl, .inl ⟨SqL.of hy, fun l hl => ?_⟩⟩
  refine wsh _ _ (fun a' o ha' => ?_) (.tup ?_ upd_same ?_)
  · have hap : a' ≠ p := ne_of_none ha' hp
    have h0 : upd H p (.lst xs) a' = some o := by rw [upd_ne hap]; exact ha'
    exact same_new hl _ _ (c3 _ _ (by simpa using hap) (c2 _ _ (by simpa using hap) (e1 _ _ h0)))
  · intro z
    exact k3 l (.inl z) hl
  · exact (hdy.same (same_new hl)).sub fun b hb => .inl hb
end
end Tr
/-! Mathematics 1: heights by a formula. -/
namespace Tr
theorem stIx_lt {S : Tr.St} {c : Int} (h : c ∈ S.flatten) : stIx S c < S.length := (List.getElem?_eq_some_iff.mp (stIx_at h).1).1
/-- where a car stands, by where it is met -/
theorem stIx_eq : ∀ {S : Tr.St} {i : Nat} {t : List Int} {c : Int}, S.flatten.Nodup → S[i]? = some t → c ∈ t → stIx S c = i
  | [], i, t, c, _, h, _ => by simp at h
  | u :: S, 0, t, c, hn, h, hc => by
    have e : u = t := by simpa using h
    subst e
    unfold stIx
    rw [List.findIdx_cons]
    simp [hc]
  | u :: S, i + 1, t, c, hn, h, hc => by
    have h' : S[i]? = some t := by simpa using h
    rw [List.flatten_cons] at hn
    have hcS : c ∈ S.flatten := List.mem_flatten.mpr ⟨t, List.mem_of_getElem? h', hc⟩
    have hcu : c ∉ u := fun z => (List.nodup_append.mp hn).2.2 c z c hcS rfl
    have ih := stIx_eq (List.nodup_append.mp hn).2.1 h' hc
    unfold stIx at ih ⊢
    rw [List.findIdx_cons]
    simp [hcu, ih]
def jM (S : Tr.St) (k : Int) (c : Int) : Int := if condM S c = true then k else ((stIx S 0 : Nat) - (stIx S c : Nat) : Int) % k
theorem read_sorted {S : Tr.St} (hn : S.flatten.Nodup) : List.Pairwise (fun x y => stIx S y ≤ stIx S x) (readM S) := by
  unfold readM
  rw [List.pairwise_flatten]
  constructor
  · intro t ht
    have ht' : t ∈ S := by simpa using ht
    obtain ⟨i, hi⟩ := List.getElem?_of_mem ht'
    refine List.Pairwise.imp_of_mem (R := fun _ _ => True) ?_ (List.pairwise_of_forall (fun _ _ => trivial))
    intro a b ha hb _
    rw [stIx_eq hn hi ha, stIx_eq hn hi hb]
    exact Nat.le_refl _
  · rw [List.pairwise_reverse, List.pairwise_iff_getElem]
    intro i j hi hj hij x hx y hy
    rw [stIx_eq hn (List.getElem?_eq_getElem hi) hy, stIx_eq hn (List.getElem?_eq_getElem hj) hx]
    omega
/-- the ring word in its four parts -/
theorem word_parts {S : Tr.St} (hn : S.flatten.Nodup) (h0 : (0 : Int) ∈ S.flatten) : ∃ P R X Y : List Int, wordM S = 0 :: R ++ (Y ++ (X ++ P)) ∧ readM S = X ++ (P ++ (0 :: R ++ Y)) ∧ trainAt S (stIx S 0) = P ++ 0 :: R ∧
    (∀ c ∈ X, stIx S 0 < stIx S c) ∧ (∀ c ∈ Y, stIx S c < stIx S 0) := by
  obtain ⟨hat, hm⟩ := stIx_at h0
  generalize hs : stIx S 0 = s at hat hm
  generalize ht : trainAt S s = t at hat hm
  obtain ⟨P, R, hPR⟩ := List.append_of_mem hm
  have hl := (List.getElem?_eq_some_iff.mp hat).1
  have hS : S = S.take s ++ t :: S.drop (s + 1) := by
    have e1 := (List.take_append_drop s S).symm
    rw [List.drop_eq_getElem_cons hl, (List.getElem?_eq_some_iff.mp hat).2] at e1
    exact e1
  have hr : readM S = (S.drop (s + 1)).reverse.flatten ++ (P ++ (0 :: R ++ (S.take s).reverse.flatten)) := by
    unfold readM
    rw [hS, List.reverse_append, List.reverse_cons, ← hS, hPR]
    simp
  have hX : ∀ c ∈ (S.drop (s + 1)).reverse.flatten, s < stIx S c := fun c hc => by
    obtain ⟨u, hu, hcu⟩ := List.mem_flatten.mp hc
    have hu' : u ∈ S.drop (s + 1) := by simpa using hu
    obtain ⟨i, hi⟩ := List.getElem?_of_mem hu'
    rw [List.getElem?_drop] at hi
    rw [stIx_eq hn hi hcu]
    omega
  have hY : ∀ c ∈ (S.take s).reverse.flatten, stIx S c < s := fun c hc => by
    obtain ⟨u, hu, hcu⟩ := List.mem_flatten.mp hc
    have hu' : u ∈ S.take s := by simpa using hu
    obtain ⟨i, hi⟩ := List.getElem?_of_mem hu'
    have hil : i < (S.take s).length := (List.getElem?_eq_some_iff.mp hi).1
    rw [List.length_take] at hil
    rw [List.getElem?_take_of_lt (by omega)] at hi
    rw [stIx_eq hn hi hcu]
    omega
  refine ⟨P, R, (S.drop (s + 1)).reverse.flatten, (S.take s).reverse.flatten, ?_, hr, hPR, hX, hY⟩
  have hrn : (readM S).Nodup := by
    have hp : (readM S).Perm S.flatten := by unfold readM; exact List.Perm.flatten (List.reverse_perm S)
    exact hp.nodup_iff.mpr hn
  generalize (S.drop (s + 1)).reverse.flatten = X at hr hX ⊢
  generalize (S.take s).reverse.flatten = Y at hr hY ⊢
  have hr2 : readM S = (X ++ P) ++ (0 :: (R ++ Y)) := by rw [hr]; simp
  have hnot : (0 : Int) ∉ X ++ P := fun z => by
    rw [hr2] at hrn
    exact (List.nodup_append.mp hrn).2.2 0 z 0 (by simp) rfl
  have hix : (readM S).idxOf 0 = (X ++ P).length := by
    rw [hr2, List.idxOf_append]
    rw [if_neg hnot]
    simp
  unfold wordM
  rw [hix, hr2, List.drop_left, List.take_left]
  simp
theorem cond_other {S : Tr.St} (hn : S.flatten.Nodup) {c : Int} (hc : c ∈ S.flatten) (h : stIx S c ≠ stIx S 0) : condM S c = false := by
  have : (0 : Int) ∉ trainAt S (stIx S c) := fun z => h (stIx_eq hn (stIx_at hc).1 z).symm
  unfold condM
  rw [decide_eq_false this]; rfl
/-- the formula's numbers do not fall along the word -/
theorem word_sorted {S : Tr.St} {k : Nat} (hk : S.length = k) (h2 : 2 ≤ k) (hn : S.flatten.Nodup) (h0 : (0 : Int) ∈ S.flatten) : List.Pairwise (fun x y => jM S (k : Nat) x ≤ jM S (k : Nat) y) (wordM S) ∧ (wordM S)[0]? = some 0 := by
  obtain ⟨P, R, X, Y, hw, hr, ht, hX, hY⟩ := word_parts hn h0
  have hsort := read_sorted hn
  have hmem : ∀ c ∈ readM S, c ∈ S.flatten := fun c hc => by
    have hp : (readM S).Perm S.flatten := by unfold readM; exact List.Perm.flatten (List.reverse_perm S)
    exact hp.mem_iff.mp hc
  have hrn : (readM S).Nodup := by
    have hp : (readM S).Perm S.flatten := by unfold readM; exact List.Perm.flatten (List.reverse_perm S)
    exact hp.nodup_iff.mpr hn
  rw [hr] at hsort hmem hrn
  have hsl : stIx S 0 < k := hk ▸ stIx_lt h0
  have htr := (stIx_at h0).1
  rw [ht] at htr
  have hst0 : ∀ c ∈ P ++ 0 :: R, stIx S c = stIx S 0 := fun c hc => stIx_eq hn htr hc
  have hjX : ∀ c ∈ X, jM S (k : Nat) c = (stIx S 0 : Nat) - (stIx S c : Nat) + (k : Nat) := fun c hc => by
    have h1 := hX c hc
    have hcm : c ∈ S.flatten := hmem c (by simp [hc])
    have h3 : stIx S c < k := hk ▸ stIx_lt hcm
    unfold jM
    rw [if_neg (by rw [cond_other hn hcm (by omega)]; exact Bool.false_ne_true), ← Int.add_emod_right]
    exact Int.emod_eq_of_lt (by omega) (by omega)
  have hjY : ∀ c ∈ Y, jM S (k : Nat) c = (stIx S 0 : Nat) - (stIx S c : Nat) := fun c hc => by
    have h1 := hY c hc
    have hcm : c ∈ S.flatten := hmem c (by simp [hc])
    unfold jM
    rw [if_neg (by rw [cond_other hn hcm (by omega)]; exact Bool.false_ne_true)]
    exact Int.emod_eq_of_lt (by omega) (by omega)
  have hpn : (P ++ 0 :: R).Nodup := by
    have : (P ++ (0 :: R ++ Y)).Nodup := (List.nodup_append.mp hrn).2.1
    rw [← List.append_assoc] at this
    exact (List.nodup_append.mp this).1
  have hjP : ∀ c ∈ P, jM S (k : Nat) c = (k : Nat) := fun c hc => by
    unfold jM
    have e : condM S c = true := by
      unfold condM
      rw [hst0 c (by simp [hc]), ht]
      have h1 : (0 : Int) ∉ P := fun z => (List.nodup_append.mp hpn).2.2 0 z 0 (by simp) rfl
      have h2 : (P ++ 0 :: R).idxOf c < P.length := by
        rw [List.idxOf_append, if_pos hc]
        exact List.idxOf_lt_length_iff.mpr hc
      have h3 : (P ++ 0 :: R).idxOf 0 = P.length := by
        rw [List.idxOf_append, if_neg h1]; simp
      rw [h3]
      have h4 : (0 : Int) ∈ P ++ 0 :: R := by simp
      rw [decide_eq_true h4, decide_eq_true (by omega)]; rfl
    rw [if_pos e]
  have hjR : ∀ c ∈ (0 : Int) :: R, jM S (k : Nat) c = 0 := fun c hc => by
    unfold jM
    have e : condM S c = false := by
      unfold condM
      rw [hst0 c (by simp only [List.mem_append]; exact .inr hc), ht]
      have h1 : (0 : Int) ∉ P := fun z => (List.nodup_append.mp hpn).2.2 0 z 0 (by simp) rfl
      have h1c : c ∉ P := fun z => (List.nodup_append.mp hpn).2.2 c z c hc rfl
      have h3 : (P ++ 0 :: R).idxOf 0 = P.length := by
        rw [List.idxOf_append, if_neg h1]; simp
      have h2 : P.length ≤ (P ++ 0 :: R).idxOf c := by
        rw [List.idxOf_append, if_neg h1c]; omega
      rw [h3, decide_eq_false (show ¬ (((P ++ 0 :: R).idxOf c : Nat) : Int) < (P.length : Nat) by omega), Bool.and_false]
    rw [if_neg (by rw [e]; exact Bool.false_ne_true), hst0 c (by simp only [List.mem_append]; exact .inr hc)]
    simp
  refine ⟨?_, by rw [hw]; rfl⟩
  rw [hw]
  have sX : List.Pairwise (fun x y => stIx S y ≤ stIx S x) X := (List.pairwise_append.mp hsort).1
  have sY : List.Pairwise (fun x y => stIx S y ≤ stIx S x) Y := (List.pairwise_append.mp (List.pairwise_append.mp (List.pairwise_append.mp hsort).2.1).2.1).2.1
  have hXk : ∀ c ∈ X, stIx S c < k := fun c hc => hk ▸ stIx_lt (hmem c (by simp [hc]))
  rw [List.pairwise_append, List.pairwise_append, List.pairwise_append]
  refine ⟨?_, ⟨?_, ⟨?_, ?_, ?_⟩, ?_⟩, ?_⟩
  · refine List.Pairwise.imp_of_mem (R := fun _ _ => True) ?_ (List.pairwise_of_forall (fun _ _ => trivial))
    intro a b ha hb _
    rw [hjR a ha, hjR b hb]; exact Int.le_refl _
  · refine sY.imp_of_mem fun ha hb h => ?_
    rw [hjY _ ha, hjY _ hb]; omega
  · refine sX.imp_of_mem fun ha hb h => ?_
    rw [hjX _ ha, hjX _ hb]; omega
  · refine List.Pairwise.imp_of_mem (R := fun _ _ => True) ?_ (List.pairwise_of_forall (fun _ _ => trivial))
    intro a b ha hb _
    rw [hjP a ha, hjP b hb]; exact Int.le_refl _
  · intro a ha b hb
    have := hX a ha
    rw [hjX a ha, hjP b hb]; omega
  · intro a ha b hb
    have h1 := hY a ha
    rw [hjY a ha]
    rcases List.mem_append.mp hb with hb | hb
    · have := hXk b hb
      rw [hjX b hb]; omega
    · rw [hjP b hb]; omega
  · intro a ha b hb
    rw [hjR a ha]
    rcases List.mem_append.mp hb with hb | hb
    · have := hY b hb
      rw [hjY b hb]; omega
    · rcases List.mem_append.mp hb with hb | hb
      · have := hXk b hb
        rw [hjX b hb]; omega
      · rw [hjP b hb]; omega
end Tr
/-! Mathematics 2: heights, rises by a formula. -/
namespace Tr
theorem gI_set {l : List Int} {c d x : Int} (hc : 0 ≤ c) (hd : 0 ≤ d) (hl : c.toNat < l.length) : gI (l.set c.toNat x) d = if d = c then x else gI l d := by
  unfold gI
  by_cases h : d = c
  · subst h
    rw [if_pos rfl, List.getD_eq_getElem?_getD, List.getElem?_set_self hl]; rfl
  · rw [if_neg h, List.getD_eq_getElem?_getD, List.getD_eq_getElem?_getD, List.getElem?_set_ne (by omega)]
theorem jM_bd {S : Tr.St} {k : Int} (hk : 0 < k) (c : Int) : 0 ≤ jM S k c ∧ jM S k c ≤ k := by
  unfold jM
  split
  · omega
  · have h1 := Int.emod_nonneg ((stIx S 0 : Nat) - (stIx S c : Nat) : Int) (Int.ne_of_gt hk)
    have h2 := Int.emod_lt_of_pos ((stIx S 0 : Nat) - (stIx S c : Nat) : Int) hk
    omega
theorem heights_fold {n k : Nat} {S : Tr.St} (Y : Yd n k) (G : Good n k S) : ∀ i, i ≤ (wordM S).length → (∀ c ∈ (wordM S).take i, gI (hFold S (k : Nat) i).1 c = (stIx S 0 : Nat) - jM S (k : Nat) c) ∧
    (∀ (j : Nat) c, j + 1 = i → (wordM S)[j]? = some c → (hFold S (k : Nat) i).2 = some ((stIx S 0 : Nat) - jM S (k : Nat) c)) ∧ (i = 0 → (hFold S (k : Nat) i).2 = none)
  | 0, _ => ⟨by simp, fun j c h => by omega, fun _ => rfl⟩
  | i + 1, hi => by
    have hlt : i < (wordM S).length := hi
    obtain ⟨ih1, ih2, ih3⟩ := heights_fold Y G i (Nat.le_of_lt hlt)
    obtain ⟨hsort, hhead⟩ := word_sorted G.len Y.k2 G.nd (G.zero Y)
    have hwp := wordM_perm S
    have hwl : (wordM S).length = n := by rw [hwp.length_eq, G.cars]
    have hc : (wordM S)[i]? = some (wordM S)[i] := List.getElem?_eq_getElem hlt
    generalize (wordM S)[i] = c at hc
    have hrng : ∀ d ∈ wordM S, 0 ≤ d ∧ d < (n : Int) := fun d hd => G.rng d (hwp.mem_iff.mp hd)
    have hcr := hrng c (List.mem_of_getElem? hc)
    have hLl := hFold_len S (k : Nat) i (Nat.le_of_lt hlt)
    have hk0 : (0 : Int) < (k : Nat) := by have := Y.k2; omega
    have hkey : hOf S (k : Nat) (hFold S (k : Nat) i).1 c (hFold S (k : Nat) i).2 = (stIx S 0 : Nat) - jM S (k : Nat) c := by
      cases i with
      | zero =>
        rw [ih3 rfl]
        rw [hhead] at hc
        cases hc
        show ((stIx S 0 : Nat) : Int) = _
        have e : jM S (k : Nat) 0 = 0 := by
          unfold jM
          have : condM S 0 = false := by
            unfold condM
            rw [decide_eq_false (show ¬ (((trainAt S (stIx S 0)).idxOf 0 : Nat) : Int) < (((trainAt S (stIx S 0)).idxOf 0 : Nat) : Int) by omega), Bool.and_false]
          rw [if_neg (by rw [this]; exact Bool.false_ne_true)]
          simp
        rw [e]; omega
      | succ j =>
        have hjl : j < (wordM S).length := by omega
        have hp : (wordM S)[j]? = some (wordM S)[j] := List.getElem?_eq_getElem hjl
        generalize (wordM S)[j] = p at hp
        rw [ih2 j p rfl hp]
        have hle : jM S (k : Nat) p ≤ jM S (k : Nat) c := by
          have := (List.pairwise_iff_getElem.mp hsort) j (j + 1) hjl hlt (Nat.lt_succ_self j)
          rw [(List.getElem?_eq_some_iff.mp hp).2, (List.getElem?_eq_some_iff.mp hc).2] at this
          exact this
        show (if condM S c = true then _ else _) = _
        by_cases hcd : condM S c = true
        · rw [if_pos hcd]
          have e0 : (hFold S (k : Nat) (j + 1)).1.getD 0 0 = gI (hFold S (k : Nat) (j + 1)).1 0 := rfl
          have hmem0 : (0 : Int) ∈ (wordM S).take (j + 1) := by
            refine List.mem_of_getElem? (i := 0) ?_
            rw [List.getElem?_take_of_lt (by omega)]; exact hhead
          have e1 : jM S (k : Nat) 0 = 0 := by
            unfold jM
            have : condM S 0 = false := by
              unfold condM
              rw [decide_eq_false (show ¬ (((trainAt S (stIx S 0)).idxOf 0 : Nat) : Int) < (((trainAt S (stIx S 0)).idxOf 0 : Nat) : Int) by omega), Bool.and_false]
            rw [if_neg (by rw [this]; exact Bool.false_ne_true)]
            simp
          have e2 : jM S (k : Nat) c = (k : Nat) := by unfold jM; rw [if_pos hcd]
          rw [e0, ih1 0 hmem0, e1, e2]; omega
        · rw [if_neg hcd]
          have ec : jM S (k : Nat) c = ((stIx S 0 : Nat) - (stIx S c : Nat) : Int) % (k : Nat) := by unfold jM; rw [if_neg hcd]
          have hb := jM_bd (S := S) hk0 p
          have hlt2 := Int.emod_lt_of_pos ((stIx S 0 : Nat) - (stIx S c : Nat) : Int) hk0
          rw [← ec] at hlt2
          have hdm := Int.mul_ediv_add_emod ((stIx S 0 : Nat) - (stIx S c : Nat) : Int) (k : Nat)
          rw [← ec] at hdm
          have e3 : ((stIx S 0 : Nat) - jM S (k : Nat) p - (stIx S c : Nat) : Int) = (jM S (k : Nat) c - jM S (k : Nat) p) + (k : Nat) * (((stIx S 0 : Nat) - (stIx S c : Nat) : Int) / (k : Nat)) := by omega
          rw [e3, Int.add_mul_emod_self_left, Int.emod_eq_of_lt (by omega) (by omega)]
          omega
    rw [hFold_succ hc]
    refine ⟨fun d hd => ?_, fun j d hj hd => ?_, fun h => by omega⟩
    · have hdw : d ∈ wordM S := List.mem_of_mem_take hd
      have hdr := hrng d hdw
      show gI ((hFold S (k : Nat) i).1.set c.toNat _) d = _
      rw [gI_set hcr.1 hdr.1 (by omega)]
      by_cases hdc : d = c
      · rw [if_pos hdc, hdc, hkey]
      · rw [if_neg hdc]
        refine ih1 d ?_
        rw [take_one hc] at hd
        rcases List.mem_append.mp hd with h | h
        · exact h
        · exact absurd (List.mem_singleton.mp h) hdc
    · have : j = i := by omega
      subst this
      rw [hc] at hd
      cases hd
      show some (hOf S (k : Nat) _ c _) = _
      rw [hkey]
theorem heights_eq {n k : Nat} {S : Tr.St} (Y : Yd n k) (G : Good n k S) {c : Int} (hc : c ∈ S.flatten) : gI (heightsM S) c = (stIx S 0 : Nat) - jM S (k : Nat) c := by
  have h := (heights_fold Y G (wordM S).length (Nat.le_refl _)).1 c (by rw [List.take_length]; exact (wordM_perm S).mem_iff.mpr hc)
  unfold heightsM
  rw [G.len]
  exact h
/-- rises by a formula -/
theorem gI_zip {n : Nat} {h1 h2 : List Int} (l1 : h1.length = n) (l2 : h2.length = n) (f : Int × Int → Int) {c : Int} (c0 : 0 ≤ c) (cn : c < n) : gI ((h1.zip h2).map f) c = f (gI h1 c, gI h2 c) := by
  have a1 : c.toNat < h1.length := by omega
  have a2 : c.toNat < h2.length := by omega
  unfold gI
  rw [List.getD_eq_getElem?_getD, List.getD_eq_getElem?_getD, List.getD_eq_getElem?_getD, List.getElem?_map, List.getElem?_eq_getElem a1, List.getElem?_eq_getElem a2, List.getElem?_eq_getElem (by rw [List.length_zip]; omega), List.getElem_zip]
  rfl
theorem found_eq {n k : Nat} {S T : Tr.St} (Y : Yd n k) (G : Good n k S) (G' : Good n k T) (a : Int → Int) (q : Int) (hD : ∀ c : Int, 0 ≤ c → c < (n : Int) → gI (heightsM T) c - gI (heightsM S) c = a c + q * (k : Nat)) (h0 : ∀ c : Int, 0 ≤ c → c < (n : Int) → 0 ≤ a c) (hex : ∃ c, 0 ≤ c ∧ c < (n : Int) ∧ a c < (k : Nat)) :
    turnsM (heightsM S) (heightsM T) (k : Nat) = -q ∧ ∀ c : Int, 0 ≤ c → c < (n : Int) → gI (foundM (heightsM S) (heightsM T) (k : Nat)) c = a c := by
  have hk0 : (0 : Int) < (k : Nat) := by have := Y.k2; omega
  have ht : turnsM (heightsM S) (heightsM T) (k : Nat) = -q := by
    unfold turnsM
    have hval : ∀ c, 0 ≤ c → c < (n : Int) → -(-(gI (heightsM S) c - gI (heightsM T) c) / (k : Nat)) = -(a c / (k : Nat)) - q := fun c c0 cn => by
      have e : -(gI (heightsM S) c - gI (heightsM T) c) = a c + q * (k : Nat) := by have := hD c c0 cn; omega
      rw [e, Int.add_mul_ediv_right _ _ (Int.ne_of_gt hk0)]; omega
    have hmem : ∀ x ∈ ((heightsM S).zip (heightsM T)).map (fun p => -(-(p.1 - p.2) / ((k : Nat) : Int))), ∃ c, 0 ≤ c ∧ c < (n : Int) ∧ x = -(a c / (k : Nat)) - q := fun x hx => by
      obtain ⟨i, hi⟩ := List.getElem?_of_mem hx
      have hil := (List.getElem?_eq_some_iff.mp hi).1
      rw [List.length_map, List.length_zip, G.hl, G'.hl, Nat.min_self] at hil
      refine ⟨(i : Nat), by omega, by omega, ?_⟩
      have h1 := gI_zip G.hl G'.hl (fun p => -(-(p.1 - p.2) / ((k : Nat) : Int))) (c := (i : Nat)) (by omega) (by omega)
      unfold gI at h1
      rw [Int.toNat_natCast, List.getD_eq_getElem?_getD, hi] at h1
      have h2 := hval (i : Nat) (by omega) (by omega)
      unfold gI at h2
      rw [Int.toNat_natCast] at h2
      rw [← h2]
      exact h1
    have hne : ((heightsM S).zip (heightsM T)).map (fun p => -(-(p.1 - p.2) / ((k : Nat) : Int))) ≠ [] := fun z => by
      have := congrArg List.length z
      rw [List.length_map, List.length_zip, G.hl, G'.hl, Nat.min_self] at this
      have := Y.n1
      simp at *; omega
    obtain ⟨c1, c10, c1n, e1⟩ := hmem _ (maxI_mem hne)
    have hle1 : maxI (((heightsM S).zip (heightsM T)).map (fun p => -(-(p.1 - p.2) / ((k : Nat) : Int)))) ≤ -q := by
      rw [e1]
      have := Int.ediv_nonneg (h0 c1 c10 c1n) (Int.le_of_lt hk0)
      omega
    obtain ⟨c2, c20, c2n, hc2⟩ := hex
    have hge : -q ≤ maxI (((heightsM S).zip (heightsM T)).map (fun p => -(-(p.1 - p.2) / ((k : Nat) : Int)))) := by
      have e2 : a c2 / ((k : Nat) : Int) = 0 := Int.ediv_eq_zero_of_lt (h0 c2 c20 c2n) hc2
      have hm : -q ∈ ((heightsM S).zip (heightsM T)).map (fun p => -(-(p.1 - p.2) / ((k : Nat) : Int))) := by
        have h1 := gI_zip G.hl G'.hl (fun p => -(-(p.1 - p.2) / ((k : Nat) : Int))) c20 c2n
        rw [hval c2 c20 c2n, e2] at h1
        have hil : c2.toNat < (((heightsM S).zip (heightsM T)).map (fun p => -(-(p.1 - p.2) / ((k : Nat) : Int)))).length := by
          rw [List.length_map, List.length_zip, G.hl, G'.hl, Nat.min_self]; omega
        unfold gI at h1
        rw [List.getD_eq_getElem?_getD, List.getElem?_eq_getElem hil] at h1
        have h3 : -q = (((heightsM S).zip (heightsM T)).map (fun p => -(-(p.1 - p.2) / ((k : Nat) : Int))))[c2.toNat] := by
          have : -(0 : Int) - q = -q := by omega
          rw [← this, ← h1]; rfl
        rw [h3]
        exact List.getElem_mem hil
      exact maxI_le _ hm
    omega
  refine ⟨ht, fun c c0 cn => ?_⟩
  unfold foundM
  rw [gI_zip G.hl G'.hl _ c0 cn, ht]
  have := hD c c0 cn
  show gI (heightsM T) c + -q * (k : Nat) - gI (heightsM S) c = a c
  have e : -q * ((k : Nat) : Int) = -(q * (k : Nat)) := Int.neg_mul _ _
  rw [e]; omega
/-- the rises of a state to another one of the same word -/
theorem rises_eq {n k : Nat} {S T : Tr.St} (Y : Yd n k) (G : Good n k S) (G' : Good n k T) (hw : wordM S = wordM T) (a : Int → Int) (q : Int) (hD : ∀ c : Int, 0 ≤ c → c < (n : Int) → gI (heightsM T) c - gI (heightsM S) c = a c + q * (k : Nat)) (h0 : ∀ c : Int, 0 ≤ c → c < (n : Int) → 0 ≤ a c) (hex : ∃ c, 0 ≤ c ∧ c < (n : Int) ∧ a c < (k : Nat)) :
    (∀ t ∈ S, ∀ c ∈ t, ∀ d ∈ t, a c = a d) → ∃ l, risesM S T = some l ∧ l.length = n ∧ ∀ c : Int, 0 ≤ c → c < (n : Int) → gI l c = a c := fun hsame => by
  obtain ⟨ht, hf⟩ := found_eq Y G G' a q hD h0 hex
  refine ⟨foundM (heightsM S) (heightsM T) (S.length : Nat), ?_, foundM_len G G' _, by rw [G.len]; exact hf⟩
  unfold risesM
  rw [if_neg (fun z => z hw), if_neg]
  rw [G.len]
  intro hb
  obtain ⟨p, hp, hbad⟩ := List.any_eq_true.mp hb
  obtain ⟨hpS, hpn⟩ := trL_mem hp
  unfold badM at hbad
  obtain ⟨c, hc, hne⟩ := List.any_eq_true.mp hbad
  have hr := fun x hx => G.rng x (List.mem_flatten.mpr ⟨_, hpS, hx⟩)
  have hhd : p.1.headD 0 ∈ p.1 := by
    cases hpe : p.1 with
    | nil => exact absurd hpe hpn
    | cons x r => simp
  rw [hf c (hr c hc).1 (hr c hc).2, hf _ (hr _ hhd).1 (hr _ hhd).2, hsame _ hpS c hc _ hhd] at hne
  simp at hne
/-- a train whose cars would go on unlike: no rises -/
theorem rises_none {n k : Nat} {S T : Tr.St} (Y : Yd n k) (G : Good n k S) (G' : Good n k T) (a : Int → Int) (q : Int) (hD : ∀ c : Int, 0 ≤ c → c < (n : Int) → gI (heightsM T) c - gI (heightsM S) c = a c + q * (k : Nat)) (h0 : ∀ c : Int, 0 ≤ c → c < (n : Int) → 0 ≤ a c) (hex : ∃ c, 0 ≤ c ∧ c < (n : Int) ∧ a c < (k : Nat))
    (hun : ∃ t ∈ S, ∃ c ∈ t, ∃ d ∈ t, a c ≠ a d) : risesM S T = none := by
  obtain ⟨ht, hf⟩ := found_eq Y G G' a q hD h0 hex
  obtain ⟨t, htS, c, hc, d, hd, hne⟩ := hun
  unfold risesM
  by_cases hw : wordM S ≠ wordM T
  · rw [if_pos hw]
  · rw [if_neg hw, if_pos]
    rw [G.len]
    obtain ⟨i, hi⟩ := List.getElem?_of_mem htS
    have htn : t ≠ [] := fun z => by rw [z] at hc; cases hc
    have hmem : (t, i) ∈ trL S := by
      unfold trL
      rw [List.mem_filter]
      refine ⟨?_, by simpa using htn⟩
      rw [List.mem_iff_getElem?]
      exact ⟨i, by rw [List.getElem?_zipIdx, hi]; simp⟩
    refine List.any_eq_true.mpr ⟨(t, i), hmem, ?_⟩
    have hr := fun x (hx : x ∈ t) => G.rng x (List.mem_flatten.mpr ⟨_, htS, hx⟩)
    have hhd : t.headD 0 ∈ t := by
      cases hpe : t with
      | nil => exact absurd hpe htn
      | cons x r => simp
    unfold badM
    rw [List.any_eq_true]
    by_cases h1 : a c = a (t.headD 0)
    · refine ⟨d, hd, ?_⟩
      rw [hf d (hr d hd).1 (hr d hd).2, hf _ (hr _ hhd).1 (hr _ hhd).2, decide_eq_false (fun z => hne (h1.trans z.symm))]; rfl
    · refine ⟨c, hc, ?_⟩
      rw [hf c (hr c hc).1 (hr c hc).2, hf _ (hr _ hhd).1 (hr _ hhd).2, decide_eq_false h1]; rfl
end Tr
/-! Mathematics 3: turned and moved states. -/
namespace Tr
def wordOf (r : List Int) : List Int := r.drop (r.idxOf 0) ++ r.take (r.idxOf 0)
theorem wordOf_at {u v : List Int} (h : (0 : Int) ∉ u) : wordOf (u ++ 0 :: v) = 0 :: v ++ u := by
  have e : (u ++ 0 :: v).idxOf 0 = u.length := by
    rw [List.idxOf_append, if_neg h]; simp
  unfold wordOf
  rw [e, List.drop_left, List.take_left]
theorem wordOf_rot {x y : List Int} (hn : (x ++ y).Nodup) (h0 : (0 : Int) ∈ x ++ y) : wordOf (y ++ x) = wordOf (x ++ y) := by
  have hx := List.nodup_append.mp hn
  rcases List.mem_append.mp h0 with h | h
  · obtain ⟨p, q, rfl⟩ := List.append_of_mem h
    have hy : (0 : Int) ∉ y := fun z => hx.2.2 0 h 0 z rfl
    have hp : (0 : Int) ∉ p := fun z => (List.nodup_append.mp hx.1).2.2 0 z 0 (by simp) rfl
    have e1 : y ++ (p ++ 0 :: q) = (y ++ p) ++ 0 :: q := by simp
    have e2 : (p ++ 0 :: q) ++ y = p ++ 0 :: (q ++ y) := by simp
    rw [e1, e2, wordOf_at (by simp [hy, hp]), wordOf_at hp]; simp
  · obtain ⟨p, q, rfl⟩ := List.append_of_mem h
    have hy : (0 : Int) ∉ x := fun z => hx.2.2 0 z 0 h rfl
    have hp : (0 : Int) ∉ p := fun z => (List.nodup_append.mp hx.2.1).2.2 0 z 0 (by simp) rfl
    have e1 : x ++ (p ++ 0 :: q) = (x ++ p) ++ 0 :: q := by simp
    have e2 : (p ++ 0 :: q) ++ x = p ++ 0 :: (q ++ x) := by simp
    rw [e1, e2, wordOf_at hp, wordOf_at (by simp [hy, hp])]; simp
theorem read_perm (S : Tr.St) : (readM S).Perm S.flatten := by unfold readM; exact List.Perm.flatten (List.reverse_perm S)
theorem good_rot {n k : Nat} {S V : Tr.St} (Y : Yd n k) (G : Good n k S) (hl : V.length = k) {x y : List Int} (h1 : readM S = x ++ y) (h2 : readM V = y ++ x) : Good n k V ∧ wordM S = wordM V := by
  have hp2 : (readM V).Perm (readM S) := by rw [h1, h2]; exact List.perm_append_comm
  have hp : V.flatten.Perm S.flatten := ((read_perm V).symm.trans hp2).trans (read_perm S)
  refine ⟨⟨hl, by rw [hp.length_eq, G.cars], hp.nodup_iff.mpr G.nd, fun c hc => G.rng c (hp.mem_iff.mp hc)⟩, ?_⟩
  have hn : (x ++ y).Nodup := by rw [← h1]; exact (read_perm S).nodup_iff.mpr G.nd
  have h0 : (0 : Int) ∈ x ++ y := by rw [← h1]; exact (read_perm S).mem_iff.mpr (G.zero Y)
  show wordOf (readM S) = wordOf (readM V)
  rw [h1, h2, wordOf_rot hn h0]
/-! ### turned -/
theorem turnM_at {n k m : Nat} {S : Tr.St} (G : Good n k S) {i : Nat} (hi : i < k) (hm : m < k) : (turnM S m)[i]? = some (trainAt S (if m ≤ i then i - m else i + k - m)) := by
  unfold turnM
  rw [G.len, List.getElem?_map, List.getElem?_range hi]
  show some (trainAt S ((((i : Nat) : Int) - (m : Nat)) % ((k : Nat) : Int)).toNat) = _
  have e : (((i : Nat) : Int) - (m : Nat)) % ((k : Nat) : Int) = ((if m ≤ i then i - m else i + k - m : Nat) : Int) := by
    by_cases h : m ≤ i
    · rw [if_pos h]
      rw [Int.emod_eq_of_lt (by omega) (by omega)]; omega
    · rw [if_neg h, ← Int.add_emod_right]
      rw [Int.emod_eq_of_lt (by omega) (by omega)]; omega
  rw [e, Int.toNat_natCast]
theorem turnM_len {n k : Nat} {S : Tr.St} (G : Good n k S) (m : Nat) : (turnM S m).length = k := by unfold turnM; simp [G.len]
theorem rot_turn {n k m : Nat} {S : Tr.St} (G : Good n k S) (m1 : 1 ≤ m) (hm : m < k) : rotM S m = turnM S m := by
  have hlr : (rotM S m).length = k := by unfold rotM; rw [List.length_append, List.length_drop, List.length_take, G.len]; omega
  apply List.ext_getElem?
  intro i
  by_cases hi : i < k
  · rw [turnM_at G hi hm]
    unfold rotM
    rw [G.len]
    have hl := G.len
    by_cases h : m ≤ i
    · rw [if_pos h, List.getElem?_append_right (by rw [List.length_drop]; omega), List.length_drop, List.getElem?_take_of_lt (by omega)]
      have e : i - (S.length - (k - m)) = i - m := by omega
      rw [e]
      exact trainAt_get (by omega)
    · rw [if_neg h, List.getElem?_append_left (by rw [List.length_drop]; omega), List.getElem?_drop]
      have e : k - m + i = i + k - m := by omega
      rw [e]
      exact trainAt_get (by omega)
  · rw [List.getElem?_eq_none (by omega), List.getElem?_eq_none (by rw [turnM_len G]; omega)]
theorem good_turn {n k m : Nat} {S : Tr.St} (Y : Yd n k) (G : Good n k S) (m1 : 1 ≤ m) (hm : m < k) : Good n k (turnM S m) ∧ wordM S = wordM (turnM S m) := by
  refine good_rot Y G (turnM_len G m) (x := (S.drop (k - m)).reverse.flatten) (y := (S.take (k - m)).reverse.flatten) ?_ ?_
  · unfold readM
    rw [← List.flatten_append, ← List.reverse_append, List.take_append_drop]
  · rw [← rot_turn G m1 hm]
    unfold readM rotM
    rw [G.len, List.reverse_append, List.flatten_append]
theorem turn_st {n k m : Nat} {S : Tr.St} (Y : Yd n k) (G : Good n k S) (m1 : 1 ≤ m) (hm : m < k) {c : Int} (hc : c ∈ S.flatten) :
    stIx (turnM S m) c = (if stIx S c + m < k then stIx S c + m else stIx S c + m - k) ∧ condM (turnM S m) c = condM S c := by
  have G' := (good_turn Y G m1 hm).1
  have hst : stIx S c < k := G.len ▸ stIx_lt hc
  have hat := (turnM_at G (i := if stIx S c + m < k then stIx S c + m else stIx S c + m - k) (m := m) (by split <;> omega) hm)
  have e : (if m ≤ (if stIx S c + m < k then stIx S c + m else stIx S c + m - k) then (if stIx S c + m < k then stIx S c + m else stIx S c + m - k) - m else (if stIx S c + m < k then stIx S c + m else stIx S c + m - k) + k - m) = stIx S c := by
    split <;> split <;> (try split) <;> omega
  rw [e] at hat
  have h1 := stIx_eq G'.nd hat (stIx_at hc).2
  refine ⟨h1, ?_⟩
  unfold condM
  rw [h1]
  have h2 : trainAt (turnM S m) (if stIx S c + m < k then stIx S c + m else stIx S c + m - k) = trainAt S (stIx S c) := by
    unfold trainAt at hat ⊢
    rw [List.getD_eq_getElem?_getD, hat]; rfl
  rw [h2]
/-! ### heights by cases -/
theorem jM_val {S : Tr.St} {k : Nat} {c : Int} (h0 : stIx S 0 < k) (hc : stIx S c < k) : jM S (k : Nat) c = if condM S c = true then (k : Int) else if stIx S c ≤ stIx S 0 then (stIx S 0 : Int) - stIx S c else (stIx S 0 : Int) - stIx S c + k := by
  unfold jM
  split
  · rfl
  · split
    · exact Int.emod_eq_of_lt (by omega) (by omega)
    · rw [← Int.add_emod_right]
      exact Int.emod_eq_of_lt (by omega) (by omega)
theorem turn_heights {n k m : Nat} {S : Tr.St} (Y : Yd n k) (G : Good n k S) (m1 : 1 ≤ m) (hm : m < k) {c : Int} (hc : c ∈ S.flatten) :
    gI (heightsM (turnM S m)) c - gI (heightsM S) c = (m : Int) + (if stIx S 0 + m < k then 0 else -1) * (k : Nat) := by
  have G' := (good_turn Y G m1 hm).1
  have h0 := G.zero Y
  have hmem : c ∈ (turnM S m).flatten := G'.has (G.rng c hc).1 (G.rng c hc).2
  have hs0 : stIx S 0 < k := G.len ▸ stIx_lt h0
  have hsc : stIx S c < k := G.len ▸ stIx_lt hc
  have hu0 : stIx (turnM S m) 0 < k := G'.len ▸ stIx_lt (G'.zero Y)
  have huc : stIx (turnM S m) c < k := G'.len ▸ stIx_lt hmem
  obtain ⟨e1, f1⟩ := turn_st Y G m1 hm h0
  obtain ⟨e2, f2⟩ := turn_st Y G m1 hm hc
  rw [heights_eq Y G' hmem, heights_eq Y G hc, jM_val hu0 huc, jM_val hs0 hsc, f2]
  rw [e1, e2]
  have e3 : (if stIx S 0 + m < k then (0 : Int) else -1) * (k : Nat) = if stIx S 0 + m < k then 0 else -(k : Int) := by split <;> omega
  rw [e3]
  generalize stIx S 0 = z at *
  generalize stIx S c = i at *
  by_cases h : condM S c = true
  · rw [if_pos h, if_pos h]; split <;> omega
  · rw [if_neg h, if_neg h]
    by_cases a1 : z + m < k <;> by_cases a2 : i + m < k <;> simp only [a1, a2, if_true, if_false] <;> (repeat' split) <;> omega
/-! ### moved -/
theorem moveM_len {n k : Nat} {S : Tr.St} (G : Good n k S) (s : Nat) : (moveM S s).length = k := by unfold moveM; simp [G.len]
def nxt (k s : Nat) : Nat := if s + 1 < k then s + 1 else 0
theorem nxt_mod {k s : Nat} (hs : s < k) : (s + 1) % k = nxt k s := by
  unfold nxt
  split
  · exact Nat.mod_eq_of_lt (by assumption)
  · have e : s + 1 = k := by omega
    rw [e, Nat.mod_self]
theorem move_at {n k s : Nat} {S : Tr.St} (Y : Yd n k) (G : Good n k S) (hs : s < k) {i : Nat} (hi : i < k) : (moveM S s)[i]? = some (if i = s then [] else if i = nxt k s then trainAt S i ++ trainAt S s else trainAt S i) := by
  have hl := G.len
  have hk2 := Y.k2
  have hns : nxt k s < k := by unfold nxt; split <;> omega
  have hne : nxt k s ≠ s := by unfold nxt; split <;> omega
  unfold moveM
  rw [hl, nxt_mod hs]
  by_cases h1 : i = s
  · subst h1
    rw [if_pos rfl, List.getElem?_set_self (by rw [List.length_set]; omega)]
  · rw [if_neg h1, List.getElem?_set_ne (Ne.symm h1)]
    by_cases h2 : i = nxt k s
    · subst h2
      rw [if_pos rfl, List.getElem?_set_self (by omega)]
    · rw [if_neg h2, List.getElem?_set_ne (Ne.symm h2)]
      exact trainAt_get (by omega)
theorem move_read {n k s : Nat} {S : Tr.St} (Y : Yd n k) (G : Good n k S) (hs : s < k) : ∃ x y, readM S = x ++ y ∧ readM (moveM S s) = y ++ x := by
  have hl := G.len
  have hk2 := Y.k2
  by_cases h : s + 1 < k
  · have h1 : S = S.take s ++ (trainAt S s :: trainAt S (s + 1) :: S.drop (s + 2)) := by
      have e1 := (List.take_append_drop s S).symm
      have g1 : S[s]'(by omega) = trainAt S s := Option.some.inj ((List.getElem?_eq_getElem (by omega)).symm.trans (trainAt_get (by omega)))
      have g2 : S[s + 1]'(by omega) = trainAt S (s + 1) := Option.some.inj ((List.getElem?_eq_getElem (by omega)).symm.trans (trainAt_get (by omega)))
      rw [List.drop_eq_getElem_cons (show s < S.length by omega), List.drop_eq_getElem_cons (show s + 1 < S.length by omega), g1, g2] at e1
      exact e1
    have hm : moveM S s = S.take s ++ ([] :: (trainAt S (s + 1) ++ trainAt S s) :: S.drop (s + 2)) := by
      have hts : (S.take s).length = s := by rw [List.length_take]; omega
      unfold moveM
      rw [hl, nxt_mod hs]
      unfold nxt
      rw [if_pos h]
      generalize trainAt S (s + 1) = u at h1 ⊢
      generalize trainAt S s = t at h1 ⊢
      generalize S.take s = A at h1 hts ⊢
      generalize S.drop (s + 2) = C at h1 ⊢
      subst h1
      rw [List.set_append_right _ _ (by omega), List.set_append_right _ _ (by omega), hts]
      have e : s + 1 - s = 1 := by omega
      rw [e, Nat.sub_self]; rfl
    refine ⟨readM S, [], by simp, ?_⟩
    unfold readM
    rw [hm]
    have hr : S.reverse.flatten = (S.take s ++ (trainAt S s :: trainAt S (s + 1) :: S.drop (s + 2))).reverse.flatten := by rw [← h1]
    rw [hr]
    simp
  · have hsk : s = k - 1 := by omega
    have h1 : S = trainAt S 0 :: ((S.drop 1).take (k - 2) ++ [trainAt S s]) := by
      have g1 : S[0]'(by omega) = trainAt S 0 := Option.some.inj ((List.getElem?_eq_getElem (by omega)).symm.trans (trainAt_get (by omega)))
      have g2 : S[s]'(by omega) = trainAt S s := Option.some.inj ((List.getElem?_eq_getElem (by omega)).symm.trans (trainAt_get (by omega)))
      have e0 : S = S[0]'(by omega) :: S.drop 1 := by
        have := List.drop_eq_getElem_cons (show 0 < S.length by omega)
        rw [List.drop_zero] at this
        exact this
      have e1 := (List.take_append_drop (k - 2) (S.drop 1)).symm
      have e2 : (S.drop 1).drop (k - 2) = [trainAt S s] := by
        rw [List.drop_drop]
        have e3 : 1 + (k - 2) = s := by omega
        rw [e3, List.drop_eq_getElem_cons (show s < S.length by omega), g2, List.drop_eq_nil_of_le (by omega)]
      rw [e2] at e1
      rw [← g1]
      rw [← e1]
      exact e0
    have hm : moveM S s = (trainAt S 0 ++ trainAt S s) :: ((S.drop 1).take (k - 2) ++ [[]]) := by
      have hts : ((S.drop 1).take (k - 2)).length = k - 2 := by rw [List.length_take, List.length_drop]; omega
      unfold moveM
      rw [hl, nxt_mod hs]
      unfold nxt
      rw [if_neg h]
      generalize trainAt S 0 = u at h1 ⊢
      generalize trainAt S s = t at h1 ⊢
      generalize (S.drop 1).take (k - 2) = M at h1 hts ⊢
      subst h1
      rw [List.set_cons_zero]
      have e : s = (k - 2) + 1 := by omega
      rw [e, List.set_cons_succ, List.set_append_right _ _ (by omega), hts, Nat.sub_self]; rfl
    refine ⟨trainAt S s, ((S.drop 1).take (k - 2)).reverse.flatten ++ trainAt S 0, ?_, ?_⟩
    · unfold readM
      have hr : S.reverse.flatten = (trainAt S 0 :: ((S.drop 1).take (k - 2) ++ [trainAt S s])).reverse.flatten := by rw [← h1]
      rw [hr]; simp
    · unfold readM
      rw [hm]; simp
theorem good_move {n k s : Nat} {S : Tr.St} (Y : Yd n k) (G : Good n k S) (hs : s < k) : Good n k (moveM S s) ∧ wordM S = wordM (moveM S s) := by
  obtain ⟨x, y, h1, h2⟩ := move_read Y G hs
  exact good_rot Y G (moveM_len G s) h1 h2
end Tr
/-! Mathematics 4: what the law asks. -/
namespace Tr
theorem full_iff {S : Tr.St} : fullM S = true ↔ ∀ t ∈ S, t ≠ [] := by
  unfold fullM
  rw [List.all_eq_true]
  constructor
  · intro h t ht z
    have := h t ht
    rw [decide_eq_true z] at this
    cases this
  · intro h t ht
    rw [decide_eq_false (h t ht)]; rfl
theorem idxOf_lt {t : List Int} {c : Int} (h : c ∈ t) : t.idxOf c < t.length := List.idxOf_lt_length_iff.mpr h
section
variable {n k s : Nat} {S : Tr.St}
theorem nxt_lt (hk : 2 ≤ k) : nxt k s < k := by unfold nxt; split <;> omega
theorem nxt_ne (hk : 2 ≤ k) : nxt k s ≠ s := by unfold nxt; split <;> omega
theorem move_st (Y : Yd n k) (G : Good n k S) (hs : s < k) {c : Int} (hc : c ∈ S.flatten) : stIx (moveM S s) c = if stIx S c = s then nxt k s else stIx S c := by
  have G' := (good_move Y G hs).1
  have hst : stIx S c < k := G.len ▸ stIx_lt hc
  have hmem := (stIx_at hc).2
  by_cases h : stIx S c = s
  · rw [if_pos h]
    have hat := move_at Y G hs (nxt_lt (s := s) Y.k2)
    rw [if_neg (nxt_ne Y.k2), if_pos rfl] at hat
    exact stIx_eq G'.nd hat (by rw [h] at hmem; simp [hmem])
  · rw [if_neg h]
    have hat := move_at Y G hs hst
    rw [if_neg h] at hat
    by_cases h2 : stIx S c = nxt k s
    · rw [if_pos h2] at hat
      exact stIx_eq G'.nd hat (by simp [hmem])
    · rw [if_neg h2] at hat
      exact stIx_eq G'.nd hat hmem
theorem move_train (Y : Yd n k) (G : Good n k S) (hs : s < k) {i : Nat} (hi : i < k) : trainAt (moveM S s) i = if i = s then [] else if i = nxt k s then trainAt S i ++ trainAt S s else trainAt S i := by
  have := move_at Y G hs hi
  unfold trainAt at this ⊢
  rw [List.getD_eq_getElem?_getD, this]; rfl
theorem notin_train (G : Good n k S) {c : Int} {i : Nat} (hi : i < k) (h : stIx S c ≠ i) : c ∉ trainAt S i := fun z => h (stIx_eq G.nd (trainAt_get (by rw [G.len]; exact hi)) z)
theorem move_cond (Y : Yd n k) (G : Good n k S) (hs : s < k) {c : Int} (hc : c ∈ S.flatten) : condM (moveM S s) c = if stIx S 0 = s ∧ stIx S c = nxt k s then true else if stIx S 0 ≠ s ∧ stIx S c = s then false else condM S c := by
  have h0 := G.zero Y
  have hk2 := Y.k2
  have hg := nxt_lt (s := s) hk2
  have hgn := nxt_ne (s := s) hk2
  have hsc : stIx S c < k := G.len ▸ stIx_lt hc
  have hs0 : stIx S 0 < k := G.len ▸ stIx_lt h0
  have hst := move_st Y G hs hc
  have hcm := (stIx_at hc).2
  have h0m := (stIx_at h0).2
  have hV : condM (moveM S s) c = (decide ((0 : Int) ∈ trainAt (moveM S s) (stIx (moveM S s) c)) && decide ((((trainAt (moveM S s) (stIx (moveM S s) c)).idxOf c : Nat) : Int) < (((trainAt (moveM S s) (stIx (moveM S s) c)).idxOf 0 : Nat) : Int))) := rfl
  have hSc : condM S c = (decide ((0 : Int) ∈ trainAt S (stIx S c)) && decide ((((trainAt S (stIx S c)).idxOf c : Nat) : Int) < (((trainAt S (stIx S c)).idxOf 0 : Nat) : Int))) := rfl
  by_cases h1 : stIx S c = s
  · rw [if_pos h1] at hst
    have hT : trainAt (moveM S s) (nxt k s) = trainAt S (nxt k s) ++ trainAt S s := by rw [move_train Y G hs hg, if_neg hgn, if_pos rfl]
    rw [h1] at hcm
    have hcg : c ∉ trainAt S (nxt k s) := notin_train G hg (by omega)
    have hic : (trainAt S (nxt k s) ++ trainAt S s).idxOf c = (trainAt S (nxt k s)).length + (trainAt S s).idxOf c := by rw [List.idxOf_append, if_neg hcg]; omega
    rw [hV, hst, hT, hic]
    by_cases h2 : stIx S 0 = s
    · rw [if_neg (by omega), if_neg (by omega), hSc, h1]
      rw [h2] at h0m
      have h0g : (0 : Int) ∉ trainAt S (nxt k s) := notin_train G hg (by omega)
      have hi0 : (trainAt S (nxt k s) ++ trainAt S s).idxOf 0 = (trainAt S (nxt k s)).length + (trainAt S s).idxOf 0 := by rw [List.idxOf_append, if_neg h0g]; omega
      rw [hi0]
      have hm : (0 : Int) ∈ trainAt S (nxt k s) ++ trainAt S s := by simp [h0m]
      rw [decide_eq_true hm, decide_eq_true h0m, Bool.true_and, Bool.true_and]
      exact decide_eq_decide.mpr (by omega)
    · rw [if_neg (by omega), if_pos ⟨h2, h1⟩]
      have h0s : (0 : Int) ∉ trainAt S s := notin_train G hs h2
      by_cases h3 : (0 : Int) ∈ trainAt S (nxt k s)
      · have hi0 : (trainAt S (nxt k s) ++ trainAt S s).idxOf 0 = (trainAt S (nxt k s)).idxOf 0 := by rw [List.idxOf_append, if_pos h3]
        have := idxOf_lt h3
        rw [hi0, decide_eq_false (show ¬ ((((trainAt S (nxt k s)).length + (trainAt S s).idxOf c : Nat) : Int) < (((trainAt S (nxt k s)).idxOf 0 : Nat) : Int)) by omega), Bool.and_false]
      · rw [decide_eq_false (show ¬ (0 : Int) ∈ trainAt S (nxt k s) ++ trainAt S s by simp [h0s, h3]), Bool.false_and]
  · rw [if_neg h1] at hst
    by_cases h2 : stIx S c = nxt k s
    · have hT : trainAt (moveM S s) (nxt k s) = trainAt S (nxt k s) ++ trainAt S s := by rw [move_train Y G hs hg, if_neg hgn, if_pos rfl]
      rw [h2] at hcm
      have hic : (trainAt S (nxt k s) ++ trainAt S s).idxOf c = (trainAt S (nxt k s)).idxOf c := by rw [List.idxOf_append, if_pos hcm]
      have hlt := idxOf_lt hcm
      rw [hV, hst, h2, hT, hic]
      by_cases h3 : stIx S 0 = s
      · rw [if_pos ⟨h3, rfl⟩]
        rw [h3] at h0m
        have h0g : (0 : Int) ∉ trainAt S (nxt k s) := notin_train G hg (by omega)
        have hi0 : (trainAt S (nxt k s) ++ trainAt S s).idxOf 0 = (trainAt S (nxt k s)).length + (trainAt S s).idxOf 0 := by rw [List.idxOf_append, if_neg h0g]; omega
        rw [hi0, decide_eq_true (show (0 : Int) ∈ trainAt S (nxt k s) ++ trainAt S s by simp [h0m]), decide_eq_true (by omega)]; rfl
      · rw [if_neg (by omega), if_neg (by omega), hSc, h2]
        have h0s : (0 : Int) ∉ trainAt S s := notin_train G hs h3
        by_cases h4 : (0 : Int) ∈ trainAt S (nxt k s)
        · have hi0 : (trainAt S (nxt k s) ++ trainAt S s).idxOf 0 = (trainAt S (nxt k s)).idxOf 0 := by rw [List.idxOf_append, if_pos h4]
          rw [hi0, decide_eq_true h4, decide_eq_true (show (0 : Int) ∈ trainAt S (nxt k s) ++ trainAt S s by simp [h4])]
        · rw [decide_eq_false h4, decide_eq_false (show ¬ (0 : Int) ∈ trainAt S (nxt k s) ++ trainAt S s by simp [h0s, h4]), Bool.false_and, Bool.false_and]
    · rw [if_neg (by omega), if_neg (by omega), hV, hst, move_train Y G hs hsc, if_neg h1, if_neg h2]; rfl
/-- how the heights change by a move -/
theorem move_heights (Y : Yd n k) (G : Good n k S) (hs : s < k) {c : Int} (hc : c ∈ S.flatten) :
    gI (heightsM (moveM S s)) c - gI (heightsM S) c = (if stIx S c = s then 1 else 0) + (if stIx S 0 = s ∧ ¬ s + 1 < k then -1 else 0) * (k : Nat) := by
  have G' := (good_move Y G hs).1
  have h0 := G.zero Y
  have hk2 := Y.k2
  have hmem : c ∈ (moveM S s).flatten := G'.has (G.rng c hc).1 (G.rng c hc).2
  have hs0 : stIx S 0 < k := G.len ▸ stIx_lt h0
  have hsc : stIx S c < k := G.len ▸ stIx_lt hc
  have hu0 : stIx (moveM S s) 0 < k := G'.len ▸ stIx_lt (G'.zero Y)
  have huc : stIx (moveM S s) c < k := G'.len ▸ stIx_lt hmem
  rw [heights_eq Y G' hmem, heights_eq Y G hc, jM_val hu0 huc, jM_val hs0 hsc, move_cond Y G hs hc, move_st Y G hs h0, move_st Y G hs hc]
  have hco : condM S c = true → stIx S c = stIx S 0 := fun z => Decidable.byContradiction fun w => by rw [cond_other G.nd hc w] at z; cases z
  have e3 : (if stIx S 0 = s ∧ ¬ s + 1 < k then (-1 : Int) else 0) * (k : Nat) = if stIx S 0 = s ∧ ¬ s + 1 < k then -(k : Int) else 0 := by split <;> omega
  rw [e3]
  unfold nxt
  generalize condM S c = b at hco ⊢
  generalize stIx S 0 = z at hs0 hco ⊢
  generalize stIx S c = i at hsc hco ⊢
  clear hu0 huc e3 hmem G' h0 hc
  cases b with
  | true =>
    have hiz := hco rfl
    subst hiz
    by_cases hi : i = s
    · subst hi
      by_cases hw : i + 1 < k <;> simp only [hw, reduceIte, true_and, and_true, and_false, false_and, not_true_eq_false, not_false_eq_true, ne_eq] <;> (repeat' split) <;> (first | omega | (simp_all <;> omega))
    · simp only [hi, reduceIte, true_and, and_true, and_false, false_and, not_true_eq_false, not_false_eq_true, ne_eq]
      (repeat' split) <;> (first | omega | (simp_all <;> omega))
  | false =>
    clear hco
    simp only [Bool.false_eq_true, reduceIte]
    by_cases hz : z = s
    · subst hz
      by_cases hi : i = z
      · subst hi
        by_cases hw : i + 1 < k <;> simp only [hw, reduceIte, true_and, and_true, and_false, false_and, not_true_eq_false, not_false_eq_true, ne_eq, Bool.false_eq_true] <;> (repeat' split) <;> (first | omega | (simp_all <;> omega))
      · by_cases hw : z + 1 < k <;> simp only [hw, hi, reduceIte, true_and, and_true, and_false, false_and, not_true_eq_false, not_false_eq_true, ne_eq, Bool.false_eq_true] <;> (repeat' split) <;> (first | omega | (simp_all <;> omega))
    · by_cases hi : i = s
      · subst hi
        by_cases hw : i + 1 < k <;> simp only [hw, hz, reduceIte, true_and, and_true, and_false, false_and, not_true_eq_false, not_false_eq_true, ne_eq, Bool.false_eq_true] <;> (repeat' split) <;> (first | omega | (simp_all <;> omega))
      · simp only [hz, hi, reduceIte, true_and, and_true, and_false, false_and, not_true_eq_false, not_false_eq_true, ne_eq, Bool.false_eq_true]
        (repeat' split) <;> (first | omega | (simp_all <;> omega))
end
end Tr
/-! Mathematics 5: the law's questions answered. -/
namespace Tr
theorem maxI_eq {l : List Int} {v : Int} (h : v ∈ l) (hle : ∀ y ∈ l, y ≤ v) : maxI l = v := by
  have hne : l ≠ [] := fun z => by rw [z] at h; cases h
  have h1 := maxI_le v h
  have h2 := hle _ (maxI_mem hne)
  omega
def fT (l : List Int) (t : List Int) : Int := if t = [] then 0 else maxI (t.map fun c => gI l c)
theorem few_sum (l : List Int) : ∀ (S : Tr.St) (j : Nat), (((S.zipIdx j).filter fun p => !decide (p.1 = [])).map fun p => maxI (p.1.map fun c => gI l c)).sum = (S.map (fT l)).sum
  | [], j => rfl
  | t :: S, j => by
    rw [List.zipIdx_cons, List.map_cons, List.sum_cons]
    unfold fT
    by_cases h : t = []
    · rw [List.filter_cons_of_neg (by simp [h]), if_pos h, few_sum l S (j + 1)]
      unfold fT
      omega
    · rw [List.filter_cons_of_pos (by simp [h]), if_neg h, List.map_cons, List.sum_cons, few_sum l S (j + 1)]
      rfl
theorem fewM_eq (l : List Int) (S : Tr.St) : fewM l S = (S.map (fT l)).sum := few_sum l S 0
theorem sum_set (f : List Int → Int) (x : List Int) : ∀ {S : Tr.St} {i : Nat} {t : List Int}, S[i]? = some t → ((S.set i x).map f).sum = (S.map f).sum - f t + f x
  | [], i, t, h => by simp at h
  | u :: S, 0, t, h => by
    have e : u = t := by simpa using h
    subst e
    rw [List.set_cons_zero, List.map_cons, List.map_cons, List.sum_cons, List.sum_cons]; omega
  | u :: S, i + 1, t, h => by
    have h' : S[i]? = some t := by simpa using h
    rw [List.set_cons_succ, List.map_cons, List.map_cons, List.sum_cons, List.sum_cons, sum_set f x h']; omega
theorem sum_ind (f : List Int → Int) (b : Int) : ∀ (S : Tr.St) (s : Nat), (∀ (i : Nat) t, S[i]? = some t → f t = b + (if i = s then 1 else 0)) → (S.map f).sum = S.length * b + (if s < S.length then 1 else 0)
  | [], s, _ => by simp
  | u :: S, 0, h => by
    have h0 := h 0 u rfl
    have hr : ∀ t ∈ S, f t = b := fun t ht => by
      obtain ⟨i, hi⟩ := List.getElem?_of_mem ht
      have := h (i + 1) t (by simpa using hi)
      rw [if_neg (by omega)] at this
      omega
    have hs : (S.map f).sum = S.length * b := by
      clear h h0
      induction S with
      | nil => simp
      | cons v S ih =>
        rw [List.map_cons, List.sum_cons, ih (fun t ht => hr t (by simp [ht])), hr v (by simp), List.length_cons]
        have : (((S.length + 1 : Nat)) : Int) * b = S.length * b + b := by rw [Int.natCast_succ, Int.add_mul, Int.one_mul]
        omega
    rw [List.map_cons, List.sum_cons, hs, h0, List.length_cons]
    have : (((S.length + 1 : Nat)) : Int) * b = S.length * b + b := by rw [Int.natCast_succ, Int.add_mul, Int.one_mul]
    rw [this, if_pos rfl, if_pos (by omega)]
    omega
  | u :: S, s + 1, h => by
    have h0 := h 0 u rfl
    have ih := sum_ind f b S s (fun i t hi => by
      have := h (i + 1) t (by simpa using hi)
      rw [this]
      by_cases e : i = s <;> simp [e])
    rw [List.map_cons, List.sum_cons, ih, h0, List.length_cons]
    have : (((S.length + 1 : Nat)) : Int) * b = S.length * b + b := by rw [Int.natCast_succ, Int.add_mul, Int.one_mul]
    by_cases e : s < S.length
    · rw [if_neg (by omega), if_pos e, if_pos (by omega)]; omega
    · rw [if_neg (by omega), if_neg e, if_neg (by omega)]; omega
section
variable {n k s m : Nat} {S : Tr.St}
theorem Good.same (G : Good n k S) {t : List Int} (ht : t ∈ S) {c d : Int} (hc : c ∈ t) (hd : d ∈ t) : stIx S c = stIx S d := by
  obtain ⟨i, hi⟩ := List.getElem?_of_mem ht
  rw [stIx_eq G.nd hi hc, stIx_eq G.nd hi hd]
/-- a car at a station -/
theorem car_at (G : Good n k S) (hf : ∀ t ∈ S, t ≠ []) {i : Nat} (hi : i < k) : ∃ c, c ∈ trainAt S i ∧ stIx S c = i ∧ 0 ≤ c ∧ c < (n : Int) ∧ c ∈ S.flatten := by
  have hi' : i < S.length := by rw [G.len]; exact hi
  have hne := hf _ (trainAt_mem hi')
  obtain ⟨c, hc⟩ := List.exists_mem_of_ne_nil _ hne
  have hcS : c ∈ S.flatten := List.mem_flatten.mpr ⟨_, trainAt_mem hi', hc⟩
  exact ⟨c, hc, stIx_eq G.nd (trainAt_get hi') hc, (G.rng c hcS).1, (G.rng c hcS).2, hcS⟩
theorem rises_self (Y : Yd n k) (G : Good n k S) : (risesM S S).isSome = true := by
  obtain ⟨l, h, _⟩ := rises_eq Y G G rfl (fun _ => 0) 0 (fun c _ _ => by omega) (fun _ _ _ => Int.le_refl _) ⟨0, by omega, by have := Y.n1; omega, by have := Y.k2; omega⟩ (fun _ _ _ _ _ _ => rfl)
  rw [h]; rfl
theorem law1 (Y : Yd n k) (G : Good n k S) : (ronM S S).isSome = true := by
  have : stuckM S S = false := by unfold stuckM; rw [decide_eq_true rfl]; simp
  unfold ronM
  rw [this]
  exact rises_self Y G
theorem rises_turn (Y : Yd n k) (G : Good n k S) (m1 : 1 ≤ m) (hm : m < k) : ∃ l, risesM S (turnM S m) = some l ∧ maxI l = (m : Nat) := by
  obtain ⟨G', hw⟩ := good_turn Y G m1 hm
  obtain ⟨l, h, hl, hv⟩ := rises_eq Y G G' hw (fun _ => (m : Nat)) (if stIx S 0 + m < k then 0 else -1) (fun c c0 cn => turn_heights Y G m1 hm (G.has c0 cn)) (fun _ _ _ => by omega) ⟨0, by omega, by have := Y.n1; omega, by omega⟩ (fun _ _ _ _ _ _ => rfl)
  refine ⟨l, h, ?_⟩
  have hall : ∀ y ∈ l, y = (m : Nat) := fun y hy => by
    obtain ⟨i, hi⟩ := List.getElem?_of_mem hy
    have hil := (List.getElem?_eq_some_iff.mp hi).1
    have := hv (i : Nat) (by omega) (by omega)
    unfold gI at this
    rw [Int.toNat_natCast, List.getD_eq_getElem?_getD, hi] at this
    exact this
  have hne : l ≠ [] := fun z => by rw [z] at hl; have := Y.n1; simp at hl; omega
  exact hall _ (maxI_mem hne)
theorem turn_full (Y : Yd n k) (G : Good n k S) (hf : ∀ t ∈ S, t ≠ []) (m1 : 1 ≤ m) (hm : m < k) : ∀ t ∈ turnM S m, t ≠ [] := fun t ht => by
  obtain ⟨i, hi⟩ := List.getElem?_of_mem ht
  have hil := (List.getElem?_eq_some_iff.mp hi).1
  rw [turnM_len G] at hil
  rw [turnM_at G hil hm] at hi
  cases hi
  exact hf _ (trainAt_mem (by rw [G.len]; split <;> omega))
theorem law2 (Y : Yd n k) (G : Good n k S) (hf : ∀ t ∈ S, t ≠ []) (m1 : 1 ≤ m) (hm : m < k) : (ronM S (turnM S m)).isSome = false := by
  have hne : S ≠ turnM S m := fun z => by
    obtain ⟨c, hc, hst, _, _, hcS⟩ := car_at G hf (i := 0) (by omega)
    have h1 := (turn_st Y G m1 hm hcS).1
    rw [← z, hst, if_pos (by omega)] at h1
    omega
  have : stuckM S (turnM S m) = true := by
    unfold stuckM
    rw [full_iff.mpr hf, full_iff.mpr (turn_full Y G hf m1 hm), decide_eq_false hne]; rfl
  unfold ronM
  rw [if_pos this]; rfl
/-- the rises of a move and a turn behind it -/
theorem move_not_full (Y : Yd n k) (G : Good n k S) (hs : s < k) : fullM (moveM S s) = false := by
  cases h : fullM (moveM S s) with
  | false => rfl
  | true =>
    have := full_iff.mp h [] (List.mem_of_getElem? (i := s) (by rw [move_at Y G hs hs, if_pos rfl]))
    exact absurd rfl this
theorem fT_move (Y : Yd n k) (G : Good n k S) (hf : ∀ t ∈ S, t ≠ []) (hs : s < k) {l : List Int} {b : Int} (hb : 0 ≤ b) (hl : ∀ c : Int, 0 ≤ c → c < (n : Int) → gI l c = b + (if stIx S c = s then 1 else 0)) : fewM l (moveM S s) = 1 + b * ((k : Int) - 1) := by
  have hk2 := Y.k2
  have hg := nxt_lt (s := s) hk2
  have hgn := nxt_ne (s := s) hk2
  have hval : ∀ (i : Nat) t, S[i]? = some t → fT l t = b + (if i = s then 1 else 0) := fun i t hi => by
    have hne := hf t (List.mem_of_getElem? hi)
    have hc : ∀ c ∈ t, gI l c = b + (if i = s then 1 else 0) := fun c hc => by
      have hr := G.rng c (List.mem_flatten.mpr ⟨_, List.mem_of_getElem? hi, hc⟩)
      rw [hl c hr.1 hr.2, stIx_eq G.nd hi hc]
    unfold fT
    rw [if_neg hne]
    obtain ⟨c, hcm⟩ := List.exists_mem_of_ne_nil _ hne
    refine maxI_eq (List.mem_map.mpr ⟨c, hcm, hc c hcm⟩) fun y hy => ?_
    obtain ⟨d, hd, rfl⟩ := List.mem_map.mp hy
    rw [hc d hd]; exact Int.le_refl _
  have hsum := sum_ind (fT l) b S s hval
  rw [G.len, if_pos hs] at hsum
  have hgs : (s + 1) % S.length = nxt k s := by rw [G.len, nxt_mod hs]
  rw [fewM_eq]
  unfold moveM
  rw [hgs]
  have a1 : S[nxt k s]? = some (trainAt S (nxt k s)) := trainAt_get (by rw [G.len]; exact hg)
  have a2 : S[s]? = some (trainAt S s) := trainAt_get (by rw [G.len]; exact hs)
  have a3 : (S.set (nxt k s) (trainAt S (nxt k s) ++ trainAt S s))[s]? = some (trainAt S s) := by rw [List.getElem?_set_ne hgn]; exact a2
  rw [sum_set _ _ a3, sum_set _ _ a1, hsum, hval _ _ a1, hval _ _ a2, if_neg hgn, if_pos rfl]
  have e0 : fT l [] = 0 := rfl
  have e1 : fT l (trainAt S (nxt k s) ++ trainAt S s) = b + 1 := by
    have hne2 := hf _ (List.mem_of_getElem? a2)
    unfold fT
    rw [if_neg (by simp [hne2])]
    obtain ⟨c, hcm⟩ := List.exists_mem_of_ne_nil _ hne2
    have hgi : ∀ (i : Nat) (t : List Int), S[i]? = some t → ∀ c ∈ t, gI l c = b + (if i = s then 1 else 0) := fun i t hi c hc => by
      have hr := G.rng c (List.mem_flatten.mpr ⟨_, List.mem_of_getElem? hi, hc⟩)
      rw [hl c hr.1 hr.2, stIx_eq G.nd hi hc]
    refine maxI_eq (List.mem_map.mpr ⟨c, by simp [hcm], by rw [hgi s _ a2 c hcm, if_pos rfl]⟩) fun y hy => ?_
    obtain ⟨d, hd, rfl⟩ := List.mem_map.mp hy
    rcases List.mem_append.mp hd with hd | hd
    · rw [hgi _ _ a1 d hd, if_neg hgn]; omega
    · rw [hgi _ _ a2 d hd, if_pos rfl]; exact Int.le_refl _
  rw [e0, e1]
  have e2 : b * ((k : Int) - 1) = (k : Int) * b - b := by rw [Int.mul_sub, Int.mul_one, Int.mul_comm]
  rw [e2]; omega
theorem few_turn (G : Good n k S) (m1 : 1 ≤ m) (hm : m < k) (l : List Int) : fewM l (turnM S m) = fewM l S := by
  rw [fewM_eq, fewM_eq, ← rot_turn G m1 hm]
  unfold rotM
  have e : S.map (fT l) = (S.take (S.length - m)).map (fT l) ++ (S.drop (S.length - m)).map (fT l) := by rw [← List.map_append, List.take_append_drop]
  rw [e, List.map_append, List.sum_append, List.sum_append]
  omega
theorem law3 (Y : Yd n k) (G : Good n k S) (hf : ∀ t ∈ S, t ≠ []) (hs : s < k) : ∃ l, ronM S (moveM S s) = some l ∧ fewM l (moveM S s) = 1 := by
  obtain ⟨G', hw⟩ := good_move Y G hs
  have hk2 := Y.k2
  obtain ⟨c0, _, hc0, c00, c0n, _⟩ := car_at G hf (nxt_lt (s := s) hk2)
  obtain ⟨l, h, hl, hv⟩ := rises_eq Y G G' hw (fun c => 0 + if stIx S c = s then 1 else 0) (if stIx S 0 = s ∧ ¬ s + 1 < k then -1 else 0) (fun c a b => by rw [move_heights Y G hs (G.has a b)]; omega) (fun c _ _ => by split <;> omega) ⟨c0, c00, c0n, by rw [if_neg (by rw [hc0]; exact nxt_ne hk2)]; omega⟩ (fun t ht c hc d hd => by rw [G.same ht hc hd])
  refine ⟨l, ?_, ?_⟩
  · unfold ronM stuckM
    rw [move_not_full Y G hs]
    simp [h]
  · rw [fT_move Y G hf hs (Int.le_refl 0) hv]; omega
theorem law4 (Y : Yd n k) (G : Good n k S) (hf : ∀ t ∈ S, t ≠ []) (hs : s < k) : (ronM (moveM S s) S).isSome = false := by
  obtain ⟨G', hw⟩ := good_move Y G hs
  have hk2 := Y.k2
  have hg := nxt_lt (s := s) hk2
  obtain ⟨c1, hc1, hs1, c10, c1n, _⟩ := car_at G hf hg
  obtain ⟨c2, hc2, hs2, c20, c2n, _⟩ := car_at G hf hs
  have hT : trainAt (moveM S s) (nxt k s) = trainAt S (nxt k s) ++ trainAt S s := by rw [move_train Y G hs hg, if_neg (nxt_ne hk2), if_pos rfl]
  have h := rises_none Y G' G (fun c => (k : Int) - (if stIx S c = s then 1 else 0)) (-(if stIx S 0 = s ∧ ¬ s + 1 < k then -1 else 0) - 1) (fun c a b => by
      have := move_heights Y G hs (G.has a b)
      have e : (-(if stIx S 0 = s ∧ ¬ s + 1 < k then (-1 : Int) else 0) - 1) * (k : Nat) = -((if stIx S 0 = s ∧ ¬ s + 1 < k then (-1 : Int) else 0) * (k : Nat)) - (k : Nat) := by rw [Int.sub_mul, Int.neg_mul, Int.one_mul]
      rw [e]
      omega) (fun c _ _ => by split <;> omega) ⟨c2, c20, c2n, by rw [if_pos hs2]; omega⟩
    ⟨_, trainAt_mem (i := nxt k s) (by rw [G'.len]; exact hg), c1, by rw [hT]; simp [hc1], c2, by rw [hT]; simp [hc2], by rw [if_neg (by rw [hs1]; exact nxt_ne hk2), if_pos hs2]; omega⟩
  unfold ronM stuckM
  rw [move_not_full Y G hs]
  simp [h]
theorem law5 (Y : Yd n k) (G : Good n k S) (hf : ∀ t ∈ S, t ≠ []) (hs : s < k) (m1 : 1 ≤ m) (hm : m < k) : ∃ l, ronM S (turnM (moveM S s) m) = some l ∧ fewM l (turnM (moveM S s) m) = 1 + (m : Nat) * ((k : Int) - 1) := by
  obtain ⟨G', hw⟩ := good_move Y G hs
  obtain ⟨G2, hw2⟩ := good_turn Y G' m1 hm
  have hk2 := Y.k2
  obtain ⟨c0, _, hc0, c00, c0n, _⟩ := car_at G hf (nxt_lt (s := s) hk2)
  obtain ⟨l, h, hl, hv⟩ := rises_eq Y G G2 (hw.trans hw2) (fun c => ((m : Nat) : Int) + if stIx S c = s then 1 else 0) ((if stIx S 0 = s ∧ ¬ s + 1 < k then -1 else 0) + (if stIx (moveM S s) 0 + m < k then 0 else -1)) (fun c a b => by
      have e1 := move_heights Y G hs (G.has a b)
      have e2 := turn_heights Y G' m1 hm (G'.has a b)
      rw [Int.add_mul]
      omega) (fun c _ _ => by split <;> omega) ⟨c0, c00, c0n, by rw [if_neg (by rw [hc0]; exact nxt_ne hk2)]; omega⟩ (fun t ht c hc d hd => by rw [G.same ht hc hd])
  have hnf : fullM (turnM (moveM S s) m) = false := by
    cases hfl : fullM (turnM (moveM S s) m) with
    | false => rfl
    | true =>
      have hat := turnM_at G' (i := if s + m < k then s + m else s + m - k) (m := m) (by split <;> omega) hm
      have e : (if m ≤ (if s + m < k then s + m else s + m - k) then (if s + m < k then s + m else s + m - k) - m else (if s + m < k then s + m else s + m - k) + k - m) = s := by
        split <;> split <;> (try split) <;> omega
      rw [e, move_train Y G hs hs, if_pos rfl] at hat
      exact absurd rfl (full_iff.mp hfl [] (List.mem_of_getElem? hat))
  refine ⟨l, ?_, ?_⟩
  · unfold ronM stuckM
    rw [hnf]
    simp [h]
  · rw [few_turn G' m1 hm, fT_move Y G hf hs (by omega) hv]
end
theorem law6 : ∀ k : Fin 9, 2 ≤ k.val → (byLeftM k.val).length = k.val ∧ (byLeftM k.val)[k.val - 1]? = some 1 ∧ (byLeftM k.val).sum = reachedM k.val k.val := by decide +kernel
theorem trL_full {S : Tr.St} (hf : ∀ t ∈ S, t ≠ []) : (trL S).length = S.length := by
  unfold trL
  rw [List.filter_eq_self.mpr, List.length_zipIdx]
  intro p hp
  have h1 := List.mem_zipIdx hp
  have : p.1 ∈ S := by rw [h1.2.2]; exact List.getElem_mem _
  simpa using hf _ this
end Tr
/-! sum of a tuple; calls of a def by its own promise. -/
namespace Tr
open PySem PySem.Spec PyProof.Rows L2 RT
section
variable {prog : Program} {w : World} {A : Around} {E : Value → Shared → Prop} {s : Shared} {l : Addr} {its : List Value} {ns : List Int} {Q : Value → Shared → Prop}
theorem sumT_raw (hh : A.handled = none) (hl : s.heap.IsTuple l its.toArray) (hi : IntsAre its ns)
    (h : ∀ h' tk t', (∀ b o, s.heap.get? b = some o → h'.get? b = some o) → Q (.int ns.sum t') { s with heap := h', toks := tk }) : wpAny (model prog w) A (call (.builtin "sum") [.ref l]) Q E s := by
  obtain ⟨xs, e⟩ := hi.allInts.items
  have hn : numsOf (intItems xs).toList = ns := by rw [← e]; exact hi.numsOf
  rw [nums_intItems] at hn
  rw [e] at hl
  refine PySem.W.ktm_sumG hh hl fun h' tk t' hk => ?_
  have := h h' tk t' hk
  rw [preSum_eq, List.take_of_length_le (by simp), hn]; exact this
end
def rSumT (K : PySem.W.Frag) : List V → Hp → VK → Prop := fun vs H Q => ∃ (a : Addr) (ns : List Int), vs = [V.ref a] ∧ SqT K H a (ns.map V.int) ∧ Q (.int ns.sum) H
theorem cr_sumT {X : Cx} (hc : X.calm = true) : CallR X (.builtin "sum") (rSumT X.K) := by
  intro pins s σ H vs us Q I r h
  obtain ⟨a, ns, rfl, hs, q⟩ := h
  obtain ⟨its, rv, pl, hz⟩ := I.tuple hs
  rw [Vals.ref1 r]
  exact sumT_raw (I.ok.hd hc) (show s.heap.IsTuple a its.toArray from pl) rv.ints fun h' tk t' hk => ⟨.int _, H, I.kept hk, ⟨_, rfl⟩, q⟩
theorem cg_sumTup {K : PySem.W.Frag} {ns : List Int} : CG (rSumT K) [.tup (ns.map Dat.int)] (.int ns.sum) := fun B H xs k h Q q => by
  cases h with
  | cons r1 z =>
    cases z
    obtain ⟨a, xs, rfl, hb, hq, hd, hr⟩ := r1.tu K (ds := ns.map Dat.int) rfl
    rw [ints_das ns hd] at hq
    exact ⟨a, ns, rfl, hq, q _ H (.refl H) (.int _)⟩
/-- a def of the text by its promise -/
structure CalS (P : Program) (w : World) (K : PySem.W.Frag) (mg : Str → Option Value) (base : Heap) (x : Str) (k : Nat) (ps : List Str) (sp : Sp) : Prop where
  ex : ∃ (f : Addr) (fd : FuncData), FnOk P w K mg base CX0 k f fd ps sp ∧ mg x = some (.ref f) ∧ PySem.W.keepIn K (.ref f) = true ∧ Binds K fd ps []
theorem CalS.mono {P : Program} {w : World} {K : PySem.W.Frag} {mg : Str → Option Value} {base : Heap} {x : Str} {j k : Nat} {ps : List Str} {sp : Sp} (c : CalS P w K mg base x j ps sp) (h : j ≤ k) : CalS P w K mg base x k ps sp :=
  let ⟨f, fd, a, b, d, e⟩ := c.ex; ⟨f, fd, a.mono h, b, d, e⟩
theorem pe_calS {X : Cx} {x : Str} {k : Nat} {ps : List Str} {sp : Sp} {e : Expr} {es : List Expr} {t : TA} {p pos : Pos} (c : CalS X.prog X.w X.K X.mg X.base x k ps sp) (hr : Room k X.A) (hg : Gl X x) (ha : PA X (e :: es) t)
    (he : starEach (e :: es) X.env = (false, eval e X.env) :: starEach es X.env := by rfl) (hpl : (backTo pos (starEach es X.env)).any (·.1) = false := by rfl) (hd : (x == ("__debug__" : Str)) = false := by decide) : PE X (.Call (.Name x p) (e :: es) [] pos) (tCall sp [] E0 t) := by
  obtain ⟨f, fd, a, b, d, z⟩ := c.ex
  exact pe_call a hr hg b d z .nil pass0 ha hd he hpl
end Tr
/-! The law: what its last part is worth by data. -/
namespace Tr
open PySem PySem.Spec PyProof.Rows L2 RT
abbrev tCl (F : List Dat → Dat → Prop) (t : TA) : TE := tCall (spG F) [] E0 t
abbrev tTk (K : PySem.W.Frag) (i : TE) : TE := tCall (spTaken K) [] E0 (tCons (tVar 1) (tCons i tNil))
abbrev tLen (K : PySem.W.Frag) (i : Nat) : TE := tCB (rLenS K) (tCons (tVar i) tNil)
abbrev rTupL (K : PySem.W.Frag) : List V → Hp → VK → Prop := fun xs H Q => ∃ p ys, xs = [.ref p] ∧ ((SqL K H p ys ∧ ∀ l, H l = none → Q (.ref l) (upd H l (.tup ys))) ∨ (SqT K H p ys ∧ Q (.ref p) H))
abbrev v2 (i j : Nat) : TA := tCons (tVar i) (tCons (tVar j) tNil)
abbrev v3 (i j k : Nat) : TA := tCons (tVar i) (tCons (tVar j) (tCons (tVar k) tNil))
abbrev tNo : TS := tRet (tC (.bl false))
def tD8 (K : PySem.W.Frag) : TS := tAsg (tCB (rTupL K) (tCons (tLc (iList K (tVar 7)) (gName 14) tYes (tCB (rTupF K) (tCons (tVar 14) tNil)) [14]) tNil)) (gName 9)
def tD9 : TS := tIfS (tOr (tTest (tOp rNotB (tCl FIsFull (v2 4 9)) (tC (.bl true)))) (tTest (tOp rNotB (tCl FCanCome (v3 4 9 9)) (tC (.bl true))))) tNo tNext
def tD10 (K : PySem.W.Frag) : TS := tFor (iRng2 (tCons (tC (.int 1)) (tCons (tVar 2) tNil))) (gName 10)
  (tSeq (tAsg (tCl FTurned (v3 4 9 10)) (gName 11)) (tSeq (tIfS (tOr (tB (tCl FCanCome (v3 4 9 11))) (tNot (tB (tCl FCanComeAO (v3 4 9 11))))) tNo tNext)
    (tIfS (tOr (tTest (tOp rNe (tCl FFewestGroups (v3 4 9 11)) (tVar 10))) (tTest (tOp (rNeD K) (tCl FAllAtOnce (v3 4 9 10)) (tVar 11)))) tNo tNext)))
def tD11 : TS := tAsg (tCl FCountByLeft (v2 4 9)) (gName 12)
def tD12 (K : PySem.W.Frag) : TS := tIfS (tOr (tTest (tOp rNe (tOp (rIxT K) (tVar 12) (tUn (rU fun i => .int (-i)) (tC (.int 1)))) (tC (.int 1)))) (tOr (tTest (tOp rNe (tLen K 12) (tVar 2))) (tTest (tOp rNe (tCB (rSumT K) (tCons (tVar 12) tNil)) (tCl FCountReached (v2 4 9)))))) tNo tNext
def tD13 (K : PySem.W.Frag) : TS := tAsg (tTk K (tVar 2)) (gName 6)
def tD14 : TS := tAsg (tCl FLawMove (v2 9 6)) (gName 13)
def tD15 : TS := tIfS (tOr (tB (tCl FIsFull (v2 4 13))) (tOr (tTest (tOp rNe (tCl FFewestCalls (v3 4 9 13)) (tC (.int 1)))) (tB (tCl FCanCome (v3 4 13 9))))) tNo tNext
def tD16 : TS := tFor (iRng2 (tCons (tC (.int 1)) (tCons (tVar 2) tNil))) (gName 10)
  (tIfS (tTest (tOp rNe (tCl FFewestCalls (tCons (tVar 4) (tCons (tVar 9) (tCons (tCl FTurned (v3 4 13 10)) tNil)))) (tOp (rI0 fun i j => .int (i + j)) (tC (.int 1)) (tOp (rI CMul fun i j => .int (i * j)) (tVar 10) (tOp (rI0 fun i j => .int (i - j)) (tVar 2) (tC (.int 1)))))) ) tNo tNext)
def tD17 : TS := tRet (tC (.bl true))
/-- the slots: the yard, the trains, the state, .. -/
abbrev gL (r : Addr) (n k : Nat) (tr st s10 s11 s12 s6 s13 : Option Dat) : Gam := [none, some (.raw (.ref r)), some (.int k), some (.int n), some (yardD n k), none, s6, tr, none, st, s10, s11, s12, s13, none]
section
variable {r : Addr} {n k : Nat} {S : Tr.St} {K : PySem.W.Frag}
abbrev trainsD (S : Tr.St) : Dat := .list (S.map fun t => .list (t.map Dat.int))
theorem d8 (hk : S.length ≤ 100) : Rg (tD8 K) (gL r n k (some (trainsD S)) none none none none none none) (.nx (gL r n k (some (trainsD S)) (some (stD S)) none none none none none)) := by
  have hlc : Eg (tLc (iList K (tVar 7)) (gName 14) tYes (tCB (rTupF K) (tCons (tVar 14) tNil)) [14]) (gL r n k (some (trainsD S)) none none none none none none) (.list (S.map Dat.fz)) :=
    eg_lcA (js := [14]) S (fun t => .list (t.map Dat.int)) Dat.fz (fun t => (gL r n k (some (trainsD S)) none none none none none none).set 14 (some (.list (t.map Dat.int)))) (by simp) (ig_list (eg_var rfl)) (fun t _ => gg_name 14) (fun t _ => eg_cb (ag_cons (eg_var (i := 14) rfl) ag_nil) cg_tupF) (by omega)
  exact rg_set 9 (eg_cb (ag_cons hlc ag_nil) cg_tupL)
variable {tr s10 s11 s12 s6 s13 : Option Dat}
theorem d9 (Y : Yd n k) (G : Good n k S) (hf : ∀ t ∈ S, t ≠ []) : Rg tD9 (gL r n k tr (some (stD S)) none none none none none) (.nx (gL r n k tr (some (stD S)) none none none none none)) := by
  have h1 : fullM S = true := full_iff.mpr hf
  have h2 := law1 Y G
  exact rg_ifF (tg_is (tg_or (tg_test (eg_op (eg_call (ag_cons (eg_var (i := 4) rfl) (ag_cons (eg_var (i := 9) rfl) ag_nil)) ⟨n, k, S, rfl, Y, G, rfl⟩) eg_bl rg_notB)) fun _ => tg_test (eg_op (eg_call (ag_cons (eg_var (i := 4) rfl) (ag_cons (eg_var (i := 9) rfl) (ag_cons (eg_var (i := 9) rfl) ag_nil))) ⟨n, k, S, S, rfl, Y, G, G, rfl⟩) eg_bl rg_notB)) (by rw [h1, h2]; rfl)) rg_nx
theorem ig_law {Γ : Gam} (h : Γ[2]? = some (some (.int (k : Nat)))) (hk : k ≤ 8) (hk2 : 2 ≤ k) : IG (iRng2 (tCons (tC (.int 1)) (tCons (tVar 2) tNil))) Γ ((List.range (k - 1)).map fun i => Dat.int ((i + 1 : Nat) : Int)) := by
  have h1 := ig_rng2 (Γ := Γ) (lo := 1) (n := (k : Nat)) (ta := tCons (tC (.int 1)) (tCons (tVar 2) tNil)) (ag_cons eg_int (ag_cons (eg_var h) ag_nil)) (by omega) (by omega)
  have e1 : (((k : Nat) : Int) - 1).toNat = k - 1 := by omega
  rw [e1] at h1
  have e2 : ((List.range (k - 1)).map fun i => Dat.int (1 + (i : Nat))) = (List.range (k - 1)).map fun i => Dat.int ((i + 1 : Nat) : Int) := List.map_congr_left fun i _ => by congr 1; omega
  rw [e2] at h1
  exact h1
theorem rng_lt {m i a : Nat} (h : (List.range m)[i]? = some a) : a = i ∧ i < m := by
  have hl := (List.getElem?_eq_some_iff.mp h).1
  rw [List.length_range] at hl
  rw [List.getElem?_range hl] at h
  cases h
  exact ⟨rfl, hl⟩
theorem d10 (Y : Yd n k) (G : Good n k S) (hf : ∀ t ∈ S, t ≠ []) : Rg (tD10 K) (gL r n k tr (some (stD S)) none none none none none) (.nx (gL r n k tr (some (stD S)) none none none none none)) := by
  have hk8 := Y.k8
  have hk2 := Y.k2
  refine rg_for (List.range (k - 1)) (fun i => .int ((i + 1 : Nat) : Int)) (fun _ => gL r n k tr (some (stD S)) none none none none none) (k - 1) _ (ig_law rfl hk8 hk2) (fun i a hi ha => ?_) (.inl ⟨by simp, rfl⟩)
  obtain ⟨rfl, hlt⟩ := rng_lt ha
  have m1 : 1 ≤ a + 1 := by omega
  have hm : a + 1 < k := by omega
  generalize a + 1 = m at m1 hm ⊢
  have Gt := (good_turn Y G m1 hm).1
  obtain ⟨l, hl, hx⟩ := rises_turn Y G m1 hm
  have h2 := law2 Y G hf m1 hm
  have h3 := rot_turn G m1 hm
  refine ⟨_, _, gg_name 10, rg_weak (Γ1 := gL r n k tr (some (stD S)) (some (.int (m : Nat))) (some (stD (turnM S m))) none none none) ?_ (wkr_keep (wkr_keep (wkr_keep (wkr_keep (wkr_keep (wkr_keep (wkr_keep (wkr_keep (wkr_keep (wkr_keep (wkr_drop (wkr_drop (wkr_refl _)))))))))))))⟩
  refine rg_seq (rg_set 11 (eg_call (ag_cons (eg_var (i := 4) rfl) (ag_cons (eg_var (i := 9) rfl) (ag_cons (eg_var (i := 10) rfl) ag_nil))) ⟨n, k, m, S, rfl, Y, G, by omega, rfl⟩)) ?_
  refine rg_seq (rg_ifF (tg_is (tg_or (tg_B (eg_call (ag_cons (eg_var (i := 4) rfl) (ag_cons (eg_var (i := 9) rfl) (ag_cons (eg_var (i := 11) rfl) ag_nil))) ⟨n, k, S, turnM S m, rfl, Y, G, Gt, rfl⟩)) fun _ => tg_not (tg_B (eg_call (ag_cons (eg_var (i := 4) rfl) (ag_cons (eg_var (i := 9) rfl) (ag_cons (eg_var (i := 11) rfl) ag_nil))) ⟨n, k, S, turnM S m, rfl, Y, G, Gt, rfl⟩))) (by rw [h2, hl]; rfl)) rg_nx) ?_
  exact rg_ifF (tg_is (tg_or (tg_test (eg_op (eg_call (ag_cons (eg_var (i := 4) rfl) (ag_cons (eg_var (i := 9) rfl) (ag_cons (eg_var (i := 11) rfl) ag_nil))) ⟨n, k, S, turnM S m, l, rfl, Y, G, Gt, hl, rfl⟩) (eg_var (i := 10) rfl) rg_neI)) fun _ => tg_test (eg_op (eg_call (ag_cons (eg_var (i := 4) rfl) (ag_cons (eg_var (i := 9) rfl) (ag_cons (eg_var (i := 10) rfl) ag_nil))) ⟨n, k, m, S, rfl, Y, G, m1, hm, rfl⟩) (eg_var (i := 11) rfl) rg_neSt)) (by rw [hx, h3]; simp)) rg_nx
theorem d11 (Y : Yd n k) (G : Good n k S) (hf : ∀ t ∈ S, t ≠ []) : Rg tD11 (gL r n k tr (some (stD S)) none none none none none) (.nx (gL r n k tr (some (stD S)) none none (some (.tup ((byLeftM k).map Dat.int))) none none)) :=
  rg_set 12 (eg_call (ag_cons (eg_var (i := 4) rfl) (ag_cons (eg_var (i := 9) rfl) ag_nil)) ⟨n, k, S, rfl, Y, G, by rw [trL_full hf, G.len], rfl⟩)
theorem atI_last {α : Type} {xs : List α} {k : Nat} {x : α} (hl : xs.length = k) (hk : 1 ≤ k) (h : xs[k - 1]? = some x) : atI xs (-1) = some x := by
  have e : ixN xs.length (-1) = some (k - 1) := by
    unfold ixN
    rw [if_neg (by omega), if_pos (by omega)]
    congr 1
    omega
  unfold atI
  rw [e]; exact h
theorem d12 (Y : Yd n k) (G : Good n k S) (hf : ∀ t ∈ S, t ≠ []) : Rg (tD12 K) (gL r n k tr (some (stD S)) none none (some (.tup ((byLeftM k).map Dat.int))) none none) (.nx (gL r n k tr (some (stD S)) none none (some (.tup ((byLeftM k).map Dat.int))) none none)) := by
  have hk8 := Y.k8
  have hk2 := Y.k2
  obtain ⟨h1, h2, h3⟩ := law6 ⟨k, by omega⟩ hk2
  dsimp only at h1 h2 h3
  have htl : (trL S).length = k := by rw [trL_full hf, G.len]
  have hat : atI ((byLeftM k).map Dat.int) (-1) = some (.int 1) := atI_last (k := k) (by rw [List.length_map, h1]) (by omega) (by rw [List.getElem?_map, h2]; rfl)
  exact rg_ifF (tg_is (tg_or (tg_test (eg_op (eg_op (eg_var (i := 12) rfl) (eg_un eg_int ug_neg) (rg_ixT rfl hat)) eg_int rg_neI)) fun _ => tg_or (tg_test (eg_op (eg_cb (ag_cons (eg_var (i := 12) rfl) ag_nil) (cg_lenT (K := K) rfl)) (eg_var (i := 2) rfl) rg_neI)) fun _ => tg_test (eg_op (eg_cb (ag_cons (eg_var (i := 12) rfl) ag_nil) cg_sumTup) (eg_call (ag_cons (eg_var (i := 4) rfl) (ag_cons (eg_var (i := 9) rfl) ag_nil)) ⟨n, k, S, rfl, Y, G, rfl⟩) rg_neI))
    (by rw [List.length_map, h1, htl, h3]; simp)) rg_nx
theorem d14 {s : Nat} (Y : Yd n k) (G : Good n k S) (hf : ∀ t ∈ S, t ≠ []) (hs : s < k) : Rg tD14 (gL r n k tr (some (stD S)) none none s12 (some (.int (s : Nat))) none) (.nx (gL r n k tr (some (stD S)) none none s12 (some (.int (s : Nat))) (some (stD (moveM S s))))) :=
  rg_set 13 (eg_call (ag_cons (eg_var (i := 9) rfl) (ag_cons (eg_var (i := 6) rfl) ag_nil)) ⟨n, k, s, S, rfl, Y, G, hf, hs, rfl⟩)
theorem d15 {s : Nat} (Y : Yd n k) (G : Good n k S) (hf : ∀ t ∈ S, t ≠ []) (hs : s < k) : Rg tD15 (gL r n k tr (some (stD S)) none none s12 s6 (some (stD (moveM S s)))) (.nx (gL r n k tr (some (stD S)) none none s12 s6 (some (stD (moveM S s))))) := by
  have Gm := (good_move Y G hs).1
  have h1 := move_not_full Y G hs
  obtain ⟨l, h2, h3⟩ := law3 Y G hf hs
  have h4 := law4 Y G hf hs
  exact rg_ifF (tg_is (tg_or (tg_B (eg_call (ag_cons (eg_var (i := 4) rfl) (ag_cons (eg_var (i := 13) rfl) ag_nil)) ⟨n, k, _, rfl, Y, Gm, rfl⟩)) fun _ => tg_or (tg_test (eg_op (eg_call (ag_cons (eg_var (i := 4) rfl) (ag_cons (eg_var (i := 9) rfl) (ag_cons (eg_var (i := 13) rfl) ag_nil))) ⟨n, k, S, _, l, rfl, Y, G, Gm, h2, rfl⟩) eg_int rg_neI)) fun _ => tg_B (eg_call (ag_cons (eg_var (i := 4) rfl) (ag_cons (eg_var (i := 13) rfl) (ag_cons (eg_var (i := 9) rfl) ag_nil))) ⟨n, k, _, S, rfl, Y, Gm, G, rfl⟩))
    (by rw [h1, h3, h4]; rfl)) rg_nx
theorem d16 {s : Nat} (Y : Yd n k) (G : Good n k S) (hf : ∀ t ∈ S, t ≠ []) (hs : s < k) : Rg tD16 (gL r n k tr (some (stD S)) none none s12 s6 (some (stD (moveM S s)))) (.nx (gL r n k tr (some (stD S)) none none s12 s6 (some (stD (moveM S s))))) := by
  have hk8 := Y.k8
  have hk2 := Y.k2
  have Gm := (good_move Y G hs).1
  refine rg_for (List.range (k - 1)) (fun i => .int ((i + 1 : Nat) : Int)) (fun _ => gL r n k tr (some (stD S)) none none s12 s6 (some (stD (moveM S s)))) (k - 1) _ (ig_law rfl hk8 hk2) (fun i a hi ha => ?_) (.inl ⟨by simp, rfl⟩)
  obtain ⟨rfl, hlt⟩ := rng_lt ha
  have m1 : 1 ≤ a + 1 := by omega
  have hm : a + 1 < k := by omega
  generalize a + 1 = m at m1 hm ⊢
  have Gt := (good_turn Y Gm m1 hm).1
  obtain ⟨l, h2, h3⟩ := law5 Y G hf hs m1 hm
  refine ⟨_, _, gg_name 10, rg_weak (Γ1 := gL r n k tr (some (stD S)) (some (.int (m : Nat))) none s12 s6 (some (stD (moveM S s)))) ?_ (wkr_keep (wkr_keep (wkr_keep (wkr_keep (wkr_keep (wkr_keep (wkr_keep (wkr_keep (wkr_keep (wkr_keep (wkr_drop (wkr_refl _))))))))))))⟩
  exact rg_ifF (tg_is (tg_test (eg_op (eg_call (ag_cons (eg_var (i := 4) rfl) (ag_cons (eg_var (i := 9) rfl) (ag_cons (eg_call (ag_cons (eg_var (i := 4) rfl) (ag_cons (eg_var (i := 13) rfl) (ag_cons (eg_var (i := 10) rfl) ag_nil))) ⟨n, k, m, _, rfl, Y, Gm, by omega, rfl⟩) ag_nil))) ⟨n, k, S, _, l, rfl, Y, G, Gt, h2, rfl⟩)
    (eg_op eg_int (eg_op (eg_var (i := 10) rfl) (eg_op (eg_var (i := 2) rfl) eg_int (rg_I0 fun _ _ => .int _)) (rg_I (.inl ⟨by omega, by omega⟩) fun _ _ => .int _)) (rg_I0 fun _ _ => .int _)) rg_neI)) (by rw [h3]; simp)) rg_nx
end
end Tr
/-! The law: how its trains come about. -/
namespace Tr
open PySem PySem.Spec PyProof.Rows L2 RT
def intsN (n : Nat) : List Int := (List.range n).map fun i => ((i : Nat) : Int)
theorem rgV_ints (n : Nat) : rgV 0 ((n : Nat) : Int) = (intsN n).map V.int := by
  unfold rgV intsN
  rw [List.map_map]
  have e : (((n : Nat) : Int) - 0).toNat = n := by omega
  rw [e]
  exact List.map_congr_left fun i _ => by show V.int _ = V.int _; rw [Int.zero_add]
theorem ints_nd (n : Nat) : (intsN n).Nodup := by
  unfold intsN
  refine List.Pairwise.map _ (fun a b (h : a ≠ b) => ?_) List.nodup_range
  intro z
  exact h (by omega)
theorem perm_set {c : Int} {t : List Int} : ∀ {T : List (List Int)} {i : Nat}, T[i]? = some t → (T.set i (t ++ [c])).flatten.Perm (c :: T.flatten)
  | [], i, h => by simp at h
  | u :: T, 0, h => by
    cases h
    rw [List.set_cons_zero, List.flatten_cons, List.flatten_cons, List.append_assoc]
    exact List.perm_middle
  | u :: T, i + 1, h => by
    rw [List.set_cons_succ, List.flatten_cons, List.flatten_cons]
    exact ((perm_set (T := T) (i := i) h).append_left u).trans List.perm_middle
theorem perm_erase {c : Int} : ∀ {L : List Int} {v : Nat}, L[v]? = some c → L.Perm (c :: L.eraseIdx v)
  | [], i, h => by simp at h
  | u :: L, 0, h => by cases h; exact .refl _
  | u :: L, i + 1, h => by
    rw [List.eraseIdx_cons_succ]
    exact ((perm_erase (L := L) (v := i) h).cons u).trans (.swap _ _ _)
theorem er_map {α β : Type} (f : α → β) : ∀ (L : List α) (v : Nat), (L.eraseIdx v).map f = (L.map f).eraseIdx v
  | [], _ => rfl
  | _ :: _, 0 => rfl
  | a :: L, v + 1 => by rw [List.eraseIdx_cons_succ, List.map_cons, List.map_cons, List.eraseIdx_cons_succ, er_map f L v]
/-- the objects of the law's first part -/
structure Ad (H0 : Hp) (r l tr : Addr) (as : List Addr) : Prop where
  nd : (r :: l :: tr :: as).Nodup
  fr : ∀ a ∈ r :: l :: tr :: as, H0 a = none
structure HI (H0 : Hp) (r sc l ty tr : Addr) (n k : Nat) (as : List Addr) (L : List Int) (T : List (List Int)) (H : Hp) : Prop where
  same : Same H0 H
  row : ∃ i x y, RowAt H r sc i x y
  yard : H ty = some (.tup [.int (n : Nat), .int (k : Nat)])
  left : H l = some (.lst (L.map V.int))
  tr_ : H tr = some (.lst (as.map V.ref))
  ts : ∀ (j : Nat) a t, as[j]? = some a → T[j]? = some t → H a = some (.lst (t.map V.int))
section
variable {K : PySem.W.Frag} {H0 H : Hp} {r sc l ty tr a : Addr} {n k : Nat} {as : List Addr} {L : List Int} {T : List (List Int)} {ns : List Int}
theorem Ad.rl (A : Ad H0 r l tr as) : r ≠ l := fun z => by have := A.nd; rw [List.nodup_cons] at this; exact this.1 (by simp [z])
theorem Ad.rt (A : Ad H0 r l tr as) : r ≠ tr := fun z => by have := A.nd; rw [List.nodup_cons] at this; exact this.1 (by simp [z])
theorem Ad.ra (A : Ad H0 r l tr as) (h : a ∈ as) : r ≠ a := fun z => by have := A.nd; rw [List.nodup_cons] at this; exact this.1 (by simp [z, h])
theorem Ad.lt (A : Ad H0 r l tr as) : l ≠ tr := fun z => by have := A.nd; rw [List.nodup_cons, List.nodup_cons] at this; exact this.2.1 (by simp [z])
theorem Ad.la (A : Ad H0 r l tr as) (h : a ∈ as) : l ≠ a := fun z => by have := A.nd; rw [List.nodup_cons, List.nodup_cons] at this; exact this.2.1 (by simp [z, h])
theorem Ad.ta (A : Ad H0 r l tr as) (h : a ∈ as) : tr ≠ a := fun z => by have := A.nd; rw [List.nodup_cons, List.nodup_cons, List.nodup_cons] at this; exact this.2.2.1 (by simp [z, h])
theorem Ad.nda (A : Ad H0 r l tr as) : as.Nodup := by have := A.nd; rw [List.nodup_cons, List.nodup_cons, List.nodup_cons] at this; exact this.2.2.2
theorem tup_ne {a b : Addr} {xs ys : List V} (h : H a = some (.tup xs)) (h' : H b = some (.lst ys)) : a ≠ b := fun z => by rw [z, h'] at h; cases h
theorem HI.upR (A : Ad H0 r l tr as) (h : HI H0 r sc l ty tr n k as L T H) {i x y : Int} (i0 : 0 ≤ i) (x0 : 0 ≤ x) (x1 : x < 2147483648) : HI H0 r sc l ty tr n k as L T (upd H r (rowV sc i x y)) := by
  obtain ⟨i', x', y', R⟩ := h.row
  refine ⟨same_upd0 h.same (A.fr r (by simp)), ⟨i, x, y, upd_same, i0, x0, x1⟩, ?_, ?_, ?_, fun j a t ha ht => ?_⟩
  · rw [upd_ne (tup_ne h.yard R.at_)]; exact h.yard
  · rw [upd_ne (Ne.symm A.rl)]; exact h.left
  · rw [upd_ne (Ne.symm A.rt)]; exact h.tr_
  · rw [upd_ne (Ne.symm (A.ra (List.mem_of_getElem? ha)))]; exact h.ts j a t ha ht
theorem HI.upL (A : Ad H0 r l tr as) (h : HI H0 r sc l ty tr n k as L T H) (L' : List Int) : HI H0 r sc l ty tr n k as L' T (upd H l (.lst (L'.map V.int))) := by
  obtain ⟨i', x', y', R⟩ := h.row
  refine ⟨same_upd0 h.same (A.fr l (by simp)), ⟨i', x', y', by rw [upd_ne A.rl]; exact R.at_, R.i0, R.x0, R.x1⟩, ?_, upd_same, ?_, fun j a t ha ht => ?_⟩
  · rw [upd_ne (tup_ne h.yard h.left)]; exact h.yard
  · rw [upd_ne (Ne.symm A.lt)]; exact h.tr_
  · rw [upd_ne (Ne.symm (A.la (List.mem_of_getElem? ha)))]; exact h.ts j a t ha ht
theorem nd_inj {α : Type} {as : List α} (h : as.Nodup) {i j : Nat} {a : α} (hi : as[i]? = some a) (hj : as[j]? = some a) : i = j := by
  have h1 := (List.getElem?_eq_some_iff.mp hi).1
  exact (List.getElem?_inj h1 h).mp (hi.trans hj.symm)
theorem HI.upT (A : Ad H0 r l tr as) (h : HI H0 r sc l ty tr n k as L T H) (hl : T.length = as.length) {j : Nat} (ha : as[j]? = some a) (t' : List Int) : HI H0 r sc l ty tr n k as L (T.set j t') (upd H a (.lst (t'.map V.int))) := by
  obtain ⟨i', x', y', R⟩ := h.row
  have hm := List.mem_of_getElem? ha
  have hj := (List.getElem?_eq_some_iff.mp ha).1
  have h0 : H a = some (.lst ((T[j]'(by omega)).map V.int)) := h.ts j a _ ha (List.getElem?_eq_getElem (by omega))
  refine ⟨same_upd0 h.same (A.fr a (by simp [hm])), ⟨i', x', y', by rw [upd_ne (A.ra hm)]; exact R.at_, R.i0, R.x0, R.x1⟩, ?_, ?_, ?_, fun q b t hb ht => ?_⟩
  · rw [upd_ne (tup_ne h.yard h0)]; exact h.yard
  · rw [upd_ne (A.la hm)]; exact h.left
  · rw [upd_ne (A.ta hm)]; exact h.tr_
  · by_cases e : b = a
    · subst e
      have := nd_inj A.nda hb ha
      subst this
      rw [List.getElem?_set_self (by omega)] at ht
      cases ht
      exact upd_same
    · rw [upd_ne e]
      have hq : j ≠ q := fun z => e (by subst z; rw [hb] at ha; cases ha; rfl)
      rw [List.getElem?_set_ne hq] at ht
      exact h.ts q b t hb ht
/-- a draw -/
theorem taken_raw {σ : L2.St} {i x y m : Int} {te : TE} {Q : VK} (h1 : σ[1]? = some (some (.ref r))) (hm : Vl te σ H (.int m)) (m0 : 0 < m) (m8 : m ≤ 8) (R : RowAt H r sc i x y) (hS : SqL K H0 sc (ns.map V.int)) (s0 : Same H0 H) (hr0 : H0 r = none)
    (q : ∀ (v : Nat) (i' x' y' : Int), ((v : Nat) : Int) < m → 0 ≤ i' → 0 ≤ x' → x' < 2147483648 → Q (.int ((v : Nat) : Int)) (upd H r (rowV sc i' x' y'))) : tTk K te σ H Q := by
  refine ⟨_, h1, hm _ ⟨H0, r, sc, ns, i, x, y, m, rfl, m0, m8, R, hS, s0, hr0, fun v i' x' y' v0 vm i0 x0 x1 => ?_⟩⟩
  have := q v.toNat i' x' y' (by omega) i0 x0 x1
  rw [Int.toNat_of_nonneg v0] at this
  exact this
theorem taken_HI {σ : L2.St} {m : Int} {te : TE} {Q : VK} (A : Ad H0 r l tr as) (h : HI H0 r sc l ty tr n k as L T H) (h1 : σ[1]? = some (some (.ref r))) (hm : Vl te σ H (.int m)) (m0 : 0 < m) (m8 : m ≤ 8) (hS : SqL K H0 sc (ns.map V.int))
    (q : ∀ (v : Nat) H', ((v : Nat) : Int) < m → HI H0 r sc l ty tr n k as L T H' → Q (.int ((v : Nat) : Int)) H') : tTk K te σ H Q := by
  obtain ⟨i, x, y, R⟩ := h.row
  exact taken_raw h1 hm m0 m8 R hS h.same (A.fr r (by simp)) fun v i' x' y' hv i0 x0 x1 => q v _ hv (h.upR A i0 x0 x1)
end
/-! ### the terms -/
def tD1 : TS := tAsg (tLst (tCons (tVar 0) (tCons (tC (.int 0)) (tCons (tC (.int 8063)) (tCons (tC (.int 0)) tNil))))) (gName 1)
def tD2 (K : PySem.W.Frag) : TS := tAsg (tOp (rI0 fun i j => .int (i + j)) (tC (.int 2)) (tTk K (tC (.int 5)))) (gName 2)
def tD3 (K : PySem.W.Frag) : TS := tAsg (tOp (rI0 fun i j => .int (i + j)) (tVar 2) (tTk K (tOp (rI0 fun i j => .int (i - j)) (tC (.int 8)) (tVar 2)))) (gName 3)
def tD4 : TS := tPar 4 5 (tCons (tTup (v2 3 2)) (tCons (tLstRg (tRg1 (tVar 3))) tNil))
def tD5 : TS := tAsg (tLc (iRng1 (tCons (tVar 2) tNil)) (gName 6) tYes (tLst tNil) [6]) (gName 7)
def tD6 (K : PySem.W.Frag) : TS := tFor (iRng1 (tCons (tVar 2) tNil)) (gName 6) (tDrop (tBM K "list" rAppend (tOp (rIxL K) (tVar 7) (tVar 6)) (tCons (tBM K "list" rPopAt (tVar 5) (tCons (tTk K (tLen K 5)) tNil)) tNil)))
def tD7 (K : PySem.W.Frag) : TS := tFor (iList K (tVar 5)) (gName 8) (tDrop (tBM K "list" rAppend (tOp (rIxL K) (tVar 7) (tTk K (tVar 2))) (tCons (tVar 8) tNil)))
def tLawB (K : PySem.W.Frag) : TS := tSeq (tD8 K) (tSeq tD9 (tSeq (tD10 K) (tSeq tD11 (tSeq (tD12 K) (tSeq (tD13 K) (tSeq tD14 (tSeq tD15 (tSeq tD16 tD17))))))))
def tLaw (K : PySem.W.Frag) : TS := tSeq tD1 (tSeq (tD2 K) (tSeq (tD3 K) (tSeq tD4 (tSeq tD5 (tSeq (tD6 K) (tSeq (tD7 K) (tLawB K)))))))
def sg (a r : Addr) (k n : Nat) (ty l tr : Addr) (z6 z8 : Option V) : L2.St := [some (.ref a), some (.ref r), some (.int (k : Nat)), some (.int (n : Nat)), some (.ref ty), some (.ref l), z6, some (.ref tr), z8, none, none, none, none, none, none]
section
variable {K : PySem.W.Frag} {H0 H : Hp} {r sc l ty tr a : Addr} {n k : Nat} {as : List Addr} {L : List Int} {T : List (List Int)} {ns : List Int} {D : Ends}
theorem hn63 {m : Nat} (h : m ≤ 8) : -(2 ^ 63 : Int) ≤ ((m : Nat) : Int) ∧ ((m : Nat) : Int) < 2 ^ 63 := ⟨by omega, by omega⟩
theorem sIx_at {v m : Nat} (h : v < m) : seqIndex? ((v : Nat) : Int) m = some v := by
  unfold seqIndex?
  simp
  omega
theorem sl8 {m : Nat} (h : m ≤ 8) : m < sizeLine := Nat.lt_of_le_of_lt h (by decide)
theorem d6 (A : Ad H0 r l tr as) (hS : SqL K H0 sc (ns.map V.int)) (hk : as.length = k) (hkn : k ≤ n) (hn : n ≤ 8) (h : HI H0 r sc l ty tr n k as (intsN n) (List.replicate k []) H)
    (q : ∀ z L T H', HI H0 r sc l ty tr n k as L T H' → T.length = k → (T.flatten ++ L).Perm (intsN n) → (∀ t ∈ T, t ≠ []) → D.nx (sg sc r k n ty l tr z none) H') : tD6 K D (sg sc r k n ty l tr none none) H := by
  refine ⟨_, rfl, ((k : Nat) : Int), rfl, by omega, by omega, ?_⟩
  rw [Int.toNat_natCast]
  refine for_range (fun i σ H => ∃ z L T, σ = sg sc r k n ty l tr z none ∧ HI H0 r sc l ty tr n k as L T H ∧ T.length = k ∧ L.length = n - i ∧ (T.flatten ++ L).Perm (intsN n) ∧ ∀ (j : Nat) t, j < i → T[j]? = some t → t ≠ [])
    ⟨none, intsN n, _, rfl, h, by simp, by simp [intsN], by simp, fun j t hj => absurd hj (Nat.not_lt_zero _)⟩ ?_ ?_
  · rintro i σ H1 hi ⟨z, L, T, rfl, h1, hT, hL, hp, hne⟩
    rw [Int.zero_add]
    obtain ⟨ai, hai⟩ : ∃ x, as[i]? = some x := ⟨_, List.getElem?_eq_getElem (by omega)⟩
    obtain ⟨t, ht⟩ : ∃ x, T[i]? = some x := ⟨_, List.getElem?_eq_getElem (by omega)⟩
    show tBM K "list" rAppend _ _ (sg sc r k n ty l tr (some (.int (i : Nat))) none) H1 _
    refine op_raw ⟨_, rfl, _, rfl, tr, as.map V.ref, _, .ref ai, rfl, rfl, SqL.of h1.tr_, atI_nat (by rw [List.getElem?_map, hai]; rfl), ?_⟩
    refine ⟨.inl ⟨rfl, _, SqL.of (h1.ts i ai t hai ht)⟩, cons_raw ⟨_, rfl, .inl ⟨rfl, _, SqL.of h1.left⟩, cons_raw ?_⟩⟩
    refine taken_HI (m := ((L.length : Nat) : Int)) A h1 rfl (vl_is (vl_cb (v := .int ((L.map V.int).length : Nat)) (vla_cons (vl_var rfl) vla_nil) fun Q q => ⟨l, _, rfl, .inl (SqL.of h1.left), q⟩) (by rw [List.length_map])) (by omega) (by omega) hS fun v H2 hv h2 => ?_
    have hvL : v < L.length := by omega
    obtain ⟨c, hc⟩ : ∃ c, L[v]? = some c := ⟨_, List.getElem?_eq_getElem hvL⟩
    refine ⟨l, L.map V.int, _, v, .int c, rfl, rfl, h2.left, (hn63 (by omega)).1, (hn63 (by omega)).2, sIx_at (by rw [List.length_map]; exact hvL), by rw [List.getElem?_map, hc]; rfl, ?_⟩
    have h3 := h2.upL A (L.eraseIdx v)
    rw [er_map] at h3
    generalize upd H2 l (.lst ((L.map V.int).eraseIdx v)) = H3 at h3 ⊢
    have hpT := perm_set (c := c) ht
    have hpL := perm_erase hc
    have hp' : ((T.set i (t ++ [c])).flatten ++ L.eraseIdx v).Perm (intsN n) := by
      refine List.Perm.trans ?_ hp
      refine (hpT.append_right _).trans ?_
      refine List.Perm.trans ?_ (hpL.append_left T.flatten).symm
      exact List.perm_middle.symm
    have tl : t.length ≤ 8 := by
      have e1 : t.length ≤ T.flatten.length := (List.sublist_flatten_of_mem (List.mem_of_getElem? ht)).length_le
      have e2 := hp.length_eq
      rw [List.length_append] at e2
      have e3 : (intsN n).length = n := by simp [intsN]
      omega
    refine ⟨ai, t.map V.int, .int c, rfl, rfl, h3.ts i ai t hai ht, by rw [List.length_map]; exact sl8 tl, ?_⟩
    have h4 := h3.upT A (hT.trans hk.symm) hai (t ++ [c])
    rw [List.map_append] at h4
    refine ⟨_, _, _, rfl, h4, by rw [List.length_set, hT], by rw [List.length_eraseIdx_of_lt hvL]; omega, hp', fun j u hj hu => ?_⟩
    by_cases e : i = j
    · subst e
      rw [List.getElem?_set_self (by omega)] at hu
      cases hu
      simp
    · rw [List.getElem?_set_ne e] at hu
      exact hne j u (by omega) hu
  · rintro σ H1 ⟨z, L, T, rfl, h1, hT, hL, hp, hne⟩
    refine q z L T H1 h1 hT hp fun t ht => ?_
    obtain ⟨j, hj⟩ := List.getElem?_of_mem ht
    exact hne j t (by have := (List.getElem?_eq_some_iff.mp hj).1; omega) hj
theorem d7 {z6 : Option V} (A : Ad H0 r l tr as) (hS : SqL K H0 sc (ns.map V.int)) (hk : as.length = k) (hk1 : 1 ≤ k) (hk8 : k ≤ 8) (hn : n ≤ 8) (h : HI H0 r sc l ty tr n k as L T H) (hT : T.length = k) (hp : (T.flatten ++ L).Perm (intsN n)) (hne : ∀ t ∈ T, t ≠ [])
    (q : ∀ z T H', HI H0 r sc l ty tr n k as L T H' → T.length = k → T.flatten.Perm (intsN n) → (∀ t ∈ T, t ≠ []) → D.nx (sg sc r k n ty l tr z6 z) H') : tD7 K D (sg sc r k n ty l tr z6 none) H := by
  refine ⟨_, rfl, l, rfl, ⟨_, SqL.of h.left⟩, ?_⟩
  refine for_list (xs := L.map V.int) (fun j σ H => ∃ z T, σ = sg sc r k n ty l tr z6 z ∧ HI H0 r sc l ty tr n k as L T H ∧ T.length = k ∧ (T.flatten ++ L.drop j).Perm (intsN n) ∧ ∀ t ∈ T, t ≠ [])
    ⟨none, T, rfl, h, hT, by rw [List.drop_zero]; exact hp, hne⟩ ?_ ?_ ?_
  · rintro j σ H1 _ ⟨z, T, rfl, h1, _⟩
    exact SqL.of h1.left
  · rintro j x σ H1 hx ⟨z, T, rfl, h1, hT, hp, hne⟩
    rw [List.getElem?_map] at hx
    obtain ⟨c, hc⟩ : ∃ c, L[j]? = some c := by
      cases e : L[j]? with
      | none => rw [e] at hx; cases hx
      | some c => exact ⟨c, rfl⟩
    rw [hc] at hx
    cases hx
    show tBM K "list" rAppend _ _ (sg sc r k n ty l tr z6 (some (.int c))) H1 _
    refine op_raw ⟨_, rfl, ?_⟩
    refine taken_HI (m := ((k : Nat) : Int)) A h1 rfl (vl_var rfl) (by omega) (by omega) hS fun v H2 hv h2 => ?_
    have hvk : v < k := by omega
    obtain ⟨av, hav⟩ : ∃ x, as[v]? = some x := ⟨_, List.getElem?_eq_getElem (by omega)⟩
    obtain ⟨t, ht⟩ : ∃ x, T[v]? = some x := ⟨_, List.getElem?_eq_getElem (by omega)⟩
    refine ⟨tr, as.map V.ref, _, .ref av, rfl, rfl, SqL.of h2.tr_, atI_nat (by rw [List.getElem?_map, hav]; rfl), ?_⟩
    have tl : t.length ≤ 8 := by
      have e1 : t.length ≤ T.flatten.length := (List.sublist_flatten_of_mem (List.mem_of_getElem? ht)).length_le
      have e2 := hp.length_eq
      rw [List.length_append] at e2
      have e3 : (intsN n).length = n := by simp [intsN]
      omega
    refine ⟨.inl ⟨rfl, _, SqL.of (h2.ts v av t hav ht)⟩, cons_raw ⟨_, rfl, ?_⟩⟩
    refine ⟨av, t.map V.int, .int c, rfl, rfl, h2.ts v av t hav ht, by rw [List.length_map]; exact sl8 tl, ?_⟩
    have h4 := h2.upT A (hT.trans hk.symm) hav (t ++ [c])
    rw [List.map_append] at h4
    refine ⟨_, _, rfl, h4, by rw [List.length_set, hT], ?_, fun u hu => ?_⟩
    · refine List.Perm.trans ((perm_set (c := c) ht).append_right _) ?_
      refine List.Perm.trans ?_ hp
      have hj := (List.getElem?_eq_some_iff.mp hc).1
      have e : L.drop j = c :: L.drop (j + 1) := by
        rw [List.drop_eq_getElem_cons hj]
        rw [List.getElem?_eq_getElem hj] at hc
        cases hc; rfl
      rw [e]
      exact List.perm_middle.symm
    · rcases List.mem_or_eq_of_mem_set hu with hu | rfl
      · exact hne u hu
      · simp
  · rintro σ H1 ⟨z, T, rfl, h1, hT, hp, hne⟩
    rw [List.length_map, List.drop_length, List.append_nil] at hp
    exact q z T H1 h1 hT hp hne
theorem good_of (hT : T.length = k) (hp : T.flatten.Perm (intsN n)) : Good n k T := by
  refine ⟨hT, by rw [hp.length_eq]; simp [intsN], hp.nodup_iff.mpr (ints_nd n), fun c hc => ?_⟩
  have := hp.mem_iff.mp hc
  obtain ⟨i, hi, rfl⟩ := List.mem_map.mp this
  have := List.mem_range.mp hi
  omega
theorem sd_none {B : Bd} {σ : L2.St} {H : Hp} : Sd B σ H (List.replicate σ.length none) := ⟨by rw [List.length_replicate], fun i d h => by
  rw [List.getElem?_replicate] at h
  split at h <;> cases h⟩
theorem das_trains {B : Bd} {H : Hp} (hB : ∀ a ∈ as, ¬ B a) (hT : T.length = as.length) (ts : ∀ (j : Nat) a t, as[j]? = some a → T[j]? = some t → H a = some (.lst (t.map V.int))) : Das B H (as.map V.ref) (T.map fun t => Dat.list (t.map Dat.int)) := by
  induction as generalizing T with
  | nil =>
    cases T with
    | nil => exact .nil
    | cons t T => cases hT
  | cons a as ih =>
    cases T with
    | nil => cases hT
    | cons t T =>
      refine .cons (.lst (hB a (by simp)) (ts 0 a t rfl rfl) (das_ints t)) (ih (fun b hb => hB b (by simp [hb])) (by simpa using hT) fun j b u hb hu => ts (j + 1) b u hb hu)
theorem dB {z6 z8 : Option V} (A : Ad H0 r l tr as) (hS : SqL K H0 sc (ns.map V.int)) (hk : as.length = k) (Y : Yd n k) (h : HI H0 r sc l ty tr n k as L T H) (hT : T.length = k) (hp : T.flatten.Perm (intsN n)) (hf : ∀ t ∈ T, t ≠ [])
    (q : ∀ H', D.rt (.bl true) H') : tLawB K D (sg sc r k n ty l tr z6 z8) H := by
  have G := good_of hT hp
  have hk8 := Y.k8
  have hk2 := Y.k2
  obtain ⟨i, x, y, R⟩ := h.row
  have kB : Ok (· = r) H := fun b hb => by rw [hb, R.at_]; exact fun q => nomatch q
  have hyr : ty ≠ r := tup_ne h.yard R.at_
  have dT : Dv (· = r) H (.ref tr) (trainsD T) := .lst (fun z => A.rt z.symm) h.tr_ (das_trains (fun a ha z => A.ra ha z.symm) (hT.trans hk.symm) h.ts)
  have dY : Dv (· = r) H (.ref ty) (yardD n k) := .tup hyr h.yard (.cons (.int _) (.cons (.int _) .nil))
  have s0 : Sd (· = r) (sg sc r k n ty l tr z6 z8) H (gL r n k (some (trainsD T)) none none none none none none) :=
    ((((((sd_none (B := (· = r)) (σ := sg sc r k n ty l tr z6 z8) (H := H))).set 1 (.raw (.ref r))).set 2 (.int _)).set 3 (.int _)).set 4 dY).set 7 dT
  refine seq_raw (d8 (by omega) _ _ _ _ kB s0 fun σ1 H1 e1 s1 => ?_)
  have k1 := kB.same e1
  refine seq_raw (d9 Y G hf _ _ _ _ k1 s1 fun σ2 H2 e2 s2 => ?_)
  have k2 := k1.same e2
  refine seq_raw (d10 Y G hf _ _ _ _ k2 s2 fun σ3 H3 e3 s3 => ?_)
  have k3 := k2.same e3
  refine seq_raw (d11 Y G hf _ _ _ _ k3 s3 fun σ4 H4 e4 s4 => ?_)
  have k4 := k3.same e4
  refine seq_raw (d12 Y G hf _ _ _ _ k4 s4 fun σ5 H5 e5 s5 => ?_)
  have k5 := k4.same e5
  have e : Same H H5 := (((e1.trans e2).trans e3).trans e4).trans e5
  obtain ⟨v1, g1, r1⟩ := s5.at_ 1 _ rfl
  cases r1
  obtain ⟨v2, g2, r2⟩ := s5.at_ 2 _ rfl
  cases r2
  refine seq_raw (asg_raw (taken_raw (H0 := H0) (sc := sc) (m := ((k : Nat) : Int)) g1 (vl_var g2) (by omega) (by omega) ⟨e _ _ R.at_, R.i0, R.x0, R.x1⟩ hS (h.same.trans e) (A.fr r (by simp)) fun v i' x' y' hv i0 x0 x1 => ?_))
  have hvk : v < k := by omega
  have lm : Le (· = r) H5 (· = r) (upd H5 r (rowV sc i' x' y')) := .mut rfl
  have k6 : Ok (· = r) (upd H5 r (rowV sc i' x' y')) := k5.upd
  have s6 : Sd (· = r) (σ5.set 6 (some (.int (v : Nat)))) (upd H5 r (rowV sc i' x' y')) (gL r n k (some (trainsD T)) (some (stD T)) none none (some (.tup ((byLeftM k).map Dat.int))) (some (.int (v : Nat))) none) := (s5.le lm).set 6 (.int _)
  have fin : Rg (tSeq tD14 (tSeq tD15 (tSeq tD16 tD17))) (gL r n k (some (trainsD T)) (some (stD T)) none none (some (.tup ((byLeftM k).map Dat.int))) (some (.int (v : Nat))) none) (.rt (.bool true)) :=
    rg_seq (d14 Y G hf hvk) (rg_seq (d15 Y G hf hvk) (rg_seq (d16 Y G hf hvk) (rg_ret eg_bl)))
  exact fin _ _ _ _ k6 s6 fun v H' e' r' => by cases r'; exact q H'
end
end Tr
/-! The law: its first steps. -/
namespace Tr
open PySem PySem.Spec PyProof.Rows L2 RT
abbrev nLaw : List Str := ["_law_script", "_law_row", "_law_size", "_law_cars", "_law_yard", "_law_left", "_law_station", "_law_trains", "_law_car", "_law_state", "_law_many", "_law_goal", "_law_found", "_law_there", "_law_train"]
section
variable {K : PySem.W.Frag} {H0 H : Hp} {r sc l ty tr a : Addr} {n k : Nat} {as : List Addr} {L : List Int} {T : List (List Int)} {ns : List Int} {D : Ends}
/-- k new empty lists in a new list -/
theorem d5 {σ : L2.St} (hk : k ≤ 8) (h2 : σ[2]? = some (some (.int (k : Nat)))) (hw : ∀ x : V, wipe ((wipe σ [6]).set 6 (some x)) [6] = wipe σ [6])
    (q : ∀ (tr : Addr) (as : List Addr) (H' : Hp), H tr = none → Same H H' → H' tr = some (.lst (as.map V.ref)) → as.length = k → (∀ a ∈ as, H a = none ∧ a ≠ tr ∧ H' a = some (.lst [])) → as.Nodup → D.nx (σ.set 7 (some (.ref tr))) H') : tD5 D σ H := by
  refine ⟨_, h2, ((k : Nat) : Int), rfl, by omega, by omega, fun tr htr => ?_⟩
  rw [Int.toNat_natCast]
  refine ⟨fun i m H' => m = k - i ∧ i ≤ k ∧ Same H H' ∧ ∃ as : List Addr, H' tr = some (.lst (as.map V.ref)) ∧ as.length = i ∧ (∀ a ∈ as, H a = none ∧ a ≠ tr ∧ H' a = some (.lst [])) ∧ as.Nodup,
    ⟨_, rfl, Nat.zero_le _, same_new htr, [], upd_same, rfl, fun a h => (by cases h), .nil⟩, ?_⟩
  rintro i m H' ⟨rfl, hi, sm, as, hat, hal, ha, hnd⟩
  by_cases hlt : i < k
  · refine .inr ⟨hlt, fun H' => Same H H' ∧ ∃ as : List Addr, H' tr = some (.lst (as.map V.ref)) ∧ as.length = i + 1 ∧ (∀ a ∈ as, H a = none ∧ a ≠ tr ∧ H' a = some (.lst [])) ∧ as.Nodup, fun H3 h3 => ⟨_, by omega, rfl, hlt, h3⟩, fun x H2 hy => ?_⟩
    obtain ⟨rfl, rfl⟩ := hy
    refine ⟨hw _, ?_⟩
    simp only [tYes, reduceIte]
    refine ⟨by show 0 ≤ sizeLine; decide, fun p hp => ?_⟩
    have hpt : tr ≠ p := ne_of_none hat hp
    have hpn : ∀ a ∈ as, a ≠ p := fun a h => ne_of_none (ha a h).2.2 hp
    have hHp : H p = none := Same.free' sm hp
    refine ⟨as.map V.ref, by rw [upd_ne hpt]; exact hat, by rw [List.length_map, hal]; exact sl8 (by omega), ?_, as ++ [p], by rw [List.map_append]; exact upd_same, by rw [List.length_append, hal]; rfl, fun b hb => ?_, ?_⟩
    · intro b o e
      have h1 : b ≠ tr := ne_of_none e htr
      rw [upd_ne h1, upd_ne (ne_of_none e hHp)]
      exact sm b o e
    · rcases List.mem_append.mp hb with hb | hb
      · obtain ⟨h1, h2, h3⟩ := ha b hb
        exact ⟨h1, h2, by rw [upd_ne h2, upd_ne (hpn b hb)]; exact h3⟩
      · cases List.mem_singleton.mp hb
        exact ⟨hHp, Ne.symm hpt, by rw [upd_ne (Ne.symm hpt)]; exact upd_same⟩
    · rw [List.nodup_append]
      exact ⟨hnd, by simp, fun b hb c hc => by cases List.mem_singleton.mp hc; exact hpn b hb⟩
  · have e : i = k := by omega
    subst e
    exact .inl ⟨Nat.le_refl _, q tr as H' htr sm hat hal ha hnd⟩
theorem law_val (hS : SqL K H sc (ns.map V.int)) (q : ∀ H', D.rt (.bl true) H') : tLaw K D (L2.start nLaw [.ref sc]) H := by
  refine seq_raw (asg_raw ?_)
  refine ⟨_, rfl, by show 4 ≤ sizeLine; decide, fun r hr => ?_⟩
  try dsimp only
  refine seq_raw (asg_raw (op_raw ?_))
  have s1 : Same H (upd H r (rowV sc 0 8063 0)) := same_new hr
  refine taken_raw (H0 := H) (r := r) (sc := sc) (i := 0) (x := 8063) (y := 0) (m := 5) rfl vl_c (by decide) (by decide) ⟨upd_same, by decide, by decide, by decide⟩ hS s1 hr fun v1 i1 x1 y1 hv1 i0 x0 x2 => ⟨2, _, rfl, rfl, ?_⟩
  rw [upd_upd]
  have ek : (2 : Int) + ((v1 : Nat) : Int) = ((2 + v1 : Nat) : Int) := by omega
  dsimp only
  rw [ek]
  have hk2 : 2 ≤ 2 + v1 := by omega
  have hk6 : 2 + v1 ≤ 6 := by omega
  generalize 2 + v1 = k at hk2 hk6
  try dsimp only
  refine seq_raw (asg_raw (op_raw ⟨_, rfl, ?_⟩))
  have s2 : Same H (upd H r (rowV sc i1 x1 y1)) := same_new hr
  refine taken_raw (H0 := H) (r := r) (sc := sc) (i := i1) (x := x1) (y := y1) (m := 8 - ((k : Nat) : Int)) rfl (vl_I0 vl_c (vl_var rfl)) (by omega) (by omega) ⟨upd_same, i0, x0, x2⟩ hS s2 hr fun v2 i2 x3 y2 hv2 i4 x4 x5 => ⟨_, _, rfl, rfl, ?_⟩
  rw [upd_upd]
  have en : ((k : Nat) : Int) + ((v2 : Nat) : Int) = ((k + v2 : Nat) : Int) := by omega
  dsimp only
  rw [en]
  have hkn : k ≤ k + v2 := by omega
  have hn7 : k + v2 ≤ 7 := by omega
  generalize k + v2 = n at hkn hn7
  have s3 : Same H (upd H r (rowV sc i2 x3 y2)) := same_new hr
  have a3 : upd H r (rowV sc i2 x3 y2) r = some (rowV sc i2 x3 y2) := upd_same
  generalize upd H r (rowV sc i2 x3 y2) = H3 at s3 a3
  try dsimp only
  refine seq_raw (par_raw (cons_raw ⟨_, rfl, _, rfl, by show 2 ≤ sizeLine; decide, fun ty hty => cons_raw ⟨_, rfl, n, rfl, RgOk.of_le (by omega) (by omega) (by omega) (by omega), fun l hl => ⟨_, _, rfl, ?_⟩⟩⟩))
  rw [rgV_ints]
  have s4 : Same H3 (upd H3 ty (.tup [.int (n : Nat), .int (k : Nat)])) := same_new hty
  have a4 : upd H3 ty (.tup [.int (n : Nat), .int (k : Nat)]) ty = some (.tup [.int (n : Nat), .int (k : Nat)]) := upd_same
  change upd H3 ty (.tup [.int (n : Nat), .int (k : Nat)]) l = none at hl
  change Ends.nx _ _ (upd (upd H3 ty (.tup [.int (n : Nat), .int (k : Nat)])) l (.lst ((intsN n).map V.int)))
  generalize upd H3 ty (.tup [.int (n : Nat), .int (k : Nat)]) = H4 at s4 a4 hl
  have s5 : Same H4 (upd H4 l (.lst ((intsN n).map V.int))) := same_new hl
  have a5 : upd H4 l (.lst ((intsN n).map V.int)) l = some (.lst ((intsN n).map V.int)) := upd_same
  generalize upd H4 l (.lst ((intsN n).map V.int)) = H5 at s5 a5
  have s05 : Same H H5 := (s3.trans s4).trans s5
  have ar5 : H5 r = some (rowV sc i2 x3 y2) := s5 _ _ (s4 _ _ a3)
  have hrl : r ≠ l := ne_of_none (s4 _ _ a3) hl
  have hHl : H l = none := Same.free' (s3.trans s4) hl
  try dsimp only
  refine seq_raw ?_
  refine d5 (k := k) (by omega) rfl (fun x => rfl) fun tr as H6 htr s6 atr hal ha hnd => ?_
  have A : Ad H r l tr as := by
    refine ⟨?_, fun b hb => ?_⟩
    · rw [List.nodup_cons, List.nodup_cons, List.nodup_cons]
      have hlt : l ≠ tr := ne_of_none a5 htr
      have hrt : r ≠ tr := ne_of_none ar5 htr
      refine ⟨fun z => ?_, fun z => ?_, fun z => (ha _ z).2.1 rfl, hnd⟩
      · rcases List.mem_cons.mp z with z | z
        · exact hrl z
        · rcases List.mem_cons.mp z with z | z
          · exact hrt z
          · exact ne_of_none ar5 (ha _ z).1 rfl
      · rcases List.mem_cons.mp z with z | z
        · exact hlt z
        · exact ne_of_none a5 (ha _ z).1 rfl
    · rcases List.mem_cons.mp hb with rfl | hb
      · exact hr
      · rcases List.mem_cons.mp hb with rfl | hb
        · exact hHl
        · rcases List.mem_cons.mp hb with rfl | hb
          · exact Same.free' s05 htr
          · exact Same.free' s05 (ha b hb).1
  have Y : Yd n k := ⟨by omega, hn7, hk2, by omega⟩
  have h0 : HI H r sc l ty tr n k as (intsN n) (List.replicate k []) H6 := by
    refine ⟨s05.trans s6, ⟨i2, x3, y2, s6 _ _ ar5, i4, x4, x5⟩, s6 _ _ (s5 _ _ a4), s6 _ _ a5, atr, fun j b t hb ht => ?_⟩
    rw [List.getElem?_replicate] at ht
    split at ht
    · cases ht
      exact (ha b (List.mem_of_getElem? hb)).2.2
    · cases ht
  try dsimp only
  refine seq_raw ?_
  refine d6 A hS hal hkn (by omega) h0 fun z L T H7 h7 hT hp hne => ?_
  try dsimp only
  refine seq_raw ?_
  refine d7 A hS hal (by omega) (by omega) (by omega) h7 hT hp hne fun z8 T8 H8 h8 hT8 hp8 hne8 => ?_
  exact dB A hS hal Y h8 hT8 hp8 hne8 q
end
end Tr
/-! The law: its walk. -/
namespace Tr
open PySem PySem.Spec PyProof.Rows L2 RT
abbrev sLaw : Stmt := top 46
def spLaw (K : PySem.W.Frag) : Sp := fun vs H Q _ => ∃ (a : Addr) (ns : List Int), vs = [.ref a] ∧ SqL K H a (ns.map V.int) ∧ ns.length ≤ 63 ∧ ∀ H', Q (.bl true) H'
theorem call_tupFK {X : Cx} (K : PySem.W.Frag) (hK : X.K = K := by rfl) : CallR X (.type "tuple") (rTupF K) := by
  subst hK
  exact call_tupF
theorem sc_law : FnScope nLaw ["_law_script"] (defScope sLaw) := ⟨rfl, rfl, rfl, by decide +kernel, rfl, by decide +kernel, by decide +kernel⟩
section
variable {P : Program} {w : World} {K : PySem.W.Frag} {mg : Str → Option Value} {base : Heap} {f : Addr} {fd : FuncData}
theorem ok_law (F : Fun K "law" "law" sLaw f fd) (T : Txt mg) (ct : CalS P w K mg base "_law_taken" 1 ["_law_row", "_law_many"] (spTaken K)) (cm : Cal P w K mg base "_law_move" 1 ["_law_state", "_law_station"] FLawMove)
    (cf : Cal P w K mg base "is_full" 5 ["yard", "state"] FIsFull) (cc : Cal P w K mg base "can_come" 5 ["yard", "one", "other"] FCanCome) (ca : Cal P w K mg base "can_come_at_once" 5 ["yard", "one", "other"] FCanComeAO)
    (ctu : Cal P w K mg base "turned" 5 ["yard", "state", "many"] FTurned) (cfg : Cal P w K mg base "fewest_groups" 6 ["yard", "one", "other"] FFewestGroups) (caa : Cal P w K mg base "all_at_once" 5 ["yard", "state", "many"] FAllAtOnce)
    (cbl : Cal P w K mg base "count_by_left" 5 ["yard", "state"] FCountByLeft) (ccr : Cal P w K mg base "count_reached" 5 ["yard", "state"] FCountReached) (cfc : Cal P w K mg base "fewest_calls" 6 ["yard", "one", "other"] FFewestCalls) :
    FnOk P w K mg base CX0 7 f fd ["_law_script"] (spLaw K) := by
  have nd := sc_law.nd
  refine F.ok sc_law (fun vs H Q E h => ?_) (fun cdv A outer s H vs Q E hr h => ?_)
  · obtain ⟨a, ns, rfl, _⟩ := h
    rfl
  · obtain ⟨a, ns, rfl, hS, hl, q⟩ := h
    have hr1 : Room 1 _ := hr.mono (by decide)
    have hr5 : Room 5 _ := hr.mono (by decide)
    refine ⟨_, pss_cons (ps_set (i := 1) nd rfl (.inl rfl) (pe_lst (pa_cons (pv 0) (pa_cons pe_int (pa_cons pe_int (pa_cons pe_int pa_nil))))))
      (pss_cons (ps_set (i := 2) nd rfl (.inl rfl) (pe_op op_add pe_int (pe_calS ct hr1 (by rfl) (pa_cons (pv 1) (pa_cons pe_int pa_nil)))))
      (pss_cons (ps_set (i := 3) nd rfl (.inl rfl) (pe_op op_add (pv 2) (pe_calS ct hr1 (by rfl) (pa_cons (pv 1) (pa_cons (pe_op op_sub pe_int (pv 2)) pa_nil)))))
      (pss_cons (ps_par (i := 4) (j := 5) (by rfl) nd rfl rfl (by decide) rfl rfl (pa_cons (pe_tup (pa_cons (pv 3) (pa_cons (pv 2) pa_nil))) (pa_cons (pe_listRg rfl (by rfl) T.list (prg_1 (by rfl) T.range (pv 3))) pa_nil)) (by rfl))
      (pss_cons (ps_setLc (i := 7) (own := [("_law_station", 6)]) rfl nd rfl rfl (sw_true rfl rfl rfl (by decide +kernel)) (pi_range1 (by rfl) T.range (pa_cons (pv 2) pa_nil)) (blkOk_by (N := nLaw) (sc := defScope sLaw) (by decide +kernel))
        (fun _ _ _ _ _ => pg_name (i := 6) nd rfl (.inl rfl)) (fun _ _ _ _ _ => pts_nil) (fun _ _ _ _ _ => pe_lst pa_nil))
      (pss_cons (ps_for PassesOwn.never rfl (pi_range1 (by rfl) T.range (pa_cons (pv 2) pa_nil)) (pg_name (i := 6) nd rfl (.inl rfl))
        (pss_one (ps_expr (pe_bm PySem.F.plainAttrs_list PySem.F.slot_list_append PySem.F.type_list_append mt_append (pe_ix ix_list (pv 7) (pv 6) (fun _ _ => rfl)) (pa_cons (pe_bm PySem.F.plainAttrs_list PySem.F.slot_list_pop PySem.F.type_list_pop mt_popAt (pv 5) (pa_cons (pe_calS ct hr1 (by rfl) (pa_cons (pv 1) (pa_cons (pe_callB call_len_seq (by rfl) T.len PySem.boot_len (pa_cons (pv 5) pa_nil)) pa_nil))) pa_nil)) pa_nil)))))
      (pss_cons (ps_for PassesOwn.never rfl (pi_list (pv 5)) (pg_name (i := 8) nd rfl (.inl rfl))
        (pss_one (ps_expr (pe_bm PySem.F.plainAttrs_list PySem.F.slot_list_append PySem.F.type_list_append mt_append (pe_ix ix_list (pv 7) (pe_calS ct hr1 (by rfl) (pa_cons (pv 1) (pa_cons (pv 2) pa_nil))) (fun _ _ => rfl)) (pa_cons (pv 8) pa_nil)))))
      (pss_cons (ps_set (i := 9) nd rfl (.inl rfl) (pe_callTy call_tuple_of (by rfl) T.tuple (by decide +kernel) (pa_cons (pe_lc (own := [("_law_train", 14)]) rfl nd (pi_list (pv 7)) (blkOk_by (N := nLaw) (sc := defScope sLaw) (by decide +kernel))
        (fun _ _ _ _ _ => pg_name (i := 14) nd rfl (.inl rfl)) (fun _ _ _ _ _ => pts_nil) (fun _ _ _ _ _ => pe_callTy (call_tupFK K) (by rfl) T.tuple (by decide +kernel) (pa_cons (pv 14) pa_nil))) pa_nil)))
      (pss_cons (ps_if (PW.pt (pw_or (pt_cmpR op_notBl (pe_cal cf hr5 (by rfl) (pa_cons (pv 4) (pa_cons (pv 9) pa_nil))) pe_bl (nomark _)) (pw_or1 (pt_cmpR op_notBl (pe_cal cc hr5 (by rfl) (pa_cons (pv 4) (pa_cons (pv 9) (pa_cons (pv 9) pa_nil)))) pe_bl (nomark _))))) (pss_one (ps_ret pe_bl)) pss_nil)
      (pss_cons (ps_for PassesOwn.never rfl (pi_range2 (by rfl) T.range (pa_cons pe_int (pa_cons (pv 2) pa_nil))) (pg_name (i := 10) nd rfl (.inl rfl))
        (pss_cons (ps_set (i := 11) nd rfl (.inl rfl) (pe_cal ctu hr5 (by rfl) (pa_cons (pv 4) (pa_cons (pv 9) (pa_cons (pv 10) pa_nil)))))
        (pss_cons (ps_if (PW.pt (pw_or (pt_val (pe_cal cc hr5 (by rfl) (pa_cons (pv 4) (pa_cons (pv 9) (pa_cons (pv 11) pa_nil))))) (pw_or1 (pt_not (pt_val (pe_cal ca hr5 (by rfl) (pa_cons (pv 4) (pa_cons (pv 9) (pa_cons (pv 11) pa_nil))))))))) (pss_one (ps_ret pe_bl)) pss_nil)
        (pss_one (ps_if (PW.pt (pw_or (pt_cmpR op_ne (pe_cal cfg hr (by rfl) (pa_cons (pv 4) (pa_cons (pv 9) (pa_cons (pv 11) pa_nil)))) (pv 10) (nomark _)) (pw_or1 (pt_cmpR (op_neK K hr.units) (pe_cal caa hr5 (by rfl) (pa_cons (pv 4) (pa_cons (pv 9) (pa_cons (pv 10) pa_nil)))) (pv 11) (nomark _))))) (pss_one (ps_ret pe_bl)) pss_nil)))))
      (pss_cons (ps_set (i := 12) nd rfl (.inl rfl) (pe_cal cbl hr5 (by rfl) (pa_cons (pv 4) (pa_cons (pv 9) pa_nil))))
      (pss_cons (ps_if (PW.pt (pw_or (pt_cmpR op_ne (pe_ix ix_tup (pv 12) (pe_un un_neg pe_int) (fun _ _ => rfl)) pe_int (nomark _)) (pw_or (pt_cmpR op_ne (pe_callB call_len_seq (by rfl) T.len PySem.boot_len (pa_cons (pv 12) pa_nil)) (pv 2) (nomark _)) (pw_or1 (pt_cmpR op_ne (pe_callB (cr_sumT rfl) (by rfl) T.sum (by decide +kernel) (pa_cons (pv 12) pa_nil)) (pe_cal ccr hr5 (by rfl) (pa_cons (pv 4) (pa_cons (pv 9) pa_nil))) (nomark _)))))) (pss_one (ps_ret pe_bl)) pss_nil)
      (pss_cons (ps_set (i := 6) nd rfl (.inl rfl) (pe_calS ct hr1 (by rfl) (pa_cons (pv 1) (pa_cons (pv 2) pa_nil))))
      (pss_cons (ps_set (i := 13) nd rfl (.inl rfl) (pe_cal cm hr1 (by rfl) (pa_cons (pv 9) (pa_cons (pv 6) pa_nil))))
      (pss_cons (ps_if (PW.pt (pw_or (pt_val (pe_cal cf hr5 (by rfl) (pa_cons (pv 4) (pa_cons (pv 13) pa_nil)))) (pw_or (pt_cmpR op_ne (pe_cal cfc hr (by rfl) (pa_cons (pv 4) (pa_cons (pv 9) (pa_cons (pv 13) pa_nil)))) pe_int (nomark _)) (pw_or1 (pt_val (pe_cal cc hr5 (by rfl) (pa_cons (pv 4) (pa_cons (pv 13) (pa_cons (pv 9) pa_nil))))))))) (pss_one (ps_ret pe_bl)) pss_nil)
      (pss_cons (ps_for PassesOwn.never rfl (pi_range2 (by rfl) T.range (pa_cons pe_int (pa_cons (pv 2) pa_nil))) (pg_name (i := 10) nd rfl (.inl rfl))
        (pss_one (ps_if (pt_cmpR op_ne (pe_cal cfc hr (by rfl) (pa_cons (pv 4) (pa_cons (pv 9) (pa_cons (pe_cal ctu hr5 (by rfl) (pa_cons (pv 4) (pa_cons (pv 13) (pa_cons (pv 10) pa_nil)))) pa_nil)))) (pe_op op_add pe_int (pe_op op_mul (pv 10) (pe_op op_sub (pv 2) pe_int))) (nomark _)) (pss_one (ps_ret pe_bl)) pss_nil)))
      (pss_one (ps_ret pe_bl))))))))))))))))), ?_⟩
    exact law_val hS q
end
end Tr
/-! The end: the defs as they lie in the module, the law's row. -/
namespace Tr
open PySem PySem.Spec PyProof.Rows L2 RT
/-- a def of the text that the module knows by the name nm -/
structure DefIn (K : PySem.W.Frag) (nm x qual : Str) (st : Stmt) : Prop where
  ex : ∃ (f : Addr) (fd : FuncData), PySem.W.nsIn K mainGlobals nm = some (some (.ref f)) ∧ Fun K x qual st f fd
theorem defIn_mk {K : PySem.W.Frag} {nm x qual : Str} {st : Stmt} {f : Addr} {oc : Value} {od an : Option Addr} {osl : Array (Option Value)} {kV doc pm cdv ct : Value} (a : PySem.W.nsIn K mainGlobals nm = some (some (.ref f)))
    (l : K.lookup f = some ⟨oc, od, .func (PySem.W.fnOf x qual (defArgs st) (defBody st) (defScope st) .none kV doc pm an cdv ct), osl⟩) (c : PySem.W.codeIn K cdv qual = true) (k : PySem.W.keepIn K (.ref f) = true) : DefIn K nm x qual st := ⟨f, _, a, fun_mk l c k⟩
theorem cal_of {P : Program} {w : World} {K : PySem.W.Frag} {h base : Heap} {mg : Str → Option Value} {nm x qual : Str} {st : Stmt} {k : Nat} {ps : List Str} {F : List Dat → Dat → Prop} (X : K.In h) (G : h.Ns mainGlobals mg) (d : DefIn K nm x qual st)
    (hb : ∀ f fd, Fun K x qual st f fd → Binds K fd ps []) (ok : ∀ f fd, Fun K x qual st f fd → FnOk P w K mg base CX0 k f fd ps (spG F)) : Cal P w K mg base nm k ps F :=
  let ⟨f, fd, a, Fn⟩ := d.ex; ⟨f, fd, ok f fd Fn, PySem.W.mg_of X G a, Fn.kp, hb f fd Fn⟩
theorem calS_of {P : Program} {w : World} {K : PySem.W.Frag} {h base : Heap} {mg : Str → Option Value} {nm x qual : Str} {st : Stmt} {k : Nat} {ps : List Str} {sp : Sp} (X : K.In h) (G : h.Ns mainGlobals mg) (d : DefIn K nm x qual st)
    (hb : ∀ f fd, Fun K x qual st f fd → Binds K fd ps []) (ok : ∀ f fd, Fun K x qual st f fd → FnOk P w K mg base CX0 k f fd ps sp) : CalS P w K mg base nm k ps sp :=
  let ⟨f, fd, a, Fn⟩ := d.ex; ⟨f, fd, ok f fd Fn, PySem.W.mg_of X G a, Fn.kp, hb f fd Fn⟩
theorem all_mk {P : Program} {w : World} {K : PySem.W.Frag} {h : Heap} {mg : Str → Option Value} {fa : Addr} (X : K.In h) (G : h.Ns mainGlobals mg) (hfa : mg "law" = some (.ref fa)) {t1 t2 : Tok}
    (d_is_integer : DefIn K "is_integer" "is_integer" "is_integer" sIsInteger)
    (d_is_in : DefIn K "is_in" "is_in" "is_in" sIsIn)
    (d_is_list : DefIn K "is_list" "is_list" "is_list" sIsList)
    (d_need_yard : DefIn K "need_yard" "need_yard" "need_yard" sNeedYard)
    (d_need_trains : DefIn K "need_trains" "need_trains" "need_trains" sNeedTrains)
    (d_need_state : DefIn K "need_state" "need_state" "need_state" sNeedState)
    (d_station_in : DefIn K "station_in" "station_in" "station_in" sStationIn)
    (d_trains_in : DefIn K "trains_in" "trains_in" "trains_in" sTrainsIn)
    (d_is_full : DefIn K "is_full" "is_full" "is_full" sIsFull)
    (d_choose : DefIn K "choose" "choose" "choose" sChoose)
    (d_word_in : DefIn K "word_in" "word_in" "word_in" sWordIn)
    (d_heights_in : DefIn K "heights_in" "heights_in" "heights_in" sHeightsIn)
    (d_rises_in : DefIn K "rises_in" "rises_in" "rises_in" sRisesIn)
    (d_is_stuck : DefIn K "is_stuck" "is_stuck" "is_stuck" sIsStuck)
    (d_rises_or_none : DefIn K "rises_or_none" "rises_or_none" "rises_or_none" sRisesOrNone)
    (d_can_come : DefIn K "can_come" "can_come" "can_come" sCanCome)
    (d_need_rises_reach : DefIn K "need_rises_reach" "need_rises" "need_rises" sNeedRisesR)
    (d_fewest_in : DefIn K "fewest_in" "fewest_in" "fewest_in" sFewestIn)
    (d_fewest_calls : DefIn K "fewest_calls" "fewest_calls" "fewest_calls" sFewestCalls)
    (d_can_come_at_once : DefIn K "can_come_at_once" "can_come_at_once" "can_come_at_once" sCanComeAO)
    (d_need_rises_groups : DefIn K "need_rises_groups" "need_rises" "need_rises" sNeedRisesG)
    (d_fewest_groups : DefIn K "fewest_groups" "fewest_groups" "fewest_groups" sFewestGroups)
    (d_all_at_once : DefIn K "all_at_once" "all_at_once" "all_at_once" sAllAtOnce)
    (d_turned : DefIn K "turned" "turned" "turned" sTurned)
    (d_count_reached : DefIn K "count_reached" "count_reached" "count_reached" sCountReached)
    (d_count_by_left : DefIn K "count_by_left" "count_by_left" "count_by_left" sCountByLeft)
    (d__law_move : DefIn K "_law_move" "_law_move" "_law_move" sLawMove)
    (d_taken : DefIn K "_law_taken" "_law_taken" "_law_taken" sLawTaken) (d_law : DefIn K "law" "law" "law" sLaw)
    (z_isi : PySem.W.nsIn K mainGlobals "isinstance" = some none)
    (z_int : PySem.W.nsIn K mainGlobals "int" = some none)
    (z_bool : PySem.W.nsIn K mainGlobals "bool" = some none)
    (z_tuple : PySem.W.nsIn K mainGlobals "tuple" = some none)
    (z_len : PySem.W.nsIn K mainGlobals "len" = some none)
    (z_enumerate : PySem.W.nsIn K mainGlobals "enumerate" = some none)
    (z_all : PySem.W.nsIn K mainGlobals "all" = some none)
    (z_range : PySem.W.nsIn K mainGlobals "range" = some none)
    (z_reversed : PySem.W.nsIn K mainGlobals "reversed" = some none)
    (z_max : PySem.W.nsIn K mainGlobals "max" = some none)
    (z_zip : PySem.W.nsIn K mainGlobals "zip" = some none)
    (z_any : PySem.W.nsIn K mainGlobals "any" = some none)
    (z_sum : PySem.W.nsIn K mainGlobals "sum" = some none)
    (z_list : PySem.W.nsIn K mainGlobals "list" = some none)
    (z_mc : PySem.W.nsIn K mainGlobals "MOST_CARS" = some (some (.int 7 t1))) (z_ms : PySem.W.nsIn K mainGlobals "MOST_STATIONS" = some (some (.int 8 t2))) :
    ∃ fd : FuncData, (∀ (s : Shared) (v : Value), BindsTo s fd ⟨[v], []⟩ [("_law_script", v)]) ∧ ∀ base : Heap, K.In base → base.Ns mainGlobals mg → FnOk P w K mg base CX0 7 fa fd ["_law_script"] (spLaw K) := by
  have T : Txt mg := { isi := PySem.W.mg_none_of X G z_isi, int := PySem.W.mg_none_of X G z_int, bool := PySem.W.mg_none_of X G z_bool, tuple := PySem.W.mg_none_of X G z_tuple, len := PySem.W.mg_none_of X G z_len, enumerate := PySem.W.mg_none_of X G z_enumerate, all := PySem.W.mg_none_of X G z_all, range := PySem.W.mg_none_of X G z_range, reversed := PySem.W.mg_none_of X G z_reversed, max := PySem.W.mg_none_of X G z_max, zip := PySem.W.mg_none_of X G z_zip, any := PySem.W.mg_none_of X G z_any, sum := PySem.W.mg_none_of X G z_sum, list := PySem.W.mg_none_of X G z_list, mc := ⟨_, PySem.W.mg_of X G z_mc⟩, ms := ⟨_, PySem.W.mg_of X G z_ms⟩ }
  obtain ⟨f, fd, a, Fl⟩ := d_law.ex
  have e := hfa.symm.trans (PySem.W.mg_of X G a)
  cases e
  have Fl' := Fl
  obtain ⟨oc, od, kV, doc, pm, an, cdv, ct, osl, rfl, lk, hcd⟩ := Fl.ex
  refine ⟨PySem.W.fnOf "law" "law" (defArgs sLaw) (defBody sLaw) (defScope sLaw) .none kV doc pm an cdv ct, fun s v => .of_eq rfl, fun base _ _ => ?_⟩
  have c_is_integer : Cal P w K mg base "is_integer" 1 ["value"] FIsInteger := cal_of X G d_is_integer (fun f fd Fn => Fn.binds fun _ _ _ _ _ _ us hl => match us, hl with | [_], _ => rfl) fun f fd Fn => ok_is_integer Fn T
  have c_is_in : Cal P w K mg base "is_in" 2 ["value", "least", "most"] FIsIn := cal_of X G d_is_in (fun f fd Fn => Fn.binds fun _ _ _ _ _ _ us hl => match us, hl with | [_, _, _], _ => rfl) fun f fd Fn => ok_is_in Fn c_is_integer
  have c_is_list : Cal P w K mg base "is_list" 1 ["value", "least", "most"] FIsList := cal_of X G d_is_list (fun f fd Fn => Fn.binds fun _ _ _ _ _ _ us hl => match us, hl with | [_, _, _], _ => rfl) fun f fd Fn => ok_is_list Fn T
  have c_need_yard : Cal P w K mg base "need_yard" 3 ["yard"] FNeedYard := cal_of X G d_need_yard (fun f fd Fn => Fn.binds fun _ _ _ _ _ _ us hl => match us, hl with | [_], _ => rfl) fun f fd Fn => ok_need_yard Fn T c_is_in c_is_list
  have c_need_trains : Cal P w K mg base "need_trains" 3 ["yard", "state"] FNeedTrains := cal_of X G d_need_trains (fun f fd Fn => Fn.binds fun _ _ _ _ _ _ us hl => match us, hl with | [_, _], _ => rfl) fun f fd Fn => ok_need_trains Fn T c_is_in c_is_list
  have c_need_state : Cal P w K mg base "need_state" 4 ["yard", "state"] FNeedState := cal_of X G d_need_state (fun f fd Fn => Fn.binds fun _ _ _ _ _ _ us hl => match us, hl with | [_, _], _ => rfl) fun f fd Fn => ok_need_state Fn c_need_yard c_need_trains
  have c_station_in : Cal P w K mg base "station_in" 1 ["state", "car"] FStationIn := cal_of X G d_station_in (fun f fd Fn => Fn.binds fun _ _ _ _ _ _ us hl => match us, hl with | [_, _], _ => rfl) fun f fd Fn => ok_station_in Fn T
  have c_trains_in : Cal P w K mg base "trains_in" 1 ["state"] FTrainsIn := cal_of X G d_trains_in (fun f fd Fn => Fn.binds fun _ _ _ _ _ _ us hl => match us, hl with | [_], _ => rfl) fun f fd Fn => ok_trains_in Fn T
  have c_is_full : Cal P w K mg base "is_full" 5 ["yard", "state"] FIsFull := cal_of X G d_is_full (fun f fd Fn => Fn.binds fun _ _ _ _ _ _ us hl => match us, hl with | [_, _], _ => rfl) fun f fd Fn => ok_is_full Fn T c_need_state
  have c_choose : Cal P w K mg base "choose" 1 ["many", "some"] FChoose := cal_of X G d_choose (fun f fd Fn => Fn.binds fun _ _ _ _ _ _ us hl => match us, hl with | [_, _], _ => rfl) fun f fd Fn => ok_choose Fn T
  have c_word_in : Cal P w K mg base "word_in" 1 ["state"] FWordIn := cal_of X G d_word_in (fun f fd Fn => Fn.binds fun _ _ _ _ _ _ us hl => match us, hl with | [_], _ => rfl) fun f fd Fn => ok_word_in Fn T
  have c_heights_in : Cal P w K mg base "heights_in" 2 ["state"] FHeightsIn := cal_of X G d_heights_in (fun f fd Fn => Fn.binds fun _ _ _ _ _ _ us hl => match us, hl with | [_], _ => rfl) fun f fd Fn => ok_heights_in Fn T c_word_in c_station_in
  have c_rises_in : Cal P w K mg base "rises_in" 3 ["one", "other"] FRisesIn := cal_of X G d_rises_in (fun f fd Fn => Fn.binds fun _ _ _ _ _ _ us hl => match us, hl with | [_, _], _ => rfl) fun f fd Fn => ok_rises_in Fn T c_word_in c_heights_in c_trains_in
  have c_is_stuck : Cal P w K mg base "is_stuck" 1 ["one", "other"] FIsStuck := cal_of X G d_is_stuck (fun f fd Fn => Fn.binds fun _ _ _ _ _ _ us hl => match us, hl with | [_, _], _ => rfl) fun f fd Fn => ok_is_stuck Fn T
  have c_rises_or_none : Cal P w K mg base "rises_or_none" 4 ["one", "other"] FRon := cal_of X G d_rises_or_none (fun f fd Fn => Fn.binds fun _ _ _ _ _ _ us hl => match us, hl with | [_, _], _ => rfl) fun f fd Fn => ok_ron Fn c_is_stuck c_rises_in
  have c_can_come : Cal P w K mg base "can_come" 5 ["yard", "one", "other"] FCanCome := cal_of X G d_can_come (fun f fd Fn => Fn.binds fun _ _ _ _ _ _ us hl => match us, hl with | [_, _, _], _ => rfl) fun f fd Fn => ok_can_come Fn c_need_state c_need_trains c_rises_or_none
  have c_need_rises_reach : Cal P w K mg base "need_rises_reach" 5 ["yard", "one", "other"] (FNeed ronM) := cal_of X G d_need_rises_reach (fun f fd Fn => Fn.binds fun _ _ _ _ _ _ us hl => match us, hl with | [_, _, _], _ => rfl) fun f fd Fn => ok_need_r Fn c_need_state c_need_trains c_rises_or_none
  have c_fewest_in : Cal P w K mg base "fewest_in" 2 ["rises_found", "other"] FFewestIn := cal_of X G d_fewest_in (fun f fd Fn => Fn.binds fun _ _ _ _ _ _ us hl => match us, hl with | [_, _], _ => rfl) fun f fd Fn => ok_fewest_in Fn T c_trains_in
  have c_fewest_calls : Cal P w K mg base "fewest_calls" 6 ["yard", "one", "other"] FFewestCalls := cal_of X G d_fewest_calls (fun f fd Fn => Fn.binds fun _ _ _ _ _ _ us hl => match us, hl with | [_, _, _], _ => rfl) fun f fd Fn => ok_fewest_calls Fn c_fewest_in c_need_rises_reach
  have c_can_come_at_once : Cal P w K mg base "can_come_at_once" 5 ["yard", "one", "other"] FCanComeAO := cal_of X G d_can_come_at_once (fun f fd Fn => Fn.binds fun _ _ _ _ _ _ us hl => match us, hl with | [_, _, _], _ => rfl) fun f fd Fn => ok_can_come_ao Fn c_need_state c_need_trains c_rises_in
  have c_need_rises_groups : Cal P w K mg base "need_rises_groups" 5 ["yard", "one", "other"] (FNeed risesM) := cal_of X G d_need_rises_groups (fun f fd Fn => Fn.binds fun _ _ _ _ _ _ us hl => match us, hl with | [_, _, _], _ => rfl) fun f fd Fn => ok_need_g Fn c_need_state c_need_trains c_rises_in
  have c_fewest_groups : Cal P w K mg base "fewest_groups" 6 ["yard", "one", "other"] FFewestGroups := cal_of X G d_fewest_groups (fun f fd Fn => Fn.binds fun _ _ _ _ _ _ us hl => match us, hl with | [_, _, _], _ => rfl) fun f fd Fn => ok_fewest_groups Fn T c_need_rises_groups
  have c_all_at_once : Cal P w K mg base "all_at_once" 5 ["yard", "state", "many"] FAllAtOnce := cal_of X G d_all_at_once (fun f fd Fn => Fn.binds fun _ _ _ _ _ _ us hl => match us, hl with | [_, _, _], _ => rfl) fun f fd Fn => ok_all_at_once Fn T c_need_state c_is_in
  have c_turned : Cal P w K mg base "turned" 5 ["yard", "state", "many"] FTurned := cal_of X G d_turned (fun f fd Fn => Fn.binds fun _ _ _ _ _ _ us hl => match us, hl with | [_, _, _], _ => rfl) fun f fd Fn => ok_turned Fn T c_need_state c_is_in
  have c_count_reached : Cal P w K mg base "count_reached" 5 ["yard", "state"] FCountReached := cal_of X G d_count_reached (fun f fd Fn => Fn.binds fun _ _ _ _ _ _ us hl => match us, hl with | [_, _], _ => rfl) fun f fd Fn => ok_count_reached Fn T c_need_state c_trains_in c_choose
  have c_count_by_left : Cal P w K mg base "count_by_left" 5 ["yard", "state"] FCountByLeft := cal_of X G d_count_by_left (fun f fd Fn => Fn.binds fun _ _ _ _ _ _ us hl => match us, hl with | [_, _], _ => rfl) fun f fd Fn => ok_count_by_left Fn T c_need_state c_trains_in c_choose
  have c__law_move : Cal P w K mg base "_law_move" 1 ["_law_state", "_law_station"] FLawMove := cal_of X G d__law_move (fun f fd Fn => Fn.binds fun _ _ _ _ _ _ us hl => match us, hl with | [_, _], _ => rfl) fun f fd Fn => ok_law_move Fn T
  have c_taken : CalS P w K mg base "_law_taken" 1 ["_law_row", "_law_many"] (spTaken K) := calS_of X G d_taken (fun f fd Fn => Fn.binds fun _ _ _ _ _ _ us hl => match us, hl with | [_, _], _ => rfl) fun f fd Fn => ok_law_taken Fn T
  exact ok_law Fl' T c_taken c__law_move c_is_full c_can_come c_can_come_at_once c_turned c_fewest_groups c_all_at_once c_count_by_left c_count_reached c_fewest_calls
end Tr

open PySem PySem.W PyProof.Rows in
set_option maxHeartbeats 0 in
theorem PySem.Challenge.cw_trainring_k63_whole_full_yards_holds : PySem.Challenge.rw_trainring_k63_whole_full_yards.Holds := by
  w_on; o_law; k_head; (case hw => w_witness2)
  k_fill
  refine L2.walk_of (l := PySem.Challenge.rw_trainring_k63_whole_full_yards) (n := 63) (k := 7) (x := "_law_script") (CX := fun _ => L2.CX0) (sp := fun w => Tr.spLaw _) rfl (by decide) rfl ⟨rfl, by decide, by decide⟩ (fun w h Y => PySem.W.kIn_of Y) ?F (fun _ _ a ns hl _ hS => ⟨a, ns, rfl, hS, hl, fun _ => rfl⟩) (fun _ _ _ _ _ h => h)
  case F =>
    intro w mg fa h KX G hmg
    refine' Tr.all_mk KX G hmg ?d_is_integer ?d_is_in ?d_is_list ?d_need_yard ?d_need_trains ?d_need_state ?d_station_in ?d_trains_in ?d_is_full ?d_choose ?d_word_in ?d_heights_in ?d_rises_in ?d_is_stuck ?d_rises_or_none ?d_can_come ?d_need_rises_reach ?d_fewest_in ?d_fewest_calls ?d_can_come_at_once ?d_need_rises_groups ?d_fewest_groups ?d_all_at_once ?d_turned ?d_count_reached ?d_count_by_left ?d__law_move ?d_taken ?d_law ?z_isi ?z_int ?z_bool ?z_tuple ?z_len ?z_enumerate ?z_all ?z_range ?z_reversed ?z_max ?z_zip ?z_any ?z_sum ?z_list ?z_mc ?z_ms
    (case d_is_integer => refine' Tr.defIn_mk ?a ?l ?c ?k; (case a => k_is); (case l => k_is); (case c => k_is); (case k => k_is))
    (case d_is_in => refine' Tr.defIn_mk ?a ?l ?c ?k; (case a => k_is); (case l => k_is); (case c => k_is); (case k => k_is))
    (case d_is_list => refine' Tr.defIn_mk ?a ?l ?c ?k; (case a => k_is); (case l => k_is); (case c => k_is); (case k => k_is))
    (case d_need_yard => refine' Tr.defIn_mk ?a ?l ?c ?k; (case a => k_is); (case l => k_is); (case c => k_is); (case k => k_is))
    (case d_need_trains => refine' Tr.defIn_mk ?a ?l ?c ?k; (case a => k_is); (case l => k_is); (case c => k_is); (case k => k_is))
    (case d_need_state => refine' Tr.defIn_mk ?a ?l ?c ?k; (case a => k_is); (case l => k_is); (case c => k_is); (case k => k_is))
    (case d_station_in => refine' Tr.defIn_mk ?a ?l ?c ?k; (case a => k_is); (case l => k_is); (case c => k_is); (case k => k_is))
    (case d_trains_in => refine' Tr.defIn_mk ?a ?l ?c ?k; (case a => k_is); (case l => k_is); (case c => k_is); (case k => k_is))
    (case d_is_full => refine' Tr.defIn_mk ?a ?l ?c ?k; (case a => k_is); (case l => k_is); (case c => k_is); (case k => k_is))
    (case d_choose => refine' Tr.defIn_mk ?a ?l ?c ?k; (case a => k_is); (case l => k_is); (case c => k_is); (case k => k_is))
    (case d_word_in => refine' Tr.defIn_mk ?a ?l ?c ?k; (case a => k_is); (case l => k_is); (case c => k_is); (case k => k_is))
    (case d_heights_in => refine' Tr.defIn_mk ?a ?l ?c ?k; (case a => k_is); (case l => k_is); (case c => k_is); (case k => k_is))
    (case d_rises_in => refine' Tr.defIn_mk ?a ?l ?c ?k; (case a => k_is); (case l => k_is); (case c => k_is); (case k => k_is))
    (case d_is_stuck => refine' Tr.defIn_mk ?a ?l ?c ?k; (case a => k_is); (case l => k_is); (case c => k_is); (case k => k_is))
    (case d_rises_or_none => refine' Tr.defIn_mk ?a ?l ?c ?k; (case a => k_is); (case l => k_is); (case c => k_is); (case k => k_is))
    (case d_can_come => refine' Tr.defIn_mk ?a ?l ?c ?k; (case a => k_is); (case l => k_is); (case c => k_is); (case k => k_is))
    (case d_need_rises_reach => refine' Tr.defIn_mk ?a ?l ?c ?k; (case a => k_is); (case l => k_is); (case c => k_is); (case k => k_is))
    (case d_fewest_in => refine' Tr.defIn_mk ?a ?l ?c ?k; (case a => k_is); (case l => k_is); (case c => k_is); (case k => k_is))
    (case d_fewest_calls => refine' Tr.defIn_mk ?a ?l ?c ?k; (case a => k_is); (case l => k_is); (case c => k_is); (case k => k_is))
    (case d_can_come_at_once => refine' Tr.defIn_mk ?a ?l ?c ?k; (case a => k_is); (case l => k_is); (case c => k_is); (case k => k_is))
    (case d_need_rises_groups => refine' Tr.defIn_mk ?a ?l ?c ?k; (case a => k_is); (case l => k_is); (case c => k_is); (case k => k_is))
    (case d_fewest_groups => refine' Tr.defIn_mk ?a ?l ?c ?k; (case a => k_is); (case l => k_is); (case c => k_is); (case k => k_is))
    (case d_all_at_once => refine' Tr.defIn_mk ?a ?l ?c ?k; (case a => k_is); (case l => k_is); (case c => k_is); (case k => k_is))
    (case d_turned => refine' Tr.defIn_mk ?a ?l ?c ?k; (case a => k_is); (case l => k_is); (case c => k_is); (case k => k_is))
    (case d_count_reached => refine' Tr.defIn_mk ?a ?l ?c ?k; (case a => k_is); (case l => k_is); (case c => k_is); (case k => k_is))
    (case d_count_by_left => refine' Tr.defIn_mk ?a ?l ?c ?k; (case a => k_is); (case l => k_is); (case c => k_is); (case k => k_is))
    (case d__law_move => refine' Tr.defIn_mk ?a ?l ?c ?k; (case a => k_is); (case l => k_is); (case c => k_is); (case k => k_is))
    (case d_taken => refine' Tr.defIn_mk ?a ?l ?c ?k; (case a => k_is); (case l => k_is); (case c => k_is); (case k => k_is))
    (case d_law => refine' Tr.defIn_mk ?a ?l ?c ?k; (case a => k_is); (case l => k_is); (case c => k_is); (case k => k_is))
    (case z_isi => k_is)
    (case z_int => k_is)
    (case z_bool => k_is)
    (case z_tuple => k_is)
    (case z_len => k_is)
    (case z_enumerate => k_is)
    (case z_all => k_is)
    (case z_range => k_is)
    (case z_reversed => k_is)
    (case z_max => k_is)
    (case z_zip => k_is)
    (case z_any => k_is)
    (case z_sum => k_is)
    (case z_list => k_is)
    (case z_mc => k_is)
    (case z_ms => k_is)
