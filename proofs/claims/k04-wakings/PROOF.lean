import PyProof.Rows.All
import HandS.ForMost
import HandS.Walk
import HandS.TryMany
import HandS.Lambda
import HandS.ExcCtx
import HandS.MakeKwOnly
import HandS.TupAny
import HandS.Wide
import HandS.Flow
import HandS.IsInst
import HandS.FStr
import HandS.WordsDict
import HandS.RaiseMore
import HandS.ExcInit
import HandS.ExcInitHot
import HandS.ExcIs
import HandS.OwnEq
import HandS.HeadWalk
import HandS.HeadHook4
import HandS.Head2
import PySem.Challenge.RW_hiddenhands_k04_wakings_refused_and_told
import HandS.Head4
section S1
set_option Elab.async false
set_option linter.all false
set_option maxRecDepth 100000
/-! MPa: values as trees, the heap of a run, how they lie in the abstract heap. -/
namespace MP
open PySem PySem.Spec PyProof.Rows L2

/-- a value of a run: tuples are trees, lists, dicts and instances stand in the run's heap -/
inductive T where
  | non | bl (b : Bool) | int (i : Int) | str (s : Str) | ty (n : String)
  | obj (i : Nat) | ref (n : Nat) | tup (l : List T) | clo (i : Nat) (caps : List T)
  deriving Inhabited

/-- what stands in the run's heap -/
inductive C where
  | lst (xs : List T) | flst (xs : List T) | dct (kvs : List (Key × T)) | ins (c : Nat) (fs : List (Str × T))
  deriving Inhabited
abbrev Hm := List C
abbrev Fs := List (Str × T)
abbrev Env' := List (Option T)

/-- how a step ends: a value, an error of a class with its fields, or nothing that is told -/
inductive R (α : Type) where
  | ok (a : α) (A : Hm) | err (c : Nat) (fs : Fs) (A : Hm) | bad
def R.bind {α β : Type} (r : R α) (k : α → Hm → R β) : R β :=
  match r with
  | .ok a A => k a A
  | .err c fs A => .err c fs A
  | .bad => .bad

/-- what once stands so stands so for ever -/
def Stable : HO → Prop
  | .tup _ => True | .frz _ _ => True | .ext _ => True | .xd _ => True
  | _ => False
def Mono (H H' : Hp) : Prop := ∀ b o, H b = some o → Stable o → H' b = some o
theorem Mono.refl {H : Hp} : Mono H H := fun _ _ h _ => h
theorem Mono.trans {H H1 H2 : Hp} (a : Mono H H1) (b : Mono H1 H2) : Mono H H2 := fun c o h s => b c o (a c o h s) s
theorem Mono.new {H : Hp} {p : Addr} {o : HO} (h : H p = none) : Mono H (upd H p o) := fun b u e _ => by
  rw [upd_ne (ne_of_none e h)]; exact e
theorem Mono.put {H : Hp} {p : Addr} {o u : HO} (h : H p = some u) (n : ¬ Stable u) : Mono H (upd H p o) := fun b v e s => by
  rw [upd_ne]; exact e
  intro z; subst z; rw [h] at e; cases e; exact n s
theorem Mono.tup {K : PySem.W.Frag} {H H' : Hp} {p : Addr} {xs : List V} (m : Mono H H') (h : SqT K H p xs) : SqT K H' p xs := by
  rcases h with (h | ⟨o, h⟩) | h
  · exact .inl (.inl (m _ _ h trivial))
  · exact .inl (.inr ⟨o, m _ _ h trivial⟩)
  · exact .inr h

/-- what is fixed through a whole law: where the objects of the text stand, the tables of code objects, what a lambda is -/
structure Sx where
  ι : Nat → Addr
  tb : List (Addr × Str)
  lam : Nat → Hp → Addr → List V → Prop
  lamM : ∀ i H H' f xs, Mono H H' → lam i H f xs → lam i H' f xs

section
variable (K : PySem.W.Frag) (S : Sx) (ρ : List Addr) (H : Hp)
mutual
inductive RelV : T → V → Prop
  | non : RelV .non .non
  | bl (b : Bool) : RelV (.bl b) (.bl b)
  | int (i : Int) : RelV (.int i) (.int i)
  | str (s : Str) : RelV (.str s) (.str s)
  | ty (n : String) : RelV (.ty n) (.ty n)
  | obj (i : Nat) : RelV (.obj i) (.ref (S.ι i))
  | ref {n : Nat} {p : Addr} : ρ[n]? = some p → RelV (.ref n) (.ref p)
  | tup {l : List T} {p : Addr} {xs : List V} : SqT K H p xs → RelL l xs → RelV (.tup l) (.ref p)
  | clo {i : Nat} {l : List T} {f : Addr} {xs : List V} : S.lam i H f xs → RelL l xs → RelV (.clo i l) (.ref f)
inductive RelL : List T → List V → Prop
  | nil : RelL [] []
  | cons {t : T} {x : V} {l : List T} {xs : List V} : RelV t x → RelL l xs → RelL (t :: l) (x :: xs)
end
/-- fields by name -/
inductive RelF : Fs → List (Str × V) → Prop
  | nil : RelF [] []
  | cons {f : Str} {t : T} {x : V} {l : Fs} {xs : List (Str × V)} : RelV K S ρ H t x → RelF l xs → RelF ((f, t) :: l) ((f, x) :: xs)
/-- pairs of a dict -/
inductive RelD : List (Key × T) → List (Key × V) → Prop
  | nil : RelD [] []
  | cons {k : Key} {t : T} {x : V} {l : List (Key × T)} {xs : List (Key × V)} : RelV K S ρ H t x → RelD l xs → RelD ((k, t) :: l) ((k, x) :: xs)
/-- slots: where the run knows a value it stands so -/
inductive RelS : Env' → L2.St → Prop
  | nil : RelS [] []
  | cons {t : T} {x : V} {l : Env'} {xs : L2.St} : RelV K S ρ H t x → RelS l xs → RelS (some t :: l) (some x :: xs)
  | any {x : Option V} {l : Env'} {xs : L2.St} : RelS l xs → RelS (none :: l) (x :: xs)
inductive RelC : C → HO → Prop
  | lst {l : List T} {xs : List V} : RelL K S ρ H l xs → RelC (.lst l) (.lst xs)
  | flst {l : List T} {xs : List V} {o : Obj} : RelL K S ρ H l xs → RelC (.flst l) (.frz o (.lst xs))
  | dct {l : List (Key × T)} {xs : List (Key × V)} : RelD K S ρ H l xs → RelC (.dct l) (.dK xs)
  | ins {c : Nat} {fs : Fs} {gs : List (Str × V)} {dx : Addr} : RelF K S ρ H fs gs → RelC (.ins c fs) (.ins (S.ι c) dx gs)
structure RelH (A : Hm) : Prop where
  len : ρ.length = A.length
  nd : ρ.Nodup
  at_ : ∀ (n : Nat) (c : C) (p : Addr), A[n]? = some c → ρ[n]? = some p → ∃ o, H p = some o ∧ RelC K S ρ H c o
  tabs : LamX.Tabs S.tb H
end

section
variable {K : PySem.W.Frag} {S : Sx} {ρ ρ' : List Addr} {H H' : Hp}
theorem pre_get {n : Nat} {p : Addr} (h : ρ <+: ρ') (e : ρ[n]? = some p) : ρ'[n]? = some p := by
  obtain ⟨t, rfl⟩ := h
  have hn : n < ρ.length := (List.getElem?_eq_some_iff.mp e).1
  rw [List.getElem?_append_left hn]; exact e
mutual
theorem RelV.mono (hr : ρ <+: ρ') (m : Mono H H') : ∀ {t : T} {x : V}, RelV K S ρ H t x → RelV K S ρ' H' t x
  | _, _, .non => .non
  | _, _, .bl b => .bl b
  | _, _, .int i => .int i
  | _, _, .str s => .str s
  | _, _, .ty n => .ty n
  | _, _, .obj i => .obj i
  | _, _, .ref e => .ref (pre_get hr e)
  | _, _, .tup h l => .tup (m.tup h) (RelL.mono hr m l)
  | _, _, .clo h l => .clo (S.lamM _ _ _ _ _ m h) (RelL.mono hr m l)
theorem RelL.mono (hr : ρ <+: ρ') (m : Mono H H') : ∀ {t : List T} {x : List V}, RelL K S ρ H t x → RelL K S ρ' H' t x
  | _, _, .nil => .nil
  | _, _, .cons a b => .cons (RelV.mono hr m a) (RelL.mono hr m b)
end
theorem RelF.mono (hr : ρ <+: ρ') (m : Mono H H') {t : Fs} {x : List (Str × V)} (h : RelF K S ρ H t x) : RelF K S ρ' H' t x := by
  induction h with
  | nil => exact .nil
  | cons a _ ih => exact .cons (a.mono hr m) ih
theorem RelD.mono (hr : ρ <+: ρ') (m : Mono H H') {t : List (Key × T)} {x : List (Key × V)} (h : RelD K S ρ H t x) : RelD K S ρ' H' t x := by
  induction h with
  | nil => exact .nil
  | cons a _ ih => exact .cons (a.mono hr m) ih
theorem RelS.mono (hr : ρ <+: ρ') (m : Mono H H') {t : Env'} {x : L2.St} (h : RelS K S ρ H t x) : RelS K S ρ' H' t x := by
  induction h with
  | nil => exact .nil
  | cons a _ ih => exact .cons (a.mono hr m) ih
  | any _ ih => exact .any ih
theorem RelC.mono (hr : ρ <+: ρ') (m : Mono H H') {t : C} {x : HO} (h : RelC K S ρ H t x) : RelC K S ρ' H' t x := by
  cases h with
  | lst h => exact .lst (h.mono hr m)
  | flst h => exact .flst (h.mono hr m)
  | dct h => exact .dct (h.mono hr m)
  | ins h => exact .ins (h.mono hr m)
theorem RelS.get {e : Env'} {σ : L2.St} (h : RelS K S ρ H e σ) : ∀ {i : Nat} {t : T}, e[i]? = some (some t) → ∃ x, σ[i]? = some (some x) ∧ RelV K S ρ H t x := by
  induction h with
  | nil => intro i t e; simp at e
  | cons a _ ih =>
    intro i t e
    cases i with
    | zero => simp at e; subst e; exact ⟨_, rfl, a⟩
    | succ i => exact ih (by simpa using e)
  | any _ ih =>
    intro i t e
    cases i with
    | zero => simp at e
    | succ i => exact ih (by simpa using e)
theorem RelS.set {e : Env'} {σ : L2.St} (h : RelS K S ρ H e σ) : ∀ (i : Nat) {t : T} {x : V}, RelV K S ρ H t x → RelS K S ρ H (e.set i (some t)) (σ.set i (some x)) := by
  induction h with
  | nil => intro i t x _; exact .nil
  | cons a b ih =>
    intro i t x r
    cases i with
    | zero => exact .cons r b
    | succ i => exact .cons a (ih i r)
  | any b ih =>
    intro i t x r
    cases i with
    | zero => exact .cons r b
    | succ i => exact .any (ih i r)
theorem RelS.forget {e : Env'} {σ : L2.St} (h : RelS K S ρ H e σ) : ∀ (i : Nat) {x : Option V}, RelS K S ρ H (e.set i none) (σ.set i x) := by
  induction h with
  | nil => intro i x; exact .nil
  | cons a b ih =>
    intro i x
    cases i with
    | zero => exact .any b
    | succ i => exact .cons a (ih i)
  | any b ih =>
    intro i x
    cases i with
    | zero => exact .any b
    | succ i => exact .any (ih i)
theorem RelS.length {e : Env'} {σ : L2.St} (h : RelS K S ρ H e σ) : e.length = σ.length := by
  induction h with
  | nil => rfl
  | cons _ _ ih => simp [ih]
  | any _ ih => simp [ih]
theorem RelL.length {l : List T} {xs : List V} (h : RelL K S ρ H l xs) : l.length = xs.length := by
  induction l generalizing xs with
  | nil => cases h; rfl
  | cons t l ih => cases h with | cons a b => simp [ih b]
theorem RelL.get {l : List T} {xs : List V} (h : RelL K S ρ H l xs) {i : Nat} {t : T} (e : l[i]? = some t) : ∃ x, xs[i]? = some x ∧ RelV K S ρ H t x := by
  induction l generalizing xs i with
  | nil => simp at e
  | cons t' l ih =>
    cases h with
    | cons a b =>
      cases i with
      | zero => simp at e; subst e; exact ⟨_, rfl, a⟩
      | succ i => exact ih b (by simpa using e)
theorem RelL.getR {l : List T} {xs : List V} (h : RelL K S ρ H l xs) {i : Nat} {x : V} (e : xs[i]? = some x) : ∃ t, l[i]? = some t ∧ RelV K S ρ H t x := by
  induction l generalizing xs i with
  | nil => cases h; simp at e
  | cons t' l ih =>
    cases h with
    | cons a b =>
      cases i with
      | zero => simp at e; subst e; exact ⟨_, rfl, a⟩
      | succ i => exact ih b (by simpa using e)
theorem RelL.append {l m : List T} {xs ys : List V} (h : RelL K S ρ H l xs) (g : RelL K S ρ H m ys) : RelL K S ρ H (l ++ m) (xs ++ ys) := by
  induction l generalizing xs with
  | nil => cases h; exact g
  | cons t l ih => cases h with | cons a b => exact .cons a (ih b)
theorem RelL.set {l : List T} {xs : List V} (h : RelL K S ρ H l xs) (i : Nat) {t : T} {x : V} (r : RelV K S ρ H t x) : RelL K S ρ H (l.set i t) (xs.set i x) := by
  induction l generalizing xs i with
  | nil => cases h; exact .nil
  | cons t' l ih =>
    cases h with
    | cons a b =>
      cases i with
      | zero => exact .cons r b
      | succ i => exact .cons a (ih b i)
theorem RelL.take {l : List T} {xs : List V} (h : RelL K S ρ H l xs) (n : Nat) : RelL K S ρ H (l.take n) (xs.take n) := by
  induction l generalizing xs n with
  | nil => cases h; simp; exact .nil
  | cons t l ih => cases h with | cons a b => cases n with | zero => exact .nil | succ n => exact .cons a (ih b n)
theorem RelL.drop {l : List T} {xs : List V} (h : RelL K S ρ H l xs) (n : Nat) : RelL K S ρ H (l.drop n) (xs.drop n) := by
  induction l generalizing xs n with
  | nil => cases h; simp; exact .nil
  | cons t l ih => cases h with | cons a b => cases n with | zero => exact .cons a b | succ n => exact ih b n
theorem RelF.get {fs : Fs} {gs : List (Str × V)} (h : RelF K S ρ H fs gs) {f : Str} {t : T} (e : fs.lookup f = some t) : ∃ x, gs.lookup f = some x ∧ RelV K S ρ H t x := by
  induction h with
  | nil => simp at e
  | @cons g t' x l xs a b ih =>
    simp only [List.lookup_cons] at e ⊢
    cases q : f == g with
    | true => rw [q] at e; simp at e; subst e; exact ⟨x, rfl, a⟩
    | false => rw [q] at e; exact ih e

/-- the heap behind one that knows more -/
theorem RelH.ref {A : Hm} (h : RelH K S ρ H A) {n : Nat} {c : C} {p : Addr} (e : A[n]? = some c) (r : RelV K S ρ H (.ref n) (.ref p)) : ∃ o, H p = some o ∧ RelC K S ρ H c o := by
  cases r with | ref q => exact h.at_ n c p e q
theorem tabs_upd {tb : List (Addr × Str)} {p : Addr} {o : HO} (t : LamX.Tabs tb H) (hp : (∀ ps, H p ≠ some (.tbl ps)) ∧ ∀ u, H p = some u → ¬ Stable u) : LamX.Tabs tb (upd H p o) := fun q hq => by
  obtain ⟨ps, h1, h2, h3⟩ := t q hq
  refine ⟨ps, ?_, h2, fun pos cv hc => ?_⟩
  · rw [upd_ne]; exact h1
    intro z; rw [z] at h1; exact hp.1 ps h1
  · obtain ⟨c, e1, e2⟩ := h3 pos cv hc
    refine ⟨c, e1, ?_⟩
    rw [upd_ne]; exact e2
    intro z; rw [z] at e2; exact hp.2 _ e2 trivial
/-- a new object -/
theorem RelH.new {A : Hm} (h : RelH K S ρ H A) {p : Addr} {o : HO} {c : C} (hp : H p = none) (r : RelC K S (ρ ++ [p]) (upd H p o) c o) : RelH K S (ρ ++ [p]) (upd H p o) (A ++ [c]) := by
  have m : Mono H (upd H p o) := Mono.new hp
  have pr : ρ <+: ρ ++ [p] := List.prefix_append _ _
  have hn : p ∉ ρ := fun hm => by
    obtain ⟨i, hi, e⟩ := List.getElem_of_mem hm
    obtain ⟨o', e', _⟩ := h.at_ i (A[i]'(by have := h.len; omega)) p (List.getElem?_eq_getElem _) (by rw [List.getElem?_eq_getElem hi, e])
    rw [hp] at e'; cases e'
  refine ⟨by simp [h.len], ?_, fun n c' q e1 e2 => ?_, tabs_upd h.tabs ⟨fun ps => by rw [hp]; simp, fun u z => by rw [hp] at z; cases z⟩⟩
  · rw [List.nodup_append]
    refine ⟨h.nd, by simp, fun a ha b hb => ?_⟩
    simp at hb; subst hb; rintro rfl; exact hn ha
  · by_cases hlt : n < A.length
    · rw [List.getElem?_append_left hlt] at e1
      rw [List.getElem?_append_left (by have := h.len; omega)] at e2
      obtain ⟨u, hu, ru⟩ := h.at_ n c' q e1 e2
      exact ⟨u, by rw [upd_ne (ne_of_none hu hp)]; exact hu, ru.mono pr m⟩
    · have e : n = A.length := by
        have := (List.getElem?_eq_some_iff.mp e1).1
        simp at this; omega
      subst e
      rw [List.getElem?_append_right (Nat.le_refl _)] at e1
      rw [List.getElem?_append_right (by have := h.len; omega)] at e2
      have := h.len
      simp at e1
      rw [show A.length - ρ.length = 0 by omega] at e2
      simp at e2
      subst e1; subst e2
      exact ⟨o, upd_same, r⟩
/-- something new that the run doesn't name (a tuple) -/
theorem RelH.side {A : Hm} (h : RelH K S ρ H A) {p : Addr} {o : HO} (hp : H p = none) : RelH K S ρ (upd H p o) A := by
  have m : Mono H (upd H p o) := Mono.new hp
  refine ⟨h.len, h.nd, fun n c q e1 e2 => ?_, tabs_upd h.tabs ⟨fun ps => by rw [hp]; simp, fun u z => by rw [hp] at z; cases z⟩⟩
  obtain ⟨u, hu, ru⟩ := h.at_ n c q e1 e2
  exact ⟨u, by rw [upd_ne (ne_of_none hu hp)]; exact hu, ru.mono (List.prefix_rfl) m⟩
/-- an object is changed -/
theorem RelH.put {A : Hm} (h : RelH K S ρ H A) {n : Nat} {p : Addr} {o u : HO} {c : C} (hn : ρ[n]? = some p) (hp : H p = some u) (hs : ¬ Stable u) (ht : ∀ ps, u ≠ .tbl ps)
    (r : RelC K S ρ (upd H p o) c o) : RelH K S ρ (upd H p o) (A.set n c) := by
  have m : Mono H (upd H p o) := Mono.put hp hs
  refine ⟨by simp [h.len], h.nd, fun k c' q e1 e2 => ?_, tabs_upd h.tabs ⟨fun ps z => by rw [hp] at z; exact ht ps (Option.some.inj z), fun v z => by rw [hp] at z; cases z; exact hs⟩⟩
  by_cases hk : k = n
  · subst hk
    rw [hn] at e2; cases e2
    rw [List.getElem?_set_self (by have := (List.getElem?_eq_some_iff.mp e1).1; simpa using this)] at e1
    cases e1
    exact ⟨o, upd_same, r⟩
  · rw [List.getElem?_set_ne (Ne.symm hk)] at e1
    obtain ⟨v, hv, rv⟩ := h.at_ k c' q e1 e2
    refine ⟨v, ?_, rv.mono List.prefix_rfl m⟩
    rw [upd_ne]; exact hv
    intro z; subst z
    obtain ⟨h1, e1'⟩ := List.getElem?_eq_some_iff.mp hn
    obtain ⟨h2, e2'⟩ := List.getElem?_eq_some_iff.mp e2
    exact hk ((List.getElem_inj h.nd).mp (e2'.trans e1'.symm))
end
end MP
end S1
section S2
set_option Elab.async false
set_option linter.all false
set_option maxRecDepth 100000
/-! MPb: what a step's end asks; expressions, tests, argument lists. -/
namespace MP
open PySem PySem.Spec PyProof.Rows L2

/-- where one stands: what is known of the slots beside the run, what is wished of an error -/
structure Gx where
  J : List Addr → Hp → L2.St → Prop
  mono : ∀ {ρ ρ' : List Addr} {H H' : Hp} {σ : L2.St}, ρ <+: ρ' → Mono H H' → J ρ H σ → J ρ' H' σ
  W : WX
def Gx.plain (W : WX) : Gx := ⟨fun _ _ _ => True, fun _ _ h => h, W⟩

section
variable (K : PySem.W.Frag) (S : Sx)
def Fut (ρ : List Addr) (H : Hp) (A' : Hm) (P : List Addr → Hp → Prop) : Prop :=
  ∀ (ρ' : List Addr) (H' : Hp), ρ <+: ρ' → Mono H H' → RelH K S ρ' H' A' → P ρ' H'
def errP (W : WX) (σ : L2.St) (c : Nat) (fs : Fs) (ρ' : List Addr) (H' : Hp) : Prop :=
  ∀ (d : Addr) (gs : List (Str × V)), H' d = some (.xd gs) → RelF K S ρ' H' fs gs → W (.ref (S.ι c)) (some d) σ H'
def post {α β : Type} (rv : List Addr → Hp → α → β → Prop) (W : WX) (ρ : List Addr) (σ : L2.St) (H : Hp) (Q : β → Hp → Prop) : R α → Prop
  | .ok v A' => Fut K S ρ H A' fun ρ' H' => ∀ x, rv ρ' H' v x → Q x H'
  | .err c fs A' => Fut K S ρ H A' fun ρ' H' => errP K S W σ c fs ρ' H'
  | .bad => False
def tX {α β : Type} (rv : List Addr → Hp → α → β → Prop) (G : Gx) (m : Env' → Hm → R α) : L2.St → Hp → (β → Hp → Prop) → Prop := fun σ H Q =>
  ∃ (ρ : List Addr) (A : Hm) (e : Env'), RelH K S ρ H A ∧ RelS K S ρ H e σ ∧ G.J ρ H σ ∧ post K S rv G.W ρ σ H Q (m e A)
abbrev rV : List Addr → Hp → T → V → Prop := fun ρ H t x => RelV K S ρ H t x
abbrev rL : List Addr → Hp → List T → List V → Prop := fun ρ H t x => RelL K S ρ H t x
abbrev rB : List Addr → Hp → Bool → Bool → Prop := fun _ _ a b => a = b
abbrev tE (G : Gx) (m : Env' → Hm → R T) : TE := tX K S (rV K S) G m
abbrev tB (G : Gx) (m : Env' → Hm → R Bool) : TT := tX K S rB G m
abbrev tL (G : Gx) (m : Env' → Hm → R (List T)) : TA := tX K S (rL K S) G m
end
/-- expressions, tests, argument lists of a run -/
abbrev ME := Env' → Hm → R T
abbrev MB := Env' → Hm → R Bool
abbrev ML := Env' → Hm → R (List T)
def mbind {α β : Type} (m : Env' → Hm → R α) (k : α → Env' → Hm → R β) : Env' → Hm → R β := fun e A => (m e A).bind fun v A' => k v e A'

section
variable {K : PySem.W.Frag} {S : Sx} {ρ ρ1 : List Addr} {H H1 : Hp} {σ : L2.St} {W : WX}
theorem Fut.here {A : Hm} {P : List Addr → Hp → Prop} (f : Fut K S ρ H A P) (h : RelH K S ρ H A) : P ρ H := f ρ H List.prefix_rfl Mono.refl h
theorem Fut.base {A : Hm} {P : List Addr → Hp → Prop} (f : Fut K S ρ H A P) (hr : ρ <+: ρ1) (m : Mono H H1) : Fut K S ρ1 H1 A P :=
  fun ρ' H' h1 h2 h3 => f ρ' H' (hr.trans h1) (m.trans h2) h3
theorem post.base {α β : Type} {rv : List Addr → Hp → α → β → Prop} {Q : β → Hp → Prop} {r : R α} (h : post K S rv W ρ σ H Q r) (hr : ρ <+: ρ1) (m : Mono H H1) : post K S rv W ρ1 σ H1 Q r := by
  cases r with
  | ok v A => exact Fut.base h hr m
  | err c fs A => exact Fut.base h hr m
  | bad => exact h
theorem post.mono {α β : Type} {rv : List Addr → Hp → α → β → Prop} {Q Q' : β → Hp → Prop} {r : R α} (h : post K S rv W ρ σ H Q r) (hq : ∀ x H, Q x H → Q' x H) : post K S rv W ρ σ H Q' r := by
  cases r with
  | ok v A => exact fun ρ' H' h1 h2 h3 x hx => hq _ _ (h ρ' H' h1 h2 h3 x hx)
  | err c fs A => exact h
  | bad => exact h
/-- one step, then what follows it -/
theorem post.bind {α β γ δ : Type} {rv : List Addr → Hp → α → β → Prop} {rw' : List Addr → Hp → γ → δ → Prop} {Q : δ → Hp → Prop} {r : R α} {k : α → Hm → R γ} (h : post K S rw' W ρ σ H Q (r.bind k)) :
    post K S rv W ρ σ H (fun x H1 => ∃ (v : α) (A1 : Hm) (ρ1 : List Addr), ρ <+: ρ1 ∧ Mono H H1 ∧ RelH K S ρ1 H1 A1 ∧ rv ρ1 H1 v x ∧ post K S rw' W ρ1 σ H1 Q (k v A1)) r := by
  cases r with
  | ok v A => exact fun ρ' H' h1 h2 h3 x hx => ⟨v, A, ρ', h1, h2, h3, hx, h.base h1 h2⟩
  | err c fs A => exact h
  | bad => exact h
theorem tX.mono {α β : Type} {rv : List Addr → Hp → α → β → Prop} {G : Gx} {m : Env' → Hm → R α} {Q Q' : β → Hp → Prop} (h : tX K S rv G m σ H Q) (hq : ∀ x H, Q x H → Q' x H) : tX K S rv G m σ H Q' := by
  obtain ⟨ρ, A, e, h1, h2, h3, h4⟩ := h
  exact ⟨ρ, A, e, h1, h2, h3, h4.mono hq⟩
/-- the first step's own reading, with what is known behind it -/
theorem tX.bind {α β γ δ : Type} {rv : List Addr → Hp → α → β → Prop} {rw' : List Addr → Hp → γ → δ → Prop} {G : Gx} {m : Env' → Hm → R α} {k : α → Env' → Hm → R γ} {Q : δ → Hp → Prop} (h : tX K S rw' G (mbind m k) σ H Q) :
    tX K S rv G m σ H fun x H1 => ∃ (v : α) (A1 : Hm) (ρ1 : List Addr) (e : Env'), RelH K S ρ1 H1 A1 ∧ RelS K S ρ1 H1 e σ ∧ G.J ρ1 H1 σ ∧ rv ρ1 H1 v x ∧ post K S rw' G.W ρ1 σ H1 Q (k v e A1) := by
  obtain ⟨ρ, A, e, h1, h2, h3, h4⟩ := h
  refine ⟨ρ, A, e, h1, h2, h3, (post.bind (rv := rv) h4).mono ?_⟩
  rintro x H1 ⟨v, A1, ρ1, q1, q2, q3, q4, q5⟩
  exact ⟨v, A1, ρ1, e, q3, h2.mono q1 q2, G.mono q1 q2 h3, q4, q5⟩
end

section
variable {X : Cx} {S : Sx} {G : Gx}
theorem PE.imp {e : Expr} {t t' : TE} (h : PE X e t) (hq : ∀ σ H Q, t' σ H Q → t σ H Q) : PE X e t' := ⟨fun pins s σ H Q I q => h.run pins s σ H Q I (hq σ H Q q)⟩
theorem PT.imp {e : Expr} {t t' : TT} (h : PT X e t) (hq : ∀ σ H Q, t' σ H Q → t σ H Q) : PT X e t' := ⟨fun pins s σ H Q I q => h.run pins s σ H Q I (hq σ H Q q)⟩
theorem PW.imp {e : Expr} {t t' : TT} (h : PW X e t) (hq : ∀ σ H Q, t' σ H Q → t σ H Q) : PW X e t' := ⟨fun wh pins s σ H Q I q => h.run wh pins s σ H Q I (hq σ H Q q)⟩
theorem PA.imp {e : List Expr} {t t' : TA} (h : PA X e t) (hq : ∀ σ H Q, t' σ H Q → t σ H Q) : PA X e t' := ⟨fun pos pins s σ H Q I q => h.run pos pins s σ H Q I (hq σ H Q q)⟩
theorem PS.imp {e : Stmt} {t t' : TS} (h : PS X e t) (hq : ∀ D σ H, t' D σ H → t D σ H) : PS X e t' := ⟨fun pins s σ H D I q => h.run pins s σ H D I (hq D σ H q)⟩
theorem PSs.imp {e : List Stmt} {t t' : TS} (h : PSs X e t) (hq : ∀ D σ H, t' D σ H → t D σ H) : PSs X e t' := ⟨fun pins s σ H D I q => h.run pins s σ H D I (hq D σ H q)⟩
theorem PE.or {e : Expr} {t t' : TE} (h : PE X e t) (h' : PE X e t') : PE X e (fun σ H Q => t σ H Q ∨ t' σ H Q) := ⟨fun pins s σ H Q I q => q.elim (h.run pins s σ H Q I) (h'.run pins s σ H Q I)⟩

/-! ### names and constants -/
def eV (i : Nat) : ME := fun e A => match e[i]? with | some (some t) => .ok t A | _ => .bad
def eC (t : T) : ME := fun _ A => .ok t A
theorem d_v (i : Nat) {x : Str} {pos : Pos} (hN : X.N[i]? = some x := by rfl) (hv : Vis X.env.scope x := by first | exact Or.inl rfl | exact Or.inr (Or.inl rfl) | exact Or.inr (Or.inr rfl)) (hd : (x == ("__debug__" : Str)) = false := by decide)
    (hcd : (x == ("__classdict__" : Str)) = false := by decide) : PE X (.Name x pos) (tE X.K S G (eV i)) := by
  refine PE.imp (pe_var hN hv hd hcd) fun σ H Q h => ?_
  obtain ⟨ρ, A, e, h1, h2, h3, h4⟩ := h
  unfold eV at h4
  split at h4
  · rename_i t q
    obtain ⟨x, hx, r⟩ := h2.get q
    exact ⟨x, hx, Fut.here h4 h1 x r⟩
  · exact h4.elim
/-- a constant's reading -/
theorem tC_of {K : PySem.W.Frag} {t : T} {v : V} (r : ∀ ρ H, RelV K S ρ H t v) : ∀ σ H Q, tE K S G (eC t) σ H Q → tC v σ H Q := fun σ H Q h => by
  obtain ⟨ρ, A, e, h1, h2, h3, h4⟩ := h
  exact Fut.here h4 h1 v (r ρ H)
theorem d_int {i : Int} {j : Nat} {pos : Pos} : PE X (.Constant (.int i) j pos) (tE X.K S G (eC (.int i))) := PE.imp pe_int (tC_of fun _ _ => .int i)
theorem d_bl {b : Bool} {j : Nat} {pos : Pos} : PE X (.Constant (.bool b) j pos) (tE X.K S G (eC (.bl b))) := PE.imp pe_bl (tC_of fun _ _ => .bl b)
theorem d_non {j : Nat} {pos : Pos} : PE X (.Constant .none j pos) (tE X.K S G (eC .non)) := PE.imp pe_non (tC_of fun _ _ => .non)
theorem d_str {x : Str} {j : Nat} {pos : Pos} : PE X (.Constant (.str x) j pos) (tE X.K S G (eC (.str x))) := PE.imp pe_str (tC_of fun _ _ => .str x)
/-- a module's name: t its value -/
theorem d_glob {x : Str} {t : T} {v : V} {u : Value} {pos : Pos} (hg : Gl X x) (hm : X.mg x = some u) (rv : L2.RelV v u) (r : ∀ ρ H, MP.RelV X.K S ρ H t v) (hd : (x == ("__debug__" : Str)) = false := by decide) :
    PE X (.Name x pos) (tE X.K S G (eC t)) := PE.imp (pe_glob hg hm rv hd) (tC_of r)

/-! ### two values, an operation -/
/-- an operation's rule by values -/
def OpM (K : PySem.W.Frag) (S : Sx) (f : T → T → Hm → R T) (r : R2) : Prop :=
  ∀ (W : WX) (ρ : List Addr) (A : Hm) (H : Hp) (x y : T) (x' y' : V) (σ : L2.St) (Q : VK), RelH K S ρ H A → MP.RelV K S ρ H x x' → MP.RelV K S ρ H y y' → post K S (rV K S) W ρ σ H Q (f x y A) → r x' y' H Q
def eBin (f : T → T → Hm → R T) (a b : ME) : ME := mbind a fun x => mbind b fun y _ A => f x y A
theorem tOp_of {K : PySem.W.Frag} {f : T → T → Hm → R T} {r : R2} {ma mb : ME} (ho : OpM K S f r) : ∀ σ H Q, tE K S G (eBin f ma mb) σ H Q → tOp r (tE K S G ma) (tE K S G mb) σ H Q := fun σ H Q h => by
  refine (tX.bind (rv := rV K S) h).mono ?_
  rintro x H1 ⟨v, A1, ρ1, e, h1, h2, h3, h4, h5⟩
  refine ⟨ρ1, A1, e, h1, h2, h3, (post.bind (rv := rV K S) h5).mono ?_⟩
  rintro y H2 ⟨v2, A2, ρ2, q1, q2, q3, q4, q5⟩
  exact ho _ _ _ _ _ _ _ _ _ _ q3 (h4.mono q1 q2) q4 q5
theorem d_op {op : Operator} {r : R2} {f : T → T → Hm → R T} {a b : Expr} {ma mb : ME} {pos : Pos} (ho : OpR X (binaryOp op) r) (hm : OpM X.K S f r) (ha : PE X a (tE X.K S G ma)) (hb : PE X b (tE X.K S G mb)) :
    PE X (.BinOp a op b pos) (tE X.K S G (eBin f ma mb)) := PE.imp (pe_op ho ha hb) (tOp_of hm)
theorem d_cmp {op : CmpOp} {r : R2} {f : T → T → Hm → R T} {a b : Expr} {ma mb : ME} {pos : Pos} (ho : OpR X (compareOp op) r) (hm : OpM X.K S f r) (ha : PE X a (tE X.K S G ma)) (hb : PE X b (tE X.K S G mb)) (hk : behindInMarks op b = false := by first | exact nomark _ | rfl) :
    PE X (.Compare a [op] [b] pos) (tE X.K S G (eBin f ma mb)) := PE.imp (pe_cmpR ho ha hb hk) (tOp_of hm)
/-- a value that must be True or False -/
def isB : T → Env' → Hm → R Bool := fun t _ A => match t with | .bl b => .ok b A | _ => .bad
theorem tTest_of {K : PySem.W.Frag} {m : ME} : ∀ σ H (Q : Bool → Hp → Prop), MP.tB K S G (mbind m isB) σ H Q → tTest (tE K S G m) σ H Q := fun σ H Q h => by
  refine (tX.bind (rv := rV K S) h).mono ?_
  rintro x H1 ⟨v, A1, ρ1, e, h1, h2, h3, h4, h5⟩
  unfold isB at h5
  try dsimp only at h5
  split at h5
  · cases h4
    exact ⟨_, rfl, Fut.here h5 h1 _ rfl⟩
  · exact h5.elim
theorem tX_of_tOp {t : TE} {t' : TE} (h : ∀ σ H Q, t' σ H Q → t σ H Q) : ∀ σ H (Q : Bool → Hp → Prop), tTest t' σ H Q → tTest t σ H Q := fun σ H Q q => h _ _ _ q
theorem dt_cmp {op : CmpOp} {r : R2} {f : T → T → Hm → R T} {a b : Expr} {ma mb : ME} {pos : Pos} (ho : OpR X (compareOp op) r) (hm : OpM X.K S f r) (ha : PE X a (tE X.K S G ma)) (hb : PE X b (tE X.K S G mb)) (hk : behindInMarks op b = false := by first | exact nomark _ | rfl) :
    PT X (.Compare a [op] [b] pos) (MP.tB X.K S G (mbind (eBin f ma mb) isB)) :=
  PT.imp (pt_cmpR ho ha hb hk) fun σ H Q h => tX_of_tOp (tOp_of hm) σ H Q (tTest_of σ H Q h)
/-- a op b op' c -/
def eChain (f g : T → T → Hm → R T) (a b c : ME) : ME := mbind a fun x => mbind b fun y => mbind (fun _ A => f x y A) fun z e A =>
  match z with
  | .bl true => mbind c (fun v _ A => g y v A) e A
  | .bl false => .ok (.bl false) A
  | _ => .bad
theorem tChain_of {K : PySem.W.Frag} {f g : T → T → Hm → R T} {r r' : R2} {ma mb mc : ME} (ho : OpM K S f r) (ho' : OpM K S g r') :
    ∀ σ H Q, tE K S G (eChain f g ma mb mc) σ H Q → tChain r r' (tE K S G ma) (tE K S G mb) (tE K S G mc) σ H Q := fun σ H Q h => by
  refine (tX.bind (rv := rV K S) h).mono ?_
  rintro x H1 ⟨v, A1, ρ1, e, h1, h2, h3, h4, h5⟩
  refine ⟨ρ1, A1, e, h1, h2, h3, (post.bind (rv := rV K S) h5).mono ?_⟩
  rintro y H2 ⟨v2, A2, ρ2, q1, q2, q3, q4, q5⟩
  refine ho _ _ _ _ _ _ _ _ _ _ q3 (h4.mono q1 q2) q4 ((post.bind (rv := rV K S) q5).mono ?_)
  rintro z H3 ⟨v3, A3, ρ3, u1, u2, u3, u4, u5⟩
  dsimp only at u5
  split at u5
  · cases u4
    refine ⟨true, rfl, iteT ⟨ρ3, A3, e, u3, (h2.mono q1 q2).mono u1 u2, G.mono u1 u2 (G.mono q1 q2 h3), (post.bind (rv := rV K S) u5).mono ?_⟩⟩
    rintro w H4 ⟨v4, A4, ρ4, p1, p2, p3, p4, p5⟩
    exact ho' _ _ _ _ _ _ _ _ _ _ p3 ((q4.mono u1 u2).mono p1 p2) p4 p5
  · cases u4
    exact ⟨false, rfl, iteF (Fut.here u5 u3 _ (.bl false))⟩
  · exact u5.elim
theorem d_chain {op op' : CmpOp} {r r' : R2} {f g : T → T → Hm → R T} {a b c : Expr} {ma mb mc : ME} {pos : Pos} (ho : OpR X (compareOp op) r) (hm : OpM X.K S f r) (ho' : OpR X (compareOp op') r') (hm' : OpM X.K S g r') (ha : PE X a (tE X.K S G ma)) (hb : PE X b (tE X.K S G mb))
    (hc : PE X c (tE X.K S G mc)) (hk : lastMarks [op, op'] [b, c] = false := by with_unfolding_all rfl) : PE X (.Compare a [op, op'] [b, c] pos) (tE X.K S G (eChain f g ma mb mc)) :=
  PE.imp (pe_chain ho ho' ha hb hc hk) (tChain_of hm hm')
theorem dt_chain {op op' : CmpOp} {r r' : R2} {f g : T → T → Hm → R T} {a b c : Expr} {ma mb mc : ME} {pos : Pos} (ho : OpR X (compareOp op) r) (hm : OpM X.K S f r) (ho' : OpR X (compareOp op') r') (hm' : OpM X.K S g r') (ha : PE X a (tE X.K S G ma)) (hb : PE X b (tE X.K S G mb))
    (hc : PE X c (tE X.K S G mc)) (hk : lastMarks [op, op'] [b, c] = false := by with_unfolding_all rfl) : PT X (.Compare a [op, op'] [b, c] pos) (MP.tB X.K S G (mbind (eChain f g ma mb mc) isB)) :=
  PT.imp (pt_chain ho ho' ha hb hc hk) fun σ H Q h => tX_of_tOp (tChain_of hm hm') σ H Q (tTest_of σ H Q h)

/-! ### truth -/
def truT : T → Hm → R Bool := fun t A => match t with
  | .non => .ok false A
  | .bl b => .ok b A
  | .int i => .ok (i != 0) A
  | .str y => if y.length ≤ sizeLine then .ok ((y.length : Int) != 0) A else .bad
  | .tup l => .ok (!l.isEmpty) A
  | .ref n => match A[n]? with
    | some (.lst l) => .ok (!l.isEmpty) A
    | some (.flst l) => .ok (!l.isEmpty) A
    | some (.dct l) => .ok (!l.isEmpty) A
    | _ => .bad
  | _ => .bad
theorem isEmpty_L {K : PySem.W.Frag} {ρ : List Addr} {H : Hp} {l : List T} {xs : List V} (h : RelL K S ρ H l xs) : l.isEmpty = xs.isEmpty := by cases h <;> rfl
theorem isEmpty_D {K : PySem.W.Frag} {ρ : List Addr} {H : Hp} {l : List (Key × T)} {xs : List (Key × V)} (h : RelD K S ρ H l xs) : l.isEmpty = xs.isEmpty := by cases h <;> rfl
theorem tru_ok {K : PySem.W.Frag} {W : WX} {ρ : List Addr} {A : Hm} {H : Hp} {t : T} {x : V} {σ : L2.St} {Q : Bool → Hp → Prop} (hH : RelH K S ρ H A) (r : MP.RelV K S ρ H t x) (h : post K S rB W ρ σ H Q (truT t A)) : ∃ k, TruV K x H k ∧ Q k H := by
  cases r with
  | non => exact ⟨_, rfl, Fut.here h hH _ rfl⟩
  | bl b => exact ⟨_, rfl, Fut.here h hH _ rfl⟩
  | int i => exact ⟨_, rfl, Fut.here h hH _ rfl⟩
  | str s =>
    unfold truT at h; dsimp only at h
    split at h
    · rename_i z; exact ⟨_, ⟨z, rfl⟩, Fut.here h hH _ rfl⟩
    · exact h.elim
  | ty n => exact h.elim
  | obj i => exact h.elim
  | clo _ _ => exact h.elim
  | tup p l => exact ⟨_, .inr (.inl ⟨_, p, rfl⟩), Fut.here h hH _ (by rw [isEmpty_L l])⟩
  | @ref n p e =>
    unfold truT at h; dsimp only at h
    split at h
    · rename_i l q
      obtain ⟨o, ho, ro⟩ := hH.at_ n _ p q e
      cases ro with
      | lst r => exact ⟨_, .inl ⟨_, SqL.of ho, rfl⟩, Fut.here h hH _ (by rw [isEmpty_L r])⟩
    · rename_i l q
      obtain ⟨o, ho, ro⟩ := hH.at_ n _ p q e
      cases ro with
      | flst r => exact ⟨_, .inl ⟨_, .inl (.inr ⟨_, ho⟩), rfl⟩, Fut.here h hH _ (by rw [isEmpty_L r])⟩
    · rename_i l q
      obtain ⟨o, ho, ro⟩ := hH.at_ n _ p q e
      cases ro with
      | dct r => exact ⟨_, .inr (.inr ⟨_, ho, rfl⟩), Fut.here h hH _ (by rw [isEmpty_D r])⟩
    · exact h.elim
def bTru (m : ME) : MB := mbind m fun t _ A => truT t A
theorem dt_tru {a : Expr} {m : ME} (ha : PE X a (tE X.K S G m)) (he : ∀ whole, isTrue a X.env whole = (do let v ← whole; standAt a.pos; holding [v] (truthy v)) := by intro _; rfl) : PT X a (MP.tB X.K S G (bTru m)) := by
  refine PT.imp (pt_truth ha he) fun σ H Q h => ?_
  refine (tX.bind (rv := rV X.K S) h).mono ?_
  rintro x H1 ⟨v, A1, ρ1, e, h1, h2, h3, h4, h5⟩
  exact tru_ok h1 h4 h5

/-! ### and, or, not, a if t else b -/
def bAnd (a b : MB) : MB := mbind a fun c e A => if c = true then b e A else .ok false A
def bOr (a b : MB) : MB := mbind a fun c e A => if c = true then .ok true A else b e A
def bNot (a : MB) : MB := mbind a fun c _ A => .ok (!c) A
variable {a b c : Expr} {ma mb mc : ME} {ta tb tc : MB} {rest : List Expr} {pos : Pos}
theorem dw_and1 (ha : PT X a (MP.tB X.K S G ta)) : PW X (.BoolOp .And [a] pos) (MP.tB X.K S G ta) := pw_and1 ha
theorem dw_or1 (ha : PT X a (MP.tB X.K S G ta)) : PW X (.BoolOp .Or [a] pos) (MP.tB X.K S G ta) := pw_or1 ha
theorem dw_and (ha : PT X a (MP.tB X.K S G ta)) (hb : PW X (.BoolOp .And (b :: rest) pos) (MP.tB X.K S G tb)) : PW X (.BoolOp .And (a :: b :: rest) pos) (MP.tB X.K S G (bAnd ta tb)) := by
  refine PW.imp (pw_and ha hb) fun σ H Q h => ?_
  refine (tX.bind (rv := rB) h).mono ?_
  rintro x H1 ⟨v, A1, ρ1, e, h1, h2, h3, rfl, h5⟩
  cases v with
  | true => exact iteT ⟨ρ1, A1, e, h1, h2, h3, h5⟩
  | false => exact iteF (Fut.here h5 h1 _ rfl)
theorem dw_or (ha : PT X a (MP.tB X.K S G ta)) (hb : PW X (.BoolOp .Or (b :: rest) pos) (MP.tB X.K S G tb)) : PW X (.BoolOp .Or (a :: b :: rest) pos) (MP.tB X.K S G (bOr ta tb)) := by
  refine PW.imp (pw_or ha hb) fun σ H Q h => ?_
  refine (tX.bind (rv := rB) h).mono ?_
  rintro x H1 ⟨v, A1, ρ1, e, h1, h2, h3, rfl, h5⟩
  cases v with
  | true => exact iteT (Fut.here h5 h1 _ rfl)
  | false => exact iteF ⟨ρ1, A1, e, h1, h2, h3, h5⟩
theorem dt_not (ha : PT X a (MP.tB X.K S G ta)) : PT X (.UnaryOp .Not a pos) (MP.tB X.K S G (bNot ta)) := by
  refine PT.imp (pt_not ha) fun σ H Q h => ?_
  refine (tX.bind (rv := rB) h).mono ?_
  rintro x H1 ⟨v, A1, ρ1, e, h1, h2, h3, rfl, h5⟩
  exact Fut.here h5 h1 _ rfl
/-- as values, of True and False -/
def eAnd (a b : ME) : ME := mbind a fun v e A => match v with | .bl true => b e A | .bl false => .ok (.bl false) A | _ => .bad
def eOr (a b : ME) : ME := mbind a fun v e A => match v with | .bl false => b e A | .bl true => .ok (.bl true) A | _ => .bad
def eNot (a : ME) : ME := mbind a fun v _ A => match v with | .bl c => .ok (.bl (!c)) A | _ => .bad
theorem d_one {op : PySem.BoolOp} (ha : PE X a (tE X.K S G ma)) : PE X (.BoolOp op [a] pos) (tE X.K S G ma) := pe_one ha
theorem d_and (ha : PE X a (tE X.K S G ma)) (hb : PE X (.BoolOp .And (b :: rest) pos) (tE X.K S G mb)) : PE X (.BoolOp .And (a :: b :: rest) pos) (tE X.K S G (eAnd ma mb)) := by
  refine PE.imp (pe_and ha hb) fun σ H Q h => ?_
  refine (tX.bind (rv := rV X.K S) h).mono ?_
  rintro x H1 ⟨v, A1, ρ1, e, h1, h2, h3, h4, h5⟩
  try dsimp only at h5
  split at h5
  · cases h4; exact ⟨true, rfl, iteT ⟨ρ1, A1, e, h1, h2, h3, h5⟩⟩
  · cases h4; exact ⟨false, rfl, iteF (Fut.here h5 h1 _ (.bl false))⟩
  · exact h5.elim
theorem d_or (ha : PE X a (tE X.K S G ma)) (hb : PE X (.BoolOp .Or (b :: rest) pos) (tE X.K S G mb)) : PE X (.BoolOp .Or (a :: b :: rest) pos) (tE X.K S G (eOr ma mb)) := by
  refine PE.imp (pe_or ha hb) fun σ H Q h => ?_
  refine (tX.bind (rv := rV X.K S) h).mono ?_
  rintro x H1 ⟨v, A1, ρ1, e, h1, h2, h3, h4, h5⟩
  try dsimp only at h5
  split at h5
  · cases h4; exact ⟨false, rfl, iteF ⟨ρ1, A1, e, h1, h2, h3, h5⟩⟩
  · cases h4; exact ⟨true, rfl, iteT (Fut.here h5 h1 _ (.bl true))⟩
  · exact h5.elim
theorem d_not (ha : PE X a (tE X.K S G ma)) : PE X (.UnaryOp .Not a pos) (tE X.K S G (eNot ma)) := by
  refine PE.imp (pe_not ha) fun σ H Q h => ?_
  refine (tX.bind (rv := rV X.K S) h).mono ?_
  rintro x H1 ⟨v, A1, ρ1, e, h1, h2, h3, h4, h5⟩
  try dsimp only at h5
  split at h5
  · cases h4; exact ⟨_, rfl, Fut.here h5 h1 _ (.bl _)⟩
  · exact h5.elim
def eIf (t : MB) (a b : ME) : ME := mbind t fun c e A => if c = true then a e A else b e A
theorem d_if (hc : PT X c (MP.tB X.K S G tc)) (ha : PE X a (tE X.K S G ma)) (hb : PE X b (tE X.K S G mb)) : PE X (.IfExp c a b pos) (tE X.K S G (eIf tc ma mb)) := by
  refine PE.imp (pe_ifExp hc ha hb) fun σ H Q h => ?_
  refine (tX.bind (rv := rB) h).mono ?_
  rintro x H1 ⟨v, A1, ρ1, e, h1, h2, h3, rfl, h5⟩
  cases v with
  | true => exact iteT ⟨ρ1, A1, e, h1, h2, h3, h5⟩
  | false => exact iteF ⟨ρ1, A1, e, h1, h2, h3, h5⟩

/-! ### argument lists, displays -/
def aN : ML := fun _ A => .ok [] A
def aC (a : ME) (l : ML) : ML := mbind a fun v => mbind l fun r _ A => .ok (v :: r) A
theorem da_nil : PA X [] (tL X.K S G aN) := by
  refine PA.imp pa_nil fun σ H Q h => ?_
  obtain ⟨ρ, A, e, h1, h2, h3, h4⟩ := h
  exact Fut.here h4 h1 _ .nil
theorem da_cons {es : List Expr} {ml : ML} (ha : PE X a (tE X.K S G ma)) (hr : PA X es (tL X.K S G ml)) (hs : starEach (a :: es) X.env = (false, eval a X.env) :: starEach es X.env := by rfl) : PA X (a :: es) (tL X.K S G (aC ma ml)) := by
  refine PA.imp (pa_cons ha hr hs) fun σ H Q h => ?_
  refine (tX.bind (rv := rV X.K S) h).mono ?_
  rintro x H1 ⟨v, A1, ρ1, e, h1, h2, h3, h4, h5⟩
  refine ⟨ρ1, A1, e, h1, h2, h3, (post.bind (rv := rL X.K S) h5).mono ?_⟩
  rintro y H2 ⟨v2, A2, ρ2, q1, q2, q3, q4, q5⟩
  exact Fut.here q5 q3 _ (.cons (h4.mono q1 q2) q4)
/-- a new tuple -/
def mkTup (l : List T) (A : Hm) : R T := if l.length ≤ sizeLine then .ok (.tup l) A else .bad
def mkLst (l : List T) (A : Hm) : R T := if l.length ≤ sizeLine then .ok (.ref A.length) (A ++ [.lst l]) else .bad
theorem mkTup_ok {K : PySem.W.Frag} {W : WX} {ρ : List Addr} {A : Hm} {H : Hp} {l : List T} {xs : List V} {σ : L2.St} {Q : VK} (hH : RelH K S ρ H A) (r : RelL K S ρ H l xs) (h : post K S (rV K S) W ρ σ H Q (mkTup l A)) :
    xs.length ≤ sizeLine ∧ ∀ p, H p = none → Q (.ref p) (upd H p (.tup xs)) := by
  unfold mkTup at h
  split at h
  · rename_i z
    refine ⟨by rw [← r.length]; exact z, fun p hp => ?_⟩
    have m : Mono H (upd H p (.tup xs)) := Mono.new hp
    exact h ρ _ List.prefix_rfl m (hH.side hp) _ (.tup (SqT.of upd_same) (r.mono List.prefix_rfl m))
  · exact h.elim
theorem mkLst_ok {K : PySem.W.Frag} {W : WX} {ρ : List Addr} {A : Hm} {H : Hp} {l : List T} {xs : List V} {σ : L2.St} {Q : VK} (hH : RelH K S ρ H A) (r : RelL K S ρ H l xs) (h : post K S (rV K S) W ρ σ H Q (mkLst l A)) :
    xs.length ≤ sizeLine ∧ ∀ p, H p = none → Q (.ref p) (upd H p (.lst xs)) := by
  unfold mkLst at h
  split at h
  · rename_i z
    refine ⟨by rw [← r.length]; exact z, fun p hp => ?_⟩
    have m : Mono H (upd H p (.lst xs)) := Mono.new hp
    have pr : ρ <+: ρ ++ [p] := List.prefix_append _ _
    exact h _ _ pr m (hH.new hp (.lst (r.mono pr m))) _ (.ref (by rw [List.getElem?_append_right (by rw [hH.len]; exact Nat.le_refl _), ← hH.len]; simp))
  · exact h.elim
def eTup (l : ML) : ME := mbind l fun l _ A => mkTup l A
def eLst (l : ML) : ME := mbind l fun l _ A => mkLst l A
theorem d_tup {es : List Expr} {ml : ML} {x1 : Nat} (h : PA X es (tL X.K S G ml)) : PE X (.Tuple es x1 pos) (tE X.K S G (eTup ml)) := by
  refine PE.imp (pe_tup h) fun σ H Q h => ?_
  refine (tX.bind (rv := rL X.K S) h).mono ?_
  rintro x H1 ⟨v, A1, ρ1, e, h1, h2, h3, h4, h5⟩
  exact mkTup_ok h1 h4 h5
theorem d_lst {es : List Expr} {ml : ML} (h : PA X es (tL X.K S G ml)) : PE X (.List es pos) (tE X.K S G (eLst ml)) := by
  refine PE.imp (pe_lst h) fun σ H Q h => ?_
  refine (tX.bind (rv := rL X.K S) h).mono ?_
  rintro x H1 ⟨v, A1, ρ1, e, h1, h2, h3, h4, h5⟩
  exact mkLst_ok h1 h4 h5
end
end MP
end S2
section S3
set_option Elab.async false
set_option linter.all false
set_option maxRecDepth 100000
/-! MPc: statements, targets, loops. -/
namespace MP
open PySem PySem.Spec PyProof.Rows L2

/-- how a statement ends -/
inductive RS where
  | nx (e : Env') (A : Hm) | ret (v : T) (A : Hm) | brk (e : Env') (A : Hm) | cnt (e : Env') (A : Hm) | err (e : Env') (c : Nat) (fs : Fs) (A : Hm) | bad
abbrev MS := Env' → Hm → RS
abbrev MT := T → Env' → Hm → RS
abbrev MTs := List T → Env' → Hm → RS
def sBind {α : Type} (m : Env' → Hm → R α) (k : α → Env' → Hm → RS) : MS := fun e A =>
  match m e A with
  | .ok v A' => k v e A'
  | .err c fs A' => .err e c fs A'
  | .bad => .bad

section
variable (K : PySem.W.Frag) (S : Sx) (G : Gx)
def futS (ρ : List Addr) (H : Hp) (e : Env') (A' : Hm) (P : L2.St → List Addr → Hp → Prop) : Prop :=
  Fut K S ρ H A' fun ρ' H' => ∀ σ', RelS K S ρ' H' e σ' → G.J ρ' H' σ' → P σ' ρ' H'
def postS (ρ : List Addr) (H : Hp) (D : Ends) : RS → Prop
  | .nx e A' => futS K S G ρ H e A' fun σ' _ H' => D.nx σ' H'
  | .brk e A' => futS K S G ρ H e A' fun σ' _ H' => D.bk σ' H'
  | .cnt e A' => futS K S G ρ H e A' fun σ' _ H' => D.ct σ' H'
  | .ret v A' => Fut K S ρ H A' fun ρ' H' => ∀ x, RelV K S ρ' H' v x → D.rt x H'
  | .err e c fs A' => futS K S G ρ H e A' fun σ' ρ' H' => errP K S G.W σ' c fs ρ' H'
  | .bad => False
def tS (m : MS) : TS := fun D σ H => ∃ (ρ : List Addr) (A : Hm) (e : Env'), RelH K S ρ H A ∧ RelS K S ρ H e σ ∧ G.J ρ H σ ∧ postS K S G ρ H D (m e A)
/-- a target -/
def tG (m : MT) : TG := fun v σ H Q => ∃ (ρ : List Addr) (A : Hm) (e : Env') (t : T), RelH K S ρ H A ∧ RelS K S ρ H e σ ∧ G.J ρ H σ ∧ RelV K S ρ H t v ∧
  match m t e A with
  | .nx e' A' => futS K S G ρ H e' A' fun σ' _ H' => Q σ' H'
  | _ => False
def tGs (m : MTs) : TGs := fun v σ H Q => ∃ (ρ : List Addr) (A : Hm) (e : Env') (t : List T), RelH K S ρ H A ∧ RelS K S ρ H e σ ∧ G.J ρ H σ ∧ RelL K S ρ H t v ∧
  match m t e A with
  | .nx e' A' => futS K S G ρ H e' A' fun σ' _ H' => Q σ' H'
  | _ => False
end
/-- a slot may be stored: what is known beside the run stays -/
def Gx.Free (G : Gx) (i : Nat) : Prop := ∀ ρ H σ v, G.J ρ H σ → G.J ρ H (σ.set i v)
theorem Gx.free_plain {W : WX} {i : Nat} : (Gx.plain W).Free i := fun _ _ _ _ _ => trivial

section
variable {K : PySem.W.Frag} {S : Sx} {G : Gx} {ρ ρ1 : List Addr} {H H1 : Hp} {σ : L2.St} {D : Ends}
theorem futS.base {e : Env'} {A : Hm} {P : L2.St → List Addr → Hp → Prop} (f : futS K S G ρ H e A P) (hr : ρ <+: ρ1) (m : Mono H H1) : futS K S G ρ1 H1 e A P := Fut.base f hr m
theorem postS.base {r : RS} (h : postS K S G ρ H D r) (hr : ρ <+: ρ1) (m : Mono H H1) : postS K S G ρ1 H1 D r := by
  cases r with
  | nx e A => exact futS.base h hr m
  | brk e A => exact futS.base h hr m
  | cnt e A => exact futS.base h hr m
  | ret v A => exact Fut.base h hr m
  | err e c fs A => exact futS.base h hr m
  | bad => exact h
theorem postS.ends {r : RS} {D' : Ends} (h : postS K S G ρ H D r) (h1 : ∀ σ H, D.nx σ H → D'.nx σ H) (h2 : ∀ v H, D.rt v H → D'.rt v H) (h3 : ∀ σ H, D.bk σ H → D'.bk σ H) (h4 : ∀ σ H, D.ct σ H → D'.ct σ H) : postS K S G ρ H D' r := by
  cases r with
  | nx e A => exact fun ρ' H' q1 q2 q3 σ' q4 q5 => h1 _ _ (h ρ' H' q1 q2 q3 σ' q4 q5)
  | brk e A => exact fun ρ' H' q1 q2 q3 σ' q4 q5 => h3 _ _ (h ρ' H' q1 q2 q3 σ' q4 q5)
  | cnt e A => exact fun ρ' H' q1 q2 q3 σ' q4 q5 => h4 _ _ (h ρ' H' q1 q2 q3 σ' q4 q5)
  | ret v A => exact fun ρ' H' q1 q2 q3 x q4 => h2 _ _ (h ρ' H' q1 q2 q3 x q4)
  | err e c fs A => exact h
  | bad => exact h
/-- an expression, then a statement -/
theorem tS.bind {α β : Type} {rv : List Addr → Hp → α → β → Prop} {m : Env' → Hm → R α} {k : α → Env' → Hm → RS} (h : tS K S G (sBind m k) D σ H) :
    tX K S rv G m σ H fun x H1 => ∃ (v : α) (A1 : Hm) (ρ1 : List Addr) (e : Env'), RelH K S ρ1 H1 A1 ∧ RelS K S ρ1 H1 e σ ∧ G.J ρ1 H1 σ ∧ rv ρ1 H1 v x ∧ postS K S G ρ1 H1 D (k v e A1) := by
  obtain ⟨ρ, A, e, h1, h2, h3, h4⟩ := h
  refine ⟨ρ, A, e, h1, h2, h3, ?_⟩
  unfold sBind at h4
  cases q : m e A with
  | ok v A' =>
    rw [q] at h4
    exact fun ρ' H' q1 q2 q3 x hx => ⟨v, A', ρ', e, q3, h2.mono q1 q2, G.mono q1 q2 h3, hx, postS.base h4 q1 q2⟩
  | err c fs A' =>
    rw [q] at h4
    exact fun ρ' H' q1 q2 q3 => h4 ρ' H' q1 q2 q3 σ (h2.mono q1 q2) (G.mono q1 q2 h3)
  | bad => rw [q] at h4; exact h4.elim
end

section
variable {X : Cx} {S : Sx} {G : Gx} {a b c : Expr} {ma mb mc : ME} {tc : MB} {pos : Pos} {st : Stmt} {rest sa sb : List Stmt} {m n : MS}
/-! ### blocks -/
def sNop : MS := fun e A => .nx e A
def sSeq (a b : MS) : MS := fun e A => match a e A with | .nx e1 A1 => b e1 A1 | r => r
theorem tNext_of {K : PySem.W.Frag} : ∀ D σ H, tS K S G sNop D σ H → tNext D σ H := fun D σ H h => by
  obtain ⟨ρ, A, e, h1, h2, h3, h4⟩ := h
  exact h4 ρ H List.prefix_rfl Mono.refl h1 σ h2 h3
theorem ds_nil : PSs X [] (tS X.K S G sNop) := PSs.imp pss_nil tNext_of
theorem ds_cons (h1 : PS X st (tS X.K S G m)) (h2 : PSs X rest (tS X.K S G n)) : PSs X (st :: rest) (tS X.K S G (sSeq m n)) := by
  refine PSs.imp (pss_cons h1 h2) fun D σ H h => ?_
  obtain ⟨ρ, A, e, q1, q2, q3, q4⟩ := h
  refine ⟨ρ, A, e, q1, q2, q3, ?_⟩
  unfold sSeq at q4
  cases q : m e A with
  | nx e1 A1 =>
    rw [q] at q4
    exact fun ρ' H' u1 u2 u3 σ' u4 u5 => ⟨ρ', A1, e1, u3, u4, u5, postS.base q4 u1 u2⟩
  | ret v A1 => rw [q] at q4; exact q4
  | brk e1 A1 => rw [q] at q4; exact q4
  | cnt e1 A1 => rw [q] at q4; exact q4
  | err e1 c fs A1 => rw [q] at q4; exact q4
  | bad => rw [q] at q4; exact q4
theorem ds_one (h1 : PS X st (tS X.K S G m)) : PSs X [st] (tS X.K S G m) := pss_one h1
theorem ds_pass : PS X (.Pass pos) (tS X.K S G sNop) := PS.imp ps_pass tNext_of
def sBrk : MS := fun e A => .brk e A
def sCnt : MS := fun e A => .cnt e A
theorem ds_break : PS X (.Break pos) (tS X.K S G sBrk) := PS.imp ps_break fun D σ H h => by
  obtain ⟨ρ, A, e, h1, h2, h3, h4⟩ := h
  exact h4 ρ H List.prefix_rfl Mono.refl h1 σ h2 h3
theorem ds_continue : PS X (.Continue pos) (tS X.K S G sCnt) := PS.imp ps_continue fun D σ H h => by
  obtain ⟨ρ, A, e, h1, h2, h3, h4⟩ := h
  exact h4 ρ H List.prefix_rfl Mono.refl h1 σ h2 h3
def sExpr (m : ME) : MS := sBind m fun _ e A => .nx e A
theorem ds_expr (ha : PE X a (tE X.K S G ma)) (hs : swapsWith a none pos.line X.env = pure false := by rfl) : PS X (.Expr a pos) (tS X.K S G (sExpr ma)) := by
  refine PS.imp (ps_expr ha hs) fun D σ H h => ?_
  refine (tS.bind (rv := rV X.K S) h).mono ?_
  rintro x H1 ⟨v, A1, ρ1, e, h1, h2, h3, h4, h5⟩
  exact h5 ρ1 H1 List.prefix_rfl Mono.refl h1 σ h2 h3
def sRet (m : ME) : MS := sBind m fun v _ A => .ret v A
theorem ds_ret (ha : PE X a (tE X.K S G ma)) : PS X (.Return (some a) pos) (tS X.K S G (sRet ma)) := by
  refine PS.imp (ps_ret ha) fun D σ H h => ?_
  refine (tS.bind (rv := rV X.K S) h).mono ?_
  rintro x H1 ⟨v, A1, ρ1, e, h1, h2, h3, h4, h5⟩
  exact h5 ρ1 H1 List.prefix_rfl Mono.refl h1 x h4
def sRetN : MS := fun _ A => .ret .non A
theorem ds_retN : PS X (.Return none pos) (tS X.K S G sRetN) := PS.imp ps_retN fun D σ H h => by
  obtain ⟨ρ, A, e, h1, h2, h3, h4⟩ := h
  exact h4 ρ H List.prefix_rfl Mono.refl h1 _ .non
def sIf (t : MB) (a b : MS) : MS := sBind t fun c e A => if c = true then a e A else b e A
theorem ds_if (hc : PT X c (MP.tB X.K S G tc)) (ha : PSs X sa (tS X.K S G m)) (hb : PSs X sb (tS X.K S G n)) : PS X (.If c sa sb pos) (tS X.K S G (sIf tc m n)) := by
  refine PS.imp (ps_if hc ha hb) fun D σ H h => ?_
  refine (tS.bind (rv := rB) h).mono ?_
  rintro x H1 ⟨v, A1, ρ1, e, h1, h2, h3, rfl, h5⟩
  cases v with
  | true => exact iteT ⟨ρ1, A1, e, h1, h2, h3, h5⟩
  | false => exact iteF ⟨ρ1, A1, e, h1, h2, h3, h5⟩

/-! ### targets -/
def gV (i : Nat) : MT := fun t e A => .nx (e.set i (some t)) A
theorem tG_name {K : PySem.W.Frag} {i : Nat} (hj : G.Free i) : ∀ v σ H Q, tG K S G (gV i) v σ H Q → gName i v σ H Q := fun v σ H Q h => by
  obtain ⟨ρ, A, e, t, h1, h2, h3, h4, h5⟩ := h
  exact h5 ρ H List.prefix_rfl Mono.refl h1 _ (h2.set i h4) (hj _ _ _ _ h3)
theorem PG.imp {e : Expr} {t t' : TG} (h : PG X e t) (hq : ∀ v σ H Q, t' v σ H Q → t v σ H Q) : PG X e t' := ⟨fun pins s σ H v u Q I r q => h.run pins s σ H v u Q I r (hq _ _ _ _ q)⟩
theorem PGs.imp {e : List Expr} {t t' : TGs} (h : PGs X e t) (hq : ∀ v σ H Q, t' v σ H Q → t v σ H Q) : PGs X e t' := ⟨fun pins s σ H v u Q I r q => h.run pins s σ H v u Q I r (hq _ _ _ _ q)⟩
theorem dg_v (i : Nat) {x : Str} (hN : X.N.Nodup) (hj : G.Free i) (hi : X.N[i]? = some x := by rfl) (hx : Loc X.env.scope x := by first | exact Or.inl rfl | exact Or.inr rfl)
    (hf : X.fn x = true ∨ X.env.scope.names.lookup x = some .local := by first | exact .inl rfl | exact .inr rfl | assumption) : PG X (.Name x pos) (tG X.K S G (gV i)) := PG.imp (pg_name hN hi hx hf) (tG_name hj)
def gN : MTs := fun l e A => match l with | [] => .nx e A | _ => .bad
def gC (t : MT) (u : MTs) : MTs := fun l e A => match l with | [] => .bad | v :: r => match t v e A with | .nx e1 A1 => u r e1 A1 | _ => .bad
theorem dgs_nil : PGs X [] (tGs X.K S G gN) := by
  refine PGs.imp pgs_nil fun v σ H Q h => ?_
  obtain ⟨ρ, A, e, t, h1, h2, h3, h4, h5⟩ := h
  cases h4 with
  | nil => exact ⟨rfl, h5 ρ H List.prefix_rfl Mono.refl h1 _ h2 h3⟩
  | cons _ _ => exact h5.elim
theorem dgs_cons {e : Expr} {es : List Expr} {t : MT} {u : MTs} (h1 : PG X e (tG X.K S G t)) (h2 : PGs X es (tGs X.K S G u))
    (hs : (assignEach (e :: es) X.env).map (·.2) = assign e X.env :: (assignEach es X.env).map (·.2) := by rfl) : PGs X (e :: es) (tGs X.K S G (gC t u)) := by
  refine PGs.imp (pgs_cons h1 h2 hs) fun v σ H Q h => ?_
  obtain ⟨ρ, A, e, l, q1, q2, q3, q4, q5⟩ := h
  cases q4 with
  | nil => exact q5.elim
  | @cons t1 x l xs r rr =>
    refine ⟨x, xs, rfl, ρ, A, e, t1, q1, q2, q3, r, ?_⟩
    have q5' : match (match t t1 e A with | .nx e1 A1 => u l e1 A1 | _ => RS.bad) with
        | .nx e' A' => futS X.K S G ρ H e' A' fun σ' _ H' => Q σ' H'
        | _ => False := q5
    cases q : t t1 e A with
    | nx e1 A1 =>
      rw [q] at q5'
      refine fun ρ' H' u1 u2 u3 σ' u4 u5 => ⟨ρ', A1, e1, l, u3, u4, u5, rr.mono u1 u2, ?_⟩
      cases q2 : u l e1 A1 with
      | nx e2 A2 => simp only [q2] at q5'; exact futS.base q5' u1 u2
      | _ => simp only [q2] at q5'
    | _ => simp only [q] at q5'
def gTp (n : Nat) (u : MTs) : MT := fun t e A => match t with | .tup l => if l.length = n then u l e A else .bad | _ => .bad
theorem dg_tup {es : List Expr} {k : Nat} {u : MTs} {n : Nat} (hc : X.calm = true) (h : PGs X es (tGs X.K S G u))
    (hn : (assignEach es X.env).length = n := by rfl) (hst : (assignEach es X.env).findIdx? (·.1) = none := by rfl) : PG X (.Tuple es k pos) (tG X.K S G (gTp n u)) := by
  refine PG.imp (pg_tup hc h hn hst) fun v σ H Q h => ?_
  obtain ⟨ρ, A, e, t, h1, h2, h3, h4, h5⟩ := h
  cases h4 with
  | @tup l p xs q r =>
    simp only [gTp] at h5
    split at h5
    · rename_i e' A' q'
      split at q'
      · rename_i hl
        exact ⟨p, xs, rfl, q, by rw [← r.length]; exact hl, ρ, A, e, l, h1, h2, h3, r, by rw [q']; exact h5⟩
      · cases q'
    · exact h5.elim
  | _ => simp only [gTp] at h5
/-- x = e, (x, y) = e -/
def sAsg (m : ME) (g : MT) : MS := sBind m fun v e A => match g v e A with | .nx e' A' => .nx e' A' | _ => .bad
theorem ds_asg {tg : Expr} {g : MT} (ha : PE X a (tE X.K S G ma)) (hg : PG X tg (tG X.K S G g)) (hs : swapsWithSole [tg] a pos.line X.env = pure false := by rfl) (hw : swappedStores [tg] a X.env = pure none := by rfl)
    (h1 : (assignEach [tg] X.env).map (·.2) = [assign tg X.env] := by rfl) : PS X (.Assign [tg] a pos) (tS X.K S G (sAsg ma g)) := by
  refine PS.imp (ps_asg ha hg hs hw h1) fun D σ H h => ?_
  refine (tS.bind (rv := rV X.K S) h).mono ?_
  rintro x H1 ⟨v, A1, ρ1, e, h1, h2, h3, h4, h5⟩
  refine ⟨ρ1, A1, e, v, h1, h2, h3, h4, ?_⟩
  try dsimp only at h5
  cases q : g v e A1 with
  | nx e' A' => rw [q] at h5; exact h5
  | _ => rw [q] at h5; exact h5.elim
/-- a plain name -/
theorem ds_set (i : Nat) {x : Str} {pos' : Pos} (hN : X.N.Nodup) (hj : G.Free i) (ha : PE X a (tE X.K S G ma)) (hi : X.N[i]? = some x := by rfl) (hx : Loc X.env.scope x := by first | exact Or.inl rfl | exact Or.inr rfl)
    (hs : swapsWith a (some (.Name x pos')) pos.line X.env = pure false := by rfl) (hf : X.fn x = true ∨ X.env.scope.names.lookup x = some .local := by first | exact .inl rfl | exact .inr rfl | assumption) :
    PS X (.Assign [.Name x pos'] a pos) (tS X.K S G (sAsg ma (gV i))) := by
  refine PS.imp (ps_set hN hi hx ha hs hf) fun D σ H h => ?_
  refine (tS.bind (rv := rV X.K S) h).mono ?_
  rintro x H1 ⟨v, A1, ρ1, e, h1, h2, h3, h4, h5⟩
  exact h5 ρ1 H1 List.prefix_rfl Mono.refl h1 _ (h2.set i h4) (hj _ _ _ _ h3)
/-- a, b = x, y of plain names -/
def sPar (i j : Nat) (l : ML) : MS := sBind l fun v e A => match v with | [x, y] => .nx ((e.set i (some x)).set j (some y)) A | _ => .bad
theorem ds_par (i j : Nat) {x y : Str} {ml : ML} {px py pt : Pos} {kt k2 : Nat} {pt2 : Pos} (hc : X.calm = true) (hN : X.N.Nodup) (hji : G.Free i) (hjj : G.Free j) (ha : PA X [a, b] (tL X.K S G ml)) (hi : X.N[i]? = some x := by rfl) (hj : X.N[j]? = some y := by rfl) (hij : i ≠ j := by decide)
    (hx : X.env.scope.names.lookup x = some .local := by rfl) (hy : X.env.scope.names.lookup y = some .local := by rfl)
    (hw : swappedStores [.Tuple [.Name x px, .Name y py] kt pt] (.Tuple [a, b] k2 pt2) X.env = pure (some [x, y]) := by rfl) (hs : swapsWithSole [.Tuple [.Name x px, .Name y py] kt pt] (.Tuple [a, b] k2 pt2) pos.line X.env = pure false := by rfl) :
    PS X (.Assign [.Tuple [.Name x px, .Name y py] kt pt] (.Tuple [a, b] k2 pt2) pos) (tS X.K S G (sPar i j ml)) := by
  refine PS.imp (ps_par hc hN hi hj hij hx hy ha hw hs) fun D σ H h => ?_
  refine (tS.bind (rv := rL X.K S) h).mono ?_
  rintro x H1 ⟨v, A1, ρ1, e, h1, h2, h3, h4, h5⟩
  try dsimp only at h5
  split at h5
  · cases h4 with
    | cons r1 r2 =>
      cases r2 with
      | cons r2 r3 =>
        cases r3
        exact ⟨_, _, rfl, h5 ρ1 H1 List.prefix_rfl Mono.refl h1 _ ((h2.set i r1).set j r2) (hjj _ _ _ _ (hji _ _ _ _ h3))⟩
  · exact h5.elim
end
end MP
end S3
section S4
set_option Elab.async false
set_option linter.all false
set_option maxRecDepth 100000
/-! MPd: for, what a for walks; defs and their calls. -/
namespace MP
open PySem PySem.Spec PyProof.Rows L2

/-- what is walked: at most so many turns; the item at a turn, or the end, or nothing that is told -/
structure ItM where
  n : Nat
  get : Nat → Hm → Option (Option T)
abbrev MI := Env' → Hm → R ItM
section
variable (K : PySem.W.Frag) (S : Sx)
def WalkM (ρ : List Addr) (H : Hp) (it : ItM) (J : It) : Prop :=
  (∀ (ρ' : List Addr) (H' : Hp) (A : Hm) (i : Nat), ρ <+: ρ' → Mono H H' → RelH K S ρ' H' A → it.get i A = some none → J.stop i H') ∧
  ∀ (ρ' : List Addr) (H' : Hp) (A : Hm) (i : Nat) (t : T), ρ <+: ρ' → Mono H H' → RelH K S ρ' H' A → it.get i A = some (some t) → J.go i H' ∧ ∀ x H2, J.yld i H' x H2 → RelV K S ρ' H2 t x ∧ RelH K S ρ' H2 A ∧ Mono H' H2
abbrev tI (G : Gx) (m : MI) : TI := fun σ H R => tX K S (fun ρ H it J => WalkM K S ρ H it J) G m σ H R
end
def forLoop (it : ItM) (g : MT) (b : MS) : Nat → Nat → Env' → Hm → RS
  | k, i, e, A => match it.get i A with
    | some none => .nx e A
    | some (some t) => match k with
      | 0 => .bad
      | k + 1 => match g t e A with
        | .nx e1 A1 => match b e1 A1 with
          | .nx e2 A2 => forLoop it g b k (i + 1) e2 A2
          | .cnt e2 A2 => forLoop it g b k (i + 1) e2 A2
          | .brk e2 A2 => .nx e2 A2
          | r => r
        | _ => .bad
    | none => .bad
def sFor (m : MI) (g : MT) (b : MS) : MS := sBind m fun it e A => forLoop it g b it.n 0 e A

section
variable {X : Cx} {S : Sx} {G : Gx} {tg iter : Expr} {body : List Stmt} {mi : MI} {g : MT} {b : MS} {pos : Pos}
theorem ds_for (hp : PassesOwn (model X.prog X.w) X.A X.env X.xe) (hc : X.calm = true) (hi : PI X tg iter (tI X.K S G mi)) (hg : PG X tg (tG X.K S G g)) (hb : PSs X body (tS X.K S G b))
    (hs : ∀ x, foldedSetIterable iter X.env x = pure x := by intro _; rfl) : PS X (.For tg iter body [] pos) (tS X.K S G (sFor mi g b)) := by
  refine PS.imp (ps_for hp hc hi hg hb hs) fun D σ H h => ?_
  refine (tS.bind (rv := fun ρ H it J => WalkM X.K S ρ H it J) h).mono ?_
  rintro J H0 ⟨it, A0, ρ0, e0, h1, h2, h3, wk, h5⟩
  refine ⟨fun i m σ H => ∃ (ρ : List Addr) (A : Hm) (e : Env'), ρ0 <+: ρ ∧ Mono H0 H ∧ RelH X.K S ρ H A ∧ RelS X.K S ρ H e σ ∧ G.J ρ H σ ∧ postS X.K S G ρ H D (forLoop it g b m i e A),
    ⟨it.n, ρ0, A0, e0, List.prefix_rfl, Mono.refl, h1, h2, h3, h5⟩, ?_⟩
  rintro i m σ H ⟨ρ, A, e, r0, m0, q1, q2, q3, q4⟩
  unfold forLoop at q4
  cases qg : it.get i A with
  | none => rw [qg] at q4; exact q4.elim
  | some ot =>
    rw [qg] at q4
    cases ot with
    | none => exact .inl ⟨wk.1 ρ H A i r0 m0 q1 qg, q4 ρ H List.prefix_rfl Mono.refl q1 σ q2 q3⟩
    | some t =>
      cases m with
      | zero => exact q4.elim
      | succ k =>
        obtain ⟨go, yl⟩ := wk.2 ρ H A i t r0 m0 q1 qg
        refine .inr ⟨go, fun σ' H' => ∃ (ρ : List Addr) (A : Hm) (e : Env'), ρ0 <+: ρ ∧ Mono H0 H' ∧ RelH X.K S ρ H' A ∧ RelS X.K S ρ H' e σ' ∧ G.J ρ H' σ' ∧ postS X.K S G ρ H' D (forLoop it g b k (i + 1) e A), fun σ' H' w => ⟨k, Nat.lt_succ_self _, w⟩, fun x H2 hy => ?_⟩
        obtain ⟨rx, q1', m1⟩ := yl x H2 hy
        refine ⟨ρ, A, e, t, q1', q2.mono List.prefix_rfl m1, G.mono List.prefix_rfl m1 q3, rx, ?_⟩
        dsimp only at q4
        cases qt : g t e A with
        | nx e1 A1 =>
          rw [qt] at q4
          dsimp only at q4 ⊢
          refine fun ρ3 H3 u1 u2 u3 σ3 u4 u5 => ⟨ρ3, A1, e1, u3, u4, u5, ?_⟩
          have hpre : ρ0 <+: ρ3 := r0.trans u1
          have hm3 : Mono H0 H3 := (m0.trans m1).trans u2
          cases qb : b e1 A1 with
          | nx e2 A2 =>
            rw [qb] at q4
            exact fun ρ4 H4 v1 v2 v3 σ4 v4 v5 => ⟨ρ4, A2, e2, hpre.trans v1, hm3.trans v2, v3, v4, v5, postS.base q4 (u1.trans v1) ((m1.trans u2).trans v2)⟩
          | cnt e2 A2 =>
            rw [qb] at q4
            exact fun ρ4 H4 v1 v2 v3 σ4 v4 v5 => ⟨ρ4, A2, e2, hpre.trans v1, hm3.trans v2, v3, v4, v5, postS.base q4 (u1.trans v1) ((m1.trans u2).trans v2)⟩
          | brk e2 A2 => rw [qb] at q4; exact futS.base q4 u1 (m1.trans u2)
          | ret v A2 => rw [qb] at q4; exact Fut.base q4 u1 (m1.trans u2)
          | err e2 c fs A2 => rw [qb] at q4; exact futS.base q4 u1 (m1.trans u2)
          | bad => rw [qb] at q4; exact q4.elim
        | _ => rw [qt] at q4; exact q4.elim

/-! ### what a for walks -/
theorem PI.imp {wi wi' : TI} (h : PI X tg iter wi) (hq : ∀ σ H R, wi' σ H R → wi σ H R) : PI X tg iter wi' := ⟨fun pins s σ H R I q => h.run pins s σ H R I (hq _ _ _ q)⟩
theorem PI.or {wi wi' : TI} (h : PI X tg iter wi) (h' : PI X tg iter wi') : PI X tg iter (fun σ H R => wi σ H R ∨ wi' σ H R) := ⟨fun pins s σ H R I q => q.elim (h.run pins s σ H R I) (h'.run pins s σ H R I)⟩
def itL (r : Nat) (n : Nat) : ItM := ⟨n, fun i A => match A[r]? with | some (.lst l) => some l[i]? | some (.flst l) => some l[i]? | _ => none⟩
def itT (l : List T) : ItM := ⟨l.length, fun i _ => some l[i]?⟩
def itR (lo : Int) (n : Nat) : ItM := ⟨n, fun i _ => some (if i < n then some (.int (lo + i)) else none)⟩
def itS (z : Str) : ItM := ⟨z.cps.size, fun i _ => some (z.cps[i]?.map fun c => .str ⟨#[c]⟩)⟩
theorem SqL_ref {K : PySem.W.Frag} {ρ : List Addr} {H : Hp} {A : Hm} (hH : RelH K S ρ H A) {r : Nat} {p : Addr} {c : C} (hr : ρ[r]? = some p) {l : List T} (q : A[r]? = some c) (hc : c = .lst l ∨ c = .flst l) : ∃ xs, SqL K H p xs ∧ RelL K S ρ H l xs := by
  obtain ⟨o, ho, ro⟩ := hH.at_ r _ p q hr
  rcases hc with rfl | rfl
  · cases ro with | lst r => exact ⟨_, SqL.of ho, r⟩
  · cases ro with | flst r => exact ⟨_, .inl (.inr ⟨_, ho⟩), r⟩
/-- two readings of one list are one -/
theorem sql_inj {K : PySem.W.Frag} {H : Hp} {p : Addr} {xs ys : List V} (h : H p = some (.lst xs) ∨ ∃ o, H p = some (.frz o (.lst xs))) (g : Rd H p (.lst ys)) : xs = ys := by
  rcases h with h | ⟨o, h⟩
  · rcases g with g | ⟨o', g⟩
    · rw [h] at g; cases g; rfl
    · rw [h] at g; cases g
  · rcases g with g | ⟨o', g⟩
    · rw [h] at g; cases g
    · rw [h] at g; cases g; rfl
theorem walkM_list {K : PySem.W.Frag} {ρ : List Addr} {H : Hp} {r n : Nat} {p : Addr} (hr : ρ[r]? = some p) : WalkM K S ρ H (itL r n) (Itl K p) := by
  refine ⟨fun ρ' H' A i h1 h2 h3 h4 => ?_, fun ρ' H' A i t h1 h2 h3 h4 => ?_⟩
  · simp only [itL] at h4
    split at h4
    · rename_i l q
      obtain ⟨xs, e, rl⟩ := SqL_ref h3 (pre_get h1 hr) q (.inl rfl)
      refine ⟨xs, e, ?_⟩
      rw [← rl.length]; exact List.getElem?_eq_none_iff.mp (Option.some.inj h4)
    · rename_i l q
      obtain ⟨xs, e, rl⟩ := SqL_ref h3 (pre_get h1 hr) q (.inr rfl)
      refine ⟨xs, e, ?_⟩
      rw [← rl.length]; exact List.getElem?_eq_none_iff.mp (Option.some.inj h4)
    · cases h4
  · simp only [itL] at h4
    split at h4
    · rename_i l q
      obtain ⟨xs, e, rl⟩ := SqL_ref h3 (pre_get h1 hr) q (.inl rfl)
      obtain ⟨x, hx, rx⟩ := rl.get (Option.some.inj h4)
      refine ⟨⟨xs, x, e, hx⟩, fun y H2 hy => ?_⟩
      obtain ⟨rfl, hy⟩ := hy
      have := hy xs e
      rw [hx] at this; cases this
      exact ⟨rx, h3, Mono.refl⟩
    · rename_i l q
      obtain ⟨xs, e, rl⟩ := SqL_ref h3 (pre_get h1 hr) q (.inr rfl)
      obtain ⟨x, hx, rx⟩ := rl.get (Option.some.inj h4)
      refine ⟨⟨xs, x, e, hx⟩, fun y H2 hy => ?_⟩
      obtain ⟨rfl, hy⟩ := hy
      have := hy xs e
      rw [hx] at this; cases this
      exact ⟨rx, h3, Mono.refl⟩
    · cases h4
theorem walkM_tup {K : PySem.W.Frag} {ρ : List Addr} {H : Hp} {p : Addr} {l : List T} {xs : List V} (hs : SqT K H p xs) (rl : RelL K S ρ H l xs) : WalkM K S ρ H (itT l) (Itt K p) := by
  refine ⟨fun ρ' H' A i h1 h2 h3 h4 => ?_, fun ρ' H' A i t h1 h2 h3 h4 => ?_⟩
  · refine ⟨xs, h2.tup hs, ?_⟩
    rw [← rl.length]; exact List.getElem?_eq_none_iff.mp (Option.some.inj h4)
  · obtain ⟨x, hx, rx⟩ := rl.get (Option.some.inj h4)
    refine ⟨⟨xs, x, h2.tup hs, hx⟩, fun y H2 hy => ?_⟩
    obtain ⟨rfl, hy⟩ := hy
    have := hy xs (h2.tup hs)
    rw [hx] at this; cases this
    exact ⟨rx.mono h1 h2, h3, Mono.refl⟩
theorem walkM_range {K : PySem.W.Frag} {ρ : List Addr} {H : Hp} {lo : Int} {n : Nat} : WalkM K S ρ H (itR lo n) (Itr lo n) := by
  refine ⟨fun ρ' H' A i h1 h2 h3 h4 => ?_, fun ρ' H' A i t h1 h2 h3 h4 => ?_⟩
  · simp only [itR] at h4
    split at h4
    · cases h4
    · rename_i z; show n ≤ i; omega
  · simp only [itR] at h4
    split at h4
    · rename_i z
      cases h4
      refine ⟨z, fun y H2 hy => ?_⟩
      obtain ⟨rfl, rfl⟩ := hy
      exact ⟨.int _, h3, Mono.refl⟩
    · cases h4
theorem walkM_str {K : PySem.W.Frag} {ρ : List Addr} {H : Hp} {z : Str} : WalkM K S ρ H (itS z) (Its z) := by
  refine ⟨fun ρ' H' A i h1 h2 h3 h4 => ?_, fun ρ' H' A i t h1 h2 h3 h4 => ?_⟩
  · simp only [itS] at h4
    show z.cps.size ≤ i
    have h5 := Option.some.inj h4
    rw [Option.map_eq_none_iff] at h5
    exact Array.getElem?_eq_none_iff.mp h5
  · simp only [itS] at h4
    have h5 := Option.some.inj h4
    rw [Option.map_eq_some_iff] at h5
    obtain ⟨c, hc, rfl⟩ := h5
    refine ⟨(Array.getElem?_eq_some_iff.mp hc).1, fun y H2 hy => ?_⟩
    obtain ⟨rfl, c', hc', rfl⟩ := hy
    rw [hc] at hc'; cases hc'
    exact ⟨.str _, h3, Mono.refl⟩
/-- a list, a tuple, a text -/
def iAnyK : T → Hm → R ItM := fun t A => match t with
  | .ref r => match A[r]? with
    | some (.lst l) => .ok (itL r l.length) A
    | some (.flst l) => .ok (itL r l.length) A
    | _ => .bad
  | .tup l => .ok (itT l) A
  | .str z => .ok (itS z) A
  | _ => .bad
def iAny (m : ME) : MI := mbind m fun t _ A => iAnyK t A
/-- where a rule is chosen by the value that comes -/
theorem tX.cases {α : Type} {K : PySem.W.Frag} {m : ME} {rv : List Addr → Hp → α → It → Prop} {k : T → Hm → R α} {σ : L2.St} {H : Hp} {Q : It → Hp → Prop} (h : tX K S rv G (mbind m fun t _ A => k t A) σ H Q) {P : Prop}
    (hok : ∀ (v : T) (A1 : Hm), k v A1 ≠ .bad → (∀ Q', (∀ (ρ1 : List Addr) (H1 : Hp) (x : V), RelH K S ρ1 H1 A1 → RelV K S ρ1 H1 v x → post K S rv G.W ρ1 σ H1 Q (k v A1) → Q' x H1) → tE K S G m σ H Q') → P)
    (herr : (∀ Q', tE K S G m σ H Q') → P) : P := by
  obtain ⟨ρ, A, e, h1, h2, h3, h4⟩ := h
  simp only [mbind] at h4
  cases q : m e A with
  | ok v A1 =>
    rw [q] at h4
    refine hok v A1 (fun z => ?_) fun Q' hq => ⟨ρ, A, e, h1, h2, h3, ?_⟩
    · have h4' : post K S rv G.W ρ σ H Q (k v A1) := h4
      rw [z] at h4'; exact h4'
    · rw [q]
      exact fun ρ1 H1 u1 u2 u3 x hx => hq ρ1 H1 x u3 hx (post.base (r := k v A1) h4 u1 u2)
  | err c fs A1 =>
    rw [q] at h4
    exact herr fun Q' => ⟨ρ, A, e, h1, h2, h3, by rw [q]; exact h4⟩
  | bad => rw [q] at h4; exact h4.elim
theorem di_any {ma : ME} (h : PE X iter (tE X.K S G ma)) : PI X tg iter (tI X.K S G (iAny ma)) := by
  refine PI.imp (PI.or (pi_list h) (PI.or (pi_tup h) (pi_str h))) fun σ H R hq => ?_
  refine tX.cases hq (fun v A1 nb hk => ?_) fun hk => .inl (hk _)
  cases v with
  | ref r =>
    refine .inl (hk _ fun ρ1 H1 x u3 hx hp => ?_)
    cases hx with
    | @ref _ p hr =>
      simp only [iAnyK] at hp
      split at hp
      · rename_i l q
        obtain ⟨xs, e, rl⟩ := SqL_ref u3 hr q (.inl rfl)
        exact ⟨p, rfl, ⟨xs, e⟩, Fut.here hp u3 _ (walkM_list hr)⟩
      · rename_i l q
        obtain ⟨xs, e, rl⟩ := SqL_ref u3 hr q (.inr rfl)
        exact ⟨p, rfl, ⟨xs, e⟩, Fut.here hp u3 _ (walkM_list hr)⟩
      · exact hp.elim
  | tup l =>
    refine .inr (.inl (hk _ fun ρ1 H1 x u3 hx hp => ?_))
    cases hx with
    | @tup _ p xs hs rl => exact ⟨p, rfl, ⟨xs, hs⟩, Fut.here hp u3 _ (walkM_tup hs rl)⟩
  | str z =>
    refine .inr (.inr (hk _ fun ρ1 H1 x u3 hx hp => ?_))
    cases hx with
    | str => exact ⟨z, rfl, Fut.here hp u3 _ walkM_str⟩
  | _ => exact absurd rfl nb
/-- range(n), range(a, b) -/
def iRng1K : List T → Hm → R ItM := fun l A => match l with
  | [.int j] => if -(2 ^ 62) ≤ j ∧ j < 2 ^ 62 then .ok (itR 0 j.toNat) A else .bad
  | _ => .bad
def iRng1 (l : ML) : MI := mbind l fun l _ A => iRng1K l A
def iRng2K : List T → Hm → R ItM := fun l A => match l with
  | [.int i, .int j] => if -(2 ^ 62) ≤ i ∧ i < 2 ^ 62 ∧ -(2 ^ 62) ≤ j ∧ j < 2 ^ 62 then .ok (itR i (j - i).toNat) A else .bad
  | _ => .bad
def iRng2 (l : ML) : MI := mbind l fun l _ A => iRng2K l A
theorem di_rng1 {a : Expr} {ml : ML} {p : Pos} (hm : X.mg "range" = none) (ha : PA X [a] (tL X.K S G ml)) (hg : Gl X "range" := by rfl) (hs : starEach [a] X.env = [(false, eval a X.env)] := by rfl) :
    PI X tg (.Call (.Name "range" p) [a] [] pos) (tI X.K S G (MP.iRng1 ml)) := by
  refine PI.imp (pi_range1 hg hm ha hs) fun σ H R hq => ?_
  refine (tX.bind (rv := rL X.K S) hq).mono ?_
  rintro x H1 ⟨v, A1, ρ1, e, h1, h2, h3, h4, h5⟩
  simp only [iRng1K] at h5
  split at h5
  · split at h5
    · rename_i z
      cases h4 with
      | cons r1 r2 => cases r1; cases r2; exact ⟨_, rfl, z.1, z.2, Fut.here h5 h1 _ walkM_range⟩
    · exact h5.elim
  · exact h5.elim
theorem di_rng2 {a b : Expr} {ml : ML} {p : Pos} (hm : X.mg "range" = none) (ha : PA X [a, b] (tL X.K S G ml)) (hg : Gl X "range" := by rfl) (hs : starEach [a, b] X.env = [(false, eval a X.env), (false, eval b X.env)] := by rfl) (hs2 : starEach [b] X.env = [(false, eval b X.env)] := by rfl) :
    PI X tg (.Call (.Name "range" p) [a, b] [] pos) (tI X.K S G (MP.iRng2 ml)) := by
  refine PI.imp (pi_range2 hg hm ha hs hs2) fun σ H R hq => ?_
  refine (tX.bind (rv := rL X.K S) hq).mono ?_
  rintro x H1 ⟨v, A1, ρ1, e, h1, h2, h3, h4, h5⟩
  simp only [iRng2K] at h5
  split at h5
  · split at h5
    · rename_i z
      cases h4 with
      | cons r1 r2 => cases r1; cases r2 with | cons r3 r4 => cases r3; cases r4; exact ⟨_, _, rfl, z, Fut.here h5 h1 _ walkM_range⟩
    · exact h5.elim
  · exact h5.elim
end
end MP
end S4
section S5
set_option Elab.async false
set_option linter.all false
set_option maxRecDepth 100000
/-! MPe: defs, their calls, instances made. -/
namespace MP
open PySem PySem.Spec PyProof.Rows L2

/-- what a def is worth -/
abbrev Fn := List T → Hm → R T
/-- a def by its body: so many slots -/
def fnOfBody (n : Nat) (b : MS) : Fn := fun args A => match b (args.map some ++ List.replicate (n - args.length) none) A with
  | .nx _ A' => .ok .non A'
  | .ret v A' => .ok v A'
  | .err _ c fs A' => .err c fs A'
  | _ => .bad
/-- its promise -/
def spM (K : PySem.W.Frag) (S : Sx) (np : Nat) (fn : Fn) : Sp := fun vs H Q E => ∃ (ρ : List Addr) (A : Hm) (ts : List T), vs.length = np ∧ RelH K S ρ H A ∧ RelL K S ρ H ts vs ∧
  post K S (rV K S) (fun cls d _ H => E cls d H) ρ [] H Q (fn ts A)
/-- a def keeps a promise, where no text of a thing within itself is being made -/
structure FnG (P : Program) (w : World) (K : PySem.W.Frag) (mg : Str → Option Value) (base : Heap) (k : Nat) (f : Addr) (fd : FuncData) (ps : List Str) (sp : Sp) : Prop where
  len : ∀ vs H Q E, sp vs H Q E → vs.length = ps.length
  run : ∀ (A : Around) (outer : List Env) (s : Shared) (H : Hp) (args : Args) (us : List Value) (vs : List V) (Q : VK) (E : XK), Room k A → A.guards = some [] → Env0 P w K mg base A outer s H → BindsTo s fd args (ps.zip us) → Vals vs us → sp vs H Q E →
    codeAny (model P w) A (.call (.ref f) args) (CR (L2N.CX P w) outer P w H s Q E) s
theorem FnG.mono {P : Program} {w : World} {K : PySem.W.Frag} {mg : Str → Option Value} {base : Heap} {j k : Nat} {f : Addr} {fd : FuncData} {ps : List Str} {sp : Sp} (F : FnG P w K mg base j f fd ps sp) (h : j ≤ k) : FnG P w K mg base k f fd ps sp :=
  ⟨F.len, fun A outer s H args us vs Q E hr => F.run A outer s H args us vs Q E (hr.mono h)⟩

/-- a def as it stands behind the top -/
abbrev FD (K : PySem.W.Frag) (x qual : Str) (st : Stmt) (dvs : List V) (kws : List (Str × V)) (f : Addr) (fd : FuncData) : Prop := FunD K x qual (defArgs st) (defBody st) (defScope st) dvs kws f fd
section
variable {P : Program} {w : World} {K : PySem.W.Frag} {mg : Str → Option Value} {base : Heap} {S : Sx}
theorem relS_start {ρ : List Addr} {H : Hp} : ∀ {ts : List T} {vs : List V} {n : Nat}, RelL K S ρ H ts vs → RelS K S ρ H (ts.map some ++ List.replicate n none) (vs.map some ++ List.replicate n none)
  | _, _, n, .nil => by
    induction n with
    | zero => exact .nil
    | succ n ih => exact .any ih
  | _, _, n, .cons a b => .cons a (relS_start b)
/-- the rule for a def -/
theorem d_def {x qual : Str} {st : Stmt} {dvs : List V} {kws : List (Str × V)} {f : Addr} {fd : FuncData} {N ps : List Str} {k : Nat} {b : MS} (F : FD K x qual st dvs kws f fd) (sc : FnScope N ps (defScope st))
    (hbody : ∀ (cdv : Value) (A : Around) (outer : List Env) (s : Shared) (H : Hp) (E : XK), Room k (A.deeper (envOfC qual (defScope st) s.heap.objs.size f cdv)) → A.guards = some [] →
      PSs (cxOf (L2N.CX P w) P w K mg base N qual (defScope st) f cdv A outer s H E) (defBody st) (tS K S (Gx.plain fun cls d _ H => E cls d H) b)) :
    FnG P w K mg base (k + 1) f fd ps (spM K S ps.length (fnOfBody N.length b)) := by
  obtain ⟨oc, od, dV, kV, doc, pm, an, cdv, ct, osl, rfl, lk, hcd, _, _⟩ := F.ex
  refine ⟨fun vs H Q E ⟨_, _, _, h, _⟩ => h, fun A outer s H args us vs Q E hr hg e0 hb r hsp => ?_⟩
  obtain ⟨ρ, A0, ts, hl, hH, hL, hp⟩ := hsp
  refine LamX.run_ofS lk hcd sc hr e0 hb r hl fun hr' => ⟨_, hbody cdv A outer s H E hr' hg, ?_⟩
  refine ⟨ρ, A0, ts.map some ++ List.replicate (N.length - vs.length) none, hH, relS_start hL, trivial, ?_⟩
  have e : ts.length = vs.length := hL.length
  unfold fnOfBody at hp
  rw [e] at hp
  cases q : b (ts.map some ++ List.replicate (N.length - vs.length) none) A0 with
  | nx e1 A1 => rw [q] at hp; exact fun ρ' H' u1 u2 u3 σ' _ _ => hp ρ' H' u1 u2 u3 _ .non
  | ret v A1 => rw [q] at hp; exact hp
  | err e1 c fs A1 => rw [q] at hp; exact fun ρ' H' u1 u2 u3 σ' _ _ => hp ρ' H' u1 u2 u3
  | brk e1 A1 => rw [q] at hp; exact hp.elim
  | cnt e1 A1 => rw [q] at hp; exact hp.elim
  | bad => rw [q] at hp; exact hp.elim
end

/-! ### how arguments come to parameters -/
structure BindM (K : PySem.W.Frag) (S : Sx) (fd : FuncData) (ps : List Str) (n : Nat) (ks : List Str) (gT : List T → List T → List T) : Prop where
  ex : ∃ (g : List Value → List Value → List Value) (gV : List V → List V → List V), KBn K fd ps n ks g gV ∧
    ∀ (ρ : List Addr) (H : Hp) (vs : List T) (xs : List V) (zs : List T) (ys : List V), RelL K S ρ H vs xs → RelL K S ρ H zs ys → vs.length = n → zs.length = ks.length → RelL K S ρ H (gT vs zs) (gV xs ys) ∧ (gV xs ys).length = ps.length
theorem BindM.all {K : PySem.W.Frag} {S : Sx} {fd : FuncData} {ps : List Str} (h : Binds K fd ps []) : BindM K S fd ps ps.length [] (fun vs _ => vs) :=
  ⟨fun us _ => us, fun vs _ => vs, ⟨fun s us ws hK hl _ => by have := h s us hK (by simpa using hl); simpa using this, fun r _ => r⟩, fun _ _ _ _ _ _ r _ h _ => ⟨r, by rw [← r.length]; exact h⟩⟩
/-- a list of so many -/
def LenL (l : ML) (n : Nat) : Prop := ∀ e A v A', l e A = .ok v A' → v.length = n
theorem LenL.nil : LenL aN 0 := fun e A v A' h => by cases h; rfl
theorem LenL.cons {a : ME} {l : ML} {n : Nat} (h : LenL l n) : LenL (aC a l) (n + 1) := fun e A v A' q => by
  simp only [aC, mbind] at q
  cases q1 : a e A with
  | ok x A1 =>
    rw [q1] at q
    simp only [R.bind] at q
    cases q2 : l e A1 with
    | ok r A2 => rw [q2] at q; cases q; simp [h _ _ _ _ q2]
    | err _ _ _ => rw [q2] at q; cases q
    | bad => rw [q2] at q; cases q
  | err _ _ _ => rw [q1] at q; cases q
  | bad => rw [q1] at q; cases q

section
variable {X : Cx} {S : Sx} {G : Gx} {k n : Nat} {f C : Addr} {fd : FuncData} {ps ks : List Str} {gT : List T → List T → List T} {fn : Fn} {sp : Sp} {x m : Str} {p pos apos : Pos} {e o : Expr} {es : List Expr} {kws : List Keyword} {ml mk : ML} {mo : ME}
  {g : List Value → List Value → List Value} {gV : List V → List V → List V}
/-- the callee runs -/
theorem run_G {pins : List (Addr × Obj)} {σ : L2.St} {H : Hp} {s : Shared} {Q : VK} {us ws : List Value} {vs zs : List V} {W : WX} (F : FnG X.prog X.w X.K X.mg X.base k f fd ps sp) (hr : Room k X.A) (hgd : X.A.guards = some []) (hb : KBn X.K fd ps n ks g gV) (tk : L2N.Takes X W)
    (I : Inv X pins σ H s) (r : Vals vs us) (rz : Vals zs ws) (l1 : vs.length = n) (l2 : zs.length = ks.length) (h : sp (gV vs zs) H Q (WE W σ)) : wpAny (model X.prog X.w) X.A (call (.ref f) us (ks.zip ws)) (EP X pins σ Q) X.xe s := by
  have r2 := hb.rel r rz
  refine wpAny_call (codeAny_mono (F.run X.A X.stack s H ⟨us, ks.zip ws⟩ (g us ws) (gV vs zs) Q (WE W σ) hr hgd I.env0 (hb.to s us ws I.kIn (r.length.symm.trans l1) (rz.length.symm.trans l2)) r2 h) fun r s' hq => ?_)
  cases r with
  | error e => exact L2N.passAt tk σ pins H s e s' I hq
  | ok fl =>
    cases fl with
    | ret u => exact I.after hq
    | next => exact False.elim hq
    | brk => exact False.elim hq
    | cont => exact False.elim hq
/-- an instance is made, its __init__ runs -/
theorem make_G {pins : List (Addr × Obj)} {σ : L2.St} {H : Hp} {s : Shared} {Q : VK} {us ws : List Value} {vs zs : List V} {W : WX} (M : Mk X.K C f) (F : FnG X.prog X.w X.K X.mg X.base k f fd ps sp) (hr : Room (k + 1) X.A) (hgd : X.A.guards = some []) (hb : KBn X.K fd ps (n + 1) ks g gV) (tk : L2N.Takes X W)
    (I : Inv X pins σ H s) (r : Vals vs us) (rz : Vals zs ws) (l1 : vs.length = n) (l2 : zs.length = ks.length)
    (h : ∀ x dx, H x = none → H dx = none → dx ≠ x → sp (gV (.ref x :: vs) zs) (upd (upd H dx (.own x)) x (.ins C dx [])) (fun v H2 => v = .non ∧ Q (.ref x) H2) (WE W σ)) :
    wpAny (model X.prog X.w) X.A (call (.ref C) us (ks.zip ws)) (EP X pins σ Q) X.xe s := by
  have hq := h (s.heap.objs.size + 1) s.heap.objs.size (I.hok.fresh (Nat.le_succ _)) (I.hok.fresh (Nat.le_refl _)) (Nat.ne_of_lt (Nat.lt_succ_self _))
  have I2 := Inv.made (C := C) I
  have r1 : Vals (V.ref (s.heap.objs.size + 1) :: vs) (Value.ref (s.heap.objs.size + 1) :: us) := .cons rfl r
  have n1 : (Value.ref (s.heap.objs.size + 1) :: us).length = n + 1 := by rw [List.length_cons, ← r.length, l1]
  have hgu : (X.A.under (.builtin "type.__call__" ⟨.ref C :: us, ks.zip ws⟩)).guards = some [] := by
    first
      | exact hgd
      | (simp [Around.under, Code.guards, Code.isGuard, guardIds, pushGuards, hgd])
  have key := F.run (X.A.under (.builtin "type.__call__" ⟨.ref C :: us, ks.zip ws⟩)) X.stack _ _ ⟨Value.ref (s.heap.objs.size + 1) :: us, ks.zip ws⟩ (g (Value.ref (s.heap.objs.size + 1) :: us) ws) _ _ (WE W σ) (hr.make C us (ks.zip ws)) hgu
    (I2.env0.make C us (ks.zip ws)) (hb.to _ _ ws I2.kIn n1 (rz.length.symm.trans l2)) (hb.rel r1 rz) hq
  refine wpAny_call (make_map (f := f) I.kIn M.makes M.init (beq_iff_eq.mp M.fn) (codeAny_mono key fun r s' hq' => ?_))
  cases r with
  | error e => exact L2N.passAt tk σ pins _ _ e s' I2 hq'
  | ok fl =>
    cases fl with
    | ret u =>
      obtain ⟨v, H', I3, rv, ev, q3⟩ := I2.after hq'
      subst ev
      exact ⟨rv, ⟨V.ref (s.heap.objs.size + 1), H', I3, rfl, q3⟩⟩
    | next => exact False.elim hq'
    | brk => exact False.elim hq'
    | cont => exact False.elim hq'
end
end MP
end S5
section S6
set_option Elab.async false
set_option linter.all false
set_option maxRecDepth 100000
/-! MPf: calls of defs, of classes, of methods. -/
namespace MP
open PySem PySem.Spec PyProof.Rows L2

section
variable {X : Cx} {S : Sx} {G : Gx} {k n : Nat} {f C : Addr} {fd : FuncData} {ps ks : List Str} {gT : List T → List T → List T} {fn : Fn} {x m : Str} {p pos apos : Pos} {e o : Expr} {es : List Expr} {kws : List Keyword} {ml mk : ML} {mo : ME}
  {g : List Value → List Value → List Value} {gV : List V → List V → List V}
/-- an argument list's reading, with its length -/
theorem tX.bindL {K : PySem.W.Frag} {γ δ : Type} {rw' : List Addr → Hp → γ → δ → Prop} {m : ML} {k : List T → Env' → Hm → R γ} {σ : L2.St} {H : Hp} {Q : δ → Hp → Prop} (hl : LenL m n) (h : tX K S rw' G (mbind m k) σ H Q) :
    tL K S G m σ H fun x H1 => ∃ (v : List T) (A1 : Hm) (ρ1 : List Addr) (e : Env'), RelH K S ρ1 H1 A1 ∧ RelS K S ρ1 H1 e σ ∧ G.J ρ1 H1 σ ∧ RelL K S ρ1 H1 v x ∧ v.length = n ∧ post K S rw' G.W ρ1 σ H1 Q (k v e A1) := by
  obtain ⟨ρ, A, e, h1, h2, h3, h4⟩ := h
  refine ⟨ρ, A, e, h1, h2, h3, ?_⟩
  simp only [mbind] at h4
  cases q : m e A with
  | ok v A1 =>
    rw [q] at h4
    exact fun ρ' H' q1 q2 q3 x hx => ⟨v, A1, ρ', e, q3, h2.mono q1 q2, G.mono q1 q2 h3, hx, hl _ _ _ _ q, post.base (r := k v e A1) h4 q1 q2⟩
  | err c fs A1 => rw [q] at h4; exact h4
  | bad => rw [q] at h4; exact h4.elim
/-- one step with its own outcome, then what follows it -/
theorem post.bindE {K : PySem.W.Frag} {α β γ δ : Type} {rv : List Addr → Hp → α → β → Prop} {rw' : List Addr → Hp → γ → δ → Prop} {W : WX} {ρ : List Addr} {σ : L2.St} {H : Hp} {Q : δ → Hp → Prop} {r : R α} {k : α → Hm → R γ} (h : post K S rw' W ρ σ H Q (r.bind k)) :
    post K S rv W ρ σ H (fun x H1 => ∃ (v : α) (A1 : Hm) (ρ1 : List Addr), r = .ok v A1 ∧ ρ <+: ρ1 ∧ Mono H H1 ∧ RelH K S ρ1 H1 A1 ∧ rv ρ1 H1 v x ∧ post K S rw' W ρ1 σ H1 Q (k v A1)) r := by
  cases r with
  | ok v A => exact fun ρ' H' h1 h2 h3 x hx => ⟨v, A, ρ', rfl, h1, h2, h3, hx, post.base (r := k v A) h h1 h2⟩
  | err c fs A => exact h
  | bad => exact h
/-- what stands at a call of a def: the def, the room, its arguments' way -/
structure CallF (X : Cx) (S : Sx) (G : Gx) (x : Str) (n : Nat) (ks : List Str) (gT : List T → List T → List T) (fn : Fn) : Prop where
  ex : ∃ (k : Nat) (f : Addr) (fd : FuncData) (ps : List Str), FnG X.prog X.w X.K X.mg X.base k f fd ps (spM X.K S ps.length fn) ∧ Room k X.A ∧ X.mg x = some (.ref f) ∧ PySem.W.keepIn X.K (.ref f) = true ∧ BindM X.K S fd ps n ks gT
  gd : X.A.guards = some []
  tk : L2N.Takes X G.W
def eCall (fn : Fn) (gT : List T → List T → List T) (l : ML) : ME := mbind l fun vs _ A => fn (gT vs []) A
def eCallK (fn : Fn) (gT : List T → List T → List T) (l k : ML) : ME := mbind l fun vs => mbind k fun zs _ A => fn (gT vs zs) A
/-- the callee's promise, of the run's values -/
theorem spM_of {K : PySem.W.Frag} {W : WX} {ρ : List Addr} {A : Hm} {H : Hp} {ts : List T} {vs : List V} {np : Nat} {σ : L2.St} {Q : VK} (hH : RelH K S ρ H A) (hL : RelL K S ρ H ts vs) (hn : vs.length = np) (h : post K S (rV K S) W ρ σ H Q (fn ts A)) :
    spM K S np fn vs H Q (WE W σ) := by
  refine ⟨ρ, A, ts, hn, hH, hL, ?_⟩
  cases q : fn ts A with
  | ok v A' => rw [q] at h; exact h
  | err c fs A' => rw [q] at h; exact h
  | bad => rw [q] at h; exact h.elim
theorem d_call (F : CallF X S G x n [] gT fn) (ha : PA X (e :: es) (tL X.K S G ml)) (hl : LenL ml n) (hg : Gl X x := by rfl) (hdb : (x == ("__debug__" : Str)) = false := by decide)
    (he : starEach (e :: es) X.env = (false, eval e X.env) :: starEach es X.env := by rfl) (hpl : (backTo pos (starEach es X.env)).any (·.1) = false := by rfl) :
    PE X (.Call (.Name x p) (e :: es) [] pos) (tE X.K S G (eCall fn gT ml)) := by
  obtain ⟨⟨k, f, fd, ps, F1, hr, hm, hk, ⟨g, gV, hb, hrel⟩⟩, gd, tk⟩ := F
  refine ⟨fun pins s σ H Q I h => ?_⟩
  refine wpAny_Call_Name_kw (ld_glob I hg hm ?_ hdb)
  refine PySem.W.callWith_K (h₀ := X.base) I.ok.mod.kin hk (thn (ha.run pos pins s σ H _ I (tX.bindL hl h)) fun us s1 hh => ?_) he hpl
  obtain ⟨vs, H1, I1, r, v, A1, ρ1, ev, q1, q2, q3, q4, q5, q6⟩ := hh
  obtain ⟨w1, w2⟩ := hrel ρ1 H1 v vs [] [] q4 .nil q5 rfl
  exact ⟨I1.kIn, run_G (ws := []) (zs := []) F1 hr gd hb tk I1 r .nil (by rw [← q4.length]; exact q5) rfl (spM_of q1 w1 w2 q6)⟩
theorem d_call0 (F : CallF X S G x 0 [] gT fn) (hg : Gl X x := by rfl) (hdb : (x == ("__debug__" : Str)) = false := by decide) : PE X (.Call (.Name x p) [] [] pos) (tE X.K S G (eCall fn gT aN)) := by
  obtain ⟨⟨k, f, fd, ps, F1, hr, hm, hk, ⟨g, gV, hb, hrel⟩⟩, gd, tk⟩ := F
  refine ⟨fun pins s σ H Q I h => ?_⟩
  refine wpAny_Call_Name_kw (ld_glob I hg hm ?_ hdb)
  obtain ⟨ρ, A, ev, q1, q2, q3, q4⟩ := h
  obtain ⟨w1, w2⟩ := hrel ρ H [] [] [] [] .nil .nil rfl rfl
  exact PySem.W.callWith_K0 I.kIn hk (run_G (us := []) (ws := []) (zs := []) F1 hr gd hb tk I .nil .nil rfl rfl (spM_of q1 w1 w2 q4))
/-- f(e, .., k = v, ..) -/
theorem d_callK (F : CallF X S G x n ks gT fn) (ha : PA X (e :: es) (tL X.K S G ml)) (hl : LenL ml n) (hkw : PK X kws (tL X.K S G mk)) (hlk : LenL mk ks.length) (hall : (backToKw pos (keywordEach kws X.env)).all (·.1.isSome) = true := by rfl)
    (hks : (backToKw pos (keywordEach kws X.env)).filterMap (·.1) = ks := by rfl) (hg : Gl X x := by rfl) (hdb : (x == ("__debug__" : Str)) = false := by decide) (he : starEach (e :: es) X.env = (false, eval e X.env) :: starEach es X.env := by rfl)
    (hpl : ((backTo pos (starEach (e :: es) X.env)).any (·.1) || (backToKw pos (keywordEach kws X.env)).any (·.1.isNone)) = false := by rfl) :
    PE X (.Call (.Name x p) (e :: es) kws pos) (tE X.K S G (eCallK fn gT ml mk)) := by
  obtain ⟨⟨k, f, fd, ps, F1, hr, hm, hk, ⟨g, gV, hb, hrel⟩⟩, gd, tk⟩ := F
  refine ⟨fun pins s σ H Q I h => ?_⟩
  refine wpAny_Call_Name_kw (ld_glob I hg hm ?_ hdb)
  refine PySem.W.callWith_KW (h₀ := X.base) I.ok.mod.kin hk hall (thn (ha.run pos pins s σ H _ I (tX.bindL hl h)) fun us s1 hh => ?_) hpl he
  obtain ⟨vs, H1, I1, r, v, A1, ρ1, ev, q1, q2, q3, q4, q5, q6⟩ := hh
  refine thn (hkw.run pos pins s1 σ H1 _ I1 ⟨ρ1, A1, ev, q1, q2, q3, post.bindE (rv := rL X.K S) q6⟩) fun ws s2 hh2 => ?_
  obtain ⟨zs, H2, I2, rz, z, A2, ρ2, u0, u1, u2, u3, u4, u5⟩ := hh2
  have lz := hlk _ _ _ _ u0
  obtain ⟨w1, w2⟩ := hrel ρ2 H2 v vs z zs (q4.mono u1 u2) u4 q5 lz
  refine ⟨I2.kIn, ?_⟩
  rw [hks]
  exact run_G F1 hr gd hb tk I2 r rz (by rw [← q4.length]; exact q5) (by rw [← u4.length]; exact lz) (spM_of u3 w1 w2 u5)
/-- f(k = v, ..) -/
theorem d_callK0 (F : CallF X S G x 0 ks gT fn) (hkw : PK X kws (tL X.K S G mk)) (hlk : LenL mk ks.length) (hall : (backToKw pos (keywordEach kws X.env)).all (·.1.isSome) = true := by rfl)
    (hks : (backToKw pos (keywordEach kws X.env)).filterMap (·.1) = ks := by rfl) (hg : Gl X x := by rfl) (hdb : (x == ("__debug__" : Str)) = false := by decide)
    (hpl : ((backTo pos (starEach [] X.env)).any (·.1) || (backToKw pos (keywordEach kws X.env)).any (·.1.isNone)) = false := by rfl) :
    PE X (.Call (.Name x p) [] kws pos) (tE X.K S G (eCallK fn gT aN mk)) := by
  obtain ⟨⟨k, f, fd, ps, F1, hr, hm, hk, ⟨g, gV, hb, hrel⟩⟩, gd, tk⟩ := F
  refine ⟨fun pins s σ H Q I h => ?_⟩
  refine wpAny_Call_Name_kw (ld_glob I hg hm ?_ hdb)
  refine PySem.W.callWith_KW0 (h₀ := X.base) I.ok.mod.kin hk hall ?_ hpl
  obtain ⟨ρ1, A1, ev, q1, q2, q3, q6⟩ := h
  refine thn (hkw.run pos pins s σ H _ I ⟨ρ1, A1, ev, q1, q2, q3, post.bindE (rv := rL X.K S) (r := mk ev A1) q6⟩) fun ws s2 hh2 => ?_
  obtain ⟨zs, H2, I2, rz, z, A2, ρ2, u0, u1, u2, u3, u4, u5⟩ := hh2
  have lz := hlk _ _ _ _ u0
  obtain ⟨w1, w2⟩ := hrel ρ2 H2 [] [] z zs .nil u4 rfl lz
  refine ⟨I2.kIn, ?_⟩
  rw [hks]
  exact run_G (us := []) (vs := []) F1 hr gd hb tk I2 .nil rz rfl (by rw [← u4.length]; exact lz) (spM_of u3 w1 w2 u5)
theorem dk_nil : PK X [] (tL X.K S G aN) := ⟨fun pos pins s σ H Q I h => pk_nil.run pos pins s σ H Q I (by
  obtain ⟨ρ, A, e, h1, h2, h3, h4⟩ := h
  exact Fut.here h4 h1 _ .nil)⟩
theorem dk_cons {nm : Option Str} {kpos : Pos} {ma : ME} (ha : PE X e (tE X.K S G ma)) (hr : PK X kws (tL X.K S G mk)) : PK X (⟨nm, e, kpos⟩ :: kws) (tL X.K S G (aC ma mk)) := ⟨fun pos pins s σ H Q I h => (pk_cons ha hr).run pos pins s σ H Q I (by
  refine (tX.bind (rv := rV X.K S) h).mono ?_
  rintro x H1 ⟨v, A1, ρ1, e, h1, h2, h3, h4, h5⟩
  refine ⟨ρ1, A1, e, h1, h2, h3, (post.bind (rv := rL X.K S) h5).mono ?_⟩
  rintro y H2 ⟨v2, A2, ρ2, q1, q2, q3, q4, q5⟩
  exact Fut.here q5 q3 _ (.cons (h4.mono q1 q2) q4))⟩

/-! ### instances made -/
/-- a class: its number, what it makes -/
structure MakeF (X : Cx) (S : Sx) (G : Gx) (x : Str) (c n : Nat) (ks : List Str) (gT : List T → List T → List T) (fn : Fn) : Prop where
  ex : ∃ (k : Nat) (f : Addr) (fd : FuncData) (ps : List Str), Mk X.K (S.ι c) f ∧ FnG X.prog X.w X.K X.mg X.base k f fd ps (spM X.K S ps.length fn) ∧ Room (k + 1) X.A ∧ X.mg x = some (.ref (S.ι c)) ∧ BindM X.K S fd ps (n + 1) ks gT
  gd : X.A.guards = some []
  tk : L2N.Takes X G.W
def mkIns (c : Nat) (fn : Fn) (gT : List T → List T → List T) (vs zs : List T) (A : Hm) : R T := match fn (gT (.ref A.length :: vs) zs) (A ++ [.ins c []]) with
  | .ok .non A' => .ok (.ref A.length) A'
  | .ok _ _ => .bad
  | .err c fs A' => .err c fs A'
  | .bad => .bad
def eMake (c : Nat) (fn : Fn) (gT : List T → List T → List T) (l : ML) : ME := mbind l fun vs _ A => mkIns c fn gT vs [] A
def eMakeK (c : Nat) (fn : Fn) (gT : List T → List T → List T) (l k : ML) : ME := mbind l fun vs => mbind k fun zs _ A => mkIns c fn gT vs zs A
theorem mkIns_of {K : PySem.W.Frag} {W : WX} {ρ : List Addr} {A : Hm} {H : Hp} {vs zs : List T} {xs ys : List V} {c np : Nat} {σ : L2.St} {Q : VK} (hH : RelH K S ρ H A) (hL : RelL K S ρ H vs xs) (hZ : RelL K S ρ H zs ys) (h : post K S (rV K S) W ρ σ H Q (mkIns c fn gT vs zs A))
    (hrel : ∀ (ρ : List Addr) (H : Hp) (vs : List T) (xs : List V) (zs : List T) (ys : List V), RelL K S ρ H vs xs → RelL K S ρ H zs ys → vs.length = n + 1 → zs.length = ks.length → RelL K S ρ H (gT vs zs) (gV xs ys) ∧ (gV xs ys).length = np) (l1 : vs.length = n) (l2 : zs.length = ks.length) :
    ∀ x dx, H x = none → H dx = none → dx ≠ x → spM K S np fn (gV (.ref x :: xs) ys) (upd (upd H dx (.own x)) x (.ins (S.ι c) dx [])) (fun v H2 => v = .non ∧ Q (.ref x) H2) (WE W σ) := by
  intro x dx hx hdx hne
  have m1 : Mono H (upd H dx (.own x)) := Mono.new hdx
  have h1 : RelH K S ρ (upd H dx (.own x)) A := hH.side hdx
  have hx1 : upd H dx (.own x) x = none := by rw [upd_ne (Ne.symm hne)]; exact hx
  have m2 : Mono (upd H dx (.own x)) (upd (upd H dx (.own x)) x (.ins (S.ι c) dx [])) := Mono.new hx1
  have h2 : RelH K S (ρ ++ [x]) (upd (upd H dx (.own x)) x (.ins (S.ι c) dx [])) (A ++ [.ins c []]) := h1.new hx1 (.ins .nil)
  have pr : ρ <+: ρ ++ [x] := List.prefix_append _ _
  have rx : MP.RelV K S (ρ ++ [x]) (upd (upd H dx (.own x)) x (.ins (S.ι c) dx [])) (.ref A.length) (.ref x) := .ref (by rw [List.getElem?_append_right (by rw [hH.len]; exact Nat.le_refl _), ← hH.len]; simp)
  obtain ⟨w1, w2⟩ := hrel _ _ _ _ _ _ (.cons rx (hL.mono pr (m1.trans m2))) (hZ.mono pr (m1.trans m2)) (by rw [List.length_cons, l1]) l2
  refine ⟨_, _, _, w2, h2, w1, ?_⟩
  unfold mkIns at h
  cases q : fn (gT (.ref A.length :: vs) zs) (A ++ [.ins c []]) with
  | ok v A' =>
    rw [q] at h
    cases v with
    | non =>
      intro ρ' H' u1 u2 u3 y hy
      cases hy
      exact ⟨rfl, h ρ' H' (pr.trans u1) ((m1.trans m2).trans u2) u3 _ (rx.mono u1 u2)⟩
    | _ => exact h.elim
  | err c fs A' =>
    rw [q] at h
    exact fun ρ' H' u1 u2 u3 => h ρ' H' (pr.trans u1) ((m1.trans m2).trans u2) u3
  | bad => rw [q] at h; exact h.elim
variable {c : Nat}
theorem d_make (F : MakeF X S G x c n [] gT fn) (ha : PA X (e :: es) (tL X.K S G ml)) (hl : LenL ml n) (hg : Gl X x := by rfl) (hdb : (x == ("__debug__" : Str)) = false := by decide)
    (he : starEach (e :: es) X.env = (false, eval e X.env) :: starEach es X.env := by rfl) (hpl : (backTo pos (starEach es X.env)).any (·.1) = false := by rfl) :
    PE X (.Call (.Name x p) (e :: es) [] pos) (tE X.K S G (eMake c fn gT ml)) := by
  obtain ⟨⟨k, f, fd, ps, M, F1, hr, hm, ⟨g, gV, hb, hrel⟩⟩, gd, tk⟩ := F
  refine ⟨fun pins s σ H Q I h => ?_⟩
  refine wpAny_Call_Name_kw (ld_glob I hg hm ?_ hdb)
  refine PySem.W.callWith_K (h₀ := X.base) I.ok.mod.kin M.kp (thn (ha.run pos pins s σ H _ I (tX.bindL hl h)) fun us s1 hh => ?_) he hpl
  obtain ⟨vs, H1, I1, r, v, A1, ρ1, ev, q1, q2, q3, q4, q5, q6⟩ := hh
  exact ⟨I1.kIn, make_G (ws := []) (zs := []) M F1 hr gd hb tk I1 r .nil (by rw [← q4.length]; exact q5) rfl (mkIns_of (ks := []) q1 q4 .nil q6 hrel q5 rfl)⟩
theorem d_make0 (F : MakeF X S G x c 0 [] gT fn) (hg : Gl X x := by rfl) (hdb : (x == ("__debug__" : Str)) = false := by decide) : PE X (.Call (.Name x p) [] [] pos) (tE X.K S G (eMake c fn gT aN)) := by
  obtain ⟨⟨k, f, fd, ps, M, F1, hr, hm, ⟨g, gV, hb, hrel⟩⟩, gd, tk⟩ := F
  refine ⟨fun pins s σ H Q I h => ?_⟩
  refine wpAny_Call_Name_kw (ld_glob I hg hm ?_ hdb)
  obtain ⟨ρ, A, ev, q1, q2, q3, q4⟩ := h
  exact PySem.W.callWith_K0 I.kIn M.kp (make_G (us := []) (ws := []) (vs := []) (zs := []) M F1 hr gd hb tk I .nil .nil rfl rfl (mkIns_of (ks := []) q1 .nil .nil q4 hrel rfl rfl))
theorem d_makeK (F : MakeF X S G x c n ks gT fn) (ha : PA X (e :: es) (tL X.K S G ml)) (hl : LenL ml n) (hkw : PK X kws (tL X.K S G mk)) (hlk : LenL mk ks.length) (hall : (backToKw pos (keywordEach kws X.env)).all (·.1.isSome) = true := by rfl)
    (hks : (backToKw pos (keywordEach kws X.env)).filterMap (·.1) = ks := by rfl) (hg : Gl X x := by rfl) (hdb : (x == ("__debug__" : Str)) = false := by decide) (he : starEach (e :: es) X.env = (false, eval e X.env) :: starEach es X.env := by rfl)
    (hpl : ((backTo pos (starEach (e :: es) X.env)).any (·.1) || (backToKw pos (keywordEach kws X.env)).any (·.1.isNone)) = false := by rfl) :
    PE X (.Call (.Name x p) (e :: es) kws pos) (tE X.K S G (eMakeK c fn gT ml mk)) := by
  obtain ⟨⟨k, f, fd, ps, M, F1, hr, hm, ⟨g, gV, hb, hrel⟩⟩, gd, tk⟩ := F
  refine ⟨fun pins s σ H Q I h => ?_⟩
  refine wpAny_Call_Name_kw (ld_glob I hg hm ?_ hdb)
  refine PySem.W.callWith_KW (h₀ := X.base) I.ok.mod.kin M.kp hall (thn (ha.run pos pins s σ H _ I (tX.bindL hl h)) fun us s1 hh => ?_) hpl he
  obtain ⟨vs, H1, I1, r, v, A1, ρ1, ev, q1, q2, q3, q4, q5, q6⟩ := hh
  refine thn (hkw.run pos pins s1 σ H1 _ I1 ⟨ρ1, A1, ev, q1, q2, q3, post.bindE (rv := rL X.K S) q6⟩) fun ws s2 hh2 => ?_
  obtain ⟨zs, H2, I2, rz, z, A2, ρ2, u0, u1, u2, u3, u4, u5⟩ := hh2
  have lz := hlk _ _ _ _ u0
  refine ⟨I2.kIn, ?_⟩
  rw [hks]
  exact make_G M F1 hr gd hb tk I2 r rz (by rw [← q4.length]; exact q5) (by rw [← u4.length]; exact lz) (mkIns_of u3 (q4.mono u1 u2) u4 u5 hrel q5 lz)
theorem d_makeK0 (F : MakeF X S G x c 0 ks gT fn) (hkw : PK X kws (tL X.K S G mk)) (hlk : LenL mk ks.length) (hall : (backToKw pos (keywordEach kws X.env)).all (·.1.isSome) = true := by rfl)
    (hks : (backToKw pos (keywordEach kws X.env)).filterMap (·.1) = ks := by rfl) (hg : Gl X x := by rfl) (hdb : (x == ("__debug__" : Str)) = false := by decide)
    (hpl : ((backTo pos (starEach [] X.env)).any (·.1) || (backToKw pos (keywordEach kws X.env)).any (·.1.isNone)) = false := by rfl) :
    PE X (.Call (.Name x p) [] kws pos) (tE X.K S G (eMakeK c fn gT aN mk)) := by
  obtain ⟨⟨k, f, fd, ps, M, F1, hr, hm, ⟨g, gV, hb, hrel⟩⟩, gd, tk⟩ := F
  refine ⟨fun pins s σ H Q I h => ?_⟩
  refine wpAny_Call_Name_kw (ld_glob I hg hm ?_ hdb)
  refine PySem.W.callWith_KW0 (h₀ := X.base) I.ok.mod.kin M.kp hall ?_ hpl
  obtain ⟨ρ1, A1, ev, q1, q2, q3, q6⟩ := h
  refine thn (hkw.run pos pins s σ H _ I ⟨ρ1, A1, ev, q1, q2, q3, post.bindE (rv := rL X.K S) (r := mk ev A1) q6⟩) fun ws s2 hh2 => ?_
  obtain ⟨zs, H2, I2, rz, z, A2, ρ2, u0, u1, u2, u3, u4, u5⟩ := hh2
  have lz := hlk _ _ _ _ u0
  refine ⟨I2.kIn, ?_⟩
  rw [hks]
  exact make_G (us := []) (vs := []) M F1 hr gd hb tk I2 .nil rz rfl (by rw [← u4.length]; exact lz) (mkIns_of u3 .nil u4 u5 hrel rfl lz)
end
end MP
end S6
section S7
set_option Elab.async false
set_option linter.all false
set_option maxRecDepth 100000
/-! MPg: operations by values: sums, products, comparisons, subscripts, slices. -/
namespace MP
open PySem PySem.Spec PyProof.Rows L2

section
variable {K : PySem.W.Frag} {S : Sx} {ρ : List Addr} {H : Hp} {A : Hm}
/-- a list of the run, as it stands -/
def lstOf (A : Hm) (n : Nat) : Option (List T) := match A[n]? with | some (.lst l) => some l | some (.flst l) => some l | _ => none
theorem lstOf_ok (hH : RelH K S ρ H A) {n : Nat} {p : Addr} {l : List T} (hr : ρ[n]? = some p) (h : lstOf A n = some l) : ∃ xs, SqL K H p xs ∧ RelL K S ρ H l xs := by
  unfold lstOf at h
  split at h
  · rename_i l' q; cases h; exact SqL_ref hH hr q (.inl rfl)
  · rename_i l' q; cases h; exact SqL_ref hH hr q (.inr rfl)
  · cases h
/-- a list that may be changed -/
theorem mut_ok (hH : RelH K S ρ H A) {n : Nat} {p : Addr} {l : List T} (hr : ρ[n]? = some p) (h : A[n]? = some (.lst l)) : ∃ xs, H p = some (.lst xs) ∧ RelL K S ρ H l xs := by
  obtain ⟨o, ho, ro⟩ := hH.at_ n _ p h hr
  cases ro with | lst r => exact ⟨_, ho, r⟩
/-- a new list's reading -/
theorem newL_of {W : WX} {σ : L2.St} {Q : VK} {l : List T} {xs : List V} (hH : RelH K S ρ H A) (r : RelL K S ρ H l xs) (h : post K S (rV K S) W ρ σ H Q (.ok (.ref A.length) (A ++ [.lst l]))) : ∀ p, H p = none → Q (.ref p) (upd H p (.lst xs)) := fun p hp => by
  have m : Mono H (upd H p (.lst xs)) := Mono.new hp
  have pr : ρ <+: ρ ++ [p] := List.prefix_append _ _
  exact h _ _ pr m (hH.new hp (.lst (r.mono pr m))) _ (.ref (by rw [List.getElem?_append_right (by rw [hH.len]; exact Nat.le_refl _), ← hH.len]; simp))
theorem newT_of {W : WX} {σ : L2.St} {Q : VK} {l : List T} {xs : List V} (hH : RelH K S ρ H A) (r : RelL K S ρ H l xs) (h : post K S (rV K S) W ρ σ H Q (.ok (.tup l) A)) : ∀ p, H p = none → Q (.ref p) (upd H p (.tup xs)) := fun p hp => by
  have m : Mono H (upd H p (.tup xs)) := Mono.new hp
  exact h ρ _ List.prefix_rfl m (hH.side hp) _ (.tup (SqT.of upd_same) (r.mono List.prefix_rfl m))

/-! ### + - * // % ** -/
def fAdd : T → T → Hm → R T := fun x y A => match x, y with
  | .int i, .int j => .ok (.int (i + j)) A
  | .str a, .str b => if a.length + b.length ≤ sizeLine then .ok (.str (a ++ b)) A else .bad
  | .tup a, .tup b => if a.length + b.length ≤ sizeLine then .ok (.tup (a ++ b)) A else .bad
  | .ref m, .ref n => match A[m]?, A[n]? with
    | some (.lst a), some (.lst b) => if a.length + b.length ≤ sizeLine then .ok (.ref A.length) (A ++ [.lst (a ++ b)]) else .bad
    | _, _ => .bad
  | _, _ => .bad
def rAddM (K : PySem.W.Frag) : R2 := fun x y H Q => rI0 (fun i j => .int (i + j)) x y H Q ∨ (∃ i j, x = .str i ∧ y = .str j ∧ i.length + j.length ≤ sizeLine ∧ Q (.str (i ++ j)) H) ∨ rCatA K x y H Q ∨ rCat x y H Q
theorem o_add {X : Cx} : OpR X (binaryOp .Add) (rAddM X.K) := OpR.or op_add (OpR.or op_add_str (OpR.or op_catA op_cat))
theorem m_add : OpM K S fAdd (rAddM K) := by
  intro W ρ A H x y x' y' σ Q hH rx ry h
  unfold fAdd at h
  split at h
  · cases rx; cases ry; exact .inl ⟨_, _, rfl, rfl, Fut.here h hH _ (.int _)⟩
  · split at h
    · rename_i z; cases rx; cases ry; exact .inr (.inl ⟨_, _, rfl, rfl, z, Fut.here h hH _ (.str _)⟩)
    · exact h.elim
  · split at h
    · rename_i a b z
      cases rx with
      | @tup _ p xs hp rl =>
        cases ry with
        | @tup _ q ys hq rm =>
          refine .inr (.inr (.inl ⟨p, q, xs, ys, rfl, rfl, hp, hq, by rw [← rl.length, ← rm.length]; exact z, fun e => ?_, fun _ e => ?_, fun _ _ => newT_of hH (rl.append rm) h⟩))
          · subst e
            cases rl
            exact Fut.here h hH _ (.tup hq rm)
          · subst e
            cases rm
            rw [List.append_nil] at h
            exact Fut.here h hH _ (.tup hp rl)
    · exact h.elim
  · split at h
    · rename_i q1 q2
      split at h
      · rename_i z
        cases rx with
        | ref h1 =>
          cases ry with
          | ref h2 =>
            obtain ⟨xs, e1, r1⟩ := mut_ok hH h1 q1
            obtain ⟨ys, e2, r2⟩ := mut_ok hH h2 q2
            exact .inr (.inr (.inr ⟨_, _, xs, ys, rfl, rfl, e1, e2, by rw [← r1.length, ← r2.length]; exact z, newL_of hH (r1.append r2) h⟩))
      · exact h.elim
    · exact h.elim
  · exact h.elim
def fI (g : Int → Int → Int) (c : Int → Int → Bool) : T → T → Hm → R T := fun x y A => match x, y with
  | .int i, .int j => if c i j = true then .ok (.int (g i j)) A else .bad
  | _, _ => .bad
theorem m_I {g : Int → Int → Int} {c : Int → Int → Bool} {C : Int → Int → Prop} (hc : ∀ i j, c i j = true → C i j) : OpM K S (fI g c) (rI C fun i j => .int (g i j)) := by
  intro W ρ A H x y x' y' σ Q hH rx ry h
  unfold fI at h
  split at h
  · split at h
    · rename_i z; cases rx; cases ry; exact ⟨_, _, rfl, rfl, hc _ _ z, Fut.here h hH _ (.int _)⟩
    · exact h.elim
  · exact h.elim
def fSub : T → T → Hm → R T := fun x y A => match x, y with
  | .int i, .int j => .ok (.int (i - j)) A
  | _, _ => .bad
theorem m_sub : OpM K S fSub (rI0 fun i j => .int (i - j)) := by
  intro W ρ A H x y x' y' σ Q hH rx ry h
  unfold fSub at h
  split at h
  · cases rx; cases ry; exact ⟨_, _, rfl, rfl, Fut.here h hH _ (.int _)⟩
  · exact h.elim
/-- a product of two numbers, or a list so many times -/
def fMul : T → T → Hm → R T := fun x y A => match x, y with
  | .int i, .int j => if i.natAbs.log2 + j.natAbs.log2 < 1000000 then .ok (.int (i * j)) A else .bad
  | .ref n, .int k => match A[n]? with
    | some (.lst l) => if -(2 ^ 63) ≤ k ∧ k < 2 ^ 63 ∧ l.length * k.toNat ≤ sizeLine then .ok (.ref A.length) (A ++ [.lst (List.replicate k.toNat l).flatten]) else .bad
    | _ => .bad
  | _, _ => .bad
def rMulM : R2 := fun x y H Q => rI CMulW (fun i j => .int (i * j)) x y H Q ∨ rRep x y H Q
theorem o_mul {X : Cx} : OpR X (binaryOp .Mult) rMulM := OpR.or op_mulW op_rep
theorem relL_rep {l : List T} {xs : List V} (r : RelL K S ρ H l xs) : ∀ n : Nat, RelL K S ρ H (List.replicate n l).flatten (List.replicate n xs).flatten
  | 0 => .nil
  | n + 1 => by rw [List.replicate_succ, List.replicate_succ, List.flatten_cons, List.flatten_cons]; exact r.append (relL_rep r n)
theorem m_mul : OpM K S fMul rMulM := by
  intro W ρ A H x y x' y' σ Q hH rx ry h
  unfold fMul at h
  split at h
  · split at h
    · rename_i z; cases rx; cases ry; exact .inl ⟨_, _, rfl, rfl, z, Fut.here h hH _ (.int _)⟩
    · exact h.elim
  · split at h
    · rename_i q
      split at h
      · rename_i z
        cases rx with
        | ref h1 =>
          cases ry
          obtain ⟨xs, e1, r1⟩ := mut_ok hH h1 q
          exact .inr ⟨_, _, xs, rfl, rfl, e1, z.1, z.2.1, by rw [← r1.length]; exact z.2.2, newL_of hH (relL_rep r1 _) h⟩
      · exact h.elim
    · exact h.elim
  · exact h.elim
def fDiv : T → T → Hm → R T := fI (fun i j => i.fdiv j) fun i j => decide (j ≠ 0 ∧ j.natAbs < 1073741824)
theorem m_div : OpM K S fDiv (rI CDivN fun i j => .int (i.fdiv j)) := m_I fun i j h => (decide_eq_true_eq.mp h : _ ∧ _)
def fMod : T → T → Hm → R T := fI (fun i j => i.fmod j) fun i j => decide (j ≠ 0)
theorem m_mod : OpM K S fMod (rI (fun _ j => j ≠ 0) fun i j => .int (i.fmod j)) := m_I fun i j h => of_decide_eq_true h
def fPow : T → T → Hm → R T := fI (fun i j => i ^ j.toNat) fun i j => decide (0 ≤ j ∧ j ≤ 1000000 ∧ i.natAbs < 2 ^ 64)
theorem m_pow : OpM K S fPow (rI CPow fun i j => .int (i ^ j.toNat)) := m_I fun i j h => (decide_eq_true_eq.mp h : _ ∧ _ ∧ _)
def fNeg : T → Hm → R T := fun x A => match x with | .int i => .ok (.int (-i)) A | _ => .bad
def eNeg (a : ME) : ME := mbind a fun v _ A => fNeg v A
theorem d_neg {X : Cx} {G : Gx} {a : Expr} {ma : ME} {pos : Pos} (ha : PE X a (tE X.K S G ma)) : PE X (.UnaryOp .USub a pos) (tE X.K S G (eNeg ma)) := by
  refine PE.imp (pe_un un_neg ha) fun σ H Q h => ?_
  refine (tX.bind (rv := rV X.K S) h).mono ?_
  rintro x H1 ⟨v, A1, ρ1, e, h1, h2, h3, h4, h5⟩
  simp only [fNeg] at h5
  split at h5
  · cases h4; exact ⟨_, rfl, Fut.here h5 h1 _ (.int _)⟩
  · exact h5.elim

/-! ### comparisons of numbers -/
def fCmp (g : Int → Int → Bool) : T → T → Hm → R T := fun x y A => match x, y with
  | .int i, .int j => .ok (.bl (g i j)) A
  | _, _ => .bad
theorem m_cmp {g : Int → Int → Bool} : OpM K S (fCmp g) (rI0 fun i j => .bl (g i j)) := by
  intro W ρ A H x y x' y' σ Q hH rx ry h
  unfold fCmp at h
  split at h
  · cases rx; cases ry; exact ⟨_, _, rfl, rfl, Fut.here h hH _ (.bl _)⟩
  · exact h.elim
def fLt : T → T → Hm → R T := fCmp fun i j => decide (i < j)
def fLe : T → T → Hm → R T := fCmp fun i j => decide (i ≤ j)
def fGt : T → T → Hm → R T := fCmp fun i j => decide (j < i)
def fGe : T → T → Hm → R T := fCmp fun i j => decide (j ≤ i)
theorem m_lt : OpM K S fLt (rI0 fun i j => .bl (decide (i < j))) := m_cmp
theorem m_le : OpM K S fLe (rI0 fun i j => .bl (decide (i ≤ j))) := m_cmp
theorem m_gt : OpM K S fGt (rI0 fun i j => .bl (decide (j < i))) := m_cmp
theorem m_ge : OpM K S fGe (rI0 fun i j => .bl (decide (j ≤ i))) := m_cmp

/-! ### data: None, True, numbers, texts, lists, tuples, nested -/
def optAll (f : T → Option PyData) : List T → Option (List PyData)
  | [] => some []
  | x :: r => match f x, optAll f r with | some a, some b => some (a :: b) | _, _ => none
def dat : Nat → Hm → T → Option PyData
  | 0, _, _ => none
  | k + 1, A, t => match t with
    | .non => some .none
    | .bl b => some (.bool b)
    | .int i => some (.int i)
    | .str s => some (.str s)
    | .tup l => (optAll (dat k A) l).map .tuple
    | .ref n => match lstOf A n with
      | some l => (optAll (dat k A) l).map .list
      | none => none
    | _ => none
theorem optAll_ok {f : T → Option PyData} {P : V → PyData → Prop} (hf : ∀ t x d, MP.RelV K S ρ H t x → f t = some d → Dp K H x d) : ∀ {l : List T} {xs : List V} {ds : List PyData}, RelL K S ρ H l xs → optAll f l = some ds → DpAll K H xs ds
  | _, _, _, .nil, e => by cases e; exact .nil
  | _, _, _, .cons (t := t) (l := l) a b, e => by
    simp only [optAll] at e
    split at e
    · rename_i d ds q1 q2
      cases e
      exact .cons (hf _ _ _ a q1) (optAll_ok (P := P) hf b q2)
    · cases e
theorem dat_ok (hH : RelH K S ρ H A) : ∀ (k : Nat) {t : T} {x : V} {d : PyData}, MP.RelV K S ρ H t x → dat k A t = some d → Dp K H x d
  | 0, _, _, _, _, e => by cases e
  | k + 1, t, x, d, r, e => by
    unfold dat at e
    cases r with
    | non => cases e; exact .non
    | bl b => cases e; exact .bl b
    | int i => cases e; exact .int i
    | str s => cases e; exact .str s
    | tup hp rl =>
      simp only [Option.map_eq_some_iff] at e
      obtain ⟨ds, q, rfl⟩ := e
      exact .tup hp (optAll_ok (P := fun _ _ => True) (fun t x d => dat_ok hH k) rl q)
    | ref hr =>
      simp only at e
      split at e
      · rename_i l q
        simp only [Option.map_eq_some_iff] at e
        obtain ⟨ds, q2, rfl⟩ := e
        obtain ⟨xs, e1, r1⟩ := lstOf_ok hH hr q
        exact .lst e1 (optAll_ok (P := fun _ _ => True) (fun t x d => dat_ok hH k) r1 q2)
      · cases e
    | _ => cases e
/-- == of data -/
def fEqD : T → T → Hm → R T := fun x y A => match dat 64 A x, dat 64 A y with
  | some d, some e => if SeqAt.shaped d = true ∧ SeqAt.shaped e = true then .ok (.bl (PyData.eqv d e)) A else .bad
  | _, _ => .bad
def fNeD : T → T → Hm → R T := fun x y A => match dat 64 A x, dat 64 A y with
  | some d, some e => if SeqAt.shaped d = true ∧ SeqAt.shaped e = true then .ok (.bl (!PyData.eqv d e)) A else .bad
  | _, _ => .bad
theorem m_eqD : OpM K S fEqD (rEqD K) := by
  intro W ρ A H x y x' y' σ Q hH rx ry h
  unfold fEqD at h
  split at h
  · rename_i d e q1 q2
    split at h
    · rename_i z; exact ⟨d, e, dat_ok hH 64 rx q1, dat_ok hH 64 ry q2, z.1, z.2, Fut.here h hH _ (.bl _)⟩
    · exact h.elim
  · exact h.elim
theorem m_neD : OpM K S fNeD (rNeD K) := by
  intro W ρ A H x y x' y' σ Q hH rx ry h
  unfold fNeD at h
  split at h
  · rename_i d e q1 q2
    split at h
    · rename_i z; exact ⟨d, e, dat_ok hH 64 rx q1, dat_ok hH 64 ry q2, z.1, z.2, Fut.here h hH _ (.bl _)⟩
    · exact h.elim
  · exact h.elim

/-! ### in, is None -/
def flatT : T → Bool
  | .non => true | .bl _ => true | .int _ => true | .str _ => true
  | _ => false
def eqT : T → T → Bool
  | .non, .non => true
  | .bl a, .bl b => a == b
  | .bl a, .int b => (if a then 1 else 0) == b
  | .int a, .bl b => a == (if b then 1 else 0)
  | .int a, .int b => a == b
  | .str a, .str b => a == b
  | _, _ => false
theorem flat_ok {t : T} {x : V} (r : MP.RelV K S ρ H t x) (h : flatT t = true) : flatV x = true := by cases r <;> first | rfl | cases h
theorem eqT_ok {t u : T} {x y : V} (r : MP.RelV K S ρ H t x) (q : MP.RelV K S ρ H u y) (h : flatT t = true) (g : flatT u = true) : eqV x y = eqT t u := by
  cases r <;> first | (cases h; done) | (cases q <;> first | (cases g; done) | rfl)
theorem flatAll_ok : ∀ {l : List T} {xs : List V}, RelL K S ρ H l xs → l.all flatT = true → xs.all flatV = true
  | _, _, .nil, _ => rfl
  | _, _, .cons a b, h => by
    rw [List.all_cons, Bool.and_eq_true] at h ⊢
    exact ⟨flat_ok a h.1, flatAll_ok b h.2⟩
theorem anyT_ok {t : T} {x : V} (r : MP.RelV K S ρ H t x) (h : flatT t = true) : ∀ {l : List T} {xs : List V}, RelL K S ρ H l xs → l.all flatT = true → (xs.any fun y => eqV y x) = l.any fun y => eqT y t
  | _, _, .nil, _ => rfl
  | _, _, .cons a b, g => by
    rw [List.all_cons, Bool.and_eq_true] at g
    rw [List.any_cons, List.any_cons, anyT_ok r h b g.2, eqT_ok a r g.1 h]
/-- x in a list or tuple of flat things; a text in a text -/
def inT (x y : T) (A : Hm) : Option Bool := match x, y with
  | .str i, .str j => some (!(Builtin.Str.occurrences j i 0 j.length 1).isEmpty)
  | x, .tup l => if flatT x = true ∧ l.all flatT = true then some (l.any fun y => eqT y x) else none
  | x, .ref n => match lstOf A n with
    | some l => if flatT x = true ∧ l.all flatT = true then some (l.any fun y => eqT y x) else none
    | none => none
  | _, _ => none
def fIn : T → T → Hm → R T := fun x y A => match inT x y A with | some b => .ok (.bl b) A | none => .bad
def fNotIn : T → T → Hm → R T := fun x y A => match inT x y A with | some b => .ok (.bl (!b)) A | none => .bad
def rInM (K : PySem.W.Frag) : R2 := fun x y H Q => (∃ i j, x = .str i ∧ y = .str j ∧ Q (.bl (!(Builtin.Str.occurrences j i 0 j.length 1).isEmpty)) H) ∨ rIn K false x y H Q
def rNotInM (K : PySem.W.Frag) : R2 := fun x y H Q => (∃ i j, x = .str i ∧ y = .str j ∧ Q (.bl (!(!(Builtin.Str.occurrences j i 0 j.length 1).isEmpty))) H) ∨ rIn K true x y H Q
theorem o_in {X : Cx} : OpR X (compareOp .In) (rInM X.K) := OpR.or op_in_str op_in_seq
theorem o_notin {X : Cx} : OpR X (compareOp .NotIn) (rNotInM X.K) := OpR.or op_notin_str op_notIn_seq
theorem inT_ok (hH : RelH K S ρ H A) {x y : T} {x' y' : V} (rx : MP.RelV K S ρ H x x') (ry : MP.RelV K S ρ H y y') {b : Bool} (h : inT x y A = some b) :
    (∃ i j, x' = .str i ∧ y' = .str j ∧ b = (!(Builtin.Str.occurrences j i 0 j.length 1).isEmpty)) ∨ ∃ p xs, y' = .ref p ∧ (SqL K H p xs ∨ SqT K H p xs) ∧ flatV x' = true ∧ xs.all flatV = true ∧ inV x' xs = b := by
  unfold inT at h
  split at h
  · cases rx; cases ry; cases h; exact .inl ⟨_, _, rfl, rfl, rfl⟩
  · split at h
    · rename_i z
      cases h
      cases ry with
      | tup hp rl => exact .inr ⟨_, _, rfl, .inr hp, flat_ok rx z.1, flatAll_ok rl z.2, anyT_ok rx z.1 rl z.2⟩
    · cases h
  · split at h
    · rename_i l q
      split at h
      · rename_i z
        cases h
        cases ry with
        | ref hr =>
          obtain ⟨xs, e1, r1⟩ := lstOf_ok hH hr q
          exact .inr ⟨_, _, rfl, .inl e1, flat_ok rx z.1, flatAll_ok r1 z.2, anyT_ok rx z.1 r1 z.2⟩
      · cases h
    · cases h
  · cases h
theorem m_in : OpM K S fIn (rInM K) := by
  intro W ρ A H x y x' y' σ Q hH rx ry h
  unfold fIn at h
  split at h
  · rename_i b q
    rcases inT_ok hH rx ry q with ⟨i, j, e1, e2, e3⟩ | ⟨p, xs, e1, e2, e3, e4, e5⟩
    · exact .inl ⟨i, j, e1, e2, by rw [← e3]; exact Fut.here h hH _ (.bl _)⟩
    · exact .inr ⟨p, xs, e1, e2, e3, e4, by simp only [Bool.false_eq_true, if_false]; rw [e5]; exact Fut.here h hH _ (.bl _)⟩
  · exact h.elim
theorem m_notin : OpM K S fNotIn (rNotInM K) := by
  intro W ρ A H x y x' y' σ Q hH rx ry h
  unfold fNotIn at h
  split at h
  · rename_i b q
    rcases inT_ok hH rx ry q with ⟨i, j, e1, e2, e3⟩ | ⟨p, xs, e1, e2, e3, e4, e5⟩
    · exact .inl ⟨i, j, e1, e2, by rw [← e3]; exact Fut.here h hH _ (.bl _)⟩
    · exact .inr ⟨p, xs, e1, e2, e3, e4, by simp only [if_true]; rw [e5]; exact Fut.here h hH _ (.bl _)⟩
  · exact h.elim
def isNon : T → Bool | .non => true | _ => false
theorem isNon_ok {t : T} {x : V} (r : MP.RelV K S ρ H t x) : decide (x = .non) = isNon t := by cases r <;> simp [isNon]
def fIsN : T → T → Hm → R T := fun x y A => match y with | .non => .ok (.bl (isNon x)) A | _ => .bad
def fNotN : T → T → Hm → R T := fun x y A => match y with | .non => .ok (.bl (!isNon x)) A | _ => .bad
theorem m_isN : OpM K S fIsN (fun x y H Q => y = .non ∧ Q (.bl (decide (x = .non))) H) := by
  intro W ρ A H x y x' y' σ Q hH rx ry h
  unfold fIsN at h
  split at h
  · cases ry; exact ⟨rfl, by rw [isNon_ok rx]; exact Fut.here h hH _ (.bl _)⟩
  · exact h.elim
theorem m_notN : OpM K S fNotN (fun x y H Q => y = .non ∧ Q (.bl (!decide (x = .non))) H) := by
  intro W ρ A H x y x' y' σ Q hH rx ry h
  unfold fNotN at h
  split at h
  · cases ry; exact ⟨rfl, by rw [isNon_ok rx]; exact Fut.here h hH _ (.bl _)⟩
  · exact h.elim

/-! ### subscripts, slices -/
def atT (l : List T) (i : Int) : Option T := (ixN l.length i).bind fun j => l[j]?
theorem atT_ok {l : List T} {xs : List V} (r : RelL K S ρ H l xs) {i : Int} {t : T} (h : atT l i = some t) : ∃ x, atI xs i = some x ∧ MP.RelV K S ρ H t x := by
  unfold atT at h
  unfold atI
  rw [← r.length]
  cases q : ixN l.length i with
  | none => rw [q] at h; cases h
  | some j => rw [q] at h; exact r.get h
def fIx : T → T → Hm → R T := fun x y A => match x, y with
  | .tup l, .int i => match atT l i with | some t => .ok t A | none => .bad
  | .ref n, .int i => match lstOf A n with
    | some l => match atT l i with | some t => .ok t A | none => .bad
    | none => .bad
  | .str z, .int i => if z.length ≤ sizeLine then match (ixN z.cps.toList.length i).bind fun j => z.cps.toList[j]? with | some c => .ok (.str ⟨#[c]⟩) A | none => .bad else .bad
  | _, _ => .bad
theorem m_ix : OpM K S fIx (rIx K) := by
  intro W ρ A H x y x' y' σ Q hH rx ry h
  unfold fIx at h
  split at h
  · split at h
    · rename_i q
      cases ry
      cases rx with
      | tup hp rl =>
        obtain ⟨x, e, rx⟩ := atT_ok rl q
        exact .inr (.inl ⟨_, _, _, x, rfl, rfl, hp, e, Fut.here h hH _ rx⟩)
    · exact h.elim
  · split at h
    · rename_i q
      split at h
      · rename_i q2
        cases ry
        cases rx with
        | ref hr =>
          obtain ⟨xs, e1, r1⟩ := lstOf_ok hH hr q
          obtain ⟨x, e, rx⟩ := atT_ok r1 q2
          exact .inl ⟨_, _, _, x, rfl, rfl, e1, e, Fut.here h hH _ rx⟩
      · exact h.elim
    · exact h.elim
  · split at h
    · rename_i z
      split at h
      · rename_i c q
        cases ry; cases rx
        exact .inr (.inr ⟨_, _, c, rfl, rfl, z, q, Fut.here h hH _ (.str _)⟩)
      · exact h.elim
    · exact h.elim
  · exact h.elim
theorem d_ix {X : Cx} {G : Gx} {a b : Expr} {ma mb : ME} {pos : Pos} (ha : PE X a (tE X.K S G ma)) (hb : PE X b (tE X.K S G mb)) (hs : PlainIx b := by exact fun _ _ => rfl) : PE X (.Subscript a b pos) (tE X.K S G (eBin fIx ma mb)) := PE.imp (pe_ix ix_seq ha hb hs) (tOp_of m_ix)
abbrev MO := Env' → Hm → R (Option Int)
def oN : MO := fun _ A => .ok none A
def oS (m : ME) : MO := mbind m fun v _ A => match v with | .int i => .ok (some i) A | _ => .bad
abbrev tO' (K : PySem.W.Frag) (S : Sx) (G : Gx) (m : MO) : L2.St → Hp → (Option Int → Hp → Prop) → Prop := tX K S (fun _ _ (a b : Option Int) => a = b) G m
theorem dp_none {X : Cx} {G : Gx} : PO X none (tO' X.K S G oN) := ⟨fun pins s σ H Q I h => po_none.run pins s σ H Q I (by
  obtain ⟨ρ, A, e, h1, h2, h3, h4⟩ := h
  exact Fut.here h4 h1 _ rfl)⟩
theorem dp_some {X : Cx} {G : Gx} {e : Expr} {m : ME} (he : PE X e (tE X.K S G m)) : PO X (some e) (tO' X.K S G (oS m)) := ⟨fun pins s σ H Q I h => (po_some he).run pins s σ H Q I (by
  refine (tX.bind (rv := rV X.K S) h).mono ?_
  rintro x H1 ⟨v, A1, ρ1, e, h1, h2, h3, h4, h5⟩
  try dsimp only at h5
  split at h5
  · cases h4; exact ⟨_, rfl, Fut.here h5 h1 _ rfl⟩
  · exact h5.elim)⟩
def cutL {α : Type} (l : List α) (lo hi : Option Int) : List α := (l.drop (HT.sIx l.length 0 lo)).take (HT.sIx l.length l.length hi - HT.sIx l.length 0 lo)
theorem cutL_ok {l : List T} {xs : List V} (r : RelL K S ρ H l xs) (lo hi : Option Int) : RelL K S ρ H (cutL l lo hi) (cutV xs lo hi) := by
  unfold cutL cutV
  rw [r.length]
  exact (r.drop _).take _
/-- a slice of a list, a tuple, a text -/
def fSl (x : T) (lo hi : Option Int) (A : Hm) : R T := match x with
  | .tup l => .ok (.tup (cutL l lo hi)) A
  | .ref n => match lstOf A n with
    | some l => .ok (.ref A.length) (A ++ [.lst (cutL l lo hi)])
    | none => .bad
  | _ => .bad
def eSl (a : ME) (lo hi : MO) : ME := mbind a fun x => mbind lo fun l => mbind hi fun h _ A => fSl x l h A
def rSlM (K : PySem.W.Frag) : V → Option Int → Option Int → Hp → VK → Prop := fun x lo hi H Q => rSlL K x lo hi H Q ∨ rSlA K x lo hi H Q
theorem d_sl {X : Cx} {G : Gx} {e : Expr} {lo hi : Option Expr} {ma : ME} {ml mh : MO} {p2 pos : Pos} (he : PE X e (tE X.K S G ma)) (hl : PO X lo (tO' X.K S G ml)) (hu : PO X hi (tO' X.K S G mh)) : PE X (.Subscript e (.Slice lo hi none p2) pos) (tE X.K S G (eSl ma ml mh)) := by
  refine PE.imp (pe_slice (SlR.or sl_list sl_tupA) he hl hu) fun σ H Q h => ?_
  refine (tX.bind (rv := rV X.K S) h).mono ?_
  rintro x H1 ⟨v, A1, ρ1, e, h1, h2, h3, h4, h5⟩
  refine ⟨ρ1, A1, e, h1, h2, h3, (post.bind (rv := fun _ _ (a b : Option Int) => a = b) h5).mono ?_⟩
  rintro l H2 ⟨l', A2, ρ2, q1, q2, q3, rfl, q5⟩
  refine ⟨ρ2, A2, e, q3, h2.mono q1 q2, G.mono q1 q2 h3, (post.bind (rv := fun _ _ (a b : Option Int) => a = b) q5).mono ?_⟩
  rintro u H3 ⟨u', A3, ρ3, u1, u2, u3, rfl, u5⟩
  have rx := (h4.mono q1 q2).mono u1 u2
  unfold fSl at u5
  dsimp only at u5
  split at u5
  · cases rx with
    | @tup _ p xs hp rl =>
      refine .inr ⟨p, xs, rfl, hp, fun z => ?_, fun z => newT_of u3 (cutL_ok rl _ _) u5⟩
      have e1 : cutV xs l' u' = xs := by
        unfold cutV
        rw [z.1, z.2]
        simp
      have rl' := cutL_ok rl l' u'
      rw [e1] at rl'
      exact Fut.here u5 u3 _ (.tup hp rl')
  · split at u5
    · rename_i q
      cases rx with
      | ref hr =>
        obtain ⟨xs, e1, r1⟩ := lstOf_ok u3 hr q
        exact .inl ⟨_, xs, rfl, e1, newL_of u3 (cutL_ok r1 _ _) u5⟩
    · exact u5.elim
  · exact u5.elim
end
end MP
end S7
section S8
set_option Elab.async false
set_option linter.all false
set_option maxRecDepth 100000
/-! MPh: built-ins by name, f-strings, methods of built-in types. -/
namespace MP
open PySem PySem.Spec PyProof.Rows L2

/-- a call by values -/
def CallM (K : PySem.W.Frag) (S : Sx) (f : List T → Hm → R T) (r : List V → Hp → VK → Prop) : Prop :=
  ∀ (W : WX) (ρ : List Addr) (A : Hm) (H : Hp) (l : List T) (xs : List V) (σ : L2.St) (Q : VK), RelH K S ρ H A → RelL K S ρ H l xs → post K S (rV K S) W ρ σ H Q (f l A) → r xs H Q
def eB (f : List T → Hm → R T) (l : ML) : ME := mbind l fun vs _ A => f vs A
section
variable {X : Cx} {S : Sx} {G : Gx} {x : Str} {p pos : Pos} {e : Expr} {es : List Expr} {ml : ML} {id Ty' : String} {r : List V → Hp → VK → Prop} {f : List T → Hm → R T}
theorem tCB_of {K : PySem.W.Frag} (hf : CallM K S f r) : ∀ σ H Q, tE K S G (eB f ml) σ H Q → tCB r (tL K S G ml) σ H Q := fun σ H Q h => by
  refine (tX.bind (rv := rL K S) h).mono ?_
  rintro x H1 ⟨v, A1, ρ1, e, h1, h2, h3, h4, h5⟩
  exact hf _ _ _ _ _ _ _ _ h1 h4 h5
theorem d_b (hc : CallR X (.builtin id) r) (hf : CallM X.K S f r) (hm : X.mg x = none) (ha : PA X (e :: es) (tL X.K S G ml)) (hg : Gl X x := by rfl) (hv : bootBuiltins x = some (.builtin id) := by decide +kernel) (hn : x ≠ "__name__" := by decide) (hdb : (x == ("__debug__" : Str)) = false := by decide)
    (he : starEach (e :: es) X.env = (false, eval e X.env) :: starEach es X.env := by rfl) (hpl : (backTo pos (starEach es X.env)).any (·.1) = false := by rfl) : PE X (.Call (.Name x p) (e :: es) [] pos) (tE X.K S G (eB f ml)) :=
  PE.imp (pe_callB hc hg hm hv ha hn hdb he hpl) (tCB_of hf)
theorem d_ty (hc : CallR X (.type Ty') r) (hf : CallM X.K S f r) (hm : X.mg x = none) (ha : PA X (e :: es) (tL X.K S G ml)) (hg : Gl X x := by rfl) (hv : bootBuiltins x = some (.type Ty') := by decide +kernel) (hn : x ≠ "__name__" := by decide) (hdb : (x == ("__debug__" : Str)) = false := by decide)
    (he : starEach (e :: es) X.env = (false, eval e X.env) :: starEach es X.env := by rfl) (hpl : (backTo pos (starEach es X.env)).any (·.1) = false := by rfl) : PE X (.Call (.Name x p) (e :: es) [] pos) (tE X.K S G (eB f ml)) :=
  PE.imp (pe_callTy hc hg hm hv ha hn hdb he hpl) (tCB_of hf)
/-- a built-in class as a value -/
theorem d_bty {n : String} (hm : X.mg x = none) (hg : Gl X x := by rfl) (hv : bootBuiltins x = some (.type n) := by decide +kernel) (hn : x ≠ "__name__" := by decide) (hdb : (x == ("__debug__" : Str)) = false := by decide) : PE X (.Name x pos) (tE X.K S G (eC (.ty n))) :=
  PE.imp (pe_bltn (v := .ty n) hg hm hv rfl hn hdb) (tC_of fun _ _ => .ty n)
/-- a class or a def of the text as a value -/
theorem d_obj {i : Nat} (hm : X.mg x = some (.ref (S.ι i))) (hg : Gl X x := by rfl) (hd : (x == ("__debug__" : Str)) = false := by decide) : PE X (.Name x pos) (tE X.K S G (eC (.obj i))) :=
  PE.imp (pe_glob (v := .ref (S.ι i)) hg hm rfl hd) (tC_of fun _ _ => .obj i)
end

section
variable {K : PySem.W.Frag} {S : Sx}
/-! ### len, int, max, list, tuple, all, any -/
def lenT (t : T) (A : Hm) : Option Nat := match t with
  | .str y => if y.length ≤ sizeLine then some y.length else none
  | .tup l => some l.length
  | .ref n => match A[n]? with
    | some (.lst l) => some l.length
    | some (.flst l) => some l.length
    | some (.dct l) => some l.length
    | _ => none
  | _ => none
def fLen : List T → Hm → R T := fun l A => match l with
  | [t] => match lenT t A with | some n => .ok (.int n) A | none => .bad
  | _ => .bad
def rLenM (K : PySem.W.Frag) : List V → Hp → VK → Prop := fun xs H Q => (∃ x n, xs = [x] ∧ LenV K x H n ∧ Q (.int n) H) ∨ (∃ a kvs, xs = [V.ref a] ∧ H a = some (.dK kvs) ∧ Q (.int kvs.length) H)
theorem c_len {X : Cx} : CallR X (.builtin "len") (rLenM X.K) := CallR.or call_len call_lenD
theorem relD_length {ρ : List Addr} {H : Hp} {l : List (Key × T)} {xs : List (Key × V)} (h : RelD K S ρ H l xs) : l.length = xs.length := by
  induction h with
  | nil => rfl
  | cons _ _ ih => simp [ih]
theorem m_len : CallM K S fLen (rLenM K) := by
  intro W ρ A H l xs σ Q hH rl h
  unfold fLen at h
  split at h
  · split at h
    · rename_i t n q
      cases rl with
      | cons rx rn =>
        cases rn
        have fin := Fut.here h hH _ (.int _)
        unfold lenT at q
        cases rx with
        | str y =>
          simp only at q
          split at q
          · rename_i z; cases q; exact .inl ⟨_, _, rfl, ⟨z, rfl⟩, fin⟩
          · cases q
        | tup hp r => cases q; exact .inl ⟨_, _, rfl, .inr ⟨_, hp, by rw [r.length]⟩, fin⟩
        | ref hr =>
          simp only at q
          split at q
          · rename_i l' q'
            cases q
            obtain ⟨xs, e, r⟩ := SqL_ref hH hr q' (.inl rfl)
            exact .inl ⟨_, _, rfl, .inl ⟨_, e, by rw [r.length]⟩, fin⟩
          · rename_i l' q'
            cases q
            obtain ⟨xs, e, r⟩ := SqL_ref hH hr q' (.inr rfl)
            exact .inl ⟨_, _, rfl, .inl ⟨_, e, by rw [r.length]⟩, fin⟩
          · rename_i l' q'
            cases q
            obtain ⟨o, ho, ro⟩ := hH.at_ _ _ _ q' hr
            cases ro with | dct r => exact .inr ⟨_, _, rfl, ho, by rw [← relD_length r]; exact fin⟩
          · cases q
        | _ => cases q
    · exact h.elim
  · exact h.elim
def fInt : List T → Hm → R T := fun l A => match l with
  | [.int i] => .ok (.int i) A
  | [.bl k] => .ok (.int (if k then 1 else 0)) A
  | _ => .bad
theorem m_int : CallM K S fInt (fun xs H Q => (∃ i, xs = [.int i] ∧ Q (.int i) H) ∨ ∃ k, xs = [.bl k] ∧ Q (.int (if k then 1 else 0)) H) := by
  intro W ρ A H l xs σ Q hH rl h
  unfold fInt at h
  split at h
  · cases rl with | cons r1 r2 => cases r1; cases r2; exact .inl ⟨_, rfl, Fut.here h hH _ (.int _)⟩
  · cases rl with | cons r1 r2 => cases r1; cases r2; exact .inr ⟨_, rfl, Fut.here h hH _ (.int _)⟩
  · exact h.elim
def fMax2 : List T → Hm → R T := fun l A => match l with
  | [.int i, .int j] => .ok (.int (if j > i then j else i)) A
  | _ => .bad
theorem m_max2 : CallM K S fMax2 (fun xs H Q => ∃ i j, xs = [.int i, .int j] ∧ Q (.int (if j > i then j else i)) H) := by
  intro W ρ A H l xs σ Q hH rl h
  unfold fMax2 at h
  split at h
  · cases rl with | cons r1 r2 => cases r1; cases r2 with | cons r3 r4 => cases r3; cases r4; exact ⟨_, _, rfl, Fut.here h hH _ (.int _)⟩
  · exact h.elim
def fMin2 : List T → Hm → R T := fun l A => match l with
  | [.int i, .int j] => .ok (.int (if j < i then j else i)) A
  | _ => .bad
theorem m_min2 : CallM K S fMin2 (fun xs H Q => ∃ i j, xs = [.int i, .int j] ∧ Q (.int (if j < i then j else i)) H) := by
  intro W ρ A H l xs σ Q hH rl h
  unfold fMin2 at h
  split at h
  · cases rl with | cons r1 r2 => cases r1; cases r2 with | cons r3 r4 => cases r3; cases r4; exact ⟨_, _, rfl, Fut.here h hH _ (.int _)⟩
  · exact h.elim
/-- list(xs) of a list, a tuple -/
def fList : List T → Hm → R T := fun l A => match l with
  | [.tup l] => .ok (.ref A.length) (A ++ [.lst l])
  | [.ref n] => match lstOf A n with | some l => .ok (.ref A.length) (A ++ [.lst l]) | none => .bad
  | _ => .bad
theorem m_list : CallM K S fList (fun xs H Q => ∃ p ys, xs = [.ref p] ∧ (SqL K H p ys ∨ SqT K H p ys) ∧ ∀ l, H l = none → Q (.ref l) (upd H l (.lst ys))) := by
  intro W ρ A H l xs σ Q hH rl h
  unfold fList at h
  split at h
  · cases rl with
    | cons r1 r2 =>
      cases r2
      cases r1 with | tup hp r => exact ⟨_, _, rfl, .inr hp, newL_of hH r h⟩
  · split at h
    · rename_i q
      cases rl with
      | cons r1 r2 =>
        cases r2
        cases r1 with
        | ref hr =>
          obtain ⟨ys, e, r⟩ := lstOf_ok hH hr q
          exact ⟨_, _, rfl, .inl e, newL_of hH r h⟩
    · exact h.elim
  · exact h.elim
def fTuple : List T → Hm → R T := fun l A => match l with
  | [.tup l] => .ok (.tup l) A
  | [.ref n] => match lstOf A n with | some l => .ok (.tup l) A | none => .bad
  | _ => .bad
theorem m_tuple : CallM K S fTuple (fun xs H Q => ∃ p ys, xs = [.ref p] ∧ ((SqL K H p ys ∧ ∀ l, H l = none → Q (.ref l) (upd H l (.tup ys))) ∨ (SqT K H p ys ∧ Q (.ref p) H))) := by
  intro W ρ A H l xs σ Q hH rl h
  unfold fTuple at h
  split at h
  · cases rl with
    | cons r1 r2 =>
      cases r2
      cases r1 with | tup hp r => exact ⟨_, _, rfl, .inr ⟨hp, Fut.here h hH _ (.tup hp r)⟩⟩
  · split at h
    · rename_i q
      cases rl with
      | cons r1 r2 =>
        cases r2
        cases r1 with
        | ref hr =>
          obtain ⟨ys, e, r⟩ := lstOf_ok hH hr q
          exact ⟨_, _, rfl, .inl ⟨e, newT_of hH r h⟩⟩
    · exact h.elim
  · exact h.elim
/-- a list of True and False -/
def boolsOf : List T → Option (List Bool)
  | [] => some []
  | .bl b :: r => (boolsOf r).map (b :: ·)
  | _ :: _ => none
theorem boolsOf_ok {ρ : List Addr} {H : Hp} : ∀ {l : List T} {xs : List V} {bs : List Bool}, RelL K S ρ H l xs → boolsOf l = some bs → xs = bs.map V.bl
  | _, _, _, .nil, e => by cases e; rfl
  | _, _, bs, .cons a b, e => by
    cases a with
    | bl k =>
      simp only [boolsOf, Option.map_eq_some_iff] at e
      obtain ⟨r, q, rfl⟩ := e
      rw [boolsOf_ok b q]; rfl
    | _ => cases e
def fAll : List T → Hm → R T := fun l A => match l with
  | [.ref n] => match lstOf A n with
    | some l => match boolsOf l with | some bs => .ok (.bl (bs.all id)) A | none => .bad
    | none => .bad
  | _ => .bad
def fAny : List T → Hm → R T := fun l A => match l with
  | [.ref n] => match lstOf A n with
    | some l => match boolsOf l with | some bs => .ok (.bl (bs.any id)) A | none => .bad
    | none => .bad
  | _ => .bad
theorem m_all : CallM K S fAll (rAll K) := by
  intro W ρ A H l xs σ Q hH rl h
  unfold fAll at h
  split at h
  · split at h
    · rename_i q
      split at h
      · rename_i q2
        cases rl with
        | cons r1 r2 =>
          cases r2
          cases r1 with
          | ref hr =>
            obtain ⟨ys, e, r⟩ := lstOf_ok hH hr q
            have := boolsOf_ok r q2
            subst this
            exact ⟨_, _, rfl, e, Fut.here h hH _ (.bl _)⟩
      · exact h.elim
    · exact h.elim
  · exact h.elim
theorem m_any : CallM K S fAny (rAny K) := by
  intro W ρ A H l xs σ Q hH rl h
  unfold fAny at h
  split at h
  · split at h
    · rename_i q
      split at h
      · rename_i q2
        cases rl with
        | cons r1 r2 =>
          cases r2
          cases r1 with
          | ref hr =>
            obtain ⟨ys, e, r⟩ := lstOf_ok hH hr q
            have := boolsOf_ok r q2
            subst this
            exact ⟨_, _, rfl, e, Fut.here h hH _ (.bl _)⟩
      · exact h.elim
    · exact h.elim
  · exact h.elim

/-! ### isinstance -/
/-- a plain class of the text: object alone above it -/
structure PlainC (K : PySem.W.Frag) (C : Addr) : Prop where
  cls : Cls K C
  mro : ∃ cd, PySem.W.clsIn K C = some cd ∧ cd.mro = [.ref C, .type "object"]
  tyC : PySem.W.typeIn K (.ref C) = some (.type "type")
  ha : PySem.W.findIn K (.ref C) "__class__" = some (some (.builtin "object.__class__"))
  hn : PySem.W.specialIn K (.builtin "object.__class__") "__get__" = some (some (.builtin "getset_descriptor.__get__"))
  htk : PySem.W.takesIn K (.builtin "object.__class__") = some true
structure PlainCs (K : PySem.W.Frag) (S : Sx) (cs : List Nat) : Prop where
  at_ : ∀ i ∈ cs, PlainC K (S.ι i)
  inj : ∀ i ∈ cs, ∀ j ∈ cs, S.ι i = S.ι j → i = j
inductive Ty where | b (n : String) | o (c : Nat)
def tyT (t : T) (A : Hm) : Option Ty := match t with
  | .non => some (.b "NoneType")
  | .bl _ => some (.b "bool")
  | .int _ => some (.b "int")
  | .str _ => some (.b "str")
  | .tup _ => some (.b "tuple")
  | .ref n => match A[n]? with
    | some (.lst _) => some (.b "list")
    | some (.flst _) => some (.b "list")
    | some (.dct _) => some (.b "dict")
    | some (.ins c _) => some (.o c)
    | none => none
  | _ => none
def kinds : List String := ["NoneType", "bool", "int", "str", "tuple", "list", "dict"]
def isOne (cs : List Nat) : Ty → T → Option Bool
  | .b a, .ty n => if a = n then some true else if a ∈ kinds ∧ n ∈ kinds then some (a == "bool" && n == "int") else none
  | .b a, .obj j => if a ∈ kinds ∧ j ∈ cs then some false else none
  | .o i, .ty n => if i ∈ cs ∧ n ∈ kinds then some false else none
  | .o i, .obj j => if i ∈ cs ∧ j ∈ cs then some (i == j) else none
  | _, _ => none
def isAny (cs : List Nat) (ty : Ty) : List T → Option Bool
  | [] => some false
  | c :: r => match isOne cs ty c, isAny cs ty r with
    | some b, some b' => some (b || b')
    | _, _ => none
def isiT (cs : List Nat) (t c : T) (A : Hm) : Option Bool := match tyT t A with
  | some ty => isOne cs ty c
  | none => none
def isisT (cs : List Nat) (t : T) (us : List T) (A : Hm) : Option Bool := match tyT t A with
  | some ty => isAny cs ty us
  | none => none
def fIsi (cs : List Nat) : List T → Hm → R T := fun l A => match l with
  | [t, c] => match isiT cs t c A with | some b => .ok (.bl b) A | none => .bad
  | _ => .bad
def eIsis (cs : List Nat) (us : List T) (m : ME) : ME := mbind m fun t _ A => match isisT cs t us A with | some b => .ok (.bl b) A | none => .bad
def tyV' (S : Sx) : Ty → Value | .b n => .type n | .o c => .ref (S.ι c)
theorem kindsB : ∀ a ∈ kinds, ∀ n ∈ kinds, a ≠ n → kitB a n = some (a == "bool" && n == "int") := by decide +kernel
theorem kindsM : ∀ a ∈ kinds, PySem.W.kitMeta a = true := by decide +kernel
theorem kindsF : ∀ a ∈ kinds, ((PySem.fastBuiltinMro a).map fun l => l.all fun v => match v with | .type _ => true | _ => false) = some true := by decide +kernel
theorem no_ref {C : Addr} : ∀ {l : List Value}, (l.all fun v => match v with | .type _ => true | _ => false) = true → l.contains (.ref C) = false
  | [], _ => rfl
  | v :: l, h => by
    rw [List.all_cons, Bool.and_eq_true] at h
    rw [List.contains_cons, no_ref h.2]
    cases v <;> simp at h ⊢
theorem isOne_ok {cs : List Nat} (P : PlainCs K S cs) {ty : Ty} {c : T} {b : Bool} (h : isOne cs ty c = some b) : ∃ (u : Value) (x : V), ClsV x u ∧ (∀ ρ H, MP.RelV K S ρ H c x) ∧ PySem.W.kitOne K (tyV' S ty) u = some b := by
  unfold isOne at h
  split at h
  · rename_i a n
    refine ⟨.type n, .ty n, .ty n, fun _ _ => .ty n, ?_⟩
    split at h
    · rename_i e; cases h; subst e
      show (if (Value.type a == Value.type a) = true then some true else _) = _
      rw [if_pos (beq_self_eq_true _)]
    · rename_i e
      split at h
      · rename_i z; cases h
        exact kit_ty (kindsB a z.1 n z.2 e)
      · cases h
  · rename_i a j
    split at h
    · rename_i z
      cases h
      refine ⟨.ref (S.ι j), .ref (S.ι j), .own _, fun _ _ => .obj j, ?_⟩
      obtain ⟨cd, hc, hm⟩ := (P.at_ j z.2).mro
      have ht := (P.at_ j z.2).tyC
      show (if (Value.type a == Value.ref (S.ι j)) = true then some true else if ((PySem.W.clsIn K (S.ι j)).isSome && PySem.W.typeIn K (.ref (S.ι j)) == some (.type "type")) = true then (PySem.fastBuiltinMro a).map (·.contains (.ref (S.ι j))) else none) = some false
      rw [if_neg (by simp), if_pos (by rw [hc, ht]; simp)]
      have q := kindsF a z.1
      rw [Option.map_eq_some_iff] at q ⊢
      obtain ⟨l, e1, e2⟩ := q
      exact ⟨l, e1, no_ref e2⟩
    · cases h
  · rename_i i n
    split at h
    · rename_i z
      cases h
      refine ⟨.type n, .ty n, .ty n, fun _ _ => .ty n, ?_⟩
      obtain ⟨cd, hc, hm⟩ := (P.at_ i z.1).mro
      show (if (Value.ref (S.ι i) == Value.type n) = true then some true else if PySem.W.kitMeta n = true then (PySem.W.clsIn K (S.ι i)).bind (fun cd => if cd.mro.isEmpty then none else some (cd.mro.contains (.type n))) else none) = some false
      rw [if_neg (by simp), if_pos (kindsM n z.2), hc]
      show (if cd.mro.isEmpty = true then none else some (cd.mro.contains (.type n))) = some false
      rw [hm]
      have : n ≠ "object" := fun e => by subst e; exact absurd z.2 (by decide)
      simp [this]
    · cases h
  · rename_i i j
    split at h
    · rename_i z
      cases h
      refine ⟨.ref (S.ι j), .ref (S.ι j), .own _, fun _ _ => .obj j, ?_⟩
      by_cases e : i = j
      · subst e
        show (if (Value.ref (S.ι i) == Value.ref (S.ι i)) = true then some true else _) = _
        rw [if_pos (beq_self_eq_true _)]; simp
      · have ne : S.ι i ≠ S.ι j := fun q => e (P.inj i z.1 j z.2 q)
        obtain ⟨cd, hc, hm⟩ := (P.at_ i z.1).mro
        obtain ⟨cd', hc', hm'⟩ := (P.at_ j z.2).mro
        have ht := (P.at_ j z.2).tyC
        show (if (Value.ref (S.ι i) == Value.ref (S.ι j)) = true then some true else if ((PySem.W.clsIn K (S.ι j)).isSome && PySem.W.typeIn K (.ref (S.ι j)) == some (.type "type")) = true then (PySem.W.clsIn K (S.ι i)).bind (fun cd => if cd.mro.isEmpty then none else some (cd.mro.contains (.ref (S.ι j)))) else none) = _
        rw [if_neg (by simpa using ne), if_pos (by rw [hc', ht]; simp), hc]
        show (if cd.mro.isEmpty = true then none else some (cd.mro.contains (.ref (S.ι j)))) = _
        rw [hm]
        simp [Ne.symm ne, e]
    · cases h
  · cases h
theorem tyT_ok {cs : List Nat} (P : PlainCs K S cs) {ρ : List Addr} {H : Hp} {A : Hm} (hH : RelH K S ρ H A) {t : T} {x : V} {ty : Ty} (r : MP.RelV K S ρ H t x) (h : tyT t A = some ty) (hc : ∀ c, ty = .o c → c ∈ cs) : TyX K H x (tyV' S ty) := by
  unfold tyT at h
  cases r with
  | non => cases h; exact .base .non
  | bl b => cases h; exact .base (.bl b)
  | int i => cases h; exact .base (.int i)
  | str s => cases h; exact .base (.str s)
  | tup hp _ =>
    cases h
    rcases hp with (e | ⟨o, e⟩) | ⟨o, its, n, e, c, _⟩
    · exact .base (.tup e)
    · exact .fTuple e
    · exact .kTuple e c
  | ref hr =>
    simp only at h
    split at h
    · rename_i l q; cases h
      obtain ⟨o, ho, ro⟩ := hH.at_ _ _ _ q hr
      cases ro; exact .base (.lst ho)
    · rename_i l q; cases h
      obtain ⟨o, ho, ro⟩ := hH.at_ _ _ _ q hr
      cases ro; exact .base (.frz ho)
    · rename_i l q; cases h
      obtain ⟨o, ho, ro⟩ := hH.at_ _ _ _ q hr
      cases ro; exact .base (.dK ho)
    · rename_i c fs q; cases h
      obtain ⟨o, ho, ro⟩ := hH.at_ _ _ _ q hr
      cases ro
      have z := P.at_ c (hc c rfl)
      obtain ⟨cd, e1, e2⟩ := z.mro
      refine .base (.ins ho z.cls z.ha z.hn z.htk ?_)
      show (PySem.W.clsIn K (S.ι c)).bind (fun cd => if cd.mro.isEmpty then none else some (cd.mro.contains (.type "object"))) = some true
      rw [e1]
      show (if cd.mro.isEmpty = true then none else some (cd.mro.contains (.type "object"))) = some true
      rw [e2]; simp
    · cases h
  | _ => cases h
theorem isOne_in {cs : List Nat} {ty : Ty} {c : T} {b : Bool} (h : isOne cs ty c = some b) : ∀ k, ty = .o k → k ∈ cs := by
  intro k e
  subst e
  cases c with
  | ty n =>
    simp only [isOne] at h
    split at h
    · rename_i z; exact z.1
    · cases h
  | obj j =>
    simp only [isOne] at h
    split at h
    · rename_i z; exact z.1
    · cases h
  | _ => cases h
theorem cls_uniq {cs : List Nat} {ty : Ty} {c : T} {b : Bool} (h : isOne cs ty c = some b) {ρ ρ' : List Addr} {H H' : Hp} {x y : V} (r : MP.RelV K S ρ H c x) (q : MP.RelV K S ρ' H' c y) : x = y := by
  cases c with
  | ty n => cases r; cases q; rfl
  | obj j => cases r; cases q; rfl
  | _ => cases ty <;> cases h
theorem m_isi {cs : List Nat} (P : PlainCs K S cs) : CallM K S (fIsi cs) (rIsi K) := by
  intro W ρ A H l xs σ Q hH rl h
  unfold fIsi at h
  split at h
  · split at h
    · rename_i t c b q
      unfold isiT at q
      split at q
      · rename_i ty q2
        obtain ⟨u, x, e1, e2, e3⟩ := isOne_ok P q
        cases rl with
        | cons r1 r2 =>
          cases r2 with
          | cons r3 r4 =>
            cases r4
            rename_i x1 x2
            have ex : x2 = x := cls_uniq q r3 (e2 ρ H)
            subst ex
            exact ⟨_, _, _, u, b, rfl, e1, tyT_ok P hH r1 q2 (isOne_in q), e3, Fut.here h hH _ (.bl b)⟩
      · cases q
    · exact h.elim
  · exact h.elim
/-- classes written one behind the other -/
structure ClsL (X : Cx) (S : Sx) (es : List Expr) (us : List T) : Prop where
  ex : ∃ vs : List V, PA X es (fun _ H Q => Q vs H) ∧ vs.length ≤ 100 ∧ us.length = vs.length ∧ ∀ (i : Nat) (u : T) (v : V), us[i]? = some u → vs[i]? = some v → ∀ ρ H, MP.RelV X.K S ρ H u v
theorem isAny_ok {cs : List Nat} (P : PlainCs K S cs) {ty : Ty} : ∀ {l : List T} {xs : List V} {b : Bool}, l.length = xs.length → (∀ (i : Nat) (u : T) (v : V), l[i]? = some u → xs[i]? = some v → ∀ ρ H, MP.RelV K S ρ H u v) → isAny cs ty l = some b → ∃ us, PySem.W.kitAny K (tyV' S ty) us = some b ∧ Paired ClsV xs us
  | [], [], b, _, _, h => by cases h; exact ⟨[], rfl, .nil⟩
  | c :: l, x :: xs, b, hl, hr, h => by
    simp only [isAny] at h
    split at h
    · rename_i b1 b2 q1 q2
      cases h
      obtain ⟨u, x', e1, e2, e3⟩ := isOne_ok P q1
      obtain ⟨us, g1, g2⟩ := isAny_ok P (by simpa using hl) (fun i u v h1 h2 => hr (i + 1) u v (by simpa using h1) (by simpa using h2)) q2
      have r0 := hr 0 c x rfl rfl [] (fun _ => none)
      have ex : x = x' := cls_uniq q1 r0 (e2 [] (fun _ => none))
      subst ex
      refine ⟨u :: us, ?_, .cons e1 g2⟩
      unfold PySem.W.kitAny
      rw [e3]
      cases b1 with
      | true => rfl
      | false => exact g1
    · cases h
  | [], _ :: _, _, hl, _, _ => by cases hl
  | _ :: _, [], _, hl, _, _ => by cases hl
theorem isAny_in {cs : List Nat} {ty : Ty} : ∀ {l : List T} {b : Bool}, l ≠ [] → isAny cs ty l = some b → ∀ k, ty = .o k → k ∈ cs
  | c :: l, b, _, h => by
    simp only [isAny] at h
    split at h
    · rename_i q1 _; exact isOne_in q1
    · cases h
theorem d_isis {X : Cx} {G : Gx} {a : Expr} {es : List Expr} {us : List T} {cs : List Nat} {ma : ME} {p pos p2 : Pos} {k1 : Nat} (P : PlainCs X.K S cs) (hne : us ≠ []) (ha : PE X a (tE X.K S G ma)) (L : ClsL X S es us) (hm : X.mg "isinstance" = none) (hg : Gl X "isinstance" := by rfl) (hv : bootBuiltins "isinstance" = some (.builtin "isinstance") := by decide +kernel)
    (hs1 : starEach [a, .Tuple es k1 p2] X.env = (false, eval a X.env) :: starEach [.Tuple es k1 p2] X.env := by rfl) (hs2 : starEach [.Tuple es k1 p2] X.env = (false, eval (.Tuple es k1 p2) X.env) :: starEach [] X.env := by rfl) (hpl : (backTo pos (starEach [.Tuple es k1 p2] X.env)).any (·.1) = false := by rfl) :
    PE X (.Call (.Name "isinstance" p) [a, .Tuple es k1 p2] [] pos) (tE X.K S G (eIsis cs us ma)) := by
  obtain ⟨vs, hpa, hlen, hl, hr⟩ := L.ex
  refine PE.imp (pe_callB call_isiT hg hm hv (pa_cons ha (pa_cons (pe_tup hpa) pa_nil hs2) hs1) (by decide) (by decide) hs1 hpl) fun σ H Q h => ?_
  refine (tX.bind (rv := rV X.K S) h).mono ?_
  rintro x H1 ⟨v, A1, ρ1, e, h1, h2, h3, h4, h5⟩
  refine ⟨Nat.le_trans hlen (by decide), fun tp htp => ?_⟩
  split at h5
  · rename_i b q
    unfold isisT at q
    split at q
    · rename_i ty q2
      obtain ⟨ws, g1, g2⟩ := isAny_ok P hl hr q
      have m : Mono H1 (upd H1 tp (.tup vs)) := Mono.new htp
      have h1' := h1.side (o := .tup vs) htp
      exact ⟨x, tp, vs, _, ws, b, rfl, upd_same, g2, tyT_ok P h1' (h4.mono List.prefix_rfl m) q2 (isAny_in hne q), g1, h5 ρ1 _ List.prefix_rfl m h1' _ (.bl b)⟩
    · cases q
  · exact h5.elim
theorem cls_nil {X : Cx} : ClsL X S [] [] := ⟨[], ⟨fun pos pins s σ H Q I h => pa_nil.run pos pins s σ H Q I h⟩, by decide, rfl, fun i u v h => by simp at h⟩
theorem cls_b {X : Cx} {x : Str} {n : String} {pos : Pos} {es : List Expr} {us : List T} (L : ClsL X S es us) (hm : X.mg x = none) (hz : us.length < 50) (hg : Gl X x := by rfl) (hv : bootBuiltins x = some (.type n) := by decide +kernel) (hn : x ≠ "__name__" := by decide) (hdb : (x == ("__debug__" : Str)) = false := by decide)
    (hs : starEach (.Name x pos :: es) X.env = (false, eval (.Name x pos) X.env) :: starEach es X.env := by rfl) : ClsL X S (.Name x pos :: es) (.ty n :: us) := by
  obtain ⟨vs, hpa, hlen, hl, hr⟩ := L.ex
  refine ⟨.ty n :: vs, ⟨fun pos pins s σ H Q I h => (pa_cons (pe_bltn (v := .ty n) hg hm hv rfl hn hdb) hpa hs).run pos pins s σ H Q I h⟩, by simp; omega, by simp [hl], fun i u v h1 h2 => ?_⟩
  cases i with
  | zero => simp at h1 h2; subst h1; subst h2; exact fun _ _ => .ty n
  | succ i => exact hr i u v (by simpa using h1) (by simpa using h2)
theorem cls_o {X : Cx} {x : Str} {i0 : Nat} {pos : Pos} {es : List Expr} {us : List T} (L : ClsL X S es us) (hm : X.mg x = some (.ref (S.ι i0))) (hz : us.length < 50) (hg : Gl X x := by rfl) (hdb : (x == ("__debug__" : Str)) = false := by decide)
    (hs : starEach (.Name x pos :: es) X.env = (false, eval (.Name x pos) X.env) :: starEach es X.env := by rfl) : ClsL X S (.Name x pos :: es) (.obj i0 :: us) := by
  obtain ⟨vs, hpa, hlen, hl, hr⟩ := L.ex
  refine ⟨.ref (S.ι i0) :: vs, ⟨fun pos pins s σ H Q I h => (pa_cons (pe_glob (v := .ref (S.ι i0)) hg hm rfl hdb) hpa hs).run pos pins s σ H Q I h⟩, by simp; omega, by simp [hl], fun i u v h1 h2 => ?_⟩
  cases i with
  | zero => simp at h1 h2; subst h1; subst h2; exact fun _ _ => .obj i0
  | succ i => exact hr i u v (by simpa using h1) (by simpa using h2)
end
end MP
end S8
section S9
set_option Elab.async false
set_option linter.all false
set_option maxRecDepth 100000
/-! MPi: repr, texts joined, f-strings; lists' methods; attributes, own methods; list comprehensions. -/
namespace MP
open PySem PySem.Spec PyProof.Rows L2

/-! ### repr -/
section
variable {X : Cx} {pins : List (Addr × Obj)} {σ : L2.St} {H : Hp} {s : Shared}
mutual
theorem dp_nodict {K : PySem.W.Frag} : ∀ (d : PyData) {v : V}, Dp K H v d → d.hasDict = false
  | .none, _, _ => rfl
  | .bool _, _, _ => rfl
  | .int _, _, _ => rfl
  | .str _, _, _ => rfl
  | .list ds, _, h => by cases h with | lst _ r => exact dpAll_nodict ds r
  | .tuple ds, _, h => by cases h with | tup _ r => exact dpAll_nodict ds r
  | .dict _, _, h => by cases h
theorem dpAll_nodict {K : PySem.W.Frag} : ∀ (ds : List PyData) {vs : List V}, DpAll K H vs ds → PyData.hasDictAll ds = false
  | [], _, _ => rfl
  | d :: ds, _, h => by
    cases h with
    | cons a b =>
      show (d.hasDict || PyData.hasDictAll ds) = false
      rw [dp_nodict d a, dpAll_nodict ds b]; rfl
end
def reprOk (d : PyData) : Bool := d.showable && decide (d.depth ≤ 60) && decide (d.shown.length ≤ sizeLine)
def rRepr (K : PySem.W.Frag) : List V → Hp → VK → Prop := fun xs H Q => ∃ a d, xs = [.ref a] ∧ Dp K H (.ref a) d ∧ reprOk d = true ∧ Q (.str d.shown) H
theorem c_repr (hg : X.A.guards = some []) (hu : X.A.units + 64 < cLine) : CallR X (.builtin "repr") (rRepr X.K) := by
  intro pins s σ H xs us Q I r h
  obtain ⟨a, d, rfl, hd, hk, q⟩ := h
  obtain ⟨u, rfl, rx⟩ := vals1 r
  cases rx
  unfold reprOk at hk
  simp only [Bool.and_eq_true, decide_eq_true_eq] at hk
  obtain ⟨⟨k1, k2⟩, k3⟩ := hk
  obtain ⟨as, rd⟩ := Dp.reads I d (.ref a) (.ref a) hd rfl
  refine repr_of_reads' rd k1 (fun z => by rw [dp_nodict d hd] at z; cases z) hg (by omega) (fun _ _ e => e) (fun h' u tk kp => ?_) k3
  exact ⟨.str d.shown, H, I.kept (t' := tk) kp, ⟨_, rfl⟩, q⟩
end
section
variable {K : PySem.W.Frag} {S : Sx} {ρ : List Addr} {H : Hp} {A : Hm}
def fRepr : List T → Hm → R T := fun l A => match l with
  | [.non] => .bad
  | [t] => match dat 64 A t with
    | some d => if reprOk d = true then .ok (.str d.shown) A else .bad
    | none => .bad
  | _ => .bad
def isRef : T → Bool | .ref _ => true | .tup _ => true | _ => false
def fReprR : List T → Hm → R T := fun l A => match l with
  | [t] => if isRef t = true then match dat 64 A t with
    | some d => if reprOk d = true then .ok (.str d.shown) A else .bad
    | none => .bad else .bad
  | _ => .bad
theorem m_repr : CallM K S fReprR (rRepr K) := by
  intro W ρ A H l xs σ Q hH rl h
  unfold fReprR at h
  split at h
  · split at h
    · rename_i t z
      split at h
      · rename_i d q
        split at h
        · rename_i hk
          cases rl with
          | cons r1 r2 =>
            cases r2
            have dd := dat_ok hH 64 r1 q
            cases r1 with
            | tup hp r => exact ⟨_, d, rfl, dd, hk, Fut.here h hH _ (.str _)⟩
            | ref hr => exact ⟨_, d, rfl, dd, hk, Fut.here h hH _ (.str _)⟩
            | _ => cases z
        · exact h.elim
      · exact h.elim
    · exact h.elim
  · exact h.elim

/-! ### f-strings -/
def fFmt (t : T) (A : Hm) : R T := match t with
  | .str y => if y.length ≤ sizeLine then .ok (.str y) A else .bad
  | .int i => if i.natAbs.log2 < 1920 then .ok (.str (toString i)) A else .bad
  | _ => .bad
def eFmt (m : ME) : ME := mbind m fun t _ A => fFmt t A
theorem d_fmt {X : Cx} {G : Gx} {e : Expr} {m : ME} {pos : Pos} (h : PE X e (tE X.K S G m)) : PE X (.FormattedValue e (-1) none pos) (tE X.K S G (eFmt m)) := by
  refine PE.imp (pe_fmt h) fun σ H Q h => ?_
  refine (tX.bind (rv := rV X.K S) h).mono ?_
  rintro x H1 ⟨v, A1, ρ1, e, h1, h2, h3, h4, h5⟩
  unfold fFmt at h5
  split at h5
  · split at h5
    · rename_i z; cases h4; exact .inl ⟨_, rfl, z, Fut.here h5 h1 _ (.str _)⟩
    · exact h5.elim
  · split at h5
    · rename_i z; cases h4; exact .inr ⟨_, rfl, z, Fut.here h5 h1 _ (.str _)⟩
    · exact h5.elim
  · exact h5.elim
/-- the parts of an f-string, from what is glued so far -/
def jsL : List ME → Str → ME
  | [], acc, _, A => .ok (.str acc) A
  | m :: r, acc, e, A => (mbind m fun t e A => match t with | .str y => if (acc ++ y).length ≤ sizeLine then jsL r (acc ++ y) e A else .bad | _ => .bad) e A
inductive PJm (X : Cx) (S : Sx) (G : Gx) : List Expr → List ME → Prop
  | nil : PJm X S G [] []
  | cons {e : Expr} {m : ME} {es : List Expr} {ms : List ME} (h : PE X e (tE X.K S G m)) (r : PJm X S G es ms) : PJm X S G (e :: es) (m :: ms)
theorem PJm.pj {X : Cx} {G : Gx} {es : List Expr} {ms : List ME} (h : PJm X S G es ms) : PJ X es (ms.map fun m => tE X.K S G m) := by
  induction h with
  | nil => exact .nil
  | cons a _ ih => exact .cons a ih
theorem jsL_of {K : PySem.W.Frag} {G : Gx} {Q : VK} : ∀ (ms : List ME) (acc : Str) (σ : L2.St) (H : Hp), tE K S G (jsL ms acc) σ H Q → tJs (ms.map fun m => tE K S G m) acc σ H fun out H1 => Q (.str out) H1
  | [], acc, σ, H, h => by
    obtain ⟨ρ, A, e, h1, h2, h3, h4⟩ := h
    exact Fut.here h4 h1 _ (.str _)
  | m :: r, acc, σ, H, h => by
    obtain ⟨ρ, A, e, h1, h2, h3, h4⟩ := h
    refine ⟨ρ, A, e, h1, h2, h3, (post.bind (rv := rV K S) h4).mono ?_⟩
    rintro x H1 ⟨v, A1, ρ1, q1, q2, q3, q4, q5⟩
    dsimp only at q5
    split at q5
    · split at q5
      · rename_i z
        cases q4
        exact ⟨_, rfl, z, jsL_of r _ σ H1 ⟨ρ1, A1, e, q3, h2.mono q1 q2, G.mono q1 q2 h3, q5⟩⟩
      · exact q5.elim
    · exact q5.elim
theorem d_js {X : Cx} {G : Gx} {v1 v2 : Expr} {rest : List Expr} {ms : List ME} {pos : Pos} (h : PJm X S G (v1 :: v2 :: rest) ms) : PE X (.JoinedStr (v1 :: v2 :: rest) pos) (tE X.K S G (jsL ms Str.empty)) :=
  PE.imp (pe_joined h.pj) fun σ H Q q => jsL_of ms Str.empty σ H q
theorem d_js1 {X : Cx} {G : Gx} {e : Expr} {m : ME} {pos : Pos} (h : PE X e (tE X.K S G m)) : PE X (.JoinedStr [e] pos) (tE X.K S G m) := pe_joined1 h

/-! ### methods of lists and texts -/
def isKind (T' : String) (x : T) (A : Hm) : Bool := match x with
  | .str _ => T' == "str"
  | .ref n => match A[n]? with
    | some (.lst _) => T' == "list"
    | some (.flst _) => T' == "list"
    | some (.dct _) => T' == "dict"
    | _ => false
  | _ => false
theorem isKind_ok (hH : RelH K S ρ H A) {T' : String} {t : T} {x : V} (r : MP.RelV K S ρ H t x) (h : isKind T' t A = true) : tyV K T' x H := by
  unfold isKind at h
  cases r with
  | str => exact beq_iff_eq.mp h
  | ref hr =>
    simp only at h
    split at h
    · rename_i l q
      obtain ⟨xs, e, _⟩ := SqL_ref hH hr q (.inl rfl)
      exact .inl ⟨beq_iff_eq.mp h, xs, e⟩
    · rename_i l q
      obtain ⟨xs, e, _⟩ := SqL_ref hH hr q (.inr rfl)
      exact .inl ⟨beq_iff_eq.mp h, xs, e⟩
    · rename_i l q
      obtain ⟨o, ho, ro⟩ := hH.at_ _ _ _ q hr
      cases ro
      exact .inr (.inr (.inl ⟨beq_iff_eq.mp h, .inl ⟨_, ho⟩⟩))
    · cases h
  | _ => cases h
/-- a method's rule by values -/
def MtMM (K : PySem.W.Frag) (S : Sx) (f : T → List T → Hm → R T) (r : V → List V → Hp → VK → Prop) : Prop :=
  ∀ (W : WX) (ρ : List Addr) (A : Hm) (H : Hp) (t : T) (x : V) (l : List T) (xs : List V) (σ : L2.St) (Q : VK), RelH K S ρ H A → MP.RelV K S ρ H t x → RelL K S ρ H l xs → post K S (rV K S) W ρ σ H Q (f t l A) → r x xs H Q
def eBm (T' : String) (f : T → List T → Hm → R T) (o : ME) (l : ML) : ME := mbind o fun x e A => if isKind T' x A = true then mbind l (fun vs _ A => f x vs A) e A else .bad
variable {X : Cx} {G : Gx} {T' id : String} {name : Str} {o e : Expr} {es : List Expr} {mo ma : ME} {ml : ML} {apos cpos : Pos} {f : T → List T → Hm → R T} {r : V → List V → Hp → VK → Prop}
theorem d_bm (pa : PlainAttrs T') (slot : Slot T' name id) (hty : typeOf (.builtin id) = pure (.type "method_descriptor")) (hm : MtR X id r) (hf : MtMM X.K S f r) (ho : PE X o (tE X.K S G mo)) (ha : PA X (e :: es) (tL X.K S G ml))
    (hbase : attributeBase o name X.env (eval o X.env) = eval o X.env := by rfl)
    (hfew : ((backTo cpos (starEach (e :: es) X.env)).all (fun x => !x.1) && (backToKw cpos (keywordEach [] X.env)).all (fun x => x.1.isSome)
      && decide ((e :: es).length + ([] : List Keyword).length + (if ([] : List Keyword).isEmpty then 0 else 1) < 30)) = true := by rfl)
    (hline : (apos.endLine == cpos.line) = true := by rfl) (hs : starEach (e :: es) X.env = (false, eval e X.env) :: starEach es X.env := by rfl) (hplain : (backTo cpos (starEach es X.env)).any (·.1) = false := by rfl) :
    PE X (.Call (.Attribute o name apos) (e :: es) [] cpos) (tE X.K S G (eBm T' f mo ml)) := by
  refine PE.imp (pe_bm pa slot hty hm ho ha hbase hfew hline hs hplain) fun σ H Q h => ?_
  refine (tX.bind (rv := rV X.K S) h).mono ?_
  rintro x H1 ⟨v, A1, ρ1, ev, h1, h2, h3, h4, h5⟩
  split at h5
  · rename_i z
    refine ⟨isKind_ok h1 h4 z, ρ1, A1, ev, h1, h2, h3, (post.bind (rv := rL X.K S) h5).mono ?_⟩
    rintro xs H2 ⟨vs, A2, ρ2, q1, q2, q3, q4, q5⟩
    exact hf _ _ _ _ _ _ _ _ _ _ q3 (h4.mono q1 q2) q4 q5
  · exact h5.elim
theorem d_bm0 (pa : PlainAttrs T') (slot : Slot T' name id) (hty : typeOf (.builtin id) = pure (.type "method_descriptor")) (hm : MtR X id r) (hf : MtMM X.K S f r) (ho : PE X o (tE X.K S G mo))
    (hbase : attributeBase o name X.env (eval o X.env) = eval o X.env := by rfl) (hline : (apos.endLine == cpos.line) = true := by rfl) :
    PE X (.Call (.Attribute o name apos) [] [] cpos) (tE X.K S G (eBm T' f mo aN)) := by
  refine PE.imp (pe_bm0 pa slot hty hm ho hbase hline) fun σ H Q h => ?_
  refine (tX.bind (rv := rV X.K S) h).mono ?_
  rintro x H1 ⟨v, A1, ρ1, ev, h1, h2, h3, h4, h5⟩
  split at h5
  · rename_i z
    exact ⟨isKind_ok h1 h4 z, hf _ _ _ _ _ _ _ _ _ _ h1 h4 .nil h5⟩
  · exact h5.elim
/-- what the list at n becomes -/
def putL (n : Nat) (l : List T) (A : Hm) : Hm := A.set n (.lst l)
theorem put_of {W : WX} {σ : L2.St} {Q : VK} {n : Nat} {p : Addr} {l : List T} {xs ys : List V} {v : T} {x : V} (hH : RelH K S ρ H A) (hr : ρ[n]? = some p) (hp : H p = some (.lst xs)) (r : RelL K S ρ H l ys) (rv : MP.RelV K S ρ H v x)
    (h : post K S (rV K S) W ρ σ H Q (.ok v (putL n l A))) : Q x (upd H p (.lst ys)) := by
  have m : Mono H (upd H p (.lst ys)) := Mono.put hp (fun z => z)
  exact h ρ _ List.prefix_rfl m (hH.put hr hp (fun z => z) (fun _ z => by cases z) (.lst (r.mono List.prefix_rfl m))) _ (rv.mono List.prefix_rfl m)
def fAppend : T → List T → Hm → R T := fun x vs A => match x, vs with
  | .ref n, [v] => match A[n]? with
    | some (.lst l) => if l.length < sizeLine then .ok .non (putL n (l ++ [v]) A) else .bad
    | _ => .bad
  | _, _ => .bad
theorem m_append : MtMM K S fAppend rAppend := by
  intro W ρ A H t x l xs σ Q hH rx rl h
  unfold fAppend at h
  split at h
  · split at h
    · rename_i q
      split at h
      · rename_i z
        cases rl with
        | cons r1 r2 =>
          cases r2
          cases rx with
          | ref hr =>
            obtain ⟨ys, e1, r3⟩ := mut_ok hH hr q
            exact ⟨_, ys, _, rfl, rfl, e1, by rw [← r3.length]; exact z, put_of hH hr e1 (r3.append (.cons r1 .nil)) .non h⟩
      · exact h.elim
    · exact h.elim
  · exact h.elim
def fExtend : T → List T → Hm → R T := fun x vs A => match x, vs with
  | .ref n, [.ref m] => match A[n]?, A[m]? with
    | some (.lst l), some (.lst k) => if l.length + k.length ≤ sizeLine then .ok .non (putL n (l ++ k) A) else .bad
    | _, _ => .bad
  | _, _ => .bad
theorem m_extend : MtMM K S fExtend rExtend := by
  intro W ρ A H t x l xs σ Q hH rx rl h
  unfold fExtend at h
  split at h
  · split at h
    · rename_i q q'
      split at h
      · rename_i z
        cases rl with
        | cons r1 r2 =>
          cases r2
          cases r1 with
          | ref hr' =>
            cases rx with
            | ref hr =>
              obtain ⟨ys, e1, r3⟩ := mut_ok hH hr q
              obtain ⟨zs, e2, r4⟩ := mut_ok hH hr' q'
              exact ⟨_, _, ys, zs, rfl, rfl, e1, e2, by rw [← r3.length, ← r4.length]; exact z, put_of hH hr e1 (r3.append r4) .non h⟩
      · exact h.elim
    · exact h.elim
  · exact h.elim
theorem relL_erase {l : List T} {xs : List V} (r : RelL K S ρ H l xs) : ∀ k : Nat, RelL K S ρ H (l.eraseIdx k) (xs.eraseIdx k) := by
  induction l generalizing xs with
  | nil => cases r; intro k; exact .nil
  | cons t l ih =>
    cases r with
    | cons a b =>
      intro k
      cases k with
      | zero => exact b
      | succ k => exact .cons a (ih b k)
def fPopAt : T → List T → Hm → R T := fun x vs A => match x, vs with
  | .ref n, [.int i] => match A[n]? with
    | some (.lst l) => match seqIndex? i l.length with
      | some k => match l[k]? with
        | some y => if -(2 ^ 63) ≤ i ∧ i < 2 ^ 63 then .ok y (putL n (l.eraseIdx k) A) else .bad
        | none => .bad
      | none => .bad
    | _ => .bad
  | _, _ => .bad
theorem m_popAt : MtMM K S fPopAt rPopAt := by
  intro W ρ A H t x l xs σ Q hH rx rl h
  unfold fPopAt at h
  split at h
  · split at h
    · rename_i q
      split at h
      · rename_i k q2
        split at h
        · rename_i y q3
          split at h
          · rename_i z
            cases rl with
            | cons r1 r2 =>
              cases r2
              cases r1
              cases rx with
              | ref hr =>
                obtain ⟨ys, e1, r3⟩ := mut_ok hH hr q
                obtain ⟨y', hy, ry⟩ := r3.get q3
                exact ⟨_, ys, _, k, y', rfl, rfl, e1, z.1, z.2, by rw [← r3.length]; exact q2, hy, put_of hH hr e1 (relL_erase r3 k) ry h⟩
          · exact h.elim
        · exact h.elim
      · exact h.elim
    · exact h.elim
  · exact h.elim
/-- texts -/
def strsOf : List T → Option (List Str)
  | [] => some []
  | .str b :: r => (strsOf r).map (b :: ·)
  | _ :: _ => none
theorem strsOf_ok : ∀ {l : List T} {xs : List V} {bs : List Str}, RelL K S ρ H l xs → strsOf l = some bs → xs = bs.map V.str
  | _, _, _, .nil, e => by cases e; rfl
  | _, _, bs, .cons a b, e => by
    cases a with
    | str k =>
      simp only [strsOf, Option.map_eq_some_iff] at e
      obtain ⟨r, q, rfl⟩ := e
      rw [strsOf_ok b q]; rfl
    | _ => cases e
def fJoin (a : Str) (y : T) (A : Hm) : R T := match y with
  | .ref n => match lstOf A n with
    | some l => match strsOf l with
      | some ys => if (ys.map (·.length)).sum + ys.length * a.length ≤ 16777216 then .ok (.str (Txt.join a ys)) A else .bad
      | none => .bad
    | none => .bad
  | _ => .bad
def eJoin (o a : ME) : ME := mbind o fun x => mbind a fun y _ A => match x with | .str a => fJoin a y A | _ => .bad
theorem d_join (ho : PE X o (tE X.K S G mo)) (he : PE X e (tE X.K S G ma)) (hs : starEach [e] X.env = [(false, eval e X.env)] := by rfl) (hbase : attributeBase o "join" X.env (eval o X.env) = eval o X.env := by rfl) (hline : (apos.endLine == cpos.line) = true := by rfl)
    (hst : ∀ e A, ∀ v A', mo e A = .ok v A' → ∃ s, v = .str s) :
    PE X (.Call (.Attribute o "join" apos) [e] [] cpos) (tE X.K S G (eJoin mo ma)) := by
  refine PE.imp (pe_join ho he hs hbase hline) fun σ H Q h => ?_
  obtain ⟨ρ, A, ev, h1, h2, h3, h4⟩ := h
  refine ⟨ρ, A, ev, h1, h2, h3, (post.bindE (rv := rV X.K S) h4).mono ?_⟩
  rintro x H1 ⟨v, A1, ρ1, q0, q1, q2, q3, q4, q5⟩
  obtain ⟨s, rfl⟩ := hst _ _ _ _ q0
  cases q4
  refine ⟨⟨_, rfl⟩, ρ1, A1, ev, q3, h2.mono q1 q2, G.mono q1 q2 h3, (post.bind (rv := rV X.K S) q5).mono ?_⟩
  rintro y H2 ⟨v2, A2, ρ2, u1, u2, u3, u4, u5⟩
  dsimp only at u5
  unfold fJoin at u5
  split at u5
  · split at u5
    · rename_i q
      split at u5
      · rename_i ys qs
        split at u5
        · rename_i z
          cases u4 with
          | ref hr =>
            obtain ⟨xs, e1, r1⟩ := lstOf_ok u3 hr q
            have := strsOf_ok r1 qs
            subst this
            exact ⟨_, _, ys, rfl, rfl, .inl e1, z, Fut.here u5 u3 _ (.str _)⟩
        · exact u5.elim
      · exact u5.elim
    · exact u5.elim
  · exact u5.elim
end
end MP
end S9
section S10
set_option Elab.async false
set_option linter.all false
set_option maxRecDepth 100000
/-! MPj: attributes, own methods, list comprehensions. -/
namespace MP
open PySem PySem.Spec PyProof.Rows L2

section
variable {K : PySem.W.Frag} {S : Sx} {ρ : List Addr} {H : Hp} {A : Hm}
/-! ### attributes -/
def insOf (A : Hm) (x : T) : Option (Nat × Fs) := match x with
  | .ref n => match A[n]? with | some (.ins c fs) => some (c, fs) | _ => none
  | _ => none
theorem insOf_ok (hH : RelH K S ρ H A) {t : T} {x : V} {c : Nat} {fs : Fs} (r : MP.RelV K S ρ H t x) (h : insOf A t = some (c, fs)) : ∃ a dx gs, x = .ref a ∧ H a = some (.ins (S.ι c) dx gs) ∧ RelF K S ρ H fs gs ∧ ∃ n, t = .ref n ∧ ρ[n]? = some a ∧ A[n]? = some (.ins c fs) := by
  unfold insOf at h
  cases r with
  | ref hr =>
    simp only at h
    split at h
    · rename_i c' fs' q
      cases h
      obtain ⟨o, ho, ro⟩ := hH.at_ _ _ _ q hr
      cases ro with | ins r => exact ⟨_, _, _, rfl, ho, r, _, rfl, hr, q⟩
    · cases h
  | _ => cases h
/-- o.f, a field of the instance -/
def fFld (cs : List Nat) (f : Str) (x : T) (A : Hm) : R T := match insOf A x with
  | some (c, fs) => if c ∈ cs then match fs.lookup f with | some t => .ok t A | none => .bad else .bad
  | none => .bad
def eFld (cs : List Nat) (f : Str) (m : ME) : ME := mbind m fun x _ A => fFld cs f x A
variable {X : Cx} {G : Gx} {e o value : Expr} {es : List Expr} {kws : List Keyword} {mo ma mv : ME} {ml mk : ML} {f m : Str} {pos pos' apos : Pos} {cs : List Nat}
theorem d_fld (hf : ∀ c ∈ cs, Cls X.K (S.ι c) ∧ NoAttr X.K (S.ι c) f) (ha : PE X e (tE X.K S G ma)) (hb : attributeBase e f X.env (eval e X.env) = eval e X.env := by rfl) : PE X (.Attribute e f pos) (tE X.K S G (eFld cs f ma)) := by
  refine PE.imp (pe_fld ha hb) fun σ H Q h => ?_
  refine (tX.bind (rv := rV X.K S) h).mono ?_
  rintro x H1 ⟨v, A1, ρ1, ev, h1, h2, h3, h4, h5⟩
  unfold fFld at h5
  split at h5
  · rename_i c fs q
    split at h5
    · rename_i hc
      split at h5
      · rename_i t ql
        obtain ⟨a, dx, gs, rfl, ea, rf, _⟩ := insOf_ok h1 h4 q
        obtain ⟨y, hy, ry⟩ := rf.get ql
        exact ⟨a, _, dx, gs, y, rfl, ea, (hf c hc).1, (hf c hc).2, hy, Fut.here h5 h1 _ ry⟩
      · exact h5.elim
    · exact h5.elim
  · exact h5.elim
def putT (f : Str) (v : T) : Fs → Fs
  | [] => [(f, v)]
  | (g, w) :: r => if g == f then (g, v) :: r else (g, w) :: putT f v r
theorem putT_ok {fs : Fs} {gs : List (Str × V)} (r : RelF K S ρ H fs gs) {v : T} {x : V} (rv : MP.RelV K S ρ H v x) : RelF K S ρ H (putT f v fs) (putF f x gs) := by
  induction r with
  | nil => exact .cons rv .nil
  | @cons g t y l xs a b ih =>
    unfold putT putF
    split
    · rename_i z
      first
        | (rw [if_pos z]; exact .cons rv b)
        | (rw [if_pos (by simpa using z)]; exact .cons rv b)
    · rename_i z
      first
        | (rw [if_neg z]; exact .cons a ih)
        | (rw [if_neg (by simpa using z)]; exact .cons a ih)
/-- o.f = v -/
def fSetF (cs : List Nat) (f : Str) (x v : T) (A : Hm) : Option Hm := match x with
  | .ref n => match A[n]? with
    | some (.ins c fs) => if c ∈ cs ∧ fs.length < 1000 then some (A.set n (.ins c (putT f v fs))) else none
    | _ => none
  | _ => none
def sSetF (cs : List Nat) (f : Str) (mv mo : ME) : MS := sBind mv fun v => sBind mo fun x e A => match fSetF cs f x v A with | some A' => .nx e A' | none => .bad
theorem ds_setF (hf : ∀ c ∈ cs, Cls X.K (S.ι c) ∧ NoAttr X.K (S.ι c) f) (ho : PE X o (tE X.K S G mo)) (hv : PE X value (tE X.K S G mv)) (hs : swapsWith value (some (.Attribute o f pos')) pos.line X.env = pure false := by rfl) :
    PS X (.Assign [.Attribute o f pos'] value pos) (tS X.K S G (sSetF cs f mv mo)) := by
  refine PS.imp (ps_fld ho hv hs) fun D σ H h => ?_
  refine (tS.bind (rv := rV X.K S) h).mono ?_
  rintro y H1 ⟨v, A1, ρ1, ev, h1, h2, h3, h4, h5⟩
  refine ⟨ρ1, A1, ev, h1, h2, h3, ?_⟩
  unfold sBind at h5
  cases q : mo ev A1 with
  | ok x0 A2 =>
    rw [q] at h5
    intro ρ2 H2 u1 u2 u3 x hx
    dsimp only at h5
    unfold fSetF at h5
    cases hx with
    | @ref n p hr =>
      dsimp only at h5
      cases qa : A2[n]? with
      | none => rw [qa] at h5; exact h5.elim
      | some cell =>
        rw [qa] at h5
        cases cell with
        | ins c fs =>
          dsimp only at h5
          by_cases z : c ∈ cs ∧ fs.length < 1000
          · rw [if_pos z] at h5
            obtain ⟨ob, hob, ro⟩ := u3.at_ n _ p qa hr
            cases ro with
            | @ins _ _ gs dx rf =>
              have hl : gs.length < 1000 := by
                have : fs.length = gs.length := by
                  clear h5 z hob qa
                  induction rf with
                  | nil => rfl
                  | cons _ _ ih => simp [ih]
                omega
              refine ⟨p, _, dx, gs, rfl, hob, (hf c z.1).1, (hf c z.1).2, hl, ?_⟩
              have rv := h4.mono u1 u2
              have mm : Mono H2 (upd H2 p (.ins (S.ι c) dx (putF f y gs))) := Mono.put hob (fun z => z)
              have hH3 := u3.put hr hob (fun z => z) (fun _ z => by cases z) (c := .ins c (putT f v fs)) (.ins ((putT_ok (f := f) rf rv).mono List.prefix_rfl mm))
              exact h5 ρ2 _ u1 (u2.trans mm) hH3 σ ((h2.mono u1 u2).mono List.prefix_rfl mm) (G.mono List.prefix_rfl mm (G.mono u1 u2 h3))
          · rw [if_neg z] at h5; exact h5.elim
        | _ => exact h5.elim
    | _ => exact h5.elim
  | err c fs A2 => rw [q] at h5; exact fun ρ2 H2 u1 u2 u3 => h5 ρ2 H2 u1 u2 u3 σ (h2.mono u1 u2) (G.mono u1 u2 h3)
  | bad => rw [q] at h5; exact h5.elim

/-! ### own methods -/
structure MethF (X : Cx) (S : Sx) (G : Gx) (c : Nat) (m : Str) (n : Nat) (ks : List Str) (gT : List T → List T → List T) (fn : Fn) : Prop where
  ex : ∃ (k : Nat) (f : Addr) (fd : FuncData) (ps : List Str), Cls X.K (S.ι c) ∧ Meth X.K (S.ι c) m f ∧ FnG X.prog X.w X.K X.mg X.base k f fd ps (spM X.K S ps.length fn) ∧ Room k X.A ∧ BindM X.K S fd ps (n + 1) ks gT
  gd : X.A.guards = some []
  tk : L2N.Takes X G.W
def isIns (c : Nat) (m : Str) (x : T) (A : Hm) : Bool := match insOf A x with
  | some (c', fs) => c' == c && (fs.lookup m).isNone
  | none => false
theorem isIns_ok (hH : RelH K S ρ H A) {c : Nat} {t : T} {x : V} (r : MP.RelV K S ρ H t x) (h : isIns c m t A = true) : ∃ a dx gs, x = .ref a ∧ H a = some (.ins (S.ι c) dx gs) ∧ gs.lookup m = none := by
  unfold isIns at h
  split at h
  · rename_i c' fs q
    obtain ⟨a, dx, gs, rfl, ea, rf, hx⟩ := insOf_ok hH r q
    clear hx
    rw [Bool.and_eq_true] at h
    have hc := beq_iff_eq.mp h.1
    subst hc
    refine ⟨a, dx, gs, rfl, ea, ?_⟩
    have hn : fs.lookup m = none := by simpa using h.2
    clear h q ea
    induction rf with
    | nil => rfl
    | @cons g t y l xs a b ih =>
      simp only [List.lookup_cons] at hn ⊢
      cases qq : m == g with
      | true => rw [qq] at hn; cases hn
      | false => rw [qq] at hn; exact ih hn
  · cases h
def eMeth (c : Nat) (m : Str) (fn : Fn) (gT : List T → List T → List T) (mo : ME) (ml : ML) : ME := mbind mo fun x e A => if isIns c m x A = true then mbind ml (fun vs _ A => fn (gT (x :: vs) []) A) e A else .bad
variable {c n : Nat} {gT : List T → List T → List T} {fn : Fn} {pl : Sem Bool}
theorem d_meth (F : MethF X S G c m n [] gT fn) (ho : PE X o (tE X.K S G mo)) (ha : PA X (e :: es) (tL X.K S G ml)) (hl : LenL ml n) (hst : starEach (e :: es) X.env = (false, eval e X.env) :: starEach es X.env := by rfl) (hpl : (backTo pos (starEach es X.env)).any (·.1) = false := by rfl)
    (ht : eval (.Call (.Attribute o m apos) (e :: es) [] pos) X.env = (do
      let ov ← eval o X.env
      standAt apos.atName
      let (f, first) ← holding [ov] (getMethod ov m pl)
      callWith pos f first (backTo pos (starEach (e :: es) X.env)) (backToKw pos (keywordEach [] X.env))) := by rfl) :
    PE X (.Call (.Attribute o m apos) (e :: es) [] pos) (tE X.K S G (eMeth c m fn gT mo ml)) := by
  obtain ⟨⟨k, f, fd, ps, hcls, hme, F1, hr, ⟨g, gV, hb, hrel⟩⟩, gd, tk⟩ := F
  refine ⟨fun pins s σ H Q I h => ?_⟩
  refine PySem.W.methodCall_KW (pl := pl) (thn (ho.run pins s σ H _ I (tX.bind (rv := rV X.K S) h)) fun u s1 hh => ?_) ht
  obtain ⟨x, H1, I1, rx, v, A1, ρ1, ev, q1, q2, q3, q4, q5⟩ := hh
  split at q5
  · rename_i z
    obtain ⟨a, dx, gs, rfl, ea, hn⟩ := isIns_ok q1 q4 z
    obtain rfl : u = Value.ref a := rx
    refine getmeth_ok I1 ea hcls hme hn ?_
    refine PySem.W.callWith_K (first := [.ref a]) (h₀ := X.base) I.ok.mod.kin hme.kp (thn (ha.run pos pins s1 σ H1 _ I1 ⟨ρ1, A1, ev, q1, q2, q3, post.bindE (rv := rL X.K S) q5⟩) fun us s2 hh2 => ?_) hst hpl
    obtain ⟨vs, H2, I2, r, vs', A2, ρ2, u0, u1, u2, u3, u4, u5⟩ := hh2
    have lz := hl _ _ _ _ u0
    obtain ⟨w1, w2⟩ := hrel ρ2 H2 (v :: vs') (.ref a :: vs) [] [] (.cons (q4.mono u1 u2) u4) .nil (by rw [List.length_cons, lz]) rfl
    exact ⟨I2.kIn, run_G (us := .ref a :: us) (vs := .ref a :: vs) (ws := []) (zs := []) F1 hr gd hb tk I2 (.cons rfl r) .nil (by rw [List.length_cons, ← u4.length, lz]) rfl (spM_of u3 w1 w2 u5)⟩
  · exact q5.elim
theorem d_meth0 (F : MethF X S G c m 0 [] gT fn) (ho : PE X o (tE X.K S G mo))
    (ht : eval (.Call (.Attribute o m apos) [] [] pos) X.env = (do
      let ov ← eval o X.env
      standAt apos.atName
      let (f, first) ← holding [ov] (getMethod ov m pl)
      callWith pos f first (backTo pos (starEach [] X.env)) (backToKw pos (keywordEach [] X.env))) := by rfl) :
    PE X (.Call (.Attribute o m apos) [] [] pos) (tE X.K S G (eMeth c m fn gT mo aN)) := by
  obtain ⟨⟨k, f, fd, ps, hcls, hme, F1, hr, ⟨g, gV, hb, hrel⟩⟩, gd, tk⟩ := F
  refine ⟨fun pins s σ H Q I h => ?_⟩
  refine PySem.W.methodCall_KW (pl := pl) (thn (ho.run pins s σ H _ I (tX.bind (rv := rV X.K S) h)) fun u s1 hh => ?_) ht
  obtain ⟨x, H1, I1, rx, v, A1, ρ1, ev, q1, q2, q3, q4, q5⟩ := hh
  split at q5
  · rename_i z
    obtain ⟨a, dx, gs, rfl, ea, hn⟩ := isIns_ok q1 q4 z
    obtain rfl : u = Value.ref a := rx
    refine getmeth_ok I1 ea hcls hme hn ?_
    obtain ⟨w1, w2⟩ := hrel ρ1 H1 [v] [.ref a] [] [] (.cons q4 .nil) .nil rfl rfl
    exact PySem.W.callWith_K0 (first := [.ref a]) I1.kIn hme.kp (run_G (us := [.ref a]) (vs := [.ref a]) (ws := []) (zs := []) F1 hr gd hb tk I1 (.cons rfl .nil) .nil rfl rfl (spM_of q1 w1 w2 q5))
  · exact q5.elim
end

/-! ### list comprehensions -/
/-- a target of names: one, or a tuple of them -/
inductive Pt where | v (i : Nat) | t (is : List Nat)
def setAll : List Nat → List T → Env' → Env'
  | i :: is, t :: ts, e => setAll is ts (e.set i (some t))
  | _, _, e => e
def bindP (p : Pt) (t : T) (e : Env') : Option Env' := match p, t with
  | .v i, t => some (e.set i (some t))
  | .t is, .tup l => if l.length = is.length then some (setAll is l e) else none
  | _, _ => none
def gNames : List Nat → TGs
  | [] => gNil
  | i :: is => gCons (gName i) (gNames is)
def tP (K : PySem.W.Frag) (p : Pt) : TG := match p with
  | .v i => gName i
  | .t is => gTup K is.length (gNames is)
def Pt.slots : Pt → List Nat | .v i => [i] | .t is => is
def wipeE (e : Env') : List Nat → Env'
  | [] => e
  | v :: vs => (wipeE e vs).set v none
section
variable {K : PySem.W.Frag} {S : Sx} {G : Gx} {ρ : List Addr} {H : Hp} {A : Hm}
theorem wipeE_ok {e : Env'} {σ : L2.St} (r : RelS K S ρ H e σ) : ∀ vs : List Nat, RelS K S ρ H (wipeE e vs) (wipe σ vs)
  | [] => r
  | v :: vs => (wipeE_ok r vs).forget v
theorem wipe_J {σ : L2.St} (j : G.J ρ H σ) : ∀ {vs : List Nat}, (∀ i ∈ vs, G.Free i) → G.J ρ H (wipe σ vs)
  | [], _ => j
  | v :: vs, h => h v (List.mem_cons_self ..) _ _ _ _ (wipe_J j fun i hi => h i (List.mem_cons_of_mem _ hi))
theorem wipe_comm (σ : L2.St) (i : Nat) (x : Option V) : ∀ vs : List Nat, i ∈ vs → wipe (σ.set i x) vs = wipe σ vs
  | v :: vs, h => by
    by_cases e : i = v
    · subst e
      show (wipe (σ.set i x) vs).set i none = (wipe σ vs).set i none
      by_cases hm : i ∈ vs
      · rw [wipe_comm σ i x vs hm]
      · have : ∀ ws : List Nat, i ∉ ws → wipe (σ.set i x) ws = (wipe σ ws).set i x := by
          intro ws
          induction ws with
          | nil => intro _; rfl
          | cons w ws ih =>
            intro hw
            simp only [List.mem_cons, not_or] at hw
            show (wipe (σ.set i x) ws).set w none = ((wipe σ ws).set w none).set i x
            rw [ih hw.2, List.set_comm _ _ (hw.1)]
        rw [this vs hm, List.set_set]
    · have hm : i ∈ vs := by simpa [e] using h
      show (wipe (σ.set i x) vs).set v none = (wipe σ vs).set v none
      rw [wipe_comm σ i x vs hm]
theorem gNames_ok {vs : List Nat} {W0 : L2.St} (hF : ∀ i ∈ vs, G.Free i) {Q : L2.St → Hp → Prop} : ∀ {is : List Nat} {l : List T} {xs : List V} {e : Env'} {σ : L2.St}, (∀ i ∈ is, i ∈ vs) → l.length = is.length → RelL K S ρ H l xs → RelS K S ρ H e σ → G.J ρ H σ → wipe σ vs = W0 →
    (∀ σ', RelS K S ρ H (setAll is l e) σ' → G.J ρ H σ' → wipe σ' vs = W0 → Q σ' H) → gNames is xs σ H Q
  | [], l, xs, e, σ, _, hl, r, rs, j, hw, hq => by
    cases r with
    | nil => exact ⟨rfl, hq σ rs j hw⟩
    | cons _ _ => cases hl
  | i :: is, l, xs, e, σ, hi, hl, r, rs, j, hw, hq => by
    cases r with
    | nil => cases hl
    | cons a b =>
      exact ⟨_, _, rfl, gNames_ok hF (fun k hk => hi k (List.mem_cons_of_mem _ hk)) (by simpa using hl) b (rs.set i a) (hF i (hi i (List.mem_cons_self ..)) _ _ _ _ j)
        (by rw [wipe_comm _ _ _ _ (hi i (List.mem_cons_self ..))]; exact hw) hq⟩
theorem bindP_ok {vs : List Nat} {p : Pt} {t : T} {x : V} {e e1 : Env'} {σ : L2.St} (hF : ∀ i ∈ vs, G.Free i) (hp : ∀ i ∈ p.slots, i ∈ vs) (rx : MP.RelV K S ρ H t x) (rs : RelS K S ρ H e σ) (j : G.J ρ H σ) (h : bindP p t e = some e1) {Q : L2.St → Hp → Prop}
    (hq : ∀ σ', RelS K S ρ H e1 σ' → G.J ρ H σ' → wipe σ' vs = wipe σ vs → Q σ' H) : tP K p x σ H Q := by
  cases p with
  | v i =>
    simp only [bindP] at h
    cases h
    have hi := hp i (List.mem_singleton.mpr rfl)
    exact hq _ (rs.set i rx) (hF i hi _ _ _ _ j) (wipe_comm _ _ _ _ hi)
  | t is =>
    cases rx with
    | tup hs rl =>
      simp only [bindP] at h
      split at h
      · rename_i hl
        cases h
        exact ⟨_, _, rfl, hs, by rw [← rl.length]; exact hl, gNames_ok hF hp hl rl rs j rfl hq⟩
      · cases h
    | _ => cases h
def lcLoop (it : ItM) (p : Pt) (vs : List Nat) (tt : MB) (me : ME) (d : Nat) : Nat → Nat → Env' → Hm → R T
  | k, i, e, A => match it.get i A with
    | some none => .ok (.ref d) A
    | some (some t) => match k with
      | 0 => .bad
      | k + 1 => match bindP p t (wipeE e vs) with
        | some e1 => match tt e1 A with
          | .ok true A1 => match me e1 A1 with
            | .ok v A2 => match A2[d]? with
              | some (.lst acc) => if acc.length < sizeLine then lcLoop it p vs tt me d k (i + 1) e (putL d (acc ++ [v]) A2) else .bad
              | _ => .bad
            | _ => .bad
          | .ok false A1 => lcLoop it p vs tt me d k (i + 1) e A1
          | _ => .bad
        | none => .bad
    | none => .bad
def eLc (mi : MI) (p : Pt) (vs : List Nat) (tt : MB) (me : ME) : ME := mbind mi fun it e A => lcLoop it p vs tt me A.length it.n 0 e (A ++ [.lst []])
/-- where the block of a comprehension stands: nothing is raised out of it -/
def Gx.blk (G : Gx) : Gx := ⟨G.J, G.mono, fun _ _ _ _ => False⟩
def bYes : MB := fun _ A => .ok true A
variable {X : Cx} {elt tg iter : Expr} {ifs : List Expr} {scope : Scope} {own : List (Str × Nat)} {pos : Pos} {mi : MI} {p : Pt} {mt : MB} {me : ME} {tt : TT} {te : TE}
theorem lc_of {K : PySem.W.Frag} {vs : List Nat} {J : It} {it : ItM} {e0 : Env'} {σ : L2.St} {Q : VK} {ρ0 : List Addr} {H0 : Hp} {A0 : Hm} (hF : ∀ i ∈ vs, G.Free i) (hp : ∀ i ∈ p.slots, i ∈ vs)
    (h1 : RelH K S ρ0 H0 A0) (h2 : RelS K S ρ0 H0 e0 σ) (h3 : G.J ρ0 H0 σ) (wk : WalkM K S ρ0 H0 it J) (h5 : post K S (rV K S) G.W ρ0 σ H0 Q (lcLoop it p vs mt me A0.length it.n 0 e0 (A0 ++ [.lst []]))) :
    ∀ D, H0 D = none → ∃ W : Nat → Nat → Hp → Prop, (∃ m, W 0 m (upd H0 D (.lst []))) ∧ ∀ i m H, W i m H →
      (J.stop i H ∧ Q (.ref D) H) ∨ (J.go i H ∧ ∃ Nx : Hp → Prop, (∀ H', Nx H' → ∃ m', m' < m ∧ W (i + 1) m' H') ∧ ∀ x H', J.yld i H x H' → tP K p x (wipe σ vs) H' fun σ2 H2 => wipe σ2 vs = wipe σ vs ∧ (MP.tB K S G.blk mt) σ2 H2 fun b H3 =>
        if b = true then (tE K S G.blk me) σ2 H3 fun y H4 => ∃ acc, H4 D = some (.lst acc) ∧ acc.length < sizeLine ∧ Nx (upd H4 D (.lst (acc ++ [y]))) else Nx H3) := by
  intro D hD
  have m0 : Mono H0 (upd H0 D (.lst [])) := Mono.new hD
  have hS : RelH K S (ρ0 ++ [D]) (upd H0 D (.lst [])) (A0 ++ [.lst []]) := h1.new hD (.lst .nil)
  have pr : ρ0 <+: ρ0 ++ [D] := List.prefix_append _ _
  have hDn : (ρ0 ++ [D])[A0.length]? = some D := by rw [List.getElem?_append_right (by rw [h1.len]; exact Nat.le_refl _), ← h1.len]; simp
  refine ⟨fun i m H => ∃ (ρ : List Addr) (A : Hm), ρ0 ++ [D] <+: ρ ∧ Mono H0 H ∧ RelH K S ρ H A ∧ post K S (rV K S) G.W ρ σ H Q (lcLoop it p vs mt me A0.length m i e0 A), ⟨it.n, _, _, List.prefix_rfl, m0, hS, post.base h5 pr m0⟩, ?_⟩
  rintro i m H ⟨ρ, A, r0, m1, hH, q⟩
  have r1 : ρ0 <+: ρ := pr.trans r0
  have hdD : ρ[A0.length]? = some D := pre_get r0 hDn
  unfold lcLoop at q
  cases qg : it.get i A with
  | none => rw [qg] at q; exact q.elim
  | some ot =>
    rw [qg] at q
    cases ot with
    | none => exact .inl ⟨wk.1 ρ H A i r1 m1 hH qg, Fut.here q hH _ (.ref hdD)⟩
    | some t =>
      cases m with
      | zero => exact q.elim
      | succ k =>
        obtain ⟨go, yl⟩ := wk.2 ρ H A i t r1 m1 hH qg
        refine .inr ⟨go, fun H' => ∃ (ρ : List Addr) (A : Hm), ρ0 ++ [D] <+: ρ ∧ Mono H0 H' ∧ RelH K S ρ H' A ∧ post K S (rV K S) G.W ρ σ H' Q (lcLoop it p vs mt me A0.length k (i + 1) e0 A), fun H' w => ⟨k, Nat.lt_succ_self _, w⟩, fun x H2 hy => ?_⟩
        obtain ⟨rx, hH2, m2⟩ := yl x H2 hy
        dsimp only at q
        cases qb : bindP p t (wipeE e0 vs) with
        | none => rw [qb] at q; exact q.elim
        | some e1 =>
          rw [qb] at q
          dsimp only at q
          have m12 := m1.trans m2
          have ww : wipe (wipe σ vs) vs = wipe σ vs := by
            have : ∀ ws : List Nat, (∀ i ∈ ws, i ∈ vs) → wipe (wipe σ ws) vs = wipe σ vs := by
              intro ws
              induction ws with
              | nil => intro _; rfl
              | cons w ws ih => intro hw; show wipe ((wipe σ ws).set w none) vs = _; rw [wipe_comm _ _ _ _ (hw w (List.mem_cons_self ..))]; exact ih fun i hi => hw i (List.mem_cons_of_mem _ hi)
            exact this vs fun _ h => h
          refine bindP_ok (vs := vs) hF hp rx (wipeE_ok (h2.mono r1 m12) vs) (wipe_J (G.mono r1 m12 h3) hF) qb fun σ2 rs2 j2 hw2 => ⟨hw2.trans ww, ρ, A, e1, hH2, rs2, j2, ?_⟩
          have next : ∀ {ρ3 : List Addr} {H3 : Hp} {A3 : Hm}, ρ <+: ρ3 → Mono H2 H3 → RelH K S ρ3 H3 A3 → post K S (rV K S) G.W ρ σ H Q (lcLoop it p vs mt me A0.length k (i + 1) e0 A3) →
              ∃ (ρ : List Addr) (A : Hm), ρ0 ++ [D] <+: ρ ∧ Mono H0 H3 ∧ RelH K S ρ H3 A ∧ post K S (rV K S) G.W ρ σ H3 Q (lcLoop it p vs mt me A0.length k (i + 1) e0 A) :=
            fun {ρ3 H3 A3} a b c d => ⟨ρ3, A3, r0.trans a, m12.trans b, c, post.base d a (m2.trans b)⟩
          cases qt : mt e1 A with
          | ok b A1 =>
            rw [qt] at q
            rintro ρ3 H3 u1 u2 u3 b' rfl
            cases b with
            | false => exact iteF (next u1 u2 u3 q)
            | true =>
              refine iteT ⟨ρ3, A1, e1, u3, rs2.mono u1 u2, G.mono u1 u2 j2, ?_⟩
              dsimp only at q
              cases qe : me e1 A1 with
              | ok v A2 =>
                rw [qe] at q
                dsimp only at q
                intro ρ4 H4 v1 v2 v3 y hy
                cases qd : A2[A0.length]? with
                | none => rw [qd] at q; exact q.elim
                | some cell =>
                  rw [qd] at q
                  cases cell with
                  | lst acc =>
                    dsimp only at q
                    by_cases z : acc.length < sizeLine
                    · rw [if_pos z] at q
                      have hd4 := pre_get (u1.trans v1) hdD
                      obtain ⟨ys, eD, rD⟩ := mut_ok v3 hd4 qd
                      have m5 : Mono H4 (upd H4 D (.lst (ys ++ [y]))) := Mono.put eD (fun z => z)
                      refine ⟨ys, eD, by rw [← rD.length]; exact z, next (u1.trans v1) ((u2.trans v2).trans m5) (v3.put hd4 eD (fun z => z) (fun _ z => by cases z) (.lst ((rD.append (.cons hy .nil)).mono List.prefix_rfl m5))) q⟩
                    · rw [if_neg z] at q; exact q.elim
                  | _ => exact q.elim
              | err c fs A2 => rw [qe] at q; exact q.elim
              | bad => rw [qe] at q; exact q.elim
          | err c fs A1 => rw [qt] at q; exact q.elim
          | bad => rw [qt] at q; exact q.elim
theorem d_lc (hc : X.calm = true) (hN : X.N.Nodup) (hi : PI X tg iter (tI X.K S G mi)) (ok : BlkOk X.N X.env.scope scope own) (hF : ∀ i ∈ own.map (·.2), G.Free i) (hp : ∀ i ∈ p.slots, i ∈ own.map (·.2))
    (hg : ∀ (s : Shared) (H : Hp) (C : Addr) (cl : List (Str × Addr)) (fp : List Addr), PG (X.blk s H scope (compEnvC scope cl C X.env) fp) tg (tP X.K p)) (ht : ∀ (s : Shared) (H : Hp) (C : Addr) (cl : List (Str × Addr)) (fp : List Addr), PTs (X.blk s H scope (compEnvC scope cl C X.env) fp) ifs (MP.tB X.K S G.blk mt))
    (he : ∀ (s : Shared) (H : Hp) (C : Addr) (cl : List (Str × Addr)) (fp : List Addr), PE (X.blk s H scope (compEnvC scope cl C X.env) fp) elt (tE X.K S G.blk me)) (hs : ∀ x, foldedSetIterable iter X.env x = pure x := by intro _; rfl) :
    PE X (.ListComp elt [⟨tg, iter, ifs, 0⟩] scope pos) (tE X.K S G (eLc mi p (own.map (·.2)) mt me)) := by
  refine PE.imp (pe_lc hc hN hi ok hg ht he hs) fun σ H Q h => ?_
  refine (tX.bind (rv := fun ρ H it J => WalkM X.K S ρ H it J) h).mono ?_
  rintro J H0 ⟨it, A0, ρ0, e0, h1, h2, h3, wk, h5⟩
  exact lc_of hF hp h1 h2 h3 wk h5
/-- y = [..], y a local -/
theorem ds_setLc (i : Nat) {y : Str} {py spos : Pos} (hc : X.calm = true) (hN : X.N.Nodup) (hj : G.Free i) (hy : X.N[i]? = some y) (hyl : X.env.scope.names.lookup y = some .local) (hsw : swapsWith (.ListComp elt [⟨tg, iter, ifs, 0⟩] scope pos) (some (.Name y py)) spos.line X.env = pure true)
    (hi : PI X tg iter (tI X.K S G mi)) (ok : BlkOk X.N X.env.scope scope own) (hF : ∀ i ∈ own.map (·.2), G.Free i) (hp : ∀ i ∈ p.slots, i ∈ own.map (·.2))
    (hg : ∀ (s : Shared) (H : Hp) (C : Addr) (cl : List (Str × Addr)) (fp : List Addr), PG (X.blk s H scope (compEnvC scope cl C X.env) fp) tg (tP X.K p)) (ht : ∀ (s : Shared) (H : Hp) (C : Addr) (cl : List (Str × Addr)) (fp : List Addr), PTs (X.blk s H scope (compEnvC scope cl C X.env) fp) ifs (MP.tB X.K S G.blk mt))
    (he : ∀ (s : Shared) (H : Hp) (C : Addr) (cl : List (Str × Addr)) (fp : List Addr), PE (X.blk s H scope (compEnvC scope cl C X.env) fp) elt (tE X.K S G.blk me)) (hs : ∀ x, foldedSetIterable iter X.env x = pure x := by intro _; rfl) :
    PS X (.Assign [.Name y py] (.ListComp elt [⟨tg, iter, ifs, 0⟩] scope pos) spos) (tS X.K S G (sAsg (eLc mi p (own.map (·.2)) mt me) (gV i))) := by
  refine PS.imp (ps_setLc hc hN hy hyl hsw hi ok hg ht he hs) fun D σ H h => ?_
  have h' : tE X.K S G (eLc mi p (own.map (·.2)) mt me) σ H (fun x H1 => gName i x σ H1 D.nx) := by
    refine (tS.bind (rv := rV X.K S) h).mono ?_
    rintro x H1 ⟨v, A1, ρ1, e, h1, h2, h3, h4, h5⟩
    exact h5 ρ1 H1 List.prefix_rfl Mono.refl h1 _ (h2.set i h4) (hj _ _ _ _ h3)
  refine (tX.bind (rv := fun ρ H it J => WalkM X.K S ρ H it J) h').mono ?_
  rintro J H0 ⟨it, A0, ρ0, e0, h1, h2, h3, wk, h5⟩
  exact lc_of hF hp h1 h2 h3 wk h5
theorem dts_nil {K : PySem.W.Frag} : PTs X [] (MP.tB K S G bYes) := ⟨fun pins s σ H Q I h => pts_nil.run pins s σ H Q I (by
  obtain ⟨ρ, A, e, h1, h2, h3, h4⟩ := h
  exact Fut.here h4 h1 _ rfl)⟩
theorem dts_one {K : PySem.W.Frag} {c : Expr} (h : PT X c (MP.tB K S G mt)) : PTs X [c] (MP.tB K S G mt) := pts_one h
end
end MP
end S10
section S11
set_option Elab.async false
set_option linter.all false
set_option maxRecDepth 100000
/-! MPk: exceptions of own classes with an __init__, made and raised. -/
namespace MP
open PySem PySem.Spec PyProof.Rows L2

/-! ### the text that such an __init__ hands on -/
def txtV : V → Option Str
  | .str y => if y.length ≤ sizeLine then some y else none
  | .int i => if i.natAbs.log2 < 1920 then some (toString i) else none
  | _ => none
def txtT : T → Option Str
  | .str y => if y.length ≤ sizeLine then some y else none
  | .int i => if i.natAbs.log2 < 1920 then some (toString i) else none
  | _ => none
theorem txt_eq {K : PySem.W.Frag} {S : Sx} {ρ : List Addr} {H : Hp} {t : T} {x : V} (r : MP.RelV K S ρ H t x) : txtV x = txtT t := by cases r <;> rfl
/-- the pieces: a text of its own, or the value -/
def joinable : List (Option Str) → Str → Option Str → Bool
  | [], _, _ => true
  | some c :: r, acc, x => decide ((acc ++ c).length ≤ sizeLine) && joinable r (acc ++ c) x
  | none :: r, acc, x => match x with
    | some y => decide ((acc ++ y).length ≤ sizeLine) && joinable r (acc ++ y) x
    | none => false
section
variable {X : Cx}
/-- a text made of slot i -/
def TxtP (X : Cx) (i : Nat) (e : Expr) (ok : Option Str → Bool) : Prop := PE X e (fun σ H Q => ∃ y, σ[i]? = some (some y) ∧ ok (txtV y) = true ∧ ∀ z : Str, Q (.str z) H)
theorem txt_const {i : Nat} {c : Str} {j : Nat} {pos : Pos} : TxtP X i (.Constant (.str c) j pos) (fun _ => true) := PE.imp pe_str fun σ H Q ⟨_, _, _, h⟩ => h _
inductive TxtL (X : Cx) (i : Nat) : List Expr → List (Option Str) → Prop
  | nil : TxtL X i [] []
  | cst {c : Str} {j : Nat} {pos : Pos} {es : List Expr} {ps : List (Option Str)} (r : TxtL X i es ps) : TxtL X i (.Constant (.str c) j pos :: es) (some c :: ps)
  | var {x : Str} {pos p2 : Pos} {es : List Expr} {ps : List (Option Str)} (hN : X.N[i]? = some x) (hv : Vis X.env.scope x) (hd : (x == ("__debug__" : Str)) = false) (hcd : (x == ("__classdict__" : Str)) = false) (r : TxtL X i es ps) : TxtL X i (.FormattedValue (.Name x pos) (-1) none p2 :: es) (none :: ps)
theorem txt_pj {i : Nat} {es : List Expr} {ps : List (Option Str)} (h : TxtL X i es ps) : ∃ ts : List TE, PJ X es ts ∧ ∀ (acc : Str) (σ : L2.St) (H : Hp) (Q : Str → Hp → Prop) (y : V), σ[i]? = some (some y) → joinable ps acc (txtV y) = true → (∀ z, Q z H) → tJs ts acc σ H Q := by
  induction h with
  | nil => exact ⟨[], .nil, fun acc σ H Q y _ _ h => h _⟩
  | @cst c j pos es ps r ih =>
    obtain ⟨ts, h1, h2⟩ := ih
    refine ⟨_, .cons pe_str h1, fun acc σ H Q y hy hj h => ?_⟩
    simp only [joinable, Bool.and_eq_true, decide_eq_true_eq] at hj
    exact ⟨c, rfl, hj.1, h2 _ σ H Q y hy hj.2 h⟩
  | @var x pos p2 es ps hN hv hd hcd r ih =>
    obtain ⟨ts, h1, h2⟩ := ih
    refine ⟨_, .cons (pe_fmt (pe_var hN hv hd hcd)) h1, fun acc σ H Q y hy hj h => ?_⟩
    refine ⟨y, hy, ?_⟩
    unfold joinable at hj
    cases q : txtV y with
    | none => rw [q] at hj; cases hj
    | some z =>
      rw [q] at hj
      simp only [Bool.and_eq_true, decide_eq_true_eq] at hj
      have fin : ∃ y : Str, V.str z = .str y ∧ (acc ++ y).length ≤ sizeLine ∧ tJs _ (acc ++ y) σ H Q := ⟨z, rfl, hj.1, h2 _ σ H Q y hy (by rw [q]; exact hj.2) h⟩
      cases y with
      | str s =>
        simp only [txtV] at q
        split at q
        · rename_i l; cases q; exact .inl ⟨_, rfl, l, fin⟩
        · cases q
      | int i =>
        simp only [txtV] at q
        split at q
        · rename_i l; cases q; exact .inr ⟨_, rfl, l, fin⟩
        · cases q
      | _ => cases q
theorem txt_js {i : Nat} {v1 v2 : Expr} {rest : List Expr} {ps : List (Option Str)} {pos : Pos} (h : TxtL X i (v1 :: v2 :: rest) ps) : TxtP X i (.JoinedStr (v1 :: v2 :: rest) pos) (joinable ps Str.empty) := by
  obtain ⟨ts, h1, h2⟩ := txt_pj h
  exact PE.imp (pe_joined h1) fun σ H Q ⟨y, hy, hj, h⟩ => h2 _ σ H _ y hy hj fun z => h z
/-- B.__init__(self, ..), B a class of the text -/
theorem pe_binit {bx : Str} {CB : Addr} {pl : Sem Bool} {ta : TA} {e : Expr} {es : List Expr} {p1 p2 pos : Pos} (hg : Gl X bx) (hm : X.mg bx = some (.ref CB)) (hga : PySem.W.specialIn X.K (.ref CB) "__getattribute__" = some (some (.builtin "type.__getattribute__")))
    (hrd : PySem.W.readsIn X.K CB (.type "type") = true) (vV : PySem.W.findCls X.K (.ref CB) (.type "type") "__init__" = some (.val (.builtin "ValueError.__init__"))) (ha : PA X (e :: es) ta) (hdb : (bx == ("__debug__" : Str)) = false := by decide)
    (hc : eval (.Call (.Attribute (.Name bx p1) "__init__" p2) (e :: es) [] pos) X.env = (do
      let ov ← eval (.Name bx p1) X.env
      standAt p2.atName
      let (f, first) ← holding [ov] (getMethod ov "__init__" pl)
      callWith pos f first (backTo pos (starEach (e :: es) X.env)) (backToKw pos (keywordEach [] X.env))) := by rfl)
    (he : starEach (e :: es) X.env = (false, eval e X.env) :: starEach es X.env := by rfl) (hpl : (backTo pos (starEach es X.env)).any (·.1) = false := by rfl) :
    PE X (.Call (.Attribute (.Name bx p1) "__init__" p2) (e :: es) [] pos) (tVeI X.K ta) := by
  refine ⟨fun pins s σ H Q I h => ?_⟩
  refine PySem.W.methodCall_KW (ld_glob I hg hm ?_ hdb) hc
  refine PySem.W.method_cls I.kIn hga (PySem.W.cls_value I.kIn hrd vV (by decide +kernel) ?_)
  show wpAny _ _ (callWith pos (Value.builtin "ValueError.__init__") [] (backTo pos (starEach (e :: es) X.env)) []) _ _ _
  refine PyProof.Rows.callWith_method1 (thn (ha.run pos pins _ σ H _ (I.tok _) h) fun us s1 hh => ?_) he hpl
  obtain ⟨vs, H1, I1, r1, a, C, ws, ev, hl, T, ea, q⟩ := hh
  subst ev
  cases r1 with
  | @cons _ u0 _ ur ra rw' =>
    obtain rfl : u0 = Value.ref a := ra
    exact oinit_ok T I1 ea (by rw [← Paired.length rw', sizeLine_eq]; omega) fun s' J => ⟨.non, H1, J, rfl, q⟩

/-! ### such an __init__ -/
/-- its promise: the field is set, nothing else is new -/
def spInit (K : PySem.W.Frag) (C : Addr) (f : Str) (ok : Option Str → Bool) : Sp := fun vs H Q _ => ∃ (a : Addr) (y : V), vs = [.ref a, y] ∧ OexC K C ∧ PySem.W.findIn K (.ref C) f = some none ∧ ok (txtV y) = true ∧ H a = some (exo a C none) ∧
  ∀ dx, H dx = none → dx ≠ a → Q .non (upd (upd H dx (exd dx [(f, y)])) a (exo a C (some dx)))
theorem ds_init {C : Addr} {f : Str} {ok : Option Str → Bool} {ec et : Expr} {sx px : Str} {p3 p5 p6 p7 p8 p9 : Pos}
    (hs0 : X.N[0]? = some sx := by rfl) (hs1 : X.N[1]? = some px := by rfl) (hv0 : Vis X.env.scope sx := by exact Or.inl rfl) (hv1 : Vis X.env.scope px := by exact Or.inl rfl) (hd0 : (sx == ("__debug__" : Str)) = false := by decide) (hd1 : (px == ("__debug__" : Str)) = false := by decide)
    (hc0 : (sx == ("__classdict__" : Str)) = false := by decide) (hc1 : (px == ("__classdict__" : Str)) = false := by decide)
    (hE : ∀ ta : TA, PA X [.Name sx p3, et] ta → PE X ec (tVeI X.K ta)) (ht : TxtP X 1 et ok) (he1 : swapsWith ec none p5.line X.env = pure false := by rfl) (he2 : starEach [.Name sx p3, et] X.env = (false, eval (.Name sx p3) X.env) :: starEach [et] X.env := by rfl)
    (he3 : starEach [et] X.env = (false, eval et X.env) :: starEach [] X.env := by rfl) (hsw : swapsWith (.Name px p8) (some (.Attribute (.Name sx p6) f p7)) p9.line X.env = pure false := by rfl) :
    PSs X [.Expr ec p5, .Assign [.Attribute (.Name sx p6) f p7] (.Name px p8) p9] (fun D σ H => ∃ (a : Addr) (y : V), σ = [some (.ref a), some y] ∧ OexC X.K C ∧ PySem.W.findIn X.K (.ref C) f = some none ∧ ok (txtV y) = true ∧ H a = some (exo a C none) ∧
      ∀ dx, H dx = none → dx ≠ a → D.nx σ (upd (upd H dx (exd dx [(f, y)])) a (exo a C (some dx)))) := by
  have A1 := hE _ (pa_cons (pe_var hs0 hv0 hd0 hc0) (pa_cons ht pa_nil he3) he2)
  refine PSs.imp (pss_cons (ps_expr A1 he1) (pss_one (ps_ost (pe_var hs0 hv0 hd0 hc0) (pe_var hs1 hv1 hd1 hc1) hsw))) fun D σ H h => ?_
  obtain ⟨a, y, rfl, hT, hno, hok, ea, h⟩ := h
  show ∃ v, _ ∧ ∃ w, _ ∧ _ ∧ _
  refine ⟨.ref a, rfl, y, rfl, hok, fun z => ⟨a, C, [.str z], rfl, (by show 1 ≤ 1000; decide), hT, ea, ?_⟩⟩
  exact ⟨y, rfl, .ref a, rfl, a, C, rfl, hT, hno, .inl ⟨ea, h⟩⟩
end
/-- such an __init__ keeps its promise -/
theorem d_initF {P : Program} {w : World} {K : PySem.W.Frag} {mg : Str → Option Value} {base : Heap} {x qual : Str} {st : Stmt} {f : Addr} {fd : FuncData} {N ps : List Str} {k : Nat} {C : Addr} {fl : Str} {ok : Option Str → Bool} (F : FD K x qual st [] [] f fd) (sc : FnScope N ps (defScope st)) (hl : ps.length = 2) (hN : N.length = 2)
    (hbody : ∀ (cdv : Value) (A : Around) (outer : List Env) (s : Shared) (H : Hp) (E : XK), Room k (A.deeper (envOfC qual (defScope st) s.heap.objs.size f cdv)) → A.guards = some [] →
      PSs (cxOf (L2N.CX P w) P w K mg base N qual (defScope st) f cdv A outer s H E) (defBody st) (fun D σ H => ∃ (a : Addr) (y : V), σ = [some (.ref a), some y] ∧ OexC K C ∧ PySem.W.findIn K (.ref C) fl = some none ∧ ok (txtV y) = true ∧ H a = some (exo a C none) ∧
        ∀ dx, H dx = none → dx ≠ a → D.nx σ (upd (upd H dx (exd dx [(fl, y)])) a (exo a C (some dx))))) :
    FnG P w K mg base (k + 1) f fd ps (spInit K C fl ok) := by
  obtain ⟨oc, od, dV, kV, doc, pm, an, cdv, ct, osl, rfl, lk, hcd, _, _⟩ := F.ex
  have len : ∀ vs H Q E, spInit K C fl ok vs H Q E → vs.length = ps.length := fun vs H Q E ⟨_, _, h, _⟩ => by rw [h, hl]; rfl
  refine ⟨len, fun A outer s H args us vs Q E hr hg e0 hb r hsp => ?_⟩
  have l := len _ _ _ _ hsp
  obtain ⟨a, y, rfl, h1, h2, h3, h4, h5⟩ := hsp
  refine LamX.run_ofS lk hcd sc hr e0 hb r l fun hr' => ⟨_, hbody cdv A outer s H E hr' hg, ?_⟩
  refine ⟨a, y, ?_, h1, h2, h3, h4, h5⟩
  show [some (V.ref a), some y] ++ List.replicate (N.length - 2) none = _
  rw [hN]; rfl

/-! ### raise C(e) -/
structure RaiseF (X : Cx) (S : Sx) (G : Gx) (x : Str) (c : Nat) (f : Str) (ok : Option Str → Bool) : Prop where
  ex : ∃ (k : Nat) (fI : Addr) (fd : FuncData) (ps : List Str), FnG X.prog X.w X.K X.mg X.base k fI fd ps (spInit X.K (S.ι c) f ok) ∧ Room (k + 1) X.A ∧ X.mg x = some (.ref (S.ι c)) ∧ Binds X.K fd ps [] ∧ ps.length = 2 ∧
    PySem.W.findIn X.K (.ref (S.ι c)) "__init__" = some (some (.ref fI)) ∧ PySem.W.typeIn X.K (.ref fI) = some (.type "function")
  cls : OexC X.K (S.ι c)
  no : PySem.W.findIn X.K (.ref (S.ι c)) f = some none
  gd : X.A.guards = some []
  tk : L2N.Takes X G.W
section
variable {X : Cx} {S : Sx} {G : Gx} {x f : Str} {c : Nat} {ok : Option Str → Bool} {e : Expr} {me : ME} {p pos rpos : Pos}
def sRaise (c : Nat) (f : Str) (ok : Option Str → Bool) (m : ME) : MS := sBind m fun t e A => if ok (txtT t) = true then .err e c [(f, t)] A else .bad
theorem xd_eq {H : Hp} {a d C : Addr} {fs : List (Str × V)} (ha : H a = none) (hd : d ≠ a) : upd (del (upd (upd (upd H a (exo a C none)) d (exd d fs)) a (exo a C (some d))) a) d (.xd fs) = upd H d (.xd fs) := by
  funext b
  by_cases h1 : b = d
  · subst h1; rw [upd_same, upd_same]
  · rw [upd_ne h1, upd_ne h1]
    by_cases h2 : b = a
    · subst h2; rw [del_same, ha]
    · rw [del_ne h2, upd_ne h2, upd_ne h1, upd_ne h2]
/-- C(e) as a thing to raise -/
theorem pmk_own (F : RaiseF X S G x c f ok) (ha : PE X e (tE X.K S G me)) (hg : Gl X x) (hdb : (x == ("__debug__" : Str)) = false)
    (he : starEach [e] X.env = (false, eval e X.env) :: starEach [] X.env) (hpl : (backTo pos (starEach [] X.env)).any (·.1) = false) :
    L2N.PMk X (.Call (.Name x p) [e] [] pos) (fun σ H Q => tE X.K S G me σ H fun y H1 => ok (txtV y) = true ∧ ∀ d, H1 d = none → Q (.ref (S.ι c)) (some d) (upd H1 d (.xd [(f, y)]))) := by
  intro pins s σ H Q I h
  obtain ⟨⟨k, fI, fd, ps, F1, hr, hm, hb, hl2, iC, tI⟩, T, hno, hgd, tk⟩ := F
  obtain ⟨nm, q, N, bs, bm, sn, sub, ab, col, dd, k0, k1, k2, k3, k5, hC, hbm⟩ := T.cls
  refine wpAny_Call_Name_kw (ld_glob I hg hm ?_ hdb)
  refine PySem.W.callWith_K (h₀ := X.base) I.ok.mod.kin T.kC (thn ((pa_cons ha pa_nil he).run pos pins s σ H (fun vs H1 => ∃ y, vs = [y] ∧ ok (txtV y) = true ∧ ∀ d, H1 d = none → Q (.ref (S.ι c)) (some d) (upd H1 d (.xd [(f, y)]))) I (tX.mono h fun y H1 hy => ⟨y, rfl, hy⟩)) fun us s1 hh => ?_) he hpl
  obtain ⟨vs, H1, I1, r1, y, rfl, hok, q1⟩ := hh
  refine ⟨I1.kIn, ?_⟩
  obtain ⟨u, rfl, ry⟩ := vals1 r1
  show wpAny _ _ (call (.ref (S.ι c)) [u]) _ _ _
  obtain ⟨hp, g, dr, tk', os⟩ := s1
  have hsz : hp.objs.size ≤ hp.objs.size + 1 := Nat.le_succ _
  have hn : H1 (hp.objs.size + 1) = none := I1.hok.fresh hsz
  have kk : ∀ b o, hp.get? b = some o → ((hp.push (PySem.W.kdv_tup [u])).push (PySem.HandSPX.excO (S.ι c) hp.objs.size)).get? b = some o := fun b o e => Heap.get?_push_of_some _ (Heap.get?_push_of_some _ e)
  have hget : ((hp.push (PySem.W.kdv_tup [u])).push (PySem.HandSPX.excO (S.ι c) hp.objs.size)).get? (hp.objs.size + 1) = some (PySem.HandSPX.excO (S.ι c) hp.objs.size) := by heap_get
  have I2 : Inv X pins σ (upd H1 (hp.objs.size + 1) (exo (hp.objs.size + 1) (S.ι c) none)) ⟨(hp.push (PySem.W.kdv_tup [u])).push (PySem.HandSPX.excO (S.ι c) hp.objs.size), g, dr, tk', os⟩ :=
    I1.laid (t' := tk') (a := hp.objs.size + 1) (o := exo (hp.objs.size + 1) (S.ι c) none) (h' := (hp.push (PySem.W.kdv_tup [u])).push (PySem.HandSPX.excO (S.ι c) hp.objs.size)) kk hsz (exo_ok hget)
  have r2 : Vals [V.ref (hp.objs.size + 1), y] [Value.ref (hp.objs.size + 1), u] := .cons rfl r1
  have b2 := hb _ [Value.ref (hp.objs.size + 1), u] I2.kIn (by rw [hl2]; rfl)
  have hgu : (X.A.under (.builtin "type.__call__" ⟨[.ref (S.ι c), u], []⟩)).guards = some [] := by
    first
      | exact hgd
      | (simp [Around.under, Code.guards, Code.isGuard, guardIds, pushGuards, hgd])
  have hq : spInit X.K (S.ι c) f ok [V.ref (hp.objs.size + 1), y] (upd H1 (hp.objs.size + 1) (exo (hp.objs.size + 1) (S.ι c) none))
      (fun v H2 => v = .non ∧ ∃ d, H1 d = none ∧ d ≠ hp.objs.size + 1 ∧ H2 = upd (upd (upd H1 (hp.objs.size + 1) (exo (hp.objs.size + 1) (S.ι c) none)) d (exd d [(f, y)])) (hp.objs.size + 1) (exo (hp.objs.size + 1) (S.ι c) (some d))) (WE G.W σ) :=
    ⟨_, y, rfl, T, hno, hok, upd_same, fun dx hdx hne => ⟨rfl, dx, by rw [upd_ne hne] at hdx; exact hdx, hne, rfl⟩⟩
  refine wpAny_call (PySem.HandSPX.call_own F.excBase_ValueError (fun Y => PySem.HandSPX.refsVE_contains Y bm hbm) (I1.kIn _ _ hC) (PySem.W.looks_findIn I1.kIn iC) (fun self => PySem.W.bind_fn I1.kIn self tI) (by show 1 ≤ sizeLine; rw [sizeLine_eq]; omega)
    (codeAny_mono (F1.run _ X.stack _ _ ⟨[Value.ref (hp.objs.size + 1), u], []⟩ [Value.ref (hp.objs.size + 1), u] _ _ (WE G.W σ) (hr.make (S.ι c) [u] []) hgu (I2.env0.make (S.ι c) [u] []) b2 r2 hq) fun r s' hq' => ?_))
  cases r with
  | error er => exact L2N.passAt tk σ pins _ _ er s' I2 hq'
  | ok fl =>
    cases fl with
    | ret u2 =>
      obtain ⟨v, H2, os2, bare2, un2, hok2, rv, ev, d, hd1, hda, eH⟩ := hq'
      subst ev
      subst eH
      obtain ⟨h2, g2, d2, t2, os'⟩ := s'
      obtain ⟨t0, G', J, kG, ge, hoe, na⟩ := mk_end0 (d2 := d2) (t2 := t2) (d := d) (fs := [(f, y)]) I1 hsz kk un2 hok2 os2 bare2 upd_same (by rw [upd_ne hda, upd_same]) hd1
      rw [xd_eq hn hda] at J na
      exact ⟨rv, ⟨hp.objs.size + 1, _, _, ⟨G', g2, d2, t2, os'⟩, _, .ref (S.ι c), some d, rfl, J, kG, ge, hoe, ⟨rfl, rfl, fun vs hv => by cases hv; rfl⟩, rfl, rfl, na, rfl, bare2, raises_own T.exC T.tyC, q1 d hd1⟩⟩
    | next => exact False.elim hq'
    | brk => exact False.elim hq'
    | cont => exact False.elim hq'
theorem ds_raise (hc : X.calm = true) (F : RaiseF X S G x c f ok) (ha : PE X e (tE X.K S G me)) (hg : Gl X x := by rfl) (hdb : (x == ("__debug__" : Str)) = false := by decide)
    (he : starEach [e] X.env = (false, eval e X.env) :: starEach [] X.env := by rfl) (hpl : (backTo pos (starEach [] X.env)).any (·.1) = false := by rfl) :
    PS X (.Raise (some (.Call (.Name x p) [e] [] pos)) none rpos) (tS X.K S G (sRaise c f ok me)) := by
  refine PS.imp (L2N.ps_raise hc F.tk (pmk_own F ha hg hdb he hpl)) fun D σ H h => ?_
  refine (tS.bind (rv := rV X.K S) h).mono ?_
  rintro y H1 ⟨t, A1, ρ1, ev, h1, h2, h3, h4, h5⟩
  split at h5
  · rename_i z
    refine ⟨by rw [txt_eq h4]; exact z, fun d hd => ?_⟩
    have m : Mono H1 (upd H1 d (.xd [(f, y)])) := Mono.new hd
    exact h5 ρ1 _ List.prefix_rfl m (h1.side hd) σ (h2.mono List.prefix_rfl m) (G.mono List.prefix_rfl m h3) d _ upd_same (.cons (h4.mono List.prefix_rfl m) .nil)
  · exact h5.elim
end
end MP
end S11
section S12
set_option Elab.async false
set_option linter.all false
set_option maxRecDepth 100000
/-! MPl: a lambda without parameters, handed to a def ahead of other values. -/
namespace MP
open PySem PySem.Spec PyProof.Rows L2

/-- further frames beside, all of them new -/
theorem un_on {fs fs' : List Addr} {H H1 H2 : Hp} {h h1 h2 : Heap} (a : Un fs [] H H1 h h1) (b : Un fs' [] H1 H2 h1 h2) (up : ∀ x ∈ fs, x ∈ fs') (dn : ∀ x ∈ fs', x ∈ fs ∨ h.get? x = none) : Un fs [] H H2 h h2 where
  keep := fun c ob q n hc hx => b.keep c ob (a.keep c ob q n hc hx) (a.free c ob q n hx) (fun z => (dn c z).elim hc fun y => by rw [q] at y; cases y) hx
  slot := fun c ob q n hc hx => by
    obtain ⟨sl, e1⟩ := a.slot c ob q n hc hx
    obtain ⟨sl', e2⟩ := b.slot c _ e1 (a.free c ob q n hx) (up c hc) hx
    exact ⟨sl', e2⟩
  free := fun c ob q n hx => by
    obtain ⟨o', e1⟩ := a.there c ob q hx
    exact b.free c o' e1 (a.free c ob q n hx) hx
  there := fun c ob q hx => by
    obtain ⟨o', e1⟩ := a.there c ob q hx
    exact b.there c o' e1 hx
  tups := fun c xs q => b.tups c xs (a.tups c xs q)
  frzs := fun c ob xs q => b.frzs c ob xs (a.frzs c ob xs q)
  tbls := fun c ps q => by
    obtain ⟨m1, e1⟩ := a.tbls c ps q
    obtain ⟨m2, e2⟩ := b.tbls c _ e1
    exact ⟨m1 ++ m2, by rw [e2, Array.append_assoc]⟩

/-- what a lambda is worth: the run's heap alone is its argument -/
abbrev Lam := Hm → R T
/-- f, called from any later state, runs as lam -/
structure LamR (P : Program) (w : World) (K : PySem.W.Frag) (mg : Str → Option Value) (base : Heap) (S : Sx) (k : Nat) (outer0 : List Env) (s0 : Shared) (H0 : Hp) (ρ0 : List Addr) (f : Addr) (lam : Lam) : Prop where
  fn : ∃ q pm body scope cl c' ctv params qual, s0.heap.get? f = some (PySem.W.kla_obj q qual params body scope cl pm c' ctv)
  nH : H0 f = none
  nF : f ∉ frs outer0
  run : ∀ (A : Around) (outer : List Env) (s : Shared) (H : Hp) (Q : VK) (E : XK) (ρ : List Addr) (Am : Hm), Room k A → A.guards = some [] → Env0 P w K mg base A outer s H → Un (frs outer0) [] H0 H s0.heap s.heap → Mono H0 H → ρ0 <+: ρ → RelH K S ρ H Am →
    post K S (rV K S) (fun cls d _ H => E cls d H) ρ [] H Q (lam Am) → codeAny (model P w) A (.call (.ref f) ⟨[], []⟩) (CR (L2N.CX P w) outer P w H s Q E) s
section
variable {X : Cx} {S : Sx} {pins : List (Addr × Obj)} {σ : L2.St} {H : Hp} {s : Shared} {ρ ρ0 : List Addr} {k : Nat} {f : Addr} {lam : Lam}
/-- seen from a state further on, in a def that runs -/
theorem LamR.next (L : LamR X.prog X.w X.K X.mg X.base S k X.outer X.s_0 X.H_0 ρ0 f lam) (hst : X.stack = X.env :: X.outer) (hfr : X.env.frame = some X.env.locals) (hex : X.ex = []) (I : Inv X pins σ H s) (m : Mono X.H_0 H) (hρ : ρ0 <+: ρ) :
    LamR X.prog X.w X.K X.mg X.base S k X.stack s H ρ f lam := by
  have b : Un (frs X.outer) [] X.H_0 H X.s_0.heap s.heap := by have := I.base; rw [hex] at this; exact this
  have hs : frs X.stack = X.env.locals :: frs X.outer := by rw [hst]; simp [frs, List.filterMap_cons, hfr]
  obtain ⟨q, pm, body, scope, cl, c', ctv, params, qual, hf⟩ := L.fn
  refine ⟨⟨q, pm, body, scope, cl, c', ctv, params, qual, b.keep _ _ hf L.nH L.nF (by simp)⟩, b.free _ _ hf L.nH (by simp), ?_, fun A outer s' H' Q E ρ' Am h1 h2 h3 h4 h5 h6 h7 h8 => ?_⟩
  · rw [hs]
    intro z
    rcases List.mem_cons.mp z with z | z
    · have h1 := Heap.lt_size hf
      have h2 := I.ok.above
      rw [z] at h1
      exact absurd (Nat.lt_of_lt_of_le h1 h2) (Nat.lt_irrefl _)
    · exact L.nF z
  · refine L.run A outer s' H' Q E ρ' Am h1 h2 h3 (un_on b h4 (fun x hx => by rw [hs]; exact List.mem_cons_of_mem _ hx) fun x hx => ?_) (m.trans h5) (hρ.trans h6) h7 h8
    rw [hs] at hx
    rcases List.mem_cons.mp hx with z | z
    · right
      rw [z]
      exact Heap.get?_none_of_le I.ok.above
    · exact .inl z
/-- the lambda's body stands here -/
def lamCxN (X : Cx) (A : Around) (outer : List Env) (s : Shared) (H : Hp) (E : XK) (scope : Scope) (f c' : Addr) : Cx :=
  { LamX.lamCx X A outer s H E scope f c' with
    xe := fun e s' => wpAny (model X.prog X.w) (A.deeper (LamX.lamEnv X scope s.heap.objs.size f c')) (leaving (LamX.lamEnv X scope s.heap.objs.size f c') e) (fun _ s'' => L2N.CX X.prog X.w outer H s E e s'') (fun e' s'' => L2N.CX X.prog X.w outer H s E e' s'') s' }
theorem lamCxN_inv {A : Around} {outer : List Env} {s1 : Shared} {HZ : Hp} {E : XK} {scope : Scope} {f c' : Addr} {s2 : Shared} (I : Inv (LamX.lamCx X A outer s1 HZ E scope f c') pins σ H s2) : Inv (lamCxN X A outer s1 HZ E scope f c') pins σ H s2 :=
  ⟨⟨I.ok.mod, I.ok.kind, I.ok.glob, I.ok.blt, I.ok.above, I.ok.inj, I.ok.has, I.ok.cab, I.ok.hd, I.ok.frames, I.ok.stk, I.ok.exf, I.ok.bs, I.ok.bsz, I.ok.noex, I.ok.exfs, I.ok.funs, I.ok.frf⟩, I.os, I.bare, I.base, I.loc, I.cell, I.free, I.freeC, I.pin, I.hok, I.len⟩
/-- the maker's lambda is such a thing -/
theorem lam_R {G : Gx} {scope : Scope} {c' : Addr} {pm ctv : Value} {params : Arguments} {body : Expr} {mb : ME} {e : Env'} (I : Inv X pins σ H s) (L : LamX.LamS X.env.scope scope) (hf : s.heap.get? f = some (PySem.W.kla_obj "<lambda>" (X.env.qual ++ "<lambda>") params body scope (cloFrom X.env.cells scope.names []) pm c' ctv))
    (hfn : H f = none) (hfr : f ∉ frs X.stack) (hco : H c' = some (LamX.CodeO c' (X.env.qual ++ "<lambda>"))) (hbind : bindArgs (PySem.W.kla_fn "<lambda>" (X.env.qual ++ "<lambda>") params body scope (cloFrom X.env.cells scope.names []) pm (.ref c') ctv) ⟨[], []⟩ = pure [])
    (hσ : RelS X.K S ρ H e σ) (hJ : G.J ρ H σ) (hbody : ∀ (A : Around) (outer : List Env) (s : Shared) (H : Hp) (E : XK), Room k (A.deeper (LamX.lamEnv X scope s.heap.objs.size f c')) → A.guards = some [] →
      PE (lamCxN X A outer s H E scope f c') body (tE X.K S ⟨G.J, G.mono, fun cls d _ H => E cls d H⟩ mb)) : LamR X.prog X.w X.K X.mg X.base S (k + 1) X.stack s H ρ f (fun A => mb e A) := by
  refine ⟨⟨_, _, _, _, _, _, _, _, _, hf⟩, hfn, hfr, fun A outer s1 HZ Q E ρ' Am hr hg e0 un m hρ hH hp => ?_⟩
  have of1 : s1.heap.get? f = some (PySem.W.kla_obj "<lambda>" (X.env.qual ++ "<lambda>") params body scope (cloFrom X.env.cells scope.names []) pm c' ctv) := un.keep f _ hf hfn hfr (by simp)
  have hc : HZ c' = some (LamX.CodeO c' (X.env.qual ++ "<lambda>")) := m _ _ hco trivial
  obtain ⟨⟨oc, vs, t, hoc, hdc, hvc⟩, _, _⟩ := e0.hok c' _ hc
  refine PySem.W.kla_callFunE hr.depth of1 rfl L.co L.gen rfl ⟨c', oc, vs, t, rfl, hoc, hdc, hvc⟩ ?_
  rw [hbind]
  refine wpAny_pure (wpAny_newFunctionEnv (fun y hy => (L.own y hy).2) (fun y hy => absurd hy (by simp)) (fun h₁ hns hsb => ⟨e0.mod.nolimit.keeps (fun b o q => hsb.extBut b o (Nat.ne_of_lt (Heap.lt_size (e0.bs b o q).1)) (Heap.get?_push_of_some _ (e0.bs b o q).1)), ?_⟩) L.kind)
  show codeAny _ _ (.expr body (LamX.lamEnv X scope s1.heap.objs.size f c')) _ _
  have kp : ∀ b o, s1.heap.get? b = some o → h₁.get? b = some o := fun b o e => hsb.extBut b o (Nat.ne_of_lt (Heap.lt_size e)) (Heap.get?_push_of_some _ e)
  have J0 : Inv (LamX.lamCx X A outer s1 HZ E scope f c') [] σ HZ { s1 with heap := h₁, toks := s1.toks + ([] : List (Str × Value)).length } := LamX.lam_start2 I L e0 hr.hd un hns kp
  have J := lamCxN_inv J0
  refine PySem.W.kla_codeExpr (wpAny_mono ((hbody A outer s1 HZ E (hr.deeper _) hg).run [] _ σ HZ Q J ⟨ρ', Am, e, hH, hσ.mono hρ m, G.mono hρ m hJ, ?_⟩) (fun v s' hq => ?_) fun e s' hq => hq)
  · cases q : mb e Am with
    | ok v A' => rw [q] at hp; exact hp
    | err c fs A' => rw [q] at hp; exact hp
    | bad => rw [q] at hp; exact hp
  · obtain ⟨w', H', J', rv, q⟩ := hq
    exact ⟨w', H', J'.os, J'.bare, J'.base, J'.hok, rv, q⟩
end

/-! ### a def that takes a lambda first -/
abbrev FnL := Lam → List T → Hm → R T
def spL (K : PySem.W.Frag) (S : Sx) (np : Nat) (fn : FnL) (lam : Lam) (ρ : List Addr) : Sp := fun vs H Q E => ∃ (A : Hm) (ts : List T), vs.length + 1 = np ∧ RelH K S ρ H A ∧ RelL K S ρ H ts vs ∧ post K S (rV K S) (fun cls d _ H => E cls d H) ρ [] H Q (fn lam ts A)
structure FnC (P : Program) (w : World) (K : PySem.W.Frag) (mg : Str → Option Value) (base : Heap) (S : Sx) (kl k : Nat) (f : Addr) (fd : FuncData) (ps : List Str) (fn : FnL) : Prop where
  run : ∀ (A : Around) (outer : List Env) (s : Shared) (H : Hp) (args : Args) (us : List Value) (vs : List V) (Q : VK) (E : XK) (fl : Addr) (lam : Lam) (ρ : List Addr), Room k A → A.guards = some [] → Env0 P w K mg base A outer s H → BindsTo s fd args (ps.zip (.ref fl :: us)) → Vals vs us →
    LamR P w K mg base S kl outer s H ρ fl lam → spL K S ps.length fn lam ρ vs H Q E → codeAny (model P w) A (.call (.ref f) args) (CR (L2N.CX P w) outer P w H s Q E) s
def fnOfBodyL (n : Nat) (b : Lam → MS) : FnL := fun lam args A => match b lam (none :: args.map some ++ List.replicate (n - (args.length + 1)) none) A with
  | .nx _ A' => .ok .non A'
  | .ret v A' => .ok v A'
  | .err _ c fs A' => .err c fs A'
  | _ => .bad
/-- what is known beside the run: the lambda in slot 0 -/
def GL (H0 : Hp) (ρ0 : List Addr) (fl : Addr) (W : WX) : Gx where
  J := fun ρ H σ => ρ0 <+: ρ ∧ Mono H0 H ∧ σ[0]? = some (some (.ref fl))
  mono := fun a b ⟨c, d, e⟩ => ⟨c.trans a, d.trans b, e⟩
  W := W
theorem GL.free {H0 : Hp} {ρ0 : List Addr} {fl : Addr} {W : WX} {i : Nat} : (GL H0 ρ0 fl W).Free (i + 1) := fun ρ H σ v ⟨a, b, c⟩ => ⟨a, b, by rw [List.getElem?_set_ne (by omega)]; exact c⟩
theorem d_defL {P : Program} {w : World} {K : PySem.W.Frag} {mg : Str → Option Value} {base : Heap} {S : Sx} {x qual : Str} {st : Stmt} {f : Addr} {fd : FuncData} {N ps : List Str} {kl k : Nat} {b : Lam → MS} (F : FD K x qual st [] [] f fd) (sc : FnScope N ps (defScope st))
    (hbody : ∀ (cdv : Value) (A : Around) (outer : List Env) (s : Shared) (H : Hp) (E : XK) (fl : Addr) (lam : Lam) (ρ0 : List Addr), Room k (A.deeper (envOfC qual (defScope st) s.heap.objs.size f cdv)) → A.guards = some [] → LamR P w K mg base S kl outer s H ρ0 fl lam →
      PSs (cxOf (L2N.CX P w) P w K mg base N qual (defScope st) f cdv A outer s H E) (defBody st) (tS K S (GL H ρ0 fl fun cls d _ H => E cls d H) (b lam))) :
    FnC P w K mg base S kl (k + 1) f fd ps (fnOfBodyL N.length b) := by
  obtain ⟨oc, od, dV, kV, doc, pm, an, cdv, ct, osl, rfl, lk, hcd, _, _⟩ := F.ex
  refine ⟨fun A outer s H args us vs Q E fl lam ρ hr hg e0 hb r hL hsp => ?_⟩
  obtain ⟨A0, ts, hl, hH, hT, hp⟩ := hsp
  have rf : Vals (V.ref fl :: vs) (Value.ref fl :: us) := .cons rfl r
  refine LamX.run_ofS lk hcd sc hr e0 hb rf (by rw [List.length_cons]; exact hl) fun hr' => ⟨_, hbody cdv A outer s H E fl lam ρ hr' hg hL, ?_⟩
  refine ⟨ρ, A0, none :: ts.map some ++ List.replicate (N.length - (vs.length + 1)) none, hH, .any (relS_start hT), ⟨List.prefix_rfl, Mono.refl, rfl⟩, ?_⟩
  have e : ts.length = vs.length := hT.length
  unfold fnOfBodyL at hp
  rw [e] at hp
  cases q : b lam (none :: ts.map some ++ List.replicate (N.length - (vs.length + 1)) none) A0 with
  | nx e1 A1 => rw [q] at hp; exact fun ρ' H' u1 u2 u3 σ' _ _ => hp ρ' H' u1 u2 u3 _ .non
  | ret v A1 => rw [q] at hp; exact hp
  | err e1 c fs A1 => rw [q] at hp; exact fun ρ' H' u1 u2 u3 σ' _ _ => hp ρ' H' u1 u2 u3
  | brk e1 A1 => rw [q] at hp; exact hp.elim
  | cnt e1 A1 => rw [q] at hp; exact hp.elim
  | bad => rw [q] at hp; exact hp.elim
/-- where the lambda of slot 0 stands -/
structure HasL (X : Cx) (S : Sx) (G : Gx) (k : Nat) (ρ0 : List Addr) (fl : Addr) (lam : Lam) : Prop where
  L : LamR X.prog X.w X.K X.mg X.base S k X.outer X.s_0 X.H_0 ρ0 fl lam
  J : ∀ ρ H σ, G.J ρ H σ → ρ0 <+: ρ ∧ Mono X.H_0 H ∧ σ[0]? = some (some (.ref fl))
  st : X.stack = X.env :: X.outer
  fr : X.env.frame = some X.env.locals
  ex : X.ex = []
structure CallL (X : Cx) (S : Sx) (G : Gx) (kl : Nat) (x : Str) (n : Nat) (fn : FnL) : Prop where
  ex : ∃ (k : Nat) (f : Addr) (fd : FuncData) (ps : List Str), FnC X.prog X.w X.K X.mg X.base S kl k f fd ps fn ∧ Room k X.A ∧ X.mg x = some (.ref f) ∧ PySem.W.keepIn X.K (.ref f) = true ∧ Binds X.K fd ps [] ∧ ps.length = n + 1
  gd : X.A.guards = some []
  tk : L2N.Takes X G.W
section
variable {X : Cx} {S : Sx} {G : Gx} {k kl n : Nat} {ρ0 : List Addr} {fl : Addr} {lam : Lam} {x a : Str} {fn : FnL} {es : List Expr} {ml : ML} {p p1 p2 pos : Pos}
def eAct (lam : Lam) : ME := fun _ A => lam A
/-- call() -/
theorem d_act (L : HasL X S G k ρ0 fl lam) (hr : Room k X.A) (hgd : X.A.guards = some []) (tk : L2N.Takes X G.W) (hN : X.N[0]? = some a := by rfl) (hv : Vis X.env.scope a := by first | exact Or.inl rfl | exact Or.inr (Or.inl rfl) | exact Or.inr (Or.inr rfl)) (hd : (a == ("__debug__" : Str)) = false := by decide)
    (hcd : (a == ("__classdict__" : Str)) = false := by decide) : PE X (.Call (.Name a p1) [] [] p2) (tE X.K S G (eAct lam)) := by
  refine ⟨fun pins s σ H Q I h => ?_⟩
  obtain ⟨ρ, A, e, h1, h2, h3, h4⟩ := h
  obtain ⟨j1, j2, j3⟩ := L.J _ _ _ h3
  refine wpAny_Call_Name_kw (thn ((pe_var (pos := p1) (i := 0) hN hv hd hcd).run pins s σ H (fun v H1 => v = .ref fl ∧ H1 = H) I ⟨.ref fl, j3, rfl, rfl⟩) fun u s1 ⟨v, H1, I1, r1, ev, eH⟩ => ?_)
  subst ev
  subst eH
  obtain rfl : u = Value.ref fl := r1
  have LN := L.L.next L.st L.fr L.ex I1 j2 j1
  obtain ⟨q, pm, body, scope, cl, c', ctv, params, qual, hf⟩ := LN.fn
  refine PySem.W.callWith_F0 ⟨_, _, _, _, hf⟩ (wpAny_call (codeAny_mono (LN.run X.A X.stack s1 H1 Q (WE G.W σ) ρ A hr hgd I1.env0 Un.refl Mono.refl List.prefix_rfl h1 ?_) fun r s' hq => ?_))
  · unfold eAct at h4
    cases q : lam A with
    | ok v A' => rw [q] at h4; exact h4
    | err c fs A' => rw [q] at h4; exact h4
    | bad => rw [q] at h4; exact h4
  · cases r with
    | error e => exact L2N.passAt tk σ pins H1 s1 e s' I1 hq
    | ok fl =>
      cases fl with
      | ret u => exact I1.after hq
      | next => exact False.elim hq
      | brk => exact False.elim hq
      | cont => exact False.elim hq
/-- the callee with a lambda runs -/
theorem run_L {pins : List (Addr × Obj)} {σ : L2.St} {H : Hp} {s : Shared} {Q : VK} {us : List Value} {vs : List V} {W : WX} {f : Addr} {fd : FuncData} {ps : List Str} {ρ : List Addr} (F : FnC X.prog X.w X.K X.mg X.base S kl k f fd ps fn) (hr : Room k X.A) (hgd : X.A.guards = some []) (hb : Binds X.K fd ps []) (tk : L2N.Takes X W)
    (I : Inv X pins σ H s) (r : Vals vs us) (hl : vs.length + 1 = ps.length) (L : LamR X.prog X.w X.K X.mg X.base S kl X.stack s H ρ fl lam) (h : spL X.K S ps.length fn lam ρ vs H Q (WE W σ)) : wpAny (model X.prog X.w) X.A (call (.ref f) (.ref fl :: us)) (EP X pins σ Q) X.xe s := by
  have b := hb s (.ref fl :: us) I.kIn (by simp; rw [← r.length]; exact hl)
  rw [List.append_nil] at b
  refine wpAny_call (codeAny_mono (F.run X.A X.stack s H ⟨.ref fl :: us, []⟩ us vs Q (WE W σ) fl lam ρ hr hgd I.env0 b r L h) fun r s' hq => ?_)
  cases r with
  | error e => exact L2N.passAt tk σ pins H s e s' I hq
  | ok fl =>
    cases fl with
    | ret u => exact I.after hq
    | next => exact False.elim hq
    | brk => exact False.elim hq
    | cont => exact False.elim hq
theorem spL_of {K : PySem.W.Frag} {W : WX} {ρ : List Addr} {A : Hm} {H : Hp} {ts : List T} {vs : List V} {np : Nat} {σ : L2.St} {Q : VK} (hH : RelH K S ρ H A) (hL : RelL K S ρ H ts vs) (hn : vs.length + 1 = np) (h : post K S (rV K S) W ρ σ H Q (fn lam ts A)) :
    spL K S np fn lam ρ vs H Q (WE W σ) := by
  refine ⟨A, ts, hn, hH, hL, ?_⟩
  cases q : fn lam ts A with
  | ok v A' => rw [q] at h; exact h
  | err c fs A' => rw [q] at h; exact h
  | bad => rw [q] at h; exact h.elim
def eCallL (fn : FnL) (lam : Lam) (l : ML) : ME := mbind l fun vs _ A => fn lam vs A
/-- g(call, ..): the lambda is handed on -/
theorem d_callL (L : HasL X S G kl ρ0 fl lam) (F : CallL X S G kl x n fn) (ha : PA X es (tL X.K S G ml)) (hl : LenL ml n) (hg : Gl X x := by rfl) (hdb : (x == ("__debug__" : Str)) = false := by decide)
    (hN : X.N[0]? = some a := by rfl) (hv : Vis X.env.scope a := by first | exact Or.inl rfl | exact Or.inr (Or.inl rfl) | exact Or.inr (Or.inr rfl)) (hd : (a == ("__debug__" : Str)) = false := by decide) (hcd : (a == ("__classdict__" : Str)) = false := by decide)
    (he : starEach (.Name a p1 :: es) X.env = (false, eval (.Name a p1) X.env) :: starEach es X.env := by rfl) (hpl : (backTo pos (starEach es X.env)).any (·.1) = false := by rfl) :
    PE X (.Call (.Name x p) (.Name a p1 :: es) [] pos) (tE X.K S G (eCallL fn lam ml)) := by
  obtain ⟨⟨k, f, fd, ps, F1, hr, hm, hk, hb, hps⟩, gd, tk⟩ := F
  refine ⟨fun pins s σ H Q I h => ?_⟩
  refine wpAny_Call_Name_kw (ld_glob I hg hm ?_ hdb)
  have h' := tX.bindL hl h
  obtain ⟨ρ9, A9, e9, _, _, g3, _⟩ := id h'
  obtain ⟨_, _, j3⟩ := L.J _ _ _ g3
  refine PySem.W.callWith_K (h₀ := X.base) I.ok.mod.kin hk (thn ((pa_cons (pe_var hN hv hd hcd) ha he).run pos pins s σ H (fun vs H1 => ∃ xs, vs = .ref fl :: xs ∧ ∃ (v : List T) (A1 : Hm) (ρ1 : List Addr) (e : Env'), RelH X.K S ρ1 H1 A1 ∧ RelS X.K S ρ1 H1 e σ ∧ G.J ρ1 H1 σ ∧ RelL X.K S ρ1 H1 v xs ∧ v.length = n ∧ post X.K S (rV X.K S) G.W ρ1 σ H1 Q (fn lam v A1)) I
    ⟨.ref fl, j3, tX.mono h' fun xs H1 q => ⟨xs, rfl, q⟩⟩) fun us s1 hh => ?_) he hpl
  obtain ⟨vs, H1, I1, r, xs, rfl, v, A1, ρ1, ev, q1, q2, q3, q4, q5, q6⟩ := hh
  cases r with
  | @cons _ u0 _ ur ra rw' =>
    obtain rfl : u0 = Value.ref fl := ra
    obtain ⟨j1, j2, _⟩ := L.J _ _ _ q3
    have l1 : xs.length + 1 = ps.length := by rw [← q4.length, q5, hps]
    exact ⟨I1.kIn, run_L F1 hr gd hb tk I1 rw' l1 (L.L.next L.st L.fr L.ex I1 j2 j1) (spL_of q1 q4 l1 q6)⟩
/-- what the making of lambdas asks of the maker -/
structure MakesL (X : Cx) (S : Sx) : Prop where
  ex : ∃ c P, LamX.TabB X.base X.mg c P ∧ X.env.code = .ref c ∧ (P, X.env.qual ++ "<lambda>") ∈ S.tb ∧ ∀ p ∈ S.tb, p.1 = P → p.2 = X.env.qual ++ "<lambda>"
def eLam (fn : FnL) (mb : ME) (l : ML) : ME := fun e A => eCallL fn (fun A => mb e A) l e A
/-- g(lambda: body, ..) -/
theorem d_lam {params : Arguments} {body : Expr} {scope : Scope} {lpos : Pos} {mb : ME} (M : MakesL X S) (F : CallL X S G (kl + 1) x n fn) (L : LamX.LamS X.env.scope scope) (hbody : ∀ (A : Around) (outer : List Env) (s : Shared) (H : Hp) (E : XK) (f c' : Addr), Room kl (A.deeper (LamX.lamEnv X scope s.heap.objs.size f c')) → A.guards = some [] →
      PE (lamCxN X A outer s H E scope f c') body (tE X.K S ⟨G.J, G.mono, fun cls d _ H => E cls d H⟩ mb)) (ha : PA X es (tL X.K S G ml)) (hl : LenL ml n) (hdef : defaultsOf params X.env = ([], []) := by rfl)
    (hbind : ∀ (q : Str) (cl : List (Str × Addr)) (pm cv ctv : Value), bindArgs (PySem.W.kla_fn "<lambda>" q params body scope cl pm cv ctv) ⟨[], []⟩ = pure [] := by intro _ _ _ _ _; rfl) (hg : Gl X x := by rfl) (hdb : (x == ("__debug__" : Str)) = false := by decide)
    (he : starEach (.Lambda params body scope lpos :: es) X.env = (false, eval (.Lambda params body scope lpos) X.env) :: starEach es X.env := by rfl) (hpl : (backTo pos (starEach es X.env)).any (·.1) = false := by rfl) :
    PE X (.Call (.Name x p) (.Lambda params body scope lpos :: es) [] pos) (tE X.K S G (eLam fn mb ml)) := by
  obtain ⟨⟨k, f, fd, ps, F1, hr, hm, hk, hb, hps⟩, gd, tk⟩ := F
  obtain ⟨c, P, TB, hcode, hmT, hu⟩ := M.ex
  refine ⟨fun pins s σ H Q I h => ?_⟩
  refine wpAny_Call_Name_kw (ld_glob I hg hm ?_ hdb)
  obtain ⟨ρ, A, e, h1, h2, h3, h4⟩ := h
  refine PySem.W.callWith_K (h₀ := X.base) I.ok.mod.kin hk ?_ he hpl
  show wpAny _ _ (spliced ((false, eval (.Lambda params body scope lpos) X.env) :: backTo pos (starEach es X.env))) _ _ s
  refine Calls.spliced_cons (LamX.lam_make2 I TB hcode hmT hu h1.tabs hdef (L.has I.ok) fun fl c' pm' ctv H1 s' I1 eN T1 hf hfn hfr hco => ?_)
  have m1 : Mono H H1 := fun b o e s => eN b o e fun ps z => by subst z; exact s
  have hH1 : RelH X.K S ρ H1 A := ⟨h1.len, h1.nd, fun n c p a b => (by
    obtain ⟨o, ho, ro⟩ := h1.at_ n c p a b
    refine ⟨o, eN _ _ ho fun ps z => ?_, ro.mono List.prefix_rfl m1⟩
    subst z; cases ro), T1⟩
  have hL : fl ≠ X.env.locals := fun z => by
    obtain ⟨m, ⟨o, es, ep, ho, hd, _⟩, _⟩ := I1.loc
    rw [← z, hf] at ho
    have ho' := Option.some.inj ho
    rw [← ho'] at hd
    exact absurd hd (by unfold PySem.W.kla_obj; simp)
  have hF : fl ∉ X.fs := fun z => hfr (by
    rcases I.ok.stk with e | ⟨e, hfm⟩
    · rw [e]; exact z
    · rw [e]
      show fl ∈ List.filterMap _ (X.env :: X.outer)
      rw [List.filterMap_cons, hfm]; exact List.mem_cons_of_mem _ z)
  have I1p : Inv X ((fl, PySem.W.kla_obj "<lambda>" (X.env.qual ++ "<lambda>") params body scope (cloFrom X.env.cells scope.names []) pm' c' ctv) :: pins) σ H1 s' := I1.pins_of fun p hp => by
    rcases List.mem_cons.mp hp with z | z
    · subst z; exact ⟨hf, hfn, hL, hF, fun v z => absurd z (by unfold PySem.W.kla_obj; simp)⟩
    · exact I1.pin p (List.mem_append_right _ z)
  have h4' : tL X.K S G ml σ H1 fun xs H2 => ∃ (v : List T) (A1 : Hm) (ρ1 : List Addr), Mono H1 H2 ∧ RelH X.K S ρ1 H2 A1 ∧ RelS X.K S ρ1 H2 e σ ∧ G.J ρ1 H2 σ ∧ RelL X.K S ρ1 H2 v xs ∧ v.length = n ∧ post X.K S (rV X.K S) G.W ρ1 σ H2 Q (fn (fun A => mb e A) v A1) := by
    refine ⟨ρ, A, e, hH1, h2.mono List.prefix_rfl m1, G.mono List.prefix_rfl m1 h3, ?_⟩
    unfold eLam eCallL mbind at h4
    cases q : ml e A with
    | ok v A1 =>
      rw [q] at h4
      exact fun ρ' H' q1 q2 q3 x hx => ⟨v, A1, ρ', q2, q3, h2.mono q1 (m1.trans q2), G.mono q1 (m1.trans q2) h3, hx, hl _ _ _ _ q, post.base (r := fn (fun A => mb e A) v A1) h4 q1 (m1.trans q2)⟩
    | err c fs A1 => rw [q] at h4; exact fun ρ' H' q1 q2 q3 => h4 ρ' H' q1 (m1.trans q2) q3
    | bad => rw [q] at h4; exact h4.elim
  refine thn (ha.run pos _ s' σ H1 _ I1p h4') fun us s2 hh => ?_
  obtain ⟨vs, H2, I2, r, v, A1, ρ1, m2, q1, q2, q3, q4, q5, q6⟩ := hh
  have hp := I2.pin (fl, PySem.W.kla_obj "<lambda>" (X.env.qual ++ "<lambda>") params body scope (cloFrom X.env.cells scope.names []) pm' c' ctv) (List.mem_append_right _ List.mem_cons_self)
  have I2' : Inv X pins σ H2 s2 := I2.pins_of fun p hp => I2.pin p (List.mem_append_right _ (List.mem_cons_of_mem _ hp))
  have LR : LamR X.prog X.w X.K X.mg X.base S (kl + 1) X.stack s2 H2 ρ1 fl (fun A => mb e A) := lam_R (G := G) I2' L hp.1 hp.2.1 hfr (m2 _ _ hco trivial) (hbind _ _ _ _ _) q2 q3 fun A outer s H E hr hg => hbody A outer s H E fl c' hr hg
  have l1 : vs.length + 1 = ps.length := by rw [← q4.length, q5, hps]
  exact ⟨I2'.kIn, run_L F1 hr gd hb tk I2' r l1 LR (spL_of q1 q4 l1 q6)⟩
end
end MP
end S12
section S13
set_option Elab.async false
set_option linter.all false
set_option maxRecDepth 100000
/-! MPm: a list walked, a tuple taken apart, a list comprehension while an exception is handled. -/
namespace MP
open PySem PySem.Spec PyProof.Rows L2 HotX L2H

section
variable {prog : Program} {w : World} {A : Around} {E : Value → Shared → Prop} {s : Shared}
theorem list_end_hot {it l x1 : Addr} {i : Nat} {items : Array Value} {Q : Option Value → Shared → Prop} (hot : HotAt A x1 s.heap) (hne : x1 ≠ it) (hit : s.heap.IsListIter it l i) (hl : s.heap.IsList l items) (hx : items[i]? = none)
    (hQ : ∀ h', (∀ b o, b ≠ it → s.heap.get? b = some o → h'.get? b = some o) → Q none { s with heap := h' }) : wpAny (model prog w) A (pyNext (.ref it)) Q E s := by
  obtain ⟨o, ho, hc, hd⟩ := id hit
  obtain ⟨ol, hol, _, nl, hdl⟩ := hl
  obtain ⟨hh, o1, vs1, h1, d1, c1⟩ := hot
  unfold pyNext
  refine wpAny_bind (wpAny_attempt (wpAny_callSpecial?_slot (name := Str.ofString "__next__") hit.typeIs slot_listiter_next (wpAny_call_entry slot_listiter_next hit.typeIs entry_listiter_next ?_ (args_listiter_next _))))
  show wpAny _ _ (field (.ref it) 0 >>= _) _ _ s
  refine wpAny_bind (wpAny_field ho hd (x := .ref l) rfl ?_)
  show wpAny _ _ (if (Value.ref l == Value.none) = true then _ else _) _ _ s
  rw [if_neg (show ¬ ((Value.ref l == Value.none) = true) from Bool.false_ne_true)]
  show wpAny _ _ (field (.ref it) 1 >>= _) _ _ s
  refine wpAny_bind (wpAny_field ho hd (x := .int i 0) rfl ?_)
  show wpAny _ _ (seqItems? (.ref l) >>= _) _ _ s
  refine wpAny_bind (wpAny_seqItems hol hdl ?_)
  simp only [Int.toNat_natCast, hx]
  refine wpAny_bind (wpAny_rule (wpAny_bind (wpAny_setField ho hd (by simp) ?_)))
  show wpAny _ _ (newExc (.type "StopIteration") [] >>= _) _ _ _
  refine wpAny_bind ?_
  simp only [newExc, newTuple]
  refine wpAny_bind (wpAny_newObj_type ?_ (by size_fits))
  refine wpAny_bind (m := firstArgMember _ _) (wpAny_of_eq (a := Value.none) (by first | rfl | (simp only [firstArgMember]; rfl)) ?_)
  refine wpAny_newObj_type ?_ (by size_fits)
  have h2 : (s.heap.update it (Obj.mapFields (·.setIfInBounds 0 Value.none))).get? x1 = some o1 := by rw [Heap.get?_update_other _ _ (Ne.symm hne)]; exact h1
  refine raiseNew_hot ⟨hh, o1, vs1, Heap.get?_push_of_some _ (Heap.get?_push_of_some _ h2), d1, c1⟩ (Nat.ne_of_lt (Heap.lt_size (Heap.get?_push_of_some _ h2))) (Heap.get?_push_size _ rfl) rfl (by first | (simp; done) | (simp; omega) | (simp only [Array.size_append]; simp; omega)) ?_
  refine wpAny_bind (wpAny_isInstance (T := "StopIteration") (b := true) ⟨_, Heap.get?_update_self _ (Heap.get?_push_size _ rfl) rfl, rfl⟩ isSubtype_stop ?_)
  refine wpAny_pure (hQ _ fun b o hb e => ?_)
  have e2 : (s.heap.update it (Obj.mapFields (·.setIfInBounds 0 Value.none))).get? b = some o := by rw [Heap.get?_update_other _ _ (Ne.symm hb)]; exact e
  rw [Heap.get?_update_other _ _ (Nat.ne_of_gt (Heap.lt_size (Heap.get?_push_of_some _ e2)))]
  exact Heap.get?_push_of_some _ (Heap.get?_push_of_some _ e2)
theorem tuple_end_hot {it t x1 : Addr} {i : Nat} {items : Array Value} {Q : Option Value → Shared → Prop} (hot : HotAt A x1 s.heap) (hne : x1 ≠ it) (hit : IsTupIter s.heap it t i) (ht : IsTup s.heap t items) (hx : items[i]? = none)
    (hQ : ∀ h', (∀ b o, b ≠ it → s.heap.get? b = some o → h'.get? b = some o) → Q none { s with heap := h' }) : wpAny (model prog w) A (pyNext (.ref it)) Q E s := by
  obtain ⟨o, ho, hc, hd⟩ := id hit
  obtain ⟨ol, hol, _, nl, hdl⟩ := ht
  obtain ⟨hh, o1, vs1, h1, d1, c1⟩ := hot
  unfold pyNext
  refine wpAny_bind (wpAny_attempt (wpAny_callSpecial?_slot (name := Str.ofString "__next__") hit.typeIs slot_tupleiter_next (wpAny_call_entry slot_tupleiter_next hit.typeIs entry_tupleiter_next ?_ (args_tupleiter_next _))))
  show wpAny _ _ (field (.ref it) 0 >>= _) _ _ s
  refine wpAny_bind (wpAny_field ho hd (x := .ref t) rfl ?_)
  show wpAny _ _ (if (Value.ref t == Value.none) = true then _ else _) _ _ s
  rw [if_neg (show ¬ ((Value.ref t == Value.none) = true) from Bool.false_ne_true)]
  show wpAny _ _ (field (.ref it) 1 >>= _) _ _ s
  refine wpAny_bind (wpAny_field ho hd (x := .int i 0) rfl ?_)
  show wpAny _ _ (seqItems? (.ref t) >>= _) _ _ s
  refine wpAny_bind (wpAny_seqItems hol hdl ?_)
  simp only [Int.toNat_natCast, hx]
  refine wpAny_bind (wpAny_rule (wpAny_bind (wpAny_setField ho hd (by simp) ?_)))
  show wpAny _ _ (newExc (.type "StopIteration") [] >>= _) _ _ _
  refine wpAny_bind ?_
  simp only [newExc, newTuple]
  refine wpAny_bind (wpAny_newObj_type ?_ (by size_fits))
  refine wpAny_bind (m := firstArgMember _ _) (wpAny_of_eq (a := Value.none) (by first | rfl | (simp only [firstArgMember]; rfl)) ?_)
  refine wpAny_newObj_type ?_ (by size_fits)
  have h2 : (s.heap.update it (Obj.mapFields (·.setIfInBounds 0 Value.none))).get? x1 = some o1 := by rw [Heap.get?_update_other _ _ (Ne.symm hne)]; exact h1
  refine raiseNew_hot ⟨hh, o1, vs1, Heap.get?_push_of_some _ (Heap.get?_push_of_some _ h2), d1, c1⟩ (Nat.ne_of_lt (Heap.lt_size (Heap.get?_push_of_some _ h2))) (Heap.get?_push_size _ rfl) rfl (by first | (simp; done) | (simp; omega) | (simp only [Array.size_append]; simp; omega)) ?_
  refine wpAny_bind (wpAny_isInstance (T := "StopIteration") (b := true) ⟨_, Heap.get?_update_self _ (Heap.get?_push_size _ rfl) rfl, rfl⟩ isSubtype_stop ?_)
  refine wpAny_pure (hQ _ fun b o hb e => ?_)
  have e2 : (s.heap.update it (Obj.mapFields (·.setIfInBounds 0 Value.none))).get? b = some o := by rw [Heap.get?_update_other _ _ (Ne.symm hb)]; exact e
  rw [Heap.get?_update_other _ _ (Nat.ne_of_gt (Heap.lt_size (Heap.get?_push_of_some _ e2)))]
  exact Heap.get?_push_of_some _ (Heap.get?_push_of_some _ e2)
theorem unpack_hot {t x1 : Addr} {items : Array Value} {Q : List Value → Shared → Prop} (hot : HotAt A x1 s.heap) (ht : IsTup s.heap t items) (hQ : ∀ h', (∀ b o, s.heap.get? b = some o → h'.get? b = some o) → Q items.toList { s with heap := h' }) :
    wpAny (model prog w) A (unpackItems (.ref t) items.size none) Q E s := by
  have hlt : t ≠ s.heap.objs.size := by obtain ⟨o, ho, _⟩ := ht; exact Nat.ne_of_lt (Heap.lt_size ho)
  obtain ⟨hh, o1, vs1, h1, d1, c1⟩ := hot
  have hx : x1 ≠ s.heap.objs.size := Nat.ne_of_lt (Heap.lt_size h1)
  unfold unpackItems
  refine wpAny_bind ?_
  unfold notIterableAtAll
  refine wpAny_bind (wpAny_specialOf ht.typeIs slot_tuple_iter.lookup ?_)
  refine wpAny_pure ?_
  simp only [Bool.false_eq_true, if_false]
  refine wpAny_bind (wpAny_holding (iter_tuple ht ?_))
  refine wpAny_bind (wpAny_holding (draw_tuple hlt items.size 0 _ _ ⟨_, Heap.get?_push_size _ rfl, rfl, rfl⟩ (ht.push _) (by omega) fun ha hit₁ hs₁ => ?_))
  have hall : List.take items.size (List.drop 0 items.toList) = items.toList := by
    rw [List.drop_zero]; exact List.take_of_length_le (by simp)
  rw [hall]
  rw [if_neg (by simp)]
  have ht₁ : IsTup ha t items := (ht.push _).extBut hs₁.extBut hlt
  have hx1 : ha.get? x1 = some o1 := hs₁.extBut x1 o1 hx (Heap.get?_push_of_some _ h1)
  refine wpAny_bind (wpAny_holding (tuple_end_hot (x1 := x1) ⟨hh, o1, vs1, hx1, d1, c1⟩ hx hit₁ ht₁ (by simp) fun h₂ he₂ => ?_))
  simp only [Option.isSome_none, Bool.false_eq_true, if_false]
  refine wpAny_pure (hQ h₂ fun b o e => he₂ b o (Nat.ne_of_lt (Heap.lt_size e)) (hs₁.extBut b o (Nat.ne_of_lt (Heap.lt_size e)) (Heap.get?_push_of_some _ e)))
end
section
variable {X : Cx}
theorem pg_tupH {es : List Expr} {k : Nat} {t : TGs} {n : Nat} {pos : Pos} (hc : HotC X) (h : PGs X es t) (hn : (assignEach es X.env).length = n := by rfl) (hst : (assignEach es X.env).findIdx? (·.1) = none := by rfl) : PG X (.Tuple es k pos) (gTup X.K n t) := by
  refine ⟨fun pins s σ H v u Q I r hw => ?_⟩
  obtain ⟨a, xs, e1, hq, hl, hw⟩ := hw
  subst e1
  cases r
  obtain ⟨its, rv, ht, hz⟩ := I.tuple hq
  obtain ⟨x1, hot⟩ := hc.at I
  rw [assign_Tuple]
  refine wpAny_bind (wpAny_standAt ?_)
  unfold unpack
  rw [show (assignEach es X.env).length = its.toArray.size by simp [hn, ← hl, rv.length], hst]
  refine wpAny_bind (wpAny_holding (unpack_hot hot ht fun h' hx => ?_))
  have I1 : Inv X pins σ H { s with heap := h' } := I.kept (t' := s.toks) hx
  exact h.run pins _ σ H xs _ Q I1 (by simpa using rv) hw
theorem turn_listH {P : Program} {w : World} {K : PySem.W.Frag} {tg : Expr} (a it : Addr) : TurnH P w K tg (Itl K a) [it] it (fun i h => h.IsListIter it a i) where
  mem := by simp
  obj := fun i h st b hb => by
    have e : b = it := by simpa using hb
    subst e
    obtain ⟨o, e, c, d⟩ := st
    exact ⟨o, e, fun v z => by rw [d] at z; cases z⟩
  keep := fun i h h' st k => st.at fun o e => k it (by simp) o e
  item := by
    intro X hP hw hK hc i pins s σ H E I hf st hg
    subst hP hw hK
    obtain ⟨xs, x, hq, hx⟩ := hg
    obtain ⟨its, rv, p, hz⟩ := I.list hq
    obtain ⟨u, hu, ru⟩ := rv.get hx
    obtain ⟨f0, f1, f2, f3, f4, f5⟩ := hf it (by simp)
    refine wpAny_pyNext_list_item st p.isList (x := u) (by simpa using hu) fun h' st' sb => ?_
    have I1 : Inv X pins σ H { s with heap := h' } := I.turned (t' := s.toks) (fun b o hb e => (sb.2 b hb).trans e) f0 f1 f3 f4 f5
    obtain ⟨o, e, c, d⟩ := id st'
    exact ⟨u, rfl, go_of (s := { s with heap := h' }) e c d (by decide) ⟨x, H, I1, ru, ⟨rfl, fun ys hy => by rw [I.list_inj hy hq]; exact hx⟩, st', fun b hb => (hf b hb).1⟩⟩
  done := by
    intro X hP hw hK hc i pins s σ H E I hf st hg
    subst hP hw hK
    obtain ⟨xs, hq, hx⟩ := hg
    obtain ⟨its, rv, p, hz⟩ := I.list hq
    obtain ⟨f0, f1, f2, f3, f4, f5⟩ := hf it (by simp)
    have hl := rv.length
    obtain ⟨p1, ⟨hh, v1, e1, c1⟩, hp⟩ := hc
    have pg := I.pin p1 (List.mem_append_left _ hp)
    exact list_end_hot (x1 := p1.1) ⟨hh, p1.2, v1, pg.1, e1, c1⟩ (f5 p1 (List.mem_append_left _ hp)) st p.isList (by simp; omega) fun h' eb => ⟨rfl, I.turned (t' := s.toks) (fun b o hb e => eb b o hb e) f0 f1 f3 f4 f5⟩
  self := fun _ _ _ _ _ st h => wpAny_pyIter_listiter st h
theorem pi_listH {tg l : Expr} {tl : TE} (hl : PE X l tl) : PIH X tg l (iList X.K tl) := by
  refine ⟨fun pins s σ H R I h => ?_⟩
  refine thn (hl.run pins s σ H _ I h) fun v s1 ⟨x, H1, I1, r1, q1⟩ => ?_
  obtain ⟨a, e, ⟨xs, hq⟩, q⟩ := q1
  subst e
  cases r1
  obtain ⟨its, rv, p, hz⟩ := I1.list hq
  refine wpAny_pyIter_list p.isList ?_
  refine ⟨s1.heap.objs.size, [s1.heap.objs.size], _, _, H1, rfl, I1.kept (t' := s1.toks) fun b o e => Heap.get?_push_of_some _ e, turn_listH a _, ⟨_, Heap.get?_push_size _ rfl, rfl, rfl⟩, fun b hb => ?_, q⟩
  have e : b = s1.heap.objs.size := by simpa using hb
  subst e
  exact I1.fpOk (Nat.le_refl _) (I1.hok.fresh (Nat.le_refl _))
theorem PIH.imp {tg iter : Expr} {wi wi' : TI} (h : PIH X tg iter wi) (hq : ∀ σ H R, wi' σ H R → wi σ H R) : PIH X tg iter wi' := ⟨fun pins s σ H R I q => h.run pins s σ H R I (hq _ _ _ q)⟩
variable {S : Sx} {G : Gx}
/-- a list alone -/
def iLstK : T → Hm → R ItM := fun t A => match t with
  | .ref r => match A[r]? with
    | some (.lst l) => .ok (itL r l.length) A
    | some (.flst l) => .ok (itL r l.length) A
    | _ => .bad
  | _ => .bad
def iLst (m : ME) : MI := mbind m fun t _ A => iLstK t A
theorem di_listH {tg iter : Expr} {ma : ME} (h : PE X iter (tE X.K S G ma)) : PIH X tg iter (tI X.K S G (iLst ma)) := by
  refine PIH.imp (pi_listH h) fun σ H R hq => ?_
  refine (tX.bind (rv := rV X.K S) hq).mono ?_
  rintro x H1 ⟨v, A1, ρ1, e, h1, h2, h3, h4, h5⟩
  unfold iLstK at h5
  split at h5
  · cases h4 with
    | @ref _ p hr =>
      split at h5
      · rename_i l q
        obtain ⟨xs, e, rl⟩ := SqL_ref h1 hr q (.inl rfl)
        exact ⟨p, rfl, ⟨xs, e⟩, Fut.here h5 h1 _ (walkM_list hr)⟩
      · rename_i l q
        obtain ⟨xs, e, rl⟩ := SqL_ref h1 hr q (.inr rfl)
        exact ⟨p, rfl, ⟨xs, e⟩, Fut.here h5 h1 _ (walkM_list hr)⟩
      · exact h5.elim
  · exact h5.elim
/-- the context of a block while p's exception is handled -/
abbrev blkH (X : Cx) (p : Addr × Obj) (s : Shared) (H : Hp) (scope : Scope) (cenv : Env) (fp : List Addr) : Cx := { X.blk s H scope cenv fp with pn := [p] }
theorem to_blkH {p : Addr × Obj} {s : Shared} {H : Hp} {scope : Scope} {cenv : Env} {fp : List Addr} {pins : List (Addr × Obj)} {σ : L2.St} {H' : Hp} {s' : Shared} (I : Inv (X.blk s H scope cenv fp) pins σ H' s')
    (h : s'.heap.get? p.1 = some p.2 ∧ H' p.1 = none ∧ p.1 ≠ cenv.locals ∧ p.1 ∉ frs X.stack ∧ ∀ v, p.2.data ≠ .cell v) : Inv (blkH X p s H scope cenv fp) pins σ H' s' :=
  ⟨⟨I.ok.mod, I.ok.kind, I.ok.glob, I.ok.blt, I.ok.above, I.ok.inj, I.ok.has, I.ok.cab, I.ok.hd, I.ok.frames, I.ok.stk, I.ok.exf, I.ok.bs, I.ok.bsz, I.ok.noex, I.ok.exfs, I.ok.funs, I.ok.frf⟩, I.os, I.bare, I.base, I.loc, I.cell, I.free, I.freeC, fun q hq => by
    rcases List.mem_append.mp hq with z | z
    · rw [List.mem_singleton.mp z]; exact h
    · exact I.pin q (List.mem_append_right _ z), I.hok, I.len⟩
theorem lc_coreH {pins : List (Addr × Obj)} {s : Shared} {σ : L2.St} {H : Hp} {Q : VK} {elt tg iter : Expr} {ifs : List Expr} {scope : Scope} {own : List (Str × Nat)} {pos pos' : Pos} {wi : TI} {g : TG} {tt : TT} {te : TE} {use : Option (Value → Sem Unit)} {Qf : Value → Shared → Prop} {p0 : Addr × Obj}
    (hot : Hot1 X.A p0) (hp0 : p0 ∈ X.pn) (hN : X.N.Nodup) (I : Inv X pins σ H s) (hi : PIH X tg iter wi) (ok : BlkOk X.N X.env.scope scope own)
    (hg : ∀ (s : Shared) (H : Hp) (C : Addr) (cl : List (Str × Addr)) (fp : List Addr), PG (blkH X p0 s H scope (compEnvC scope cl C X.env) fp) tg g) (ht : ∀ (s : Shared) (H : Hp) (C : Addr) (cl : List (Str × Addr)) (fp : List Addr), PTs (blkH X p0 s H scope (compEnvC scope cl C X.env) fp) ifs tt)
    (he : ∀ (s : Shared) (H : Hp) (C : Addr) (cl : List (Str × Addr)) (fp : List Addr), PE (blkH X p0 s H scope (compEnvC scope cl C X.env) fp) elt te) (hs : ∀ x, foldedSetIterable iter X.env x = pure x)
    (h : tLc wi g tt te (own.map (·.2)) σ H Q)
    (hRR : ∀ D C s' m H', Inv X pins σ H' s' → Q (.ref D) H' → s'.heap.Ns C m → FpOk X pins H' C → compPost (model X.prog X.w) X.A X.xe use Qf (.ref D) C (.ok .next) s') :
    wpAny (model X.prog X.w) X.A (comprehension (.ListComp elt [⟨tg, iter, ifs, 0⟩] scope pos) scope X.env pos' (newList []) false (eval iter X.env) use) Qf X.xe s := by
  have cellOf : ∀ y ∈ scope.names, y.2 = .free → ∃ c, X.env.cells.lookup y.1 = some c := fun y hy e => (ok.free y hy e).elim (fun k => I.ok.has _ (.inl k)) fun k => I.ok.has _ (.inr k)
  refine wpAny_comprehension_free (use := use) rfl hs (closure_ok cellOf) ok.kind (fun y hy e => by rw [ok.uniq y hy, e]) (thn (hi.run pins s σ H _ I h) fun xv s1 hx => thn hx fun itv s2 h2 => ?_)
  obtain ⟨it, fp, tn, J, H2, e, I2, T, st2, f2, q⟩ := h2
  subst e
  refine wpAny_newObj_type (newEnv_comp ?_) (by show 0 ≤ sizeLine; decide)
  generalize hD : s2.heap.objs.size = D
  have hDn : H2 D = none := I2.hok.fresh (Nat.le_of_eq hD)
  obtain ⟨W, ⟨m0, w0⟩, turn⟩ := q D hDn
  generalize hs3 : ({ s2 with heap := s2.heap.push { cls := .type "list", data := .seq ([] : List Value).toArray } } : Shared) = s3
  have I3 : Inv X pins σ (upd H2 D (.lst [])) s3 := by
    rw [← hs3]
    refine I2.laid (t' := s2.toks) (fun b o e => Heap.get?_push_of_some _ e) (Nat.le_of_eq hD) ⟨Nat.zero_le _, [], 0, .nil, ?_⟩
    rw [← hD]; exact Heap.get?_push_size _ rfl
  have h3 : s3.heap = s2.heap.push { cls := .type "list", data := .seq ([] : List Value).toArray } := by rw [← hs3]
  have f3 : ∀ b ∈ fp, FpOk X pins (upd H2 D (.lst [])) b ∧ b < s3.heap.objs.size := fun b hb => by
    obtain ⟨o, e, _⟩ := T.obj _ _ st2 b hb
    have hlt := Heap.lt_size e
    refine ⟨⟨?_, (f2 b hb).2⟩, by rw [h3, Heap.size_push]; exact Nat.lt_succ_of_lt hlt⟩
    rw [upd_ne (by rw [← hD]; exact Nat.ne_of_lt hlt)]; exact (f2 b hb).1
  have st3 : tn 0 s3.heap := T.keep _ _ _ st2 fun b _ o e => by rw [h3]; exact Heap.get?_push_of_some _ e
  have pin3 := I3.pin p0 (List.mem_append_left _ hp0)
  have pst : p0.1 ∉ frs X.stack := fun z => (List.mem_cons.mp (I3.stkSub _ z)).elim pin3.2.2.1 pin3.2.2.2.1
  have kp4 : ∀ b o, s3.heap.get? b = some o → (pushCells (s3.heap.push { cls := .type "dict", data := .dict #[] }) scope.names).get? b = some o := fun b o e => pushCells_keeps _ _ _ _ (Heap.get?_push_of_some _ e)
  have I4 : Inv (blkH X p0 s3 (upd H2 D (.lst [])) scope (compEnvC scope (cellsFrom (s3.heap.objs.size + 1) scope.names (cloFrom X.env.cells scope.names [])) s3.heap.objs.size X.env) fp) [] (wipe σ (own.map (·.2))) (upd H2 D (.lst [])) { s3 with heap := pushCells (s3.heap.push { cls := .type "dict", data := .dict #[] }) scope.names } :=
    to_blkH (block_start I3 ok hN f3) ⟨kp4 _ _ pin3.1, pin3.2.1, Nat.ne_of_lt (Heap.lt_size pin3.1), pst, pin3.2.2.2.2⟩
  have pg := hg s3 (upd H2 D (.lst [])) s3.heap.objs.size (cellsFrom (s3.heap.objs.size + 1) scope.names (cloFrom X.env.cells scope.names [])) fp
  have pt := ht s3 (upd H2 D (.lst [])) s3.heap.objs.size (cellsFrom (s3.heap.objs.size + 1) scope.names (cloFrom X.env.cells scope.names [])) fp
  have pe := he s3 (upd H2 D (.lst [])) s3.heap.objs.size (cellsFrom (s3.heap.objs.size + 1) scope.names (cloFrom X.env.cells scope.names [])) fp
  show codeAny _ _ (.compStart (.ListComp elt [⟨tg, iter, ifs, 0⟩] scope pos) 0 (.ref it) (.ref D) (compEnvC scope (cellsFrom (s3.heap.objs.size + 1) scope.names (cloFrom X.env.cells scope.names [])) s3.heap.objs.size X.env)) (compPost (model X.prog X.w) X.A X.xe use Qf (.ref D) s3.heap.objs.size) { s3 with heap := pushCells (s3.heap.push { cls := .type "dict", data := .dict #[] }) scope.names }
  have nfp : ∀ b ∈ fp, (upd H2 D (.lst [])) b = none := fun b hb => (f3 b hb).1.1
  have np0 : ∀ b ∈ fp, p0.1 ≠ b := fun b hb => (f3 b hb).1.2.2.2.2.2 p0 (List.mem_append_left _ hp0)
  generalize hce : compEnvC scope (cellsFrom (s3.heap.objs.size + 1) scope.names (cloFrom X.env.cells scope.names [])) s3.heap.objs.size X.env = ce at I4 pg pt pe ⊢
  have cL : ce.locals = s3.heap.objs.size := by subst hce; rfl
  generalize hH3 : upd H2 D (.lst []) = H3 at I3 I4 pg pt pe w0 nfp f3
  generalize hs4 : ({ s3 with heap := pushCells (s3.heap.push { cls := .type "dict", data := .dict #[] }) scope.names } : Shared) = s4 at I4 ⊢
  have st4 : tn 0 s4.heap := T.keep _ _ _ st3 fun b _ o e => by rw [← hs4]; exact kp4 _ _ e
  have hotB : HotC (blkH X p0 s3 H3 scope ce fp) := ⟨p0, hot, List.mem_singleton.mpr rfl⟩
  have stat : ∀ {σ' : L2.St} {H' : Hp} {s' : Shared}, Inv (blkH X p0 s3 H3 scope ce fp) [] σ' H' s' → (∀ b ∈ fp, H' b = none) → ∀ b ∈ fp, FpOk (blkH X p0 s3 H3 scope ce fp) [] H' b := fun {σ' H' s'} I' hn b hb =>
    ⟨hn b hb, (I'.ok.exf b hb).1, I'.ok.exfs b hb, .inl hb, fun x c e => (I'.ok.exf b hb).2 x c e, fun p hp => by
      have e : p = p0 := by simpa using hp
      rw [e]; exact np0 b hb⟩
  have loop : codeAny (model X.prog X.w) X.A (.compLoop (.ListComp elt [⟨tg, iter, ifs, 0⟩] scope pos) 0 (.ref it) (.ref D) ce) (compPost (model X.prog X.w) X.A X.xe use Qf (.ref D) s3.heap.objs.size) s4 := by
    refine compLoop_any (fun n s' => ∃ i H', Inv (blkH X p0 s3 H3 scope ce fp) [] (wipe σ (own.map (·.2))) H' s' ∧ tn i s'.heap ∧ (∀ b ∈ fp, H' b = none) ∧ W i n H') ?_ m0 ⟨0, H3, I4, st4, nfp, w0⟩
    rintro n s5 ⟨i, H5, I5, st5, n5, w5⟩
    rcases turn i n H5 w5 with ⟨stop, qq⟩ | ⟨go, Nx, hNx, step⟩
    · refine thnF (T.done (blkH X p0 s3 H3 scope ce fp) rfl rfl rfl hotB i [] s5 _ H5 (fun _ _ => False) I5 (stat I5 n5) st5 stop) fun r s6 ⟨hr, I6⟩ => ?_
      subst hr
      have I7 : Inv X pins σ H5 s6 := I3.call' (ch := fp) I6.os I6.base I6.hok I6.bare fun b hb => ⟨(f3 b hb).1.2.2.2.1, (f3 b hb).1.2.1, (f3 b hb).1.2.2.2.2.1, (f3 b hb).1.2.2.2.2.2⟩
      have nC : H5 s3.heap.objs.size = none := by
        have z : H5 ce.locals = none := I6.free
        rw [cL] at z; exact z
      obtain ⟨m, hn, _⟩ := I6.loc
      have hn : s6.heap.Ns ce.locals m := hn
      rw [cL] at hn
      exact hRR D s3.heap.objs.size s6 m H5 I7 qq hn (I3.fpOk (Nat.le_refl _) nC)
    · refine thnF (T.item (blkH X p0 s3 H3 scope ce fp) rfl rfl rfl hotB i [] s5 _ H5 (fun _ _ => False) I5 (stat I5 n5) st5 go) fun r s6 ⟨u, hr, h6⟩ => ?_
      subst hr
      refine thnF h6 fun _ s7 ⟨x, H7, I7, r7, y7, st7, n7⟩ => ?_
      have I7' := I7.pinned (stat I7 n7) (T.obj _ _ st7)
      refine thnF (pg.run _ s7 _ H7 x u _ I7' r7 (step x H7 y7)) fun _ s8 ⟨σ8, H8, I8, hw8, q8⟩ => ?_
      refine thnF (pt.run _ s8 σ8 H8 _ I8 q8) fun b s9 ⟨H9, I9, q9⟩ => ?_
      have fin : ∀ {s' : Shared} {H' : Hp}, Inv (blkH X p0 s3 H3 scope ce fp) ([] ++ pinsAt fp s7.heap) σ8 H' s' → Nx H' → ∃ m, m < n ∧ ∃ i H', Inv (blkH X p0 s3 H3 scope ce fp) [] (wipe σ (own.map (·.2))) H' s' ∧ tn i s'.heap ∧ (∀ b ∈ fp, H' b = none) ∧ W i m H' := fun {s' H'} I' nx => by
        obtain ⟨m', hm, w'⟩ := hNx H' nx
        have pin' : ∀ b ∈ fp, ∀ o, s7.heap.get? b = some o → s'.heap.get? b = some o ∧ H' b = none := fun b hb o e =>
          let z := I'.pin (b, o) (List.mem_append_right _ (List.mem_append_right _ (mem_pinsAt hb e)))
          ⟨z.1, z.2.1⟩
        refine ⟨m', hm, i + 1, H', (I'.unpinned (pins := [])).weak (by rw [← hw8, wipe_length]) (fun j v e => ?_), T.keep _ _ _ st7 fun b hb o e => (pin' b hb o e).1, fun b hb => ?_, w'⟩
        · rw [← hw8] at e; exact (wipe_some e).1
        · obtain ⟨o, e, _⟩ := T.obj _ _ st7 b hb
          exact (pin' b hb o e).2
      cases b with
      | false =>
        simp only [Bool.false_eq_true, if_false] at q9 ⊢
        exact fin I9 q9
      | true =>
        simp only [if_true] at q9 ⊢
        refine thnF (pe.run _ s9 σ8 H9 _ I9 q9) fun z s10 ⟨yv, H10, I10, r10, acc, hD10, hz10, nx⟩ => ?_
        exact app_ok (X := blkH X p0 s3 H3 scope ce fp) I10 hD10 hz10 r10 fun s11 I11 => fin I11 nx
  exact codeAny_compStart_list loop (T.self X.A 0 _ _ _ st4 loop)
theorem pe_lcH {elt tg iter : Expr} {ifs : List Expr} {scope : Scope} {own : List (Str × Nat)} {pos : Pos} {wi : TI} {g : TG} {tt : TT} {te : TE} {p0 : Addr × Obj} (hot : Hot1 X.A p0) (hp0 : p0 ∈ X.pn) (hN : X.N.Nodup) (hi : PIH X tg iter wi) (ok : BlkOk X.N X.env.scope scope own)
    (hg : ∀ (s : Shared) (H : Hp) (C : Addr) (cl : List (Str × Addr)) (fp : List Addr), PG (blkH X p0 s H scope (compEnvC scope cl C X.env) fp) tg g) (ht : ∀ (s : Shared) (H : Hp) (C : Addr) (cl : List (Str × Addr)) (fp : List Addr), PTs (blkH X p0 s H scope (compEnvC scope cl C X.env) fp) ifs tt)
    (he : ∀ (s : Shared) (H : Hp) (C : Addr) (cl : List (Str × Addr)) (fp : List Addr), PE (blkH X p0 s H scope (compEnvC scope cl C X.env) fp) elt te) (hs : ∀ x, foldedSetIterable iter X.env x = pure x := by intro _; rfl) :
    PE X (.ListComp elt [⟨tg, iter, ifs, 0⟩] scope pos) (tLc wi g tt te (own.map (·.2))) := by
  refine ⟨fun pins s σ H Q I h => ?_⟩
  rw [eval_ListComp]
  refine lc_coreH hot hp0 hN I hi ok hg ht he hs h fun D C s' m H' I' q hn f => ⟨m, hn, fun h'' sb => ?_⟩
  obtain ⟨f0, f1, f2, f3, f4, f5⟩ := f
  exact ⟨.ref D, H', I'.turned (t' := s'.toks) (fun b o hb e => (sb.2 b hb).trans e) f0 f1 f3 f4 f5, rfl, q⟩
theorem d_lcH {elt tg iter : Expr} {ifs : List Expr} {scope : Scope} {own : List (Str × Nat)} {pos : Pos} {mi : MI} {p : Pt} {mt : MB} {me : ME} {p0 : Addr × Obj} (hot : Hot1 X.A p0) (hp0 : p0 ∈ X.pn) (hN : X.N.Nodup) (hi : PIH X tg iter (tI X.K S G mi)) (ok : BlkOk X.N X.env.scope scope own) (hF : ∀ i ∈ own.map (·.2), G.Free i) (hp : ∀ i ∈ p.slots, i ∈ own.map (·.2))
    (hg : ∀ (s : Shared) (H : Hp) (C : Addr) (cl : List (Str × Addr)) (fp : List Addr), PG (blkH X p0 s H scope (compEnvC scope cl C X.env) fp) tg (tP X.K p)) (ht : ∀ (s : Shared) (H : Hp) (C : Addr) (cl : List (Str × Addr)) (fp : List Addr), PTs (blkH X p0 s H scope (compEnvC scope cl C X.env) fp) ifs (MP.tB X.K S G.blk mt))
    (he : ∀ (s : Shared) (H : Hp) (C : Addr) (cl : List (Str × Addr)) (fp : List Addr), PE (blkH X p0 s H scope (compEnvC scope cl C X.env) fp) elt (tE X.K S G.blk me)) (hs : ∀ x, foldedSetIterable iter X.env x = pure x := by intro _; rfl) :
    PE X (.ListComp elt [⟨tg, iter, ifs, 0⟩] scope pos) (tE X.K S G (eLc mi p (own.map (·.2)) mt me)) := by
  refine PE.imp (pe_lcH hot hp0 hN hi ok hg ht he hs) fun σ H Q h => ?_
  refine (tX.bind (rv := fun ρ H it J => WalkM X.K S ρ H it J) h).mono ?_
  rintro J H0 ⟨it, A0, ρ0, e0, h1, h2, h3, wk, h5⟩
  exact lc_of hF hp h1 h2 h3 wk h5
end
end MP
end S13
section S14
set_option Elab.async false
set_option linter.all false
set_option maxRecDepth 100000
/-! MPn: try: several except clauses, of one class or more, with a name or without. -/
namespace PySem.W
open PySem PySem.Spec PySem.Calls PyProof.Rows
section
variable {prog : Program} {w : World} {A : Around} {E : Value → Shared → Prop} {s : Shared} {K : Frag} {x D : Addr} {ox : Obj} {od : Option Obj}
theorem mp_findObj_data {C : Addr} {name : Str} {a g : Value} (hc : (clsIn K C).isSome = true) (ha : findIn K (.ref C) name = some (some a)) (hg : specialIn K a "__get__" = some (some g)) (ht : takesIn K a = some true) : findObj K C od name = some (.bind g a) := by
  obtain ⟨cd, hc⟩ := Option.isSome_iff_exists.mp hc
  unfold findObj
  rw [hc, Option.bind_some, ha, Option.bind_some]
  simp [hg, ht]
/-- e.__class__ of a caught exception, with a dict of its own -/
theorem mp_class_exc {Q : Option Value → Shared → Prop} (hga : findIn K (.ref D) "__getattribute__" = some (some (.builtin "BaseException.__getattribute__"))) (hgt : findIn K (.ref D) "__getattr__" = some none) (hsub : subIn K (.ref D) (.type "BaseException") = some true)
    (hdct : hasDictIn K D = true) (ha : findIn K (.ref D) "__class__" = some (some (.builtin "object.__class__"))) (hn : specialIn K (.builtin "object.__class__") "__get__" = some (some (.builtin "getset_descriptor.__get__"))) (htk : takesIn K (.builtin "object.__class__") = some true)
    (hm : mroIn K D (.type "object") = some true) (X : K.In s.heap) (I : InstAt s.heap x ox D od) (h : Q (some (.ref D)) { s with toks := s.toks + 1 }) : wpAny (model prog w) A (getAttr? (.ref x) "__class__") Q E s := by
  have hf : findObj K D od "__class__" = some (.bind (.builtin "getset_descriptor.__get__") (.builtin "object.__class__")) := mp_findObj_data (by obtain ⟨cd, hc, _⟩ := any_some hdct; rw [hc]; rfl) ha hn htk
  obtain ⟨hp, g, d, t, os⟩ := s
  have L0 := I.type (M := model prog w)
  have L1 := looks_findIn (M := model prog w) X hga
  have L2 := looks_findIn (M := model prog w) X hgt
  have L3 := looks_find (M := model prog w) X I hf
  have sub : Looks (model prog w) hp (isInstance (.ref x) (.type "BaseException")) true := L0.andThen (looks_subIn X hsub)
  have hx0 : (false && onTheHeap (Value.builtin "BaseException.__getattribute__")) = false := rfl
  have hx2 : (Value.builtin "BaseException.__getattribute__" == Value.builtin "object.__getattribute__") = false := by decide +kernel
  have hx1 : (onTheHeap (Value.ref D) && Value.builtin "BaseException.__getattribute__" == Value.builtin "object.__getattribute__") = false := by rw [hx2]; rfl
  unfold getAttr? getAttrBy? getAttrBy
  refine wpAny_bind (wpAny_mkText (wpAny_bind (wpAny_attempt (wpAny_holding (wpAny_bind (L0.at (wpAny_bind (L1.at ?_))))))))
  show wpAny _ _ (if (onTheHeap (Value.ref D) && Value.builtin "BaseException.__getattribute__" == Value.builtin "object.__getattribute__") = true then _ else _) _ _ _
  rw [hx1, if_neg Bool.false_ne_true]
  unfold getAttrByItsOwn hookBefore
  refine wpAny_bind ?_
  rw [if_pos (show onTheHeap (Value.ref D) = true from rfl)]
  refine L2.at ?_
  refine wpAny_bind (wpAny_attempt (wpAny_holding ?_))
  unfold callGetattribute
  rw [hx0, if_neg Bool.false_ne_true]
  unfold boundAndCalled
  rw [PySem.F.excAttr_ValueError.ga.bind (.ref x)]
  refine wpAny_bind (wpAny_pure ?_)
  show wpAny _ _ (call (.builtin "BaseException.__getattribute__") [.ref x, .str "__class__" t]) _ _ _
  refine wpAny_call (codeAny_call_builtin PySem.F.excAttr_ValueError.ga.plain PySem.F.entry_bexc_ga ?_)
  refine @check_slot (model prog w) _ _ ⟨hp, g, d, t + 1, os⟩ "BaseException.__getattribute__" "BaseException" "__getattribute__" (.ref x) [.str "__class__" t] [] _ (by decide +kernel) (by decide +kernel) sub (PySem.F.args_bexc_ga (.ref x) (.str "__class__" t)) ?_
  unfold Builtin.«object.__getattribute__»
  refine wpAny_bind (wpAny_of_eq (a := ((Value.ref x : Value), [Value.str "__class__" t])) (by first | rfl | (simp only [slotArgs]; rfl)) ?_)
  refine wpAny_bind (wpAny_pure (wpAny_bind (L0.at (wpAny_bind (L3.at ?_)))))
  show wpAny _ _ (holding [Value.builtin "object.__class__"] (call (.builtin "getset_descriptor.__get__") [.builtin "object.__class__", .ref x, .ref D]) >>= ret) _ _ _
  refine wpAny_bind (wpAny_holding (wpAny_call (class_get (s := ⟨hp, g, d, t + 1, os⟩) (ox := ox) (od := od) X I hm ?_)))
  show wpAny _ _ (Sem.pure _) _ _ _
  refine wpAny_pure ?_
  show wpAny _ _ (handedOut (.ref D)) _ _ _
  rw [handedOut_of (v := .ref D) rfl]
  first
    | exact wpAny_pure (wpAny_pure h)
    | exact wpAny_pure h
    | exact wpAny_pure (wpAny_bind (wpAny_pure (wpAny_pure h)))
end
end PySem.W
namespace MP
open PySem PySem.Spec PyProof.Rows L2
theorem kitx_excD {K : PySem.W.Frag} {x D : Addr} {od : Option Obj} (C : ExcC K D) : PySem.W.KitX K (.ref x) (.ref D) (fun h => ∃ ox, PySem.W.InstAt h x ox D od) where
  ty := fun _ _ _ ⟨_, I⟩ => I.type
  it := fun _ _ X _ => by
    obtain ⟨cdD, hcD, _⟩ := PySem.W.any_some C.hd
    unfold PySem.W.clsIn at hcD
    split at hcD
    · rename_i c' d' cd' sl' ho
      intro A' Q' E' s' k q
      unfold isType loadHead
      exact wpAny_bind (wpAny_loadPart (k _ _ (X _ _ ho)) (wpAny_pure q))
    · cases hcD
  ne := fun h tp dd its n sl X htp => by
    obtain ⟨cdD, hcD, _⟩ := PySem.W.any_some C.hd
    refine Bool.eq_false_iff.mpr fun q => ?_
    have e : D = tp := Value.ref.inj (beq_iff_eq.mp q)
    subst e
    unfold PySem.W.clsIn at hcD
    split at hcD
    · rename_i c' d' cd' sl' ho
      have z := (X _ _ ho).symm.trans htp
      cases z
    · cases hcD
  ca := fun X ⟨_, I⟩ k => PySem.W.mp_class_exc C.hg C.hk C.hs C.hd C.ha C.hn C.ht C.hm X I k

/-! ### the caught exception -/
/-- the exceptions' classes, which is below which -/
structure ExcT (K : PySem.W.Frag) (S : Sx) (tab : Nat → Nat → Option Bool) : Prop where
  ok : ∀ c k b, tab c k = some b → ExcC K (S.ι c) ∧ PySem.W.kitOne K (.ref (S.ι c)) (.ref (S.ι k)) = some b ∧ PySem.W.exmOne K (.ref (S.ι c)) (.ref (S.ι k)) = some b
/-- what is known within an except suite: slot i holds the exception, d is its dict -/
def GS (K : PySem.W.Frag) (S : Sx) (G : Gx) (i : Nat) (a d : Addr) (fs : Fs) : Gx where
  J := fun ρ H σ => G.J ρ H σ ∧ σ[i]? = some (some (.ref a)) ∧ ∃ gs, H d = some (.xd gs) ∧ RelF K S ρ H fs gs
  mono := fun p m ⟨h1, h2, gs, h3, h4⟩ => ⟨G.mono p m h1, h2, gs, m _ _ h3 trivial, h4.mono p m⟩
  W := fun _ _ _ _ => False
theorem GS.free {K : PySem.W.Frag} {S : Sx} {G : Gx} {i j : Nat} {a d : Addr} {fs : Fs} (h : G.Free j) (hij : j ≠ i) : (GS K S G i a d fs).Free j := fun ρ H σ v ⟨h1, h2, h3⟩ => ⟨h ρ H σ v h1, by rw [List.getElem?_set_ne hij]; exact h2, h3⟩
/-- the same without a name -/
def GN (G : Gx) : Gx := ⟨G.J, G.mono, fun _ _ _ _ => False⟩
theorem takesS {X : Cx} {a : Addr} {pn : List (Addr × Obj)} : L2N.Takes (X.suite a pn) (fun _ _ _ _ => False) := fun _ _ x => by
  obtain ⟨_, _, _, _, _, _, _, _, _, _, _, _, _, _, _, _, z⟩ := x
  exact z.elim
section
variable {X : Cx} {S : Sx} {G : Gx} {i : Nat} {a d : Addr} {fs : Fs} {oe : Obj} {pn : List (Addr × Obj)} {n : Str} {c : Nat} {tab : Nat → Nat → Option Bool} {p pos p1 p2 : Pos}
/-- odd.f -/
def eXf (f : Str) (fs : Fs) : ME := fun _ A => match fs.lookup f with | some t => .ok t A | none => .bad
theorem d_xf {f : Str} (C : ExcC X.K (S.ι c)) (hno : PySem.W.findIn X.K (.ref (S.ι c)) f = some none) (hz : L2N.Zn (.ref (S.ι c)) (some d) oe) (hf : ∃ vs, oe.data = .fields vs) (hN : X.N[i]? = some n := by rfl) (hv : Vis X.env.scope n := by exact Or.inl rfl) (hd : (n == ("__debug__" : Str)) = false := by decide)
    (hcd : (n == ("__classdict__" : Str)) = false := by decide) (hb : attributeBase (.Name n p) f X.env (eval (.Name n p) X.env) = eval (.Name n p) X.env := by rfl) : PE (X.suite a ((a, oe) :: pn)) (.Attribute (.Name n p) f pos) (tE X.K S (GS X.K S G i a d fs) (eXf f fs)) := by
  refine ⟨fun pins s σ H Q I h => ?_⟩
  obtain ⟨ρ, A, e, h1, h2, ⟨j1, j2, gs, j3, j4⟩, h4⟩ := h
  refine attr_of hb (thn ((pe_var (X := X.suite a ((a, oe) :: pn)) hN hv hd hcd).run pins s σ H (fun x H1 => x = .ref a ∧ H1 = H) I ⟨_, j2, rfl, rfl⟩) fun u s1 hh => ?_)
  obtain ⟨x, H1, I1, rx, ex, eH⟩ := hh
  subst ex
  subst eH
  obtain rfl : u = Value.ref a := rx
  obtain ⟨ha, _⟩ := I1.pin (a, oe) (List.mem_append_left _ List.mem_cons_self)
  obtain ⟨vs, hdt⟩ := hf
  obtain ⟨mA, hns, hr⟩ := (show ObjOk X.prog X.w H1 s1.heap d (.xd gs) from I1.hok d _ j3)
  obtain ⟨od, ho, hl⟩ := lookIn_ns hns
  unfold eXf at h4
  split at h4
  · rename_i t q
    obtain ⟨y, hy, ry⟩ := j4.get q
    obtain ⟨u, hu, ru⟩ := RelO.some_of (v := y) (o := mA f) (by rw [← hy]; exact hr f)
    have J : PySem.W.InstAt s1.heap a oe (S.ι c) (some od) := ⟨ha, hz.1, by unfold PySem.W.notCls; rw [hdt] <;> rfl, by rw [hz.2.1]; exact ho⟩
    exact HandSPX.exc_get I1.kIn J C.hg C.hk C.hs (PySem.W.findObj_own C.hd hno rfl (by rw [hl, hu])) (handed_of ru) ⟨y, H1, I1.tok _, ru, Fut.here h4 h1 y ry⟩
  · exact h4.elim
/-- isinstance(odd, C) -/
def eXi (tab : Nat → Nat → Option Bool) (c k : Nat) : ME := fun _ A => match tab c k with | some b => .ok (.bl b) A | none => .bad
theorem d_xi {k : Nat} {x : Str} {pf : Pos} (T : ExcT X.K S tab) (hz : L2N.Zn (.ref (S.ι c)) (some d) oe) (hf : ∃ vs, oe.data = .fields vs) (hm : X.mg "isinstance" = none) (hk : X.mg x = some (.ref (S.ι k))) (hgx : Gl X x := by rfl) (hdx : (x == ("__debug__" : Str)) = false := by decide)
    (hN : X.N[i]? = some n := by rfl) (hv : Vis X.env.scope n := by exact Or.inl rfl) (hd : (n == ("__debug__" : Str)) = false := by decide) (hcd : (n == ("__classdict__" : Str)) = false := by decide) (hg : Gl X "isinstance" := by rfl)
    (he : starEach [.Name n p1, .Name x p2] X.env = (false, eval (.Name n p1) X.env) :: starEach [.Name x p2] X.env := by rfl) (he2 : starEach [.Name x p2] X.env = (false, eval (.Name x p2) X.env) :: starEach [] X.env := by rfl) (hpl : (backTo pos (starEach [.Name x p2] X.env)).any (·.1) = false := by rfl) :
    PE (X.suite a ((a, oe) :: pn)) (.Call (.Name "isinstance" pf) [.Name n p1, .Name x p2] [] pos) (tE X.K S (GS X.K S G i a d fs) (eXi tab c k)) := by
  have hcall : CallR (X.suite a ((a, oe) :: pn)) (.builtin "isinstance") (fun xs H Q => ∃ (b : Bool) (gs : List (Str × V)), xs = [.ref a, .ref (S.ι k)] ∧ H d = some (.xd gs) ∧ tab c k = some b ∧ Q (.bl b) H) := by
    intro pins s σ H xs us Q I r h
    obtain ⟨b, gs, rfl, hgs, e, q⟩ := h
    cases r with
    | cons rx rr =>
      cases rr with
      | cons rt rr =>
        cases rr
        cases rx
        cases rt
        obtain ⟨C, e1, _⟩ := T.ok c k b e
        obtain ⟨hget, _⟩ := I.pin (a, oe) (List.mem_append.mpr (.inl List.mem_cons_self))
        obtain ⟨vs, hv⟩ := hf
        obtain ⟨mA, hns, hr⟩ := (show ObjOk X.prog X.w H s.heap d (.xd gs) from I.hok d _ hgs)
        obtain ⟨od, ho, hl⟩ := lookIn_ns hns
        have J : PySem.W.InstAt s.heap a oe (S.ι c) (some od) := ⟨hget, hz.1, by unfold PySem.W.notCls; rw [hv] <;> rfl, by rw [hz.2.1]; exact ho⟩
        exact PySem.W.kia_one (kitx_excD C) I.kIn ⟨oe, J⟩ e1 (fun z => nomatch z) fun tk => ⟨.bl b, H, I.kept (t' := tk) fun _ _ z => z, rfl, q⟩
  have hp := pe_callB (X := X.suite a ((a, oe) :: pn)) (x := "isinstance") (p := pf) (pos := pos) hcall hg hm (by decide +kernel) (pa_cons (X := X.suite a ((a, oe) :: pn)) (pe_var (X := X.suite a ((a, oe) :: pn)) hN hv hd hcd) (pa_cons (X := X.suite a ((a, oe) :: pn)) (pe_glob (X := X.suite a ((a, oe) :: pn)) (v := .ref (S.ι k)) hgx hk rfl hdx) pa_nil he2) he) (by decide) (by decide) he hpl
  refine PE.imp hp fun σ H Q h => ?_
  obtain ⟨ρ, A, e, h1, h2, ⟨j1, j2, gs, j3, j4⟩, h4⟩ := h
  unfold eXi at h4
  split at h4
  · rename_i b q
    exact ⟨_, j2, b, gs, rfl, j3, q, Fut.here h4 h1 _ (.bl b)⟩
  · exact h4.elim
end

/-! ### what an except clause names -/
structure Tst (X : Cx) (ty : Expr) (m : Value → Option Bool) : Prop where
  run : ∀ (a : Addr) (oe : Obj) (pn pins : List (Addr × Obj)) (σ : L2.St) (H : Hp) (s : Shared) (cls : Value) (b : Bool) (Q : Bool → Shared → Prop) (E E' : Value → Shared → Prop), Inv (X.suite a pn) pins σ H s → s.heap.get? a = some oe → oe.cls = cls → m cls = some b →
    (∀ h' t', (∀ x o, s.heap.get? x = some o → h'.get? x = some o) → Q b { s with heap := h', toks := t' }) →
    wpAny (model X.prog X.w) (X.A.mark (some (.ref a))) (eval ty X.env) (fun c s1 => wpAny (model X.prog X.w) (X.A.mark (some (.ref a))) (excMatches (.ref a) c) Q E s1) E' s
section
variable {X : Cx}
theorem ld_nm {x : Str} {c : Value} {a : Addr} {pn pins : List (Addr × Obj)} {σ : L2.St} {H : Hp} {s : Shared} {np : Pos} {Q : Value → Shared → Prop} {E : Value → Shared → Prop} (hc : Names X x c) (I : Inv (X.suite a pn) pins σ H s) (q : Q c s) :
    wpAny (model X.prog X.w) (X.A.mark (some (.ref a))) (eval (.Name x np) X.env) Q E s := by
  obtain ⟨hg, hdbg, hm | ⟨hm, hv, hnn⟩⟩ := hc
  · exact ld_glob (X := X.suite a pn) I hg hm q hdbg
  · exact ld_blt (X := X.suite a pn) I hg hm hv q hnn hdbg
theorem tst_one {x : Str} {c : Value} {np : Pos} (hc : Names X x c) : Tst X (.Name x np) (fun cls => PySem.W.exmOne X.K cls c) := ⟨fun a oe pn pins σ H s cls b Q E E' I ha hcl hb q => by
  refine ld_nm hc I ?_
  have LT : PySem.W.Looks (model X.prog X.w) s.heap (typeOf (.ref a)) cls := fun A Q E s k q => wpAny_typeOf_ref (k _ _ ha) (by rw [hcl]; exact q)
  exact (PySem.W.exm_one (M := model X.prog X.w) I.kIn LT hb).here (q s.heap s.toks fun _ _ z => z)⟩
theorem tst_two {x1 x2 : Str} {c1 c2 : Value} {p1 p2 tpos : Pos} {kk : Nat} (n1 : Names X x1 c1) (n2 : Names X x2 c2) : Tst X (.Tuple [.Name x1 p1, .Name x2 p2] kk tpos) (fun cls => PySem.W.exmAny X.K cls [c1, c2]) := ⟨fun a oe pn pins σ H s cls b Q E E' I ha hcl hb q => by
  have LT : PySem.W.Looks (model X.prog X.w) s.heap (typeOf (.ref a)) cls := fun A Q E s k q => wpAny_typeOf_ref (k _ _ ha) (by rw [hcl]; exact q)
  refine wpAny_Tuple ?_
  refine wpAny_items_cons (ld_nm n1 I ?_)
  refine wpAny_items_cons (ld_nm n2 I ?_)
  refine wpAny_items_nil ⟨by size_fits, ?_⟩
  have kp : ∀ q o, s.heap.get? q = some o → (s.heap.push { cls := .type "tuple", data := .seq [c1, c2].toArray }).get? q = some o := fun _ _ z => Heap.get?_push_of_some _ z
  exact (PySem.W.exm_tup2 (I.kIn.keeps kp) (LT.keeps kp) (Heap.get?_push_size s.heap rfl) hb).here (q _ _ kp)⟩
theorem tst_three {x1 x2 x3 : Str} {c1 c2 c3 : Value} {p1 p2 p3 tpos : Pos} {kk : Nat} (n1 : Names X x1 c1) (n2 : Names X x2 c2) (n3 : Names X x3 c3) : Tst X (.Tuple [.Name x1 p1, .Name x2 p2, .Name x3 p3] kk tpos) (fun cls => PySem.W.exmAny X.K cls [c1, c2, c3]) := ⟨fun a oe pn pins σ H s cls b Q E E' I ha hcl hb q => by
  have LT : PySem.W.Looks (model X.prog X.w) s.heap (typeOf (.ref a)) cls := fun A Q E s k q => wpAny_typeOf_ref (k _ _ ha) (by rw [hcl]; exact q)
  refine wpAny_Tuple ?_
  refine wpAny_items_cons (ld_nm n1 I ?_)
  refine wpAny_items_cons (ld_nm n2 I ?_)
  refine wpAny_items_cons (ld_nm n3 I ?_)
  refine wpAny_items_nil ⟨by size_fits, ?_⟩
  have kp : ∀ q o, s.heap.get? q = some o → (s.heap.push { cls := .type "tuple", data := .seq [c1, c2, c3].toArray }).get? q = some o := fun _ _ z => Heap.get?_push_of_some _ z
  exact (PySem.W.exm_tup3 (I.kIn.keeps kp) (LT.keeps kp) (Heap.get?_push_size s.heap rfl) hb).here (q _ _ kp)⟩
theorem tst_four {x1 x2 x3 x4 : Str} {c1 c2 c3 c4 : Value} {p1 p2 p3 p4 tpos : Pos} {kk : Nat} (n1 : Names X x1 c1) (n2 : Names X x2 c2) (n3 : Names X x3 c3) (n4 : Names X x4 c4) : Tst X (.Tuple [.Name x1 p1, .Name x2 p2, .Name x3 p3, .Name x4 p4] kk tpos) (fun cls => PySem.W.exmAny X.K cls [c1, c2, c3, c4]) := ⟨fun a oe pn pins σ H s cls b Q E E' I ha hcl hb q => by
  have LT : PySem.W.Looks (model X.prog X.w) s.heap (typeOf (.ref a)) cls := fun A Q E s k q => wpAny_typeOf_ref (k _ _ ha) (by rw [hcl]; exact q)
  refine wpAny_Tuple ?_
  refine wpAny_items_cons (ld_nm n1 I ?_)
  refine wpAny_items_cons (ld_nm n2 I ?_)
  refine wpAny_items_cons (ld_nm n3 I ?_)
  refine wpAny_items_cons (ld_nm n4 I ?_)
  refine wpAny_items_nil ⟨by size_fits, ?_⟩
  have kp : ∀ q o, s.heap.get? q = some o → (s.heap.push { cls := .type "tuple", data := .seq [c1, c2, c3, c4].toArray }).get? q = some o := fun _ _ z => Heap.get?_push_of_some _ z
  exact (PySem.W.exm_tup4 (I.kIn.keeps kp) (LT.keeps kp) (Heap.get?_push_size s.heap rfl) hb).here (q _ _ kp)⟩
end
end MP
end S14
section S15
set_option Elab.async false
set_option linter.all false
set_option maxRecDepth 100000
/-! MPo: try, the rule, and as a step of a run. -/
namespace MP
open PySem PySem.Spec PyProof.Rows L2

theorem fz_keeps {B h h' : Heap} {l : List Env} {e : Addr} {Z : Obj → Prop} (R : HandSPX.FlyingZ B l e Z h) (k : ∀ b o, h.get? b = some o → h'.get? b = some o) : HandSPX.FlyingZ B l e Z h' := by
  obtain ⟨f1, f2, f3, oe, vs, T, oT, ts, he, hz, hd, h1, hn, hne, hT, hdT, h3⟩ := R
  exact ⟨fun b o q => k b o (f1 b o q), f2, f3.of_keeps fun b o q _ => ⟨o, k b o q, rfl⟩, oe, vs, T, oT, ts, k _ _ he, hz, hd, h1, hn, hne, k _ _ hT, hdT, h3⟩
/-- the ends behind a clause with a name -/
def Das (i : Nat) (D : Ends) : Ends where
  nx := fun σ H => D.nx (σ.set i none) H
  rt := D.rt
  bk := fun σ H => D.bk (σ.set i none) H
  ct := fun σ H => D.ct (σ.set i none) H
abbrev Cl := (Value → Option Bool) × Option Nat × (Addr → Value → Option Addr → TS)
inductive HdsX (X : Cx) : List ExceptHandler → List Cl → Prop
  | nil : HdsX X [] []
  | as {ty : Expr} {n : Str} {i : Nat} {m : Value → Option Bool} {ts : Addr → Value → Option Addr → TS} {b₀ : Stmt} {suite : List Stmt} {pos' : Pos} {hds : List ExceptHandler} {l : List Cl} (ht : Tst X ty m) (hi : X.N[i]? = some n) (hln : X.env.kindOf n = some .local)
      (hsu : ∀ (a : Addr) (oe : Obj) (cls : Value) (d : Option Addr) (pn : List (Addr × Obj)), L2N.Zn cls d oe → (∃ vs, oe.data = .fields vs) → PSs (X.suite a ((a, oe) :: pn)) (b₀ :: suite) (ts a cls d)) (r : HdsX X hds l) : HdsX X (.ExceptHandler (some ty) (some n) (b₀ :: suite) pos' :: hds) ((m, some i, ts) :: l)
  | only {ty : Expr} {m : Value → Option Bool} {ts : Addr → Value → Option Addr → TS} {b₀ : Stmt} {suite : List Stmt} {pos' : Pos} {hds : List ExceptHandler} {l : List Cl} (ht : Tst X ty m)
      (hsu : ∀ (a : Addr) (oe : Obj) (cls : Value) (d : Option Addr) (pn : List (Addr × Obj)), L2N.Zn cls d oe → (∃ vs, oe.data = .fields vs) → PSs (X.suite a ((a, oe) :: pn)) (b₀ :: suite) (ts a cls d)) (r : HdsX X hds l) : HdsX X (.ExceptHandler (some ty) none (b₀ :: suite) pos' :: hds) ((m, none, ts) :: l)
def wX (Wout : WX) (D : Ends) : List Cl → WX
  | [] => Wout
  | (m, none, ts) :: r => fun cls d σ H => ∃ b, m cls = some b ∧ (b = true → ∀ a, H a = none → ts a cls d D σ H) ∧ (b = false → wX Wout D r cls d σ H)
  | (m, some i, ts) :: r => fun cls d σ H => ∃ b, m cls = some b ∧ (b = true → ∀ a, H a = none → i < σ.length → ts a cls d (Das i D) (σ.set i (some (.ref a))) H) ∧ (b = false → wX Wout D r cls d σ H)
section
variable {X : Cx} {body : List Stmt} {h₀ : ExceptHandler} {hds : List ExceptHandler} {l : List Cl} {pos : Pos} {tb : WX → TS} {Wout : WX}
theorem ps_tryX (hs : X.stack = X.env :: X.outer) (hf : X.env.frame = some X.env.locals) (hN : X.N.Nodup) (tk : L2N.Takes X Wout)
    (hb : ∀ (W : WX) (pn : List (Addr × Obj)) (xe : Value → Shared → Prop), L2N.Takes (X.tr pn xe) W → PassesOwn (model X.prog X.w) X.A X.env xe → PSs (X.tr pn xe) body (tb W))
    (hh : HdsX X (h₀ :: hds) l) : PS X (.Try body (h₀ :: hds) [] [] pos) (fun D σ H => tb (wX Wout D l) D σ H) := by
  refine ⟨fun pins s σ H D I h => ?_⟩
  have ok := I.ok
  have hfr : X.A.frames = some (X.env :: X.outer) := by rw [ok.frames, hs]
  refine wpAny_Try_except ?_
  refine wpAny_mono ((hb (wX Wout D l) (X.pn ++ pins) (fun e s₁ => wpAny (model X.prog X.w) X.A (noteFrame e X.env) (fun _ s₂ => wpAny (model X.prog X.w) X.A (setFlight e none) (fun _ s₃ =>
    wpAny (model X.prog X.w) X.A (handleBy e X.env (h₀ :: hds)) (SP X pins D) X.xe s₃) X.xe s₂) X.xe s₁) (fun u s' xx => ?_) PassesOwn.looking).run [] s σ H D (I.toTry _) h) (fun f s1 hsp => ?_) (fun e s1 he => he)
  · obtain ⟨a, B, sI, pins', σ', H', cls, d, rfl, J', nb, up, sky, na, os, ag, w⟩ := xx
    have J : Inv X pins σ' H' sI := J'.ofTry ok
    have sky' : L2.Sky B (X.env :: X.outer) a (L2N.Zn cls d) X.env.locals s'.heap := by rw [← hs]; exact sky
    show wpAny (model X.prog X.w) X.A (noteFrame (.ref a) X.env) _ _ _
    refine L2N.Sky.land L2N.Zn.steady hfr hf sky' fun h3 fl3 up3 => ?_
    have there : ∀ {h : Heap}, HandSPX.FlyingZ B (X.env :: X.outer) a (L2N.Zn cls d) h → a ≠ X.env.locals ∧ a ∉ X.fs := fun {h} fl => by
      obtain ⟨oe, vs, he, hz, hd⟩ := fl.there
      have nfr : a ∉ frs (X.env :: X.outer) := fun hm => by
        obtain ⟨_, o', e', hnf⟩ := fl.2.2.1.mem hm
        rw [he] at e'; cases e'
        exact hnf _ hd
      refine ⟨fun z => nfr (List.mem_filterMap.mpr ⟨X.env, List.mem_cons_self, by rw [hf, z]⟩), fun hm => ?_⟩
      obtain ⟨e, he', q⟩ := List.mem_filterMap.mp hm
      exact nfr (List.mem_filterMap.mpr ⟨e, List.mem_cons_of_mem _ he', q⟩)
    have go : ∀ {hds' : List ExceptHandler} {l' : List Cl}, HdsX X hds' l' → ∀ (h3 : Heap) (t3 : Nat), HandSPX.FlyingZ B (X.env :: X.outer) a (L2N.Zn cls d) h3 → s'.heap.UpToSlots h3 → wX Wout D l' cls d σ' H' →
        wpAny (model X.prog X.w) X.A (handleBy (.ref a) X.env hds') (SP X pins D) X.xe { s' with heap := h3, toks := t3 } := by
      intro hds' l' hk
      induction hk with
      | nil =>
        intro h3 t3 fl3 up3 w
        refine wpAny_handleBy_nil ?_
        obtain ⟨k1, k2, k3, oe, vs, T, oT, ts', he, hz, hd, h1, hr⟩ := id fl3
        unfold PySem.passOn
        refine wpAny_bind (wpAny_field he hd h1 ?_)
        rw [if_neg (show ¬ ((Value.ref T == Value.none) = true) from by simp)]
        have fin : wpAny (model X.prog X.w) X.A (setFlight (.ref a) X.env.frame) (fun _ s4 => wpAny (model X.prog X.w) X.A (throw (.ref a) : Sem Flow) (SP X pins D) X.xe s4) X.xe { s' with heap := h3, toks := t3 } := by
          rw [hf]
          refine HandSPX.setFlight_upZ fl3 fun h4 hh4 up4 => wpAny_throw (tk _ _ ?_)
          exact ⟨a, B, sI, pins, σ', H', cls, d, rfl, J, nb, (up.trans up3).trans up4, .inr (.inr (by rw [hs]; exact hh4)), na, os, ag, w⟩
        first
          | exact wpAny_bind (wpAny_pure (wpAny_bind fin))
          | exact wpAny_bind fin
      | @as ty n i m ts b₀ suite pos' hds2 l2 ht hi hln hsu r ih =>
        intro h3 t3 fl3 up3 w
        obtain ⟨b, hb1, hyes, hno⟩ := w
        obtain ⟨nL, nF⟩ := there fl3
        obtain ⟨oe3, vs3, he3, hz3, hd3⟩ := fl3.there
        have J3 : Inv X pins σ' H' { s' with heap := h3, toks := t3 } := J.landed nb fl3.1 (up.trans up3) os ag
        refine wpAny_handleBy_cons (codeAny_handlers_test ?_) (by intro q; cases q)
        refine ht.run a oe3 _ [] σ' H' _ cls b _ _ _ (J3.suite he3 hd3 na nL nF) he3 hz3.1 hb1 fun h5 t5 k5 => ?_
        have fl5 := fz_keeps fl3 k5
        have up5 : s'.heap.UpToSlots h5 := up3.trans (Heap.UpToSlots.of_keeps k5)
        cases b with
        | true =>
          refine codeAny_handlers_suite_as ?_
          refine HandSPX.lands_againZ fl5 fun h4 fl4 up4 => ?_
          have J4 : Inv X pins σ' H' { s' with heap := h4, toks := t5 } := J.landed nb fl4.1 ((up.trans up5).trans up4) os ag
          obtain ⟨oe4, vs4, he4, hz4, hd4⟩ := fl4.there
          refine store_ok (X := X.suite a ((a, oe4) :: (X.pn ++ pins))) (v := .ref a) (J4.suite he4 hd4 na nL nF) hN hi (.inl hln) rfl (fun s5 S5 => ?_) (.inr hln)
          refine wpAny_mono ((hsu a oe4 cls d (X.pn ++ pins) hz4 ⟨_, hd4⟩).run [] s5 _ H' _ S5 (hyes rfl a na (by rw [J4.len]; exact (List.getElem?_eq_some_iff.mp hi).1))) (fun f s6 hsp => ?_) (fun _ _ z => False.elim z)
          have end_ : ∀ {σ6 : L2.St} {H6 : Hp} {Q : Shared → Prop}, Inv (X.suite a ((a, oe4) :: (X.pn ++ pins))) [] σ6 H6 s6 → (∀ s7, Inv X pins (σ6.set i none) H6 s7 → Q s7) →
              wpAny (model X.prog X.w) X.A (do bindName X.env n .none; unbindBehindTheSuite X.env n pos') (fun _ s7 => Q s7) X.xe s6 := fun {σ6 H6 Q} S6 hq => gone_ok (S6.unsuite ok) hN hi hln hq
          cases f with
          | next => obtain ⟨σ6, H6, S6, q6⟩ := hsp; exact end_ S6 fun s7 J7 => ⟨_, _, J7, q6⟩
          | brk => obtain ⟨σ6, H6, S6, q6⟩ := hsp; exact end_ S6 fun s7 J7 => ⟨_, _, J7, q6⟩
          | cont => obtain ⟨σ6, H6, S6, q6⟩ := hsp; exact end_ S6 fun s7 J7 => ⟨_, _, J7, q6⟩
          | ret u => obtain ⟨v6, σ6, H6, S6, r6, q6⟩ := hsp; exact end_ S6 fun s7 J7 => ⟨_, _, _, J7, r6, q6⟩
        | false =>
          show wpAny _ X.A (handleBy (.ref a) X.env hds2) _ _ _
          exact ih h5 t5 fl5 up5 (hno rfl)
      | @only ty m ts b₀ suite pos' hds2 l2 ht hsu r ih =>
        intro h3 t3 fl3 up3 w
        obtain ⟨b, hb1, hyes, hno⟩ := w
        obtain ⟨nL, nF⟩ := there fl3
        obtain ⟨oe3, vs3, he3, hz3, hd3⟩ := fl3.there
        have J3 : Inv X pins σ' H' { s' with heap := h3, toks := t3 } := J.landed nb fl3.1 (up.trans up3) os ag
        refine wpAny_handleBy_cons (codeAny_handlers_test ?_) (by intro q; cases q)
        refine ht.run a oe3 _ [] σ' H' _ cls b _ _ _ (J3.suite he3 hd3 na nL nF) he3 hz3.1 hb1 fun h5 t5 k5 => ?_
        have fl5 := fz_keeps fl3 k5
        have up5 : s'.heap.UpToSlots h5 := up3.trans (Heap.UpToSlots.of_keeps k5)
        cases b with
        | true =>
          refine codeAny_handlers_suite ?_
          refine HandSPX.lands_againZ fl5 fun h4 fl4 up4 => ?_
          have J4 : Inv X pins σ' H' { s' with heap := h4, toks := t5 } := J.landed nb fl4.1 ((up.trans up5).trans up4) os ag
          obtain ⟨oe4, vs4, he4, hz4, hd4⟩ := fl4.there
          refine wpAny_mono ((hsu a oe4 cls d (X.pn ++ pins) hz4 ⟨_, hd4⟩).run [] _ _ H' _ (J4.suite he4 hd4 na nL nF) (hyes rfl a na)) (fun f s6 hsp => ?_) (fun _ _ z => False.elim z)
          cases f with
          | next => obtain ⟨σ6, H6, S6, q6⟩ := hsp; exact ⟨_, _, S6.unsuite ok, q6⟩
          | brk => obtain ⟨σ6, H6, S6, q6⟩ := hsp; exact ⟨_, _, S6.unsuite ok, q6⟩
          | cont => obtain ⟨σ6, H6, S6, q6⟩ := hsp; exact ⟨_, _, S6.unsuite ok, q6⟩
          | ret u => obtain ⟨v6, σ6, H6, S6, r6, q6⟩ := hsp; exact ⟨_, _, _, S6.unsuite ok, r6, q6⟩
        | false =>
          show wpAny _ X.A (handleBy (.ref a) X.env hds2) _ _ _
          exact ih h5 t5 fl5 up5 (hno rfl)
    exact go hh h3 _ fl3 up3 w
  · cases f with
    | next => obtain ⟨σ', H', J', q⟩ := hsp; exact wpAny_execs_nil ⟨σ', H', J'.ofTry ok, q⟩
    | brk => obtain ⟨σ', H', J', q⟩ := hsp; exact ⟨σ', H', J'.ofTry ok, q⟩
    | cont => obtain ⟨σ', H', J', q⟩ := hsp; exact ⟨σ', H', J'.ofTry ok, q⟩
    | ret u => obtain ⟨v, σ', H', J', r, q⟩ := hsp; exact ⟨v, σ', H', J'.ofTry ok, r, q⟩
end

/-! ### of a run -/
/-- a clause: its classes, its name's slot, its suite by the exception's class and fields -/
structure Hd where
  cs : List Nat
  slot : Option Nat
  su : Nat → Fs → MS
def anyC (tab : Nat → Nat → Option Bool) (c : Nat) : List Nat → Option Bool
  | [] => some false
  | k :: r => match tab c k, anyC tab c r with
    | some b, some b' => some (b || b')
    | _, _ => none
/-- behind a suite: its name is gone -/
def offS (oi : Option Nat) : RS → RS := match oi with
  | none => id
  | some i => fun r => match r with
    | .nx e A => .nx (e.set i none) A
    | .brk e A => .brk (e.set i none) A
    | .cnt e A => .cnt (e.set i none) A
    | r => r
def handle (tab : Nat → Nat → Option Bool) : List Hd → Env' → Nat → Fs → Hm → RS
  | [], e, c, fs, A => .err e c fs A
  | h :: r, e, c, fs, A => match anyC tab c h.cs with
    | some true => match offS h.slot (h.su c fs (match h.slot with | none => e | some i => e.set i none) A) with
      | .err _ _ _ _ => .bad
      | x => x
    | some false => handle tab r e c fs A
    | none => .bad
def sTry (tab : Nat → Nat → Option Bool) (b : MS) (hs : List Hd) : MS := fun e A => match b e A with
  | .err e1 c fs A1 => handle tab hs e1 c fs A1
  | r => r
section
variable {X : Cx} {S : Sx} {G : Gx} {tab : Nat → Nat → Option Bool}
/-- a clause's test by the classes' numbers -/
structure TstM (X : Cx) (S : Sx) (tab : Nat → Nat → Option Bool) (ty : Expr) (cs : List Nat) : Prop where
  ex : ∃ m, Tst X ty m ∧ ∀ c b, anyC tab c cs = some b → m (.ref (S.ι c)) = some b
theorem exmAny_of {K : PySem.W.Frag} (T : ExcT K S tab) {c : Nat} : ∀ {cs : List Nat} {b : Bool}, anyC tab c cs = some b → PySem.W.exmAny K (.ref (S.ι c)) (cs.map fun k => .ref (S.ι k)) = some b
  | [], b, h => by cases h; rfl
  | k :: r, b, h => by
    unfold anyC at h
    split at h
    · rename_i b1 b2 h1 h2
      cases h
      have e1 := (T.ok c k b1 h1).2.2
      have e2 := exmAny_of T h2
      simp only [List.map_cons, PySem.W.exmAny, e1, e2]
    · cases h
theorem tstM_one (T : ExcT X.K S tab) {x : Str} {k : Nat} {np : Pos} (hm : X.mg x = some (.ref (S.ι k))) (hg : Gl X x := by rfl) (hd : (x == ("__debug__" : Str)) = false := by decide) : TstM X S tab (.Name x np) [k] := by
  refine ⟨_, tst_one ⟨hg, hd, .inl hm⟩, fun c b h => ?_⟩
  unfold anyC at h
  split at h
  · rename_i b1 b2 h1 h2
    cases h2; cases h
    rw [Bool.or_false]; exact (T.ok c k b1 h1).2.2
  · cases h
theorem tstM_two (T : ExcT X.K S tab) {x1 x2 : Str} {k1 k2 kk : Nat} {p1 p2 tp : Pos} (m1 : X.mg x1 = some (.ref (S.ι k1))) (m2 : X.mg x2 = some (.ref (S.ι k2))) (g1 : Gl X x1 := by rfl) (d1 : (x1 == ("__debug__" : Str)) = false := by decide)
    (g2 : Gl X x2 := by rfl) (d2 : (x2 == ("__debug__" : Str)) = false := by decide) : TstM X S tab (.Tuple [.Name x1 p1, .Name x2 p2] kk tp) [k1, k2] :=
  ⟨_, tst_two ⟨g1, d1, .inl m1⟩ ⟨g2, d2, .inl m2⟩, fun c b h => exmAny_of T h⟩
theorem tstM_three (T : ExcT X.K S tab) {x1 x2 x3 : Str} {k1 k2 k3 kk : Nat} {p1 p2 p3 tp : Pos} (m1 : X.mg x1 = some (.ref (S.ι k1))) (m2 : X.mg x2 = some (.ref (S.ι k2))) (m3 : X.mg x3 = some (.ref (S.ι k3))) (g1 : Gl X x1 := by rfl) (d1 : (x1 == ("__debug__" : Str)) = false := by decide)
    (g2 : Gl X x2 := by rfl) (d2 : (x2 == ("__debug__" : Str)) = false := by decide) (g3 : Gl X x3 := by rfl) (d3 : (x3 == ("__debug__" : Str)) = false := by decide) : TstM X S tab (.Tuple [.Name x1 p1, .Name x2 p2, .Name x3 p3] kk tp) [k1, k2, k3] :=
  ⟨_, tst_three ⟨g1, d1, .inl m1⟩ ⟨g2, d2, .inl m2⟩ ⟨g3, d3, .inl m3⟩, fun c b h => exmAny_of T h⟩
theorem tstM_four (T : ExcT X.K S tab) {x1 x2 x3 x4 : Str} {k1 k2 k3 k4 kk : Nat} {p1 p2 p3 p4 tp : Pos} (m1 : X.mg x1 = some (.ref (S.ι k1))) (m2 : X.mg x2 = some (.ref (S.ι k2))) (m3 : X.mg x3 = some (.ref (S.ι k3))) (m4 : X.mg x4 = some (.ref (S.ι k4))) (g1 : Gl X x1 := by rfl) (d1 : (x1 == ("__debug__" : Str)) = false := by decide)
    (g2 : Gl X x2 := by rfl) (d2 : (x2 == ("__debug__" : Str)) = false := by decide) (g3 : Gl X x3 := by rfl) (d3 : (x3 == ("__debug__" : Str)) = false := by decide) (g4 : Gl X x4 := by rfl) (d4 : (x4 == ("__debug__" : Str)) = false := by decide) :
    TstM X S tab (.Tuple [.Name x1 p1, .Name x2 p2, .Name x3 p3, .Name x4 p4] kk tp) [k1, k2, k3, k4] :=
  ⟨_, tst_four ⟨g1, d1, .inl m1⟩ ⟨g2, d2, .inl m2⟩ ⟨g3, d3, .inl m3⟩ ⟨g4, d4, .inl m4⟩, fun c b h => exmAny_of T h⟩
/-- the clauses of a run -/
inductive HdsM (X : Cx) (S : Sx) (G : Gx) (tab : Nat → Nat → Option Bool) : List ExceptHandler → List Hd → Prop
  | nil : HdsM X S G tab [] []
  | as {ty : Expr} {n : Str} {i : Nat} {cs : List Nat} {su : Nat → Fs → MS} {b₀ : Stmt} {suite : List Stmt} {pos' : Pos} {hds : List ExceptHandler} {l : List Hd} (ht : TstM X S tab ty cs) (hi : X.N[i]? = some n) (hln : X.env.kindOf n = some .local) (hF : G.Free i)
      (hsu : ∀ (a d : Addr) (oe : Obj) (c : Nat) (fs : Fs) (pn : List (Addr × Obj)), L2N.Zn (.ref (S.ι c)) (some d) oe → (∃ vs, oe.data = .fields vs) → PSs (X.suite a ((a, oe) :: pn)) (b₀ :: suite) (tS X.K S (GS X.K S G i a d fs) (su c fs))) (r : HdsM X S G tab hds l) :
      HdsM X S G tab (.ExceptHandler (some ty) (some n) (b₀ :: suite) pos' :: hds) (⟨cs, some i, su⟩ :: l)
  | only {ty : Expr} {cs : List Nat} {su : Nat → Fs → MS} {b₀ : Stmt} {suite : List Stmt} {pos' : Pos} {hds : List ExceptHandler} {l : List Hd} (ht : TstM X S tab ty cs)
      (hsu : ∀ (a d : Addr) (oe : Obj) (c : Nat) (fs : Fs) (pn : List (Addr × Obj)), L2N.Zn (.ref (S.ι c)) (some d) oe → (∃ vs, oe.data = .fields vs) → PSs (X.suite a ((a, oe) :: pn)) (b₀ :: suite) (tS X.K S (GN G) (su c fs))) (r : HdsM X S G tab hds l) :
      HdsM X S G tab (.ExceptHandler (some ty) none (b₀ :: suite) pos' :: hds) (⟨cs, none, su⟩ :: l)
/-- the wish about an exception of the body -/
def wT (K : PySem.W.Frag) (S : Sx) (G : Gx) (tab : Nat → Nat → Option Bool) (D : Ends) (l : List Hd) : WX := fun cls d σ H => ∃ (c : Nat) (fs : Fs) (dd : Addr) (gs : List (Str × V)) (ρ : List Addr) (A : Hm) (e : Env'), cls = .ref (S.ι c) ∧ d = some dd ∧ H dd = some (.xd gs) ∧ RelF K S ρ H fs gs ∧
  RelH K S ρ H A ∧ RelS K S ρ H e σ ∧ G.J ρ H σ ∧ postS K S G ρ H D (handle tab l e c fs A)
/-- a suite's reading, from what the run knows -/
def tSu (K : PySem.W.Frag) (S : Sx) (G : Gx) (oi : Option Nat) (su : Nat → Fs → MS) : Addr → Value → Option Addr → TS := fun a cls d D σ H => ∃ (c : Nat) (fs : Fs) (dd : Addr), cls = .ref (S.ι c) ∧ d = some dd ∧
  match oi with
  | none => tS K S (GN G) (su c fs) D σ H
  | some i => tS K S (GS K S G i a dd fs) (su c fs) D σ H
theorem hdsX_of {hds : List ExceptHandler} {l : List Hd} (h : HdsM X S G tab hds l) : ∃ cl : List Cl, HdsX X hds cl ∧ ∀ (D : Ends) (cls : Value) (d : Option Addr) (σ : L2.St) (H : Hp), wT X.K S G tab D l cls d σ H → wX G.W D cl cls d σ H := by
  induction h with
  | nil =>
    refine ⟨[], .nil, fun D cls d σ H w => ?_⟩
    obtain ⟨c, fs, dd, gs, ρ, A, e, rfl, rfl, h1, h2, h3, h4, h5, h6⟩ := w
    exact h6 ρ H List.prefix_rfl Mono.refl h3 σ h4 h5 dd gs h1 h2
  | @as ty n i cs su b₀ suite pos' hds l ht hi hln hF hsu r ih =>
    obtain ⟨cl, q1, q2⟩ := ih
    obtain ⟨m, t1, t2⟩ := ht.ex
    refine ⟨(m, some i, tSu X.K S G (some i) su) :: cl, .as t1 hi hln (fun a oe cls d pn hz hv => ⟨fun pins s σ H D I w => ?_⟩) q1, fun D cls d σ H w => ?_⟩
    · obtain ⟨c, fs, dd, rfl, rfl, w⟩ := w
      exact (hsu a dd oe c fs pn hz hv).run pins s σ H D I w
    · obtain ⟨c, fs, dd, gs, ρ, A, e, rfl, rfl, h1, h2, h3, h4, h5, h6⟩ := w
      unfold handle at h6
      dsimp only at h6
      cases qc : anyC tab c cs with
      | none => rw [qc] at h6; exact h6.elim
      | some b =>
        rw [qc] at h6
        refine ⟨b, t2 c b qc, fun hb a ha hlt => ?_, fun hb => ?_⟩
        · subst hb
          dsimp only at h6
          refine ⟨c, fs, dd, rfl, rfl, ρ, A, e.set i none, h3, h4.forget i, ⟨hF _ _ _ _ h5, ?_, gs, h1, h2⟩, ?_⟩
          · rw [List.getElem?_set_self hlt]
          · cases qs : su c fs (e.set i none) A with
            | nx e1 A1 =>
              rw [qs] at h6
              exact fun ρ' H' u1 u2 u3 σ' u4 u5 => h6 ρ' H' u1 u2 u3 _ (u4.forget i) (hF _ _ _ _ u5.1)
            | brk e1 A1 =>
              rw [qs] at h6
              exact fun ρ' H' u1 u2 u3 σ' u4 u5 => h6 ρ' H' u1 u2 u3 _ (u4.forget i) (hF _ _ _ _ u5.1)
            | cnt e1 A1 =>
              rw [qs] at h6
              exact fun ρ' H' u1 u2 u3 σ' u4 u5 => h6 ρ' H' u1 u2 u3 _ (u4.forget i) (hF _ _ _ _ u5.1)
            | ret v A1 => rw [qs] at h6; exact h6
            | err e1 c1 fs1 A1 => rw [qs] at h6; exact h6.elim
            | bad => rw [qs] at h6; exact h6.elim
        · subst hb
          exact q2 D _ _ σ H ⟨c, fs, dd, gs, ρ, A, e, rfl, rfl, h1, h2, h3, h4, h5, h6⟩
  | @only ty cs su b₀ suite pos' hds l ht hsu r ih =>
    obtain ⟨cl, q1, q2⟩ := ih
    obtain ⟨m, t1, t2⟩ := ht.ex
    refine ⟨(m, none, tSu X.K S G none su) :: cl, .only t1 (fun a oe cls d pn hz hv => ⟨fun pins s σ H D I w => ?_⟩) q1, fun D cls d σ H w => ?_⟩
    · obtain ⟨c, fs, dd, rfl, rfl, w⟩ := w
      exact (hsu a dd oe c fs pn hz hv).run pins s σ H D I w
    · obtain ⟨c, fs, dd, gs, ρ, A, e, rfl, rfl, h1, h2, h3, h4, h5, h6⟩ := w
      unfold handle at h6
      dsimp only at h6
      cases qc : anyC tab c cs with
      | none => rw [qc] at h6; exact h6.elim
      | some b =>
        rw [qc] at h6
        refine ⟨b, t2 c b qc, fun hb a ha => ?_, fun hb => ?_⟩
        · subst hb
          dsimp only at h6
          refine ⟨c, fs, dd, rfl, rfl, ρ, A, e, h3, h4, h5, ?_⟩
          cases qs : su c fs e A with
          | err e1 c1 fs1 A1 => rw [qs] at h6; exact h6.elim
          | _ => rw [qs] at h6; exact h6
        · subst hb
          exact q2 D _ _ σ H ⟨c, fs, dd, gs, ρ, A, e, rfl, rfl, h1, h2, h3, h4, h5, h6⟩
theorem ds_try {body : List Stmt} {h₀ : ExceptHandler} {hds : List ExceptHandler} {l : List Hd} {pos : Pos} {mb : MS} (hs : X.stack = X.env :: X.outer) (hf : X.env.frame = some X.env.locals) (hN : X.N.Nodup) (tk : L2N.Takes X G.W)
    (hb : ∀ (W : WX) (pn : List (Addr × Obj)) (xe : Value → Shared → Prop), L2N.Takes (X.tr pn xe) W → PassesOwn (model X.prog X.w) X.A X.env xe → PSs (X.tr pn xe) body (tS X.K S ⟨G.J, G.mono, W⟩ mb))
    (hh : HdsM X S G tab (h₀ :: hds) l) : PS X (.Try body (h₀ :: hds) [] [] pos) (tS X.K S G (sTry tab mb l)) := by
  obtain ⟨cl, q1, q2⟩ := hdsX_of hh
  refine PS.imp (ps_tryX hs hf hN tk (tb := fun W => tS X.K S ⟨G.J, G.mono, W⟩ mb) hb q1) fun D σ H h => ?_
  obtain ⟨ρ, A, e, h1, h2, h3, h4⟩ := h
  refine ⟨ρ, A, e, h1, h2, h3, ?_⟩
  unfold sTry at h4
  cases q : mb e A with
  | nx e1 A1 => rw [q] at h4; exact h4
  | ret v A1 => rw [q] at h4; exact h4
  | brk e1 A1 => rw [q] at h4; exact h4
  | cnt e1 A1 => rw [q] at h4; exact h4
  | bad => rw [q] at h4; exact h4
  | err e1 c fs A1 =>
    rw [q] at h4
    dsimp only at h4
    exact fun ρ' H' u1 u2 u3 σ' u4 u5 d gs hd hg => q2 D _ _ σ' H' ⟨c, fs, d, gs, ρ', A1, e1, rfl, rfl, hd, hg, u3, u4, u5, postS.base h4 u1 u2⟩
end
end MP
end S15
section S16
set_option Elab.async false
set_option linter.all false
set_option maxRecDepth 100000
/-! MPp: == and != of instances with an own __eq__, against anything. -/
namespace MP
open PySem PySem.Spec PyProof.Rows L2
open AutoSeq1 (wpAny_loadPart')

/-! ### a built-in value's __eq__ declines an instance -/
section
variable {prog : Program} {w : World} {A : Around} {R : Result → Shared → Prop} {s : Shared} {x l dx : Addr} {C : Addr}
theorem tup_decl (hx : PySem.W.Looks (model prog w) s.heap (isInstance (.ref x) (.type "tuple")) false) (h : R (.ok (.ret .notImplemented)) s) :
    wpAny (model prog w) A.in1 (Builtin.«tuple.__eq__» ⟨[.ref l, .ref x], []⟩) (GQ.FinOf prog w A R) (fun e s' => R (.error e) s') s := by
  obtain ⟨hp, g, d, tk, os⟩ := s
  wp_walk using hx.here
  exact h
theorem lst_decl (hx : PySem.W.Looks (model prog w) s.heap (isInstance (.ref x) (.type "list")) false) (h : R (.ok (.ret .notImplemented)) s) :
    wpAny (model prog w) A.in1 (Builtin.«list.__eq__» ⟨[.ref l, .ref x], []⟩) (GQ.FinOf prog w A R) (fun e s' => R (.error e) s') s := by
  obtain ⟨hp, g, d, tk, os⟩ := s
  wp_walk using hx.here
  exact h
theorem dct_decl (hx : PySem.W.Looks (model prog w) s.heap (isInstance (.ref x) (.type "dict")) false) (h : R (.ok (.ret .notImplemented)) s) :
    wpAny (model prog w) A.in1 (Builtin.«dict.__eq__» ⟨[.ref l, .ref x], []⟩) (GQ.FinOf prog w A R) (fun e s' => R (.error e) s') s := by
  obtain ⟨hp, g, d, tk, os⟩ := s
  wp_walk using hx.here
  exact h
theorem str_decl {z : Str} {t : Tok} (hx : s.heap.get? x = some (PySem.W.instObj C dx)) (h : R (.ok (.ret .notImplemented)) s) :
    wpAny (model prog w) A.in1 (Builtin.«str.__eq__» ⟨[.str z t, .ref x], []⟩) (GQ.FinOf prog w A R) (fun e s' => R (.error e) s') s := by
  obtain ⟨hp, g, d, tk, os⟩ := s
  wp_walk using wpAny_loadPart' hx, wpAny_load hx
  exact h
theorem int_decl {z : Int} {t : Tok} (hx : s.heap.get? x = some (PySem.W.instObj C dx)) (h : R (.ok (.ret .notImplemented)) s) :
    wpAny (model prog w) A.in1 (Builtin.«int.__eq__» ⟨[.int z t, .ref x], []⟩) (GQ.FinOf prog w A R) (fun e s' => R (.error e) s') s := by
  obtain ⟨hp, g, d, tk, os⟩ := s
  wp_walk using wpAny_loadPart' hx, wpAny_load hx
  exact h
theorem bool_decl {z : Bool} (hx : s.heap.get? x = some (PySem.W.instObj C dx)) (h : R (.ok (.ret .notImplemented)) s) :
    wpAny (model prog w) A.in1 (Builtin.«int.__eq__» ⟨[.bool z, .ref x], []⟩) (GQ.FinOf prog w A R) (fun e s' => R (.error e) s') s := by
  obtain ⟨hp, g, d, tk, os⟩ := s
  wp_walk using wpAny_loadPart' hx, wpAny_load hx
  exact h
theorem non_decl (h : R (.ok (.ret .notImplemented)) s) :
    wpAny (model prog w) A.in1 (Builtin.«NoneType.__eq__» ⟨[.none, .ref x], []⟩) (GQ.FinOf prog w A R) (fun e s' => R (.error e) s') s := by
  obtain ⟨hp, g, d, tk, os⟩ := s
  wp_walk
  exact h
end

section
variable {prog : Program} {w : World} {A : Around} {E : Value → Shared → Prop} {s : Shared} {K : PySem.W.Frag} {x C f : Addr} {ox : Obj} {od : Option Obj} {b tb u : Value}
theorem rc_refl {Ta ida : String} {Q : Value → Shared → Prop} (hu : A.units < cLine) (ha : s.TypeIs u Ta) (I : PySem.W.InstAt s.heap x ox C od) (X : K.In s.heap) (hsub : PySem.W.subIn K (.ref C) (.type Ta) = some false) (h1 : Slot Ta "__eq__" ida)
    (hc1 : ∀ Q' : Value → Shared → Prop, Q' .notImplemented s → wpAny (model prog w) A (call (.builtin ida) [u, .ref x]) Q' E s) (hs : PySem.W.findIn K (.ref C) "__eq__" = some (some (.ref f))) (hf : PySem.W.isFn K (.ref f) = true)
    (h : wpAny (model prog w) A (call (.ref f) [.ref x, u]) (PySem.W.CmpBack Q) E s) : wpAny (model prog w) A (richCompare .Eq u (.ref x)) Q E s := by
  rcases hi : cmpInfo CmpOp.Eq with ⟨sym, f', r'⟩
  have e1 : f' = "__eq__" := by have := congrArg (fun z => z.2.1) hi; exact this.symm
  have e2 : r' = "__eq__" := by have := congrArg (fun z => z.2.2) hi; exact this.symm
  subst e1 e2
  simp only [richCompare, hi, ha.oneThing_none]
  try with_reducible refine wpAny_holding ?_
  refine wpAny_bind (wpAny_cRoomFor hu ?_)
  refine wpAny_bind (wpAny_typeOf ha (wpAny_bind (I.type.here ?_)))
  rw [if_pos (show (Value.type Ta != Value.ref C) = true from rfl)]
  refine wpAny_bind ((PySem.W.looks_subIn X hsub).here ?_)
  simp only [Bool.false_eq_true, if_false, Bool.not_false, if_true]
  refine wpAny_bind (m := tryCompare u _ (.ref x)) (wpAny_tryCompare_declines ha h1 (hc1 _ ⟨rfl, ?_⟩))
  refine wpAny_bind (m := tryCompare (.ref x) _ u) ?_
  unfold tryCompare
  refine wpAny_bind (PySem.W.ifBound_K X I hs hf (wpAny_mono h (fun v s' hv => ?_) fun _ _ e => e))
  cases v <;> first | exact hv.elim | exact wpAny_pure (wpAny_pure hv)
theorem ifBound_B {M : Model} {name : Str} {id : String} {args : List Value} {Q : Option Value → Shared → Prop} (X : K.In s.heap) (I : PySem.W.InstAt s.heap x ox C od) (hs : PySem.W.findIn K (.ref C) name = some (some (.builtin id))) (hbd : ∀ self : Value, bindSpecial (.builtin id) self = pure (.builtin id, [self]))
    (h : wpAny M A (call (.builtin id) (.ref x :: args)) (fun v => Q (some v)) E s) : wpAny M A (callSpecialIfBound? (.ref x) name args) Q E s := by
  simp only [callSpecialIfBound?, bindSpecialIfBound?]
  refine wpAny_holding (wpAny_bind (wpAny_bind (wpAny_bind (I.type.here ((PySem.W.looks_findIn X hs).here ?_)))))
  refine wpAny_bind (wpAny_askSetting (wpAny_ite ?_))
  have fin : wpAny M A (call (.builtin id) ([.ref x] ++ args) >>= fun v => pure (some v)) Q E s := wpAny_bind (wpAny_mono h (fun v s' h' => wpAny_pure h') fun _ _ h' => h')
  rw [hbd]
  split
  · exact wpAny_bind (wpAny_pure (wpAny_pure (by exact fin)))
  · exact wpAny_tryCatch (wpAny_bind (wpAny_pure (wpAny_pure (by exact fin))))
theorem rc_ne {Q : Value → Shared → Prop} (hu : A.units + 1 < cLine) (I : PySem.W.InstAt s.heap x ox C od) (X : K.In s.heap) (hb : PySem.W.Looks (model prog w) s.heap (typeOf b) tb) (hn : PySem.W.notFirst K C tb = true)
    (hne : PySem.W.findIn K (.ref C) "__ne__" = some (some (.builtin "object.__ne__"))) (hob : PySem.W.subIn K (.ref C) (.type "object") = some true) (hs : PySem.W.findIn K (.ref C) "__eq__" = some (some (.ref f))) (hf : PySem.W.isFn K (.ref f) = true)
    (h : wpAny (model prog w) A.in1 (call (.ref f) [.ref x, b]) (fun v s' => ∃ k, v = .bool k ∧ Q (.bool (!k)) s') E s) : wpAny (model prog w) A (richCompare .NotEq (.ref x) b) Q E s := by
  have body : ∀ Q' : Fin → Shared → Prop, (∀ k s', Q (.bool (!k)) s' → Q' (.done (.ret (.bool (!k)))) s') → wpAny (model prog w) A.in1 (Builtin.«object.__ne__» ⟨[.ref x, b], []⟩) Q' E s := fun Q' hq => by
    unfold Builtin.«object.__ne__»
    have hu1 : A.in1.units < cLine := hu
    have hc : wpAny (model prog w) A.in1 (callSpecialIfBound? (.ref x) "__eq__" [b]) (fun r s' => ∃ k, r = some (.bool k) ∧ Q (.bool (!k)) s') E s := PySem.W.ifBound_K X I hs hf (wpAny_mono h (fun v s' hv => by
      obtain ⟨k, rfl, q⟩ := hv
      exact ⟨k, rfl, q⟩) fun _ _ e => e)
    refine wpAny_bind (wpAny_of_eq (a := ((Value.ref x : Value), [b])) (by first | rfl | (simp only [slotArgs]; rfl)) ?_)
    refine wpAny_bind (wpAny_cRoomFor hu1 (wpAny_bind (wpAny_mono hc (fun r s' hr => ?_) fun _ _ e => e)))
    obtain ⟨k, rfl, q⟩ := hr
    exact wpAny_bind (wpAny_truthy_bool (wpAny_pure (hq k s' q)))
  have one : wpAny (model prog w) A (tryCompare (.ref x) "__ne__" b) (fun r s' => ∃ v, r = some v ∧ Q v s') E s := by
    unfold tryCompare
    refine wpAny_bind (ifBound_B X I hne PySem.F.cmp_object.ne.bind (wpAny_call (codeAny_call_builtin PySem.F.cmp_object.ne.plain PySem.F.cmpEntry_ne
      (@PySem.W.check_slot (model prog w) _ _ s "object.__ne__" "object" "__ne__" (.ref x) [b] [] _ PySem.F.cmpKind_ne PySem.F.cmpSplit_ne (I.type.andThen (PySem.W.looks_subIn X hob)) (PySem.F.cmpArgs_ne _ _)
        (body _ fun k s' q => wpAny_pure ⟨_, rfl, q⟩)))))
  rcases hi : cmpInfo CmpOp.NotEq with ⟨sym, f', r'⟩
  have e1 : f' = "__ne__" := by have := congrArg (fun z => z.2.1) hi; exact this.symm
  have e2 : r' = "__ne__" := by have := congrArg (fun z => z.2.2) hi; exact this.symm
  subst e1 e2
  unfold richCompare
  simp only [oneThing_ref, hi]
  refine wpAny_holding (wpAny_bind (wpAny_cRoomFor (Nat.lt_of_succ_lt hu) ?_))
  refine wpAny_bind (I.type.here (wpAny_bind (hb.here ?_)))
  split
  · rename_i q
    have e : PySem.W.subIn K tb (.ref C) = some false := by
      rcases Bool.or_eq_true_iff.mp hn with e | e
      · rw [beq_iff_eq.mp e] at q; simp at q
      · exact beq_iff_eq.mp e
    refine wpAny_bind ((PySem.W.looks_subIn X e).here ?_)
    simp only [Bool.false_eq_true, if_false]
    refine wpAny_bind (wpAny_mono one (fun r s' z => ?_) fun _ _ e => e)
    obtain ⟨v, rfl, hq⟩ := z
    exact wpAny_pure hq
  · refine wpAny_bind (wpAny_pure ?_)
    simp only [Bool.false_eq_true, if_false]
    refine wpAny_bind (wpAny_mono one (fun r s' z => ?_) fun _ _ e => e)
    obtain ⟨v, rfl, hq⟩ := z
    exact wpAny_pure hq
end

/-! ### as operations of a run -/
/-- what the class says of its __eq__ -/
structure EqC (K : PySem.W.Frag) (C f : Addr) (cs : List Addr) : Prop where
  hs : PySem.W.findIn K (.ref C) "__eq__" = some (some (.ref f))
  hf : PySem.W.isFn K (.ref f) = true
  nf : ∀ T ∈ kinds, PySem.W.notFirst K C (.type T) = true
  sub : ∀ T ∈ kinds, PySem.W.subIn K (.ref C) (.type T) = some false
  nc : ∀ D ∈ cs, PySem.W.notFirst K C (.ref D) = true
  ne : PySem.W.findIn K (.ref C) "__ne__" = some (some (.builtin "object.__ne__"))
  ob : PySem.W.subIn K (.ref C) (.type "object") = some true
structure EqF (X : Cx) (S : Sx) (cs : List Nat) (c : Nat) (fn : Fn) : Prop where
  ex : ∃ (k : Nat) (f : Addr) (fd : FuncData) (ps : List Str), FnG X.prog X.w X.K X.mg X.base k f fd ps (spM X.K S ps.length fn) ∧ Room (k + 1) X.A ∧ Binds X.K fd ps [] ∧ ps.length = 2 ∧ EqC X.K (S.ι c) f (cs.map S.ι)
  gd : X.A.guards = some []
  pl : PlainCs X.K S cs
  hc : c ∈ cs
def eq2 (fn : Fn) (x y : T) (A : Hm) : R T := match fn [x, y] A with | .ok (.bl b) A' => .ok (.bl b) A' | _ => .bad
def tyIn (cs : List Nat) (y : T) (A : Hm) : Bool := match tyT y A with | some (.b n) => decide (n ∈ kinds) | some (.o j) => decide (j ∈ cs) | none => false
def isInsC (c : Nat) (x : T) (A : Hm) : Bool := match insOf A x with | some (d, _) => d == c | none => false
def isBi (x : T) (A : Hm) : Bool := match x with
  | .non => true | .bl _ => true | .int _ => true | .str _ => true | .tup _ => true
  | .ref n => match A[n]? with | some (.lst _) => true | some (.flst _) => true | some (.dct _) => true | _ => false
  | _ => false
/-- x == y, x or y an instance of c -/
def fEqO (cs : List Nat) (c : Nat) (fn : Fn) : T → T → Hm → R T := fun x y A => if isInsC c x A = true ∧ tyIn cs y A = true then eq2 fn x y A else if isInsC c y A = true ∧ isBi x A = true then eq2 fn y x A else .bad
def notR : R T → R T | .ok (.bl b) A => .ok (.bl (!b)) A | _ => .bad
/-- x != y, x an instance of c -/
def fNeO (cs : List Nat) (c : Nat) (fn : Fn) : T → T → Hm → R T := fun x y A => if isInsC c x A = true ∧ tyIn cs y A = true then notR (eq2 fn x y A) else .bad
abbrev noE : XK := fun _ _ _ => False
def Bi (K : PySem.W.Frag) (H : Hp) : V → Prop
  | .non => True | .bl _ => True | .int _ => True | .str _ => True
  | .ref p => (∃ xs, SqT K H p xs) ∨ (∃ xs, SqL K H p xs) ∨ ∃ kvs, H p = some (.dK kvs)
  | _ => False
def rEqO (K : PySem.W.Frag) (C : Addr) (sp : Sp) : R2 := fun x y H Q => (∃ a dx fs t, x = .ref a ∧ H a = some (.ins C dx fs) ∧ TyX K H y t ∧ PySem.W.notFirst K C t = true ∧ sp [x, y] H Q noE) ∨ ∃ b dx fs, y = .ref b ∧ H b = some (.ins C dx fs) ∧ Bi K H x ∧ sp [y, x] H Q noE
def rNeO (K : PySem.W.Frag) (C : Addr) (sp : Sp) : R2 := fun x y H Q => ∃ a dx fs t, x = .ref a ∧ H a = some (.ins C dx fs) ∧ TyX K H y t ∧ PySem.W.notFirst K C t = true ∧ sp [x, y] H (fun v H' => ∃ k, v = .bl k ∧ Q (.bl (!k)) H') noE
section
variable {X : Cx} {S : Sx} {cs : List Nat} {c : Nat} {fn : Fn}
theorem run_2 {A : Around} {pins : List (Addr × Obj)} {σ : L2.St} {H : Hp} {s : Shared} {Q : VK} {E : Value → Shared → Prop} {k : Nat} {f : Addr} {fd : FuncData} {ps : List Str} {sp : Sp} {x y : V} {u v : Value} (F : FnG X.prog X.w X.K X.mg X.base k f fd ps sp) (hr : Room k A) (hgd : A.guards = some []) (hfr : A.frames = X.A.frames) (hb : Binds X.K fd ps []) (hl : ps.length = 2)
    (I : Inv X pins σ H s) (rx : L2.RelV x u) (ry : L2.RelV y v) (h : sp [x, y] H Q noE) : wpAny (model X.prog X.w) A (call (.ref f) [u, v]) (EP X pins σ Q) E s := by
  have r2 : Vals [x, y] [u, v] := .cons rx (.cons ry .nil)
  have b := hb s [u, v] I.kIn (by rw [hl]; rfl)
  rw [List.append_nil] at b
  have e := I.env0
  refine wpAny_call (codeAny_mono (F.run A X.stack s H ⟨[u, v], []⟩ [u, v] [x, y] Q noE hr hgd ⟨by rw [hfr]; exact e.frames, e.mod, e.bs, e.bsz, e.funs, e.frf, e.hok, e.bare⟩ b r2 h) fun r s' hq => ?_)
  cases r with
  | error e =>
    obtain ⟨_, _, _, _, _, _, _, _, _, _, _, _, z⟩ := hq
    exact z.elim
  | ok fl =>
    cases fl with
    | ret u => exact I.after hq
    | next => exact False.elim hq
    | brk => exact False.elim hq
    | cont => exact False.elim hq
theorem back_of {pins : List (Addr × Obj)} {σ : L2.St} {Q : VK} {v : Value} {s' : Shared} (h : EP X pins σ Q v s') : PySem.W.CmpBack (EP X pins σ Q) v s' := by
  obtain ⟨z, H', I', rz, q⟩ := h
  have hz : v ≠ .notImplemented := fun e => by subst e; cases z <;> simp [L2.RelV] at rz
  have h' : EP X pins σ Q v s' := ⟨z, H', I', rz, q⟩
  unfold PySem.W.CmpBack
  split
  · exact absurd rfl hz
  · exact h'
theorem looks_ty {pins : List (Addr × Obj)} {σ : L2.St} {H : Hp} {s : Shared} {y : V} {v t : Value} (I : Inv X pins σ H s) (ry : L2.RelV y v) (ty : TyX X.K H y t) : PySem.W.Looks (model X.prog X.w) s.heap (typeOf v) t := by
  obtain ⟨P, k, hp, _⟩ := kit_of I ry ty
  exact k.ty _ _ I.kIn hp
theorem o_eqO (F : EqF X S cs c fn) : OpR X (compareOp .Eq) (rEqO X.K (S.ι c) (spM X.K S 2 fn)) := by
  obtain ⟨⟨k, f, fd, ps, F1, hr, hb, hl, C⟩, gd, pl, hc⟩ := F
  rw [hl] at F1
  intro pins s σ H x y v u Q I rx ry h
  show wpAny (model X.prog X.w) X.A (richCompare .Eq v u) (EP X pins σ Q) X.xe s
  have hr0 : Room k X.A := hr.mono (Nat.le_succ _)
  rcases h with ⟨a, dx, fs, t, rfl, ea, ty, hn, q⟩ | ⟨b, dx, fs, rfl, eb, bi, q⟩
  · obtain rfl : v = Value.ref a := rx
    obtain ⟨mA, J, _⟩ := ins_get I.hok ea
    obtain ⟨od, J, _⟩ := J.look
    obtain ⟨m, hF⟩ := I.fr
    refine PySem.W.cmp_K (op := .Eq) (tb := t) hr.units0 hF I.ok.mod.kin J (looks_ty I ry ty) hn C.hs C.hf ?_
    exact wpAny_mono (run_2 (x := .ref a) (u := .ref a) F1 hr0 gd rfl hb hl I rfl ry q) (fun _ _ z => back_of z) fun _ _ e => e
  · obtain rfl : u = Value.ref b := ry
    obtain ⟨mA, J0, _⟩ := ins_get I.hok eb
    have hob : s.heap.get? b = some (PySem.W.instObj (S.ι c) dx) := (I.hok b _ eb).2.2.2.1
    obtain ⟨od, J, _⟩ := J0.look
    have sub : ∀ T ∈ kinds, PySem.W.Looks (model X.prog X.w) s.heap (isInstance (.ref b) (.type T)) false := fun T hT => J.type.andThen (PySem.W.looks_subIn I.kIn (C.sub T hT))
    have run := fun (hv : ∀ (P : Prop), (L2.RelV x v → P) → P) => (hv _ fun r => wpAny_mono (run_2 (x := .ref b) (u := .ref b) (E := X.xe) F1 hr0 gd rfl hb hl I rfl r q) (fun _ _ z => back_of z) fun _ _ e => e)
    have go := run fun P k => k rx
    cases x with
    | non =>
      cases (show v = Value.none from rx)
      exact rc_refl (Ta := "NoneType") hr.units0 rfl J I.kIn (C.sub _ (by decide)) F.slot_NoneType_eq (fun Q' hq => GQ.call_here F.slot_NoneType_eq rfl F.entry_NoneType_eq (F.args_NoneType_eq_2 _ _) (non_decl (prog := X.prog) (w := X.w) (A := X.A) (R := wants Q' X.xe) hq)) C.hs C.hf go
    | bl z =>
      cases (show v = Value.bool z from rx)
      exact rc_refl (Ta := "bool") hr.units0 rfl J I.kIn (C.sub _ (by decide)) F.slot_bool_eq (fun Q' hq => GQ.call_here F.slot_bool_eq rfl F.entry_int_eq (F.args_int_eq_2 _ _) (bool_decl (prog := X.prog) (w := X.w) (A := X.A) (R := wants Q' X.xe) hob hq)) C.hs C.hf go
    | int z =>
      obtain ⟨t, e⟩ := (show ∃ t, v = Value.int z t from rx)
      subst e
      exact rc_refl (Ta := "int") hr.units0 (typeIs_int s z t) J I.kIn (C.sub _ (by decide)) F.slot_int_eq (fun Q' hq => GQ.call_here F.slot_int_eq (typeIs_int s z t) F.entry_int_eq (F.args_int_eq_2 _ _) (int_decl (prog := X.prog) (w := X.w) (A := X.A) (R := wants Q' X.xe) hob hq)) C.hs C.hf go
    | str z =>
      obtain ⟨t, e⟩ := (show ∃ t, v = Value.str z t from rx)
      subst e
      exact rc_refl (Ta := "str") hr.units0 (typeIs_str s z t) J I.kIn (C.sub _ (by decide)) F.slot_str_eq (fun Q' hq => GQ.call_here F.slot_str_eq (typeIs_str s z t) F.entry_str_eq (F.args_str_eq_2 _ _) (str_decl (prog := X.prog) (w := X.w) (A := X.A) (R := wants Q' X.xe) hob hq)) C.hs C.hf go
    | ref p =>
      cases (show v = Value.ref p from rx)
      rcases bi with ⟨xs, hp⟩ | ⟨xs, hp⟩ | ⟨kvs, hp⟩
      · obtain ⟨its, rv, ht, hz⟩ := I.tuple hp
        have hT : s.TypeIs (.ref p) "tuple" := ht.typeIs
        exact rc_refl (Ta := "tuple") hr.units0 hT J I.kIn (C.sub _ (by decide)) F.slot_tuple_eq (fun Q' hq => GQ.call_here F.slot_tuple_eq hT F.entry_tuple_eq (F.args_tuple_eq_2 _ _) (tup_decl (prog := X.prog) (w := X.w) (A := X.A) (R := wants Q' X.xe) (sub _ (by decide)) hq)) C.hs C.hf go
      · obtain ⟨its, rv, pl', hz⟩ := I.list hp
        have hT : s.TypeIs (.ref p) "list" := pl'.isList.typeIs
        exact rc_refl (Ta := "list") hr.units0 hT J I.kIn (C.sub _ (by decide)) F.slot_list_eq (fun Q' hq => GQ.call_here F.slot_list_eq hT F.entry_list_eq (F.args_list_eq_2 _ _) (lst_decl (prog := X.prog) (w := X.w) (A := X.A) (R := wants Q' X.xe) (sub _ (by decide)) hq)) C.hs C.hf go
      · obtain ⟨_, _, vs, _, o, es, ep, h1, h2, _⟩ := (show ObjOk X.prog X.w H s.heap p (.dK kvs) from I.hok p _ hp)
        have hT : s.TypeIs (.ref p) "dict" := ⟨o, h1, h2.1⟩
        exact rc_refl (Ta := "dict") hr.units0 hT J I.kIn (C.sub _ (by decide)) F.slot_dict_eq (fun Q' hq => GQ.call_here F.slot_dict_eq hT F.entry_dict_eq (F.args_dict_eq_2 _ _) (dct_decl (prog := X.prog) (w := X.w) (A := X.A) (R := wants Q' X.xe) (sub _ (by decide)) hq)) C.hs C.hf go
    | _ => exact bi.elim
theorem o_neO (F : EqF X S cs c fn) : OpR X (compareOp .NotEq) (rNeO X.K (S.ι c) (spM X.K S 2 fn)) := by
  obtain ⟨⟨k, f, fd, ps, F1, hr, hb, hl, C⟩, gd, pl, hc⟩ := F
  rw [hl] at F1
  intro pins s σ H x y v u Q I rx ry h
  show wpAny (model X.prog X.w) X.A (richCompare .NotEq v u) (EP X pins σ Q) X.xe s
  obtain ⟨a, dx, fs, t, rfl, ea, ty, hn, q⟩ := h
  obtain rfl : v = Value.ref a := rx
  obtain ⟨mA, J, _⟩ := ins_get I.hok ea
  obtain ⟨od, J, _⟩ := J.look
  refine rc_ne (by have := hr.un; omega) J I.kIn (looks_ty I ry ty) hn C.ne C.ob C.hs C.hf ?_
  refine wpAny_mono (run_2 (x := .ref a) (u := .ref a) F1 hr.in1 gd rfl hb hl I rfl ry q) (fun w s' z => ?_) fun _ _ e => e
  obtain ⟨z', H', I', rz, kk, e, qz⟩ := z
  subst e
  exact ⟨kk, rz, .bl (!kk), H', I', rfl, qz⟩

variable {K : PySem.W.Frag}
theorem isInsC_ok {ρ : List Addr} {H : Hp} {A : Hm} (hH : RelH K S ρ H A) {t : T} {x : V} (r : MP.RelV K S ρ H t x) (h : isInsC c t A = true) : ∃ a dx fs, x = .ref a ∧ H a = some (.ins (S.ι c) dx fs) := by
  unfold isInsC at h
  split at h
  · rename_i d fs q
    obtain ⟨a, dx, gs, e, ea, _⟩ := insOf_ok hH r q
    rw [beq_iff_eq.mp h] at ea
    exact ⟨a, dx, gs, e, ea⟩
  · cases h
theorem tyIn_ok (P : PlainCs K S cs) {C f : Addr} (E : EqC K C f (cs.map S.ι)) {ρ : List Addr} {H : Hp} {A : Hm} (hH : RelH K S ρ H A) {t : T} {x : V} (r : MP.RelV K S ρ H t x) (h : tyIn cs t A = true) : ∃ v, TyX K H x v ∧ PySem.W.notFirst K C v = true := by
  unfold tyIn at h
  split at h
  · rename_i n q
    exact ⟨_, tyT_ok P hH r q (fun c e => by cases e), E.nf n (of_decide_eq_true h)⟩
  · rename_i j q
    have hj : j ∈ cs := of_decide_eq_true h
    exact ⟨_, tyT_ok P hH r q (fun c e => by cases e; exact hj), E.nc _ (List.mem_map.mpr ⟨j, hj, rfl⟩)⟩
  · cases h
theorem isBi_ok {ρ : List Addr} {H : Hp} {A : Hm} (hH : RelH K S ρ H A) {t : T} {x : V} (r : MP.RelV K S ρ H t x) (h : isBi t A = true) : Bi K H x := by
  unfold isBi at h
  cases r with
  | non => trivial
  | bl => trivial
  | int => trivial
  | str => trivial
  | tup hp _ => exact .inl ⟨_, hp⟩
  | ref hr =>
    simp only at h
    split at h
    · rename_i l q
      obtain ⟨xs, e, _⟩ := SqL_ref hH hr q (.inl rfl)
      exact .inr (.inl ⟨xs, e⟩)
    · rename_i l q
      obtain ⟨xs, e, _⟩ := SqL_ref hH hr q (.inr rfl)
      exact .inr (.inl ⟨xs, e⟩)
    · rename_i l q
      obtain ⟨o, ho, ro⟩ := hH.at_ _ _ _ q hr
      cases ro
      exact .inr (.inr ⟨_, ho⟩)
    · cases h
  | _ => cases h
theorem eq2_of {W : WX} {ρ : List Addr} {A : Hm} {H : Hp} {x y : T} {x' y' : V} {σ : L2.St} {Q : VK} (hH : RelH K S ρ H A) (rx : MP.RelV K S ρ H x x') (ry : MP.RelV K S ρ H y y') {g : Bool → Bool} {m : R T → R T} (hm : ∀ r, m r = match r with | .ok (.bl b) A' => .ok (.bl (g b)) A' | _ => .bad)
    (h : post K S (rV K S) W ρ σ H Q (m (eq2 fn x y A))) : spM K S 2 fn [x', y'] H (fun v H' => ∃ k, v = .bl k ∧ Q (.bl (g k)) H') noE := by
  refine ⟨ρ, A, [x, y], rfl, hH, .cons rx (.cons ry .nil), ?_⟩
  rw [hm] at h
  unfold eq2 at h
  cases q : fn [x, y] A with
  | ok v A' =>
    rw [q] at h
    cases v with
    | bl b =>
      intro ρ' H' u1 u2 u3 z hz
      cases hz
      exact ⟨b, rfl, h ρ' H' u1 u2 u3 _ (.bl _)⟩
    | _ => exact h.elim
  | err c fs A' => rw [q] at h; exact h.elim
  | bad => rw [q] at h; exact h.elim
theorem spM.mono {np : Nat} {vs : List V} {H : Hp} {Q Q' : VK} {E : XK} (h : spM K S np fn vs H Q E) (hq : ∀ v H, Q v H → Q' v H) : spM K S np fn vs H Q' E := by
  obtain ⟨ρ, A, ts, h1, h2, h3, h4⟩ := h
  exact ⟨ρ, A, ts, h1, h2, h3, h4.mono hq⟩
def idR : R T → R T := fun r => match r with | .ok (.bl b) A' => .ok (.bl (id b)) A' | _ => .bad
theorem m_eqO (F : EqF X S cs c fn) : OpM X.K S (fEqO cs c fn) (rEqO X.K (S.ι c) (spM X.K S 2 fn)) := by
  obtain ⟨⟨k, f, fd, ps, F1, hr, hb, hl, C⟩, gd, pl, hc⟩ := F
  intro W ρ A H x y x' y' σ Q hH rx ry h
  have hid : ∀ r : R T, idR r = match r with | .ok (.bl b) A' => .ok (.bl (id b)) A' | _ => .bad := fun r => by unfold idR; rfl
  have h2 : ∀ u v : T, idR (eq2 fn u v A) = eq2 fn u v A := fun u v => by
    unfold eq2
    cases fn [u, v] A with
    | ok w A' => cases w <;> rfl
    | _ => rfl
  unfold fEqO at h
  split at h
  · rename_i z
    obtain ⟨a, dx, fs, rfl, ea⟩ := isInsC_ok hH rx z.1
    obtain ⟨t, ty, hn⟩ := tyIn_ok pl C hH ry z.2
    rw [← h2 x y] at h
    exact .inl ⟨a, dx, fs, t, rfl, ea, ty, hn, (eq2_of hH rx ry hid h).mono fun v H' ⟨k, e, q⟩ => by rw [e]; exact q⟩
  · split at h
    · rename_i z
      obtain ⟨b, dx, fs, rfl, eb⟩ := isInsC_ok hH ry z.1
      rw [← h2 y x] at h
      exact .inr ⟨b, dx, fs, rfl, eb, isBi_ok hH rx z.2, (eq2_of hH ry rx hid h).mono fun v H' ⟨k, e, q⟩ => by rw [e]; exact q⟩
    · exact h.elim
theorem m_neO (F : EqF X S cs c fn) : OpM X.K S (fNeO cs c fn) (rNeO X.K (S.ι c) (spM X.K S 2 fn)) := by
  obtain ⟨⟨k, f, fd, ps, F1, hr, hb, hl, C⟩, gd, pl, hc⟩ := F
  intro W ρ A H x y x' y' σ Q hH rx ry h
  unfold fNeO at h
  split at h
  · rename_i z
    obtain ⟨a, dx, fs, rfl, ea⟩ := isInsC_ok hH rx z.1
    obtain ⟨t, ty, hn⟩ := tyIn_ok pl C hH ry z.2
    exact ⟨a, dx, fs, t, rfl, ea, ty, hn, eq2_of hH rx ry (g := fun b => !b) (m := notR) (fun r => by unfold notR; rfl) h⟩
  · exact h.elim
/-- one rule or another, by the values -/
def fOr (p : T → T → Hm → Bool) (f g : T → T → Hm → R T) : T → T → Hm → R T := fun x y A => if p x y A = true then f x y A else g x y A
theorem m_or {p : T → T → Hm → Bool} {f g : T → T → Hm → R T} {r r' : R2} (hf : OpM K S f r) (hg : OpM K S g r') : OpM K S (fOr p f g) (fun x y H Q => r x y H Q ∨ r' x y H Q) := fun W ρ A H x y x' y' σ Q hH rx ry h => by
  unfold fOr at h
  split at h
  · exact .inl (hf W ρ A H x y x' y' σ Q hH rx ry h)
  · exact .inr (hg W ρ A H x y x' y' σ Q hH rx ry h)
/-- x or y an instance of c -/
def isOwn (c : Nat) : T → T → Hm → Bool := fun x y A => isInsC c x A || isInsC c y A
end
end MP
end S16
section S17
set_option Elab.async false
set_option linter.all false
set_option maxRecDepth 100000
set_option maxHeartbeats 2000000
/-! MPq: the end of a law: from the promise of its def to the row. -/
namespace MP
open PySem PySem.Spec PyProof.Rows L2 LamX

/-- no list of the written part can be the script -/
def noLists (K : PySem.W.Frag) : Bool := K.all fun q => match q.2.cls with | .type c => !(c == "list") | _ => true
theorem noLists_ok {K : PySem.W.Frag} (h : noLists K = true) {a : Addr} {o : Obj} (e : K.lookup a = some o) : o.cls ≠ .type "list" := fun z => by
  have m := List.all_eq_true.mp h (a, o) (He.lookup_mem e)
  dsimp only at m
  rw [z] at m
  exact absurd m (by decide)
/-- what is known of the law's def at the head's heap h -/
structure LawAt (P : Program) (w : World) (K : PySem.W.Frag) (S : Sx) (k n : Nat) (x : Str) (mg : Str → Option Value) (fa : Addr) (h : Heap) (fn : Fn) (fd : FuncData) (cs : List (Addr × Addr)) : Prop where
  emp : ∀ p ∈ cs, h.get? p.2 = some { cls := .none, data := .fields #[] }
  out : ∀ p ∈ cs, K.lookup p.2 = none
  hd : ∀ p ∈ cs, PySem.W.CodeHd h p.1 p.2
  tb : S.tb.map (·.1) = cs.map (·.2)
  no : noLists K = true
  bnd : ∀ (s : Shared) (u : Value), BindsTo s fd ⟨[u], []⟩ [(x, u)]
  run : ∀ base : Heap, K.In base → base.Ns mainGlobals mg → (∀ p ∈ cs, TabB base mg p.1 p.2) → FnG P w K mg base k fa fd [x] (spM K S 1 fn)
  ans : ∀ ns : List Int, ns.length ≤ n → (∀ z ∈ ns, Builtin.Int.intBits z ≤ 1048576) → ∃ A, fn [.ref 0] [.flst (ns.map T.int)] = .ok (.bl true) A
theorem relL_ints {K : PySem.W.Frag} {S : Sx} {ρ : List Addr} {H : Hp} : ∀ ns : List Int, RelL K S ρ H (ns.map T.int) (ns.map V.int)
  | [] => .nil
  | n :: ns => .cons (.int n) (relL_ints ns)
theorem law_end {P : Program} {w : World} {K : PySem.W.Frag} {S : Sx} {mg mb : Str → Option Value} {k n : Nat} {fa a : Addr} {cs : List (Addr × Addr)} {fd : FuncData} {x : Str} {fn : Fn} {s₁ : Shared} {vs : List Value} {ns : List Int}
    (KX : K.In s₁.heap) (hns : s₁.heap.Ns mainGlobals mg) (hb : s₁.heap.Ns builtinsNs mb) (hbb : ∀ x : Str, x ≠ "__name__" → mb x = bootBuiltins x) (hlim : s₁.heap.NoLimit) (hg : s₁.gens = #[]) (L : LawAt P w K S k n x mg fa s₁.heap fn fd cs)
    (hbm : ∃ (bm : Addr) (ob : Obj), mg "__builtins__" = some (.ref bm) ∧ bm ≠ builtinsNs ∧ s₁.heap.get? bm = some ob ∧ ob.cls = .type "module" ∧ ob.dict = some builtinsNs ∧ ob.data = .plain)
    (ha : s₁.heap.get? a = some { cls := .type "list", data := .seq vs.toArray }) (hi : IntsAre vs ns) (hln : ns.length ≤ n) (hl : ns.length ≤ sizeLine) (hbits : ∀ z ∈ ns, Builtin.Int.intBits z ≤ 1048576) (hr : Room k callerA) :
    codeAny (model P w) callerA (.call (.ref fa) ⟨[.ref a], []⟩) (fun r s' => r = .ok (.ret (.bool true)) ∧ OldK s₁.heap s'.heap ∧ s'.os = s₁.os ∧ AllBare s'.gens) s₁ := by
  have rv := vals_ints hi
  have nK : K.lookup a = none := by
    cases e : K.lookup a with
    | none => rfl
    | some o =>
      have e2 := KX a o e
      rw [ha] at e2
      exact absurd (by rw [← Option.some.inj e2]) (noLists_ok L.no e)
  have isT : ∀ b : Addr, b ∈ cs.map (·.2) → s₁.heap.get? b = some { cls := .none, data := .fields #[] } := fun b hb => by
    obtain ⟨p, hp, e⟩ := List.mem_map.mp hb
    rw [← e]; exact L.emp p hp
  have aT : a ∉ cs.map (·.2) := fun z => by
    have q := isT a z
    rw [ha] at q
    have z' : Data.seq vs.toArray _ = Data.fields #[] := congrArg Obj.data (Option.some.inj q)
    cases z'
  have memT : ∀ p ∈ cs, p.2 ∈ cs.map (·.2) := fun p hp => List.mem_map.mpr ⟨p, hp, rfl⟩
  generalize hH : (fun b => if b = a then some (HO.frz { cls := .type "list", data := .seq vs.toArray } (.lst (ns.map V.int))) else if b ∈ cs.map (·.2) then some (.tbl #[]) else none : Hp) = H
  have Ha : H a = some (.frz { cls := .type "list", data := .seq vs.toArray } (.lst (ns.map V.int))) := by rw [← hH]; exact if_pos rfl
  have Ht : ∀ p ∈ cs, H p.2 = some (.tbl #[]) := fun p hp => by
    rw [← hH]
    exact (if_neg (show ¬ p.2 = a from fun z => aT (by rw [← z]; exact memT p hp))).trans (if_pos (memT p hp))
  have Hc : ∀ b, H b = none ∨ (b = a ∧ H b = some (.frz { cls := .type "list", data := .seq vs.toArray } (.lst (ns.map V.int)))) ∨ (b ∈ cs.map (·.2) ∧ H b = some (.tbl #[])) := fun b => by
    rw [← hH]
    by_cases h1 : b = a
    · exact .inr (.inl ⟨h1, if_pos h1⟩)
    · by_cases h2 : b ∈ cs.map (·.2)
      · exact .inr (.inr ⟨h2, (if_neg h1).trans (if_pos h2)⟩)
      · exact .inl ((if_neg h1).trans (if_neg h2))
  have hok : HOk P w H s₁.heap := fun b u z => by
    rcases Hc b with e | ⟨e1, e⟩ | ⟨e1, e⟩
    · rw [e] at z; cases z
    · rw [e] at z; cases z; subst e1
      exact ⟨ha, by rw [List.length_map]; exact hl, vs, _, rv, ha⟩
    · rw [e] at z; cases z
      exact isT b e1
  have noD : ∀ {b : Addr} {o : Obj}, s₁.heap.get? b = some o → (∀ vs n, o.data ≠ .seq vs n) → o.data ≠ .fields #[] → H b = none := fun {b o} e h1 h2 => by
    rcases Hc b with q | ⟨e1, q⟩ | ⟨e1, q⟩
    · exact q
    · subst e1; rw [ha] at e; cases e; exact (h1 _ _ rfl).elim
    · rw [isT b e1] at e; cases e; exact (h2 rfl).elim
  have base_of : ∀ {b : Addr} {o : Obj}, s₁.heap.get? b = some o → H b = none → (hidT s₁.heap H).get? b = some o := fun e n => hidT_get e n
  have nsK : ∀ {b : Addr} {m : Str → Option Value}, s₁.heap.Ns b m → (hidT s₁.heap H).Ns b m := fun {b m} ⟨o, es, ep, e, d, r⟩ => ⟨o, es, ep, base_of e (noD e (fun vs n z => by rw [d] at z; cases z) fun z => by rw [d] at z; cases z), d, r⟩
  have hKb : K.In (hidT s₁.heap H) := fun b o e => base_of (KX b o e) (by
    rcases Hc b with q | ⟨e1, q⟩ | ⟨e1, q⟩
    · exact q
    · subst e1; rw [nK] at e; cases e
    · obtain ⟨p, hp, ep⟩ := List.mem_map.mp e1
      rw [← ep, L.out p hp] at e; cases e)
  have hM : L2.Mod K mg (hidT s₁.heap H) := ⟨hKb, nsK hns, ⟨mb, nsK hb, hbb⟩, let ⟨mc, h1, h2⟩ := hlim; ⟨mc, nsK h1, h2⟩⟩
  have TB : ∀ p ∈ cs, TabB (hidT s₁.heap H) mg p.1 p.2 := fun p hp => by
    have hTp := L.emp p hp
    refine ⟨?_, ?_, fun z => ?_⟩
    · obtain ⟨o, us, file, tf, flags, tg, inF, text, tt, e1, r1, r2, r3, r4, r5, r6, r7, r8, hne⟩ := L.hd p hp
      refine ⟨o, us, file, tf, flags, tg, inF, text, tt, base_of e1 (noD e1 (fun vs n z => by rw [r2] at z; cases z) fun z => ?_), r1, r2, r3, r4, r5, r6, r7, r8, hne⟩
      rw [r2] at z; cases z; simp at r3
    · obtain ⟨bm, ob, b1, b2, b3, b4, b5, b6⟩ := hbm
      have nG : bm ≠ mainGlobals := fun q => by
        obtain ⟨o, es, ep, e, hd, _⟩ := hns
        rw [q, e] at b3; cases b3; rw [hd] at b6; cases b6
      have nP : bm ≠ p.2 := fun q => by
        rw [q, hTp] at b3; cases b3; cases b6
      refine ⟨bm, ob, b1, b2, nG, nP, base_of b3 (noD b3 (fun vs n z => by rw [b6] at z; cases z) fun z => by rw [b6] at z; cases z), b4, b5, b6⟩
    · obtain ⟨o, es, ep, e, hd, _⟩ := hns
      rw [z, hTp] at e; cases e; cases hd
  have e0 : Env0 P w K mg (hidT s₁.heap H) callerA [] s₁ H := ⟨rfl, hM, fun b o e => of_hidT e, Nat.le_of_eq (hidT_size _ _), trivial, fun b hb => absurd (show b ∈ ([] : List Addr) from hb) (by simp), hok, .of_eq hg⟩
  obtain ⟨A', hans⟩ := L.ans ns hln hbits
  have hRel : RelH K S [a] H [.flst (ns.map T.int)] := ⟨rfl, by simp, fun i c p e1 e2 => by
    cases i with
    | zero =>
      cases e1; cases e2
      exact ⟨_, Ha, .flst (relL_ints ns)⟩
    | succ i => simp at e1, fun p hp => by
    have : p.1 ∈ S.tb.map (·.1) := List.mem_map.mpr ⟨p, hp, rfl⟩
    rw [L.tb] at this
    obtain ⟨q, hq, e⟩ := List.mem_map.mp this
    have z := Ht q hq
    rw [e] at z
    exact TabS.nil z⟩
  have hsp : spM K S 1 fn [.ref a] H (fun v _ => v = .bl true) (fun _ _ _ => False) := by
    refine ⟨[a], _, [.ref 0], rfl, hRel, .cons (.ref rfl) .nil, ?_⟩
    rw [hans]
    exact fun ρ' H' _ _ _ y hy => by cases hy; rfl
  refine codeAny_mono ((L.run _ hKb (nsK hns) TB).run callerA [] s₁ H ⟨[.ref a], []⟩ [.ref a] [.ref a] _ _ hr rfl e0 (L.bnd s₁ (.ref a)) (.cons rfl .nil) hsp) fun r s' h => ?_
  cases r with
  | error e =>
    obtain ⟨_, _, _, _, _, _, _, _, _, _, _, _, z⟩ := h
    exact z.elim
  | ok fl =>
    cases fl with
    | next => exact False.elim h
    | brk => exact False.elim h
    | cont => exact False.elim h
    | ret u =>
      obtain ⟨v, H', os, bare, un, hok', r', q⟩ := h
      have q' : v = .bl true := q
      subst q'
      obtain rfl : u = Value.bool true := r'
      have key : ∀ b o, b ∉ cs.map (·.2) → s₁.heap.get? b = some o → s'.heap.get? b = some o := fun b o nb e => by
        rcases Hc b with q | ⟨e1, q⟩ | ⟨e1, q⟩
        · exact un.keep b o e q (by intro z; exact absurd (show b ∈ ([] : List Addr) from z) (by simp)) (by simp)
        · have z2 := un.frzs b _ _ q
          obtain ⟨x1, _⟩ := hok b _ q
          obtain ⟨x2, _⟩ := hok' b _ z2
          rw [e] at x1; cases x1
          exact x2
        · exact absurd e1 nb
      have grown : ∀ p ∈ cs, ∃ more : Array Value, s'.heap.get? p.2 = some { cls := .none, data := .fields more } := fun p hp => by
        obtain ⟨more, z⟩ := un.tbls p.2 #[] (Ht p hp)
        exact ⟨_, hok' p.2 _ z⟩
      refine ⟨rfl, ⟨fun b o e => ?_, fun b o e => ?_⟩, os, bare⟩
      · by_cases hb : b ∈ cs.map (·.2)
        · obtain ⟨p, hp, ep⟩ := List.mem_map.mp hb
          obtain ⟨more, hm⟩ := grown p hp
          rw [← ep] at e ⊢
          rw [L.emp p hp] at e
          cases e
          exact .inr (.inl ⟨((L.hd p hp).tab (L.emp p hp)).isCodeTable, rfl, #[], more, rfl, by rw [Array.empty_append]; exact hm⟩)
        · exact .inl (key b o hb e)
      · by_cases hb : b ∈ cs.map (·.2)
        · obtain ⟨p, hp, ep⟩ := List.mem_map.mp hb
          obtain ⟨more, hm⟩ := grown p hp
          rw [← ep]; exact ⟨_, hm⟩
        · exact ⟨o, key b o hb e⟩
/-- a law's row, from what the head's facts give -/
theorem walk_end {l : PySem.W.OpenLaw} {n k : Nat} {q : Program} {loose : List Str} {XP : (Str → Option Value) → Heap → Prop} {YP : World → Heap → Prop} {d : DefRec} {x : Str} (hn : l.most = some n) (hn2 : n ≤ sizeLine) (hdf : d.params.defaults = []) (hr : Room k callerA)
    (F : ∀ (w : World) (mg : Str → Option Value) (fa : Addr) (h : Heap), YP w h → h.Ns mainGlobals mg → mg d.name = some (.ref fa) → ∃ (K : PySem.W.Frag) (S : Sx) (fn : Fn) (fd : FuncData) (cs : List (Addr × Addr)), K.In h ∧ LawAt l.prog w K S k n x mg fa h fn fd cs) :
    PySem.W.WalkO q loose XP YP l.row.toRowW d [] (fun f vs => PySem.call f vs) := by
  refine Att.attach_callB hn hdf fun w s₀ s₁ mg mb fa o pm cd doc a vs ns G Y ho hd hcd hmg hobj hints hlen hbits hg => ?_
  obtain ⟨K, S, fn, fd, cs, KX, L⟩ := F w mg fa _ Y G.T.g hmg
  exact law_end KX G.T.g G.T.b G.T.builtins G.T.nolimit hg L G.T.bmain hobj hints hlen (Nat.le_trans hlen hn2) hbits hr
end MP
end S17
section S18
set_option Elab.async false
set_option linter.all false
set_option maxRecDepth 100000
/-! MPr: stores by an index; what a printed walk leans on. -/
namespace MP
open PySem PySem.Spec PyProof.Rows L2

section
variable {X : Cx} {S : Sx} {G : Gx} {o i : Expr} {mo mi : ME} {pos : Pos}
def gSubL (mo mi : ME) : MT := fun v e A => match mo e A with
  | .ok x A1 => match mi e A1 with
    | .ok y A2 => match x, y with
      | .ref n, .int k => match A2[n]? with
        | some (.lst l) => match ixN l.length k with
          | some j => .nx e (putL n (l.set j v) A2)
          | none => .bad
        | _ => .bad
      | _, _ => .bad
    | _ => .bad
  | _ => .bad
theorem dg_sub (ho : PE X o (tE X.K S G mo)) (hi : PE X i (tE X.K S G mi)) (ha : ∀ v, assign (.Subscript o i pos) X.env v = (do
      let ov ← holding [v] (eval o X.env)
      let iv ← holding [v, ov] (eval i X.env)
      standAt pos
      holding [v, ov, iv] (setItem ov iv v)
      release [v, ov, iv] []) := by intro _; rfl) : PG X (.Subscript o i pos) (tG X.K S G (gSubL mo mi)) := by
  refine PG.imp (pg_sub ho hi set_list ha) fun v σ H Q h => ?_
  obtain ⟨ρ, A, e, t, h1, h2, h3, h4, h5⟩ := h
  refine ⟨ρ, A, e, h1, h2, h3, ?_⟩
  unfold gSubL at h5
  cases q : mo e A with
  | ok x A1 =>
    rw [q] at h5
    dsimp only at h5
    intro ρ1 H1 u1 u2 u3 x' hx
    refine ⟨ρ1, A1, e, u3, h2.mono u1 u2, G.mono u1 u2 h3, ?_⟩
    cases q2 : mi e A1 with
    | ok y A2 =>
      rw [q2] at h5
      dsimp only at h5
      intro ρ2 H2 v1 v2 v3 y' hy
      have hx2 := hx.mono v1 v2
      cases hx2 with
      | @ref n p hr =>
        cases hy with
        | int k =>
          dsimp only at h5
          cases q3 : A2[n]? with
          | none => rw [q3] at h5; exact h5.elim
          | some c =>
            rw [q3] at h5
            cases c with
            | lst l =>
              dsimp only at h5
              cases q4 : ixN l.length k with
              | none => rw [q4] at h5; exact h5.elim
              | some j =>
                rw [q4] at h5
                dsimp only at h5
                obtain ⟨xs, hp, rl⟩ := mut_ok v3 hr q3
                refine ⟨p, xs, k, j, rfl, rfl, hp, by rw [← rl.length]; exact q4, ?_⟩
                have m : Mono H2 (upd H2 p (.lst (xs.set j v))) := Mono.put hp (fun z => z)
                exact h5 ρ2 _ (u1.trans v1) ((u2.trans v2).trans m) (v3.put hr hp (fun z => z) (fun _ z => by cases z) (.lst ((rl.set j (h4.mono (u1.trans v1) (u2.trans v2))).mono List.prefix_rfl m))) σ
                  (h2.mono (u1.trans v1) ((u2.trans v2).trans m)) (G.mono (u1.trans v1) ((u2.trans v2).trans m) h3)
            | _ => exact h5.elim
        | _ => exact h5.elim
      | tup _ _ => cases hy <;> exact h5.elim
      | clo _ _ => cases hy <;> exact h5.elim
      | _ => cases hy <;> exact h5.elim
    | _ => rw [q2] at h5; exact h5.elim
  | _ => rw [q] at h5; exact h5.elim
end

/-! ### defs by their names -/
section
variable (P : Program) (w : World) (K : PySem.W.Frag) (mg : Str → Option Value) (base : Heap) (S : Sx)
structure DF (x : Str) (k : Nat) (ps : List Str) (fn : Fn) (st : Stmt) (dvs : List V) (kws : List (Str × V)) : Prop where
  ex : ∃ (f : Addr) (fd : FuncData), FnG P w K mg base k f fd ps (spM K S ps.length fn) ∧ mg x = some (.ref f) ∧ FD K x x st dvs kws f fd
/-- the same of a def that takes a lambda first -/
structure DL (kl : Nat) (x : Str) (k : Nat) (ps : List Str) (fn : FnL) (st : Stmt) : Prop where
  ex : ∃ (f : Addr) (fd : FuncData), FnC P w K mg base S kl k f fd ps fn ∧ mg x = some (.ref f) ∧ FD K x x st [] [] f fd
/-- a class: what its __init__ does -/
structure DC (c : Nat) (x qual : Str) (k : Nat) (ps : List Str) (fn : Fn) (st : Stmt) (dvs : List V) (kws : List (Str × V)) : Prop where
  ex : ∃ (f : Addr) (fd : FuncData), Mk K (S.ι c) f ∧ FnG P w K mg base k f fd ps (spM K S ps.length fn) ∧ mg x = some (.ref (S.ι c)) ∧ FD K "__init__" qual st dvs kws f fd
/-- a method -/
structure DM (c : Nat) (m qual : Str) (k : Nat) (ps : List Str) (fn : Fn) (st : Stmt) (dvs : List V) (kws : List (Str × V)) : Prop where
  ex : ∃ (f : Addr) (fd : FuncData), L2.Cls K (S.ι c) ∧ Meth K (S.ι c) m f ∧ FnG P w K mg base k f fd ps (spM K S ps.length fn) ∧ FD K m qual st dvs kws f fd
/-- an exception's class with its __init__ -/
structure DR (c : Nat) (x qual f : Str) (k : Nat) (ok : Option Str → Bool) (ps : List Str) (st : Stmt) : Prop where
  ex : ∃ (fI : Addr) (fd : FuncData), FnG P w K mg base k fI fd ps (spInit K (S.ι c) f ok) ∧ mg x = some (.ref (S.ι c)) ∧ FD K "__init__" qual st [] [] fI fd ∧ PySem.W.findIn K (.ref (S.ι c)) "__init__" = some (some (.ref fI)) ∧ PySem.W.typeIn K (.ref fI) = some (.type "function")
  two : ps.length = 2
  cls : OexC K (S.ι c)
  no : PySem.W.findIn K (.ref (S.ι c)) f = some none
end
section
variable {X : Cx} {S : Sx} {G : Gx} {x qual m fl : Str} {k j kl n c : Nat} {ps ks : List Str} {fn : Fn} {fnl : FnL} {st : Stmt} {dvs : List V} {kws : List (Str × V)} {gT : List T → List T → List T} {ok : Option Str → Bool}
theorem DF.call (D : DF X.prog X.w X.K X.mg X.base S x k ps fn st dvs kws) (hr : Room j X.A) (hk : k ≤ j) (gd : X.A.guards = some []) (tk : L2N.Takes X G.W) (hb : ∀ f fd, FD X.K x x st dvs kws f fd → BindM X.K S fd ps n ks gT) : CallF X S G x n ks gT fn := by
  obtain ⟨f, fd, F, hm, FD'⟩ := D.ex
  exact ⟨⟨k, f, fd, ps, F, hr.mono hk, hm, FD'.kp, hb f fd FD'⟩, gd, tk⟩
theorem DL.call (D : DL X.prog X.w X.K X.mg X.base S kl x k ps fnl st) (hr : Room j X.A) (hk : k ≤ j) (gd : X.A.guards = some []) (tk : L2N.Takes X G.W) (hn : ps.length = n + 1) (hb : ∀ f fd, FD X.K x x st [] [] f fd → L2.Binds X.K fd ps []) : CallL X S G kl x n fnl := by
  obtain ⟨f, fd, F, hm, FD'⟩ := D.ex
  exact ⟨⟨k, f, fd, ps, F, hr.mono hk, hm, FD'.kp, hb f fd FD', hn⟩, gd, tk⟩
theorem DC.make (D : DC X.prog X.w X.K X.mg X.base S c x qual k ps fn st dvs kws) (hr : Room j X.A) (hk : k + 1 ≤ j) (gd : X.A.guards = some []) (tk : L2N.Takes X G.W) (hb : ∀ f fd, FD X.K "__init__" qual st dvs kws f fd → BindM X.K S fd ps (n + 1) ks gT) : MakeF X S G x c n ks gT fn := by
  obtain ⟨f, fd, M, F, hm, FD'⟩ := D.ex
  exact ⟨⟨k, f, fd, ps, M, F, hr.mono hk, hm, hb f fd FD'⟩, gd, tk⟩
theorem DM.meth (D : DM X.prog X.w X.K X.mg X.base S c m qual k ps fn st dvs kws) (hr : Room j X.A) (hk : k ≤ j) (gd : X.A.guards = some []) (tk : L2N.Takes X G.W) (hb : ∀ f fd, FD X.K m qual st dvs kws f fd → BindM X.K S fd ps (n + 1) ks gT) : MethF X S G c m n ks gT fn := by
  obtain ⟨f, fd, C, M, F, FD'⟩ := D.ex
  exact ⟨⟨k, f, fd, ps, C, M, F, hr.mono hk, hb f fd FD'⟩, gd, tk⟩
theorem DR.rais (D : DR X.prog X.w X.K X.mg X.base S c x qual fl k ok ps st) (hr : Room j X.A) (hk : k + 1 ≤ j) (gd : X.A.guards = some []) (tk : L2N.Takes X G.W) (hb : ∀ f fd, FD X.K "__init__" qual st [] [] f fd → L2.Binds X.K fd ps []) : RaiseF X S G x c fl ok := by
  obtain ⟨fI, fd, F, hm, FD', iC, tI⟩ := D.ex
  exact ⟨⟨k, fI, fd, ps, F, hr.mono hk, hm, hb fI fd FD', D.two, iC, tI⟩, D.cls, D.no, gd, tk⟩
theorem DM.eq (D : DM X.prog X.w X.K X.mg X.base S c "__eq__" qual k ps fn st dvs kws) {cs : List Nat} (hr : Room j X.A) (hk : k + 1 ≤ j) (gd : X.A.guards = some []) (pl : PlainCs X.K S cs) (hc : c ∈ cs) (h2 : ps.length = 2) (hb : ∀ f fd, FD X.K "__eq__" qual st dvs kws f fd → L2.Binds X.K fd ps [])
    (he : ∀ f, Meth X.K (S.ι c) "__eq__" f → EqC X.K (S.ι c) f (cs.map S.ι)) : EqF X S cs c fn := by
  obtain ⟨f, fd, C, M, F, FD'⟩ := D.ex
  exact ⟨⟨k, f, fd, ps, F, hr.mono hk, hb f fd FD', h2, he f M⟩, gd, pl, hc⟩
/-! ### where one stands -/
theorem tk_blk {s : Shared} {H : Hp} {scope : Scope} {ce : Env} {fp : List Addr} : L2N.Takes (X.blk s H scope ce fp) G.blk.W := fun _ _ x => by
  obtain ⟨_, _, _, _, _, _, _, _, _, _, _, _, _, _, _, _, z⟩ := x
  exact z.elim
theorem room_repr (hr : Room j X.A) : X.A.units + 64 < cLine := by have := hr.un; omega
end
end MP
namespace MP
open PySem PySem.Spec PyProof.Rows L2 L2H
section
variable {X : Cx} {S : Sx} {G : Gx} {x : Str} {pos : Pos}
/-! ### constants of a module -/
theorem d_gk {t : T} {v : V} (h : ∃ u, X.mg x = some u ∧ L2.RelV v u) (r : ∀ ρ H, MP.RelV X.K S ρ H t v) (hg : Gl X x := by rfl) (hd : (x == ("__debug__" : Str)) = false := by decide) : PE X (.Name x pos) (tE X.K S G (eC t)) := by
  obtain ⟨u, hm, rv⟩ := h
  exact d_glob hg hm rv r hd
/-- the module's name x is a tuple of these -/
def GTup (K : PySem.W.Frag) (S : Sx) (mg : Str → Option Value) (x : Str) (l : List T) : Prop := ∃ (p : Addr) (xs : List V), mg x = some (.ref p) ∧ (∀ H, SqT K H p xs) ∧ ∀ ρ H, RelL K S ρ H l xs
theorem d_gt {l : List T} (h : GTup X.K S X.mg x l) (hg : Gl X x := by rfl) (hd : (x == ("__debug__" : Str)) = false := by decide) : PE X (.Name x pos) (tE X.K S G (eC (.tup l))) := by
  obtain ⟨p, xs, hm, hs, hr⟩ := h
  exact d_glob (v := .ref p) hg hm rfl (fun ρ H => .tup (hs H) (hr ρ H)) hd
/-! ### targets of comprehensions -/
theorem dP_v (i : Nat) (hN : X.N.Nodup) (hi : X.N[i]? = some x := by rfl) (hx : Loc X.env.scope x := by first | exact Or.inl rfl | exact Or.inr rfl) (hf : X.fn x = true ∨ X.env.scope.names.lookup x = some .local := by first | exact .inl rfl | exact .inr rfl) :
    PG X (.Name x pos) (tP X.K (.v i)) := pg_name hN hi hx hf
theorem dPs_nil : PGs X [] (gNames []) := pgs_nil
theorem dPs_cons {es : List Expr} {is : List Nat} (i : Nat) (hN : X.N.Nodup) (r : PGs X es (gNames is)) (hi : X.N[i]? = some x := by rfl) (hx : Loc X.env.scope x := by first | exact Or.inl rfl | exact Or.inr rfl) (hf : X.fn x = true ∨ X.env.scope.names.lookup x = some .local := by first | exact .inl rfl | exact .inr rfl)
    (hs : (assignEach (.Name x pos :: es) X.env).map (·.2) = assign (.Name x pos) X.env :: (assignEach es X.env).map (·.2) := by rfl) : PGs X (.Name x pos :: es) (gNames (i :: is)) := pgs_cons (pg_name hN hi hx hf) r hs
theorem dP_t {es : List Expr} {is : List Nat} {k : Nat} (hc : X.calm = true) (h : PGs X es (gNames is)) (hn : (assignEach es X.env).length = is.length := by rfl) (hst : (assignEach es X.env).findIdx? (·.1) = none := by rfl) : PG X (.Tuple es k pos) (tP X.K (.t is)) := pg_tup hc h hn hst
theorem dP_tH {es : List Expr} {is : List Nat} {k : Nat} (hc : HotC X) (h : PGs X es (gNames is)) (hn : (assignEach es X.env).length = is.length := by rfl) (hst : (assignEach es X.env).findIdx? (·.1) = none := by rfl) : PG X (.Tuple es k pos) (tP X.K (.t is)) := pg_tupH hc h hn hst
theorem free_nil : ∀ i ∈ ([] : List Nat), G.Free i := fun _ h => by cases h
theorem free_cons {a : Nat} {l : List Nat} (h : G.Free a) (t : ∀ i ∈ l, G.Free i) : ∀ i ∈ a :: l, G.Free i := fun i hi => by
  rcases List.mem_cons.mp hi with e | e
  · rw [e]; exact h
  · exact t i e
/-! ### suites -/
def onlyC (l : List Nat) (c : Nat) (m : MS) : MS := fun e A => if c ∈ l then m e A else .bad
theorem ds_only {l : List Nat} {c : Nat} {m : MS} {ss : List Stmt} (h : c ∈ l → PSs X ss (tS X.K S G m)) : PSs X ss (tS X.K S G (onlyC l c m)) := by
  by_cases hc : c ∈ l
  · have e : onlyC l c m = m := by funext e A; unfold onlyC; rw [if_pos hc]
    rw [e]; exact h hc
  · refine ⟨fun pins s σ H D I w => ?_⟩
    obtain ⟨ρ, A, e, _, _, _, w⟩ := w
    unfold onlyC at w
    rw [if_neg hc] at w
    exact w.elim
theorem hot_of {A : Around} {a : Addr} {oe : Obj} {cls : Value} {d : Option Addr} (hz : L2N.Zn cls d oe) (hv : ∃ vs, oe.data = .fields vs) : Hot1 (A.mark (some (.ref a))) (a, oe) := by
  obtain ⟨vs, e⟩ := hv
  exact ⟨rfl, vs, e, hz.2.2 vs e⟩
theorem tk_lam {A : Around} {outer : List Env} {s : Shared} {H : Hp} {E : XK} {scope : Scope} {f c' : Addr} : L2N.Takes (lamCxN X A outer s H E scope f c') (fun cls d _ H => E cls d H) := L2N.takes_of rfl rfl rfl rfl
end
end MP
namespace MP
open PySem PySem.Spec PyProof.Rows L2 L2H
/-! ### makers of lambdas -/
/-- a def that makes lambdas: its code object, its table -/
def MkL (K : PySem.W.Frag) (mg : Str → Option Value) (base : Heap) (S : Sx) (qual : Str) (fd : FuncData) : Prop :=
  ∃ c P, LamX.TabB base mg c P ∧ fd.code = .ref c ∧ (P, (qual ++ Str.ofString ".<locals>.") ++ "<lambda>") ∈ S.tb ∧ ∀ p ∈ S.tb, p.1 = P → p.2 = (qual ++ Str.ofString ".<locals>.") ++ "<lambda>"
theorem MkL.makes {K : PySem.W.Frag} {mg : Str → Option Value} {base : Heap} {S : Sx} {qual : Str} {fd : FuncData} {P : Program} {w : World} {N : List Str} {sc : Scope} {f : Addr} {cdv : Value} {A : Around} {outer : List Env} {s : Shared} {H : Hp} {E : XK} {CX : CXT} (h : MkL K mg base S qual fd) (hc : fd.code = cdv) :
    MakesL (cxOf CX P w K mg base N qual sc f cdv A outer s H E) S := by
  obtain ⟨c, p, h1, h2, h3, h4⟩ := h
  exact ⟨c, p, h1, hc.symm.trans h2, h3, h4⟩
theorem hasL_of {X : Cx} {S : Sx} {G : Gx} {k : Nat} {ρ0 : List Addr} {fl : Addr} {lam : Lam} (L : LamR X.prog X.w X.K X.mg X.base S k X.outer X.s_0 X.H_0 ρ0 fl lam) (J : ∀ ρ H σ, G.J ρ H σ → ρ0 <+: ρ ∧ Mono X.H_0 H ∧ σ[0]? = some (some (.ref fl)))
    (st : X.stack = X.env :: X.outer) (fr : X.env.frame = some X.env.locals) (ex : X.ex = []) : HasL X S G k ρ0 fl lam := ⟨L, J, st, fr, ex⟩
theorem HasL.tr {X : Cx} {S : Sx} {G : Gx} {k : Nat} {ρ0 : List Addr} {fl : Addr} {lam : Lam} {pn : List (Addr × Obj)} {xe : Value → Shared → Prop} {W : WX} (h : HasL X S G k ρ0 fl lam) : HasL (X.tr pn xe) S ⟨G.J, G.mono, W⟩ k ρ0 fl lam := ⟨h.L, h.J, h.st, h.fr, h.ex⟩
/-- the rule for a def, its code told -/
theorem d_defC {P : Program} {w : World} {K : PySem.W.Frag} {mg : Str → Option Value} {base : Heap} {S : Sx} {x qual : Str} {st : Stmt} {dvs : List V} {kws : List (Str × V)} {f : Addr} {fd : FuncData} {N ps : List Str} {k : Nat} {b : MS} (F : FD K x qual st dvs kws f fd) (sc : FnScope N ps (defScope st))
    (hbody : ∀ (cdv : Value) (A : Around) (outer : List Env) (s : Shared) (H : Hp) (E : XK), fd.code = cdv → Room k (A.deeper (envOfC qual (defScope st) s.heap.objs.size f cdv)) → A.guards = some [] →
      PSs (cxOf (L2N.CX P w) P w K mg base N qual (defScope st) f cdv A outer s H E) (defBody st) (tS K S (Gx.plain fun cls d _ H => E cls d H) b)) :
    FnG P w K mg base (k + 1) f fd ps (spM K S ps.length (fnOfBody N.length b)) := by
  obtain ⟨oc, od, dV, kV, doc, pm, an, cdv, ct, osl, rfl, lk, hcd, _, _⟩ := F.ex
  refine ⟨fun vs H Q E ⟨_, _, _, h, _⟩ => h, fun A outer s H args us vs Q E hr hg e0 hb r hsp => ?_⟩
  obtain ⟨ρ, A0, ts, hl, hH, hL, hp⟩ := hsp
  refine LamX.run_ofS lk hcd sc hr e0 hb r hl fun hr' => ⟨_, hbody cdv A outer s H E rfl hr' hg, ?_⟩
  refine ⟨ρ, A0, ts.map some ++ List.replicate (N.length - vs.length) none, hH, relS_start hL, trivial, ?_⟩
  have e : ts.length = vs.length := hL.length
  unfold fnOfBody at hp
  rw [e] at hp
  cases q : b (ts.map some ++ List.replicate (N.length - vs.length) none) A0 with
  | nx e1 A1 => rw [q] at hp; exact fun ρ' H' u1 u2 u3 σ' _ _ => hp ρ' H' u1 u2 u3 _ .non
  | ret v A1 => rw [q] at hp; exact hp
  | err e1 c fs A1 => rw [q] at hp; exact fun ρ' H' u1 u2 u3 σ' _ _ => hp ρ' H' u1 u2 u3
  | brk e1 A1 => rw [q] at hp; exact hp.elim
  | cnt e1 A1 => rw [q] at hp; exact hp.elim
  | bad => rw [q] at hp; exact hp.elim
end MP
end S18
section S19
set_option Elab.async false
set_option linter.all false
set_option maxRecDepth 100000
/-! MPs: the head's facts, looked at by Bools. -/
namespace MP
open PySem PySem.Spec PyProof.Rows L2 He

def plainB (K : PySem.W.Frag) (x : Str) : Bool := (Fa.cls x).ok K && (match PySem.W.clsIn K (ga K x) with
    | some cd => decide (cd.mro = [.ref (ga K x), .type "object"])
    | none => false) && decide (PySem.W.typeIn K (.ref (ga K x)) = some (.type "type")) && eqO (PySem.W.findIn K (.ref (ga K x)) "__class__") (some (some (.builtin "object.__class__"))) &&
  decide (PySem.W.specialIn K (.builtin "object.__class__") "__get__" = some (some (.builtin "getset_descriptor.__get__"))) && decide (PySem.W.takesIn K (.builtin "object.__class__") = some true)
theorem plainB_ok {K : PySem.W.Frag} {x : Str} (h : plainB K x = true) : PlainC K (ga K x) := by
  unfold plainB at h
  simp only [Bool.and_eq_true, decide_eq_true_eq] at h
  obtain ⟨⟨⟨⟨⟨h1, h2⟩, h3⟩, h4⟩, h5⟩, h6⟩ := h
  refine ⟨cls_ok h1, ?_, h3, eqO_ok h4, h5, h6⟩
  split at h2
  · rename_i cd e
    exact ⟨cd, e, of_decide_eq_true h2⟩
  · cases h2
def plainsB (K : PySem.W.Frag) (ι : Nat → Addr) (nm : Nat → Str) (cs : List Nat) : Bool := cs.all (fun i => plainB K (nm i) && decide (ι i = ga K (nm i))) && cs.all fun i => cs.all fun j => !(ι i == ι j) || decide (i = j)
theorem plainsB_ok {K : PySem.W.Frag} {S : Sx} {nm : Nat → Str} {cs : List Nat} (h : plainsB K S.ι nm cs = true) : PlainCs K S cs := by
  unfold plainsB at h
  obtain ⟨h1, h2⟩ := ba h
  refine ⟨fun i hi => ?_, fun i hi j hj e => ?_⟩
  · obtain ⟨a, b⟩ := ba (List.all_eq_true.mp h1 i hi)
    rw [of_decide_eq_true b]; exact plainB_ok a
  · have q := List.all_eq_true.mp (List.all_eq_true.mp h2 i hi) j hj
    rw [e] at q
    simpa using q
def oexB (K : PySem.W.Frag) (C : Addr) (f : Str) : Bool := (match K.lookup C with
  | some ⟨.type "type", _, .cls cd, sl⟩ => (match cd.mro, sl.toList with
    | .ref C' :: bm, [_, _, _, _, some (.builtin n), _] => C' == C && n == "ValueError.__new__" && !cd.hasDel && cd.hasDict && PySem.HandSPX.refsVE bm
    | _, _ => false)
  | _ => false) && eqO (PySem.W.findIn K (.ref C) "__setattr__") (some (some (.builtin "object.__setattr__"))) && decide (PySem.W.subIn K (.ref C) (.type "BaseException") = some true) && decide (PySem.W.typeIn K (.ref C) = some (.type "type")) && PySem.W.keepIn K (.ref C) && eqO (PySem.W.findIn K (.ref C) f) (some none)
theorem oexB_ok {K : PySem.W.Frag} {C : Addr} {f : Str} (h : oexB K C f = true) : OexC K C ∧ PySem.W.findIn K (.ref C) f = some none := by
  unfold oexB at h
  simp only [Bool.and_eq_true, decide_eq_true_eq] at h
  obtain ⟨⟨⟨⟨⟨h1, h2⟩, h3⟩, h4⟩, h5⟩, h6⟩ := h
  refine ⟨⟨?_, eqO_ok h2, h3, h4, h5⟩, eqO_ok h6⟩
  split at h1
  · rename_i dd cd sl ho
    split at h1
    · rename_i C' bm k0 k1 k2 k3 n k5 hm hs
      simp only [Bool.and_eq_true, beq_iff_eq, Bool.not_eq_true'] at h1
      obtain ⟨⟨⟨⟨rfl, rfl⟩, hdel⟩, hdict⟩, ht⟩ := h1
      obtain ⟨nm, bs, mro, ns, qn, hd, sn, sub, ab, col, del⟩ := cd
      dsimp only at hm hdel hdict
      subst hm hdel hdict
      have hsl : sl = #[k0, k1, k2, k3, some (.builtin "ValueError.__new__"), k5] := by
        obtain ⟨l⟩ := sl
        simp only at hs
        rw [hs]
      subst hsl
      exact ⟨nm, qn, ns, bs, bm, sn, sub, ab, col, dd, k0, k1, k2, k3, k5, ho, ht⟩
    · cases h1
  · cases h1
def excB (K : PySem.W.Frag) (D : Addr) : Bool := eqO (PySem.W.findIn K (.ref D) "__getattribute__") (some (some (.builtin "BaseException.__getattribute__"))) && eqO (PySem.W.findIn K (.ref D) "__getattr__") (some none) && decide (PySem.W.subIn K (.ref D) (.type "BaseException") = some true) &&
  PySem.W.hasDictIn K D && eqO (PySem.W.findIn K (.ref D) "__class__") (some (some (.builtin "object.__class__"))) && decide (PySem.W.specialIn K (.builtin "object.__class__") "__get__" = some (some (.builtin "getset_descriptor.__get__"))) &&
  decide (PySem.W.takesIn K (.builtin "object.__class__") = some true) && decide (PySem.W.mroIn K D (.type "object") = some true)
theorem excB_ok {K : PySem.W.Frag} {D : Addr} (h : excB K D = true) : ExcC K D := by
  unfold excB at h
  simp only [Bool.and_eq_true, decide_eq_true_eq] at h
  obtain ⟨⟨⟨⟨⟨⟨⟨h1, h2⟩, h3⟩, h4⟩, h5⟩, h6⟩, h7⟩, h8⟩ := h
  exact ⟨eqO_ok h1, eqO_ok h2, h3, h4, eqO_ok h5, h6, h7, h8⟩
/-- the exceptions' classes by their numbers, with the numbers of those above -/
def tabOfA (an : List (Nat × List Nat)) : Nat → Nat → Option Bool := fun c k => match an.lookup c with | some l => if (an.lookup k).isSome then some (l.contains k) else none | none => none
def exctB (K : PySem.W.Frag) (ι : Nat → Addr) (an : List (Nat × List Nat)) : Bool := an.all fun c => excB K (ι c.1) && an.all fun k => decide (PySem.W.kitOne K (.ref (ι c.1)) (.ref (ι k.1)) = some (c.2.contains k.1)) && decide (PySem.W.exmOne K (.ref (ι c.1)) (.ref (ι k.1)) = some (c.2.contains k.1))
theorem exctB_ok {K : PySem.W.Frag} {S : Sx} {an : List (Nat × List Nat)} (h : exctB K S.ι an = true) : ExcT K S (tabOfA an) := by
  have lm : ∀ {a : Nat} {l : List Nat} {xs : List (Nat × List Nat)}, xs.lookup a = some l → (a, l) ∈ xs := by
    intro a l xs
    induction xs with
    | nil => intro h; cases h
    | cons x xs ih =>
      intro h
      obtain ⟨b, m⟩ := x
      rw [List.lookup_cons] at h
      cases q : a == b with
      | true => rw [q] at h; cases h; rw [beq_iff_eq.mp q]; exact List.mem_cons_self ..
      | false => rw [q] at h; exact List.mem_cons_of_mem _ (ih h)
  refine ⟨fun c k b hb => ?_⟩
  unfold tabOfA at hb
  split at hb
  · rename_i l q
    split at hb
    · rename_i q2
      cases hb
      obtain ⟨l2, q2⟩ := Option.isSome_iff_exists.mp q2
      obtain ⟨h1, h2⟩ := ba (List.all_eq_true.mp h _ (lm q))
      obtain ⟨h3, h4⟩ := ba (List.all_eq_true.mp h2 _ (lm q2))
      exact ⟨excB_ok h1, of_decide_eq_true h3, of_decide_eq_true h4⟩
    · cases hb
  · cases hb
def xcB (K : PySem.W.Frag) (ι : Nat → Addr) (f : Str) (l : List Nat) : Bool := l.all fun c => excB K (ι c) && eqO (PySem.W.findIn K (.ref (ι c)) f) (some none)
theorem xcB_ok {K : PySem.W.Frag} {ι : Nat → Addr} {f : Str} {l : List Nat} (h : xcB K ι f l = true) : ∀ c ∈ l, ExcC K (ι c) ∧ PySem.W.findIn K (.ref (ι c)) f = some none := fun c hc => by
  obtain ⟨a, b⟩ := ba (List.all_eq_true.mp h c hc)
  exact ⟨excB_ok a, eqO_ok b⟩
def eqcB (K : PySem.W.Frag) (C : Addr) (cs : List Addr) : Bool := kinds.all (fun T => PySem.W.notFirst K C (.type T) && decide (PySem.W.subIn K (.ref C) (.type T) = some false)) && cs.all (fun D => PySem.W.notFirst K C (.ref D)) && eqO (PySem.W.findIn K (.ref C) "__ne__") (some (some (.builtin "object.__ne__"))) &&
  decide (PySem.W.subIn K (.ref C) (.type "object") = some true)
theorem eqcB_ok {K : PySem.W.Frag} {C : Addr} {cs : List Addr} (h : eqcB K C cs = true) : ∀ f, Meth K C "__eq__" f → EqC K C f cs := fun f M => by
  unfold eqcB at h
  simp only [Bool.and_eq_true, decide_eq_true_eq] at h
  obtain ⟨⟨⟨h1, h2⟩, h3⟩, h4⟩ := h
  exact ⟨M.at_, M.fn, fun T hT => (ba (List.all_eq_true.mp h1 T hT)).1, fun T hT => of_decide_eq_true (ba (List.all_eq_true.mp h1 T hT)).2, fun D hD => List.all_eq_true.mp h2 D hD, eqO_ok h3, h4⟩
def foundB (K : PySem.W.Frag) (C : Addr) (id : String) : Bool := match PySem.W.findCls K (.ref C) (.type "type") "__init__" with
  | some (.val (.builtin n)) => n == id
  | _ => false
def baseB (K : PySem.W.Frag) (C : Addr) : Bool := decide (PySem.W.specialIn K (.ref C) "__getattribute__" = some (some (.builtin "type.__getattribute__"))) && PySem.W.readsIn K C (.type "type") && foundB K C "ValueError.__init__"
theorem baseB_ok {K : PySem.W.Frag} {C : Addr} (h : baseB K C = true) : PySem.W.specialIn K (.ref C) "__getattribute__" = some (some (.builtin "type.__getattribute__")) ∧ PySem.W.readsIn K C (.type "type") = true ∧ PySem.W.findCls K (.ref C) (.type "type") "__init__" = some (.val (.builtin "ValueError.__init__")) := by
  unfold baseB foundB at h
  simp only [Bool.and_eq_true, decide_eq_true_eq] at h
  obtain ⟨⟨h1, h2⟩, h3⟩ := h
  refine ⟨h1, h2, ?_⟩
  split at h3
  · rename_i n e
    rw [e, beq_iff_eq.mp h3]
  · cases h3
def xinB (K : PySem.W.Frag) (x : Str) : Bool := eqO (PySem.W.findIn K (.ref (ga K x)) "__init__") (some (some (.ref (ma K (ga K x) "__init__")))) && decide (PySem.W.typeIn K (.ref (ma K (ga K x) "__init__")) = some (.type "function"))
theorem xinB_ok {K : PySem.W.Frag} {x : Str} (h : xinB K x = true) : PySem.W.findIn K (.ref (ga K x)) "__init__" = some (some (.ref (ma K (ga K x) "__init__"))) ∧ PySem.W.typeIn K (.ref (ma K (ga K x) "__init__")) = some (.type "function") := by
  obtain ⟨a, b⟩ := ba h
  exact ⟨eqO_ok a, of_decide_eq_true b⟩
/-- flat values of a tuple of the module's top -/
def dvT : Dv → T
  | .non => .non | .bl b => .bl b | .int i => .int i | .str x => .str x | .ty n => .ty n | _ => .non
def dvOk : Dv → Bool
  | .non => true | .bl _ => true | .int _ => true | .str _ => true | .ty _ => true | _ => false
theorem gtup_of {K : PySem.W.Frag} {S : Sx} {mg : Str → Option Value} {x : Str} {vs : List Dv} (hm : mg x = some (.ref (ga K x))) (h : tupB K x vs = true) (hv : vs.all dvOk = true) : GTup K S mg x (vs.map dvT) := by
  refine ⟨ga K x, _, hm, fun H => tupB_ok h H, fun ρ H => ?_⟩
  have key : ∀ l : List Dv, l.all dvOk = true → RelL K S ρ H (l.map dvT) (l.map (Dv.v K)) := by
    intro l
    induction l with
    | nil => intro _; exact .nil
    | cons d l ih =>
      intro hl
      obtain ⟨a, b⟩ := ba (show (dvOk d && l.all dvOk) = true from hl)
      refine .cons ?_ (ih b)
      cases d with
      | non => exact .non
      | bl => exact .bl _
      | int => exact .int _
      | str => exact .str _
      | ty => exact .ty _
      | _ => cases a
  exact key vs hv
/-! ### the tables of those who make lambdas -/
def lamQ (p : Defn) : Str := (p.1 ++ Str.ofString ".<locals>.") ++ "<lambda>"
def sxOf (nm : List Str) (tf : List Defn) (K : PySem.W.Frag) : Sx := ⟨fun i => ga K (nm.getD i Str.empty), tf.map fun p => ((cT K p).2, lamQ p), fun _ _ _ _ => False, fun _ _ _ _ _ _ h => h⟩
def tabsU (K : PySem.W.Frag) (tf : List Defn) : Bool := tf.all fun p => tf.all fun r => !((cT K p).2 == (cT K r).2) || decide (p = r)
theorem mkL_of {K : PySem.W.Frag} {mg : Str → Option Value} {base : Heap} {nm : List Str} {tf : List Defn} {x : Str} {st : Stmt} {dvs : List V} {kws : List (Str × V)} (hu : tabsU K tf = true) (hm : mg x = some (.ref (ga K x))) (hx : (x, none) ∈ tf) (TB : ∀ p ∈ tf.map (cT K), LamX.TabB base mg p.1 p.2) :
    ∀ f fd, mg x = some (.ref f) → FD K x x st dvs kws f fd → MkL K mg base (sxOf nm tf K) x fd := fun f fd hf F => by
  rw [hm] at hf
  cases hf
  obtain ⟨oc, od, dV, kV, doc, pm, an, cdv, ct, osl, rfl, lk, hcd, _, _⟩ := F.ex
  obtain ⟨c, rfl⟩ := codeIn_ref hcd
  have ec : codeOf K (x, none) = c := codeOf_eq lk rfl
  have tb := TB _ (List.mem_map.mpr ⟨_, hx, rfl⟩)
  refine ⟨c, (cT K (x, none)).2, ?_, rfl, List.mem_map.mpr ⟨_, hx, rfl⟩, fun p hp e => ?_⟩
  · have : (cT K (x, none)).1 = c := ec
    rw [← this]; exact tb
  · obtain ⟨r, hr, rfl⟩ := List.mem_map.mp hp
    have q := List.all_eq_true.mp (List.all_eq_true.mp hu r hr) _ hx
    have e' : (cT K r).2 = (cT K (x, none)).2 := e
    rw [e'] at q
    have e2 : r = (x, none) := by simpa using q
    rw [e2]; rfl
end MP
namespace MP
open PySem PySem.Spec PyProof.Rows L2 He
theorem ex_at {l : List (PySem.W.Frag → Bool)} {K : PySem.W.Frag} (h : (l.all fun f => f K) = true) (i : Nat) {f : PySem.W.Frag → Bool} (hi : l[i]? = some f) : f K = true := List.all_eq_true.mp h f (List.mem_of_getElem? hi)
theorem fd_uniq {K : PySem.W.Frag} {x qual x' qual' : Str} {p p' : Arguments} {b b' : List Stmt} {sc sc' : Scope} {dvs dvs' : List V} {kws kws' : List (Str × V)} {f : Addr} {fd fd' : FuncData} (F : FunD K x qual p b sc dvs kws f fd) (F' : FunD K x' qual' p' b' sc' dvs' kws' f fd') : fd = fd' := by
  obtain ⟨_, _, _, _, _, _, _, _, _, _, _, lk, _⟩ := F.ex
  obtain ⟨_, _, _, _, _, _, _, _, _, _, _, lk', _⟩ := F'.ex
  rw [lk] at lk'
  cases lk'
  rfl
end MP
namespace MP
open PySem PySem.Spec PyProof.Rows L2 He
/-! ### a Hook that looks at the statics, too -/
def asE (g : Addr → Option Obj) : Nat → List Addr
  | 0 => [mainGlobals, cStatics]
  | n + 1 => growD g (asE g n)
def kOf (n : Nat) (g : Addr → Option Obj) : PySem.W.Frag := frT g (asE g n)
def obsY (n : Nat) (fa : List Fa) (fn : List DefD) (tf : List Defn) (ex : PySem.W.Frag → Bool) (g : Addr → Option Obj) : AlX := (obsT fa fn [] (kOf n g), ex (kOf n g) && tabsB g tf (kOf n g))
theorem saysY_of {n : Nat} {fa : List Fa} {fn : List DefD} {tf : List Defn} {ex : PySem.W.Frag → Bool} {w : World} {h : Heap} (e : obsY n fa fn tf ex h.get? = valX fn [] w) : SaysX fa fn [] tf ex w h (kOf n h.get?) := by
  obtain ⟨e1, e2⟩ := Prod.mk.inj e
  obtain ⟨h1, h2⟩ := ba e2
  have key : ∀ p ∈ tf, PySem.W.codeHdIn (kOf n h.get?) (cT (kOf n h.get?) p).1 (cT (kOf n h.get?) p).2 = true ∧ ∃ o, h.get? (cT (kOf n h.get?) p).2 = some o ∧ emptyTab o = true := fun p hp => by
    obtain ⟨h3, h4⟩ := ba (List.all_eq_true.mp h2 p hp)
    refine ⟨h3, ?_⟩
    split at h4
    · rename_i o q; exact ⟨o, q, h4⟩
    · cases h4
  exact ⟨e1, h1, fun p hp => (key p hp).1, fun p hp => by
    obtain ⟨_, o, q, z⟩ := key p hp
    exact frT_none q z, fun p hp => by
    obtain ⟨_, o, q, z⟩ := key p hp
    rw [q, emptyTab_eq z]⟩
def hookY (n : Nat) (fa : List Fa) (fn : List DefD) (tf : List Defn) (ex : PySem.W.Frag → Bool) : PySem.W.Hook where
  α := AlX
  obs := fun s => obsY n fa fn tf ex s.heap.get?
  val := fun w => valX fn [] w
  says := fun w h => ∃ K : PySem.W.Frag, K.In h ∧ SaysX fa fn [] tf ex w h K
  of := fun _ _ e => ⟨_, frT_in, saysY_of e⟩
  keeps := fun _ _ _ ⟨K, hK, c⟩ k => ⟨K, PySem.W.Frag.In.keeps hK k, ⟨c.t, c.more, c.hd, c.out, fun p hp => k _ _ (c.empty p hp)⟩⟩
theorem obsY_eq {n : Nat} {fa : List Fa} {fn : List DefD} {tf : List Defn} {ex : PySem.W.Frag → Bool} {g : Addr → Option Obj} {s : Shared} (h : ∀ a, g a = s.heap.get? a) : obsY n fa fn tf ex g = (hookY n fa fn tf ex).obs s := by
  have e : g = s.heap.get? := funext h
  rw [e] <;> rfl
end MP
end S19
section S20
set_option Elab.async false
set_option linter.all false
set_option maxRecDepth 100000
/-! MFa: what a mirror does, by what is wished behind it. -/
namespace MP
open PySem PySem.Spec PyProof.Rows L2

def wE {α : Type} (r : R α) (Q : α → Hm → Prop) (X : Nat → Fs → Hm → Prop) : Prop := match r with
  | .ok a A => Q a A
  | .err c fs A => X c fs A
  | .bad => False
def noX : Nat → Fs → Hm → Prop := fun _ _ _ => False
/-- a statement's ends: on, returned, broken off, gone on, raised -/
structure En where
  n : Env' → Hm → Prop
  t : T → Hm → Prop
  b : Env' → Hm → Prop
  c : Env' → Hm → Prop
  x : Nat → Fs → Hm → Prop
def wS (r : RS) (E : En) : Prop := match r with
  | .nx e A => E.n e A
  | .ret v A => E.t v A
  | .brk e A => E.b e A
  | .cnt e A => E.c e A
  | .err _ c fs A => E.x c fs A
  | .bad => False
section
variable {α β : Type} {Q : α → Hm → Prop} {Q' : β → Hm → Prop} {X : Nat → Fs → Hm → Prop} {E : En} {e : Env'} {A : Hm}
theorem wE.mono {r : R α} {Q2 : α → Hm → Prop} {X2 : Nat → Fs → Hm → Prop} (h : wE r Q X) (hq : ∀ a A, Q a A → Q2 a A) (hx : ∀ c fs A, X c fs A → X2 c fs A) : wE r Q2 X2 := by
  cases r with
  | ok a A => exact hq _ _ h
  | err c fs A => exact hx _ _ _ h
  | bad => exact h
theorem wE.on {r : R α} {Q2 : α → Hm → Prop} (h : wE r Q noX) (hq : ∀ a A, Q a A → Q2 a A) : wE r Q2 X := h.mono hq fun _ _ _ z => z.elim
theorem wE.ok {r : R α} (h : wE r Q noX) : ∃ a A, r = .ok a A ∧ Q a A := by
  cases r with
  | ok a A => exact ⟨a, A, rfl, h⟩
  | err c fs A => exact h.elim
  | bad => exact h.elim
@[simp] theorem wE_ok {a : α} : wE (.ok a A) Q X = Q a A := rfl
@[simp] theorem wE_err {c : Nat} {fs : Fs} : wE (.err c fs A : R α) Q X = X c fs A := rfl
@[simp] theorem wE_bad : wE (.bad : R α) Q X = False := rfl
@[simp] theorem wE_bind {r : R β} {k : β → Hm → R α} : wE (r.bind k) Q X = wE r (fun b A => wE (k b A) Q X) X := by cases r <;> rfl
@[simp] theorem wE_mbind {m : Env' → Hm → R β} {k : β → Env' → Hm → R α} : wE (mbind m k e A) Q X = wE (m e A) (fun b A => wE (k b e A) Q X) X := wE_bind
theorem ite_and {p : Prop} [Decidable p] {a : Prop} : (if p then a else False) = (p ∧ a) := by by_cases h : p <;> simp [h]
theorem ite_andD {p : Prop} [Decidable p] {a : Prop} : (if decide p = true then a else False) = (p ∧ a) := by by_cases h : p <;> simp [h]
theorem wE_ite {p : Prop} [Decidable p] {r s : R α} : wE (if p then r else s) Q X = if p then wE r Q X else wE s Q X := by split <;> rfl
@[simp] theorem wS_nx {A : Hm} : wS (.nx e A) E = E.n e A := rfl
@[simp] theorem wS_ret {v : T} : wS (.ret v A) E = E.t v A := rfl
@[simp] theorem wS_brk : wS (.brk e A) E = E.b e A := rfl
@[simp] theorem wS_cnt : wS (.cnt e A) E = E.c e A := rfl
@[simp] theorem wS_err {c : Nat} {fs : Fs} : wS (.err e c fs A) E = E.x c fs A := rfl
@[simp] theorem wS_bad : wS .bad E = False := rfl
@[simp] theorem wS_bind {m : Env' → Hm → R β} {k : β → Env' → Hm → RS} : wS (sBind m k e A) E = wE (m e A) (fun b A => wS (k b e A) E) E.x := by
  unfold sBind; cases m e A <;> rfl
@[simp] theorem wS_seq {a b : MS} : wS (sSeq a b e A) E = wS (a e A) { E with n := fun e A => wS (b e A) E } := by
  unfold sSeq; cases a e A <;> rfl
@[simp] theorem wS_nop : wS (sNop e A) E = E.n e A := rfl
@[simp] theorem wS_br : wS (sBrk e A) E = E.b e A := rfl
@[simp] theorem wS_cn : wS (sCnt e A) E = E.c e A := rfl
@[simp] theorem wS_expr {m : ME} : wS (sExpr m e A) E = wE (m e A) (fun _ A => E.n e A) E.x := by unfold sExpr; simp
@[simp] theorem wS_sret {m : ME} : wS (sRet m e A) E = wE (m e A) E.t E.x := by unfold sRet; simp
@[simp] theorem wS_retN : wS (sRetN e A) E = E.t .non A := rfl
theorem wS_ite {p : Prop} [Decidable p] {r s : RS} : wS (if p then r else s) E = if p then wS r E else wS s E := by split <;> rfl
@[simp] theorem wS_if {t : MB} {a b : MS} : wS (sIf t a b e A) E = wE (t e A) (fun c A => if c = true then wS (a e A) E else wS (b e A) E) E.x := by
  unfold sIf; simp [wS_ite]
@[simp] theorem wS_asgV {m : ME} {i : Nat} : wS (sAsg m (gV i) e A) E = wE (m e A) (fun v A => E.n (e.set i (some v)) A) E.x := by
  unfold sAsg gV; simp
theorem wS_asg {m : ME} {g : MT} : wS (sAsg m g e A) E = wE (m e A) (fun v A => match g v e A with | .nx e' A' => E.n e' A' | _ => False) E.x := by
  unfold sAsg; simp only [wS_bind]
  congr 1; funext v A
  cases g v e A <;> rfl
@[simp] theorem wS_par {l : ML} {i j : Nat} : wS (sPar i j l e A) E = wE (l e A) (fun v A => match v with | [x, y] => E.n ((e.set i (some x)).set j (some y)) A | _ => False) E.x := by
  unfold sPar; simp only [wS_bind]
  congr 1; funext v A
  rcases v with _ | ⟨x, _ | ⟨y, _ | _⟩⟩ <;> rfl
def wPut (x y v : T) (A : Hm) (Q : Hm → Prop) : Prop := match x, y with
  | .ref n, .int k => match A[n]? with
    | some (.lst l) => match ixN l.length k with
      | some j => Q (A.set n (.lst (l.set j v)))
      | none => False
    | _ => False
  | _, _ => False
theorem put_ok {n k : Nat} {v : T} {l : List T} {Q : Hm → Prop} (h : A[n]? = some (.lst l)) (hk : k < l.length) : wPut (.ref n) (.int (k : Int)) v A Q = Q (A.set n (.lst (l.set k v))) := by
  simp [wPut, h, ixN, hk]
@[simp] theorem wS_asgSub {m mo mi : ME} : wS (sAsg m (gSubL mo mi) e A) E = wE (m e A) (fun v A => wE (mo e A) (fun x A1 => wE (mi e A1) (fun y A2 => wPut x y v A2 (fun B => E.n e B)) noX) noX) E.x := by
  rw [wS_asg]
  congr 1; funext v A
  unfold gSubL
  cases mo e A with
  | ok x A1 =>
    dsimp only [wE_ok]
    cases mi e A1 with
    | ok y A2 =>
      simp only [wE_ok]
      unfold wPut putL
      cases x with
      | ref n =>
        cases y with
        | int k =>
          dsimp only
          cases q : A2[n]? with
          | none => simp
          | some c =>
            cases c with
            | lst l =>
              dsimp only
              cases q2 : ixN l.length k <;> simp
            | _ => simp
        | _ => rfl
      | _ => rfl
    | err _ _ _ => rfl
    | bad => rfl
  | err _ _ _ => rfl
  | bad => rfl
@[simp] theorem gV_q {i : Nat} {t : T} : gV i t e A = .nx (e.set i (some t)) A := rfl
@[simp] theorem gTp_q {n : Nat} {u : MTs} {l : List T} : gTp n u (.tup l) e A = if l.length = n then u l e A else .bad := rfl
@[simp] theorem gC_q {t : MT} {u : MTs} {v : T} {r : List T} : gC t u (v :: r) e A = match t v e A with | .nx e1 A1 => u r e1 A1 | _ => .bad := rfl
@[simp] theorem gN_q : gN [] e A = .nx e A := rfl
/-- a def called -/
theorem wE_fn {n : Nat} {b : MS} {args : List T} {Q : T → Hm → Prop} : wE (fnOfBody n b args A) Q X = wS (b (args.map some ++ List.replicate (n - args.length) none) A) ⟨fun _ A => Q .non A, Q, fun _ _ => False, fun _ _ => False, X⟩ := by
  unfold fnOfBody
  cases b (args.map some ++ List.replicate (n - args.length) none) A <;> rfl
theorem wE_fnL {n : Nat} {b : Lam → MS} {lam : Lam} {args : List T} {Q : T → Hm → Prop} : wE (fnOfBodyL n b lam args A) Q X = wS (b lam (none :: args.map some ++ List.replicate (n - (args.length + 1)) none) A) ⟨fun _ A => Q .non A, Q, fun _ _ => False, fun _ _ => False, X⟩ := by
  unfold fnOfBodyL
  cases b lam (none :: args.map some ++ List.replicate (n - (args.length + 1)) none) A <;> rfl

/-! ### expressions -/
@[simp] theorem eC_q {t : T} : eC t e A = .ok t A := rfl
theorem eV_q {i : Nat} : eV i e A = match e[i]? with | some (some t) => .ok t A | _ => .bad := rfl
@[simp] theorem eV_c0 {x : Option T} : eV 0 (x :: e) A = match x with | some t => .ok t A | none => .bad := by cases x <;> rfl
@[simp] theorem eV_cs {x : Option T} {i : Nat} : eV (i + 1) (x :: e) A = eV i e A := rfl
@[simp] theorem wE_bin {f : T → T → Hm → R T} {a b : ME} {Q : T → Hm → Prop} : wE (eBin f a b e A) Q X = wE (a e A) (fun x A => wE (b e A) (fun y A => wE (f x y A) Q X) X) X := by unfold eBin; simp
@[simp] theorem isB_q {b : Bool} : isB (.bl b) e A = .ok b A := rfl
@[simp] theorem wE_chain {f g : T → T → Hm → R T} {a b c : ME} {Q : T → Hm → Prop} : wE (eChain f g a b c e A) Q X = wE (a e A) (fun x A => wE (b e A) (fun y A => wE (f x y A) (fun z A => match z with | .bl true => wE (c e A) (fun v A => wE (g y v A) Q X) X | .bl false => Q (.bl false) A | _ => False) X) X) X := by
  unfold eChain
  simp only [wE_mbind]
  congr 1; funext x A; congr 1; funext y A; congr 1; funext z A
  split <;> simp
@[simp] theorem wE_tru {m : ME} {Q : Bool → Hm → Prop} : wE (bTru m e A) Q X = wE (m e A) (fun t A => wE (truT t A) Q X) X := by unfold bTru; simp
@[simp] theorem tru_bl {b : Bool} : truT (.bl b) A = .ok b A := rfl
@[simp] theorem tru_non : truT .non A = .ok false A := rfl
@[simp] theorem tru_int {i : Int} : truT (.int i) A = .ok (i != 0) A := rfl
@[simp] theorem tru_tup {l : List T} : truT (.tup l) A = .ok (!l.isEmpty) A := rfl
@[simp] theorem wE_band {a b : MB} {Q : Bool → Hm → Prop} : wE (bAnd a b e A) Q X = wE (a e A) (fun c A => if c = true then wE (b e A) Q X else Q false A) X := by unfold bAnd; simp [wE_ite]
@[simp] theorem wE_bor {a b : MB} {Q : Bool → Hm → Prop} : wE (bOr a b e A) Q X = wE (a e A) (fun c A => if c = true then Q true A else wE (b e A) Q X) X := by unfold bOr; simp [wE_ite]
@[simp] theorem wE_bnot {a : MB} {Q : Bool → Hm → Prop} : wE (bNot a e A) Q X = wE (a e A) (fun c A => Q (!c) A) X := by unfold bNot; simp
@[simp] theorem wE_eand {a b : ME} {Q : T → Hm → Prop} : wE (eAnd a b e A) Q X = wE (a e A) (fun v A => match v with | .bl true => wE (b e A) Q X | .bl false => Q (.bl false) A | _ => False) X := by
  unfold eAnd; simp only [wE_mbind]; congr 1; funext v A; split <;> simp
@[simp] theorem wE_eor {a b : ME} {Q : T → Hm → Prop} : wE (eOr a b e A) Q X = wE (a e A) (fun v A => match v with | .bl false => wE (b e A) Q X | .bl true => Q (.bl true) A | _ => False) X := by
  unfold eOr; simp only [wE_mbind]; congr 1; funext v A; split <;> simp
@[simp] theorem wE_enot {a : ME} {Q : T → Hm → Prop} : wE (eNot a e A) Q X = wE (a e A) (fun v A => match v with | .bl c => Q (.bl (!c)) A | _ => False) X := by
  unfold eNot; simp only [wE_mbind]; congr 1; funext v A; split <;> simp
@[simp] theorem wE_eif {t : MB} {a b : ME} {Q : T → Hm → Prop} : wE (eIf t a b e A) Q X = wE (t e A) (fun c A => if c = true then wE (a e A) Q X else wE (b e A) Q X) X := by unfold eIf; simp [wE_ite]
@[simp] theorem aN_q : aN e A = .ok [] A := rfl
@[simp] theorem wE_aC {a : ME} {l : ML} {Q : List T → Hm → Prop} : wE (aC a l e A) Q X = wE (a e A) (fun v A => wE (l e A) (fun r A => Q (v :: r) A) X) X := by unfold aC; simp
@[simp] theorem wE_tup {l : ML} {Q : T → Hm → Prop} : wE (eTup l e A) Q X = wE (l e A) (fun l A => l.length ≤ sizeLine ∧ Q (.tup l) A) X := by
  unfold eTup; simp only [wE_mbind]; congr 1; funext l A; unfold mkTup; rw [wE_ite]; first | exact ite_and | exact ite_andD | (simp only [wE_ok, wE_bad, wE_mbind, ite_and, ite_andD])
@[simp] theorem wE_lst {l : ML} {Q : T → Hm → Prop} : wE (eLst l e A) Q X = wE (l e A) (fun l A => l.length ≤ sizeLine ∧ Q (.ref A.length) (A ++ [.lst l])) X := by
  unfold eLst; simp only [wE_mbind]; congr 1; funext l A; unfold mkLst; rw [wE_ite]; first | exact ite_and | exact ite_andD | (simp only [wE_ok, wE_bad, wE_mbind, ite_and, ite_andD])
@[simp] theorem wE_call {fn : Fn} {gT : List T → List T → List T} {l : ML} {Q : T → Hm → Prop} : wE (eCall fn gT l e A) Q X = wE (l e A) (fun vs A => wE (fn (gT vs []) A) Q X) X := by unfold eCall; simp
@[simp] theorem wE_callK {fn : Fn} {gT : List T → List T → List T} {l k : ML} {Q : T → Hm → Prop} : wE (eCallK fn gT l k e A) Q X = wE (l e A) (fun vs A => wE (k e A) (fun zs A => wE (fn (gT vs zs) A) Q X) X) X := by unfold eCallK; simp
@[simp] theorem wE_b {f : List T → Hm → R T} {l : ML} {Q : T → Hm → Prop} : wE (eB f l e A) Q X = wE (l e A) (fun vs A => wE (f vs A) Q X) X := by unfold eB; simp
@[simp] theorem wE_mk {c : Nat} {fn : Fn} {gT : List T → List T → List T} {vs zs : List T} {Q : T → Hm → Prop} : wE (mkIns c fn gT vs zs A) Q X = wE (fn (gT (.ref A.length :: vs) zs) (A ++ [.ins c []])) (fun v A' => v = .non ∧ Q (.ref A.length) A') X := by
  unfold mkIns
  cases fn (gT (.ref A.length :: vs) zs) (A ++ [.ins c []]) with
  | ok v A' => cases v <;> simp
  | err c fs A' => rfl
  | bad => rfl
@[simp] theorem wE_make {c : Nat} {fn : Fn} {gT : List T → List T → List T} {l : ML} {Q : T → Hm → Prop} : wE (eMake c fn gT l e A) Q X = wE (l e A) (fun vs A => wE (mkIns c fn gT vs [] A) Q X) X := by unfold eMake; simp
@[simp] theorem wE_makeK {c : Nat} {fn : Fn} {gT : List T → List T → List T} {l k : ML} {Q : T → Hm → Prop} : wE (eMakeK c fn gT l k e A) Q X = wE (l e A) (fun vs A => wE (k e A) (fun zs A => wE (mkIns c fn gT vs zs A) Q X) X) X := by unfold eMakeK; simp
@[simp] theorem wE_neg {a : ME} {Q : T → Hm → Prop} : wE (eNeg a e A) Q X = wE (a e A) (fun v A => wE (fNeg v A) Q X) X := by unfold eNeg; simp
@[simp] theorem wE_lam {fn : FnL} {mb : ME} {l : ML} {Q : T → Hm → Prop} : wE (eLam fn mb l e A) Q X = wE (l e A) (fun vs A => wE (fn (fun A => mb e A) vs A) Q X) X := by unfold eLam eCallL; simp
@[simp] theorem wE_callL {fn : FnL} {lam : Lam} {l : ML} {Q : T → Hm → Prop} : wE (eCallL fn lam l e A) Q X = wE (l e A) (fun vs A => wE (fn lam vs A) Q X) X := by unfold eCallL; simp
@[simp] theorem act_q {lam : Lam} : eAct lam e A = lam A := rfl
@[simp] theorem wE_bm {ty : String} {f : T → List T → Hm → R T} {o : ME} {l : ML} {Q : T → Hm → Prop} : wE (eBm ty f o l e A) Q X = wE (o e A) (fun x A => isKind ty x A = true ∧ wE (l e A) (fun vs A => wE (f x vs A) Q X) X) X := by
  unfold eBm; simp only [wE_mbind]; congr 1; funext x A; rw [wE_ite]; first | exact ite_and | exact ite_andD | (simp only [wE_ok, wE_bad, wE_mbind, ite_and, ite_andD])
@[simp] theorem wE_meth {c : Nat} {m : Str} {fn : Fn} {gT : List T → List T → List T} {mo : ME} {ml : ML} {Q : T → Hm → Prop} : wE (eMeth c m fn gT mo ml e A) Q X = wE (mo e A) (fun x A => isIns c m x A = true ∧ wE (ml e A) (fun vs A => wE (fn (gT (x :: vs) []) A) Q X) X) X := by
  unfold eMeth; simp only [wE_mbind]; congr 1; funext x A; rw [wE_ite]; first | exact ite_and | exact ite_andD | (simp only [wE_ok, wE_bad, wE_mbind, ite_and, ite_andD])
@[simp] theorem wE_fld {cs : List Nat} {f : Str} {m : ME} {Q : T → Hm → Prop} : wE (eFld cs f m e A) Q X = wE (m e A) (fun x A => wE (fFld cs f x A) Q X) X := by unfold eFld; simp
@[simp] theorem wE_oN {Q : Option Int → Hm → Prop} : wE (oN e A) Q X = Q none A := rfl
@[simp] theorem wE_oS {m : ME} {Q : Option Int → Hm → Prop} : wE (oS m e A) Q X = wE (m e A) (fun v A => match v with | .int i => Q (some i) A | _ => False) X := by
  unfold oS; simp only [wE_mbind]; congr 1; funext v A; split <;> simp
@[simp] theorem wE_sl {a : ME} {lo hi : MO} {Q : T → Hm → Prop} : wE (eSl a lo hi e A) Q X = wE (a e A) (fun x A => wE (lo e A) (fun l A => wE (hi e A) (fun h A => wE (fSl x l h A) Q X) X) X) X := by unfold eSl; simp
/-! ### operations of values -/
variable {i j : Int} {s z : Str} {l k : List T} {n m : Nat}
@[simp] theorem add_ii : fAdd (.int i) (.int j) A = .ok (.int (i + j)) A := rfl
@[simp] theorem add_tt {Q : T → Hm → Prop} : wE (fAdd (.tup l) (.tup k) A) Q X = (l.length + k.length ≤ sizeLine ∧ Q (.tup (l ++ k)) A) := by
  show wE (if l.length + k.length ≤ sizeLine then _ else _) Q X = _
  rw [wE_ite]; first | exact ite_and | exact ite_andD | (simp only [wE_ok, wE_bad, wE_mbind, ite_and, ite_andD])
@[simp] theorem sub_ii : fSub (.int i) (.int j) A = .ok (.int (i - j)) A := rfl
@[simp] theorem lt_ii : fLt (.int i) (.int j) A = .ok (.bl (decide (i < j))) A := rfl
@[simp] theorem le_ii : fLe (.int i) (.int j) A = .ok (.bl (decide (i ≤ j))) A := rfl
@[simp] theorem gt_ii : fGt (.int i) (.int j) A = .ok (.bl (decide (j < i))) A := rfl
@[simp] theorem ge_ii : fGe (.int i) (.int j) A = .ok (.bl (decide (j ≤ i))) A := rfl
@[simp] theorem mul_ii {Q : T → Hm → Prop} : wE (fMul (.int i) (.int j) A) Q X = (i.natAbs.log2 + j.natAbs.log2 < 1000000 ∧ Q (.int (i * j)) A) := by
  show wE (if i.natAbs.log2 + j.natAbs.log2 < 1000000 then _ else _) Q X = _
  rw [wE_ite]; first | exact ite_and | exact ite_andD | (simp only [wE_ok, wE_bad, wE_mbind, ite_and, ite_andD])
@[simp] theorem div_ii {Q : T → Hm → Prop} : wE (fDiv (.int i) (.int j) A) Q X = ((j ≠ 0 ∧ j.natAbs < 1073741824) ∧ Q (.int (i.fdiv j)) A) := by
  show wE (if decide (j ≠ 0 ∧ j.natAbs < 1073741824) = true then _ else _) Q X = _
  rw [wE_ite]; first | exact ite_and | exact ite_andD | (simp only [wE_ok, wE_bad, wE_mbind, ite_and, ite_andD])
@[simp] theorem mod_ii {Q : T → Hm → Prop} : wE (fMod (.int i) (.int j) A) Q X = (j ≠ 0 ∧ Q (.int (i.fmod j)) A) := by
  show wE (if decide (j ≠ 0) = true then _ else _) Q X = _
  rw [wE_ite]; first | exact ite_and | exact ite_andD | (simp only [wE_ok, wE_bad, wE_mbind, ite_and, ite_andD])
@[simp] theorem pow_ii {Q : T → Hm → Prop} : wE (fPow (.int i) (.int j) A) Q X = ((0 ≤ j ∧ j ≤ 1000000 ∧ i.natAbs < 2 ^ 64) ∧ Q (.int (i ^ j.toNat)) A) := by
  show wE (if decide (0 ≤ j ∧ j ≤ 1000000 ∧ i.natAbs < 2 ^ 64) = true then _ else _) Q X = _
  rw [wE_ite]; first | exact ite_and | exact ite_andD | (simp only [wE_ok, wE_bad, wE_mbind, ite_and, ite_andD])
@[simp] theorem neg_i : fNeg (.int i) A = .ok (.int (-i)) A := rfl
@[simp] theorem int_i : fInt [.int i] A = .ok (.int i) A := rfl
@[simp] theorem max_ii : fMax2 [.int i, .int j] A = .ok (.int (if j > i then j else i)) A := rfl
@[simp] theorem min_ii : fMin2 [.int i, .int j] A = .ok (.int (if j < i then j else i)) A := rfl
@[simp] theorem len_tup {l : List T} : fLen [.tup l] A = .ok (.int l.length) A := rfl
theorem len_lst {l : List T} (h : A[n]? = some (.lst l)) : fLen [.ref n] A = .ok (.int l.length) A := by simp [fLen, lenT, h]
theorem len_flst {l : List T} (h : A[n]? = some (.flst l)) : fLen [.ref n] A = .ok (.int l.length) A := by simp [fLen, lenT, h]
@[simp] theorem isN_q {t : T} : fIsN t .non A = .ok (.bl (isNon t)) A := rfl
@[simp] theorem notN_q {t : T} : fNotN t .non A = .ok (.bl (!isNon t)) A := rfl
theorem ix_lst {l : List T} {t : T} {k : Nat} (h : A[n]? = some (.lst l)) (hk : l[k]? = some t) : fIx (.ref n) (.int (k : Int)) A = .ok t A := by
  obtain ⟨hl, ht⟩ := List.getElem?_eq_some_iff.mp hk
  simp [fIx, lstOf, h, atT, ixN, hl, ht]
theorem ix_flst {l : List T} {t : T} {k : Nat} (h : A[n]? = some (.flst l)) (hk : l[k]? = some t) : fIx (.ref n) (.int (k : Int)) A = .ok t A := by
  obtain ⟨hl, ht⟩ := List.getElem?_eq_some_iff.mp hk
  simp [fIx, lstOf, h, atT, ixN, hl, ht]
theorem ix_tup {l : List T} {t : T} {k : Nat} (hk : l[k]? = some t) : fIx (.tup l) (.int (k : Int)) A = .ok t A := by
  obtain ⟨hl, ht⟩ := List.getElem?_eq_some_iff.mp hk
  simp [fIx, atT, ixN, hl, ht]
end
/-! ### the heap further on -/
/-- all but the cell j stands, new cells behind -/
def Fr (j : Nat) (A B : Hm) : Prop := A.length ≤ B.length ∧ ∀ i, i ≠ j → i < A.length → B[i]? = A[i]?
theorem Fr.refl {j : Nat} {A : Hm} : Fr j A A := ⟨Nat.le_refl _, fun _ _ _ => rfl⟩
theorem Fr.trans {j : Nat} {A B C : Hm} (a : Fr j A B) (b : Fr j B C) : Fr j A C := ⟨Nat.le_trans a.1 b.1, fun i h1 h2 => (b.2 i h1 (Nat.lt_of_lt_of_le h2 a.1)).trans (a.2 i h1 h2)⟩
theorem Fr.app {j : Nat} {A : Hm} {l : Hm} : Fr j A (A ++ l) := ⟨by simp, fun i _ h => List.getElem?_append_left h⟩
theorem Fr.set {j : Nat} {A : Hm} {c : C} : Fr j A (A.set j c) := ⟨by simp, fun i h _ => List.getElem?_set_ne (Ne.symm h)⟩
theorem Fr.at {j : Nat} {A B : Hm} (f : Fr j A B) {i : Nat} {c : C} (h : A[i]? = some c) (n : i ≠ j) : B[i]? = some c := (f.2 i n (List.getElem?_eq_some_iff.mp h).1).trans h
@[simp] theorem h_last {A : Hm} {c : C} : (A ++ [c])[A.length]? = some c := by simp
theorem h_old {A l : Hm} {k : Nat} {c : C} (h : A[k]? = some c) : (A ++ l)[k]? = some c := by rw [List.getElem?_append_left (List.getElem?_eq_some_iff.mp h).1]; exact h
end MP
end S20
section S21
set_option Elab.async false
set_option linter.all false
set_option maxRecDepth 100000
/-! MFb: loops and comprehensions by invariants, data, the heap that only grows. -/
namespace MP
open PySem PySem.Spec PyProof.Rows L2

/-! ### the heap that only grows -/
def Fa (A B : Hm) : Prop := A.length ≤ B.length ∧ ∀ i, i < A.length → B[i]? = A[i]?
theorem Fa.refl {A : Hm} : Fa A A := ⟨Nat.le_refl _, fun _ _ => rfl⟩
theorem Fa.trans {A B C : Hm} (a : Fa A B) (b : Fa B C) : Fa A C := ⟨Nat.le_trans a.1 b.1, fun i h => (b.2 i (Nat.lt_of_lt_of_le h a.1)).trans (a.2 i h)⟩
theorem Fa.app {A l : Hm} : Fa A (A ++ l) := ⟨by simp, fun i h => List.getElem?_append_left h⟩
theorem Fa.set {A B : Hm} {d : Nat} {c : C} (f : Fa A B) (h : A.length ≤ d) : Fa A (B.set d c) := ⟨by simpa using f.1, fun i hi => by rw [List.getElem?_set_ne (by omega)]; exact f.2 i hi⟩
theorem Fa.at {A B : Hm} (f : Fa A B) {i : Nat} {c : C} (h : A[i]? = some c) : B[i]? = some c := (f.2 i (List.getElem?_eq_some_iff.mp h).1).trans h
theorem Fa.fr {A B : Hm} (f : Fa A B) {j : Nat} : Fr j A B := ⟨f.1, fun i _ h => f.2 i h⟩
theorem Fr.setN {A B : Hm} {j d : Nat} {c : C} (f : Fr j A B) (h : A.length ≤ d) : Fr j A (B.set d c) := ⟨by simpa using f.1, fun i h1 hi => by rw [List.getElem?_set_ne (by omega)]; exact f.2 i h1 hi⟩
@[simp] theorem set_last {A : Hm} {c u : C} : (A ++ [c]).set A.length u = A ++ [u] := by simp [List.set_append]

/-! ### loops -/
theorem wS_forL {it : ItM} {g : MT} {b : MS} {E : En} {l : List T} (Inv : Nat → Env' → Hm → Prop) (hget : ∀ i e A, Inv i e A → it.get i A = some l[i]?)
    (step : ∀ i t e A, l[i]? = some t → Inv i e A → ∃ e1 A1, g t e A = .nx e1 A1 ∧ wS (b e1 A1) ⟨Inv (i + 1), E.t, E.n, Inv (i + 1), E.x⟩)
    (fin : ∀ e A, Inv l.length e A → E.n e A) : ∀ (k i : Nat) (e : Env') (A : Hm), i + k = l.length → Inv i e A → wS (forLoop it g b k i e A) E := by
  intro k
  induction k with
  | zero =>
    intro i e A h hi
    have : i = l.length := by omega
    subst this
    unfold forLoop
    rw [hget _ _ _ hi]
    simpa using fin e A hi
  | succ k ih =>
    intro i e A h hi
    unfold forLoop
    rw [hget _ _ _ hi]
    have hl : i < l.length := by omega
    rw [List.getElem?_eq_getElem hl]
    dsimp only
    obtain ⟨e1, A1, hg, hb⟩ := step i l[i] e A (List.getElem?_eq_getElem hl) hi
    rw [hg]
    dsimp only
    cases q : b e1 A1 with
    | nx e2 A2 => rw [q] at hb; exact ih _ _ _ (by omega) hb
    | cnt e2 A2 => rw [q] at hb; exact ih _ _ _ (by omega) hb
    | brk e2 A2 => rw [q] at hb; exact hb
    | ret v A2 => rw [q] at hb; exact hb
    | err e2 c fs A2 => rw [q] at hb; exact hb
    | bad => rw [q] at hb; exact hb
/-- a loop over the elements l -/
theorem wS_for {m : MI} {g : MT} {b : MS} {E : En} {e : Env'} {A : Hm} (l : List T) (Inv : Nat → Env' → Hm → Prop)
    (hm : wE (m e A) (fun it A => it.n = l.length ∧ Inv 0 e A ∧ ∀ i e A, Inv i e A → it.get i A = some l[i]?) E.x)
    (step : ∀ i t e A, l[i]? = some t → Inv i e A → ∃ e1 A1, g t e A = .nx e1 A1 ∧ wS (b e1 A1) ⟨Inv (i + 1), E.t, E.n, Inv (i + 1), E.x⟩)
    (fin : ∀ e A, Inv l.length e A → E.n e A) : wS (sFor m g b e A) E := by
  unfold sFor
  rw [wS_bind]
  refine hm.mono (fun it A ⟨h1, h2, h3⟩ => ?_) fun _ _ _ h => h
  exact wS_forL Inv h3 step fin _ _ _ _ (by omega) h2
@[simp] theorem wE_iRng1 {ml : ML} {e : Env'} {A : Hm} {Q : ItM → Hm → Prop} {X : Nat → Fs → Hm → Prop} : wE (iRng1 ml e A) Q X = wE (ml e A) (fun l A => match l with | [.int j] => (-(2 ^ 62) ≤ j ∧ j < 2 ^ 62) ∧ Q (itR 0 j.toNat) A | _ => False) X := by
  unfold iRng1; simp only [wE_mbind]; congr 1; funext l A; unfold iRng1K; split
  · rw [wE_ite]; simp only [wE_ok, wE_bad, ite_and]
  · simp
@[simp] theorem wE_iAny {m : ME} {e : Env'} {A : Hm} {Q : ItM → Hm → Prop} {X : Nat → Fs → Hm → Prop} : wE (iAny m e A) Q X = wE (m e A) (fun t A => wE (iAnyK t A) Q X) X := by
  unfold iAny; simp only [wE_mbind]
@[simp] theorem itS_t {l : List T} {A : Hm} : iAnyK (.tup l) A = .ok (itT l) A := rfl
@[simp] theorem itS_s {z : Str} {A : Hm} : iAnyK (.str z) A = .ok (itS z) A := rfl
theorem itS_r {r : Nat} {l : List T} {A : Hm} (h : A[r]? = some (.lst l)) : iAnyK (.ref r) A = .ok (itL r l.length) A := by simp [iAnyK, h]
/-- range(n) as a list -/
def rngT (n : Nat) : List T := (List.range n).map fun (i : Nat) => T.int (i : Int)
@[simp] theorem rngT_len {n : Nat} : (rngT n).length = n := by simp [rngT]
theorem rngT_get {n i : Nat} {t : T} (h : (rngT n)[i]? = some t) : t = .int (i : Int) ∧ i < n := by
  simp only [rngT, List.getElem?_map, Option.map_eq_some_iff] at h
  obtain ⟨k, hk, rfl⟩ := h
  rw [List.getElem?_eq_some_iff] at hk
  obtain ⟨hl, hk⟩ := hk
  simp at hl hk
  subst hk
  exact ⟨rfl, hl⟩
theorem itR_get {n i : Nat} {A : Hm} : (itR 0 n).get i A = some (rngT n)[i]? := by
  simp only [itR, rngT, List.getElem?_map]
  by_cases h : i < n
  · simp [h, List.getElem?_range h]
  · simp [h, List.getElem?_eq_none (l := List.range n) (i := i) (by simpa using h)]
/-- a text's letters -/
def lets (z : Str) : List T := z.cps.toList.map fun c => .str ⟨#[c]⟩
@[simp] theorem lets_len {z : Str} : (lets z).length = z.cps.size := by simp [lets]
theorem itS_get {z : Str} {i : Nat} {A : Hm} : (itS z).get i A = some (lets z)[i]? := by simp [itS, lets]
theorem itL_get {r i : Nat} {l : List T} {A : Hm} (h : A[r]? = some (.lst l)) : (itL r l.length).get i A = some l[i]? := by simp [itL, h]

/-! ### comprehensions -/
theorem wE_lcL {it : ItM} {p : Pt} {vs : List Nat} {tt : MB} {me : ME} {d : Nat} {l : List T} {e : Env'} {X : Nat → Fs → Hm → Prop} {Q : T → Hm → Prop} (Inv : Nat → List T → Hm → Prop)
    (hget : ∀ i acc A, Inv i acc A → it.get i A = some l[i]?)
    (step : ∀ i t acc A, l[i]? = some t → A[d]? = some (.lst acc) → Inv i acc A → ∃ e1, bindP p t (wipeE e vs) = some e1 ∧ wE (tt e1 A) (fun c A1 => if c = true then wE (me e1 A1) (fun v A2 => A2[d]? = some (.lst acc) ∧ acc.length < sizeLine ∧ Inv (i + 1) (acc ++ [v]) (A2.set d (.lst (acc ++ [v])))) noX else A1[d]? = some (.lst acc) ∧ Inv (i + 1) acc A1) noX)
    (fin : ∀ acc A, A[d]? = some (.lst acc) → Inv l.length acc A → Q (.ref d) A) : ∀ (k i : Nat) (acc : List T) (A : Hm), i + k = l.length → A[d]? = some (.lst acc) → Inv i acc A → wE (lcLoop it p vs tt me d k i e A) Q X := by
  intro k
  induction k with
  | zero =>
    intro i acc A h hd hi
    have : i = l.length := by omega
    subst this
    unfold lcLoop
    rw [hget _ _ _ hi]
    simpa using fin _ A hd hi
  | succ k ih =>
    intro i acc A h hd hi
    unfold lcLoop
    rw [hget _ _ _ hi]
    have hl : i < l.length := by omega
    rw [List.getElem?_eq_getElem hl]
    dsimp only
    obtain ⟨e1, hb, hw⟩ := step i l[i] acc A (List.getElem?_eq_getElem hl) hd hi
    rw [hb]
    dsimp only
    obtain ⟨c, A1, hc, hw⟩ := hw.ok
    rw [hc]
    cases c with
    | false =>
      simp only [Bool.false_eq_true, if_false] at hw
      exact ih _ _ _ (by omega) hw.1 hw.2
    | true =>
      simp only [if_true] at hw
      dsimp only
      obtain ⟨v, A2, hv, h1, h2, h3⟩ := hw.ok
      rw [hv]
      dsimp only
      rw [h1]
      dsimp only
      rw [if_pos h2]
      exact ih _ _ _ (by omega) (by unfold putL; rw [List.getElem?_set_self (List.getElem?_eq_some_iff.mp h1).1]) h3
theorem wE_lc {mi : MI} {p : Pt} {vs : List Nat} {tt : MB} {me : ME} {e : Env'} {A : Hm} {X : Nat → Fs → Hm → Prop} {Q : T → Hm → Prop} (l : List T) (Inv : Nat → Nat → List T → Hm → Prop)
    (hm : wE (mi e A) (fun it A => it.n = l.length ∧ Inv A.length 0 [] (A ++ [.lst []]) ∧ ∀ i acc B, Inv A.length i acc B → it.get i B = some l[i]?) X)
    (step : ∀ d i t acc A, l[i]? = some t → A[d]? = some (.lst acc) → Inv d i acc A → ∃ e1, bindP p t (wipeE e vs) = some e1 ∧ wE (tt e1 A) (fun c A1 => if c = true then wE (me e1 A1) (fun v A2 => A2[d]? = some (.lst acc) ∧ acc.length < sizeLine ∧ Inv d (i + 1) (acc ++ [v]) (A2.set d (.lst (acc ++ [v])))) noX else A1[d]? = some (.lst acc) ∧ Inv d (i + 1) acc A1) noX)
    (fin : ∀ d acc A, A[d]? = some (.lst acc) → Inv d l.length acc A → Q (.ref d) A) : wE (eLc mi p vs tt me e A) Q X := by
  unfold eLc
  rw [wE_mbind]
  refine hm.mono (fun it B ⟨h1, h2, h3⟩ => ?_) fun _ _ _ h => h
  exact wE_lcL (Inv B.length) h3 (step B.length) (fin B.length) _ _ _ _ (by omega) (by simp) h2
/-- nothing else is done: a filter and a map -/
theorem wE_lcB {mi : MI} {p : Pt} {vs : List Nat} {tt : MB} {me : ME} {e : Env'} {A : Hm} {X : Nat → Fs → Hm → Prop} {Q : T → Hm → Prop} (A0 : Hm) (l : List T) (f : T → Option T) (hlen : l.length ≤ sizeLine)
    (hm : wE (mi e A) (fun it B => B = A0 ∧ it.n = l.length ∧ ∀ i acc, it.get i (A0 ++ [.lst acc]) = some l[i]?) X)
    (step : ∀ t acc, t ∈ l → ∃ e1, bindP p t (wipeE e vs) = some e1 ∧ match f t with | some v => tt e1 (A0 ++ [.lst acc]) = .ok true (A0 ++ [.lst acc]) ∧ me e1 (A0 ++ [.lst acc]) = .ok v (A0 ++ [.lst acc]) | none => tt e1 (A0 ++ [.lst acc]) = .ok false (A0 ++ [.lst acc]))
    (fin : Q (.ref A0.length) (A0 ++ [.lst (l.filterMap f)])) : wE (eLc mi p vs tt me e A) Q X := by
  refine wE_lc l (fun d i acc B => d = A0.length ∧ B = A0 ++ [.lst acc] ∧ acc = (l.take i).filterMap f) ?_ ?_ ?_
  · refine hm.mono (fun it B ⟨h1, h2, h3⟩ => ?_) fun _ _ _ h => h
    subst h1
    refine ⟨h2, ⟨rfl, rfl, by simp⟩, fun i acc C ⟨_, h, _⟩ => by subst h; exact h3 _ _⟩
  · rintro d i t acc B hi hd ⟨rfl, rfl, hacc⟩
    obtain ⟨hl, ht⟩ := List.getElem?_eq_some_iff.mp hi
    obtain ⟨e1, hb, hs⟩ := step t acc (ht ▸ List.getElem_mem hl)
    have hlt : acc.length < sizeLine := by
      have h2 : ((l.take i).filterMap f).length ≤ (l.take i).length := List.length_filterMap_le _ _
      rw [← hacc] at h2
      simp at h2
      omega
    have ht2 : l.take (i + 1) = l.take i ++ [t] := by rw [List.take_succ, hi]; rfl
    refine ⟨e1, hb, ?_⟩
    cases q : f t with
    | some v =>
      rw [q] at hs
      rw [hs.1, wE_ok, if_pos rfl, hs.2, wE_ok]
      refine ⟨hd, hlt, rfl, by simp, ?_⟩
      rw [ht2, List.filterMap_append, ← hacc]; simp [q]
    | none =>
      rw [q] at hs
      rw [hs, wE_ok, if_neg (by simp)]
      refine ⟨hd, rfl, rfl, ?_⟩
      rw [ht2, List.filterMap_append, ← hacc]; simp [q]
  · rintro d acc B hd ⟨rfl, rfl, h⟩
    rw [List.take_length] at h
    rw [h]; exact fin

theorem wE_lcP {mi : MI} {p : Pt} {vs : List Nat} {tt : MB} {me : ME} {e : Env'} {A : Hm} {X : Nat → Fs → Hm → Prop} {Q : T → Hm → Prop} (l : List T) (f : T → Option T) (hlen : l.length ≤ sizeLine)
    (hm : wE (mi e A) (fun it B => B = A ∧ it.n = l.length ∧ ∀ i acc, it.get i (A ++ [.lst acc]) = some l[i]?) X)
    (step : ∀ t acc, t ∈ l → ∃ e1, bindP p t (wipeE e vs) = some e1 ∧ match f t with | some v => tt e1 (A ++ [.lst acc]) = .ok true (A ++ [.lst acc]) ∧ me e1 (A ++ [.lst acc]) = .ok v (A ++ [.lst acc]) | none => tt e1 (A ++ [.lst acc]) = .ok false (A ++ [.lst acc]))
    (fin : Q (.ref A.length) (A ++ [.lst (l.filterMap f)])) : wE (eLc mi p vs tt me e A) Q X := wE_lcB A l f hlen hm step fin

/-! ### data -/
structure Ok (j : Nat) (A : Hm) (x : T) (d : PyData) (n : Nat) : Prop where
  dt : ∀ B k, Fr j A B → dat (k + 8) B x = some d
  sh : d.showable = true
  lay : d.canLay0 = true
  dp : d.depth ≤ 6
  ln : d.shown.length ≤ n
  tx : PyData.strOk d.shown = true
  sz : ∀ s, x = .str s → s.length ≤ sizeLine
  ty : ∃ b, b ∈ kinds ∧ (b = "str" → ∃ s, x = .str s) ∧ (b = "bool" → ∃ c, x = .bl c) ∧ ∀ B, Fr j A B → tyT x B = some (.b b)
theorem Ok.fr {j n : Nat} {A B : Hm} {x : T} {d : PyData} (h : Ok j A x d n) (f : Fr j A B) : Ok j B x d n := ⟨fun C k g => h.dt C k (f.trans g), h.sh, h.lay, h.dp, h.ln, h.tx, h.sz, by
  obtain ⟨b, h1, h2, h3, h4⟩ := h.ty
  exact ⟨b, h1, h2, h3, fun C g => h4 C (f.trans g)⟩⟩
mutual
theorem eqv_refl : ∀ d : PyData, d.hasDict = false → PyData.eqv d d = true
  | .none, _ => by simp [PyData.eqv]
  | .bool _, _ => by simp [PyData.eqv]
  | .int _, _ => by simp [PyData.eqv]
  | .str _, _ => by simp [PyData.eqv]
  | .list ds, h => by
    simp only [PyData.eqv]; exact eqvAll_refl ds (by simpa only [PyData.hasDict] using h)
  | .tuple ds, h => by
    simp only [PyData.eqv]; exact eqvAll_refl ds (by simpa only [PyData.hasDict] using h)
  | .dict _, h => by simp [PyData.hasDict] at h
theorem eqvAll_refl : ∀ ds : List PyData, PyData.hasDictAll ds = false → PyData.eqvAll ds ds = true
  | [], _ => by simp [PyData.eqvAll]
  | d :: ds, h => by
    simp only [PyData.hasDictAll, Bool.or_eq_false_iff] at h
    simp only [PyData.eqvAll, Bool.and_eq_true]
    exact ⟨eqv_refl d h.1, eqvAll_refl ds h.2⟩
end
/-- texts compared -/
theorem eqD_ss {x y : Str} {A : Hm} (hx : PyData.strOk x = true) (hy : PyData.strOk y = true) : fEqD (.str x) (.str y) A = .ok (.bl (x == y)) A := by
  simp [fEqD, dat, SeqAt.shaped, PyData.canLay0, PyData.depth, PyData.eqv, hx, hy]
theorem neD_ss {x y : Str} {A : Hm} (hx : PyData.strOk x = true) (hy : PyData.strOk y = true) : fNeD (.str x) (.str y) A = .ok (.bl (!(x == y))) A := by
  simp [fNeD, dat, SeqAt.shaped, PyData.canLay0, PyData.depth, PyData.eqv, hx, hy]
@[simp] theorem eqD_ii {x y : Int} {A : Hm} : fEqD (.int x) (.int y) A = .ok (.bl (x == y)) A := by
  simp [fEqD, dat, SeqAt.shaped, PyData.canLay0, PyData.depth, PyData.eqv]
theorem dat_list {A : Hm} {n k : Nat} {l : List T} (h : A[n]? = some (.lst l)) : dat (k + 1) A (.ref n) = (optAll (dat k A) l).map .list := by simp [dat, lstOf, h]
theorem dat_tup {A : Hm} {k : Nat} {l : List T} : dat (k + 1) A (.tup l) = (optAll (dat k A) l).map .tuple := by simp [dat]
/-- a list of texts -/
def allStr (l : List T) : Bool := l.all fun t => match t with | .str s => PyData.strOk s | _ => false
theorem optAll_str {A : Hm} {k : Nat} : ∀ {l : List T}, allStr l = true → ∃ ds, optAll (dat (k + 1) A) l = some ds ∧ ds.length = l.length ∧ PyData.canLayAll0 ds = true ∧ PyData.depthAll ds = 0 ∧ PyData.hasDictAll ds = false ∧ PyData.showableAll ds = true
  | [], _ => ⟨[], rfl, rfl, by simp [PyData.canLayAll0], by simp [PyData.depthAll], by simp [PyData.hasDictAll], by simp [PyData.showableAll]⟩
  | t :: l, h => by
    simp only [allStr, List.all_cons, Bool.and_eq_true] at h
    obtain ⟨ds, h1, h2, h3, h4, h5, h6⟩ := optAll_str (A := A) (k := k) (l := l) h.2
    have e : ∀ s, dat (k + 1) A (.str s) = some (.str s) := fun _ => rfl
    cases t with
    | str s => exact ⟨.str s :: ds, by simp only [optAll, e, h1], by simp [h2], by simp only [PyData.canLayAll0, PyData.canLay0, h3, Bool.and_true]; exact h.1, by simp [PyData.depthAll, PyData.depth, h4], by simp [PyData.hasDictAll, PyData.hasDict, h5], by simp [PyData.showableAll, PyData.showable, h6]⟩
    | _ => simp at h
/-- a list of texts, is it empty? -/
theorem eqD_emp {A : Hm} {n m : Nat} {l : List T} (h : A[n]? = some (.lst l)) (hm : A[m]? = some (.lst [])) (hs : allStr l = true) : fEqD (.ref n) (.ref m) A = .ok (.bl l.isEmpty) A := by
  obtain ⟨ds, h1, h2, h3, h4, h5, h6⟩ := optAll_str (A := A) (k := 62) hs
  have e1 : dat 64 A (.ref n) = some (.list ds) := by rw [dat_list h, h1]; rfl
  have e2 : dat 64 A (.ref m) = some (.list []) := by rw [dat_list hm]; rfl
  have e3 : ds.isEmpty = l.isEmpty := by cases ds <;> cases l <;> simp_all
  simp only [fEqD, e1, e2, SeqAt.shaped, PyData.canLay0, PyData.depth, h3, h4, PyData.canLayAll0, PyData.depthAll, PyData.eqv]
  cases ds <;> cases l <;> simp_all [PyData.eqvAll]
theorem neD_emp {A : Hm} {n m : Nat} {l : List T} (h : A[n]? = some (.lst l)) (hm : A[m]? = some (.lst [])) (hs : allStr l = true) : fNeD (.ref n) (.ref m) A = .ok (.bl (!l.isEmpty)) A := by
  obtain ⟨ds, h1, h2, h3, h4, h5, h6⟩ := optAll_str (A := A) (k := 62) hs
  have e1 : dat 64 A (.ref n) = some (.list ds) := by rw [dat_list h, h1]; rfl
  have e2 : dat 64 A (.ref m) = some (.list []) := by rw [dat_list hm]; rfl
  simp only [fNeD, e1, e2, SeqAt.shaped, PyData.canLay0, PyData.depth, h3, h4, PyData.canLayAll0, PyData.depthAll, PyData.eqv]
  cases ds <;> cases l <;> simp_all [PyData.eqvAll]
/-! ### kinds -/
theorem isi_kind {A : Hm} {x : T} {b n : String} {cs : List Nat} (h : tyT x A = some (.b b)) (hb : b ∈ kinds) (hn : n ∈ kinds) : fIsi cs [x, .ty n] A = .ok (.bl (b == n || (b == "bool" && n == "int"))) A := by
  simp only [fIsi, isiT, h, isOne]
  by_cases q : b = n
  · simp [q]
  · simp [q, hb, hn]
theorem ix_lst0 {A : Hm} {n : Nat} {l : List T} {t : T} (h : A[n]? = some (.lst (t :: l))) : fIx (.ref n) (.int 0) A = .ok t A := ix_lst (k := 0) h rfl
@[simp] theorem ix_tup0 {A : Hm} {l : List T} {t : T} : fIx (.tup (t :: l)) (.int 0) A = .ok t A := ix_tup (k := 0) rfl
@[simp] theorem ix_tup1 {A : Hm} {l : List T} {t a : T} : fIx (.tup (a :: t :: l)) (.int 1) A = .ok t A := ix_tup (k := 1) rfl
@[simp] theorem ix_tup2 {A : Hm} {l : List T} {t a b : T} : fIx (.tup (a :: b :: t :: l)) (.int 2) A = .ok t A := ix_tup (k := 2) rfl
@[simp] theorem ix_tup3 {A : Hm} {l : List T} {t a b c : T} : fIx (.tup (a :: b :: c :: t :: l)) (.int 3) A = .ok t A := ix_tup (k := 3) rfl
@[simp] theorem ix_tup4 {A : Hm} {l : List T} {t a b c d : T} : fIx (.tup (a :: b :: c :: d :: t :: l)) (.int 4) A = .ok t A := ix_tup (k := 4) rfl
/-! ### own instances -/
theorem set_at {A : Hm} {r : Nat} {c u : C} (h : A[r]? = some c) : (A.set r u)[r]? = some u := List.getElem?_set_self (List.getElem?_eq_some_iff.mp h).1
def wSet (cs : List Nat) (f : Str) (x v : T) (A : Hm) (Q : Hm → Prop) : Prop := match fSetF cs f x v A with | some A' => Q A' | none => False
@[simp] theorem wS_setF {cs : List Nat} {f : Str} {mv mo : ME} {e : Env'} {A : Hm} {E : En} : wS (sSetF cs f mv mo e A) E = wE (mv e A) (fun v A => wE (mo e A) (fun x A => wSet cs f x v A fun B => E.n e B) E.x) E.x := by
  unfold sSetF; simp only [wS_bind]
  congr 1; funext v A; congr 1; funext x A
  unfold wSet; cases fSetF cs f x v A <;> rfl
theorem set_w {A A0 : Hm} {cs : List Nat} {f : Str} {q c : Nat} {v : T} {fs : Fs} {Q : Hm → Prop} (h : A[q]? = some (.ins c fs)) (hc : c ∈ cs) (hl : fs.length < 1000) (hr : A0.length ≤ q) (g : Fa A0 A) (hq : ∀ B, Fa A0 B → Fr q A B → B[q]? = some (.ins c (putT f v fs)) → Q B) : wSet cs f (.ref q) v A Q := by
  have : fSetF cs f (.ref q) v A = some (A.set q (.ins c (putT f v fs))) := by simp [fSetF, h, hc, hl]
  unfold wSet
  rw [this]
  exact hq _ (g.set hr) Fr.set (set_at h)
theorem fld_ok {A : Hm} {cs : List Nat} {f : Str} {q c : Nat} {t : T} {fs : Fs} (h : A[q]? = some (.ins c fs)) (hc : c ∈ cs) (hf : fs.lookup f = some t) : fFld cs f (.ref q) A = .ok t A := by simp [fFld, insOf, h, hc, hf]
theorem add_rr {A : Hm} {n m : Nat} {l k : List T} (h : A[n]? = some (.lst l)) (hm : A[m]? = some (.lst k)) (hs : l.length + k.length ≤ 1000) : fAdd (.ref n) (.ref m) A = .ok (.ref A.length) (A ++ [.lst (l ++ k)]) := by
  have : l.length + k.length ≤ sizeLine := Nat.le_trans hs (by decide)
  simp [fAdd, h, hm, this]
theorem ext_ok {A : Hm} {r m : Nat} {l k : List T} (h : A[r]? = some (.lst l)) (hm : A[m]? = some (.lst k)) (hs : l.length + k.length ≤ 1000) : fExtend (.ref r) [.ref m] A = .ok .non (A.set r (.lst (l ++ k))) := by
  have : l.length + k.length ≤ sizeLine := Nat.le_trans hs (by decide)
  simp [fExtend, h, hm, this, putL]
theorem app_ok {A : Hm} {r : Nat} {v : T} {l : List T} (h : A[r]? = some (.lst l)) (hs : l.length ≤ 1000) : fAppend (.ref r) [v] A = .ok .non (A.set r (.lst (l ++ [v]))) := by
  have : l.length < sizeLine := Nat.lt_of_le_of_lt hs (by decide)
  simp [fAppend, h, this, putL]
theorem kind_lst {A : Hm} {r : Nat} {l : List T} (h : A[r]? = some (.lst l)) : isKind "list" (.ref r) A = true := by simp [isKind, h]
theorem ext_w {A A0 : Hm} {r m : Nat} {l k : List T} {Q : T → Hm → Prop} {X : Nat → Fs → Hm → Prop} (h : A[r]? = some (.lst l)) (hm : A[m]? = some (.lst k)) (hs : l.length + k.length ≤ 1000) (hr : A0.length ≤ r) (f : Fa A0 A) (hq : ∀ B, Fa A0 B → Fr r A B → B[r]? = some (.lst (l ++ k)) → Q .non B) : wE (fExtend (.ref r) [.ref m] A) Q X := by
  rw [ext_ok h hm hs]
  exact hq _ (f.set hr) Fr.set (set_at h)
theorem app_w {A A0 : Hm} {r : Nat} {v : T} {l : List T} {Q : T → Hm → Prop} {X : Nat → Fs → Hm → Prop} (h : A[r]? = some (.lst l)) (hs : l.length ≤ 1000) (hr : A0.length ≤ r) (f : Fa A0 A) (hq : ∀ B, Fa A0 B → Fr r A B → B[r]? = some (.lst (l ++ [v])) → Q .non B) : wE (fAppend (.ref r) [v] A) Q X := by
  rw [app_ok h hs]
  exact hq _ (f.set hr) Fr.set (set_at h)
theorem all_bools : ∀ {l : List T} {f : T → Bool}, boolsOf (l.map fun t => .bl (f t)) = some (l.map f)
  | [], _ => rfl
  | t :: l, f => by simp [boolsOf, all_bools (l := l) (f := f)]
/-! ### try, exceptions caught -/
@[simp] theorem wS_tryR {tab : Nat → Nat → Option Bool} {m : ME} {hs : List Hd} {e : Env'} {A : Hm} {E : En} : wS (sTry tab (sRet m) hs e A) E = wE (m e A) E.t (fun c fs B => wS (handle tab hs e c fs B) E) := by
  unfold sTry sRet sBind
  cases m e A <;> rfl
theorem wS_hd {tab : Nat → Nat → Option Bool} {h : Hd} {hs : List Hd} {e : Env'} {A : Hm} {E : En} {c : Nat} {fs : Fs} (ha : anyC tab c h.cs = some true) (hw : wS (h.su c fs (match h.slot with | none => e | some i => e.set i none) A) ⟨fun _ _ => False, E.t, fun _ _ => False, fun _ _ => False, noX⟩) : wS (handle tab (h :: hs) e c fs A) E := by
  unfold handle
  rw [ha]
  dsimp only
  revert hw
  generalize h.su c fs _ A = r
  intro hw
  cases r with
  | ret v B => cases h.slot <;> exact hw
  | nx _ _ => exact hw.elim
  | brk _ _ => exact hw.elim
  | cnt _ _ => exact hw.elim
  | err _ _ _ _ => exact hw.elim
  | bad => exact hw.elim
theorem wS_hdN {tab : Nat → Nat → Option Bool} {h : Hd} {hs : List Hd} {e : Env'} {A : Hm} {E : En} {c : Nat} {fs : Fs} (ha : anyC tab c h.cs = some false) (hw : wS (handle tab hs e c fs A) E) : wS (handle tab (h :: hs) e c fs A) E := by
  unfold handle
  rw [ha]
  exact hw
@[simp] theorem wE_iLst {m : ME} {e : Env'} {A : Hm} {Q : ItM → Hm → Prop} {X : Nat → Fs → Hm → Prop} : wE (iLst m e A) Q X = wE (m e A) (fun t A => wE (iLstK t A) Q X) X := by
  unfold iLst; simp only [wE_mbind]
theorem itK_r {r : Nat} {l : List T} {A : Hm} (h : A[r]? = some (.lst l)) : iLstK (.ref r) A = .ok (itL r l.length) A := by simp [iLstK, h]
@[simp] theorem onlyC_q {l : List Nat} {c : Nat} {m : MS} {e : Env'} {A : Hm} (h : c ∈ l) : onlyC l c m e A = m e A := by simp [onlyC, h]
theorem eXi_q {tab : Nat → Nat → Option Bool} {c k : Nat} {b : Bool} {e : Env'} {A : Hm} (h : tab c k = some b) : eXi tab c k e A = .ok (.bl b) A := by simp [eXi, h]
theorem eXf_q {f : Str} {fs : Fs} {t : T} {e : Env'} {A : Hm} (h : fs.lookup f = some t) : eXf f fs e A = .ok t A := by simp [eXf, h]
@[simp] theorem wE_join {o a : ME} {e : Env'} {A : Hm} {Q : T → Hm → Prop} {X : Nat → Fs → Hm → Prop} : wE (eJoin o a e A) Q X = wE (o e A) (fun x A => wE (a e A) (fun y A => match x with | .str z => wE (fJoin z y A) Q X | _ => False) X) X := by
  unfold eJoin; simp only [wE_mbind]; congr 1; funext x A; congr 1; funext y A; split <;> simp
end MP
end S21
section S22
set_option Elab.async false
set_option linter.all false
set_option maxRecDepth 100000
/-! MFc: how long a repr is. -/
namespace MP
open PySem PySem.Spec PyProof.Rows L2

structure Sh (d : PyData) (k n : Nat) : Prop where
  sh : d.showable = true
  lay : d.canLay0 = true
  dp : d.depth ≤ k
  ln : d.shown.length ≤ n
  tx : PyData.strOk d.shown = true
theorem Sh.mono {d : PyData} {k n k' n' : Nat} (h : Sh d k n) (hk : k ≤ k') (hn : n ≤ n') : Sh d k' n' := ⟨h.sh, h.lay, Nat.le_trans h.dp hk, Nat.le_trans h.ln hn, h.tx⟩
theorem strOk_app {a b : Str} : PyData.strOk (a ++ b) = (PyData.strOk a && PyData.strOk b) := by
  unfold PyData.strOk; rw [Str.cps_append, Array.all_append]
theorem join_ok : ∀ {ts : List Str} {n : Nat}, (∀ t ∈ ts, t.length ≤ n ∧ PyData.strOk t = true) → (Str.join ", " ts).length ≤ ts.length * (n + 2) ∧ PyData.strOk (Str.join ", " ts) = true
  | [], n, _ => ⟨Nat.zero_le _, by decide +kernel⟩
  | [x], n, h => by
    have := h x (List.mem_singleton.mpr rfl)
    refine ⟨?_, this.2⟩
    show x.length ≤ 1 * (n + 2)
    omega
  | x :: y :: r, n, h => by
    have h1 := h x (List.mem_cons_self ..)
    have h2 := join_ok (ts := y :: r) (n := n) fun t ht => h t (List.mem_cons_of_mem _ ht)
    show (x ++ ", " ++ Str.join ", " (y :: r)).length ≤ (r.length + 1 + 1) * (n + 2) ∧ PyData.strOk (x ++ ", " ++ Str.join ", " (y :: r)) = true
    rw [strOk_app, strOk_app, Str.length_append, Str.length_append, h1.2, h2.2]
    have e : ((", " : String) : Str).length = 2 := rfl
    have e2 : PyData.strOk ((", " : String) : Str) = true := by decide +kernel
    rw [e, e2]
    refine ⟨?_, rfl⟩
    have h3 := h2.1
    simp only [List.length_cons] at h3
    have : (r.length + 1 + 1) * (n + 2) = (r.length + 1) * (n + 2) + (n + 2) := Nat.succ_mul ..
    omega
theorem from_ok : ∀ {ts : List Str} {n k : Nat} {acc : Str}, PyData.strOk acc = true → (∀ t ∈ ts, t.length ≤ n ∧ PyData.strOk t = true) → (textFrom k acc ts).length ≤ acc.length + ts.length * (n + 2) ∧ PyData.strOk (textFrom k acc ts) = true
  | [], n, k, acc, ha, _ => ⟨by simp [textFrom], ha⟩
  | x :: r, n, k, acc, ha, h => by
    have h1 := h x (List.mem_cons_self ..)
    have e : PyData.strOk (acc ++ (if k > 0 then ", " else "" : String) ++ x) = true := by
      rw [strOk_app, strOk_app, ha, h1.2]
      split <;> decide +kernel
    have h2 := from_ok (ts := r) (n := n) (k := k + 1) e fun t ht => h t (List.mem_cons_of_mem _ ht)
    refine ⟨?_, h2.2⟩
    have h3 := h2.1
    rw [Str.length_append, Str.length_append] at h3
    have e2 : ((if k > 0 then ", " else "" : String) : Str).length ≤ 2 := by split <;> decide +kernel
    show (textFrom (k + 1) _ r).length ≤ _
    simp only [List.length_cons]
    have : (r.length + 1) * (n + 2) = r.length * (n + 2) + (n + 2) := Nat.succ_mul ..
    omega
theorem shAll {ds : List PyData} {k n : Nat} (h : ∀ d ∈ ds, Sh d k n) : PyData.showableAll ds = true ∧ PyData.canLayAll0 ds = true ∧ PyData.depthAll ds ≤ k ∧ (PyData.shownAll ds).length = ds.length ∧ ∀ t ∈ PyData.shownAll ds, t.length ≤ n ∧ PyData.strOk t = true := by
  induction ds with
  | nil => simp [PyData.showableAll, PyData.canLayAll0, PyData.depthAll, PyData.shownAll]
  | cons d ds ih =>
    obtain ⟨h1, h2, h3, h4, h5⟩ := ih fun e he => h e (List.mem_cons_of_mem _ he)
    have hd := h d (List.mem_cons_self ..)
    refine ⟨by simp [PyData.showableAll, hd.sh, h1], by simp [PyData.canLayAll0, hd.lay, h2], by simp only [PyData.depthAll]; exact Nat.max_le.mpr ⟨hd.dp, h3⟩, by simp [PyData.shownAll, h4], fun t ht => ?_⟩
    simp only [PyData.shownAll, List.mem_cons] at ht
    rcases ht with rfl | ht
    · exact ⟨hd.ln, hd.tx⟩
    · exact h5 t ht
theorem Sh.tup {ds : List PyData} {k n : Nat} (h : ∀ d ∈ ds, Sh d k n) : Sh (.tuple ds) (k + 1) (ds.length * (n + 2) + 3) := by
  obtain ⟨h1, h2, h3, h4, h5⟩ := shAll h
  obtain ⟨j1, j2⟩ := join_ok h5
  rw [h4] at j1
  have e : PyData.shown (.tuple ds) = tupleText (PyData.shownAll ds) := by simp only [PyData.shown]
  refine ⟨by simpa only [PyData.showable] using h1, by simpa only [PyData.canLay0] using h2, by simp only [PyData.depth]; omega, ?_, ?_⟩
  · rw [e]; unfold tupleText
    rw [Str.length_append, Str.length_append]
    have e1 : ((("(" : String) : Str)).length = 1 := rfl
    have e3 : (((if (PyData.shownAll ds).length == 1 then ",)" else ")" : String) : Str)).length ≤ 2 := by split <;> decide +kernel
    omega
  · rw [e]; unfold tupleText
    rw [strOk_app, strOk_app, j2]
    split <;> decide +kernel
theorem Sh.lst {ds : List PyData} {k n : Nat} (h : ∀ d ∈ ds, Sh d k n) : Sh (.list ds) (k + 1) (ds.length * (n + 2) + 3) := by
  obtain ⟨h1, h2, h3, h4, h5⟩ := shAll h
  have j := from_ok (k := 0) (acc := ("[" : Str)) (by decide +kernel) h5
  rw [h4] at j
  have e : PyData.shown (.list ds) = listText (PyData.shownAll ds) := by simp only [PyData.shown]
  have e1 : ((("[" : String) : Str)).length = 1 := rfl
  refine ⟨by simpa only [PyData.showable] using h1, by simpa only [PyData.canLay0] using h2, by simp only [PyData.depth]; omega, ?_, ?_⟩
  · rw [e]; unfold listText
    rw [Str.length_append]
    have e3 : ((("]" : String) : Str)).length = 1 := rfl
    omega
  · rw [e]; unfold listText
    rw [strOk_app, j.2]; decide +kernel
theorem Ok.shw {j n : Nat} {A : Hm} {x : T} {d : PyData} (h : Ok j A x d n) : Sh d 6 n := ⟨h.sh, h.lay, h.dp, h.ln, h.tx⟩
theorem repr_ok {x : T} {d : PyData} {C : Hm} {k n : Nat} (hr : isRef x = true) (hd : dat 64 C x = some d) (h : Sh d k n) (hk : k ≤ 60) (hn : n ≤ sizeLine) : fReprR [x] C = .ok (.str d.shown) C := by
  have : reprOk d = true := by
    unfold reprOk
    simp only [h.sh, Bool.true_and, Bool.and_eq_true, decide_eq_true_eq]
    exact ⟨Nat.le_trans h.dp hk, Nat.le_trans h.ln hn⟩
  simp [fReprR, hr, hd, this]
/-! ### values that a law keeps in its menus -/
def flatD : T → PyData
  | .non => .none | .bl b => .bool b | .int i => .int i | .str s => .str s
  | _ => .none
def flatG (x : T) : Bool := flatT x && (flatD x).showable && (flatD x).canLay0 && decide ((flatD x).shown.length ≤ 20) && PyData.strOk (flatD x).shown && (match x with | .str s => decide (s.length ≤ 100) | _ => true)
theorem flatG_sh {x : T} (h : flatG x = true) : Sh (flatD x) 0 20 := by
  simp only [flatG, Bool.and_eq_true, decide_eq_true_eq] at h
  obtain ⟨⟨⟨⟨⟨h1, h2⟩, h3⟩, h4⟩, h5⟩, h6⟩ := h
  refine ⟨h2, h3, ?_, h4, h5⟩
  cases x <;> first | (simp [flatD, PyData.depth]; done) | cases h1
theorem flat_dat {x : T} (h : flatG x = true) {k : Nat} {A : Hm} : dat (k + 1) A x = some (flatD x) := by
  simp only [flatG, Bool.and_eq_true, decide_eq_true_eq] at h
  cases x <;> first | rfl | cases h.1.1.1.1.1
theorem ok_flat {j : Nat} {A : Hm} {x : T} (h : flatG x = true) : Ok j A x (flatD x) 100 := by
  have s := (flatG_sh h).mono (Nat.zero_le 6) (by decide : 20 ≤ 100)
  refine ⟨fun B k _ => flat_dat (k := k + 7) h, s.sh, s.lay, s.dp, s.ln, s.tx, ?_, ?_⟩
  · rintro z rfl
    simp only [flatG, Bool.and_eq_true, decide_eq_true_eq] at h
    exact Nat.le_trans h.2 (by decide)
  · simp only [flatG, Bool.and_eq_true, decide_eq_true_eq] at h
    cases x with
    | non => exact ⟨"NoneType", by decide, by simp, by simp, fun _ _ => rfl⟩
    | bl b => exact ⟨"bool", by decide, by simp, fun _ => ⟨_, rfl⟩, fun _ _ => rfl⟩
    | int i => exact ⟨"int", by decide, by simp, by simp, fun _ _ => rfl⟩
    | str z => exact ⟨"str", by decide, fun _ => ⟨_, rfl⟩, by simp, fun _ _ => rfl⟩
    | _ => cases h.1.1.1.1.1
theorem optAll_flat {A : Hm} {k : Nat} : ∀ {l : List T}, l.all flatG = true → optAll (dat (k + 1) A) l = some (l.map flatD)
  | [], _ => rfl
  | x :: l, h => by
    simp only [List.all_cons, Bool.and_eq_true] at h
    simp only [optAll, flat_dat h.1, optAll_flat h.2, List.map_cons]
theorem flats_sh {l : List T} (h : l.all flatG = true) : ∀ d ∈ l.map flatD, Sh d 0 20 := by
  intro d hd
  rw [List.mem_map] at hd
  obtain ⟨x, hx, rfl⟩ := hd
  exact flatG_sh (List.all_eq_true.mp h x hx)
theorem ok_tupF {j : Nat} {A : Hm} {l : List T} (h : l.all flatG = true) (hl : l.length ≤ 4) : Ok j A (.tup l) (.tuple (l.map flatD)) 100 := by
  have s := Sh.tup (flats_sh h)
  rw [List.length_map] at s
  replace s := s.mono (by decide : 0 + 1 ≤ 6) (by omega : l.length * (20 + 2) + 3 ≤ 100)
  refine ⟨fun B k _ => ?_, s.sh, s.lay, s.dp, s.ln, s.tx, by rintro _ ⟨⟩, ⟨"tuple", by decide, by simp, by simp, fun _ _ => rfl⟩⟩
  rw [dat_tup, optAll_flat h]; rfl
theorem ok_lstF {j n : Nat} {A : Hm} {l : List T} (hn : A[n]? = some (.lst l)) (hj : n ≠ j) (h : l.all flatG = true) (hl : l.length ≤ 4) : Ok j A (.ref n) (.list (l.map flatD)) 100 := by
  have s := Sh.lst (flats_sh h)
  rw [List.length_map] at s
  replace s := s.mono (by decide : 0 + 1 ≤ 6) (by omega : l.length * (20 + 2) + 3 ≤ 100)
  refine ⟨fun B k f => ?_, s.sh, s.lay, s.dp, s.ln, s.tx, by rintro _ ⟨⟩, ⟨"list", by decide, by simp, by simp, fun B f => ?_⟩⟩
  · rw [dat_list (f.at hn hj), optAll_flat h]; rfl
  · simp [tyT, f.at hn hj]
end MP
end S22
section S23
set_option Elab.async false
set_option linter.all false
set_option maxRecDepth 100000
set_option maxHeartbeats 2000000
namespace K04
open PySem PySem.Spec PyProof.Rows L2 MP
/-! ### the text -/
def top (i : Nat) : Stmt := PySem.Challenge.pw_hiddenhands_k04_wakings_refused_and_told.main.body.getD i (.Pass ⟨0, 0, 0, 0⟩)
def clsBody : Stmt → List Stmt
  | .ClassDef _ _ _ b _ _ _ _ _ _ _ => b
  | _ => []
def inC (i j : Nat) : Stmt := (clsBody (top i)).getD j (.Pass ⟨0, 0, 0, 0⟩)
def ancs : List (Nat × List Nat) := [(0, [0]), (1, [1, 0]), (2, [2, 0]), (3, [3, 0]), (4, [4, 0]), (5, [5, 0]), (6, [6, 0]), (7, [7, 0]), (8, [8])]
def tab : Nat → Nat → Option Bool := tabOfA ancs
abbrev s_law_pool : Stmt := (top 17)
abbrev s_law_take : Stmt := (top 18)
abbrev s_law_one : Stmt := (top 19)
abbrev s_law_drawn : Stmt := (top 26)
abbrev s_law_hp_is_word : Stmt := (top 20)
abbrev s_law_hp_waking_due : Stmt := (top 21)
abbrev s_law_hx_heard : Stmt := (top 24)
abbrev s_law_hx_says : Stmt := (top 25)
abbrev s_law_hx_waking_told : Stmt := (top 23)
abbrev s_is_one_of : Stmt := (top 14)
abbrev s_is_word : Stmt := (top 13)
abbrev s_BadWaking_init : Stmt := (inC 3 0)
abbrev s_Waking_init : Stmt := (inC 15 0)
abbrev s_law_hx_waking : Stmt := (top 22)
abbrev s_law_right : Stmt := (top 28)
abbrev s_law_odd : Stmt := (top 27)
abbrev s_law_bent_right : Stmt := (top 30)
abbrev s_law_others : Stmt := (top 31)
abbrev s_Waking_row : Stmt := (inC 15 1)
abbrev s_Waking_eq : Stmt := (inC 15 2)
abbrev s_law_equal : Stmt := (top 29)
abbrev s_law_equal_right : Stmt := (top 32)
abbrev s_law_turned_right : Stmt := (top 33)
abbrev s_law : Stmt := (top 34)
def ok_BadWaking : Option Str → Bool := (joinable (some "a waking cannot have such a part: " :: (none :: [])) Str.empty)
def g_b_Waking_init_4_by_may {α : Type} (vs mz zs : List α) : List α := ((vs.drop 0).take 1) ++ ((vs.drop 1).take 1) ++ ((vs.drop 2).take 1) ++ ((vs.drop 3).take 1) ++ ((zs.drop 0).take 1) ++ ((zs.drop 1).take 1)
def gT_b_Waking_init_4_by_may : List T → List T → List T := fun vs zs => g_b_Waking_init_4_by_may vs [] zs
def g_b_Waking_init_4 {α : Type} (vs mz zs : List α) : List α := ((vs.drop 0).take 1) ++ ((vs.drop 1).take 1) ++ ((vs.drop 2).take 1) ++ ((vs.drop 3).take 1) ++ ((mz.drop 0).take 1) ++ ((mz.drop 1).take 1)
def gT_b_Waking_init_4 : List T → List T → List T := fun vs zs => g_b_Waking_init_4 vs [(.str "own"), (.bl false)] zs
def g_b_Waking_init_1_call_deed_event_may {α : Type} (vs mz zs : List α) : List α := ((vs.drop 0).take 1) ++ ((zs.drop 2).take 1) ++ ((zs.drop 1).take 1) ++ ((zs.drop 0).take 1) ++ ((mz.drop 0).take 1) ++ ((zs.drop 3).take 1)
def gT_b_Waking_init_1_call_deed_event_may : List T → List T → List T := fun vs zs => g_b_Waking_init_1_call_deed_event_may vs [(.str "own")] zs
/-! ### mirrors -/
def m_law_pool : MS := (sSeq (sAsg (eTup (aC (eC (.int 0)) (aC (eC (.int 7)) aN))) (gTp 2 (gC (gV 1) (gC (gV 2) gN))))
  (sSeq (sFor (MP.iRng1 (aC (eB fLen (aC (eV 0) aN)) aN)) (gV 3)
  (sSeq (sAsg (eB fInt (aC (eB fMax2 (aC (eBin fIx (eV 0) (eV 3)) (aC (eBin fSub (eNeg (eC (.int 1))) (eBin fIx (eV 0) (eV 3))) aN))) aN)) (gV 4))
  (sSeq (sAsg (eBin fMod (eB fInt (aC (eBin fAdd (eBin fAdd (eBin fMul (eV 2) (eC (.int 48271))) (eBin fMod (eV 4) (eC (.int 2147483629)))) (eC (.int 11))) aN)) (eC (.int 2147483647))) (gV 2))
  (sAsg (eIf (bAnd (mbind (eBin fGe (eV 4) (eBin fPow (eC (.int 10)) (eC (.int 12)))) isB) (mbind (eBin fLt (eV 1) (eBin fPow (eC (.int 10)) (eC (.int 60)))) isB)) (eB fInt (aC (eBin fAdd (eBin fMul (eV 1) (eBin fPow (eC (.int 10)) (eC (.int 60)))) (eBin fMod (eV 4) (eBin fPow (eC (.int 10)) (eC (.int 60))))) aN)) (eV 1)) (gV 1)))))
  (sRet (eLst (aC (eV 1) (aC (eV 2) (aC (eC (.int 0)) aN)))))))
def f_law_pool : Fn := fnOfBody 5 m_law_pool
def m_law_take : MS := (sSeq (sIf (mbind (eBin fGt (eBin fIx (eV 0) (eC (.int 0))) (eC (.int 0))) isB)
  (sSeq (sAsg (eBin fMod (eB fInt (aC (eBin fIx (eV 0) (eC (.int 0))) aN)) (eV 1)) (gV 2))
  (sSeq (sAsg (eBin fDiv (eBin fIx (eV 0) (eC (.int 0))) (eV 1)) (gSubL (eV 0) (eC (.int 0))))
  (sRet (eV 2))))
  sNop)
  (sSeq (sAsg (eBin fAdd (eBin fIx (eV 0) (eC (.int 2))) (eC (.int 1))) (gSubL (eV 0) (eC (.int 2))))
  (sSeq (sAsg (eBin fMod (eB fInt (aC (eBin fAdd (eBin fAdd (eBin fMul (eBin fIx (eV 0) (eC (.int 1))) (eC (.int 39373))) (eBin fMul (eC (.int 7919)) (eBin fIx (eV 0) (eC (.int 2))))) (eC (.int 7))) aN)) (eC (.int 2147483647))) (gSubL (eV 0) (eC (.int 1))))
  (sRet (eBin fMod (eB fInt (aC (eBin fDiv (eBin fMod (eB fInt (aC (eBin fMul (eBin fIx (eV 0) (eC (.int 1))) (eBin fIx (eV 0) (eC (.int 1)))) aN)) (eC (.int 2147483629))) (eC (.int 32))) aN)) (eV 1))))))
def f_law_take : Fn := fnOfBody 3 m_law_take
def m_law_one : MS := (sRet (eBin fIx (eV 1) (eCall f_law_take (fun vs _ => vs) (aC (eV 0) (aC (eB fLen (aC (eV 1) aN)) aN)))))
def f_law_one : Fn := fnOfBody 2 m_law_one
def m_law_drawn : MS := (sSeq (sAsg (eLst (aC (eC (.str "a")) (aC (eC (.str "b")) (aC (eC (.str "hit")) (aC (eC (.str "goal")) (aC (eC (.str "abcdefgh")) (aC (eC (.str "laid")) (aC (eC (.str "own")) aN)))))))) (gV 1))
  (sSeq (sAsg (eCall f_law_one (fun vs _ => vs) (aC (eV 0) (aC (eLst (aC (eC (.str "laid")) (aC (eC (.str "done")) (aC (eC (.str "struck")) (aC (eC (.str "instead")) aN))))) aN))) (gV 2))
  (sRet (eTup (aC (eV 2) (aC (eCall f_law_one (fun vs _ => vs) (aC (eV 0) (aC (eV 1) aN))) (aC (eCall f_law_one (fun vs _ => vs) (aC (eV 0) (aC (eV 1) aN))) (aC (eCall f_law_one (fun vs _ => vs) (aC (eV 0) (aC (eLst (aC (eC (.str "own")) (aC (eC (.str "next")) aN))) aN))) (aC (eBin fEqD (eCall f_law_take (fun vs _ => vs) (aC (eV 0) (aC (eC (.int 2)) aN))) (eC (.int 0))) aN)))))))))
def f_law_drawn : Fn := fnOfBody 3 m_law_drawn
def m_law_hp_is_word : MS := (sSeq (sIf (bOr (bNot (bTru (eB (fIsi [9]) (aC (eV 0) (aC (eC (.ty "str")) aN))))) (bNot (mbind (eChain fLe fLe (eC (.int 1)) (eB fLen (aC (eV 0) aN)) (eC (.int 8))) isB)))
  (sRet (eC (.bl false)))
  sNop)
  (sRet (eBin fEqD (eLc (iAny (eV 0)) (.v 1) [1] (mbind (eBin fNotIn (eV 1) (eC (.str "abcdefghijklmnopqrstuvwxyz"))) isB) (eV 1)) (eLst aN))))
def f_law_hp_is_word : Fn := fnOfBody 2 m_law_hp_is_word
def m_law_hp_waking_due : MS := (sSeq (sAsg (eV 0) (gTp 5 (gC (gV 1) (gC (gV 2) (gC (gV 3) (gC (gV 4) (gC (gV 5) gN)))))))
  (sSeq (sAsg (eLst (aC (eTup (aC (eC (.str "event")) (aC (eAnd (eB (fIsi [9]) (aC (eV 1) (aC (eC (.ty "str")) aN))) (eBin fIn (eV 1) (eTup (aC (eC (.str "laid")) (aC (eC (.str "done")) (aC (eC (.str "struck")) (aC (eC (.str "instead")) aN))))))) aN))) aN)) (gV 6))
  (sSeq (sExpr (eBm "list" fExtend (eV 6) (aC (eLst (aC (eTup (aC (eC (.str "deed")) (aC (eCall f_law_hp_is_word (fun vs _ => vs) (aC (eV 2) aN)) aN))) (aC (eTup (aC (eC (.str "call")) (aC (eCall f_law_hp_is_word (fun vs _ => vs) (aC (eV 3) aN)) aN))) aN))) aN)))
  (sSeq (sExpr (eBm "list" fExtend (eV 6) (aC (eLst (aC (eTup (aC (eC (.str "by")) (aC (eAnd (eB (fIsi [9]) (aC (eV 4) (aC (eC (.ty "str")) aN))) (eBin fIn (eV 4) (eTup (aC (eC (.str "own")) (aC (eC (.str "next")) aN))))) aN))) (aC (eTup (aC (eC (.str "may")) (aC (eB (fIsi [9]) (aC (eV 5) (aC (eC (.ty "bool")) aN))) aN))) aN))) aN)))
  (sSeq (sAsg (eLc (iAny (eV 6)) (.t [8, 9]) [8, 9] (bNot (bTru (eV 9))) (eV 8)) (gV 7))
  (sRet (eIf (mbind (eBin fNeD (eV 7) (eLst aN)) isB) (eBin fIx (eV 7) (eC (.int 0))) (eC .non))))))))
def f_law_hp_waking_due : Fn := fnOfBody 10 m_law_hp_waking_due
def m_law_hx_heard (lam : Lam) : MS := (sTry tab (sRet (eTup (aC (eC (.str "told")) (aC (eAct lam) aN))))
  (⟨[1, 2, 3], some 1, fun c fs => (onlyC [1, 2, 3] c (sSeq (sAsg (eLst (aC (eTup (aC (eC (.str "BadDeed")) (aC (eXi tab c 1) aN))) (aC (eTup (aC (eC (.str "BadWaking")) (aC (eXi tab c 2) aN))) aN))) (gV 2))
  (sSeq (sExpr (eBm "list" fAppend (eV 2) (aC (eTup (aC (eC (.str "BadRules")) (aC (eXi tab c 3) aN))) aN)))
  (sRet (eTup (aC (eJoin (eC (.str " ")) (eLc (iLst (eV 2)) (.t [3, 4]) [3, 4] (bTru (eV 4)) (eV 3))) (aC (eXf "part" fs) aN)))))))⟩ :: (⟨[4], some 1, fun c fs => (onlyC [4] c (sRet (eTup (aC (eC (.str "BadTable")) (aC (eXf "table" fs) aN)))))⟩ :: (⟨[5], some 1, fun c fs => (onlyC [5] c (sRet (eTup (aC (eC (.str "BadEntry")) (aC (eXf "entry" fs) aN)))))⟩ :: (⟨[6], some 1, fun c fs => (onlyC [6] c (sRet (eTup (aC (eC (.str "BadHands")) (aC (eXf "value" fs) aN)))))⟩ :: (⟨[7], some 1, fun c fs => (onlyC [7] c (sRet (eTup (aC (eC (.str "BadMove")) (aC (eXf "move" fs) aN)))))⟩ :: (⟨[8], some 1, fun c fs => (onlyC [8] c (sRet (eTup (aC (eC (.str "NotThere")) (aC (eXf "word" fs) aN)))))⟩ :: (⟨[0], none, fun c fs => (sRet (eTup (aC (eC (.str "another")) (aC (eC .non) aN))))⟩ :: []))))))))
def f_law_hx_heard : FnL := fnOfBodyL 5 m_law_hx_heard
def m_law_hx_says (lam : Lam) : MS := (sRet (eBin fEqD (eB fReprR (aC (eCallL f_law_hx_heard lam aN) aN)) (eB fReprR (aC (eV 1) aN))))
def f_law_hx_says : FnL := fnOfBodyL 2 m_law_hx_says
def m_law_hx_waking_told : MS := (sRet (eTup (aC (eFld [9] "event" (eV 0)) (aC (eFld [9] "deed" (eV 0)) (aC (eFld [9] "call" (eV 0)) (aC (eFld [9] "by" (eV 0)) (aC (eFld [9] "may" (eV 0)) aN)))))))
def f_law_hx_waking_told : Fn := fnOfBody 1 m_law_hx_waking_told
def m_is_one_of : MS := (sRet (eAnd (eB (fIsi [9]) (aC (eV 0) (aC (eC (.ty "str")) aN))) (eBin fIn (eV 0) (eV 1))))
def f_is_one_of : Fn := fnOfBody 2 m_is_one_of
def m_is_word : MS := (sSeq (sIf (bOr (bNot (bTru (eB (fIsi [9]) (aC (eV 0) (aC (eC (.ty "str")) aN))))) (bNot (mbind (eChain fLe fLe (eC (.int 1)) (eB fLen (aC (eV 0) aN)) (eC (.int 8))) isB)))
  (sRet (eC (.bl false)))
  sNop)
  (sRet (eB fAll (aC (eLc (iAny (eV 0)) (.v 1) [1] bYes (eBin fIn (eV 1) (eC (.str "abcdefghijklmnopqrstuvwxyz")))) aN))))
def f_is_word : Fn := fnOfBody 2 m_is_word
def m_Waking_init : MS := (sSeq (sAsg (eLst (aC (eTup (aC (eC (.str "event")) (aC (eCall f_is_one_of (fun vs _ => vs) (aC (eV 1) (aC (eC (.tup [(.str "laid"), (.str "done"), (.str "struck"), (.str "instead")])) aN))) aN))) (aC (eTup (aC (eC (.str "deed")) (aC (eCall f_is_word (fun vs _ => vs) (aC (eV 2) aN)) aN))) (aC (eTup (aC (eC (.str "call")) (aC (eCall f_is_word (fun vs _ => vs) (aC (eV 3) aN)) aN))) aN)))) (gV 6))
  (sSeq (sFor (iAny (eBin fAdd (eV 6) (eLst (aC (eTup (aC (eC (.str "by")) (aC (eCall f_is_one_of (fun vs _ => vs) (aC (eV 4) (aC (eTup (aC (eC (.str "own")) (aC (eC (.str "next")) aN))) aN))) aN))) (aC (eTup (aC (eC (.str "may")) (aC (eB (fIsi [9]) (aC (eV 5) (aC (eC (.ty "bool")) aN))) aN))) aN))))) (gTp 2 (gC (gV 7) (gC (gV 8) gN)))
  (sIf (bNot (bTru (eV 8)))
  (sRaise 2 "part" ok_BadWaking (eV 7))
  sNop))
  (sSeq (sSetF [9] "event" (eV 1) (eV 0))
  (sSeq (sSetF [9] "deed" (eV 2) (eV 0))
  (sSeq (sSetF [9] "call" (eV 3) (eV 0))
  (sSeq (sSetF [9] "by" (eV 4) (eV 0))
  (sSetF [9] "may" (eV 5) (eV 0))))))))
def f_Waking_init : Fn := fnOfBody 9 m_Waking_init
def m_law_hx_waking : MS := (sRet (eMakeK 9 f_Waking_init (gT_b_Waking_init_4_by_may) (aC (eBin fIx (eV 0) (eC (.int 0))) (aC (eBin fIx (eV 0) (eC (.int 1))) (aC (eBin fIx (eV 0) (eC (.int 2))) aN))) (aC (eBin fIx (eV 0) (eC (.int 3))) (aC (eBin fIx (eV 0) (eC (.int 4))) aN))))
def f_law_hx_waking : Fn := fnOfBody 1 m_law_hx_waking
def m_law_right : MS := (sSeq (sAsg (eCall f_law_hp_waking_due (fun vs _ => vs) (aC (eV 0) aN)) (gV 1))
  (sSeq (sAsg (eIf (mbind (eBin fIsN (eV 1) (eC .non)) isB) (eTup (aC (eC (.str "told")) (aC (eV 0) aN))) (eTup (aC (eC (.str "BadWaking")) (aC (eV 1) aN)))) (gV 2))
  (sRet (eLam f_law_hx_says (eCall f_law_hx_waking_told (fun vs _ => vs) (aC (eCall f_law_hx_waking (fun vs _ => vs) (aC (eV 0) aN)) aN)) (aC (eV 2) aN)))))
def f_law_right : Fn := fnOfBody 3 m_law_right
def m_law_odd : MS := (sSeq (sIf (mbind (eBin fEqD (eV 1) (eC (.int 0))) isB)
  (sRet (eCall f_law_one (fun vs _ => vs) (aC (eV 0) (aC (eLst (aC (eC .non) (aC (eC (.str "Laid")) (aC (eC (.str "")) (aC (eC (.str "lay")) (aC (eC (.str "again")) (aC (eTup (aC (eC (.str "laid")) aN)) (aC (eC (.int 0)) (aC (eC (.bl true)) (aC (eC (.str "laid ")) (aC (eC (.str "strike")) (aC (eLst (aC (eC (.str "laid")) aN)) aN)))))))))))) aN))))
  sNop)
  (sSeq (sIf (mbind (eBin fLt (eV 1) (eC (.int 3))) isB)
  (sRet (eCall f_law_one (fun vs _ => vs) (aC (eV 0) (aC (eLst (aC (eC .non) (aC (eC (.str "")) (aC (eC (.str "A")) (aC (eC (.str "abcdefghi")) (aC (eC (.int 0)) (aC (eTup (aC (eC (.str "a")) aN)) (aC (eC (.str "a1")) (aC (eLst (aC (eC (.str "a")) aN)) (aC (eC (.bl true)) aN)))))))))) aN))))
  sNop)
  (sSeq (sIf (mbind (eBin fEqD (eV 1) (eC (.int 3))) isB)
  (sRet (eCall f_law_one (fun vs _ => vs) (aC (eV 0) (aC (eLst (aC (eC .non) (aC (eC (.str "Own")) (aC (eC (.str "")) (aC (eC (.str "any")) (aC (eC (.str "other")) (aC (eC (.int 0)) (aC (eC (.int 1)) (aC (eC (.bl true)) (aC (eTup (aC (eC (.str "own")) aN)) (aC (eLst (aC (eC (.str "next")) aN)) aN))))))))))) aN))))
  sNop)
  (sRet (eCall f_law_one (fun vs _ => vs) (aC (eV 0) (aC (eLst (aC (eC .non) (aC (eC (.int 0)) (aC (eC (.int 1)) (aC (eC (.str "True")) (aC (eTup aN) (aC (eC (.str "may")) (aC (eLst (aC (eC (.bl true)) aN)) aN)))))))) aN)))))))
def f_law_odd : Fn := fnOfBody 2 m_law_odd
def m_law_bent_right : MS := (sSeq (sIf (bNot (bTru (eCall f_law_right (fun vs _ => vs) (aC (eV 1) aN))))
  (sRet (eC (.bl false)))
  sNop)
  (sSeq (sFor (MP.iRng1 (aC (eC (.int 5)) aN)) (gV 2)
  (sSeq (sAsg (eBin fAdd (eBin fAdd (eSl (eV 1) oN (oS (eV 2))) (eTup (aC (eCall f_law_odd (fun vs _ => vs) (aC (eV 0) (aC (eV 2) aN))) aN))) (eSl (eV 1) (oS (eBin fAdd (eV 2) (eC (.int 1)))) oN)) (gV 3))
  (sSeq (sIf (bNot (bTru (eCall f_law_right (fun vs _ => vs) (aC (eV 3) aN))))
  (sRet (eC (.bl false)))
  sNop)
  (sSeq (sAsg (eCall f_law_take (fun vs _ => vs) (aC (eV 0) (aC (eC (.int 5)) aN))) (gV 4))
  (sIf (bNot (bTru (eCall f_law_right (fun vs _ => vs) (aC (eBin fAdd (eBin fAdd (eSl (eV 3) oN (oS (eV 4))) (eTup (aC (eCall f_law_odd (fun vs _ => vs) (aC (eV 0) (aC (eV 4) aN))) aN))) (eSl (eV 3) (oS (eBin fAdd (eV 4) (eC (.int 1)))) oN)) aN))))
  (sRet (eC (.bl false)))
  sNop)))))
  (sRet (eCall f_law_right (fun vs _ => vs) (aC (eB fTuple (aC (eLc (MP.iRng1 (aC (eC (.int 5)) aN)) (.v 2) [2] bYes (eCall f_law_odd (fun vs _ => vs) (aC (eV 0) (aC (eV 2) aN)))) aN)) aN)))))
def f_law_bent_right : Fn := fnOfBody 5 m_law_bent_right
def m_law_others : MS := (sSeq (sAsg (eLst (aC (eLc (iAny (eLst (aC (eC (.str "laid")) (aC (eC (.str "done")) (aC (eC (.str "struck")) (aC (eC (.str "instead")) aN)))))) (.v 3) [3] (mbind (eBin fNeD (eV 3) (eBin fIx (eV 1) (eC (.int 0)))) isB) (eV 3)) (aC (eLst (aC (eC (.str "zz")) aN)) (aC (eLst (aC (eC (.str "yy")) aN)) aN)))) (gV 2))
  (sSeq (sExpr (eBm "list" fExtend (eV 2) (aC (eLst (aC (eLst (aC (eIf (mbind (eBin fEqD (eBin fIx (eV 1) (eC (.int 3))) (eC (.str "own"))) isB) (eC (.str "next")) (eC (.str "own"))) aN)) (aC (eLst (aC (eNot (eBin fIx (eV 1) (eC (.int 4)))) aN)) aN))) aN)))
  (sRet (eLc (MP.iRng1 (aC (eC (.int 5)) aN)) (.v 4) [4] bYes (eBin fAdd (eBin fAdd (eSl (eV 1) oN (oS (eV 4))) (eTup (aC (eCall f_law_one (fun vs _ => vs) (aC (eV 0) (aC (eBin fIx (eV 2) (eV 4)) aN))) aN))) (eSl (eV 1) (oS (eBin fAdd (eV 4) (eC (.int 1)))) oN))))))
def f_law_others : Fn := fnOfBody 5 m_law_others
def m_Waking_row : MS := (sRet (eTup (aC (eFld [9] "event" (eV 0)) (aC (eFld [9] "deed" (eV 0)) (aC (eFld [9] "call" (eV 0)) (aC (eFld [9] "by" (eV 0)) aN))))))
def f_Waking_row : Fn := fnOfBody 1 m_Waking_row
def m_Waking_eq : MS := (sRet (eAnd (eB (fIsi [9]) (aC (eV 1) (aC (eC (.obj 9)) aN))) (eAnd (eBin fEqD (eMeth 9 "row" f_Waking_row (fun vs _ => vs) (eV 0) aN) (eMeth 9 "row" f_Waking_row (fun vs _ => vs) (eV 1) aN)) (eBin fEqD (eFld [9] "may" (eV 0)) (eFld [9] "may" (eV 1))))))
def f_Waking_eq : Fn := fnOfBody 2 m_Waking_eq
def m_law_equal : MS := (sRet (eLam f_law_hx_heard (eTup (aC (eBin (fOr (isOwn 9) (fEqO [9] 9 f_Waking_eq) fEqD) (eV 0) (eV 1)) (aC (eBin (fOr (isOwn 9) (fEqO [9] 9 f_Waking_eq) fEqD) (eV 1) (eV 0)) (aC (eBin (fOr (isOwn 9) (fNeO [9] 9 f_Waking_eq) fNeD) (eV 0) (eV 1)) aN)))) aN))
def f_law_equal : Fn := fnOfBody 2 m_law_equal
def m_law_equal_right : MS := (sSeq (sAsg (eCall f_law_others (fun vs _ => vs) (aC (eV 0) (aC (eV 1) aN))) (gV 2))
  (sSeq (sAsg (eLam f_law_hx_heard (eLc (iAny (eBin fAdd (eLst (aC (eV 1) (aC (eV 1) aN))) (eV 2))) (.v 6) [6] bYes (eCall f_law_hx_waking (fun vs _ => vs) (aC (eV 6) aN))) aN) (gTp 2 (gC (gV 3) (gC (gV 4) gN))))
  (sSeq (sIf (mbind (eBin fNeD (eV 3) (eC (.str "told"))) isB)
  (sRet (eC (.bl false)))
  sNop)
  (sSeq (sAsg (eLc (iAny (eSl (eV 4) (oS (eC (.int 1))) oN)) (.v 6) [6] bYes (eCall f_law_equal (fun vs _ => vs) (aC (eBin fIx (eV 4) (eC (.int 0))) (aC (eV 6) aN)))) (gV 5))
  (sSeq (sExpr (eBm "list" fExtend (eV 5) (aC (eLc (iAny (eLst (aC (eC .non) (aC (eV 1) (aC (eBin fIx (eV 1) (eC (.int 0))) (aC (eC (.int 0)) (aC (eB fList (aC (eV 1) aN)) aN))))))) (.v 7) [7] bYes (eCall f_law_equal (fun vs _ => vs) (aC (eBin fIx (eV 4) (eC (.int 0))) (aC (eV 7) aN)))) aN)))
  (sRet (eBin fEqD (eB fReprR (aC (eV 5) aN)) (eB fReprR (aC (eBin fAdd (eLst (aC (eTup (aC (eC (.str "told")) (aC (eTup (aC (eC (.bl true)) (aC (eC (.bl true)) (aC (eC (.bl false)) aN)))) aN))) aN)) (eBin fMul (eLst (aC (eTup (aC (eC (.str "told")) (aC (eTup (aC (eC (.bl false)) (aC (eC (.bl false)) (aC (eC (.bl true)) aN)))) aN))) aN)) (eC (.int 10)))) aN)))))))))
def f_law_equal_right : Fn := fnOfBody 8 m_law_equal_right
def m_law_turned_right : MS := (sSeq (sAsg (eLst (aC (eLam f_law_hx_heard (eBin (fOr (isOwn 9) (fEqO [9] 9 f_Waking_eq) fEqD) (eMake 9 f_Waking_init (gT_b_Waking_init_4) (aC (eC (.str "done")) (aC (eC (.str "a")) (aC (eC (.str "b")) aN)))) (eMake 9 f_Waking_init (gT_b_Waking_init_4) (aC (eC (.str "done")) (aC (eC (.str "b")) (aC (eC (.str "a")) aN))))) aN) aN)) (gV 0))
  (sSeq (sExpr (eBm "list" fAppend (eV 0) (aC (eLam f_law_hx_heard (eCall f_law_hx_waking_told (fun vs _ => vs) (aC (eMake 9 f_Waking_init (gT_b_Waking_init_4) (aC (eC (.str "done")) (aC (eC (.str "a")) (aC (eC (.str "b")) aN)))) aN)) aN) aN)))
  (sSeq (sExpr (eBm "list" fAppend (eV 0) (aC (eLam f_law_hx_heard (eCall f_law_hx_waking_told (fun vs _ => vs) (aC (eMakeK 9 f_Waking_init (gT_b_Waking_init_1_call_deed_event_may) aN (aC (eC (.str "b")) (aC (eC (.str "a")) (aC (eC (.str "laid")) (aC (eC (.bl true)) aN))))) aN)) aN) aN)))
  (sSeq (sExpr (eBm "list" fAppend (eV 0) (aC (eLam f_law_hx_heard (eMakeK 9 f_Waking_init (gT_b_Waking_init_4_by_may) (aC (eC (.str "Done")) (aC (eC (.str "A")) (aC (eC (.str "B")) aN))) (aC (eC (.str "x")) (aC (eC (.int 1)) aN))) aN) aN)))
  (sSeq (sAsg (eLst (aC (eTup (aC (eC (.str "told")) (aC (eC (.bl false)) aN))) (aC (eTup (aC (eC (.str "told")) (aC (eTup (aC (eC (.str "done")) (aC (eC (.str "a")) (aC (eC (.str "b")) (aC (eC (.str "own")) (aC (eC (.bl false)) aN)))))) aN))) (aC (eTup (aC (eC (.str "told")) (aC (eTup (aC (eC (.str "laid")) (aC (eC (.str "a")) (aC (eC (.str "b")) (aC (eC (.str "own")) (aC (eC (.bl true)) aN)))))) aN))) aN)))) (gV 1))
  (sRet (eBin (fOr (isOwn 9) (fEqO [9] 9 f_Waking_eq) fEqD) (eB fReprR (aC (eV 0) aN)) (eB fReprR (aC (eBin fAdd (eV 1) (eLst (aC (eTup (aC (eC (.str "BadWaking")) (aC (eC (.str "event")) aN))) aN))) aN)))))))))
def f_law_turned_right : Fn := fnOfBody 2 m_law_turned_right
def m_law : MS := (sSeq (sAsg (eCall f_law_pool (fun vs _ => vs) (aC (eV 0) aN)) (gV 1))
  (sSeq (sFor (MP.iRng1 (aC (eC (.int 12)) aN)) (gV 2)
  (sSeq (sAsg (eCall f_law_drawn (fun vs _ => vs) (aC (eV 1) aN)) (gV 3))
  (sIf (bOr (bNot (bTru (eCall f_law_bent_right (fun vs _ => vs) (aC (eV 1) (aC (eV 3) aN))))) (bNot (bTru (eCall f_law_equal_right (fun vs _ => vs) (aC (eV 1) (aC (eV 3) aN))))))
  (sRet (eC (.bl false)))
  sNop)))
  (sSeq (sFor (iAny (eLst (aC (eC (.str "laid")) (aC (eC (.str "done")) (aC (eC (.str "struck")) (aC (eC (.str "instead")) aN)))))) (gV 4)
  (sFor (iAny (eLst (aC (eC (.str "own")) (aC (eC (.str "next")) aN)))) (gV 5)
  (sIf (bOr (bNot (bTru (eCall f_law_right (fun vs _ => vs) (aC (eTup (aC (eV 4) (aC (eC (.str "a")) (aC (eC (.str "a")) (aC (eV 5) (aC (eC (.bl true)) aN)))))) aN)))) (bNot (bTru (eCall f_law_right (fun vs _ => vs) (aC (eTup (aC (eV 4) (aC (eC (.str "a")) (aC (eC (.str "b")) (aC (eV 5) (aC (eC (.bl false)) aN)))))) aN)))))
  (sRet (eC (.bl false)))
  sNop)))
  (sRet (eCall f_law_turned_right (fun vs _ => vs) aN)))))
def f_law : Fn := fnOfBody 6 m_law
/-! ### facts -/
structure Fx (K : PySem.W.Frag) (S : Sx) (mg : Str → Option Value) (base : Heap) : Prop where
  n_str : mg "str" = none
  plain : PlainCs K S [9]
  n_isinstance : mg "isinstance" = none
  n_len : mg "len" = none
  k_LETTERS : ∃ u, mg "LETTERS" = some u ∧ L2.RelV (.str "abcdefghijklmnopqrstuvwxyz") u
  n_all : mg "all" = none
  k_EVENTS : GTup K S mg "EVENTS" [(.str "laid"), (.str "done"), (.str "struck"), (.str "instead")]
  n_bool : mg "bool" = none
  cls_Waking : L2.Cls K (S.ι 9)
  na_Waking_event : NoAttr K (S.ι 9) "event"
  fl_event : ∀ c ∈ [9], L2.Cls K (S.ι c) ∧ NoAttr K (S.ι c) "event"
  na_Waking_deed : NoAttr K (S.ι 9) "deed"
  fl_deed : ∀ c ∈ [9], L2.Cls K (S.ι c) ∧ NoAttr K (S.ι c) "deed"
  na_Waking_call : NoAttr K (S.ι 9) "call"
  fl_call : ∀ c ∈ [9], L2.Cls K (S.ι c) ∧ NoAttr K (S.ι c) "call"
  na_Waking_by : NoAttr K (S.ι 9) "by"
  fl_by : ∀ c ∈ [9], L2.Cls K (S.ι c) ∧ NoAttr K (S.ι c) "by"
  na_Waking_may : NoAttr K (S.ι 9) "may"
  fl_may : ∀ c ∈ [9], L2.Cls K (S.ι c) ∧ NoAttr K (S.ι c) "may"
  g_Waking : mg "Waking" = some (.ref (S.ι 9))
  n_range : mg "range" = none
  n_max : mg "max" = none
  n_int : mg "int" = none
  exct : ExcT K S tab
  g_PileError : mg "PileError" = some (.ref (S.ι 0))
  g_NotThere : mg "NotThere" = some (.ref (S.ι 8))
  xc_word : ∀ c ∈ ([8] : List Nat), ExcC K (S.ι c) ∧ PySem.W.findIn K (.ref (S.ι c)) "word" = some none
  g_BadMove : mg "BadMove" = some (.ref (S.ι 7))
  xc_move : ∀ c ∈ ([7] : List Nat), ExcC K (S.ι c) ∧ PySem.W.findIn K (.ref (S.ι c)) "move" = some none
  g_BadHands : mg "BadHands" = some (.ref (S.ι 6))
  xc_value : ∀ c ∈ ([6] : List Nat), ExcC K (S.ι c) ∧ PySem.W.findIn K (.ref (S.ι c)) "value" = some none
  g_BadEntry : mg "BadEntry" = some (.ref (S.ι 5))
  xc_entry : ∀ c ∈ ([5] : List Nat), ExcC K (S.ι c) ∧ PySem.W.findIn K (.ref (S.ι c)) "entry" = some none
  g_BadTable : mg "BadTable" = some (.ref (S.ι 4))
  xc_table : ∀ c ∈ ([4] : List Nat), ExcC K (S.ι c) ∧ PySem.W.findIn K (.ref (S.ι c)) "table" = some none
  g_BadDeed : mg "BadDeed" = some (.ref (S.ι 1))
  g_BadWaking : mg "BadWaking" = some (.ref (S.ι 2))
  g_BadRules : mg "BadRules" = some (.ref (S.ι 3))
  xc_part : ∀ c ∈ ([1, 2, 3] : List Nat), ExcC K (S.ι c) ∧ PySem.W.findIn K (.ref (S.ι c)) "part" = some none
  n_repr : mg "repr" = none
  eq_Waking : ∀ f, Meth K (S.ι 9) "__eq__" f → EqC K (S.ι 9) f ([9].map S.ι)
  n_tuple : mg "tuple" = none
  n_list : mg "list" = none
  b_PileError : PySem.W.specialIn K (.ref (S.ι 0)) "__getattribute__" = some (some (.builtin "type.__getattribute__")) ∧ PySem.W.readsIn K (S.ι 0) (.type "type") = true ∧ PySem.W.findCls K (.ref (S.ι 0)) (.type "type") "__init__" = some (.val (.builtin "ValueError.__init__"))
  d_law_pool : ∃ f fd, mg "_law_pool" = some (.ref f) ∧ FD K "_law_pool" "_law_pool" s_law_pool [] [] f fd
  d_law_take : ∃ f fd, mg "_law_take" = some (.ref f) ∧ FD K "_law_take" "_law_take" s_law_take [] [] f fd
  d_law_one : ∃ f fd, mg "_law_one" = some (.ref f) ∧ FD K "_law_one" "_law_one" s_law_one [] [] f fd
  d_law_drawn : ∃ f fd, mg "_law_drawn" = some (.ref f) ∧ FD K "_law_drawn" "_law_drawn" s_law_drawn [] [] f fd
  d_law_hp_is_word : ∃ f fd, mg "_law_hp_is_word" = some (.ref f) ∧ FD K "_law_hp_is_word" "_law_hp_is_word" s_law_hp_is_word [] [] f fd
  d_law_hp_waking_due : ∃ f fd, mg "_law_hp_waking_due" = some (.ref f) ∧ FD K "_law_hp_waking_due" "_law_hp_waking_due" s_law_hp_waking_due [] [] f fd
  d_law_hx_heard : ∃ f fd, mg "_law_hx_heard" = some (.ref f) ∧ FD K "_law_hx_heard" "_law_hx_heard" s_law_hx_heard [] [] f fd
  d_law_hx_says : ∃ f fd, mg "_law_hx_says" = some (.ref f) ∧ FD K "_law_hx_says" "_law_hx_says" s_law_hx_says [] [] f fd
  d_law_hx_waking_told : ∃ f fd, mg "_law_hx_waking_told" = some (.ref f) ∧ FD K "_law_hx_waking_told" "_law_hx_waking_told" s_law_hx_waking_told [] [] f fd
  d_is_one_of : ∃ f fd, mg "is_one_of" = some (.ref f) ∧ FD K "is_one_of" "is_one_of" s_is_one_of [] [] f fd
  d_is_word : ∃ f fd, mg "is_word" = some (.ref f) ∧ FD K "is_word" "is_word" s_is_word [] [] f fd
  x_BadWaking : ∃ fI fd, FD K "__init__" "BadWaking.__init__" s_BadWaking_init [] [] fI fd ∧ PySem.W.findIn K (.ref (S.ι 2)) "__init__" = some (some (.ref fI)) ∧ PySem.W.typeIn K (.ref fI) = some (.type "function")
  oe_BadWaking : OexC K (S.ι 2) ∧ PySem.W.findIn K (.ref (S.ι 2)) "part" = some none
  i_Waking : ∃ f fd, Mk K (S.ι 9) f ∧ FD K "__init__" "Waking.__init__" s_Waking_init [] [("by", (V.str "own")), ("may", (V.bl false))] f fd
  d_law_hx_waking : ∃ f fd, mg "_law_hx_waking" = some (.ref f) ∧ FD K "_law_hx_waking" "_law_hx_waking" s_law_hx_waking [] [] f fd
  d_law_right : ∃ f fd, mg "_law_right" = some (.ref f) ∧ FD K "_law_right" "_law_right" s_law_right [] [] f fd
  l_law_right : ∀ f fd, mg "_law_right" = some (.ref f) → FD K "_law_right" "_law_right" s_law_right [] [] f fd → MkL K mg base S "_law_right" fd
  d_law_odd : ∃ f fd, mg "_law_odd" = some (.ref f) ∧ FD K "_law_odd" "_law_odd" s_law_odd [] [] f fd
  d_law_bent_right : ∃ f fd, mg "_law_bent_right" = some (.ref f) ∧ FD K "_law_bent_right" "_law_bent_right" s_law_bent_right [] [] f fd
  d_law_others : ∃ f fd, mg "_law_others" = some (.ref f) ∧ FD K "_law_others" "_law_others" s_law_others [] [] f fd
  m_Waking_row : ∃ f fd, L2.Cls K (S.ι 9) ∧ Meth K (S.ι 9) "row" f ∧ FD K "row" "Waking.row" s_Waking_row [] [] f fd
  m_Waking_eq : ∃ f fd, L2.Cls K (S.ι 9) ∧ Meth K (S.ι 9) "__eq__" f ∧ FD K "__eq__" "Waking.__eq__" s_Waking_eq [] [] f fd
  d_law_equal : ∃ f fd, mg "_law_equal" = some (.ref f) ∧ FD K "_law_equal" "_law_equal" s_law_equal [] [] f fd
  l_law_equal : ∀ f fd, mg "_law_equal" = some (.ref f) → FD K "_law_equal" "_law_equal" s_law_equal [] [] f fd → MkL K mg base S "_law_equal" fd
  d_law_equal_right : ∃ f fd, mg "_law_equal_right" = some (.ref f) ∧ FD K "_law_equal_right" "_law_equal_right" s_law_equal_right [] [] f fd
  l_law_equal_right : ∀ f fd, mg "_law_equal_right" = some (.ref f) → FD K "_law_equal_right" "_law_equal_right" s_law_equal_right [] [] f fd → MkL K mg base S "_law_equal_right" fd
  d_law_turned_right : ∃ f fd, mg "_law_turned_right" = some (.ref f) ∧ FD K "_law_turned_right" "_law_turned_right" s_law_turned_right [] [] f fd
  l_law_turned_right : ∀ f fd, mg "_law_turned_right" = some (.ref f) → FD K "_law_turned_right" "_law_turned_right" s_law_turned_right [] [] f fd → MkL K mg base S "_law_turned_right" fd
  d_law : ∃ f fd, mg "law" = some (.ref f) ∧ FD K "law" "law" s_law [] [] f fd
section
variable {P : Program} {w : World} {K : PySem.W.Frag} {mg : Str → Option Value} {base : Heap} {S : Sx}
theorem b_is_one_of_B (f : Addr) (fd : FuncData) (F : FD K "is_one_of" "is_one_of" s_is_one_of [] [] f fd) : L2.Binds K fd ["value", "words"] [] := F.bindsN fun _ _ _ _ _ _ us hl => match us, hl with | [_, _], _ => rfl
theorem b_is_one_of (f : Addr) (fd : FuncData) (F : FD K "is_one_of" "is_one_of" s_is_one_of [] [] f fd) : BindM K S fd ["value", "words"] 2 [] (fun vs _ => vs) := BindM.all (b_is_one_of_B f fd F)
theorem b_is_word_B (f : Addr) (fd : FuncData) (F : FD K "is_word" "is_word" s_is_word [] [] f fd) : L2.Binds K fd ["value"] [] := F.bindsN fun _ _ _ _ _ _ us hl => match us, hl with | [_], _ => rfl
theorem b_is_word (f : Addr) (fd : FuncData) (F : FD K "is_word" "is_word" s_is_word [] [] f fd) : BindM K S fd ["value"] 1 [] (fun vs _ => vs) := BindM.all (b_is_word_B f fd F)
theorem b_BadWaking_init_B (f : Addr) (fd : FuncData) (F : FD K "__init__" "BadWaking.__init__" s_BadWaking_init [] [] f fd) : L2.Binds K fd ["self", "part"] [] := F.bindsN fun _ _ _ _ _ _ us hl => match us, hl with | [_, _], _ => rfl
theorem b_BadWaking_init (f : Addr) (fd : FuncData) (F : FD K "__init__" "BadWaking.__init__" s_BadWaking_init [] [] f fd) : BindM K S fd ["self", "part"] 2 [] (fun vs _ => vs) := BindM.all (b_BadWaking_init_B f fd F)
theorem b_Waking_row_B (f : Addr) (fd : FuncData) (F : FD K "row" "Waking.row" s_Waking_row [] [] f fd) : L2.Binds K fd ["self"] [] := F.bindsN fun _ _ _ _ _ _ us hl => match us, hl with | [_], _ => rfl
theorem b_Waking_row (f : Addr) (fd : FuncData) (F : FD K "row" "Waking.row" s_Waking_row [] [] f fd) : BindM K S fd ["self"] 1 [] (fun vs _ => vs) := BindM.all (b_Waking_row_B f fd F)
theorem b_law_take_B (f : Addr) (fd : FuncData) (F : FD K "_law_take" "_law_take" s_law_take [] [] f fd) : L2.Binds K fd ["jar", "many"] [] := F.bindsN fun _ _ _ _ _ _ us hl => match us, hl with | [_, _], _ => rfl
theorem b_law_take (f : Addr) (fd : FuncData) (F : FD K "_law_take" "_law_take" s_law_take [] [] f fd) : BindM K S fd ["jar", "many"] 2 [] (fun vs _ => vs) := BindM.all (b_law_take_B f fd F)
theorem b_law_hp_is_word_B (f : Addr) (fd : FuncData) (F : FD K "_law_hp_is_word" "_law_hp_is_word" s_law_hp_is_word [] [] f fd) : L2.Binds K fd ["thing"] [] := F.bindsN fun _ _ _ _ _ _ us hl => match us, hl with | [_], _ => rfl
theorem b_law_hp_is_word (f : Addr) (fd : FuncData) (F : FD K "_law_hp_is_word" "_law_hp_is_word" s_law_hp_is_word [] [] f fd) : BindM K S fd ["thing"] 1 [] (fun vs _ => vs) := BindM.all (b_law_hp_is_word_B f fd F)
theorem b_Waking_init_4_by_may (f : Addr) (fd : FuncData) (F : FD K "__init__" "Waking.__init__" s_Waking_init [] [("by", (V.str "own")), ("may", (V.bl false))] f fd) : BindM K S fd ["self", "event", "deed", "call", "by", "may"] 4 ["by", "may"] gT_b_Waking_init_4_by_may := by
  obtain ⟨mv, h⟩ := F.kbinds0 (ps := ["self", "event", "deed", "call", "by", "may"]) 4 ["by", "may"] [] (fun vs mz zs => g_b_Waking_init_4_by_may vs mz zs) (by simp) (by decide +kernel) (fun r1 r2 r3 => (((((((r1.drop 0).take 1).append ((r1.drop 1).take 1)).append ((r1.drop 2).take 1)).append ((r1.drop 3).take 1)).append ((r3.drop 0).take 1)).append ((r3.drop 1).take 1))) (fun D doc pm an cdv ct us mv ws h1 h2 h3 => match us, mv, ws, h1, h2, h3 with | [_, _, _, _], [], [_, _], _, _, _ => rfl)
  refine ⟨_, _, h, fun ρ H vs xs zs ys r1 r3 l1 l3 => ⟨?_, ?_⟩⟩
  · have r2 : RelL K S ρ H [] [] := by repeat constructor
    exact (((((((r1.drop 0).take 1).append ((r1.drop 1).take 1)).append ((r1.drop 2).take 1)).append ((r1.drop 3).take 1)).append ((r3.drop 0).take 1)).append ((r3.drop 1).take 1))
  · have e1 := r1.length
    have e3 := r3.length
    simp [g_b_Waking_init_4_by_may]
    simp at l3
    omega
theorem b_law_hx_heard_B (f : Addr) (fd : FuncData) (F : FD K "_law_hx_heard" "_law_hx_heard" s_law_hx_heard [] [] f fd) : L2.Binds K fd ["call"] [] := F.bindsN fun _ _ _ _ _ _ us hl => match us, hl with | [_], _ => rfl
theorem b_law_hx_heard (f : Addr) (fd : FuncData) (F : FD K "_law_hx_heard" "_law_hx_heard" s_law_hx_heard [] [] f fd) : BindM K S fd ["call"] 1 [] (fun vs _ => vs) := BindM.all (b_law_hx_heard_B f fd F)
theorem b_law_one_B (f : Addr) (fd : FuncData) (F : FD K "_law_one" "_law_one" s_law_one [] [] f fd) : L2.Binds K fd ["jar", "things"] [] := F.bindsN fun _ _ _ _ _ _ us hl => match us, hl with | [_, _], _ => rfl
theorem b_law_one (f : Addr) (fd : FuncData) (F : FD K "_law_one" "_law_one" s_law_one [] [] f fd) : BindM K S fd ["jar", "things"] 2 [] (fun vs _ => vs) := BindM.all (b_law_one_B f fd F)
theorem b_law_hp_waking_due_B (f : Addr) (fd : FuncData) (F : FD K "_law_hp_waking_due" "_law_hp_waking_due" s_law_hp_waking_due [] [] f fd) : L2.Binds K fd ["one"] [] := F.bindsN fun _ _ _ _ _ _ us hl => match us, hl with | [_], _ => rfl
theorem b_law_hp_waking_due (f : Addr) (fd : FuncData) (F : FD K "_law_hp_waking_due" "_law_hp_waking_due" s_law_hp_waking_due [] [] f fd) : BindM K S fd ["one"] 1 [] (fun vs _ => vs) := BindM.all (b_law_hp_waking_due_B f fd F)
theorem b_law_hx_says_B (f : Addr) (fd : FuncData) (F : FD K "_law_hx_says" "_law_hx_says" s_law_hx_says [] [] f fd) : L2.Binds K fd ["call", "due"] [] := F.bindsN fun _ _ _ _ _ _ us hl => match us, hl with | [_, _], _ => rfl
theorem b_law_hx_says (f : Addr) (fd : FuncData) (F : FD K "_law_hx_says" "_law_hx_says" s_law_hx_says [] [] f fd) : BindM K S fd ["call", "due"] 2 [] (fun vs _ => vs) := BindM.all (b_law_hx_says_B f fd F)
theorem b_law_hx_waking_told_B (f : Addr) (fd : FuncData) (F : FD K "_law_hx_waking_told" "_law_hx_waking_told" s_law_hx_waking_told [] [] f fd) : L2.Binds K fd ["waking"] [] := F.bindsN fun _ _ _ _ _ _ us hl => match us, hl with | [_], _ => rfl
theorem b_law_hx_waking_told (f : Addr) (fd : FuncData) (F : FD K "_law_hx_waking_told" "_law_hx_waking_told" s_law_hx_waking_told [] [] f fd) : BindM K S fd ["waking"] 1 [] (fun vs _ => vs) := BindM.all (b_law_hx_waking_told_B f fd F)
theorem b_law_hx_waking_B (f : Addr) (fd : FuncData) (F : FD K "_law_hx_waking" "_law_hx_waking" s_law_hx_waking [] [] f fd) : L2.Binds K fd ["one"] [] := F.bindsN fun _ _ _ _ _ _ us hl => match us, hl with | [_], _ => rfl
theorem b_law_hx_waking (f : Addr) (fd : FuncData) (F : FD K "_law_hx_waking" "_law_hx_waking" s_law_hx_waking [] [] f fd) : BindM K S fd ["one"] 1 [] (fun vs _ => vs) := BindM.all (b_law_hx_waking_B f fd F)
theorem b_Waking_eq_B (f : Addr) (fd : FuncData) (F : FD K "__eq__" "Waking.__eq__" s_Waking_eq [] [] f fd) : L2.Binds K fd ["self", "other"] [] := F.bindsN fun _ _ _ _ _ _ us hl => match us, hl with | [_, _], _ => rfl
theorem b_Waking_eq (f : Addr) (fd : FuncData) (F : FD K "__eq__" "Waking.__eq__" s_Waking_eq [] [] f fd) : BindM K S fd ["self", "other"] 2 [] (fun vs _ => vs) := BindM.all (b_Waking_eq_B f fd F)
theorem b_law_right_B (f : Addr) (fd : FuncData) (F : FD K "_law_right" "_law_right" s_law_right [] [] f fd) : L2.Binds K fd ["one"] [] := F.bindsN fun _ _ _ _ _ _ us hl => match us, hl with | [_], _ => rfl
theorem b_law_right (f : Addr) (fd : FuncData) (F : FD K "_law_right" "_law_right" s_law_right [] [] f fd) : BindM K S fd ["one"] 1 [] (fun vs _ => vs) := BindM.all (b_law_right_B f fd F)
theorem b_law_odd_B (f : Addr) (fd : FuncData) (F : FD K "_law_odd" "_law_odd" s_law_odd [] [] f fd) : L2.Binds K fd ["jar", "at"] [] := F.bindsN fun _ _ _ _ _ _ us hl => match us, hl with | [_, _], _ => rfl
theorem b_law_odd (f : Addr) (fd : FuncData) (F : FD K "_law_odd" "_law_odd" s_law_odd [] [] f fd) : BindM K S fd ["jar", "at"] 2 [] (fun vs _ => vs) := BindM.all (b_law_odd_B f fd F)
theorem b_law_others_B (f : Addr) (fd : FuncData) (F : FD K "_law_others" "_law_others" s_law_others [] [] f fd) : L2.Binds K fd ["jar", "one"] [] := F.bindsN fun _ _ _ _ _ _ us hl => match us, hl with | [_, _], _ => rfl
theorem b_law_others (f : Addr) (fd : FuncData) (F : FD K "_law_others" "_law_others" s_law_others [] [] f fd) : BindM K S fd ["jar", "one"] 2 [] (fun vs _ => vs) := BindM.all (b_law_others_B f fd F)
theorem b_law_equal_B (f : Addr) (fd : FuncData) (F : FD K "_law_equal" "_law_equal" s_law_equal [] [] f fd) : L2.Binds K fd ["one", "two"] [] := F.bindsN fun _ _ _ _ _ _ us hl => match us, hl with | [_, _], _ => rfl
theorem b_law_equal (f : Addr) (fd : FuncData) (F : FD K "_law_equal" "_law_equal" s_law_equal [] [] f fd) : BindM K S fd ["one", "two"] 2 [] (fun vs _ => vs) := BindM.all (b_law_equal_B f fd F)
theorem b_Waking_init_4 (f : Addr) (fd : FuncData) (F : FD K "__init__" "Waking.__init__" s_Waking_init [] [("by", (V.str "own")), ("may", (V.bl false))] f fd) : BindM K S fd ["self", "event", "deed", "call", "by", "may"] 4 [] gT_b_Waking_init_4 := by
  obtain ⟨mv, h⟩ := F.kbinds0 (ps := ["self", "event", "deed", "call", "by", "may"]) 4 [] [("by", (V.str "own")), ("may", (V.bl false))] (fun vs mz zs => g_b_Waking_init_4 vs mz zs) (by simp) (by decide +kernel) (fun r1 r2 r3 => (((((((r1.drop 0).take 1).append ((r1.drop 1).take 1)).append ((r1.drop 2).take 1)).append ((r1.drop 3).take 1)).append ((r2.drop 0).take 1)).append ((r2.drop 1).take 1))) (fun D doc pm an cdv ct us mv ws h1 h2 h3 => match us, mv, ws, h1, h2, h3 with | [_, _, _, _], [_, _], [], _, _, _ => ⟨_, _, _, _, _, _, rfl, rfl, ⟨_, _, _, _, _, _, rfl, rfl, rfl⟩⟩)
  refine ⟨_, _, h, fun ρ H vs xs zs ys r1 r3 l1 l3 => ⟨?_, ?_⟩⟩
  · have r2 : RelL K S ρ H [(.str "own"), (.bl false)] [(V.str "own"), (V.bl false)] := by repeat constructor
    exact (((((((r1.drop 0).take 1).append ((r1.drop 1).take 1)).append ((r1.drop 2).take 1)).append ((r1.drop 3).take 1)).append ((r2.drop 0).take 1)).append ((r2.drop 1).take 1))
  · have e1 := r1.length
    have e3 := r3.length
    simp [g_b_Waking_init_4]
    simp at l3
    omega
theorem b_Waking_init_1_call_deed_event_may (f : Addr) (fd : FuncData) (F : FD K "__init__" "Waking.__init__" s_Waking_init [] [("by", (V.str "own")), ("may", (V.bl false))] f fd) : BindM K S fd ["self", "event", "deed", "call", "by", "may"] 1 ["call", "deed", "event", "may"] gT_b_Waking_init_1_call_deed_event_may := by
  obtain ⟨mv, h⟩ := F.kbinds0 (ps := ["self", "event", "deed", "call", "by", "may"]) 1 ["call", "deed", "event", "may"] [("by", (V.str "own"))] (fun vs mz zs => g_b_Waking_init_1_call_deed_event_may vs mz zs) (by simp) (by decide +kernel) (fun r1 r2 r3 => (((((((r1.drop 0).take 1).append ((r3.drop 2).take 1)).append ((r3.drop 1).take 1)).append ((r3.drop 0).take 1)).append ((r2.drop 0).take 1)).append ((r3.drop 3).take 1))) (fun D doc pm an cdv ct us mv ws h1 h2 h3 => match us, mv, ws, h1, h2, h3 with | [_], [_], [_, _, _, _], _, _, _ => ⟨_, _, _, _, _, _, rfl, rfl, rfl⟩)
  refine ⟨_, _, h, fun ρ H vs xs zs ys r1 r3 l1 l3 => ⟨?_, ?_⟩⟩
  · have r2 : RelL K S ρ H [(.str "own")] [(V.str "own")] := by repeat constructor
    exact (((((((r1.drop 0).take 1).append ((r3.drop 2).take 1)).append ((r3.drop 1).take 1)).append ((r3.drop 0).take 1)).append ((r2.drop 0).take 1)).append ((r3.drop 3).take 1))
  · have e1 := r1.length
    have e3 := r3.length
    simp [g_b_Waking_init_1_call_deed_event_may]
    simp at l3
    omega
theorem b_law_pool_B (f : Addr) (fd : FuncData) (F : FD K "_law_pool" "_law_pool" s_law_pool [] [] f fd) : L2.Binds K fd ["script"] [] := F.bindsN fun _ _ _ _ _ _ us hl => match us, hl with | [_], _ => rfl
theorem b_law_pool (f : Addr) (fd : FuncData) (F : FD K "_law_pool" "_law_pool" s_law_pool [] [] f fd) : BindM K S fd ["script"] 1 [] (fun vs _ => vs) := BindM.all (b_law_pool_B f fd F)
theorem b_law_drawn_B (f : Addr) (fd : FuncData) (F : FD K "_law_drawn" "_law_drawn" s_law_drawn [] [] f fd) : L2.Binds K fd ["jar"] [] := F.bindsN fun _ _ _ _ _ _ us hl => match us, hl with | [_], _ => rfl
theorem b_law_drawn (f : Addr) (fd : FuncData) (F : FD K "_law_drawn" "_law_drawn" s_law_drawn [] [] f fd) : BindM K S fd ["jar"] 1 [] (fun vs _ => vs) := BindM.all (b_law_drawn_B f fd F)
theorem b_law_bent_right_B (f : Addr) (fd : FuncData) (F : FD K "_law_bent_right" "_law_bent_right" s_law_bent_right [] [] f fd) : L2.Binds K fd ["jar", "one"] [] := F.bindsN fun _ _ _ _ _ _ us hl => match us, hl with | [_, _], _ => rfl
theorem b_law_bent_right (f : Addr) (fd : FuncData) (F : FD K "_law_bent_right" "_law_bent_right" s_law_bent_right [] [] f fd) : BindM K S fd ["jar", "one"] 2 [] (fun vs _ => vs) := BindM.all (b_law_bent_right_B f fd F)
theorem b_law_equal_right_B (f : Addr) (fd : FuncData) (F : FD K "_law_equal_right" "_law_equal_right" s_law_equal_right [] [] f fd) : L2.Binds K fd ["jar", "one"] [] := F.bindsN fun _ _ _ _ _ _ us hl => match us, hl with | [_, _], _ => rfl
theorem b_law_equal_right (f : Addr) (fd : FuncData) (F : FD K "_law_equal_right" "_law_equal_right" s_law_equal_right [] [] f fd) : BindM K S fd ["jar", "one"] 2 [] (fun vs _ => vs) := BindM.all (b_law_equal_right_B f fd F)
theorem b_law_turned_right_B (f : Addr) (fd : FuncData) (F : FD K "_law_turned_right" "_law_turned_right" s_law_turned_right [] [] f fd) : L2.Binds K fd [] [] := F.bindsN fun _ _ _ _ _ _ us hl => match us, hl with | [], _ => rfl
theorem b_law_turned_right (f : Addr) (fd : FuncData) (F : FD K "_law_turned_right" "_law_turned_right" s_law_turned_right [] [] f fd) : BindM K S fd [] 0 [] (fun vs _ => vs) := BindM.all (b_law_turned_right_B f fd F)
theorem sc_law_pool : FnScope ["script", "digits", "stirred", "at", "cell"] ["script"] (defScope s_law_pool) := C8.fnScope_by (by decide +kernel)
theorem D_law_pool (W : Fx K S mg base)  : DF P w K mg base S "_law_pool" 1 ["script"] f_law_pool s_law_pool [] [] := by
  obtain ⟨f, fd, hm, F⟩ := W.d_law_pool
  refine ⟨f, fd, d_defC (k := 0) F sc_law_pool fun cdv A outer s H E hcd hr hg => ?_, hm, F⟩
  have tk : L2N.Takes (cxOf (L2N.CX P w) P w K mg base ["script", "digits", "stirred", "at", "cell"] "_law_pool" (defScope s_law_pool) f cdv A outer s H E) (fun cls d _ H => E cls d H) := L2N.takes_of rfl rfl rfl rfl
  exact (ds_cons (ds_asg (d_tup (da_cons d_int (da_cons d_int da_nil))) (dg_tup rfl (dgs_cons (dg_v 1 sc_law_pool.nd Gx.free_plain) (dgs_cons (dg_v 2 sc_law_pool.nd Gx.free_plain) dgs_nil))))
  (ds_cons (ds_for PassesOwn.leaving rfl (di_rng1 W.n_range (da_cons (d_b c_len m_len W.n_len (da_cons (d_v 0) da_nil)) da_nil)) (dg_v 3 sc_law_pool.nd Gx.free_plain)
  (ds_cons (ds_set 4 sc_law_pool.nd Gx.free_plain (d_ty call_int1 m_int W.n_int (da_cons (d_b (call_max2 rfl) m_max2 W.n_max (da_cons (d_ix (d_v 0) (d_v 3)) (da_cons (d_op op_sub m_sub (d_neg d_int) (d_ix (d_v 0) (d_v 3))) da_nil))) da_nil)))
  (ds_cons (ds_set 2 sc_law_pool.nd Gx.free_plain (d_op op_modN m_mod (d_ty call_int1 m_int W.n_int (da_cons (d_op o_add m_add (d_op o_add m_add (d_op o_mul m_mul (d_v 2) d_int) (d_op op_modN m_mod (d_v 4) d_int)) d_int) da_nil)) d_int))
  (ds_one (ds_set 1 sc_law_pool.nd Gx.free_plain (d_if (PW.pt (dw_and (dt_cmp op_ge m_ge (d_v 4) (d_op op_pow m_pow d_int d_int)) (dw_and1 (dt_cmp op_lt m_lt (d_v 1) (d_op op_pow m_pow d_int d_int))))) (d_ty call_int1 m_int W.n_int (da_cons (d_op o_add m_add (d_op o_mul m_mul (d_v 1) (d_op op_pow m_pow d_int d_int)) (d_op op_modN m_mod (d_v 4) (d_op op_pow m_pow d_int d_int))) da_nil)) (d_v 1)))))))
  (ds_one (ds_ret (d_lst (da_cons (d_v 1) (da_cons (d_v 2) (da_cons d_int da_nil))))))))
theorem sc_law_take : FnScope ["jar", "many", "found"] ["jar", "many"] (defScope s_law_take) := C8.fnScope_by (by decide +kernel)
theorem D_law_take (W : Fx K S mg base)  : DF P w K mg base S "_law_take" 1 ["jar", "many"] f_law_take s_law_take [] [] := by
  obtain ⟨f, fd, hm, F⟩ := W.d_law_take
  refine ⟨f, fd, d_defC (k := 0) F sc_law_take fun cdv A outer s H E hcd hr hg => ?_, hm, F⟩
  have tk : L2N.Takes (cxOf (L2N.CX P w) P w K mg base ["jar", "many", "found"] "_law_take" (defScope s_law_take) f cdv A outer s H E) (fun cls d _ H => E cls d H) := L2N.takes_of rfl rfl rfl rfl
  exact (ds_cons (ds_if (dt_cmp op_gt m_gt (d_ix (d_v 0) d_int) d_int)
  (ds_cons (ds_set 2 sc_law_take.nd Gx.free_plain (d_op op_modN m_mod (d_ty call_int1 m_int W.n_int (da_cons (d_ix (d_v 0) d_int) da_nil)) (d_v 1)))
  (ds_cons (ds_asg (d_op op_fdivN m_div (d_ix (d_v 0) d_int) (d_v 1)) (dg_sub (d_v 0) d_int))
  (ds_one (ds_ret (d_v 2)))))
  ds_nil)
  (ds_cons (ds_asg (d_op o_add m_add (d_ix (d_v 0) d_int) d_int) (dg_sub (d_v 0) d_int))
  (ds_cons (ds_asg (d_op op_modN m_mod (d_ty call_int1 m_int W.n_int (da_cons (d_op o_add m_add (d_op o_add m_add (d_op o_mul m_mul (d_ix (d_v 0) d_int) d_int) (d_op o_mul m_mul d_int (d_ix (d_v 0) d_int))) d_int) da_nil)) d_int) (dg_sub (d_v 0) d_int))
  (ds_one (ds_ret (d_op op_modN m_mod (d_ty call_int1 m_int W.n_int (da_cons (d_op op_fdivN m_div (d_op op_modN m_mod (d_ty call_int1 m_int W.n_int (da_cons (d_op o_mul m_mul (d_ix (d_v 0) d_int) (d_ix (d_v 0) d_int)) da_nil)) d_int) d_int) da_nil)) (d_v 1)))))))
theorem sc_law_one : FnScope ["jar", "things"] ["jar", "things"] (defScope s_law_one) := C8.fnScope_by (by decide +kernel)
theorem D_law_one (W : Fx K S mg base) (D_law_take : DF P w K mg base S "_law_take" 1 ["jar", "many"] f_law_take s_law_take [] []) : DF P w K mg base S "_law_one" 2 ["jar", "things"] f_law_one s_law_one [] [] := by
  obtain ⟨f, fd, hm, F⟩ := W.d_law_one
  refine ⟨f, fd, d_defC (k := 1) F sc_law_one fun cdv A outer s H E hcd hr hg => ?_, hm, F⟩
  have tk : L2N.Takes (cxOf (L2N.CX P w) P w K mg base ["jar", "things"] "_law_one" (defScope s_law_one) f cdv A outer s H E) (fun cls d _ H => E cls d H) := L2N.takes_of rfl rfl rfl rfl
  exact (ds_one (ds_ret (d_ix (d_v 1) (d_call (D_law_take.call hr (by decide) hg tk (fun f fd F => b_law_take f fd F)) (da_cons (d_v 0) (da_cons (d_b c_len m_len W.n_len (da_cons (d_v 1) da_nil)) da_nil)) (LenL.cons (LenL.cons LenL.nil))))))
theorem sc_law_drawn : FnScope ["jar", "words", "event"] ["jar"] (defScope s_law_drawn) := C8.fnScope_by (by decide +kernel)
theorem D_law_drawn (W : Fx K S mg base) (D_law_one : DF P w K mg base S "_law_one" 2 ["jar", "things"] f_law_one s_law_one [] []) (D_law_take : DF P w K mg base S "_law_take" 1 ["jar", "many"] f_law_take s_law_take [] []) : DF P w K mg base S "_law_drawn" 3 ["jar"] f_law_drawn s_law_drawn [] [] := by
  obtain ⟨f, fd, hm, F⟩ := W.d_law_drawn
  refine ⟨f, fd, d_defC (k := 2) F sc_law_drawn fun cdv A outer s H E hcd hr hg => ?_, hm, F⟩
  have tk : L2N.Takes (cxOf (L2N.CX P w) P w K mg base ["jar", "words", "event"] "_law_drawn" (defScope s_law_drawn) f cdv A outer s H E) (fun cls d _ H => E cls d H) := L2N.takes_of rfl rfl rfl rfl
  exact (ds_cons (ds_set 1 sc_law_drawn.nd Gx.free_plain (d_lst (da_cons d_str (da_cons d_str (da_cons d_str (da_cons d_str (da_cons d_str (da_cons d_str (da_cons d_str da_nil)))))))))
  (ds_cons (ds_set 2 sc_law_drawn.nd Gx.free_plain (d_call (D_law_one.call hr (by decide) hg tk (fun f fd F => b_law_one f fd F)) (da_cons (d_v 0) (da_cons (d_lst (da_cons d_str (da_cons d_str (da_cons d_str (da_cons d_str da_nil))))) da_nil)) (LenL.cons (LenL.cons LenL.nil))))
  (ds_one (ds_ret (d_tup (da_cons (d_v 2) (da_cons (d_call (D_law_one.call hr (by decide) hg tk (fun f fd F => b_law_one f fd F)) (da_cons (d_v 0) (da_cons (d_v 1) da_nil)) (LenL.cons (LenL.cons LenL.nil))) (da_cons (d_call (D_law_one.call hr (by decide) hg tk (fun f fd F => b_law_one f fd F)) (da_cons (d_v 0) (da_cons (d_v 1) da_nil)) (LenL.cons (LenL.cons LenL.nil))) (da_cons (d_call (D_law_one.call hr (by decide) hg tk (fun f fd F => b_law_one f fd F)) (da_cons (d_v 0) (da_cons (d_lst (da_cons d_str (da_cons d_str da_nil))) da_nil)) (LenL.cons (LenL.cons LenL.nil))) (da_cons (d_cmp (op_eqD hr.units) m_eqD (d_call (D_law_take.call hr (by decide) hg tk (fun f fd F => b_law_take f fd F)) (da_cons (d_v 0) (da_cons d_int da_nil)) (LenL.cons (LenL.cons LenL.nil))) d_int) da_nil))))))))))
theorem sc_law_hp_is_word : FnScope ["thing", "sign"] ["thing"] (defScope s_law_hp_is_word) := C8.fnScope_by (by decide +kernel)
theorem D_law_hp_is_word (W : Fx K S mg base)  : DF P w K mg base S "_law_hp_is_word" 1 ["thing"] f_law_hp_is_word s_law_hp_is_word [] [] := by
  obtain ⟨f, fd, hm, F⟩ := W.d_law_hp_is_word
  refine ⟨f, fd, d_defC (k := 0) F sc_law_hp_is_word fun cdv A outer s H E hcd hr hg => ?_, hm, F⟩
  have tk : L2N.Takes (cxOf (L2N.CX P w) P w K mg base ["thing", "sign"] "_law_hp_is_word" (defScope s_law_hp_is_word) f cdv A outer s H E) (fun cls d _ H => E cls d H) := L2N.takes_of rfl rfl rfl rfl
  exact (ds_cons (ds_if (PW.pt (dw_or (dt_not (dt_tru (d_b call_isi (m_isi W.plain) W.n_isinstance (da_cons (d_v 0) (da_cons (d_bty W.n_str) da_nil))))) (dw_or1 (dt_not (dt_chain op_le m_le op_le m_le d_int (d_b c_len m_len W.n_len (da_cons (d_v 0) da_nil)) d_int)))))
  (ds_one (ds_ret d_bl))
  ds_nil)
  (ds_one (ds_ret (d_cmp (op_eqD hr.units) m_eqD (d_lc rfl sc_law_hp_is_word.nd (di_any (d_v 0)) (blkOk_by (own := [("sign", 1)]) (by kernel_rfl)) (free_cons Gx.free_plain free_nil) (by decide) (fun s H C cl fp => (dP_v 1 sc_law_hp_is_word.nd)) (fun s H C cl fp => (dts_one (dt_cmp o_notin m_notin (d_v 1) d_str))) (fun s H C cl fp => (d_v 1))) (d_lst da_nil)))))
theorem sc_law_hp_waking_due : FnScope ["one", "event", "deed", "call", "by", "may", "parts", "odd", "name", "is_fine"] ["one"] (defScope s_law_hp_waking_due) := C8.fnScope_by (by decide +kernel)
theorem D_law_hp_waking_due (W : Fx K S mg base) (D_law_hp_is_word : DF P w K mg base S "_law_hp_is_word" 1 ["thing"] f_law_hp_is_word s_law_hp_is_word [] []) : DF P w K mg base S "_law_hp_waking_due" 2 ["one"] f_law_hp_waking_due s_law_hp_waking_due [] [] := by
  obtain ⟨f, fd, hm, F⟩ := W.d_law_hp_waking_due
  refine ⟨f, fd, d_defC (k := 1) F sc_law_hp_waking_due fun cdv A outer s H E hcd hr hg => ?_, hm, F⟩
  have tk : L2N.Takes (cxOf (L2N.CX P w) P w K mg base ["one", "event", "deed", "call", "by", "may", "parts", "odd", "name", "is_fine"] "_law_hp_waking_due" (defScope s_law_hp_waking_due) f cdv A outer s H E) (fun cls d _ H => E cls d H) := L2N.takes_of rfl rfl rfl rfl
  exact (ds_cons (ds_asg (d_v 0) (dg_tup rfl (dgs_cons (dg_v 1 sc_law_hp_waking_due.nd Gx.free_plain) (dgs_cons (dg_v 2 sc_law_hp_waking_due.nd Gx.free_plain) (dgs_cons (dg_v 3 sc_law_hp_waking_due.nd Gx.free_plain) (dgs_cons (dg_v 4 sc_law_hp_waking_due.nd Gx.free_plain) (dgs_cons (dg_v 5 sc_law_hp_waking_due.nd Gx.free_plain) dgs_nil)))))))
  (ds_cons (ds_set 6 sc_law_hp_waking_due.nd Gx.free_plain (d_lst (da_cons (d_tup (da_cons d_str (da_cons (d_and (d_b call_isi (m_isi W.plain) W.n_isinstance (da_cons (d_v 1) (da_cons (d_bty W.n_str) da_nil))) (d_one (d_cmp o_in m_in (d_v 1) (d_tup (da_cons d_str (da_cons d_str (da_cons d_str (da_cons d_str da_nil)))))))) da_nil))) da_nil)))
  (ds_cons (ds_expr (d_bm PySem.F.plainAttrs_list PySem.F.slot_list_extend PySem.F.type_list_extend mt_extend m_extend (d_v 6) (da_cons (d_lst (da_cons (d_tup (da_cons d_str (da_cons (d_call (D_law_hp_is_word.call hr (by decide) hg tk (fun f fd F => b_law_hp_is_word f fd F)) (da_cons (d_v 2) da_nil) (LenL.cons LenL.nil)) da_nil))) (da_cons (d_tup (da_cons d_str (da_cons (d_call (D_law_hp_is_word.call hr (by decide) hg tk (fun f fd F => b_law_hp_is_word f fd F)) (da_cons (d_v 3) da_nil) (LenL.cons LenL.nil)) da_nil))) da_nil))) da_nil)))
  (ds_cons (ds_expr (d_bm PySem.F.plainAttrs_list PySem.F.slot_list_extend PySem.F.type_list_extend mt_extend m_extend (d_v 6) (da_cons (d_lst (da_cons (d_tup (da_cons d_str (da_cons (d_and (d_b call_isi (m_isi W.plain) W.n_isinstance (da_cons (d_v 4) (da_cons (d_bty W.n_str) da_nil))) (d_one (d_cmp o_in m_in (d_v 4) (d_tup (da_cons d_str (da_cons d_str da_nil)))))) da_nil))) (da_cons (d_tup (da_cons d_str (da_cons (d_b call_isi (m_isi W.plain) W.n_isinstance (da_cons (d_v 5) (da_cons (d_bty W.n_bool) da_nil))) da_nil))) da_nil))) da_nil)))
  (ds_cons (ds_setLc 7 rfl sc_law_hp_waking_due.nd Gx.free_plain rfl rfl rfl (di_any (d_v 6)) (blkOk_by (own := [("name", 8), ("is_fine", 9)]) (by kernel_rfl)) (free_cons Gx.free_plain (free_cons Gx.free_plain free_nil)) (by decide) (fun s H C cl fp => (dP_t rfl (dPs_cons 8 sc_law_hp_waking_due.nd (dPs_cons 9 sc_law_hp_waking_due.nd dPs_nil)))) (fun s H C cl fp => (dts_one (dt_not (dt_tru (d_v 9))))) (fun s H C cl fp => (d_v 8)))
  (ds_one (ds_ret (d_if (dt_cmp (op_neD hr.units) m_neD (d_v 7) (d_lst da_nil)) (d_ix (d_v 7) d_int) d_non))))))))
theorem sc_law_hx_heard : FnScope ["call", "odd", "some", "name", "is_one"] ["call"] (defScope s_law_hx_heard) := C8.fnScope_by (by decide +kernel)
theorem D_law_hx_heard (W : Fx K S mg base)  : DL P w K mg base S 6 "_law_hx_heard" 7 ["call"] f_law_hx_heard s_law_hx_heard := by
  obtain ⟨f, fd, hm, F⟩ := W.d_law_hx_heard
  refine ⟨f, fd, d_defL (k := 6) F sc_law_hx_heard fun cdv A outer s H E fl lam ρ0 hr hg hl => ?_, hm, F⟩
  have tk : L2N.Takes (cxOf (L2N.CX P w) P w K mg base ["call", "odd", "some", "name", "is_one"] "_law_hx_heard" (defScope s_law_hx_heard) f cdv A outer s H E) (fun cls d _ H => E cls d H) := L2N.takes_of rfl rfl rfl rfl
  have HL := hasL_of (G := GL H ρ0 fl fun cls d _ H => E cls d H) (X := cxOf (L2N.CX P w) P w K mg base ["call", "odd", "some", "name", "is_one"] "_law_hx_heard" (defScope s_law_hx_heard) f cdv A outer s H E) hl (fun ρ H σ h => h) rfl rfl rfl
  exact (ds_one (ds_try rfl rfl sc_law_hx_heard.nd tk (fun W' pn xe tk ps => (ds_one (ds_ret (d_tup (da_cons d_str (da_cons (d_act HL.tr (hr.mono (by decide)) hg tk) da_nil)))))) (.as (tstM_three W.exct W.g_BadDeed W.g_BadWaking W.g_BadRules) rfl rfl GL.free (fun a d oe c fs pn hz hv => (ds_only fun hc => (ds_cons (ds_set 2 sc_law_hx_heard.nd (GS.free GL.free (by decide)) (d_lst (da_cons (d_tup (da_cons d_str (da_cons (d_xi W.exct hz hv W.n_isinstance W.g_BadDeed) da_nil))) (da_cons (d_tup (da_cons d_str (da_cons (d_xi W.exct hz hv W.n_isinstance W.g_BadWaking) da_nil))) da_nil))))
  (ds_cons (ds_expr (d_bm PySem.F.plainAttrs_list PySem.F.slot_list_append PySem.F.type_list_append mt_append m_append (d_v 2) (da_cons (d_tup (da_cons d_str (da_cons (d_xi W.exct hz hv W.n_isinstance W.g_BadRules) da_nil))) da_nil)))
  (ds_one (ds_ret (d_tup (da_cons (d_join d_str (d_lcH (hot_of hz hv) List.mem_cons_self sc_law_hx_heard.nd (di_listH (d_v 2)) (blkOk_by (own := [("name", 3), ("is_one", 4)]) (by kernel_rfl)) (free_cons (GS.free GL.free (by decide)) (free_cons (GS.free GL.free (by decide)) free_nil)) (by decide) (fun s H C cl fp => (dP_tH ⟨_, hot_of hz hv, List.mem_singleton.mpr rfl⟩ (dPs_cons 3 sc_law_hx_heard.nd (dPs_cons 4 sc_law_hx_heard.nd dPs_nil)))) (fun s H C cl fp => (dts_one (dt_tru (d_v 4)))) (fun s H C cl fp => (d_v 3))) (hst := fun e A v A' h => by cases h; exact ⟨_, rfl⟩)) (da_cons (d_xf (W.xc_part c hc).1 (W.xc_part c hc).2 hz hv) da_nil))))))))) (.as (tstM_one W.exct W.g_BadTable) rfl rfl GL.free (fun a d oe c fs pn hz hv => (ds_only fun hc => (ds_one (ds_ret (d_tup (da_cons d_str (da_cons (d_xf (W.xc_table c hc).1 (W.xc_table c hc).2 hz hv) da_nil))))))) (.as (tstM_one W.exct W.g_BadEntry) rfl rfl GL.free (fun a d oe c fs pn hz hv => (ds_only fun hc => (ds_one (ds_ret (d_tup (da_cons d_str (da_cons (d_xf (W.xc_entry c hc).1 (W.xc_entry c hc).2 hz hv) da_nil))))))) (.as (tstM_one W.exct W.g_BadHands) rfl rfl GL.free (fun a d oe c fs pn hz hv => (ds_only fun hc => (ds_one (ds_ret (d_tup (da_cons d_str (da_cons (d_xf (W.xc_value c hc).1 (W.xc_value c hc).2 hz hv) da_nil))))))) (.as (tstM_one W.exct W.g_BadMove) rfl rfl GL.free (fun a d oe c fs pn hz hv => (ds_only fun hc => (ds_one (ds_ret (d_tup (da_cons d_str (da_cons (d_xf (W.xc_move c hc).1 (W.xc_move c hc).2 hz hv) da_nil))))))) (.as (tstM_one W.exct W.g_NotThere) rfl rfl GL.free (fun a d oe c fs pn hz hv => (ds_only fun hc => (ds_one (ds_ret (d_tup (da_cons d_str (da_cons (d_xf (W.xc_word c hc).1 (W.xc_word c hc).2 hz hv) da_nil))))))) (.only (tstM_one W.exct W.g_PileError) (fun a d oe c fs pn hz hv => (ds_one (ds_ret (d_tup (da_cons d_str (da_cons d_non da_nil)))))) .nil)))))))))
theorem sc_law_hx_says : FnScope ["call", "due"] ["call", "due"] (defScope s_law_hx_says) := C8.fnScope_by (by decide +kernel)
theorem D_law_hx_says (W : Fx K S mg base) (D_law_hx_heard : DL P w K mg base S 6 "_law_hx_heard" 7 ["call"] f_law_hx_heard s_law_hx_heard) : DL P w K mg base S 6 "_law_hx_says" 8 ["call", "due"] f_law_hx_says s_law_hx_says := by
  obtain ⟨f, fd, hm, F⟩ := W.d_law_hx_says
  refine ⟨f, fd, d_defL (k := 7) F sc_law_hx_says fun cdv A outer s H E fl lam ρ0 hr hg hl => ?_, hm, F⟩
  have tk : L2N.Takes (cxOf (L2N.CX P w) P w K mg base ["call", "due"] "_law_hx_says" (defScope s_law_hx_says) f cdv A outer s H E) (fun cls d _ H => E cls d H) := L2N.takes_of rfl rfl rfl rfl
  have HL := hasL_of (G := GL H ρ0 fl fun cls d _ H => E cls d H) (X := cxOf (L2N.CX P w) P w K mg base ["call", "due"] "_law_hx_says" (defScope s_law_hx_says) f cdv A outer s H E) hl (fun ρ H σ h => h) rfl rfl rfl
  exact (ds_one (ds_ret (d_cmp (op_eqD hr.units) m_eqD (d_b (c_repr hg (MP.room_repr hr)) m_repr W.n_repr (da_cons (d_callL HL (D_law_hx_heard.call hr (by decide) hg tk rfl (fun f fd F => b_law_hx_heard_B f fd F)) da_nil LenL.nil) da_nil)) (d_b (c_repr hg (MP.room_repr hr)) m_repr W.n_repr (da_cons (d_v 1) da_nil)))))
theorem sc_law_hx_waking_told : FnScope ["waking"] ["waking"] (defScope s_law_hx_waking_told) := C8.fnScope_by (by decide +kernel)
theorem D_law_hx_waking_told (W : Fx K S mg base)  : DF P w K mg base S "_law_hx_waking_told" 1 ["waking"] f_law_hx_waking_told s_law_hx_waking_told [] [] := by
  obtain ⟨f, fd, hm, F⟩ := W.d_law_hx_waking_told
  refine ⟨f, fd, d_defC (k := 0) F sc_law_hx_waking_told fun cdv A outer s H E hcd hr hg => ?_, hm, F⟩
  have tk : L2N.Takes (cxOf (L2N.CX P w) P w K mg base ["waking"] "_law_hx_waking_told" (defScope s_law_hx_waking_told) f cdv A outer s H E) (fun cls d _ H => E cls d H) := L2N.takes_of rfl rfl rfl rfl
  exact (ds_one (ds_ret (d_tup (da_cons (d_fld W.fl_event (d_v 0)) (da_cons (d_fld W.fl_deed (d_v 0)) (da_cons (d_fld W.fl_call (d_v 0)) (da_cons (d_fld W.fl_by (d_v 0)) (da_cons (d_fld W.fl_may (d_v 0)) da_nil))))))))
theorem sc_is_one_of : FnScope ["value", "words"] ["value", "words"] (defScope s_is_one_of) := C8.fnScope_by (by decide +kernel)
theorem D_is_one_of (W : Fx K S mg base)  : DF P w K mg base S "is_one_of" 1 ["value", "words"] f_is_one_of s_is_one_of [] [] := by
  obtain ⟨f, fd, hm, F⟩ := W.d_is_one_of
  refine ⟨f, fd, d_defC (k := 0) F sc_is_one_of fun cdv A outer s H E hcd hr hg => ?_, hm, F⟩
  have tk : L2N.Takes (cxOf (L2N.CX P w) P w K mg base ["value", "words"] "is_one_of" (defScope s_is_one_of) f cdv A outer s H E) (fun cls d _ H => E cls d H) := L2N.takes_of rfl rfl rfl rfl
  exact (ds_one (ds_ret (d_and (d_b call_isi (m_isi W.plain) W.n_isinstance (da_cons (d_v 0) (da_cons (d_bty W.n_str) da_nil))) (d_one (d_cmp o_in m_in (d_v 0) (d_v 1))))))
theorem sc_is_word : FnScope ["value", "letter"] ["value"] (defScope s_is_word) := C8.fnScope_by (by decide +kernel)
theorem D_is_word (W : Fx K S mg base)  : DF P w K mg base S "is_word" 1 ["value"] f_is_word s_is_word [] [] := by
  obtain ⟨f, fd, hm, F⟩ := W.d_is_word
  refine ⟨f, fd, d_defC (k := 0) F sc_is_word fun cdv A outer s H E hcd hr hg => ?_, hm, F⟩
  have tk : L2N.Takes (cxOf (L2N.CX P w) P w K mg base ["value", "letter"] "is_word" (defScope s_is_word) f cdv A outer s H E) (fun cls d _ H => E cls d H) := L2N.takes_of rfl rfl rfl rfl
  exact (ds_cons (ds_if (PW.pt (dw_or (dt_not (dt_tru (d_b call_isi (m_isi W.plain) W.n_isinstance (da_cons (d_v 0) (da_cons (d_bty W.n_str) da_nil))))) (dw_or1 (dt_not (dt_chain op_le m_le op_le m_le d_int (d_b c_len m_len W.n_len (da_cons (d_v 0) da_nil)) d_int)))))
  (ds_one (ds_ret d_bl))
  ds_nil)
  (ds_one (ds_ret (d_b (cr_all rfl) m_all W.n_all (da_cons (d_lc rfl sc_is_word.nd (di_any (d_v 0)) (blkOk_by (own := [("letter", 1)]) (by kernel_rfl)) (free_cons Gx.free_plain free_nil) (by decide) (fun s H C cl fp => (dP_v 1 sc_is_word.nd)) (fun s H C cl fp => dts_nil) (fun s H C cl fp => (d_cmp o_in m_in (d_v 1) (d_gk W.k_LETTERS (fun _ _ => by constructor))))) da_nil)))))
theorem sc_BadWaking_init : FnScope ["self", "part"] ["self", "part"] (defScope s_BadWaking_init) := C8.fnScope_by (by decide +kernel)
theorem D_BadWaking_init (W : Fx K S mg base) : DR P w K mg base S 2 "BadWaking" "BadWaking.__init__" "part" 1 ok_BadWaking ["self", "part"] s_BadWaking_init := by
  obtain ⟨fI, fd, F, iC, tI⟩ := W.x_BadWaking
  exact ⟨⟨fI, fd, d_initF (k := 0) F sc_BadWaking_init rfl rfl (fun cdv A outer s H E hr hg => ds_init (hE := fun ta ha => pe_binit rfl W.g_PileError W.b_PileError.1 W.b_PileError.2.1 W.b_PileError.2.2 ha) (ht := (txt_js (.cst (.var rfl (Or.inl rfl) (by decide) (by decide) .nil))))), W.g_BadWaking, F, iC, tI⟩, rfl, W.oe_BadWaking.1, W.oe_BadWaking.2⟩
theorem sc_Waking_init : FnScope ["self", "event", "deed", "call", "by", "may", "rows", "part", "is_right"] ["self", "event", "deed", "call", "by", "may"] (defScope s_Waking_init) := C8.fnScope_by (by decide +kernel)
theorem D_Waking_init (W : Fx K S mg base) (D_is_one_of : DF P w K mg base S "is_one_of" 1 ["value", "words"] f_is_one_of s_is_one_of [] []) (D_is_word : DF P w K mg base S "is_word" 1 ["value"] f_is_word s_is_word [] []) (D_BadWaking_init : DR P w K mg base S 2 "BadWaking" "BadWaking.__init__" "part" 1 ok_BadWaking ["self", "part"] s_BadWaking_init) : DC P w K mg base S 9 "Waking" "Waking.__init__" 3 ["self", "event", "deed", "call", "by", "may"] f_Waking_init s_Waking_init [] [("by", (V.str "own")), ("may", (V.bl false))] := by
  obtain ⟨f, fd, M, F⟩ := W.i_Waking
  refine ⟨f, fd, M, d_defC (k := 2) F sc_Waking_init fun cdv A outer s H E hcd hr hg => ?_, W.g_Waking, F⟩
  have tk : L2N.Takes (cxOf (L2N.CX P w) P w K mg base ["self", "event", "deed", "call", "by", "may", "rows", "part", "is_right"] "Waking.__init__" (defScope s_Waking_init) f cdv A outer s H E) (fun cls d _ H => E cls d H) := L2N.takes_of rfl rfl rfl rfl
  exact (ds_cons (ds_set 6 sc_Waking_init.nd Gx.free_plain (d_lst (da_cons (d_tup (da_cons d_str (da_cons (d_call (D_is_one_of.call hr (by decide) hg tk (fun f fd F => b_is_one_of f fd F)) (da_cons (d_v 1) (da_cons (d_gt W.k_EVENTS) da_nil)) (LenL.cons (LenL.cons LenL.nil))) da_nil))) (da_cons (d_tup (da_cons d_str (da_cons (d_call (D_is_word.call hr (by decide) hg tk (fun f fd F => b_is_word f fd F)) (da_cons (d_v 2) da_nil) (LenL.cons LenL.nil)) da_nil))) (da_cons (d_tup (da_cons d_str (da_cons (d_call (D_is_word.call hr (by decide) hg tk (fun f fd F => b_is_word f fd F)) (da_cons (d_v 3) da_nil) (LenL.cons LenL.nil)) da_nil))) da_nil)))))
  (ds_cons (ds_for PassesOwn.leaving rfl (di_any (d_op o_add m_add (d_v 6) (d_lst (da_cons (d_tup (da_cons d_str (da_cons (d_call (D_is_one_of.call hr (by decide) hg tk (fun f fd F => b_is_one_of f fd F)) (da_cons (d_v 4) (da_cons (d_tup (da_cons d_str (da_cons d_str da_nil))) da_nil)) (LenL.cons (LenL.cons LenL.nil))) da_nil))) (da_cons (d_tup (da_cons d_str (da_cons (d_b call_isi (m_isi W.plain) W.n_isinstance (da_cons (d_v 5) (da_cons (d_bty W.n_bool) da_nil))) da_nil))) da_nil))))) (dg_tup rfl (dgs_cons (dg_v 7 sc_Waking_init.nd Gx.free_plain) (dgs_cons (dg_v 8 sc_Waking_init.nd Gx.free_plain) dgs_nil)))
  (ds_one (ds_if (dt_not (dt_tru (d_v 8)))
  (ds_one (ds_raise rfl (D_BadWaking_init.rais hr (by decide) hg tk (fun f fd F => b_BadWaking_init_B f fd F)) (d_v 7)))
  ds_nil)))
  (ds_cons (ds_setF W.fl_event (d_v 0) (d_v 1))
  (ds_cons (ds_setF W.fl_deed (d_v 0) (d_v 2))
  (ds_cons (ds_setF W.fl_call (d_v 0) (d_v 3))
  (ds_cons (ds_setF W.fl_by (d_v 0) (d_v 4))
  (ds_one (ds_setF W.fl_may (d_v 0) (d_v 5)))))))))
theorem sc_law_hx_waking : FnScope ["one"] ["one"] (defScope s_law_hx_waking) := C8.fnScope_by (by decide +kernel)
theorem D_law_hx_waking (W : Fx K S mg base) (D_Waking_init : DC P w K mg base S 9 "Waking" "Waking.__init__" 3 ["self", "event", "deed", "call", "by", "may"] f_Waking_init s_Waking_init [] [("by", (V.str "own")), ("may", (V.bl false))]) : DF P w K mg base S "_law_hx_waking" 5 ["one"] f_law_hx_waking s_law_hx_waking [] [] := by
  obtain ⟨f, fd, hm, F⟩ := W.d_law_hx_waking
  refine ⟨f, fd, d_defC (k := 4) F sc_law_hx_waking fun cdv A outer s H E hcd hr hg => ?_, hm, F⟩
  have tk : L2N.Takes (cxOf (L2N.CX P w) P w K mg base ["one"] "_law_hx_waking" (defScope s_law_hx_waking) f cdv A outer s H E) (fun cls d _ H => E cls d H) := L2N.takes_of rfl rfl rfl rfl
  exact (ds_one (ds_ret (d_makeK (D_Waking_init.make hr (by decide) hg tk (fun f fd F => b_Waking_init_4_by_may f fd F)) (da_cons (d_ix (d_v 0) d_int) (da_cons (d_ix (d_v 0) d_int) (da_cons (d_ix (d_v 0) d_int) da_nil))) (LenL.cons (LenL.cons (LenL.cons LenL.nil))) (dk_cons (d_ix (d_v 0) d_int) (dk_cons (d_ix (d_v 0) d_int) dk_nil)) (LenL.cons (LenL.cons LenL.nil)))))
theorem sc_law_right : FnScope ["one", "due", "owed"] ["one"] (defScope s_law_right) := C8.fnScope_by (by decide +kernel)
theorem D_law_right (W : Fx K S mg base) (D_law_hp_waking_due : DF P w K mg base S "_law_hp_waking_due" 2 ["one"] f_law_hp_waking_due s_law_hp_waking_due [] []) (D_law_hx_says : DL P w K mg base S 6 "_law_hx_says" 8 ["call", "due"] f_law_hx_says s_law_hx_says) (D_law_hx_waking_told : DF P w K mg base S "_law_hx_waking_told" 1 ["waking"] f_law_hx_waking_told s_law_hx_waking_told [] []) (D_law_hx_waking : DF P w K mg base S "_law_hx_waking" 5 ["one"] f_law_hx_waking s_law_hx_waking [] []) : DF P w K mg base S "_law_right" 9 ["one"] f_law_right s_law_right [] [] := by
  obtain ⟨f, fd, hm, F⟩ := W.d_law_right
  refine ⟨f, fd, d_defC (k := 8) F sc_law_right fun cdv A outer s H E hcd hr hg => ?_, hm, F⟩
  have tk : L2N.Takes (cxOf (L2N.CX P w) P w K mg base ["one", "due", "owed"] "_law_right" (defScope s_law_right) f cdv A outer s H E) (fun cls d _ H => E cls d H) := L2N.takes_of rfl rfl rfl rfl
  have ML : MakesL (cxOf (L2N.CX P w) P w K mg base ["one", "due", "owed"] "_law_right" (defScope s_law_right) f cdv A outer s H E) S := (W.l_law_right f fd hm F).makes hcd
  exact (ds_cons (ds_set 1 sc_law_right.nd Gx.free_plain (d_call (D_law_hp_waking_due.call hr (by decide) hg tk (fun f fd F => b_law_hp_waking_due f fd F)) (da_cons (d_v 0) da_nil) (LenL.cons LenL.nil)))
  (ds_cons (ds_set 2 sc_law_right.nd Gx.free_plain (d_if (dt_cmp op_isN m_isN (d_v 1) d_non) (d_tup (da_cons d_str (da_cons (d_v 0) da_nil))) (d_tup (da_cons d_str (da_cons (d_v 1) da_nil)))))
  (ds_one (ds_ret (d_lam ML (D_law_hx_says.call hr (by decide) hg tk rfl (fun f fd F => b_law_hx_says_B f fd F)) (LamX.lamS_by (by kernel_rfl)) (fun A outer s H E f c' hr hg => (d_call (D_law_hx_waking_told.call hr (by decide) hg MP.tk_lam (fun f fd F => b_law_hx_waking_told f fd F)) (da_cons (d_call (D_law_hx_waking.call hr (by decide) hg MP.tk_lam (fun f fd F => b_law_hx_waking f fd F)) (da_cons (d_v 0) da_nil) (LenL.cons LenL.nil)) da_nil) (LenL.cons LenL.nil))) (da_cons (d_v 2) da_nil) (LenL.cons LenL.nil))))))
theorem sc_law_odd : FnScope ["jar", "at"] ["jar", "at"] (defScope s_law_odd) := C8.fnScope_by (by decide +kernel)
theorem D_law_odd (W : Fx K S mg base) (D_law_one : DF P w K mg base S "_law_one" 2 ["jar", "things"] f_law_one s_law_one [] []) : DF P w K mg base S "_law_odd" 3 ["jar", "at"] f_law_odd s_law_odd [] [] := by
  obtain ⟨f, fd, hm, F⟩ := W.d_law_odd
  refine ⟨f, fd, d_defC (k := 2) F sc_law_odd fun cdv A outer s H E hcd hr hg => ?_, hm, F⟩
  have tk : L2N.Takes (cxOf (L2N.CX P w) P w K mg base ["jar", "at"] "_law_odd" (defScope s_law_odd) f cdv A outer s H E) (fun cls d _ H => E cls d H) := L2N.takes_of rfl rfl rfl rfl
  exact (ds_cons (ds_if (dt_cmp (op_eqD hr.units) m_eqD (d_v 1) d_int)
  (ds_one (ds_ret (d_call (D_law_one.call hr (by decide) hg tk (fun f fd F => b_law_one f fd F)) (da_cons (d_v 0) (da_cons (d_lst (da_cons d_non (da_cons d_str (da_cons d_str (da_cons d_str (da_cons d_str (da_cons (d_tup (da_cons d_str da_nil)) (da_cons d_int (da_cons d_bl (da_cons d_str (da_cons d_str (da_cons (d_lst (da_cons d_str da_nil)) da_nil)))))))))))) da_nil)) (LenL.cons (LenL.cons LenL.nil)))))
  ds_nil)
  (ds_cons (ds_if (dt_cmp op_lt m_lt (d_v 1) d_int)
  (ds_one (ds_ret (d_call (D_law_one.call hr (by decide) hg tk (fun f fd F => b_law_one f fd F)) (da_cons (d_v 0) (da_cons (d_lst (da_cons d_non (da_cons d_str (da_cons d_str (da_cons d_str (da_cons d_int (da_cons (d_tup (da_cons d_str da_nil)) (da_cons d_str (da_cons (d_lst (da_cons d_str da_nil)) (da_cons d_bl da_nil)))))))))) da_nil)) (LenL.cons (LenL.cons LenL.nil)))))
  ds_nil)
  (ds_cons (ds_if (dt_cmp (op_eqD hr.units) m_eqD (d_v 1) d_int)
  (ds_one (ds_ret (d_call (D_law_one.call hr (by decide) hg tk (fun f fd F => b_law_one f fd F)) (da_cons (d_v 0) (da_cons (d_lst (da_cons d_non (da_cons d_str (da_cons d_str (da_cons d_str (da_cons d_str (da_cons d_int (da_cons d_int (da_cons d_bl (da_cons (d_tup (da_cons d_str da_nil)) (da_cons (d_lst (da_cons d_str da_nil)) da_nil))))))))))) da_nil)) (LenL.cons (LenL.cons LenL.nil)))))
  ds_nil)
  (ds_one (ds_ret (d_call (D_law_one.call hr (by decide) hg tk (fun f fd F => b_law_one f fd F)) (da_cons (d_v 0) (da_cons (d_lst (da_cons d_non (da_cons d_int (da_cons d_int (da_cons d_str (da_cons (d_tup da_nil) (da_cons d_str (da_cons (d_lst (da_cons d_bl da_nil)) da_nil)))))))) da_nil)) (LenL.cons (LenL.cons LenL.nil))))))))
theorem sc_law_bent_right : FnScope ["jar", "one", "at", "odd", "to"] ["jar", "one"] (defScope s_law_bent_right) := C8.fnScope_by (by decide +kernel)
theorem D_law_bent_right (W : Fx K S mg base) (D_law_right : DF P w K mg base S "_law_right" 9 ["one"] f_law_right s_law_right [] []) (D_law_odd : DF P w K mg base S "_law_odd" 3 ["jar", "at"] f_law_odd s_law_odd [] []) (D_law_take : DF P w K mg base S "_law_take" 1 ["jar", "many"] f_law_take s_law_take [] []) : DF P w K mg base S "_law_bent_right" 10 ["jar", "one"] f_law_bent_right s_law_bent_right [] [] := by
  obtain ⟨f, fd, hm, F⟩ := W.d_law_bent_right
  refine ⟨f, fd, d_defC (k := 9) F sc_law_bent_right fun cdv A outer s H E hcd hr hg => ?_, hm, F⟩
  have tk : L2N.Takes (cxOf (L2N.CX P w) P w K mg base ["jar", "one", "at", "odd", "to"] "_law_bent_right" (defScope s_law_bent_right) f cdv A outer s H E) (fun cls d _ H => E cls d H) := L2N.takes_of rfl rfl rfl rfl
  exact (ds_cons (ds_if (dt_not (dt_tru (d_call (D_law_right.call hr (by decide) hg tk (fun f fd F => b_law_right f fd F)) (da_cons (d_v 1) da_nil) (LenL.cons LenL.nil))))
  (ds_one (ds_ret d_bl))
  ds_nil)
  (ds_cons (ds_for PassesOwn.leaving rfl (di_rng1 W.n_range (da_cons d_int da_nil)) (dg_v 2 sc_law_bent_right.nd Gx.free_plain)
  (ds_cons (ds_set 3 sc_law_bent_right.nd Gx.free_plain (d_op o_add m_add (d_op o_add m_add (d_sl (d_v 1) dp_none (dp_some (d_v 2))) (d_tup (da_cons (d_call (D_law_odd.call hr (by decide) hg tk (fun f fd F => b_law_odd f fd F)) (da_cons (d_v 0) (da_cons (d_v 2) da_nil)) (LenL.cons (LenL.cons LenL.nil))) da_nil))) (d_sl (d_v 1) (dp_some (d_op o_add m_add (d_v 2) d_int)) dp_none)))
  (ds_cons (ds_if (dt_not (dt_tru (d_call (D_law_right.call hr (by decide) hg tk (fun f fd F => b_law_right f fd F)) (da_cons (d_v 3) da_nil) (LenL.cons LenL.nil))))
  (ds_one (ds_ret d_bl))
  ds_nil)
  (ds_cons (ds_set 4 sc_law_bent_right.nd Gx.free_plain (d_call (D_law_take.call hr (by decide) hg tk (fun f fd F => b_law_take f fd F)) (da_cons (d_v 0) (da_cons d_int da_nil)) (LenL.cons (LenL.cons LenL.nil))))
  (ds_one (ds_if (dt_not (dt_tru (d_call (D_law_right.call hr (by decide) hg tk (fun f fd F => b_law_right f fd F)) (da_cons (d_op o_add m_add (d_op o_add m_add (d_sl (d_v 3) dp_none (dp_some (d_v 4))) (d_tup (da_cons (d_call (D_law_odd.call hr (by decide) hg tk (fun f fd F => b_law_odd f fd F)) (da_cons (d_v 0) (da_cons (d_v 4) da_nil)) (LenL.cons (LenL.cons LenL.nil))) da_nil))) (d_sl (d_v 3) (dp_some (d_op o_add m_add (d_v 4) d_int)) dp_none)) da_nil) (LenL.cons LenL.nil))))
  (ds_one (ds_ret d_bl))
  ds_nil))))))
  (ds_one (ds_ret (d_call (D_law_right.call hr (by decide) hg tk (fun f fd F => b_law_right f fd F)) (da_cons (d_ty (call_tuple_of) m_tuple W.n_tuple (da_cons (d_lc rfl sc_law_bent_right.nd (di_rng1 W.n_range (da_cons d_int da_nil)) (blkOk_by (own := [("at", 2)]) (by kernel_rfl)) (free_cons Gx.free_plain free_nil) (by decide) (fun s H C cl fp => (dP_v 2 sc_law_bent_right.nd)) (fun s H C cl fp => dts_nil) (fun s H C cl fp => (d_call (D_law_odd.call hr (by decide) hg MP.tk_blk (fun f fd F => b_law_odd f fd F)) (da_cons (d_v 0) (da_cons (d_v 2) da_nil)) (LenL.cons (LenL.cons LenL.nil))))) da_nil)) da_nil) (LenL.cons LenL.nil))))))
theorem sc_law_others : FnScope ["jar", "one", "some", "other", "at"] ["jar", "one"] (defScope s_law_others) := C8.fnScope_by (by decide +kernel)
theorem D_law_others (W : Fx K S mg base) (D_law_one : DF P w K mg base S "_law_one" 2 ["jar", "things"] f_law_one s_law_one [] []) : DF P w K mg base S "_law_others" 3 ["jar", "one"] f_law_others s_law_others [] [] := by
  obtain ⟨f, fd, hm, F⟩ := W.d_law_others
  refine ⟨f, fd, d_defC (k := 2) F sc_law_others fun cdv A outer s H E hcd hr hg => ?_, hm, F⟩
  have tk : L2N.Takes (cxOf (L2N.CX P w) P w K mg base ["jar", "one", "some", "other", "at"] "_law_others" (defScope s_law_others) f cdv A outer s H E) (fun cls d _ H => E cls d H) := L2N.takes_of rfl rfl rfl rfl
  exact (ds_cons (ds_set 2 sc_law_others.nd Gx.free_plain (d_lst (da_cons (d_lc rfl sc_law_others.nd (di_any (d_lst (da_cons d_str (da_cons d_str (da_cons d_str (da_cons d_str da_nil)))))) (blkOk_by (own := [("other", 3)]) (by kernel_rfl)) (free_cons Gx.free_plain free_nil) (by decide) (fun s H C cl fp => (dP_v 3 sc_law_others.nd)) (fun s H C cl fp => (dts_one (dt_cmp (op_neD hr.units) m_neD (d_v 3) (d_ix (d_v 1) d_int)))) (fun s H C cl fp => (d_v 3))) (da_cons (d_lst (da_cons d_str da_nil)) (da_cons (d_lst (da_cons d_str da_nil)) da_nil)))))
  (ds_cons (ds_expr (d_bm PySem.F.plainAttrs_list PySem.F.slot_list_extend PySem.F.type_list_extend mt_extend m_extend (d_v 2) (da_cons (d_lst (da_cons (d_lst (da_cons (d_if (dt_cmp (op_eqD hr.units) m_eqD (d_ix (d_v 1) d_int) d_str) d_str d_str) da_nil)) (da_cons (d_lst (da_cons (d_not (d_ix (d_v 1) d_int)) da_nil)) da_nil))) da_nil)))
  (ds_one (ds_ret (d_lc rfl sc_law_others.nd (di_rng1 W.n_range (da_cons d_int da_nil)) (blkOk_by (own := [("at", 4)]) (by kernel_rfl)) (free_cons Gx.free_plain free_nil) (by decide) (fun s H C cl fp => (dP_v 4 sc_law_others.nd)) (fun s H C cl fp => dts_nil) (fun s H C cl fp => (d_op o_add m_add (d_op o_add m_add (d_sl (d_v 1) dp_none (dp_some (d_v 4))) (d_tup (da_cons (d_call (D_law_one.call hr (by decide) hg MP.tk_blk (fun f fd F => b_law_one f fd F)) (da_cons (d_v 0) (da_cons (d_ix (d_v 2) (d_v 4)) da_nil)) (LenL.cons (LenL.cons LenL.nil))) da_nil))) (d_sl (d_v 1) (dp_some (d_op o_add m_add (d_v 4) d_int)) dp_none))))))))
theorem sc_Waking_row : FnScope ["self"] ["self"] (defScope s_Waking_row) := C8.fnScope_by (by decide +kernel)
theorem D_Waking_row (W : Fx K S mg base)  : DM P w K mg base S 9 "row" "Waking.row" 1 ["self"] f_Waking_row s_Waking_row [] [] := by
  obtain ⟨f, fd, C, M, F⟩ := W.m_Waking_row
  refine ⟨f, fd, C, M, d_defC (k := 0) F sc_Waking_row fun cdv A outer s H E hcd hr hg => ?_, F⟩
  have tk : L2N.Takes (cxOf (L2N.CX P w) P w K mg base ["self"] "Waking.row" (defScope s_Waking_row) f cdv A outer s H E) (fun cls d _ H => E cls d H) := L2N.takes_of rfl rfl rfl rfl
  exact (ds_one (ds_ret (d_tup (da_cons (d_fld W.fl_event (d_v 0)) (da_cons (d_fld W.fl_deed (d_v 0)) (da_cons (d_fld W.fl_call (d_v 0)) (da_cons (d_fld W.fl_by (d_v 0)) da_nil)))))))
theorem sc_Waking_eq : FnScope ["self", "other"] ["self", "other"] (defScope s_Waking_eq) := C8.fnScope_by (by decide +kernel)
theorem D_Waking_eq (W : Fx K S mg base) (D_Waking_row : DM P w K mg base S 9 "row" "Waking.row" 1 ["self"] f_Waking_row s_Waking_row [] []) : DM P w K mg base S 9 "__eq__" "Waking.__eq__" 2 ["self", "other"] f_Waking_eq s_Waking_eq [] [] := by
  obtain ⟨f, fd, C, M, F⟩ := W.m_Waking_eq
  refine ⟨f, fd, C, M, d_defC (k := 1) F sc_Waking_eq fun cdv A outer s H E hcd hr hg => ?_, F⟩
  have tk : L2N.Takes (cxOf (L2N.CX P w) P w K mg base ["self", "other"] "Waking.__eq__" (defScope s_Waking_eq) f cdv A outer s H E) (fun cls d _ H => E cls d H) := L2N.takes_of rfl rfl rfl rfl
  exact (ds_one (ds_ret (d_and (d_b call_isi (m_isi W.plain) W.n_isinstance (da_cons (d_v 1) (da_cons (d_obj W.g_Waking) da_nil))) (d_and (d_cmp (op_eqD hr.units) m_eqD (d_meth0 (D_Waking_row.meth hr (by decide) hg tk (fun f fd F => b_Waking_row f fd F)) (d_v 0)) (d_meth0 (D_Waking_row.meth hr (by decide) hg tk (fun f fd F => b_Waking_row f fd F)) (d_v 1))) (d_one (d_cmp (op_eqD hr.units) m_eqD (d_fld W.fl_may (d_v 0)) (d_fld W.fl_may (d_v 1))))))))
theorem sc_law_equal : FnScope ["one", "two"] ["one", "two"] (defScope s_law_equal) := C8.fnScope_by (by decide +kernel)
theorem D_law_equal (W : Fx K S mg base) (D_law_hx_heard : DL P w K mg base S 6 "_law_hx_heard" 7 ["call"] f_law_hx_heard s_law_hx_heard) (D_Waking_eq : DM P w K mg base S 9 "__eq__" "Waking.__eq__" 2 ["self", "other"] f_Waking_eq s_Waking_eq [] []) : DF P w K mg base S "_law_equal" 8 ["one", "two"] f_law_equal s_law_equal [] [] := by
  obtain ⟨f, fd, hm, F⟩ := W.d_law_equal
  refine ⟨f, fd, d_defC (k := 7) F sc_law_equal fun cdv A outer s H E hcd hr hg => ?_, hm, F⟩
  have tk : L2N.Takes (cxOf (L2N.CX P w) P w K mg base ["one", "two"] "_law_equal" (defScope s_law_equal) f cdv A outer s H E) (fun cls d _ H => E cls d H) := L2N.takes_of rfl rfl rfl rfl
  have ML : MakesL (cxOf (L2N.CX P w) P w K mg base ["one", "two"] "_law_equal" (defScope s_law_equal) f cdv A outer s H E) S := (W.l_law_equal f fd hm F).makes hcd
  exact (ds_one (ds_ret (d_lam ML (D_law_hx_heard.call hr (by decide) hg tk rfl (fun f fd F => b_law_hx_heard_B f fd F)) (LamX.lamS_by (by kernel_rfl)) (fun A outer s H E f c' hr hg => (d_tup (da_cons (d_cmp (OpR.or (o_eqO (D_Waking_eq.eq hr (by decide) hg W.plain (by decide) rfl (fun f fd F => b_Waking_eq_B f fd F) W.eq_Waking)) (op_eqD hr.units)) (m_or (m_eqO (D_Waking_eq.eq hr (by decide) hg W.plain (by decide) rfl (fun f fd F => b_Waking_eq_B f fd F) W.eq_Waking)) m_eqD) (d_v 0) (d_v 1)) (da_cons (d_cmp (OpR.or (o_eqO (D_Waking_eq.eq hr (by decide) hg W.plain (by decide) rfl (fun f fd F => b_Waking_eq_B f fd F) W.eq_Waking)) (op_eqD hr.units)) (m_or (m_eqO (D_Waking_eq.eq hr (by decide) hg W.plain (by decide) rfl (fun f fd F => b_Waking_eq_B f fd F) W.eq_Waking)) m_eqD) (d_v 1) (d_v 0)) (da_cons (d_cmp (OpR.or (o_neO (D_Waking_eq.eq hr (by decide) hg W.plain (by decide) rfl (fun f fd F => b_Waking_eq_B f fd F) W.eq_Waking)) (op_neD hr.units)) (m_or (m_neO (D_Waking_eq.eq hr (by decide) hg W.plain (by decide) rfl (fun f fd F => b_Waking_eq_B f fd F) W.eq_Waking)) m_neD) (d_v 0) (d_v 1)) da_nil))))) da_nil LenL.nil)))
theorem sc_law_equal_right : FnScope ["jar", "one", "others", "sign", "made", "said", "other", "thing"] ["jar", "one"] (defScope s_law_equal_right) := C8.fnScope_by (by decide +kernel)
theorem D_law_equal_right (W : Fx K S mg base) (D_law_others : DF P w K mg base S "_law_others" 3 ["jar", "one"] f_law_others s_law_others [] []) (D_law_hx_heard : DL P w K mg base S 6 "_law_hx_heard" 7 ["call"] f_law_hx_heard s_law_hx_heard) (D_law_equal : DF P w K mg base S "_law_equal" 8 ["one", "two"] f_law_equal s_law_equal [] []) (D_law_hx_waking : DF P w K mg base S "_law_hx_waking" 5 ["one"] f_law_hx_waking s_law_hx_waking [] []) : DF P w K mg base S "_law_equal_right" 9 ["jar", "one"] f_law_equal_right s_law_equal_right [] [] := by
  obtain ⟨f, fd, hm, F⟩ := W.d_law_equal_right
  refine ⟨f, fd, d_defC (k := 8) F sc_law_equal_right fun cdv A outer s H E hcd hr hg => ?_, hm, F⟩
  have tk : L2N.Takes (cxOf (L2N.CX P w) P w K mg base ["jar", "one", "others", "sign", "made", "said", "other", "thing"] "_law_equal_right" (defScope s_law_equal_right) f cdv A outer s H E) (fun cls d _ H => E cls d H) := L2N.takes_of rfl rfl rfl rfl
  have ML : MakesL (cxOf (L2N.CX P w) P w K mg base ["jar", "one", "others", "sign", "made", "said", "other", "thing"] "_law_equal_right" (defScope s_law_equal_right) f cdv A outer s H E) S := (W.l_law_equal_right f fd hm F).makes hcd
  exact (ds_cons (ds_set 2 sc_law_equal_right.nd Gx.free_plain (d_call (D_law_others.call hr (by decide) hg tk (fun f fd F => b_law_others f fd F)) (da_cons (d_v 0) (da_cons (d_v 1) da_nil)) (LenL.cons (LenL.cons LenL.nil))))
  (ds_cons (ds_asg (d_lam ML (D_law_hx_heard.call hr (by decide) hg tk rfl (fun f fd F => b_law_hx_heard_B f fd F)) (LamX.lamS_by (by kernel_rfl)) (fun A outer s H E f c' hr hg => (d_lc rfl sc_law_equal_right.nd (di_any (d_op o_add m_add (d_lst (da_cons (d_v 1) (da_cons (d_v 1) da_nil))) (d_v 2))) (blkOk_by (own := [("other", 6)]) (by kernel_rfl)) (free_cons Gx.free_plain free_nil) (by decide) (fun s H C cl fp => (dP_v 6 sc_law_equal_right.nd)) (fun s H C cl fp => dts_nil) (fun s H C cl fp => (d_call (D_law_hx_waking.call hr (by decide) hg MP.tk_blk (fun f fd F => b_law_hx_waking f fd F)) (da_cons (d_v 6) da_nil) (LenL.cons LenL.nil))))) da_nil LenL.nil) (dg_tup rfl (dgs_cons (dg_v 3 sc_law_equal_right.nd Gx.free_plain) (dgs_cons (dg_v 4 sc_law_equal_right.nd Gx.free_plain) dgs_nil))))
  (ds_cons (ds_if (dt_cmp (op_neD hr.units) m_neD (d_v 3) d_str)
  (ds_one (ds_ret d_bl))
  ds_nil)
  (ds_cons (ds_setLc 5 rfl sc_law_equal_right.nd Gx.free_plain rfl rfl rfl (di_any (d_sl (d_v 4) (dp_some d_int) dp_none)) (blkOk_by (own := [("other", 6)]) (by kernel_rfl)) (free_cons Gx.free_plain free_nil) (by decide) (fun s H C cl fp => (dP_v 6 sc_law_equal_right.nd)) (fun s H C cl fp => dts_nil) (fun s H C cl fp => (d_call (D_law_equal.call hr (by decide) hg MP.tk_blk (fun f fd F => b_law_equal f fd F)) (da_cons (d_ix (d_v 4) d_int) (da_cons (d_v 6) da_nil)) (LenL.cons (LenL.cons LenL.nil)))))
  (ds_cons (ds_expr (d_bm PySem.F.plainAttrs_list PySem.F.slot_list_extend PySem.F.type_list_extend mt_extend m_extend (d_v 5) (da_cons (d_lc rfl sc_law_equal_right.nd (di_any (d_lst (da_cons d_non (da_cons (d_v 1) (da_cons (d_ix (d_v 1) d_int) (da_cons d_int (da_cons (d_ty (call_list_of) m_list W.n_list (da_cons (d_v 1) da_nil)) da_nil))))))) (blkOk_by (own := [("thing", 7)]) (by kernel_rfl)) (free_cons Gx.free_plain free_nil) (by decide) (fun s H C cl fp => (dP_v 7 sc_law_equal_right.nd)) (fun s H C cl fp => dts_nil) (fun s H C cl fp => (d_call (D_law_equal.call hr (by decide) hg MP.tk_blk (fun f fd F => b_law_equal f fd F)) (da_cons (d_ix (d_v 4) d_int) (da_cons (d_v 7) da_nil)) (LenL.cons (LenL.cons LenL.nil))))) da_nil)))
  (ds_one (ds_ret (d_cmp (op_eqD hr.units) m_eqD (d_b (c_repr hg (MP.room_repr hr)) m_repr W.n_repr (da_cons (d_v 5) da_nil)) (d_b (c_repr hg (MP.room_repr hr)) m_repr W.n_repr (da_cons (d_op o_add m_add (d_lst (da_cons (d_tup (da_cons d_str (da_cons (d_tup (da_cons d_bl (da_cons d_bl (da_cons d_bl da_nil)))) da_nil))) da_nil)) (d_op o_mul m_mul (d_lst (da_cons (d_tup (da_cons d_str (da_cons (d_tup (da_cons d_bl (da_cons d_bl (da_cons d_bl da_nil)))) da_nil))) da_nil)) d_int)) da_nil))))))))))
theorem sc_law_turned_right : FnScope ["said", "owed"] [] (defScope s_law_turned_right) := C8.fnScope_by (by decide +kernel)
theorem D_law_turned_right (W : Fx K S mg base) (D_law_hx_heard : DL P w K mg base S 6 "_law_hx_heard" 7 ["call"] f_law_hx_heard s_law_hx_heard) (D_Waking_eq : DM P w K mg base S 9 "__eq__" "Waking.__eq__" 2 ["self", "other"] f_Waking_eq s_Waking_eq [] []) (D_Waking_init : DC P w K mg base S 9 "Waking" "Waking.__init__" 3 ["self", "event", "deed", "call", "by", "may"] f_Waking_init s_Waking_init [] [("by", (V.str "own")), ("may", (V.bl false))]) (D_law_hx_waking_told : DF P w K mg base S "_law_hx_waking_told" 1 ["waking"] f_law_hx_waking_told s_law_hx_waking_told [] []) : DF P w K mg base S "_law_turned_right" 8 [] f_law_turned_right s_law_turned_right [] [] := by
  obtain ⟨f, fd, hm, F⟩ := W.d_law_turned_right
  refine ⟨f, fd, d_defC (k := 7) F sc_law_turned_right fun cdv A outer s H E hcd hr hg => ?_, hm, F⟩
  have tk : L2N.Takes (cxOf (L2N.CX P w) P w K mg base ["said", "owed"] "_law_turned_right" (defScope s_law_turned_right) f cdv A outer s H E) (fun cls d _ H => E cls d H) := L2N.takes_of rfl rfl rfl rfl
  have ML : MakesL (cxOf (L2N.CX P w) P w K mg base ["said", "owed"] "_law_turned_right" (defScope s_law_turned_right) f cdv A outer s H E) S := (W.l_law_turned_right f fd hm F).makes hcd
  exact (ds_cons (ds_set 0 sc_law_turned_right.nd Gx.free_plain (d_lst (da_cons (d_lam ML (D_law_hx_heard.call hr (by decide) hg tk rfl (fun f fd F => b_law_hx_heard_B f fd F)) (LamX.lamS_by (by kernel_rfl)) (fun A outer s H E f c' hr hg => (d_cmp (OpR.or (o_eqO (D_Waking_eq.eq hr (by decide) hg W.plain (by decide) rfl (fun f fd F => b_Waking_eq_B f fd F) W.eq_Waking)) (op_eqD hr.units)) (m_or (m_eqO (D_Waking_eq.eq hr (by decide) hg W.plain (by decide) rfl (fun f fd F => b_Waking_eq_B f fd F) W.eq_Waking)) m_eqD) (d_make (D_Waking_init.make hr (by decide) hg MP.tk_lam (fun f fd F => b_Waking_init_4 f fd F)) (da_cons d_str (da_cons d_str (da_cons d_str da_nil))) (LenL.cons (LenL.cons (LenL.cons LenL.nil)))) (d_make (D_Waking_init.make hr (by decide) hg MP.tk_lam (fun f fd F => b_Waking_init_4 f fd F)) (da_cons d_str (da_cons d_str (da_cons d_str da_nil))) (LenL.cons (LenL.cons (LenL.cons LenL.nil)))))) da_nil LenL.nil) da_nil)))
  (ds_cons (ds_expr (d_bm PySem.F.plainAttrs_list PySem.F.slot_list_append PySem.F.type_list_append mt_append m_append (d_v 0) (da_cons (d_lam ML (D_law_hx_heard.call hr (by decide) hg tk rfl (fun f fd F => b_law_hx_heard_B f fd F)) (LamX.lamS_by (by kernel_rfl)) (fun A outer s H E f c' hr hg => (d_call (D_law_hx_waking_told.call hr (by decide) hg MP.tk_lam (fun f fd F => b_law_hx_waking_told f fd F)) (da_cons (d_make (D_Waking_init.make hr (by decide) hg MP.tk_lam (fun f fd F => b_Waking_init_4 f fd F)) (da_cons d_str (da_cons d_str (da_cons d_str da_nil))) (LenL.cons (LenL.cons (LenL.cons LenL.nil)))) da_nil) (LenL.cons LenL.nil))) da_nil LenL.nil) da_nil)))
  (ds_cons (ds_expr (d_bm PySem.F.plainAttrs_list PySem.F.slot_list_append PySem.F.type_list_append mt_append m_append (d_v 0) (da_cons (d_lam ML (D_law_hx_heard.call hr (by decide) hg tk rfl (fun f fd F => b_law_hx_heard_B f fd F)) (LamX.lamS_by (by kernel_rfl)) (fun A outer s H E f c' hr hg => (d_call (D_law_hx_waking_told.call hr (by decide) hg MP.tk_lam (fun f fd F => b_law_hx_waking_told f fd F)) (da_cons (d_makeK0 (D_Waking_init.make hr (by decide) hg MP.tk_lam (fun f fd F => b_Waking_init_1_call_deed_event_may f fd F)) (dk_cons d_str (dk_cons d_str (dk_cons d_str (dk_cons d_bl dk_nil)))) (LenL.cons (LenL.cons (LenL.cons (LenL.cons LenL.nil))))) da_nil) (LenL.cons LenL.nil))) da_nil LenL.nil) da_nil)))
  (ds_cons (ds_expr (d_bm PySem.F.plainAttrs_list PySem.F.slot_list_append PySem.F.type_list_append mt_append m_append (d_v 0) (da_cons (d_lam ML (D_law_hx_heard.call hr (by decide) hg tk rfl (fun f fd F => b_law_hx_heard_B f fd F)) (LamX.lamS_by (by kernel_rfl)) (fun A outer s H E f c' hr hg => (d_makeK (D_Waking_init.make hr (by decide) hg MP.tk_lam (fun f fd F => b_Waking_init_4_by_may f fd F)) (da_cons d_str (da_cons d_str (da_cons d_str da_nil))) (LenL.cons (LenL.cons (LenL.cons LenL.nil))) (dk_cons d_str (dk_cons d_int dk_nil)) (LenL.cons (LenL.cons LenL.nil)))) da_nil LenL.nil) da_nil)))
  (ds_cons (ds_set 1 sc_law_turned_right.nd Gx.free_plain (d_lst (da_cons (d_tup (da_cons d_str (da_cons d_bl da_nil))) (da_cons (d_tup (da_cons d_str (da_cons (d_tup (da_cons d_str (da_cons d_str (da_cons d_str (da_cons d_str (da_cons d_bl da_nil)))))) da_nil))) (da_cons (d_tup (da_cons d_str (da_cons (d_tup (da_cons d_str (da_cons d_str (da_cons d_str (da_cons d_str (da_cons d_bl da_nil)))))) da_nil))) da_nil)))))
  (ds_one (ds_ret (d_cmp (OpR.or (o_eqO (D_Waking_eq.eq hr (by decide) hg W.plain (by decide) rfl (fun f fd F => b_Waking_eq_B f fd F) W.eq_Waking)) (op_eqD hr.units)) (m_or (m_eqO (D_Waking_eq.eq hr (by decide) hg W.plain (by decide) rfl (fun f fd F => b_Waking_eq_B f fd F) W.eq_Waking)) m_eqD) (d_b (c_repr hg (MP.room_repr hr)) m_repr W.n_repr (da_cons (d_v 0) da_nil)) (d_b (c_repr hg (MP.room_repr hr)) m_repr W.n_repr (da_cons (d_op o_add m_add (d_v 1) (d_lst (da_cons (d_tup (da_cons d_str (da_cons d_str da_nil))) da_nil))) da_nil))))))))))
theorem sc_law : FnScope ["script", "jar", "go", "one", "event", "by"] ["script"] (defScope s_law) := C8.fnScope_by (by decide +kernel)
theorem D_law (W : Fx K S mg base) (D_law_pool : DF P w K mg base S "_law_pool" 1 ["script"] f_law_pool s_law_pool [] []) (D_law_drawn : DF P w K mg base S "_law_drawn" 3 ["jar"] f_law_drawn s_law_drawn [] []) (D_law_bent_right : DF P w K mg base S "_law_bent_right" 10 ["jar", "one"] f_law_bent_right s_law_bent_right [] []) (D_law_equal_right : DF P w K mg base S "_law_equal_right" 9 ["jar", "one"] f_law_equal_right s_law_equal_right [] []) (D_law_right : DF P w K mg base S "_law_right" 9 ["one"] f_law_right s_law_right [] []) (D_law_turned_right : DF P w K mg base S "_law_turned_right" 8 [] f_law_turned_right s_law_turned_right [] []) : DF P w K mg base S "law" 11 ["script"] f_law s_law [] [] := by
  obtain ⟨f, fd, hm, F⟩ := W.d_law
  refine ⟨f, fd, d_defC (k := 10) F sc_law fun cdv A outer s H E hcd hr hg => ?_, hm, F⟩
  have tk : L2N.Takes (cxOf (L2N.CX P w) P w K mg base ["script", "jar", "go", "one", "event", "by"] "law" (defScope s_law) f cdv A outer s H E) (fun cls d _ H => E cls d H) := L2N.takes_of rfl rfl rfl rfl
  exact (ds_cons (ds_set 1 sc_law.nd Gx.free_plain (d_call (D_law_pool.call hr (by decide) hg tk (fun f fd F => b_law_pool f fd F)) (da_cons (d_v 0) da_nil) (LenL.cons LenL.nil)))
  (ds_cons (ds_for PassesOwn.leaving rfl (di_rng1 W.n_range (da_cons d_int da_nil)) (dg_v 2 sc_law.nd Gx.free_plain)
  (ds_cons (ds_set 3 sc_law.nd Gx.free_plain (d_call (D_law_drawn.call hr (by decide) hg tk (fun f fd F => b_law_drawn f fd F)) (da_cons (d_v 1) da_nil) (LenL.cons LenL.nil)))
  (ds_one (ds_if (PW.pt (dw_or (dt_not (dt_tru (d_call (D_law_bent_right.call hr (by decide) hg tk (fun f fd F => b_law_bent_right f fd F)) (da_cons (d_v 1) (da_cons (d_v 3) da_nil)) (LenL.cons (LenL.cons LenL.nil))))) (dw_or1 (dt_not (dt_tru (d_call (D_law_equal_right.call hr (by decide) hg tk (fun f fd F => b_law_equal_right f fd F)) (da_cons (d_v 1) (da_cons (d_v 3) da_nil)) (LenL.cons (LenL.cons LenL.nil))))))))
  (ds_one (ds_ret d_bl))
  ds_nil))))
  (ds_cons (ds_for PassesOwn.leaving rfl (di_any (d_lst (da_cons d_str (da_cons d_str (da_cons d_str (da_cons d_str da_nil)))))) (dg_v 4 sc_law.nd Gx.free_plain)
  (ds_one (ds_for PassesOwn.leaving rfl (di_any (d_lst (da_cons d_str (da_cons d_str da_nil)))) (dg_v 5 sc_law.nd Gx.free_plain)
  (ds_one (ds_if (PW.pt (dw_or (dt_not (dt_tru (d_call (D_law_right.call hr (by decide) hg tk (fun f fd F => b_law_right f fd F)) (da_cons (d_tup (da_cons (d_v 4) (da_cons d_str (da_cons d_str (da_cons (d_v 5) (da_cons d_bl da_nil)))))) da_nil) (LenL.cons LenL.nil)))) (dw_or1 (dt_not (dt_tru (d_call (D_law_right.call hr (by decide) hg tk (fun f fd F => b_law_right f fd F)) (da_cons (d_tup (da_cons (d_v 4) (da_cons d_str (da_cons d_str (da_cons (d_v 5) (da_cons d_bl da_nil)))))) da_nil) (LenL.cons LenL.nil)))))))
  (ds_one (ds_ret d_bl))
  ds_nil)))))
  (ds_one (ds_ret (d_call0 (D_law_turned_right.call hr (by decide) hg tk (fun f fd F => b_law_turned_right f fd F))))))))
end
end K04
end S23
section S24
set_option linter.all false
set_option maxRecDepth 100000
namespace K04
open PySem PySem.Spec PyProof.Rows L2 MP
/-- the jar: what is left of the numbers, the stirred one, a count of at most N -/
def Jr (j N : Nat) (A : Hm) : Prop := ∃ d s c : Int, A[j]? = some (.lst [.int d, .int s, .int c]) ∧ 0 ≤ d ∧ d < 10 ^ 120 ∧ 0 ≤ s ∧ s < 2147483647 ∧ 0 ≤ c ∧ c ≤ (N : Int)
theorem log_lt {x : Int} {b k : Nat} (h0 : 0 ≤ x) (h : x < b) (hb : b ≤ 2 ^ k) : x.natAbs.log2 < k + 1 := by
  by_cases hx : x.natAbs = 0
  · rw [hx]; simp
  · have h1 : x.natAbs < 2 ^ k := by omega
    have := (Nat.log2_lt hx).mpr h1
    omega
theorem take_ok {j N : Nat} {A : Hm} {m : Int} (h : Jr j N A) (hN : N < 1000000) (hm : 0 < m) (hm2 : m < 1073741824) :
    wE (f_law_take [.ref j, .int m] A) (fun v B => (∃ r : Nat, v = .int r ∧ (r : Int) < m) ∧ Jr j (N + 1) B ∧ Fr j A B ∧ B.length = A.length) noX := by
  obtain ⟨d, s, c, hA, d0, d1, s0, s1, c0, c1⟩ := h
  have hj : j < A.length := (List.getElem?_eq_some_iff.mp hA).1
  have i0 : fIx (.ref j) (.int 0) A = .ok (.int d) A := ix_lst (k := 0) hA rfl
  have i2 : fIx (.ref j) (.int 2) A = .ok (.int c) A := ix_lst (k := 2) hA rfl
  have p0 : ∀ v Q, wPut (.ref j) (.int 0) v A Q = Q (A.set j (.lst [v, .int s, .int c])) := fun v Q => put_ok (k := 0) hA (by simp)
  have p2 : ∀ v Q, wPut (.ref j) (.int 2) v A Q = Q (A.set j (.lst [.int d, .int s, v])) := fun v Q => put_ok (k := 2) hA (by simp)
  unfold f_law_take
  rw [wE_fn]
  by_cases hd : 0 < d
  · simp [m_law_take, i0, hd, p0]
    have hne : m ≠ 0 := by omega
    have f1 := Int.fmod_nonneg d0 (Int.le_of_lt hm)
    have f2 := Int.fmod_lt_of_pos d hm
    have f3 : d.fdiv m ≤ d := by
      rw [Int.fdiv_eq_ediv_of_nonneg _ (Int.le_of_lt hm)]
      exact Int.ediv_le_self _ d0
    refine ⟨hne, ⟨hne, by omega⟩, ⟨(d.fmod m).toNat, by omega, by omega⟩, ⟨d.fdiv m, s, c, by simp [hj], Int.fdiv_nonneg d0 (Int.le_of_lt hm), by omega, s0, s1, c0, by omega⟩, Fr.set⟩
  · have hA2 : (A.set j (.lst [.int d, .int s, .int (c + 1)]))[j]? = some (.lst [.int d, .int s, .int (c + 1)]) := by simp [hj]
    have k1 : fIx (.ref j) (.int 1) (A.set j (.lst [.int d, .int s, .int (c + 1)])) = .ok (.int s) (A.set j (.lst [.int d, .int s, .int (c + 1)])) := ix_lst (k := 1) hA2 rfl
    have k2 : fIx (.ref j) (.int 2) (A.set j (.lst [.int d, .int s, .int (c + 1)])) = .ok (.int (c + 1)) (A.set j (.lst [.int d, .int s, .int (c + 1)])) := ix_lst (k := 2) hA2 rfl
    have p1 : ∀ v Q, wPut (.ref j) (.int 1) v (A.set j (.lst [.int d, .int s, .int (c + 1)])) Q = Q (A.set j (.lst [.int d, v, .int (c + 1)])) := fun v Q => (put_ok (k := 1) hA2 (by simp)).trans (by simp)
    have l1 : ∀ v : T, fIx (.ref j) (.int 1) (A.set j (.lst [.int d, v, .int (c + 1)])) = .ok v (A.set j (.lst [.int d, v, .int (c + 1)])) := fun v => ix_lst (k := 1) (l := [.int d, v, .int (c + 1)]) (by simp [hj]) rfl
    simp [m_law_take, i0, i2, hd, p2, k1, k2, p1, l1]
    generalize hs' : (s * 39373 + 7919 * (c + 1) + 7).fmod 2147483647 = s'
    have f1 : 0 ≤ s' := by rw [← hs']; exact Int.fmod_nonneg (by omega) (by omega)
    have f2 : s' < 2147483647 := by rw [← hs']; exact Int.fmod_lt_of_pos _ (by omega)
    have g1 := log_lt (b := 2147483648) (k := 31) s0 (by omega) (by decide)
    have g2 := log_lt (b := 2147483648) (k := 31) f1 (by omega) (by decide)
    have g3 := log_lt (b := 2147483648) (k := 31) (x := c + 1) (by omega) (by omega) (by decide)
    have hne : m ≠ 0 := by omega
    generalize hq : ((s' * s').fmod 2147483629).fdiv 32 = q
    have q0 : 0 ≤ q := by rw [← hq]; exact Int.fdiv_nonneg (Int.fmod_nonneg (Int.mul_nonneg f1 f1) (by omega)) (by omega)
    have f5 := Int.fmod_nonneg q0 (Int.le_of_lt hm)
    have f6 := Int.fmod_lt_of_pos q hm
    have n1 : (39373 : Int).natAbs.log2 < 40 := by decide
    have n2 : (7919 : Int).natAbs.log2 < 40 := by decide
    refine ⟨by simp at n1 ⊢; omega, by simp at n2 ⊢; omega, by omega, hne, ⟨(q.fmod m).toNat, by omega, by omega⟩, ⟨d, s', c + 1, by simp [hj], d0, d1, f1, f2, by omega, by omega⟩, Fr.set⟩
end K04
end S24
section S25
set_option linter.all false
set_option maxRecDepth 100000
namespace K04
open PySem PySem.Spec PyProof.Rows L2 MP
def isSt (x : T) : Bool := match x with | .str _ => true | _ => false
def isBl (x : T) : Bool := match x with | .bl _ => true | _ => false
def inL (t : T) : Bool := match t with
  | .str c => !(Builtin.Str.occurrences "abcdefghijklmnopqrstuvwxyz" c 0 (Str.length "abcdefghijklmnopqrstuvwxyz") 1).isEmpty
  | _ => false
def W (x : T) : Bool := match x with
  | .str s => decide (1 ≤ s.length) && decide (s.length ≤ 8) && (lets s).all inL
  | _ => false
theorem in_let {c : Str} {A : Hm} : fIn (.str c) (.str "abcdefghijklmnopqrstuvwxyz") A = .ok (.bl (inL (.str c))) A := rfl
theorem nin_let {c : Str} {A : Hm} : fNotIn (.str c) (.str "abcdefghijklmnopqrstuvwxyz") A = .ok (.bl (!inL (.str c))) A := rfl
theorem lets_str {s : Str} {t : T} (h : t ∈ lets s) : ∃ c : Nat, t = .str ⟨#[c]⟩ ∧ c ∈ s.cps := by
  simp only [lets, List.mem_map] at h
  obtain ⟨c, hc, rfl⟩ := h
  exact ⟨c, rfl, by simpa using hc⟩
theorem ok_str {j n : Nat} {A : Hm} {s : Str} {d : PyData} (h : Ok j A (.str s) d n) : PyData.strOk s = true := by
  have h1 := h.dt A 0 Fr.refl
  have h2 := h.lay
  cases h1
  simpa [PyData.canLay0] using h2
theorem str_lets {s : Str} (h : PyData.strOk s = true) {c : Nat} (hc : c ∈ s.cps) : PyData.strOk ⟨#[c]⟩ = true := by
  unfold PyData.strOk at h ⊢
  rw [Array.all_eq_true_iff_forall_mem] at h
  simpa using h c hc
theorem hpw_ok {j n : Nat} {A B : Hm} {x : T} {d : PyData} (h : Ok j A x d n) (f : Fr j A B) : wE (f_law_hp_is_word [x] B) (fun v C => v = .bl (W x) ∧ Fa B C) noX := by
  unfold f_law_hp_is_word
  rw [wE_fn]
  obtain ⟨b, h1, h2, h3, h4⟩ := h.ty
  have e := isi_kind (cs := [9]) (n := "str") (h4 B f) h1 (by decide)
  by_cases hb : b = "str"
  · obtain ⟨s, rfl⟩ := h2 hb
    have hs := ok_str h
    have hl : fLen [.str s] B = .ok (.int s.length) B := by simp [fLen, lenT, h.sz s rfl]
    subst hb
    by_cases g1 : 1 ≤ s.length
    · by_cases g2 : s.length ≤ 8
      · have gi : (1 : Int) ≤ (s.length : Int) := by omega
        have gj : (s.length : Int) ≤ 8 := by omega
        simp [m_law_hp_is_word, e, hl, gi, gj]
        refine wE_lcP (lets s) (fun t => if inL t then none else some t) (by simp; show s.length ≤ _; unfold sizeLine; omega) (by simp; exact ⟨rfl, fun i acc => itS_get⟩) (fun t acc ht => ?_) ?_
        · obtain ⟨c, rfl, hc⟩ := lets_str ht
          refine ⟨_, rfl, ?_⟩
          cases q : inL (.str ⟨#[c]⟩) with
          | true => simp [wipeE, mbind, eBin, R.bind, eC, nin_let, q, isB, eV]
          | false => simp [wipeE, mbind, eBin, R.bind, eC, nin_let, q, isB, eV]
        · have hall : allStr ((lets s).filterMap fun t => if inL t then none else some t) = true := by
            unfold allStr
            rw [List.all_eq_true]
            intro t ht
            rw [List.mem_filterMap] at ht
            obtain ⟨u, hu, hv⟩ := ht
            obtain ⟨c, rfl, hc⟩ := lets_str hu
            split at hv
            · cases hv
            · cases hv; exact str_lets hs hc
          rw [eqD_emp (l := (lets s).filterMap fun t => if inL t then none else some t) (h_old (by simp)) (by simp) hall]
          refine ⟨?_, Fa.app.trans Fa.app⟩
          simp only [W, g1, g2, decide_true, Bool.true_and]
          congr 1
          rw [Bool.eq_iff_iff]
          simp [List.isEmpty_iff, List.filterMap_eq_nil_iff]
      · have gj : ¬ (s.length : Int) ≤ 8 := by omega
        have gi : (1 : Int) ≤ (s.length : Int) := by omega
        simp [m_law_hp_is_word, e, hl, gi, gj, W, g2]
        exact Fa.refl
    · have gi : ¬ (1 : Int) ≤ (s.length : Int) := by omega
      simp [m_law_hp_is_word, e, hl, gi, W, g1]
      exact Fa.refl
  · have hw : W x = false := by
      cases x with
      | str s =>
        have := h4 A Fr.refl
        simp [tyT] at this
        exact absurd this.symm hb
      | _ => rfl
    have hbb : (b == "str" || (b == "bool" && ("str" == "int"))) = false := by simp [hb]
    rw [hbb] at e
    simp [m_law_hp_is_word, e, hw]
    exact Fa.refl

theorem isS_ok {j n : Nat} {A B : Hm} {x : T} {d : PyData} (h : Ok j A x d n) (f : Fr j A B) : fIsi [9] [x, .ty "str"] B = .ok (.bl (isSt x)) B := by
  obtain ⟨b, h1, h2, h3, h4⟩ := h.ty
  have e := isi_kind (cs := [9]) (n := "str") (h4 B f) h1 (by decide)
  rw [e]
  by_cases hb : b = "str"
  · obtain ⟨s, rfl⟩ := h2 hb
    simp [hb, isSt, isBl]
  · have : (b == "str" || (b == "bool" && ("str" == "int"))) = false := by simp [hb]
    rw [this]
    cases x with
    | str s =>
      have := h4 A Fr.refl
      simp [tyT] at this
      exact absurd this.symm hb
    | _ => rfl
theorem isB_ok {j n : Nat} {A B : Hm} {x : T} {d : PyData} (h : Ok j A x d n) (f : Fr j A B) : fIsi [9] [x, .ty "bool"] B = .ok (.bl (isBl x)) B := by
  obtain ⟨b, h1, h2, h3, h4⟩ := h.ty
  have e := isi_kind (cs := [9]) (n := "bool") (h4 B f) h1 (by decide)
  rw [e]
  by_cases hb : b = "bool"
  · obtain ⟨s, rfl⟩ := h3 hb
    simp [hb, isSt, isBl]
  · have : (b == "bool" || (b == "bool" && ("bool" == "int"))) = false := by simp [hb]
    rw [this]
    cases x with
    | bl s =>
      have := h4 A Fr.refl
      simp [tyT] at this
      exact absurd this.symm hb
    | _ => rfl
theorem isw_ok {j n : Nat} {A B : Hm} {x : T} {d : PyData} (h : Ok j A x d n) (f : Fr j A B) : wE (f_is_word [x] B) (fun v C => v = .bl (W x) ∧ Fa B C) noX := by
  unfold f_is_word
  rw [wE_fn]
  have e := isS_ok h f
  cases x with
  | str s =>
    simp only [isSt] at e
    have hs := ok_str h
    have hl : fLen [.str s] B = .ok (.int s.length) B := by simp [fLen, lenT, h.sz s rfl]
    by_cases g1 : 1 ≤ s.length
    · by_cases g2 : s.length ≤ 8
      · have gi : (1 : Int) ≤ (s.length : Int) := by omega
        have gj : (s.length : Int) ≤ 8 := by omega
        simp [m_is_word, e, hl, gi, gj]
        refine wE_lcP (lets s) (fun t => some (.bl (inL t))) (by simp; show s.length ≤ _; unfold sizeLine; omega) (by simp; exact ⟨rfl, fun i acc => itS_get⟩) (fun t acc ht => ?_) ?_
        · obtain ⟨c, rfl, hc⟩ := lets_str ht
          refine ⟨_, rfl, ?_⟩
          simp [wipeE, mbind, eBin, R.bind, eC, in_let, eV, bYes]
        · have e2 : (lets s).filterMap (fun t => some (T.bl (inL t))) = (lets s).map fun t => .bl (inL t) := by rw [List.filterMap_eq_map']
          rw [e2]
          simp only [fAll, lstOf, h_last, all_bools, wE_ok]
          refine ⟨?_, Fa.app⟩
          simp only [W, g1, g2, decide_true, Bool.true_and]
          congr 1
          rw [Bool.eq_iff_iff]
          simp
      · have gj : ¬ (s.length : Int) ≤ 8 := by omega
        have gi : (1 : Int) ≤ (s.length : Int) := by omega
        simp [m_is_word, e, hl, gi, gj, W, g2]
        exact Fa.refl
    · have gi : ¬ (1 : Int) ≤ (s.length : Int) := by omega
      simp [m_is_word, e, hl, gi, W, g1]
      exact Fa.refl
  | _ =>
    simp only [isSt] at e
    simp [m_is_word, e, W]
    exact Fa.refl
/-- one of these texts -/
def O (ws : List T) (x : T) : Bool := match x with
  | .str s => ws.any fun y => eqT y (.str s)
  | _ => false
theorem in_tup {s : Str} {ws : List T} {A : Hm} (h : ws.all flatT = true) : fIn (.str s) (.tup ws) A = .ok (.bl (ws.any fun y => eqT y (.str s))) A := by
  have : inT (.str s) (.tup ws) A = some (ws.any fun y => eqT y (.str s)) := by
    show (if flatT (.str s) = true ∧ ws.all flatT = true then _ else _) = _
    rw [if_pos ⟨rfl, h⟩]
  simp only [fIn, this]
theorem one_of_ok {j n : Nat} {A B : Hm} {x : T} {d : PyData} {ws : List T} (h : Ok j A x d n) (f : Fr j A B) (hw : ws.all flatT = true) : wE (f_is_one_of [x, .tup ws] B) (fun v C => v = .bl (O ws x) ∧ C = B) noX := by
  unfold f_is_one_of
  rw [wE_fn]
  have e := isS_ok h f
  cases x with
  | str s =>
    simp only [isSt] at e
    simp [m_is_one_of, e, in_tup hw, O]
  | _ =>
    simp only [isSt] at e
    simp [m_is_one_of, e, O]
end K04
end S25
section S26
set_option linter.all false
set_option maxRecDepth 100000
namespace K04
open PySem PySem.Spec PyProof.Rows L2 MP
def evs : List T := [.str "laid", .str "done", .str "struck", .str "instead"]
def bys : List T := [.str "own", .str "next"]
theorem and_one {j n : Nat} {A B : Hm} {x : T} {d : PyData} {ws : List T} {m mw : ME} {e : Env'} (h : Ok j A x d n) (f : Fr j A B) (hw : ws.all flatT = true) (hm : m e B = .ok x B) (hmw : mw e B = .ok (.tup ws) B) :
    eAnd (eB (fIsi [9]) (aC m (aC (eC (.ty "str")) aN))) (eBin fIn m mw) e B = .ok (.bl (O ws x)) B := by
  have e1 := isS_ok h f
  have e2 : eB (fIsi [9]) (aC m (aC (eC (.ty "str")) aN)) e B = .ok (.bl (isSt x)) B := by
    simp only [eB, mbind, aC, hm, R.bind, eC, aN, e1]
  have e3 : eBin fIn m mw e B = fIn x (.tup ws) B := by simp only [eBin, mbind, hm, hmw, R.bind]
  unfold eAnd
  simp only [mbind, e2, R.bind]
  cases x with
  | str s =>
    simp only [e3, in_tup hw, O, isSt]
  | _ => rfl
def due (p1 p2 p3 p4 p5 : Bool) : T := if p1 = false then .str "event" else if p2 = false then .str "deed" else if p3 = false then .str "call" else if p4 = false then .str "by" else if p5 = false then .str "may" else .non
structure Oks (j : Nat) (A : Hm) (a b c d e : T) (da db dc dd de : PyData) : Prop where
  a : Ok j A a da 100
  b : Ok j A b db 100
  c : Ok j A c dc 100
  d : Ok j A d dd 100
  e : Ok j A e de 100
theorem Oks.fr {j : Nat} {A B : Hm} {a b c d e : T} {da db dc dd de : PyData} (h : Oks j A a b c d e da db dc dd de) (f : Fr j A B) : Oks j B a b c d e da db dc dd de := ⟨h.a.fr f, h.b.fr f, h.c.fr f, h.d.fr f, h.e.fr f⟩
def rows5 (p1 p2 p3 p4 p5 : Bool) : List T := [T.tup [T.str "event", T.bl p1], T.tup [T.str "deed", T.bl p2], T.tup [T.str "call", T.bl p3], T.tup [T.str "by", T.bl p4], T.tup [T.str "may", T.bl p5]]
def oddF (t : T) : Option T := match t with | .tup [n, .bl b] => if b then none else some n | _ => none
theorem rows_mem {p1 p2 p3 p4 p5 : Bool} {t : T} (h : t ∈ rows5 p1 p2 p3 p4 p5) : ∃ n b, t = .tup [.str n, .bl b] := by
  simp only [rows5, List.mem_cons, List.not_mem_nil, or_false] at h
  rcases h with rfl | rfl | rfl | rfl | rfl <;> exact ⟨_, _, rfl⟩
theorem odd_str : ∀ p1 p2 p3 p4 p5 : Bool, allStr ((rows5 p1 p2 p3 p4 p5).filterMap oddF) = true := by decide +kernel
theorem odd_due : ∀ p1 p2 p3 p4 p5 : Bool, due p1 p2 p3 p4 p5 = ((rows5 p1 p2 p3 p4 p5).filterMap oddF).headD .non := by
  intro p1 p2 p3 p4 p5
  cases p1 <;> cases p2 <;> cases p3 <;> cases p4 <;> cases p5 <;> rfl
theorem wd_ok {j : Nat} {A : Hm} {a b c d e : T} {da db dc dd de : PyData} (h : Oks j A a b c d e da db dc dd de) :
    wE (f_law_hp_waking_due [.tup [a, b, c, d, e]] A) (fun v C => v = due (O evs a) (W b) (W c) (O bys d) (isBl e) ∧ Fa A C) noX := by
  unfold f_law_hp_waking_due
  rw [wE_fn]
  simp [m_law_hp_waking_due, -wE_eand, wS_asg, sizeLine]
  rw [and_one (ws := evs) h.a Fr.refl (by decide) (by rfl) (by rfl)]
  simp [-wE_eand]
  refine ⟨kind_lst h_last, (hpw_ok h.b Fr.app).on fun v B ⟨hv, f1⟩ => (hpw_ok h.c (Fr.app.trans f1.fr)).on fun v1 C ⟨hv1, f2⟩ => ?_⟩
  subst hv; subst hv1
  refine ext_w (A0 := A) (h_old (f2.at (f1.at h_last))) h_last (by simp) (Nat.le_refl _) (((Fa.app.trans f1).trans f2).trans Fa.app) fun D g1 _ q1 => ⟨kind_lst q1, ?_⟩
  rw [and_one (ws := bys) h.d g1.fr (by decide) (by rfl) (by rfl)]
  simp only [wE_ok]
  rw [isB_ok h.e g1.fr]
  simp only [wE_ok]
  refine ext_w (A0 := A) (h_old q1) h_last (by simp) (Nat.le_refl _) (g1.trans Fa.app) fun D2 g2 _ q2 => ?_
  simp only [List.append_assoc, List.cons_append, List.nil_append] at q2
  refine wE_lcP (rows5 (O evs a) (W b) (W c) (O bys d) (isBl e)) oddF (by simp [rows5, sizeLine]) (by simp [itS_r q2]; exact ⟨rfl, fun i acc => itL_get (h_old q2)⟩) (fun t acc ht => ?_) ?_
  · obtain ⟨n, b, rfl⟩ := rows_mem ht
    refine ⟨_, rfl, ?_⟩
    cases b <;> simp [wipeE, setAll, mbind, R.bind, eV, bNot, bTru, oddF]
  · rw [neD_emp (h_old h_last) h_last (odd_str ..), odd_due]
    generalize List.filterMap _ _ = L
    simp only [wE_ok, isB_q]
    cases L with
    | nil => simp [-List.append_assoc]; exact (g2.trans Fa.app).trans Fa.app
    | cons u r =>
      simp [-List.append_assoc]
      rw [ix_lst0 (h_old h_last)]
      exact ⟨rfl, (g2.trans Fa.app).trans Fa.app⟩
end K04
end S26
section S27
set_option linter.all false
set_option maxRecDepth 100000
namespace K04
open PySem PySem.Spec PyProof.Rows L2 MP
def wkF (a b c d e : T) : Fs := [("event", a), ("deed", b), ("call", c), ("by", d), ("may", e)]
/-- all but the first row -/
def tst (t : T) : Bool := match t with | .tup [_, .bl b] => b | _ => false
theorem due_at : ∀ p1 p2 p3 p4 p5 : Bool, ∀ i : Nat, i < 5 → (∀ k, k < i → ((rows5 p1 p2 p3 p4 p5)[k]?.map tst) = some true) → ∀ n, (rows5 p1 p2 p3 p4 p5)[i]? = some (.tup [.str n, .bl false]) → due p1 p2 p3 p4 p5 = .str n := by
  intro p1 p2 p3 p4 p5 i hi h n hn
  have h0 := h 0; have h1 := h 1; have h2 := h 2; have h3 := h 3
  simp only [rows5] at *
  rcases i with _ | _ | _ | _ | _ | i
  all_goals first | omega | (simp [tst] at *; simp [due, *])
theorem due_all (p1 p2 p3 p4 p5 : Bool) (h : ∀ k, k < 5 → ((rows5 p1 p2 p3 p4 p5)[k]?.map tst) = some true) : due p1 p2 p3 p4 p5 = .non := by
  have h0 := h 0 (by decide); have h1 := h 1 (by decide); have h2 := h 2 (by decide); have h3 := h 3 (by decide); have h4 := h 4 (by decide)
  simp only [rows5] at *
  simp [tst] at *
  simp [due, *]
theorem rows_ok : ∀ p1 p2 p3 p4 p5 : Bool, ∀ n b, T.tup [.str n, .bl b] ∈ rows5 p1 p2 p3 p4 p5 → ok_BadWaking (txtT (.str n)) = true := by
  intro p1 p2 p3 p4 p5 n b h
  simp only [rows5, List.mem_cons, List.not_mem_nil, or_false, T.tup.injEq, List.cons.injEq, T.str.injEq, and_true] at h
  rcases h with ⟨rfl, _⟩ | ⟨rfl, _⟩ | ⟨rfl, _⟩ | ⟨rfl, _⟩ | ⟨rfl, _⟩ <;> decide +kernel
@[simp] theorem wS_raise {c : Nat} {f : Str} {ok : Option Str → Bool} {m : ME} {e : Env'} {A : Hm} {E : En} : wS (sRaise c f ok m e A) E = wE (m e A) (fun t A => ok (txtT t) = true ∧ E.x c [(f, t)] A) E.x := by
  unfold sRaise; simp only [wS_bind]; congr 1; funext t A; rw [wS_ite]; simp only [wS_err, wS_bad, ite_and]
theorem wi_ok {j : Nat} {A : Hm} {a b c d e : T} {da db dc dd de : PyData} (h : Oks j A a b c d e da db dc dd de) :
    wE (f_Waking_init [.ref A.length, a, b, c, d, e] (A ++ [.ins 9 []])) (fun v C => v = .non ∧ due (O evs a) (W b) (W c) (O bys d) (isBl e) = .non ∧ Fa A C ∧ C[A.length]? = some (.ins 9 (wkF a b c d e)))
      (fun k fs C => k = 2 ∧ fs = ([(("part" : Str), due (O evs a) (W b) (W c) (O bys d) (isBl e))] : Fs) ∧ due (O evs a) (W b) (W c) (O bys d) (isBl e) ≠ .non ∧ Fa A C) := by
  unfold f_Waking_init
  rw [wE_fn]
  simp [m_Waking_init, -wE_eand, wS_asg, sizeLine]
  have q0 : (A ++ [C.ins 9 []])[A.length]? = some (.ins 9 []) := h_last
  have g0 : Fa A (A ++ [C.ins 9 []]) := Fa.app
  generalize A ++ [C.ins 9 []] = A0 at q0 g0 ⊢
  refine (one_of_ok (ws := evs) h.a g0.fr (by decide)).on fun v B ⟨hv, hB⟩ => ?_
  subst hv; subst hB
  refine (isw_ok h.b g0.fr).on fun v B ⟨hv, f1⟩ => ?_
  subst hv
  refine (isw_ok h.c (g0.trans f1).fr).on fun v C ⟨hv, f2⟩ => ?_
  subst hv
  have q1 := f2.at (f1.at q0)
  have g1 := (g0.trans f1).trans f2
  have q2 := h_old (l := [MP.C.lst [T.tup [T.str "event", T.bl (O evs a)], T.tup [T.str "deed", T.bl (W b)], T.tup [T.str "call", T.bl (W c)]]]) q1
  have q3 := h_last (A := C) (c := MP.C.lst [T.tup [T.str "event", T.bl (O evs a)], T.tup [T.str "deed", T.bl (W b)], T.tup [T.str "call", T.bl (W c)]])
  have g2 := g1.trans (Fa.app (l := [MP.C.lst [T.tup [T.str "event", T.bl (O evs a)], T.tup [T.str "deed", T.bl (W b)], T.tup [T.str "call", T.bl (W c)]]]))
  generalize C ++ [MP.C.lst [T.tup [T.str "event", T.bl (O evs a)], T.tup [T.str "deed", T.bl (W b)], T.tup [T.str "call", T.bl (W c)]]] = D at q2 q3 g2 ⊢
  generalize C.length = r at q3 ⊢
  refine wS_for (rows5 (O evs a) (W b) (W c) (O bys d) (isBl e)) (fun i e1 B => (∃ s7 s8, e1 = [some (.ref A.length), some a, some b, some c, some d, some e, some (.ref r), s7, s8]) ∧ Fa A B ∧ B[A.length]? = some (.ins 9 []) ∧ B[D.length + 1]? = some (.lst (rows5 (O evs a) (W b) (W c) (O bys d) (isBl e))) ∧ ∀ k, k < i → ((rows5 (O evs a) (W b) (W c) (O bys d) (isBl e))[k]?.map tst) = some true) ?_ ?_ ?_
  · simp [-wE_eand, wS_asg, sizeLine]
    refine (one_of_ok (ws := bys) h.d g2.fr (by decide)).on fun v B2 ⟨hv, hB⟩ => ?_
    subst hv; subst hB
    rw [isB_ok h.e g2.fr]
    simp only [wE_ok]
    rw [add_rr (h_old q3) h_last (by simp)]
    simp only [wE_ok]
    rw [itS_r h_last]
    simp only [wE_ok]
    refine ⟨rfl, ⟨(g2.trans Fa.app).trans Fa.app, h_old (h_old q2), by simp [rows5]⟩, ?_⟩
    intro i e1 A5 s7 s8 _ _ _ hr _
    have hr : A5[(B2 ++ [MP.C.lst [T.tup [T.str "by", T.bl (O bys d)], T.tup [T.str "may", T.bl (isBl e)]]]).length]? = some (.lst (rows5 (O evs a) (W b) (W c) (O bys d) (isBl e))) := by simpa using hr
    exact itL_get hr
  · rintro i t e1 B hi ⟨⟨s7, s8, rfl⟩, i1, i2, i3, i4⟩
    have hm := List.mem_of_getElem? hi
    obtain ⟨n, b', rfl⟩ := rows_mem hm
    refine ⟨_, _, rfl, ?_⟩
    cases b' with
    | false =>
      have hd := due_at _ _ _ _ _ i (by have := (List.getElem?_eq_some_iff.mp hi).1; simpa [rows5] using this) i4 n hi
      simp [rows_ok _ _ _ _ _ _ _ hm, hd, i1]
    | true =>
      simp [i1, i2, i3]
      intro k hk
      by_cases h1 : k < i
      · simpa using i4 k h1
      · have : k = i := by omega
        subst this
        exact ⟨_, hi, rfl⟩
  · rintro e1 B ⟨⟨s7, s8, rfl⟩, i1, i2, i3, i4⟩
    have hd := due_all _ _ _ _ _ i4
    simp [hd]
    refine set_w i2 (by simp) (by simp) (Nat.le_refl _) i1 fun B1 j1 _ k1 => ?_
    replace k1 : B1[A.length]? = some (.ins 9 ([("event", a)] : Fs)) := k1
    refine set_w k1 (by simp) (by simp) (Nat.le_refl _) j1 fun B1 j1 _ k1 => ?_
    replace k1 : B1[A.length]? = some (.ins 9 ([("event", a), ("deed", b)] : Fs)) := k1
    refine set_w k1 (by simp) (by simp) (Nat.le_refl _) j1 fun B1 j1 _ k1 => ?_
    replace k1 : B1[A.length]? = some (.ins 9 ([("event", a), ("deed", b), ("call", c)] : Fs)) := k1
    refine set_w k1 (by simp) (by simp) (Nat.le_refl _) j1 fun B1 j1 _ k1 => ?_
    replace k1 : B1[A.length]? = some (.ins 9 ([("event", a), ("deed", b), ("call", c), ("by", d)] : Fs)) := k1
    refine set_w k1 (by simp) (by simp) (Nat.le_refl _) j1 fun B1 j1 _ k1 => ?_
    exact ⟨j1, k1⟩
end K04
end S27
section S28
set_option linter.all false
set_option maxRecDepth 100000
namespace K04
open PySem PySem.Spec PyProof.Rows L2 MP
/-- what the judge owes -/
abbrev dueO (a b c d e : T) : T := due (O evs a) (W b) (W c) (O bys d) (isBl e)
theorem wk_ok {j : Nat} {A : Hm} {a b c d e : T} {da db dc dd de : PyData} (h : Oks j A a b c d e da db dc dd de) :
    wE (f_law_hx_waking [.tup [a, b, c, d, e]] A) (fun v C => v = .ref A.length ∧ dueO a b c d e = .non ∧ Fa A C ∧ C[A.length]? = some (.ins 9 (wkF a b c d e)))
      (fun k fs C => k = 2 ∧ fs = ([(("part" : Str), dueO a b c d e)] : Fs) ∧ dueO a b c d e ≠ .non ∧ Fa A C) := by
  unfold f_law_hx_waking
  rw [wE_fn]
  simp [m_law_hx_waking, gT_b_Waking_init_4_by_may, g_b_Waking_init_4_by_may, -ne_eq]
  exact (wi_ok h).mono (fun v C h => ⟨h.1, h.2⟩) fun _ _ _ h => h
theorem told_ok {A : Hm} {q : Nat} {a b c d e : T} (h : A[q]? = some (.ins 9 (wkF a b c d e))) : wE (f_law_hx_waking_told [.ref q] A) (fun v C => v = .tup [a, b, c, d, e] ∧ C = A) noX := by
  unfold f_law_hx_waking_told
  rw [wE_fn]
  have e1 := fld_ok (cs := [9]) (f := "event") h (by simp) (t := a) rfl
  have e2 := fld_ok (cs := [9]) (f := "deed") h (by simp) (t := b) rfl
  have e3 := fld_ok (cs := [9]) (f := "call") h (by simp) (t := c) rfl
  have e4 := fld_ok (cs := [9]) (f := "by") h (by simp) (t := d) rfl
  have e5 := fld_ok (cs := [9]) (f := "may") h (by simp) (t := e) rfl
  simp [m_law_hx_waking_told, e1, e2, e3, e4, e5, sizeLine]
theorem heard_ok {lam : Lam} {A : Hm} {P P' : T → Hm → Prop} (h : wE (lam A) P (fun k fs B => k = 2 ∧ ∃ v, fs = ([(("part" : Str), v)] : Fs) ∧ P' v B)) :
    wE (f_law_hx_heard lam [] A) (fun t C => (∃ v, t = .tup [.str "told", v] ∧ P v C) ∨ ∃ v B, t = .tup [.str "BadWaking", v] ∧ P' v B ∧ Fa B C) noX := by
  unfold f_law_hx_heard
  rw [wE_fnL]
  unfold m_law_hx_heard
  rw [wS_tryR]
  simp [sizeLine]
  refine h.mono (fun v C hp => ?_) fun k fs B ⟨hk, v, hf, hp⟩ => ?_
  · exact .inl hp
  · subst hk; subst hf
    refine wS_hd (by decide) ?_
    simp [onlyC_q, wS_asg, sizeLine, eXi_q (show tab 2 1 = some false by decide), eXi_q (show tab 2 2 = some true by decide), eXi_q (show tab 2 3 = some false by decide)]
    refine ⟨kind_lst h_last, app_w (A0 := B) h_last (by simp) (Nat.le_refl _) Fa.app fun C g1 _ q1 => ?_⟩
    simp only [List.cons_append, List.nil_append] at q1
    refine wE_lcP [T.tup [T.str "BadDeed", T.bl false], T.tup [T.str "BadWaking", T.bl true], T.tup [T.str "BadRules", T.bl false]] (fun t => match t with | .tup [n, .bl b] => if b then some n else none | _ => none) (by simp [sizeLine]) (by simp [itK_r q1]; exact ⟨rfl, fun i acc => itL_get (h_old q1)⟩) (fun t acc ht => ?_) ?_
    · simp only [List.mem_cons, List.not_mem_nil, or_false] at ht
      rcases ht with rfl | rfl | rfl
      · exact ⟨_, rfl, by simp [wipeE, setAll, mbind, R.bind, eV, bTru]⟩
      · exact ⟨_, rfl, by simp [wipeE, setAll, mbind, R.bind, eV, bTru]⟩
      · exact ⟨_, rfl, by simp [wipeE, setAll, mbind, R.bind, eV, bTru]⟩
    · have : fJoin " " (.ref C.length) (C ++ [MP.C.lst [.str "BadWaking"]]) = .ok (.str "BadWaking") (C ++ [MP.C.lst [.str "BadWaking"]]) := by
        have e1 : Txt.join " " [(("BadWaking" : Str))] = "BadWaking" := by decide +kernel
        have e2 : ([(("BadWaking" : Str))].map (fun x => x.length)).sum + [(("BadWaking" : Str))].length * (Str.ofString " ").length ≤ 16777216 := by decide +kernel
        have e3 : strsOf [.str "BadWaking"] = some [(("BadWaking" : Str))] := rfl
        simp only [fJoin, lstOf, h_last, e3]
        rw [if_pos e2, e1]
      simp [this]
      rw [eXf_q (t := v) rfl]
      simp
      exact .inr ⟨_, hp, g1.trans Fa.app⟩
end K04
end S28
section S29
set_option linter.all false
set_option maxRecDepth 100000
namespace K04
open PySem PySem.Spec PyProof.Rows L2 MP
theorem says_ok {lam : Lam} {A : Hm} {x : T} (hx : isRef x = true) (h : wE (f_law_hx_heard lam [] A) (fun t C => ∃ d n, isRef t = true ∧ dat 64 C t = some d ∧ dat 64 C x = some d ∧ Sh d 60 n ∧ n ≤ sizeLine ∧ Fa A C) noX) :
    wE (f_law_hx_says lam [x] A) (fun v C => v = .bl true ∧ Fa A C) noX := by
  unfold f_law_hx_says
  rw [wE_fnL]
  simp [m_law_hx_says]
  refine h.on fun t C ⟨d, n, h1, h2, h3, h4, h5, h6⟩ => ?_
  rw [repr_ok h1 h2 h4 (Nat.le_refl _) h5]
  simp only [wE_ok]
  rw [repr_ok hx h3 h4 (Nat.le_refl _) h5]
  simp only [wE_ok]
  rw [eqD_ss h4.tx h4.tx]
  simp only [wE_ok]
  exact ⟨by simp, h6⟩
theorem due_str {p1 p2 p3 p4 p5 : Bool} (h : due p1 p2 p3 p4 p5 ≠ .non) : ∃ nm, due p1 p2 p3 p4 p5 = .str nm ∧ Sh (.str nm) 0 20 := by
  have f : ∀ nm ∈ ([("event" : Str), ("deed" : Str), ("call" : Str), ("by" : Str), ("may" : Str)]), Sh (.str nm) 0 20 := by
    intro nm hm
    simp only [List.mem_cons, List.not_mem_nil, or_false] at hm
    rcases hm with rfl | rfl | rfl | rfl | rfl <;> exact ⟨by decide +kernel, by decide +kernel, by decide +kernel, by decide +kernel, by decide +kernel⟩
  revert h
  unfold due
  split
  · exact fun _ => ⟨_, rfl, f _ (by simp)⟩
  split
  · exact fun _ => ⟨_, rfl, f _ (by simp)⟩
  split
  · exact fun _ => ⟨_, rfl, f _ (by simp)⟩
  split
  · exact fun _ => ⟨_, rfl, f _ (by simp)⟩
  split
  · exact fun _ => ⟨_, rfl, f _ (by simp)⟩
  exact fun z => absurd rfl z
theorem sh_told : Sh (.str "told") 0 20 := ⟨by decide +kernel, by decide +kernel, by decide +kernel, by decide +kernel, by decide +kernel⟩
theorem sh_bw : Sh (.str "BadWaking") 0 20 := ⟨by decide +kernel, by decide +kernel, by decide +kernel, by decide +kernel, by decide +kernel⟩
theorem Oks.dat {j : Nat} {A B : Hm} {a b c d e : T} {da db dc dd de : PyData} (h : Oks j A a b c d e da db dc dd de) (f : Fr j A B) (k : Nat) : MP.dat (k + 9) B (.tup [a, b, c, d, e]) = some (.tuple [da, db, dc, dd, de]) := by
  rw [dat_tup]
  simp only [optAll, h.a.dt B k f, h.b.dt B k f, h.c.dt B k f, h.d.dt B k f, h.e.dt B k f]
  rfl
theorem Oks.sh {j : Nat} {A : Hm} {a b c d e : T} {da db dc dd de : PyData} (h : Oks j A a b c d e da db dc dd de) : Sh (.tuple [da, db, dc, dd, de]) 7 513 := by
  refine Sh.tup (k := 6) (n := 100) fun x hx => ?_
  simp only [List.mem_cons, List.not_mem_nil, or_false] at hx
  rcases hx with rfl | rfl | rfl | rfl | rfl
  · exact h.a.shw
  · exact h.b.shw
  · exact h.c.shw
  · exact h.d.shw
  · exact h.e.shw
theorem pair_sh {x y : PyData} {k n : Nat} (hx : Sh x k n) (hy : Sh y k n) : Sh (.tuple [x, y]) (k + 1) (2 * (n + 2) + 3) := by
  refine Sh.tup fun z hz => ?_
  simp only [List.mem_cons, List.not_mem_nil, or_false] at hz
  rcases hz with rfl | rfl
  · exact hx
  · exact hy
theorem dat_pair {C : Hm} {k : Nat} {x y : T} {d e : PyData} (hx : dat k C x = some d) (hy : dat k C y = some e) : dat (k + 1) C (.tup [x, y]) = some (.tuple [d, e]) := by
  rw [dat_tup]; simp only [optAll, hx, hy]; rfl
theorem right_ok {j : Nat} {A : Hm} {a b c d e : T} {da db dc dd de : PyData} (h : Oks j A a b c d e da db dc dd de) :
    wE (f_law_right [.tup [a, b, c, d, e]] A) (fun v C => v = .bl true ∧ Fa A C) noX := by
  unfold f_law_right
  rw [wE_fn]
  simp [m_law_right]
  refine (wd_ok h).on fun v B ⟨hv, f1⟩ => ?_
  subst hv
  have hB := h.fr f1.fr
  have hh := fun x : T => heard_ok (lam := fun A1 => eCall f_law_hx_waking_told (fun vs _ => vs) (aC (eCall f_law_hx_waking (fun vs _ => vs) (aC (eV 0) aN)) aN) [some (.tup [a, b, c, d, e]), some (due (O evs a) (W b) (W c) (O bys d) (isBl e)), some x] A1)
    (A := B) (P := fun v C => v = .tup [a, b, c, d, e] ∧ dueO a b c d e = .non ∧ Fa B C) (P' := fun v C => v = dueO a b c d e ∧ dueO a b c d e ≠ .non ∧ Fa B C) (by
      simp
      exact (wk_ok hB).mono (fun v C ⟨h1, h2, h3, h4⟩ => by subst h1; exact (told_ok h4).on fun v D ⟨g1, g2⟩ => ⟨g1, h2, g2 ▸ h3⟩) fun k fs C ⟨h1, h2, h3, h4⟩ => ⟨h1, _, by rw [h2], rfl, h3, h4⟩)
  split
  · rename_i hn
    have hn : dueO a b c d e = .non := by
      by_cases q : dueO a b c d e = .non
      · exact q
      · obtain ⟨nm, h1, _⟩ := due_str q
        rw [h1] at hn; cases hn
    refine ⟨by decide, (says_ok rfl ((hh _).on ?_)).on fun v C ⟨h1, h2⟩ => ⟨h1, f1.trans h2⟩⟩
    rintro t C (⟨v, rfl, rfl, _, g⟩ | ⟨v, B1, rfl, ⟨rfl, g, _⟩, _⟩)
    · have hd := dat_pair (x := .str "told") (d := .str "told") rfl (h.dat (f1.trans g).fr 54)
      exact ⟨_, _, rfl, hd, hd, (pair_sh (sh_told.mono (Nat.zero_le 7) (by decide : 20 ≤ 513)) h.sh).mono (by decide) (Nat.le_refl _), by decide, g⟩
    · exact absurd hn g
  · rename_i hn
    have hn : dueO a b c d e ≠ .non := fun q => hn (by show isNon (dueO a b c d e) = true; rw [q]; rfl)
    obtain ⟨nm, h1, h2⟩ := due_str hn
    refine ⟨by decide, (says_ok rfl ((hh _).on ?_)).on fun v C ⟨h1, h2⟩ => ⟨h1, f1.trans h2⟩⟩
    rintro t C (⟨v, rfl, rfl, g, _⟩ | ⟨v, B1, rfl, ⟨rfl, _, g⟩, g2⟩)
    · exact absurd g hn
    · have e : dueO a b c d e = .str nm := h1
      rw [e]
      have hd : MP.dat 64 C (.tup [.str "BadWaking", .str nm]) = some (.tuple [.str "BadWaking", .str nm]) := dat_pair rfl rfl
      exact ⟨_, _, rfl, hd, by rw [h1]; exact hd, (pair_sh sh_bw h2).mono (by decide) (Nat.le_refl _), by decide, g.trans g2⟩
end K04
end S29
section S30
set_option linter.all false
set_option maxRecDepth 100000
namespace K04
open PySem PySem.Spec PyProof.Rows L2 MP
theorem Jr.mono {j N M : Nat} {A : Hm} (h : Jr j N A) (hm : N ≤ M) : Jr j M A := by
  obtain ⟨d, s, c, h1, h2, h3, h4, h5, h6, h7⟩ := h
  exact ⟨d, s, c, h1, h2, h3, h4, h5, h6, by omega⟩
theorem Jr.fa {j N : Nat} {A B : Hm} (h : Jr j N A) (f : Fa A B) : Jr j N B := by
  obtain ⟨d, s, c, h1, h2⟩ := h
  exact ⟨d, s, c, f.at h1, h2⟩
theorem Jr.lt {j N : Nat} {A : Hm} (h : Jr j N A) : j < A.length := by
  obtain ⟨d, s, c, h1, h2⟩ := h
  exact (List.getElem?_eq_some_iff.mp h1).1
theorem one_ok {j N m : Nat} {A : Hm} {l : List T} (h : Jr j N A) (hN : N < 100000) (hm : A[m]? = some (.lst l)) (hj : m ≠ j) (h0 : 0 < l.length) (h1 : l.length < 1000) :
    wE (f_law_one [.ref j, .ref m] A) (fun v B => v ∈ l ∧ Jr j (N + 1) B ∧ Fr j A B) noX := by
  unfold f_law_one
  rw [wE_fn]
  simp [m_law_one]
  rw [len_lst hm]
  simp only [wE_ok]
  refine (take_ok h (by omega) (by omega) (by omega)).on fun v B ⟨⟨r, hv, hr⟩, hJ, hF, _⟩ => ?_
  subst hv
  have hr : r < l.length := by omega
  rw [ix_lst (hF.at hm hj) (List.getElem?_eq_getElem hr)]
  exact ⟨List.getElem_mem hr, hJ, hF⟩
theorem pool_ok {n : Nat} {A : Hm} {ns : List Int} (hA : A[n]? = some (.flst (ns.map T.int))) (hn : ns.length ≤ 63) : wE (f_law_pool [.ref n] A) (fun v C => v = .ref A.length ∧ Jr A.length 0 C ∧ Fa A C) noX := by
  unfold f_law_pool
  rw [wE_fn]
  simp [m_law_pool, wS_asg, sizeLine]
  have hl : fLen [.ref n] A = .ok (.int (ns.length : Int)) A := by rw [len_flst hA, List.length_map]
  refine wS_for (rngT ns.length) (fun i e B => B = A ∧ ∃ (d s : Int) (x3 x4 : Option T), e = [some (.ref n), some (.int d), some (.int s), x3, x4] ∧ 0 ≤ d ∧ d < 10 ^ 120 ∧ 0 ≤ s ∧ s < 2147483647) ?_ ?_ ?_
  · simp [hl]
    refine ⟨by omega, rfl, ⟨0, 7, ⟨rfl, rfl⟩, by omega, by omega, by omega, by omega⟩, fun i _ _ _ _ _ _ _ _ _ _ => itR_get⟩
  · rintro i t e B hi ⟨rfl, d, s, x3, x4, rfl, d0, d1, s0, s1⟩
    obtain ⟨rfl, hi⟩ := rngT_get hi
    refine ⟨_, _, rfl, ?_⟩
    have hx : fIx (.ref n) (.int (i : Int)) B = .ok (.int ns[i]) B := ix_flst hA (by simp [hi])
    simp [hx, wS_asg]
    have hc : 0 ≤ (if ns[i] < -1 - ns[i] then -1 - ns[i] else ns[i]) := by split <;> omega
    generalize (if ns[i] < -1 - ns[i] then -1 - ns[i] else ns[i]) = cell at hc ⊢
    have g1 := log_lt (b := 2147483648) (k := 31) s0 (by omega) (by decide)
    have l1 : Nat.log2 48271 < 20 := by decide +kernel
    have l2 : Nat.log2 1000000000000000000000000000000000000000000000000000000000000 < 300 := by decide +kernel
    have m0 := Int.fmod_nonneg (b := 2147483629) hc (by omega)
    have m1 := Int.fmod_nonneg (b := 1000000000000000000000000000000000000000000000000000000000000) hc (by omega)
    have m2 := Int.fmod_lt_of_pos (b := 1000000000000000000000000000000000000000000000000000000000000) cell (by omega)
    have m3 := Int.fmod_nonneg (a := s * 48271 + cell.fmod 2147483629 + 11) (b := 2147483647) (by omega) (by omega)
    have m4 := Int.fmod_lt_of_pos (b := 2147483647) (s * 48271 + cell.fmod 2147483629 + 11) (by omega)
    refine ⟨by omega, ?_⟩
    split
    · split
      · rename_i q1 q2
        have g2 := log_lt (b := 2 ^ 400) (k := 400) d0 (Int.lt_trans q2 (by decide)) (by decide)
        exact ⟨by omega, _, _, ⟨rfl, rfl⟩, by omega, by omega, m3, m4⟩
      · exact ⟨_, _, ⟨rfl, rfl⟩, d0, d1, m3, m4⟩
    · exact ⟨_, _, ⟨rfl, rfl⟩, d0, d1, m3, m4⟩
  · rintro e B ⟨rfl, d, s, x3, x4, rfl, d0, d1, s0, s1⟩
    simp [sizeLine]
    exact ⟨⟨d, s, 0, h_last, d0, d1, s0, s1, by omega, by omega⟩, Fa.app⟩
end K04
end S30
section S31
set_option linter.all false
set_option maxRecDepth 100000
namespace K04
open PySem PySem.Spec PyProof.Rows L2 MP
def wrd : List T := [.str "a", .str "b", .str "hit", .str "goal", .str "abcdefgh", .str "laid", .str "own"]
def wr2 : List T := wrd ++ [.str "zz", .str "yy"]
structure Fine (a b c d e : T) : Prop where
  a : a ∈ evs
  b : b ∈ wr2
  c : c ∈ wr2
  d : d ∈ bys
  e : ∃ z, e = .bl z
theorem evs_ok : ∀ a ∈ evs, flatG a = true ∧ O evs a = true := by
  intro a h; simp only [evs, List.mem_cons, List.not_mem_nil, or_false] at h
  rcases h with rfl | rfl | rfl | rfl <;> exact ⟨by decide +kernel, by decide +kernel⟩
theorem bys_ok : ∀ a ∈ bys, flatG a = true ∧ O bys a = true := by
  intro a h; simp only [bys, List.mem_cons, List.not_mem_nil, or_false] at h
  rcases h with rfl | rfl <;> exact ⟨by decide +kernel, by decide +kernel⟩
theorem wrd_ok : ∀ a ∈ wr2, flatG a = true ∧ W a = true := by
  intro a h; simp only [wr2, wrd, List.cons_append, List.nil_append, List.mem_cons, List.not_mem_nil, or_false] at h
  rcases h with rfl | rfl | rfl | rfl | rfl | rfl | rfl | rfl | rfl <;> exact ⟨by decide +kernel, by decide +kernel⟩
theorem bl_ok (z : Bool) : flatG (.bl z) = true := by cases z <;> decide +kernel
theorem Fine.oks {a b c d e : T} (h : Fine a b c d e) {j : Nat} {A : Hm} : Oks j A a b c d e (flatD a) (flatD b) (flatD c) (flatD d) (flatD e) := by
  obtain ⟨z, hz⟩ := h.e
  exact ⟨ok_flat (evs_ok a h.a).1, ok_flat (wrd_ok b h.b).1, ok_flat (wrd_ok c h.c).1, ok_flat (bys_ok d h.d).1, ok_flat (by rw [hz]; exact bl_ok z)⟩
theorem Fine.due {a b c d e : T} (h : Fine a b c d e) : dueO a b c d e = .non := by
  obtain ⟨z, hz⟩ := h.e
  show K04.due _ _ _ _ _ = _
  rw [(evs_ok a h.a).2, (wrd_ok b h.b).2, (wrd_ok c h.c).2, (bys_ok d h.d).2, hz]
  rfl
theorem drawn_ok {j N : Nat} {A : Hm} (h : Jr j N A) (hN : N < 10000) : wE (f_law_drawn [.ref j] A) (fun v B => ∃ a b c d e, v = .tup [a, b, c, d, e] ∧ Fine a b c d e ∧ (b ∈ wrd ∧ c ∈ wrd) ∧ Jr j (N + 5) B ∧ Fr j A B) noX := by
  have hj := h.lt
  unfold f_law_drawn
  rw [wE_fn]
  simp [m_law_drawn, sizeLine, -List.append_assoc, -List.length_append]
  have hw := h_last (A := A) (c := C.lst wrd)
  have h1 := h.fa (Fa.app (l := [C.lst wrd]))
  have f1 : Fr j A (A ++ [C.lst wrd]) := Fr.app
  refine (one_ok (l := evs) (h1.fa Fa.app) (by omega) h_last (by simp; omega) (by decide) (by decide)).on fun a B ⟨ha, h2, f2⟩ => ?_
  replace f1 := (f1.trans Fr.app).trans f2
  have hw := f2.at (h_old hw) (by omega)
  refine (one_ok (l := wrd) h2 (by omega) hw (by omega) (by decide) (by decide)).on fun b B ⟨hb, h2, f2⟩ => ?_
  replace f1 := f1.trans f2
  have hw := f2.at hw (by omega)
  refine (one_ok (l := wrd) h2 (by omega) hw (by omega) (by decide) (by decide)).on fun c B ⟨hc, h2, f2⟩ => ?_
  replace f1 := f1.trans f2
  refine (one_ok (l := bys) (h2.fa Fa.app) (by omega) h_last (by have := f1.1; omega) (by decide) (by decide)).on fun d B ⟨hd, h2, f2⟩ => ?_
  replace f1 := (f1.trans Fr.app).trans f2
  refine (take_ok h2 (by omega) (by decide) (by decide)).on fun v B ⟨⟨r, hv, hr⟩, h2, f2, _⟩ => ?_
  subst hv
  simp [sizeLine]
  exact ⟨a, b, c, d, _, ⟨rfl, rfl, rfl, rfl, rfl⟩, ⟨ha, List.mem_append_left _ hb, List.mem_append_left _ hc, hd, ⟨_, rfl⟩⟩, ⟨hb, hc⟩, h2, f1.trans f2⟩
inductive InM (k : Nat) : T → Prop
  | flat {x : T} (h : flatG x = true) : InM k x
  | tup {l : List T} (h : l.all flatG = true) (hl : l.length ≤ 4) : InM k (.tup l)
  | ref : InM k (.ref k)
/-- a value whose data lie in cells of a kind -/
inductive Mn (p : Nat → Prop) (B : Hm) : T → Prop
  | flat {x : T} (h : flatG x = true) : Mn p B x
  | tup {l : List T} (h : l.all flatG = true) (hl : l.length ≤ 4) : Mn p B (.tup l)
  | ref {k : Nat} {r : List T} (hp : p k) (hk : B[k]? = some (.lst r)) (h : r.all flatG = true) (hl : r.length ≤ 4) : Mn p B (.ref k)
theorem Mn.ok {p : Nat → Prop} {B : Hm} {x : T} {j : Nat} (h : Mn p B x) (hp : ∀ k, p k → k ≠ j) : ∃ d, Ok j B x d 100 := by
  cases h with
  | flat h => exact ⟨_, ok_flat h⟩
  | tup h hl => exact ⟨_, ok_tupF h hl⟩
  | ref h1 h2 h3 h4 => exact ⟨_, ok_lstF h2 (hp _ h1) h3 h4⟩
theorem Mn.mono {p p' : Nat → Prop} {B C : Hm} {x : T} (h : Mn p B x) (hp : ∀ k, p k → k < B.length → p' k ∧ C[k]? = B[k]?) : Mn p' C x := by
  cases h with
  | flat h => exact .flat h
  | tup h hl => exact .tup h hl
  | ref h1 h2 h3 h4 =>
    obtain ⟨g1, g2⟩ := hp _ h1 (List.getElem?_eq_some_iff.mp h2).1
    exact .ref g1 (g2.trans h2) h3 h4
theorem menu_ok {j N k : Nat} {A : Hm} {r l : List T} (h : Jr j N A) (hN : N < 10000) (hk : A[k]? = some (.lst r)) (hj : k ≠ j) (hr : r.all flatG = true) (hl : r.length ≤ 4) (h0 : 0 < l.length) (h1 : l.length < 1000) (hall : ∀ x ∈ l, InM k x) :
    wE (f_law_one [.ref j, .ref A.length] (A ++ [.lst l])) (fun v B => Mn (fun i => i = k) B v ∧ Jr j (N + 1) B ∧ Fr j A B) noX := by
  have := h.lt
  refine (one_ok (l := l) (h.fa Fa.app) (by omega) h_last (by omega) h0 h1).on fun a B ⟨ha, h2, f2⟩ => ⟨?_, h2, Fr.app.trans f2⟩
  cases hall a ha with
  | flat h => exact .flat h
  | tup h hl => exact .tup h hl
  | ref => exact .ref rfl (f2.at (h_old hk) hj) hr hl
theorem odd_ok {j N i : Nat} {A : Hm} (h : Jr j N A) (hN : N < 10000) (hi : i < 5) : wE (f_law_odd [.ref j, .int (i : Int)] A) (fun v B => Mn (fun k => A.length ≤ k) B v ∧ Jr j (N + 1) B ∧ Fr j A B) noX := by
  have hj := h.lt
  unfold f_law_odd
  rw [wE_fn]
  have hm : ∀ (r l : List T), r.all flatG = true → r.length ≤ 4 → 0 < l.length → l.length < 1000 → (∀ x ∈ l, InM A.length x) → wE (f_law_one [.ref j, .ref (A ++ [C.lst r]).length] (A ++ [C.lst r] ++ [.lst l])) (fun v B => Mn (fun k => A.length ≤ k) B v ∧ Jr j (N + 1) B ∧ Fr j A B) noX := fun r l h1 h2 h3 h4 h5 =>
    (menu_ok (h.fa Fa.app) hN h_last (by omega) h1 h2 h3 h4 h5).on fun v B ⟨g1, g2, g3⟩ => ⟨g1.mono fun k hk _ => ⟨Nat.le_of_eq hk.symm, rfl⟩, g2, Fr.app.trans g3⟩
  rcases i with _ | _ | _ | _ | _ | i
  · simp [m_law_odd, sizeLine, -List.append_assoc, -List.length_append]
    refine hm [.str "laid"] _ (by decide +kernel) (by decide) (by simp) (by simp) fun x hx => ?_
    simp only [List.mem_cons, List.not_mem_nil, or_false] at hx
    rcases hx with rfl | rfl | rfl | rfl | rfl | rfl | rfl | rfl | rfl | rfl | rfl <;> first | exact .ref | exact .tup (by decide +kernel) (by decide) | exact .flat (by decide +kernel)
  · simp [m_law_odd, sizeLine, -List.append_assoc, -List.length_append]
    refine hm [.str "a"] _ (by decide +kernel) (by decide) (by simp) (by simp) fun x hx => ?_
    simp only [List.mem_cons, List.not_mem_nil, or_false] at hx
    rcases hx with rfl | rfl | rfl | rfl | rfl | rfl | rfl | rfl | rfl <;> first | exact .ref | exact .tup (by decide +kernel) (by decide) | exact .flat (by decide +kernel)
  · simp [m_law_odd, sizeLine, -List.append_assoc, -List.length_append]
    refine hm [.str "a"] _ (by decide +kernel) (by decide) (by simp) (by simp) fun x hx => ?_
    simp only [List.mem_cons, List.not_mem_nil, or_false] at hx
    rcases hx with rfl | rfl | rfl | rfl | rfl | rfl | rfl | rfl | rfl <;> first | exact .ref | exact .tup (by decide +kernel) (by decide) | exact .flat (by decide +kernel)
  · simp [m_law_odd, sizeLine, -List.append_assoc, -List.length_append]
    refine hm [.str "next"] _ (by decide +kernel) (by decide) (by simp) (by simp) fun x hx => ?_
    simp only [List.mem_cons, List.not_mem_nil, or_false] at hx
    rcases hx with rfl | rfl | rfl | rfl | rfl | rfl | rfl | rfl | rfl | rfl <;> first | exact .ref | exact .tup (by decide +kernel) (by decide) | exact .flat (by decide +kernel)
  · simp [m_law_odd, sizeLine, -List.append_assoc, -List.length_append]
    refine hm [.bl true] _ (by decide +kernel) (by decide) (by simp) (by simp) fun x hx => ?_
    simp only [List.mem_cons, List.not_mem_nil, or_false] at hx
    rcases hx with rfl | rfl | rfl | rfl | rfl | rfl | rfl <;> first | exact .ref | exact .tup (by decide +kernel) (by decide) | exact .flat (by decide +kernel)
  · omega
end K04
end S31
section S32
set_option linter.all false
set_option maxRecDepth 100000
namespace K04
open PySem PySem.Spec PyProof.Rows L2 MP
def G5 (j : Nat) (A : Hm) (l : List T) : Prop := l.length = 5 ∧ ∀ x ∈ l, ∃ d, Ok j A x d 100
theorem G5.fr {j : Nat} {A B : Hm} {l : List T} (h : G5 j A l) (f : Fr j A B) : G5 j B l := ⟨h.1, fun x hx => by
  obtain ⟨d, hd⟩ := h.2 x hx; exact ⟨d, hd.fr f⟩⟩
theorem G5.put {j i : Nat} {A : Hm} {l : List T} {x : T} (h : G5 j A l) (hx : ∃ d, Ok j A x d 100) (hi : i < 5) : G5 j A (l.take i ++ x :: l.drop (i + 1)) := by
  refine ⟨by simp [h.1]; omega, fun y hy => ?_⟩
  simp only [List.mem_append, List.mem_cons] at hy
  rcases hy with hy | rfl | hy
  · exact h.2 y (List.mem_of_mem_take hy)
  · exact hx
  · exact h.2 y (List.mem_of_mem_drop hy)
theorem rightL {j : Nat} {A : Hm} {l : List T} (h : G5 j A l) : wE (f_law_right [.tup l] A) (fun v C => v = .bl true ∧ Fa A C) noX := by
  obtain ⟨h1, h2⟩ := h
  match l, h1 with
  | [a, b, c, d, e], _ =>
    obtain ⟨da, ha⟩ := h2 a (by simp)
    obtain ⟨db, hb⟩ := h2 b (by simp)
    obtain ⟨dc, hc⟩ := h2 c (by simp)
    obtain ⟨dd, hd⟩ := h2 d (by simp)
    obtain ⟨de, he⟩ := h2 e (by simp)
    exact right_ok ⟨ha, hb, hc, hd, he⟩
@[simp] theorem sl_tup {l : List T} {lo hi : Option Int} {A : Hm} : fSl (.tup l) lo hi A = .ok (.tup (cutL l lo hi)) A := rfl
@[simp] theorem cut_to {l : List T} {i : Nat} : cutL l none (some (i : Int)) = l.take i := by
  unfold cutL
  rw [HT.sIx_none, HT.sIx_nat]
  simp [List.take_eq_take_iff]
@[simp] theorem cut_from {l : List T} {i : Nat} : cutL l (some ((i : Int) + 1)) none = l.drop (i + 1) := by
  have e : ((i : Int) + 1) = ((i + 1 : Nat) : Int) := by omega
  unfold cutL
  rw [e, HT.sIx_none, HT.sIx_nat]
  by_cases h : i + 1 ≤ l.length
  · rw [Nat.min_eq_left h]
    exact List.take_of_length_le (by simp)
  · rw [Nat.min_eq_right (by omega), List.drop_eq_nil_of_le (Nat.le_refl _), List.drop_eq_nil_of_le (by omega)]; simp
theorem bent_ok {j N : Nat} {A : Hm} {l : List T} (h : Jr j N A) (hN : N < 5000) (hl : G5 j A l) : wE (f_law_bent_right [.ref j, .tup l] A) (fun v B => v = .bl true ∧ Jr j (N + 20) B ∧ Fr j A B) noX := by
  unfold f_law_bent_right
  rw [wE_fn]
  simp [m_law_bent_right]
  refine (rightL hl).on fun v B ⟨hv, f1⟩ => ?_
  subst hv
  simp
  refine wS_for (rngT 5) (fun i e C => (∃ s2 s3 s4, e = [some (.ref j), some (.tup l), s2, s3, s4]) ∧ Jr j (N + 3 * i) C ∧ Fr j A C) ?_ ?_ ?_
  · simp
    exact ⟨rfl, ⟨h.fa f1, f1.fr⟩, fun i _ _ _ _ _ _ _ _ => itR_get⟩
  · rintro i t e C hi ⟨⟨s2, s3, s4, rfl⟩, i1, i2⟩
    obtain ⟨rfl, hi5⟩ := rngT_get hi
    refine ⟨_, _, rfl, ?_⟩
    simp
    refine (odd_ok i1 (by omega) hi5).on fun x D ⟨hx, i1', f2⟩ => ?_
    have hx := hx.ok (j := j) fun k hk => by have := i1.lt; omega
    replace i2 := i2.trans f2
    have g := (hl.fr i2).put hx hi5
    have gl := g.1
    have l5 := hl.1
    refine ⟨by decide, by unfold sizeLine; omega, by unfold sizeLine; omega, (rightL g).on fun v E ⟨hv, f3⟩ => ?_⟩
    subst hv
    simp
    replace i2 := i2.trans f3.fr
    replace g := g.fr f3.fr
    refine (take_ok (i1'.fa f3) (by omega) (by decide) (by decide)).on fun v F ⟨⟨r, hv, hr⟩, j1, f4, _⟩ => ?_
    subst hv
    replace i2 := i2.trans f4
    replace g := g.fr f4
    simp
    have hr5 : r < 5 := by omega
    refine (odd_ok j1 (by omega) hr5).on fun y G ⟨hy, j2, f5⟩ => ?_
    have hy := hy.ok (j := j) fun k hk => by have := j1.lt; omega
    replace i2 := i2.trans f5
    replace g := (g.fr f5).put hy hr5
    have g5 := g.1
    simp only [List.length_append, List.length_cons, List.length_take, List.length_drop] at gl g5
    refine ⟨by decide, by unfold sizeLine; omega, by unfold sizeLine; omega, (rightL g).on fun v E ⟨hv, f6⟩ => ?_⟩
    subst hv
    simp
    exact ⟨(j2.fa f6).mono (by omega), i2.trans f6.fr⟩
  · rintro e C ⟨⟨s2, s3, s4, rfl⟩, i1, i2⟩
    simp
    refine wE_lc (rngT 5) (fun d i acc D => (∀ x ∈ acc, Mn (fun k => k ≠ j ∧ k ≠ d) D x) ∧ acc.length = i ∧ Jr j (N + 15 + i) D ∧ Fr j A D ∧ j < d ∧ A.length ≤ d) ?_ ?_ ?_
    · simp
      have := i1.lt
      exact ⟨rfl, ⟨(i1.fa Fa.app).mono (by simp), i2.trans Fr.app, this, i2.1⟩, fun i _ _ _ _ _ _ _ _ => itR_get⟩
    · rintro d i t acc D hi hd ⟨h1, h2, h3, h4, h5, h6⟩
      obtain ⟨rfl, hi5⟩ := rngT_get hi
      refine ⟨_, rfl, ?_⟩
      simp [bYes, wipeE]
      refine (odd_ok h3 (by omega) hi5).on fun y G ⟨hy, j2, f5⟩ => ?_
      have hdl := (List.getElem?_eq_some_iff.mp hd).1
      refine ⟨f5.at hd (by omega), by unfold sizeLine; omega, ?_, by simp [h2], ?_, (h4.trans f5).setN h6, h5, h6⟩
      · intro x hx
        rcases hx with hx | rfl
        · exact (h1 x hx).mono fun k ⟨k1, k2⟩ k3 => ⟨⟨k1, k2⟩, by rw [List.getElem?_set_ne (Ne.symm k2)]; exact f5.2 k k1 k3⟩
        · exact hy.mono fun k hk k3 => ⟨⟨by have := h3.lt; omega, by omega⟩, by rw [List.getElem?_set_ne (by omega)]⟩
      · obtain ⟨dd, s, c, q1, q2⟩ := j2
        exact ⟨dd, s, c, by rw [List.getElem?_set_ne (by omega)]; exact q1, q2⟩
    · rintro d acc D hd ⟨h1, h2, h3, h4, h5, h6⟩
      simp [fTuple, lstOf, hd]
      have g : G5 j D acc := ⟨by simpa using h2, fun x hx => (h1 x hx).ok fun k hk => hk.1⟩
      refine (rightL g).on fun v E ⟨hv, f6⟩ => ⟨hv, (h3.fa f6).mono (by simp), h4.trans f6.fr⟩
end K04
end S32
section S33
set_option linter.all false
set_option maxRecDepth 100000
namespace K04
open PySem PySem.Spec PyProof.Rows L2 MP
/-- another one, as it should be -/
def Oth (one : List T) (t : T) : Prop := ∃ a b c d e, t = .tup [a, b, c, d, e] ∧ Fine a b c d e ∧ one ≠ [a, b, c, d, e]
@[simp] theorem own_own {A : Hm} : fEqD (.str "own") (.str "own") A = .ok (.bl true) A := by
  rw [eqD_ss (by decide +kernel) (by decide +kernel)]; rfl
@[simp] theorem next_own {A : Hm} : fEqD (.str "next") (.str "own") A = .ok (.bl false) A := by
  rw [eqD_ss (by decide +kernel) (by decide +kernel)]; rfl
def ne0 (a : T) (t : T) : Option T := if MP.eqT t a then none else some t
theorem evs_str {a : T} (h : a ∈ evs) : ∃ s, a = .str s ∧ PyData.strOk s = true := by
  simp only [evs, List.mem_cons, List.not_mem_nil, or_false] at h
  rcases h with rfl | rfl | rfl | rfl <;> exact ⟨_, rfl, by decide +kernel⟩
theorem ne0_ne {a x : T} (h : x ∈ evs.filterMap (ne0 a)) (ha : a ∈ evs) : x ∈ evs ∧ x ≠ a := by
  rw [List.mem_filterMap] at h
  obtain ⟨y, hy, h⟩ := h
  unfold ne0 at h
  split at h
  · cases h
  · rename_i q
    cases h
    refine ⟨hy, ?_⟩
    rintro rfl
    obtain ⟨s, rfl, _⟩ := evs_str hy
    exact q (by simp [MP.eqT])
theorem ne0_len : ∀ a ∈ evs, 0 < (evs.filterMap (ne0 a)).length ∧ (evs.filterMap (ne0 a)).length < 1000 := by
  intro a h; simp only [evs, List.mem_cons, List.not_mem_nil, or_false] at h
  rcases h with rfl | rfl | rfl | rfl <;> exact ⟨by decide +kernel, by decide +kernel⟩
/-- the five menus -/
structure Menus (D : Hm) (refs : List T) (j : Nat) (a b c d e : T) : Prop where
  all : ∀ k : Nat, k < 5 → ∃ m L, refs[k]? = some (.ref m) ∧ D[m]? = some (.lst L) ∧ m ≠ j ∧ 0 < L.length ∧ L.length < 1000 ∧ ∀ x ∈ L, Oth [a, b, c, d, e] (.tup ([a, b, c, d, e].take k ++ x :: [a, b, c, d, e].drop (k + 1)))
theorem menus_of {D : Hm} {j m0 m1 m2 m3 m4 : Nat} {a b c d : T} {z : Bool} {o : T} (hf : Fine a b c d (.bl z)) (ho : o ∈ bys) (hod : o ≠ d)
    (h0 : D[m0]? = some (.lst (evs.filterMap (ne0 a)))) (h1 : D[m1]? = some (.lst [.str "zz"])) (h2 : D[m2]? = some (.lst [.str "yy"])) (h3 : D[m3]? = some (.lst [o])) (h4 : D[m4]? = some (.lst [.bl (!z)]))
    (j0 : m0 ≠ j) (j1 : m1 ≠ j) (j2 : m2 ≠ j) (j3 : m3 ≠ j) (j4 : m4 ≠ j) (hb : b ≠ .str "zz") (hc : c ≠ .str "yy") : Menus D [.ref m0, .ref m1, .ref m2, .ref m3, .ref m4] j a b c d (.bl z) := by
  refine ⟨fun k hk => ?_⟩
  rcases k with _ | _ | _ | _ | _ | k
  · refine ⟨_, _, rfl, h0, j0, (ne0_len a hf.a).1, (ne0_len a hf.a).2, fun x hx => ?_⟩
    obtain ⟨q1, q2⟩ := ne0_ne hx hf.a
    exact ⟨x, b, c, d, _, rfl, ⟨q1, hf.b, hf.c, hf.d, hf.e⟩, fun q => q2 (by simpa using q.symm)⟩
  · refine ⟨_, _, rfl, h1, j1, by decide, by decide, fun x hx => ?_⟩
    rw [List.mem_singleton] at hx; subst hx
    exact ⟨a, _, c, d, _, rfl, ⟨hf.a, by simp [wr2], hf.c, hf.d, hf.e⟩, fun q => hb (by simpa using q)⟩
  · refine ⟨_, _, rfl, h2, j2, by decide, by decide, fun x hx => ?_⟩
    rw [List.mem_singleton] at hx; subst hx
    exact ⟨a, b, _, d, _, rfl, ⟨hf.a, hf.b, by simp [wr2], hf.d, hf.e⟩, fun q => hc (by simpa using q)⟩
  · refine ⟨_, _, rfl, h3, j3, by simp, by simp, fun x hx => ?_⟩
    rw [List.mem_singleton] at hx; subst hx
    exact ⟨a, b, c, _, _, rfl, ⟨hf.a, hf.b, hf.c, ho, hf.e⟩, fun q => hod (by simpa using q.symm)⟩
  · refine ⟨_, _, rfl, h4, j4, by simp, by simp, fun x hx => ?_⟩
    rw [List.mem_singleton] at hx; subst hx
    exact ⟨a, b, c, d, _, rfl, ⟨hf.a, hf.b, hf.c, hf.d, ⟨_, rfl⟩⟩, fun q => by simp at q⟩
  · omega
theorem wrd_ne {b : T} (h : b ∈ wrd) : b ≠ .str "zz" ∧ b ≠ .str "yy" := by
  have f : ∀ s t : Str, (s == t) = false → T.str s ≠ .str t := fun s t h q => by
    rw [T.str.injEq] at q; subst q; simp at h
  simp only [wrd, List.mem_cons, List.not_mem_nil, or_false] at h
  rcases h with rfl | rfl | rfl | rfl | rfl | rfl | rfl <;> exact ⟨f _ _ (by decide +kernel), f _ _ (by decide +kernel)⟩
theorem oth_loop {j N r : Nat} {A D : Hm} {refs : List T} {a b c d e : T} (hD : D[r]? = some (.lst refs)) (hr : r ≠ j) (hM : Menus D refs j a b c d e) (h : Jr j N D) (hN : N < 5000) (h5 : A.length ≤ D.length) (hF : Fr j A D) :
    wE (eLc (MP.iRng1 (aC (eC (T.int 5)) aN)) (Pt.v 4) [4] bYes (eBin fAdd (eBin fAdd (eSl (eV 1) oN (oS (eV 4))) (eTup (aC (eCall f_law_one (fun vs x => vs) (aC (eV 0) (aC (eBin fIx (eV 2) (eV 4)) aN))) aN))) (eSl (eV 1) (oS (eBin fAdd (eV 4) (eC (T.int 1)))) oN))
      [some (.ref j), some (.tup [a, b, c, d, e]), some (.ref r), none, none] D) (fun v B => (∃ q ts, v = .ref q ∧ A.length ≤ q ∧ B[q]? = some (.lst ts) ∧ ts.length = 5 ∧ ∀ t ∈ ts, Oth [a, b, c, d, e] t) ∧ Jr j (N + 5) B ∧ Fr j A B) noX := by
  refine wE_lc (rngT 5) (fun q i acc B => (∀ t ∈ acc, Oth [a, b, c, d, e] t) ∧ acc.length = i ∧ Jr j (N + i) B ∧ Fr j D B ∧ j < q ∧ D.length ≤ q) ?_ ?_ ?_
  · simp
    exact ⟨rfl, ⟨h.fa Fa.app, Fr.app, h.lt⟩, fun i _ _ _ _ _ _ _ => itR_get⟩
  · rintro q i t acc B hi hq ⟨h1, h2, h3, h4, h5, h6⟩
    obtain ⟨rfl, hi5⟩ := rngT_get hi
    obtain ⟨m, L, m1, m2, m3, m4, m5, m6⟩ := hM.all i hi5
    refine ⟨_, rfl, ?_⟩
    simp [bYes, wipeE, -List.length_append]
    rw [ix_lst (h4.at hD hr) m1]
    simp [-List.length_append]
    refine (one_ok h3 (by omega) (h4.at m2 m3) m3 m4 m5).on fun x C ⟨hx, j2, f5⟩ => ?_
    have hql := (List.getElem?_eq_some_iff.mp hq).1
    simp [-List.take_succ_cons]
    refine ⟨by decide, by unfold sizeLine; omega, by unfold sizeLine; omega, f5.at hq (by omega), by unfold sizeLine; omega, ?_, h2, ?_, (h4.trans f5).setN h6, h5, h6⟩
    · rintro t (ht | rfl)
      · exact h1 t ht
      · exact m6 x hx
    · obtain ⟨dd, s, c, q1, q2⟩ := j2
      exact ⟨dd, s, c, by rw [List.getElem?_set_ne (by omega)]; exact q1, q2⟩
  · rintro q acc B hq ⟨h1, h2, h3, h4, h5, h6⟩
    exact ⟨⟨q, acc, rfl, by omega, hq, by simpa using h2, h1⟩, by simpa using h3, hF.trans h4⟩
theorem others_ok {j N : Nat} {A : Hm} {a b c d e : T} (h : Jr j N A) (hN : N < 5000) (hf : Fine a b c d e) (hb : b ∈ wrd) (hc : c ∈ wrd) : wE (f_law_others [.ref j, .tup [a, b, c, d, e]] A) (fun v B => (∃ q ts, v = .ref q ∧ A.length ≤ q ∧ B[q]? = some (.lst ts) ∧ ts.length = 5 ∧ ∀ t ∈ ts, Oth [a, b, c, d, e] t) ∧ Jr j (N + 5) B ∧ Fr j A B) noX := by
  have hj := h.lt
  obtain ⟨z, rfl⟩ := hf.e
  have hdd : (d = .str "own") ∨ d = .str "next" := by have := hf.d; simpa [bys] using this
  obtain ⟨s, ha, hs⟩ := evs_str hf.a
  unfold f_law_others
  rw [wE_fn]
  simp [m_law_others, sizeLine, -List.append_assoc, -List.length_append]
  refine wE_lcB (A ++ [.lst evs]) evs (ne0 a) (by decide) ?_ (fun t acc ht => ?_) ?_
  · simp [sizeLine, -List.append_assoc]
    change MP.wE (iAnyK (T.ref A.length) (A ++ [C.lst evs])) _ _
    rw [itS_r h_last]
    exact ⟨rfl, rfl, fun i acc => itL_get (h_old h_last)⟩
  · obtain ⟨u, rfl, hu⟩ := evs_str ht
    subst ha
    refine ⟨_, rfl, ?_⟩
    have hne : ∀ B, fNeD (.str u) (.str s) B = .ok (.bl (!(u == s))) B := fun B => neD_ss hu hs
    cases q : (u == s) with
    | true => simp [ne0, MP.eqT, q, wipeE, mbind, eBin, R.bind, eC, eV, hne, isB]
    | false => simp [ne0, MP.eqT, q, wipeE, mbind, eBin, R.bind, eC, eV, hne, isB]
  · have f0 : Fa A (A ++ [C.lst evs]) := Fa.app
    have hJ := h.fa f0
    have hl0 := f0.1
    generalize A ++ [C.lst evs] = A0 at f0 hJ hl0 ⊢
    refine ⟨kind_lst h_last, ?_⟩
    rcases hdd with rfl | rfl
    · simp [-List.append_assoc, -List.length_append]
      refine ext_w (A0 := A0) (h_old (h_old (h_old h_last))) h_last (by simp) (by simp) ((((((Fa.app.trans Fa.app).trans Fa.app).trans Fa.app).trans Fa.app).trans Fa.app).trans Fa.app) fun D g1 fr q1 => ?_
      simp only [List.cons_append, List.nil_append] at q1
      refine (oth_loop q1 (by simp; omega) (menus_of (o := .str "next") hf (by simp [bys]) (by simp; decide +kernel) (fr.at (h_old (h_old (h_old (h_old (h_old (h_old h_last)))))) (by simp)) (fr.at (h_old (h_old (h_old (h_old (h_old h_last))))) (by simp)) (fr.at (h_old (h_old (h_old (h_old h_last)))) (by simp)) (fr.at (h_old (h_old h_last)) (by simp)) (fr.at (h_old h_last) (by simp)) (by omega) (by simp; omega) (by simp; omega) (by simp; omega) (by simp; omega) (wrd_ne hb).1 (wrd_ne hc).2) (hJ.fa g1) hN (f0.trans g1).1 (f0.trans g1).fr).on fun v B ⟨⟨q, ts, h1, h2, h3, h4, h5⟩, h6, h7⟩ => ⟨⟨q, h1, h2, ts, h3, h4, h5⟩, h6, h7⟩
    · simp [-List.append_assoc, -List.length_append]
      refine ext_w (A0 := A0) (h_old (h_old (h_old h_last))) h_last (by simp) (by simp) ((((((Fa.app.trans Fa.app).trans Fa.app).trans Fa.app).trans Fa.app).trans Fa.app).trans Fa.app) fun D g1 fr q1 => ?_
      simp only [List.cons_append, List.nil_append] at q1
      refine (oth_loop q1 (by simp; omega) (menus_of (o := .str "own") hf (by simp [bys]) (by simp; decide +kernel) (fr.at (h_old (h_old (h_old (h_old (h_old (h_old h_last)))))) (by simp)) (fr.at (h_old (h_old (h_old (h_old (h_old h_last))))) (by simp)) (fr.at (h_old (h_old (h_old (h_old h_last)))) (by simp)) (fr.at (h_old (h_old h_last)) (by simp)) (fr.at (h_old h_last) (by simp)) (by omega) (by simp; omega) (by simp; omega) (by simp; omega) (by simp; omega) (wrd_ne hb).1 (wrd_ne hc).2) (hJ.fa g1) hN (f0.trans g1).1 (f0.trans g1).fr).on fun v B ⟨⟨q, ts, h1, h2, h3, h4, h5⟩, h6, h7⟩ => ⟨⟨q, h1, h2, ts, h3, h4, h5⟩, h6, h7⟩
end K04
end S33
section S34
set_option linter.all false
set_option maxRecDepth 100000
namespace K04
open PySem PySem.Spec PyProof.Rows L2 MP
theorem str_of {l : List T} (hl : allStr l = true) {a : T} (h : a ∈ l) : ∃ s, a = .str s ∧ PyData.strOk s = true := by
  have := List.all_eq_true.mp hl a h
  cases a with
  | str s => exact ⟨s, rfl, this⟩
  | _ => simp at this
theorem Fine.strs {a b c d e : T} (h : Fine a b c d e) : ∃ sa sb sc sd z, a = .str sa ∧ b = .str sb ∧ c = .str sc ∧ d = .str sd ∧ e = .bl z ∧ PyData.strOk sa = true ∧ PyData.strOk sb = true ∧ PyData.strOk sc = true ∧ PyData.strOk sd = true := by
  obtain ⟨sa, h1, g1⟩ := str_of (by decide +kernel) h.a
  obtain ⟨sb, h2, g2⟩ := str_of (by decide +kernel) h.b
  obtain ⟨sc, h3, g3⟩ := str_of (by decide +kernel) h.c
  obtain ⟨sd, h4, g4⟩ := str_of (by decide +kernel) h.d
  obtain ⟨z, h5⟩ := h.e
  exact ⟨sa, sb, sc, sd, z, h1, h2, h3, h4, h5, g1, g2, g3, g4⟩
def Ins (A : Hm) (p : Nat) (a b c d e : T) : Prop := A[p]? = some (.ins 9 (wkF a b c d e))
theorem row_ok {A : Hm} {q : Nat} {a b c d e : T} (h : Ins A q a b c d e) : f_Waking_row [.ref q] A = .ok (.tup [a, b, c, d]) A := by
  have e1 := fld_ok (cs := [9]) (f := "event") h (by simp) (t := a) rfl
  have e2 := fld_ok (cs := [9]) (f := "deed") h (by simp) (t := b) rfl
  have e3 := fld_ok (cs := [9]) (f := "call") h (by simp) (t := c) rfl
  have e4 := fld_ok (cs := [9]) (f := "by") h (by simp) (t := d) rfl
  have : wE (f_Waking_row [.ref q] A) (fun v C => v = .tup [a, b, c, d] ∧ C = A) noX := by
    unfold f_Waking_row
    rw [wE_fn]
    simp [m_Waking_row, e1, e2, e3, e4, sizeLine]
  obtain ⟨v, C, h1, rfl, rfl⟩ := this.ok
  exact h1
theorem isIns_row {A : Hm} {q : Nat} {a b c d e : T} (h : Ins A q a b c d e) : isIns 9 "row" (.ref q) A = true := by
  have : List.lookup (Str.ofString "row") (wkF a b c d e) = none := rfl
  simp only [isIns, insOf, Ins] at h ⊢
  rw [h]
  simp [this]
theorem isi_own {A : Hm} {q : Nat} {a b c d e : T} (h : Ins A q a b c d e) : fIsi [9] [.ref q, .obj 9] A = .ok (.bl true) A := by
  unfold Ins at h
  simp [fIsi, isiT, tyT, h, isOne]
theorem isi_not {A : Hm} {y : T} {b : String} (h : tyT y A = some (.b b)) (hb : b ∈ kinds) : fIsi [9] [y, .obj 9] A = .ok (.bl false) A := by
  simp [fIsi, isiT, h, isOne, hb]
theorem eqD_rows {A : Hm} {sa sb sc sd ta tb tc td : Str} (h1 : PyData.strOk sa = true) (h2 : PyData.strOk sb = true) (h3 : PyData.strOk sc = true) (h4 : PyData.strOk sd = true) (g1 : PyData.strOk ta = true) (g2 : PyData.strOk tb = true) (g3 : PyData.strOk tc = true) (g4 : PyData.strOk td = true) :
    fEqD (.tup [.str sa, .str sb, .str sc, .str sd]) (.tup [.str ta, .str tb, .str tc, .str td]) A = .ok (.bl (sa == ta && (sb == tb && (sc == tc && sd == td)))) A := by
  have e : ∀ s, dat 63 A (.str s) = some (.str s) := fun _ => rfl
  have e1 : ∀ s t u v, dat 64 A (.tup [.str s, .str t, .str u, .str v]) = some (.tuple [.str s, .str t, .str u, .str v]) := fun s t u v => by
    rw [dat_tup]; simp only [optAll, e]; rfl
  simp only [fEqD, e1]
  simp [SeqAt.shaped, PyData.canLay0, PyData.canLayAll0, PyData.depth, PyData.depthAll, PyData.eqv, PyData.eqvAll, h1, h2, h3, h4, g1, g2, g3, g4]
@[simp] theorem eqD_bb {x y : Bool} {A : Hm} : fEqD (.bl x) (.bl y) A = .ok (.bl (x == y)) A := by
  simp [fEqD, dat, SeqAt.shaped, PyData.canLay0, PyData.depth, PyData.eqv]
theorem weq_ins {A : Hm} {p q : Nat} {a b c d e a' b' c' d' e' : T} (hp : Ins A p a b c d e) (hq : Ins A q a' b' c' d' e') (hf : Fine a b c d e) (hg : Fine a' b' c' d' e') :
    ∃ r : Bool, f_Waking_eq [.ref p, .ref q] A = .ok (.bl r) A ∧ (r = true ↔ [a, b, c, d, e] = [a', b', c', d', e']) := by
  obtain ⟨sa, sb, sc, sd, z, rfl, rfl, rfl, rfl, rfl, h1, h2, h3, h4⟩ := hf.strs
  obtain ⟨ta, tb, tc, td, y, rfl, rfl, rfl, rfl, rfl, g1, g2, g3, g4⟩ := hg.strs
  have e1 := fld_ok (cs := [9]) (f := "may") hp (by simp) (t := .bl z) rfl
  have e2 := fld_ok (cs := [9]) (f := "may") hq (by simp) (t := .bl y) rfl
  have : wE (f_Waking_eq [.ref p, .ref q] A) (fun v C => v = .bl ((sa == ta && (sb == tb && (sc == tc && sd == td))) && z == y) ∧ C = A) noX := by
    unfold f_Waking_eq
    rw [wE_fn]
    simp [m_Waking_eq, isi_own hq, isIns_row hp, isIns_row hq, row_ok hp, row_ok hq, eqD_rows h1 h2 h3 h4 g1 g2 g3 g4, e1, e2, -Bool.and_eq_true]
    generalize (sa == ta && (sb == tb && (sc == tc && sd == td))) = r
    cases r <;> simp
  obtain ⟨v, C, q1, rfl, rfl⟩ := this.ok
  refine ⟨_, q1, ?_⟩
  simp only [Bool.and_eq_true, beq_iff_eq, List.cons.injEq, T.str.injEq, T.bl.injEq, and_true]
  constructor
  · rintro ⟨⟨r1, r2, r3, r4⟩, r5⟩; exact ⟨r1, r2, r3, r4, r5⟩
  · rintro ⟨r1, r2, r3, r4, r5⟩; exact ⟨⟨r1, r2, r3, r4⟩, r5⟩
theorem weq_not {A : Hm} {p : Nat} {a b c d e y : T} {k : String} (hp : Ins A p a b c d e) (h : tyT y A = some (.b k)) (hk : k ∈ kinds) : f_Waking_eq [.ref p, y] A = .ok (.bl false) A := by
  have : wE (f_Waking_eq [.ref p, y] A) (fun v C => v = .bl false ∧ C = A) noX := by
    unfold f_Waking_eq
    rw [wE_fn]
    simp [m_Waking_eq, isi_not h hk]
  obtain ⟨v, C, q1, rfl, rfl⟩ := this.ok
  exact q1
end K04
end S34
section S35
set_option linter.all false
set_option maxRecDepth 100000
namespace K04
open PySem PySem.Spec PyProof.Rows L2 MP
abbrev opE : T → T → Hm → R T := fOr (isOwn 9) (fEqO [9] 9 f_Waking_eq) fEqD
abbrev opN : T → T → Hm → R T := fOr (isOwn 9) (fNeO [9] 9 f_Waking_eq) fNeD
def tellE (r : Bool) : T := .tup [.str "told", .tup [.bl r, .bl r, .bl (!r)]]
theorem isInsC_ok {A : Hm} {q : Nat} {a b c d e : T} (h : Ins A q a b c d e) : isInsC 9 (.ref q) A = true := by
  unfold Ins at h
  simp [isInsC, insOf, h]
theorem tyIn_ins {A : Hm} {q : Nat} {a b c d e : T} (h : Ins A q a b c d e) : tyIn [9] (.ref q) A = true := by
  unfold Ins at h
  simp [tyIn, tyT, h]
theorem equal_of {A : Hm} {x y : T} {r : Bool} (h1 : opE x y A = .ok (.bl r) A) (h2 : opE y x A = .ok (.bl r) A) (h3 : opN x y A = .ok (.bl (!r)) A) : wE (f_law_equal [x, y] A) (fun v C => v = tellE r ∧ Fa A C) noX := by
  unfold f_law_equal
  rw [wE_fn]
  simp [m_law_equal]
  refine (heard_ok (P := fun v C => v = .tup [.bl r, .bl r, .bl (!r)] ∧ C = A) (P' := fun _ _ => False) ?_).on ?_
  · simp [h1, h2, h3, sizeLine]
  · rintro t C (⟨v, rfl, rfl, rfl⟩ | ⟨_, _, _, h, _⟩)
    · exact ⟨rfl, Fa.refl⟩
    · exact h.elim
theorem equal_ins {A : Hm} {p q : Nat} {a b c d e a' b' c' d' e' : T} (hp : Ins A p a b c d e) (hq : Ins A q a' b' c' d' e') (hf : Fine a b c d e) (hg : Fine a' b' c' d' e') :
    ∃ r : Bool, wE (f_law_equal [.ref p, .ref q] A) (fun v C => v = tellE r ∧ Fa A C) noX ∧ (r = true ↔ [a, b, c, d, e] = [a', b', c', d', e']) := by
  obtain ⟨r, q1, g1⟩ := weq_ins hp hq hf hg
  obtain ⟨r', q2, g2⟩ := weq_ins hq hp hg hf
  have : r' = r := by
    rw [Bool.eq_iff_iff, g1, g2]
    exact ⟨Eq.symm, Eq.symm⟩
  subst this
  refine ⟨r', equal_of ?_ ?_ ?_, g1⟩
  · simp [opE, fOr, isOwn, isInsC_ok hp, fEqO, tyIn_ins hq, eq2, q1]
  · simp [opE, fOr, isOwn, isInsC_ok hq, fEqO, tyIn_ins hp, eq2, q2]
  · simp [opN, fOr, isOwn, isInsC_ok hp, fNeO, tyIn_ins hq, eq2, q1, notR]
theorem equal_not {A : Hm} {p : Nat} {a b c d e y : T} {k : String} (hp : Ins A p a b c d e) (h : tyT y A = some (.b k)) (hk : k ∈ kinds) (hb : isBi y A = true) (hi : isInsC 9 y A = false) : wE (f_law_equal [.ref p, y] A) (fun v C => v = tellE false ∧ Fa A C) noX := by
  have q1 := weq_not hp h hk
  have ht : tyIn [9] y A = true := by simp [tyIn, h, hk]
  refine equal_of ?_ ?_ ?_
  · simp [opE, fOr, isOwn, isInsC_ok hp, fEqO, ht, eq2, q1]
  · simp [opE, fOr, isOwn, isInsC_ok hp, fEqO, hi, hb, eq2, q1]
  · simp [opN, fOr, isOwn, isInsC_ok hp, fNeO, ht, eq2, q1, notR]
theorem wk_fine {A : Hm} {a b c d e : T} (h : Fine a b c d e) : wE (f_law_hx_waking [.tup [a, b, c, d, e]] A) (fun v C => v = .ref A.length ∧ Fa A C ∧ Ins C A.length a b c d e) noX :=
  (wk_ok (j := 0) h.oks).mono (fun v C ⟨h1, _, h3, h4⟩ => ⟨h1, h3, h4⟩) fun k fs C ⟨_, _, h3, _⟩ => h3 h.due
/-- the wakings made of a list of these -/
def MadeT (C : Hm) (t v : T) : Prop := ∃ p a b c d e, t = .tup [a, b, c, d, e] ∧ Fine a b c d e ∧ v = .ref p ∧ Ins C p a b c d e
def MadeB (q : Nat) (C : Hm) (t v : T) : Prop := ∃ p a b c d e, t = .tup [a, b, c, d, e] ∧ Fine a b c d e ∧ v = .ref p ∧ Ins C p a b c d e ∧ p ≠ q
theorem made_ok {B : Hm} {q : Nat} {a b c d e x : T} {ts : List T} (h2 : B[q]? = some (.lst ts)) (h3 : ts.length = 5) (hf : Fine a b c d e) (h4 : ∀ t ∈ ts, Oth [a, b, c, d, e] t) :
    wE (eLc (iAny (eBin fAdd (eLst (aC (eV 1) (aC (eV 1) aN))) (eV 2))) (Pt.v 6) [6] bYes (eCall f_law_hx_waking (fun vs x => vs) (aC (eV 6) aN)) [some x, some (.tup [a, b, c, d, e]), some (.ref q), none, none, none, none, none] B)
      (fun v C => ∃ (m : Nat) (ms : List T), v = .ref m ∧ B.length ≤ m ∧ C[m]? = some (.lst ms) ∧ ms.length = 7 ∧ (∀ (k : Nat) (t : T), (T.tup [a, b, c, d, e] :: T.tup [a, b, c, d, e] :: ts)[k]? = some t → ∃ v, ms[k]? = some v ∧ MadeT C t v) ∧ Fa B C) noX := by
  have hq := (List.getElem?_eq_some_iff.mp h2).1
  refine wE_lc (.tup [a, b, c, d, e] :: .tup [a, b, c, d, e] :: ts) (fun r i acc C => r = B.length + 2 ∧ acc.length = i ∧ Fa B C ∧ C[B.length + 1]? = some (.lst (.tup [a, b, c, d, e] :: .tup [a, b, c, d, e] :: ts)) ∧ ∀ (k : Nat) (t : T), k < i → (T.tup [a, b, c, d, e] :: T.tup [a, b, c, d, e] :: ts)[k]? = some t → ∃ v, acc[k]? = some v ∧ MadeB r C t v) ?_ ?_ ?_
  · simp [sizeLine, -List.append_assoc, -List.length_append]
    rw [add_rr h_last (h_old h2) (by simp [h3])]
    simp [-List.append_assoc, -List.length_append]
    rw [itS_r h_last]
    simp only [wE_ok]
    refine ⟨by simp; rfl, ⟨by simp, (Fa.app.trans Fa.app).trans Fa.app, ?_⟩, ?_⟩
    · have := h_old (l := [C.lst []]) (h_last (A := B ++ [C.lst [.tup [a, b, c, d, e], .tup [a, b, c, d, e]]]) (c := C.lst (.tup [a, b, c, d, e] :: .tup [a, b, c, d, e] :: ts)))
      simpa using this
    · intro i acc C _ _ _ hr _
      have hr : C[(B ++ [MP.C.lst [.tup [a, b, c, d, e], .tup [a, b, c, d, e]]]).length]? = some (.lst (.tup [a, b, c, d, e] :: .tup [a, b, c, d, e] :: ts)) := by simpa using hr
      exact itL_get hr
  · rintro r i t acc C hi hr ⟨rfl, g1, g2, g3, g4⟩
    have hF : ∃ a b c d e, t = .tup [a, b, c, d, e] ∧ Fine a b c d e := by
      have := List.mem_of_getElem? hi
      simp only [List.mem_cons] at this
      rcases this with rfl | rfl | ht
      · exact ⟨_, _, _, _, _, rfl, hf⟩
      · exact ⟨_, _, _, _, _, rfl, hf⟩
      · obtain ⟨a', b', c', d', e', h1, h2, _⟩ := h4 t ht
        exact ⟨_, _, _, _, _, h1, h2⟩
    obtain ⟨a', b', c', d', e', rfl, hg⟩ := hF
    have hil := (List.getElem?_eq_some_iff.mp hi).1
    have hrl := (List.getElem?_eq_some_iff.mp hr).1
    simp [h3] at hil
    refine ⟨_, rfl, ?_⟩
    simp [bYes, wipeE]
    refine (wk_fine hg).on fun v D ⟨hv, k1, k2⟩ => ?_
    subst hv
    refine ⟨k1.at hr, by unfold sizeLine; omega, by simp [g1], (g2.trans k1).set (by omega), ?_, ?_⟩
    · exact k1.at g3
    · intro k t hk ht
      by_cases hki : k < i
      · obtain ⟨v, q1, p, a1, b1, c1, d1, e1, q2, q3, q4, q5, q6⟩ := g4 k t hki ht
        refine ⟨v, by rw [List.getElem?_append_left (by omega)]; exact q1, p, a1, b1, c1, d1, e1, q2, q3, q4, ?_, q6⟩
        show (D.set _ _)[p]? = _
        rw [List.getElem?_set_ne (Ne.symm q6)]
        exact k1.at q5
      · have : k = i := by omega
        subst this
        rw [hi] at ht
        cases ht
        refine ⟨.ref C.length, by rw [List.getElem?_append_right (by omega)]; simp [g1], C.length, _, _, _, _, _, rfl, hg, rfl, ?_, by omega⟩
        show (D.set _ _)[_]? = _
        rw [List.getElem?_set_ne (by omega)]
        exact k2
  · rintro r acc C hr ⟨rfl, g1, g2, g3, g4⟩
    refine ⟨_, acc, rfl, by omega, hr, by simp [g1, h3], fun k t ht => ?_, g2⟩
    obtain ⟨v, q1, p, a1, b1, c1, d1, e1, q2, q3, q4, q5, q6⟩ := g4 k t (List.getElem?_eq_some_iff.mp ht).1 ht
    exact ⟨v, q1, p, a1, b1, c1, d1, e1, q2, q3, q4, q5⟩
end K04
end S35
section S36
set_option linter.all false
set_option maxRecDepth 100000
namespace K04
open PySem PySem.Spec PyProof.Rows L2 MP
@[simp] theorem told_told {A : Hm} : fNeD (.str "told") (.str "told") A = .ok (.bl false) A := by
  rw [neD_ss (by decide +kernel) (by decide +kernel)]; rfl
theorem cut_1 {l : List T} : cutL l (some 1) none = l.drop 1 := cut_from (i := 0)
theorem ix_z {A : Hm} {n : Nat} {l : List T} {t : T} (h : A[n]? = some (.lst l)) (hk : l[0]? = some t) : fIx (.ref n) (.int 0) A = .ok t A := ix_lst (k := 0) h hk
def E6 : List T := tellE true :: List.replicate 5 (tellE false)
def tellD (r : Bool) : PyData := .tuple [.str "told", .tuple [.bool r, .bool r, .bool (!r)]]
def R11 : List T := E6 ++ List.replicate 5 (tellE false)
def D11 : List PyData := tellD true :: List.replicate 10 (tellD false)
theorem dat11 {F : Hm} {s : Nat} (h : F[s]? = some (.lst R11)) : dat 64 F (.ref s) = some (.list D11) := by
  rw [dat_list h]
  have e : ∀ r, dat 63 F (tellE r) = some (tellD r) := fun r => rfl
  simp only [R11, E6, List.replicate, List.cons_append, List.nil_append, optAll, e]
  rfl
theorem sh_tell (r : Bool) : Sh (tellD r) 2 100 := by
  have hb : ∀ z : Bool, Sh (.bool z) 0 5 := fun z => by cases z <;> exact ⟨by decide +kernel, by decide +kernel, by decide +kernel, by decide +kernel, by decide +kernel⟩
  have h3 : Sh (.tuple [.bool r, .bool r, .bool (!r)]) 1 24 := by
    refine (Sh.tup (k := 0) (n := 5) fun x hx => ?_).mono (by decide) (by simp)
    simp only [List.mem_cons, List.not_mem_nil, or_false] at hx
    rcases hx with rfl | rfl | rfl <;> exact hb _
  exact (pair_sh (sh_told.mono (Nat.zero_le 1) (by decide : 20 ≤ 24)) h3).mono (by decide) (by decide)
theorem sh11 : Sh (.list D11) 3 2000 := by
  refine (Sh.lst (k := 2) (n := 100) fun x hx => ?_).mono (by decide) (by decide)
  simp only [D11, List.mem_cons, List.mem_replicate] at hx
  rcases hx with rfl | ⟨_, rfl⟩ <;> exact sh_tell _
theorem repr_w {C : Hm} {s : Nat} {L : List T} {Q : T → Hm → Prop} {X : Nat → Fs → Hm → Prop} (h : C[s]? = some (.lst L)) (hL : L = R11) (hq : Q (.str (PyData.list D11).shown) C) : wE (fReprR [.ref s] C) Q X := by
  subst hL
  rw [repr_ok rfl (dat11 h) sh11 (by decide) (by decide)]
  exact hq
theorem mul_r {A : Hm} {n : Nat} {l : List T} (h : A[n]? = some (.lst l)) (hl : l.length ≤ 100) : fMul (.ref n) (.int 10) A = .ok (.ref A.length) (A ++ [.lst (List.replicate 10 l).flatten]) := by
  have : l.length * 10 ≤ sizeLine := by unfold sizeLine; omega
  simp [fMul, h, this]
theorem equal_right_ok {j N : Nat} {A : Hm} {a b c d e : T} (h : Jr j N A) (hN : N < 4000) (hf : Fine a b c d e) (hb : b ∈ wrd) (hc : c ∈ wrd) : wE (f_law_equal_right [.ref j, .tup [a, b, c, d, e]] A) (fun v B => v = .bl true ∧ Jr j (N + 5) B ∧ Fr j A B) noX := by
  unfold f_law_equal_right
  rw [wE_fn]
  simp [m_law_equal_right, sizeLine, -List.append_assoc, -List.length_append, wS_asg]
  refine (others_ok h (by omega) hf hb hc).on fun v B ⟨⟨q, ts, hv, h1, h2, h3, h4⟩, hJ, hF⟩ => ?_
  subst hv
  refine (heard_ok (P := fun v C => ∃ (m : Nat) (ms : List T), v = .ref m ∧ B.length ≤ m ∧ C[m]? = some (.lst ms) ∧ ms.length = 7 ∧ (∀ (k : Nat) (t : T), (T.tup [a, b, c, d, e] :: T.tup [a, b, c, d, e] :: ts)[k]? = some t → ∃ v, ms[k]? = some v ∧ MadeT C t v) ∧ Fa B C) (P' := fun _ _ => False) ((made_ok h2 h3 hf h4).on fun _ _ h => h)).on ?_
  rintro t C (⟨v, rfl, m, ms, rfl, m1, m2, m3, m4, m5⟩ | ⟨_, _, _, h, _⟩)
  rotate_left
  · exact h.elim
  simp [-List.append_assoc, -List.length_append]
  have hJ := hJ.fa m5
  have hF := hF.trans m5.fr
  clear h2 m5
  -- the first of them
  obtain ⟨v0, w0, p0, a0, b0, c0, d0, e0, w1, w2, w3, w4⟩ := m4 0 _ rfl
  cases w1
  subst w3
  refine wE_lc (ms.drop 1) (fun s i acc D => acc = E6.take i ∧ Fa (C ++ [MP.C.lst (ms.drop 1)]) D ∧ s = C.length + 1) ?_ ?_ ?_
  · have hl : lstOf C m = some ms := by simp [lstOf, m2]
    simp [fSl, hl, cut_1, -List.append_assoc, -List.length_append, -List.drop_one]
    rw [itS_r h_last]
    simp only [wE_ok]
    refine ⟨by show (List.drop 1 ms).length = _; simp, ⟨Fa.app, by simp⟩, ?_⟩
    intro i acc D _ g _
    exact (itL_get (g.at h_last)).trans (by simp [Nat.add_comm])
  · rintro s i t acc D hi hs ⟨rfl, g1, rfl⟩
    refine ⟨_, rfl, ?_⟩
    simp [bYes, wipeE, -List.length_append, -List.drop_one]
    have gC : Fa C D := Fa.app.trans g1
    rw [ix_z (gC.at m2) w0]
    simp only [wE_ok]
    rw [List.getElem?_drop] at hi
    have hil : 1 + i < 7 := by have := (List.getElem?_eq_some_iff.mp hi).1; omega
    have hu : (T.tup [a, b, c, d, e] :: T.tup [a, b, c, d, e] :: ts)[1 + i]? = some ((T.tup [a, b, c, d, e] :: T.tup [a, b, c, d, e] :: ts)[1 + i]'(by simp [h3]; omega)) := List.getElem?_eq_getElem _
    obtain ⟨v1, x0, p1, a1, b1, c1, d1, e1, x1, x2, x3, x4⟩ := m4 (1 + i) _ hu
    rw [hi] at x0
    cases x0
    subst x3
    obtain ⟨r, y1, y2⟩ := equal_ins (gC.at w4 : Ins D p0 a b c d e) (gC.at x4 : Ins D p1 a1 b1 c1 d1 e1) hf x2
    refine y1.on fun v E ⟨hv, y3⟩ => ?_
    subst hv
    have hr : E6[i]? = some (tellE r) := by
      rcases i with _ | i
      · have : T.tup [a, b, c, d, e] = T.tup [a1, b1, c1, d1, e1] := x1
        have := y2.mpr (by simpa using this)
        subst this; rfl
      · have hmem : T.tup [a1, b1, c1, d1, e1] ∈ ts := by
          rw [← x1]
          have : ∀ (k : Nat) hk, (T.tup [a, b, c, d, e] :: T.tup [a, b, c, d, e] :: ts)[1 + (k + 1)]'hk ∈ ts := by
            intro k hk
            have e3 : (T.tup [a, b, c, d, e] :: T.tup [a, b, c, d, e] :: ts)[1 + (k + 1)]'hk = ts[k]'(by simp at hk; omega) := by
              have : 1 + (k + 1) = k + 1 + 1 := by omega
              simp [this]
            rw [e3]; exact List.getElem_mem _
          exact this i _
        obtain ⟨a2, b2, c2, d2, e2, z1, z2, z3⟩ := h4 _ hmem
        have : r = false := by
          cases r with
          | false => rfl
          | true =>
            exfalso; apply z3
            rw [y2.mp rfl]
            simpa using z1
        subst this
        have : i < 5 := by omega
        rcases i with _ | _ | _ | _ | _ | i <;> first | rfl | omega
    have htake : E6.take (i + 1) = E6.take i ++ [tellE r] := by rw [List.take_succ, hr]; rfl
    refine ⟨y3.at hs, ?_, htake.symm, (g1.trans y3).set (by simp)⟩
    unfold sizeLine
    have : (E6.take i).length ≤ 6 := by simp [E6]; omega
    simp at this ⊢
    omega
  · rintro s acc D hs ⟨rfl, g1, rfl⟩
    have hs : D[C.length + 1]? = some (.lst E6) := by
      rw [hs]
      have : (List.drop 1 ms).length = 6 := by simp [m3]
      rw [this]; rfl
    have gC : Fa C D := Fa.app.trans g1
    refine ⟨kind_lst hs, ?_⟩
    refine wE_lc [.non, .tup [a, b, c, d, e], a, .int 0, .ref D.length] (fun s i acc E => acc = List.replicate i (tellE false) ∧ Fa (D ++ [MP.C.lst [a, b, c, d, e]] ++ [MP.C.lst [.non, .tup [a, b, c, d, e], a, .int 0, .ref D.length]]) E ∧ s = D.length + 2) ?_ ?_ ?_
    · simp [fList, sizeLine, -List.append_assoc, -List.length_append]
      rw [itS_r h_last]
      simp only [wE_ok]
      refine ⟨rfl, ⟨Fa.app, by simp⟩, ?_⟩
      intro i acc E _ g _
      exact itL_get (g.at h_last)
    · rintro s i t acc E hi hs2 ⟨rfl, g2, rfl⟩
      refine ⟨_, rfl, ?_⟩
      simp [bYes, wipeE, -List.length_append, -List.append_assoc]
      have gD : Fa D E := (Fa.app.trans Fa.app).trans g2
      have gE : Fa C E := gC.trans gD
      rw [ix_z (gE.at m2) w0]
      simp only [wE_ok]
      have hp : Ins E p0 a b c d e := gE.at w4
      have hil : i < 5 := (List.getElem?_eq_some_iff.mp hi).1
      have hl : E[D.length]? = some (.lst [a, b, c, d, e]) := g2.at (h_old h_last)
      have key : wE (f_law_equal [.ref p0, t] E) (fun v C => v = tellE false ∧ Fa E C) noX := by
        obtain ⟨sa, sb, sc, sd, z, rfl, rfl, rfl, rfl, rfl, _⟩ := hf.strs
        rcases i with _ | _ | _ | _ | _ | i
        · cases hi; exact equal_not (k := "NoneType") hp rfl (by decide) rfl rfl
        · cases hi; exact equal_not (k := "tuple") hp rfl (by decide) rfl rfl
        · cases hi; exact equal_not (k := "str") hp rfl (by decide) rfl rfl
        · cases hi; exact equal_not (k := "int") hp rfl (by decide) rfl rfl
        · cases hi
          exact equal_not (k := "list") hp (by simp [tyT, hl]) (by decide) (by simp [isBi, hl]) (by simp [isInsC, insOf, hl])
        · omega
      refine key.on fun v G ⟨hv, y3⟩ => ?_
      subst hv
      refine ⟨y3.at hs2, by unfold sizeLine; omega, by rw [List.replicate_succ'], (g2.trans y3).set (by simp)⟩
    · rintro s acc E hs2 ⟨rfl, g2, rfl⟩
      have gD : Fa D E := (Fa.app.trans Fa.app).trans g2
      have gE : Fa C E := gC.trans gD
      refine ext_w (A0 := C) (gD.at hs) hs2 (by simp [E6]) (by simp) gE fun F g3 _ q1 => ?_
      replace q1 : F[C.length + 1]? = some (.lst R11) := q1
      rw [repr_ok rfl (dat11 q1) sh11 (by decide) (by decide)]
      simp only [wE_ok]
      rw [mul_r h_last (by decide)]
      simp only [wE_ok]
      rw [add_rr (h_old (h_old h_last)) h_last (by decide)]
      simp only [wE_ok]
      refine repr_w h_last rfl ?_
      rw [eqD_ss sh11.tx sh11.tx]
      simp only [wE_ok]
      have g4 : ∀ l1 l2 l3 l4, Fa C (F ++ l1 ++ l2 ++ l3 ++ l4) := fun l1 l2 l3 l4 => (((g3.trans Fa.app).trans Fa.app).trans Fa.app).trans Fa.app
      exact ⟨by simp, hJ.fa (g4 _ _ _ _), hF.trans (g4 _ _ _ _).fr⟩
end K04
end S36
section S37
set_option linter.all false
set_option maxRecDepth 100000
namespace K04
open PySem PySem.Spec PyProof.Rows L2 MP
theorem init_fine {A : Hm} {a b c d e : T} (h : Fine a b c d e) : wE (f_Waking_init [.ref A.length, a, b, c, d, e] (A ++ [.ins 9 []])) (fun v C => v = .non ∧ Fa A C ∧ Ins C A.length a b c d e) noX :=
  (wi_ok (j := 0) h.oks).mono (fun v C ⟨h1, _, h3, h4⟩ => ⟨h1, h3, h4⟩) fun k fs C ⟨_, _, h3, _⟩ => h3 h.due
theorem heard_in {lam : Lam} {A : Hm} {P : T → Hm → Prop} (h : wE (lam A) P noX) : wE (f_law_hx_heard lam [] A) (fun t C => ∃ v, t = .tup [.str "told", v] ∧ P v C) noX :=
  (heard_ok (P := P) (P' := fun _ _ => False) (h.mono (fun _ _ h => h) fun _ _ _ z => z.elim)).on fun t C h => by
    rcases h with h | ⟨_, _, _, h, _⟩
    · exact h
    · exact h.elim
theorem f1 : Fine (.str "done") (.str "a") (.str "b") (.str "own") (.bl false) := ⟨by simp [evs], by simp [wr2, wrd], by simp [wr2, wrd], by simp [bys], ⟨_, rfl⟩⟩
theorem f2 : Fine (.str "done") (.str "b") (.str "a") (.str "own") (.bl false) := ⟨by simp [evs], by simp [wr2, wrd], by simp [wr2, wrd], by simp [bys], ⟨_, rfl⟩⟩
theorem f3 : Fine (.str "laid") (.str "a") (.str "b") (.str "own") (.bl true) := ⟨by simp [evs], by simp [wr2, wrd], by simp [wr2, wrd], by simp [bys], ⟨_, rfl⟩⟩
def L4 : List T := [.tup [.str "told", .bl false], .tup [.str "told", .tup [.str "done", .str "a", .str "b", .str "own", .bl false]], .tup [.str "told", .tup [.str "laid", .str "a", .str "b", .str "own", .bl true]], .tup [.str "BadWaking", .str "event"]]
def D4 : List PyData := [.tuple [.str "told", .bool false], .tuple [.str "told", .tuple [.str "done", .str "a", .str "b", .str "own", .bool false]], .tuple [.str "told", .tuple [.str "laid", .str "a", .str "b", .str "own", .bool true]], .tuple [.str "BadWaking", .str "event"]]
theorem dat4 {F : Hm} {s : Nat} (h : F[s]? = some (.lst L4)) : dat 64 F (.ref s) = some (.list D4) := by
  rw [dat_list h]; rfl
theorem sh4 : Sh (.list D4) 5 2000 := ⟨by decide +kernel, by decide +kernel, by decide +kernel, by decide +kernel, by decide +kernel⟩
theorem repr4 {C : Hm} {s : Nat} {L : List T} {Q : T → Hm → Prop} {X : Nat → Fs → Hm → Prop} (h : C[s]? = some (.lst L)) (hL : L = L4) (hq : Q (.str (PyData.list D4).shown) C) : wE (fReprR [.ref s] C) Q X := by
  subst hL
  rw [repr_ok rfl (dat4 h) sh4 (by decide) (by decide)]
  exact hq
theorem o4 {j : Nat} {A : Hm} : Oks j A (.str "Done") (.str "A") (.str "B") (.str "x") (.int 1) (flatD (.str "Done")) (flatD (.str "A")) (flatD (.str "B")) (flatD (.str "x")) (flatD (.int 1)) := ⟨ok_flat (by decide +kernel), ok_flat (by decide +kernel), ok_flat (by decide +kernel), ok_flat (by decide +kernel), ok_flat (by decide +kernel)⟩
theorem due4 : dueO (.str "Done") (.str "A") (.str "B") (.str "x") (.int 1) = .str "event" := by
  have : O evs (.str "Done") = false := by decide +kernel
  show due _ _ _ _ _ = _
  rw [this]; rfl
theorem turned_ok {A : Hm} : wE (f_law_turned_right [] A) (fun v B => v = .bl true) noX := by
  unfold f_law_turned_right
  rw [wE_fn]
  simp [m_law_turned_right, sizeLine, -List.append_assoc, -List.length_append]
  refine (heard_in (P := fun v C => v = .bl false) ?_).on ?_
  · simp [gT_b_Waking_init_4, g_b_Waking_init_4, -List.append_assoc, -List.length_append]
    refine (init_fine f1).on fun v C ⟨hv, g1, g2⟩ => ⟨hv, ?_⟩
    refine (init_fine f2).on fun v D ⟨hv, g3, g4⟩ => ⟨hv, ?_⟩
    obtain ⟨r, q1, q2⟩ := weq_ins (g3.at g2 : Ins D A.length _ _ _ _ _) g4 f1 f2
    have : r = false := by
      cases r with
      | false => rfl
      | true =>
        have := q2.mp rfl
        simp at this
        exact absurd this (by decide +kernel)
    subst this
    simp [fOr, isOwn, isInsC_ok (g3.at g2 : Ins D A.length _ _ _ _ _), fEqO, tyIn_ins g4, eq2, q1]
  · rintro t C ⟨v, rfl, rfl⟩
    refine ⟨kind_lst h_last, ?_⟩
    have s0 := h_last (A := C) (c := MP.C.lst [T.tup [T.str "told", T.bl false]])
    have k0 : Fa C (C ++ [MP.C.lst [T.tup [T.str "told", T.bl false]]]) := Fa.app
    generalize C ++ [MP.C.lst [T.tup [T.str "told", T.bl false]]] = C1 at s0 k0 ⊢
    refine (heard_in (P := fun v D => v = .tup [.str "done", .str "a", .str "b", .str "own", .bl false] ∧ Fa C1 D) ?_).on ?_
    · simp [gT_b_Waking_init_4, g_b_Waking_init_4, -List.append_assoc, -List.length_append]
      exact (init_fine f1).on fun v D ⟨hv, g1, g2⟩ => ⟨hv, (told_ok g2).on fun v E ⟨h1, h2⟩ => ⟨h1, h2 ▸ g1⟩⟩
    rintro t D ⟨v, rfl, rfl, k1⟩
    refine app_w (A0 := C) (k1.at s0) (by simp) (Nat.le_refl _) (k0.trans k1) fun C2 k2 _ s2 => ⟨kind_lst s2, ?_⟩
    refine (heard_in (P := fun v D => v = .tup [.str "laid", .str "a", .str "b", .str "own", .bl true] ∧ Fa C2 D) ?_).on ?_
    · simp [gT_b_Waking_init_1_call_deed_event_may, g_b_Waking_init_1_call_deed_event_may, -List.append_assoc, -List.length_append]
      exact (init_fine f3).on fun v D ⟨hv, g1, g2⟩ => ⟨hv, (told_ok g2).on fun v E ⟨h1, h2⟩ => ⟨h1, h2 ▸ g1⟩⟩
    rintro t D ⟨v, rfl, rfl, k3⟩
    refine app_w (A0 := C) (k3.at s2) (by simp) (Nat.le_refl _) (k2.trans k3) fun C3 k4 _ s3 => ⟨kind_lst s3, ?_⟩
    refine (heard_ok (P := fun _ _ => False) (P' := fun v D => v = .str "event" ∧ Fa C3 D) ?_).on ?_
    · simp [gT_b_Waking_init_4_by_may, g_b_Waking_init_4_by_may, -List.append_assoc, -List.length_append]
      refine (wi_ok (j := 0) o4).mono (fun v D ⟨h1, h2, _⟩ => ?_) fun k fs D ⟨h1, h2, _, h4⟩ => ⟨h1, _, h2, due4, h4⟩
      have := due4.symm.trans h2
      cases this
    rintro t D (⟨v, rfl, h⟩ | ⟨v, D0, rfl, ⟨rfl, k5⟩, k6⟩)
    · exact h.elim
    refine app_w (A0 := C) ((k5.trans k6).at s3) (by simp) (Nat.le_refl _) (k4.trans (k5.trans k6)) fun C4 k7 _ s4 => ?_
    refine repr4 (h_old s4) rfl ?_
    rw [add_rr (h_old h_last) h_last (by simp)]
    simp only [wE_ok]
    refine repr4 h_last rfl ?_
    have : ∀ B, fOr (isOwn 9) (fEqO [9] 9 f_Waking_eq) fEqD (.str (PyData.list D4).shown) (.str (PyData.list D4).shown) B = .ok (.bl true) B := fun B => by
      simp only [fOr, isOwn, isInsC, insOf]
      rw [eqD_ss sh4.tx sh4.tx]
      simp
    rw [this]
    rfl
end K04
end S37
section S38
set_option linter.all false
set_option maxRecDepth 100000
namespace K04
open PySem PySem.Spec PyProof.Rows L2 MP
theorem pool_w {n : Nat} {A : Hm} {ns : List Int} {Q : T → Hm → Prop} (hA : A[n]? = some (.flst (ns.map T.int))) (hn : ns.length ≤ 63) (hq : ∀ C j, Jr j 0 C → Q (.ref j) C) : wE (f_law_pool [.ref n] A) Q noX :=
  (pool_ok hA hn).on fun v C ⟨h1, h2, _⟩ => by subst h1; exact hq C _ h2
theorem law_ok {ns : List Int} {A0 : Hm} (hn : ns.length ≤ 63) (h0 : A0[0]? = some (.flst (ns.map T.int))) : wE (f_law [.ref 0] A0) (fun v B => v = .bl true) noX := by
  unfold f_law
  rw [wE_fn]
  simp [m_law, wS_asg, sizeLine]
  refine pool_w h0 hn fun A j hJ => ?_
  refine wS_for (rngT 12) (fun i e C => (∃ s2 s3 s4 s5, e = [some (.ref 0), some (.ref j), s2, s3, s4, s5]) ∧ Jr j (30 * i) C) ?_ ?_ ?_
  · simp
    exact ⟨rfl, hJ, fun _ _ _ _ _ _ _ _ _ => itR_get⟩
  · rintro i t e C hi ⟨⟨s2, s3, s4, s5, rfl⟩, i1⟩
    obtain ⟨rfl, hi5⟩ := rngT_get hi
    refine ⟨_, _, rfl, ?_⟩
    simp [wS_asg]
    refine (drawn_ok i1 (by omega)).on fun v D ⟨a, b, c, d, e, hv, hf, ⟨hb, hc⟩, j1, _⟩ => ?_
    subst hv
    have hg : G5 j D [a, b, c, d, e] := ⟨rfl, fun x hx => by
      have o := hf.oks (j := j) (A := D)
      simp only [List.mem_cons, List.not_mem_nil, or_false] at hx
      rcases hx with rfl | rfl | rfl | rfl | rfl
      · exact ⟨_, o.a⟩
      · exact ⟨_, o.b⟩
      · exact ⟨_, o.c⟩
      · exact ⟨_, o.d⟩
      · exact ⟨_, o.e⟩⟩
    refine (bent_ok j1 (by omega) hg).on fun v E ⟨hv, j2, _⟩ => ?_
    subst hv
    simp
    refine (equal_right_ok j2 (by omega) hf hb hc).on fun v F ⟨hv, j3, _⟩ => ?_
    subst hv
    simp
    exact j3.mono (by omega)
  · rintro e C ⟨⟨s2, s3, s4, s5, rfl⟩, _⟩
    simp
    refine wS_for evs (fun i e D => (∃ s2 s3 s4 s5, e = [some (.ref 0), some (.ref j), s2, s3, s4, s5]) ∧ Fa (C ++ [MP.C.lst evs]) D) ?_ ?_ ?_
    · simp [sizeLine, -List.append_assoc]
      change MP.wE (iAnyK (T.ref C.length) (C ++ [MP.C.lst evs])) _ _
      rw [itS_r h_last]
      simp only [wE_ok]
      exact ⟨rfl, Fa.refl, fun i e D _ _ _ _ _ g => itL_get (g.at h_last)⟩
    · rintro i t e D hi ⟨⟨s2, s3, s4, s5, rfl⟩, i1⟩
      have ht : t ∈ evs := List.mem_of_getElem? hi
      refine ⟨_, _, rfl, ?_⟩
      simp
      refine wS_for bys (fun i e E => (∃ s2 s3 s5, e = [some (.ref 0), some (.ref j), s2, s3, some t, s5]) ∧ Fa (D ++ [MP.C.lst bys]) E) ?_ ?_ ?_
      · simp [sizeLine, -List.append_assoc]
        change MP.wE (iAnyK (T.ref D.length) (D ++ [MP.C.lst bys])) _ _
        rw [itS_r h_last]
        simp only [wE_ok]
        exact ⟨rfl, Fa.refl, fun i e D _ _ _ _ g => itL_get (g.at h_last)⟩
      · rintro k u e E hk ⟨⟨s2, s3, s5, rfl⟩, k1⟩
        have hu : u ∈ bys := List.mem_of_getElem? hk
        refine ⟨_, _, rfl, ?_⟩
        simp [sizeLine]
        have r1 : Fine t (.str "a") (.str "a") u (.bl true) := ⟨ht, by simp [wr2, wrd], by simp [wr2, wrd], hu, ⟨_, rfl⟩⟩
        have r2 : Fine t (.str "a") (.str "b") u (.bl false) := ⟨ht, by simp [wr2, wrd], by simp [wr2, wrd], hu, ⟨_, rfl⟩⟩
        refine (right_ok (j := 0) r1.oks).on fun v F ⟨hv, g1⟩ => ?_
        subst hv
        simp
        refine (right_ok (j := 0) r2.oks).on fun v G ⟨hv, g2⟩ => ?_
        subst hv
        simp
        exact k1.trans (g1.trans g2)
      · rintro e E ⟨⟨s2, s3, s5, rfl⟩, k1⟩
        simp
        exact i1.trans (Fa.app.trans k1)
    · rintro e D ⟨⟨s2, s3, s4, s5, rfl⟩, i1⟩
      simp
      exact turned_ok
theorem law_ex {ns : List Int} {A0 : Hm} (hn : ns.length ≤ 63) (h0 : A0[0]? = some (.flst (ns.map T.int))) : ∃ A, f_law [.ref 0] A0 = .ok (.bl true) A := by
  obtain ⟨v, A, h, rfl⟩ := (law_ok hn h0).ok
  exact ⟨A, h⟩
theorem ans : ∀ ns : List Int, ns.length ≤ 63 → (∀ z ∈ ns, Builtin.Int.intBits z ≤ 1048576) → ∃ A, f_law [.ref 0] [.flst (ns.map T.int)] = .ok (.bl true) A := fun ns hn _ => law_ex hn rfl
end K04
end S38
section S39
set_option Elab.async false
set_option linter.all false
set_option maxRecDepth 100000
set_option maxHeartbeats 0
namespace K04
open PySem PySem.Spec PyProof.Rows L2 MP
/-! ### the head -/
def names : List Str := ["PileError", "BadDeed", "BadWaking", "BadRules", "BadTable", "BadEntry", "BadHands", "BadMove", "NotThere", "Waking"]
def tf : List He.Defn := [("_law_right", none), ("_law_equal", none), ("_law_equal_right", none), ("_law_turned_right", none)]
def dd_law_pool : He.DefD := ⟨("_law_pool", none), "_law_pool", "_law_pool", defArgs s_law_pool, defBody s_law_pool, defScope s_law_pool, [], []⟩
def dd_law_take : He.DefD := ⟨("_law_take", none), "_law_take", "_law_take", defArgs s_law_take, defBody s_law_take, defScope s_law_take, [], []⟩
def dd_law_one : He.DefD := ⟨("_law_one", none), "_law_one", "_law_one", defArgs s_law_one, defBody s_law_one, defScope s_law_one, [], []⟩
def dd_law_drawn : He.DefD := ⟨("_law_drawn", none), "_law_drawn", "_law_drawn", defArgs s_law_drawn, defBody s_law_drawn, defScope s_law_drawn, [], []⟩
def dd_law_hp_is_word : He.DefD := ⟨("_law_hp_is_word", none), "_law_hp_is_word", "_law_hp_is_word", defArgs s_law_hp_is_word, defBody s_law_hp_is_word, defScope s_law_hp_is_word, [], []⟩
def dd_law_hp_waking_due : He.DefD := ⟨("_law_hp_waking_due", none), "_law_hp_waking_due", "_law_hp_waking_due", defArgs s_law_hp_waking_due, defBody s_law_hp_waking_due, defScope s_law_hp_waking_due, [], []⟩
def dd_law_hx_heard : He.DefD := ⟨("_law_hx_heard", none), "_law_hx_heard", "_law_hx_heard", defArgs s_law_hx_heard, defBody s_law_hx_heard, defScope s_law_hx_heard, [], []⟩
def dd_law_hx_says : He.DefD := ⟨("_law_hx_says", none), "_law_hx_says", "_law_hx_says", defArgs s_law_hx_says, defBody s_law_hx_says, defScope s_law_hx_says, [], []⟩
def dd_law_hx_waking_told : He.DefD := ⟨("_law_hx_waking_told", none), "_law_hx_waking_told", "_law_hx_waking_told", defArgs s_law_hx_waking_told, defBody s_law_hx_waking_told, defScope s_law_hx_waking_told, [], []⟩
def dd_is_one_of : He.DefD := ⟨("is_one_of", none), "is_one_of", "is_one_of", defArgs s_is_one_of, defBody s_is_one_of, defScope s_is_one_of, [], []⟩
def dd_is_word : He.DefD := ⟨("is_word", none), "is_word", "is_word", defArgs s_is_word, defBody s_is_word, defScope s_is_word, [], []⟩
def dd_BadWaking_init : He.DefD := ⟨("BadWaking", some "__init__"), "__init__", "BadWaking.__init__", defArgs s_BadWaking_init, defBody s_BadWaking_init, defScope s_BadWaking_init, [], []⟩
def dd_Waking_init : He.DefD := ⟨("Waking", some "__init__"), "__init__", "Waking.__init__", defArgs s_Waking_init, defBody s_Waking_init, defScope s_Waking_init, [], [("by", (.str "own")), ("may", (.bl false))]⟩
def dd_law_hx_waking : He.DefD := ⟨("_law_hx_waking", none), "_law_hx_waking", "_law_hx_waking", defArgs s_law_hx_waking, defBody s_law_hx_waking, defScope s_law_hx_waking, [], []⟩
def dd_law_right : He.DefD := ⟨("_law_right", none), "_law_right", "_law_right", defArgs s_law_right, defBody s_law_right, defScope s_law_right, [], []⟩
def dd_law_odd : He.DefD := ⟨("_law_odd", none), "_law_odd", "_law_odd", defArgs s_law_odd, defBody s_law_odd, defScope s_law_odd, [], []⟩
def dd_law_bent_right : He.DefD := ⟨("_law_bent_right", none), "_law_bent_right", "_law_bent_right", defArgs s_law_bent_right, defBody s_law_bent_right, defScope s_law_bent_right, [], []⟩
def dd_law_others : He.DefD := ⟨("_law_others", none), "_law_others", "_law_others", defArgs s_law_others, defBody s_law_others, defScope s_law_others, [], []⟩
def dd_Waking_row : He.DefD := ⟨("Waking", some "row"), "row", "Waking.row", defArgs s_Waking_row, defBody s_Waking_row, defScope s_Waking_row, [], []⟩
def dd_Waking_eq : He.DefD := ⟨("Waking", some "__eq__"), "__eq__", "Waking.__eq__", defArgs s_Waking_eq, defBody s_Waking_eq, defScope s_Waking_eq, [], []⟩
def dd_law_equal : He.DefD := ⟨("_law_equal", none), "_law_equal", "_law_equal", defArgs s_law_equal, defBody s_law_equal, defScope s_law_equal, [], []⟩
def dd_law_equal_right : He.DefD := ⟨("_law_equal_right", none), "_law_equal_right", "_law_equal_right", defArgs s_law_equal_right, defBody s_law_equal_right, defScope s_law_equal_right, [], []⟩
def dd_law_turned_right : He.DefD := ⟨("_law_turned_right", none), "_law_turned_right", "_law_turned_right", defArgs s_law_turned_right, defBody s_law_turned_right, defScope s_law_turned_right, [], []⟩
def dd_law : He.DefD := ⟨("law", none), "law", "law", defArgs s_law, defBody s_law, defScope s_law, [], []⟩
def fn : List He.DefD := [dd_law_pool, dd_law_take, dd_law_one, dd_law_drawn, dd_law_hp_is_word, dd_law_hp_waking_due, dd_law_hx_heard, dd_law_hx_says, dd_law_hx_waking_told, dd_is_one_of, dd_is_word, dd_BadWaking_init, dd_Waking_init, dd_law_hx_waking, dd_law_right, dd_law_odd, dd_law_bent_right, dd_law_others, dd_Waking_row, dd_Waking_eq, dd_law_equal, dd_law_equal_right, dd_law_turned_right, dd_law]
def fa : List He.Fa := [.free "str", .free "isinstance", .free "len", .str "LETTERS" "abcdefghijklmnopqrstuvwxyz", .free "all", .glo "EVENTS", .free "bool", .cls "Waking", .noat "Waking" "event", .noat "Waking" "deed", .noat "Waking" "call", .noat "Waking" "by", .noat "Waking" "may", .glo "Waking", .free "range", .free "max", .free "int", .glo "PileError", .glo "NotThere", .glo "BadMove", .glo "BadHands", .glo "BadEntry", .glo "BadTable", .glo "BadDeed", .glo "BadWaking", .glo "BadRules", .free "repr", .free "tuple", .free "list", .glo "_law_pool", .glo "_law_take", .glo "_law_one", .glo "_law_drawn", .glo "_law_hp_is_word", .glo "_law_hp_waking_due", .glo "_law_hx_heard", .glo "_law_hx_says", .glo "_law_hx_waking_told", .glo "is_one_of", .glo "is_word", .mkr "Waking", .glo "_law_hx_waking", .glo "_law_right", .glo "_law_odd", .glo "_law_bent_right", .glo "_law_others", .meth "Waking" "row", .meth "Waking" "__eq__", .glo "_law_equal", .glo "_law_equal_right", .glo "_law_turned_right", .glo "law"]
def exl : List (PySem.W.Frag → Bool) := [fun K => noLists K,
  fun K => tabsU K tf,
  fun K => plainsB K (fun i => He.ga K (names.getD i Str.empty)) (fun i => names.getD i Str.empty) [9],
  fun K => He.tupB K "EVENTS" [(.str "laid"), (.str "done"), (.str "struck"), (.str "instead")],
  fun K => exctB K (fun i => He.ga K (names.getD i Str.empty)) ancs,
  fun K => xcB K (fun i => He.ga K (names.getD i Str.empty)) "word" ([8] : List Nat),
  fun K => xcB K (fun i => He.ga K (names.getD i Str.empty)) "move" ([7] : List Nat),
  fun K => xcB K (fun i => He.ga K (names.getD i Str.empty)) "value" ([6] : List Nat),
  fun K => xcB K (fun i => He.ga K (names.getD i Str.empty)) "entry" ([5] : List Nat),
  fun K => xcB K (fun i => He.ga K (names.getD i Str.empty)) "table" ([4] : List Nat),
  fun K => xcB K (fun i => He.ga K (names.getD i Str.empty)) "part" ([1, 2, 3] : List Nat),
  fun K => eqcB K (He.ga K "Waking") ([9].map (fun i => He.ga K (names.getD i Str.empty))),
  fun K => baseB K (He.ga K "PileError"),
  fun K => xinB K "BadWaking",
  fun K => oexB K (He.ga K "BadWaking") "part"]
def ex (K : PySem.W.Frag) : Bool := exl.all fun f => f K
abbrev R : PySem.W.OpenRow := PySem.W.OpenLaw.row PySem.Challenge.rw_hiddenhands_k04_wakings_refused_and_told
abbrev hk : PySem.W.Hook := hookY 5 fa fn tf ex
def ob (s : PySem.W.SharedT) : He.AlX := obsY 5 fa fn tf ex (HandSHeadRun.getT s)
theorem ob_eq (s : PySem.W.SharedT) : ob s = hk.obs s.abs := obsY_eq (HandSHeadRun.getT_eq s)
def loose0 : List Str := ["PileError", "BadDeed", "BadWaking", "BadRules", "BadTable", "BadEntry", "BadHands", "BadMove", "NotThere", "LETTERS", "EVENTS", "is_word", "is_one_of", "Waking", "_law_pool", "_law_take", "_law_one", "_law_hp_is_word", "_law_hp_waking_due", "_law_hx_waking", "_law_hx_waking_told", "_law_hx_heard", "_law_hx_says", "_law_drawn", "_law_odd", "_law_right", "_law_equal", "_law_bent_right", "_law_others", "_law_equal_right", "_law_turned_right"]
def loose : List Str := loose0
theorem run (w : World) : HandSHeadRun.RunEq R (PySem.W.view R.prog [34]) hk ob 20000 loose w := by
  intro os
  kernel_rfl
theorem facts {K : PySem.W.Frag} {w : World} {h base : Heap} {mg : Str → Option Value} (X : K.In h) (G : h.Ns mainGlobals mg) (c : He.SaysX fa fn [] tf ex w h K) (TB : ∀ p ∈ tf.map (He.cT K), LamX.TabB base mg p.1 p.2) : Fx K (sxOf names tf K) mg base := by
  have D := c.t.d
  exact {
    n_str := He.free_ok X G (D.fact 0 (f := .free "str") rfl),
    plain := plainsB_ok (S := sxOf names tf K) (nm := (fun i => names.getD i Str.empty)) (ex_at c.more 2 rfl),
    n_isinstance := He.free_ok X G (D.fact 1 (f := .free "isinstance") rfl),
    n_len := He.free_ok X G (D.fact 2 (f := .free "len") rfl),
    k_LETTERS := (let ⟨t, h⟩ := He.str_ok X G (D.fact 3 (f := .str "LETTERS" "abcdefghijklmnopqrstuvwxyz") rfl); ⟨_, h, ⟨t, rfl⟩⟩),
    n_all := He.free_ok X G (D.fact 4 (f := .free "all") rfl),
    k_EVENTS := gtup_of (vs := [(.str "laid"), (.str "done"), (.str "struck"), (.str "instead")]) (He.glo_ok X G (D.fact 5 (f := .glo "EVENTS") rfl)) (ex_at c.more 3 rfl) rfl,
    n_bool := He.free_ok X G (D.fact 6 (f := .free "bool") rfl),
    cls_Waking := He.cls_ok (D.fact 7 (f := .cls "Waking") rfl),
    na_Waking_event := He.noat_ok (D.fact 8 (f := .noat "Waking" "event") rfl),
    fl_event := (List.forall_mem_cons.mpr ⟨⟨He.cls_ok (D.fact 7 (f := .cls "Waking") rfl), He.noat_ok (D.fact 8 (f := .noat "Waking" "event") rfl)⟩, (fun c hc => absurd hc List.not_mem_nil)⟩),
    na_Waking_deed := He.noat_ok (D.fact 9 (f := .noat "Waking" "deed") rfl),
    fl_deed := (List.forall_mem_cons.mpr ⟨⟨He.cls_ok (D.fact 7 (f := .cls "Waking") rfl), He.noat_ok (D.fact 9 (f := .noat "Waking" "deed") rfl)⟩, (fun c hc => absurd hc List.not_mem_nil)⟩),
    na_Waking_call := He.noat_ok (D.fact 10 (f := .noat "Waking" "call") rfl),
    fl_call := (List.forall_mem_cons.mpr ⟨⟨He.cls_ok (D.fact 7 (f := .cls "Waking") rfl), He.noat_ok (D.fact 10 (f := .noat "Waking" "call") rfl)⟩, (fun c hc => absurd hc List.not_mem_nil)⟩),
    na_Waking_by := He.noat_ok (D.fact 11 (f := .noat "Waking" "by") rfl),
    fl_by := (List.forall_mem_cons.mpr ⟨⟨He.cls_ok (D.fact 7 (f := .cls "Waking") rfl), He.noat_ok (D.fact 11 (f := .noat "Waking" "by") rfl)⟩, (fun c hc => absurd hc List.not_mem_nil)⟩),
    na_Waking_may := He.noat_ok (D.fact 12 (f := .noat "Waking" "may") rfl),
    fl_may := (List.forall_mem_cons.mpr ⟨⟨He.cls_ok (D.fact 7 (f := .cls "Waking") rfl), He.noat_ok (D.fact 12 (f := .noat "Waking" "may") rfl)⟩, (fun c hc => absurd hc List.not_mem_nil)⟩),
    g_Waking := (He.glo_ok X G (D.fact 13 (f := .glo "Waking") rfl)),
    n_range := He.free_ok X G (D.fact 14 (f := .free "range") rfl),
    n_max := He.free_ok X G (D.fact 15 (f := .free "max") rfl),
    n_int := He.free_ok X G (D.fact 16 (f := .free "int") rfl),
    exct := exctB_ok (S := sxOf names tf K) (ex_at c.more 4 rfl),
    g_PileError := (He.glo_ok X G (D.fact 17 (f := .glo "PileError") rfl)),
    g_NotThere := (He.glo_ok X G (D.fact 18 (f := .glo "NotThere") rfl)),
    xc_word := xcB_ok (ex_at c.more 5 rfl),
    g_BadMove := (He.glo_ok X G (D.fact 19 (f := .glo "BadMove") rfl)),
    xc_move := xcB_ok (ex_at c.more 6 rfl),
    g_BadHands := (He.glo_ok X G (D.fact 20 (f := .glo "BadHands") rfl)),
    xc_value := xcB_ok (ex_at c.more 7 rfl),
    g_BadEntry := (He.glo_ok X G (D.fact 21 (f := .glo "BadEntry") rfl)),
    xc_entry := xcB_ok (ex_at c.more 8 rfl),
    g_BadTable := (He.glo_ok X G (D.fact 22 (f := .glo "BadTable") rfl)),
    xc_table := xcB_ok (ex_at c.more 9 rfl),
    g_BadDeed := (He.glo_ok X G (D.fact 23 (f := .glo "BadDeed") rfl)),
    g_BadWaking := (He.glo_ok X G (D.fact 24 (f := .glo "BadWaking") rfl)),
    g_BadRules := (He.glo_ok X G (D.fact 25 (f := .glo "BadRules") rfl)),
    xc_part := xcB_ok (ex_at c.more 10 rfl),
    n_repr := He.free_ok X G (D.fact 26 (f := .free "repr") rfl),
    eq_Waking := eqcB_ok (ex_at c.more 11 rfl),
    n_tuple := He.free_ok X G (D.fact 27 (f := .free "tuple") rfl),
    n_list := He.free_ok X G (D.fact 28 (f := .free "list") rfl),
    b_PileError := baseB_ok (ex_at c.more 12 rfl),
    d_law_pool := (let ⟨fd, F⟩ := D.def_ 0 (d := dd_law_pool) rfl; ⟨_, fd, (He.glo_ok X G (D.fact 29 (f := .glo "_law_pool") rfl)), F⟩),
    d_law_take := (let ⟨fd, F⟩ := D.def_ 1 (d := dd_law_take) rfl; ⟨_, fd, (He.glo_ok X G (D.fact 30 (f := .glo "_law_take") rfl)), F⟩),
    d_law_one := (let ⟨fd, F⟩ := D.def_ 2 (d := dd_law_one) rfl; ⟨_, fd, (He.glo_ok X G (D.fact 31 (f := .glo "_law_one") rfl)), F⟩),
    d_law_drawn := (let ⟨fd, F⟩ := D.def_ 3 (d := dd_law_drawn) rfl; ⟨_, fd, (He.glo_ok X G (D.fact 32 (f := .glo "_law_drawn") rfl)), F⟩),
    d_law_hp_is_word := (let ⟨fd, F⟩ := D.def_ 4 (d := dd_law_hp_is_word) rfl; ⟨_, fd, (He.glo_ok X G (D.fact 33 (f := .glo "_law_hp_is_word") rfl)), F⟩),
    d_law_hp_waking_due := (let ⟨fd, F⟩ := D.def_ 5 (d := dd_law_hp_waking_due) rfl; ⟨_, fd, (He.glo_ok X G (D.fact 34 (f := .glo "_law_hp_waking_due") rfl)), F⟩),
    d_law_hx_heard := (let ⟨fd, F⟩ := D.def_ 6 (d := dd_law_hx_heard) rfl; ⟨_, fd, (He.glo_ok X G (D.fact 35 (f := .glo "_law_hx_heard") rfl)), F⟩),
    d_law_hx_says := (let ⟨fd, F⟩ := D.def_ 7 (d := dd_law_hx_says) rfl; ⟨_, fd, (He.glo_ok X G (D.fact 36 (f := .glo "_law_hx_says") rfl)), F⟩),
    d_law_hx_waking_told := (let ⟨fd, F⟩ := D.def_ 8 (d := dd_law_hx_waking_told) rfl; ⟨_, fd, (He.glo_ok X G (D.fact 37 (f := .glo "_law_hx_waking_told") rfl)), F⟩),
    d_is_one_of := (let ⟨fd, F⟩ := D.def_ 9 (d := dd_is_one_of) rfl; ⟨_, fd, (He.glo_ok X G (D.fact 38 (f := .glo "is_one_of") rfl)), F⟩),
    d_is_word := (let ⟨fd, F⟩ := D.def_ 10 (d := dd_is_word) rfl; ⟨_, fd, (He.glo_ok X G (D.fact 39 (f := .glo "is_word") rfl)), F⟩),
    x_BadWaking := (let ⟨fd, F⟩ := D.def_ 11 (d := dd_BadWaking_init) rfl; ⟨_, fd, F, (xinB_ok (ex_at c.more 13 rfl)).1, (xinB_ok (ex_at c.more 13 rfl)).2⟩),
    oe_BadWaking := oexB_ok (ex_at c.more 14 rfl),
    i_Waking := (let ⟨fd, F⟩ := D.def_ 12 (d := dd_Waking_init) rfl; ⟨_, fd, He.mkr_ok (D.fact 40 (f := .mkr "Waking") rfl), F⟩),
    d_law_hx_waking := (let ⟨fd, F⟩ := D.def_ 13 (d := dd_law_hx_waking) rfl; ⟨_, fd, (He.glo_ok X G (D.fact 41 (f := .glo "_law_hx_waking") rfl)), F⟩),
    d_law_right := (let ⟨fd, F⟩ := D.def_ 14 (d := dd_law_right) rfl; ⟨_, fd, (He.glo_ok X G (D.fact 42 (f := .glo "_law_right") rfl)), F⟩),
    l_law_right := mkL_of (ex_at c.more 1 rfl) (He.glo_ok X G (D.fact 42 (f := .glo "_law_right") rfl)) (List.mem_of_getElem? (i := 0) rfl) TB,
    d_law_odd := (let ⟨fd, F⟩ := D.def_ 15 (d := dd_law_odd) rfl; ⟨_, fd, (He.glo_ok X G (D.fact 43 (f := .glo "_law_odd") rfl)), F⟩),
    d_law_bent_right := (let ⟨fd, F⟩ := D.def_ 16 (d := dd_law_bent_right) rfl; ⟨_, fd, (He.glo_ok X G (D.fact 44 (f := .glo "_law_bent_right") rfl)), F⟩),
    d_law_others := (let ⟨fd, F⟩ := D.def_ 17 (d := dd_law_others) rfl; ⟨_, fd, (He.glo_ok X G (D.fact 45 (f := .glo "_law_others") rfl)), F⟩),
    m_Waking_row := (let ⟨fd, F⟩ := D.def_ 18 (d := dd_Waking_row) rfl; ⟨_, fd, He.cls_ok (D.fact 7 (f := .cls "Waking") rfl), He.meth_ok (D.fact 46 (f := .meth "Waking" "row") rfl), F⟩),
    m_Waking_eq := (let ⟨fd, F⟩ := D.def_ 19 (d := dd_Waking_eq) rfl; ⟨_, fd, He.cls_ok (D.fact 7 (f := .cls "Waking") rfl), He.meth_ok (D.fact 47 (f := .meth "Waking" "__eq__") rfl), F⟩),
    d_law_equal := (let ⟨fd, F⟩ := D.def_ 20 (d := dd_law_equal) rfl; ⟨_, fd, (He.glo_ok X G (D.fact 48 (f := .glo "_law_equal") rfl)), F⟩),
    l_law_equal := mkL_of (ex_at c.more 1 rfl) (He.glo_ok X G (D.fact 48 (f := .glo "_law_equal") rfl)) (List.mem_of_getElem? (i := 1) rfl) TB,
    d_law_equal_right := (let ⟨fd, F⟩ := D.def_ 21 (d := dd_law_equal_right) rfl; ⟨_, fd, (He.glo_ok X G (D.fact 49 (f := .glo "_law_equal_right") rfl)), F⟩),
    l_law_equal_right := mkL_of (ex_at c.more 1 rfl) (He.glo_ok X G (D.fact 49 (f := .glo "_law_equal_right") rfl)) (List.mem_of_getElem? (i := 2) rfl) TB,
    d_law_turned_right := (let ⟨fd, F⟩ := D.def_ 22 (d := dd_law_turned_right) rfl; ⟨_, fd, (He.glo_ok X G (D.fact 50 (f := .glo "_law_turned_right") rfl)), F⟩),
    l_law_turned_right := mkL_of (ex_at c.more 1 rfl) (He.glo_ok X G (D.fact 50 (f := .glo "_law_turned_right") rfl)) (List.mem_of_getElem? (i := 3) rfl) TB,
    d_law := (let ⟨fd, F⟩ := D.def_ 23 (d := dd_law) rfl; ⟨_, fd, (He.glo_ok X G (D.fact 51 (f := .glo "law") rfl)), F⟩) }
theorem walked {P : Program} {w : World} {K : PySem.W.Frag} {mg : Str → Option Value} {base : Heap} {S : Sx} (W : Fx K S mg base) : DF P w K mg base S "law" 11 ["script"] f_law s_law [] [] := by
  have D_law_pool : DF P w K mg base S "_law_pool" 1 ["script"] f_law_pool s_law_pool [] [] := D_law_pool W 
  have D_law_take : DF P w K mg base S "_law_take" 1 ["jar", "many"] f_law_take s_law_take [] [] := D_law_take W 
  have D_law_one : DF P w K mg base S "_law_one" 2 ["jar", "things"] f_law_one s_law_one [] [] := D_law_one W D_law_take
  have D_law_drawn : DF P w K mg base S "_law_drawn" 3 ["jar"] f_law_drawn s_law_drawn [] [] := D_law_drawn W D_law_one D_law_take
  have D_law_hp_is_word : DF P w K mg base S "_law_hp_is_word" 1 ["thing"] f_law_hp_is_word s_law_hp_is_word [] [] := D_law_hp_is_word W 
  have D_law_hp_waking_due : DF P w K mg base S "_law_hp_waking_due" 2 ["one"] f_law_hp_waking_due s_law_hp_waking_due [] [] := D_law_hp_waking_due W D_law_hp_is_word
  have D_law_hx_heard : DL P w K mg base S 6 "_law_hx_heard" 7 ["call"] f_law_hx_heard s_law_hx_heard := D_law_hx_heard W 
  have D_law_hx_says : DL P w K mg base S 6 "_law_hx_says" 8 ["call", "due"] f_law_hx_says s_law_hx_says := D_law_hx_says W D_law_hx_heard
  have D_law_hx_waking_told : DF P w K mg base S "_law_hx_waking_told" 1 ["waking"] f_law_hx_waking_told s_law_hx_waking_told [] [] := D_law_hx_waking_told W 
  have D_is_one_of : DF P w K mg base S "is_one_of" 1 ["value", "words"] f_is_one_of s_is_one_of [] [] := D_is_one_of W 
  have D_is_word : DF P w K mg base S "is_word" 1 ["value"] f_is_word s_is_word [] [] := D_is_word W 
  have D_BadWaking_init : DR P w K mg base S 2 "BadWaking" "BadWaking.__init__" "part" 1 ok_BadWaking ["self", "part"] s_BadWaking_init := D_BadWaking_init W 
  have D_Waking_init : DC P w K mg base S 9 "Waking" "Waking.__init__" 3 ["self", "event", "deed", "call", "by", "may"] f_Waking_init s_Waking_init [] [("by", (V.str "own")), ("may", (V.bl false))] := D_Waking_init W D_is_one_of D_is_word D_BadWaking_init
  have D_law_hx_waking : DF P w K mg base S "_law_hx_waking" 5 ["one"] f_law_hx_waking s_law_hx_waking [] [] := D_law_hx_waking W D_Waking_init
  have D_law_right : DF P w K mg base S "_law_right" 9 ["one"] f_law_right s_law_right [] [] := D_law_right W D_law_hp_waking_due D_law_hx_says D_law_hx_waking_told D_law_hx_waking
  have D_law_odd : DF P w K mg base S "_law_odd" 3 ["jar", "at"] f_law_odd s_law_odd [] [] := D_law_odd W D_law_one
  have D_law_bent_right : DF P w K mg base S "_law_bent_right" 10 ["jar", "one"] f_law_bent_right s_law_bent_right [] [] := D_law_bent_right W D_law_right D_law_odd D_law_take
  have D_law_others : DF P w K mg base S "_law_others" 3 ["jar", "one"] f_law_others s_law_others [] [] := D_law_others W D_law_one
  have D_Waking_row : DM P w K mg base S 9 "row" "Waking.row" 1 ["self"] f_Waking_row s_Waking_row [] [] := D_Waking_row W 
  have D_Waking_eq : DM P w K mg base S 9 "__eq__" "Waking.__eq__" 2 ["self", "other"] f_Waking_eq s_Waking_eq [] [] := D_Waking_eq W D_Waking_row
  have D_law_equal : DF P w K mg base S "_law_equal" 8 ["one", "two"] f_law_equal s_law_equal [] [] := D_law_equal W D_law_hx_heard D_Waking_eq
  have D_law_equal_right : DF P w K mg base S "_law_equal_right" 9 ["jar", "one"] f_law_equal_right s_law_equal_right [] [] := D_law_equal_right W D_law_others D_law_hx_heard D_law_equal D_law_hx_waking
  have D_law_turned_right : DF P w K mg base S "_law_turned_right" 8 [] f_law_turned_right s_law_turned_right [] [] := D_law_turned_right W D_law_hx_heard D_Waking_eq D_Waking_init D_law_hx_waking_told
  have D_law : DF P w K mg base S "law" 11 ["script"] f_law s_law [] [] := D_law W D_law_pool D_law_drawn D_law_bent_right D_law_equal_right D_law_right D_law_turned_right
  exact D_law
theorem law_at {K : PySem.W.Frag} {w : World} {h : Heap} {mg : Str → Option Value} {a : Addr} (X : K.In h) (G : h.Ns mainGlobals mg) (c : He.SaysX fa fn [] tf ex w h K) (ha : mg "law" = some (.ref a))
    (ans : ∀ ns : List Int, ns.length ≤ 63 → (∀ z ∈ ns, Builtin.Int.intBits z ≤ 1048576) → ∃ A, f_law [.ref 0] [.flst (ns.map T.int)] = .ok (.bl true) A) :
    ∃ (fd : FuncData) (cs : List (Addr × Addr)), LawAt PySem.Challenge.pw_hiddenhands_k04_wakings_refused_and_told w K (sxOf names tf K) 11 63 "script" mg a h f_law fd cs := by
  have D := c.t.d
  obtain ⟨fd, F⟩ := D.def_ 23 (d := dd_law) rfl
  have e := ha.symm.trans (He.glo_ok X G (D.fact 51 (f := .glo "law") rfl))
  cases e
  refine ⟨fd, tf.map (He.cT K), fun p hp => ?_, fun p hp => ?_, fun p hp => ?_, by simp [sxOf], (ex_at c.more 0 rfl), fun s v => FunD.bindsA (ps := ["script"]) F (fun _ _ _ _ _ _ us hl => match us, hl with | [_], _ => rfl) s [v] rfl, fun base hK hG TB => ?_, ans⟩
  · obtain ⟨r, hr, rfl⟩ := List.mem_map.mp hp; exact c.empty r hr
  · obtain ⟨r, hr, rfl⟩ := List.mem_map.mp hp; exact c.out r hr
  · obtain ⟨r, hr, rfl⟩ := List.mem_map.mp hp; exact PySem.W.codeHd_of_K X (c.hd r hr)
  · obtain ⟨f, fd', Fg, hm, F'⟩ := (walked (P := PySem.Challenge.pw_hiddenhands_k04_wakings_refused_and_told) (w := w) (facts X G c TB)).ex
    rw [hm] at ha
    cases ha
    rw [fd_uniq F F']
    exact Fg
end K04
open PySem PySem.W PySem.Calls PyProof.Rows
theorem PySem.Challenge.cw_hiddenhands_k04_wakings_refused_and_told_holds : PySem.Challenge.rw_hiddenhands_k04_wakings_refused_and_told.Holds := by
  w_on; o_law
  refine HandSHeadRun.head_any (r := OpenLaw.row PySem.Challenge.rw_hiddenhands_k04_wakings_refused_and_told) (q := view (OpenLaw.row PySem.Challenge.rw_hiddenhands_k04_wakings_refused_and_told).prog [34]) (H := K04.hk) (ob := K04.ob) (M := 20000) (loose := K04.loose) (d := HandSHeadRun.topDef (OpenLaw.row PySem.Challenge.rw_hiddenhands_k04_wakings_refused_and_told).prog 34) (kwd := []) K04.ob_eq
    (by kernel_rfl) (fun s => by kernel_rfl) K04.run (by kernel_rfl) (by kernel_rfl) (by kernel_rfl) (by rfl) (by first | assumption | decide +kernel) (by decide +kernel) ⟨rfl, rfl, rfl, rfl, rfl, by decide +kernel⟩ ?hw ?hc
  case hw => w_witness2
  case hc =>
    refine MP.walk_end (l := PySem.Challenge.rw_hiddenhands_k04_wakings_refused_and_told) (n := 63) (k := 11) (x := "script") rfl (by decide) (by kernel_rfl) ⟨rfl, by decide, by decide⟩ ?F
    intro w mg fa h Y G hmg0
    obtain ⟨K, KX, c⟩ := Y
    have hmg : mg ("law" : PySem.Str) = some (.ref fa) := by
      have e : (HandSHeadRun.topDef (OpenLaw.row PySem.Challenge.rw_hiddenhands_k04_wakings_refused_and_told).prog 34).name = ("law" : PySem.Str) := by kernel_rfl
      rw [← e]
      exact hmg0
    obtain ⟨fd, cs, L⟩ := K04.law_at (w := w) KX G c hmg K04.ans
    exact ⟨K, _, _, fd, cs, KX, L⟩
end S39
