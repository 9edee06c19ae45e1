import PyProof.Rows.All
import Wide.All
import OpenK.AllK
import Wide.FinOn
import HandS.ForMost
import HandS.ForExc
import HandS.CallSlots
import HandS.Deep
import HandS.IsInst
import KE.DataEq
import HandS.TupAny
import HandS.TupMul
import HandS.Replace
import HandS.More
import HandS.Zip
import HandS.EndBits
import KE.SortData
import HandS.Codes
import HandS.Style
import HandS.Conv
import HandS.ExcIs
import PySem.Challenge.RW_wantway_k03_under_and_joined
set_option Elab.async false
set_option linter.all false
set_option maxRecDepth 100000
/-! Ev1: values W (tuples are trees), the store, results, and how they lie in the abstract heap. -/
namespace Ev
open PySem L2

inductive W where
  | non | bl (b : Bool) | int (i : Int) | str (x : Str) | tup (ws : List W) | rol (ws : List W) | loc (n : Nat) | gl (x : Str) | ty (n : String)
instance : Inhabited W := ⟨.non⟩
/-- what stands at a place of the store -/
inductive O where
  | lst (ws : List W) | dct (kvs : List (W × W)) | ins (c : Str) (fs : List (Str × W))
abbrev Sto := List O
structure Xn where
  c : Str
  fs : List (Str × W)
inductive R (α : Type) where
  | ok (a : α) (S : Sto) | ex (e : Xn) (S : Sto) | no
def R.bind {α β : Type} (r : R α) (k : α → Sto → R β) : R β :=
  match r with
  | .ok a S => k a S
  | .ex e S => .ex e S
  | .no => .no
theorem R.bind_ok {α β : Type} (a : α) (S : Sto) (k : α → Sto → R β) : R.bind (.ok a S) k = k a S := rfl
theorem R.bind_ex {α β : Type} (e : Xn) (S : Sto) (k : α → Sto → R β) : R.bind (.ex e S) k = .ex e S := rfl
theorem R.bind_no {α β : Type} (k : α → Sto → R β) : R.bind .no k = .no := rfl
abbrev En := List (Option W)

/-! ### how a value lies in the abstract heap -/
def RoL (K : PySem.W.Frag) (H : Hp) (a : Addr) (vs : List V) : Prop := (∃ o, H a = some (.frz o (.lst vs))) ∨ ∀ H', SqL K H' a vs
section
variable (K : PySem.W.Frag) (mg : Str → Option Value) (f : List Addr) (H : Hp)
mutual
def Rp : W → V → Prop
  | .non, v => v = .non
  | .bl b, v => v = .bl b
  | .int i, v => v = .int i
  | .str x, v => v = .str x
  | .tup ws, v => ∃ a vs, v = .ref a ∧ H a = some (.tup vs) ∧ Rpl ws vs
  | .rol ws, v => ∃ a vs, v = .ref a ∧ RoL K H a vs ∧ Rpl ws vs
  | .loc n, v => ∃ a, v = .ref a ∧ f[n]? = some a
  | .gl x, v => ∃ a, v = .ref a ∧ mg x = some (.ref a)
  | .ty n, v => v = .ty n
def Rpl : List W → List V → Prop
  | [], vs => vs = []
  | w :: ws, vs => ∃ v r, vs = v :: r ∧ Rp w v ∧ Rpl ws r
end
def RpF : List (Str × W) → List (Str × V) → Prop
  | [], vs => vs = []
  | (x, w) :: ws, vs => ∃ v r, vs = (x, v) :: r ∧ Rp K mg f H w v ∧ RpF ws r
/-- keys that are ints or texts -/
def W.key? : W → Option Key
  | .int i => some (.inl i)
  | .str x => some (.inr x)
  | _ => none
def RpK : List (W × W) → List (Key × V) → Prop
  | [], vs => vs = []
  | (k, w) :: ws, vs => ∃ q v r, vs = (q, v) :: r ∧ W.key? k = some q ∧ Rp K mg f H w v ∧ RpK ws r
def RelO : O → Addr → Prop
  | .lst ws, a => ∃ vs, H a = some (.lst vs) ∧ Rpl K mg f H ws vs
  | .dct kvs, a => ∃ vs, H a = some (.dK vs) ∧ RpK K mg f H kvs vs
  | .ins c fs, a => ∃ C dx vs, mg c = some (.ref C) ∧ H a = some (.ins C dx vs) ∧ RpF K mg f H fs vs
structure RelS (S : Sto) : Prop where
  len : f.length = S.length
  nd : f.Nodup
  at_ : ∀ (n : Nat) (o : O) (a : Addr), S[n]? = some o → f[n]? = some a → RelO K mg f H o a
def RelE : En → St → Prop
  | [], vs => vs = []
  | o :: s, vs => ∃ x r, vs = x :: r ∧ (∀ w, o = some w → ∃ v, x = some v ∧ Rp K mg f H w v) ∧ RelE s r
end
/-- what stays -/
structure Kp (f : List Addr) (H : Hp) (f' : List Addr) (H' : Hp) : Prop where
  ext : ∀ (n : Nat) (a : Addr), f[n]? = some a → f'[n]? = some a
  tup : ∀ a xs, H a = some (.tup xs) → H' a = some (.tup xs)
  frz : ∀ a o u, H a = some (.frz o u) → H' a = some (.frz o u)
  out : ∀ a o, a ∉ f → H a = some o → H' a = some o
  new : ∀ a, a ∈ f' → a ∈ f ∨ H a = none
section
variable {K : PySem.W.Frag} {mg : Str → Option Value} {f f1 f2 : List Addr} {H H1 H2 : Hp} {S : Sto}
theorem Kp.refl : Kp f H f H := ⟨fun _ _ h => h, fun _ _ h => h, fun _ _ _ h => h, fun _ _ _ h => h, fun _ h => .inl h⟩
theorem Kp.trans (x : Kp f H f1 H1) (y : Kp f1 H1 f2 H2) : Kp f H f2 H2 := by
  refine ⟨fun n a h => y.ext n a (x.ext n a h), fun a xs h => y.tup a xs (x.tup a xs h), fun a o u h => y.frz a o u (x.frz a o u h), fun a o h e => ?_, fun a h => ?_⟩
  · refine y.out a o (fun z => ?_) (x.out a o h e)
    rcases x.new a z with q | q
    · exact h q
    · rw [e] at q; cases q
  · rcases y.new a h with q | q
    · exact x.new a q
    · by_cases z : a ∈ f
      · exact .inl z
      · cases e : H a with
        | none => exact .inr rfl
        | some o => rw [x.out a o z e] at q; cases q
/-- .. as far as values ask -/
structure Kq (f : List Addr) (H : Hp) (f' : List Addr) (H' : Hp) : Prop where
  ext : ∀ (n : Nat) (a : Addr), f[n]? = some a → f'[n]? = some a
  tup : ∀ a xs, H a = some (.tup xs) → H' a = some (.tup xs)
  frz : ∀ a o u, H a = some (.frz o u) → H' a = some (.frz o u)
theorem Kp.q (x : Kp f H f1 H1) : Kq f H f1 H1 := ⟨x.ext, x.tup, x.frz⟩
theorem Kq.roL (x : Kq f H f1 H1) {a : Addr} {xs : List V} (h : RoL K H a xs) : RoL K H1 a xs := by
  rcases h with ⟨o, h⟩ | h
  · exact .inl ⟨o, x.frz _ _ _ h⟩
  · exact .inr h
theorem Kp.roL (x : Kp f H f1 H1) {a : Addr} {xs : List V} (h : RoL K H a xs) : RoL K H1 a xs := x.q.roL h
theorem RoL.seq {a : Addr} {xs : List V} (h : RoL K H a xs) : SqL K H a xs := by
  rcases h with ⟨o, h⟩ | h
  · exact .inl (.inr ⟨o, h⟩)
  · exact h _
mutual
theorem Rp.monoQ (x : Kq f H f1 H1) : ∀ (w : W) (v : V), Rp K mg f H w v → Rp K mg f1 H1 w v
  | .non, _, h => h
  | .bl _, _, h => h
  | .int _, _, h => h
  | .str _, _, h => h
  | .tup ws, v, h => by
    unfold Rp at h ⊢
    obtain ⟨a, vs, e, q, r⟩ := h
    exact ⟨a, vs, e, x.tup _ _ q, Rpl.monoQ x ws vs r⟩
  | .rol ws, v, h => by
    unfold Rp at h ⊢
    obtain ⟨a, vs, e, q, r⟩ := h
    exact ⟨a, vs, e, x.roL q, Rpl.monoQ x ws vs r⟩
  | .loc n, v, h => by
    unfold Rp at h ⊢
    obtain ⟨a, e, q⟩ := h
    exact ⟨a, e, x.ext _ _ q⟩
  | .gl _, _, h => h
  | .ty _, _, h => h
theorem Rpl.monoQ (x : Kq f H f1 H1) : ∀ (ws : List W) (vs : List V), Rpl K mg f H ws vs → Rpl K mg f1 H1 ws vs
  | [], _, h => h
  | w :: ws, vs, h => by
    unfold Rpl at h ⊢
    obtain ⟨v, r, e, q, z⟩ := h
    exact ⟨v, r, e, Rp.monoQ x w v q, Rpl.monoQ x ws r z⟩
end
theorem RpF.monoQ (x : Kq f H f1 H1) : ∀ (ws : List (Str × W)) (vs : List (Str × V)), RpF K mg f H ws vs → RpF K mg f1 H1 ws vs
  | [], _, h => h
  | (n, w) :: ws, vs, h => by
    unfold RpF at h ⊢
    obtain ⟨v, r, e, q, z⟩ := h
    exact ⟨v, r, e, Rp.monoQ x w v q, RpF.monoQ x ws r z⟩
theorem RpK.monoQ (x : Kq f H f1 H1) : ∀ (ws : List (W × W)) (vs : List (Key × V)), RpK K mg f H ws vs → RpK K mg f1 H1 ws vs
  | [], _, h => h
  | (n, w) :: ws, vs, h => by
    unfold RpK at h ⊢
    obtain ⟨q, v, r, e, k, y, z⟩ := h
    exact ⟨q, v, r, e, k, Rp.monoQ x w v y, RpK.monoQ x ws r z⟩
theorem RelE.monoQ (x : Kq f H f1 H1) : ∀ {s : En} {vs : St}, RelE K mg f H s vs → RelE K mg f1 H1 s vs
  | [], _, h => h
  | o :: s, vs, h => by
    unfold RelE at h ⊢
    obtain ⟨y, r, e, q, z⟩ := h
    refine ⟨y, r, e, fun w hw => ?_, RelE.monoQ x z⟩
    obtain ⟨v, e1, q1⟩ := q w hw
    exact ⟨v, e1, Rp.monoQ x w v q1⟩
theorem RelO.monoQ (x : Kq f H f1 H1) {o : O} {a : Addr} (h : RelO K mg f H o a) (e : H1 a = H a) : RelO K mg f1 H1 o a := by
  cases o with
  | lst ws => obtain ⟨vs, q, r⟩ := h; exact ⟨vs, by rw [e]; exact q, Rpl.monoQ x _ _ r⟩
  | dct kvs => obtain ⟨vs, q, r⟩ := h; exact ⟨vs, by rw [e]; exact q, RpK.monoQ x _ _ r⟩
  | ins c fs => obtain ⟨C, dx, vs, m, q, r⟩ := h; exact ⟨C, dx, vs, m, by rw [e]; exact q, RpF.monoQ x _ _ r⟩
theorem Rp.mono {w : W} {v : V} (h : Rp K mg f H w v) (x : Kp f H f1 H1) : Rp K mg f1 H1 w v := Rp.monoQ x.q w v h
theorem Rpl.mono {w : List W} {v : List V} (h : Rpl K mg f H w v) (x : Kp f H f1 H1) : Rpl K mg f1 H1 w v := Rpl.monoQ x.q w v h
theorem RpF.mono {w : List (Str × W)} {v : List (Str × V)} (h : RpF K mg f H w v) (x : Kp f H f1 H1) : RpF K mg f1 H1 w v := RpF.monoQ x.q w v h
theorem RpK.mono {w : List (W × W)} {v : List (Key × V)} (h : RpK K mg f H w v) (x : Kp f H f1 H1) : RpK K mg f1 H1 w v := RpK.monoQ x.q w v h
theorem RelE.mono {w : En} {v : St} (h : RelE K mg f H w v) (x : Kp f H f1 H1) : RelE K mg f1 H1 w v := RelE.monoQ x.q h
theorem RelO.mono (x : Kp f H f1 H1) {o : O} {a : Addr} (h : RelO K mg f H o a) (e : H1 a = H a) : RelO K mg f1 H1 o a := RelO.monoQ x.q h e
theorem RelO.hit {o : O} {a : Addr} (h : RelO K mg f H o a) : ∃ u, H a = some u ∧ (∀ xs, u ≠ .tup xs) ∧ (∀ o' w, u ≠ .frz o' w) ∧ Mut (some u) := by
  cases o with
  | lst ws => obtain ⟨vs, q, r⟩ := h; exact ⟨_, q, (fun _ z => nomatch z), (fun _ _ z => nomatch z), trivial⟩
  | dct kvs => obtain ⟨vs, q, r⟩ := h; exact ⟨_, q, (fun _ z => nomatch z), (fun _ _ z => nomatch z), trivial⟩
  | ins c fs => obtain ⟨C, dx, vs, m, q, r⟩ := h; exact ⟨_, q, (fun _ z => nomatch z), (fun _ _ z => nomatch z), trivial⟩
theorem RelS.get (x : RelS K mg f H S) {n : Nat} {o : O} (h : S[n]? = some o) : ∃ a, f[n]? = some a ∧ RelO K mg f H o a := by
  have hn : n < S.length := (List.getElem?_eq_some_iff.mp h).1
  have hf : n < f.length := by rw [x.len]; exact hn
  exact ⟨f[n], List.getElem?_eq_getElem hf, x.at_ n o _ h (List.getElem?_eq_getElem hf)⟩
theorem RelS.mem (x : RelS K mg f H S) {a : Addr} (h : a ∈ f) : ∃ (n : Nat) (o : O), S[n]? = some o ∧ f[n]? = some a ∧ RelO K mg f H o a := by
  obtain ⟨n, hn, e⟩ := List.mem_iff_getElem.mp h
  have hs : n < S.length := by rw [← x.len]; exact hn
  have e1 : f[n]? = some a := by rw [List.getElem?_eq_getElem hn, e]
  exact ⟨n, S[n], List.getElem?_eq_getElem hs, e1, x.at_ n _ _ (List.getElem?_eq_getElem hs) e1⟩
theorem RelS.hit (x : RelS K mg f H S) {a : Addr} (h : a ∈ f) : ∃ u, H a = some u ∧ (∀ xs, u ≠ .tup xs) ∧ (∀ o' w, u ≠ .frz o' w) ∧ Mut (some u) := by
  obtain ⟨_, _, _, _, r⟩ := x.mem h
  exact r.hit
theorem RelS.fresh (x : RelS K mg f H S) {p : Addr} (h : H p = none) : p ∉ f := fun z => by
  obtain ⟨u, e, _⟩ := x.hit z
  rw [h] at e; cases e
/-- an object at a place is changed -/
theorem RelS.kpUpd (x : RelS K mg f H S) {a : Addr} (ha : a ∈ f) (u : HO) : Kp f H f (upd H a u) := by
  obtain ⟨w, e, n1, n2, _⟩ := x.hit ha
  refine ⟨fun _ _ h => h, fun b xs h => ?_, fun b o v h => ?_, fun b o hb h => ?_, fun _ h => .inl h⟩
  · rw [upd_ne (fun z => ?_)]; exact h
    subst z; rw [e] at h; cases h; exact n1 _ rfl
  · rw [upd_ne (fun z => ?_)]; exact h
    subst z; rw [e] at h; cases h; exact n2 _ _ rfl
  · rw [upd_ne (fun z => ?_)]; exact h
    subst z; exact hb ha
theorem RelS.upd (x : RelS K mg f H S) {n : Nat} {a : Addr} {o : O} {u : HO} (hn : f[n]? = some a) (h : RelO K mg f (upd H a u) o a) : RelS K mg f (upd H a u) (S.set n o) := by
  have ha : a ∈ f := List.mem_of_getElem? hn
  refine ⟨by rw [List.length_set]; exact x.len, x.nd, fun m o' b h1 h2 => ?_⟩
  by_cases e : m = n
  · subst e
    have hm : m < S.length := by rw [← x.len]; exact (List.getElem?_eq_some_iff.mp hn).1
    rw [List.getElem?_set_self hm] at h1
    cases h1
    rw [hn] at h2; cases h2
    exact h
  · rw [List.getElem?_set_ne (Ne.symm e)] at h1
    refine RelO.mono (x.kpUpd ha u) (x.at_ m o' b h1 h2) (upd_ne ?_)
    rintro rfl
    obtain ⟨q1, e1⟩ := List.getElem?_eq_some_iff.mp h2
    obtain ⟨q2, e2⟩ := List.getElem?_eq_some_iff.mp hn
    exact e ((List.getElem_inj x.nd).mp (e1.trans e2.symm))
/-- an untracked object is laid (a tuple) -/
theorem kpLaid {p : Addr} (h : H p = none) (u : HO) : Kp f H f (upd H p u) :=
  ⟨fun _ _ h => h, fun b xs q => by rw [upd_ne (ne_of_none q h)]; exact q, fun b o v q => by rw [upd_ne (ne_of_none q h)]; exact q, fun b o _ q => by rw [upd_ne (ne_of_none q h)]; exact q, fun _ h => .inl h⟩
theorem RelS.laid (x : RelS K mg f H S) {p : Addr} (h : H p = none) (u : HO) : RelS K mg f (L2.upd H p u) S :=
  ⟨x.len, x.nd, fun n o a h1 h2 => RelO.mono (kpLaid h u) (x.at_ n o a h1 h2) (upd_ne fun z => by
    obtain ⟨v, e, _⟩ := (x.at_ n o a h1 h2).hit
    rw [z, h] at e; cases e)⟩
/-- a new object of the store -/
theorem RelS.kpNew (x : RelS K mg f H S) {p : Addr} (h : H p = none) (u : HO) : Kp f H (f ++ [p]) (L2.upd H p u) :=
  ⟨fun n a q => by rw [List.getElem?_append_left (List.getElem?_eq_some_iff.mp q).1]; exact q, (kpLaid (f := f) h u).tup, (kpLaid (f := f) h u).frz, (kpLaid (f := f) h u).out, fun a q => by
    rcases List.mem_append.mp q with z | z
    · exact .inl z
    · rw [List.mem_singleton.mp z]; exact .inr h⟩
theorem RelS.new (x : RelS K mg f H S) {p : Addr} {u : HO} {o : O} (h : H p = none) (r : RelO K mg (f ++ [p]) (L2.upd H p u) o p) : RelS K mg (f ++ [p]) (L2.upd H p u) (S ++ [o]) := by
  refine ⟨by simp [x.len], ?_, fun n o' a h1 h2 => ?_⟩
  · refine List.nodup_append.mpr ⟨x.nd, by simp, fun a ha b hb => ?_⟩
    rw [List.mem_singleton.mp hb]
    rintro rfl
    exact x.fresh h ha
  · by_cases e : n < S.length
    · rw [List.getElem?_append_left e] at h1
      rw [List.getElem?_append_left (by rw [x.len]; exact e)] at h2
      refine RelO.mono (x.kpNew h u) (x.at_ n o' a h1 h2) (upd_ne fun z => ?_)
      obtain ⟨v, e1, _⟩ := (x.at_ n o' a h1 h2).hit
      rw [z, h] at e1; cases e1
    · rw [List.getElem?_append_right (by omega)] at h1
      rw [List.getElem?_append_right (by rw [x.len]; omega)] at h2
      rw [x.len] at h2
      have e0 : n - S.length = 0 := by
        have := (List.getElem?_eq_some_iff.mp h1).1
        simp only [List.length_singleton] at this
        omega
      rw [e0] at h1 h2
      cases h1; cases h2
      exact r
/-- an object that is tracked already becomes one of the store -/
theorem kqAdd {D : Addr} : Kq f H (f ++ [D]) H := ⟨fun n a q => by rw [List.getElem?_append_left (List.getElem?_eq_some_iff.mp q).1]; exact q, fun _ _ q => q, fun _ _ _ q => q⟩
theorem RelS.adopt (x : RelS K mg f H S) {p : Addr} {o : O} (h : p ∉ f) (r : RelO K mg (f ++ [p]) H o p) : RelS K mg (f ++ [p]) H (S ++ [o]) := by
  refine ⟨by simp [x.len], ?_, fun n o' a h1 h2 => ?_⟩
  · refine List.nodup_append.mpr ⟨x.nd, by simp, fun a ha b hb => ?_⟩
    rw [List.mem_singleton.mp hb]
    rintro rfl
    exact h ha
  · by_cases e : n < S.length
    · rw [List.getElem?_append_left e] at h1
      rw [List.getElem?_append_left (by rw [x.len]; exact e)] at h2
      exact RelO.monoQ kqAdd (x.at_ n o' a h1 h2) rfl
    · rw [List.getElem?_append_right (by omega)] at h1
      rw [List.getElem?_append_right (by rw [x.len]; omega)] at h2
      rw [x.len] at h2
      have e0 : n - S.length = 0 := by
        have := (List.getElem?_eq_some_iff.mp h1).1
        simp only [List.length_singleton] at this
        omega
      rw [e0] at h1 h2
      cases h1; cases h2
      exact r
theorem at_new {p : Addr} (x : RelS K mg f H S) : (f ++ [p])[S.length]? = some p := by
  rw [List.getElem?_append_right (by rw [x.len]; exact Nat.le_refl _), x.len, Nat.sub_self]
  rfl
theorem Rpl.length : ∀ {ws : List W} {vs : List V}, Rpl K mg f H ws vs → vs.length = ws.length
  | [], _, h => by unfold Rpl at h; subst h; rfl
  | w :: ws, vs, h => by
    unfold Rpl at h
    obtain ⟨v, r, rfl, _, z⟩ := h
    rw [List.length_cons, List.length_cons, Rpl.length z]
theorem Rpl.get : ∀ {ws : List W} {vs : List V} {i : Nat} {w : W}, Rpl K mg f H ws vs → ws[i]? = some w → ∃ v, vs[i]? = some v ∧ Rp K mg f H w v
  | [], _, _, _, _, e => by simp at e
  | w :: ws, vs, i, w', h, e => by
    unfold Rpl at h
    obtain ⟨v, r, rfl, q, z⟩ := h
    cases i with
    | zero => simp at e; subst e; exact ⟨v, by simp, q⟩
    | succ i =>
      obtain ⟨u, e1, q1⟩ := Rpl.get (i := i) z (by simpa using e)
      exact ⟨u, by simpa using e1, q1⟩
theorem Rpl.nil : Rpl K mg f H [] [] := by unfold Rpl; rfl
theorem Rpl.cons {w : W} {ws : List W} {v : V} {vs : List V} (h : Rp K mg f H w v) (r : Rpl K mg f H ws vs) : Rpl K mg f H (w :: ws) (v :: vs) := by
  unfold Rpl; exact ⟨v, vs, rfl, h, r⟩
theorem Rpl.append : ∀ {ws ws' : List W} {vs vs' : List V}, Rpl K mg f H ws vs → Rpl K mg f H ws' vs' → Rpl K mg f H (ws ++ ws') (vs ++ vs')
  | [], _, _, _, h, r => by unfold Rpl at h; subst h; exact r
  | w :: ws, _, _, _, h, r => by
    unfold Rpl at h
    obtain ⟨v, t, rfl, q, z⟩ := h
    exact .cons q (Rpl.append z r)
theorem Rpl.take : ∀ {ws : List W} {vs : List V} (n : Nat), Rpl K mg f H ws vs → Rpl K mg f H (ws.take n) (vs.take n)
  | [], _, _, h => by unfold Rpl at h; subst h; simp [Rpl]
  | w :: ws, _, 0, h => by simp [Rpl]
  | w :: ws, _, n + 1, h => by
    unfold Rpl at h
    obtain ⟨v, t, rfl, q, z⟩ := h
    exact .cons q (Rpl.take n z)
theorem Rpl.drop : ∀ {ws : List W} {vs : List V} (n : Nat), Rpl K mg f H ws vs → Rpl K mg f H (ws.drop n) (vs.drop n)
  | [], _, _, h => by unfold Rpl at h; subst h; simp [Rpl]
  | w :: ws, _, 0, h => h
  | w :: ws, _, n + 1, h => by
    unfold Rpl at h
    obtain ⟨v, t, rfl, q, z⟩ := h
    exact Rpl.drop n z
theorem Rpl.set {w : W} {v : V} (hw : Rp K mg f H w v) : ∀ {ws : List W} {vs : List V} (n : Nat), Rpl K mg f H ws vs → Rpl K mg f H (ws.set n w) (vs.set n v)
  | [], _, _, h => by unfold Rpl at h; subst h; simp [Rpl]
  | w' :: ws, _, 0, h => by
    unfold Rpl at h
    obtain ⟨u, t, rfl, q, z⟩ := h
    exact .cons hw z
  | w' :: ws, _, n + 1, h => by
    unfold Rpl at h
    obtain ⟨u, t, rfl, q, z⟩ := h
    exact .cons q (Rpl.set hw n z)
theorem RelE.get : ∀ {s : En} {vs : St} {i : Nat} {w : W}, RelE K mg f H s vs → s[i]? = some (some w) → ∃ v, vs[i]? = some (some v) ∧ Rp K mg f H w v
  | [], _, _, _, _, e => by simp at e
  | o :: s, vs, i, w', h, e => by
    unfold RelE at h
    obtain ⟨x, r, rfl, q, z⟩ := h
    cases i with
    | zero =>
      simp at e
      obtain ⟨v, e1, q1⟩ := q _ e
      exact ⟨v, by simp [e1], q1⟩
    | succ i =>
      obtain ⟨u, e1, q1⟩ := RelE.get (i := i) z (by simpa using e)
      exact ⟨u, by simpa using e1, q1⟩
theorem RelE.set {w : W} {v : V} (hw : Rp K mg f H w v) : ∀ {s : En} {vs : St} (i : Nat), RelE K mg f H s vs → RelE K mg f H (s.set i (some w)) (vs.set i (some v))
  | [], _, _, h => by unfold RelE at h; subst h; simp [RelE]
  | o :: s, _, 0, h => by
    unfold RelE at h
    obtain ⟨x, r, rfl, q, z⟩ := h
    show RelE K mg f H (some w :: s) (some v :: r)
    unfold RelE
    exact ⟨_, r, rfl, fun w' e => by cases e; exact ⟨v, rfl, hw⟩, z⟩
  | o :: s, _, i + 1, h => by
    unfold RelE at h
    obtain ⟨x, r, rfl, q, z⟩ := h
    show RelE K mg f H (o :: s.set i (some w)) (x :: r.set i (some v))
    unfold RelE
    exact ⟨x, _, rfl, q, RelE.set hw i z⟩
theorem RelE.clr {x : Option V} : ∀ {s : En} {vs : St} (i : Nat), RelE K mg f H s vs → RelE K mg f H (s.set i none) (vs.set i x)
  | [], _, _, h => by unfold RelE at h; subst h; simp [RelE]
  | o :: s, _, 0, h => by
    unfold RelE at h
    obtain ⟨y, r, rfl, q, z⟩ := h
    show RelE K mg f H (none :: s) (x :: r)
    unfold RelE
    exact ⟨_, r, rfl, fun w' e => (by cases e), z⟩
  | o :: s, _, i + 1, h => by
    unfold RelE at h
    obtain ⟨y, r, rfl, q, z⟩ := h
    show RelE K mg f H (o :: s.set i none) (y :: r.set i x)
    unfold RelE
    exact ⟨y, _, rfl, q, RelE.clr i z⟩
def wipeE (s : En) : List Nat → En
  | [] => s
  | v :: vs => (wipeE s vs).set v none
theorem RelE.wipe {s : En} {vs : St} (h : RelE K mg f H s vs) : ∀ l : List Nat, RelE K mg f H (wipeE s l) (L2.wipe vs l)
  | [] => h
  | v :: l => (RelE.wipe h l).clr v
/-- the names at a def's entry -/
def startE (n : Nat) (ws : List W) : En := ws.map some ++ List.replicate (n - ws.length) none
theorem RelE.nones : ∀ n : Nat, RelE K mg f H (List.replicate n none) (List.replicate n none)
  | 0 => by simp [RelE]
  | n + 1 => by
    rw [List.replicate_succ, List.replicate_succ]
    unfold RelE
    exact ⟨_, _, rfl, fun w e => (by cases e), RelE.nones n⟩
theorem RelE.somes {t : En} {u : St} (ht : RelE K mg f H t u) : ∀ {ws : List W} {vs : List V}, Rpl K mg f H ws vs → RelE K mg f H (ws.map some ++ t) (vs.map some ++ u)
  | [], _, h => by unfold Rpl at h; subst h; exact ht
  | w :: ws, _, h => by
    unfold Rpl at h
    obtain ⟨v, r, rfl, q, z⟩ := h
    show RelE K mg f H (some w :: (ws.map some ++ t)) (some v :: (r.map some ++ u))
    unfold RelE
    exact ⟨_, _, rfl, fun w' e => by cases e; exact ⟨v, rfl, q⟩, RelE.somes ht z⟩
theorem RelE.start {N : List Str} {ws : List W} {vs : List V} (h : Rpl K mg f H ws vs) : RelE K mg f H (startE N.length ws) (L2.start N vs) := by
  unfold startE L2.start
  rw [h.length]
  exact RelE.somes (RelE.nones _) h
end
end Ev

set_option Elab.async false
set_option linter.all false
set_option maxRecDepth 100000
/-! Ev2: readings by results; expressions. -/
namespace Ev
open PySem L2

/-- an exception's record -/
def RelX (K : PySem.W.Frag) (mg : Str → Option Value) (f : List Addr) (H : Hp) (e : Xn) (c : Value) (d : Option Addr) : Prop :=
  ∃ C, mg e.c = some (.ref C) ∧ c = .ref C ∧ ((e.fs = [] ∧ d = none) ∨ ∃ dx vs, e.fs ≠ [] ∧ d = some dx ∧ H dx = some (.xd vs) ∧ RpF K mg f H e.fs vs)
abbrev Rel3 (A B : Type) := List Addr → Hp → A → B → Prop
section
variable (X : Cx) (Z : WX) {A B : Type}
/-- what follows a result -/
def post (P : Rel3 A B) (st : St) (f : List Addr) (H : Hp) (r : R A) (Q : B → Hp → Prop) : Prop :=
  match r with
  | .ok a S => ∀ f' H' b, Kp f H f' H' → RelS X.K X.mg f' H' S → P f' H' a b → Q b H'
  | .ex e S => ∀ f' H' c d, Kp f H f' H' → RelS X.K X.mg f' H' S → RelX X.K X.mg f' H' e c d → Z c d st H'
  | .no => False
/-- the reading of code whose result is m -/
def tG (P : Rel3 A B) (m : En → Sto → R A) : St → Hp → (B → Hp → Prop) → Prop := fun st H Q =>
  ∃ f s S, RelE X.K X.mg f H s st ∧ RelS X.K X.mg f H S ∧ post X Z P st f H (m s S) Q
abbrev tI (m : En → Sto → R W) : TE := tG X Z (Rp X.K X.mg) m
abbrev tA (m : En → Sto → R (List W)) : TA := tG X Z (Rpl X.K X.mg) m
abbrev tT (m : En → Sto → R Bool) : TT := tG X Z (fun _ _ a b => b = a) m
end
section
variable {X : Cx} {Z : WX} {A B C D : Type} {P : Rel3 A B} {P' : Rel3 C D} {st : St} {f f1 : List Addr} {H H1 : Hp} {r : R A} {Q : B → Hp → Prop}
theorem post.mono (h : post X Z P st f H r Q) (k : Kp f H f1 H1) : post X Z P st f1 H1 r Q := by
  cases r with
  | ok a S => exact fun f' H' b k' => h f' H' b (k.trans k')
  | ex e S => exact fun f' H' c d k' => h f' H' c d (k.trans k')
  | no => exact h
theorem post.seq {k : A → Sto → R C} {Q' : D → Hp → Prop} (h : post X Z P' st f H (r.bind k) Q')
    (hk : ∀ f1 H1 a S1 b, Kp f H f1 H1 → RelS X.K X.mg f1 H1 S1 → P f1 H1 a b → post X Z P' st f1 H1 (k a S1) Q' → Q b H1) : post X Z P st f H r Q := by
  cases r with
  | ok a S => exact fun f' H' b k' s' p' => hk f' H' a S b k' s' p' (post.mono (show post X Z P' st f H (k a S) Q' from h) k')
  | ex e S => exact h
  | no => exact h
end
theorem _root_.L2.PE.imp {X : Cx} {e : Expr} {t t' : TE} (h : PE X e t) (i : ∀ st H Q, t' st H Q → t st H Q) : PE X e t' := ⟨fun pins s st H Q I q => h.run pins s st H Q I (i _ _ _ q)⟩
theorem _root_.L2.PT.imp {X : Cx} {e : Expr} {t t' : TT} (h : PT X e t) (i : ∀ st H Q, t' st H Q → t st H Q) : PT X e t' := ⟨fun pins s st H Q I q => h.run pins s st H Q I (i _ _ _ q)⟩
theorem _root_.L2.PW.imp {X : Cx} {e : Expr} {t t' : TT} (h : PW X e t) (i : ∀ st H Q, t' st H Q → t st H Q) : PW X e t' := ⟨fun w pins s st H Q I q => h.run w pins s st H Q I (i _ _ _ q)⟩
theorem _root_.L2.PA.imp {X : Cx} {e : List Expr} {t t' : TA} (h : PA X e t) (i : ∀ st H Q, t' st H Q → t st H Q) : PA X e t' := ⟨fun p pins s st H Q I q => h.run p pins s st H Q I (i _ _ _ q)⟩
/-! ### the results -/
abbrev EV := En → Sto → R W
abbrev BV := En → Sto → R Bool
abbrev AV := En → Sto → R (List W)
def eVar (i : Nat) : EV := fun s S => match s[i]? with
  | some (some w) => .ok w S
  | _ => .no
def eC (w : W) : EV := fun _ S => .ok w S
def e1 (F : W → Sto → R W) (a : EV) : EV := fun s S => (a s S).bind F
def e2 (F : W → W → Sto → R W) (a b : EV) : EV := fun s S => (a s S).bind fun x S => (b s S).bind fun y S => F x y S
def aNil : AV := fun _ S => .ok [] S
def aCons (a : EV) (r : AV) : AV := fun s S => (a s S).bind fun x S => (r s S).bind fun xs S => .ok (x :: xs) S
def eL (F : List W → Sto → R W) (a : AV) : EV := fun s S => (a s S).bind F
def bTest (a : EV) : BV := fun s S => (a s S).bind fun w S => match w with
  | .bl b => .ok b S
  | _ => .no
def bAnd (a b : BV) : BV := fun s S => (a s S).bind fun c S => if c = true then b s S else .ok false S
def bOr (a b : BV) : BV := fun s S => (a s S).bind fun c S => if c = true then .ok true S else b s S
def bNot (a : BV) : BV := fun s S => (a s S).bind fun c S => .ok (!c) S
def vAnd (a b : EV) : EV := fun s S => (a s S).bind fun w S => match w with
  | .bl c => if c = true then b s S else .ok (.bl false) S
  | _ => .no
def vOr (a b : EV) : EV := fun s S => (a s S).bind fun w S => match w with
  | .bl c => if c = true then .ok (.bl true) S else b s S
  | _ => .no
def vNot (a : EV) : EV := fun s S => (a s S).bind fun w S => match w with
  | .bl c => .ok (.bl (!c)) S
  | _ => .no
def eIf (c : BV) (a b : EV) : EV := fun s S => (c s S).bind fun c S => if c = true then a s S else b s S
/-- the list at a place, or a list that is read only -/
def getL (S : Sto) : W → Option (List W)
  | .loc n => match S[n]? with
    | some (.lst ws) => some ws
    | _ => none
  | .rol ws => some ws
  | _ => none

/-! ### what an operation must have -/
section
variable (X : Cx) (Z : WX)
def Snd1 (r : V → Hp → VK → Prop) (F : W → Sto → R W) : Prop := ∀ {f H st S w v Q}, RelS X.K X.mg f H S → Rp X.K X.mg f H w v → post X Z (Rp X.K X.mg) st f H (F w S) Q → r v H Q
def Snd2 (r : R2) (F : W → W → Sto → R W) : Prop := ∀ {f H st S w v w' v' Q}, RelS X.K X.mg f H S → Rp X.K X.mg f H w v → Rp X.K X.mg f H w' v' → post X Z (Rp X.K X.mg) st f H (F w w' S) Q → r v v' H Q
def SndL (r : List V → Hp → VK → Prop) (F : List W → Sto → R W) : Prop := ∀ {f H st S ws vs Q}, RelS X.K X.mg f H S → Rpl X.K X.mg f H ws vs → post X Z (Rp X.K X.mg) st f H (F ws S) Q → r vs H Q
end

section
variable {X : Cx} {Z : WX} {e a b c : Expr} {es : List Expr} {pos : Pos} {ma mb mc : EV} {ba bb : BV} {mr : AV}
theorem post.fin {A B : Type} {P : Rel3 A B} {st : St} {f : List Addr} {H : Hp} {S : Sto} {w : A} {v : B} {Q : B → Hp → Prop} (h : post X Z P st f H (.ok w S) Q) (s : RelS X.K X.mg f H S) (p : P f H w v) : Q v H := h f H v Kp.refl s p
theorem e_var (i : Nat) {x : Str} (hN : X.N[i]? = some x := by rfl) (hv : Vis X.env.scope x := by first | exact Or.inl rfl | exact Or.inr (Or.inl rfl) | exact Or.inr (Or.inr rfl)) (hd : (x == ("__debug__" : Str)) = false := by decide)
    (hcd : (x == ("__classdict__" : Str)) = false := by decide) : PE X (.Name x pos) (tI X Z (eVar i)) := by
  refine (pe_var hN hv hd hcd).imp ?_
  rintro st H Q ⟨f, s, S, hE, hS, hp⟩
  unfold eVar at hp
  split at hp
  · rename_i w e
    obtain ⟨v, e1, r⟩ := hE.get e
    exact ⟨v, e1, hp.fin hS r⟩
  · exact hp.elim
theorem e_const {w : W} {v : V} (h : PE X e (tC v)) (hw : ∀ f H, Rp X.K X.mg f H w v) : PE X e (tI X Z (eC w)) := by
  refine h.imp ?_
  rintro st H Q ⟨f, s, S, hE, hS, hp⟩
  exact hp.fin hS (hw f H)
theorem e_int {i j} : PE X (.Constant (.int i) j pos) (tI X Z (eC (.int i))) := e_const pe_int fun f H => by unfold Rp; rfl
theorem e_bl {i j} : PE X (.Constant (.bool i) j pos) (tI X Z (eC (.bl i))) := e_const pe_bl fun f H => by unfold Rp; rfl
theorem e_non {j} : PE X (.Constant .none j pos) (tI X Z (eC .non)) := e_const pe_non fun f H => by unfold Rp; rfl
theorem e_str {i j} : PE X (.Constant (.str i) j pos) (tI X Z (eC (.str i))) := e_const pe_str fun f H => by unfold Rp; rfl
theorem e_glob {x : Str} {p : Addr} (hg : Gl X x) (hm : X.mg x = some (.ref p)) (hd : (x == ("__debug__" : Str)) = false := by decide) : PE X (.Name x pos) (tI X Z (eC (.gl x))) :=
  e_const (pe_glob hg hm (show RelV (.ref p) (.ref p) from rfl) hd) fun f H => by unfold Rp; exact ⟨p, rfl, hm⟩
theorem e_type {x : Str} {n : String} (hg : Gl X x) (hm : X.mg x = none) (hv : bootBuiltins x = some (.type n)) (hn : x ≠ "__name__" := by decide) (hd : (x == ("__debug__" : Str)) = false := by decide) : PE X (.Name x pos) (tI X Z (eC (.ty n))) :=
  e_const (pe_bltn hg hm hv (show RelV (.ty n) (.type n) from rfl) hn hd) fun f H => by unfold Rp; rfl

theorem e_un {op : UnaryOp} {r : V → Hp → VK → Prop} {F : W → Sto → R W} (ho : UnR X (unaryOp op) r) (hF : Snd1 X Z r F) (ha : PE X a (tI X Z ma)) : PE X (.UnaryOp op a pos) (tI X Z (e1 F ma)) := by
  refine (pe_un ho ha).imp ?_
  rintro st H Q ⟨f, s, S, hE, hS, hp⟩
  exact ⟨f, s, S, hE, hS, hp.seq fun f1 H1 w1 S1 v1 k1 s1 p1 hp1 => hF s1 p1 hp1⟩
/-- two parts in a row -/
theorem two {r : R2} {F : W → W → Sto → R W} (hF : Snd2 X Z r F) (st : St) (H : Hp) (Q : VK) (h : tI X Z (e2 F ma mb) st H Q) : tOp r (tI X Z ma) (tI X Z mb) st H Q := by
  obtain ⟨f, s, S, hE, hS, hp⟩ := h
  exact ⟨f, s, S, hE, hS, hp.seq fun f1 H1 w1 S1 v1 k1 s1 p1 hp1 => ⟨f1, s, S1, hE.mono k1, s1, hp1.seq fun f2 H2 w2 S2 v2 k2 s2 p2 hp2 => hF s2 (p1.mono k2) p2 hp2⟩⟩
theorem e_op {op : Operator} {r : R2} {F : W → W → Sto → R W} (ho : OpR X (binaryOp op) r) (hF : Snd2 X Z r F) (ha : PE X a (tI X Z ma)) (hb : PE X b (tI X Z mb)) : PE X (.BinOp a op b pos) (tI X Z (e2 F ma mb)) :=
  (pe_op ho ha hb).imp (two hF)
theorem e_ixr {r : R2} {F : W → W → Sto → R W} (ho : IxR X r) (hF : Snd2 X Z r F) (ha : PE X a (tI X Z ma)) (hb : PE X b (tI X Z mb)) (hs : PlainIx b := by exact fun _ _ => rfl) : PE X (.Subscript a b pos) (tI X Z (e2 F ma mb)) :=
  (pe_ix ho ha hb hs).imp (two hF)
theorem e_cmp {op : CmpOp} {r : R2} {F : W → W → Sto → R W} (ho : OpR X (compareOp op) r) (hF : Snd2 X Z r F) (ha : PE X a (tI X Z ma)) (hb : PE X b (tI X Z mb)) (hm : behindInMarks op b = false := by rfl) : PE X (.Compare a [op] [b] pos) (tI X Z (e2 F ma mb)) :=
  (pe_cmpR ho ha hb hm).imp (two hF)
/-- a value that is a truth -/
theorem testOf {t : TE} {m : EV} (h : ∀ st H Q, tI X Z m st H Q → t st H Q) (st : St) (H : Hp) (Q : Bool → Hp → Prop) (q : tT X Z (bTest m) st H Q) : t st H fun x H1 => ∃ k, x = .bl k ∧ Q k H1 := by
  refine h st H _ ?_
  obtain ⟨f, s, S, hE, hS, hp⟩ := q
  refine ⟨f, s, S, hE, hS, hp.seq fun f1 H1 w1 S1 v1 k1 s1 p1 hp1 => ?_⟩
  try dsimp only at hp1
  split at hp1
  · rename_i b'
    unfold Rp at p1
    exact ⟨b', p1, hp1.fin s1 rfl⟩
  · exact hp1.elim
theorem t_cmp {op : CmpOp} {r : R2} {F : W → W → Sto → R W} (ho : OpR X (compareOp op) r) (hF : Snd2 X Z r F) (ha : PE X a (tI X Z ma)) (hb : PE X b (tI X Z mb)) (hm : behindInMarks op b = false := by rfl) : PT X (.Compare a [op] [b] pos) (tT X Z (bTest (e2 F ma mb))) :=
  (pt_cmpR ho ha hb hm).imp (testOf (two hF))
theorem t_and (ha : PT X a (tT X Z ba)) (hb : PW X (.BoolOp .And (b :: es) pos) (tT X Z bb)) : PW X (.BoolOp .And (a :: b :: es) pos) (tT X Z (bAnd ba bb)) := by
  refine (pw_and ha hb).imp ?_
  rintro st H Q ⟨f, s, S, hE, hS, hp⟩
  refine ⟨f, s, S, hE, hS, hp.seq fun f1 H1 w1 S1 v1 k1 s1 p1 hp1 => ?_⟩
  obtain rfl : v1 = w1 := p1
  by_cases e : v1 = true
  · rw [if_pos e] at hp1 ⊢
    exact ⟨f1, s, S1, hE.mono k1, s1, hp1⟩
  · rw [if_neg e] at hp1 ⊢
    exact hp1.fin s1 rfl
theorem t_or (ha : PT X a (tT X Z ba)) (hb : PW X (.BoolOp .Or (b :: es) pos) (tT X Z bb)) : PW X (.BoolOp .Or (a :: b :: es) pos) (tT X Z (bOr ba bb)) := by
  refine (pw_or ha hb).imp ?_
  rintro st H Q ⟨f, s, S, hE, hS, hp⟩
  refine ⟨f, s, S, hE, hS, hp.seq fun f1 H1 w1 S1 v1 k1 s1 p1 hp1 => ?_⟩
  obtain rfl : v1 = w1 := p1
  by_cases e : v1 = true
  · rw [if_pos e] at hp1 ⊢
    exact hp1.fin s1 rfl
  · rw [if_neg e] at hp1 ⊢
    exact ⟨f1, s, S1, hE.mono k1, s1, hp1⟩
theorem t_and1 (ha : PT X a (tT X Z ba)) : PW X (.BoolOp .And [a] pos) (tT X Z ba) := pw_and1 ha
theorem t_or1 (ha : PT X a (tT X Z ba)) : PW X (.BoolOp .Or [a] pos) (tT X Z ba) := pw_or1 ha
theorem t_not (ha : PT X a (tT X Z ba)) : PT X (.UnaryOp .Not a pos) (tT X Z (bNot ba)) := by
  refine (pt_not ha).imp ?_
  rintro st H Q ⟨f, s, S, hE, hS, hp⟩
  refine ⟨f, s, S, hE, hS, hp.seq fun f1 H1 w1 S1 v1 k1 s1 p1 hp1 => ?_⟩
  obtain rfl : v1 = w1 := p1
  exact hp1.fin s1 rfl
theorem e_one {op} (ha : PE X a (tI X Z ma)) : PE X (.BoolOp op [a] pos) (tI X Z ma) := pe_one ha
theorem e_and (ha : PE X a (tI X Z ma)) (hb : PE X (.BoolOp .And (b :: es) pos) (tI X Z mb)) : PE X (.BoolOp .And (a :: b :: es) pos) (tI X Z (vAnd ma mb)) := by
  refine (pe_and ha hb).imp ?_
  rintro st H Q ⟨f, s, S, hE, hS, hp⟩
  refine ⟨f, s, S, hE, hS, hp.seq fun f1 H1 w1 S1 v1 k1 s1 p1 hp1 => ?_⟩
  try dsimp only at hp1
  split at hp1
  · rename_i c
    unfold Rp at p1
    refine ⟨c, p1, ?_⟩
    by_cases e : c = true
    · rw [if_pos e] at hp1 ⊢
      exact ⟨f1, s, S1, hE.mono k1, s1, hp1⟩
    · rw [if_neg e] at hp1 ⊢
      exact hp1.fin s1 (by unfold Rp; rfl)
  · exact hp1.elim
theorem e_or (ha : PE X a (tI X Z ma)) (hb : PE X (.BoolOp .Or (b :: es) pos) (tI X Z mb)) : PE X (.BoolOp .Or (a :: b :: es) pos) (tI X Z (vOr ma mb)) := by
  refine (pe_or ha hb).imp ?_
  rintro st H Q ⟨f, s, S, hE, hS, hp⟩
  refine ⟨f, s, S, hE, hS, hp.seq fun f1 H1 w1 S1 v1 k1 s1 p1 hp1 => ?_⟩
  try dsimp only at hp1
  split at hp1
  · rename_i c
    unfold Rp at p1
    refine ⟨c, p1, ?_⟩
    by_cases e : c = true
    · rw [if_pos e] at hp1 ⊢
      exact hp1.fin s1 (by unfold Rp; rfl)
    · rw [if_neg e] at hp1 ⊢
      exact ⟨f1, s, S1, hE.mono k1, s1, hp1⟩
  · exact hp1.elim
theorem e_not (ha : PE X a (tI X Z ma)) : PE X (.UnaryOp .Not a pos) (tI X Z (vNot ma)) := by
  refine (pe_not ha).imp ?_
  rintro st H Q ⟨f, s, S, hE, hS, hp⟩
  refine ⟨f, s, S, hE, hS, hp.seq fun f1 H1 w1 S1 v1 k1 s1 p1 hp1 => ?_⟩
  try dsimp only at hp1
  split at hp1
  · rename_i c
    unfold Rp at p1
    exact ⟨c, p1, hp1.fin s1 (by unfold Rp; rfl)⟩
  · exact hp1.elim
theorem e_if (hc : PT X c (tT X Z ba)) (ha : PE X a (tI X Z ma)) (hb : PE X b (tI X Z mb)) : PE X (.IfExp c a b pos) (tI X Z (eIf ba ma mb)) := by
  refine (pe_ifExp hc ha hb).imp ?_
  rintro st H Q ⟨f, s, S, hE, hS, hp⟩
  refine ⟨f, s, S, hE, hS, hp.seq fun f1 H1 w1 S1 v1 k1 s1 p1 hp1 => ?_⟩
  obtain rfl : v1 = w1 := p1
  by_cases e : v1 = true
  · rw [if_pos e] at hp1 ⊢
    exact ⟨f1, s, S1, hE.mono k1, s1, hp1⟩
  · rw [if_neg e] at hp1 ⊢
    exact ⟨f1, s, S1, hE.mono k1, s1, hp1⟩
theorem a_nil : PA X [] (tA X Z aNil) := by
  refine pa_nil.imp ?_
  rintro st H Q ⟨f, s, S, hE, hS, hp⟩
  exact hp.fin hS Rpl.nil
theorem a_cons (ha : PE X e (tI X Z ma)) (hr : PA X es (tA X Z mr)) (hs : starEach (e :: es) X.env = (false, eval e X.env) :: starEach es X.env := by rfl) : PA X (e :: es) (tA X Z (aCons ma mr)) := by
  refine (pa_cons ha hr hs).imp ?_
  rintro st H Q ⟨f, s, S, hE, hS, hp⟩
  exact ⟨f, s, S, hE, hS, hp.seq fun f1 H1 w1 S1 v1 k1 s1 p1 hp1 => ⟨f1, s, S1, hE.mono k1, s1, hp1.seq fun f2 H2 w2 S2 v2 k2 s2 p2 hp2 => hp2.fin s2 (.cons (p1.mono k2) p2)⟩⟩
/-- a call of a builtin by its name -/
theorem e_callB {x : Str} {id : String} {p : Pos} {r : List V → Hp → VK → Prop} {F : List W → Sto → R W} (hc : CallR X (.builtin id) r) (hF : SndL X Z r F) (hg : Gl X x) (hm : X.mg x = none) (hv : bootBuiltins x = some (.builtin id)) (ha : PA X (e :: es) (tA X Z mr)) (hn : x ≠ "__name__" := by decide)
    (hdb : (x == ("__debug__" : Str)) = false := by decide) (he : starEach (e :: es) X.env = (false, eval e X.env) :: starEach es X.env := by rfl) (hpl : (backTo pos (starEach es X.env)).any (·.1) = false := by rfl) :
    PE X (.Call (.Name x p) (e :: es) [] pos) (tI X Z (eL F mr)) := by
  refine (pe_callB hc hg hm hv ha hn hdb he hpl).imp ?_
  rintro st H Q ⟨f, s, S, hE, hS, hp⟩
  exact ⟨f, s, S, hE, hS, hp.seq fun f1 H1 w1 S1 v1 k1 s1 p1 hp1 => hF s1 p1 hp1⟩
theorem e_callTy {x : Str} {T : String} {p : Pos} {r : List V → Hp → VK → Prop} {F : List W → Sto → R W} (hc : CallR X (.type T) r) (hF : SndL X Z r F) (hg : Gl X x) (hm : X.mg x = none) (hv : bootBuiltins x = some (.type T)) (ha : PA X (e :: es) (tA X Z mr)) (hn : x ≠ "__name__" := by decide)
    (hdb : (x == ("__debug__" : Str)) = false := by decide) (he : starEach (e :: es) X.env = (false, eval e X.env) :: starEach es X.env := by rfl) (hpl : (backTo pos (starEach es X.env)).any (·.1) = false := by rfl) :
    PE X (.Call (.Name x p) (e :: es) [] pos) (tI X Z (eL F mr)) := by
  refine (pe_callTy hc hg hm hv ha hn hdb he hpl).imp ?_
  rintro st H Q ⟨f, s, S, hE, hS, hp⟩
  exact ⟨f, s, S, hE, hS, hp.seq fun f1 H1 w1 S1 v1 k1 s1 p1 hp1 => hF s1 p1 hp1⟩
/-! displays -/
def tupW (ws : List W) (S : Sto) : R W := if ws.length ≤ 1000000 then .ok (.tup ws) S else .no
def lstW (ws : List W) (S : Sto) : R W := if ws.length ≤ 1000000 then .ok (.loc S.length) (S ++ [.lst ws]) else .no
theorem mill {n : Nat} (h : n ≤ 1000000) : n ≤ sizeLine := by rw [sizeLine_eq]; omega
theorem post.newT {st : St} {f : List Addr} {H : Hp} {S : Sto} {ws : List W} {vs : List V} {Q : VK} (h : post X Z (Rp X.K X.mg) st f H (.ok (.tup ws) S) Q) (s : RelS X.K X.mg f H S) (r : Rpl X.K X.mg f H ws vs) {p : Addr} (hp : H p = none) : Q (.ref p) (upd H p (.tup vs)) := by
  have k : Kp f H f (upd H p (.tup vs)) := kpLaid hp _
  refine h f _ _ k (s.laid hp _) ?_
  unfold Rp
  exact ⟨p, vs, rfl, upd_same, r.mono k⟩
theorem post.newL {st : St} {f : List Addr} {H : Hp} {S : Sto} {ws : List W} {vs : List V} {Q : VK} (h : post X Z (Rp X.K X.mg) st f H (.ok (.loc S.length) (S ++ [.lst ws])) Q) (s : RelS X.K X.mg f H S) (r : Rpl X.K X.mg f H ws vs) {p : Addr} (hp : H p = none) : Q (.ref p) (upd H p (.lst vs)) := by
  have k : Kp f H (f ++ [p]) (upd H p (.lst vs)) := s.kpNew hp _
  refine h _ _ _ k (s.new hp ⟨vs, upd_same, r.mono k⟩) ?_
  unfold Rp
  exact ⟨p, rfl, at_new s⟩
theorem e_tup {k1} (ha : PA X es (tA X Z mr)) : PE X (.Tuple es k1 pos) (tI X Z (eL tupW mr)) := by
  refine (pe_tup ha).imp ?_
  rintro st H Q ⟨f, s, S, hE, hS, hp⟩
  refine ⟨f, s, S, hE, hS, hp.seq fun f1 H1 ws S1 vs k1 s1 p1 hp1 => ?_⟩
  unfold tupW at hp1
  split at hp1
  · rename_i z
    exact ⟨by rw [p1.length]; exact mill z, fun p hn => hp1.newT s1 p1 hn⟩
  · exact hp1.elim
theorem e_lst (ha : PA X es (tA X Z mr)) : PE X (.List es pos) (tI X Z (eL lstW mr)) := by
  refine (pe_lst ha).imp ?_
  rintro st H Q ⟨f, s, S, hE, hS, hp⟩
  refine ⟨f, s, S, hE, hS, hp.seq fun f1 H1 ws S1 vs k1 s1 p1 hp1 => ?_⟩
  unfold lstW at hp1
  split at hp1
  · rename_i z
    exact ⟨by rw [p1.length]; exact mill z, fun p hn => hp1.newL s1 p1 hn⟩
  · exact hp1.elim
end
end Ev

set_option Elab.async false
set_option linter.all false
set_option maxRecDepth 100000
/-! Ev3: operations on values. -/
namespace Ev
open PySem L2
section
variable {X : Cx} {Z : WX}
/-- a value that is not in the store's heap -/
theorem Rp.intE {K : PySem.W.Frag} {mg : Str → Option Value} {f : List Addr} {H : Hp} {i : Int} {v : V} (h : Rp K mg f H (.int i) v) : v = .int i := by unfold Rp at h; exact h
theorem Rp.strE {K : PySem.W.Frag} {mg : Str → Option Value} {f : List Addr} {H : Hp} {i : Str} {v : V} (h : Rp K mg f H (.str i) v) : v = .str i := by unfold Rp at h; exact h
theorem Rp.blE {K : PySem.W.Frag} {mg : Str → Option Value} {f : List Addr} {H : Hp} {i : Bool} {v : V} (h : Rp K mg f H (.bl i) v) : v = .bl i := by unfold Rp at h; exact h
theorem Rp.nonE {K : PySem.W.Frag} {mg : Str → Option Value} {f : List Addr} {H : Hp} {v : V} (h : Rp K mg f H .non v) : v = .non := by unfold Rp at h; exact h
theorem Rp.tyE {K : PySem.W.Frag} {mg : Str → Option Value} {f : List Addr} {H : Hp} {i : String} {v : V} (h : Rp K mg f H (.ty i) v) : v = .ty i := by unfold Rp at h; exact h
theorem Rp.tupE {K : PySem.W.Frag} {mg : Str → Option Value} {f : List Addr} {H : Hp} {ws : List W} {v : V} (h : Rp K mg f H (.tup ws) v) : ∃ a vs, v = .ref a ∧ H a = some (.tup vs) ∧ Rpl K mg f H ws vs := by unfold Rp at h; exact h
theorem Rp.rolE {K : PySem.W.Frag} {mg : Str → Option Value} {f : List Addr} {H : Hp} {ws : List W} {v : V} (h : Rp K mg f H (.rol ws) v) : ∃ a vs, v = .ref a ∧ RoL K H a vs ∧ Rpl K mg f H ws vs := by unfold Rp at h; exact h
theorem Rp.locE {K : PySem.W.Frag} {mg : Str → Option Value} {f : List Addr} {H : Hp} {n : Nat} {v : V} (h : Rp K mg f H (.loc n) v) : ∃ a, v = .ref a ∧ f[n]? = some a := by unfold Rp at h; exact h
theorem Rp.glE {K : PySem.W.Frag} {mg : Str → Option Value} {f : List Addr} {H : Hp} {n : Str} {v : V} (h : Rp K mg f H (.gl n) v) : ∃ a, v = .ref a ∧ mg n = some (.ref a) := by unfold Rp at h; exact h
theorem Rp.int' {K : PySem.W.Frag} {mg : Str → Option Value} {f : List Addr} {H : Hp} {i : Int} : Rp K mg f H (.int i) (.int i) := by unfold Rp; rfl
theorem Rp.str' {K : PySem.W.Frag} {mg : Str → Option Value} {f : List Addr} {H : Hp} {i : Str} : Rp K mg f H (.str i) (.str i) := by unfold Rp; rfl
theorem Rp.bl' {K : PySem.W.Frag} {mg : Str → Option Value} {f : List Addr} {H : Hp} {i : Bool} : Rp K mg f H (.bl i) (.bl i) := by unfold Rp; rfl
theorem Rp.non' {K : PySem.W.Frag} {mg : Str → Option Value} {f : List Addr} {H : Hp} : Rp K mg f H .non .non := by unfold Rp; rfl
theorem Rp.tup' {K : PySem.W.Frag} {mg : Str → Option Value} {f : List Addr} {H : Hp} {a : Addr} {ws : List W} {vs : List V} (h : H a = some (.tup vs)) (r : Rpl K mg f H ws vs) : Rp K mg f H (.tup ws) (.ref a) := by unfold Rp; exact ⟨a, vs, rfl, h, r⟩
/-- a list that may be written -/
theorem lstAt {f : List Addr} {H : Hp} {S : Sto} {n : Nat} {ws : List W} {v : V} (s : RelS X.K X.mg f H S) (h : Rp X.K X.mg f H (.loc n) v) (e : S[n]? = some (.lst ws)) : ∃ a vs, v = .ref a ∧ f[n]? = some a ∧ H a = some (.lst vs) ∧ Rpl X.K X.mg f H ws vs := by
  obtain ⟨a, e1, e2⟩ := h.locE
  obtain ⟨vs, q, r⟩ := s.at_ n _ a e e2
  exact ⟨a, vs, e1, e2, q, r⟩
theorem dctAt {f : List Addr} {H : Hp} {S : Sto} {n : Nat} {kvs : List (W × W)} {v : V} (s : RelS X.K X.mg f H S) (h : Rp X.K X.mg f H (.loc n) v) (e : S[n]? = some (.dct kvs)) : ∃ a vs, v = .ref a ∧ f[n]? = some a ∧ H a = some (.dK vs) ∧ RpK X.K X.mg f H kvs vs := by
  obtain ⟨a, e1, e2⟩ := h.locE
  obtain ⟨vs, q, r⟩ := s.at_ n _ a e e2
  exact ⟨a, vs, e1, e2, q, r⟩
theorem insAt {f : List Addr} {H : Hp} {S : Sto} {n : Nat} {c : Str} {fs : List (Str × W)} {v : V} (s : RelS X.K X.mg f H S) (h : Rp X.K X.mg f H (.loc n) v) (e : S[n]? = some (.ins c fs)) : ∃ a C dx vs, v = .ref a ∧ f[n]? = some a ∧ X.mg c = some (.ref C) ∧ H a = some (.ins C dx vs) ∧ RpF X.K X.mg f H fs vs := by
  obtain ⟨a, e1, e2⟩ := h.locE
  obtain ⟨C, dx, vs, m, q, r⟩ := s.at_ n _ a e e2
  exact ⟨a, C, dx, vs, e1, e2, m, q, r⟩
/-- a list that is read -/
theorem getL_at {f : List Addr} {H : Hp} {S : Sto} {w : W} {ws : List W} {v : V} (s : RelS X.K X.mg f H S) (h : Rp X.K X.mg f H w v) (e : getL S w = some ws) : ∃ a vs, v = .ref a ∧ SqL X.K H a vs ∧ Rpl X.K X.mg f H ws vs := by
  cases w with
  | loc n =>
    unfold getL at e
    dsimp only at e
    split at e
    · rename_i xs e2
      cases e
      obtain ⟨a, vs, e3, _, q, r⟩ := lstAt s h e2
      exact ⟨a, vs, e3, SqL.of q, r⟩
    · cases e
  | rol xs =>
    cases e
    obtain ⟨a, vs, e3, q, r⟩ := h.rolE
    exact ⟨a, vs, e3, q.seq, r⟩
  | _ => cases e

/-! ### arithmetic -/
def subW : W → W → Sto → R W
  | .int i, .int j, S => .ok (.int (i - j)) S
  | _, _, _ => .no
theorem snd_sub : Snd2 X Z (rI0 fun i j => .int (i - j)) subW := by
  intro f H st S w v w' v' Q s h h' p
  unfold subW at p
  split at p
  · exact ⟨_, _, h.intE, h'.intE, p.fin s Rp.int'⟩
  · exact p.elim
instance (i j : Int) : Decidable (CMul i j) := by unfold CMul; exact inferInstance
def modW : W → W → Sto → R W
  | .int i, .int j, S => if 0 < j then .ok (.int (i % j)) S else .no
  | _, _, _ => .no
theorem snd_mod : Snd2 X Z (rI (fun _ j => 0 < j) fun i j => .int (i % j)) modW := by
  intro f H st S w v w' v' Q s h h' p
  unfold modW at p
  split at p
  · split at p
    · rename_i z
      exact ⟨_, _, h.intE, h'.intE, z, p.fin s Rp.int'⟩
    · exact p.elim
  · exact p.elim
def fdivW : W → W → Sto → R W
  | .int i, .int j, S => if 0 < j ∧ j < 1073741824 then .ok (.int (i / j)) S else .no
  | _, _, _ => .no
theorem snd_fdiv : Snd2 X Z (rI CDiv fun i j => .int (i / j)) fdivW := by
  intro f H st S w v w' v' Q s h h' p
  unfold fdivW at p
  split at p
  · split at p
    · rename_i z
      exact ⟨_, _, h.intE, h'.intE, z, p.fin s Rp.int'⟩
    · exact p.elim
  · exact p.elim
def powW : W → W → Sto → R W
  | .int i, .int j, S => if 0 ≤ j ∧ j ≤ 1000000 ∧ i.natAbs < 2 ^ 64 then .ok (.int (i ^ j.toNat)) S else .no
  | _, _, _ => .no
theorem snd_pow : Snd2 X Z (rI CPow fun i j => .int (i ^ j.toNat)) powW := by
  intro f H st S w v w' v' Q s h h' p
  unfold powW at p
  split at p
  · split at p
    · rename_i z
      exact ⟨_, _, h.intE, h'.intE, z, p.fin s Rp.int'⟩
    · exact p.elim
  · exact p.elim
def negW : W → Sto → R W
  | .int i, S => .ok (.int (-i)) S
  | _, _ => .no
theorem snd_neg : Snd1 X Z (rU fun i => .int (-i)) negW := by
  intro f H st S w v Q s h p
  unfold negW at p
  split at p
  · exact ⟨_, h.intE, p.fin s Rp.int'⟩
  · exact p.elim
/-! x + y -/
def addW : W → W → Sto → R W
  | .int i, .int j, S => .ok (.int (i + j)) S
  | .str x, .str y, S => if x.length + y.length ≤ 1000000 then .ok (.str (x ++ y)) S else .no
  | .tup a, .tup b, S => if a.length + b.length ≤ 1000000 then .ok (.tup (a ++ b)) S else .no
  | .loc m, .loc n, S => match S[m]?, S[n]? with
    | some (.lst a), some (.lst b) => if a.length + b.length ≤ 1000000 then .ok (.loc S.length) (S ++ [.lst (a ++ b)]) else .no
    | _, _ => .no
  | _, _, _ => .no
def rAddW (K : PySem.W.Frag) : R2 := fun x y H Q => (∃ i j, x = .int i ∧ y = .int j ∧ Q (.int (i + j)) H) ∨ (∃ i j, x = .str i ∧ y = .str j ∧ i.length + j.length ≤ sizeLine ∧ Q (.str (i ++ j)) H) ∨ rCatA K x y H Q ∨ rCat x y H Q
theorem op_addW : OpR X (binaryOp .Add) (rAddW X.K) := op_add.or (op_add_str.or (op_catA.or op_cat))
theorem Rpl.nilL {K : PySem.W.Frag} {mg : Str → Option Value} {f : List Addr} {H : Hp} {ws : List W} {vs : List V} (r : Rpl K mg f H ws vs) : vs = [] ↔ ws = [] := by
  have := r.length
  rw [← List.length_eq_zero_iff, ← List.length_eq_zero_iff, this]
theorem snd_add : Snd2 X Z (rAddW X.K) addW := by
  intro f H st S w v w' v' Q s h h' p
  unfold addW at p
  split at p
  · exact .inl ⟨_, _, h.intE, h'.intE, p.fin s Rp.int'⟩
  · split at p
    · rename_i z
      exact .inr (.inl ⟨_, _, h.strE, h'.strE, mill z, p.fin s Rp.str'⟩)
    · exact p.elim
  · split at p
    · rename_i a b z
      obtain ⟨pa, va, rfl, qa, ra⟩ := h.tupE
      obtain ⟨pb, vb, rfl, qb, rb⟩ := h'.tupE
      refine .inr (.inr (.inl ⟨pa, pb, va, vb, rfl, rfl, SqT.of qa, SqT.of qb, by rw [ra.length, rb.length]; exact mill z, fun e => ?_, fun _ e => ?_, fun _ _ q hq => p.newT s (ra.append rb) hq⟩))
      · refine p.fin s (.tup' qb ?_)
        rw [ra.nilL.mp e]; exact rb
      · refine p.fin s (.tup' qa ?_)
        rw [rb.nilL.mp e, List.append_nil]; exact ra
    · exact p.elim
  · split at p
    · rename_i a b e1 e2
      split at p
      · rename_i z
        obtain ⟨pa, va, rfl, _, qa, ra⟩ := lstAt s h e1
        obtain ⟨pb, vb, rfl, _, qb, rb⟩ := lstAt s h' e2
        exact .inr (.inr (.inr ⟨pa, pb, va, vb, rfl, rfl, qa, qb, by rw [ra.length, rb.length]; exact mill z, fun q hq => p.newL s (ra.append rb) hq⟩))
      · exact p.elim
    · exact p.elim
  · exact p.elim
/-! x * y -/
def mulW : W → W → Sto → R W
  | .int i, .int j, S => if CMul i j then .ok (.int (i * j)) S else .no
  | .loc n, .int k, S => match S[n]? with
    | some (.lst a) => if -1000000 ≤ k ∧ k ≤ 1000000 ∧ a.length * k.toNat ≤ 1000000 then .ok (.loc S.length) (S ++ [.lst (List.replicate k.toNat a).flatten]) else .no
    | _ => .no
  | .tup a, .int k, S => if a ≠ [] ∧ 2 ≤ k ∧ k ≤ 1000 ∧ a.length ≤ 1000 then .ok (.tup (List.replicate k.toNat a).flatten) S else .no
  | _, _, _ => .no
def rMulW (K : PySem.W.Frag) : R2 := fun x y H Q => rI CMul (fun i j => .int (i * j)) x y H Q ∨ rRep x y H Q ∨ rRepT K x y H Q
theorem op_mulW' : OpR X (binaryOp .Mult) (rMulW X.K) := op_mul.or (op_rep.or op_repT)
theorem Rpl.rep {K : PySem.W.Frag} {mg : Str → Option Value} {f : List Addr} {H : Hp} {ws : List W} {vs : List V} (r : Rpl K mg f H ws vs) : ∀ k : Nat, Rpl K mg f H (List.replicate k ws).flatten (List.replicate k vs).flatten
  | 0 => by simp [Rpl]
  | k + 1 => by
    rw [List.replicate_succ, List.replicate_succ, List.flatten_cons, List.flatten_cons]
    exact r.append (Rpl.rep r k)
theorem snd_mul : Snd2 X Z (rMulW X.K) mulW := by
  intro f H st S w v w' v' Q s h h' p
  unfold mulW at p
  split at p
  · split at p
    · rename_i z
      exact .inl ⟨_, _, h.intE, h'.intE, z, p.fin s Rp.int'⟩
    · exact p.elim
  · split at p
    · rename_i e1
      split at p
      · rename_i z
        obtain ⟨pa, va, rfl, _, qa, ra⟩ := lstAt s h e1
        exact .inr (.inl ⟨pa, _, va, rfl, h'.intE, qa, by omega, by omega, by rw [ra.length]; exact mill z.2.2, fun q hq => p.newL s (ra.rep _) hq⟩)
      · exact p.elim
    · exact p.elim
  · split at p
    · rename_i z
      obtain ⟨pa, va, rfl, qa, ra⟩ := h.tupE
      exact .inr (.inr ⟨pa, _, va, rfl, h'.intE, SqT.of qa, fun e => z.1 (ra.nilL.mp e), z.2.1, z.2.2.1, by rw [ra.length]; exact z.2.2.2, fun q hq => p.newT s (ra.rep _) hq⟩)
    · exact p.elim
  · exact p.elim

/-! ### comparisons -/
def cmpI (g : Int → Int → Bool) : W → W → Sto → R W
  | .int i, .int j, S => .ok (.bl (g i j)) S
  | _, _, _ => .no
theorem snd_cmpI {g : Int → Int → Bool} : Snd2 X Z (rI0 fun i j => .bl (g i j)) (cmpI g) := by
  intro f H st S w v w' v' Q s h h' p
  unfold cmpI at p
  split at p
  · exact ⟨_, _, h.intE, h'.intE, p.fin s Rp.bl'⟩
  · exact p.elim
abbrev ltW := cmpI fun i j => decide (i < j)
abbrev leW := cmpI fun i j => decide (i ≤ j)
abbrev gtW := cmpI fun i j => decide (j < i)
abbrev geW := cmpI fun i j => decide (j ≤ i)
/-- the data that a value is -/
def W.pd (S : Sto) : Nat → W → Option PyData
  | 0, _ => none
  | n + 1, w => match w with
    | .non => some .none
    | .bl b => some (.bool b)
    | .int i => some (.int i)
    | .str x => some (.str x)
    | .tup ws => (ws.mapM (W.pd S n)).map .tuple
    | .rol ws => (ws.mapM (W.pd S n)).map .list
    | .loc k => match S[k]? with
      | some (.lst ws) => (ws.mapM (W.pd S n)).map .list
      | _ => none
    | _ => none
theorem mapM_cons {A B : Type} (g : A → Option B) (a : A) (l : List A) : (a :: l).mapM g = (g a).bind fun b => (l.mapM g).map fun r => b :: r := by
  rw [List.mapM_cons]
  cases g a with
  | none => rfl
  | some b => cases l.mapM g <;> rfl
theorem pd_all {f : List Addr} {H : Hp} {S : Sto} {n : Nat} (ih : ∀ w v d, Rp X.K X.mg f H w v → W.pd S n w = some d → Dp X.K H v d ∧ d.plain = true ∧ d.depth ≤ n) :
    ∀ (ws : List W) (vs : List V) (ds : List PyData), Rpl X.K X.mg f H ws vs → ws.mapM (W.pd S n) = some ds → DpAll X.K H vs ds ∧ PyData.plainAll ds = true ∧ PyData.depthAll ds ≤ n
  | [], vs, ds, h, e => by
    unfold Rpl at h
    subst h
    cases (show some [] = some ds from e)
    exact ⟨.nil, rfl, Nat.zero_le _⟩
  | w :: ws, vs, ds, h, e => by
    unfold Rpl at h
    obtain ⟨v, r, rfl, q, z⟩ := h
    rw [mapM_cons] at e
    cases e1 : W.pd S n w with
    | none => rw [e1] at e; cases e
    | some d =>
      rw [e1] at e
      cases e2 : ws.mapM (W.pd S n) with
      | none => rw [e2] at e; cases e
      | some ds' =>
        rw [e2] at e
        cases e
        obtain ⟨a1, a2, a3⟩ := ih w v d q e1
        obtain ⟨b1, b2, b3⟩ := pd_all ih ws r ds' z e2
        refine ⟨.cons a1 b1, ?_, ?_⟩
        · show (d.plain && PyData.plainAll ds') = true
          rw [a2, b2]; rfl
        · show max d.depth (PyData.depthAll ds') ≤ n
          omega
theorem pd_ok {f : List Addr} {H : Hp} {S : Sto} (s : RelS X.K X.mg f H S) : ∀ (n : Nat) (w : W) (v : V) (d : PyData), Rp X.K X.mg f H w v → W.pd S n w = some d → Dp X.K H v d ∧ d.plain = true ∧ d.depth ≤ n
  | 0, _, _, _, _, e => by cases e
  | n + 1, w, v, d, h, e => by
    have ih := pd_ok s n
    unfold W.pd at e
    split at e
    · cases e; rw [h.nonE]; exact ⟨.non, rfl, Nat.zero_le _⟩
    · cases e; rw [h.blE]; exact ⟨.bl _, rfl, Nat.zero_le _⟩
    · cases e; rw [h.intE]; exact ⟨.int _, rfl, Nat.zero_le _⟩
    · cases e; rw [h.strE]; exact ⟨.str _, rfl, Nat.zero_le _⟩
    · rename_i ws
      obtain ⟨a, vs, rfl, q, r⟩ := h.tupE
      obtain ⟨ds, e1, rfl⟩ := Option.map_eq_some_iff.mp e
      obtain ⟨b1, b2, b3⟩ := pd_all ih ws vs ds r e1
      exact ⟨.tup (SqT.of q) b1, b2, by show PyData.depthAll ds + 1 ≤ n + 1; omega⟩
    · rename_i ws
      obtain ⟨a, vs, rfl, q, r⟩ := h.rolE
      obtain ⟨ds, e1, rfl⟩ := Option.map_eq_some_iff.mp e
      obtain ⟨b1, b2, b3⟩ := pd_all ih ws vs ds r e1
      exact ⟨.lst q.seq b1, b2, by show PyData.depthAll ds + 1 ≤ n + 1; omega⟩
    · split at e
      · rename_i ws e0
        obtain ⟨a, vs, rfl, _, q, r⟩ := lstAt s h e0
        obtain ⟨ds, e1, rfl⟩ := Option.map_eq_some_iff.mp e
        obtain ⟨b1, b2, b3⟩ := pd_all ih ws vs ds r e1
        exact ⟨.lst (SqL.of q) b1, b2, by show PyData.depthAll ds + 1 ≤ n + 1; omega⟩
      · cases e
    · cases e
def rEqP (K : PySem.W.Frag) (neg : Bool) : R2 := fun x y H Q => ∃ d e, Dp K H x d ∧ Dp K H y e ∧ d.plain = true ∧ e.plain = true ∧ d.depth ≤ 64 ∧ Q (.bl (if neg then !PyData.eqv d e else PyData.eqv d e)) H
theorem op_eqP (hu : X.A.units + 64 < cLine) : OpR X (compareOp .Eq) (rEqP X.K false) := by
  intro pins s st H x y v u Q I rx ry h
  obtain ⟨d, e, hd, he, sd, se, dd, q⟩ := h
  obtain ⟨as, r1⟩ := Dp.reads I d x v hd rx
  obtain ⟨bs, r2⟩ := Dp.reads I e y u he ry
  have : min d.depth e.depth ≤ d.depth := Nat.min_le_left _ _
  exact SeqAt.eq_plain r1 r2 sd se (by omega) ⟨.bl _, H, I, rfl, q⟩
theorem op_neP (hu : X.A.units + 64 < cLine) : OpR X (compareOp .NotEq) (rEqP X.K true) := by
  intro pins s st H x y v u Q I rx ry h
  obtain ⟨d, e, hd, he, sd, se, dd, q⟩ := h
  obtain ⟨as, r1⟩ := Dp.reads I d x v hd rx
  obtain ⟨bs, r2⟩ := Dp.reads I e y u he ry
  have : min d.depth e.depth ≤ d.depth := Nat.min_le_left _ _
  exact SeqAt.ne_plain r1 r2 sd se (by omega) ⟨.bl _, H, I, rfl, q⟩
/-- whether two values are equal as data -/
def eqO (x y : W) (S : Sto) : Option Bool := match W.pd S 64 x, W.pd S 64 y with
  | some d, some e => some (PyData.eqv d e)
  | _, _ => none
def eqW (x y : W) (S : Sto) : R W := match eqO x y S with
  | some b => .ok (.bl b) S
  | none => .no
def neW (x y : W) (S : Sto) : R W := match eqO x y S with
  | some b => .ok (.bl (!b)) S
  | none => .no
theorem eqO_ok {f : List Addr} {H : Hp} {S : Sto} {w w' : W} {v v' : V} {b : Bool} (s : RelS X.K X.mg f H S) (h : Rp X.K X.mg f H w v) (h' : Rp X.K X.mg f H w' v') (e : eqO w w' S = some b) :
    ∃ d e, Dp X.K H v d ∧ Dp X.K H v' e ∧ d.plain = true ∧ e.plain = true ∧ d.depth ≤ 64 ∧ PyData.eqv d e = b := by
  unfold eqO at e
  split at e
  · rename_i d d' e1 e2
    obtain ⟨a1, a2, a3⟩ := pd_ok s 64 w v d h e1
    obtain ⟨b1, b2, b3⟩ := pd_ok s 64 w' v' d' h' e2
    cases e
    exact ⟨d, d', a1, b1, a2, b2, a3, rfl⟩
  · cases e
theorem snd_eq : Snd2 X Z (rEqP X.K false) eqW := by
  intro f H st S w v w' v' Q s h h' p
  unfold eqW at p
  split at p
  · rename_i b e
    obtain ⟨d, d', a1, b1, a2, b2, a3, eb⟩ := eqO_ok s h h' e
    refine ⟨d, d', a1, b1, a2, b2, a3, ?_⟩
    rw [if_neg (by decide), eb]
    exact p.fin s Rp.bl'
  · exact p.elim
theorem snd_ne : Snd2 X Z (rEqP X.K true) neW := by
  intro f H st S w v w' v' Q s h h' p
  unfold neW at p
  split at p
  · rename_i b e
    obtain ⟨d, d', a1, b1, a2, b2, a3, eb⟩ := eqO_ok s h h' e
    refine ⟨d, d', a1, b1, a2, b2, a3, ?_⟩
    rw [if_pos rfl, eb]
    exact p.fin s Rp.bl'
  · exact p.elim
/-! is None -/
def isNon : W → Bool
  | .non => true
  | _ => false
def isW (x y : W) (S : Sto) : R W := match y with
  | .non => .ok (.bl (isNon x)) S
  | _ => .no
def isnW (x y : W) (S : Sto) : R W := match y with
  | .non => .ok (.bl (!isNon x)) S
  | _ => .no
theorem isNon_ok {f : List Addr} {H : Hp} {w : W} {v : V} (h : Rp X.K X.mg f H w v) : decide (v = .non) = isNon w := by
  cases w with
  | non => rw [h.nonE]; rfl
  | bl b => rw [h.blE]; rfl
  | int i => rw [h.intE]; rfl
  | str i => rw [h.strE]; rfl
  | tup ws => obtain ⟨a, _, rfl, _⟩ := h.tupE; rfl
  | rol ws => obtain ⟨a, _, rfl, _⟩ := h.rolE; rfl
  | loc n => obtain ⟨a, rfl, _⟩ := h.locE; rfl
  | gl x => obtain ⟨a, rfl, _⟩ := h.glE; rfl
  | ty n => rw [h.tyE]; rfl
theorem snd_is : Snd2 X Z (fun x y H Q => y = .non ∧ Q (.bl (decide (x = .non))) H) isW := by
  intro f H st S w v w' v' Q s h h' p
  unfold isW at p
  split at p
  · exact ⟨h'.nonE, by rw [isNon_ok h]; exact p.fin s Rp.bl'⟩
  · exact p.elim
theorem snd_isn : Snd2 X Z (fun x y H Q => y = .non ∧ Q (.bl (!decide (x = .non))) H) isnW := by
  intro f H st S w v w' v' Q s h h' p
  unfold isnW at p
  split at p
  · exact ⟨h'.nonE, by rw [isNon_ok h]; exact p.fin s Rp.bl'⟩
  · exact p.elim
end
end Ev

set_option Elab.async false
set_option linter.all false
set_option maxRecDepth 100000
/-! Ev4: in, subscripts, slices, dicts, builtins, methods, truth. -/
namespace Ev
open PySem L2 PySem.Spec PyProof.Rows
section
variable {X : Cx} {Z : WX}
/-! ### dicts with keys that are intsOf or texts -/
def dlook (kvs : List (W × W)) (q : Key) : Option W := (kvs.find? fun p => decide (W.key? p.1 = some q)).map (·.2)
def dput (kvs : List (W × W)) (k : W) (q : Key) (w : W) : List (W × W) :=
  if (dlook kvs q).isSome = true then kvs.map (fun p => if W.key? p.1 = some q then (p.1, w) else p) else kvs ++ [(k, w)]
def ddrop (kvs : List (W × W)) (q : Key) : List (W × W) := kvs.filter fun p => decide (W.key? p.1 ≠ some q)
def W.ofKey : Key → W
  | .inl i => .int i
  | .inr x => .str x
theorem key_ok {f : List Addr} {H : Hp} {w : W} {v : V} {q : Key} (h : Rp X.K X.mg f H w v) (e : W.key? w = some q) : v = kV q := by
  cases w with
  | int i => cases e; exact h.intE
  | str x => cases e; exact h.strE
  | _ => cases e
theorem RpK.val {f : List Addr} {H : Hp} (q : Key) : ∀ {kvs : List (W × W)} {vs : List (Key × V)}, RpK X.K X.mg f H kvs vs → (dlook kvs q = none ∧ valV vs q = none) ∨ ∃ w v, dlook kvs q = some w ∧ valV vs q = some v ∧ Rp X.K X.mg f H w v
  | [], vs, h => by unfold RpK at h; subst h; exact .inl ⟨rfl, rfl⟩
  | (k, w) :: kvs, vs, h => by
    unfold RpK at h
    obtain ⟨q', v, r, rfl, hk, hw, hr⟩ := h
    by_cases e : q' = q
    · refine .inr ⟨w, v, ?_, valV_pos e, hw⟩
      unfold dlook
      rw [List.find?_cons_of_pos]
      · rfl
      · simp [hk, e]
    · have e1 : dlook ((k, w) :: kvs) q = dlook kvs q := by
        unfold dlook
        rw [List.find?_cons_of_neg]
        simp [hk, e]
      rw [e1, valV_neg (p := (q', v)) e]
      exact RpK.val q hr
theorem RpK.map {f : List Addr} {H : Hp} {q : Key} {w : W} {v : V} (hw : Rp X.K X.mg f H w v) : ∀ {kvs : List (W × W)} {vs : List (Key × V)}, RpK X.K X.mg f H kvs vs →
    RpK X.K X.mg f H (kvs.map (fun p => if W.key? p.1 = some q then (p.1, w) else p)) (vs.map fun p => if p.1 = q then (p.1, v) else p)
  | [], vs, h => by unfold RpK at h; subst h; simp [RpK]
  | (k, w') :: kvs, vs, h => by
    unfold RpK at h
    obtain ⟨q', v', r, rfl, hk, hw', hr⟩ := h
    rw [List.map_cons, List.map_cons]
    have ih := RpK.map (q := q) hw hr
    by_cases e : q' = q
    · have : W.key? k = some q := by rw [hk, e]
      rw [if_pos this, if_pos e]
      unfold RpK
      exact ⟨q', v, _, rfl, hk, hw, ih⟩
    · have : ¬ W.key? k = some q := by rw [hk]; intro z; exact e (Option.some.inj z)
      rw [if_neg this, if_neg e]
      unfold RpK
      exact ⟨q', v', _, rfl, hk, hw', ih⟩
theorem RpK.snoc {f : List Addr} {H : Hp} {q : Key} {k w : W} {v : V} (hk : W.key? k = some q) (hw : Rp X.K X.mg f H w v) : ∀ {kvs : List (W × W)} {vs : List (Key × V)}, RpK X.K X.mg f H kvs vs →
    RpK X.K X.mg f H (kvs ++ [(k, w)]) (vs ++ [(q, v)])
  | [], vs, h => by
    unfold RpK at h; subst h
    show RpK X.K X.mg f H [(k, w)] [(q, v)]
    unfold RpK
    exact ⟨q, v, [], rfl, hk, hw, by unfold RpK; rfl⟩
  | (k', w') :: kvs, vs, h => by
    unfold RpK at h
    obtain ⟨q', v', r, rfl, hk', hw', hr⟩ := h
    show RpK X.K X.mg f H ((k', w') :: (kvs ++ [(k, w)])) ((q', v') :: (r ++ [(q, v)]))
    unfold RpK
    exact ⟨q', v', _, rfl, hk', hw', RpK.snoc hk hw hr⟩
theorem RpK.put {f : List Addr} {H : Hp} {q : Key} {k w : W} {v : V} (hk : W.key? k = some q) (hw : Rp X.K X.mg f H w v) {kvs : List (W × W)} {vs : List (Key × V)} (h : RpK X.K X.mg f H kvs vs) :
    RpK X.K X.mg f H (dput kvs k q w) (putK vs q v) := by
  unfold dput putK
  rw [valV_any]
  rcases h.val q with ⟨e1, e2⟩ | ⟨w', v', e1, e2, _⟩
  · rw [e1, e2]
    exact h.snoc hk hw
  · rw [e1, e2]
    exact h.map hw
theorem RpK.drop {f : List Addr} {H : Hp} {q : Key} : ∀ {kvs : List (W × W)} {vs : List (Key × V)}, RpK X.K X.mg f H kvs vs → RpK X.K X.mg f H (ddrop kvs q) (dropK vs q)
  | [], vs, h => by unfold RpK at h; subst h; simp [ddrop, dropK, RpK]
  | (k, w') :: kvs, vs, h => by
    unfold RpK at h
    obtain ⟨q', v', r, rfl, hk, hw', hr⟩ := h
    have ih := RpK.drop (q := q) hr
    unfold ddrop dropK at ih ⊢
    by_cases e : q' = q
    · rw [List.filter_cons_of_neg (by simp [hk, e]), List.filter_cons_of_neg (by simp [e])]
      exact ih
    · rw [List.filter_cons_of_pos (by simp [hk, e]), List.filter_cons_of_pos (by simp [e])]
      unfold RpK
      exact ⟨q', v', _, rfl, hk, hw', ih⟩
theorem RpK.length {f : List Addr} {H : Hp} : ∀ {kvs : List (W × W)} {vs : List (Key × V)}, RpK X.K X.mg f H kvs vs → vs.length = kvs.length
  | [], vs, h => by unfold RpK at h; subst h; rfl
  | (k, w') :: kvs, vs, h => by
    unfold RpK at h
    obtain ⟨q', v', r, rfl, hk, hw', hr⟩ := h
    rw [List.length_cons, List.length_cons, RpK.length hr]
theorem RpK.keys {f : List Addr} {H : Hp} : ∀ {kvs : List (W × W)} {vs : List (Key × V)}, RpK X.K X.mg f H kvs vs → Rpl X.K X.mg f H (kvs.map (·.1)) (vs.map fun p => kV p.1)
  | [], vs, h => by unfold RpK at h; subst h; exact Rpl.nil
  | (k, w') :: kvs, vs, h => by
    unfold RpK at h
    obtain ⟨q', v', r, rfl, hk, hw', hr⟩ := h
    refine .cons ?_ (RpK.keys hr)
    cases k with
    | int i => cases hk; exact Rp.int'
    | str i => cases hk; exact Rp.str'
    | _ => cases hk

/-! ### x in y -/
def rInP (K : PySem.W.Frag) (neg : Bool) : R2 := fun x y H Q => ∃ d ds, Dp K H x d ∧ (Dp K H y (.list ds) ∨ Dp K H y (.tuple ds)) ∧ d.plain = true ∧ PyData.plainAll ds = true ∧ d.depth ≤ 64 ∧ Q (.bl (if neg then !ds.any (fun z => PyData.eqv z d) else ds.any fun z => PyData.eqv z d)) H
theorem op_inP (hu : X.A.units + 65 < cLine) : OpR X (compareOp .In) (rInP X.K false) := by
  intro pins s st H x y v u Q I rx ry h
  obtain ⟨d, ds, hd, he, sd, se, dd, q⟩ := h
  obtain ⟨as, r1⟩ := Dp.reads I d x v hd rx
  have : min (PyData.depthAll ds) d.depth ≤ d.depth := Nat.min_le_right _ _
  rcases he with he | he
  · obtain ⟨bs, r2⟩ := Dp.reads I (.list ds) y u he ry
    exact SeqAt.in_list_data r2 r1 se sd (by omega) ⟨.bl _, H, I, rfl, q⟩
  · obtain ⟨bs, r2⟩ := Dp.reads I (.tuple ds) y u he ry
    exact SeqAt.in_tuple_data r2 r1 se sd (by omega) ⟨.bl _, H, I, rfl, q⟩
theorem op_ninP (hu : X.A.units + 65 < cLine) : OpR X (compareOp .NotIn) (rInP X.K true) := by
  intro pins s st H x y v u Q I rx ry h
  obtain ⟨d, ds, hd, he, sd, se, dd, q⟩ := h
  obtain ⟨as, r1⟩ := Dp.reads I d x v hd rx
  have : min (PyData.depthAll ds) d.depth ≤ d.depth := Nat.min_le_right _ _
  rcases he with he | he
  · obtain ⟨bs, r2⟩ := Dp.reads I (.list ds) y u he ry
    exact SeqAt.notIn_list_data r2 r1 se sd (by omega) ⟨.bl _, H, I, rfl, q⟩
  · obtain ⟨bs, r2⟩ := Dp.reads I (.tuple ds) y u he ry
    exact SeqAt.notIn_tuple_data r2 r1 se sd (by omega) ⟨.bl _, H, I, rfl, q⟩
def rInD2 (neg : Bool) : R2 := fun y x H Q => ∃ a o, x = .ref a ∧ DGet H a y o ∧ Q (.bl (if neg then !o.isSome else o.isSome)) H
theorem op_inD2 (hu : X.A.units + 1 < cLine) : OpR X (compareOp .In) (rInD2 false) := by
  intro pins s st H y x v u Q I ry rx h
  obtain ⟨a, o, rfl, g, q⟩ := h
  obtain rfl : u = Value.ref a := rx
  exact d_in hu I g ry fun s3 I3 => ⟨.bl o.isSome, H, I3, rfl, q⟩
theorem op_ninD2 (hu : X.A.units + 1 < cLine) : OpR X (compareOp .NotIn) (rInD2 true) := by
  intro pins s st H y x v u Q I ry rx h
  obtain ⟨a, o, rfl, g, q⟩ := h
  obtain rfl : u = Value.ref a := rx
  exact d_notIn hu I g ry fun s3 I3 => ⟨.bl (!o.isSome), H, I3, rfl, q⟩
def rInC (neg : Bool) : R2 := fun x y H Q => ∃ (c : Nat) (z : Str), x = .str ⟨#[c]⟩ ∧ y = .str z ∧ Q (.bl (if neg then !decide (c ∈ z.cps.toList) else decide (c ∈ z.cps.toList))) H
def rInW (K : PySem.W.Frag) (neg : Bool) : R2 := fun x y H Q => rInP K neg x y H Q ∨ rInD2 neg x y H Q ∨ rInC neg x y H Q
theorem op_inW (hu : X.A.units + 65 < cLine) : OpR X (compareOp .In) (rInW X.K false) := (op_inP hu).or ((op_inD2 (by omega)).or (op_in_sign (X := X)))
theorem op_ninW (hu : X.A.units + 65 < cLine) : OpR X (compareOp .NotIn) (rInW X.K true) := (op_ninP hu).or ((op_ninD2 (by omega)).or (op_notIn_sign (X := X)))
/-- whether x is in y -/
def inO (x y : W) (S : Sto) : Option Bool := match y with
  | .str z => match x with
    | .str ⟨⟨[c]⟩⟩ => some (decide (c ∈ z.cps.toList))
    | _ => none
  | .tup ws => match W.pd S 64 x, ws.mapM (W.pd S 64) with
    | some d, some ds => some (ds.any fun z => PyData.eqv z d)
    | _, _ => none
  | .loc n => match S[n]? with
    | some (.lst ws) => match W.pd S 64 x, ws.mapM (W.pd S 64) with
      | some d, some ds => some (ds.any fun z => PyData.eqv z d)
      | _, _ => none
    | some (.dct kvs) => match W.key? x with
      | some q => some (dlook kvs q).isSome
      | none => none
    | _ => none
  | _ => none
theorem inO_ok {neg : Bool} {f : List Addr} {H : Hp} {S : Sto} {x y : W} {v u : V} {b : Bool} {Q : VK} (s : RelS X.K X.mg f H S) (h : Rp X.K X.mg f H x v) (h' : Rp X.K X.mg f H y u) (e : inO x y S = some b) (q : Q (.bl (if neg then !b else b)) H) : rInW X.K neg v u H Q := by
  unfold inO at e
  split at e
  · split at e
    · cases e
      exact .inr (.inr ⟨_, _, h.strE, h'.strE, q⟩)
    · cases e
  · rename_i ws
    split at e
    · rename_i d ds e1 e2
      cases e
      obtain ⟨a, vs, rfl, hq, r⟩ := h'.tupE
      obtain ⟨a1, a2, a3⟩ := pd_ok s 64 _ _ _ h e1
      obtain ⟨b1, b2, b3⟩ := pd_all (pd_ok s 64) ws vs ds r e2
      exact .inl ⟨d, ds, a1, .inr (.tup (SqT.of hq) b1), a2, b2, a3, q⟩
    · cases e
  · split at e
    · rename_i ws e0
      split at e
      · rename_i d ds e1 e2
        cases e
        obtain ⟨a, vs, rfl, _, hq, r⟩ := lstAt s h' e0
        obtain ⟨a1, a2, a3⟩ := pd_ok s 64 _ _ _ h e1
        obtain ⟨b1, b2, b3⟩ := pd_all (pd_ok s 64) ws vs ds r e2
        exact .inl ⟨d, ds, a1, .inl (.lst (SqL.of hq) b1), a2, b2, a3, q⟩
      · cases e
    · rename_i kvs e0
      split at e
      · rename_i k e1
        cases e
        obtain ⟨a, vs, rfl, _, hq, r⟩ := dctAt s h' e0
        refine .inr (.inl ⟨a, valV vs k, rfl, ?_, ?_⟩)
        · rw [key_ok h e1]; exact DGet.k hq
        · have : (valV vs k).isSome = (dlook kvs k).isSome := by
            rcases r.val k with ⟨z1, z2⟩ | ⟨w', v', z1, z2, _⟩ <;> rw [z1, z2] <;> rfl
          rw [this]; exact q
      · cases e
    · cases e
  · cases e
def inW (x y : W) (S : Sto) : R W := match inO x y S with
  | some b => .ok (.bl b) S
  | none => .no
def ninW (x y : W) (S : Sto) : R W := match inO x y S with
  | some b => .ok (.bl (!b)) S
  | none => .no
theorem snd_in : Snd2 X Z (rInW X.K false) inW := by
  intro f H st S w v w' v' Q s h h' p
  unfold inW at p
  split at p
  · rename_i b e
    exact inO_ok s h h' e (p.fin s Rp.bl')
  · exact p.elim
theorem snd_nin : Snd2 X Z (rInW X.K true) ninW := by
  intro f H st S w v w' v' Q s h h' p
  unfold ninW at p
  split at p
  · rename_i b e
    exact inO_ok s h h' e (p.fin s Rp.bl')
  · exact p.elim

/-! ### x[i] -/
def rIxDict : R2 := fun x y H Q => ∃ a v, x = .ref a ∧ DGet H a y (some v) ∧ Q v H
theorem ix_dict (hu : X.A.units + 1 < cLine) : IxR X rIxDict := by
  intro value slice pins s st H x y v u Q I rx ry h hs
  obtain ⟨a, z, rfl, g, q⟩ := h
  obtain rfl : v = Value.ref a := rx
  have hT := dict_typeIs I g
  unfold subscriptTail
  refine wpAny_bind ?_
  rw [getitemInPython_of_ne hT.not_modules]
  refine wpAny_bind (wpAny_specialOf hT PySem.F.slot_dict_getitem.lookup ?_)
  have fin : wpAny (model X.prog X.w) X.A (subscripted slice false (.ref a) u) (fun r s₃ => wpAny (model X.prog X.w) X.A (letTemporaryGo value (.ref a) r >>= fun _ => pure r) (EP X pins st Q) X.xe s₃) X.xe s := by
    rw [hs]
    exact wpAny_operating (wpAny_mono (d_getItem hu I g ry fun w' s3 I3 rw' => (⟨z, H, I3, rw', q⟩ : EP X pins st Q w' s3)) (fun r s₃ h₃ => wpAny_bind (wpAny_letTemporaryGo (wpAny_pure h₃))) fun _ _ x => x)
  first
    | exact wpAny_pure (wpAny_bind fin)
    | exact wpAny_bind (wpAny_pure (wpAny_bind fin))
    | exact wpAny_bind fin
def rIxW (K : PySem.W.Frag) : R2 := fun x y H Q => rIx K x y H Q ∨ rIxDict x y H Q
theorem ix_any (hu : X.A.units + 1 < cLine) : IxR X (rIxW X.K) := ix_seq.or (ix_dict hu)
def ixW (x y : W) (S : Sto) : R W := match x with
  | .tup ws => match y with
    | .int i => match atI ws i with
      | some w => .ok w S
      | none => .no
    | _ => .no
  | .rol ws => match y with
    | .int i => match atI ws i with
      | some w => .ok w S
      | none => .no
    | _ => .no
  | .str z => match y with
    | .int i => if z.length ≤ 1000000 then (match atI z.cps.toList i with
      | some c => .ok (.str ⟨#[c]⟩) S
      | none => .no) else .no
    | _ => .no
  | .loc n => match S[n]? with
    | some (.lst ws) => match y with
      | .int i => match atI ws i with
        | some w => .ok w S
        | none => .no
      | _ => .no
    | some (.dct kvs) => match W.key? y with
      | some q => match dlook kvs q with
        | some w => .ok w S
        | none => .no
      | none => .no
    | _ => .no
  | _ => .no
theorem atI_rel {f : List Addr} {H : Hp} {ws : List W} {vs : List V} {i : Int} {w : W} (r : Rpl X.K X.mg f H ws vs) (e : atI ws i = some w) : ∃ v, atI vs i = some v ∧ Rp X.K X.mg f H w v := by
  unfold atI at e ⊢
  rw [r.length]
  cases e1 : ixN ws.length i with
  | none => rw [e1] at e; cases e
  | some j =>
    rw [e1] at e
    exact r.get e
theorem snd_ix : Snd2 X Z (rIxW X.K) ixW := by
  intro f H st S w v w' v' Q s h h' p
  unfold ixW at p
  split at p
  · split at p
    · split at p
      · rename_i w1 e
        obtain ⟨a, vs, rfl, q, r⟩ := h.tupE
        obtain ⟨v1, e1, r1⟩ := atI_rel r e
        exact .inl (.inr (.inl ⟨a, vs, _, v1, rfl, h'.intE, SqT.of q, e1, p.fin s r1⟩))
      · exact p.elim
    · exact p.elim
  · split at p
    · split at p
      · rename_i w1 e
        obtain ⟨a, vs, rfl, q, r⟩ := h.rolE
        obtain ⟨v1, e1, r1⟩ := atI_rel r e
        exact .inl (.inl ⟨a, vs, _, v1, rfl, h'.intE, q.seq, e1, p.fin s r1⟩)
      · exact p.elim
    · exact p.elim
  · split at p
    · split at p
      · rename_i z
        split at p
        · rename_i c e
          exact .inl (.inr (.inr ⟨_, _, c, h.strE, h'.intE, mill z, e, p.fin s Rp.str'⟩))
        · exact p.elim
      · exact p.elim
    · exact p.elim
  · split at p
    · rename_i ws e0
      split at p
      · split at p
        · rename_i w1 e
          obtain ⟨a, vs, rfl, _, q, r⟩ := lstAt s h e0
          obtain ⟨v1, e1, r1⟩ := atI_rel r e
          exact .inl (.inl ⟨a, vs, _, v1, rfl, h'.intE, SqL.of q, e1, p.fin s r1⟩)
        · exact p.elim
      · exact p.elim
    · rename_i kvs e0
      split at p
      · rename_i k e1
        split at p
        · rename_i w1 e
          obtain ⟨a, vs, rfl, _, q, r⟩ := dctAt s h e0
          rcases r.val k with ⟨z1, z2⟩ | ⟨w2, v2, z1, z2, r2⟩
          · rw [z1] at e; cases e
          · rw [z1] at e; cases e
            refine .inr ⟨a, v2, rfl, ?_, p.fin s r2⟩
            rw [key_ok h' e1, ← z2]; exact DGet.k q
        · exact p.elim
      · exact p.elim
    · exact p.elim
  · exact p.elim

/-! ### slices -/
abbrev OV := En → Sto → R (Option Int)
def oNone : OV := fun _ S => .ok none S
def oSome (m : EV) : OV := fun s S => (m s S).bind fun w S => match w with
  | .int i => .ok (some i) S
  | _ => .no
abbrev tO (X : Cx) (Z : WX) (m : OV) : TO := tG X Z (fun _ _ a b => b = a) m
def eSl (F : W → Option Int → Option Int → Sto → R W) (a : EV) (l u : OV) : EV := fun s S => (a s S).bind fun x S => (l s S).bind fun i S => (u s S).bind fun j S => F x i j S
def cutW (xs : List W) (lo hi : Option Int) : List W := (xs.drop (HT.sIx xs.length 0 lo)).take (HT.sIx xs.length xs.length hi - HT.sIx xs.length 0 lo)
theorem cut_rel {f : List Addr} {H : Hp} {ws : List W} {vs : List V} (r : Rpl X.K X.mg f H ws vs) (lo hi : Option Int) : Rpl X.K X.mg f H (cutW ws lo hi) (cutV vs lo hi) := by
  unfold cutW cutV
  rw [r.length]
  exact (r.drop _).take _
def slW (x : W) (lo hi : Option Int) (S : Sto) : R W := match x with
  | .str z => if z.length ≤ 1000000 then .ok (.str (cutS z lo hi)) S else .no
  | .tup ws => .ok (.tup (cutW ws lo hi)) S
  | .rol ws => .ok (.loc S.length) (S ++ [.lst (cutW ws lo hi)])
  | .loc n => match S[n]? with
    | some (.lst ws) => .ok (.loc S.length) (S ++ [.lst (cutW ws lo hi)])
    | _ => .no
  | _ => .no
def rSlW (K : PySem.W.Frag) : V → Option Int → Option Int → Hp → VK → Prop := fun x lo hi H Q => rSlS x lo hi H Q ∨ rSlA K x lo hi H Q ∨ rSlL K x lo hi H Q
theorem sl_any : SlR X (rSlW X.K) := (sl_str (X := X)).or (sl_tupA.or sl_list)
theorem cut_whole {ws : List W} {lo hi : Option Int} (h : HT.sIx ws.length 0 lo = 0 ∧ HT.sIx ws.length ws.length hi = ws.length) : cutW ws lo hi = ws := by
  unfold cutW
  rw [h.1, h.2]
  simp
theorem snd_sl {f : List Addr} {H : Hp} {st : L2.St} {S : Sto} {w : W} {v : V} {lo hi : Option Int} {Q : VK} (s : RelS X.K X.mg f H S) (h : Rp X.K X.mg f H w v) (p : post X Z (Rp X.K X.mg) st f H (slW w lo hi S) Q) : rSlW X.K v lo hi H Q := by
  unfold slW at p
  split at p
  · split at p
    · rename_i z
      exact .inl ⟨_, h.strE, mill z, p.fin s Rp.str'⟩
    · exact p.elim
  · obtain ⟨a, vs, rfl, q, r⟩ := h.tupE
    refine .inr (.inl ⟨a, vs, rfl, SqT.of q, fun e => ?_, fun _ b hb => p.newT s (cut_rel r lo hi) hb⟩)
    rw [r.length] at e
    rw [cut_whole e] at p
    exact p.fin s (.tup' q r)
  · obtain ⟨a, vs, rfl, q, r⟩ := h.rolE
    exact .inr (.inr ⟨a, vs, rfl, q.seq, fun b hb => p.newL s (cut_rel r lo hi) hb⟩)
  · split at p
    · rename_i e0
      obtain ⟨a, vs, rfl, _, q, r⟩ := lstAt s h e0
      exact .inr (.inr ⟨a, vs, rfl, SqL.of q, fun b hb => p.newL s (cut_rel r lo hi) hb⟩)
    · exact p.elim
  · exact p.elim
theorem o_none : PO X none (tO X Z oNone) := by
  refine ⟨fun pins s st H Q I h => po_none.run pins s st H Q I ?_⟩
  obtain ⟨f, s, S, hE, hS, hp⟩ := h
  exact hp.fin hS rfl
theorem o_some {e : Expr} {m : EV} (h : PE X e (tI X Z m)) : PO X (some e) (tO X Z (oSome m)) := by
  refine ⟨fun pins s st H Q I q => (po_some h).run pins s st H Q I ?_⟩
  obtain ⟨f, s, S, hE, hS, hp⟩ := q
  refine ⟨f, s, S, hE, hS, hp.seq fun f1 H1 w1 S1 v1 k1 s1 p1 hp1 => ?_⟩
  split at hp1
  · exact ⟨_, p1.intE, hp1.fin s1 rfl⟩
  · exact hp1.elim
theorem e_slice {e : Expr} {lo hi : Option Expr} {pos p2 : Pos} {m : EV} {ml mu : OV} (he : PE X e (tI X Z m)) (hl : PO X lo (tO X Z ml)) (hu : PO X hi (tO X Z mu)) : PE X (.Subscript e (.Slice lo hi none p2) pos) (tI X Z (eSl slW m ml mu)) := by
  refine (pe_slice sl_any he hl hu).imp ?_
  rintro st H Q ⟨f, s, S, hE, hS, hp⟩
  refine ⟨f, s, S, hE, hS, hp.seq fun f1 H1 w1 S1 v1 k1 s1 p1 hp1 => ⟨f1, s, S1, hE.mono k1, s1, hp1.seq fun f2 H2 w2 S2 v2 k2 s2 p2 hp2 => ⟨f2, s, S2, hE.mono (k1.trans k2), s2, hp2.seq fun f3 H3 w3 S3 v3 k3 s3 p3 hp3 => ?_⟩⟩⟩
  obtain rfl : v2 = w2 := p2
  obtain rfl : v3 = w3 := p3
  exact snd_sl s3 (p1.mono (k2.trans k3)) hp3

/-! ### truth -/
def truW (w : W) (S : Sto) : R Bool := match w with
  | .non => .ok false S
  | .bl b => .ok b S
  | .int i => .ok (i != 0) S
  | .str y => if y.length ≤ 1000000 then .ok ((y.length : Int) != 0) S else .no
  | .tup ws => .ok (!ws.isEmpty) S
  | .rol ws => .ok (!ws.isEmpty) S
  | .loc n => match S[n]? with
    | some (.lst ws) => .ok (!ws.isEmpty) S
    | some (.dct kvs) => .ok (!kvs.isEmpty) S
    | _ => .no
  | _ => .no
def bTru (m : EV) : BV := fun s S => (m s S).bind truW
theorem empty_rel {f : List Addr} {H : Hp} {ws : List W} {vs : List V} (r : Rpl X.K X.mg f H ws vs) : vs.isEmpty = ws.isEmpty := by
  have := r.length
  cases ws <;> cases vs <;> first | rfl | (simp at this)
theorem t_val {e : Expr} {m : EV} (h : PE X e (tI X Z m)) (he : ∀ whole, isTrue e X.env whole = (do let v ← whole; standAt e.pos; holding [v] (truthy v)) := by intro _; rfl) : PT X e (tT X Z (bTru m)) := by
  refine (pt_truth h he).imp ?_
  rintro st H Q ⟨f, s, S, hE, hS, hp⟩
  refine ⟨f, s, S, hE, hS, hp.seq fun f1 H1 w S1 v k1 s1 p1 hp1 => ?_⟩
  unfold truW at hp1
  split at hp1
  · rw [p1.nonE]; exact ⟨false, rfl, hp1.fin s1 rfl⟩
  · rw [p1.blE]; exact ⟨_, rfl, hp1.fin s1 rfl⟩
  · rw [p1.intE]; exact ⟨_, rfl, hp1.fin s1 rfl⟩
  · split at hp1
    · rename_i z
      rw [p1.strE]; exact ⟨_, ⟨mill z, rfl⟩, hp1.fin s1 rfl⟩
    · exact hp1.elim
  · obtain ⟨a, vs, rfl, q, r⟩ := p1.tupE
    exact ⟨_, .inr (.inl ⟨vs, SqT.of q, rfl⟩), hp1.fin s1 (by rw [empty_rel r])⟩
  · obtain ⟨a, vs, rfl, q, r⟩ := p1.rolE
    exact ⟨_, .inl ⟨vs, q.seq, rfl⟩, hp1.fin s1 (by rw [empty_rel r])⟩
  · split at hp1
    · rename_i e0
      obtain ⟨a, vs, rfl, _, q, r⟩ := lstAt s1 p1 e0
      exact ⟨_, .inl ⟨vs, SqL.of q, rfl⟩, hp1.fin s1 (by rw [empty_rel r])⟩
    · rename_i kvs e0
      obtain ⟨a, vs, rfl, _, q, r⟩ := dctAt s1 p1 e0
      refine ⟨_, .inr (.inr ⟨vs, q, rfl⟩), hp1.fin s1 ?_⟩
      have := r.length
      cases kvs <;> cases vs <;> first | rfl | (simp at this)
    · exact hp1.elim
  · exact hp1.elim

/-! ### builtins -/
/-- how many -/
def lenO (S : Sto) : W → Option Nat
  | .str y => if y.length ≤ 1000000 then some y.length else none
  | .tup ws => some ws.length
  | .rol ws => some ws.length
  | .loc n => match S[n]? with
    | some (.lst ws) => some ws.length
    | some (.dct kvs) => some kvs.length
    | _ => none
  | _ => none
def lenW (ws : List W) (S : Sto) : R W := match ws with
  | [w] => match lenO S w with
    | some n => .ok (.int n) S
    | none => .no
  | _ => .no
theorem Rpl.oneE {f : List Addr} {H : Hp} {w : W} {vs : List V} (r : Rpl X.K X.mg f H [w] vs) : ∃ v, vs = [v] ∧ Rp X.K X.mg f H w v := by
  unfold Rpl at r
  obtain ⟨v, t, rfl, h, z⟩ := r
  unfold Rpl at z
  subst z
  exact ⟨v, rfl, h⟩
theorem Rpl.twoE {f : List Addr} {H : Hp} {w w' : W} {vs : List V} (r : Rpl X.K X.mg f H [w, w'] vs) : ∃ v v', vs = [v, v'] ∧ Rp X.K X.mg f H w v ∧ Rp X.K X.mg f H w' v' := by
  unfold Rpl at r
  obtain ⟨v, t, rfl, h, z⟩ := r
  obtain ⟨v', rfl, h'⟩ := Rpl.oneE z
  exact ⟨v, v', rfl, h, h'⟩
def rLenW (K : PySem.W.Frag) : List V → Hp → VK → Prop := fun xs H Q => (∃ x n, xs = [x] ∧ LenV K x H n ∧ Q (.int n) H) ∨ ∃ a kvs, xs = [V.ref a] ∧ H a = some (.dK kvs) ∧ Q (.int kvs.length) H
theorem call_lenW : CallR X (.builtin "len") (rLenW X.K) := call_len.or call_lenD
theorem snd_len : SndL X Z (rLenW X.K) lenW := by
  intro f H st S ws vs Q s r p
  unfold lenW at p
  split at p
  · rename_i w
    obtain ⟨v, rfl, h⟩ := r.oneE
    split at p
    · rename_i n e
      unfold lenO at e
      split at e
      · split at e
        · rename_i z
          cases e
          exact .inl ⟨_, _, rfl, by rw [h.strE]; exact ⟨mill z, rfl⟩, p.fin s Rp.int'⟩
        · cases e
      · cases e
        obtain ⟨a, us, rfl, q, r⟩ := h.tupE
        exact .inl ⟨_, us.length, rfl, .inr ⟨us, SqT.of q, rfl⟩, by rw [r.length]; exact p.fin s Rp.int'⟩
      · cases e
        obtain ⟨a, us, rfl, q, r⟩ := h.rolE
        exact .inl ⟨_, us.length, rfl, .inl ⟨us, q.seq, rfl⟩, by rw [r.length]; exact p.fin s Rp.int'⟩
      · split at e
        · rename_i e0
          cases e
          obtain ⟨a, us, rfl, _, q, r⟩ := lstAt s h e0
          exact .inl ⟨_, us.length, rfl, .inl ⟨us, SqL.of q, rfl⟩, by rw [r.length]; exact p.fin s Rp.int'⟩
        · rename_i e0
          cases e
          obtain ⟨a, us, rfl, _, q, r⟩ := dctAt s h e0
          exact .inr ⟨a, us, rfl, q, by rw [r.length]; exact p.fin s Rp.int'⟩
        · cases e
      · cases e
    · exact p.elim
  · exact p.elim
/-- the items of a list, a tuple, a dict's keys -/
def itemsO (S : Sto) : W → Option (List W)
  | .tup ws => some ws
  | .rol ws => some ws
  | .loc n => match S[n]? with
    | some (.lst ws) => some ws
    | some (.dct kvs) => some (kvs.map (·.1))
    | _ => none
  | _ => none
def listW (ws : List W) (S : Sto) : R W := match ws with
  | [w] => match itemsO S w with
    | some us => .ok (.loc S.length) (S ++ [.lst us])
    | none => .no
  | _ => .no
def rListW (K : PySem.W.Frag) : List V → Hp → VK → Prop := fun xs H Q => (∃ p ys, xs = [.ref p] ∧ (SqL K H p ys ∨ SqT K H p ys) ∧ ∀ l, H l = none → Q (.ref l) (upd H l (.lst ys))) ∨
  ∃ (a : Addr) (kvs : List (Key × V)), xs = [.ref a] ∧ Rd H a (.dK kvs) ∧ ∀ p, H p = none → Q (.ref p) (upd H p (.lst (kvs.map fun kv => kV kv.1)))
theorem call_listW (hc : X.calm = true) : CallR X (.type "list") (rListW X.K) := call_list_of.or (call_listD hc)
theorem snd_list : SndL X Z (rListW X.K) listW := by
  intro f H st S ws vs Q s r p
  unfold listW at p
  split at p
  · rename_i w
    obtain ⟨v, rfl, h⟩ := r.oneE
    split at p
    · rename_i us e
      unfold itemsO at e
      split at e
      · cases e
        obtain ⟨a, vs, rfl, q, r⟩ := h.tupE
        exact .inl ⟨a, vs, rfl, .inr (SqT.of q), fun l hl => p.newL s r hl⟩
      · cases e
        obtain ⟨a, vs, rfl, q, r⟩ := h.rolE
        exact .inl ⟨a, vs, rfl, .inl q.seq, fun l hl => p.newL s r hl⟩
      · split at e
        · rename_i e0
          cases e
          obtain ⟨a, vs, rfl, _, q, r⟩ := lstAt s h e0
          exact .inl ⟨a, vs, rfl, .inl (SqL.of q), fun l hl => p.newL s r hl⟩
        · rename_i e0
          cases e
          obtain ⟨a, vs, rfl, _, q, r⟩ := dctAt s h e0
          exact .inr ⟨a, vs, rfl, .inl q, fun l hl => p.newL s r.keys hl⟩
        · cases e
      · cases e
    · exact p.elim
  · exact p.elim
def tupleW (ws : List W) (S : Sto) : R W := match ws with
  | [.tup us] => .ok (.tup us) S
  | [w] => match getL S w with
    | some us => .ok (.tup us) S
    | none => .no
  | _ => .no
theorem snd_tuple : SndL X Z (fun xs H Q => ∃ p ys, xs = [.ref p] ∧ ((SqL X.K H p ys ∧ ∀ l, H l = none → Q (.ref l) (upd H l (.tup ys))) ∨ (SqT X.K H p ys ∧ Q (.ref p) H))) tupleW := by
  intro f H st S ws vs Q s r p
  unfold tupleW at p
  split at p
  · obtain ⟨v, rfl, h⟩ := r.oneE
    obtain ⟨a, vs, rfl, q, r⟩ := h.tupE
    exact ⟨a, vs, rfl, .inr ⟨SqT.of q, p.fin s (.tup' q r)⟩⟩
  · obtain ⟨v, rfl, h⟩ := r.oneE
    split at p
    · rename_i us e
      obtain ⟨a, vs, rfl, q, r⟩ := getL_at s h e
      exact ⟨a, vs, rfl, .inl ⟨q, fun l hl => p.newT s r hl⟩⟩
    · exact p.elim
  · exact p.elim
/-! max, min of two intsOf; int; abs -/
def max2W (ws : List W) (S : Sto) : R W := match ws with
  | [.int i, .int j] => .ok (.int (if j > i then j else i)) S
  | _ => .no
def min2W (ws : List W) (S : Sto) : R W := match ws with
  | [.int i, .int j] => .ok (.int (if j < i then j else i)) S
  | _ => .no
theorem snd_max2 : SndL X Z (fun xs H Q => ∃ i j, xs = [.int i, .int j] ∧ Q (.int (if j > i then j else i)) H) max2W := by
  intro f H st S ws vs Q s r p
  unfold max2W at p
  split at p
  · obtain ⟨v, v', rfl, h, h'⟩ := r.twoE
    rw [h.intE, h'.intE]
    exact ⟨_, _, rfl, p.fin s Rp.int'⟩
  · exact p.elim
theorem snd_min2 : SndL X Z (fun xs H Q => ∃ i j, xs = [.int i, .int j] ∧ Q (.int (if j < i then j else i)) H) min2W := by
  intro f H st S ws vs Q s r p
  unfold min2W at p
  split at p
  · obtain ⟨v, v', rfl, h, h'⟩ := r.twoE
    rw [h.intE, h'.intE]
    exact ⟨_, _, rfl, p.fin s Rp.int'⟩
  · exact p.elim
def intW (ws : List W) (S : Sto) : R W := match ws with
  | [.int i] => .ok (.int i) S
  | [.bl k] => .ok (.int (if k then 1 else 0)) S
  | _ => .no
theorem snd_int : SndL X Z (fun xs H Q => (∃ i, xs = [.int i] ∧ Q (.int i) H) ∨ ∃ k, xs = [.bl k] ∧ Q (.int (if k then 1 else 0)) H) intW := by
  intro f H st S ws vs Q s r p
  unfold intW at p
  split at p
  · obtain ⟨v, rfl, h⟩ := r.oneE
    rw [h.intE]
    exact .inl ⟨_, rfl, p.fin s Rp.int'⟩
  · obtain ⟨v, rfl, h⟩ := r.oneE
    rw [h.blE]
    exact .inr ⟨_, rfl, p.fin s Rp.int'⟩
  · exact p.elim
/-! all, any, sum, max, min of a list -/
def boolsOf : List W → Option (List Bool)
  | [] => some []
  | .bl b :: ws => (boolsOf ws).map (b :: ·)
  | _ :: _ => none
def intsOf : List W → Option (List Int)
  | [] => some []
  | .int i :: ws => (intsOf ws).map (i :: ·)
  | _ :: _ => none
def strsOf : List W → Option (List Str)
  | [] => some []
  | .str i :: ws => (strsOf ws).map (i :: ·)
  | _ :: _ => none
theorem boolsOf_ok {f : List Addr} {H : Hp} : ∀ {ws : List W} {vs : List V} {bs : List Bool}, Rpl X.K X.mg f H ws vs → boolsOf ws = some bs → vs = bs.map V.bl
  | [], vs, bs, h, e => by unfold Rpl at h; subst h; cases e; rfl
  | w :: ws, vs, bs, h, e => by
    unfold Rpl at h
    obtain ⟨v, t, rfl, q, z⟩ := h
    cases w <;> try (cases e; done)
    unfold boolsOf at e
    obtain ⟨r, e1, rfl⟩ := Option.map_eq_some_iff.mp e
    rw [q.blE, boolsOf_ok z e1]; rfl
theorem intsOf_ok {f : List Addr} {H : Hp} : ∀ {ws : List W} {vs : List V} {bs : List Int}, Rpl X.K X.mg f H ws vs → intsOf ws = some bs → vs = bs.map V.int
  | [], vs, bs, h, e => by unfold Rpl at h; subst h; cases e; rfl
  | w :: ws, vs, bs, h, e => by
    unfold Rpl at h
    obtain ⟨v, t, rfl, q, z⟩ := h
    cases w <;> try (cases e; done)
    unfold intsOf at e
    obtain ⟨r, e1, rfl⟩ := Option.map_eq_some_iff.mp e
    rw [q.intE, intsOf_ok z e1]; rfl
theorem strsOf_ok {f : List Addr} {H : Hp} : ∀ {ws : List W} {vs : List V} {bs : List Str}, Rpl X.K X.mg f H ws vs → strsOf ws = some bs → vs = bs.map V.str
  | [], vs, bs, h, e => by unfold Rpl at h; subst h; cases e; rfl
  | w :: ws, vs, bs, h, e => by
    unfold Rpl at h
    obtain ⟨v, t, rfl, q, z⟩ := h
    cases w <;> try (cases e; done)
    unfold strsOf at e
    obtain ⟨r, e1, rfl⟩ := Option.map_eq_some_iff.mp e
    rw [q.strE, strsOf_ok z e1]; rfl
def allW (ws : List W) (S : Sto) : R W := match ws with
  | [w] => match getL S w with
    | some us => match boolsOf us with
      | some bs => .ok (.bl (bs.all id)) S
      | none => .no
    | none => .no
  | _ => .no
def anyW (ws : List W) (S : Sto) : R W := match ws with
  | [w] => match getL S w with
    | some us => match boolsOf us with
      | some bs => .ok (.bl (bs.any id)) S
      | none => .no
    | none => .no
  | _ => .no
def sumW (ws : List W) (S : Sto) : R W := match ws with
  | [w] => match getL S w with
    | some us => match intsOf us with
      | some bs => .ok (.int bs.sum) S
      | none => .no
    | none => .no
  | _ => .no
theorem snd_all : SndL X Z (rAll X.K) allW := by
  intro f H st S ws vs Q s r p
  unfold allW at p
  split at p
  · obtain ⟨v, rfl, h⟩ := r.oneE
    split at p
    · rename_i us e
      split at p
      · rename_i bs e1
        obtain ⟨a, vs, rfl, q, r⟩ := getL_at s h e
        rw [boolsOf_ok r e1] at q
        exact ⟨a, bs, rfl, q, p.fin s Rp.bl'⟩
      · exact p.elim
    · exact p.elim
  · exact p.elim
theorem snd_any : SndL X Z (rAny X.K) anyW := by
  intro f H st S ws vs Q s r p
  unfold anyW at p
  split at p
  · obtain ⟨v, rfl, h⟩ := r.oneE
    split at p
    · rename_i us e
      split at p
      · rename_i bs e1
        obtain ⟨a, vs, rfl, q, r⟩ := getL_at s h e
        rw [boolsOf_ok r e1] at q
        exact ⟨a, bs, rfl, q, p.fin s Rp.bl'⟩
      · exact p.elim
    · exact p.elim
  · exact p.elim
theorem snd_sum : SndL X Z (rSum X.K) sumW := by
  intro f H st S ws vs Q s r p
  unfold sumW at p
  split at p
  · obtain ⟨v, rfl, h⟩ := r.oneE
    split at p
    · rename_i us e
      split at p
      · rename_i bs e1
        obtain ⟨a, vs, rfl, q, r⟩ := getL_at s h e
        rw [intsOf_ok r e1] at q
        exact ⟨a, bs, rfl, q, p.fin s Rp.int'⟩
      · exact p.elim
    · exact p.elim
  · exact p.elim
/-! isinstance -/
def tyO (S : Sto) : W → Option String
  | .non => some "NoneType"
  | .bl _ => some "bool"
  | .int _ => some "int"
  | .str _ => some "str"
  | .tup _ => some "tuple"
  | .loc n => match S[n]? with
    | some (.lst _) => some "list"
    | some (.dct _) => some "dict"
    | _ => none
  | _ => none
def isiW (ws : List W) (S : Sto) : R W := match ws with
  | [w, .ty c] => match tyO S w with
    | some t => match kitB t c with
      | some b => .ok (.bl b) S
      | none => .no
    | none => .no
  | [w, .tup cs] => match tyO S w with
    | some t => match cs with
      | [.ty c1, .ty c2] => match kitB t c1, kitB t c2 with
        | some b1, some b2 => .ok (.bl (b1 || b2)) S
        | _, _ => .no
      | _ => .no
    | none => .no
  | _ => .no
end
end Ev

set_option Elab.async false
set_option linter.all false
set_option maxRecDepth 100000
/-! Ev5: isinstance, methods of lists, texts, dicts; dict(..); stores. -/
namespace Ev
open PySem L2
section
variable {X : Cx} {Z : WX}
theorem ty_ok {f : List Addr} {H : Hp} {S : Sto} {w : W} {v : V} {t : String} (s : RelS X.K X.mg f H S) (h : Rp X.K X.mg f H w v) (e : tyO S w = some t) : TyX X.K H v (.type t) := by
  cases w with
  | non => cases e; rw [h.nonE]; exact .base .non
  | bl b => cases e; rw [h.blE]; exact .base (.bl b)
  | int b => cases e; rw [h.intE]; exact .base (.int b)
  | str b => cases e; rw [h.strE]; exact .base (.str b)
  | tup ws =>
    cases e
    obtain ⟨a, vs, rfl, q, r⟩ := h.tupE
    exact .base (.tup q)
  | loc n =>
    unfold tyO at e
    dsimp only at e
    split at e
    · rename_i e0
      cases e
      obtain ⟨a, vs, rfl, _, q, r⟩ := lstAt s h e0
      exact .base (.lst q)
    · rename_i e0
      cases e
      obtain ⟨a, vs, rfl, _, q, r⟩ := dctAt s h e0
      exact .base (.dK q)
    · cases e
  | _ => cases e
def rIsiW (K : PySem.W.Frag) : List V → Hp → VK → Prop := fun xs H Q => rIsi K xs H Q ∨ rIsiT K xs H Q
theorem call_isiW : CallR X (.builtin "isinstance") (rIsiW X.K) := call_isi.or call_isiT
theorem kit_or {K : PySem.W.Frag} {t : Value} {a b : String} {x y : Bool} (h1 : PySem.W.kitOne K t (.type a) = some x) (h2 : PySem.W.kitOne K t (.type b) = some y) : PySem.W.kitAny K t [.type a, .type b] = some (x || y) := by
  unfold PySem.W.kitAny
  rw [h1]
  cases x with
  | true => rfl
  | false =>
    show PySem.W.kitAny K t [.type b] = some (false || y)
    unfold PySem.W.kitAny
    rw [h2]
    cases y <;> rfl
theorem snd_isi : SndL X Z (rIsiW X.K) isiW := by
  intro f H st S ws vs Q s r p
  unfold isiW at p
  split at p
  · obtain ⟨v, v', rfl, h, h'⟩ := r.twoE
    split at p
    · rename_i t e
      split at p
      · rename_i b e1
        rw [h'.tyE]
        exact .inl ⟨_, _, _, _, b, rfl, .ty _, ty_ok s h e, kit_ty e1, p.fin s Rp.bl'⟩
      · exact p.elim
    · exact p.elim
  · obtain ⟨v, v', rfl, h, h'⟩ := r.twoE
    split at p
    · rename_i t e
      split at p
      · split at p
        · rename_i b1 b2 e1 e2
          obtain ⟨a, us, rfl, q, r⟩ := h'.tupE
          obtain ⟨u1, u2, rfl, h1, h2⟩ := r.twoE
          rw [h1.tyE, h2.tyE] at q
          exact .inr ⟨_, a, _, _, _, _, rfl, q, .cons (.ty _) (.cons (.ty _) .nil), ty_ok s h e, kit_or (kit_ty e1) (kit_ty e2), p.fin s Rp.bl'⟩
        · exact p.elim
      · exact p.elim
    · exact p.elim
  · exact p.elim

/-! ### methods of built-in types -/
def tyOkW (T : String) (w : W) (S : Sto) : Bool := match w with
  | .str _ => T == "str"
  | .rol _ => T == "list"
  | .loc n => match S[n]? with
    | some (.lst _) => T == "list"
    | some (.dct _) => T == "dict"
    | _ => false
  | _ => false
theorem tyOk_ok {f : List Addr} {H : Hp} {S : Sto} {w : W} {v : V} {T : String} (s : RelS X.K X.mg f H S) (h : Rp X.K X.mg f H w v) (e : tyOkW T w S = true) : tyV X.K T v H := by
  cases w with
  | str b => rw [h.strE]; exact beq_iff_eq.mp e
  | rol ws =>
    obtain ⟨a, vs, rfl, q, r⟩ := h.rolE
    exact .inl ⟨beq_iff_eq.mp e, vs, q.seq⟩
  | loc n =>
    unfold tyOkW at e
    dsimp only at e
    split at e
    · rename_i e0
      obtain ⟨a, vs, rfl, _, q, r⟩ := lstAt s h e0
      exact .inl ⟨beq_iff_eq.mp e, vs, SqL.of q⟩
    · rename_i e0
      obtain ⟨a, vs, rfl, _, q, r⟩ := dctAt s h e0
      exact .inr (.inr (.inl ⟨beq_iff_eq.mp e, .inl ⟨vs, q⟩⟩))
    · cases e
  | _ => cases e
def eM (T : String) (F : W → List W → Sto → R W) (a : EV) (r : AV) : EV := fun s S => (a s S).bind fun x S => if tyOkW T x S = true then (r s S).bind fun xs S => F x xs S else .no
def SndM (X : Cx) (Z : WX) (r : V → List V → Hp → VK → Prop) (F : W → List W → Sto → R W) : Prop := ∀ {f H st S w v ws vs Q}, RelS X.K X.mg f H S → Rp X.K X.mg f H w v → Rpl X.K X.mg f H ws vs → post X Z (Rp X.K X.mg) st f H (F w ws S) Q → r v vs H Q
theorem e_bm {o e : Expr} {es : List Expr} {name : Str} {apos cpos : Pos} {T id : String} {r : V → List V → Hp → VK → Prop} {F : W → List W → Sto → R W} {mo : EV} {mr : AV}
    (pa : PlainAttrs T) (slot : Slot T name id) (hty : typeOf (.builtin id) = pure (.type "method_descriptor")) (hm : MtR X id r) (hF : SndM X Z r F) (ho : PE X o (tI X Z mo)) (ha : PA X (e :: es) (tA X Z mr))
    (hbase : attributeBase o name X.env (eval o X.env) = eval o X.env := by rfl)
    (hfew : ((backTo cpos (starEach (e :: es) X.env)).all (fun x => !x.1) && (backToKw cpos (keywordEach [] X.env)).all (fun x => x.1.isSome)
      && decide ((e :: es).length + ([] : List Keyword).length + (if ([] : List Keyword).isEmpty then 0 else 1) < 30)) = true := by rfl)
    (hline : (apos.endLine == cpos.line) = true := by rfl) (hs : starEach (e :: es) X.env = (false, eval e X.env) :: starEach es X.env := by rfl) (hplain : (backTo cpos (starEach es X.env)).any (·.1) = false := by rfl) :
    PE X (.Call (.Attribute o name apos) (e :: es) [] cpos) (tI X Z (eM T F mo mr)) := by
  refine (pe_bm pa slot hty hm ho ha hbase hfew hline hs hplain).imp ?_
  rintro st H Q ⟨f, s, S, hE, hS, hp⟩
  refine ⟨f, s, S, hE, hS, hp.seq fun f1 H1 w1 S1 v1 k1 s1 p1 hp1 => ?_⟩
  split at hp1
  · rename_i z
    exact ⟨tyOk_ok s1 p1 z, f1, s, S1, hE.mono k1, s1, hp1.seq fun f2 H2 w2 S2 v2 k2 s2 p2 hp2 => hF s2 (p1.mono k2) p2 hp2⟩
  · exact hp1.elim
theorem e_bm0 {o : Expr} {name : Str} {apos cpos : Pos} {T id : String} {r : V → List V → Hp → VK → Prop} {F : W → List W → Sto → R W} {mo : EV}
    (pa : PlainAttrs T) (slot : Slot T name id) (hty : typeOf (.builtin id) = pure (.type "method_descriptor")) (hm : MtR X id r) (hF : SndM X Z r F) (ho : PE X o (tI X Z mo))
    (hbase : attributeBase o name X.env (eval o X.env) = eval o X.env := by rfl) (hline : (apos.endLine == cpos.line) = true := by rfl) : PE X (.Call (.Attribute o name apos) [] [] cpos) (tI X Z (eM T F mo aNil)) := by
  refine (pe_bm0 pa slot hty hm ho hbase hline).imp ?_
  rintro st H Q ⟨f, s, S, hE, hS, hp⟩
  refine ⟨f, s, S, hE, hS, hp.seq fun f1 H1 w1 S1 v1 k1 s1 p1 hp1 => ?_⟩
  split at hp1
  · rename_i z
    exact ⟨tyOk_ok s1 p1 z, hF s1 p1 Rpl.nil hp1⟩
  · exact hp1.elim
/-- a list is rewritten -/
theorem post.updL {st : St} {f : List Addr} {H : Hp} {S : Sto} {n : Nat} {a : Addr} {w : W} {v : V} {ws : List W} {vs : List V} {Q : VK} (h : post X Z (Rp X.K X.mg) st f H (.ok w (S.set n (.lst ws))) Q) (s : RelS X.K X.mg f H S) (ha : f[n]? = some a)
    (r : Rpl X.K X.mg f H ws vs) (rw' : Rp X.K X.mg f H w v) : Q v (upd H a (.lst vs)) := by
  have k : Kp f H f (upd H a (.lst vs)) := s.kpUpd (List.mem_of_getElem? ha) _
  exact h f _ _ k (s.upd ha ⟨vs, upd_same, r.mono k⟩) (rw'.mono k)
theorem post.updD {st : St} {f : List Addr} {H : Hp} {S : Sto} {n : Nat} {a : Addr} {w : W} {v : V} {ws : List (W × W)} {vs : List (Key × V)} {Q : VK} (h : post X Z (Rp X.K X.mg) st f H (.ok w (S.set n (.dct ws))) Q) (s : RelS X.K X.mg f H S) (ha : f[n]? = some a)
    (r : RpK X.K X.mg f H ws vs) (rw' : Rp X.K X.mg f H w v) : Q v (upd H a (.dK vs)) := by
  have k : Kp f H f (upd H a (.dK vs)) := s.kpUpd (List.mem_of_getElem? ha) _
  exact h f _ _ k (s.upd ha ⟨vs, upd_same, r.mono k⟩) (rw'.mono k)
theorem Rpl.dropLast {K : PySem.W.Frag} {mg : Str → Option Value} {f : List Addr} {H : Hp} {ws : List W} {vs : List V} (r : Rpl K mg f H ws vs) : Rpl K mg f H ws.dropLast vs.dropLast := by
  rw [List.dropLast_eq_take, List.dropLast_eq_take, r.length]
  exact r.take _
theorem Rpl.eraseIdx {K : PySem.W.Frag} {mg : Str → Option Value} {f : List Addr} {H : Hp} {ws : List W} {vs : List V} (r : Rpl K mg f H ws vs) (n : Nat) : Rpl K mg f H (ws.eraseIdx n) (vs.eraseIdx n) := by
  rw [List.eraseIdx_eq_take_drop_succ, List.eraseIdx_eq_take_drop_succ]
  exact (r.take _).append (r.drop _)
theorem Rpl.reverse {K : PySem.W.Frag} {mg : Str → Option Value} {f : List Addr} {H : Hp} : ∀ {ws : List W} {vs : List V}, Rpl K mg f H ws vs → Rpl K mg f H ws.reverse vs.reverse
  | [], _, h => by unfold Rpl at h; subst h; exact Rpl.nil
  | w :: ws, _, h => by
    unfold Rpl at h
    obtain ⟨v, t, rfl, q, z⟩ := h
    rw [List.reverse_cons, List.reverse_cons]
    exact (Rpl.reverse z).append (.cons q .nil)
def appendW (x : W) (xs : List W) (S : Sto) : R W := match x, xs with
  | .loc n, [w] => match S[n]? with
    | some (.lst ws) => if ws.length < 1000000 then .ok .non (S.set n (.lst (ws ++ [w]))) else .no
    | _ => .no
  | _, _ => .no
theorem snd_append : SndM X Z rAppend appendW := by
  intro f H st S w v ws vs Q s h r p
  unfold appendW at p
  split at p
  · split at p
    · rename_i e0
      split at p
      · rename_i z
        obtain ⟨a, us, rfl, ha, q, r'⟩ := lstAt s h e0
        obtain ⟨u, rfl, h'⟩ := r.oneE
        exact ⟨a, us, u, rfl, rfl, q, by rw [r'.length, sizeLine_eq]; omega, p.updL s ha (r'.append (.cons h' .nil)) Rp.non'⟩
      · exact p.elim
    · exact p.elim
  · exact p.elim
def extendW (x : W) (xs : List W) (S : Sto) : R W := match x, xs with
  | .loc n, [.loc m] => match S[n]?, S[m]? with
    | some (.lst ws), some (.lst zs) => if ws.length + zs.length ≤ 1000000 then .ok .non (S.set n (.lst (ws ++ zs))) else .no
    | _, _ => .no
  | _, _ => .no
theorem snd_extend : SndM X Z rExtend extendW := by
  intro f H st S w v ws vs Q s h r p
  unfold extendW at p
  split at p
  · split at p
    · rename_i e0 e1
      split at p
      · rename_i z
        obtain ⟨a, us, rfl, ha, q, r'⟩ := lstAt s h e0
        obtain ⟨u, rfl, h'⟩ := r.oneE
        obtain ⟨b, zs, rfl, _, q2, r2⟩ := lstAt s h' e1
        exact ⟨a, b, us, zs, rfl, rfl, q, q2, by rw [r'.length, r2.length]; exact mill z, p.updL s ha (r'.append r2) Rp.non'⟩
      · exact p.elim
    · exact p.elim
  · exact p.elim
def popW (x : W) (xs : List W) (S : Sto) : R W := match x, xs with
  | .loc n, [] => match S[n]? with
    | some (.lst ws) => match ws[ws.length - 1]? with
      | some w => .ok w (S.set n (.lst ws.dropLast))
      | none => .no
    | _ => .no
  | _, _ => .no
theorem snd_pop : SndM X Z rPop popW := by
  intro f H st S w v ws vs Q s h r p
  unfold popW at p
  split at p
  · split at p
    · rename_i e0
      split at p
      · rename_i w1 e1
        obtain ⟨a, us, rfl, ha, q, r'⟩ := lstAt s h e0
        obtain ⟨y, e2, ry⟩ := r'.get e1
        have : vs = [] := by have := r.length; simpa using this
        exact ⟨a, us, y, rfl, this, q, by rw [r'.length]; exact e2, p.updL s ha r'.dropLast ry⟩
      · exact p.elim
    · exact p.elim
  · exact p.elim
def popAtW (x : W) (xs : List W) (S : Sto) : R W := match x, xs with
  | .loc n, [.int i] => match S[n]? with
    | some (.lst ws) => if 0 ≤ i ∧ i < ws.length ∧ i < 1000000 then (match ws[i.toNat]? with
      | some w => .ok w (S.set n (.lst (ws.eraseIdx i.toNat)))
      | none => .no) else .no
    | _ => .no
  | _, _ => .no
theorem snd_popAt : SndM X Z rPopAt popAtW := by
  intro f H st S w v ws vs Q s h r p
  unfold popAtW at p
  split at p
  · split at p
    · rename_i e0
      split at p
      · rename_i z
        split at p
        · rename_i w1 e1
          obtain ⟨a, us, rfl, ha, q, r'⟩ := lstAt s h e0
          obtain ⟨u, rfl, h'⟩ := r.oneE
          obtain ⟨y, e2, ry⟩ := r'.get e1
          refine ⟨a, us, _, _, y, rfl, by rw [h'.intE], q, by omega, by omega, ?_, e2, p.updL s ha (r'.eraseIdx _) ry⟩
          rw [r'.length]
          unfold seqIndex?
          first
            | (simp [z.1, z.2.1]; done)
            | (simp; omega)
        · exact p.elim
      · exact p.elim
    · exact p.elim
  · exact p.elim
def reverseW (x : W) (xs : List W) (S : Sto) : R W := match x, xs with
  | .loc n, [] => match S[n]? with
    | some (.lst ws) => .ok .non (S.set n (.lst ws.reverse))
    | _ => .no
  | _, _ => .no
theorem snd_reverse : SndM X Z rReverse reverseW := by
  intro f H st S w v ws vs Q s h r p
  unfold reverseW at p
  split at p
  · split at p
    · rename_i e0
      obtain ⟨a, us, rfl, ha, q, r'⟩ := lstAt s h e0
      have : vs = [] := by have := r.length; simpa using this
      exact ⟨a, us, rfl, this, q, p.updL s ha r'.reverse Rp.non'⟩
    · exact p.elim
  · exact p.elim
def clearW (x : W) (xs : List W) (S : Sto) : R W := match x, xs with
  | .loc n, [] => match S[n]? with
    | some (.lst ws) => .ok .non (S.set n (.lst []))
    | _ => .no
  | _, _ => .no
theorem snd_clear : SndM X Z rClear clearW := by
  intro f H st S w v ws vs Q s h r p
  unfold clearW at p
  split at p
  · split at p
    · rename_i e0
      obtain ⟨a, us, rfl, ha, q, r'⟩ := lstAt s h e0
      have : vs = [] := by have := r.length; simpa using this
      exact ⟨a, us, rfl, this, q, p.updL s ha Rpl.nil Rp.non'⟩
    · exact p.elim
  · exact p.elim
/-! texts -/
def joinW (x : W) (xs : List W) (S : Sto) : R W := match x, xs with
  | .str a, [w] => match getL S w with
    | some us => match strsOf us with
      | some ys => if (ys.map (·.length)).sum + ys.length * a.length ≤ 1000000 then .ok (.str (Txt.join a ys)) S else .no
      | none => .no
    | none => .no
  | _, _ => .no
abbrev rJoin (K : PySem.W.Frag) : V → List V → Hp → VK → Prop := fun x xs H Q => ∃ a p, ∃ ys : List Str, x = .str a ∧ xs = [.ref p] ∧ (SqL K H p (ys.map V.str) ∨ SqT K H p (ys.map V.str)) ∧ (ys.map (·.length)).sum + ys.length * a.length ≤ 16777216 ∧ Q (.str (Txt.join a ys)) H
theorem snd_join : SndM X Z (rJoin X.K) joinW := by
  intro f H st S w v ws vs Q s h r p
  unfold joinW at p
  split at p
  · split at p
    · rename_i us e
      split at p
      · rename_i ys e1
        split at p
        · rename_i z
          obtain ⟨u, rfl, h'⟩ := r.oneE
          obtain ⟨a, vs, rfl, q, r⟩ := getL_at s h' e
          rw [strsOf_ok r e1] at q
          exact ⟨_, a, ys, h.strE, rfl, .inl q, by omega, p.fin s Rp.str'⟩
        · exact p.elim
      · exact p.elim
    · exact p.elim
  · exact p.elim
def sindexW (x : W) (xs : List W) (S : Sto) : R W := match x, xs with
  | .str a, [.str b] => match Builtin.Str.occurrences a b 0 a.length 1 with
    | i :: _ => .ok (.int (i : Nat)) S
    | [] => .no
  | _, _ => .no
theorem snd_sindex : SndM X Z (fun x xs H Q => ∃ a b i rest, x = .str a ∧ xs = [.str b] ∧ Builtin.Str.occurrences a b 0 a.length 1 = i :: rest ∧ Q (.int (i : Nat)) H) sindexW := by
  intro f H st S w v ws vs Q s h r p
  unfold sindexW at p
  split at p
  · split at p
    · rename_i e
      obtain ⟨u, rfl, h'⟩ := r.oneE
      exact ⟨_, _, _, _, h.strE, by rw [h'.strE], e, p.fin s Rp.int'⟩
    · exact p.elim
  · exact p.elim
/-! dicts -/
def rGet1 : V → List V → Hp → VK → Prop := fun x xs H Q => ∃ a y o, x = .ref a ∧ xs = [y] ∧ DGet H a y o ∧ Q (o.getD .non) H
theorem mt_get1 (hu : X.A.units + 1 < cLine) : MtR X "dict.get" rGet1 := by
  intro pins s st H x xs v us Q I rx rxs h
  obtain ⟨a, y, o, rfl, rfl, g, q⟩ := h
  obtain rfl : v = Value.ref a := rx
  cases rxs with
  | cons ry rt =>
    cases rt
    exact d_get1 hu I g ry fun w' s3 I3 rw' => ⟨_, H, I3, rw', q⟩
def rGet2 : V → List V → Hp → VK → Prop := fun x xs H Q => ∃ a y d o, x = .ref a ∧ xs = [y, d] ∧ DGet H a y o ∧ Q (o.getD d) H
theorem mt_get2 (hu : X.A.units + 1 < cLine) : MtR X "dict.get" rGet2 := by
  intro pins s st H x xs v us Q I rx rxs h
  obtain ⟨a, y, d, o, rfl, rfl, g, q⟩ := h
  obtain rfl : v = Value.ref a := rx
  cases rxs with
  | cons ry rt =>
    cases rt with
    | cons rd rt =>
      cases rt
      exact d_get2 hu I g ry rd fun w' s3 I3 rw' => ⟨_, H, I3, rw', q⟩
def getW (x : W) (xs : List W) (S : Sto) : R W := match x, xs with
  | .loc n, [k] => match S[n]? with
    | some (.dct kvs) => match W.key? k with
      | some q => .ok ((dlook kvs q).getD .non) S
      | none => .no
    | _ => .no
  | .loc n, [k, d] => match S[n]? with
    | some (.dct kvs) => match W.key? k with
      | some q => .ok ((dlook kvs q).getD d) S
      | none => .no
    | _ => .no
  | _, _ => .no
def rGetW : V → List V → Hp → VK → Prop := fun x xs H Q => rGet1 x xs H Q ∨ rGet2 x xs H Q
theorem mt_get (hu : X.A.units + 1 < cLine) : MtR X "dict.get" rGetW := (mt_get1 hu).or (mt_get2 hu)
theorem snd_get : SndM X Z rGetW getW := by
  intro f H st S w v ws vs Q s h r p
  unfold getW at p
  split at p
  · split at p
    · rename_i e0
      split at p
      · rename_i q e1
        obtain ⟨a, us, rfl, ha, hq, r'⟩ := dctAt s h e0
        obtain ⟨u, rfl, h'⟩ := r.oneE
        refine .inl ⟨a, u, valV us q, rfl, rfl, by rw [key_ok h' e1]; exact DGet.k hq, ?_⟩
        rcases r'.val q with ⟨z1, z2⟩ | ⟨w2, v2, z1, z2, r2⟩
        · rw [z2]; rw [z1] at p; exact p.fin s Rp.non'
        · rw [z2]; rw [z1] at p; exact p.fin s r2
      · exact p.elim
    · exact p.elim
  · split at p
    · rename_i e0
      split at p
      · rename_i q e1
        obtain ⟨a, us, rfl, ha, hq, r'⟩ := dctAt s h e0
        obtain ⟨u, u', rfl, h', h2⟩ := r.twoE
        refine .inr ⟨a, u, u', valV us q, rfl, rfl, by rw [key_ok h' e1]; exact DGet.k hq, ?_⟩
        rcases r'.val q with ⟨z1, z2⟩ | ⟨w2, v2, z1, z2, r2⟩
        · rw [z2]; rw [z1] at p; exact p.fin s h2
        · rw [z2]; rw [z1] at p; exact p.fin s r2
      · exact p.elim
    · exact p.elim
  · exact p.elim
/-! {} -/
def dnewW : EV := fun _ S => .ok (.loc S.length) (S ++ [.dct []])
theorem e_dnew {pos : Pos} : PE X (.Dict [] [] pos) (tI X Z dnewW) := by
  refine pe_dnewK.imp ?_
  rintro st H Q ⟨f, s, S, hE, hS, hp⟩
  intro p hn
  have k : Kp f H (f ++ [p]) (upd H p (.dK [])) := hS.kpNew hn _
  refine hp _ _ _ k (hS.new hn ⟨[], upd_same, by unfold RpK; rfl⟩) ?_
  unfold Rp
  exact ⟨p, rfl, at_new hS⟩
/-! dict(xs) of pairs, dict(d) -/
def pairsOf : List W → Option (List (W × Key × W))
  | [] => some []
  | .tup [k, w] :: ws => match W.key? k with
    | some q => (pairsOf ws).map ((k, q, w) :: ·)
    | none => none
  | _ :: _ => none
def dmerge (kvs : List (W × W)) (more : List (W × Key × W)) : List (W × W) := more.foldl (fun acc p => dput acc p.1 p.2.1 p.2.2) kvs
def dictW (ws : List W) (S : Sto) : R W := match ws with
  | [.loc n] => match S[n]? with
    | some (.lst us) => match pairsOf us with
      | some ps => .ok (.loc S.length) (S ++ [.dct (dmerge [] ps)])
      | none => .no
    | some (.dct kvs) => .ok (.loc S.length) (S ++ [.dct kvs])
    | _ => .no
  | _ => .no
def rDictP (K : PySem.W.Frag) : List V → Hp → VK → Prop := fun xs H Q => ∃ (a : Addr) (ps : List Addr) (kvs : List (Key × V)), xs = [.ref a] ∧ SqL K H a (ps.map V.ref) ∧ Paired (fun p kv => SqT K H p [kV kv.1, kv.2]) ps kvs ∧
    ∀ p, H p = none → Q (.ref p) (upd H p (.dK (mergeK [] kvs)))
def rDictW (K : PySem.W.Frag) : List V → Hp → VK → Prop := fun xs H Q => rDictP K xs H Q ∨ ∃ (a : Addr) (kvs : List (Key × V)), xs = [.ref a] ∧ Rd H a (.dK kvs) ∧ ∀ p, H p = none → Q (.ref p) (upd H p (.dK kvs))
theorem call_dictW (hc : X.calm = true) : CallR X (.type "dict") (rDictW X.K) := (call_dictP hc).or call_dictD
theorem pairs_ok {f : List Addr} {H : Hp} : ∀ {us : List W} {vs : List V} {ps : List (W × Key × W)}, Rpl X.K X.mg f H us vs → pairsOf us = some ps →
    ∃ (as : List Addr) (kvs : List (Key × V)), vs = as.map V.ref ∧ Paired (fun p kv => SqT X.K H p [kV kv.1, kv.2]) as kvs ∧ Paired (fun (p : W × Key × W) (kv : Key × V) => p.2.1 = kv.1 ∧ W.key? p.1 = some p.2.1 ∧ Rp X.K X.mg f H p.2.2 kv.2) ps kvs
  | [], vs, ps, h, e => by unfold Rpl at h; subst h; cases e; exact ⟨[], [], rfl, .nil, .nil⟩
  | w :: us, vs, ps, h, e => by
    unfold Rpl at h
    obtain ⟨v, t, rfl, q, z⟩ := h
    unfold pairsOf at e
    split at e
    · rename_i e'; cases e'
    · rename_i k w1 ws' e0
      cases e0
      split at e
      · rename_i kk e1
        obtain ⟨r, e2, rfl⟩ := Option.map_eq_some_iff.mp e
        obtain ⟨a, us', rfl, hq, hr⟩ := q.tupE
        obtain ⟨v1, v2, rfl, h1, h2⟩ := hr.twoE
        obtain ⟨as, kvs, e3, p1, p2⟩ := pairs_ok z e2
        refine ⟨a :: as, (kk, v2) :: kvs, by rw [e3]; rfl, .cons ?_ p1, .cons ⟨rfl, e1, h2⟩ p2⟩
        rw [key_ok h1 e1] at hq
        exact SqT.of hq
      · cases e
    · cases e
theorem merge_ok {f : List Addr} {H : Hp} : ∀ {ps : List (W × Key × W)} {kvs : List (Key × V)}, Paired (fun (p : W × Key × W) (kv : Key × V) => p.2.1 = kv.1 ∧ W.key? p.1 = some p.2.1 ∧ Rp X.K X.mg f H p.2.2 kv.2) ps kvs →
    ∀ {acc : List (W × W)} {vs : List (Key × V)}, RpK X.K X.mg f H acc vs → RpK X.K X.mg f H (dmerge acc ps) (mergeK vs kvs)
  | [], _, .nil, _, _, h => h
  | p :: ps, _, .cons (b := kv) hp r, acc, vs, h => by
    obtain ⟨e1, e2, e3⟩ := hp
    show RpK X.K X.mg f H (dmerge (dput acc p.1 p.2.1 p.2.2) ps) (mergeK (putK vs kv.1 kv.2) _)
    rw [← e1]
    exact merge_ok r (RpK.put e2 e3 h)
theorem post.newD {st : St} {f : List Addr} {H : Hp} {S : Sto} {ws : List (W × W)} {vs : List (Key × V)} {Q : VK} (h : post X Z (Rp X.K X.mg) st f H (.ok (.loc S.length) (S ++ [.dct ws])) Q) (s : RelS X.K X.mg f H S) (r : RpK X.K X.mg f H ws vs) {p : Addr} (hp : H p = none) : Q (.ref p) (upd H p (.dK vs)) := by
  have k : Kp f H (f ++ [p]) (upd H p (.dK vs)) := s.kpNew hp _
  refine h _ _ _ k (s.new hp ⟨vs, upd_same, r.mono k⟩) ?_
  unfold Rp
  exact ⟨p, rfl, at_new s⟩
theorem snd_dict : SndL X Z (rDictW X.K) dictW := by
  intro f H st S ws vs Q s r p
  unfold dictW at p
  split at p
  · obtain ⟨v, rfl, h⟩ := r.oneE
    split at p
    · rename_i us e0
      split at p
      · rename_i ps e1
        obtain ⟨a, vs, rfl, _, q, r⟩ := lstAt s h e0
        obtain ⟨as, kvs, rfl, p1, p2⟩ := pairs_ok r e1
        exact .inl ⟨a, as, kvs, rfl, SqL.of q, p1, fun b hb => p.newD s (merge_ok p2 (by unfold RpK; rfl)) hb⟩
      · exact p.elim
    · rename_i kvs e0
      obtain ⟨a, vs, rfl, _, q, r⟩ := dctAt s h e0
      exact .inr ⟨a, vs, rfl, .inl q, fun b hb => p.newD s r hb⟩
    · exact p.elim
  · exact p.elim
end
end Ev

set_option Elab.async false
set_option linter.all false
set_option maxRecDepth 100000
/-! Ev6: statements, targets, what is walked, loops, comprehensions. -/
namespace Ev
open PySem L2

inductive RS where
  | nx (s : En) (S : Sto) | rt (w : W) (S : Sto) | bk (s : En) (S : Sto) | ct (s : En) (S : Sto) | ex (e : Xn) (s : En) (S : Sto) | no
abbrev SV := En → Sto → RS
def postS (X : Cx) (Z : WX) (f : List Addr) (H : Hp) (r : RS) (D : Ends) : Prop :=
  match r with
  | .nx s S => ∀ f' H' st, Kp f H f' H' → RelS X.K X.mg f' H' S → RelE X.K X.mg f' H' s st → D.nx st H'
  | .rt w S => ∀ f' H' v, Kp f H f' H' → RelS X.K X.mg f' H' S → Rp X.K X.mg f' H' w v → D.rt v H'
  | .bk s S => ∀ f' H' st, Kp f H f' H' → RelS X.K X.mg f' H' S → RelE X.K X.mg f' H' s st → D.bk st H'
  | .ct s S => ∀ f' H' st, Kp f H f' H' → RelS X.K X.mg f' H' S → RelE X.K X.mg f' H' s st → D.ct st H'
  | .ex e s S => ∀ f' H' st c d, Kp f H f' H' → RelS X.K X.mg f' H' S → RelE X.K X.mg f' H' s st → RelX X.K X.mg f' H' e c d → Z c d st H'
  | .no => False
def tS (X : Cx) (Z : WX) (m : SV) : TS := fun D st H => ∃ f s S, RelE X.K X.mg f H s st ∧ RelS X.K X.mg f H S ∧ postS X Z f H (m s S) D
theorem postS.mono {X : Cx} {Z : WX} {f f1 : List Addr} {H H1 : Hp} {r : RS} {D : Ends} (h : postS X Z f H r D) (k : Kp f H f1 H1) : postS X Z f1 H1 r D := by
  cases r with
  | nx s S => exact fun f' H' b k' => h f' H' b (k.trans k')
  | rt w S => exact fun f' H' b k' => h f' H' b (k.trans k')
  | bk s S => exact fun f' H' b k' => h f' H' b (k.trans k')
  | ct s S => exact fun f' H' b k' => h f' H' b (k.trans k')
  | ex e s S => exact fun f' H' st c d k' => h f' H' st c d (k.trans k')
  | no => exact h
def R.toS {A : Type} (r : R A) (s : En) (k : A → Sto → RS) : RS :=
  match r with
  | .ok a S => k a S
  | .ex e S => .ex e s S
  | .no => .no
theorem R.toS_ok {A : Type} (a : A) (S : Sto) (s : En) (k : A → Sto → RS) : R.toS (.ok a S) s k = k a S := rfl
theorem postS.seq {X : Cx} {Z : WX} {A B : Type} {P : Rel3 A B} {f : List Addr} {H : Hp} {r : R A} {s : En} {st : St} {k : A → Sto → RS} {D : Ends} {Q : B → Hp → Prop} (h : postS X Z f H (r.toS s k) D) (hE : RelE X.K X.mg f H s st)
    (hk : ∀ f1 H1 a S1 b, Kp f H f1 H1 → RelS X.K X.mg f1 H1 S1 → RelE X.K X.mg f1 H1 s st → P f1 H1 a b → postS X Z f1 H1 (k a S1) D → Q b H1) : post X Z P st f H r Q := by
  cases r with
  | ok a S => exact fun f' H' b k' s' p' => hk f' H' a S b k' s' (hE.mono k') p' (postS.mono (show postS X Z f H (k a S) D from h) k')
  | ex e S => exact fun f' H' c d k' s' x' => h f' H' st c d k' s' (hE.mono k') x'
  | no => exact h
theorem _root_.L2.PS.imp {X : Cx} {e : Stmt} {t t' : TS} (h : PS X e t) (i : ∀ D st H, t' D st H → t D st H) : PS X e t' := ⟨fun pins s st H Q I q => h.run pins s st H Q I (i _ _ _ q)⟩
theorem _root_.L2.PSs.imp {X : Cx} {e : List Stmt} {t t' : TS} (h : PSs X e t) (i : ∀ D st H, t' D st H → t D st H) : PSs X e t' := ⟨fun pins s st H Q I q => h.run pins s st H Q I (i _ _ _ q)⟩

def sNil : SV := fun s S => .nx s S
def sSeq (a b : SV) : SV := fun s S => match a s S with
  | .nx s S => b s S
  | .rt w S => .rt w S
  | .bk s S => .bk s S
  | .ct s S => .ct s S
  | .ex e s S => .ex e s S
  | .no => .no
def sExpr (m : EV) : SV := fun s S => (m s S).toS s fun _ S => .nx s S
def sRet (m : EV) : SV := fun s S => (m s S).toS s fun w S => .rt w S
def sRetN : SV := fun _ S => .rt .non S
def sIf (c : BV) (a b : SV) : SV := fun s S => (c s S).toS s fun k S => if k = true then a s S else b s S
def sBrk : SV := fun s S => .bk s S
def sCnt : SV := fun s S => .ct s S
def sSet (i : Nat) (m : EV) : SV := fun s S => (m s S).toS s fun w S => .nx (s.set i (some w)) S

section
variable {X : Cx} {Z : WX} {e a b c : Expr} {es : List Expr} {st0 : Stmt} {sts stb : List Stmt} {pos pos' : Pos} {m : EV} {bm : BV} {ms mt : SV}
theorem ss_nil : PSs X [] (tS X Z sNil) := by
  refine pss_nil.imp ?_
  rintro D st H ⟨f, s, S, hE, hS, hp⟩
  exact hp f H st Kp.refl hS hE
theorem seq_ok {t u : TS} (ht : ∀ D st H, tS X Z ms D st H → t D st H) (hu : ∀ D st H, tS X Z mt D st H → u D st H) (D : Ends) (st : St) (H : Hp) (h : tS X Z (sSeq ms mt) D st H) : tSeq t u D st H := by
  obtain ⟨f, s, S, hE, hS, hp⟩ := h
  refine ht _ _ _ ⟨f, s, S, hE, hS, ?_⟩
  unfold sSeq at hp
  cases e : ms s S with
  | nx s1 S1 =>
    rw [e] at hp
    intro f' H' st' k' s' e'
    exact hu _ _ _ ⟨f', s1, S1, e', s', postS.mono (show postS X Z f H (mt s1 S1) D from hp) k'⟩
  | rt w S1 => rw [e] at hp; exact hp
  | bk s1 S1 => rw [e] at hp; exact hp
  | ct s1 S1 => rw [e] at hp; exact hp
  | ex e1 s1 S1 => rw [e] at hp; exact hp
  | no => rw [e] at hp; exact hp
theorem ss_cons (h1 : PS X st0 (tS X Z ms)) (h2 : PSs X sts (tS X Z mt)) : PSs X (st0 :: sts) (tS X Z (sSeq ms mt)) :=
  (pss_cons h1 h2).imp (seq_ok (fun _ _ _ h => h) fun _ _ _ h => h)
theorem ss_one (h1 : PS X st0 (tS X Z ms)) : PSs X [st0] (tS X Z ms) := pss_one h1
theorem s_pass : PS X (.Pass pos) (tS X Z sNil) := by
  refine ps_pass.imp ?_
  rintro D st H ⟨f, s, S, hE, hS, hp⟩
  exact hp f H st Kp.refl hS hE
theorem s_break : PS X (.Break pos) (tS X Z sBrk) := by
  refine ps_break.imp ?_
  rintro D st H ⟨f, s, S, hE, hS, hp⟩
  exact hp f H st Kp.refl hS hE
theorem s_cont : PS X (.Continue pos) (tS X Z sCnt) := by
  refine ps_continue.imp ?_
  rintro D st H ⟨f, s, S, hE, hS, hp⟩
  exact hp f H st Kp.refl hS hE
theorem s_expr (he : PE X e (tI X Z m)) (hs : swapsWith e none pos.line X.env = pure false := by rfl) : PS X (.Expr e pos) (tS X Z (sExpr m)) := by
  refine (ps_expr he hs).imp ?_
  rintro D st H ⟨f, s, S, hE, hS, hp⟩
  exact ⟨f, s, S, hE, hS, hp.seq hE fun f1 H1 w1 S1 v1 k1 s1 e1 p1 hp1 => hp1 f1 H1 st Kp.refl s1 e1⟩
theorem s_ret (he : PE X e (tI X Z m)) : PS X (.Return (some e) pos) (tS X Z (sRet m)) := by
  refine (ps_ret he).imp ?_
  rintro D st H ⟨f, s, S, hE, hS, hp⟩
  exact ⟨f, s, S, hE, hS, hp.seq hE fun f1 H1 w1 S1 v1 k1 s1 e1 p1 hp1 => hp1 f1 H1 v1 Kp.refl s1 p1⟩
theorem s_retN : PS X (.Return none pos) (tS X Z sRetN) := by
  refine ps_retN.imp ?_
  rintro D st H ⟨f, s, S, hE, hS, hp⟩
  exact hp f H .non Kp.refl hS Rp.non'
theorem s_if (hc : PT X c (tT X Z bm)) (ha : PSs X sts (tS X Z ms)) (hb : PSs X stb (tS X Z mt)) : PS X (.If c sts stb pos) (tS X Z (sIf bm ms mt)) := by
  refine (ps_if hc ha hb).imp ?_
  rintro D st H ⟨f, s, S, hE, hS, hp⟩
  refine ⟨f, s, S, hE, hS, hp.seq hE fun f1 H1 w1 S1 v1 k1 s1 e1 p1 hp1 => ?_⟩
  obtain rfl : v1 = w1 := p1
  by_cases z : v1 = true
  · rw [if_pos z] at hp1 ⊢
    exact ⟨f1, s, S1, e1, s1, hp1⟩
  · rw [if_neg z] at hp1 ⊢
    exact ⟨f1, s, S1, e1, s1, hp1⟩
theorem s_set (i : Nat) {x : Str} (hN : X.N.Nodup) (he : PE X e (tI X Z m)) (hx : Loc X.env.scope x := by first | exact Or.inl rfl | exact Or.inr rfl) (hi : X.N[i]? = some x := by rfl) (hs : swapsWith e (some (.Name x pos')) pos.line X.env = pure false := by rfl)
    (hf : X.fn x = true ∨ X.env.scope.names.lookup x = some .local := by first | exact .inl rfl | exact .inr rfl) : PS X (.Assign [.Name x pos'] e pos) (tS X Z (sSet i m)) := by
  refine (ps_set hN hi hx he hs hf).imp ?_
  rintro D st H ⟨f, s, S, hE, hS, hp⟩
  exact ⟨f, s, S, hE, hS, hp.seq hE fun f1 H1 w1 S1 v1 k1 s1 e1 p1 hp1 => hp1 f1 H1 _ Kp.refl s1 (e1.set p1 i)⟩

/-! ### o[i] = v -/
def setO (o i v : W) (S : Sto) : Option Sto := match o with
  | .loc n => match S[n]? with
    | some (.lst ws) => match i with
      | .int k => match ixN ws.length k with
        | some j => some (S.set n (.lst (ws.set j v)))
        | none => none
      | _ => none
    | some (.dct kvs) => match W.key? i with
      | some q => if kvs.length < 1000000 then some (S.set n (.dct (dput kvs i q v))) else none
      | none => none
    | _ => none
  | _ => none
def rSetW : V → V → V → Hp → (Hp → Prop) → Prop := fun o i v H Q => rSetL o i v H Q ∨ ∃ a H', o = .ref a ∧ DPut H a i v H' ∧ Q H'
theorem set_any (hu : X.A.units + 1 < cLine) : PSet X rSetW := by
  intro pins s st H o i v ov iv u Q I ro ri rv h
  rcases h with h | ⟨a, H', rfl, g, q⟩
  · exact set_list pins s st H o i v ov iv u Q I ro ri rv h
  · obtain rfl : ov = Value.ref a := ro
    exact d_setItem hu I g ri rv fun s4 I4 => ⟨H', I4, q⟩
theorem setO_ok {f : List Addr} {H : Hp} {S S' : Sto} {o i w : W} {vo vi v : V} {Q : Hp → Prop} (s : RelS X.K X.mg f H S) (ho : Rp X.K X.mg f H o vo) (hi : Rp X.K X.mg f H i vi) (hw : Rp X.K X.mg f H w v) (e : setO o i w S = some S')
    (h : ∀ H', Kp f H f H' → RelS X.K X.mg f H' S' → Q H') : rSetW vo vi v H Q := by
  unfold setO at e
  split at e
  · split at e
    · rename_i e0
      split at e
      · split at e
        · rename_i j e1
          cases e
          obtain ⟨a, us, rfl, ha, q, r⟩ := lstAt s ho e0
          have k : Kp f H f (upd H a (.lst (us.set j v))) := s.kpUpd (List.mem_of_getElem? ha) _
          exact .inl ⟨a, us, _, j, rfl, hi.intE, q, by rw [r.length]; exact e1, h _ k (s.upd ha ⟨_, upd_same, (r.set hw j).mono k⟩)⟩
        · cases e
      · cases e
    · rename_i e0
      split at e
      · rename_i q e1
        split at e
        · rename_i z
          cases e
          obtain ⟨a, us, rfl, ha, hq, r⟩ := dctAt s ho e0
          have k : Kp f H f (upd H a (.dK (putK us q v))) := s.kpUpd (List.mem_of_getElem? ha) _
          refine .inr ⟨a, _, rfl, ?_, h _ k (s.upd ha ⟨_, upd_same, (RpK.put e1 hw r).mono k⟩)⟩
          rw [key_ok hi e1]
          exact DPut.k hq (by rw [r.length, sizeLine_eq]; omega)
        · cases e
      · cases e
    · cases e
  · cases e
def sPut (mv mo mi : EV) : SV := fun s S => (mv s S).toS s fun v S => (mo s S).toS s fun o S => (mi s S).toS s fun i S => match setO o i v S with
  | some S' => .nx s S'
  | none => .no
theorem s_put {o i : Expr} {mv mo mi : EV} (hu : X.A.units + 1 < cLine) (he : PE X e (tI X Z mv)) (ho : PE X o (tI X Z mo)) (hi : PE X i (tI X Z mi))
    (ha : ∀ v, assign (.Subscript o i pos') X.env v = (do
      let ov ← holding [v] (eval o X.env)
      let iv ← holding [v, ov] (eval i X.env)
      standAt pos'
      holding [v, ov, iv] (setItem ov iv v)
      release [v, ov, iv] []) := by intro _; rfl) (hs : swapsWithSole [.Subscript o i pos'] e pos.line X.env = pure false := by rfl) (hw : swappedStores [.Subscript o i pos'] e X.env = pure none := by rfl)
    (h1 : (assignEach [.Subscript o i pos'] X.env).map (·.2) = [assign (.Subscript o i pos') X.env] := by rfl) : PS X (.Assign [.Subscript o i pos'] e pos) (tS X Z (sPut mv mo mi)) := by
  refine (ps_asg he (pg_sub ho hi (set_any hu) ha) hs hw h1).imp ?_
  rintro D st H ⟨f, s, S, hE, hS, hp⟩
  refine ⟨f, s, S, hE, hS, hp.seq hE fun f1 H1 w1 S1 v1 k1 s1 e1 p1 hp1 => ?_⟩
  refine ⟨f1, s, S1, e1, s1, hp1.seq e1 fun f2 H2 w2 S2 v2 k2 s2 e2 p2 hp2 => ⟨f2, s, S2, e2, s2, hp2.seq e2 fun f3 H3 w3 S3 v3 k3 s3 e3 p3 hp3 => ?_⟩⟩
  split at hp3
  · rename_i S' e0
    exact setO_ok s3 (p2.mono k3) p3 (p1.mono (k2.trans k3)) e0 fun H' k' s' => hp3 f3 H' st k' s' (e3.mono k')
  · exact hp3.elim

/-! ### targets -/
inductive Tg where
  | nm (i : Nat) | tp (ts : List Tg)
mutual
def Tg.put : Tg → W → En → Option En
  | .nm i, w, s => some (s.set i (some w))
  | .tp ts, .tup ws, s => Tg.puts ts ws s
  | .tp _, _, _ => none
def Tg.puts : List Tg → List W → En → Option En
  | [], [], s => some s
  | t :: ts, w :: ws, s => (Tg.put t w s).bind (Tg.puts ts ws)
  | _, _, _ => none
end
mutual
def Tg.rd (K : PySem.W.Frag) : Tg → TG
  | .nm i => gName i
  | .tp ts => gTup K ts.length (Tg.rds K ts)
def Tg.rds (K : PySem.W.Frag) : List Tg → TGs
  | [] => gNil
  | t :: ts => gCons (Tg.rd K t) (Tg.rds K ts)
end
mutual
def Tg.slots : Tg → List Nat
  | .nm i => [i]
  | .tp ts => Tg.slotss ts
def Tg.slotss : List Tg → List Nat
  | [] => []
  | t :: ts => Tg.slots t ++ Tg.slotss ts
end
/-- two frames that differ at the slots l alone -/
def Diff (l : List Nat) (a b : St) : Prop := a.length = b.length ∧ ∀ i, i ∉ l → a[i]? = b[i]?
theorem Diff.refl {l : List Nat} {a : St} : Diff l a a := ⟨rfl, fun _ _ => rfl⟩
theorem Diff.trans {l l' : List Nat} {a b c : St} (x : Diff l a b) (y : Diff l' b c) : Diff (l ++ l') a c :=
  ⟨x.1.trans y.1, fun i h => (x.2 i fun z => h (List.mem_append_left _ z)).trans (y.2 i fun z => h (List.mem_append_right _ z))⟩
mutual
theorem Tg.put_ok {f : List Addr} {H : Hp} : ∀ (t : Tg) (w : W) (v : V) (s s' : En) (st : St) (Q : St → Hp → Prop), Rp X.K X.mg f H w v → RelE X.K X.mg f H s st → Tg.put t w s = some s' →
    (∀ st', RelE X.K X.mg f H s' st' → Diff t.slots st st' → Q st' H) → Tg.rd X.K t v st H Q
  | .nm i, w, v, s, s', st, Q, h, hE, e, k => by
    unfold Tg.put at e
    cases e
    show gName i v st H Q
    exact k _ (hE.set h i) ⟨by rw [List.length_set], fun j hj => by
      rw [List.getElem?_set_ne]
      intro z
      exact hj (by unfold Tg.slots; simp [z])⟩
  | .tp ts, .tup ws, v, s, s', st, Q, h, hE, e, k => by
    unfold Tg.put at e
    obtain ⟨a, vs, rfl, q, r⟩ := h.tupE
    show gTup X.K ts.length (Tg.rds X.K ts) _ st H Q
    refine ⟨a, vs, rfl, SqT.of q, ?_, ?_⟩
    · rw [r.length]
      exact (puts_len e).symm
    · exact Tg.puts_ok ts ws vs s s' st Q r hE e fun st' e' d' => k st' e' d'
  | .tp _, .non, _, _, _, _, _, _, _, e, _ => by simp [Tg.put] at e
  | .tp _, .bl _, _, _, _, _, _, _, _, e, _ => by simp [Tg.put] at e
  | .tp _, .int _, _, _, _, _, _, _, _, e, _ => by simp [Tg.put] at e
  | .tp _, .str _, _, _, _, _, _, _, _, e, _ => by simp [Tg.put] at e
  | .tp _, .rol _, _, _, _, _, _, _, _, e, _ => by simp [Tg.put] at e
  | .tp _, .loc _, _, _, _, _, _, _, _, e, _ => by simp [Tg.put] at e
  | .tp _, .gl _, _, _, _, _, _, _, _, e, _ => by simp [Tg.put] at e
  | .tp _, .ty _, _, _, _, _, _, _, _, e, _ => by simp [Tg.put] at e
theorem Tg.puts_ok {f : List Addr} {H : Hp} : ∀ (ts : List Tg) (ws : List W) (vs : List V) (s s' : En) (st : St) (Q : St → Hp → Prop), Rpl X.K X.mg f H ws vs → RelE X.K X.mg f H s st → Tg.puts ts ws s = some s' →
    (∀ st', RelE X.K X.mg f H s' st' → Diff (Tg.slotss ts) st st' → Q st' H) → Tg.rds X.K ts vs st H Q
  | [], [], vs, s, s', st, Q, h, hE, e, k => by
    unfold Tg.puts at e
    cases e
    unfold Rpl at h
    subst h
    show gNil [] st H Q
    exact ⟨rfl, k st hE Diff.refl⟩
  | [], _ :: _, _, _, _, _, _, _, _, e, _ => by simp [Tg.puts] at e
  | t :: ts, [], _, _, _, _, _, _, _, e, _ => by simp [Tg.puts] at e
  | t :: ts, w :: ws, vs, s, s', st, Q, h, hE, e, k => by
    unfold Tg.puts at e
    unfold Rpl at h
    obtain ⟨v, r, rfl, h1, h2⟩ := h
    obtain ⟨s1, e1, e2⟩ := Option.bind_eq_some_iff.mp e
    show gCons (Tg.rd X.K t) (Tg.rds X.K ts) _ st H Q
    refine ⟨v, r, rfl, Tg.put_ok t w v s s1 st _ h1 hE e1 fun st1 hE1 d1 => Tg.puts_ok ts ws r s1 s' st1 Q h2 hE1 e2 fun st2 hE2 d2 => k st2 hE2 ?_⟩
    exact d1.trans d2
theorem puts_len : ∀ {ts : List Tg} {ws : List W} {s s' : En}, Tg.puts ts ws s = some s' → ts.length = ws.length
  | [], [], _, _, _ => rfl
  | [], _ :: _, _, _, e => by simp [Tg.puts] at e
  | _ :: _, [], _, _, e => by simp [Tg.puts] at e
  | t :: ts, w :: ws, s, s', e => by
    unfold Tg.puts at e
    obtain ⟨s1, e1, e2⟩ := Option.bind_eq_some_iff.mp e
    rw [List.length_cons, List.length_cons, puts_len e2]
end
theorem g_name (i : Nat) {x : Str} (hN : X.N.Nodup) (hx : Loc X.env.scope x := by first | exact Or.inl rfl | exact Or.inr rfl) (hi : X.N[i]? = some x := by rfl) (hf : X.fn x = true ∨ X.env.scope.names.lookup x = some .local := by first | exact .inl rfl | exact .inr rfl) :
    PG X (.Name x pos) (Tg.rd X.K (.nm i)) := pg_name hN hi hx hf
theorem gs_nil : PGs X [] (Tg.rds X.K []) := pgs_nil
theorem gs_cons {t : Tg} {ts : List Tg} (h1 : PG X e (Tg.rd X.K t)) (h2 : PGs X es (Tg.rds X.K ts)) (hs : (assignEach (e :: es) X.env).map (·.2) = assign e X.env :: (assignEach es X.env).map (·.2) := by rfl) : PGs X (e :: es) (Tg.rds X.K (t :: ts)) := pgs_cons h1 h2 hs
theorem g_tup {k : Nat} {ts : List Tg} (hc : X.calm = true) (h : PGs X es (Tg.rds X.K ts)) (hn : (assignEach es X.env).length = ts.length := by rfl) (hst : (assignEach es X.env).findIdx? (·.1) = none := by rfl) : PG X (.Tuple es k pos) (Tg.rd X.K (.tp ts)) := pg_tup hc h hn hst
/-- (a, b) = e, e a tuple -/
def sAsg (t : Tg) (m : EV) : SV := fun s S => (m s S).toS s fun w S => match Tg.put t w s with
  | some s' => .nx s' S
  | none => .no
theorem s_asg {tg : Expr} {t : Tg} (he : PE X e (tI X Z m)) (hg : PG X tg (Tg.rd X.K t)) (hs : swapsWithSole [tg] e pos.line X.env = pure false := by rfl) (hw : swappedStores [tg] e X.env = pure none := by rfl)
    (h1 : (assignEach [tg] X.env).map (·.2) = [assign tg X.env] := by rfl) : PS X (.Assign [tg] e pos) (tS X Z (sAsg t m)) := by
  refine (ps_asg he hg hs hw h1).imp ?_
  rintro D st H ⟨f, s, S, hE, hS, hp⟩
  refine ⟨f, s, S, hE, hS, hp.seq hE fun f1 H1 w1 S1 v1 k1 s1 e1 p1 hp1 => ?_⟩
  split at hp1
  · rename_i s' e0
    exact Tg.put_ok t w1 v1 s s' st _ p1 e1 e0 fun st' e' _ => hp1 f1 H1 st' Kp.refl s1 e'
  · exact hp1.elim

/-! ### what is walked -/
structure IT where
  item : Sto → Nat → Option (Option W)
  fuel : Nat
def ItOk (X : Cx) (f0 : List Addr) (H0 : Hp) (it : Sto → Nat → Option (Option W)) (J : It) : Prop := ∀ f H S i, Kp f0 H0 f H → RelS X.K X.mg f H S →
  (it S i = some none → J.stop i H) ∧ ∀ w, it S i = some (some w) → J.go i H ∧ ∀ x H', J.yld i H x H' → Kp f H f H' ∧ RelS X.K X.mg f H' S ∧ Rp X.K X.mg f H' w x
abbrev IV := En → Sto → R IT
def tF (X : Cx) (Z : WX) (m : IV) : TI := fun st H Q => tG X Z (fun f H (a : IT) (b : It) => ItOk X f H a.item b) m st H Q
/-- the items of what stands at a value -/
def seqIt (w : W) : Sto → Nat → Option (Option W) := fun S i => match w with
  | .tup ws => some ws[i]?
  | .rol ws => some ws[i]?
  | .str x => some ((x.cps[i]?).map fun c => .str ⟨#[c]⟩)
  | .loc n => match S[n]? with
    | some (.lst ws) => some ws[i]?
    | _ => none
  | _ => none
def seqLen (w : W) (S : Sto) : Option Nat := match w with
  | .tup ws => some ws.length
  | .rol ws => some ws.length
  | .str x => some x.cps.size
  | .loc n => match S[n]? with
    | some (.lst ws) => some ws.length
    | _ => none
  | _ => none
def iSeq (m : EV) : IV := fun s S => (m s S).bind fun w S => match seqLen w S with
  | some n => .ok ⟨seqIt w, n + 1⟩ S
  | none => .no
theorem it_list {f : List Addr} {H : Hp} {S : Sto} {n : Nat} {ws : List W} {a : Addr} (s : RelS X.K X.mg f H S) (e : S[n]? = some (.lst ws)) (ha : f[n]? = some a) : ItOk X f H (seqIt (.loc n)) (Itl X.K a) := by
  intro f1 H1 S1 i k s1
  have ha1 := k.ext _ _ ha
  have hw : Rp X.K X.mg f1 H1 (.loc n) (.ref a) := by unfold Rp; exact ⟨a, rfl, ha1⟩
  unfold seqIt
  dsimp only
  cases e1 : S1[n]? with
  | none => exact ⟨fun z => (by cases z), fun w z => (by cases z)⟩
  | some o =>
    cases o with
    | lst us =>
      obtain ⟨b, vs, e2, _, q, r⟩ := lstAt s1 hw e1
      cases e2
      refine ⟨fun z => ⟨vs, SqL.of q, ?_⟩, fun w z => ?_⟩
      · have z' : us[i]? = none := Option.some.inj z
        rw [r.length]
        exact List.getElem?_eq_none_iff.mp z'
      · have z' : us[i]? = some w := Option.some.inj z
        obtain ⟨v, e3, rv⟩ := r.get z'
        refine ⟨⟨vs, v, SqL.of q, e3⟩, fun x H' y => ?_⟩
        obtain ⟨rfl, y⟩ := y
        have := y vs (SqL.of q)
        rw [e3] at this
        cases this
        exact ⟨Kp.refl, s1, rv⟩
    | dct us => exact ⟨fun z => (by cases z), fun w z => (by cases z)⟩
    | ins c us => exact ⟨fun z => (by cases z), fun w z => (by cases z)⟩
theorem it_rol {f : List Addr} {H : Hp} {ws : List W} {a : Addr} {vs : List V} (q : RoL X.K H a vs) (r : Rpl X.K X.mg f H ws vs) : ItOk X f H (seqIt (.rol ws)) (Itl X.K a) := by
  intro f1 H1 S1 i k s1
  have q1 := (k.roL q).seq
  have r1 := r.mono k
  refine ⟨fun z => ⟨vs, q1, ?_⟩, fun w z => ?_⟩
  · have z' : ws[i]? = none := Option.some.inj z
    rw [r1.length]
    exact List.getElem?_eq_none_iff.mp z'
  · have z' : ws[i]? = some w := Option.some.inj z
    obtain ⟨v, e3, rv⟩ := r1.get z'
    refine ⟨⟨vs, v, q1, e3⟩, fun x H' y => ?_⟩
    obtain ⟨rfl, y⟩ := y
    have := y vs q1
    rw [e3] at this
    cases this
    exact ⟨Kp.refl, s1, rv⟩
theorem it_tup {f : List Addr} {H : Hp} {ws : List W} {a : Addr} {vs : List V} (q : H a = some (.tup vs)) (r : Rpl X.K X.mg f H ws vs) : ItOk X f H (seqIt (.tup ws)) (Itt X.K a) := by
  intro f1 H1 S1 i k s1
  have q1 : SqT X.K H1 a vs := SqT.of (k.tup _ _ q)
  have r1 := r.mono k
  refine ⟨fun z => ⟨vs, q1, ?_⟩, fun w z => ?_⟩
  · have z' : ws[i]? = none := Option.some.inj z
    rw [r1.length]
    exact List.getElem?_eq_none_iff.mp z'
  · have z' : ws[i]? = some w := Option.some.inj z
    obtain ⟨v, e3, rv⟩ := r1.get z'
    refine ⟨⟨vs, v, q1, e3⟩, fun x H' y => ?_⟩
    obtain ⟨rfl, y⟩ := y
    have := y vs q1
    rw [e3] at this
    cases this
    exact ⟨Kp.refl, s1, rv⟩
theorem it_str {f : List Addr} {H : Hp} {x : Str} : ItOk X f H (seqIt (.str x)) (Its x) := by
  intro f1 H1 S1 i k s1
  unfold seqIt
  dsimp only
  cases e : x.cps[i]? with
  | none => exact ⟨fun _ => Array.getElem?_eq_none_iff.mp e, fun w z => (by cases z)⟩
  | some c =>
    refine ⟨fun z => (by cases z), fun w z => ?_⟩
    cases z
    refine ⟨(Array.getElem?_eq_some_iff.mp e).1, fun v H' y => ?_⟩
    obtain ⟨rfl, c', e', rfl⟩ := y
    rw [e] at e'; cases e'
    exact ⟨Kp.refl, s1, Rp.str'⟩
/-- a list, a tuple, a text -/
def iAny (K : PySem.W.Frag) (tl : TE) : TI := fun st H R => tl st H fun x H1 => (∃ a, x = .ref a ∧ (∃ xs, SqL K H1 a xs) ∧ R (Itl K a) H1) ∨ (∃ a, x = .ref a ∧ (∃ xs, SqT K H1 a xs) ∧ R (Itt K a) H1) ∨ ∃ z, x = .str z ∧ R (Its z) H1
theorem pi_any {tg l : Expr} {tl : TE} (hl : PE X l tl) : PI X tg l (iAny X.K tl) := by
  refine ⟨fun pins s st H R I h => ?_⟩
  refine thn (hl.run pins s st H _ I h) fun v s1 ⟨x, H1, I1, r1, q1⟩ => ?_
  rcases q1 with ⟨a, e, ⟨xs, hq⟩, q⟩ | ⟨a, e, ⟨xs, hq⟩, q⟩ | ⟨z, e, q⟩
  · subst e
    cases r1
    obtain ⟨its, rv, p, hz⟩ := I1.list hq
    exact wpAny_pyIter_list p.isList (pi_one (tk := s1.toks) I1 _ (turn_list a _) ⟨_, Heap.get?_push_size _ rfl, rfl, rfl⟩ q)
  · subst e
    cases r1
    obtain ⟨its, rv, p, hz⟩ := I1.tuple hq
    exact wpAny_pyIter_tuple (show s1.heap.IsTuple a its.toArray from p) (pi_one (tk := s1.toks) I1 _ (turn_tuple a _) ⟨_, Heap.get?_push_size _ rfl, rfl, rfl⟩ q)
  · subst e
    obtain ⟨t, rfl⟩ := r1
    cases ha : z.cps.all (· < 128)
    · exact wpAny_pyIter_wide ha (pi_one (tk := s1.toks) I1 _ (turn_str _ z t "str_iterator" (.inr rfl)) ⟨_, Heap.get?_push_size _ rfl, rfl, rfl⟩ q)
    · exact wpAny_pyIter_ascii ha (pi_one (tk := s1.toks) I1 _ (turn_str _ z t "str_ascii_iterator" (.inl rfl)) ⟨_, Heap.get?_push_size _ rfl, rfl, rfl⟩ q)
theorem _root_.L2.PI.imp {X : Cx} {tg e : Expr} {t t' : TI} (h : PI X tg e t) (i : ∀ st H R, t' st H R → t st H R) : PI X tg e t' := ⟨fun pins s st H R I q => h.run pins s st H R I (i _ _ _ q)⟩
theorem i_seq {tg l : Expr} (hl : PE X l (tI X Z m)) : PI X tg l (tF X Z (iSeq m)) := by
  refine (pi_any hl).imp ?_
  rintro st H Q ⟨f, s, S, hE, hS, hp⟩
  refine ⟨f, s, S, hE, hS, hp.seq fun f1 H1 w1 S1 v1 k1 s1 p1 hp1 => ?_⟩
  split at hp1
  · rename_i n e
    unfold seqLen at e
    split at e
    · obtain ⟨a, vs, rfl, q, r⟩ := p1.tupE
      exact .inr (.inl ⟨a, rfl, ⟨vs, SqT.of q⟩, hp1.fin s1 (it_tup q r)⟩)
    · obtain ⟨a, vs, rfl, q, r⟩ := p1.rolE
      exact .inl ⟨a, rfl, ⟨vs, q.seq⟩, hp1.fin s1 (it_rol q r)⟩
    · exact .inr (.inr ⟨_, p1.strE, hp1.fin s1 it_str⟩)
    · split at e
      · rename_i e0
        obtain ⟨a, vs, rfl, ha, q, r⟩ := lstAt s1 p1 e0
        exact .inl ⟨a, rfl, ⟨vs, SqL.of q⟩, hp1.fin s1 (it_list s1 e0 ha)⟩
      · cases e
    · cases e
  · exact hp1.elim
/-! range -/
def rngIt (lo : Int) (n : Nat) : Sto → Nat → Option (Option W) := fun _ i => if i < n then some (some (.int (lo + i))) else some none
theorem it_rng {f : List Addr} {H : Hp} {lo : Int} {n : Nat} : ItOk X f H (rngIt lo n) (Itr lo n) := by
  intro f1 H1 S1 i k s1
  unfold rngIt
  by_cases h : i < n
  · rw [if_pos h]
    refine ⟨fun z => (by cases z), fun w z => ?_⟩
    cases z
    refine ⟨h, fun v H' y => ?_⟩
    obtain ⟨rfl, rfl⟩ := y
    exact ⟨Kp.refl, s1, Rp.int'⟩
  · rw [if_neg h]
    exact ⟨fun _ => Nat.le_of_not_lt h, fun w z => (by cases z)⟩
def iRng1 (m : EV) : IV := fun s S => (m s S).bind fun w S => match w with
  | .int j => if -1000000 ≤ j ∧ j ≤ 1000000 then .ok ⟨rngIt 0 j.toNat, j.toNat + 1⟩ S else .no
  | _ => .no
def iRng2 (m n : EV) : IV := fun s S => (m s S).bind fun w S => (n s S).bind fun u S => match w, u with
  | .int i, .int j => if -1000000 ≤ i ∧ i ≤ 1000000 ∧ -1000000 ≤ j ∧ j ≤ 1000000 then .ok ⟨rngIt i (j - i).toNat, (j - i).toNat + 1⟩ S else .no
  | _, _ => .no
theorem i_rng1 {tg : Expr} {p : Pos} (hm : X.mg "range" = none) (ha : PE X a (tI X Z m)) (hg : Gl X "range" := by rfl) (hs : starEach [a] X.env = [(false, eval a X.env)] := by rfl) : PI X tg (.Call (.Name "range" p) [a] [] pos) (tF X Z (iRng1 m)) := by
  refine (pi_range1 hg hm (pa_cons ha pa_nil (by rw [hs]; rfl)) hs).imp ?_
  rintro st H Q ⟨f, s, S, hE, hS, hp⟩
  refine ⟨f, s, S, hE, hS, hp.seq fun f1 H1 w1 S1 v1 k1 s1 p1 hp1 => ?_⟩
  split at hp1
  · split at hp1
    · rename_i z
      exact ⟨_, by rw [p1.intE], by omega, by omega, hp1.fin s1 it_rng⟩
    · exact hp1.elim
  · exact hp1.elim
theorem i_rng2 {tg : Expr} {p : Pos} {m2 : EV} (hm : X.mg "range" = none) (ha : PE X a (tI X Z m)) (hb : PE X b (tI X Z m2)) (hg : Gl X "range" := by rfl) (hs : starEach [a, b] X.env = [(false, eval a X.env), (false, eval b X.env)] := by rfl) (hs2 : starEach [b] X.env = [(false, eval b X.env)] := by rfl) :
    PI X tg (.Call (.Name "range" p) [a, b] [] pos) (tF X Z (iRng2 m m2)) := by
  refine (pi_range2 hg hm (pa_cons ha (pa_cons hb pa_nil (by rw [hs2]; rfl)) (by rw [hs, hs2])) hs hs2).imp ?_
  rintro st H Q ⟨f, s, S, hE, hS, hp⟩
  refine ⟨f, s, S, hE, hS, hp.seq fun f1 H1 w1 S1 v1 k1 s1 p1 hp1 => ⟨f1, s, S1, hE.mono k1, s1, hp1.seq fun f2 H2 w2 S2 v2 k2 s2 p2 hp2 => ?_⟩⟩
  split at hp2
  · split at hp2
    · rename_i z
      exact ⟨_, _, by rw [p1.intE, p2.intE], by omega, hp2.fin s2 it_rng⟩
    · exact hp2.elim
  · exact hp2.elim
/-! zip of two lists, of two tuples -/
def zipIt (x y : W) : Sto → Nat → Option (Option W) := fun S i => match seqIt x S i, seqIt y S i with
  | some (some a), some (some b) => some (some (.tup [a, b]))
  | some none, some _ => some none
  | some (some _), some none => some none
  | _, _ => none
def bothL (S : Sto) (x y : W) : Bool := match x, y with
  | .tup _, .tup _ => true
  | _, _ => (getL S x).isSome && (getL S y).isSome
def iZip (m n : EV) : IV := fun s S => (m s S).bind fun x S => (n s S).bind fun y S => if bothL S x y = true then (match seqLen x S with
  | some k => .ok ⟨zipIt x y, k + 1⟩ S
  | none => .no) else .no
theorem kp_tup2 {f : List Addr} {H : Hp} {S : Sto} {T : Addr} {wa wb : W} {va vb : V} (s : RelS X.K X.mg f H S) (hT : H T = none) (ra : Rp X.K X.mg f H wa va) (rb : Rp X.K X.mg f H wb vb) :
    Kp f H f (upd H T (.tup [va, vb])) ∧ RelS X.K X.mg f (upd H T (.tup [va, vb])) S ∧ Rp X.K X.mg f (upd H T (.tup [va, vb])) (.tup [wa, wb]) (.ref T) := by
  have k : Kp f H f (upd H T (.tup [va, vb])) := kpLaid hT _
  exact ⟨k, s.laid hT _, .tup' upd_same (.cons (ra.mono k) (.cons (rb.mono k) .nil))⟩
/-- what an iterator over a list tells -/
theorem seq_lst {f : List Addr} {H : Hp} {S : Sto} {x : W} {v : V} {us : List W} {i : Nat} {o : Option W} (s : RelS X.K X.mg f H S) (h : Rp X.K X.mg f H x v) (e : seqIt x S i = some o) (hx : ∃ xs, getL S x = some xs) :
    ∃ a vs, v = .ref a ∧ SqL X.K H a vs ∧ (o = none → vs.length ≤ i) ∧ ∀ w, o = some w → ∃ u, vs[i]? = some u ∧ Rp X.K X.mg f H w u := by
  obtain ⟨xs, ex⟩ := hx
  obtain ⟨a, vs, rfl, q, r⟩ := getL_at s h ex
  have e' : o = xs[i]? := by
    unfold getL at ex
    split at ex
    · split at ex
      · rename_i e0
        cases ex
        unfold seqIt at e
        dsimp only at e
        rw [e0] at e
        exact (Option.some.inj e).symm
      · cases ex
    · cases ex
      exact (Option.some.inj e).symm
    · cases ex
  refine ⟨a, vs, rfl, q, fun z => ?_, fun w z => ?_⟩
  · rw [r.length]
    exact List.getElem?_eq_none_iff.mp (e'.symm.trans z)
  · exact r.get (e'.symm.trans z)
theorem getL_of_seq {S : Sto} {x : W} {i : Nat} {o : Option W} (e : seqIt x S i = some o) (h : (∃ n, x = .loc n) ∨ ∃ ws, x = .rol ws) : ∃ xs, getL S x = some xs := by
  rcases h with ⟨n, rfl⟩ | ⟨ws, rfl⟩
  · unfold seqIt at e
    dsimp only at e
    split at e
    · rename_i e0
      exact ⟨_, by unfold getL; dsimp only; rw [e0]⟩
    · cases e
  · exact ⟨ws, rfl⟩
theorem lst_shape {S : Sto} {x : W} (h : (getL S x).isSome = true) : (∃ n, x = .loc n) ∨ ∃ ws, x = .rol ws := by
  cases x with
  | loc n => exact .inl ⟨n, rfl⟩
  | rol ws => exact .inr ⟨ws, rfl⟩
  | _ => cases h
theorem shape_rp {f f1 : List Addr} {H H1 : Hp} {x : W} {v : V} {a : Addr} (h : Rp X.K X.mg f H x v) (k : Kp f H f1 H1) : Rp X.K X.mg f1 H1 x v := h.mono k
theorem it_zipL {f : List Addr} {H : Hp} {S : Sto} {x y : W} {a b : Addr} (hx : Rp X.K X.mg f H x (.ref a)) (hy : Rp X.K X.mg f H y (.ref b)) (sx : (∃ n, x = .loc n) ∨ ∃ ws, x = .rol ws) (sy : (∃ n, y = .loc n) ∨ ∃ ws, y = .rol ws) : ItOk X f H (zipIt x y) (Itz X.K a b) := by
  intro f1 H1 S1 i k s1
  have hx1 := hx.mono k
  have hy1 := hy.mono k
  unfold zipIt
  cases ex : seqIt x S1 i with
  | none => exact ⟨fun z => (by cases z), fun w z => (by cases z)⟩
  | some o =>
    cases ey : seqIt y S1 i with
    | none => cases o <;> exact ⟨fun z => (by cases z), fun w z => (by cases z)⟩
    | some o' =>
      obtain ⟨a1, xs, e1, qx, nx, gx⟩ := seq_lst (us := []) s1 hx1 ex (getL_of_seq ex sx)
      obtain ⟨b1, ys, e2, qy, ny, gy⟩ := seq_lst (us := []) s1 hy1 ey (getL_of_seq ey sy)
      cases e1
      cases e2
      cases o with
      | none => exact ⟨fun _ => ⟨xs, ys, qx, qy, .inl (nx rfl)⟩, fun w z => (by cases z)⟩
      | some wa =>
        cases o' with
        | none => exact ⟨fun _ => ⟨xs, ys, qx, qy, .inr (ny rfl)⟩, fun w z => (by cases z)⟩
        | some wb =>
          refine ⟨fun z => (by cases z), fun w z => ?_⟩
          cases z
          obtain ⟨va, e3, ra⟩ := gx wa rfl
          obtain ⟨vb, e4, rb⟩ := gy wb rfl
          refine ⟨⟨xs, ys, va, vb, qx, qy, e3, e4⟩, fun v H' h => ?_⟩
          obtain ⟨T, xa, xb, rfl, hT, rfl, l1, l2⟩ := h
          have z1 := l1 xs qx
          have z2 := l2 ys qy
          rw [e3] at z1
          rw [e4] at z2
          cases z1
          cases z2
          exact kp_tup2 s1 hT ra rb
theorem it_zipT {f : List Addr} {H : Hp} {ws us : List W} {a b : Addr} {vs xs : List V} (hx : H a = some (.tup vs)) (rx : Rpl X.K X.mg f H ws vs) (hy : H b = some (.tup xs)) (ry : Rpl X.K X.mg f H us xs) : ItOk X f H (zipIt (.tup ws) (.tup us)) (RZ.ItzT X.K a b) := by
  intro f1 H1 S1 i k s1
  have qx : SqT X.K H1 a vs := SqT.of (k.tup _ _ hx)
  have qy : SqT X.K H1 b xs := SqT.of (k.tup _ _ hy)
  have rx1 := rx.mono k
  have ry1 := ry.mono k
  unfold zipIt seqIt
  dsimp only
  cases ex : ws[i]? with
  | none => exact ⟨fun _ => ⟨vs, xs, qx, qy, .inl (by rw [rx1.length]; exact List.getElem?_eq_none_iff.mp ex)⟩, fun w z => (by cases z)⟩
  | some wa =>
    cases ey : us[i]? with
    | none => exact ⟨fun _ => ⟨vs, xs, qx, qy, .inr (by rw [ry1.length]; exact List.getElem?_eq_none_iff.mp ey)⟩, fun w z => (by cases z)⟩
    | some wb =>
      refine ⟨fun z => (by cases z), fun w z => ?_⟩
      cases z
      obtain ⟨va, e3, ra⟩ := rx1.get ex
      obtain ⟨vb, e4, rb⟩ := ry1.get ey
      refine ⟨⟨vs, xs, va, vb, qx, qy, e3, e4⟩, fun v H' h => ?_⟩
      obtain ⟨T, xa, xb, rfl, hT, rfl, l1, l2⟩ := h
      have z1 := l1 vs qx
      have z2 := l2 xs qy
      rw [e3] at z1
      rw [e4] at z2
      cases z1
      cases z2
      exact kp_tup2 s1 hT ra rb
theorem i_zip {elts : List Expr} {kk : Nat} {tpos p : Pos} {m2 : EV} (hm : X.mg "zip" = none) (ha : PE X a (tI X Z m)) (hb : PE X b (tI X Z m2)) (hg : Gl X "zip" := by rfl)
    (hs : starEach [a, b] X.env = (false, eval a X.env) :: starEach [b] X.env := by rfl) (hs2 : starEach [b] X.env = [(false, eval b X.env)] := by rfl) (hpl : (backTo pos (starEach [b] X.env)).any (·.1) = false := by rfl) :
    PI X (.Tuple elts kk tpos) (.Call (.Name "zip" p) [a, b] [] pos) (tF X Z (iZip m m2)) := by
  refine (RZ.pi_zipA hg hm (pa_cons ha (pa_cons hb pa_nil (by rw [hs2]; rfl)) hs) hs hpl).imp ?_
  rintro st H Q ⟨f, s, S, hE, hS, hp⟩
  refine ⟨f, s, S, hE, hS, hp.seq fun f1 H1 x S1 v1 k1 s1 p1 hp1 => ⟨f1, s, S1, hE.mono k1, s1, hp1.seq fun f2 H2 y S2 v2 k2 s2 p2 hp2 => ?_⟩⟩
  split at hp2
  · rename_i z
    split at hp2
    · rename_i n e
      unfold bothL at z
      split at z
      · obtain ⟨a1, xs, rfl, q1, r1⟩ := (p1.mono k2).tupE
        obtain ⟨b1, ys, rfl, q2, r2⟩ := p2.tupE
        exact ⟨a1, b1, xs, ys, rfl, .inr ⟨SqT.of q1, SqT.of q2, hp2.fin s2 (it_zipT q1 r1 q2 r2)⟩⟩
      · rw [Bool.and_eq_true] at z
        obtain ⟨z1, z2⟩ := z
        obtain ⟨us, e1⟩ := Option.isSome_iff_exists.mp z1
        obtain ⟨us', e2⟩ := Option.isSome_iff_exists.mp z2
        have p1' := p1.mono k2
        obtain ⟨a1, xs, rfl, q1, r1⟩ := getL_at s2 p1' e1
        obtain ⟨b1, ys, rfl, q2, r2⟩ := getL_at s2 p2 e2
        exact ⟨a1, b1, xs, ys, rfl, .inl ⟨q1, q2, hp2.fin s2 (it_zipL (S := S2) p1' p2 (lst_shape z1) (lst_shape z2))⟩⟩
    · exact hp2.elim
  · exact hp2.elim
end
end Ev

set_option Elab.async false
set_option linter.all false
set_option maxRecDepth 100000
/-! Ev7: for, while, comprehensions. -/
namespace Ev
open PySem L2

def loopS (it : Sto → Nat → Option (Option W)) (t : Tg) (b : SV) : Nat → Nat → En → Sto → RS
  | 0, _, _, _ => .no
  | n + 1, i, s, S => match it S i with
    | none => .no
    | some none => .nx s S
    | some (some w) => match Tg.put t w s with
      | none => .no
      | some s1 => match b s1 S with
        | .nx s2 S2 => loopS it t b n (i + 1) s2 S2
        | .ct s2 S2 => loopS it t b n (i + 1) s2 S2
        | .bk s2 S2 => .nx s2 S2
        | .rt w S2 => .rt w S2
        | .ex e s2 S2 => .ex e s2 S2
        | .no => .no
def sFor (m : IV) (t : Tg) (b : SV) : SV := fun s S => (m s S).toS s fun it S => loopS it.item t b it.fuel 0 s S
def whileS (c : BV) (b : SV) : Nat → En → Sto → RS
  | 0, _, _ => .no
  | n + 1, s, S => (c s S).toS s fun k S => if k = true then (match b s S with
      | .nx s2 S2 => whileS c b n s2 S2
      | .ct s2 S2 => whileS c b n s2 S2
      | .bk s2 S2 => .nx s2 S2
      | .rt w S2 => .rt w S2
      | .ex e s2 S2 => .ex e s2 S2
      | .no => .no) else .nx s S
/-- n: a bound of the turns, as great as one likes -/
def sWhile (n : Nat) (c : BV) (b : SV) : SV := fun s S => whileS c b n s S
section
variable {X : Cx} {Z : WX} {e a b c : Expr} {es : List Expr} {st0 : Stmt} {sts stb : List Stmt} {pos pos' : Pos} {m : EV} {bm : BV} {ms mt : SV}
theorem s_for {tg iter : Expr} {t : Tg} {mi : IV} (hp : PassesOwn (model X.prog X.w) X.A X.env X.xe) (hc : X.calm = true) (hi : PI X tg iter (tF X Z mi)) (hg : PG X tg (Tg.rd X.K t)) (hb : PSs X sts (tS X Z ms))
    (hs : ∀ x, foldedSetIterable iter X.env x = pure x := by intro _; rfl) : PS X (.For tg iter sts [] pos) (tS X Z (sFor mi t ms)) := by
  refine (ps_for hp hc hi hg hb hs).imp ?_
  rintro D st H ⟨f, s, S, hE, hS, hp⟩
  refine ⟨f, s, S, hE, hS, hp.seq hE fun f1 H1 it S1 J k1 s1 e1 ok hp1 => ?_⟩
  refine ⟨fun i m st H => ∃ f2 s2 S2, Kp f1 H1 f2 H ∧ RelE X.K X.mg f2 H s2 st ∧ RelS X.K X.mg f2 H S2 ∧ postS X Z f2 H (loopS it.item t ms m i s2 S2) D, ⟨it.fuel, f1, s, S1, Kp.refl, e1, s1, hp1⟩, ?_⟩
  rintro i m st2 H2 ⟨f2, s2, S2, k2, e2, s2', hp2⟩
  cases m with
  | zero => exact hp2.elim
  | succ n =>
    obtain ⟨ok1, ok2⟩ := ok f2 H2 S2 i k2 s2'
    unfold loopS at hp2
    cases e : it.item S2 i with
    | none => rw [e] at hp2; exact hp2.elim
    | some o =>
      rw [e] at hp2
      cases o with
      | none => exact .inl ⟨ok1 e, hp2 f2 H2 st2 Kp.refl s2' e2⟩
      | some w =>
        dsimp only at hp2
        cases ep : Tg.put t w s2 with
        | none => rw [ep] at hp2; exact hp2.elim
        | some s3 =>
          rw [ep] at hp2
          dsimp only at hp2
          obtain ⟨go, yl⟩ := ok2 w e
          refine .inr ⟨go, fun st' H' => ∃ f2 s2 S2, Kp f1 H1 f2 H' ∧ RelE X.K X.mg f2 H' s2 st' ∧ RelS X.K X.mg f2 H' S2 ∧ postS X Z f2 H' (loopS it.item t ms n (i + 1) s2 S2) D, fun st' H' z => ⟨n, Nat.lt_succ_self n, z⟩, fun x H' y => ?_⟩
          obtain ⟨k3, s3', r3⟩ := yl x H' y
          refine Tg.put_ok t w x s2 s3 st2 _ r3 (e2.mono k3) ep fun st' e3 _ => ⟨f2, s3, S2, e3, s3', ?_⟩
          have kk := k2.trans k3
          have hp3 := hp2.mono k3
          cases eb : ms s3 S2 with
          | nx s4 S4 => rw [eb] at hp3; exact fun f' H'' st'' k' s' e' => ⟨f', s4, S4, kk.trans k', e', s', hp3.mono k'⟩
          | ct s4 S4 => rw [eb] at hp3; exact fun f' H'' st'' k' s' e' => ⟨f', s4, S4, kk.trans k', e', s', hp3.mono k'⟩
          | bk s4 S4 => rw [eb] at hp3; exact hp3
          | rt w4 S4 => rw [eb] at hp3; exact hp3
          | ex e4 s4 S4 => rw [eb] at hp3; exact hp3
          | no => rw [eb] at hp3; exact hp3
theorem s_while (n : Nat) (hp : PassesOwn (model X.prog X.w) X.A X.env X.xe) (hc : PT X c (tT X Z bm)) (hb : PSs X sts (tS X Z ms)) : PS X (.While c sts [] pos) (tS X Z (sWhile n bm ms)) := by
  refine (ps_while hp hc hb).imp ?_
  rintro D st H ⟨f, s, S, hE, hS, hp⟩
  refine ⟨fun m st H => ∃ f2 s2 S2, RelE X.K X.mg f2 H s2 st ∧ RelS X.K X.mg f2 H S2 ∧ postS X Z f2 H (whileS bm ms m s2 S2) D, ⟨n, f, s, S, hE, hS, hp⟩, ?_⟩
  rintro m st2 H2 ⟨f2, s2, S2, e2, s2', hp2⟩
  cases m with
  | zero => exact hp2.elim
  | succ k =>
    unfold whileS at hp2
    refine ⟨f2, s2, S2, e2, s2', hp2.seq e2 fun f3 H3 w3 S3 v3 k3 s3 e3 p3 hp3 => ?_⟩
    obtain rfl : v3 = w3 := p3
    by_cases z : v3 = true
    · rw [if_pos z] at hp3 ⊢
      refine ⟨fun st' H' => ∃ f2 s2 S2, RelE X.K X.mg f2 H' s2 st' ∧ RelS X.K X.mg f2 H' S2 ∧ postS X Z f2 H' (whileS bm ms k s2 S2) D, fun st' H' z => ⟨k, Nat.lt_succ_self k, z⟩, f3, s2, S3, e3, s3, ?_⟩
      cases eb : ms s2 S3 with
      | nx s4 S4 => rw [eb] at hp3; exact fun f' H'' st'' k' s' e' => ⟨f', s4, S4, e', s', hp3.mono k'⟩
      | ct s4 S4 => rw [eb] at hp3; exact fun f' H'' st'' k' s' e' => ⟨f', s4, S4, e', s', hp3.mono k'⟩
      | bk s4 S4 => rw [eb] at hp3; exact hp3
      | rt w4 S4 => rw [eb] at hp3; exact hp3
      | ex e4 s4 S4 => rw [eb] at hp3; exact hp3
      | no => rw [eb] at hp3; exact hp3
    · rw [if_neg z] at hp3 ⊢
      exact hp3 f3 H3 st2 Kp.refl s3 e3
end

/-! ### [e for t in iter if c] -/
def lcLoop (it : Sto → Nat → Option (Option W)) (t : Tg) (c : BV) (m : EV) (s0 : En) : Nat → Nat → List W → Sto → R (List W)
  | 0, _, _, _ => .no
  | n + 1, i, acc, S => match it S i with
    | none => .no
    | some none => .ok acc S
    | some (some w) => match Tg.put t w s0 with
      | none => .no
      | some s1 => match c s1 S with
        | .ok true S1 => match m s1 S1 with
          | .ok x S2 => if acc.length < 1000000 then lcLoop it t c m s0 n (i + 1) (acc ++ [x]) S2 else .no
          | _ => .no
        | .ok false S1 => lcLoop it t c m s0 n (i + 1) acc S1
        | _ => .no
def eLc (mi : IV) (t : Tg) (c : BV) (m : EV) (vs : List Nat) : EV := fun s S => (mi s S).bind fun it S => (lcLoop it.item t c m (wipeE s vs) it.fuel 0 [] S).bind fun acc S => .ok (.loc S.length) (S ++ [.lst acc])
def bYes : BV := fun _ S => .ok true S
/-- no exception -/
abbrev Z0 : WX := fun _ _ _ _ => False
theorem wipe_len (l : List Nat) (st : St) : (wipe st l).length = st.length := wipe_length st l
theorem wipe_at {st : St} {i : Nat} : ∀ {l : List Nat}, (wipe st l)[i]? = if i ∈ l ∧ i < st.length then some none else st[i]?
  | [] => by simp [wipe]
  | v :: l => by
    unfold wipe
    by_cases h : i = v
    · subst h
      by_cases h2 : i < st.length
      · rw [List.getElem?_set_self (by rw [wipe_length]; exact h2), if_pos ⟨List.mem_cons_self, h2⟩]
      · rw [if_neg (fun z => h2 z.2)]
        rw [List.getElem?_eq_none (by rw [List.length_set, wipe_length]; omega), List.getElem?_eq_none (by omega)]
    · rw [List.getElem?_set_ne (Ne.symm h), wipe_at (l := l)]
      simp only [List.mem_cons, h, false_or]
theorem wipe_diff {l vs : List Nat} {a b : St} (d : Diff l a b) (h : ∀ i ∈ l, i ∈ vs) : wipe b vs = wipe a vs := by
  refine List.ext_getElem? fun i => ?_
  rw [wipe_at, wipe_at, ← d.1]
  by_cases hi : i ∈ vs
  · by_cases h2 : i < a.length
    · rw [if_pos ⟨hi, h2⟩, if_pos ⟨hi, h2⟩]
    · rw [if_neg (fun z => h2 z.2), if_neg (fun z => h2 z.2), List.getElem?_eq_none (by rw [← d.1]; omega), List.getElem?_eq_none (by omega)]
  · rw [if_neg (fun z => hi z.1), if_neg (fun z => hi z.1)]
    exact (d.2 i fun z => hi (h i z)).symm
theorem wipe_wipe (vs : List Nat) (st : St) : wipe (wipe st vs) vs = wipe st vs := by
  refine List.ext_getElem? fun i => ?_
  rw [wipe_at, wipe_length, wipe_at]
  by_cases h : i ∈ vs ∧ i < st.length
  · rw [if_pos h, if_pos h]
  · rw [if_neg h]
section
variable {X : Cx} {Z : WX}
/-- the comprehension's reading -/
theorem lc_rd {mi : IV} {t : Tg} {cm : BV} {m : EV} {vs : List Nat} {tt : TT} {te : TE} (hts : ∀ i ∈ t.slots, i ∈ vs)
    (ht : ∀ st H Q, tT X Z0 cm st H Q → tt st H Q) (he : ∀ st H Q, tI X Z0 m st H Q → te st H Q) (st : St) (H : Hp) (Q : VK) (h : tI X Z (eLc mi t cm m vs) st H Q) :
    tLc (tF X Z mi) (Tg.rd X.K t) tt te vs st H Q := by
  obtain ⟨f, s, S, hE, hS, hp⟩ := h
  refine ⟨f, s, S, hE, hS, hp.seq fun f1 H1 it S1 J k1 s1 ok hp1 => ?_⟩
  intro D hD
  -- the new list D is no place of the store while it grows
  have hDf : D ∉ f1 := s1.fresh hD
  have e1 : RelE X.K X.mg f1 H1 (wipeE s vs) (wipe st vs) := (hE.mono k1).wipe vs
  refine ⟨fun i n H => ∃ f2 S2 acc as, Kp f1 H1 f2 H ∧ RelS X.K X.mg f2 H S2 ∧ D ∉ f2 ∧ H D = some (.lst as) ∧ Rpl X.K X.mg f2 H acc as ∧
    post X Z (Rp X.K X.mg) st f1 H1 ((lcLoop it.item t cm m (wipeE s vs) n i acc S2).bind fun acc S => .ok (.loc S.length) (S ++ [.lst acc])) Q, ?_, ?_⟩
  · exact ⟨it.fuel, f1, S1, [], [], kpLaid hD _, s1.laid hD _, hDf, upd_same, Rpl.nil, hp1⟩
  · rintro i n H2 ⟨f2, S2, acc, as, k2, s2, hDf2, hD2, ra, hp2⟩
    cases n with
    | zero => exact hp2.elim
    | succ n =>
      obtain ⟨ok1, ok2⟩ := ok f2 H2 S2 i k2 s2
      unfold lcLoop at hp2
      cases e : it.item S2 i with
      | none => rw [e] at hp2; exact hp2.elim
      | some o =>
        rw [e] at hp2
        cases o with
        | none =>
          -- the list is put into the store
          refine .inl ⟨ok1 e, ?_⟩
          have hp3 : post X Z (Rp X.K X.mg) st f1 H1 (.ok (.loc S2.length) (S2 ++ [.lst acc])) Q := hp2
          refine hp3 (f2 ++ [D]) H2 (.ref D) ⟨fun k a q => (kqAdd (H := H2)).ext k a (k2.ext k a q), k2.tup, k2.frz, k2.out, fun a q => ?_⟩ (s2.adopt hDf2 ⟨as, hD2, Rpl.monoQ kqAdd _ _ ra⟩) ?_
          · rcases List.mem_append.mp q with z | z
            · exact k2.new a z
            · rw [List.mem_singleton.mp z]; exact .inr hD
          · unfold Rp
            exact ⟨D, rfl, at_new s2⟩
        | some w =>
          dsimp only at hp2
          cases ep : Tg.put t w (wipeE s vs) with
          | none => rw [ep] at hp2; exact hp2.elim
          | some s3 =>
            rw [ep] at hp2
            dsimp only at hp2
            obtain ⟨go, yl⟩ := ok2 w e
            refine .inr ⟨go, fun H' => ∃ f2 S2 acc as, Kp f1 H1 f2 H' ∧ RelS X.K X.mg f2 H' S2 ∧ D ∉ f2 ∧ H' D = some (.lst as) ∧ Rpl X.K X.mg f2 H' acc as ∧
              post X Z (Rp X.K X.mg) st f1 H1 ((lcLoop it.item t cm m (wipeE s vs) n (i + 1) acc S2).bind fun acc S => .ok (.loc S.length) (S ++ [.lst acc])) Q, fun H' z => ⟨n, Nat.lt_succ_self n, z⟩, fun x H3 y => ?_⟩
            obtain ⟨k3, s3', r3⟩ := yl x H3 y
            have hD3 : H3 D = some (.lst as) := k3.out D _ hDf2 hD2
            have k3' := k2.trans k3
            refine Tg.put_ok t w x (wipeE s vs) s3 (wipe st vs) _ r3 (e1.mono k3') ep fun st' e3 df => ⟨(wipe_diff df hts).trans (wipe_wipe vs st), ht _ _ _ ⟨f2, s3, S2, e3, s3', ?_⟩⟩
            cases ec : cm s3 S2 with
            | ex e4 S4 => rw [ec] at hp2; exact hp2.elim
            | no => rw [ec] at hp2; exact hp2.elim
            | ok bb S4 =>
              rw [ec] at hp2
              intro f4 H4 b' k4 s4 eb
              obtain rfl : b' = bb := eb
              have hD4 : H4 D = some (.lst as) := k4.out D _ hDf2 hD3
              have nf : ∀ {f5 : List Addr} {H5 : Hp}, Kp f2 H3 f5 H5 → D ∉ f5 := fun k5 z => by
                rcases k5.new D z with q | q
                · exact hDf2 q
                · rw [hD3] at q; cases q
              have k4' := k3'.trans k4
              cases b' with
              | false =>
                rw [if_neg Bool.false_ne_true]
                exact ⟨f4, S4, acc, as, k4', s4, nf k4, hD4, (ra.mono k3).mono k4, hp2⟩
              | true =>
                rw [if_pos rfl]
                dsimp only at hp2
                refine he _ _ _ ⟨f4, s3, S4, e3.mono k4, s4, ?_⟩
                cases em : m s3 S4 with
                | ex e5 S5 => rw [em] at hp2; exact hp2.elim
                | no => rw [em] at hp2; exact hp2.elim
                | ok x5 S5 =>
                  rw [em] at hp2
                  dsimp only at hp2
                  intro f5 H5 v5 k5 s5 r5
                  have k45 := k4.trans k5
                  have hD5 : H5 D = some (.lst as) := k5.out D _ (nf k4) hD4
                  have nD := nf k45
                  by_cases z : acc.length < 1000000
                  · rw [if_pos z] at hp2
                    have r5' := ((ra.mono k3).mono k45).append (.cons r5 .nil)
                    refine ⟨as, hD5, by rw [ra.length, sizeLine_eq]; omega, f5, S5, acc ++ [x5], as ++ [v5], ?_, ?_, nD, upd_same, ?_, hp2⟩
                    · -- only D is written
                      have k := k3'.trans k45
                      exact ⟨k.ext, fun a xs q => by
                          have q' := k.tup a xs q
                          rw [upd_ne (fun e => by rw [e, hD5] at q'; cases q')]; exact q', fun a o u q => by
                          have q' := k.frz a o u q
                          rw [upd_ne (fun e => by rw [e, hD5] at q'; cases q')]; exact q', fun a o h q => by
                          rw [upd_ne (fun e => by rw [e, hD] at q; cases q)]; exact k.out a o h q, k.new⟩
                    · exact ⟨s5.len, s5.nd, fun j o a h1 h2 => RelO.monoQ ⟨fun _ _ q => q, fun b xs q => by
                          rw [upd_ne (fun e => by rw [e, hD5] at q; cases q)]; exact q, fun b o u q => by
                          rw [upd_ne (fun e => by rw [e, hD5] at q; cases q)]; exact q⟩ (s5.at_ j o a h1 h2) (upd_ne fun e => nD (e ▸ List.mem_of_getElem? h2))⟩
                    · exact Rpl.monoQ ⟨fun _ _ q => q, fun b xs q => by
                          rw [upd_ne (fun e => by rw [e, hD5] at q; cases q)]; exact q, fun b o u q => by
                          rw [upd_ne (fun e => by rw [e, hD5] at q; cases q)]; exact q⟩ _ _ r5'
                  · rw [if_neg z] at hp2; exact hp2.elim
theorem ts_nil : PTs X [] (tT X Z bYes) := by
  refine ⟨fun pins s st H Q I h => pts_nil.run pins s st H Q I ?_⟩
  obtain ⟨f, s, S, hE, hS, hp⟩ := h
  exact hp.fin hS rfl
theorem ts_one {c : Expr} {cm : BV} (h : PT X c (tT X Z cm)) : PTs X [c] (tT X Z cm) := pts_one h
theorem e_lc {elt tg iter : Expr} {ifs : List Expr} {scope : Scope} {own : List (Str × Nat)} {pos : Pos} {mi : IV} {t : Tg} {cm : BV} {m : EV} (hc : X.calm = true) (hN : X.N.Nodup) (hi : PI X tg iter (tF X Z mi)) (ok : BlkOk X.N X.env.scope scope own)
    (hg : ∀ (s : Shared) (H : Hp) (C : Addr) (cl : List (Str × Addr)) (fp : List Addr), PG (X.blk s H scope (compEnvC scope cl C X.env) fp) tg (Tg.rd X.K t)) (ht : ∀ (s : Shared) (H : Hp) (C : Addr) (cl : List (Str × Addr)) (fp : List Addr), PTs (X.blk s H scope (compEnvC scope cl C X.env) fp) ifs (tT (X.blk s H scope (compEnvC scope cl C X.env) fp) Z0 cm))
    (he : ∀ (s : Shared) (H : Hp) (C : Addr) (cl : List (Str × Addr)) (fp : List Addr), PE (X.blk s H scope (compEnvC scope cl C X.env) fp) elt (tI (X.blk s H scope (compEnvC scope cl C X.env) fp) Z0 m)) (hts : ∀ i ∈ t.slots, i ∈ own.map (·.2) := by decide) (hs : ∀ x, foldedSetIterable iter X.env x = pure x := by intro _; rfl) :
    PE X (.ListComp elt [⟨tg, iter, ifs, 0⟩] scope pos) (tI X Z (eLc mi t cm m (own.map (·.2)))) :=
  (pe_lc (tt := tT X Z0 cm) (te := tI X Z0 m) hc hN hi ok hg ht he hs).imp (lc_rd hts (fun _ _ _ h => h) fun _ _ _ h => h)
theorem s_setLc (i : Nat) {y : Str} {py : Pos} {elt tg iter : Expr} {ifs : List Expr} {scope : Scope} {own : List (Str × Nat)} {pos spos : Pos} {mi : IV} {t : Tg} {cm : BV} {m : EV} (hc : X.calm = true) (hN : X.N.Nodup)
    (hsw : swapsWith (.ListComp elt [⟨tg, iter, ifs, 0⟩] scope pos) (some (.Name y py)) spos.line X.env = pure true) (hi : PI X tg iter (tF X Z mi)) (ok : BlkOk X.N X.env.scope scope own)
    (hg : ∀ (s : Shared) (H : Hp) (C : Addr) (cl : List (Str × Addr)) (fp : List Addr), PG (X.blk s H scope (compEnvC scope cl C X.env) fp) tg (Tg.rd X.K t)) (ht : ∀ (s : Shared) (H : Hp) (C : Addr) (cl : List (Str × Addr)) (fp : List Addr), PTs (X.blk s H scope (compEnvC scope cl C X.env) fp) ifs (tT (X.blk s H scope (compEnvC scope cl C X.env) fp) Z0 cm))
    (he : ∀ (s : Shared) (H : Hp) (C : Addr) (cl : List (Str × Addr)) (fp : List Addr), PE (X.blk s H scope (compEnvC scope cl C X.env) fp) elt (tI (X.blk s H scope (compEnvC scope cl C X.env) fp) Z0 m)) (hts : ∀ i ∈ t.slots, i ∈ own.map (·.2) := by decide) (hy : X.N[i]? = some y := by rfl) (hyl : X.env.scope.names.lookup y = some .local := by rfl) (hs : ∀ x, foldedSetIterable iter X.env x = pure x := by intro _; rfl) :
    PS X (.Assign [.Name y py] (.ListComp elt [⟨tg, iter, ifs, 0⟩] scope pos) spos) (tS X Z (sSet i (eLc mi t cm m (own.map (·.2))))) := by
  refine (ps_setLc (tt := tT X Z0 cm) (te := tI X Z0 m) hc hN hy hyl hsw hi ok hg ht he hs).imp ?_
  rintro D st H ⟨f, s, S, hE, hS, hp⟩
  refine lc_rd (Z := Z) hts (fun _ _ _ h => h) (fun _ _ _ h => h) _ _ _ ⟨f, s, S, hE, hS, hp.seq hE fun f1 H1 w1 S1 v1 k1 s1 e1 p1 hp1 => hp1 f1 H1 _ Kp.refl s1 (e1.set p1 i)⟩
end
end Ev

set_option Elab.async false
set_option linter.all false
set_option maxRecDepth 100000
/-! Ev8: defs: their promises, calls, the law's end. -/
namespace Ev
open PySem L2 PySem.Spec PyProof.Rows

/-- a def's promise by its result -/
def spF (K : PySem.W.Frag) (mg : Str → Option Value) (F : List W → Sto → R W) : Sp := fun vs H Q E => ∃ f S ws, Rpl K mg f H ws vs ∧ RelS K mg f H S ∧
  match F ws S with
  | .ok w S' => ∀ f' H' v, Kp f H f' H' → RelS K mg f' H' S' → Rp K mg f' H' w v → Q v H'
  | .ex e S' => ∀ f' H' c d, Kp f H f' H' → RelS K mg f' H' S' → RelX K mg f' H' e c d → E c d H'
  | .no => False
/-- it knows as many arguments as the def has -/
def Ar (F : List W → Sto → R W) (n : Nat) : Prop := ∀ ws S, ws.length ≠ n → F ws S = .no
theorem spF_len {K : PySem.W.Frag} {mg : Str → Option Value} {F : List W → Sto → R W} {n : Nat} (ar : Ar F n) {vs : List V} {H : Hp} {Q : VK} {E : XK} (h : spF K mg F vs H Q E) : vs.length = n := by
  obtain ⟨f, S, ws, r, s, p⟩ := h
  by_cases e : ws.length = n
  · rw [r.length, e]
  · rw [ar ws S e] at p; exact p.elim
/-- a body's result -/
def runF (n : Nat) (m : SV) (ws : List W) (S : Sto) : R W := match m (startE n ws) S with
  | .nx _ S => .ok .non S
  | .rt w S => .ok w S
  | .ex e _ S => .ex e S
  | _ => .no
theorem spF_of {X : Cx} {Z : WX} {F : List W → Sto → R W} {f : List Addr} {H : Hp} {S : Sto} {ws : List W} {vs : List V} {st : L2.St} {Q : VK} (s : RelS X.K X.mg f H S) (r : Rpl X.K X.mg f H ws vs) (p : post X Z (Rp X.K X.mg) st f H (F ws S) Q) :
    spF X.K X.mg F vs H Q (WE Z st) := by
  refine ⟨f, S, ws, r, s, ?_⟩
  cases e : F ws S with
  | ok w S' => rw [e] at p; exact p
  | ex x S' => rw [e] at p; exact fun f' H' c d k s' x' => p f' H' c d k s' x'
  | no => rw [e] at p; exact p
section
variable {P : Program} {w : World} {K : PySem.W.Frag} {mg : Str → Option Value} {base : Heap}
/-- a def of the text, by its body's result -/
theorem fnW {x qual : Str} {st : Stmt} {f : Addr} {fd : FuncData} {N ps : List Str} {k : Nat} {m : SV} {F0 : List W → Sto → R W} (F : Fun K x qual st f fd) (S : FnScope N ps (defScope st)) (ar : Ar F0 ps.length)
    (hb : ∀ (cdv : Value) (A : Around) (outer : List Env) (s : Shared) (H : Hp) (E : XK), Room k (A.deeper (envOfC qual (defScope st) s.heap.objs.size f cdv)) →
      PSs (cxOf (L2.CX P w) P w K mg base N qual (defScope st) f cdv A outer s H E) (defBody st) (tS (cxOf (L2.CX P w) P w K mg base N qual (defScope st) f cdv A outer s H E) (fun c d _ H => E c d H) m))
    (hF : ∀ ws S, ws.length = ps.length → F0 ws S = runF N.length m ws S) :
    FnOk P w K mg base (L2.CX P w) (k + 1) f fd ps (spF K mg F0) := by
  refine F.okX S (fun vs H Q E h => spF_len ar h) (fun cdv A outer s H vs Q E hr h => ?_)
  refine ⟨_, hb cdv A outer s H E hr, ?_⟩
  have hl := spF_len ar h
  obtain ⟨f1, S1, ws, r, rs, p⟩ := h
  refine ⟨f1, startE N.length ws, S1, RelE.start r, rs, ?_⟩
  rw [hF ws S1 (by rw [← r.length, hl])] at p
  unfold runF at p
  cases e : m (startE N.length ws) S1 with
  | nx s2 S2 => rw [e] at p; exact fun f' H' st k s' e' => p f' H' .non k s' Rp.non'
  | rt w2 S2 => rw [e] at p; exact p
  | bk s2 S2 => rw [e] at p; exact p.elim
  | ct s2 S2 => rw [e] at p; exact p.elim
  | ex x2 s2 S2 => rw [e] at p; exact fun f' H' st c d k s' e' x' => p f' H' c d k s' x'
  | no => rw [e] at p; exact p.elim
/-- what is not known promises nothing -/
theorem fnNo {f : Addr} {fd : FuncData} {ps : List Str} {k : Nat} {F : List W → Sto → R W} (h : ∀ ws S, F ws S = .no) : FnOk P w K mg base (L2.CX P w) k f fd ps (spF K mg F) := by
  have no : ∀ vs H Q E, ¬ spF K mg F vs H Q E := fun vs H Q E z => by
    obtain ⟨f, S, ws, _, _, p⟩ := z
    rw [h] at p
    exact p
  exact ⟨fun vs H Q E z => absurd z (no vs H Q E), fun A outer s H args us vs Q E _ _ _ _ z => absurd z (no vs H Q E)⟩
end
/-- what of a def a caller leans on: where it stands; and its promise -/
structure At (K : PySem.W.Frag) (mg : Str → Option Value) (x : Str) (n : Nat) (f : Addr) (fd : FuncData) (ps : List Str) : Prop where
  ln : ps.length = n
  mgx : mg x = some (.ref f)
  kp : PySem.W.keepIn K (.ref f) = true
  bd : Binds K fd ps []
structure Held (P : Program) (w : World) (K : PySem.W.Frag) (mg : Str → Option Value) (base : Heap) (k : Nat) (x : Str) (F : List W → Sto → R W) : Prop where
  ex : ∃ (n : Nat) (f : Addr) (fd : FuncData) (ps : List Str), At K mg x n f fd ps ∧ FnOk P w K mg base (L2.CX P w) k f fd ps (spF K mg F)
section
variable {X : Cx} {Z : WX} {e o : Expr} {es : List Expr} {pos apos p : Pos} {mr : AV} {mo : EV}
theorem takesB {X : Cx} : Takes X Z0 := takes0
theorem e_call {x : Str} {k : Nat} {F : List W → Sto → R W} (T : Held X.prog X.w X.K X.mg X.base k x F) (hr : Room k X.A) (tk : Takes X Z) (ha : PA X (e :: es) (tA X Z mr)) (hg : Gl X x := by rfl)
    (hdb : (x == ("__debug__" : Str)) = false := by decide) (he : starEach (e :: es) X.env = (false, eval e X.env) :: starEach es X.env := by rfl) (hpl : (backTo pos (starEach es X.env)).any (·.1) = false := by rfl) :
    PE X (.Call (.Name x p) (e :: es) [] pos) (tI X Z (eL F mr)) := by
  obtain ⟨n, f, fd, ps, T, hF⟩ := T.ex
  refine (pe_callS (E := WE Z) hF hr hg T.mgx T.kp T.bd (passAt tk) ha hdb he hpl).imp ?_
  rintro st H Q ⟨f1, s, S, hE, hS, hp⟩
  exact ⟨f1, s, S, hE, hS, hp.seq fun f1 H1 w1 S1 v1 k1 s1 p1 hp1 => spF_of s1 p1 hp1⟩
/-- f() -/
theorem e_call0 {x : Str} {k : Nat} {F : List W → Sto → R W} (T : Held X.prog X.w X.K X.mg X.base k x F) (hr : Room k X.A) (tk : Takes X Z) (hg : Gl X x := by rfl) (hdb : (x == ("__debug__" : Str)) = false := by decide) :
    PE X (.Call (.Name x p) [] [] pos) (tI X Z (eL F aNil)) := by
  obtain ⟨n, f, fd, ps, T, hF⟩ := T.ex
  refine ⟨fun pins s st H Q I h => ?_⟩
  refine wpAny_Call_Name_kw (ld_glob I hg T.mgx ?_ hdb)
  obtain ⟨f1, s1, S, hE, hS, hp⟩ := h
  exact PySem.W.callWith_K0 I.kIn T.kp (run_fnS (us := []) (E := WE Z) hF hr T.bd (passAt tk st) I .nil (spF_of hS Rpl.nil hp))
end
/-! ### the law's end -/
theorem roL_of {K : PySem.W.Frag} {H : Hp} {a : Addr} {vs : List V} (hO : Only H) (h : SqL K H a vs) : RoL K H a vs := by
  rcases h with (h | ⟨o, h⟩) | h
  · rcases hO a with z | ⟨o, xs, z⟩
    · rw [z] at h; cases h
    · rw [z] at h; cases h
  · exact .inl ⟨o, h⟩
  · exact .inr fun H' => .inr h
theorem ints_rel {K : PySem.W.Frag} {mg : Str → Option Value} {f : List Addr} {H : Hp} : ∀ ns : List Int, Rpl K mg f H (ns.map W.int) (ns.map V.int)
  | [] => Rpl.nil
  | n :: ns => .cons (by unfold Rp; rfl) (ints_rel ns)
theorem law_end {K : PySem.W.Frag} {mg : Str → Option Value} {F : List W → Sto → R W} {H : Hp} {a : Addr} {ns : List Int} (hO : Only H) (hS : SqL K H a (ns.map V.int)) (h : ∃ S, F [.rol (ns.map W.int)] [] = .ok (.bl true) S) :
    spF K mg F [.ref a] H (fun v _ => v = .bl true) fun _ _ _ => False := by
  obtain ⟨S, e⟩ := h
  refine ⟨[], [], [.rol (ns.map W.int)], .cons ?_ Rpl.nil, ⟨rfl, List.nodup_nil, fun n o a h => by simp at h⟩, ?_⟩
  · unfold Rp
    exact ⟨a, _, rfl, roL_of hO hS, ints_rel ns⟩
  · rw [e]
    exact fun f' H' v _ _ r => r.blE
theorem cx_end {P : Program} {w : World} {H : Hp} {s : Shared} {e : Value} {s' : Shared} (h : L2.CX P w [] H s (fun _ _ _ => False) e s') : False := by
  obtain ⟨_, _, _, _, _, _, _, _, _, _, _, _, z⟩ := h
  exact z
end Ev

set_option Elab.async false
set_option linter.all false
set_option maxRecDepth 100000
/-! Ev9: sorted. -/
namespace Ev
open PySem L2
section
variable {X : Cx} {Z : WX}
/-- the one item of a list needs no second -/
theorem sortsOne {prog : Program} {w : World} {A : Around} {s : Shared} {v : Value} {d : PyData} {as : List Addr} (r : Reads s.heap v d as) (hal : PySem.W.alike d d = true) (hn : d ≠ .none) (hu : A.units + d.depth < cLine) :
    PySem.W.SortsAt prog w A s (PySem.W.dataKind s.heap [d]) [v] := by
  have al : PySem.W.AllAlike [d] := fun x hx y hy => by rw [List.mem_singleton.mp hx, List.mem_singleton.mp hy]; exact hal
  refine ⟨fun u hu => ?_, PyProof.Rows.general', fun E x y a b Q ha hb hq => ?_, fun h2 => absurd h2 (by simp)⟩
  · rw [List.mem_singleton.mp hu]
    exact ⟨_, PySem.W.dataKind_some al (List.mem_singleton_self d) r⟩
  · obtain ⟨d1, as1, hd1, ra, rfl⟩ := PySem.W.dataKind_inv ha
    obtain ⟨d2, as2, hd2, rb, rfl⟩ := PySem.W.dataKind_inv hb
    rw [List.mem_singleton] at hd1 hd2
    subst hd1 hd2
    exact PySem.W.oneLt_alike (f := false) (fun z => absurd z (by decide)) ra rb hal hn (by rw [Nat.min_self]; exact hu) hq
def allAl (ds : List PyData) : Bool := ds.all fun x => ds.all fun y => PySem.W.alike x y
theorem allAl_ok {ds : List PyData} (h : allAl ds = true) : PySem.W.AllAlike ds := fun x hx y hy => by
  unfold allAl at h
  exact List.all_eq_true.mp (List.all_eq_true.mp h x hx) y hy
def tupNe : PyData → Bool
  | .tuple (_ :: _) => true
  | _ => false
def notTN : PyData → Bool
  | .none => false
  | .tuple _ => false
  | _ => true
def sortB (ds : List PyData) : Bool := allAl ds && (ds.all tupNe || ds.all notTN || (ds.length == 1 && ds.all fun x => match x with
  | .none => false
  | _ => true))
theorem tupNe_ok {ds : List PyData} (h : ds.all tupNe = true) : PySem.W.Sortable ds := .inl fun d hd => by
  have := List.all_eq_true.mp h d hd
  cases d with
  | tuple xs => cases xs with
    | nil => cases this
    | cons x r => exact ⟨x, r, rfl⟩
  | _ => cases this
theorem notTN_ok {ds : List PyData} (h : ds.all notTN = true) : PySem.W.Sortable ds := .inr fun d hd => by
  have := List.all_eq_true.mp h d hd
  refine ⟨?_, fun xs => ?_⟩
  · rintro rfl; cases this
  · rintro rfl; cases this
def rSortW (K : PySem.W.Frag) : List V → Hp → VK → Prop := fun xs H Q => ∃ (p : Addr) (vs : List V) (ds : List PyData), xs = [.ref p] ∧ SqL K H p vs ∧ vs.length ≤ 1000000 ∧ DpAll K H vs ds ∧ PyData.depthAll ds ≤ 60 ∧ sortB ds = true ∧
  ∀ l, H l = none → Q (.ref l) (upd H l (.lst (((vs.zip ds).mergeSort (PySem.W.dataLe false Prod.snd)).map Prod.fst)))
theorem dp_each {pins : List (Addr × Obj)} {σ : St} {H : Hp} {s : Shared} (I : Inv X pins σ H s) : ∀ {vs : List V} {ds : List PyData} {us : List Value}, DpAll X.K H vs ds → Vals vs us →
    PySem.W.EachIs (fun u (b : V × PyData) => RelV b.1 u) us (vs.zip ds) ∧ PySem.W.EachIs (fun u (b : V × PyData) => ∃ as, Reads s.heap u b.2 as) us (vs.zip ds) ∧ (vs.zip ds).map Prod.snd = ds ∧ (vs.zip ds).length = vs.length
  | [], ds, us, hd, hv => by
    cases hd; cases hv
    exact ⟨.nil, .nil, rfl, rfl⟩
  | v :: vs, ds, us, hd, hv => by
    cases hd with
    | cons d1 dr =>
      cases hv with
      | cons r1 rr =>
        obtain ⟨a, b, c, e⟩ := dp_each I dr rr
        exact ⟨.cons r1 a, .cons (Dp.reads I _ _ _ d1 r1) b, by simp [c], by simpa using e⟩
theorem vals_each : ∀ {us : List Value} {bs : List (V × PyData)}, PySem.W.EachIs (fun u (b : V × PyData) => RelV b.1 u) us bs → Vals (bs.map Prod.fst) us
  | _, _, .nil => .nil
  | _, _, .cons h t => .cons h (vals_each t)
theorem depth_mem : ∀ {ds : List PyData} {d : PyData}, d ∈ ds → d.depth ≤ PyData.depthAll ds
  | [], _, h => by cases h
  | x :: xs, d, h => by
    show d.depth ≤ max x.depth (PyData.depthAll xs)
    rcases List.mem_cons.mp h with rfl | h
    · exact Nat.le_max_left _ _
    · exact Nat.le_trans (depth_mem h) (Nat.le_max_right _ _)
theorem sorted_one {prog : Program} {w : World} {A : Around} {E : Value → Shared → Prop} {s : Shared} {Q : Value → Shared → Prop} {l : Addr} {u : Value} {x : V} {d : PyData} (hl : s.heap.IsList l [u].toArray) (rx : RelV x u) (rd : ∃ as, Reads s.heap u d as) (hal : PySem.W.alike d d = true) (hn : d ≠ .none) (hu : A.units + 2 + d.depth < cLine)
    (h : ∀ out : List Value, PySem.W.EachIs (fun u (b : V × PyData) => RelV b.1 u) out (([x].zip [d]).mergeSort (PySem.W.dataLe false Prod.snd)) → Q (.ref (s.heap.objs.size + 1)) { s with heap := PyProof.Rows.sortedAll s.heap [u] out.toArray }) :
    wpAny (model prog w) A (call (.builtin "sorted") [.ref l]) Q E s := by
  obtain ⟨as, r⟩ := rd
  have r' := PyProof.Rows.Reads.keeps (h' := PySem.W.sortingHeap (PySem.W.copyHeap s.heap [u]) (s.heap.objs.size + 1) [u]) (fun _ _ => PySem.W.sorting_copy_old) r
  refine PySem.W.sorted_vals hl (sortsOne (s := { s with heap := PySem.W.sortingHeap (PySem.W.copyHeap s.heap [u]) (s.heap.objs.size + 1) [u] }) r' hal hn hu) (by rw [sizeLine_eq]; simp) (h _ ?_)
  exact PySem.W.sortVals_data (enc := Prod.snd) (bs := [(x, d)]) false (.cons rx .nil) (.cons ⟨as, r'⟩ .nil) (fun a ha b hb => by rw [List.mem_singleton.mp ha, List.mem_singleton.mp hb]; exact hal)
theorem call_sortedW (hu : X.A.units + 65 < cLine) : CallR X (.builtin "sorted") (rSortW X.K) := by
  intro pins s σ H vs us Q I r h
  obtain ⟨p, xs, ds, rfl, hs, h6, hd, hdep, hb, q⟩ := h
  obtain ⟨its, rv, hl, _⟩ := I.list hs
  rw [Vals.ref1 r]
  obtain ⟨e1, e2, e3, e4⟩ := dp_each I hd rv
  have hdm : ∀ b, b ∈ xs.zip ds → X.A.units + 2 + b.2.depth < cLine := fun b hb => by
    have : b.2 ∈ ds := by rw [← e3]; exact List.mem_map_of_mem hb
    have := depth_mem this
    omega
  have fin : ∀ out : List Value, PySem.W.EachIs (fun u (b : V × PyData) => RelV b.1 u) out ((xs.zip ds).mergeSort (PySem.W.dataLe false Prod.snd)) →
      EP X pins σ Q (.ref (s.heap.objs.size + 1)) { s with heap := PyProof.Rows.sortedAll s.heap its out.toArray } := by
    intro out eo
    obtain ⟨ep, he'⟩ := PyProof.Rows.sortedAll_at s.heap its out.toArray
    have hv := vals_each eo
    have hlen : (((xs.zip ds).mergeSort (PySem.W.dataLe false Prod.snd)).map Prod.fst).length ≤ sizeLine := by
      rw [List.length_map, List.length_mergeSort, e4]; exact mill h6
    exact ⟨.ref _, upd H (s.heap.objs.size + 1) (.lst (((xs.zip ds).mergeSort (PySem.W.dataLe false Prod.snd)).map Prod.fst)), I.laid (t' := s.toks) (fun _ _ => PyProof.Rows.sortedAll_old) (Nat.le_succ _) ⟨hlen, out.toArray.toList, ep, hv, he'⟩, rfl, q _ (I.hok.fresh (Nat.le_succ _))⟩
  unfold sortB at hb
  rw [Bool.and_eq_true] at hb
  have hal := allAl_ok hb.1
  have hb2 := hb.2
  rw [Bool.or_eq_true, Bool.or_eq_true] at hb2
  have main : PySem.W.Sortable ds → _ := fun hk => PySem.W.sorted_data (E := X.xe) (Q := EP X pins σ Q) (prog := X.prog) (w := X.w) (A := X.A) (s := s) hl.isList e1 e2 (by rw [e3]; exact hal) (by rw [e3]; exact hk) (by rw [e4]; exact mill h6) hdm
    fun out ho eo => fin out eo
  rcases hb2 with (hk | hk) | hk
  · exact main (tupNe_ok hk)
  · exact main (notTN_ok hk)
  · rw [Bool.and_eq_true, beq_iff_eq] at hk
    obtain ⟨h1, hnn⟩ := hk
    obtain ⟨d, rfl⟩ := List.length_eq_one_iff.mp h1
    cases hd with
    | cons d1 dr =>
      cases dr
      cases rv with
      | cons r1 rr =>
        cases rr
        exact sorted_one hl.isList r1 (Dp.reads I _ _ _ d1 r1) (hal d (List.mem_singleton_self d) d (List.mem_singleton_self d)) (by rintro rfl; cases hnn) (hdm (_, d) (List.mem_singleton_self _)) fun out eo => fin out eo
/-! the results -/
def sortedW (ws : List W) (S : Sto) : R W := match ws with
  | [w] => match getL S w with
    | some us => match us.mapM (W.pd S 59) with
      | some ds => if us.length ≤ 1000000 ∧ sortB ds = true then .ok (.loc S.length) (S ++ [.lst (((us.zip ds).mergeSort (PySem.W.dataLe false Prod.snd)).map Prod.fst)]) else .no
      | none => .no
    | none => .no
  | _ => .no
theorem mapM_len {A B : Type} {g : A → Option B} : ∀ {l : List A} {r : List B}, l.mapM g = some r → r.length = l.length
  | [], r, e => by cases (show some [] = some r from e); rfl
  | a :: l, r, e => by
    rw [mapM_cons] at e
    cases e1 : g a with
    | none => rw [e1] at e; cases e
    | some b =>
      rw [e1] at e
      cases e2 : l.mapM g with
      | none => rw [e2] at e; cases e
      | some r' =>
        rw [e2] at e
        cases e
        rw [List.length_cons, List.length_cons, mapM_len e2]
theorem rpl_zip {f : List Addr} {H : Hp} : ∀ {ws : List W} {vs : List V}, Rpl X.K X.mg f H ws vs → ∀ z ∈ ws.zip vs, Rp X.K X.mg f H z.1 z.2
  | [], _, _, z, hz => by simp at hz
  | w :: ws, vs, h, z, hz => by
    unfold Rpl at h
    obtain ⟨v, r, rfl, q, t⟩ := h
    rcases List.mem_cons.mp (show z ∈ (w, v) :: ws.zip r from hz) with rfl | hz
    · exact q
    · exact rpl_zip t z hz
theorem rpl_map {A : Type} {f : List Addr} {H : Hp} (g : A → W) (k : A → V) : ∀ {l : List A}, (∀ z ∈ l, Rp X.K X.mg f H (g z) (k z)) → Rpl X.K X.mg f H (l.map g) (l.map k)
  | [], _ => Rpl.nil
  | a :: l, h => .cons (h a (List.mem_cons_self ..)) (rpl_map g k fun z hz => h z (List.mem_cons_of_mem _ hz))
theorem snd_sorted : SndL X Z (rSortW X.K) sortedW := by
  intro f H st S ws vs Q s r p
  unfold sortedW at p
  split at p
  · rename_i w
    obtain ⟨v, rfl, h⟩ := r.oneE
    split at p
    · rename_i us e
      split at p
      · rename_i ds e2
        split at p
        · rename_i hb
          obtain ⟨a, vs, rfl, q, rr⟩ := getL_at s h e
          obtain ⟨b1, b2, b3⟩ := pd_all (pd_ok s 59) us vs ds rr e2
          refine ⟨a, vs, ds, rfl, q, by rw [rr.length]; exact hb.1, b1, by omega, hb.2, fun l hl => ?_⟩
          have l1 := rr.length
          have l2 : ds.length = us.length := mapM_len e2
          have c1 : (((us.zip ds).mergeSort (PySem.W.dataLe false Prod.snd)).map Prod.fst) = (((us.zip (vs.zip ds)).mergeSort (PySem.W.dataLe false fun z => z.2.2)).map fun z => z.1) := by
            have : us.zip ds = (us.zip (vs.zip ds)).map fun z => (z.1, z.2.2) := by
              rw [show (fun z : W × V × PyData => (z.1, z.2.2)) = Prod.map id Prod.snd from rfl, ← List.zip_map_right, List.map_snd_zip (by omega)]
            rw [this, ← PySem.W.sort_maps (fun z : W × V × PyData => (z.1, z.2.2)) (r := PySem.W.dataLe false fun z : W × V × PyData => z.2.2) (fun _ _ _ _ => rfl), List.map_map]
            rfl
          have c2 : (((vs.zip ds).mergeSort (PySem.W.dataLe false Prod.snd)).map Prod.fst) = (((us.zip (vs.zip ds)).mergeSort (PySem.W.dataLe false fun z => z.2.2)).map fun z => z.2.1) := by
            have : vs.zip ds = (us.zip (vs.zip ds)).map fun z => z.2 := by
              rw [List.map_snd_zip (by rw [List.length_zip]; omega)]
            rw [this, ← PySem.W.sort_maps (fun z : W × V × PyData => z.2) (r := PySem.W.dataLe false fun z : W × V × PyData => z.2.2) (fun _ _ _ _ => rfl), List.map_map, ← this]
            rfl
          rw [c2]
          rw [c1] at p
          refine p.newL s (rpl_map _ _ fun z hz => ?_) hl
          rw [List.mem_mergeSort] at hz
          have : (z.1, z.2.1) ∈ us.zip vs := by
            obtain ⟨i, hi, ei⟩ := List.mem_iff_getElem.mp hz
            rw [← ei]
            simp only [List.getElem_zip]
            rw [List.length_zip, List.length_zip] at hi
            refine List.mem_iff_getElem.mpr ⟨i, by rw [List.length_zip]; omega, ?_⟩
            simp only [List.getElem_zip]
          exact rpl_zip rr _ this
        · exact p.elim
      · exact p.elim
    · exact p.elim
  · exact p.elim
end
end Ev

set_option Elab.async false
set_option linter.all false
set_option maxRecDepth 100000
/-! Ev10: reasoning about results. -/
namespace Ev
open PySem L2
section
variable {A B : Type}
/-- the result is there and is as Q says -/
def wpR (r : R A) (Q : A → Sto → Prop) : Prop := match r with
  | .ok a S => Q a S
  | _ => False
theorem wpR_ok {a : A} {S : Sto} {Q : A → Sto → Prop} : wpR (.ok a S) Q = Q a S := rfl
theorem wpR_no {Q : A → Sto → Prop} : wpR (.no) Q = False := rfl
theorem wpR_bind {r : R A} {k : A → Sto → R B} {Q : B → Sto → Prop} : wpR (r.bind k) Q = wpR r fun a S => wpR (k a S) Q := by
  cases r <;> rfl
theorem wpR_mono {r : R A} {Q Q' : A → Sto → Prop} (h : wpR r Q) (i : ∀ a S, Q a S → Q' a S) : wpR r Q' := by
  cases r with
  | ok a S => exact i a S h
  | ex _ _ => exact h
  | no => exact h
theorem wpR_ex {r : R A} {Q : A → Sto → Prop} (h : wpR r Q) : ∃ a S, r = .ok a S ∧ Q a S := by
  cases r with
  | ok a S => exact ⟨a, S, rfl, h⟩
  | ex _ _ => exact h.elim
  | no => exact h.elim
theorem wpR_ite {c : Prop} [Decidable c] {x y : R A} {Q : A → Sto → Prop} : wpR (if c then x else y) Q = if c then wpR x Q else wpR y Q := by
  by_cases h : c <;> simp [h]
/-- a statement's end -/
def wpS (r : RS) (Q : RS → Prop) : Prop := match r with
  | .no => False
  | .ex _ _ _ => False
  | r => Q r
theorem wpS_nx {s : En} {S : Sto} {Q : RS → Prop} : wpS (.nx s S) Q = Q (.nx s S) := rfl
theorem wpS_rt {w : W} {S : Sto} {Q : RS → Prop} : wpS (.rt w S) Q = Q (.rt w S) := rfl
theorem wpS_mono {r : RS} {Q Q' : RS → Prop} (h : wpS r Q) (i : ∀ r, Q r → Q' r) : wpS r Q' := by
  cases r <;> first | exact i _ h | exact h
/-- what follows a statement -/
def Kn (b : SV) (Q : RS → Prop) : RS → Prop
  | .nx s S => wpS (b s S) Q
  | r => Q r
section
variable {a b : SV} {s : En} {S : Sto} {Q : RS → Prop} {m : EV} {c : BV} {w : W}
theorem Kn_nx : Kn b Q (.nx s S) = wpS (b s S) Q := rfl
theorem Kn_rt : Kn b Q (.rt w S) = Q (.rt w S) := rfl
theorem Kn_bk : Kn b Q (.bk s S) = Q (.bk s S) := rfl
theorem Kn_ct : Kn b Q (.ct s S) = Q (.ct s S) := rfl
theorem wpS_seq : wpS (sSeq a b s S) Q = wpS (a s S) (Kn b Q) := by
  unfold sSeq
  cases e : a s S <;> rfl
theorem wpS_toS {r : R A} {k : A → Sto → RS} : wpS (r.toS s k) Q = wpR r fun a S => wpS (k a S) Q := by
  cases r <;> rfl
theorem wpS_ret : wpS (sRet m s S) Q = wpR (m s S) fun w S => Q (.rt w S) := by unfold sRet; rw [wpS_toS]; rfl
theorem wpS_expr : wpS (sExpr m s S) Q = wpR (m s S) fun _ S => Q (.nx s S) := by unfold sExpr; rw [wpS_toS]; rfl
theorem wpS_set {i : Nat} : wpS (sSet i m s S) Q = wpR (m s S) fun w S => Q (.nx (s.set i (some w)) S) := by unfold sSet; rw [wpS_toS]; rfl
theorem wpS_ite {p : Prop} [Decidable p] {x y : RS} : wpS (if p then x else y) Q = if p then wpS x Q else wpS y Q := by
  by_cases h : p <;> simp [h]
theorem wpS_if : wpS (sIf c a b s S) Q = wpR (c s S) fun k S => if k = true then wpS (a s S) Q else wpS (b s S) Q := by
  unfold sIf; rw [wpS_toS]; congr 1; funext k S; rw [wpS_ite]
theorem wpS_nil : wpS (sNil s S) Q = Q (.nx s S) := rfl
theorem wpS_cnt : wpS (sCnt s S) Q = Q (.ct s S) := rfl
theorem wpS_brk : wpS (sBrk s S) Q = Q (.bk s S) := rfl
theorem wpS_retN : wpS (sRetN s S) Q = Q (.rt .non S) := rfl
theorem wpS_asg {t : Tg} : wpS (sAsg t m s S) Q = wpR (m s S) fun w S => ∃ s', Tg.put t w s = some s' ∧ Q (.nx s' S) := by
  unfold sAsg; rw [wpS_toS]; congr 1; funext w S
  cases e : Tg.put t w s with
  | none => simp [wpS]
  | some s' => simp [wpS]
theorem wpS_put {mv mo mi : EV} : wpS (sPut mv mo mi s S) Q = wpR (mv s S) fun v S => wpR (mo s S) fun o S => wpR (mi s S) fun i S => ∃ S', setO o i v S = some S' ∧ Q (.nx s S') := by
  unfold sPut; rw [wpS_toS]; congr 1; funext v S; rw [wpS_toS]; congr 1; funext o S; rw [wpS_toS]; congr 1; funext i S
  cases e : setO o i v S with
  | none => simp [wpS]
  | some s' => simp [wpS]
end
/-- a def's end -/
def onRet (Q : W → Sto → Prop) : RS → Prop
  | .nx _ S => Q .non S
  | .rt w S => Q w S
  | _ => False
/-- a loop turn's end -/
def onNx (I : En → Sto → Prop) (Q : RS → Prop) : RS → Prop
  | .nx s S => I s S
  | .ct s S => I s S
  | .bk s S => Q (.nx s S)
  | .rt w S => Q (.rt w S)
  | _ => False
section
variable {Q : W → Sto → Prop} {I : En → Sto → Prop} {P : RS → Prop} {s : En} {S : Sto} {w : W}
theorem onRet_nx : onRet Q (.nx s S) = Q .non S := rfl
theorem onRet_rt : onRet Q (.rt w S) = Q w S := rfl
theorem onNx_nx : onNx I P (.nx s S) = I s S := rfl
theorem onNx_ct : onNx I P (.ct s S) = I s S := rfl
theorem onNx_bk : onNx I P (.bk s S) = P (.nx s S) := rfl
theorem onNx_rt : onNx I P (.rt w S) = P (.rt w S) := rfl
end
theorem wpR_run {n : Nat} {m : SV} {ws : List W} {S : Sto} {Q : W → Sto → Prop} : wpR (runF n m ws S) Q = wpS (m (startE n ws) S) (onRet Q) := by
  unfold runF
  cases m (startE n ws) S <;> rfl
section
variable {s : En} {S : Sto} {Q : W → Sto → Prop} {w : W} {o : Option W} {i : Nat}
theorem var_0 : eVar 0 (some w :: s) S = .ok w S := rfl
theorem var_S : eVar (i + 1) (o :: s) S = eVar i s S := rfl
theorem wpR_lc {mi : IV} {t : Tg} {c : BV} {m : EV} {vs : List Nat} : wpR (eLc mi t c m vs s S) Q = wpR (mi s S) fun it S => wpR (lcLoop it.item t c m (wipeE s vs) it.fuel 0 [] S) fun acc S => Q (.loc S.length) (S ++ [.lst acc]) := by
  unfold eLc
  rw [wpR_bind]
  congr 1; funext it S
  rw [wpR_bind]; rfl
theorem wpS_for {mi : IV} {t : Tg} {b : SV} {Q : RS → Prop} : wpS (sFor mi t b s S) Q = wpR (mi s S) fun it S => wpS (loopS it.item t b it.fuel 0 s S) Q := by
  unfold sFor; rw [wpS_toS]
end
/-- a loop over len items -/
theorem wp_loop {it : Sto → Nat → Option (Option W)} {t : Tg} {b : SV} {Q : RS → Prop} {len : Nat} (I : Nat → En → Sto → Prop)
    (hs : ∀ i s S, i < len → I i s S → ∃ w s1, it S i = some (some w) ∧ Tg.put t w s = some s1 ∧ wpS (b s1 S) fun r => match r with
      | .nx s2 S2 => I (i + 1) s2 S2
      | .ct s2 S2 => I (i + 1) s2 S2
      | .bk s2 S2 => Q (.nx s2 S2)
      | .rt w S2 => Q (.rt w S2)
      | _ => False)
    (hend : ∀ s S, I len s S → it S len = some none ∧ Q (.nx s S)) : ∀ (n i : Nat) (s : En) (S : Sto), len < i + n → i ≤ len → I i s S → wpS (loopS it t b n i s S) Q
  | 0, i, s, S, h1, h2, _ => by omega
  | n + 1, i, s, S, h1, h2, hi => by
    unfold loopS
    rcases Nat.lt_or_ge i len with h | h
    · obtain ⟨w, s1, e1, e2, hb⟩ := hs i s S h hi
      rw [e1]
      dsimp only
      rw [e2]
      dsimp only
      cases e3 : b s1 S with
      | nx s2 S2 => rw [e3] at hb; exact wp_loop I hs hend n (i + 1) s2 S2 (by omega) (by omega) hb
      | ct s2 S2 => rw [e3] at hb; exact wp_loop I hs hend n (i + 1) s2 S2 (by omega) (by omega) hb
      | bk s2 S2 => rw [e3] at hb; exact hb
      | rt w2 S2 => rw [e3] at hb; exact hb
      | ex x s2 S2 => rw [e3] at hb; exact hb
      | no => rw [e3] at hb; exact hb
    · obtain rfl : i = len := by omega
      obtain ⟨e1, hq⟩ := hend s S hi
      rw [e1]
      exact hq
theorem wp_loopN {it : Sto → Nat → Option (Option W)} {t : Tg} {b : SV} {Q : RS → Prop} (len : Nat) (I : Nat → En → Sto → Prop) {n : Nat} {s : En} {S : Sto} (hn : len < n) (h0 : I 0 s S)
    (hs : ∀ i s S, i < len → I i s S → ∃ w s1, it S i = some (some w) ∧ Tg.put t w s = some s1 ∧ wpS (b s1 S) (onNx (I (i + 1)) Q))
    (hend : ∀ s S, I len s S → it S len = some none ∧ Q (.nx s S)) : wpS (loopS it t b n 0 s S) Q := by
  refine wp_loop I (fun i s S hi h => ?_) hend n 0 s S (by omega) (by omega) h0
  obtain ⟨w, s1, e1, e2, e3⟩ := hs i s S hi h
  exact ⟨w, s1, e1, e2, wpS_mono e3 fun r hr => by cases r <;> exact hr⟩
theorem wp_lcl {it : Sto → Nat → Option (Option W)} {t : Tg} {c : BV} {m : EV} {s0 : En} {Q : List W → Sto → Prop} {len : Nat} (I : Nat → List W → Sto → Prop)
    (hs : ∀ i acc S, i < len → I i acc S → ∃ w s1, it S i = some (some w) ∧ Tg.put t w s0 = some s1 ∧ wpR (c s1 S) fun k S => if k = true then wpR (m s1 S) fun x S => acc.length < 1000000 ∧ I (i + 1) (acc ++ [x]) S else I (i + 1) acc S)
    (hend : ∀ acc S, I len acc S → it S len = some none ∧ Q acc S) : ∀ (n i : Nat) (acc : List W) (S : Sto), len < i + n → i ≤ len → I i acc S → wpR (lcLoop it t c m s0 n i acc S) Q
  | 0, i, acc, S, h1, h2, _ => by omega
  | n + 1, i, acc, S, h1, h2, hi => by
    unfold lcLoop
    rcases Nat.lt_or_ge i len with h | h
    · obtain ⟨w, s1, e1, e2, hb⟩ := hs i acc S h hi
      rw [e1]
      dsimp only
      rw [e2]
      dsimp only
      cases e3 : c s1 S with
      | ok k S1 =>
        rw [e3] at hb
        cases k with
        | true =>
          have hb' : wpR (m s1 S1) fun x S => acc.length < 1000000 ∧ I (i + 1) (acc ++ [x]) S := hb
          dsimp only
          cases e4 : m s1 S1 with
          | ok x S2 =>
            rw [e4] at hb'
            dsimp only
            rw [if_pos hb'.1]
            exact wp_lcl I hs hend n (i + 1) _ S2 (by omega) (by omega) hb'.2
          | ex _ _ => rw [e4] at hb'; exact hb'.elim
          | no => rw [e4] at hb'; exact hb'.elim
        | false => exact wp_lcl I hs hend n (i + 1) acc S1 (by omega) (by omega) hb
      | ex _ _ => rw [e3] at hb; exact hb.elim
      | no => rw [e3] at hb; exact hb.elim
    · obtain rfl : i = len := by omega
      obtain ⟨e1, hq⟩ := hend acc S hi
      rw [e1]
      exact hq
theorem wp_lclN {it : Sto → Nat → Option (Option W)} {t : Tg} {c : BV} {m : EV} {s0 : En} {Q : List W → Sto → Prop} (len : Nat) (I : Nat → List W → Sto → Prop) {n : Nat} {S : Sto} (hn : len < n) (h0 : I 0 [] S)
    (hs : ∀ i acc S, i < len → I i acc S → ∃ w s1, it S i = some (some w) ∧ Tg.put t w s0 = some s1 ∧ wpR (c s1 S) fun k S => if k = true then wpR (m s1 S) fun x S => acc.length < 1000000 ∧ I (i + 1) (acc ++ [x]) S else I (i + 1) acc S)
    (hend : ∀ acc S, I len acc S → it S len = some none ∧ Q acc S) : wpR (lcLoop it t c m s0 n 0 [] S) Q := wp_lcl I hs hend n 0 [] S (by omega) (by omega) h0
end
theorem ifF {c P : Prop} [Decidable c] : (if c then P else False) = (c ∧ P) := by by_cases h : c <;> simp [h]
theorem cmul_r {i j : Int} (h1 : -(2 ^ 64) < j) (h2 : j < 2 ^ 64) : CMul i j := .inr ⟨h1, h2⟩
theorem cmul_l {i j : Int} (h1 : -(2 ^ 64) < i) (h2 : i < 2 ^ 64) : CMul i j := .inl ⟨h1, h2⟩
theorem ixN_nat {n j : Nat} (h : j < n) : ixN n (j : Int) = some j := by
  unfold ixN
  rw [if_pos (by omega), if_pos (by omega)]
  simp
theorem ixN_of {n : Nat} {i : Int} (h0 : 0 ≤ i) (h : i < n) : ixN n i = some i.toNat := by
  unfold ixN
  rw [if_pos h0, if_pos h]
theorem atI_of {A : Type} {l : List A} {i : Int} {w : A} (h0 : 0 ≤ i) (h : l[i.toNat]? = some w) : atI l i = some w := by
  have := (List.getElem?_eq_some_iff.mp h).1
  unfold atI
  rw [ixN_of h0 (by omega)]
  exact h
theorem atI_nat {A : Type} {l : List A} {j : Nat} {w : A} (h : l[j]? = some w) : atI l (j : Int) = some w := atI_of (by omega) (by simpa using h)
section
variable {A : Type} {a b c d e : A} {l : List A}
theorem atI_0 : atI (a :: l) 0 = some a := atI_of (by omega) rfl
theorem atI_1 : atI (a :: b :: l) 1 = some b := atI_of (by omega) rfl
theorem atI_2 : atI (a :: b :: c :: l) 2 = some c := atI_of (by omega) rfl
theorem atI_3 : atI (a :: b :: c :: d :: l) 3 = some d := atI_of (by omega) rfl
theorem atI_4 : atI (a :: b :: c :: d :: e :: l) 4 = some e := atI_of (by omega) rfl
end
/-! ### operations on values known in part -/
section
variable {i j : Int} {x y : Str} {S : Sto} {a b : List W} {m n : Nat} {w v : W}
theorem addW_ii : addW (.int i) (.int j) S = .ok (.int (i + j)) S := rfl
theorem addW_ss : addW (.str x) (.str y) S = if x.length + y.length ≤ 1000000 then .ok (.str (x ++ y)) S else .no := rfl
theorem addW_tt : addW (.tup a) (.tup b) S = if a.length + b.length ≤ 1000000 then .ok (.tup (a ++ b)) S else .no := rfl
theorem addW_ll : addW (.loc m) (.loc n) S = match S[m]?, S[n]? with
    | some (.lst a), some (.lst b) => if a.length + b.length ≤ 1000000 then .ok (.loc S.length) (S ++ [.lst (a ++ b)]) else .no
    | _, _ => .no := rfl
theorem subW_ii : subW (.int i) (.int j) S = .ok (.int (i - j)) S := rfl
theorem mulW_ii : mulW (.int i) (.int j) S = if CMul i j then .ok (.int (i * j)) S else .no := rfl
theorem modW_ii : modW (.int i) (.int j) S = if 0 < j then .ok (.int (i % j)) S else .no := rfl
theorem fdivW_ii : fdivW (.int i) (.int j) S = if 0 < j ∧ j < 1073741824 then .ok (.int (i / j)) S else .no := rfl
theorem powW_ii : powW (.int i) (.int j) S = if 0 ≤ j ∧ j ≤ 1000000 ∧ i.natAbs < 2 ^ 64 then .ok (.int (i ^ j.toNat)) S else .no := rfl
theorem negW_i : negW (.int i) S = .ok (.int (-i)) S := rfl
theorem cmpI_ii {g : Int → Int → Bool} : cmpI g (.int i) (.int j) S = .ok (.bl (g i j)) S := rfl
theorem isW_n : isW w .non S = .ok (.bl (isNon w)) S := rfl
theorem isnW_n : isnW w .non S = .ok (.bl (!isNon w)) S := rfl
theorem isNon_n : isNon .non = true := rfl
theorem isNon_b {k : Bool} : isNon (.bl k) = false := rfl
theorem isNon_i : isNon (.int i) = false := rfl
theorem isNon_s : isNon (.str x) = false := rfl
theorem isNon_t : isNon (.tup a) = false := rfl
theorem isNon_l : isNon (.loc n) = false := rfl
theorem max2W_ii : max2W [.int i, .int j] S = .ok (.int (if j > i then j else i)) S := rfl
theorem min2W_ii : min2W [.int i, .int j] S = .ok (.int (if j < i then j else i)) S := rfl
theorem intW_i : intW [.int i] S = .ok (.int i) S := rfl
theorem intW_b {k : Bool} : intW [.bl k] S = .ok (.int (if k then 1 else 0)) S := rfl
theorem lenW_t : lenW [.tup a] S = .ok (.int a.length) S := rfl
theorem lenW_r : lenW [.rol a] S = .ok (.int a.length) S := rfl
theorem wpR_ixT {Q : W → Sto → Prop} : wpR (ixW (.tup a) (.int i) S) Q = ∃ w, atI a i = some w ∧ Q w S := by
  unfold ixW; dsimp only
  cases atI a i <;> simp [wpR]
theorem wpR_ixR {Q : W → Sto → Prop} : wpR (ixW (.rol a) (.int i) S) Q = ∃ w, atI a i = some w ∧ Q w S := by
  unfold ixW; dsimp only
  cases atI a i <;> simp [wpR]
theorem wpR_ixL {Q : W → Sto → Prop} (h : S[n]? = some (.lst a)) : wpR (ixW (.loc n) (.int i) S) Q = ∃ w, atI a i = some w ∧ Q w S := by
  unfold ixW; dsimp only; rw [h]; dsimp only
  cases atI a i <;> simp [wpR]
theorem wpR_ixS {Q : W → Sto → Prop} : wpR (ixW (.str x) (.int i) S) Q = (x.length ≤ 1000000 ∧ ∃ c, atI x.cps.toList i = some c ∧ Q (.str (SX.S [c])) S) := by
  unfold ixW; dsimp only
  by_cases h : x.length ≤ 1000000
  · rw [if_pos h]
    cases atI x.cps.toList i <;> simp [wpR, h]
  · rw [if_neg h]; simp [wpR, h]
theorem wpR_ixD {Q : W → Sto → Prop} {kvs : List (W × W)} {q : Key} {k : W} (h : S[n]? = some (.dct kvs)) (hk : W.key? k = some q) : wpR (ixW (.loc n) k S) Q = ∃ w, dlook kvs q = some w ∧ Q w S := by
  unfold ixW; dsimp only; rw [h]; dsimp only; rw [hk]; dsimp only
  cases dlook kvs q <;> simp [wpR]
theorem setO_l (h : S[n]? = some (.lst a)) {v : W} {j : Nat} (hj : ixN a.length i = some j) : setO (.loc n) (.int i) v S = some (S.set n (.lst (a.set j v))) := by
  unfold setO; dsimp only; rw [h]; dsimp only; rw [hj]
theorem setO_L (h : S[n]? = some (.lst a)) {v : W} : setO (.loc n) (.int i) v S = (ixN a.length i).map fun j => S.set n (.lst (a.set j v)) := by
  unfold setO; dsimp only; rw [h]; dsimp only
  cases ixN a.length i <;> rfl
theorem setO_d {kvs : List (W × W)} {q : Key} {k : W} (h : S[n]? = some (.dct kvs)) (hk : W.key? k = some q) (hl : kvs.length < 1000000) : setO (.loc n) k v S = some (S.set n (.dct (dput kvs k q v))) := by
  unfold setO; dsimp only; rw [h]; dsimp only; rw [hk]; dsimp only; rw [if_pos hl]
theorem lenW_l (h : S[n]? = some (.lst a)) : lenW [.loc n] S = .ok (.int a.length) S := by
  unfold lenW; dsimp only; unfold lenO; dsimp only; rw [h]
theorem lenW_d {kvs : List (W × W)} (h : S[n]? = some (.dct kvs)) : lenW [.loc n] S = .ok (.int kvs.length) S := by
  unfold lenW; dsimp only; unfold lenO; dsimp only; rw [h]
theorem lenW_s : lenW [.str x] S = if x.length ≤ 1000000 then .ok (.int x.length) S else .no := by
  unfold lenW; dsimp only; unfold lenO; dsimp only
  by_cases h : x.length ≤ 1000000
  · rw [if_pos h, if_pos h]
  · rw [if_neg h, if_neg h]
theorem listW_t : listW [.tup a] S = .ok (.loc S.length) (S ++ [.lst a]) := rfl
theorem listW_l (h : S[n]? = some (.lst a)) : listW [.loc n] S = .ok (.loc S.length) (S ++ [.lst a]) := by
  unfold listW; dsimp only; unfold itemsO; dsimp only; rw [h]
theorem listW_d {kvs : List (W × W)} (h : S[n]? = some (.dct kvs)) : listW [.loc n] S = .ok (.loc S.length) (S ++ [.lst (kvs.map (·.1))]) := by
  unfold listW; dsimp only; unfold itemsO; dsimp only; rw [h]
theorem tupleW_t : tupleW [.tup a] S = .ok (.tup a) S := rfl
theorem tupleW_l (h : S[n]? = some (.lst a)) : tupleW [.loc n] S = .ok (.tup a) S := by
  unfold tupleW; dsimp only; unfold getL; dsimp only; rw [h]
theorem appendW_l (h : S[n]? = some (.lst a)) (hl : a.length < 1000000) : appendW (.loc n) [w] S = .ok .non (S.set n (.lst (a ++ [w]))) := by
  unfold appendW; dsimp only; rw [h]; dsimp only; rw [if_pos hl]
theorem addW_l {c : List W} (h : S[m]? = some (.lst a)) (h' : S[n]? = some (.lst c)) (hl : a.length + c.length ≤ 1000000) : addW (.loc m) (.loc n) S = .ok (.loc S.length) (S ++ [.lst (a ++ c)]) := by
  rw [addW_ll, h, h']; dsimp only; rw [if_pos hl]
theorem truW_b {k : Bool} : truW (.bl k) S = .ok k S := rfl
theorem truW_n : truW .non S = .ok false S := rfl
theorem truW_i : truW (.int i) S = .ok (i != 0) S := rfl
theorem truW_t : truW (.tup a) S = .ok (!a.isEmpty) S := rfl
theorem truW_l (h : S[n]? = some (.lst a)) : truW (.loc n) S = .ok (!a.isEmpty) S := by
  unfold truW; dsimp only; rw [h]
theorem eqW_ii : eqW (.int i) (.int j) S = .ok (.bl (i == j)) S := rfl
theorem neW_ii : neW (.int i) (.int j) S = .ok (.bl (!(i == j))) S := rfl
theorem eqW_ss : eqW (.str x) (.str y) S = .ok (.bl (x == y)) S := rfl
theorem neW_ss : neW (.str x) (.str y) S = .ok (.bl (!(x == y))) S := rfl
theorem eqW_bb {b c : Bool} : eqW (.bl b) (.bl c) S = .ok (.bl (b == c)) S := rfl
theorem ixN_0 : ixN (m + 1) 0 = some 0 := ixN_of (by omega) (by omega)
theorem ixN_1 : ixN (m + 2) 1 = some 1 := ixN_of (by omega) (by omega)
theorem ixN_2 : ixN (m + 3) 2 = some 2 := ixN_of (by omega) (by omega)
theorem ixN_3 : ixN (m + 4) 3 = some 3 := ixN_of (by omega) (by omega)
theorem getE_set_self {o : O} : (S.set n o)[n]? = S[n]?.map fun _ => o := by
  by_cases h : n < S.length
  · rw [List.getElem?_set_self h, List.getElem?_eq_getElem h]; rfl
  · rw [List.getElem?_eq_none (by rw [List.length_set]; omega), List.getElem?_eq_none (by omega)]; rfl
theorem wpR_rng1 {e : EV} {s : En} {Q : IT → Sto → Prop} : wpR (iRng1 e s S) Q = wpR (e s S) fun w S => ∃ j, w = .int j ∧ (-1000000 ≤ j ∧ j ≤ 1000000) ∧ Q ⟨rngIt 0 j.toNat, j.toNat + 1⟩ S := by
  unfold iRng1
  rw [wpR_bind]; congr 1; funext w S
  cases w <;> try (simp [wpR]; done)
  rename_i k
  dsimp only
  by_cases h : -1000000 ≤ k ∧ k ≤ 1000000
  · rw [if_pos h]; simp [wpR, h]
  · rw [if_neg h]; simp only [wpR_no, eq_iff_iff, false_iff, not_exists]; rintro j ⟨e, h2, _⟩; cases e; exact h h2
theorem wpR_seq {e : EV} {s : En} {Q : IT → Sto → Prop} : wpR (iSeq e s S) Q = wpR (e s S) fun w S => ∃ k, seqLen w S = some k ∧ Q ⟨seqIt w, k + 1⟩ S := by
  unfold iSeq
  rw [wpR_bind]; congr 1; funext w S
  cases seqLen w S <;> simp [wpR]
end
theorem rng_lt {lo : Int} {n i : Nat} {S : Sto} (h : i < n) : rngIt lo n S i = some (some (.int (lo + i))) := if_pos h
theorem rng0_lt {n i : Nat} {S : Sto} (h : i < n) : rngIt 0 n S i = some (some (.int i)) := by rw [rng_lt h, Int.zero_add]
theorem gD_at {A : Type} {l : List A} {i : Nat} {d : A} (h : i < l.length) : l.getD i d = l[i] := by simp [List.getD, List.getElem?_eq_getElem h]
theorem rng_end {lo : Int} {n : Nat} {S : Sto} : rngIt lo n S n = some none := if_neg (Nat.lt_irrefl n)
/-! ### texts -/
section
variable {a b : List Nat} {S : Sto} {n : Nat}
theorem slW_to {i : Int} (h : 0 ≤ i) (hl : a.length ≤ 1000000) : slW (.str (SX.S a)) none (some i) S = .ok (.str (SX.S (a.take i.toNat))) S := by
  unfold slW; dsimp only
  rw [SX.S_len, if_pos hl, C8.cutS_slice, SX.slice_to h]
theorem slW_from {i : Int} (h : 0 ≤ i) (hl : a.length ≤ 1000000) : slW (.str (SX.S a)) (some i) none S = .ok (.str (SX.S (a.drop i.toNat))) S := by
  unfold slW; dsimp only
  rw [SX.S_len, if_pos hl, C8.cutS_slice, SX.slice_from h]
theorem addW_SS : addW (.str (SX.S a)) (.str (SX.S b)) S = if a.length + b.length ≤ 1000000 then .ok (.str (SX.S (a ++ b))) S else .no := by
  rw [addW_ss, SX.S_len, SX.S_len, SX.S_cat]
theorem sindex_ok {c : Nat} (h : c ∈ a) : ∃ i : Nat, ∀ S, sindexW (.str (SX.S a)) [.str (SX.S [c])] S = .ok (.int i) S := by
  unfold sindexW
  dsimp only
  have := SX.in_one a c
  cases e : Builtin.Str.occurrences (SX.S a) (SX.S [c]) 0 (SX.S a).length 1 with
  | nil => rw [e] at this; simp [h] at this
  | cons i r => exact ⟨i, fun _ => rfl⟩
theorem strs_of (l : List (List Nat)) : strsOf (l.map fun w => .str (SX.S w)) = some (l.map SX.S) := by
  induction l with
  | nil => rfl
  | cons x l ih => rw [List.map_cons, strsOf, ih]; rfl
theorem joinL_nil : ∀ l : List (List Nat), TL.joinL [] l = l.flatten
  | [] => rfl
  | [p] => by simp [TL.joinL]
  | p :: q :: r => by
    show p ++ ([] ++ TL.joinL [] (q :: r)) = _
    rw [joinL_nil (q :: r)]; simp
theorem joinW_l {l : List (List Nat)} (h : S[n]? = some (.lst (l.map fun w => .str (SX.S w)))) (hl : (l.map (·.length)).sum ≤ 1000000) : joinW (.str (SX.S [])) [.loc n] S = .ok (.str (SX.S l.flatten)) S := by
  unfold joinW
  dsimp only
  unfold getL
  dsimp only
  rw [h]
  dsimp only
  rw [strs_of]
  dsimp only
  rw [SX.lens, if_pos (by simpa [SX.S_len] using hl), SX.join_S, joinL_nil]
theorem tyOk_s {x : Str} : tyOkW "str" (.str x) S = true := rfl
theorem tyOk_l {ws : List W} (h : S[n]? = some (.lst ws)) : tyOkW "list" (.loc n) S = true := by
  unfold tyOkW; dsimp only; rw [h]; rfl
theorem tyOk_d {ws : List (W × W)} (h : S[n]? = some (.dct ws)) : tyOkW "dict" (.loc n) S = true := by
  unfold tyOkW; dsimp only; rw [h]; rfl
end
/-! ### stores -/
/-- S' is S but for the places M and new ones -/
structure Xt (M : List Nat) (S S' : Sto) : Prop where
  len : S.length ≤ S'.length
  at_ : ∀ (k : Nat) (o : O), k ∉ M → S[k]? = some o → S'[k]? = some o
theorem Xt.refl {M : List Nat} {S : Sto} : Xt M S S := ⟨Nat.le_refl _, fun _ _ _ h => h⟩
theorem Xt.trans {M : List Nat} {S S1 S2 : Sto} (x : Xt M S S1) (y : Xt M S1 S2) : Xt M S S2 := ⟨Nat.le_trans x.len y.len, fun k o h e => y.at_ k o h (x.at_ k o h e)⟩
theorem Xt.mono {M M' : List Nat} {S S' : Sto} (x : Xt M S S') (h : ∀ k ∈ M, k ∈ M') : Xt M' S S' := ⟨x.len, fun k o n e => x.at_ k o (fun z => n (h k z)) e⟩
theorem Xt.app {M : List Nat} {S T : Sto} : Xt M S (S ++ T) := ⟨by simp, fun k o _ e => by rw [List.getElem?_append_left (List.getElem?_eq_some_iff.mp e).1]; exact e⟩
theorem Xt.set {M : List Nat} {S : Sto} {i : Nat} {o : O} (h : i ∈ M) : Xt M S (S.set i o) := ⟨by simp, fun k o' n e => by rw [List.getElem?_set_ne (fun (z : i = k) => n (by rw [← z]; exact h))]; exact e⟩
theorem Xt.nil {M : List Nat} {S S' : Sto} (x : Xt [] S S') : Xt M S S' := x.mono (fun _ h => by cases h)
theorem Xt.get {M : List Nat} {S S' : Sto} (x : Xt M S S') {k : Nat} {o : O} (h : S[k]? = some o) (n : k ∉ M) : S'[k]? = some o := x.at_ k o n h
theorem Xt.get0 {S S' : Sto} (x : Xt [] S S') {k : Nat} {o : O} (h : S[k]? = some o) : S'[k]? = some o := x.at_ k o (by simp) h
theorem lt_at {S : Sto} {k : Nat} {o : O} (h : S[k]? = some o) : k < S.length := (List.getElem?_eq_some_iff.mp h).1
theorem at_new' {S : Sto} {o : O} : (S ++ [o])[S.length]? = some o := by simp
theorem at_set' {S : Sto} {i : Nat} {o o' : O} (h : S[i]? = some o) : (S.set i o')[i]? = some o' := List.getElem?_set_self (lt_at h)
/-- what is new was no place ahead of it: dropping M's new places -/
theorem Xt.drop {M M' : List Nat} {S S' : Sto} (x : Xt M S S') (h : ∀ k ∈ M, k < S.length → k ∈ M') : Xt M' S S' := ⟨x.len, fun k o n e => x.at_ k o (fun z => n (h k z (lt_at e))) e⟩
theorem Xt.setN {M : List Nat} {S S1 : Sto} {p : Nat} {o : O} (x : Xt M S S1) (hp : S.length ≤ p) : Xt M S (S1.set p o) := ⟨by rw [List.length_set]; exact x.len, fun k o' n e => by
  have := lt_at e
  rw [List.getElem?_set_ne (by omega)]; exact x.at_ k o' n e⟩
theorem Xt.setI {M : List Nat} {S S1 : Sto} {p : Nat} {o : O} (x : Xt M S S1) (hp : p ∈ M) : Xt M S (S1.set p o) := x.trans (.set hp)
theorem Xt.appI {M : List Nat} {S S1 T : Sto} (x : Xt M S S1) : Xt M S (S1 ++ T) := x.trans .app
theorem at_app {S T : Sto} {k : Nat} {o : O} (h : S[k]? = some o) : (S ++ T)[k]? = some o := by rw [List.getElem?_append_left (lt_at h)]; exact h
theorem at_ne {S : Sto} {k p : Nat} {o o' : O} (h : S[k]? = some o) (n : p ≠ k) : (S.set p o')[k]? = some o := by rw [List.getElem?_set_ne n]; exact h
end Ev

set_option Elab.async false
set_option linter.all false
set_option maxRecDepth 100000
/-! Ev11: lists, dicts, loops over them. -/
namespace Ev
open PySem L2
section
variable {S : Sto} {n : Nat} {ws : List W}
theorem seqLen_l (h : S[n]? = some (.lst ws)) : seqLen (.loc n) S = some ws.length := by
  unfold seqLen; dsimp only; rw [h]
theorem seqLen_t : seqLen (.tup ws) S = some ws.length := rfl
theorem seqLen_r : seqLen (.rol ws) S = some ws.length := rfl
theorem seqIt_l (h : S[n]? = some (.lst ws)) {i : Nat} : seqIt (.loc n) S i = some ws[i]? := by
  unfold seqIt; dsimp only; rw [h]
theorem seqIt_t {i : Nat} : seqIt (.tup ws) S i = some ws[i]? := rfl
theorem seqIt_r {i : Nat} : seqIt (.rol ws) S i = some ws[i]? := rfl
theorem cutW_to {k : Nat} : cutW ws none (some (k : Int)) = ws.take k := by
  unfold cutW
  rw [HT.sIx_none, HT.sIx_nat, List.drop_zero, Nat.sub_zero]
  by_cases h : k ≤ ws.length
  · rw [Nat.min_eq_left h]
  · rw [Nat.min_eq_right (by omega), List.take_of_length_le (by omega), List.take_of_length_le (by omega)]
theorem cutW_mid {j k : Nat} : cutW ws (some (j : Int)) (some (k : Int)) = (ws.drop j).take (k - j) := by
  unfold cutW
  rw [HT.sIx_nat, HT.sIx_nat]
  by_cases h : j ≤ ws.length
  · rw [Nat.min_eq_left h]
    by_cases h2 : k ≤ ws.length
    · rw [Nat.min_eq_left h2]
    · rw [Nat.min_eq_right (by omega), List.take_of_length_le (by rw [List.length_drop]; omega), List.take_of_length_le (by rw [List.length_drop]; omega)]
  · rw [List.drop_eq_nil_of_le (by omega), List.drop_eq_nil_of_le (by omega)]; simp
theorem cutW_from {j : Nat} : cutW ws (some (j : Int)) none = ws.drop j := by
  unfold cutW
  rw [HT.sIx_nat, HT.sIx_none]
  by_cases h : j ≤ ws.length
  · rw [Nat.min_eq_left h, List.take_of_length_le (by rw [List.length_drop]; exact Nat.le_refl _)]
  · rw [List.drop_eq_nil_of_le (by omega), List.drop_eq_nil_of_le (by omega)]; simp
theorem cutW_but : cutW ws none (some (-1)) = ws.dropLast := by
  unfold cutW
  rw [HT.sIx_none, List.drop_zero, Nat.sub_zero, List.dropLast_eq_take]
  have e : HT.sIx ws.length ws.length (some (-1)) = ws.length - 1 := by
    unfold HT.sIx
    simp only [show (-1 : Int) < 0 by decide, if_true]
    omega
  rw [e]
theorem slW_l {lo hi : Option Int} (h : S[n]? = some (.lst ws)) : slW (.loc n) lo hi S = .ok (.loc S.length) (S ++ [.lst (cutW ws lo hi)]) := by
  unfold slW; dsimp only; rw [h]
theorem slW_t {lo hi : Option Int} : slW (.tup ws) lo hi S = .ok (.tup (cutW ws lo hi)) S := rfl
theorem slW_r {lo hi : Option Int} : slW (.rol ws) lo hi S = .ok (.loc S.length) (S ++ [.lst (cutW ws lo hi)]) := rfl
/-- a comprehension whose parts change nothing -/
theorem wp_lc_pure {it : Sto → Nat → Option (Option W)} {t : Tg} {c : BV} {m : EV} {s0 : En} {Q : List W → Sto → Prop} (g : W → W) (hit : ∀ i, it S i = some ws[i]?) (hl : ws.length ≤ 1000000)
    (hb : ∀ w ∈ ws, ∃ s1, Tg.put t w s0 = some s1 ∧ c s1 S = .ok true S ∧ m s1 S = .ok (g w) S) (q : Q (ws.map g) S) : wpR (lcLoop it t c m s0 (ws.length + 1) 0 [] S) Q := by
  refine wp_lcl (len := ws.length) (fun k acc S' => S' = S ∧ acc = (ws.take k).map g) ?_ ?_ _ 0 [] S (by omega) (by omega) ⟨rfl, rfl⟩
  · rintro i acc S' hi ⟨rfl, rfl⟩
    obtain ⟨s1, e1, e2, e3⟩ := hb ws[i] (List.getElem_mem hi)
    refine ⟨ws[i], s1, by rw [hit, List.getElem?_eq_getElem hi], e1, ?_⟩
    rw [e2, wpR_ok, if_pos rfl, e3, wpR_ok]
    refine ⟨by rw [List.length_map, List.length_take]; omega, rfl, ?_⟩
    rw [List.take_succ, List.getElem?_eq_getElem hi, List.map_append]; rfl
  · rintro acc S' ⟨rfl, rfl⟩
    refine ⟨by rw [hit, List.getElem?_eq_none (Nat.le_refl _)], ?_⟩
    rw [List.take_length]; exact q
end
/-! ### dicts by texts -/
section
variable {A : Type} {f : A → Str} {g : A → W}
theorem key_str {x : Str} : W.key? (.str x) = some (.inr x) := rfl
theorem key_int {x : Int} : W.key? (.int x) = some (.inl x) := rfl
theorem dlook_some {l : List A} {a : A} (ha : a ∈ l) (hn : (l.map f).Nodup) : dlook (l.map fun a => (.str (f a), g a)) (.inr (f a)) = some (g a) := by
  induction l with
  | nil => cases ha
  | cons b l ih =>
    unfold dlook
    rw [List.map_cons, List.nodup_cons] at hn
    by_cases e : f b = f a
    · rcases List.mem_cons.mp ha with rfl | ha
      · rw [List.map_cons, List.find?_cons_of_pos (by simp [key_str])]; rfl
      · exact absurd (List.mem_map.mpr ⟨a, ha, e.symm⟩) hn.1
    · rw [List.map_cons, List.find?_cons_of_neg (by simp [key_str, e])]
      rcases List.mem_cons.mp ha with rfl | ha
      · exact absurd rfl e
      · exact ih ha hn.2
theorem dlook_none {l : List A} {x : Str} (h : x ∉ l.map f) : dlook (l.map fun a => (.str (f a), g a)) (.inr x) = none := by
  unfold dlook
  rw [Option.map_eq_none_iff, List.find?_eq_none]
  intro p hp
  obtain ⟨a, ha, rfl⟩ := List.mem_map.mp hp
  simp only [key_str, Option.some.injEq, decide_eq_true_eq, Sum.inr.injEq]
  exact fun e => h (List.mem_map.mpr ⟨a, ha, e⟩)
theorem dput_none {kvs : List (W × W)} {k w : W} {q : Key} (h : dlook kvs q = none) : dput kvs k q w = kvs ++ [(k, w)] := by
  unfold dput
  rw [h]; rfl
end
end Ev

set_option Elab.async false
set_option linter.all false
set_option maxRecDepth 100000
/-! Ev12: data kept by stores; sorted lists; dicts of pairs. -/
namespace Ev
open PySem L2
theorem mapM_imp {A B : Type} {g g' : A → Option B} : ∀ {l : List A} {r : List B}, (∀ a b, a ∈ l → g a = some b → g' a = some b) → l.mapM g = some r → l.mapM g' = some r
  | [], r, _, e => e
  | a :: l, r, h, e => by
    rw [mapM_cons] at e ⊢
    cases e1 : g a with
    | none => rw [e1] at e; cases e
    | some b =>
      rw [e1] at e
      cases e2 : l.mapM g with
      | none => rw [e2] at e; cases e
      | some r' =>
        rw [e2] at e
        rw [h a b (List.mem_cons_self ..) e1, mapM_imp (fun a b ha => h a b (List.mem_cons_of_mem _ ha)) e2]
        exact e
theorem map_someE {A B : Type} {o : Option A} {f : A → B} {b : B} (h : o.map f = some b) : ∃ a, o = some a ∧ f a = b := by
  cases o with
  | none => cases h
  | some a => exact ⟨a, rfl, by simpa using h⟩
/-- what stays in a store keeps its data -/
theorem pd_xt {S S' : Sto} (x : Xt [] S S') : ∀ (n : Nat) {w : W} {d : PyData}, W.pd S n w = some d → W.pd S' n w = some d
  | 0, _, _, h => by cases h
  | n + 1, w, d, h => by
    cases w with
    | tup ws =>
      obtain ⟨ds, e, rfl⟩ := map_someE (show (ws.mapM (W.pd S n)).map PyData.tuple = some d from h)
      show (ws.mapM (W.pd S' n)).map PyData.tuple = _
      rw [mapM_imp (fun a b _ => pd_xt x n) e]; rfl
    | rol ws =>
      obtain ⟨ds, e, rfl⟩ := map_someE (show (ws.mapM (W.pd S n)).map PyData.list = some d from h)
      show (ws.mapM (W.pd S' n)).map PyData.list = _
      rw [mapM_imp (fun a b _ => pd_xt x n) e]; rfl
    | loc k =>
      unfold W.pd at h ⊢
      dsimp only at h ⊢
      cases e : S[k]? with
      | none => rw [e] at h; cases h
      | some o =>
        rw [e] at h
        rw [x.get0 e]
        cases o with
        | lst ws =>
          dsimp only at h ⊢
          obtain ⟨ds, e, rfl⟩ := map_someE h
          rw [mapM_imp (fun a b _ => pd_xt x n) e]; rfl
        | _ => cases h
    | _ => exact h
theorem mapM_map {A B C : Type} {g : B → Option C} {f : A → B} {k : A → C} : ∀ {l : List A}, (∀ a ∈ l, g (f a) = some (k a)) → (l.map f).mapM g = some (l.map k)
  | [], _ => rfl
  | a :: l, h => by
    rw [List.map_cons, mapM_cons, h a (List.mem_cons_self ..), mapM_map (fun a ha => h a (List.mem_cons_of_mem _ ha))]; rfl
/-! ### sorted -/
theorem ms_of {A : Type} {le : A → A → Bool} {l l' : List A} (hp : l.Perm l') (hs : l'.Pairwise fun a b => le a b = true) (an : ∀ a b, le a b = true → le b a = true → a = b) (tr : ∀ a b c, le a b = true → le b c = true → le a c = true) (to : ∀ a b, (le a b || le b a) = true) : l.mergeSort le = l' :=
  List.Perm.eq_of_pairwise (le := fun a b => le a b = true) (fun a b _ _ => an a b) (List.pairwise_mergeSort tr to l) hs ((List.mergeSort_perm l le).trans hp)
theorem ms_rows {l l' : List (List Int)} (hp : l.Perm l') (hs : l'.Pairwise (· < ·)) : (l.mergeSort fun p q => decide (p ≤ q)) = l' := by
  refine ms_of hp (hs.imp fun h => by simpa using List.le_of_lt h) ?_ ?_ ?_
  · intro a b h1 h2; exact List.le_antisymm (of_decide_eq_true h1) (of_decide_eq_true h2)
  · intro a b c h1 h2; exact decide_eq_true (List.le_trans (of_decide_eq_true h1) (of_decide_eq_true h2))
  · intro a b
    rw [Bool.or_eq_true, decide_eq_true_eq, decide_eq_true_eq]
    exact List.le_total a b
theorem ms_nats {l l' : List (List Nat)} (hp : l.Perm l') (hs : l'.Pairwise (· < ·)) : (l.mergeSort fun p q => decide (p ≤ q)) = l' := by
  refine ms_of hp (hs.imp fun h => by simpa using List.le_of_lt h) ?_ ?_ ?_
  · intro a b h1 h2; exact List.le_antisymm (of_decide_eq_true h1) (of_decide_eq_true h2)
  · intro a b c h1 h2; exact decide_eq_true (List.le_trans (of_decide_eq_true h1) (of_decide_eq_true h2))
  · intro a b
    rw [Bool.or_eq_true, decide_eq_true_eq, decide_eq_true_eq]
    exact List.le_total a b
/-- a tuple of whole numbers -/
def rowW (x : List Int) : W := .tup (x.map .int)
def rowD (x : List Int) : PyData := .tuple (x.map .int)
theorem pd_row {S : Sto} {n : Nat} (x : List Int) : W.pd S (n + 2) (rowW x) = some (rowD x) := by
  show ((x.map W.int).mapM (W.pd S (n + 1))).map PyData.tuple = _
  rw [mapM_map (g := W.pd S (n + 1)) (f := W.int) (k := PyData.int) (fun a _ => rfl)]; rfl
theorem alike_rows : ∀ x y : List Int, PySem.W.alikeAll (x.map PyData.int) (y.map PyData.int) = true
  | [], _ => by cases ‹List Int› <;> rfl
  | _ :: _, [] => rfl
  | a :: x, b :: y => by
    show (PySem.W.alike (.int a) (.int b) && PySem.W.alikeAll (x.map PyData.int) (y.map PyData.int)) = true
    rw [alike_rows x y]; rfl
theorem le_rows (x y : List Int) : (!PySem.W.dataLt (rowD y) (rowD x)) = decide (x ≤ y) := by
  unfold rowD
  rw [PySem.W.dataLt_tuple]
  show (!PySem.W.rowLt (y.map .int) (x.map .int)) = _
  rw [PySem.W.dataLt_ints]
  by_cases h : y < x
  · have h' : ¬ x ≤ y := fun r => List.not_lt.mpr r h
    simp [h, h']
  · have h' : x ≤ y := List.not_lt.mp h
    simp [h, h']
theorem sortW_rows {S : Sto} {n : Nat} {l l' : List (List Int)} (h : S[n]? = some (.lst (l.map rowW))) (hp : l.Perm l') (hs : l'.Pairwise (· < ·)) (hl : l.length ≤ 1000000) (hne : (∀ x ∈ l, x ≠ []) ∨ l.length = 1) :
    sortedW [.loc n] S = .ok (.loc S.length) (S ++ [.lst (l'.map rowW)]) := by
  unfold sortedW getL
  dsimp only
  rw [h]
  dsimp only
  rw [mapM_map (k := rowD) (fun x _ => pd_row x)]
  dsimp only
  have hb : sortB (l.map rowD) = true := by
    unfold sortB
    rw [Bool.and_eq_true]
    refine ⟨?_, ?_⟩
    · unfold allAl
      rw [List.all_eq_true]
      intro x hx
      rw [List.all_eq_true]
      intro y hy
      obtain ⟨a, _, rfl⟩ := List.mem_map.mp hx
      obtain ⟨b, _, rfl⟩ := List.mem_map.mp hy
      exact alike_rows a b
    · rw [Bool.or_eq_true, Bool.or_eq_true]
      rcases hne with hne | hne
      · refine .inl (.inl ?_)
        simp only [List.all_map, List.all_eq_true]
        intro x hx
        cases x with
        | nil => exact absurd rfl (hne [] hx)
        | cons a x => rfl
      · refine .inr ?_
        rw [List.length_map, hne]
        simp only [List.all_map, List.all_eq_true, Bool.and_eq_true]
        exact ⟨rfl, fun x _ => rfl⟩
  rw [if_pos ⟨by rw [List.length_map]; exact hl, hb⟩]
  have e : (l.map rowW).zip (l.map rowD) = l.map fun x => (rowW x, rowD x) := by
    rw [List.zip_map']
  rw [e, ← PySem.W.sort_maps (fun x : List Int => (rowW x, rowD x)) (r := fun p q => decide (p ≤ q)) (fun a _ b _ => by rw [PySem.W.dataLe_eq]; exact (le_rows a b).symm), List.map_map, ms_rows hp hs]
  rfl
/-! ### dict(pairs) -/
section
variable {A : Type} {f : A → Str} {g : A → W}
theorem pairs_of : ∀ l : List A, pairsOf (l.map fun a => .tup [.str (f a), g a]) = some (l.map fun a => (.str (f a), .inr (f a), g a))
  | [] => rfl
  | a :: l => by
    rw [List.map_cons]
    unfold pairsOf
    dsimp only [W.key?]
    rw [pairs_of l]; rfl
theorem dmerge_nd : ∀ (l m : List A), ((m ++ l).map f).Nodup → dmerge (m.map fun a => (.str (f a), g a)) (l.map fun a => (.str (f a), .inr (f a), g a)) = (m ++ l).map fun a => (.str (f a), g a)
  | [], m, _ => by rw [List.append_nil]; rfl
  | a :: l, m, h => by
    unfold dmerge
    rw [List.map_cons, List.foldl_cons]
    have hn : f a ∉ m.map f := by
      rw [List.map_append, List.map_cons] at h
      exact fun hm => (List.nodup_append.mp h).2.2 _ hm _ (List.mem_cons_self ..) rfl
    dsimp only
    rw [dput_none (dlook_none hn)]
    have := dmerge_nd l (m ++ [a]) (by rw [List.append_assoc]; exact h)
    unfold dmerge at this
    rw [List.map_append] at this
    rw [show [a].map (fun a => (W.str (f a), g a)) = [(W.str (f a), g a)] from rfl] at this
    rw [this, List.append_assoc]; rfl
theorem dictW_l {S : Sto} {n : Nat} {l : List A} (h : S[n]? = some (.lst (l.map fun a => .tup [.str (f a), g a]))) (hn : (l.map f).Nodup) : dictW [.loc n] S = .ok (.loc S.length) (S ++ [.dct (l.map fun a => (.str (f a), g a))]) := by
  unfold dictW
  dsimp only
  rw [h]
  dsimp only
  rw [pairs_of]
  dsimp only
  rw [show ([] : List (W × W)) = ([] : List A).map fun a => (.str (f a), g a) from rfl, dmerge_nd l [] hn]
  rfl
end
/-! ### data with no list that is read only -/
def Dat (S : Sto) : Nat → PyData → W → Prop
  | 0, _, _ => False
  | n + 1, d, w => match d with
    | .none => w = .non
    | .bool b => w = .bl b
    | .int i => w = .int i
    | .str x => w = .str x
    | .tuple ds => ∃ ws, w = .tup ws ∧ ws.length = ds.length ∧ ds.length ≤ 100000 ∧ ∀ p ∈ ds.zip ws, Dat S n p.1 p.2
    | .list ds => ∃ k ws, w = .loc k ∧ S[k]? = some (.lst ws) ∧ ws.length = ds.length ∧ ds.length ≤ 100000 ∧ ∀ p ∈ ds.zip ws, Dat S n p.1 p.2
    | _ => False
theorem Dat.xt {S S' : Sto} (x : Xt [] S S') : ∀ {n : Nat} {d : PyData} {w : W}, Dat S n d w → Dat S' n d w
  | 0, _, _, h => h
  | n + 1, d, w, h => by
    cases d with
    | tuple ds =>
      obtain ⟨ws, e, l, b, h⟩ := (show ∃ ws, _ from h)
      exact (show ∃ ws, _ from ⟨ws, e, l, b, fun p hp => Dat.xt x (h p hp)⟩)
    | list ds =>
      obtain ⟨k, ws, e, ek, l, b, h⟩ := (show ∃ k ws, _ from h)
      exact (show ∃ k ws, _ from ⟨k, ws, e, x.get0 ek, l, b, fun p hp => Dat.xt x (h p hp)⟩)
    | _ => exact h
theorem Dat.up {S : Sto} : ∀ {n m : Nat} {d : PyData} {w : W}, Dat S n d w → n ≤ m → Dat S m d w
  | 0, _, _, _, h, _ => h.elim
  | n + 1, m, d, w, h, hm => by
    obtain ⟨m, rfl⟩ : ∃ k, m = k + 1 := ⟨m - 1, by omega⟩
    cases d with
    | tuple ds =>
      obtain ⟨ws, e, l, b, h⟩ := (show ∃ ws, _ from h)
      exact (show ∃ ws, _ from ⟨ws, e, l, b, fun p hp => Dat.up (h p hp) (by omega)⟩)
    | list ds =>
      obtain ⟨k, ws, e, ek, l, b, h⟩ := (show ∃ k ws, _ from h)
      exact (show ∃ k ws, _ from ⟨k, ws, e, ek, l, b, fun p hp => Dat.up (h p hp) (by omega)⟩)
    | _ => exact h
theorem Dat.tupM {A : Type} {S : Sto} {n : Nat} {l : List A} {f : A → W} {g : A → PyData} (hl : l.length ≤ 100000) (h : ∀ a ∈ l, Dat S n (g a) (f a)) : Dat S (n + 1) (.tuple (l.map g)) (.tup (l.map f)) := by
  refine (show ∃ ws, _ from ⟨l.map f, rfl, by rw [List.length_map, List.length_map], by rw [List.length_map]; exact hl, ?_⟩)
  rw [List.zip_map']
  intro p hp
  obtain ⟨a, ha, rfl⟩ := List.mem_map.mp hp
  exact h a ha
theorem Dat.lstM {A : Type} {S : Sto} {n k : Nat} {l : List A} {f : A → W} {g : A → PyData} (e : S[k]? = some (.lst (l.map f))) (hl : l.length ≤ 100000) (h : ∀ a ∈ l, Dat S n (g a) (f a)) : Dat S (n + 1) (.list (l.map g)) (.loc k) := by
  refine (show ∃ k ws, _ from ⟨k, l.map f, rfl, e, by rw [List.length_map, List.length_map], by rw [List.length_map]; exact hl, ?_⟩)
  rw [List.zip_map']
  intro p hp
  obtain ⟨a, ha, rfl⟩ := List.mem_map.mp hp
  exact h a ha
theorem Dat.row {S : Sto} {n : Nat} {x : List Int} (h : x.length ≤ 100000) : Dat S (n + 2) (rowD x) (rowW x) := Dat.tupM h fun _ _ => rfl
/-! ### zip, all -/
theorem wpR_zip {m n : EV} {s : En} {S : Sto} {Q : IT → Sto → Prop} : wpR (iZip m n s S) Q = wpR (m s S) fun x S => wpR (n s S) fun y S => bothL S x y = true ∧ ∃ k, seqLen x S = some k ∧ Q ⟨zipIt x y, k + 1⟩ S := by
  unfold iZip
  rw [wpR_bind]; congr 1; funext x S
  rw [wpR_bind]; congr 1; funext y S
  rw [wpR_ite]
  by_cases h : bothL S x y = true
  · rw [if_pos h]
    cases seqLen x S <;> simp [wpR, h]
  · rw [if_neg h]; simp [wpR, h]
theorem zip_at {x y : W} {ws us : List W} {S : Sto} {i : Nat} (hx : seqIt x S i = some ws[i]?) (hy : seqIt y S i = some us[i]?) (hl : ws.length = us.length) : zipIt x y S i = some ((ws.zip us)[i]?.map fun p => .tup [p.1, p.2]) := by
  unfold zipIt
  rw [hx, hy]
  rcases Nat.lt_or_ge i ws.length with h | h
  · rw [List.getElem?_eq_getElem h, List.getElem?_eq_getElem (by omega), List.getElem?_eq_getElem (by rw [List.length_zip]; omega)]
    simp
  · rw [List.getElem?_eq_none h, List.getElem?_eq_none (by omega), List.getElem?_eq_none (by rw [List.length_zip]; omega)]; rfl
theorem bools_of : ∀ l : List Bool, boolsOf (l.map W.bl) = some l
  | [] => rfl
  | a :: l => by rw [List.map_cons, boolsOf, bools_of l]; rfl
theorem allW_l {S : Sto} {n : Nat} {l : List Bool} (h : S[n]? = some (.lst (l.map W.bl))) : allW [.loc n] S = .ok (.bl (l.all id)) S := by
  unfold allW getL
  dsimp only
  rw [h]
  dsimp only
  rw [bools_of]
theorem anyW_l {S : Sto} {n : Nat} {l : List Bool} (h : S[n]? = some (.lst (l.map W.bl))) : anyW [.loc n] S = .ok (.bl (l.any id)) S := by
  unfold anyW getL
  dsimp only
  rw [h]
  dsimp only
  rw [bools_of]
theorem isi_n {S : Sto} {c : String} {b : Bool} (h : kitB "NoneType" c = some b) : isiW [.non, .ty c] S = .ok (.bl b) S := by unfold isiW; dsimp only [tyO]; rw [h]
theorem isi_b {S : Sto} {c : String} {b k : Bool} (h : kitB "bool" c = some b) : isiW [.bl k, .ty c] S = .ok (.bl b) S := by unfold isiW; dsimp only [tyO]; rw [h]
theorem isi_i {S : Sto} {c : String} {b : Bool} {k : Int} (h : kitB "int" c = some b) : isiW [.int k, .ty c] S = .ok (.bl b) S := by unfold isiW; dsimp only [tyO]; rw [h]
theorem isi_s {S : Sto} {c : String} {b : Bool} {k : Str} (h : kitB "str" c = some b) : isiW [.str k, .ty c] S = .ok (.bl b) S := by unfold isiW; dsimp only [tyO]; rw [h]
theorem isi_t {S : Sto} {c : String} {b : Bool} {k : List W} (h : kitB "tuple" c = some b) : isiW [.tup k, .ty c] S = .ok (.bl b) S := by unfold isiW; dsimp only [tyO]; rw [h]
theorem isi_l {S : Sto} {c : String} {b : Bool} {n : Nat} {k : List W} (e : S[n]? = some (.lst k)) (h : kitB "list" c = some b) : isiW [.loc n, .ty c] S = .ok (.bl b) S := by unfold isiW tyO; dsimp only; rw [e]; dsimp only; rw [h]
theorem isi_d {S : Sto} {c : String} {b : Bool} {n : Nat} {k : List (W × W)} (e : S[n]? = some (.dct k)) (h : kitB "dict" c = some b) : isiW [.loc n, .ty c] S = .ok (.bl b) S := by unfold isiW tyO; dsimp only; rw [e]; dsimp only; rw [h]
section
variable {S : Sto} {k : Bool} {i : Int} {x : Str} {ws : List W}
theorem isi_bb : isiW [.bl k, .ty "bool"] S = .ok (.bl true) S := isi_b (by decide)
theorem isi_bs : isiW [.bl k, .ty "str"] S = .ok (.bl false) S := isi_b (by decide)
theorem isi_bi : isiW [.bl k, .ty "int"] S = .ok (.bl true) S := isi_b (by decide)
theorem isi_bt : isiW [.bl k, .ty "tuple"] S = .ok (.bl false) S := isi_b (by decide)
theorem isi_bl : isiW [.bl k, .ty "list"] S = .ok (.bl false) S := isi_b (by decide)
theorem isi_ib : isiW [.int i, .ty "bool"] S = .ok (.bl false) S := isi_i (by decide)
theorem isi_is : isiW [.int i, .ty "str"] S = .ok (.bl false) S := isi_i (by decide)
theorem isi_ii : isiW [.int i, .ty "int"] S = .ok (.bl true) S := isi_i (by decide)
theorem isi_it : isiW [.int i, .ty "tuple"] S = .ok (.bl false) S := isi_i (by decide)
theorem isi_il : isiW [.int i, .ty "list"] S = .ok (.bl false) S := isi_i (by decide)
theorem isi_sb : isiW [.str x, .ty "bool"] S = .ok (.bl false) S := isi_s (by decide)
theorem isi_ss : isiW [.str x, .ty "str"] S = .ok (.bl true) S := isi_s (by decide)
theorem isi_si : isiW [.str x, .ty "int"] S = .ok (.bl false) S := isi_s (by decide)
theorem isi_st : isiW [.str x, .ty "tuple"] S = .ok (.bl false) S := isi_s (by decide)
theorem isi_sl : isiW [.str x, .ty "list"] S = .ok (.bl false) S := isi_s (by decide)
theorem isi_tb : isiW [.tup ws, .ty "bool"] S = .ok (.bl false) S := isi_t (by decide)
theorem isi_ts : isiW [.tup ws, .ty "str"] S = .ok (.bl false) S := isi_t (by decide)
theorem isi_ti : isiW [.tup ws, .ty "int"] S = .ok (.bl false) S := isi_t (by decide)
theorem isi_tt : isiW [.tup ws, .ty "tuple"] S = .ok (.bl true) S := isi_t (by decide)
theorem isi_tl : isiW [.tup ws, .ty "list"] S = .ok (.bl false) S := isi_t (by decide)
theorem isi_nb : isiW [.non, .ty "bool"] S = .ok (.bl false) S := isi_n (by decide)
theorem isi_ns : isiW [.non, .ty "str"] S = .ok (.bl false) S := isi_n (by decide)
theorem isi_ni : isiW [.non, .ty "int"] S = .ok (.bl false) S := isi_n (by decide)
theorem isi_nt : isiW [.non, .ty "tuple"] S = .ok (.bl false) S := isi_n (by decide)
theorem isi_nl : isiW [.non, .ty "list"] S = .ok (.bl false) S := isi_n (by decide)
end
section
variable {S : Sto} {n : Nat} {k : List W} {d : List (W × W)}
theorem isi_Lb (e : S[n]? = some (.lst k)) : isiW [.loc n, .ty "bool"] S = .ok (.bl false) S := isi_l e (by decide)
theorem isi_Ls (e : S[n]? = some (.lst k)) : isiW [.loc n, .ty "str"] S = .ok (.bl false) S := isi_l e (by decide)
theorem isi_Li (e : S[n]? = some (.lst k)) : isiW [.loc n, .ty "int"] S = .ok (.bl false) S := isi_l e (by decide)
theorem isi_Lt (e : S[n]? = some (.lst k)) : isiW [.loc n, .ty "tuple"] S = .ok (.bl false) S := isi_l e (by decide)
theorem isi_Ll (e : S[n]? = some (.lst k)) : isiW [.loc n, .ty "list"] S = .ok (.bl true) S := isi_l e (by decide)
theorem isi_Db (e : S[n]? = some (.dct d)) : isiW [.loc n, .ty "bool"] S = .ok (.bl false) S := isi_d e (by decide)
theorem isi_Ds (e : S[n]? = some (.dct d)) : isiW [.loc n, .ty "str"] S = .ok (.bl false) S := isi_d e (by decide)
theorem isi_Di (e : S[n]? = some (.dct d)) : isiW [.loc n, .ty "int"] S = .ok (.bl false) S := isi_d e (by decide)
theorem isi_Dt (e : S[n]? = some (.dct d)) : isiW [.loc n, .ty "tuple"] S = .ok (.bl false) S := isi_d e (by decide)
theorem isi_Dl (e : S[n]? = some (.dct d)) : isiW [.loc n, .ty "list"] S = .ok (.bl false) S := isi_d e (by decide)
end
/-- a comprehension over a zip, with a truth for each pair that is yes -/
theorem both_t {S : Sto} {a b : List W} : bothL S (.tup a) (.tup b) = true := rfl
theorem both_l {S : Sto} {p q : Nat} {a b : List W} (h : S[p]? = some (.lst a)) (h' : S[q]? = some (.lst b)) : bothL S (.loc p) (.loc q) = true := by
  unfold bothL; dsimp only; unfold getL; dsimp only; rw [h, h']; rfl
theorem all_rep (n : Nat) : (List.replicate n true).all id = true := by
  rw [List.all_eq_true]; intro x hx; rw [List.eq_of_mem_replicate hx]; rfl
end Ev

set_option Elab.async false
set_option linter.all false
set_option maxRecDepth 100000
/-! Ev13: rules from the outside in. -/
namespace Ev
open PySem L2
/-- a mark: simp leaves what it names alone -/
structure Ph {α : Sort u} (a : α) : Type where
def wq {A : Type} (r : R A) (Q : A → Sto → Prop) (_ : Ph Q) : Prop := wpR r Q
def ws (r : RS) (Q : RS → Prop) (_ : Ph Q) : Prop := wpS r Q
def wo {A : Type} (o : Option A) (P : A → Prop) (_ : Ph P) : Prop := match o with
  | some a => P a
  | none => False
def onB (w : W) (P : Bool → Prop) (_ : Ph P) : Prop := match w with
  | .bl b => P b
  | _ => False
def onI (w : W) (P : Int → Prop) (_ : Ph P) : Prop := match w with
  | .int b => P b
  | _ => False
theorem wq_in {A : Type} {r : R A} {Q : A → Sto → Prop} : wpR r Q = wq r Q ⟨⟩ := rfl
theorem ws_in {r : RS} {Q : RS → Prop} : wpS r Q = ws r Q ⟨⟩ := rfl
theorem wo_some {A : Type} {a : A} {P : A → Prop} {h : Ph P} : wo (some a) P h = P a := rfl
theorem wo_none {A : Type} {P : A → Prop} {h : Ph P} : wo none P h = False := rfl
theorem wo_ex {A : Type} {o : Option A} {P : A → Prop} {h : Ph P} {a : A} (e : o = some a) (q : P a) : wo o P h := by rw [e]; exact q
theorem wo_eq {A : Type} {o : Option A} {P : A → Prop} {h : Ph P} : wo o P h = ∃ a, o = some a ∧ P a := by cases o <;> simp [wo]
theorem onB_b {b : Bool} {P : Bool → Prop} {h : Ph P} : onB (.bl b) P h = P b := rfl
theorem onI_i {b : Int} {P : Int → Prop} {h : Ph P} : onI (.int b) P h = P b := rfl
section
variable {s : En} {S : Sto} {Q : W → Sto → Prop} {B : Bool → Sto → Prop} {L : List W → Sto → Prop} {P P' : RS → Prop} {w : W} {i : Nat} {a b : EV} {r : AV} {c d : BV} {o : Option W} {hQ : Ph Q} {hB : Ph B} {hL : Ph L} {hP : Ph P}
theorem wq_ok {A : Type} {x : A} {Q : A → Sto → Prop} {hQ : Ph Q} : wq (.ok x S) Q hQ = Q x S := rfl
theorem wq_no {A : Type} {Q : A → Sto → Prop} {hQ : Ph Q} : wq (.no) Q hQ = False := rfl
theorem wq_ite {A : Type} {p : Prop} [Decidable p] {x y : R A} {Q : A → Sto → Prop} {hQ : Ph Q} : wq (if p then x else y) Q hQ = if p then wq x Q ⟨⟩ else wq y Q ⟨⟩ := wpR_ite
theorem wq_bind {A B : Type} {x : R A} {k : A → Sto → R B} {Q : B → Sto → Prop} {hQ : Ph Q} : wq (x.bind k) Q hQ = wq x (fun a S => wq (k a S) Q ⟨⟩) ⟨⟩ := wpR_bind
theorem wq_var0 : wq (eVar 0 (some w :: s) S) Q hQ = Q w S := rfl
theorem wq_varS : wq (eVar (i + 1) (o :: s) S) Q hQ = wq (eVar i s S) Q ⟨⟩ := rfl
theorem wq_c : wq (eC w s S) Q hQ = Q w S := rfl
theorem wq_e1 {F : W → Sto → R W} : wq (e1 F a s S) Q hQ = wq (a s S) (fun w S => wq (F w S) Q ⟨⟩) ⟨⟩ := wpR_bind
theorem wq_e2 {F : W → W → Sto → R W} : wq (e2 F a b s S) Q hQ = wq (a s S) (fun x S => wq (b s S) (fun y S => wq (F x y S) Q ⟨⟩) ⟨⟩) ⟨⟩ := by
  unfold e2 wq; rw [wpR_bind]; congr 1; funext x S; rw [wpR_bind]
theorem wq_eL {F : List W → Sto → R W} : wq (eL F r s S) Q hQ = wq (r s S) (fun ws S => wq (F ws S) Q ⟨⟩) ⟨⟩ := wpR_bind
theorem wq_aNil : wq (aNil s S) L hL = L [] S := rfl
theorem wq_aCons : wq (aCons a r s S) L hL = wq (a s S) (fun x S => wq (r s S) (fun xs S => L (x :: xs) S) ⟨⟩) ⟨⟩ := by
  unfold aCons wq; rw [wpR_bind]; congr 1; funext x S; rw [wpR_bind]; rfl
theorem wq_test : wq (bTest a s S) B hB = wq (a s S) (fun w S => onB w (fun b => B b S) ⟨⟩) ⟨⟩ := by
  unfold bTest wq; rw [wpR_bind]; congr 1; funext w S; cases w <;> rfl
theorem wq_and : wq (bAnd c d s S) B hB = wq (c s S) (fun k S => if k = true then wq (d s S) B ⟨⟩ else B false S) ⟨⟩ := by
  unfold bAnd wq; rw [wpR_bind]; congr 1; funext k S; rw [wpR_ite]; rfl
theorem wq_or : wq (bOr c d s S) B hB = wq (c s S) (fun k S => if k = true then B true S else wq (d s S) B ⟨⟩) ⟨⟩ := by
  unfold bOr wq; rw [wpR_bind]; congr 1; funext k S; rw [wpR_ite]; rfl
theorem wq_not : wq (bNot c s S) B hB = wq (c s S) (fun k S => B (!k) S) ⟨⟩ := by
  unfold bNot wq; rw [wpR_bind]; rfl
theorem wq_tru : wq (bTru a s S) B hB = wq (a s S) (fun w S => wq (truW w S) B ⟨⟩) ⟨⟩ := wpR_bind
theorem wq_vAnd : wq (vAnd a b s S) Q hQ = wq (a s S) (fun w S => onB w (fun k => if k = true then wq (b s S) Q ⟨⟩ else Q (.bl false) S) ⟨⟩) ⟨⟩ := by
  unfold vAnd wq; rw [wpR_bind]; congr 1; funext w S; cases w <;> try rfl
  dsimp only; rw [wpR_ite]; rfl
theorem wq_vOr : wq (vOr a b s S) Q hQ = wq (a s S) (fun w S => onB w (fun k => if k = true then Q (.bl true) S else wq (b s S) Q ⟨⟩) ⟨⟩) ⟨⟩ := by
  unfold vOr wq; rw [wpR_bind]; congr 1; funext w S; cases w <;> try rfl
  dsimp only; rw [wpR_ite]; rfl
theorem wq_vNot : wq (vNot a s S) Q hQ = wq (a s S) (fun w S => onB w (fun k => Q (.bl (!k)) S) ⟨⟩) ⟨⟩ := by
  unfold vNot wq; rw [wpR_bind]; congr 1; funext w S; cases w <;> rfl
theorem wq_eIf : wq (eIf c a b s S) Q hQ = wq (c s S) (fun k S => if k = true then wq (a s S) Q ⟨⟩ else wq (b s S) Q ⟨⟩) ⟨⟩ := by
  unfold eIf wq; rw [wpR_bind]; congr 1; funext k S; rw [wpR_ite]
theorem wq_yes : wq (bYes s S) B hB = B true S := rfl
theorem wq_eM {T : String} {F : W → List W → Sto → R W} : wq (eM T F a r s S) Q hQ = wq (a s S) (fun x S => tyOkW T x S = true ∧ wq (r s S) (fun xs S => wq (F x xs S) Q ⟨⟩) ⟨⟩) ⟨⟩ := by
  unfold eM wq; rw [wpR_bind]; congr 1; funext x S; rw [wpR_ite, wpR_no, ifF, wpR_bind]
theorem wq_oNone {O : Option Int → Sto → Prop} {h : Ph O} : wq (oNone s S) O h = O none S := rfl
theorem wq_oSome {O : Option Int → Sto → Prop} {h : Ph O} : wq (oSome a s S) O h = wq (a s S) (fun w S => onI w (fun i => O (some i) S) ⟨⟩) ⟨⟩ := by
  unfold oSome wq; rw [wpR_bind]; congr 1; funext w S; cases w <;> rfl
theorem wq_eSl {F : W → Option Int → Option Int → Sto → R W} {l u : OV} : wq (eSl F a l u s S) Q hQ = wq (a s S) (fun x S => wq (l s S) (fun i S => wq (u s S) (fun j S => wq (F x i j S) Q ⟨⟩) ⟨⟩) ⟨⟩) ⟨⟩ := by
  unfold eSl wq; rw [wpR_bind]; congr 1; funext x S; rw [wpR_bind]; congr 1; funext i S; rw [wpR_bind]
theorem wq_dnew : wq (dnewW s S) Q hQ = Q (.loc S.length) (S ++ [.dct []]) := rfl
theorem wq_tup {l : List W} : wq (tupW l S) Q hQ = (l.length ≤ 1000000 ∧ Q (.tup l) S) := by unfold tupW wq; rw [wpR_ite, wpR_no, ifF]; rfl
theorem wq_lst {l : List W} : wq (lstW l S) Q hQ = (l.length ≤ 1000000 ∧ Q (.loc S.length) (S ++ [.lst l])) := by unfold lstW wq; rw [wpR_ite, wpR_no, ifF]; rfl
/-! operations -/
theorem wq_ixT {j : Int} {l : List W} : wq (ixW (.tup l) (.int j) S) Q hQ = wo (atI l j) (fun w => Q w S) ⟨⟩ := by unfold wq; rw [wpR_ixT, wo_eq]
theorem wq_ixR {j : Int} {l : List W} : wq (ixW (.rol l) (.int j) S) Q hQ = wo (atI l j) (fun w => Q w S) ⟨⟩ := by unfold wq; rw [wpR_ixR, wo_eq]
theorem wq_ixL {j : Int} {n : Nat} {l : List W} (h : S[n]? = some (.lst l)) : wq (ixW (.loc n) (.int j) S) Q hQ = wo (atI l j) (fun w => Q w S) ⟨⟩ := by unfold wq; rw [wpR_ixL h, wo_eq]
theorem wq_ixD {n : Nat} {kvs : List (W × W)} {q : Key} {k : W} (h : S[n]? = some (.dct kvs)) (hk : W.key? k = some q) : wq (ixW (.loc n) k S) Q hQ = wo (dlook kvs q) (fun w => Q w S) ⟨⟩ := by unfold wq; rw [wpR_ixD h hk, wo_eq]
theorem wq_ixDs {n : Nat} {kvs : List (W × W)} {x : Str} (h : S[n]? = some (.dct kvs)) : wq (ixW (.loc n) (.str x) S) Q hQ = wo (dlook kvs (.inr x)) (fun w => Q w S) ⟨⟩ := wq_ixD h rfl
theorem wq_ixDi {n : Nat} {kvs : List (W × W)} {x : Int} (h : S[n]? = some (.dct kvs)) : wq (ixW (.loc n) (.int x) S) Q hQ = wo (dlook kvs (.inl x)) (fun w => Q w S) ⟨⟩ := wq_ixD h rfl
theorem wq_ixS {j : Int} {x : Str} : wq (ixW (.str x) (.int j) S) Q hQ = (x.length ≤ 1000000 ∧ wo (atI x.cps.toList j) (fun c => Q (.str (SX.S [c])) S) ⟨⟩) := by unfold wq; rw [wpR_ixS, wo_eq]
theorem wq_rng1 {I : IT → Sto → Prop} {h : Ph I} : wq (iRng1 a s S) I h = wq (a s S) (fun w S => onI w (fun j => (-1000000 ≤ j ∧ j ≤ 1000000) ∧ I ⟨rngIt 0 j.toNat, j.toNat + 1⟩ S) ⟨⟩) ⟨⟩ := by
  unfold wq; rw [wpR_rng1]; congr 1; funext w S; cases w <;> simp [onI]
theorem wq_rng2 {I : IT → Sto → Prop} {h : Ph I} : wq (iRng2 a b s S) I h = wq (a s S) (fun w S => wq (b s S) (fun u S => onI w (fun i => onI u (fun j => (-1000000 ≤ i ∧ i ≤ 1000000 ∧ -1000000 ≤ j ∧ j ≤ 1000000) ∧ I ⟨rngIt i (j - i).toNat, (j - i).toNat + 1⟩ S) ⟨⟩) ⟨⟩) ⟨⟩) ⟨⟩ := by
  unfold iRng2 wq; rw [wpR_bind]; congr 1; funext w S; rw [wpR_bind]; congr 1; funext u S
  cases w <;> cases u <;> try rfl
  dsimp only; rw [wpR_ite, wpR_no, ifF]; rfl
theorem wq_seq {I : IT → Sto → Prop} {h : Ph I} : wq (iSeq a s S) I h = wq (a s S) (fun w S => wo (seqLen w S) (fun k => I ⟨seqIt w, k + 1⟩ S) ⟨⟩) ⟨⟩ := by
  unfold wq; rw [wpR_seq]; congr 1; funext w S; rw [wo_eq]
theorem wq_zip {I : IT → Sto → Prop} {h : Ph I} : wq (iZip a b s S) I h = wq (a s S) (fun x S => wq (b s S) (fun y S => bothL S x y = true ∧ wo (seqLen x S) (fun k => I ⟨zipIt x y, k + 1⟩ S) ⟨⟩) ⟨⟩) ⟨⟩ := by
  unfold wq; rw [wpR_zip]; congr 1; funext x S; congr 1; funext y S; rw [wo_eq]
theorem wq_lc {mi : IV} {t : Tg} {vs : List Nat} : wq (eLc mi t c a vs s S) Q hQ = wq (mi s S) (fun it S => wq (lcLoop it.item t c a (wipeE s vs) it.fuel 0 [] S) (fun acc S => Q (.loc S.length) (S ++ [.lst acc])) ⟨⟩) ⟨⟩ := wpR_lc
/-! statements -/
theorem wq_run {n : Nat} {m : SV} {l : List W} : wq (runF n m l S) Q hQ = ws (m (startE n l) S) (onRet Q) ⟨⟩ := wpR_run
theorem ws_nx : ws (.nx s S) P hP = P (.nx s S) := rfl
theorem ws_rt : ws (.rt w S) P hP = P (.rt w S) := rfl
theorem ws_kn {k : SV} : Kn k P (.nx s S) = ws (k s S) P ⟨⟩ := rfl
theorem ws_seq {x y : SV} : ws (sSeq x y s S) P hP = ws (x s S) (Kn y P) ⟨⟩ := wpS_seq
theorem ws_ret : ws (sRet a s S) P hP = wq (a s S) (fun w S => P (.rt w S)) ⟨⟩ := wpS_ret
theorem ws_expr : ws (sExpr a s S) P hP = wq (a s S) (fun _ S => P (.nx s S)) ⟨⟩ := wpS_expr
theorem ws_set : ws (sSet i a s S) P hP = wq (a s S) (fun w S => P (.nx (s.set i (some w)) S)) ⟨⟩ := wpS_set
theorem ws_if {x y : SV} : ws (sIf c x y s S) P hP = wq (c s S) (fun k S => if k = true then ws (x s S) P ⟨⟩ else ws (y s S) P ⟨⟩) ⟨⟩ := wpS_if
theorem ws_nil : ws (sNil s S) P hP = P (.nx s S) := rfl
theorem ws_cnt : ws (sCnt s S) P hP = P (.ct s S) := rfl
theorem ws_brk : ws (sBrk s S) P hP = P (.bk s S) := rfl
theorem ws_retN : ws (sRetN s S) P hP = P (.rt .non S) := rfl
theorem ws_for {mi : IV} {t : Tg} {k : SV} : ws (sFor mi t k s S) P hP = wq (mi s S) (fun it S => ws (loopS it.item t k it.fuel 0 s S) P ⟨⟩) ⟨⟩ := wpS_for
theorem ws_asg {t : Tg} : ws (sAsg t a s S) P hP = wq (a s S) (fun w S => wo (Tg.put t w s) (fun s' => P (.nx s' S)) ⟨⟩) ⟨⟩ := by
  unfold ws; rw [wpS_asg]; unfold wq; congr 1; funext w S; rw [wo_eq]
theorem ws_put {mv mo mi : EV} : ws (sPut mv mo mi s S) P hP = wq (mv s S) (fun v S => wq (mo s S) (fun o S => wq (mi s S) (fun i S => wo (setO o i v S) (fun S' => P (.nx s S')) ⟨⟩) ⟨⟩) ⟨⟩) ⟨⟩ := by
  unfold ws; rw [wpS_put]; unfold wq; congr 1; funext v S; congr 1; funext o S; congr 1; funext i S; rw [wo_eq]
end
end Ev

set_option Elab.async false
set_option linter.all false
set_option maxRecDepth 100000
/-! Ev14: xs[::-1], list(range(n)). -/
namespace Ev
open PySem L2
section
variable {X : Cx} {Z : WX}
def revW (w : W) (S : Sto) : R W := match getL S w with
  | some ws => .ok (.loc S.length) (S ++ [.lst ws.reverse])
  | none => .no
theorem e_revL {e : Expr} {m : EV} {k : Nat} {p1 p2 p3 pos : Pos} (he : PE X e (tI X Z m)) : PE X (.Subscript e (.Slice none none (some (.UnaryOp .USub (.Constant (.int 1) k p1) p2)) p3) pos) (tI X Z (e1 revW m)) := by
  refine (pe_revL he).imp ?_
  rintro st H Q ⟨f, s, S, hE, hS, hp⟩
  refine ⟨f, s, S, hE, hS, hp.seq fun f1 H1 w1 S1 v1 k1 s1 p1 hp1 => ?_⟩
  unfold revW at hp1
  split at hp1
  · rename_i ws e
    obtain ⟨a, vs, rfl, q, r⟩ := getL_at s1 p1 e
    exact ⟨a, vs, rfl, q, fun p hp => hp1.newL s1 r.reverse hp⟩
  · exact hp1.elim
def lrgW (w : W) (S : Sto) : R W := match w with
  | .int j => if -1000000 ≤ j ∧ j ≤ 1000000 then .ok (.loc S.length) (S ++ [.lst ((List.range j.toNat).map fun (i : Nat) => W.int i)]) else .no
  | _ => .no
theorem e_lrg {a : Expr} {m : EV} {p p' pos pos' : Pos} (hc : X.calm = true) (hml : X.mg "list" = none) (hmr : X.mg "range" = none) (ha : PE X a (tI X Z m)) (hgl : Gl X "list" := by rfl) (hgr : Gl X "range" := by rfl) (na : starEach [a] X.env = (false, eval a X.env) :: starEach [] X.env := by rfl)
    (nb : starEach [Expr.Call (.Name "range" p') [a] [] pos'] X.env = (false, eval (Expr.Call (.Name "range" p') [a] [] pos') X.env) :: starEach [] X.env := by rfl) : PE X (.Call (.Name "list" p) [.Call (.Name "range" p') [a] [] pos'] [] pos) (tI X Z (e1 lrgW m)) := by
  refine (pe_listRg hc hgl hml (prg_1 hgr hmr ha na) nb).imp ?_
  rintro st H Q ⟨f, s, S, hE, hS, hp⟩
  refine ⟨f, s, S, hE, hS, hp.seq fun f1 H1 w1 S1 v1 k1 s1 p1 hp1 => ?_⟩
  unfold lrgW at hp1
  split at hp1
  · rename_i j
    rw [p1.intE]
    split at hp1
    · rename_i hj
      refine ⟨j, rfl, ⟨by omega, by omega, by omega, by omega, by omega⟩, fun q hq => ?_⟩
      refine hp1.newL s1 ?_ hq
      unfold rgV
      rw [Int.sub_zero]
      exact rpl_map _ _ fun i _ => by
        rw [Int.zero_add]; exact Rp.int'
    · exact hp1.elim
  · exact hp1.elim
end
section
variable {S : Sto} {n : Nat} {ws : List W}
theorem revW_l (h : S[n]? = some (.lst ws)) : revW (.loc n) S = .ok (.loc S.length) (S ++ [.lst ws.reverse]) := by
  unfold revW getL; dsimp only; rw [h]
theorem lrgW_i {j : Int} (h : -1000000 ≤ j ∧ j ≤ 1000000) : lrgW (.int j) S = .ok (.loc S.length) (S ++ [.lst ((List.range j.toNat).map fun (i : Nat) => W.int i)]) := if_pos h
end
/-- a while loop, the turns counted down -/
theorem wp_while {c : BV} {b : SV} {Q : RS → Prop} (I : Nat → En → Sto → Prop)
    (hs : ∀ d s S, I d s S → wpR (c s S) fun k S1 => if k = true then wpS (b s S1) (onNx (fun s2 S2 => ∃ d', d' < d ∧ I d' s2 S2) Q) else Q (.nx s S1)) :
    ∀ (n d : Nat) (s : En) (S : Sto), d < n → I d s S → wpS (whileS c b n s S) Q
  | 0, d, s, S, h, _ => by omega
  | n + 1, d, s, S, h, hi => by
    unfold whileS
    rw [wpS_toS]
    refine wpR_mono (hs d s S hi) fun k S1 hk => ?_
    rw [wpS_ite]
    by_cases e : k = true
    · rw [if_pos e] at hk ⊢
      cases e2 : b s S1 with
      | nx s2 S2 =>
        rw [e2] at hk
        obtain ⟨d', hd, hi'⟩ := (show ∃ d', d' < d ∧ I d' s2 S2 from hk)
        exact wp_while I hs n d' s2 S2 (by omega) hi'
      | ct s2 S2 =>
        rw [e2] at hk
        obtain ⟨d', hd, hi'⟩ := (show ∃ d', d' < d ∧ I d' s2 S2 from hk)
        exact wp_while I hs n d' s2 S2 (by omega) hi'
      | bk s2 S2 => rw [e2] at hk; exact hk
      | rt w S2 => rw [e2] at hk; exact hk
      | ex _ _ _ => rw [e2] at hk; exact hk
      | no => rw [e2] at hk; exact hk
    · rw [if_neg e] at hk ⊢; exact hk
theorem ws_while {n : Nat} {c : BV} {b : SV} {s : En} {S : Sto} {P : RS → Prop} {hP : Ph P} : ws (sWhile n c b s S) P hP = ws (whileS c b n s S) P ⟨⟩ := rfl
theorem mapM_zip {A B : Type} {g : A → Option B} : ∀ {ws : List A} {ds : List B}, ws.length = ds.length → (∀ p ∈ ds.zip ws, g p.2 = some p.1) → ws.mapM g = some ds
  | [], [], _, _ => rfl
  | a :: ws, d :: ds, hl, h => by
    rw [mapM_cons, h (d, a) (by simp), mapM_zip (by simpa using hl) (fun p hp => h p (by simp [hp]))]; rfl
theorem Dat.pd {S : Sto} : ∀ {n : Nat} {d : PyData} {w : W}, Dat S n d w → W.pd S n w = some d
  | 0, _, _, h => h.elim
  | n + 1, d, w, h => by
    cases d with
    | none => obtain rfl : w = .non := h; rfl
    | bool b => obtain rfl : w = .bl b := h; rfl
    | int b => obtain rfl : w = .int b := h; rfl
    | str b => obtain rfl : w = .str b := h; rfl
    | tuple ds =>
      obtain ⟨ws, rfl, l, b, h⟩ := (show ∃ ws, _ from h)
      show (ws.mapM (W.pd S n)).map PyData.tuple = _
      rw [mapM_zip l fun p hp => Dat.pd (h p hp)]; rfl
    | list ds =>
      obtain ⟨k, ws, rfl, ek, l, b, h⟩ := (show ∃ k ws, _ from h)
      unfold W.pd
      dsimp only
      rw [ek]
      dsimp only
      rw [mapM_zip l fun p hp => Dat.pd (h p hp)]; rfl
    | _ => exact h.elim
theorem eqW_d {S : Sto} {x y : W} {d e : PyData} (hx : W.pd S 64 x = some d) (hy : W.pd S 64 y = some e) : eqW x y S = .ok (.bl (PyData.eqv d e)) S := by
  unfold eqW eqO; rw [hx, hy]
theorem neW_d {S : Sto} {x y : W} {d e : PyData} (hx : W.pd S 64 x = some d) (hy : W.pd S 64 y = some e) : neW x y S = .ok (.bl (!PyData.eqv d e)) S := by
  unfold neW eqO; rw [hx, hy]
theorem eqv_nil {ds : List PyData} : PyData.eqv (.list ds) (.list []) = ds.isEmpty := by cases ds <;> simp [PyData.eqv, PyData.eqvAll]
/-- xs == [] -/
theorem eqW_nil {S : Sto} {p q : Nat} {ws : List W} {ds : List PyData} (h : S[p]? = some (.lst ws)) (hd : ws.mapM (W.pd S 63) = some ds) (h' : S[q]? = some (.lst [])) : eqW (.loc p) (.loc q) S = .ok (.bl ws.isEmpty) S := by
  rw [eqW_d (d := .list ds) (e := .list []), eqv_nil]
  · have := mapM_len hd
    cases ws <;> cases ds <;> first | rfl | cases this
  · unfold W.pd; dsimp only; rw [h]; dsimp only; rw [hd]; rfl
  · unfold W.pd; dsimp only; rw [h']; rfl
theorem eqW_nilI {S : Sto} {p q : Nat} {l : List Int} (h : S[p]? = some (.lst (l.map W.int))) (h' : S[q]? = some (.lst [])) : eqW (.loc p) (.loc q) S = .ok (.bl l.isEmpty) S := by
  rw [eqW_nil h (mapM_map (g := W.pd S 63) (f := W.int) (k := PyData.int) fun _ _ => rfl) h']; simp
/-- a text and None -/
theorem eqW_sn {S : Sto} {x : Str} : eqW (.str x) .non S = .ok (.bl false) S := by
  rw [eqW_d (d := .str x) (e := .none) rfl rfl]; simp [PyData.eqv]
theorem eqW_ns {S : Sto} {x : Str} : eqW .non (.str x) S = .ok (.bl false) S := by
  rw [eqW_d (d := .none) (e := .str x) rfl rfl]; simp [PyData.eqv]
theorem put_nm {i : Nat} {w : W} {s : En} : Tg.put (.nm i) w s = some (s.set i (some w)) := by rw [Tg.put]
theorem put_tp {l : List Tg} {ws : List W} {s : En} : Tg.put (.tp l) (.tup ws) s = Tg.puts l ws s := by rw [Tg.put]
theorem puts_nil {s : En} : Tg.puts [] [] s = some s := by rw [Tg.puts]
theorem puts_cons {t : Tg} {l : List Tg} {w : W} {ws : List W} {s : En} : Tg.puts (t :: l) (w :: ws) s = (Tg.put t w s).bind (Tg.puts l ws) := by rw [Tg.puts]
end Ev

set_option Elab.async false
set_option linter.all false
set_option maxRecDepth 100000
/-! Ev15: raise; try .. except X as n with isinstance of n in the suite. -/
namespace Ev
open PySem L2 PySem.Spec PyProof.Rows
section
variable {X : Cx} {Z : WX}
def sRaise (c : Str) : SV := fun s S => .ex ⟨c, []⟩ s S
theorem s_raise {x m : Str} {j : Nat} {p p2 pos pos' : Pos} {C : Addr} {B : String} {newId initId : String} {bmB : List Value} (hc : X.calm = true) (tk : Takes X Z) (F : ExcBaseFacts B newId initId bmB) (q : PySem.W.excIn X.K C bmB newId = true) (gC : X.mg x = some (.ref C)) (kC : PySem.W.keepIn X.K (.ref C) = true) (b : PySem.W.subIn X.K (.ref C) (.type "BaseException") = some true) (t : PySem.W.typeIn X.K (.ref C) = some (.type "type")) (hg : Gl X x := by rfl)
    (hdb : (x == ("__debug__" : Str)) = false := by decide) : PS X (.Raise (some (.Call (.Name x p) [.Constant (.str m) j p2] [] pos)) none pos') (tS X Z (sRaise x)) := by
  refine (ps_raise hc tk (pmk_own F q gC kC (raises_own b t) hg hdb)).imp ?_
  rintro D st H ⟨f, s, S, hE, hS, hp⟩
  exact hp f H st (.ref C) none Kp.refl hS hE ⟨C, gC, rfl, .inl ⟨rfl, rfl⟩⟩
/-! ### within a suite: the name's slot i holds the error -/
abbrev tJ (i : Nat) (a : Addr) (X : Cx) (Z : WX) (m : EV) : TE := fun st H Q => st[i]? = some (some (V.ref a)) ∧ tI X Z m st H Q
abbrev tJA (i : Nat) (a : Addr) (X : Cx) (Z : WX) (m : AV) : TA := fun st H Q => st[i]? = some (some (V.ref a)) ∧ tA X Z m st H Q
variable {i : Nat} {a : Addr} {e b : Expr} {es : List Expr} {pos : Pos} {ma mb : EV} {mr : AV}
theorem j_lift (h : PE X e (tI X Z ma)) : PE X e (tJ i a X Z ma) := h.imp fun _ _ _ q => q.2
theorem j_one {op} (h : PE X e (tJ i a X Z ma)) : PE X (.BoolOp op [e] pos) (tJ i a X Z ma) := pe_one h
theorem j_or (ha : PE X e (tJ i a X Z ma)) (hb : PE X (.BoolOp .Or (b :: es) pos) (tJ i a X Z mb)) : PE X (.BoolOp .Or (e :: b :: es) pos) (tJ i a X Z (vOr ma mb)) := by
  refine (pe_or ha hb).imp ?_
  rintro st H Q ⟨hi, f, s, S, hE, hS, hp⟩
  refine ⟨hi, f, s, S, hE, hS, hp.seq fun f1 H1 w1 S1 v1 k1 s1 p1 hp1 => ?_⟩
  try dsimp only at hp1
  split at hp1
  · rename_i c
    unfold Rp at p1
    refine ⟨c, p1, ?_⟩
    by_cases e : c = true
    · rw [if_pos e] at hp1 ⊢
      exact hp1.fin s1 (by unfold Rp; rfl)
    · rw [if_neg e] at hp1 ⊢
      exact ⟨hi, f1, s, S1, hE.mono k1, s1, hp1⟩
  · exact hp1.elim
theorem j_nil : PA X [] (tJA i a X Z aNil) := a_nil.imp fun _ _ _ q => q.2
theorem j_cons (ha : PE X e (tJ i a X Z ma)) (hr : PA X es (tJA i a X Z mr)) (hs : starEach (e :: es) X.env = (false, eval e X.env) :: starEach es X.env := by rfl) : PA X (e :: es) (tJA i a X Z (aCons ma mr)) := by
  refine (pa_cons ha hr hs).imp ?_
  rintro st H Q ⟨hi, f, s, S, hE, hS, hp⟩
  exact ⟨hi, f, s, S, hE, hS, hp.seq fun f1 H1 w1 S1 v1 k1 s1 p1 hp1 => ⟨hi, f1, s, S1, hE.mono k1, s1, hp1.seq fun f2 H2 w2 S2 v2 k2 s2 p2 hp2 => hp2.fin s2 (.cons (p1.mono k2) p2)⟩⟩
theorem j_lst (ha : PA X es (tJA i a X Z mr)) : PE X (.List es pos) (tJ i a X Z (eL lstW mr)) := by
  refine (pe_lst ha).imp ?_
  rintro st H Q ⟨hi, f, s, S, hE, hS, hp⟩
  refine ⟨hi, f, s, S, hE, hS, hp.seq fun f1 H1 ws S1 vs k1 s1 p1 hp1 => ?_⟩
  unfold lstW at hp1
  split at hp1
  · rename_i z
    exact ⟨by rw [p1.length]; exact mill z, fun p hn => hp1.newL s1 p1 hn⟩
  · exact hp1.elim
/-- names of classes in a row -/
abbrev tVs (vs : List V) : TA := fun _ H Q => Q vs H
theorem pv_nil : PA X [] (tVs []) := pa_nil.imp fun _ _ _ q => q
theorem pv_cons {x : Str} {p : Pos} {C : Addr} {vs : List V} (gC : X.mg x = some (.ref C)) (hr : PA X es (tVs vs)) (hg : Gl X x := by rfl) (hd : (x == ("__debug__" : Str)) = false := by decide) (hs : starEach (Expr.Name x p :: es) X.env = (false, eval (.Name x p) X.env) :: starEach es X.env := by rfl) : PA X (.Name x p :: es) (tVs (.ref C :: vs)) :=
  (pa_cons (pe_glob hg gC (show RelV (.ref C) (.ref C) from rfl) hd) hr hs).imp fun _ _ _ q => q
theorem pv_ty {x : Str} {n : String} {p : Pos} {vs : List V} (hm : X.mg x = none) (hv : bootBuiltins x = some (.type n)) (hr : PA X es (tVs vs)) (hg : Gl X x := by rfl) (hn : x ≠ "__name__" := by decide) (hd : (x == ("__debug__" : Str)) = false := by decide) (hs : starEach (Expr.Name x p :: es) X.env = (false, eval (.Name x p) X.env) :: starEach es X.env := by rfl) : PA X (.Name x p :: es) (tVs (.ty n :: vs)) :=
  (pa_cons (pe_bltn hg hm hv (show RelV (.ty n) (.type n) from rfl) hn hd) hr hs).imp fun _ _ _ q => q
end
section
variable {X : Cx} {Z : WX} {i : Nat} {a D : Addr} {oe : Obj} {pn : List (Addr × Obj)}
/-- isinstance(e, (c1, ..)), e the exception that the suite holds -/
def rIsET (K : PySem.W.Frag) (D a : Addr) : List V → Hp → VK → Prop := fun xs H Q => ∃ (tp : Addr) (cs : List V) (us : List Value) (b : Bool), xs = [.ref a, .ref tp] ∧ H tp = some (.tup cs) ∧ Paired ClsV cs us ∧ PySem.W.kitAny K (.ref D) us = some b ∧ Q (.bl b) H
theorem call_isET (C : ExcC X.K D) (hz : Zc (.ref D) none oe) (hf : ∃ vs, oe.data = .fields vs) : CallR (X.suite a ((a, oe) :: pn)) (.builtin "isinstance") (rIsET X.K D a) := by
  intro pins s σ H xs us Q I r h
  obtain ⟨tp, cs, ws, b, rfl, hT, k, e, q⟩ := h
  obtain ⟨u1, u2, rfl, r1, r2⟩ := vals2 r
  cases (show u1 = Value.ref a from r1)
  cases (show u2 = Value.ref tp from r2)
  obtain ⟨hget, _⟩ := I.pin (a, oe) (List.mem_append.mpr (.inl List.mem_cons_self))
  obtain ⟨vs, hv⟩ := hf
  have J : PySem.W.InstAt s.heap a oe D none := by
    obtain ⟨oc, od, oda, osl⟩ := oe
    obtain ⟨h1, h2⟩ := hz
    dsimp only at h1 h2 hv
    subst h1 h2 hv
    exact ⟨hget, rfl, rfl, trivial⟩
  obtain ⟨_, its, rv, o, h1, h2, n, h3⟩ := (show ObjOk X.prog X.w H s.heap tp (.tup cs) from I.hok tp _ hT)
  have e3 := ClsV.all k rv
  subst e3
  obtain ⟨oc, od, dt, sl⟩ := o
  simp only at h2 h3
  subst h2 h3
  exact PySem.W.kia_tup (PySem.W.handS_kitx_exc C.hg C.hk C.hs C.hd C.ha C.hn C.ht C.hm) I.kIn J h1 e (fun z => nomatch z) fun tk => ⟨.bl b, H, I.kept (t' := tk) fun _ _ z => z, rfl, q⟩
variable {n : Str} {p p1 p2 p3 pos : Pos} {es : List Expr} {b : Bool}
theorem j_isE {x : Expr} {c : V} {cv : Value} (C : ExcC X.K D) (hz : Zc (.ref D) none oe) (hf : ∃ vs, oe.data = .fields vs) (hm : X.mg "isinstance" = none) (hi : X.N[i]? = some n) (hv : Vis X.env.scope n) (hx : PA (X.suite a ((a, oe) :: pn)) [x] (tVs [c])) (hcv : ∀ u, RelV c u → u = cv) (hk : PySem.W.kitOne X.K (.ref D) cv = some b)
    (hg : Gl X "isinstance" := by rfl) (hd : (n == ("__debug__" : Str)) = false := by decide) (hcd : (n == ("__classdict__" : Str)) = false := by decide) (hs : starEach (Expr.Name n p1 :: [x]) X.env = (false, eval (.Name n p1) X.env) :: starEach [x] X.env := by rfl) (hpl : (backTo pos (starEach [x] X.env)).any (·.1) = false := by rfl) :
    PE (X.suite a ((a, oe) :: pn)) (.Call (.Name "isinstance" p) [.Name n p1, x] [] pos) (tJ i a (X.suite a ((a, oe) :: pn)) Z (eC (.bl b))) := by
  refine (pe_callB (call_isE C hz hf) hg hm (by decide +kernel) (pa_cons (pe_var (i := i) hi hv hd hcd) hx hs) (by decide) (by decide) hs hpl).imp ?_
  rintro st H Q ⟨hst, f, s, S, hE, hS, hp⟩
  exact ⟨_, hst, c, cv, b, rfl, hcv, hk, hp.fin hS Rp.bl'⟩
theorem j_isET {k : Nat} {cs : List V} {us : List Value} (C : ExcC X.K D) (hz : Zc (.ref D) none oe) (hf : ∃ vs, oe.data = .fields vs) (hm : X.mg "isinstance" = none) (hi : X.N[i]? = some n) (hv : Vis X.env.scope n) (hx : PA (X.suite a ((a, oe) :: pn)) es (tVs cs)) (hl : cs.length ≤ 1000) (hc : Paired ClsV cs us) (hk : PySem.W.kitAny X.K (.ref D) us = some b)
    (hg : Gl X "isinstance" := by rfl) (hd : (n == ("__debug__" : Str)) = false := by decide) (hcd : (n == ("__classdict__" : Str)) = false := by decide) (hs : starEach (Expr.Name n p1 :: [.Tuple es k p2]) X.env = (false, eval (.Name n p1) X.env) :: starEach [.Tuple es k p2] X.env := by rfl)
    (hs2 : starEach [Expr.Tuple es k p2] X.env = (false, eval (.Tuple es k p2) X.env) :: starEach [] X.env := by rfl) (hpl : (backTo pos (starEach [Expr.Tuple es k p2] X.env)).any (·.1) = false := by rfl) :
    PE (X.suite a ((a, oe) :: pn)) (.Call (.Name "isinstance" p) [.Name n p1, .Tuple es k p2] [] pos) (tJ i a (X.suite a ((a, oe) :: pn)) Z (eC (.bl b))) := by
  refine (pe_callB (call_isET C hz hf) hg hm (by decide +kernel) (pa_cons (pe_var (i := i) hi hv hd hcd) (pa_cons (pe_tup hx) pa_nil hs2) hs) (by decide) (by decide) hs hpl).imp ?_
  rintro st H Q ⟨hst, f, s, S, hE, hS, hp⟩
  refine ⟨_, hst, mill (by omega), fun T hT => ⟨T, cs, us, b, rfl, upd_same, hc, hk, ?_⟩⟩
  exact hp f _ _ (kpLaid hT _) (hS.laid hT _) Rp.bl'
end
end Ev

set_option Elab.async false
set_option linter.all false
set_option maxRecDepth 100000
/-! Ev16: try .. except X as n. -/
namespace Ev
open PySem L2 PySem.Spec PyProof.Rows
section
variable {X : Cx} {Z : WX} {i : Nat} {a : Addr} {e : Expr} {st0 : Stmt} {sts : List Stmt} {pos pos' : Pos} {m : EV} {ms mt : SV}
/-- ends that only see states in which the name still holds the error -/
def endJ (i : Nat) (a : Addr) (D : Ends) : Ends := { D with nx := fun st H => st[i]? = some (some (V.ref a)) → D.nx st H }
def tJS (i : Nat) (a : Addr) (X : Cx) (Z : WX) (m : SV) : TS := fun D st H => st[i]? = some (some (V.ref a)) ∧ ∃ f s S, RelE X.K X.mg f H s st ∧ RelS X.K X.mg f H S ∧ postS X Z f H (m s S) (endJ i a D)
theorem js_set (j : Nat) {x : Str} (hij : j ≠ i) (hN : X.N.Nodup) (he : PE X e (tJ i a X Z m)) (hx : Loc X.env.scope x := by first | exact Or.inl rfl | exact Or.inr rfl) (hi : X.N[j]? = some x := by rfl) (hs : swapsWith e (some (.Name x pos')) pos.line X.env = pure false := by rfl)
    (hf : X.fn x = true ∨ X.env.scope.names.lookup x = some .local := by first | exact .inl rfl | exact .inr rfl) : PS X (.Assign [.Name x pos'] e pos) (tJS i a X Z (sSet j m)) := by
  refine (ps_set hN hi hx he hs hf).imp ?_
  rintro D st H ⟨hst, f, s, S, hE, hS, hp⟩
  refine ⟨hst, f, s, S, hE, hS, hp.seq hE fun f1 H1 w1 S1 v1 k1 s1 e1 p1 hp1 => ?_⟩
  exact hp1 f1 H1 _ Kp.refl s1 (e1.set p1 j) (by rw [List.getElem?_set_ne hij]; exact hst)
theorem js_one (h : PS X st0 (tJS i a X Z ms)) : PSs X [st0] (tJS i a X Z ms) := pss_one h
theorem js_cons (h1 : PS X st0 (tJS i a X Z ms)) (h2 : PSs X sts (tJS i a X Z mt)) : PSs X (st0 :: sts) (tJS i a X Z (sSeq ms mt)) := by
  refine (pss_cons h1 h2).imp ?_
  rintro D st H ⟨hst, f, s, S, hE, hS, hp⟩
  refine ⟨hst, f, s, S, hE, hS, ?_⟩
  unfold sSeq at hp
  cases e : ms s S with
  | nx s1 S1 =>
    rw [e] at hp
    intro f' H' st' k' s' e' h'
    exact ⟨h', f', s1, S1, e', s', postS.mono (show postS X Z f H (mt s1 S1) (endJ i a D) from hp) k'⟩
  | rt w S1 => rw [e] at hp; exact hp
  | bk s1 S1 => rw [e] at hp; exact hp
  | ct s1 S1 => rw [e] at hp; exact hp
  | ex e1 s1 S1 => rw [e] at hp; exact hp
  | no => rw [e] at hp; exact hp
/-- ca: whether an error is caught; mu: the suite, by the error -/
def sTry (mb : SV) (i : Nat) (ca : Xn → Option Bool) (mu : Xn → SV) : SV := fun s S => match mb s S with
  | .ex e s2 S2 => match ca e with
    | some true => if i < s2.length then (match mu e (s2.set i none) S2 with
      | .nx s3 S3 => .nx (s3.set i none) S3
      | _ => .no) else .no
    | some false => .ex e s2 S2
    | none => .no
  | r => r
theorem relE_len {K : PySem.W.Frag} {mg : Str → Option Value} {f : List Addr} {H : Hp} : ∀ {s : En} {vs : L2.St}, RelE K mg f H s vs → vs.length = s.length
  | [], _, h => by unfold RelE at h; subst h; rfl
  | o :: s, vs, h => by
    unfold RelE at h
    obtain ⟨x, r, rfl, _, z⟩ := h
    rw [List.length_cons, List.length_cons, relE_len z]
theorem pss_ex {A : Type} {P : A → Prop} {X : Cx} {b : List Stmt} {t : A → TS} (h : ∀ e, P e → PSs X b (t e)) : PSs X b (fun D σ H => ∃ e, P e ∧ t e D σ H) :=
  ⟨fun pins s σ H D I q => by
    obtain ⟨e, he, q⟩ := q
    exact (h e he).run pins s σ H D I q⟩
theorem s_tryAs {x n : Str} {c : Value} {body suite : List Stmt} {b₀ : Stmt} {np : Pos} {mb : SV} {ca : Xn → Option Bool} {mu : Xn → SV}
    (hs : X.stack = X.env :: X.outer) (hf : X.env.frame = some X.env.locals) (hN : X.N.Nodup) (hi : X.N[i]? = some n) (hln : X.env.kindOf n = some .local) (hc : Names X x c) (tk : Takes X Z)
    (hca : ∀ y b C, ca y = some b → X.mg y.c = some (.ref C) → PySem.W.exmOne X.K (.ref C) c = some b)
    (hb : ∀ (W : WX) (pn : List (Addr × Obj)) (xe : Value → Shared → Prop), Takes (X.tr pn xe) W → PassesOwn (model X.prog X.w) X.A X.env xe → PSs (X.tr pn xe) body (tS (X.tr pn xe) W mb))
    (hsu : ∀ (a : Addr) (oe : Obj) (C : Addr) (d : Option Addr) (pn : List (Addr × Obj)) (e : Xn), Zc (.ref C) d oe → (∃ vs, oe.data = .fields vs) → X.mg e.c = some (.ref C) → ca e = some true → (e.fs = [] → d = none) → PSs (X.suite a ((a, oe) :: pn)) (b₀ :: suite) (tJS i a (X.suite a ((a, oe) :: pn)) Z0 (mu e))) :
    PS X (.Try body [.ExceptHandler (some (.Name x np)) (some n) (b₀ :: suite) pos'] [] [] pos) (tS X Z (sTry mb i ca mu)) := by
  refine (ps_try_as (i := i) (Wout := Z) (tb := fun W => tS X W mb) (ts := fun a cls d => fun D σ H => ∃ e : Xn, (∃ C, cls = .ref C ∧ X.mg e.c = some (.ref C) ∧ ca e = some true ∧ (e.fs = [] → d = none)) ∧ tJS i a X Z0 (mu e) D σ H)
    hs hf hN hi hln hc tk (fun W pn xe h1 h2 => hb W pn xe h1 h2) (fun a oe cls d pn hz hf => ?_)).imp ?_
  · refine pss_ex fun e he => ?_
    obtain ⟨C, rfl, h1, h2, h3⟩ := he
    exact hsu a oe C d pn e hz hf h1 h2 h3
  · rintro D st H ⟨f, s, S, hE, hS, hp⟩
    refine ⟨f, s, S, hE, hS, ?_⟩
    unfold sTry at hp
    cases e : mb s S with
    | nx s1 S1 => rw [e] at hp; exact hp
    | rt w S1 => rw [e] at hp; exact hp
    | bk s1 S1 => rw [e] at hp; exact hp
    | ct s1 S1 => rw [e] at hp; exact hp
    | no => rw [e] at hp; exact hp
    | ex x1 s1 S1 =>
      rw [e] at hp
      dsimp only at hp
      intro f' H' st' cl d k' s' e' x'
      obtain ⟨C, hC, rfl, hd⟩ := x'
      cases hcc : ca x1 with
      | none => rw [hcc] at hp; exact hp.elim
      | some b =>
        rw [hcc] at hp
        refine ⟨b, hca _ _ _ hcc hC, ?_, ?_⟩
        · rintro rfl a ha
          dsimp only at hp
          split at hp
          case isFalse => exact hp.elim
          rename_i hil
          refine ⟨x1, ⟨C, rfl, hC, hcc, fun hfs => ?_⟩, ?_, f', s1.set i none, S1, e'.clr i, s', ?_⟩
          · rcases hd with ⟨_, rfl⟩ | ⟨dx, vs, hne, rfl, hdx, hr⟩
            · rfl
            · exact absurd hfs hne
          · rw [List.getElem?_set_self (by rw [relE_len e']; exact hil)]
          · cases e2 : mu x1 (s1.set i none) S1 with
            | nx s3 S3 =>
              rw [e2] at hp
              intro f2 H2 st2 k2 s2 e2' _
              exact hp f2 H2 _ (k'.trans k2) s2 (e2'.clr i)
            | rt w S3 => rw [e2] at hp; exact hp.elim
            | bk s3 S3 => rw [e2] at hp; exact hp.elim
            | ct s3 S3 => rw [e2] at hp; exact hp.elim
            | ex _ s3 S3 => rw [e2] at hp; exact hp.elim
            | no => rw [e2] at hp; exact hp.elim
        · rintro rfl
          exact hp f' H' st' _ d k' s' e' ⟨C, hC, rfl, hd⟩
/-- one class, made without fields -/
def exOne (c : Str) (b : Bool) (e : Xn) : Option Bool := match e.fs with
  | [] => if e.c = c then some b else none
  | _ => none
theorem exOne_some {c : Str} {b b' : Bool} {e : Xn} (h : exOne c b e = some b') : e.c = c ∧ e.fs = [] ∧ b' = b := by
  unfold exOne at h
  split at h
  · rename_i h0
    split at h
    · rename_i h1
      cases h
      exact ⟨h1, h0, rfl⟩
    · cases h
  · cases h
/-! what a result with an error asks -/
theorem ws_try_nx {mb : SV} {i : Nat} {ca : Xn → Option Bool} {mu : Xn → SV} {s s2 : En} {S S2 : Sto} {P : RS → Prop} (h : mb s S = .nx s2 S2) (q : P (.nx s2 S2)) : wpS (sTry mb i ca mu s S) P := by
  unfold sTry; rw [h]; exact q
theorem ws_try_ex {mb : SV} {i : Nat} {ca : Xn → Option Bool} {mu : Xn → SV} {s s2 : En} {S S2 : Sto} {P : RS → Prop} {e : Xn} (h : mb s S = .ex e s2 S2) (hc : ca e = some true) (hi : i < s2.length) (q : wpS (mu e (s2.set i none) S2) fun r => match r with
    | .nx s3 S3 => P (.nx (s3.set i none) S3)
    | _ => False) : wpS (sTry mb i ca mu s S) P := by
  unfold sTry; rw [h]; dsimp only; rw [hc]; dsimp only; rw [if_pos hi]
  cases e2 : mu e (s2.set i none) S2 <;> rw [e2] at q <;> exact q
end
/-! isinstance of an error's class -/
theorem kit_ref {K : PySem.W.Frag} {t : Value} {C : Addr} {b : Bool} (hd : PySem.W.hasDictIn K C = true) (ht : PySem.W.typeIn K (.ref C) = some (.type "type")) (h4 : PySem.W.subIn K t (.ref C) = some b) (hne : b = true ∨ (t == .ref C) = false) : PySem.W.kitOne K t (.ref C) = some b := by
  unfold PySem.W.kitOne
  by_cases e : (t == .ref C) = true
  · rw [if_pos e]
    rcases hne with rfl | h
    · rfl
    · rw [h] at e; cases e
  · rw [if_neg e]
    obtain ⟨cd, hc, _⟩ := PySem.W.any_some hd
    have e2 : ((PySem.W.clsIn K C).isSome && PySem.W.typeIn K (.ref C) == some (.type "type")) = true := by rw [hc, ht] <;> rfl
    show (if ((PySem.W.clsIn K C).isSome && PySem.W.typeIn K (.ref C) == some (.type "type")) = true then PySem.W.subIn K t (.ref C) else none) = some b
    rw [if_pos e2]
    exact h4
theorem kit_type {K : PySem.W.Frag} {t : Value} {T : String} {b : Bool} (hm : PySem.W.kitMeta T = true) (h4 : PySem.W.subIn K t (.type T) = some b) (hne : b = true ∨ (t == .type T) = false) : PySem.W.kitOne K t (.type T) = some b := by
  unfold PySem.W.kitOne
  by_cases e : (t == .type T) = true
  · rw [if_pos e]
    rcases hne with rfl | h
    · rfl
    · rw [h] at e; cases e
  · rw [if_neg e]
    show (if PySem.W.kitMeta T = true then PySem.W.subIn K t (.type T) else none) = some b
    rw [if_pos hm]
    exact h4
theorem kit_f {K : PySem.W.Frag} {t c : Value} {cs : List Value} (h : PySem.W.kitOne K t c = some false) (hr : PySem.W.kitAny K t cs = some false) : PySem.W.kitAny K t (c :: cs) = some false := kitAny_cons h (fun _ => hr) fun z => nomatch z
theorem kit_ff {K : PySem.W.Frag} {t c : Value} {cs : List Value} {r : Bool} (h : PySem.W.kitOne K t c = some false) (hr : PySem.W.kitAny K t cs = some r) : PySem.W.kitAny K t (c :: cs) = some r := kitAny_cons h (fun _ => hr) fun z => nomatch z
theorem kit_t {K : PySem.W.Frag} {t c : Value} {cs : List Value} (h : PySem.W.kitOne K t c = some true) : PySem.W.kitAny K t (c :: cs) = some true := kitAny_cons h (fun z => nomatch z) fun _ => rfl
end Ev

set_option Elab.async false
set_option linter.all false
set_option maxRecDepth 100000
/-! the result terms of the defs, printed by gen.py -/
namespace Lw
open PySem L2 Ev
inductive Fn where
  | f_is_under | f_joined | f_is_whole | f_law_cell | f_law_mixed | f_law_stream | f_law_take | f_law_words | f_law_small | f_law_pair | f_law_kinds | f_law_same | f_law_worths | f_law_under | f_law_whole | f_law_least_above | f_law_cut | f_law_joined_right | f_law_right | f_law
abbrev LV : Nat := 64
abbrev Orc := Fn → List W → Sto → R W
def m_f_is_under (C : Orc) : SV :=
 (sSeq (sIf (bTest (e2 isW (eVar 0) (eC .non)))
 (sRet (eC (.bl true)))
 sNil)
 (sSeq (sIf (bTru (eL isiW (aCons (eVar 0) (aCons (eC (.ty "tuple")) aNil))))
 (sRet (vAnd (eL isiW (aCons (eVar 1) (aCons (eC (.ty "tuple")) aNil))) (vAnd (eL (C .f_is_under) (aCons (e2 ixW (eVar 0) (eC (.int 0))) (aCons (e2 ixW (eVar 1) (eC (.int 0))) aNil))) (eL (C .f_is_under) (aCons (e2 ixW (eVar 0) (eC (.int 1))) (aCons (e2 ixW (eVar 1) (eC (.int 1))) aNil))))))
 sNil)
 (sRet (e2 eqW (eVar 0) (eVar 1)))))
def m_f_joined (C : Orc) : SV :=
 (sSeq (sIf (bTest (e2 isW (eVar 0) (eC .non)))
 (sRet (eVar 1))
 sNil)
 (sSeq (sIf (bTest (e2 isW (eVar 1) (eC .non)))
 (sRet (eVar 0))
 sNil)
 (sSeq (sIf (bAnd (bTru (eL isiW (aCons (eVar 0) (aCons (eC (.ty "tuple")) aNil)))) (bTru (eL isiW (aCons (eVar 1) (aCons (eC (.ty "tuple")) aNil)))))
 (sRet (eL tupW (aCons (eL (C .f_joined) (aCons (e2 ixW (eVar 0) (eC (.int 0))) (aCons (e2 ixW (eVar 1) (eC (.int 0))) aNil))) (aCons (eL (C .f_joined) (aCons (e2 ixW (eVar 0) (eC (.int 1))) (aCons (e2 ixW (eVar 1) (eC (.int 1))) aNil))) aNil))))
 sNil)
 (sSeq (sIf (bTest (e2 neW (eVar 0) (eVar 1)))
 (sRaise "NoWorth")
 sNil)
 (sRet (eVar 0))))))
def m_f_is_whole (C : Orc) : SV :=
 (sSeq (sIf (bTru (eL isiW (aCons (eVar 0) (aCons (eC (.ty "tuple")) aNil))))
 (sRet (vAnd (eL (C .f_is_whole) (aCons (e2 ixW (eVar 0) (eC (.int 0))) aNil)) (eL (C .f_is_whole) (aCons (e2 ixW (eVar 0) (eC (.int 1))) aNil))))
 sNil)
 (sRet (e2 isnW (eVar 0) (eC .non))))
def m_f_law_cell (C : Orc) : SV :=
 (sSeq (sIf (bTest (e2 ltW (eVar 1) (eL lenW (aCons (eVar 0) aNil))))
 (sRet (e2 ixW (eVar 0) (eVar 1)))
 sNil)
 (sRet (eC (.int 0))))
def m_f_law_mixed (C : Orc) : SV :=
 (sSeq (sSet 2 (e2 modW (e2 addW (e2 addW (e2 mulW (e2 modW (eVar 0) (eC (.int 2147483647))) (eC (.int 48271))) (e2 mulW (eC (.int 69621)) (eVar 1))) (eC (.int 7919))) (eC (.int 2147483629))))
 (sSeq (sSet 2 (e2 modW (e2 addW (e2 addW (e2 mulW (eVar 2) (eVar 2)) (e2 mulW (eC (.int 31)) (eVar 1))) (eC (.int 5))) (eC (.int 2147483587))))
 (sRet (e2 modW (e2 mulW (eVar 2) (e2 addW (eVar 2) (eC (.int 69621)))) (eC (.int 2147483563))))))
def m_f_law_stream (C : Orc) : SV :=
 (sRet (eL lstW (aCons (eVar 0) (aCons (vOr (e2 geW (eVar 0) (e2 powW (eC (.int 10)) (eC (.int 18)))) (e2 leW (eVar 0) (e1 negW (e2 powW (eC (.int 10)) (eC (.int 18)))))) (aCons (eC (.int 0)) (aCons (e2 modW (eVar 0) (eC (.int 2147483647))) aNil))))))
def m_f_law_take (C : Orc) : SV :=
 (sSeq (sIf (bTru (e2 ixW (eVar 0) (eC (.int 1))))
 (sSeq (sSet 2 (e2 modW (e2 ixW (eVar 0) (eC (.int 0))) (eVar 1)))
 (sSeq (sPut (e2 fdivW (e2 ixW (eVar 0) (eC (.int 0))) (eVar 1)) (eVar 0) (eC (.int 0)))
 (sSeq (sPut (vAnd (e2 neW (e2 ixW (eVar 0) (eC (.int 0))) (eC (.int 0))) (e2 neW (e2 ixW (eVar 0) (eC (.int 0))) (e1 negW (eC (.int 1))))) (eVar 0) (eC (.int 1)))
 (sRet (eVar 2)))))
 sNil)
 (sSeq (sPut (e2 addW (e2 ixW (eVar 0) (eC (.int 2))) (eC (.int 1))) (eVar 0) (eC (.int 2)))
 (sRet (e2 modW (e2 fdivW (eL (C .f_law_mixed) (aCons (e2 ixW (eVar 0) (eC (.int 3))) (aCons (e2 ixW (eVar 0) (eC (.int 2))) aNil))) (eC (.int 7))) (eVar 1)))))
def m_f_law_words (C : Orc) : SV :=
 (sSeq (sSet 4 (eM "str" joinW (eC (.str (Str.ofString ""))) (aCons (eLc (iRng1 (eC (.int 8))) (.nm 8) bYes (e2 ixW (eVar 2) (eL (C .f_law_take) (aCons (eVar 0) (aCons (eC (.int 26)) aNil)))) [8]) aNil)))
 (sSeq (sSet 5 (eL (C .f_law_take) (aCons (eVar 0) (aCons (eC (.int 8)) aNil))))
 (sSeq (sSet 6 (eL (C .f_law_take) (aCons (eVar 0) (aCons (eVar 3) aNil))))
 (sSeq (sSet 7 (eL lstW aNil))
 (sSeq (sFor (iRng1 (eVar 1)) (.nm 8)
 (sSeq (sSet 9 (e2 ixW (eVar 2) (e2 modW (e2 addW (eM "str" sindexW (eVar 2) (aCons (e2 ixW (eVar 4) (eVar 5)) aNil)) (e2 mulW (eC (.int 5)) (eVar 8))) (eC (.int 26)))))
 (sSeq (sSet 10 (eL lstW (aCons (e2 addW (e2 addW (eSl slW (eVar 4) oNone (oSome (eVar 5))) (eVar 9)) (eSl slW (eVar 4) (oSome (e2 addW (eVar 5) (eC (.int 1)))) oNone)) (aCons (e2 addW (eVar 9) (eSl slW (eVar 4) oNone (oSome (e2 modW (e2 addW (e2 mulW (eC (.int 3)) (eVar 8)) (eVar 5)) (eC (.int 8)))))) (aCons (eSl slW (eVar 4) oNone (oSome (e2 addW (e2 modW (eVar 8) (eC (.int 8))) (eC (.int 1))))) (aCons (eSl slW (eVar 4) oNone (oSome (e2 subW (eC (.int 8)) (e2 modW (eVar 8) (eC (.int 8)))))) aNil))))))
 (sExpr (eM "list" appendW (eVar 7) (aCons (e2 ixW (eVar 10) (eVar 6)) aNil))))))
 (sRet (eVar 7)))))))
def m_f_law_small (C : Orc) : SV :=
 (sRet (eL (C .f_law_words) (aCons (eVar 0) (aCons (eVar 1) (aCons (eC (.str (Str.ofString "abcdefghijklmnopqrstuvwxyz"))) (aCons (eC (.int 4)) aNil))))))
def m_f_law_pair (C : Orc) : SV :=
 (sSeq (sSet 6 (e2 ixW (eVar 1) (eL (C .f_law_take) (aCons (eVar 0) (aCons (eL lenW (aCons (eVar 1) aNil)) aNil)))))
 (sSeq (sSet 7 (e2 ixW (eVar 1) (eL (C .f_law_take) (aCons (eVar 0) (aCons (eL lenW (aCons (eVar 1) aNil)) aNil)))))
 (sSeq (sSet 8 (e2 addW (eC (.int 1)) (eL max2W (aCons (e2 ixW (eVar 3) (eVar 6)) (aCons (e2 ixW (eVar 3) (eVar 7)) aNil)))))
 (sSeq (sIf (bOr (bTest (e2 gtW (eVar 8) (eC (.int 2)))) (bOr (bTest (e2 gtW (e2 addW (eC (.int 1)) (e2 mulW (e2 ixW (eVar 2) (eVar 6)) (e2 ixW (eVar 2) (eVar 7)))) (eVar 5))) (bTest (e2 inW (eL tupW (aCons (eC (.str (Str.ofString "pair"))) (aCons (eVar 6) (aCons (eVar 7) aNil)))) (eVar 4)))))
 (sRet (eC .non))
 sNil)
 (sRet (eL tupW (aCons (eC (.str (Str.ofString "pair"))) (aCons (eVar 6) (aCons (eVar 7) aNil)))))))))
def m_f_law_kinds (C : Orc) : SV :=
 (sSeq (sSet 3 (eL (C .f_law_small) (aCons (eVar 0) (aCons (e2 addW (eC (.int 1)) (eL (C .f_law_take) (aCons (eVar 0) (aCons (eVar 1) aNil)))) aNil))))
 (sSeq (sSet 4 (eL (C .f_law_words) (aCons (eVar 0) (aCons (e2 mulW (eC (.int 4)) (eL lenW (aCons (eVar 3) aNil))) (aCons (eC (.str (Str.ofString "ABCDEFGHIJKLMNOPQRSTUVWXYZ"))) (aCons (eC (.int 2)) aNil))))))
 (sSeq (sSet 5 dnewW)
 (sSeq (sSet 6 dnewW)
 (sSeq (sSet 7 (eL lstW aNil))
 (sSeq (sFor (iRng1 (eL lenW (aCons (eVar 3) aNil))) (.nm 8)
 (sSeq (sSet 9 (eC .non))
 (sSeq (sIf (bAnd (bTest (e2 gtW (eVar 8) (eC (.int 0)))) (bTest (e2 eqW (eL (C .f_law_take) (aCons (eVar 0) (aCons (eC (.int 2)) aNil))) (eC (.int 0)))))
 (sSet 9 (eL (C .f_law_pair) (aCons (eVar 0) (aCons (eSl slW (eVar 3) oNone (oSome (eVar 8))) (aCons (eVar 5) (aCons (eVar 6) (aCons (eLc (iSeq (eVar 7)) (.nm 10) bYes (e2 ixW (eVar 10) (eC (.int 1))) [10]) (aCons (eVar 2) aNil))))))))
 sNil)
 (sSeq (sIf (bTest (e2 isW (eVar 9) (eC .non)))
 (sSeq (sSet 9 (eL tupW (aCons (eC (.str (Str.ofString "tags"))) (aCons (eL tupleW (aCons (eSl slW (eVar 4) (oSome (e2 mulW (eC (.int 4)) (eVar 8))) (oSome (e2 addW (e2 addW (e2 mulW (eC (.int 4)) (eVar 8)) (eC (.int 1))) (eL (C .f_law_take) (aCons (eVar 0) (aCons (eC (.int 4)) aNil)))))) aNil)) aNil))))
 (sSeq (sPut (e2 addW (eC (.int 1)) (eL lenW (aCons (e2 ixW (eVar 9) (eC (.int 1))) aNil))) (eVar 5) (e2 ixW (eVar 3) (eVar 8)))
 (sPut (eC (.int 0)) (eVar 6) (e2 ixW (eVar 3) (eVar 8)))))
 (sSeq (sPut (e2 addW (eC (.int 1)) (e2 mulW (e2 ixW (eVar 5) (e2 ixW (eVar 9) (eC (.int 1)))) (e2 ixW (eVar 5) (e2 ixW (eVar 9) (eC (.int 2)))))) (eVar 5) (e2 ixW (eVar 3) (eVar 8)))
 (sPut (e2 addW (eC (.int 1)) (eL max2W (aCons (e2 ixW (eVar 6) (e2 ixW (eVar 9) (eC (.int 1)))) (aCons (e2 ixW (eVar 6) (e2 ixW (eVar 9) (eC (.int 2)))) aNil)))) (eVar 6) (e2 ixW (eVar 3) (eVar 8)))))
 (sExpr (eM "list" appendW (eVar 7) (aCons (eL tupW (aCons (e2 ixW (eVar 3) (eVar 8)) (aCons (eVar 9) aNil))) aNil)))))))
 (sRet (eL tupW (aCons (eVar 7) (aCons (eVar 5) aNil))))))))))
def m_f_law_same (C : Orc) : SV :=
 (sSeq (sIf (bTest (e2 isW (eVar 1) (eC .non)))
 (sRet (e2 isW (eVar 0) (eC .non)))
 sNil)
 (sSeq (sIf (bTru (eL isiW (aCons (eVar 1) (aCons (eC (.ty "bool")) aNil))))
 (sRet (vAnd (eL isiW (aCons (eVar 0) (aCons (eC (.ty "bool")) aNil))) (e2 eqW (eVar 0) (eVar 1))))
 sNil)
 (sSeq (sIf (bTru (eL isiW (aCons (eVar 1) (aCons (eC (.ty "str")) aNil))))
 (sRet (vAnd (eL isiW (aCons (eVar 0) (aCons (eC (.ty "str")) aNil))) (e2 eqW (eVar 0) (eVar 1))))
 sNil)
 (sSeq (sIf (bTru (eL isiW (aCons (eVar 1) (aCons (eC (.ty "int")) aNil))))
 (sRet (vAnd (eL isiW (aCons (eVar 0) (aCons (eC (.ty "int")) aNil))) (vAnd (vNot (eL isiW (aCons (eVar 0) (aCons (eC (.ty "bool")) aNil)))) (e2 eqW (eVar 0) (eVar 1)))))
 sNil)
 (sSeq (sIf (bOr (bAnd (bTru (eL isiW (aCons (eVar 1) (aCons (eC (.ty "tuple")) aNil)))) (bNot (bTru (eL isiW (aCons (eVar 0) (aCons (eC (.ty "tuple")) aNil)))))) (bAnd (bTru (eL isiW (aCons (eVar 1) (aCons (eC (.ty "list")) aNil)))) (bNot (bTru (eL isiW (aCons (eVar 0) (aCons (eC (.ty "list")) aNil)))))))
 (sRet (eC (.bl false)))
 sNil)
 (sSeq (sIf (bTest (e2 neW (eL lenW (aCons (eVar 0) aNil)) (eL lenW (aCons (eVar 1) aNil))))
 (sRet (eC (.bl false)))
 sNil)
 (sRet (eL allW (aCons (eLc (iZip (eVar 0) (eVar 1)) (.tp [(.nm 2), (.nm 3)]) bYes (eL (C .f_law_same) (aCons (eVar 2) (aCons (eVar 3) aNil))) [2, 3]) aNil)))))))))
def m_f_law_worths (C : Orc) : SV :=
 (sSeq (sSet 2 (e2 ixW (eVar 0) (eVar 1)))
 (sSeq (sIf (bTest (e2 eqW (e2 ixW (eVar 2) (eC (.int 0))) (eC (.str (Str.ofString "tags")))))
 (sRet (e2 addW (eL lstW (aCons (eC .non) aNil)) (eL listW (aCons (e2 ixW (eVar 2) (eC (.int 1))) aNil))))
 sNil)
 (sSeq (sSet 3 (eL lstW (aCons (eC .non) aNil)))
 (sSeq (sFor (iSeq (eL (C .f_law_worths) (aCons (eVar 0) (aCons (e2 ixW (eVar 2) (eC (.int 1))) aNil)))) (.nm 4)
 (sSet 3 (e2 addW (eVar 3) (eLc (iSeq (eL (C .f_law_worths) (aCons (eVar 0) (aCons (e2 ixW (eVar 2) (eC (.int 2))) aNil)))) (.nm 5) bYes (eL tupW (aCons (eVar 4) (aCons (eVar 5) aNil))) [5]))))
 (sRet (eVar 3))))))
def m_f_law_under (C : Orc) : SV :=
 (sSeq (sIf (bTest (e2 isW (eVar 0) (eC .non)))
 (sRet (eC (.bl true)))
 sNil)
 (sSeq (sIf (bAnd (bTru (eL isiW (aCons (eVar 0) (aCons (eC (.ty "tuple")) aNil)))) (bTru (eL isiW (aCons (eVar 1) (aCons (eC (.ty "tuple")) aNil)))))
 (sRet (vAnd (eL (C .f_law_under) (aCons (e2 ixW (eVar 0) (eC (.int 0))) (aCons (e2 ixW (eVar 1) (eC (.int 0))) aNil))) (eL (C .f_law_under) (aCons (e2 ixW (eVar 0) (eC (.int 1))) (aCons (e2 ixW (eVar 1) (eC (.int 1))) aNil)))))
 sNil)
 (sRet (e2 eqW (eVar 0) (eVar 1)))))
def m_f_law_whole (C : Orc) : SV :=
 (sSeq (sIf (bTru (eL isiW (aCons (eVar 0) (aCons (eC (.ty "tuple")) aNil))))
 (sRet (vAnd (eL (C .f_law_whole) (aCons (e2 ixW (eVar 0) (eC (.int 0))) aNil)) (eL (C .f_law_whole) (aCons (e2 ixW (eVar 0) (eC (.int 1))) aNil))))
 sNil)
 (sRet (e2 isnW (eVar 0) (eC .non))))
def m_f_law_least_above (C : Orc) : SV :=
 (sSeq (sSet 3 (eLc (iSeq (eVar 0)) (.nm 4) (bAnd (bTru (eL (C .f_law_under) (aCons (eVar 1) (aCons (eVar 4) aNil)))) (bTru (eL (C .f_law_under) (aCons (eVar 2) (aCons (eVar 4) aNil))))) (eVar 4) [4]))
 (sSeq (sFor (iSeq (eVar 3)) (.nm 4)
 (sIf (bTru (eL allW (aCons (eLc (iSeq (eVar 3)) (.nm 5) bYes (eL (C .f_law_under) (aCons (eVar 4) (aCons (eVar 5) aNil))) [5]) aNil)))
 (sRet (eL tupW (aCons (eC (.bl true)) (aCons (eVar 4) aNil))))
 sNil))
 (sRet (eL tupW (aCons (eC (.bl false)) (aCons (eC .non) aNil))))))
def m_f_law_cut (C : Orc) : SV :=
 (sSeq (sIf (bOr (bTest (e2 isW (eVar 0) (eC .non))) (bOr (bNot (bTru (eL isiW (aCons (eVar 0) (aCons (eC (.ty "tuple")) aNil))))) (bTest (e2 eqW (eL (C .f_law_take) (aCons (eVar 1) (aCons (eC (.int 3)) aNil))) (eC (.int 0))))))
 (sRet (eC .non))
 sNil)
 (sSeq (sIf (bTest (e2 eqW (eL (C .f_law_take) (aCons (eVar 1) (aCons (eC (.int 2)) aNil))) (eC (.int 0))))
 (sRet (eL tupW (aCons (eL (C .f_law_cut) (aCons (e2 ixW (eVar 0) (eC (.int 0))) (aCons (eVar 1) aNil))) (aCons (e2 ixW (eVar 0) (eC (.int 1))) aNil))))
 sNil)
 (sRet (eL tupW (aCons (e2 ixW (eVar 0) (eC (.int 0))) (aCons (eL (C .f_law_cut) (aCons (e2 ixW (eVar 0) (eC (.int 1))) (aCons (eVar 1) aNil))) aNil))))))
def m_f_law_joined_right (C : Orc) : SV :=
 (sSeq (sSet 3 (eC .non))
 (sSeq (sSet 4 (eL lstW aNil))
 (sSeq (sTry (sSet 3 (eL (C .f_joined) (aCons (eVar 0) (aCons (eVar 1) aNil)))) 5 (exOne "NoWorth" true) (fun _ => (sSeq (sSet 6 (eC (.bl false)))
 (sSeq (sSet 6 (vOr (eVar 6) (eC (.bl false))))
 (sSet 4 (eL lstW (aCons (eC (.bl true)) (aCons (eC (.bl true)) (aCons (eVar 6) aNil)))))))))
 (sSeq (sIf (bNot (bTru (e2 ixW (eVar 2) (eC (.int 0)))))
 (sRet (e2 eqW (eVar 4) (eL lstW (aCons (eC (.bl true)) (aCons (eC (.bl true)) (aCons (eC (.bl false)) aNil))))))
 sNil)
 (sRet (vAnd (e2 eqW (eVar 4) (eL lstW aNil)) (eL (C .f_law_same) (aCons (eVar 3) (aCons (e2 ixW (eVar 2) (eC (.int 1))) aNil)))))))))
def m_f_law_right (C : Orc) : SV :=
 (sSeq (sFor (iSeq (eL lstW (aCons (eL tupW (aCons (eVar 1) (aCons (eVar 2) aNil))) (aCons (eL tupW (aCons (eVar 2) (aCons (eVar 1) aNil))) (aCons (eL tupW (aCons (eVar 1) (aCons (eVar 1) aNil))) aNil))))) (.tp [(.nm 3), (.nm 4)])
 (sSeq (sIf (bNot (bTru (eL (C .f_law_same) (aCons (eL (C .f_is_under) (aCons (eVar 3) (aCons (eVar 4) aNil))) (aCons (eL (C .f_law_under) (aCons (eVar 3) (aCons (eVar 4) aNil))) aNil)))))
 (sRet (eC (.bl false)))
 sNil)
 (sIf (bNot (bTru (eL (C .f_law_joined_right) (aCons (eVar 3) (aCons (eVar 4) (aCons (eL (C .f_law_least_above) (aCons (eVar 0) (aCons (eVar 3) (aCons (eVar 4) aNil)))) aNil))))))
 (sRet (eC (.bl false)))
 sNil)))
 (sRet (vAnd (eL (C .f_law_same) (aCons (eL (C .f_is_whole) (aCons (eVar 1) aNil)) (aCons (eL (C .f_law_whole) (aCons (eVar 1) aNil)) aNil))) (eL (C .f_law_same) (aCons (eL (C .f_is_whole) (aCons (eVar 2) aNil)) (aCons (eL (C .f_law_whole) (aCons (eVar 2) aNil)) aNil))))))
def m_f_law (C : Orc) : SV :=
 (sSeq (sSet 1 (eLc (iRng1 (eC (.int 2))) (.nm 9) bYes (eL dictW (aCons (e2 ixW (eL (C .f_law_kinds) (aCons (eL (C .f_law_stream) (aCons (eL (C .f_law_cell) (aCons (eVar 0) (aCons (eVar 9) aNil))) aNil)) (aCons (eC (.int 6)) (aCons (eC (.int 30)) aNil)))) (eC (.int 0))) aNil)) [9]))
 (sSeq (sFor (iSeq (e2 addW (eL lstW (aCons (eL (C .f_law_cell) (aCons (eVar 0) (aCons (eC (.int 2)) aNil))) aNil)) (eSl slW (eVar 0) (oSome (eC (.int 3))) (oSome (eC (.int 18)))))) (.nm 2)
 (sSeq (sSet 3 (eL (C .f_law_stream) (aCons (eVar 2) aNil)))
 (sSeq (sSet 4 (e2 ixW (eVar 1) (eL (C .f_law_take) (aCons (eVar 3) (aCons (eC (.int 2)) aNil)))))
 (sSeq (sSet 5 (e2 ixW (eL listW (aCons (eVar 4) aNil)) (eL (C .f_law_take) (aCons (eVar 3) (aCons (eL lenW (aCons (eVar 4) aNil)) aNil)))))
 (sSeq (sSet 6 (eL (C .f_law_worths) (aCons (eVar 4) (aCons (eVar 5) aNil))))
 (sSeq (sSet 7 (e2 ixW (eVar 6) (eL (C .f_law_take) (aCons (eVar 3) (aCons (eL lenW (aCons (eVar 6) aNil)) aNil)))))
 (sSeq (sSet 8 (e2 ixW (eVar 6) (eL (C .f_law_take) (aCons (eVar 3) (aCons (eL lenW (aCons (eVar 6) aNil)) aNil)))))
 (sSeq (sIf (bTest (e2 eqW (eL (C .f_law_take) (aCons (eVar 3) (aCons (eC (.int 2)) aNil))) (eC (.int 0))))
 (sSet 8 (eL (C .f_law_cut) (aCons (eVar 7) (aCons (eVar 3) aNil))))
 sNil)
 (sIf (bNot (bTru (eL (C .f_law_right) (aCons (eVar 6) (aCons (eVar 7) (aCons (eVar 8) aNil))))))
 (sRet (eC (.bl false)))
 sNil)))))))))
 (sRet (eC (.bl true)))))
def body (C : Orc) : Orc
  | .f_is_under, ws, S => if ws.length = 2 then runF 2 (m_f_is_under C) ws S else .no
  | .f_joined, ws, S => if ws.length = 2 then runF 2 (m_f_joined C) ws S else .no
  | .f_is_whole, ws, S => if ws.length = 1 then runF 1 (m_f_is_whole C) ws S else .no
  | .f_law_cell, ws, S => if ws.length = 2 then runF 2 (m_f_law_cell C) ws S else .no
  | .f_law_mixed, ws, S => if ws.length = 2 then runF 3 (m_f_law_mixed C) ws S else .no
  | .f_law_stream, ws, S => if ws.length = 1 then runF 1 (m_f_law_stream C) ws S else .no
  | .f_law_take, ws, S => if ws.length = 2 then runF 3 (m_f_law_take C) ws S else .no
  | .f_law_words, ws, S => if ws.length = 4 then runF 11 (m_f_law_words C) ws S else .no
  | .f_law_small, ws, S => if ws.length = 2 then runF 2 (m_f_law_small C) ws S else .no
  | .f_law_pair, ws, S => if ws.length = 6 then runF 9 (m_f_law_pair C) ws S else .no
  | .f_law_kinds, ws, S => if ws.length = 3 then runF 11 (m_f_law_kinds C) ws S else .no
  | .f_law_same, ws, S => if ws.length = 2 then runF 4 (m_f_law_same C) ws S else .no
  | .f_law_worths, ws, S => if ws.length = 2 then runF 6 (m_f_law_worths C) ws S else .no
  | .f_law_under, ws, S => if ws.length = 2 then runF 2 (m_f_law_under C) ws S else .no
  | .f_law_whole, ws, S => if ws.length = 1 then runF 1 (m_f_law_whole C) ws S else .no
  | .f_law_least_above, ws, S => if ws.length = 3 then runF 6 (m_f_law_least_above C) ws S else .no
  | .f_law_cut, ws, S => if ws.length = 2 then runF 2 (m_f_law_cut C) ws S else .no
  | .f_law_joined_right, ws, S => if ws.length = 3 then runF 7 (m_f_law_joined_right C) ws S else .no
  | .f_law_right, ws, S => if ws.length = 3 then runF 5 (m_f_law_right C) ws S else .no
  | .f_law, ws, S => if ws.length = 1 then runF 10 (m_f_law C) ws S else .no
def call : Nat → Orc
  | 0, _, _, _ => .no
  | n + 1, g, ws, S => body (call n) g ws S
end Lw

set_option Elab.async false
set_option linter.all false
set_option maxRecDepth 100000
/-! the walks of the defs, printed by gen.py -/
namespace Lw
open PySem L2 Ev
def top (i : Nat) : Stmt := PySem.Challenge.pw_wantway_k03_under_and_joined.main.body.getD i (.Pass ⟨0, 0, 0, 0⟩)
abbrev s_f_is_under : Stmt := top 16
theorem sc_f_is_under : FnScope ["one", "other"] ["one", "other"] (defScope s_f_is_under) := ⟨rfl, rfl, rfl, by decide +kernel, rfl, by decide +kernel, by decide +kernel⟩
abbrev s_f_joined : Stmt := top 17
theorem sc_f_joined : FnScope ["one", "other"] ["one", "other"] (defScope s_f_joined) := ⟨rfl, rfl, rfl, by decide +kernel, rfl, by decide +kernel, by decide +kernel⟩
abbrev s_f_is_whole : Stmt := top 18
theorem sc_f_is_whole : FnScope ["worth"] ["worth"] (defScope s_f_is_whole) := ⟨rfl, rfl, rfl, by decide +kernel, rfl, by decide +kernel, by decide +kernel⟩
abbrev s_f_law_cell : Stmt := top 20
theorem sc_f_law_cell : FnScope ["script", "k"] ["script", "k"] (defScope s_f_law_cell) := ⟨rfl, rfl, rfl, by decide +kernel, rfl, by decide +kernel, by decide +kernel⟩
abbrev s_f_law_mixed : Stmt := top 21
theorem sc_f_law_mixed : FnScope ["cell", "k", "number"] ["cell", "k"] (defScope s_f_law_mixed) := ⟨rfl, rfl, rfl, by decide +kernel, rfl, by decide +kernel, by decide +kernel⟩
abbrev s_f_law_stream : Stmt := top 22
theorem sc_f_law_stream : FnScope ["cell"] ["cell"] (defScope s_f_law_stream) := ⟨rfl, rfl, rfl, by decide +kernel, rfl, by decide +kernel, by decide +kernel⟩
abbrev s_f_law_take : Stmt := top 23
theorem sc_f_law_take : FnScope ["stream", "many", "number"] ["stream", "many"] (defScope s_f_law_take) := ⟨rfl, rfl, rfl, by decide +kernel, rfl, by decide +kernel, by decide +kernel⟩
abbrev s_f_law_words : Stmt := top 24
theorem sc_f_law_words : FnScope ["stream", "many", "letters", "ways", "base", "at", "way", "words", "k", "sign", "some"] ["stream", "many", "letters", "ways"] (defScope s_f_law_words) := ⟨rfl, rfl, rfl, by decide +kernel, rfl, by decide +kernel, by decide +kernel⟩
abbrev s_f_law_small : Stmt := top 25
theorem sc_f_law_small : FnScope ["stream", "many"] ["stream", "many"] (defScope s_f_law_small) := ⟨rfl, rfl, rfl, by decide +kernel, rfl, by decide +kernel, by decide +kernel⟩
abbrev s_f_law_pair : Stmt := top 26
theorem sc_f_law_pair : FnScope ["stream", "names", "counts", "depths", "taken", "top", "one", "other", "deep"] ["stream", "names", "counts", "depths", "taken", "top"] (defScope s_f_law_pair) := ⟨rfl, rfl, rfl, by decide +kernel, rfl, by decide +kernel, by decide +kernel⟩
abbrev s_f_law_kinds : Stmt := top 27
theorem sc_f_law_kinds : FnScope ["stream", "most", "top", "names", "tags", "counts", "depths", "kinds", "k", "shape", "kind"] ["stream", "most", "top"] (defScope s_f_law_kinds) := ⟨rfl, rfl, rfl, by decide +kernel, rfl, by decide +kernel, by decide +kernel⟩
abbrev s_f_law_same : Stmt := top 28
theorem sc_f_law_same : FnScope ["found", "due", "one", "other"] ["found", "due"] (defScope s_f_law_same) := ⟨rfl, rfl, rfl, by decide +kernel, rfl, by decide +kernel, by decide +kernel⟩
abbrev s_f_law_worths : Stmt := top 29
theorem sc_f_law_worths : FnScope ["shapes", "kind", "shape", "found", "one", "other"] ["shapes", "kind"] (defScope s_f_law_worths) := ⟨rfl, rfl, rfl, by decide +kernel, rfl, by decide +kernel, by decide +kernel⟩
abbrev s_f_law_under : Stmt := top 30
theorem sc_f_law_under : FnScope ["one", "other"] ["one", "other"] (defScope s_f_law_under) := ⟨rfl, rfl, rfl, by decide +kernel, rfl, by decide +kernel, by decide +kernel⟩
abbrev s_f_law_whole : Stmt := top 31
theorem sc_f_law_whole : FnScope ["worth"] ["worth"] (defScope s_f_law_whole) := ⟨rfl, rfl, rfl, by decide +kernel, rfl, by decide +kernel, by decide +kernel⟩
abbrev s_f_law_least_above : Stmt := top 32
theorem sc_f_law_least_above : FnScope ["worths", "one", "other", "above", "worth", "extra"] ["worths", "one", "other"] (defScope s_f_law_least_above) := ⟨rfl, rfl, rfl, by decide +kernel, rfl, by decide +kernel, by decide +kernel⟩
abbrev s_f_law_cut : Stmt := top 33
theorem sc_f_law_cut : FnScope ["worth", "stream"] ["worth", "stream"] (defScope s_f_law_cut) := ⟨rfl, rfl, rfl, by decide +kernel, rfl, by decide +kernel, by decide +kernel⟩
abbrev s_f_law_joined_right : Stmt := top 34
theorem sc_f_law_joined_right : FnScope ["one", "other", "due", "found", "marks", "e", "others"] ["one", "other", "due"] (defScope s_f_law_joined_right) := ⟨rfl, rfl, rfl, by decide +kernel, rfl, by decide +kernel, by decide +kernel⟩
abbrev s_f_law_right : Stmt := top 35
theorem sc_f_law_right : FnScope ["worths", "one", "other", "first", "second"] ["worths", "one", "other"] (defScope s_f_law_right) := ⟨rfl, rfl, rfl, by decide +kernel, rfl, by decide +kernel, by decide +kernel⟩
abbrev s_f_law : Stmt := top 36
theorem sc_f_law : FnScope ["script", "both", "cell", "stream", "shapes", "kind", "worths", "one", "other", "k"] ["script"] (defScope s_f_law) := ⟨rfl, rfl, rfl, by decide +kernel, rfl, by decide +kernel, by decide +kernel⟩
structure Txt (K : PySem.W.Frag) (mg : Str → Option Value) : Prop where
  t_f_is_under : ∃ f fd, Fun K "is_under" "is_under" s_f_is_under f fd ∧ At K mg "is_under" 2 f fd ["one", "other"]
  t_f_joined : ∃ f fd, Fun K "joined" "joined" s_f_joined f fd ∧ At K mg "joined" 2 f fd ["one", "other"]
  t_f_is_whole : ∃ f fd, Fun K "is_whole" "is_whole" s_f_is_whole f fd ∧ At K mg "is_whole" 1 f fd ["worth"]
  t_f_law_cell : ∃ f fd, Fun K "_law_cell" "_law_cell" s_f_law_cell f fd ∧ At K mg "_law_cell" 2 f fd ["script", "k"]
  t_f_law_mixed : ∃ f fd, Fun K "_law_mixed" "_law_mixed" s_f_law_mixed f fd ∧ At K mg "_law_mixed" 2 f fd ["cell", "k"]
  t_f_law_stream : ∃ f fd, Fun K "_law_stream" "_law_stream" s_f_law_stream f fd ∧ At K mg "_law_stream" 1 f fd ["cell"]
  t_f_law_take : ∃ f fd, Fun K "_law_take" "_law_take" s_f_law_take f fd ∧ At K mg "_law_take" 2 f fd ["stream", "many"]
  t_f_law_words : ∃ f fd, Fun K "_law_words" "_law_words" s_f_law_words f fd ∧ At K mg "_law_words" 4 f fd ["stream", "many", "letters", "ways"]
  t_f_law_small : ∃ f fd, Fun K "_law_small" "_law_small" s_f_law_small f fd ∧ At K mg "_law_small" 2 f fd ["stream", "many"]
  t_f_law_pair : ∃ f fd, Fun K "_law_pair" "_law_pair" s_f_law_pair f fd ∧ At K mg "_law_pair" 6 f fd ["stream", "names", "counts", "depths", "taken", "top"]
  t_f_law_kinds : ∃ f fd, Fun K "_law_kinds" "_law_kinds" s_f_law_kinds f fd ∧ At K mg "_law_kinds" 3 f fd ["stream", "most", "top"]
  t_f_law_same : ∃ f fd, Fun K "_law_same" "_law_same" s_f_law_same f fd ∧ At K mg "_law_same" 2 f fd ["found", "due"]
  t_f_law_worths : ∃ f fd, Fun K "_law_worths" "_law_worths" s_f_law_worths f fd ∧ At K mg "_law_worths" 2 f fd ["shapes", "kind"]
  t_f_law_under : ∃ f fd, Fun K "_law_under" "_law_under" s_f_law_under f fd ∧ At K mg "_law_under" 2 f fd ["one", "other"]
  t_f_law_whole : ∃ f fd, Fun K "_law_whole" "_law_whole" s_f_law_whole f fd ∧ At K mg "_law_whole" 1 f fd ["worth"]
  t_f_law_least_above : ∃ f fd, Fun K "_law_least_above" "_law_least_above" s_f_law_least_above f fd ∧ At K mg "_law_least_above" 3 f fd ["worths", "one", "other"]
  t_f_law_cut : ∃ f fd, Fun K "_law_cut" "_law_cut" s_f_law_cut f fd ∧ At K mg "_law_cut" 2 f fd ["worth", "stream"]
  t_f_law_joined_right : ∃ f fd, Fun K "_law_joined_right" "_law_joined_right" s_f_law_joined_right f fd ∧ At K mg "_law_joined_right" 3 f fd ["one", "other", "due"]
  t_f_law_right : ∃ f fd, Fun K "_law_right" "_law_right" s_f_law_right f fd ∧ At K mg "_law_right" 3 f fd ["worths", "one", "other"]
  t_f_law : ∃ f fd, Fun K "law" "law" s_f_law f fd ∧ At K mg "law" 1 f fd ["script"]
  z_ValueError : mg "ValueError" = none
  z_all : mg "all" = none
  z_bool : mg "bool" = none
  z_dict : mg "dict" = none
  z_int : mg "int" = none
  z_isinstance : mg "isinstance" = none
  z_len : mg "len" = none
  z_list : mg "list" = none
  z_max : mg "max" = none
  z_range : mg "range" = none
  z_str : mg "str" = none
  z_tuple : mg "tuple" = none
  z_zip : mg "zip" = none
  ex : ∃ cl_NoWorth cl_WantError cl_Falling cl_NoAsking cl_NoBook cl_NoCell cl_NoKinds cl_NoMore cl_NoMost cl_NoNote cl_NoPart cl_NoRows cl_NoSheet cl_Torn : Addr, mg "NoWorth" = some (.ref cl_NoWorth) ∧ mg "WantError" = some (.ref cl_WantError) ∧ mg "Falling" = some (.ref cl_Falling) ∧ mg "NoAsking" = some (.ref cl_NoAsking) ∧ mg "NoBook" = some (.ref cl_NoBook) ∧ mg "NoCell" = some (.ref cl_NoCell) ∧ mg "NoKinds" = some (.ref cl_NoKinds) ∧ mg "NoMore" = some (.ref cl_NoMore) ∧ mg "NoMost" = some (.ref cl_NoMost) ∧ mg "NoNote" = some (.ref cl_NoNote) ∧ mg "NoPart" = some (.ref cl_NoPart) ∧ mg "NoRows" = some (.ref cl_NoRows) ∧ mg "NoSheet" = some (.ref cl_NoSheet) ∧ mg "Torn" = some (.ref cl_Torn) ∧ PySem.W.excIn K cl_NoWorth [.type "ValueError", .type "Exception", .type "BaseException", .type "object"] "ValueError.__new__" = true ∧ PySem.W.keepIn K (.ref cl_NoWorth) = true ∧ PySem.W.subIn K (.ref cl_NoWorth) (.type "BaseException") = some true ∧ PySem.W.typeIn K (.ref cl_NoWorth) = some (.type "type") ∧ ExcC K cl_NoWorth ∧ PySem.W.subIn K (.ref cl_WantError) (.type "BaseException") = some true ∧ PySem.W.typeIn K (.ref cl_WantError) = some (.type "type") ∧ PySem.W.hasDictIn K cl_WantError = true ∧ PySem.W.subIn K (.ref cl_NoWorth) (.ref cl_WantError) = some true ∧ PySem.W.kitAny K (.ref cl_NoWorth) [(.ref cl_Falling), (.ref cl_NoAsking), (.ref cl_NoBook), (.ref cl_NoCell), (.ref cl_NoKinds), (.ref cl_NoMore), (.ref cl_NoMost), (.ref cl_NoNote), (.ref cl_NoPart)] = some false ∧ PySem.W.kitAny K (.ref cl_NoWorth) [(.ref cl_NoRows), (.ref cl_NoSheet), (.ref cl_Torn)] = some false ∧ PySem.W.kitOne K (.ref cl_NoWorth) (.type "ValueError") = some true ∧ PySem.W.kitOne K (.ref cl_NoWorth) (.ref cl_NoWorth) = some true
abbrev HeldG (P : Program) (w : World) (K : PySem.W.Frag) (mg : Str → Option Value) (base : Heap) (n : Nat) : Fn → Prop
  | .f_is_under => Held P w K mg base n "is_under" (call n .f_is_under)
  | .f_joined => Held P w K mg base n "joined" (call n .f_joined)
  | .f_is_whole => Held P w K mg base n "is_whole" (call n .f_is_whole)
  | .f_law_cell => Held P w K mg base n "_law_cell" (call n .f_law_cell)
  | .f_law_mixed => Held P w K mg base n "_law_mixed" (call n .f_law_mixed)
  | .f_law_stream => Held P w K mg base n "_law_stream" (call n .f_law_stream)
  | .f_law_take => Held P w K mg base n "_law_take" (call n .f_law_take)
  | .f_law_words => Held P w K mg base n "_law_words" (call n .f_law_words)
  | .f_law_small => Held P w K mg base n "_law_small" (call n .f_law_small)
  | .f_law_pair => Held P w K mg base n "_law_pair" (call n .f_law_pair)
  | .f_law_kinds => Held P w K mg base n "_law_kinds" (call n .f_law_kinds)
  | .f_law_same => Held P w K mg base n "_law_same" (call n .f_law_same)
  | .f_law_worths => Held P w K mg base n "_law_worths" (call n .f_law_worths)
  | .f_law_under => Held P w K mg base n "_law_under" (call n .f_law_under)
  | .f_law_whole => Held P w K mg base n "_law_whole" (call n .f_law_whole)
  | .f_law_least_above => Held P w K mg base n "_law_least_above" (call n .f_law_least_above)
  | .f_law_cut => Held P w K mg base n "_law_cut" (call n .f_law_cut)
  | .f_law_joined_right => Held P w K mg base n "_law_joined_right" (call n .f_law_joined_right)
  | .f_law_right => Held P w K mg base n "_law_right" (call n .f_law_right)
  | .f_law => Held P w K mg base n "law" (call n .f_law)
theorem hu0_of {A : Around} {k : Nat} (hr : Room k A) : A.units + 64 < cLine := hr.units
theorem hu1_of {A : Around} {k : Nat} (hr : Room k A) : A.units + 65 < cLine := by have := hr.un; omega
theorem hu2_of {A : Around} {k : Nat} (hr : Room k A) : A.units + 1 < cLine := by have := hr.un; omega
section
variable {P : Program} {w : World} {K : PySem.W.Frag} {mg : Str → Option Value} {base : Heap} {n : Nat}
theorem ok_f_is_under (T : Txt K mg) (IH : ∀ g, HeldG P w K mg base n g) : HeldG P w K mg base (n + 1) .f_is_under := by
  obtain ⟨f, fd, F, A⟩ := T.t_f_is_under
  refine ⟨_, f, fd, _, A, fnW (m := m_f_is_under (call n)) F sc_f_is_under (fun ws S h => if_neg h) (fun cdv A outer s H E hr => ?_) (fun ws S h => if_pos h)⟩
  exact (ss_cons (s_if (t_cmp op_isN snd_is (e_var 0) e_non)
 (ss_one (s_ret e_bl))
 ss_nil)
 (ss_cons (s_if (t_val (e_callB call_isiW snd_isi (by rfl) T.z_isinstance (by decide +kernel) (a_cons (e_var 0) (a_cons (e_type (by rfl) T.z_tuple (by decide +kernel)) a_nil))))
 (ss_one (s_ret (e_and (e_callB call_isiW snd_isi (by rfl) T.z_isinstance (by decide +kernel) (a_cons (e_var 1) (a_cons (e_type (by rfl) T.z_tuple (by decide +kernel)) a_nil))) (e_and (e_call (IH .f_is_under) hr (takes_of rfl rfl rfl rfl) (a_cons (e_ixr (ix_any (hu2_of hr)) snd_ix (e_var 0) e_int) (a_cons (e_ixr (ix_any (hu2_of hr)) snd_ix (e_var 1) e_int) a_nil))) (e_one (e_call (IH .f_is_under) hr (takes_of rfl rfl rfl rfl) (a_cons (e_ixr (ix_any (hu2_of hr)) snd_ix (e_var 0) e_int) (a_cons (e_ixr (ix_any (hu2_of hr)) snd_ix (e_var 1) e_int) a_nil))))))))
 ss_nil)
 (ss_one (s_ret (e_cmp (op_eqP (hu0_of hr)) snd_eq (e_var 0) (e_var 1))))))
theorem ok_f_joined (T : Txt K mg) (IH : ∀ g, HeldG P w K mg base n g) : HeldG P w K mg base (n + 1) .f_joined := by
  obtain ⟨f, fd, F, A⟩ := T.t_f_joined
  obtain ⟨cl_NoWorth, cl_WantError, cl_Falling, cl_NoAsking, cl_NoBook, cl_NoCell, cl_NoKinds, cl_NoMore, cl_NoMost, cl_NoNote, cl_NoPart, cl_NoRows, cl_NoSheet, cl_Torn, gc_NoWorth, gc_WantError, gc_Falling, gc_NoAsking, gc_NoBook, gc_NoCell, gc_NoKinds, gc_NoMore, gc_NoMost, gc_NoNote, gc_NoPart, gc_NoRows, gc_NoSheet, gc_Torn, x_NoWorth, kp_NoWorth, sb_NoWorth, ty_NoWorth, ec_NoWorth, sb_WantError, ty_WantError, hd_WantError, su_NoWorth_WantError, ka_NoWorth_Falling_NoAsking_NoBook_NoCell_NoKinds_NoMore_NoMost_NoNote_NoPart, ka_NoWorth_NoRows_NoSheet_Torn, ko_NoWorth_ValueError, ko_NoWorth_NoWorth⟩ := T.ex
  refine ⟨_, f, fd, _, A, fnW (m := m_f_joined (call n)) F sc_f_joined (fun ws S h => if_neg h) (fun cdv A outer s H E hr => ?_) (fun ws S h => if_pos h)⟩
  exact (ss_cons (s_if (t_cmp op_isN snd_is (e_var 0) e_non)
 (ss_one (s_ret (e_var 1)))
 ss_nil)
 (ss_cons (s_if (t_cmp op_isN snd_is (e_var 1) e_non)
 (ss_one (s_ret (e_var 0)))
 ss_nil)
 (ss_cons (s_if (PW.pt (t_and (t_val (e_callB call_isiW snd_isi (by rfl) T.z_isinstance (by decide +kernel) (a_cons (e_var 0) (a_cons (e_type (by rfl) T.z_tuple (by decide +kernel)) a_nil)))) (t_and1 (t_val (e_callB call_isiW snd_isi (by rfl) T.z_isinstance (by decide +kernel) (a_cons (e_var 1) (a_cons (e_type (by rfl) T.z_tuple (by decide +kernel)) a_nil)))))))
 (ss_one (s_ret (e_tup (a_cons (e_call (IH .f_joined) hr (takes_of rfl rfl rfl rfl) (a_cons (e_ixr (ix_any (hu2_of hr)) snd_ix (e_var 0) e_int) (a_cons (e_ixr (ix_any (hu2_of hr)) snd_ix (e_var 1) e_int) a_nil))) (a_cons (e_call (IH .f_joined) hr (takes_of rfl rfl rfl rfl) (a_cons (e_ixr (ix_any (hu2_of hr)) snd_ix (e_var 0) e_int) (a_cons (e_ixr (ix_any (hu2_of hr)) snd_ix (e_var 1) e_int) a_nil))) a_nil)))))
 ss_nil)
 (ss_cons (s_if (t_cmp (op_neP (hu0_of hr)) snd_ne (e_var 0) (e_var 1))
 (ss_one (s_raise rfl (takes_of rfl rfl rfl rfl) PySem.F.excBase_ValueError x_NoWorth gc_NoWorth kp_NoWorth sb_NoWorth ty_NoWorth))
 ss_nil)
 (ss_one (s_ret (e_var 0)))))))
theorem ok_f_is_whole (T : Txt K mg) (IH : ∀ g, HeldG P w K mg base n g) : HeldG P w K mg base (n + 1) .f_is_whole := by
  obtain ⟨f, fd, F, A⟩ := T.t_f_is_whole
  refine ⟨_, f, fd, _, A, fnW (m := m_f_is_whole (call n)) F sc_f_is_whole (fun ws S h => if_neg h) (fun cdv A outer s H E hr => ?_) (fun ws S h => if_pos h)⟩
  exact (ss_cons (s_if (t_val (e_callB call_isiW snd_isi (by rfl) T.z_isinstance (by decide +kernel) (a_cons (e_var 0) (a_cons (e_type (by rfl) T.z_tuple (by decide +kernel)) a_nil))))
 (ss_one (s_ret (e_and (e_call (IH .f_is_whole) hr (takes_of rfl rfl rfl rfl) (a_cons (e_ixr (ix_any (hu2_of hr)) snd_ix (e_var 0) e_int) a_nil)) (e_one (e_call (IH .f_is_whole) hr (takes_of rfl rfl rfl rfl) (a_cons (e_ixr (ix_any (hu2_of hr)) snd_ix (e_var 0) e_int) a_nil))))))
 ss_nil)
 (ss_one (s_ret (e_cmp op_notN snd_isn (e_var 0) e_non))))
theorem ok_f_law_cell (T : Txt K mg) (IH : ∀ g, HeldG P w K mg base n g) : HeldG P w K mg base (n + 1) .f_law_cell := by
  obtain ⟨f, fd, F, A⟩ := T.t_f_law_cell
  refine ⟨_, f, fd, _, A, fnW (m := m_f_law_cell (call n)) F sc_f_law_cell (fun ws S h => if_neg h) (fun cdv A outer s H E hr => ?_) (fun ws S h => if_pos h)⟩
  exact (ss_cons (s_if (t_cmp op_lt snd_cmpI (e_var 1) (e_callB call_lenW snd_len (by rfl) T.z_len (by decide +kernel) (a_cons (e_var 0) a_nil)))
 (ss_one (s_ret (e_ixr (ix_any (hu2_of hr)) snd_ix (e_var 0) (e_var 1))))
 ss_nil)
 (ss_one (s_ret e_int)))
theorem ok_f_law_mixed (T : Txt K mg) (IH : ∀ g, HeldG P w K mg base n g) : HeldG P w K mg base (n + 1) .f_law_mixed := by
  obtain ⟨f, fd, F, A⟩ := T.t_f_law_mixed
  refine ⟨_, f, fd, _, A, fnW (m := m_f_law_mixed (call n)) F sc_f_law_mixed (fun ws S h => if_neg h) (fun cdv A outer s H E hr => ?_) (fun ws S h => if_pos h)⟩
  exact (ss_cons (s_set 2 sc_f_law_mixed.nd (e_op op_mod snd_mod (e_op op_addW snd_add (e_op op_addW snd_add (e_op op_mulW' snd_mul (e_op op_mod snd_mod (e_var 0) e_int) e_int) (e_op op_mulW' snd_mul e_int (e_var 1))) e_int) e_int))
 (ss_cons (s_set 2 sc_f_law_mixed.nd (e_op op_mod snd_mod (e_op op_addW snd_add (e_op op_addW snd_add (e_op op_mulW' snd_mul (e_var 2) (e_var 2)) (e_op op_mulW' snd_mul e_int (e_var 1))) e_int) e_int))
 (ss_one (s_ret (e_op op_mod snd_mod (e_op op_mulW' snd_mul (e_var 2) (e_op op_addW snd_add (e_var 2) e_int)) e_int)))))
theorem ok_f_law_stream (T : Txt K mg) (IH : ∀ g, HeldG P w K mg base n g) : HeldG P w K mg base (n + 1) .f_law_stream := by
  obtain ⟨f, fd, F, A⟩ := T.t_f_law_stream
  refine ⟨_, f, fd, _, A, fnW (m := m_f_law_stream (call n)) F sc_f_law_stream (fun ws S h => if_neg h) (fun cdv A outer s H E hr => ?_) (fun ws S h => if_pos h)⟩
  exact (ss_one (s_ret (e_lst (a_cons (e_var 0) (a_cons (e_or (e_cmp op_ge snd_cmpI (e_var 0) (e_op op_pow snd_pow e_int e_int)) (e_one (e_cmp op_le snd_cmpI (e_var 0) (e_un un_neg snd_neg (e_op op_pow snd_pow e_int e_int))))) (a_cons e_int (a_cons (e_op op_mod snd_mod (e_var 0) e_int) a_nil)))))))
theorem ok_f_law_take (T : Txt K mg) (IH : ∀ g, HeldG P w K mg base n g) : HeldG P w K mg base (n + 1) .f_law_take := by
  obtain ⟨f, fd, F, A⟩ := T.t_f_law_take
  refine ⟨_, f, fd, _, A, fnW (m := m_f_law_take (call n)) F sc_f_law_take (fun ws S h => if_neg h) (fun cdv A outer s H E hr => ?_) (fun ws S h => if_pos h)⟩
  exact (ss_cons (s_if (t_val (e_ixr (ix_any (hu2_of hr)) snd_ix (e_var 0) e_int))
 (ss_cons (s_set 2 sc_f_law_take.nd (e_op op_mod snd_mod (e_ixr (ix_any (hu2_of hr)) snd_ix (e_var 0) e_int) (e_var 1)))
 (ss_cons (s_put (hu2_of hr) (e_op op_fdiv snd_fdiv (e_ixr (ix_any (hu2_of hr)) snd_ix (e_var 0) e_int) (e_var 1)) (e_var 0) e_int)
 (ss_cons (s_put (hu2_of hr) (e_and (e_cmp (op_neP (hu0_of hr)) snd_ne (e_ixr (ix_any (hu2_of hr)) snd_ix (e_var 0) e_int) e_int) (e_one (e_cmp (op_neP (hu0_of hr)) snd_ne (e_ixr (ix_any (hu2_of hr)) snd_ix (e_var 0) e_int) (e_un un_neg snd_neg e_int)))) (e_var 0) e_int)
 (ss_one (s_ret (e_var 2))))))
 ss_nil)
 (ss_cons (s_put (hu2_of hr) (e_op op_addW snd_add (e_ixr (ix_any (hu2_of hr)) snd_ix (e_var 0) e_int) e_int) (e_var 0) e_int)
 (ss_one (s_ret (e_op op_mod snd_mod (e_op op_fdiv snd_fdiv (e_call (IH .f_law_mixed) hr (takes_of rfl rfl rfl rfl) (a_cons (e_ixr (ix_any (hu2_of hr)) snd_ix (e_var 0) e_int) (a_cons (e_ixr (ix_any (hu2_of hr)) snd_ix (e_var 0) e_int) a_nil))) e_int) (e_var 1))))))
theorem ok_f_law_words (T : Txt K mg) (IH : ∀ g, HeldG P w K mg base n g) : HeldG P w K mg base (n + 1) .f_law_words := by
  obtain ⟨f, fd, F, A⟩ := T.t_f_law_words
  refine ⟨_, f, fd, _, A, fnW (m := m_f_law_words (call n)) F sc_f_law_words (fun ws S h => if_neg h) (fun cdv A outer s H E hr => ?_) (fun ws S h => if_pos h)⟩
  exact (ss_cons (s_set 4 sc_f_law_words.nd (e_bm PySem.F.plainAttrs_str PySem.F.slot_str_join PySem.F.type_str_join mt_join snd_join e_str (a_cons (e_lc (own := [("k", 8)]) rfl sc_f_law_words.nd (i_rng1 T.z_range e_int) (blkOk_by (own := [("k", 8)]) (N := ["stream", "many", "letters", "ways", "base", "at", "way", "words", "k", "sign", "some"]) (sc := defScope s_f_law_words) (by decide +kernel)) (fun _ _ _ _ _ => (g_name 8 sc_f_law_words.nd)) (fun _ _ _ _ _ => ts_nil) (fun _ _ _ _ _ => (e_ixr (ix_any (hu2_of hr)) snd_ix (e_var 2) (e_call (IH .f_law_take) hr takesB (a_cons (e_var 0) (a_cons e_int a_nil)))))) a_nil)))
 (ss_cons (s_set 5 sc_f_law_words.nd (e_call (IH .f_law_take) hr (takes_of rfl rfl rfl rfl) (a_cons (e_var 0) (a_cons e_int a_nil))))
 (ss_cons (s_set 6 sc_f_law_words.nd (e_call (IH .f_law_take) hr (takes_of rfl rfl rfl rfl) (a_cons (e_var 0) (a_cons (e_var 3) a_nil))))
 (ss_cons (s_set 7 sc_f_law_words.nd (e_lst a_nil))
 (ss_cons (s_for (passes_of rfl) rfl (i_rng1 T.z_range (e_var 1)) (g_name 8 sc_f_law_words.nd)
 (ss_cons (s_set 9 sc_f_law_words.nd (e_ixr (ix_any (hu2_of hr)) snd_ix (e_var 2) (e_op op_mod snd_mod (e_op op_addW snd_add (e_bm PySem.F.plainAttrs_str PySem.F.slot_str_index PySem.F.type_str_index mt_sindex snd_sindex (e_var 2) (a_cons (e_ixr (ix_any (hu2_of hr)) snd_ix (e_var 4) (e_var 5)) a_nil)) (e_op op_mulW' snd_mul e_int (e_var 8))) e_int)))
 (ss_cons (s_set 10 sc_f_law_words.nd (e_lst (a_cons (e_op op_addW snd_add (e_op op_addW snd_add (e_slice (e_var 4) o_none (o_some (e_var 5))) (e_var 9)) (e_slice (e_var 4) (o_some (e_op op_addW snd_add (e_var 5) e_int)) o_none)) (a_cons (e_op op_addW snd_add (e_var 9) (e_slice (e_var 4) o_none (o_some (e_op op_mod snd_mod (e_op op_addW snd_add (e_op op_mulW' snd_mul e_int (e_var 8)) (e_var 5)) e_int)))) (a_cons (e_slice (e_var 4) o_none (o_some (e_op op_addW snd_add (e_op op_mod snd_mod (e_var 8) e_int) e_int))) (a_cons (e_slice (e_var 4) o_none (o_some (e_op op_sub snd_sub e_int (e_op op_mod snd_mod (e_var 8) e_int)))) a_nil))))))
 (ss_one (s_expr (e_bm PySem.F.plainAttrs_list PySem.F.slot_list_append PySem.F.type_list_append mt_append snd_append (e_var 7) (a_cons (e_ixr (ix_any (hu2_of hr)) snd_ix (e_var 10) (e_var 6)) a_nil)))))))
 (ss_one (s_ret (e_var 7))))))))
theorem ok_f_law_small (T : Txt K mg) (IH : ∀ g, HeldG P w K mg base n g) : HeldG P w K mg base (n + 1) .f_law_small := by
  obtain ⟨f, fd, F, A⟩ := T.t_f_law_small
  refine ⟨_, f, fd, _, A, fnW (m := m_f_law_small (call n)) F sc_f_law_small (fun ws S h => if_neg h) (fun cdv A outer s H E hr => ?_) (fun ws S h => if_pos h)⟩
  exact (ss_one (s_ret (e_call (IH .f_law_words) hr (takes_of rfl rfl rfl rfl) (a_cons (e_var 0) (a_cons (e_var 1) (a_cons e_str (a_cons e_int a_nil)))))))
theorem ok_f_law_pair (T : Txt K mg) (IH : ∀ g, HeldG P w K mg base n g) : HeldG P w K mg base (n + 1) .f_law_pair := by
  obtain ⟨f, fd, F, A⟩ := T.t_f_law_pair
  refine ⟨_, f, fd, _, A, fnW (m := m_f_law_pair (call n)) F sc_f_law_pair (fun ws S h => if_neg h) (fun cdv A outer s H E hr => ?_) (fun ws S h => if_pos h)⟩
  exact (ss_cons (s_set 6 sc_f_law_pair.nd (e_ixr (ix_any (hu2_of hr)) snd_ix (e_var 1) (e_call (IH .f_law_take) hr (takes_of rfl rfl rfl rfl) (a_cons (e_var 0) (a_cons (e_callB call_lenW snd_len (by rfl) T.z_len (by decide +kernel) (a_cons (e_var 1) a_nil)) a_nil)))))
 (ss_cons (s_set 7 sc_f_law_pair.nd (e_ixr (ix_any (hu2_of hr)) snd_ix (e_var 1) (e_call (IH .f_law_take) hr (takes_of rfl rfl rfl rfl) (a_cons (e_var 0) (a_cons (e_callB call_lenW snd_len (by rfl) T.z_len (by decide +kernel) (a_cons (e_var 1) a_nil)) a_nil)))))
 (ss_cons (s_set 8 sc_f_law_pair.nd (e_op op_addW snd_add e_int (e_callB (call_max2 rfl) snd_max2 (by rfl) T.z_max (by decide +kernel) (a_cons (e_ixr (ix_any (hu2_of hr)) snd_ix (e_var 3) (e_var 6)) (a_cons (e_ixr (ix_any (hu2_of hr)) snd_ix (e_var 3) (e_var 7)) a_nil)))))
 (ss_cons (s_if (PW.pt (t_or (t_cmp op_gt snd_cmpI (e_var 8) e_int) (t_or (t_cmp op_gt snd_cmpI (e_op op_addW snd_add e_int (e_op op_mulW' snd_mul (e_ixr (ix_any (hu2_of hr)) snd_ix (e_var 2) (e_var 6)) (e_ixr (ix_any (hu2_of hr)) snd_ix (e_var 2) (e_var 7)))) (e_var 5)) (t_or1 (t_cmp (op_inW (hu1_of hr)) snd_in (e_tup (a_cons e_str (a_cons (e_var 6) (a_cons (e_var 7) a_nil)))) (e_var 4))))))
 (ss_one (s_ret e_non))
 ss_nil)
 (ss_one (s_ret (e_tup (a_cons e_str (a_cons (e_var 6) (a_cons (e_var 7) a_nil))))))))))
theorem ok_f_law_kinds (T : Txt K mg) (IH : ∀ g, HeldG P w K mg base n g) : HeldG P w K mg base (n + 1) .f_law_kinds := by
  obtain ⟨f, fd, F, A⟩ := T.t_f_law_kinds
  refine ⟨_, f, fd, _, A, fnW (m := m_f_law_kinds (call n)) F sc_f_law_kinds (fun ws S h => if_neg h) (fun cdv A outer s H E hr => ?_) (fun ws S h => if_pos h)⟩
  exact (ss_cons (s_set 3 sc_f_law_kinds.nd (e_call (IH .f_law_small) hr (takes_of rfl rfl rfl rfl) (a_cons (e_var 0) (a_cons (e_op op_addW snd_add e_int (e_call (IH .f_law_take) hr (takes_of rfl rfl rfl rfl) (a_cons (e_var 0) (a_cons (e_var 1) a_nil)))) a_nil))))
 (ss_cons (s_set 4 sc_f_law_kinds.nd (e_call (IH .f_law_words) hr (takes_of rfl rfl rfl rfl) (a_cons (e_var 0) (a_cons (e_op op_mulW' snd_mul e_int (e_callB call_lenW snd_len (by rfl) T.z_len (by decide +kernel) (a_cons (e_var 3) a_nil))) (a_cons e_str (a_cons e_int a_nil))))))
 (ss_cons (s_set 5 sc_f_law_kinds.nd e_dnew)
 (ss_cons (s_set 6 sc_f_law_kinds.nd e_dnew)
 (ss_cons (s_set 7 sc_f_law_kinds.nd (e_lst a_nil))
 (ss_cons (s_for (passes_of rfl) rfl (i_rng1 T.z_range (e_callB call_lenW snd_len (by rfl) T.z_len (by decide +kernel) (a_cons (e_var 3) a_nil))) (g_name 8 sc_f_law_kinds.nd)
 (ss_cons (s_set 9 sc_f_law_kinds.nd e_non)
 (ss_cons (s_if (PW.pt (t_and (t_cmp op_gt snd_cmpI (e_var 8) e_int) (t_and1 (t_cmp (op_eqP (hu0_of hr)) snd_eq (e_call (IH .f_law_take) hr (takes_of rfl rfl rfl rfl) (a_cons (e_var 0) (a_cons e_int a_nil))) e_int))))
 (ss_one (s_set 9 sc_f_law_kinds.nd (e_call (IH .f_law_pair) hr (takes_of rfl rfl rfl rfl) (a_cons (e_var 0) (a_cons (e_slice (e_var 3) o_none (o_some (e_var 8))) (a_cons (e_var 5) (a_cons (e_var 6) (a_cons (e_lc (own := [("kind", 10)]) rfl sc_f_law_kinds.nd (i_seq (e_var 7)) (blkOk_by (own := [("kind", 10)]) (N := ["stream", "most", "top", "names", "tags", "counts", "depths", "kinds", "k", "shape", "kind"]) (sc := defScope s_f_law_kinds) (by decide +kernel)) (fun _ _ _ _ _ => (g_name 10 sc_f_law_kinds.nd)) (fun _ _ _ _ _ => ts_nil) (fun _ _ _ _ _ => (e_ixr (ix_any (hu2_of hr)) snd_ix (e_var 10) e_int))) (a_cons (e_var 2) a_nil)))))))))
 ss_nil)
 (ss_cons (s_if (t_cmp op_isN snd_is (e_var 9) e_non)
 (ss_cons (s_set 9 sc_f_law_kinds.nd (e_tup (a_cons e_str (a_cons (e_callTy call_tuple_of snd_tuple (by rfl) T.z_tuple (by decide +kernel) (a_cons (e_slice (e_var 4) (o_some (e_op op_mulW' snd_mul e_int (e_var 8))) (o_some (e_op op_addW snd_add (e_op op_addW snd_add (e_op op_mulW' snd_mul e_int (e_var 8)) e_int) (e_call (IH .f_law_take) hr (takes_of rfl rfl rfl rfl) (a_cons (e_var 0) (a_cons e_int a_nil)))))) a_nil)) a_nil))))
 (ss_cons (s_put (hu2_of hr) (e_op op_addW snd_add e_int (e_callB call_lenW snd_len (by rfl) T.z_len (by decide +kernel) (a_cons (e_ixr (ix_any (hu2_of hr)) snd_ix (e_var 9) e_int) a_nil))) (e_var 5) (e_ixr (ix_any (hu2_of hr)) snd_ix (e_var 3) (e_var 8)))
 (ss_one (s_put (hu2_of hr) e_int (e_var 6) (e_ixr (ix_any (hu2_of hr)) snd_ix (e_var 3) (e_var 8))))))
 (ss_cons (s_put (hu2_of hr) (e_op op_addW snd_add e_int (e_op op_mulW' snd_mul (e_ixr (ix_any (hu2_of hr)) snd_ix (e_var 5) (e_ixr (ix_any (hu2_of hr)) snd_ix (e_var 9) e_int)) (e_ixr (ix_any (hu2_of hr)) snd_ix (e_var 5) (e_ixr (ix_any (hu2_of hr)) snd_ix (e_var 9) e_int)))) (e_var 5) (e_ixr (ix_any (hu2_of hr)) snd_ix (e_var 3) (e_var 8)))
 (ss_one (s_put (hu2_of hr) (e_op op_addW snd_add e_int (e_callB (call_max2 rfl) snd_max2 (by rfl) T.z_max (by decide +kernel) (a_cons (e_ixr (ix_any (hu2_of hr)) snd_ix (e_var 6) (e_ixr (ix_any (hu2_of hr)) snd_ix (e_var 9) e_int)) (a_cons (e_ixr (ix_any (hu2_of hr)) snd_ix (e_var 6) (e_ixr (ix_any (hu2_of hr)) snd_ix (e_var 9) e_int)) a_nil)))) (e_var 6) (e_ixr (ix_any (hu2_of hr)) snd_ix (e_var 3) (e_var 8))))))
 (ss_one (s_expr (e_bm PySem.F.plainAttrs_list PySem.F.slot_list_append PySem.F.type_list_append mt_append snd_append (e_var 7) (a_cons (e_tup (a_cons (e_ixr (ix_any (hu2_of hr)) snd_ix (e_var 3) (e_var 8)) (a_cons (e_var 9) a_nil))) a_nil))))))))
 (ss_one (s_ret (e_tup (a_cons (e_var 7) (a_cons (e_var 5) a_nil)))))))))))
theorem ok_f_law_same (T : Txt K mg) (IH : ∀ g, HeldG P w K mg base n g) : HeldG P w K mg base (n + 1) .f_law_same := by
  obtain ⟨f, fd, F, A⟩ := T.t_f_law_same
  refine ⟨_, f, fd, _, A, fnW (m := m_f_law_same (call n)) F sc_f_law_same (fun ws S h => if_neg h) (fun cdv A outer s H E hr => ?_) (fun ws S h => if_pos h)⟩
  exact (ss_cons (s_if (t_cmp op_isN snd_is (e_var 1) e_non)
 (ss_one (s_ret (e_cmp op_isN snd_is (e_var 0) e_non)))
 ss_nil)
 (ss_cons (s_if (t_val (e_callB call_isiW snd_isi (by rfl) T.z_isinstance (by decide +kernel) (a_cons (e_var 1) (a_cons (e_type (by rfl) T.z_bool (by decide +kernel)) a_nil))))
 (ss_one (s_ret (e_and (e_callB call_isiW snd_isi (by rfl) T.z_isinstance (by decide +kernel) (a_cons (e_var 0) (a_cons (e_type (by rfl) T.z_bool (by decide +kernel)) a_nil))) (e_one (e_cmp (op_eqP (hu0_of hr)) snd_eq (e_var 0) (e_var 1))))))
 ss_nil)
 (ss_cons (s_if (t_val (e_callB call_isiW snd_isi (by rfl) T.z_isinstance (by decide +kernel) (a_cons (e_var 1) (a_cons (e_type (by rfl) T.z_str (by decide +kernel)) a_nil))))
 (ss_one (s_ret (e_and (e_callB call_isiW snd_isi (by rfl) T.z_isinstance (by decide +kernel) (a_cons (e_var 0) (a_cons (e_type (by rfl) T.z_str (by decide +kernel)) a_nil))) (e_one (e_cmp (op_eqP (hu0_of hr)) snd_eq (e_var 0) (e_var 1))))))
 ss_nil)
 (ss_cons (s_if (t_val (e_callB call_isiW snd_isi (by rfl) T.z_isinstance (by decide +kernel) (a_cons (e_var 1) (a_cons (e_type (by rfl) T.z_int (by decide +kernel)) a_nil))))
 (ss_one (s_ret (e_and (e_callB call_isiW snd_isi (by rfl) T.z_isinstance (by decide +kernel) (a_cons (e_var 0) (a_cons (e_type (by rfl) T.z_int (by decide +kernel)) a_nil))) (e_and (e_not (e_callB call_isiW snd_isi (by rfl) T.z_isinstance (by decide +kernel) (a_cons (e_var 0) (a_cons (e_type (by rfl) T.z_bool (by decide +kernel)) a_nil)))) (e_one (e_cmp (op_eqP (hu0_of hr)) snd_eq (e_var 0) (e_var 1)))))))
 ss_nil)
 (ss_cons (s_if (PW.pt (t_or (PW.pt (t_and (t_val (e_callB call_isiW snd_isi (by rfl) T.z_isinstance (by decide +kernel) (a_cons (e_var 1) (a_cons (e_type (by rfl) T.z_tuple (by decide +kernel)) a_nil)))) (t_and1 (t_not (t_val (e_callB call_isiW snd_isi (by rfl) T.z_isinstance (by decide +kernel) (a_cons (e_var 0) (a_cons (e_type (by rfl) T.z_tuple (by decide +kernel)) a_nil)))))))) (t_or1 (PW.pt (t_and (t_val (e_callB call_isiW snd_isi (by rfl) T.z_isinstance (by decide +kernel) (a_cons (e_var 1) (a_cons (e_type (by rfl) T.z_list (by decide +kernel)) a_nil)))) (t_and1 (t_not (t_val (e_callB call_isiW snd_isi (by rfl) T.z_isinstance (by decide +kernel) (a_cons (e_var 0) (a_cons (e_type (by rfl) T.z_list (by decide +kernel)) a_nil)))))))))))
 (ss_one (s_ret e_bl))
 ss_nil)
 (ss_cons (s_if (t_cmp (op_neP (hu0_of hr)) snd_ne (e_callB call_lenW snd_len (by rfl) T.z_len (by decide +kernel) (a_cons (e_var 0) a_nil)) (e_callB call_lenW snd_len (by rfl) T.z_len (by decide +kernel) (a_cons (e_var 1) a_nil)))
 (ss_one (s_ret e_bl))
 ss_nil)
 (ss_one (s_ret (e_callB (cr_all rfl) snd_all (by rfl) T.z_all (by decide +kernel) (a_cons (e_lc (own := [("one", 2), ("other", 3)]) rfl sc_f_law_same.nd (i_zip T.z_zip (e_var 0) (e_var 1)) (blkOk_by (own := [("one", 2), ("other", 3)]) (N := ["found", "due", "one", "other"]) (sc := defScope s_f_law_same) (by decide +kernel)) (fun _ _ _ _ _ => (g_tup rfl (gs_cons (g_name 2 sc_f_law_same.nd) (gs_cons (g_name 3 sc_f_law_same.nd) gs_nil)))) (fun _ _ _ _ _ => ts_nil) (fun _ _ _ _ _ => (e_call (IH .f_law_same) hr takesB (a_cons (e_var 2) (a_cons (e_var 3) a_nil))))) a_nil))))))))))
theorem ok_f_law_worths (T : Txt K mg) (IH : ∀ g, HeldG P w K mg base n g) : HeldG P w K mg base (n + 1) .f_law_worths := by
  obtain ⟨f, fd, F, A⟩ := T.t_f_law_worths
  refine ⟨_, f, fd, _, A, fnW (m := m_f_law_worths (call n)) F sc_f_law_worths (fun ws S h => if_neg h) (fun cdv A outer s H E hr => ?_) (fun ws S h => if_pos h)⟩
  exact (ss_cons (s_set 2 sc_f_law_worths.nd (e_ixr (ix_any (hu2_of hr)) snd_ix (e_var 0) (e_var 1)))
 (ss_cons (s_if (t_cmp (op_eqP (hu0_of hr)) snd_eq (e_ixr (ix_any (hu2_of hr)) snd_ix (e_var 2) e_int) e_str)
 (ss_one (s_ret (e_op op_addW snd_add (e_lst (a_cons e_non a_nil)) (e_callTy (call_listW rfl) snd_list (by rfl) T.z_list (by decide +kernel) (a_cons (e_ixr (ix_any (hu2_of hr)) snd_ix (e_var 2) e_int) a_nil)))))
 ss_nil)
 (ss_cons (s_set 3 sc_f_law_worths.nd (e_lst (a_cons e_non a_nil)))
 (ss_cons (s_for (passes_of rfl) rfl (i_seq (e_call (IH .f_law_worths) hr (takes_of rfl rfl rfl rfl) (a_cons (e_var 0) (a_cons (e_ixr (ix_any (hu2_of hr)) snd_ix (e_var 2) e_int) a_nil)))) (g_name 4 sc_f_law_worths.nd)
 (ss_one (s_set 3 sc_f_law_worths.nd (e_op op_addW snd_add (e_var 3) (e_lc (own := [("other", 5)]) rfl sc_f_law_worths.nd (i_seq (e_call (IH .f_law_worths) hr (takes_of rfl rfl rfl rfl) (a_cons (e_var 0) (a_cons (e_ixr (ix_any (hu2_of hr)) snd_ix (e_var 2) e_int) a_nil)))) (blkOk_by (own := [("other", 5)]) (N := ["shapes", "kind", "shape", "found", "one", "other"]) (sc := defScope s_f_law_worths) (by decide +kernel)) (fun _ _ _ _ _ => (g_name 5 sc_f_law_worths.nd)) (fun _ _ _ _ _ => ts_nil) (fun _ _ _ _ _ => (e_tup (a_cons (e_var 4) (a_cons (e_var 5) a_nil)))))))))
 (ss_one (s_ret (e_var 3)))))))
theorem ok_f_law_under (T : Txt K mg) (IH : ∀ g, HeldG P w K mg base n g) : HeldG P w K mg base (n + 1) .f_law_under := by
  obtain ⟨f, fd, F, A⟩ := T.t_f_law_under
  refine ⟨_, f, fd, _, A, fnW (m := m_f_law_under (call n)) F sc_f_law_under (fun ws S h => if_neg h) (fun cdv A outer s H E hr => ?_) (fun ws S h => if_pos h)⟩
  exact (ss_cons (s_if (t_cmp op_isN snd_is (e_var 0) e_non)
 (ss_one (s_ret e_bl))
 ss_nil)
 (ss_cons (s_if (PW.pt (t_and (t_val (e_callB call_isiW snd_isi (by rfl) T.z_isinstance (by decide +kernel) (a_cons (e_var 0) (a_cons (e_type (by rfl) T.z_tuple (by decide +kernel)) a_nil)))) (t_and1 (t_val (e_callB call_isiW snd_isi (by rfl) T.z_isinstance (by decide +kernel) (a_cons (e_var 1) (a_cons (e_type (by rfl) T.z_tuple (by decide +kernel)) a_nil)))))))
 (ss_one (s_ret (e_and (e_call (IH .f_law_under) hr (takes_of rfl rfl rfl rfl) (a_cons (e_ixr (ix_any (hu2_of hr)) snd_ix (e_var 0) e_int) (a_cons (e_ixr (ix_any (hu2_of hr)) snd_ix (e_var 1) e_int) a_nil))) (e_one (e_call (IH .f_law_under) hr (takes_of rfl rfl rfl rfl) (a_cons (e_ixr (ix_any (hu2_of hr)) snd_ix (e_var 0) e_int) (a_cons (e_ixr (ix_any (hu2_of hr)) snd_ix (e_var 1) e_int) a_nil)))))))
 ss_nil)
 (ss_one (s_ret (e_cmp (op_eqP (hu0_of hr)) snd_eq (e_var 0) (e_var 1))))))
theorem ok_f_law_whole (T : Txt K mg) (IH : ∀ g, HeldG P w K mg base n g) : HeldG P w K mg base (n + 1) .f_law_whole := by
  obtain ⟨f, fd, F, A⟩ := T.t_f_law_whole
  refine ⟨_, f, fd, _, A, fnW (m := m_f_law_whole (call n)) F sc_f_law_whole (fun ws S h => if_neg h) (fun cdv A outer s H E hr => ?_) (fun ws S h => if_pos h)⟩
  exact (ss_cons (s_if (t_val (e_callB call_isiW snd_isi (by rfl) T.z_isinstance (by decide +kernel) (a_cons (e_var 0) (a_cons (e_type (by rfl) T.z_tuple (by decide +kernel)) a_nil))))
 (ss_one (s_ret (e_and (e_call (IH .f_law_whole) hr (takes_of rfl rfl rfl rfl) (a_cons (e_ixr (ix_any (hu2_of hr)) snd_ix (e_var 0) e_int) a_nil)) (e_one (e_call (IH .f_law_whole) hr (takes_of rfl rfl rfl rfl) (a_cons (e_ixr (ix_any (hu2_of hr)) snd_ix (e_var 0) e_int) a_nil))))))
 ss_nil)
 (ss_one (s_ret (e_cmp op_notN snd_isn (e_var 0) e_non))))
theorem ok_f_law_least_above (T : Txt K mg) (IH : ∀ g, HeldG P w K mg base n g) : HeldG P w K mg base (n + 1) .f_law_least_above := by
  obtain ⟨f, fd, F, A⟩ := T.t_f_law_least_above
  refine ⟨_, f, fd, _, A, fnW (m := m_f_law_least_above (call n)) F sc_f_law_least_above (fun ws S h => if_neg h) (fun cdv A outer s H E hr => ?_) (fun ws S h => if_pos h)⟩
  exact (ss_cons (s_setLc 3 (own := [("worth", 4)]) rfl sc_f_law_least_above.nd (sw_true rfl rfl rfl (by decide +kernel)) (i_seq (e_var 0)) (blkOk_by (own := [("worth", 4)]) (N := ["worths", "one", "other", "above", "worth", "extra"]) (sc := defScope s_f_law_least_above) (by decide +kernel)) (fun _ _ _ _ _ => (g_name 4 sc_f_law_least_above.nd)) (fun _ _ _ _ _ => (ts_one (PW.pt (t_and (t_val (e_call (IH .f_law_under) hr takesB (a_cons (e_var 1) (a_cons (e_var 4) a_nil)))) (t_and1 (t_val (e_call (IH .f_law_under) hr takesB (a_cons (e_var 2) (a_cons (e_var 4) a_nil))))))))) (fun _ _ _ _ _ => (e_var 4)))
 (ss_cons (s_for (passes_of rfl) rfl (i_seq (e_var 3)) (g_name 4 sc_f_law_least_above.nd)
 (ss_one (s_if (t_val (e_callB (cr_all rfl) snd_all (by rfl) T.z_all (by decide +kernel) (a_cons (e_lc (own := [("extra", 5)]) rfl sc_f_law_least_above.nd (i_seq (e_var 3)) (blkOk_by (own := [("extra", 5)]) (N := ["worths", "one", "other", "above", "worth", "extra"]) (sc := defScope s_f_law_least_above) (by decide +kernel)) (fun _ _ _ _ _ => (g_name 5 sc_f_law_least_above.nd)) (fun _ _ _ _ _ => ts_nil) (fun _ _ _ _ _ => (e_call (IH .f_law_under) hr takesB (a_cons (e_var 4) (a_cons (e_var 5) a_nil))))) a_nil)))
 (ss_one (s_ret (e_tup (a_cons e_bl (a_cons (e_var 4) a_nil)))))
 ss_nil)))
 (ss_one (s_ret (e_tup (a_cons e_bl (a_cons e_non a_nil)))))))
theorem ok_f_law_cut (T : Txt K mg) (IH : ∀ g, HeldG P w K mg base n g) : HeldG P w K mg base (n + 1) .f_law_cut := by
  obtain ⟨f, fd, F, A⟩ := T.t_f_law_cut
  refine ⟨_, f, fd, _, A, fnW (m := m_f_law_cut (call n)) F sc_f_law_cut (fun ws S h => if_neg h) (fun cdv A outer s H E hr => ?_) (fun ws S h => if_pos h)⟩
  exact (ss_cons (s_if (PW.pt (t_or (t_cmp op_isN snd_is (e_var 0) e_non) (t_or (t_not (t_val (e_callB call_isiW snd_isi (by rfl) T.z_isinstance (by decide +kernel) (a_cons (e_var 0) (a_cons (e_type (by rfl) T.z_tuple (by decide +kernel)) a_nil))))) (t_or1 (t_cmp (op_eqP (hu0_of hr)) snd_eq (e_call (IH .f_law_take) hr (takes_of rfl rfl rfl rfl) (a_cons (e_var 1) (a_cons e_int a_nil))) e_int)))))
 (ss_one (s_ret e_non))
 ss_nil)
 (ss_cons (s_if (t_cmp (op_eqP (hu0_of hr)) snd_eq (e_call (IH .f_law_take) hr (takes_of rfl rfl rfl rfl) (a_cons (e_var 1) (a_cons e_int a_nil))) e_int)
 (ss_one (s_ret (e_tup (a_cons (e_call (IH .f_law_cut) hr (takes_of rfl rfl rfl rfl) (a_cons (e_ixr (ix_any (hu2_of hr)) snd_ix (e_var 0) e_int) (a_cons (e_var 1) a_nil))) (a_cons (e_ixr (ix_any (hu2_of hr)) snd_ix (e_var 0) e_int) a_nil)))))
 ss_nil)
 (ss_one (s_ret (e_tup (a_cons (e_ixr (ix_any (hu2_of hr)) snd_ix (e_var 0) e_int) (a_cons (e_call (IH .f_law_cut) hr (takes_of rfl rfl rfl rfl) (a_cons (e_ixr (ix_any (hu2_of hr)) snd_ix (e_var 0) e_int) (a_cons (e_var 1) a_nil))) a_nil)))))))
theorem ok_f_law_joined_right (T : Txt K mg) (IH : ∀ g, HeldG P w K mg base n g) : HeldG P w K mg base (n + 1) .f_law_joined_right := by
  obtain ⟨f, fd, F, A⟩ := T.t_f_law_joined_right
  obtain ⟨cl_NoWorth, cl_WantError, cl_Falling, cl_NoAsking, cl_NoBook, cl_NoCell, cl_NoKinds, cl_NoMore, cl_NoMost, cl_NoNote, cl_NoPart, cl_NoRows, cl_NoSheet, cl_Torn, gc_NoWorth, gc_WantError, gc_Falling, gc_NoAsking, gc_NoBook, gc_NoCell, gc_NoKinds, gc_NoMore, gc_NoMost, gc_NoNote, gc_NoPart, gc_NoRows, gc_NoSheet, gc_Torn, x_NoWorth, kp_NoWorth, sb_NoWorth, ty_NoWorth, ec_NoWorth, sb_WantError, ty_WantError, hd_WantError, su_NoWorth_WantError, ka_NoWorth_Falling_NoAsking_NoBook_NoCell_NoKinds_NoMore_NoMost_NoNote_NoPart, ka_NoWorth_NoRows_NoSheet_Torn, ko_NoWorth_ValueError, ko_NoWorth_NoWorth⟩ := T.ex
  refine ⟨_, f, fd, _, A, fnW (m := m_f_law_joined_right (call n)) F sc_f_law_joined_right (fun ws S h => if_neg h) (fun cdv A outer s H E hr => ?_) (fun ws S h => if_pos h)⟩
  exact (ss_cons (s_set 3 sc_f_law_joined_right.nd e_non)
 (ss_cons (s_set 4 sc_f_law_joined_right.nd (e_lst a_nil))
 (ss_cons (s_tryAs (i := 5) rfl rfl sc_f_law_joined_right.nd rfl rfl ⟨rfl, by decide, .inl gc_WantError⟩ (takes_of rfl rfl rfl rfl) (ca := exOne "NoWorth" true) (mu := fun _ => (sSeq (sSet 6 (eC (.bl false)))
 (sSeq (sSet 6 (vOr (eVar 6) (eC (.bl false))))
 (sSet 4 (eL lstW (aCons (eC (.bl true)) (aCons (eC (.bl true)) (aCons (eVar 6) aNil))))))))
 (fun e b C h hm => by
   obtain ⟨h1, h2, rfl⟩ := exOne_some h
   rw [h1] at hm
   cases hm.symm.trans gc_NoWorth
   exact PySem.W.exm_ref sb_WantError hd_WantError ty_WantError su_NoWorth_WantError)
 (fun W pn xe tk _ => (ss_one (s_set 3 sc_f_law_joined_right.nd (e_call (IH .f_joined) hr tk (a_cons (e_var 0) (a_cons (e_var 1) a_nil))))))
 (fun a oe C d pn e hz hf hm hc hd => by
   obtain ⟨h1, h2, _⟩ := exOne_some hc
   rw [h1] at hm
   cases hm.symm.trans gc_NoWorth
   cases hd h2
   exact (js_cons (js_set 6 (by decide) sc_f_law_joined_right.nd (j_isET (i := 5) (n := "e") ec_NoWorth hz hf T.z_isinstance rfl (by first | exact Or.inl rfl | exact Or.inr (Or.inl rfl) | exact Or.inr (Or.inr rfl)) (pv_cons gc_Falling (pv_cons gc_NoAsking (pv_cons gc_NoBook (pv_cons gc_NoCell (pv_cons gc_NoKinds (pv_cons gc_NoMore (pv_cons gc_NoMost (pv_cons gc_NoNote (pv_cons gc_NoPart pv_nil))))))))) (by simp) (.cons (.own _) (.cons (.own _) (.cons (.own _) (.cons (.own _) (.cons (.own _) (.cons (.own _) (.cons (.own _) (.cons (.own _) (.cons (.own _) .nil))))))))) ka_NoWorth_Falling_NoAsking_NoBook_NoCell_NoKinds_NoMore_NoMost_NoNote_NoPart))
 (js_cons (js_set 6 (by decide) sc_f_law_joined_right.nd (j_or (j_lift (e_var 6)) (j_one (j_isET (i := 5) (n := "e") ec_NoWorth hz hf T.z_isinstance rfl (by first | exact Or.inl rfl | exact Or.inr (Or.inl rfl) | exact Or.inr (Or.inr rfl)) (pv_cons gc_NoRows (pv_cons gc_NoSheet (pv_cons gc_Torn pv_nil))) (by simp) (.cons (.own _) (.cons (.own _) (.cons (.own _) .nil))) ka_NoWorth_NoRows_NoSheet_Torn))))
 (js_one (js_set 4 (by decide) sc_f_law_joined_right.nd (j_lst (j_cons (j_isE (i := 5) (n := "e") ec_NoWorth hz hf T.z_isinstance rfl (by first | exact Or.inl rfl | exact Or.inr (Or.inl rfl) | exact Or.inr (Or.inr rfl)) (pv_cons gc_NoWorth pv_nil) (fun _ z => z) ko_NoWorth_NoWorth) (j_cons (j_isE (i := 5) (n := "e") ec_NoWorth hz hf T.z_isinstance rfl (by first | exact Or.inl rfl | exact Or.inr (Or.inl rfl) | exact Or.inr (Or.inr rfl)) (pv_ty T.z_ValueError (by decide +kernel) pv_nil) (fun _ z => z) ko_NoWorth_ValueError) (j_cons (j_lift (e_var 6)) j_nil))))))))))
 (ss_cons (s_if (t_not (t_val (e_ixr (ix_any (hu2_of hr)) snd_ix (e_var 2) e_int)))
 (ss_one (s_ret (e_cmp (op_eqP (hu0_of hr)) snd_eq (e_var 4) (e_lst (a_cons e_bl (a_cons e_bl (a_cons e_bl a_nil)))))))
 ss_nil)
 (ss_one (s_ret (e_and (e_cmp (op_eqP (hu0_of hr)) snd_eq (e_var 4) (e_lst a_nil)) (e_one (e_call (IH .f_law_same) hr (takes_of rfl rfl rfl rfl) (a_cons (e_var 3) (a_cons (e_ixr (ix_any (hu2_of hr)) snd_ix (e_var 2) e_int) a_nil)))))))))))
theorem ok_f_law_right (T : Txt K mg) (IH : ∀ g, HeldG P w K mg base n g) : HeldG P w K mg base (n + 1) .f_law_right := by
  obtain ⟨f, fd, F, A⟩ := T.t_f_law_right
  refine ⟨_, f, fd, _, A, fnW (m := m_f_law_right (call n)) F sc_f_law_right (fun ws S h => if_neg h) (fun cdv A outer s H E hr => ?_) (fun ws S h => if_pos h)⟩
  exact (ss_cons (s_for (passes_of rfl) rfl (i_seq (e_lst (a_cons (e_tup (a_cons (e_var 1) (a_cons (e_var 2) a_nil))) (a_cons (e_tup (a_cons (e_var 2) (a_cons (e_var 1) a_nil))) (a_cons (e_tup (a_cons (e_var 1) (a_cons (e_var 1) a_nil))) a_nil))))) (g_tup rfl (gs_cons (g_name 3 sc_f_law_right.nd) (gs_cons (g_name 4 sc_f_law_right.nd) gs_nil)))
 (ss_cons (s_if (t_not (t_val (e_call (IH .f_law_same) hr (takes_of rfl rfl rfl rfl) (a_cons (e_call (IH .f_is_under) hr (takes_of rfl rfl rfl rfl) (a_cons (e_var 3) (a_cons (e_var 4) a_nil))) (a_cons (e_call (IH .f_law_under) hr (takes_of rfl rfl rfl rfl) (a_cons (e_var 3) (a_cons (e_var 4) a_nil))) a_nil)))))
 (ss_one (s_ret e_bl))
 ss_nil)
 (ss_one (s_if (t_not (t_val (e_call (IH .f_law_joined_right) hr (takes_of rfl rfl rfl rfl) (a_cons (e_var 3) (a_cons (e_var 4) (a_cons (e_call (IH .f_law_least_above) hr (takes_of rfl rfl rfl rfl) (a_cons (e_var 0) (a_cons (e_var 3) (a_cons (e_var 4) a_nil)))) a_nil))))))
 (ss_one (s_ret e_bl))
 ss_nil))))
 (ss_one (s_ret (e_and (e_call (IH .f_law_same) hr (takes_of rfl rfl rfl rfl) (a_cons (e_call (IH .f_is_whole) hr (takes_of rfl rfl rfl rfl) (a_cons (e_var 1) a_nil)) (a_cons (e_call (IH .f_law_whole) hr (takes_of rfl rfl rfl rfl) (a_cons (e_var 1) a_nil)) a_nil))) (e_one (e_call (IH .f_law_same) hr (takes_of rfl rfl rfl rfl) (a_cons (e_call (IH .f_is_whole) hr (takes_of rfl rfl rfl rfl) (a_cons (e_var 2) a_nil)) (a_cons (e_call (IH .f_law_whole) hr (takes_of rfl rfl rfl rfl) (a_cons (e_var 2) a_nil)) a_nil))))))))
theorem ok_f_law (T : Txt K mg) (IH : ∀ g, HeldG P w K mg base n g) : HeldG P w K mg base (n + 1) .f_law := by
  obtain ⟨f, fd, F, A⟩ := T.t_f_law
  refine ⟨_, f, fd, _, A, fnW (m := m_f_law (call n)) F sc_f_law (fun ws S h => if_neg h) (fun cdv A outer s H E hr => ?_) (fun ws S h => if_pos h)⟩
  exact (ss_cons (s_setLc 1 (own := [("k", 9)]) rfl sc_f_law.nd (sw_true rfl rfl rfl (by decide +kernel)) (i_rng1 T.z_range e_int) (blkOk_by (own := [("k", 9)]) (N := ["script", "both", "cell", "stream", "shapes", "kind", "worths", "one", "other", "k"]) (sc := defScope s_f_law) (by decide +kernel)) (fun _ _ _ _ _ => (g_name 9 sc_f_law.nd)) (fun _ _ _ _ _ => ts_nil) (fun _ _ _ _ _ => (e_callTy (call_dictW rfl) snd_dict (by rfl) T.z_dict (by decide +kernel) (a_cons (e_ixr (ix_any (hu2_of hr)) snd_ix (e_call (IH .f_law_kinds) hr takesB (a_cons (e_call (IH .f_law_stream) hr takesB (a_cons (e_call (IH .f_law_cell) hr takesB (a_cons (e_var 0) (a_cons (e_var 9) a_nil))) a_nil)) (a_cons e_int (a_cons e_int a_nil)))) e_int) a_nil))))
 (ss_cons (s_for (passes_of rfl) rfl (i_seq (e_op op_addW snd_add (e_lst (a_cons (e_call (IH .f_law_cell) hr (takes_of rfl rfl rfl rfl) (a_cons (e_var 0) (a_cons e_int a_nil))) a_nil)) (e_slice (e_var 0) (o_some e_int) (o_some e_int)))) (g_name 2 sc_f_law.nd)
 (ss_cons (s_set 3 sc_f_law.nd (e_call (IH .f_law_stream) hr (takes_of rfl rfl rfl rfl) (a_cons (e_var 2) a_nil)))
 (ss_cons (s_set 4 sc_f_law.nd (e_ixr (ix_any (hu2_of hr)) snd_ix (e_var 1) (e_call (IH .f_law_take) hr (takes_of rfl rfl rfl rfl) (a_cons (e_var 3) (a_cons e_int a_nil)))))
 (ss_cons (s_set 5 sc_f_law.nd (e_ixr (ix_any (hu2_of hr)) snd_ix (e_callTy (call_listW rfl) snd_list (by rfl) T.z_list (by decide +kernel) (a_cons (e_var 4) a_nil)) (e_call (IH .f_law_take) hr (takes_of rfl rfl rfl rfl) (a_cons (e_var 3) (a_cons (e_callB call_lenW snd_len (by rfl) T.z_len (by decide +kernel) (a_cons (e_var 4) a_nil)) a_nil)))))
 (ss_cons (s_set 6 sc_f_law.nd (e_call (IH .f_law_worths) hr (takes_of rfl rfl rfl rfl) (a_cons (e_var 4) (a_cons (e_var 5) a_nil))))
 (ss_cons (s_set 7 sc_f_law.nd (e_ixr (ix_any (hu2_of hr)) snd_ix (e_var 6) (e_call (IH .f_law_take) hr (takes_of rfl rfl rfl rfl) (a_cons (e_var 3) (a_cons (e_callB call_lenW snd_len (by rfl) T.z_len (by decide +kernel) (a_cons (e_var 6) a_nil)) a_nil)))))
 (ss_cons (s_set 8 sc_f_law.nd (e_ixr (ix_any (hu2_of hr)) snd_ix (e_var 6) (e_call (IH .f_law_take) hr (takes_of rfl rfl rfl rfl) (a_cons (e_var 3) (a_cons (e_callB call_lenW snd_len (by rfl) T.z_len (by decide +kernel) (a_cons (e_var 6) a_nil)) a_nil)))))
 (ss_cons (s_if (t_cmp (op_eqP (hu0_of hr)) snd_eq (e_call (IH .f_law_take) hr (takes_of rfl rfl rfl rfl) (a_cons (e_var 3) (a_cons e_int a_nil))) e_int)
 (ss_one (s_set 8 sc_f_law.nd (e_call (IH .f_law_cut) hr (takes_of rfl rfl rfl rfl) (a_cons (e_var 7) (a_cons (e_var 3) a_nil)))))
 ss_nil)
 (ss_one (s_if (t_not (t_val (e_call (IH .f_law_right) hr (takes_of rfl rfl rfl rfl) (a_cons (e_var 6) (a_cons (e_var 7) (a_cons (e_var 8) a_nil))))))
 (ss_one (s_ret e_bl))
 ss_nil))))))))))
 (ss_one (s_ret e_bl))))
theorem fn_f_law (T : Txt K mg) (IH : ∀ g, HeldG P w K mg base n g) {f : Addr} {fd : FuncData} (F : Fun K "law" "law" s_f_law f fd) : FnOk P w K mg base (L2.CX P w) (n + 1) f fd ["script"] (spF K mg (call (n + 1) .f_law)) := by
  refine fnW (m := m_f_law (call n)) F sc_f_law (fun ws S h => if_neg h) (fun cdv A outer s H E hr => ?_) (fun ws S h => if_pos h)
  exact (ss_cons (s_setLc 1 (own := [("k", 9)]) rfl sc_f_law.nd (sw_true rfl rfl rfl (by decide +kernel)) (i_rng1 T.z_range e_int) (blkOk_by (own := [("k", 9)]) (N := ["script", "both", "cell", "stream", "shapes", "kind", "worths", "one", "other", "k"]) (sc := defScope s_f_law) (by decide +kernel)) (fun _ _ _ _ _ => (g_name 9 sc_f_law.nd)) (fun _ _ _ _ _ => ts_nil) (fun _ _ _ _ _ => (e_callTy (call_dictW rfl) snd_dict (by rfl) T.z_dict (by decide +kernel) (a_cons (e_ixr (ix_any (hu2_of hr)) snd_ix (e_call (IH .f_law_kinds) hr takesB (a_cons (e_call (IH .f_law_stream) hr takesB (a_cons (e_call (IH .f_law_cell) hr takesB (a_cons (e_var 0) (a_cons (e_var 9) a_nil))) a_nil)) (a_cons e_int (a_cons e_int a_nil)))) e_int) a_nil))))
 (ss_cons (s_for (passes_of rfl) rfl (i_seq (e_op op_addW snd_add (e_lst (a_cons (e_call (IH .f_law_cell) hr (takes_of rfl rfl rfl rfl) (a_cons (e_var 0) (a_cons e_int a_nil))) a_nil)) (e_slice (e_var 0) (o_some e_int) (o_some e_int)))) (g_name 2 sc_f_law.nd)
 (ss_cons (s_set 3 sc_f_law.nd (e_call (IH .f_law_stream) hr (takes_of rfl rfl rfl rfl) (a_cons (e_var 2) a_nil)))
 (ss_cons (s_set 4 sc_f_law.nd (e_ixr (ix_any (hu2_of hr)) snd_ix (e_var 1) (e_call (IH .f_law_take) hr (takes_of rfl rfl rfl rfl) (a_cons (e_var 3) (a_cons e_int a_nil)))))
 (ss_cons (s_set 5 sc_f_law.nd (e_ixr (ix_any (hu2_of hr)) snd_ix (e_callTy (call_listW rfl) snd_list (by rfl) T.z_list (by decide +kernel) (a_cons (e_var 4) a_nil)) (e_call (IH .f_law_take) hr (takes_of rfl rfl rfl rfl) (a_cons (e_var 3) (a_cons (e_callB call_lenW snd_len (by rfl) T.z_len (by decide +kernel) (a_cons (e_var 4) a_nil)) a_nil)))))
 (ss_cons (s_set 6 sc_f_law.nd (e_call (IH .f_law_worths) hr (takes_of rfl rfl rfl rfl) (a_cons (e_var 4) (a_cons (e_var 5) a_nil))))
 (ss_cons (s_set 7 sc_f_law.nd (e_ixr (ix_any (hu2_of hr)) snd_ix (e_var 6) (e_call (IH .f_law_take) hr (takes_of rfl rfl rfl rfl) (a_cons (e_var 3) (a_cons (e_callB call_lenW snd_len (by rfl) T.z_len (by decide +kernel) (a_cons (e_var 6) a_nil)) a_nil)))))
 (ss_cons (s_set 8 sc_f_law.nd (e_ixr (ix_any (hu2_of hr)) snd_ix (e_var 6) (e_call (IH .f_law_take) hr (takes_of rfl rfl rfl rfl) (a_cons (e_var 3) (a_cons (e_callB call_lenW snd_len (by rfl) T.z_len (by decide +kernel) (a_cons (e_var 6) a_nil)) a_nil)))))
 (ss_cons (s_if (t_cmp (op_eqP (hu0_of hr)) snd_eq (e_call (IH .f_law_take) hr (takes_of rfl rfl rfl rfl) (a_cons (e_var 3) (a_cons e_int a_nil))) e_int)
 (ss_one (s_set 8 sc_f_law.nd (e_call (IH .f_law_cut) hr (takes_of rfl rfl rfl rfl) (a_cons (e_var 7) (a_cons (e_var 3) a_nil)))))
 ss_nil)
 (ss_one (s_if (t_not (t_val (e_call (IH .f_law_right) hr (takes_of rfl rfl rfl rfl) (a_cons (e_var 6) (a_cons (e_var 7) (a_cons (e_var 8) a_nil))))))
 (ss_one (s_ret e_bl))
 ss_nil))))))))))
 (ss_one (s_ret e_bl))))
theorem all_ok (T : Txt K mg) : ∀ (n : Nat) (g : Fn), HeldG P w K mg base n g
  | 0, g => by
    cases g
    · obtain ⟨f, fd, F, A⟩ := T.t_f_is_under; exact ⟨_, f, fd, _, A, fnNo fun _ _ => rfl⟩
    · obtain ⟨f, fd, F, A⟩ := T.t_f_joined; exact ⟨_, f, fd, _, A, fnNo fun _ _ => rfl⟩
    · obtain ⟨f, fd, F, A⟩ := T.t_f_is_whole; exact ⟨_, f, fd, _, A, fnNo fun _ _ => rfl⟩
    · obtain ⟨f, fd, F, A⟩ := T.t_f_law_cell; exact ⟨_, f, fd, _, A, fnNo fun _ _ => rfl⟩
    · obtain ⟨f, fd, F, A⟩ := T.t_f_law_mixed; exact ⟨_, f, fd, _, A, fnNo fun _ _ => rfl⟩
    · obtain ⟨f, fd, F, A⟩ := T.t_f_law_stream; exact ⟨_, f, fd, _, A, fnNo fun _ _ => rfl⟩
    · obtain ⟨f, fd, F, A⟩ := T.t_f_law_take; exact ⟨_, f, fd, _, A, fnNo fun _ _ => rfl⟩
    · obtain ⟨f, fd, F, A⟩ := T.t_f_law_words; exact ⟨_, f, fd, _, A, fnNo fun _ _ => rfl⟩
    · obtain ⟨f, fd, F, A⟩ := T.t_f_law_small; exact ⟨_, f, fd, _, A, fnNo fun _ _ => rfl⟩
    · obtain ⟨f, fd, F, A⟩ := T.t_f_law_pair; exact ⟨_, f, fd, _, A, fnNo fun _ _ => rfl⟩
    · obtain ⟨f, fd, F, A⟩ := T.t_f_law_kinds; exact ⟨_, f, fd, _, A, fnNo fun _ _ => rfl⟩
    · obtain ⟨f, fd, F, A⟩ := T.t_f_law_same; exact ⟨_, f, fd, _, A, fnNo fun _ _ => rfl⟩
    · obtain ⟨f, fd, F, A⟩ := T.t_f_law_worths; exact ⟨_, f, fd, _, A, fnNo fun _ _ => rfl⟩
    · obtain ⟨f, fd, F, A⟩ := T.t_f_law_under; exact ⟨_, f, fd, _, A, fnNo fun _ _ => rfl⟩
    · obtain ⟨f, fd, F, A⟩ := T.t_f_law_whole; exact ⟨_, f, fd, _, A, fnNo fun _ _ => rfl⟩
    · obtain ⟨f, fd, F, A⟩ := T.t_f_law_least_above; exact ⟨_, f, fd, _, A, fnNo fun _ _ => rfl⟩
    · obtain ⟨f, fd, F, A⟩ := T.t_f_law_cut; exact ⟨_, f, fd, _, A, fnNo fun _ _ => rfl⟩
    · obtain ⟨f, fd, F, A⟩ := T.t_f_law_joined_right; exact ⟨_, f, fd, _, A, fnNo fun _ _ => rfl⟩
    · obtain ⟨f, fd, F, A⟩ := T.t_f_law_right; exact ⟨_, f, fd, _, A, fnNo fun _ _ => rfl⟩
    · obtain ⟨f, fd, F, A⟩ := T.t_f_law; exact ⟨_, f, fd, _, A, fnNo fun _ _ => rfl⟩
  | n + 1, g => by
    have ih := all_ok T n
    cases g
    · exact ok_f_is_under T ih
    · exact ok_f_joined T ih
    · exact ok_f_is_whole T ih
    · exact ok_f_law_cell T ih
    · exact ok_f_law_mixed T ih
    · exact ok_f_law_stream T ih
    · exact ok_f_law_take T ih
    · exact ok_f_law_words T ih
    · exact ok_f_law_small T ih
    · exact ok_f_law_pair T ih
    · exact ok_f_law_kinds T ih
    · exact ok_f_law_same T ih
    · exact ok_f_law_worths T ih
    · exact ok_f_law_under T ih
    · exact ok_f_law_whole T ih
    · exact ok_f_law_least_above T ih
    · exact ok_f_law_cut T ih
    · exact ok_f_law_joined_right T ih
    · exact ok_f_law_right T ih
    · exact ok_f_law T ih
end
theorem all_mk {K : PySem.W.Frag} {h : Heap} {mg : Str → Option Value} (X : K.In h) (G : h.Ns mainGlobals mg)
    {f0 f1 f2 f3 f4 f5 f6 f7 f8 f9 f10 f11 f12 f13 f14 f15 f16 f17 f18 f19 : Addr}
    {od0 an0 od1 an1 od2 an2 od3 an3 od4 an4 od5 an5 od6 an6 od7 an7 od8 an8 od9 an9 od10 an10 od11 an11 od12 an12 od13 an13 od14 an14 od15 an15 od16 an16 od17 an17 od18 an18 od19 an19 : Option Addr} {sl0 sl1 sl2 sl3 sl4 sl5 sl6 sl7 sl8 sl9 sl10 sl11 sl12 sl13 sl14 sl15 sl16 sl17 sl18 sl19 : Array (Option Value)} {oc0 kV0 dc0 pm0 cd0 ct0 oc1 kV1 dc1 pm1 cd1 ct1 oc2 kV2 dc2 pm2 cd2 ct2 oc3 kV3 dc3 pm3 cd3 ct3 oc4 kV4 dc4 pm4 cd4 ct4 oc5 kV5 dc5 pm5 cd5 ct5 oc6 kV6 dc6 pm6 cd6 ct6 oc7 kV7 dc7 pm7 cd7 ct7 oc8 kV8 dc8 pm8 cd8 ct8 oc9 kV9 dc9 pm9 cd9 ct9 oc10 kV10 dc10 pm10 cd10 ct10 oc11 kV11 dc11 pm11 cd11 ct11 oc12 kV12 dc12 pm12 cd12 ct12 oc13 kV13 dc13 pm13 cd13 ct13 oc14 kV14 dc14 pm14 cd14 ct14 oc15 kV15 dc15 pm15 cd15 ct15 oc16 kV16 dc16 pm16 cd16 ct16 oc17 kV17 dc17 pm17 cd17 ct17 oc18 kV18 dc18 pm18 cd18 ct18 oc19 kV19 dc19 pm19 cd19 ct19 : Value}
    {cl_NoWorth cl_WantError cl_Falling cl_NoAsking cl_NoBook cl_NoCell cl_NoKinds cl_NoMore cl_NoMost cl_NoNote cl_NoPart cl_NoRows cl_NoSheet cl_Torn : Addr}
    (a0 : PySem.W.nsIn K mainGlobals "is_under" = some (some (.ref f0))) (l0 : K.lookup f0 = some ⟨oc0, od0, .func (PySem.W.fnOf "is_under" "is_under" (defArgs s_f_is_under) (defBody s_f_is_under) (defScope s_f_is_under) .none kV0 dc0 pm0 an0 cd0 ct0), sl0⟩) (c0 : PySem.W.codeIn K cd0 "is_under" = true) (k0 : PySem.W.keepIn K (.ref f0) = true)
    (a1 : PySem.W.nsIn K mainGlobals "joined" = some (some (.ref f1))) (l1 : K.lookup f1 = some ⟨oc1, od1, .func (PySem.W.fnOf "joined" "joined" (defArgs s_f_joined) (defBody s_f_joined) (defScope s_f_joined) .none kV1 dc1 pm1 an1 cd1 ct1), sl1⟩) (c1 : PySem.W.codeIn K cd1 "joined" = true) (k1 : PySem.W.keepIn K (.ref f1) = true)
    (a2 : PySem.W.nsIn K mainGlobals "is_whole" = some (some (.ref f2))) (l2 : K.lookup f2 = some ⟨oc2, od2, .func (PySem.W.fnOf "is_whole" "is_whole" (defArgs s_f_is_whole) (defBody s_f_is_whole) (defScope s_f_is_whole) .none kV2 dc2 pm2 an2 cd2 ct2), sl2⟩) (c2 : PySem.W.codeIn K cd2 "is_whole" = true) (k2 : PySem.W.keepIn K (.ref f2) = true)
    (a3 : PySem.W.nsIn K mainGlobals "_law_cell" = some (some (.ref f3))) (l3 : K.lookup f3 = some ⟨oc3, od3, .func (PySem.W.fnOf "_law_cell" "_law_cell" (defArgs s_f_law_cell) (defBody s_f_law_cell) (defScope s_f_law_cell) .none kV3 dc3 pm3 an3 cd3 ct3), sl3⟩) (c3 : PySem.W.codeIn K cd3 "_law_cell" = true) (k3 : PySem.W.keepIn K (.ref f3) = true)
    (a4 : PySem.W.nsIn K mainGlobals "_law_mixed" = some (some (.ref f4))) (l4 : K.lookup f4 = some ⟨oc4, od4, .func (PySem.W.fnOf "_law_mixed" "_law_mixed" (defArgs s_f_law_mixed) (defBody s_f_law_mixed) (defScope s_f_law_mixed) .none kV4 dc4 pm4 an4 cd4 ct4), sl4⟩) (c4 : PySem.W.codeIn K cd4 "_law_mixed" = true) (k4 : PySem.W.keepIn K (.ref f4) = true)
    (a5 : PySem.W.nsIn K mainGlobals "_law_stream" = some (some (.ref f5))) (l5 : K.lookup f5 = some ⟨oc5, od5, .func (PySem.W.fnOf "_law_stream" "_law_stream" (defArgs s_f_law_stream) (defBody s_f_law_stream) (defScope s_f_law_stream) .none kV5 dc5 pm5 an5 cd5 ct5), sl5⟩) (c5 : PySem.W.codeIn K cd5 "_law_stream" = true) (k5 : PySem.W.keepIn K (.ref f5) = true)
    (a6 : PySem.W.nsIn K mainGlobals "_law_take" = some (some (.ref f6))) (l6 : K.lookup f6 = some ⟨oc6, od6, .func (PySem.W.fnOf "_law_take" "_law_take" (defArgs s_f_law_take) (defBody s_f_law_take) (defScope s_f_law_take) .none kV6 dc6 pm6 an6 cd6 ct6), sl6⟩) (c6 : PySem.W.codeIn K cd6 "_law_take" = true) (k6 : PySem.W.keepIn K (.ref f6) = true)
    (a7 : PySem.W.nsIn K mainGlobals "_law_words" = some (some (.ref f7))) (l7 : K.lookup f7 = some ⟨oc7, od7, .func (PySem.W.fnOf "_law_words" "_law_words" (defArgs s_f_law_words) (defBody s_f_law_words) (defScope s_f_law_words) .none kV7 dc7 pm7 an7 cd7 ct7), sl7⟩) (c7 : PySem.W.codeIn K cd7 "_law_words" = true) (k7 : PySem.W.keepIn K (.ref f7) = true)
    (a8 : PySem.W.nsIn K mainGlobals "_law_small" = some (some (.ref f8))) (l8 : K.lookup f8 = some ⟨oc8, od8, .func (PySem.W.fnOf "_law_small" "_law_small" (defArgs s_f_law_small) (defBody s_f_law_small) (defScope s_f_law_small) .none kV8 dc8 pm8 an8 cd8 ct8), sl8⟩) (c8 : PySem.W.codeIn K cd8 "_law_small" = true) (k8 : PySem.W.keepIn K (.ref f8) = true)
    (a9 : PySem.W.nsIn K mainGlobals "_law_pair" = some (some (.ref f9))) (l9 : K.lookup f9 = some ⟨oc9, od9, .func (PySem.W.fnOf "_law_pair" "_law_pair" (defArgs s_f_law_pair) (defBody s_f_law_pair) (defScope s_f_law_pair) .none kV9 dc9 pm9 an9 cd9 ct9), sl9⟩) (c9 : PySem.W.codeIn K cd9 "_law_pair" = true) (k9 : PySem.W.keepIn K (.ref f9) = true)
    (a10 : PySem.W.nsIn K mainGlobals "_law_kinds" = some (some (.ref f10))) (l10 : K.lookup f10 = some ⟨oc10, od10, .func (PySem.W.fnOf "_law_kinds" "_law_kinds" (defArgs s_f_law_kinds) (defBody s_f_law_kinds) (defScope s_f_law_kinds) .none kV10 dc10 pm10 an10 cd10 ct10), sl10⟩) (c10 : PySem.W.codeIn K cd10 "_law_kinds" = true) (k10 : PySem.W.keepIn K (.ref f10) = true)
    (a11 : PySem.W.nsIn K mainGlobals "_law_same" = some (some (.ref f11))) (l11 : K.lookup f11 = some ⟨oc11, od11, .func (PySem.W.fnOf "_law_same" "_law_same" (defArgs s_f_law_same) (defBody s_f_law_same) (defScope s_f_law_same) .none kV11 dc11 pm11 an11 cd11 ct11), sl11⟩) (c11 : PySem.W.codeIn K cd11 "_law_same" = true) (k11 : PySem.W.keepIn K (.ref f11) = true)
    (a12 : PySem.W.nsIn K mainGlobals "_law_worths" = some (some (.ref f12))) (l12 : K.lookup f12 = some ⟨oc12, od12, .func (PySem.W.fnOf "_law_worths" "_law_worths" (defArgs s_f_law_worths) (defBody s_f_law_worths) (defScope s_f_law_worths) .none kV12 dc12 pm12 an12 cd12 ct12), sl12⟩) (c12 : PySem.W.codeIn K cd12 "_law_worths" = true) (k12 : PySem.W.keepIn K (.ref f12) = true)
    (a13 : PySem.W.nsIn K mainGlobals "_law_under" = some (some (.ref f13))) (l13 : K.lookup f13 = some ⟨oc13, od13, .func (PySem.W.fnOf "_law_under" "_law_under" (defArgs s_f_law_under) (defBody s_f_law_under) (defScope s_f_law_under) .none kV13 dc13 pm13 an13 cd13 ct13), sl13⟩) (c13 : PySem.W.codeIn K cd13 "_law_under" = true) (k13 : PySem.W.keepIn K (.ref f13) = true)
    (a14 : PySem.W.nsIn K mainGlobals "_law_whole" = some (some (.ref f14))) (l14 : K.lookup f14 = some ⟨oc14, od14, .func (PySem.W.fnOf "_law_whole" "_law_whole" (defArgs s_f_law_whole) (defBody s_f_law_whole) (defScope s_f_law_whole) .none kV14 dc14 pm14 an14 cd14 ct14), sl14⟩) (c14 : PySem.W.codeIn K cd14 "_law_whole" = true) (k14 : PySem.W.keepIn K (.ref f14) = true)
    (a15 : PySem.W.nsIn K mainGlobals "_law_least_above" = some (some (.ref f15))) (l15 : K.lookup f15 = some ⟨oc15, od15, .func (PySem.W.fnOf "_law_least_above" "_law_least_above" (defArgs s_f_law_least_above) (defBody s_f_law_least_above) (defScope s_f_law_least_above) .none kV15 dc15 pm15 an15 cd15 ct15), sl15⟩) (c15 : PySem.W.codeIn K cd15 "_law_least_above" = true) (k15 : PySem.W.keepIn K (.ref f15) = true)
    (a16 : PySem.W.nsIn K mainGlobals "_law_cut" = some (some (.ref f16))) (l16 : K.lookup f16 = some ⟨oc16, od16, .func (PySem.W.fnOf "_law_cut" "_law_cut" (defArgs s_f_law_cut) (defBody s_f_law_cut) (defScope s_f_law_cut) .none kV16 dc16 pm16 an16 cd16 ct16), sl16⟩) (c16 : PySem.W.codeIn K cd16 "_law_cut" = true) (k16 : PySem.W.keepIn K (.ref f16) = true)
    (a17 : PySem.W.nsIn K mainGlobals "_law_joined_right" = some (some (.ref f17))) (l17 : K.lookup f17 = some ⟨oc17, od17, .func (PySem.W.fnOf "_law_joined_right" "_law_joined_right" (defArgs s_f_law_joined_right) (defBody s_f_law_joined_right) (defScope s_f_law_joined_right) .none kV17 dc17 pm17 an17 cd17 ct17), sl17⟩) (c17 : PySem.W.codeIn K cd17 "_law_joined_right" = true) (k17 : PySem.W.keepIn K (.ref f17) = true)
    (a18 : PySem.W.nsIn K mainGlobals "_law_right" = some (some (.ref f18))) (l18 : K.lookup f18 = some ⟨oc18, od18, .func (PySem.W.fnOf "_law_right" "_law_right" (defArgs s_f_law_right) (defBody s_f_law_right) (defScope s_f_law_right) .none kV18 dc18 pm18 an18 cd18 ct18), sl18⟩) (c18 : PySem.W.codeIn K cd18 "_law_right" = true) (k18 : PySem.W.keepIn K (.ref f18) = true)
    (a19 : PySem.W.nsIn K mainGlobals "law" = some (some (.ref f19))) (l19 : K.lookup f19 = some ⟨oc19, od19, .func (PySem.W.fnOf "law" "law" (defArgs s_f_law) (defBody s_f_law) (defScope s_f_law) .none kV19 dc19 pm19 an19 cd19 ct19), sl19⟩) (c19 : PySem.W.codeIn K cd19 "law" = true) (k19 : PySem.W.keepIn K (.ref f19) = true)
    (z_ValueError : PySem.W.nsIn K mainGlobals "ValueError" = some none)
    (z_all : PySem.W.nsIn K mainGlobals "all" = some none)
    (z_bool : PySem.W.nsIn K mainGlobals "bool" = some none)
    (z_dict : PySem.W.nsIn K mainGlobals "dict" = some none)
    (z_int : PySem.W.nsIn K mainGlobals "int" = some none)
    (z_isinstance : PySem.W.nsIn K mainGlobals "isinstance" = some none)
    (z_len : PySem.W.nsIn K mainGlobals "len" = some none)
    (z_list : PySem.W.nsIn K mainGlobals "list" = some none)
    (z_max : PySem.W.nsIn K mainGlobals "max" = some none)
    (z_range : PySem.W.nsIn K mainGlobals "range" = some none)
    (z_str : PySem.W.nsIn K mainGlobals "str" = some none)
    (z_tuple : PySem.W.nsIn K mainGlobals "tuple" = some none)
    (z_zip : PySem.W.nsIn K mainGlobals "zip" = some none)
    (gc_NoWorth : PySem.W.nsIn K mainGlobals "NoWorth" = some (some (.ref cl_NoWorth)))
    (gc_WantError : PySem.W.nsIn K mainGlobals "WantError" = some (some (.ref cl_WantError)))
    (gc_Falling : PySem.W.nsIn K mainGlobals "Falling" = some (some (.ref cl_Falling)))
    (gc_NoAsking : PySem.W.nsIn K mainGlobals "NoAsking" = some (some (.ref cl_NoAsking)))
    (gc_NoBook : PySem.W.nsIn K mainGlobals "NoBook" = some (some (.ref cl_NoBook)))
    (gc_NoCell : PySem.W.nsIn K mainGlobals "NoCell" = some (some (.ref cl_NoCell)))
    (gc_NoKinds : PySem.W.nsIn K mainGlobals "NoKinds" = some (some (.ref cl_NoKinds)))
    (gc_NoMore : PySem.W.nsIn K mainGlobals "NoMore" = some (some (.ref cl_NoMore)))
    (gc_NoMost : PySem.W.nsIn K mainGlobals "NoMost" = some (some (.ref cl_NoMost)))
    (gc_NoNote : PySem.W.nsIn K mainGlobals "NoNote" = some (some (.ref cl_NoNote)))
    (gc_NoPart : PySem.W.nsIn K mainGlobals "NoPart" = some (some (.ref cl_NoPart)))
    (gc_NoRows : PySem.W.nsIn K mainGlobals "NoRows" = some (some (.ref cl_NoRows)))
    (gc_NoSheet : PySem.W.nsIn K mainGlobals "NoSheet" = some (some (.ref cl_NoSheet)))
    (gc_Torn : PySem.W.nsIn K mainGlobals "Torn" = some (some (.ref cl_Torn)))
    (x_NoWorth : PySem.W.excIn K cl_NoWorth [.type "ValueError", .type "Exception", .type "BaseException", .type "object"] "ValueError.__new__" = true)
    (kp_NoWorth : PySem.W.keepIn K (.ref cl_NoWorth) = true)
    (sb_NoWorth : PySem.W.subIn K (.ref cl_NoWorth) (.type "BaseException") = some true)
    (ty_NoWorth : PySem.W.typeIn K (.ref cl_NoWorth) = some (.type "type"))
    (ec_NoWorth : ExcC K cl_NoWorth)
    (sb_WantError : PySem.W.subIn K (.ref cl_WantError) (.type "BaseException") = some true)
    (ty_WantError : PySem.W.typeIn K (.ref cl_WantError) = some (.type "type"))
    (hd_WantError : PySem.W.hasDictIn K cl_WantError = true)
    (su_NoWorth_WantError : PySem.W.subIn K (.ref cl_NoWorth) (.ref cl_WantError) = some true)
    (ka_NoWorth_Falling_NoAsking_NoBook_NoCell_NoKinds_NoMore_NoMost_NoNote_NoPart : PySem.W.kitAny K (.ref cl_NoWorth) [(.ref cl_Falling), (.ref cl_NoAsking), (.ref cl_NoBook), (.ref cl_NoCell), (.ref cl_NoKinds), (.ref cl_NoMore), (.ref cl_NoMost), (.ref cl_NoNote), (.ref cl_NoPart)] = some false)
    (ka_NoWorth_NoRows_NoSheet_Torn : PySem.W.kitAny K (.ref cl_NoWorth) [(.ref cl_NoRows), (.ref cl_NoSheet), (.ref cl_Torn)] = some false)
    (ko_NoWorth_ValueError : PySem.W.kitOne K (.ref cl_NoWorth) (.type "ValueError") = some true)
    (ko_NoWorth_NoWorth : PySem.W.kitOne K (.ref cl_NoWorth) (.ref cl_NoWorth) = some true)
    : Txt K mg := by
  refine {t_f_is_under := ?_, t_f_joined := ?_, t_f_is_whole := ?_, t_f_law_cell := ?_, t_f_law_mixed := ?_, t_f_law_stream := ?_, t_f_law_take := ?_, t_f_law_words := ?_, t_f_law_small := ?_, t_f_law_pair := ?_, t_f_law_kinds := ?_, t_f_law_same := ?_, t_f_law_worths := ?_, t_f_law_under := ?_, t_f_law_whole := ?_, t_f_law_least_above := ?_, t_f_law_cut := ?_, t_f_law_joined_right := ?_, t_f_law_right := ?_, t_f_law := ?_, z_ValueError := PySem.W.mg_none_of X G z_ValueError, z_all := PySem.W.mg_none_of X G z_all, z_bool := PySem.W.mg_none_of X G z_bool, z_dict := PySem.W.mg_none_of X G z_dict, z_int := PySem.W.mg_none_of X G z_int, z_isinstance := PySem.W.mg_none_of X G z_isinstance, z_len := PySem.W.mg_none_of X G z_len, z_list := PySem.W.mg_none_of X G z_list, z_max := PySem.W.mg_none_of X G z_max, z_range := PySem.W.mg_none_of X G z_range, z_str := PySem.W.mg_none_of X G z_str, z_tuple := PySem.W.mg_none_of X G z_tuple, z_zip := PySem.W.mg_none_of X G z_zip, ex := ⟨cl_NoWorth, cl_WantError, cl_Falling, cl_NoAsking, cl_NoBook, cl_NoCell, cl_NoKinds, cl_NoMore, cl_NoMost, cl_NoNote, cl_NoPart, cl_NoRows, cl_NoSheet, cl_Torn, PySem.W.mg_of X G gc_NoWorth, PySem.W.mg_of X G gc_WantError, PySem.W.mg_of X G gc_Falling, PySem.W.mg_of X G gc_NoAsking, PySem.W.mg_of X G gc_NoBook, PySem.W.mg_of X G gc_NoCell, PySem.W.mg_of X G gc_NoKinds, PySem.W.mg_of X G gc_NoMore, PySem.W.mg_of X G gc_NoMost, PySem.W.mg_of X G gc_NoNote, PySem.W.mg_of X G gc_NoPart, PySem.W.mg_of X G gc_NoRows, PySem.W.mg_of X G gc_NoSheet, PySem.W.mg_of X G gc_Torn, x_NoWorth, kp_NoWorth, sb_NoWorth, ty_NoWorth, ec_NoWorth, sb_WantError, ty_WantError, hd_WantError, su_NoWorth_WantError, ka_NoWorth_Falling_NoAsking_NoBook_NoCell_NoKinds_NoMore_NoMost_NoNote_NoPart, ka_NoWorth_NoRows_NoSheet_Torn, ko_NoWorth_ValueError, ko_NoWorth_NoWorth⟩ }
  · have F := fun_mk (st := s_f_is_under) l0 c0 k0
    exact ⟨f0, _, F, rfl, PySem.W.mg_of X G a0, k0, F.binds (ps := ["one", "other"]) fun _ _ _ _ _ _ us hl => match us, hl with | [_, _], _ => rfl⟩
  · have F := fun_mk (st := s_f_joined) l1 c1 k1
    exact ⟨f1, _, F, rfl, PySem.W.mg_of X G a1, k1, F.binds (ps := ["one", "other"]) fun _ _ _ _ _ _ us hl => match us, hl with | [_, _], _ => rfl⟩
  · have F := fun_mk (st := s_f_is_whole) l2 c2 k2
    exact ⟨f2, _, F, rfl, PySem.W.mg_of X G a2, k2, F.binds (ps := ["worth"]) fun _ _ _ _ _ _ us hl => match us, hl with | [_], _ => rfl⟩
  · have F := fun_mk (st := s_f_law_cell) l3 c3 k3
    exact ⟨f3, _, F, rfl, PySem.W.mg_of X G a3, k3, F.binds (ps := ["script", "k"]) fun _ _ _ _ _ _ us hl => match us, hl with | [_, _], _ => rfl⟩
  · have F := fun_mk (st := s_f_law_mixed) l4 c4 k4
    exact ⟨f4, _, F, rfl, PySem.W.mg_of X G a4, k4, F.binds (ps := ["cell", "k"]) fun _ _ _ _ _ _ us hl => match us, hl with | [_, _], _ => rfl⟩
  · have F := fun_mk (st := s_f_law_stream) l5 c5 k5
    exact ⟨f5, _, F, rfl, PySem.W.mg_of X G a5, k5, F.binds (ps := ["cell"]) fun _ _ _ _ _ _ us hl => match us, hl with | [_], _ => rfl⟩
  · have F := fun_mk (st := s_f_law_take) l6 c6 k6
    exact ⟨f6, _, F, rfl, PySem.W.mg_of X G a6, k6, F.binds (ps := ["stream", "many"]) fun _ _ _ _ _ _ us hl => match us, hl with | [_, _], _ => rfl⟩
  · have F := fun_mk (st := s_f_law_words) l7 c7 k7
    exact ⟨f7, _, F, rfl, PySem.W.mg_of X G a7, k7, F.binds (ps := ["stream", "many", "letters", "ways"]) fun _ _ _ _ _ _ us hl => match us, hl with | [_, _, _, _], _ => rfl⟩
  · have F := fun_mk (st := s_f_law_small) l8 c8 k8
    exact ⟨f8, _, F, rfl, PySem.W.mg_of X G a8, k8, F.binds (ps := ["stream", "many"]) fun _ _ _ _ _ _ us hl => match us, hl with | [_, _], _ => rfl⟩
  · have F := fun_mk (st := s_f_law_pair) l9 c9 k9
    exact ⟨f9, _, F, rfl, PySem.W.mg_of X G a9, k9, F.binds (ps := ["stream", "names", "counts", "depths", "taken", "top"]) fun _ _ _ _ _ _ us hl => match us, hl with | [_, _, _, _, _, _], _ => rfl⟩
  · have F := fun_mk (st := s_f_law_kinds) l10 c10 k10
    exact ⟨f10, _, F, rfl, PySem.W.mg_of X G a10, k10, F.binds (ps := ["stream", "most", "top"]) fun _ _ _ _ _ _ us hl => match us, hl with | [_, _, _], _ => rfl⟩
  · have F := fun_mk (st := s_f_law_same) l11 c11 k11
    exact ⟨f11, _, F, rfl, PySem.W.mg_of X G a11, k11, F.binds (ps := ["found", "due"]) fun _ _ _ _ _ _ us hl => match us, hl with | [_, _], _ => rfl⟩
  · have F := fun_mk (st := s_f_law_worths) l12 c12 k12
    exact ⟨f12, _, F, rfl, PySem.W.mg_of X G a12, k12, F.binds (ps := ["shapes", "kind"]) fun _ _ _ _ _ _ us hl => match us, hl with | [_, _], _ => rfl⟩
  · have F := fun_mk (st := s_f_law_under) l13 c13 k13
    exact ⟨f13, _, F, rfl, PySem.W.mg_of X G a13, k13, F.binds (ps := ["one", "other"]) fun _ _ _ _ _ _ us hl => match us, hl with | [_, _], _ => rfl⟩
  · have F := fun_mk (st := s_f_law_whole) l14 c14 k14
    exact ⟨f14, _, F, rfl, PySem.W.mg_of X G a14, k14, F.binds (ps := ["worth"]) fun _ _ _ _ _ _ us hl => match us, hl with | [_], _ => rfl⟩
  · have F := fun_mk (st := s_f_law_least_above) l15 c15 k15
    exact ⟨f15, _, F, rfl, PySem.W.mg_of X G a15, k15, F.binds (ps := ["worths", "one", "other"]) fun _ _ _ _ _ _ us hl => match us, hl with | [_, _, _], _ => rfl⟩
  · have F := fun_mk (st := s_f_law_cut) l16 c16 k16
    exact ⟨f16, _, F, rfl, PySem.W.mg_of X G a16, k16, F.binds (ps := ["worth", "stream"]) fun _ _ _ _ _ _ us hl => match us, hl with | [_, _], _ => rfl⟩
  · have F := fun_mk (st := s_f_law_joined_right) l17 c17 k17
    exact ⟨f17, _, F, rfl, PySem.W.mg_of X G a17, k17, F.binds (ps := ["one", "other", "due"]) fun _ _ _ _ _ _ us hl => match us, hl with | [_, _, _], _ => rfl⟩
  · have F := fun_mk (st := s_f_law_right) l18 c18 k18
    exact ⟨f18, _, F, rfl, PySem.W.mg_of X G a18, k18, F.binds (ps := ["worths", "one", "other"]) fun _ _ _ _ _ _ us hl => match us, hl with | [_, _, _], _ => rfl⟩
  · have F := fun_mk (st := s_f_law) l19 c19 k19
    exact ⟨f19, _, F, rfl, PySem.W.mg_of X G a19, k19, F.binds (ps := ["script"]) fun _ _ _ _ _ _ us hl => match us, hl with | [_], _ => rfl⟩
end Lw

set_option linter.all false
set_option maxRecDepth 100000
namespace Lw
open PySem L2 Ev
theorem call_s (n : Nat) (g : Fn) (ws : List W) (S : Sto) : call (n + 1) g ws S = body (call n) g ws S := rfl
/-- the mixed number -/
theorem mixed_ok {n : Nat} {c k : Int} {S : Sto} {Q : W → Sto → Prop} (hn : 1 ≤ n) (h : ∀ z : Int, 0 ≤ z → Q (.int z) S) : wpR (call n .f_law_mixed [.int c, .int k] S) Q := by
  obtain ⟨n, rfl⟩ : ∃ m, n = m + 1 := ⟨n - 1, by omega⟩
  rw [call_s, body]
  try simp (maxSteps := 500000) (implicitDefEqProofs := false) (disch := omega) only [Ev.wpR_ok, Ev.wpR_no, Ev.wpR_bind, Ev.wpR_ite, Ev.wpS_nx, Ev.wpS_rt, Ev.Kn_nx, Ev.Kn_rt, Ev.Kn_bk, Ev.Kn_ct, Ev.wpS_seq, Ev.wpS_ret, Ev.wpS_expr, Ev.wpS_set, Ev.wpS_ite, Ev.wpS_if, Ev.wpS_nil, Ev.wpS_cnt, Ev.wpS_brk, Ev.wpS_retN, Ev.wpS_asg, Ev.wpS_put, Ev.wpR_run, Ev.onRet_nx, Ev.onRet_rt, Ev.onNx_nx, Ev.onNx_ct, Ev.onNx_bk, Ev.onNx_rt, Ev.var_0, Ev.var_S, Ev.wpR_lc, Ev.wpS_for, Ev.e1, Ev.e2, Ev.eL, Ev.eC, Ev.aNil, Ev.aCons, Ev.bTest, Ev.bAnd, Ev.bOr, Ev.bNot, Ev.bTru, Ev.vAnd, Ev.vOr, Ev.vNot, Ev.eIf, Ev.bYes, Ev.eM, Ev.eSl, Ev.oNone, Ev.oSome, Ev.dnewW, Ev.startE, Ev.wipeE, List.map_cons, List.map_nil, List.length_cons, List.length_nil, List.replicate, List.cons_append, List.nil_append, Nat.reduceAdd, Nat.reduceSub, List.set_cons_zero, List.set_cons_succ, if_true, if_false, Ev.ifF, true_and, and_true, Bool.false_eq_true, Bool.not_true, Bool.not_false, reduceIte, Nat.zero_add, Ev.addW_ii, Ev.addW_tt, Ev.subW_ii, Ev.mulW_ii, Ev.modW_ii, Ev.fdivW_ii, Ev.powW_ii, Ev.negW_i, Ev.cmpI_ii, Ev.isW_n, Ev.isnW_n, Ev.isNon_n, Ev.isNon_b, Ev.isNon_i, Ev.isNon_s, Ev.isNon_t, Ev.isNon_l, Ev.max2W_ii, Ev.min2W_ii, Ev.intW_i, Ev.intW_b, Ev.lenW_t, Ev.lenW_r, Ev.wpR_ixT, Ev.wpR_ixR, Ev.wpR_ixS, Ev.listW_t, Ev.tupleW_t, Ev.truW_b, Ev.truW_n, Ev.truW_i, Ev.truW_t, Ev.eqW_ii, Ev.neW_ii, Ev.eqW_ss, Ev.neW_ss, Ev.eqW_bb, Ev.ixN_0, Ev.ixN_1, Ev.ixN_2, Ev.ixN_3, Ev.getE_set_self, Ev.wpR_rng1, Ev.wpR_seq, Ev.wpR_zip, Ev.isi_bb, Ev.isi_bs, Ev.isi_bi, Ev.isi_bt, Ev.isi_bl, Ev.isi_ib, Ev.isi_is, Ev.isi_ii, Ev.isi_it, Ev.isi_il, Ev.isi_sb, Ev.isi_ss, Ev.isi_si, Ev.isi_st, Ev.isi_sl, Ev.isi_tb, Ev.isi_ts, Ev.isi_ti, Ev.isi_tt, Ev.isi_tl, Ev.isi_nb, Ev.isi_ns, Ev.isi_ni, Ev.isi_nt, Ev.isi_nl, Ev.atI_0, Ev.atI_1, Ev.atI_2, Ev.atI_3, Ev.atI_4, Ev.tyOk_s, Ev.slW_to, Ev.slW_from, Ev.addW_SS, Int.toNat_natCast, Ev.tupW, Ev.lstW, Option.some.injEq, exists_eq_left', List.set_set, Option.map_some, W.int.injEq, W.str.injEq, W.loc.injEq, Nat.reduceLeDiff, and_self, Int.reduceLT, Int.reduceLE, Int.reduceNeg, Int.reduceToNat, Int.reduceAdd, Int.reduceMul, Int.reduceSub, decide_eq_true_eq, m_f_law_mixed]
  have b := Int.emod_nonneg (c % 2147483647 * 48271 + 69621 * k + 7919) (b := 2147483629) (by decide)
  have b' := Int.emod_lt_of_pos (c % 2147483647 * 48271 + 69621 * k + 7919) (b := 2147483629) (by decide)
  generalize (c % 2147483647 * 48271 + 69621 * k + 7919) % 2147483629 = z at *
  have d := Int.emod_nonneg (z * z + 31 * k + 5) (b := 2147483587) (by decide)
  have d' := Int.emod_lt_of_pos (z * z + 31 * k + 5) (b := 2147483587) (by decide)
  generalize (z * z + 31 * k + 5) % 2147483587 = y at *
  exact ⟨cmul_r (by decide) (by decide), cmul_l (by decide) (by decide), cmul_l (by omega) (by omega), cmul_l (by decide) (by decide), cmul_l (by omega) (by omega), h _ (Int.emod_nonneg _ (by decide))⟩
/-- a stream at a place -/
def Strm (S : Sto) (i : Nat) : Prop := ∃ (c : Int) (b : Bool) (k m : Int), S[i]? = some (.lst [.int c, .bl b, .int k, .int m])
theorem Strm.mono {M : List Nat} {S S' : Sto} {i : Nat} (h : Strm S i) (x : Xt M S S') (n : i ∉ M) : Strm S' i := by
  obtain ⟨c, b, k, m, e⟩ := h
  exact ⟨c, b, k, m, x.at_ i _ n e⟩
theorem Strm.lt {S : Sto} {i : Nat} (h : Strm S i) : i < S.length := by
  obtain ⟨c, b, k, m, e⟩ := h
  exact lt_at e
theorem Strm.app {S T : Sto} {i : Nat} (h : Strm S i) : Strm (S ++ T) i := by
  obtain ⟨c, b, k, m, e⟩ := h
  exact ⟨c, b, k, m, at_app e⟩
theorem Strm.ne {S : Sto} {i p : Nat} {o : O} (h : Strm S i) (n : p ≠ i) : Strm (S.set p o) i := by
  obtain ⟨c, b, k, m, e⟩ := h
  exact ⟨c, b, k, m, at_ne e n⟩
theorem stream_ok {n : Nat} {c : Int} {S : Sto} {Q : W → Sto → Prop} (hn : 1 ≤ n) (h : ∀ S', Xt [] S S' → S'.length = S.length + 1 → Strm S' S.length → Q (.loc S.length) S') : wpR (call n .f_law_stream [.int c] S) Q := by
  obtain ⟨n, rfl⟩ : ∃ m, n = m + 1 := ⟨n - 1, by omega⟩
  rw [call_s, body]
  try simp (maxSteps := 500000) (implicitDefEqProofs := false) (disch := omega) only [Ev.wpR_ok, Ev.wpR_no, Ev.wpR_bind, Ev.wpR_ite, Ev.wpS_nx, Ev.wpS_rt, Ev.Kn_nx, Ev.Kn_rt, Ev.Kn_bk, Ev.Kn_ct, Ev.wpS_seq, Ev.wpS_ret, Ev.wpS_expr, Ev.wpS_set, Ev.wpS_ite, Ev.wpS_if, Ev.wpS_nil, Ev.wpS_cnt, Ev.wpS_brk, Ev.wpS_retN, Ev.wpS_asg, Ev.wpS_put, Ev.wpR_run, Ev.onRet_nx, Ev.onRet_rt, Ev.onNx_nx, Ev.onNx_ct, Ev.onNx_bk, Ev.onNx_rt, Ev.var_0, Ev.var_S, Ev.wpR_lc, Ev.wpS_for, Ev.e1, Ev.e2, Ev.eL, Ev.eC, Ev.aNil, Ev.aCons, Ev.bTest, Ev.bAnd, Ev.bOr, Ev.bNot, Ev.bTru, Ev.vAnd, Ev.vOr, Ev.vNot, Ev.eIf, Ev.bYes, Ev.eM, Ev.eSl, Ev.oNone, Ev.oSome, Ev.dnewW, Ev.startE, Ev.wipeE, List.map_cons, List.map_nil, List.length_cons, List.length_nil, List.replicate, List.cons_append, List.nil_append, Nat.reduceAdd, Nat.reduceSub, List.set_cons_zero, List.set_cons_succ, if_true, if_false, Ev.ifF, true_and, and_true, Bool.false_eq_true, Bool.not_true, Bool.not_false, reduceIte, Nat.zero_add, Ev.addW_ii, Ev.addW_tt, Ev.subW_ii, Ev.mulW_ii, Ev.modW_ii, Ev.fdivW_ii, Ev.powW_ii, Ev.negW_i, Ev.cmpI_ii, Ev.isW_n, Ev.isnW_n, Ev.isNon_n, Ev.isNon_b, Ev.isNon_i, Ev.isNon_s, Ev.isNon_t, Ev.isNon_l, Ev.max2W_ii, Ev.min2W_ii, Ev.intW_i, Ev.intW_b, Ev.lenW_t, Ev.lenW_r, Ev.wpR_ixT, Ev.wpR_ixR, Ev.wpR_ixS, Ev.listW_t, Ev.tupleW_t, Ev.truW_b, Ev.truW_n, Ev.truW_i, Ev.truW_t, Ev.eqW_ii, Ev.neW_ii, Ev.eqW_ss, Ev.neW_ss, Ev.eqW_bb, Ev.ixN_0, Ev.ixN_1, Ev.ixN_2, Ev.ixN_3, Ev.getE_set_self, Ev.wpR_rng1, Ev.wpR_seq, Ev.wpR_zip, Ev.isi_bb, Ev.isi_bs, Ev.isi_bi, Ev.isi_bt, Ev.isi_bl, Ev.isi_ib, Ev.isi_is, Ev.isi_ii, Ev.isi_it, Ev.isi_il, Ev.isi_sb, Ev.isi_ss, Ev.isi_si, Ev.isi_st, Ev.isi_sl, Ev.isi_tb, Ev.isi_ts, Ev.isi_ti, Ev.isi_tt, Ev.isi_tl, Ev.isi_nb, Ev.isi_ns, Ev.isi_ni, Ev.isi_nt, Ev.isi_nl, Ev.atI_0, Ev.atI_1, Ev.atI_2, Ev.atI_3, Ev.atI_4, Ev.tyOk_s, Ev.slW_to, Ev.slW_from, Ev.addW_SS, Int.toNat_natCast, Ev.tupW, Ev.lstW, Option.some.injEq, exists_eq_left', List.set_set, Option.map_some, W.int.injEq, W.str.injEq, W.loc.injEq, Nat.reduceLeDiff, and_self, Int.reduceLT, Int.reduceLE, Int.reduceNeg, Int.reduceToNat, Int.reduceAdd, Int.reduceMul, Int.reduceSub, decide_eq_true_eq, m_f_law_stream]
  refine ⟨by decide, ?_⟩
  split
  · exact h _ Xt.app (by simp) ⟨_, _, _, _, at_new'⟩
  · refine ⟨by decide, ?_⟩
    exact h _ Xt.app (by simp) ⟨_, _, _, _, at_new'⟩
theorem take_ok {n i : Nat} {k : Int} {S : Sto} {Q : W → Sto → Prop} (hn : 2 ≤ n) (hs : Strm S i) (hk : 0 < k ∧ k < 1073741824) (h : ∀ (z : Int) (o : O), 0 ≤ z → z < k → Strm (S.set i o) i → Q (.int z) (S.set i o)) : wpR (call n .f_law_take [.loc i, .int k] S) Q := by
  obtain ⟨n, rfl⟩ : ∃ m, n = m + 1 := ⟨n - 1, by omega⟩
  obtain ⟨c, b, q, m, e⟩ := hs
  rw [call_s, body]
  have fin : ∀ (z : Int) (c : Int) (b : Bool) (q m : Int), 0 ≤ z → z < k → Q (.int z) (S.set i (.lst [.int c, .bl b, .int q, .int m])) := fun z c b q m h1 h2 => h z _ h1 h2 ⟨c, b, q, m, at_set' e⟩
  cases b
  · try simp (maxSteps := 500000) (implicitDefEqProofs := false) (disch := omega) only [Ev.wpR_ok, Ev.wpR_no, Ev.wpR_bind, Ev.wpR_ite, Ev.wpS_nx, Ev.wpS_rt, Ev.Kn_nx, Ev.Kn_rt, Ev.Kn_bk, Ev.Kn_ct, Ev.wpS_seq, Ev.wpS_ret, Ev.wpS_expr, Ev.wpS_set, Ev.wpS_ite, Ev.wpS_if, Ev.wpS_nil, Ev.wpS_cnt, Ev.wpS_brk, Ev.wpS_retN, Ev.wpS_asg, Ev.wpS_put, Ev.wpR_run, Ev.onRet_nx, Ev.onRet_rt, Ev.onNx_nx, Ev.onNx_ct, Ev.onNx_bk, Ev.onNx_rt, Ev.var_0, Ev.var_S, Ev.wpR_lc, Ev.wpS_for, Ev.e1, Ev.e2, Ev.eL, Ev.eC, Ev.aNil, Ev.aCons, Ev.bTest, Ev.bAnd, Ev.bOr, Ev.bNot, Ev.bTru, Ev.vAnd, Ev.vOr, Ev.vNot, Ev.eIf, Ev.bYes, Ev.eM, Ev.eSl, Ev.oNone, Ev.oSome, Ev.dnewW, Ev.startE, Ev.wipeE, List.map_cons, List.map_nil, List.length_cons, List.length_nil, List.replicate, List.cons_append, List.nil_append, Nat.reduceAdd, Nat.reduceSub, List.set_cons_zero, List.set_cons_succ, if_true, if_false, Ev.ifF, true_and, and_true, Bool.false_eq_true, Bool.not_true, Bool.not_false, reduceIte, Nat.zero_add, Ev.addW_ii, Ev.addW_tt, Ev.subW_ii, Ev.mulW_ii, Ev.modW_ii, Ev.fdivW_ii, Ev.powW_ii, Ev.negW_i, Ev.cmpI_ii, Ev.isW_n, Ev.isnW_n, Ev.isNon_n, Ev.isNon_b, Ev.isNon_i, Ev.isNon_s, Ev.isNon_t, Ev.isNon_l, Ev.max2W_ii, Ev.min2W_ii, Ev.intW_i, Ev.intW_b, Ev.lenW_t, Ev.lenW_r, Ev.wpR_ixT, Ev.wpR_ixR, Ev.wpR_ixS, Ev.listW_t, Ev.tupleW_t, Ev.truW_b, Ev.truW_n, Ev.truW_i, Ev.truW_t, Ev.eqW_ii, Ev.neW_ii, Ev.eqW_ss, Ev.neW_ss, Ev.eqW_bb, Ev.ixN_0, Ev.ixN_1, Ev.ixN_2, Ev.ixN_3, Ev.getE_set_self, Ev.wpR_rng1, Ev.wpR_seq, Ev.wpR_zip, Ev.isi_bb, Ev.isi_bs, Ev.isi_bi, Ev.isi_bt, Ev.isi_bl, Ev.isi_ib, Ev.isi_is, Ev.isi_ii, Ev.isi_it, Ev.isi_il, Ev.isi_sb, Ev.isi_ss, Ev.isi_si, Ev.isi_st, Ev.isi_sl, Ev.isi_tb, Ev.isi_ts, Ev.isi_ti, Ev.isi_tt, Ev.isi_tl, Ev.isi_nb, Ev.isi_ns, Ev.isi_ni, Ev.isi_nt, Ev.isi_nl, Ev.atI_0, Ev.atI_1, Ev.atI_2, Ev.atI_3, Ev.atI_4, Ev.tyOk_s, Ev.slW_to, Ev.slW_from, Ev.addW_SS, Int.toNat_natCast, Ev.tupW, Ev.lstW, Option.some.injEq, exists_eq_left', List.set_set, Option.map_some, W.int.injEq, W.str.injEq, W.loc.injEq, Nat.reduceLeDiff, and_self, Int.reduceLT, Int.reduceLE, Int.reduceNeg, Int.reduceToNat, Int.reduceAdd, Int.reduceMul, Int.reduceSub, decide_eq_true_eq, m_f_law_take, wpR_ixL e, setO_L e, wpR_ixL (at_set' e)]
    refine mixed_ok (by omega) fun z hz => ?_
    try simp (maxSteps := 500000) (implicitDefEqProofs := false) (disch := omega) only [Ev.wpR_ok, Ev.wpR_no, Ev.wpR_bind, Ev.wpR_ite, Ev.wpS_nx, Ev.wpS_rt, Ev.Kn_nx, Ev.Kn_rt, Ev.Kn_bk, Ev.Kn_ct, Ev.wpS_seq, Ev.wpS_ret, Ev.wpS_expr, Ev.wpS_set, Ev.wpS_ite, Ev.wpS_if, Ev.wpS_nil, Ev.wpS_cnt, Ev.wpS_brk, Ev.wpS_retN, Ev.wpS_asg, Ev.wpS_put, Ev.wpR_run, Ev.onRet_nx, Ev.onRet_rt, Ev.onNx_nx, Ev.onNx_ct, Ev.onNx_bk, Ev.onNx_rt, Ev.var_0, Ev.var_S, Ev.wpR_lc, Ev.wpS_for, Ev.e1, Ev.e2, Ev.eL, Ev.eC, Ev.aNil, Ev.aCons, Ev.bTest, Ev.bAnd, Ev.bOr, Ev.bNot, Ev.bTru, Ev.vAnd, Ev.vOr, Ev.vNot, Ev.eIf, Ev.bYes, Ev.eM, Ev.eSl, Ev.oNone, Ev.oSome, Ev.dnewW, Ev.startE, Ev.wipeE, List.map_cons, List.map_nil, List.length_cons, List.length_nil, List.replicate, List.cons_append, List.nil_append, Nat.reduceAdd, Nat.reduceSub, List.set_cons_zero, List.set_cons_succ, if_true, if_false, Ev.ifF, true_and, and_true, Bool.false_eq_true, Bool.not_true, Bool.not_false, reduceIte, Nat.zero_add, Ev.addW_ii, Ev.addW_tt, Ev.subW_ii, Ev.mulW_ii, Ev.modW_ii, Ev.fdivW_ii, Ev.powW_ii, Ev.negW_i, Ev.cmpI_ii, Ev.isW_n, Ev.isnW_n, Ev.isNon_n, Ev.isNon_b, Ev.isNon_i, Ev.isNon_s, Ev.isNon_t, Ev.isNon_l, Ev.max2W_ii, Ev.min2W_ii, Ev.intW_i, Ev.intW_b, Ev.lenW_t, Ev.lenW_r, Ev.wpR_ixT, Ev.wpR_ixR, Ev.wpR_ixS, Ev.listW_t, Ev.tupleW_t, Ev.truW_b, Ev.truW_n, Ev.truW_i, Ev.truW_t, Ev.eqW_ii, Ev.neW_ii, Ev.eqW_ss, Ev.neW_ss, Ev.eqW_bb, Ev.ixN_0, Ev.ixN_1, Ev.ixN_2, Ev.ixN_3, Ev.getE_set_self, Ev.wpR_rng1, Ev.wpR_seq, Ev.wpR_zip, Ev.isi_bb, Ev.isi_bs, Ev.isi_bi, Ev.isi_bt, Ev.isi_bl, Ev.isi_ib, Ev.isi_is, Ev.isi_ii, Ev.isi_it, Ev.isi_il, Ev.isi_sb, Ev.isi_ss, Ev.isi_si, Ev.isi_st, Ev.isi_sl, Ev.isi_tb, Ev.isi_ts, Ev.isi_ti, Ev.isi_tt, Ev.isi_tl, Ev.isi_nb, Ev.isi_ns, Ev.isi_ni, Ev.isi_nt, Ev.isi_nl, Ev.atI_0, Ev.atI_1, Ev.atI_2, Ev.atI_3, Ev.atI_4, Ev.tyOk_s, Ev.slW_to, Ev.slW_from, Ev.addW_SS, Int.toNat_natCast, Ev.tupW, Ev.lstW, Option.some.injEq, exists_eq_left', List.set_set, Option.map_some, W.int.injEq, W.str.injEq, W.loc.injEq, Nat.reduceLeDiff, and_self, Int.reduceLT, Int.reduceLE, Int.reduceNeg, Int.reduceToNat, Int.reduceAdd, Int.reduceMul, Int.reduceSub, decide_eq_true_eq, hk.1]
    exact fin _ _ _ _ _ (Int.emod_nonneg _ (by omega)) (Int.emod_lt_of_pos _ hk.1)
  · try simp (maxSteps := 500000) (implicitDefEqProofs := false) (disch := omega) only [Ev.wpR_ok, Ev.wpR_no, Ev.wpR_bind, Ev.wpR_ite, Ev.wpS_nx, Ev.wpS_rt, Ev.Kn_nx, Ev.Kn_rt, Ev.Kn_bk, Ev.Kn_ct, Ev.wpS_seq, Ev.wpS_ret, Ev.wpS_expr, Ev.wpS_set, Ev.wpS_ite, Ev.wpS_if, Ev.wpS_nil, Ev.wpS_cnt, Ev.wpS_brk, Ev.wpS_retN, Ev.wpS_asg, Ev.wpS_put, Ev.wpR_run, Ev.onRet_nx, Ev.onRet_rt, Ev.onNx_nx, Ev.onNx_ct, Ev.onNx_bk, Ev.onNx_rt, Ev.var_0, Ev.var_S, Ev.wpR_lc, Ev.wpS_for, Ev.e1, Ev.e2, Ev.eL, Ev.eC, Ev.aNil, Ev.aCons, Ev.bTest, Ev.bAnd, Ev.bOr, Ev.bNot, Ev.bTru, Ev.vAnd, Ev.vOr, Ev.vNot, Ev.eIf, Ev.bYes, Ev.eM, Ev.eSl, Ev.oNone, Ev.oSome, Ev.dnewW, Ev.startE, Ev.wipeE, List.map_cons, List.map_nil, List.length_cons, List.length_nil, List.replicate, List.cons_append, List.nil_append, Nat.reduceAdd, Nat.reduceSub, List.set_cons_zero, List.set_cons_succ, if_true, if_false, Ev.ifF, true_and, and_true, Bool.false_eq_true, Bool.not_true, Bool.not_false, reduceIte, Nat.zero_add, Ev.addW_ii, Ev.addW_tt, Ev.subW_ii, Ev.mulW_ii, Ev.modW_ii, Ev.fdivW_ii, Ev.powW_ii, Ev.negW_i, Ev.cmpI_ii, Ev.isW_n, Ev.isnW_n, Ev.isNon_n, Ev.isNon_b, Ev.isNon_i, Ev.isNon_s, Ev.isNon_t, Ev.isNon_l, Ev.max2W_ii, Ev.min2W_ii, Ev.intW_i, Ev.intW_b, Ev.lenW_t, Ev.lenW_r, Ev.wpR_ixT, Ev.wpR_ixR, Ev.wpR_ixS, Ev.listW_t, Ev.tupleW_t, Ev.truW_b, Ev.truW_n, Ev.truW_i, Ev.truW_t, Ev.eqW_ii, Ev.neW_ii, Ev.eqW_ss, Ev.neW_ss, Ev.eqW_bb, Ev.ixN_0, Ev.ixN_1, Ev.ixN_2, Ev.ixN_3, Ev.getE_set_self, Ev.wpR_rng1, Ev.wpR_seq, Ev.wpR_zip, Ev.isi_bb, Ev.isi_bs, Ev.isi_bi, Ev.isi_bt, Ev.isi_bl, Ev.isi_ib, Ev.isi_is, Ev.isi_ii, Ev.isi_it, Ev.isi_il, Ev.isi_sb, Ev.isi_ss, Ev.isi_si, Ev.isi_st, Ev.isi_sl, Ev.isi_tb, Ev.isi_ts, Ev.isi_ti, Ev.isi_tt, Ev.isi_tl, Ev.isi_nb, Ev.isi_ns, Ev.isi_ni, Ev.isi_nt, Ev.isi_nl, Ev.atI_0, Ev.atI_1, Ev.atI_2, Ev.atI_3, Ev.atI_4, Ev.tyOk_s, Ev.slW_to, Ev.slW_from, Ev.addW_SS, Int.toNat_natCast, Ev.tupW, Ev.lstW, Option.some.injEq, exists_eq_left', List.set_set, Option.map_some, W.int.injEq, W.str.injEq, W.loc.injEq, Nat.reduceLeDiff, and_self, Int.reduceLT, Int.reduceLE, Int.reduceNeg, Int.reduceToNat, Int.reduceAdd, Int.reduceMul, Int.reduceSub, decide_eq_true_eq, m_f_law_take, wpR_ixL e, setO_L e, wpR_ixL (at_set' e), setO_L (at_set' e)]
    refine ⟨hk.1, hk, ?_⟩
    split
    · exact fin _ _ _ _ _ (Int.emod_nonneg _ (by omega)) (Int.emod_lt_of_pos _ hk.1)
    · exact fin _ _ _ _ _ (Int.emod_nonneg _ (by omega)) (Int.emod_lt_of_pos _ hk.1)
end Lw

set_option linter.all false
set_option maxRecDepth 100000
namespace Lw
open PySem L2 Ev
/-- a word by its number -/
def wordAt (L b : List Nat) (idx a way k : Nat) : List Nat :=
  if way = 0 then b.take a ++ [L.getD ((idx + 5 * k) % 26) 0] ++ b.drop (a + 1) else if way = 1 then [L.getD ((idx + 5 * k) % 26) 0] ++ b.take ((3 * k + a) % 8) else if way = 2 then b.take (k % 8 + 1) else b.take (8 - k % 8)
theorem wordAt_inj {L b : List Nat} {idx a way m k k' : Nat} (hL : L.length = 26) (hd : L.Nodup) (hb : b.length = 8) (ha : a < 8) (hw : way < 4) (hm : m ≤ 8 ∨ (m ≤ 26 ∧ way < 2)) (hk : k < m) (hk' : k' < m) (e : wordAt L b idx a way k = wordAt L b idx a way k') : k = k' := by
  have sg : L.getD ((idx + 5 * k) % 26) 0 = L.getD ((idx + 5 * k') % 26) 0 → k < 26 → k' < 26 → k = k' := by
    intro e h1 h2
    rw [gD_at (by omega), gD_at (by omega)] at e
    have := (List.getElem_inj hd).mp e
    omega
  unfold wordAt at e
  split at e
  · refine sg ?_ (by omega) (by omega)
    have := congrArg (fun l => l[a]?) e
    simpa [List.getElem?_append, List.length_take, hb, Nat.min_eq_left (Nat.le_of_lt ha)] using this
  · split at e
    · refine sg ?_ (by omega) (by omega)
      simp only [List.cons_append, List.nil_append, List.cons.injEq] at e
      exact e.1
    · split at e
      · have := congrArg List.length e
        simp only [List.length_take, hb] at this
        omega
      · have := congrArg List.length e
        simp only [List.length_take, hb] at this
        omega
theorem wordAt_ok {L b : List Nat} {idx a way k : Nat} (hL : L.length = 26) (hb : b.length = 8) (ha : a < 8) (hbL : ∀ c ∈ b, c ∈ L) : 1 ≤ (wordAt L b idx a way k).length ∧ (wordAt L b idx a way k).length ≤ 8 ∧ ∀ c ∈ wordAt L b idx a way k, c ∈ L := by
  have hs : L.getD ((idx + 5 * k) % 26) 0 ∈ L := by
    rw [gD_at (by omega)]
    exact List.getElem_mem _
  unfold wordAt
  split
  · refine ⟨by simp; omega, by simp [hb]; omega, fun c hc => ?_⟩
    rcases List.mem_append.mp hc with hc | hc
    · rcases List.mem_append.mp hc with hc | hc
      · exact hbL c (List.mem_of_mem_take hc)
      · rw [List.mem_singleton.mp hc]; exact hs
    · exact hbL c (List.mem_of_mem_drop hc)
  · split
    · refine ⟨by simp, by simp [hb]; omega, fun c hc => ?_⟩
      rcases List.mem_append.mp hc with hc | hc
      · rw [List.mem_singleton.mp hc]; exact hs
      · exact hbL c (List.mem_of_mem_take hc)
    · split
      · exact ⟨by simp [hb]; omega, by simp [hb]; omega, fun c hc => hbL c (List.mem_of_mem_take hc)⟩
      · exact ⟨by simp [hb]; omega, by simp [hb], fun c hc => hbL c (List.mem_of_mem_take hc)⟩
theorem words_ok {n i : Nat} {many ways : Int} {L : List Nat} {S : Sto} {Q : W → Sto → Prop} (hn : 3 ≤ n) (hs : Strm S i) (hL : L.length = 26) (hd : L.Nodup) (hm : 0 ≤ many) (hw : 0 < ways ∧ ways ≤ 4) (hmw : many ≤ 8 ∨ (many ≤ 26 ∧ ways ≤ 2))
    (h : ∀ (p : Nat) (wds : List (List Nat)) (S' : Sto), Xt [i] S S' → S.length ≤ p → Strm S' i → S'[p]? = some (.lst (wds.map fun w => .str (SX.S w))) → wds.length = many.toNat → wds.Nodup → (∀ w ∈ wds, 1 ≤ w.length ∧ w.length ≤ 8 ∧ ∀ c ∈ w, c ∈ L) → Q (.loc p) S') :
    wpR (call n .f_law_words [.loc i, .int many, .str (SX.S L), .int ways] S) Q := by
  obtain ⟨n, rfl⟩ : ∃ m, n = m + 1 := ⟨n - 1, by omega⟩
  rw [call_s, body]
  try simp (maxSteps := 500000) (implicitDefEqProofs := false) (disch := omega) only [Ev.wpR_ok, Ev.wpR_no, Ev.wpR_bind, Ev.wpR_ite, Ev.wpS_nx, Ev.wpS_rt, Ev.Kn_nx, Ev.Kn_rt, Ev.Kn_bk, Ev.Kn_ct, Ev.wpS_seq, Ev.wpS_ret, Ev.wpS_expr, Ev.wpS_set, Ev.wpS_ite, Ev.wpS_if, Ev.wpS_nil, Ev.wpS_cnt, Ev.wpS_brk, Ev.wpS_retN, Ev.wpS_asg, Ev.wpS_put, Ev.wpR_run, Ev.onRet_nx, Ev.onRet_rt, Ev.onNx_nx, Ev.onNx_ct, Ev.onNx_bk, Ev.onNx_rt, Ev.var_0, Ev.var_S, Ev.wpR_lc, Ev.wpS_for, Ev.e1, Ev.e2, Ev.eL, Ev.eC, Ev.aNil, Ev.aCons, Ev.bTest, Ev.bAnd, Ev.bOr, Ev.bNot, Ev.bTru, Ev.vAnd, Ev.vOr, Ev.vNot, Ev.eIf, Ev.bYes, Ev.eM, Ev.eSl, Ev.oNone, Ev.oSome, Ev.dnewW, Ev.startE, Ev.wipeE, List.map_cons, List.map_nil, List.length_cons, List.length_nil, List.replicate, List.cons_append, List.nil_append, Nat.reduceAdd, Nat.reduceSub, List.set_cons_zero, List.set_cons_succ, if_true, if_false, Ev.ifF, true_and, and_true, Bool.false_eq_true, Bool.not_true, Bool.not_false, reduceIte, Nat.zero_add, Ev.addW_ii, Ev.addW_tt, Ev.subW_ii, Ev.mulW_ii, Ev.modW_ii, Ev.fdivW_ii, Ev.powW_ii, Ev.negW_i, Ev.cmpI_ii, Ev.isW_n, Ev.isnW_n, Ev.isNon_n, Ev.isNon_b, Ev.isNon_i, Ev.isNon_s, Ev.isNon_t, Ev.isNon_l, Ev.max2W_ii, Ev.min2W_ii, Ev.intW_i, Ev.intW_b, Ev.lenW_t, Ev.lenW_r, Ev.wpR_ixT, Ev.wpR_ixR, Ev.wpR_ixS, Ev.listW_t, Ev.tupleW_t, Ev.truW_b, Ev.truW_n, Ev.truW_i, Ev.truW_t, Ev.eqW_ii, Ev.neW_ii, Ev.eqW_ss, Ev.neW_ss, Ev.eqW_bb, Ev.ixN_0, Ev.ixN_1, Ev.ixN_2, Ev.ixN_3, Ev.getE_set_self, Ev.wpR_rng1, Ev.wpR_seq, Ev.wpR_zip, Ev.isi_bb, Ev.isi_bs, Ev.isi_bi, Ev.isi_bt, Ev.isi_bl, Ev.isi_ib, Ev.isi_is, Ev.isi_ii, Ev.isi_it, Ev.isi_il, Ev.isi_sb, Ev.isi_ss, Ev.isi_si, Ev.isi_st, Ev.isi_sl, Ev.isi_tb, Ev.isi_ts, Ev.isi_ti, Ev.isi_tt, Ev.isi_tl, Ev.isi_nb, Ev.isi_ns, Ev.isi_ni, Ev.isi_nt, Ev.isi_nl, Ev.atI_0, Ev.atI_1, Ev.atI_2, Ev.atI_3, Ev.atI_4, Ev.tyOk_s, Ev.slW_to, Ev.slW_from, Ev.addW_SS, Int.toNat_natCast, Ev.tupW, Ev.lstW, Option.some.injEq, exists_eq_left', List.set_set, Option.map_some, W.int.injEq, W.str.injEq, W.loc.injEq, Nat.reduceLeDiff, and_self, Int.reduceLT, Int.reduceLE, Int.reduceNeg, Int.reduceToNat, Int.reduceAdd, Int.reduceMul, Int.reduceSub, decide_eq_true_eq, m_f_law_words]
  refine wp_lcl (len := 8) (fun k acc S1 => Xt [i] S S1 ∧ Strm S1 i ∧ ∃ cs : List (List Nat), acc = cs.map (fun c => .str (SX.S c)) ∧ cs.length = k ∧ ∀ c ∈ cs, ∃ x ∈ L, c = [x]) ?_ ?_ _ 0 [] S (by decide) (by decide) ⟨Xt.refl, hs, [], rfl, rfl, fun c h => by cases h⟩
  · rintro k acc S1 hk ⟨x1, st1, cs, rfl, hc, hin⟩
    refine ⟨_, _, rng0_lt hk, rfl, ?_⟩
    try simp (maxSteps := 500000) (implicitDefEqProofs := false) (disch := omega) only [Ev.wpR_ok, Ev.wpR_no, Ev.wpR_bind, Ev.wpR_ite, Ev.wpS_nx, Ev.wpS_rt, Ev.Kn_nx, Ev.Kn_rt, Ev.Kn_bk, Ev.Kn_ct, Ev.wpS_seq, Ev.wpS_ret, Ev.wpS_expr, Ev.wpS_set, Ev.wpS_ite, Ev.wpS_if, Ev.wpS_nil, Ev.wpS_cnt, Ev.wpS_brk, Ev.wpS_retN, Ev.wpS_asg, Ev.wpS_put, Ev.wpR_run, Ev.onRet_nx, Ev.onRet_rt, Ev.onNx_nx, Ev.onNx_ct, Ev.onNx_bk, Ev.onNx_rt, Ev.var_0, Ev.var_S, Ev.wpR_lc, Ev.wpS_for, Ev.e1, Ev.e2, Ev.eL, Ev.eC, Ev.aNil, Ev.aCons, Ev.bTest, Ev.bAnd, Ev.bOr, Ev.bNot, Ev.bTru, Ev.vAnd, Ev.vOr, Ev.vNot, Ev.eIf, Ev.bYes, Ev.eM, Ev.eSl, Ev.oNone, Ev.oSome, Ev.dnewW, Ev.startE, Ev.wipeE, List.map_cons, List.map_nil, List.length_cons, List.length_nil, List.replicate, List.cons_append, List.nil_append, Nat.reduceAdd, Nat.reduceSub, List.set_cons_zero, List.set_cons_succ, if_true, if_false, Ev.ifF, true_and, and_true, Bool.false_eq_true, Bool.not_true, Bool.not_false, reduceIte, Nat.zero_add, Ev.addW_ii, Ev.addW_tt, Ev.subW_ii, Ev.mulW_ii, Ev.modW_ii, Ev.fdivW_ii, Ev.powW_ii, Ev.negW_i, Ev.cmpI_ii, Ev.isW_n, Ev.isnW_n, Ev.isNon_n, Ev.isNon_b, Ev.isNon_i, Ev.isNon_s, Ev.isNon_t, Ev.isNon_l, Ev.max2W_ii, Ev.min2W_ii, Ev.intW_i, Ev.intW_b, Ev.lenW_t, Ev.lenW_r, Ev.wpR_ixT, Ev.wpR_ixR, Ev.wpR_ixS, Ev.listW_t, Ev.tupleW_t, Ev.truW_b, Ev.truW_n, Ev.truW_i, Ev.truW_t, Ev.eqW_ii, Ev.neW_ii, Ev.eqW_ss, Ev.neW_ss, Ev.eqW_bb, Ev.ixN_0, Ev.ixN_1, Ev.ixN_2, Ev.ixN_3, Ev.getE_set_self, Ev.wpR_rng1, Ev.wpR_seq, Ev.wpR_zip, Ev.isi_bb, Ev.isi_bs, Ev.isi_bi, Ev.isi_bt, Ev.isi_bl, Ev.isi_ib, Ev.isi_is, Ev.isi_ii, Ev.isi_it, Ev.isi_il, Ev.isi_sb, Ev.isi_ss, Ev.isi_si, Ev.isi_st, Ev.isi_sl, Ev.isi_tb, Ev.isi_ts, Ev.isi_ti, Ev.isi_tt, Ev.isi_tl, Ev.isi_nb, Ev.isi_ns, Ev.isi_ni, Ev.isi_nt, Ev.isi_nl, Ev.atI_0, Ev.atI_1, Ev.atI_2, Ev.atI_3, Ev.atI_4, Ev.tyOk_s, Ev.slW_to, Ev.slW_from, Ev.addW_SS, Int.toNat_natCast, Ev.tupW, Ev.lstW, Option.some.injEq, exists_eq_left', List.set_set, Option.map_some, W.int.injEq, W.str.injEq, W.loc.injEq, Nat.reduceLeDiff, and_self, Int.reduceLT, Int.reduceLE, Int.reduceNeg, Int.reduceToNat, Int.reduceAdd, Int.reduceMul, Int.reduceSub, decide_eq_true_eq]
    refine take_ok (by omega) st1 (by decide) fun z o h1 h2 st2 => ?_
    try simp (maxSteps := 500000) (implicitDefEqProofs := false) (disch := omega) only [Ev.wpR_ok, Ev.wpR_no, Ev.wpR_bind, Ev.wpR_ite, Ev.wpS_nx, Ev.wpS_rt, Ev.Kn_nx, Ev.Kn_rt, Ev.Kn_bk, Ev.Kn_ct, Ev.wpS_seq, Ev.wpS_ret, Ev.wpS_expr, Ev.wpS_set, Ev.wpS_ite, Ev.wpS_if, Ev.wpS_nil, Ev.wpS_cnt, Ev.wpS_brk, Ev.wpS_retN, Ev.wpS_asg, Ev.wpS_put, Ev.wpR_run, Ev.onRet_nx, Ev.onRet_rt, Ev.onNx_nx, Ev.onNx_ct, Ev.onNx_bk, Ev.onNx_rt, Ev.var_0, Ev.var_S, Ev.wpR_lc, Ev.wpS_for, Ev.e1, Ev.e2, Ev.eL, Ev.eC, Ev.aNil, Ev.aCons, Ev.bTest, Ev.bAnd, Ev.bOr, Ev.bNot, Ev.bTru, Ev.vAnd, Ev.vOr, Ev.vNot, Ev.eIf, Ev.bYes, Ev.eM, Ev.eSl, Ev.oNone, Ev.oSome, Ev.dnewW, Ev.startE, Ev.wipeE, List.map_cons, List.map_nil, List.length_cons, List.length_nil, List.replicate, List.cons_append, List.nil_append, Nat.reduceAdd, Nat.reduceSub, List.set_cons_zero, List.set_cons_succ, if_true, if_false, Ev.ifF, true_and, and_true, Bool.false_eq_true, Bool.not_true, Bool.not_false, reduceIte, Nat.zero_add, Ev.addW_ii, Ev.addW_tt, Ev.subW_ii, Ev.mulW_ii, Ev.modW_ii, Ev.fdivW_ii, Ev.powW_ii, Ev.negW_i, Ev.cmpI_ii, Ev.isW_n, Ev.isnW_n, Ev.isNon_n, Ev.isNon_b, Ev.isNon_i, Ev.isNon_s, Ev.isNon_t, Ev.isNon_l, Ev.max2W_ii, Ev.min2W_ii, Ev.intW_i, Ev.intW_b, Ev.lenW_t, Ev.lenW_r, Ev.wpR_ixT, Ev.wpR_ixR, Ev.wpR_ixS, Ev.listW_t, Ev.tupleW_t, Ev.truW_b, Ev.truW_n, Ev.truW_i, Ev.truW_t, Ev.eqW_ii, Ev.neW_ii, Ev.eqW_ss, Ev.neW_ss, Ev.eqW_bb, Ev.ixN_0, Ev.ixN_1, Ev.ixN_2, Ev.ixN_3, Ev.getE_set_self, Ev.wpR_rng1, Ev.wpR_seq, Ev.wpR_zip, Ev.isi_bb, Ev.isi_bs, Ev.isi_bi, Ev.isi_bt, Ev.isi_bl, Ev.isi_ib, Ev.isi_is, Ev.isi_ii, Ev.isi_it, Ev.isi_il, Ev.isi_sb, Ev.isi_ss, Ev.isi_si, Ev.isi_st, Ev.isi_sl, Ev.isi_tb, Ev.isi_ts, Ev.isi_ti, Ev.isi_tt, Ev.isi_tl, Ev.isi_nb, Ev.isi_ns, Ev.isi_ni, Ev.isi_nt, Ev.isi_nl, Ev.atI_0, Ev.atI_1, Ev.atI_2, Ev.atI_3, Ev.atI_4, Ev.tyOk_s, Ev.slW_to, Ev.slW_from, Ev.addW_SS, Int.toNat_natCast, Ev.tupW, Ev.lstW, Option.some.injEq, exists_eq_left', List.set_set, Option.map_some, W.int.injEq, W.str.injEq, W.loc.injEq, Nat.reduceLeDiff, and_self, Int.reduceLT, Int.reduceLE, Int.reduceNeg, Int.reduceToNat, Int.reduceAdd, Int.reduceMul, Int.reduceSub, decide_eq_true_eq, SX.S_len, hL]
    have hz : z.toNat < L.length := by omega
    refine ⟨L[z.toNat], atI_of h1 (List.getElem?_eq_getElem hz), by simp; omega, x1.trans (Xt.set (by simp)), st2, cs ++ [[L[z.toNat]]], by simp, by simp [hc], fun c hc => ?_⟩
    rcases List.mem_append.mp hc with hc | hc
    · exact hin c hc
    · exact ⟨_, List.getElem_mem hz, List.mem_singleton.mp hc⟩
  · rintro acc S1 ⟨x1, st1, cs, rfl, hc, hin⟩
    refine ⟨rng_end, ?_⟩
    have base : ∃ b : List Nat, cs.flatten = b ∧ b.length = 8 ∧ (∀ c ∈ b, c ∈ L) := by
      refine ⟨_, rfl, ?_, fun c hc => ?_⟩
      · have : ∀ l : List (List Nat), (∀ c ∈ l, ∃ x ∈ L, c = [x]) → l.flatten.length = l.length := by
          intro l
          induction l with
          | nil => intro _; rfl
          | cons a l ih =>
            intro h
            obtain ⟨x, _, rfl⟩ := h a (List.mem_cons_self ..)
            rw [List.flatten_cons, List.length_append, ih fun c hc => h c (List.mem_cons_of_mem _ hc)]
            simp; omega
        rw [this cs hin, hc]
      · obtain ⟨w, hw, hcw⟩ := List.mem_flatten.mp hc
        obtain ⟨x, hx, rfl⟩ := hin w hw
        rw [List.mem_singleton.mp hcw]; exact hx
    have hsum : (cs.map (·.length)).sum ≤ 1000000 := by
      rw [← List.length_flatten]
      obtain ⟨b, hb, h8, _⟩ := base
      rw [hb, h8]; decide
    rw [show Str.ofString "" = SX.S [] from rfl, joinW_l at_new' hsum]
    obtain ⟨b, hb, h8, hbL⟩ := base
    rw [hb]
    have st2 := st1.mono (Xt.app (M := []) (T := [O.lst (cs.map (fun c => W.str (SX.S c)))])) (by simp)
    have x2 := x1.trans (Xt.app (T := [O.lst (cs.map (fun c => W.str (SX.S c)))]))
    generalize S1 ++ [O.lst (cs.map (fun c => W.str (SX.S c)))] = S2 at *
    clear hc hin hb hsum x1 st1 S1 cs
    try simp (maxSteps := 500000) (implicitDefEqProofs := false) (disch := omega) only [Ev.wpR_ok, Ev.wpR_no, Ev.wpR_bind, Ev.wpR_ite, Ev.wpS_nx, Ev.wpS_rt, Ev.Kn_nx, Ev.Kn_rt, Ev.Kn_bk, Ev.Kn_ct, Ev.wpS_seq, Ev.wpS_ret, Ev.wpS_expr, Ev.wpS_set, Ev.wpS_ite, Ev.wpS_if, Ev.wpS_nil, Ev.wpS_cnt, Ev.wpS_brk, Ev.wpS_retN, Ev.wpS_asg, Ev.wpS_put, Ev.wpR_run, Ev.onRet_nx, Ev.onRet_rt, Ev.onNx_nx, Ev.onNx_ct, Ev.onNx_bk, Ev.onNx_rt, Ev.var_0, Ev.var_S, Ev.wpR_lc, Ev.wpS_for, Ev.e1, Ev.e2, Ev.eL, Ev.eC, Ev.aNil, Ev.aCons, Ev.bTest, Ev.bAnd, Ev.bOr, Ev.bNot, Ev.bTru, Ev.vAnd, Ev.vOr, Ev.vNot, Ev.eIf, Ev.bYes, Ev.eM, Ev.eSl, Ev.oNone, Ev.oSome, Ev.dnewW, Ev.startE, Ev.wipeE, List.map_cons, List.map_nil, List.length_cons, List.length_nil, List.replicate, List.cons_append, List.nil_append, Nat.reduceAdd, Nat.reduceSub, List.set_cons_zero, List.set_cons_succ, if_true, if_false, Ev.ifF, true_and, and_true, Bool.false_eq_true, Bool.not_true, Bool.not_false, reduceIte, Nat.zero_add, Ev.addW_ii, Ev.addW_tt, Ev.subW_ii, Ev.mulW_ii, Ev.modW_ii, Ev.fdivW_ii, Ev.powW_ii, Ev.negW_i, Ev.cmpI_ii, Ev.isW_n, Ev.isnW_n, Ev.isNon_n, Ev.isNon_b, Ev.isNon_i, Ev.isNon_s, Ev.isNon_t, Ev.isNon_l, Ev.max2W_ii, Ev.min2W_ii, Ev.intW_i, Ev.intW_b, Ev.lenW_t, Ev.lenW_r, Ev.wpR_ixT, Ev.wpR_ixR, Ev.wpR_ixS, Ev.listW_t, Ev.tupleW_t, Ev.truW_b, Ev.truW_n, Ev.truW_i, Ev.truW_t, Ev.eqW_ii, Ev.neW_ii, Ev.eqW_ss, Ev.neW_ss, Ev.eqW_bb, Ev.ixN_0, Ev.ixN_1, Ev.ixN_2, Ev.ixN_3, Ev.getE_set_self, Ev.wpR_rng1, Ev.wpR_seq, Ev.wpR_zip, Ev.isi_bb, Ev.isi_bs, Ev.isi_bi, Ev.isi_bt, Ev.isi_bl, Ev.isi_ib, Ev.isi_is, Ev.isi_ii, Ev.isi_it, Ev.isi_il, Ev.isi_sb, Ev.isi_ss, Ev.isi_si, Ev.isi_st, Ev.isi_sl, Ev.isi_tb, Ev.isi_ts, Ev.isi_ti, Ev.isi_tt, Ev.isi_tl, Ev.isi_nb, Ev.isi_ns, Ev.isi_ni, Ev.isi_nt, Ev.isi_nl, Ev.atI_0, Ev.atI_1, Ev.atI_2, Ev.atI_3, Ev.atI_4, Ev.tyOk_s, Ev.slW_to, Ev.slW_from, Ev.addW_SS, Int.toNat_natCast, Ev.tupW, Ev.lstW, Option.some.injEq, exists_eq_left', List.set_set, Option.map_some, W.int.injEq, W.str.injEq, W.loc.injEq, Nat.reduceLeDiff, and_self, Int.reduceLT, Int.reduceLE, Int.reduceNeg, Int.reduceToNat, Int.reduceAdd, Int.reduceMul, Int.reduceSub, decide_eq_true_eq]
    refine take_ok (by omega) st2 (by decide) fun at_ o h1 h2 st3 => ?_
    try simp (maxSteps := 500000) (implicitDefEqProofs := false) (disch := omega) only [Ev.wpR_ok, Ev.wpR_no, Ev.wpR_bind, Ev.wpR_ite, Ev.wpS_nx, Ev.wpS_rt, Ev.Kn_nx, Ev.Kn_rt, Ev.Kn_bk, Ev.Kn_ct, Ev.wpS_seq, Ev.wpS_ret, Ev.wpS_expr, Ev.wpS_set, Ev.wpS_ite, Ev.wpS_if, Ev.wpS_nil, Ev.wpS_cnt, Ev.wpS_brk, Ev.wpS_retN, Ev.wpS_asg, Ev.wpS_put, Ev.wpR_run, Ev.onRet_nx, Ev.onRet_rt, Ev.onNx_nx, Ev.onNx_ct, Ev.onNx_bk, Ev.onNx_rt, Ev.var_0, Ev.var_S, Ev.wpR_lc, Ev.wpS_for, Ev.e1, Ev.e2, Ev.eL, Ev.eC, Ev.aNil, Ev.aCons, Ev.bTest, Ev.bAnd, Ev.bOr, Ev.bNot, Ev.bTru, Ev.vAnd, Ev.vOr, Ev.vNot, Ev.eIf, Ev.bYes, Ev.eM, Ev.eSl, Ev.oNone, Ev.oSome, Ev.dnewW, Ev.startE, Ev.wipeE, List.map_cons, List.map_nil, List.length_cons, List.length_nil, List.replicate, List.cons_append, List.nil_append, Nat.reduceAdd, Nat.reduceSub, List.set_cons_zero, List.set_cons_succ, if_true, if_false, Ev.ifF, true_and, and_true, Bool.false_eq_true, Bool.not_true, Bool.not_false, reduceIte, Nat.zero_add, Ev.addW_ii, Ev.addW_tt, Ev.subW_ii, Ev.mulW_ii, Ev.modW_ii, Ev.fdivW_ii, Ev.powW_ii, Ev.negW_i, Ev.cmpI_ii, Ev.isW_n, Ev.isnW_n, Ev.isNon_n, Ev.isNon_b, Ev.isNon_i, Ev.isNon_s, Ev.isNon_t, Ev.isNon_l, Ev.max2W_ii, Ev.min2W_ii, Ev.intW_i, Ev.intW_b, Ev.lenW_t, Ev.lenW_r, Ev.wpR_ixT, Ev.wpR_ixR, Ev.wpR_ixS, Ev.listW_t, Ev.tupleW_t, Ev.truW_b, Ev.truW_n, Ev.truW_i, Ev.truW_t, Ev.eqW_ii, Ev.neW_ii, Ev.eqW_ss, Ev.neW_ss, Ev.eqW_bb, Ev.ixN_0, Ev.ixN_1, Ev.ixN_2, Ev.ixN_3, Ev.getE_set_self, Ev.wpR_rng1, Ev.wpR_seq, Ev.wpR_zip, Ev.isi_bb, Ev.isi_bs, Ev.isi_bi, Ev.isi_bt, Ev.isi_bl, Ev.isi_ib, Ev.isi_is, Ev.isi_ii, Ev.isi_it, Ev.isi_il, Ev.isi_sb, Ev.isi_ss, Ev.isi_si, Ev.isi_st, Ev.isi_sl, Ev.isi_tb, Ev.isi_ts, Ev.isi_ti, Ev.isi_tt, Ev.isi_tl, Ev.isi_nb, Ev.isi_ns, Ev.isi_ni, Ev.isi_nt, Ev.isi_nl, Ev.atI_0, Ev.atI_1, Ev.atI_2, Ev.atI_3, Ev.atI_4, Ev.tyOk_s, Ev.slW_to, Ev.slW_from, Ev.addW_SS, Int.toNat_natCast, Ev.tupW, Ev.lstW, Option.some.injEq, exists_eq_left', List.set_set, Option.map_some, W.int.injEq, W.str.injEq, W.loc.injEq, Nat.reduceLeDiff, and_self, Int.reduceLT, Int.reduceLE, Int.reduceNeg, Int.reduceToNat, Int.reduceAdd, Int.reduceMul, Int.reduceSub, decide_eq_true_eq]
    refine take_ok (by omega) st3 (by omega) fun way o' h3 h4 st4 => ?_
    try simp (maxSteps := 500000) (implicitDefEqProofs := false) (disch := omega) only [Ev.wpR_ok, Ev.wpR_no, Ev.wpR_bind, Ev.wpR_ite, Ev.wpS_nx, Ev.wpS_rt, Ev.Kn_nx, Ev.Kn_rt, Ev.Kn_bk, Ev.Kn_ct, Ev.wpS_seq, Ev.wpS_ret, Ev.wpS_expr, Ev.wpS_set, Ev.wpS_ite, Ev.wpS_if, Ev.wpS_nil, Ev.wpS_cnt, Ev.wpS_brk, Ev.wpS_retN, Ev.wpS_asg, Ev.wpS_put, Ev.wpR_run, Ev.onRet_nx, Ev.onRet_rt, Ev.onNx_nx, Ev.onNx_ct, Ev.onNx_bk, Ev.onNx_rt, Ev.var_0, Ev.var_S, Ev.wpR_lc, Ev.wpS_for, Ev.e1, Ev.e2, Ev.eL, Ev.eC, Ev.aNil, Ev.aCons, Ev.bTest, Ev.bAnd, Ev.bOr, Ev.bNot, Ev.bTru, Ev.vAnd, Ev.vOr, Ev.vNot, Ev.eIf, Ev.bYes, Ev.eM, Ev.eSl, Ev.oNone, Ev.oSome, Ev.dnewW, Ev.startE, Ev.wipeE, List.map_cons, List.map_nil, List.length_cons, List.length_nil, List.replicate, List.cons_append, List.nil_append, Nat.reduceAdd, Nat.reduceSub, List.set_cons_zero, List.set_cons_succ, if_true, if_false, Ev.ifF, true_and, and_true, Bool.false_eq_true, Bool.not_true, Bool.not_false, reduceIte, Nat.zero_add, Ev.addW_ii, Ev.addW_tt, Ev.subW_ii, Ev.mulW_ii, Ev.modW_ii, Ev.fdivW_ii, Ev.powW_ii, Ev.negW_i, Ev.cmpI_ii, Ev.isW_n, Ev.isnW_n, Ev.isNon_n, Ev.isNon_b, Ev.isNon_i, Ev.isNon_s, Ev.isNon_t, Ev.isNon_l, Ev.max2W_ii, Ev.min2W_ii, Ev.intW_i, Ev.intW_b, Ev.lenW_t, Ev.lenW_r, Ev.wpR_ixT, Ev.wpR_ixR, Ev.wpR_ixS, Ev.listW_t, Ev.tupleW_t, Ev.truW_b, Ev.truW_n, Ev.truW_i, Ev.truW_t, Ev.eqW_ii, Ev.neW_ii, Ev.eqW_ss, Ev.neW_ss, Ev.eqW_bb, Ev.ixN_0, Ev.ixN_1, Ev.ixN_2, Ev.ixN_3, Ev.getE_set_self, Ev.wpR_rng1, Ev.wpR_seq, Ev.wpR_zip, Ev.isi_bb, Ev.isi_bs, Ev.isi_bi, Ev.isi_bt, Ev.isi_bl, Ev.isi_ib, Ev.isi_is, Ev.isi_ii, Ev.isi_it, Ev.isi_il, Ev.isi_sb, Ev.isi_ss, Ev.isi_si, Ev.isi_st, Ev.isi_sl, Ev.isi_tb, Ev.isi_ts, Ev.isi_ti, Ev.isi_tt, Ev.isi_tl, Ev.isi_nb, Ev.isi_ns, Ev.isi_ni, Ev.isi_nt, Ev.isi_nl, Ev.atI_0, Ev.atI_1, Ev.atI_2, Ev.atI_3, Ev.atI_4, Ev.tyOk_s, Ev.slW_to, Ev.slW_from, Ev.addW_SS, Int.toNat_natCast, Ev.tupW, Ev.lstW, Option.some.injEq, exists_eq_left', List.set_set, Option.map_some, W.int.injEq, W.str.injEq, W.loc.injEq, Nat.reduceLeDiff, and_self, Int.reduceLT, Int.reduceLE, Int.reduceNeg, Int.reduceToNat, Int.reduceAdd, Int.reduceMul, Int.reduceSub, decide_eq_true_eq]
    rw [List.set_set] at st4
    have x4 := x2.trans (Xt.set (i := i) (o := o') (by simp))
    generalize S2.set i o' = S4 at *
    refine ⟨by omega, ?_⟩
    obtain ⟨a, rfl⟩ : ∃ a : Nat, at_ = a := ⟨at_.toNat, by omega⟩
    obtain ⟨wy, rfl⟩ : ∃ a : Nat, way = a := ⟨way.toNat, by omega⟩
    obtain ⟨idx, hidx⟩ := sindex_ok (hbL b[a] (List.getElem_mem (by omega)))
    have hba : atI b (a : Int) = some b[a] := Ev.atI_nat (List.getElem?_eq_getElem (by omega))
    refine wp_loop (len := many.toNat) (fun k s S5 => ∃ x8 x9 x10 p, s = [some (W.loc i), some (W.int many), some (W.str (SX.S L)), some (W.int ways), some (W.str (SX.S b)),
        some (W.int a), some (W.int wy), some (W.loc p), x8, x9, x10] ∧ Xt [i] S S5 ∧ Strm S5 i ∧ S.length ≤ p ∧ S5[p]? = some (.lst (((List.range k).map (wordAt L b idx a wy)).map fun w => .str (SX.S w)))) ?_ ?_ _ 0 _ _ (by omega) (by omega) ?_
    · rintro k s S5 hk ⟨x8, x9, x10, p, rfl, x5, st5, hp, ep⟩
      refine ⟨_, _, rng0_lt hk, rfl, ?_⟩
      try simp (maxSteps := 500000) (implicitDefEqProofs := false) (disch := omega) only [Ev.wpR_ok, Ev.wpR_no, Ev.wpR_bind, Ev.wpR_ite, Ev.wpS_nx, Ev.wpS_rt, Ev.Kn_nx, Ev.Kn_rt, Ev.Kn_bk, Ev.Kn_ct, Ev.wpS_seq, Ev.wpS_ret, Ev.wpS_expr, Ev.wpS_set, Ev.wpS_ite, Ev.wpS_if, Ev.wpS_nil, Ev.wpS_cnt, Ev.wpS_brk, Ev.wpS_retN, Ev.wpS_asg, Ev.wpS_put, Ev.wpR_run, Ev.onRet_nx, Ev.onRet_rt, Ev.onNx_nx, Ev.onNx_ct, Ev.onNx_bk, Ev.onNx_rt, Ev.var_0, Ev.var_S, Ev.wpR_lc, Ev.wpS_for, Ev.e1, Ev.e2, Ev.eL, Ev.eC, Ev.aNil, Ev.aCons, Ev.bTest, Ev.bAnd, Ev.bOr, Ev.bNot, Ev.bTru, Ev.vAnd, Ev.vOr, Ev.vNot, Ev.eIf, Ev.bYes, Ev.eM, Ev.eSl, Ev.oNone, Ev.oSome, Ev.dnewW, Ev.startE, Ev.wipeE, List.map_cons, List.map_nil, List.length_cons, List.length_nil, List.replicate, List.cons_append, List.nil_append, Nat.reduceAdd, Nat.reduceSub, List.set_cons_zero, List.set_cons_succ, if_true, if_false, Ev.ifF, true_and, and_true, Bool.false_eq_true, Bool.not_true, Bool.not_false, reduceIte, Nat.zero_add, Ev.addW_ii, Ev.addW_tt, Ev.subW_ii, Ev.mulW_ii, Ev.modW_ii, Ev.fdivW_ii, Ev.powW_ii, Ev.negW_i, Ev.cmpI_ii, Ev.isW_n, Ev.isnW_n, Ev.isNon_n, Ev.isNon_b, Ev.isNon_i, Ev.isNon_s, Ev.isNon_t, Ev.isNon_l, Ev.max2W_ii, Ev.min2W_ii, Ev.intW_i, Ev.intW_b, Ev.lenW_t, Ev.lenW_r, Ev.wpR_ixT, Ev.wpR_ixR, Ev.wpR_ixS, Ev.listW_t, Ev.tupleW_t, Ev.truW_b, Ev.truW_n, Ev.truW_i, Ev.truW_t, Ev.eqW_ii, Ev.neW_ii, Ev.eqW_ss, Ev.neW_ss, Ev.eqW_bb, Ev.ixN_0, Ev.ixN_1, Ev.ixN_2, Ev.ixN_3, Ev.getE_set_self, Ev.wpR_rng1, Ev.wpR_seq, Ev.wpR_zip, Ev.isi_bb, Ev.isi_bs, Ev.isi_bi, Ev.isi_bt, Ev.isi_bl, Ev.isi_ib, Ev.isi_is, Ev.isi_ii, Ev.isi_it, Ev.isi_il, Ev.isi_sb, Ev.isi_ss, Ev.isi_si, Ev.isi_st, Ev.isi_sl, Ev.isi_tb, Ev.isi_ts, Ev.isi_ti, Ev.isi_tt, Ev.isi_tl, Ev.isi_nb, Ev.isi_ns, Ev.isi_ni, Ev.isi_nt, Ev.isi_nl, Ev.atI_0, Ev.atI_1, Ev.atI_2, Ev.atI_3, Ev.atI_4, Ev.tyOk_s, Ev.slW_to, Ev.slW_from, Ev.addW_SS, Int.toNat_natCast, Ev.tupW, Ev.lstW, Option.some.injEq, exists_eq_left', List.set_set, Option.map_some, W.int.injEq, W.str.injEq, W.loc.injEq, Nat.reduceLeDiff, and_self, Int.reduceLT, Int.reduceLE, Int.reduceNeg, Int.reduceToNat, Int.reduceAdd, Int.reduceMul, Int.reduceSub, decide_eq_true_eq, hba, SX.S_len, h8, hidx]
      have hi : ((idx : Int) + 5 * k) % 26 = (((idx + 5 * k) % 26 : Nat) : Int) := by omega
      have hlt : (idx + 5 * k) % 26 < L.length := by omega
      have hpl : p < S5.length := lt_at ep
      refine ⟨cmul_l (by decide) (by decide), by omega, L[(idx + 5 * k) % 26], by rw [hi]; exact Ev.atI_nat (List.getElem?_eq_getElem hlt), ?_⟩
      refine ⟨by simp; omega, by simp; omega, cmul_l (by decide) (by decide), by simp; omega, tyOk_l (Xt.app (M := []) |>.get0 ep), ?_⟩
      rw [wpR_ixL at_new']
      have e1 : ((a : Int) + 1).toNat = a + 1 := by omega
      have e2 : ((3 * (k : Int) + a) % 8).toNat = (3 * k + a) % 8 := by omega
      have e3 : ((k : Int) % 8 + 1).toNat = k % 8 + 1 := by omega
      have e4 : (8 - (k : Int) % 8).toNat = 8 - k % 8 := by omega
      rw [e1, e2, e3, e4]
      refine ⟨.str (SX.S (wordAt L b idx a wy k)), ?_, ?_⟩
      · have hw : wy = 0 ∨ wy = 1 ∨ wy = 2 ∨ wy = 3 := by omega
        unfold wordAt
        rw [gD_at hlt]
        rcases hw with rfl | rfl | rfl | rfl
        · exact atI_0
        · exact atI_1
        · exact atI_2
        · exact atI_3
      · rw [appendW_l ((Xt.app (M := [])).get0 ep) (by simp; omega), wpR_ok]
        refine ⟨_, _, _, p, rfl, ?_, ?_, hp, ?_⟩
        · exact x5.appI.setN hp
        · exact st5.app.ne (by have := hs.lt; omega)
        · rw [at_set' (at_app ep)]
          simp [List.range_succ]
    · rintro s S5 ⟨x8, x9, x10, p, rfl, x5, st5, hp, ep⟩
      refine ⟨rng_end, ?_⟩
      try simp (maxSteps := 500000) (implicitDefEqProofs := false) (disch := omega) only [Ev.wpR_ok, Ev.wpR_no, Ev.wpR_bind, Ev.wpR_ite, Ev.wpS_nx, Ev.wpS_rt, Ev.Kn_nx, Ev.Kn_rt, Ev.Kn_bk, Ev.Kn_ct, Ev.wpS_seq, Ev.wpS_ret, Ev.wpS_expr, Ev.wpS_set, Ev.wpS_ite, Ev.wpS_if, Ev.wpS_nil, Ev.wpS_cnt, Ev.wpS_brk, Ev.wpS_retN, Ev.wpS_asg, Ev.wpS_put, Ev.wpR_run, Ev.onRet_nx, Ev.onRet_rt, Ev.onNx_nx, Ev.onNx_ct, Ev.onNx_bk, Ev.onNx_rt, Ev.var_0, Ev.var_S, Ev.wpR_lc, Ev.wpS_for, Ev.e1, Ev.e2, Ev.eL, Ev.eC, Ev.aNil, Ev.aCons, Ev.bTest, Ev.bAnd, Ev.bOr, Ev.bNot, Ev.bTru, Ev.vAnd, Ev.vOr, Ev.vNot, Ev.eIf, Ev.bYes, Ev.eM, Ev.eSl, Ev.oNone, Ev.oSome, Ev.dnewW, Ev.startE, Ev.wipeE, List.map_cons, List.map_nil, List.length_cons, List.length_nil, List.replicate, List.cons_append, List.nil_append, Nat.reduceAdd, Nat.reduceSub, List.set_cons_zero, List.set_cons_succ, if_true, if_false, Ev.ifF, true_and, and_true, Bool.false_eq_true, Bool.not_true, Bool.not_false, reduceIte, Nat.zero_add, Ev.addW_ii, Ev.addW_tt, Ev.subW_ii, Ev.mulW_ii, Ev.modW_ii, Ev.fdivW_ii, Ev.powW_ii, Ev.negW_i, Ev.cmpI_ii, Ev.isW_n, Ev.isnW_n, Ev.isNon_n, Ev.isNon_b, Ev.isNon_i, Ev.isNon_s, Ev.isNon_t, Ev.isNon_l, Ev.max2W_ii, Ev.min2W_ii, Ev.intW_i, Ev.intW_b, Ev.lenW_t, Ev.lenW_r, Ev.wpR_ixT, Ev.wpR_ixR, Ev.wpR_ixS, Ev.listW_t, Ev.tupleW_t, Ev.truW_b, Ev.truW_n, Ev.truW_i, Ev.truW_t, Ev.eqW_ii, Ev.neW_ii, Ev.eqW_ss, Ev.neW_ss, Ev.eqW_bb, Ev.ixN_0, Ev.ixN_1, Ev.ixN_2, Ev.ixN_3, Ev.getE_set_self, Ev.wpR_rng1, Ev.wpR_seq, Ev.wpR_zip, Ev.isi_bb, Ev.isi_bs, Ev.isi_bi, Ev.isi_bt, Ev.isi_bl, Ev.isi_ib, Ev.isi_is, Ev.isi_ii, Ev.isi_it, Ev.isi_il, Ev.isi_sb, Ev.isi_ss, Ev.isi_si, Ev.isi_st, Ev.isi_sl, Ev.isi_tb, Ev.isi_ts, Ev.isi_ti, Ev.isi_tt, Ev.isi_tl, Ev.isi_nb, Ev.isi_ns, Ev.isi_ni, Ev.isi_nt, Ev.isi_nl, Ev.atI_0, Ev.atI_1, Ev.atI_2, Ev.atI_3, Ev.atI_4, Ev.tyOk_s, Ev.slW_to, Ev.slW_from, Ev.addW_SS, Int.toNat_natCast, Ev.tupW, Ev.lstW, Option.some.injEq, exists_eq_left', List.set_set, Option.map_some, W.int.injEq, W.str.injEq, W.loc.injEq, Nat.reduceLeDiff, and_self, Int.reduceLT, Int.reduceLE, Int.reduceNeg, Int.reduceToNat, Int.reduceAdd, Int.reduceMul, Int.reduceSub, decide_eq_true_eq]
      refine h p _ S5 x5 hp st5 ep (by simp) ?_ ?_
      · refine List.pairwise_map.mpr (List.nodup_range.imp_of_mem fun hx hy hne e => hne (wordAt_inj (m := many.toNat) hL hd h8 (by omega) (by omega) (by omega) (List.mem_range.mp hx) (List.mem_range.mp hy) e))
      · intro w hw
        obtain ⟨k, _, rfl⟩ := List.mem_map.mp hw
        exact wordAt_ok hL h8 (by omega) hbL
    · refine ⟨_, _, _, _, rfl, x4.trans Xt.app, st4.app, x4.len, at_new'⟩
end Lw

set_option linter.all false
set_option maxRecDepth 100000
namespace Lw
open PySem L2 Ev
abbrev tx (l : List Nat) : W := .str (SX.S l)
/-- a shape -/
inductive Sh where
  | tags (ts : List (List Nat)) | pair (a b : List Nat)
def Sh.w : Sh → W
  | .tags ts => .tup [.str (Str.ofString "tags"), .tup (ts.map tx)]
  | .pair a b => .tup [.str (Str.ofString "pair"), tx a, tx b]
def Sh.d : Sh → PyData
  | .tags ts => .tuple [.str (Str.ofString "tags"), .tuple (ts.map fun t => .str (SX.S t))]
  | .pair a b => .tuple [.str (Str.ofString "pair"), .str (SX.S a), .str (SX.S b)]
theorem pd_strs {S : Sto} {n : Nat} : ∀ l : List (List Nat), (l.map tx).mapM (W.pd S (n + 1)) = some (l.map fun t => .str (SX.S t))
  | [] => rfl
  | a :: l => by rw [List.map_cons, mapM_cons, pd_strs l]; rfl
theorem pd_sh {S : Sto} {n : Nat} (s : Sh) : W.pd S (n + 3) s.w = some s.d := by
  cases s with
  | tags ts =>
    show ((([.str (Str.ofString "tags"), .tup (ts.map tx)] : List W).mapM (W.pd S (n + 2))).map PyData.tuple) = _
    rw [mapM_cons, mapM_cons]
    show (((some (PyData.str _)).bind fun b => (((((ts.map tx).mapM (W.pd S (n + 1))).map PyData.tuple).bind fun b => (some []).map fun r => b :: r).map fun r => b :: r)).map PyData.tuple) = _
    rw [pd_strs]; rfl
  | pair a b => rfl
theorem pd_shs {S : Sto} {n : Nat} : ∀ l : List Sh, (l.map Sh.w).mapM (W.pd S (n + 3)) = some (l.map Sh.d)
  | [] => rfl
  | a :: l => by rw [List.map_cons, mapM_cons, pd_sh, pd_shs l]; rfl
theorem pair_ok {n i p1 p2 p3 p5 : Nat} {top : Int} {nms : List (List Nat)} {shs : List Sh} {cs ds : List (W × W)} {cf df : List Nat → Int} {S : Sto} {Q : W → Sto → Prop} (hn : 3 ≤ n) (hs : Strm S i)
    (h1 : S[p1]? = some (.lst (nms.map tx))) (hne : nms ≠ []) (hlen : nms.length ≤ 1000) (h2 : S[p2]? = some (.dct cs)) (h3 : S[p3]? = some (.dct ds)) (h5 : S[p5]? = some (.lst (shs.map Sh.w)))
    (hc : ∀ a ∈ nms, dlook cs (.inr (SX.S a)) = some (.int (cf a)) ∧ 0 ≤ cf a ∧ cf a ≤ 1000) (hd : ∀ a ∈ nms, dlook ds (.inr (SX.S a)) = some (.int (df a))) (n1 : i ≠ p1) (n2 : i ≠ p2) (n3 : i ≠ p3) (n5 : i ≠ p5)
    (hq0 : ∀ S', Xt [i] S S' → S'.length = S.length → Strm S' i → Q .non S')
    (hq1 : ∀ a b S', Xt [i] S S' → S'.length = S.length → Strm S' i → a ∈ nms → b ∈ nms → 1 + (if df b > df a then df b else df a) ≤ 2 → 1 + cf a * cf b ≤ top → (∀ s ∈ shs, s ≠ .pair a b) → Q (Sh.w (.pair a b)) S') :
    wpR (call n .f_law_pair [.loc i, .loc p1, .loc p2, .loc p3, .loc p5, .int top] S) Q := by
  obtain ⟨n, rfl⟩ : ∃ m, n = m + 1 := ⟨n - 1, by omega⟩
  rw [call_s, body]
  have hpos : 0 < nms.length := List.length_pos_iff.mpr hne
  try simp (maxSteps := 500000) (implicitDefEqProofs := false) (disch := omega) only [Ev.wpR_ok, Ev.wpR_no, Ev.wpR_bind, Ev.wpR_ite, Ev.wpS_nx, Ev.wpS_rt, Ev.Kn_nx, Ev.Kn_rt, Ev.Kn_bk, Ev.Kn_ct, Ev.wpS_seq, Ev.wpS_ret, Ev.wpS_expr, Ev.wpS_set, Ev.wpS_ite, Ev.wpS_if, Ev.wpS_nil, Ev.wpS_cnt, Ev.wpS_brk, Ev.wpS_retN, Ev.wpS_asg, Ev.wpS_put, Ev.wpR_run, Ev.onRet_nx, Ev.onRet_rt, Ev.onNx_nx, Ev.onNx_ct, Ev.onNx_bk, Ev.onNx_rt, Ev.var_0, Ev.var_S, Ev.wpR_lc, Ev.wpS_for, Ev.e1, Ev.e2, Ev.eL, Ev.eC, Ev.aNil, Ev.aCons, Ev.bTest, Ev.bAnd, Ev.bOr, Ev.bNot, Ev.bTru, Ev.vAnd, Ev.vOr, Ev.vNot, Ev.eIf, Ev.bYes, Ev.eM, Ev.eSl, Ev.oNone, Ev.oSome, Ev.dnewW, Ev.startE, Ev.wipeE, List.map_cons, List.map_nil, List.length_cons, List.length_nil, List.replicate, List.cons_append, List.nil_append, Nat.reduceAdd, Nat.reduceSub, List.set_cons_zero, List.set_cons_succ, if_true, if_false, Ev.ifF, true_and, and_true, Bool.false_eq_true, Bool.not_true, Bool.not_false, reduceIte, Nat.zero_add, Ev.addW_ii, Ev.addW_tt, Ev.subW_ii, Ev.mulW_ii, Ev.modW_ii, Ev.fdivW_ii, Ev.powW_ii, Ev.negW_i, Ev.cmpI_ii, Ev.isW_n, Ev.isnW_n, Ev.isNon_n, Ev.isNon_b, Ev.isNon_i, Ev.isNon_s, Ev.isNon_t, Ev.isNon_l, Ev.max2W_ii, Ev.min2W_ii, Ev.intW_i, Ev.intW_b, Ev.lenW_t, Ev.lenW_r, Ev.wpR_ixT, Ev.wpR_ixR, Ev.wpR_ixS, Ev.listW_t, Ev.tupleW_t, Ev.truW_b, Ev.truW_n, Ev.truW_i, Ev.truW_t, Ev.eqW_ii, Ev.neW_ii, Ev.eqW_ss, Ev.neW_ss, Ev.eqW_bb, Ev.ixN_0, Ev.ixN_1, Ev.ixN_2, Ev.ixN_3, Ev.getE_set_self, Ev.wpR_rng1, Ev.wpR_seq, Ev.wpR_zip, Ev.isi_bb, Ev.isi_bs, Ev.isi_bi, Ev.isi_bt, Ev.isi_bl, Ev.isi_ib, Ev.isi_is, Ev.isi_ii, Ev.isi_it, Ev.isi_il, Ev.isi_sb, Ev.isi_ss, Ev.isi_si, Ev.isi_st, Ev.isi_sl, Ev.isi_tb, Ev.isi_ts, Ev.isi_ti, Ev.isi_tt, Ev.isi_tl, Ev.isi_nb, Ev.isi_ns, Ev.isi_ni, Ev.isi_nt, Ev.isi_nl, Ev.atI_0, Ev.atI_1, Ev.atI_2, Ev.atI_3, Ev.atI_4, Ev.tyOk_s, Ev.slW_to, Ev.slW_from, Ev.addW_SS, Int.toNat_natCast, Ev.tupW, Ev.lstW, Option.some.injEq, exists_eq_left', List.set_set, Option.map_some, W.int.injEq, W.str.injEq, W.loc.injEq, Nat.reduceLeDiff, and_self, Int.reduceLT, Int.reduceLE, Int.reduceNeg, Int.reduceToNat, Int.reduceAdd, Int.reduceMul, Int.reduceSub, decide_eq_true_eq, m_f_law_pair, lenW_l h1, List.length_map]
  refine take_ok (by omega) hs (by omega) fun z o h6 h7 st2 => ?_
  obtain ⟨a, rfl⟩ : ∃ a : Nat, z = a := ⟨z.toNat, by omega⟩
  have ha : a < nms.length := by omega
  try simp (maxSteps := 500000) (implicitDefEqProofs := false) (disch := omega) only [Ev.wpR_ok, Ev.wpR_no, Ev.wpR_bind, Ev.wpR_ite, Ev.wpS_nx, Ev.wpS_rt, Ev.Kn_nx, Ev.Kn_rt, Ev.Kn_bk, Ev.Kn_ct, Ev.wpS_seq, Ev.wpS_ret, Ev.wpS_expr, Ev.wpS_set, Ev.wpS_ite, Ev.wpS_if, Ev.wpS_nil, Ev.wpS_cnt, Ev.wpS_brk, Ev.wpS_retN, Ev.wpS_asg, Ev.wpS_put, Ev.wpR_run, Ev.onRet_nx, Ev.onRet_rt, Ev.onNx_nx, Ev.onNx_ct, Ev.onNx_bk, Ev.onNx_rt, Ev.var_0, Ev.var_S, Ev.wpR_lc, Ev.wpS_for, Ev.e1, Ev.e2, Ev.eL, Ev.eC, Ev.aNil, Ev.aCons, Ev.bTest, Ev.bAnd, Ev.bOr, Ev.bNot, Ev.bTru, Ev.vAnd, Ev.vOr, Ev.vNot, Ev.eIf, Ev.bYes, Ev.eM, Ev.eSl, Ev.oNone, Ev.oSome, Ev.dnewW, Ev.startE, Ev.wipeE, List.map_cons, List.map_nil, List.length_cons, List.length_nil, List.replicate, List.cons_append, List.nil_append, Nat.reduceAdd, Nat.reduceSub, List.set_cons_zero, List.set_cons_succ, if_true, if_false, Ev.ifF, true_and, and_true, Bool.false_eq_true, Bool.not_true, Bool.not_false, reduceIte, Nat.zero_add, Ev.addW_ii, Ev.addW_tt, Ev.subW_ii, Ev.mulW_ii, Ev.modW_ii, Ev.fdivW_ii, Ev.powW_ii, Ev.negW_i, Ev.cmpI_ii, Ev.isW_n, Ev.isnW_n, Ev.isNon_n, Ev.isNon_b, Ev.isNon_i, Ev.isNon_s, Ev.isNon_t, Ev.isNon_l, Ev.max2W_ii, Ev.min2W_ii, Ev.intW_i, Ev.intW_b, Ev.lenW_t, Ev.lenW_r, Ev.wpR_ixT, Ev.wpR_ixR, Ev.wpR_ixS, Ev.listW_t, Ev.tupleW_t, Ev.truW_b, Ev.truW_n, Ev.truW_i, Ev.truW_t, Ev.eqW_ii, Ev.neW_ii, Ev.eqW_ss, Ev.neW_ss, Ev.eqW_bb, Ev.ixN_0, Ev.ixN_1, Ev.ixN_2, Ev.ixN_3, Ev.getE_set_self, Ev.wpR_rng1, Ev.wpR_seq, Ev.wpR_zip, Ev.isi_bb, Ev.isi_bs, Ev.isi_bi, Ev.isi_bt, Ev.isi_bl, Ev.isi_ib, Ev.isi_is, Ev.isi_ii, Ev.isi_it, Ev.isi_il, Ev.isi_sb, Ev.isi_ss, Ev.isi_si, Ev.isi_st, Ev.isi_sl, Ev.isi_tb, Ev.isi_ts, Ev.isi_ti, Ev.isi_tt, Ev.isi_tl, Ev.isi_nb, Ev.isi_ns, Ev.isi_ni, Ev.isi_nt, Ev.isi_nl, Ev.atI_0, Ev.atI_1, Ev.atI_2, Ev.atI_3, Ev.atI_4, Ev.tyOk_s, Ev.slW_to, Ev.slW_from, Ev.addW_SS, Int.toNat_natCast, Ev.tupW, Ev.lstW, Option.some.injEq, exists_eq_left', List.set_set, Option.map_some, W.int.injEq, W.str.injEq, W.loc.injEq, Nat.reduceLeDiff, and_self, Int.reduceLT, Int.reduceLE, Int.reduceNeg, Int.reduceToNat, Int.reduceAdd, Int.reduceMul, Int.reduceSub, decide_eq_true_eq, wpR_ixL (at_ne h1 n1), lenW_l (at_ne h1 n1), List.length_map]
  refine ⟨tx nms[a], Ev.atI_nat (by rw [List.getElem?_map, List.getElem?_eq_getElem ha]; rfl), ?_⟩
  refine take_ok (by omega) st2 (by omega) fun z o h6 h7 st3 => ?_
  obtain ⟨b, rfl⟩ : ∃ a : Nat, z = a := ⟨z.toNat, by omega⟩
  have hb : b < nms.length := by omega
  rw [List.set_set] at st3 ⊢
  have ma := List.getElem_mem ha
  have mb := List.getElem_mem hb
  try simp (maxSteps := 500000) (implicitDefEqProofs := false) (disch := omega) only [Ev.wpR_ok, Ev.wpR_no, Ev.wpR_bind, Ev.wpR_ite, Ev.wpS_nx, Ev.wpS_rt, Ev.Kn_nx, Ev.Kn_rt, Ev.Kn_bk, Ev.Kn_ct, Ev.wpS_seq, Ev.wpS_ret, Ev.wpS_expr, Ev.wpS_set, Ev.wpS_ite, Ev.wpS_if, Ev.wpS_nil, Ev.wpS_cnt, Ev.wpS_brk, Ev.wpS_retN, Ev.wpS_asg, Ev.wpS_put, Ev.wpR_run, Ev.onRet_nx, Ev.onRet_rt, Ev.onNx_nx, Ev.onNx_ct, Ev.onNx_bk, Ev.onNx_rt, Ev.var_0, Ev.var_S, Ev.wpR_lc, Ev.wpS_for, Ev.e1, Ev.e2, Ev.eL, Ev.eC, Ev.aNil, Ev.aCons, Ev.bTest, Ev.bAnd, Ev.bOr, Ev.bNot, Ev.bTru, Ev.vAnd, Ev.vOr, Ev.vNot, Ev.eIf, Ev.bYes, Ev.eM, Ev.eSl, Ev.oNone, Ev.oSome, Ev.dnewW, Ev.startE, Ev.wipeE, List.map_cons, List.map_nil, List.length_cons, List.length_nil, List.replicate, List.cons_append, List.nil_append, Nat.reduceAdd, Nat.reduceSub, List.set_cons_zero, List.set_cons_succ, if_true, if_false, Ev.ifF, true_and, and_true, Bool.false_eq_true, Bool.not_true, Bool.not_false, reduceIte, Nat.zero_add, Ev.addW_ii, Ev.addW_tt, Ev.subW_ii, Ev.mulW_ii, Ev.modW_ii, Ev.fdivW_ii, Ev.powW_ii, Ev.negW_i, Ev.cmpI_ii, Ev.isW_n, Ev.isnW_n, Ev.isNon_n, Ev.isNon_b, Ev.isNon_i, Ev.isNon_s, Ev.isNon_t, Ev.isNon_l, Ev.max2W_ii, Ev.min2W_ii, Ev.intW_i, Ev.intW_b, Ev.lenW_t, Ev.lenW_r, Ev.wpR_ixT, Ev.wpR_ixR, Ev.wpR_ixS, Ev.listW_t, Ev.tupleW_t, Ev.truW_b, Ev.truW_n, Ev.truW_i, Ev.truW_t, Ev.eqW_ii, Ev.neW_ii, Ev.eqW_ss, Ev.neW_ss, Ev.eqW_bb, Ev.ixN_0, Ev.ixN_1, Ev.ixN_2, Ev.ixN_3, Ev.getE_set_self, Ev.wpR_rng1, Ev.wpR_seq, Ev.wpR_zip, Ev.isi_bb, Ev.isi_bs, Ev.isi_bi, Ev.isi_bt, Ev.isi_bl, Ev.isi_ib, Ev.isi_is, Ev.isi_ii, Ev.isi_it, Ev.isi_il, Ev.isi_sb, Ev.isi_ss, Ev.isi_si, Ev.isi_st, Ev.isi_sl, Ev.isi_tb, Ev.isi_ts, Ev.isi_ti, Ev.isi_tt, Ev.isi_tl, Ev.isi_nb, Ev.isi_ns, Ev.isi_ni, Ev.isi_nt, Ev.isi_nl, Ev.atI_0, Ev.atI_1, Ev.atI_2, Ev.atI_3, Ev.atI_4, Ev.tyOk_s, Ev.slW_to, Ev.slW_from, Ev.addW_SS, Int.toNat_natCast, Ev.tupW, Ev.lstW, Option.some.injEq, exists_eq_left', List.set_set, Option.map_some, W.int.injEq, W.str.injEq, W.loc.injEq, Nat.reduceLeDiff, and_self, Int.reduceLT, Int.reduceLE, Int.reduceNeg, Int.reduceToNat, Int.reduceAdd, Int.reduceMul, Int.reduceSub, decide_eq_true_eq, wpR_ixL (at_ne h1 n1)]
  refine ⟨tx nms[b], Ev.atI_nat (by rw [List.getElem?_map, List.getElem?_eq_getElem hb]; rfl), ?_⟩
  generalize nms[a] = A at *
  generalize nms[b] = B at *
  try simp (maxSteps := 500000) (implicitDefEqProofs := false) (disch := omega) only [Ev.wpR_ok, Ev.wpR_no, Ev.wpR_bind, Ev.wpR_ite, Ev.wpS_nx, Ev.wpS_rt, Ev.Kn_nx, Ev.Kn_rt, Ev.Kn_bk, Ev.Kn_ct, Ev.wpS_seq, Ev.wpS_ret, Ev.wpS_expr, Ev.wpS_set, Ev.wpS_ite, Ev.wpS_if, Ev.wpS_nil, Ev.wpS_cnt, Ev.wpS_brk, Ev.wpS_retN, Ev.wpS_asg, Ev.wpS_put, Ev.wpR_run, Ev.onRet_nx, Ev.onRet_rt, Ev.onNx_nx, Ev.onNx_ct, Ev.onNx_bk, Ev.onNx_rt, Ev.var_0, Ev.var_S, Ev.wpR_lc, Ev.wpS_for, Ev.e1, Ev.e2, Ev.eL, Ev.eC, Ev.aNil, Ev.aCons, Ev.bTest, Ev.bAnd, Ev.bOr, Ev.bNot, Ev.bTru, Ev.vAnd, Ev.vOr, Ev.vNot, Ev.eIf, Ev.bYes, Ev.eM, Ev.eSl, Ev.oNone, Ev.oSome, Ev.dnewW, Ev.startE, Ev.wipeE, List.map_cons, List.map_nil, List.length_cons, List.length_nil, List.replicate, List.cons_append, List.nil_append, Nat.reduceAdd, Nat.reduceSub, List.set_cons_zero, List.set_cons_succ, if_true, if_false, Ev.ifF, true_and, and_true, Bool.false_eq_true, Bool.not_true, Bool.not_false, reduceIte, Nat.zero_add, Ev.addW_ii, Ev.addW_tt, Ev.subW_ii, Ev.mulW_ii, Ev.modW_ii, Ev.fdivW_ii, Ev.powW_ii, Ev.negW_i, Ev.cmpI_ii, Ev.isW_n, Ev.isnW_n, Ev.isNon_n, Ev.isNon_b, Ev.isNon_i, Ev.isNon_s, Ev.isNon_t, Ev.isNon_l, Ev.max2W_ii, Ev.min2W_ii, Ev.intW_i, Ev.intW_b, Ev.lenW_t, Ev.lenW_r, Ev.wpR_ixT, Ev.wpR_ixR, Ev.wpR_ixS, Ev.listW_t, Ev.tupleW_t, Ev.truW_b, Ev.truW_n, Ev.truW_i, Ev.truW_t, Ev.eqW_ii, Ev.neW_ii, Ev.eqW_ss, Ev.neW_ss, Ev.eqW_bb, Ev.ixN_0, Ev.ixN_1, Ev.ixN_2, Ev.ixN_3, Ev.getE_set_self, Ev.wpR_rng1, Ev.wpR_seq, Ev.wpR_zip, Ev.isi_bb, Ev.isi_bs, Ev.isi_bi, Ev.isi_bt, Ev.isi_bl, Ev.isi_ib, Ev.isi_is, Ev.isi_ii, Ev.isi_it, Ev.isi_il, Ev.isi_sb, Ev.isi_ss, Ev.isi_si, Ev.isi_st, Ev.isi_sl, Ev.isi_tb, Ev.isi_ts, Ev.isi_ti, Ev.isi_tt, Ev.isi_tl, Ev.isi_nb, Ev.isi_ns, Ev.isi_ni, Ev.isi_nt, Ev.isi_nl, Ev.atI_0, Ev.atI_1, Ev.atI_2, Ev.atI_3, Ev.atI_4, Ev.tyOk_s, Ev.slW_to, Ev.slW_from, Ev.addW_SS, Int.toNat_natCast, Ev.tupW, Ev.lstW, Option.some.injEq, exists_eq_left', List.set_set, Option.map_some, W.int.injEq, W.str.injEq, W.loc.injEq, Nat.reduceLeDiff, and_self, Int.reduceLT, Int.reduceLE, Int.reduceNeg, Int.reduceToNat, Int.reduceAdd, Int.reduceMul, Int.reduceSub, decide_eq_true_eq, wpR_ixD (at_ne h3 n3) key_str, wpR_ixD (at_ne h2 n2) key_str, hd A ma, hd B mb, (hc A ma).1, (hc B mb).1]
  have hx : Xt [i] S (S.set i o) := Xt.set (by simp)
  have hin : inW (.tup [.str (Str.ofString "pair"), tx A, tx B]) (.loc p5) (S.set i o) = .ok (.bl ((shs.map Sh.d).any fun z => PyData.eqv z (Sh.d (.pair A B)))) (S.set i o) := by
    unfold inW inO
    dsimp only
    rw [at_ne h5 n5]
    dsimp only
    rw [show W.pd (S.set i o) 64 (.tup [.str (Str.ofString "pair"), tx A, tx B]) = some (Sh.d (.pair A B)) from pd_sh (n := 61) (.pair A B), pd_shs (n := 61)]
  have fin0 := hq0 _ hx (by simp) st3
  have cA := (hc A ma).2
  have cB := (hc B mb).2
  have fin1 := hq1 A B _ hx (by simp) st3 ma mb
  generalize (if df B > df A then df B else df A) = dd at *
  split
  · exact fin0
  · refine ⟨cmul_l (by omega) (by omega), ?_⟩
    split
    · exact fin0
    · rw [hin]
      try simp (maxSteps := 500000) (implicitDefEqProofs := false) (disch := omega) only [Ev.wpR_ok, Ev.wpR_no, Ev.wpR_bind, Ev.wpR_ite, Ev.wpS_nx, Ev.wpS_rt, Ev.Kn_nx, Ev.Kn_rt, Ev.Kn_bk, Ev.Kn_ct, Ev.wpS_seq, Ev.wpS_ret, Ev.wpS_expr, Ev.wpS_set, Ev.wpS_ite, Ev.wpS_if, Ev.wpS_nil, Ev.wpS_cnt, Ev.wpS_brk, Ev.wpS_retN, Ev.wpS_asg, Ev.wpS_put, Ev.wpR_run, Ev.onRet_nx, Ev.onRet_rt, Ev.onNx_nx, Ev.onNx_ct, Ev.onNx_bk, Ev.onNx_rt, Ev.var_0, Ev.var_S, Ev.wpR_lc, Ev.wpS_for, Ev.e1, Ev.e2, Ev.eL, Ev.eC, Ev.aNil, Ev.aCons, Ev.bTest, Ev.bAnd, Ev.bOr, Ev.bNot, Ev.bTru, Ev.vAnd, Ev.vOr, Ev.vNot, Ev.eIf, Ev.bYes, Ev.eM, Ev.eSl, Ev.oNone, Ev.oSome, Ev.dnewW, Ev.startE, Ev.wipeE, List.map_cons, List.map_nil, List.length_cons, List.length_nil, List.replicate, List.cons_append, List.nil_append, Nat.reduceAdd, Nat.reduceSub, List.set_cons_zero, List.set_cons_succ, if_true, if_false, Ev.ifF, true_and, and_true, Bool.false_eq_true, Bool.not_true, Bool.not_false, reduceIte, Nat.zero_add, Ev.addW_ii, Ev.addW_tt, Ev.subW_ii, Ev.mulW_ii, Ev.modW_ii, Ev.fdivW_ii, Ev.powW_ii, Ev.negW_i, Ev.cmpI_ii, Ev.isW_n, Ev.isnW_n, Ev.isNon_n, Ev.isNon_b, Ev.isNon_i, Ev.isNon_s, Ev.isNon_t, Ev.isNon_l, Ev.max2W_ii, Ev.min2W_ii, Ev.intW_i, Ev.intW_b, Ev.lenW_t, Ev.lenW_r, Ev.wpR_ixT, Ev.wpR_ixR, Ev.wpR_ixS, Ev.listW_t, Ev.tupleW_t, Ev.truW_b, Ev.truW_n, Ev.truW_i, Ev.truW_t, Ev.eqW_ii, Ev.neW_ii, Ev.eqW_ss, Ev.neW_ss, Ev.eqW_bb, Ev.ixN_0, Ev.ixN_1, Ev.ixN_2, Ev.ixN_3, Ev.getE_set_self, Ev.wpR_rng1, Ev.wpR_seq, Ev.wpR_zip, Ev.isi_bb, Ev.isi_bs, Ev.isi_bi, Ev.isi_bt, Ev.isi_bl, Ev.isi_ib, Ev.isi_is, Ev.isi_ii, Ev.isi_it, Ev.isi_il, Ev.isi_sb, Ev.isi_ss, Ev.isi_si, Ev.isi_st, Ev.isi_sl, Ev.isi_tb, Ev.isi_ts, Ev.isi_ti, Ev.isi_tt, Ev.isi_tl, Ev.isi_nb, Ev.isi_ns, Ev.isi_ni, Ev.isi_nt, Ev.isi_nl, Ev.atI_0, Ev.atI_1, Ev.atI_2, Ev.atI_3, Ev.atI_4, Ev.tyOk_s, Ev.slW_to, Ev.slW_from, Ev.addW_SS, Int.toNat_natCast, Ev.tupW, Ev.lstW, Option.some.injEq, exists_eq_left', List.set_set, Option.map_some, W.int.injEq, W.str.injEq, W.loc.injEq, Nat.reduceLeDiff, and_self, Int.reduceLT, Int.reduceLE, Int.reduceNeg, Int.reduceToNat, Int.reduceAdd, Int.reduceMul, Int.reduceSub, decide_eq_true_eq]
      split
      · exact fin0
      · rename_i hany
        refine fin1 (by omega) (by omega) fun s hs e => hany ?_
        rw [List.any_eq_true]
        refine ⟨s.d, List.mem_map_of_mem hs, ?_⟩
        rw [e]
        simp [Sh.d, PyData.eqv, PyData.eqvAll]
end Lw

set_option linter.all false
set_option maxRecDepth 100000
namespace Lw
open PySem L2 Ev
/-- a kind told -/
structure Kd where
  nm : List Nat
  sh : Sh
  cnt : Int
  dep : Int
def Kd.w (k : Kd) : W := .tup [tx k.nm, k.sh.w]
def Sh.ts : Sh → List (List Nat)
  | .tags ts => ts
  | .pair _ _ => []
def WordOf (L w : List Nat) : Prop := 1 ≤ w.length ∧ w.length ≤ 8 ∧ ∀ c ∈ w, c ∈ L
/-- kinds as they are drawn -/
inductive KOk (L1 L2 : List Nat) (top : Int) : List Kd → Prop
  | nil : KOk L1 L2 top []
  | tags {ks : List Kd} {nm : List Nat} {ts : List (List Nat)} (h : KOk L1 L2 top ks) (hw : WordOf L1 nm) (hn : nm ∉ ks.map Kd.nm) (h1 : 1 ≤ ts.length) (h4 : ts.length ≤ 4) (hd : ts.Nodup) (ht : ∀ t ∈ ts, WordOf L2 t) (hf : ∀ k ∈ ks, ∀ t ∈ k.sh.ts, t ∉ ts) : KOk L1 L2 top (ks ++ [⟨nm, .tags ts, 1 + (ts.length : Int), 0⟩])
  | pair {ks : List Kd} {nm : List Nat} {a b : Kd} (h : KOk L1 L2 top ks) (hw : WordOf L1 nm) (hn : nm ∉ ks.map Kd.nm) (ha : a ∈ ks) (hb : b ∈ ks) (h2 : 1 + (if b.dep > a.dep then b.dep else a.dep) ≤ 2) (ht : 1 + a.cnt * b.cnt ≤ top) (hf : ∀ k ∈ ks, k.sh ≠ .pair a.nm b.nm) : KOk L1 L2 top (ks ++ [⟨nm, .pair a.nm b.nm, 1 + a.cnt * b.cnt, 1 + (if b.dep > a.dep then b.dep else a.dep)⟩])
theorem KOk.nd {L1 L2 : List Nat} {top : Int} {ks : List Kd} (h : KOk L1 L2 top ks) : (ks.map Kd.nm).Nodup := by
  induction h with
  | nil => exact List.nodup_nil
  | tags h hw hn _ _ _ _ _ ih =>
    rw [List.map_append]
    exact List.nodup_append.mpr ⟨ih, by simp, fun a ha b hb e => by subst e; rw [List.map_singleton, List.mem_singleton] at hb; subst hb; exact hn ha⟩
  | pair h hw hn _ _ _ _ _ ih =>
    rw [List.map_append]
    exact List.nodup_append.mpr ⟨ih, by simp, fun a ha b hb e => by subst e; rw [List.map_singleton, List.mem_singleton] at hb; subst hb; exact hn ha⟩
theorem KOk.cnt {L1 L2 : List Nat} {top : Int} {ks : List Kd} (h : KOk L1 L2 top ks) : ∀ k ∈ ks, 2 ≤ k.cnt ∧ (k.cnt ≤ 5 ∨ k.cnt ≤ top) := by
  induction h with
  | nil => intro k h; cases h
  | tags h hw hn h1 h4 _ _ _ ih =>
    intro k hk
    rcases List.mem_append.mp hk with hk | hk
    · exact ih k hk
    · obtain rfl := List.mem_singleton.mp hk
      exact ⟨by show (2 : Int) ≤ 1 + _; omega, .inl (by show 1 + _ ≤ (5 : Int); omega)⟩
  | @pair ks nm a b h hw hn ha hb _ ht _ ih =>
    intro k hk
    rcases List.mem_append.mp hk with hk | hk
    · exact ih k hk
    · obtain rfl := List.mem_singleton.mp hk
      have h1 := (ih a ha).1
      have h2 := (ih b hb).1
      have : 2 * 2 ≤ a.cnt * b.cnt := Int.mul_le_mul h1 h2 (by decide) (by omega)
      exact ⟨by show (2 : Int) ≤ 1 + _; omega, .inr ht⟩
abbrev cntD (ks : List Kd) : List (W × W) := ks.map fun k => (.str (SX.S k.nm), .int k.cnt)
abbrev depD (ks : List Kd) : List (W × W) := ks.map fun k => (.str (SX.S k.nm), .int k.dep)
abbrev alphaL : List Nat := [97, 98, 99, 100, 101, 102, 103, 104, 105, 106, 107, 108, 109, 110, 111, 112, 113, 114, 115, 116, 117, 118, 119, 120, 121, 122]
abbrev alphaU : List Nat := [65, 66, 67, 68, 69, 70, 71, 72, 73, 74, 75, 76, 77, 78, 79, 80, 81, 82, 83, 84, 85, 86, 87, 88, 89, 90]
theorem alphaL_eq : Str.ofString "abcdefghijklmnopqrstuvwxyz" = SX.S alphaL := by rfl
theorem alphaU_eq : Str.ofString "ABCDEFGHIJKLMNOPQRSTUVWXYZ" = SX.S alphaU := by rfl
theorem alphaL_nd : alphaL.Nodup := by decide
theorem alphaU_nd : alphaU.Nodup := by decide
theorem small_ok {n i : Nat} {many : Int} {S : Sto} {Q : W → Sto → Prop} (hn : 4 ≤ n) (hs : Strm S i) (hm : 0 ≤ many ∧ many ≤ 8)
    (h : ∀ (p : Nat) (wds : List (List Nat)) (S' : Sto), Xt [i] S S' → S.length ≤ p → Strm S' i → S'[p]? = some (.lst (wds.map tx)) → wds.length = many.toNat → wds.Nodup → (∀ w ∈ wds, WordOf alphaL w) → Q (.loc p) S') :
    wpR (call n .f_law_small [.loc i, .int many] S) Q := by
  obtain ⟨n, rfl⟩ : ∃ m, n = m + 1 := ⟨n - 1, by omega⟩
  rw [call_s, body]
  try simp (maxSteps := 500000) (implicitDefEqProofs := false) (disch := omega) only [Ev.wpR_ok, Ev.wpR_no, Ev.wpR_bind, Ev.wpR_ite, Ev.wpS_nx, Ev.wpS_rt, Ev.Kn_nx, Ev.Kn_rt, Ev.Kn_bk, Ev.Kn_ct, Ev.wpS_seq, Ev.wpS_ret, Ev.wpS_expr, Ev.wpS_set, Ev.wpS_ite, Ev.wpS_if, Ev.wpS_nil, Ev.wpS_cnt, Ev.wpS_brk, Ev.wpS_retN, Ev.wpS_asg, Ev.wpS_put, Ev.wpR_run, Ev.onRet_nx, Ev.onRet_rt, Ev.onNx_nx, Ev.onNx_ct, Ev.onNx_bk, Ev.onNx_rt, Ev.var_0, Ev.var_S, Ev.wpR_lc, Ev.wpS_for, Ev.e1, Ev.e2, Ev.eL, Ev.eC, Ev.aNil, Ev.aCons, Ev.bTest, Ev.bAnd, Ev.bOr, Ev.bNot, Ev.bTru, Ev.vAnd, Ev.vOr, Ev.vNot, Ev.eIf, Ev.bYes, Ev.eM, Ev.eSl, Ev.oNone, Ev.oSome, Ev.dnewW, Ev.startE, Ev.wipeE, List.map_cons, List.map_nil, List.length_cons, List.length_nil, List.replicate, List.cons_append, List.nil_append, Nat.reduceAdd, Nat.reduceSub, List.set_cons_zero, List.set_cons_succ, if_true, if_false, Ev.ifF, true_and, and_true, Bool.false_eq_true, Bool.not_true, Bool.not_false, reduceIte, Nat.zero_add, Ev.addW_ii, Ev.addW_tt, Ev.subW_ii, Ev.mulW_ii, Ev.modW_ii, Ev.fdivW_ii, Ev.powW_ii, Ev.negW_i, Ev.cmpI_ii, Ev.isW_n, Ev.isnW_n, Ev.isNon_n, Ev.isNon_b, Ev.isNon_i, Ev.isNon_s, Ev.isNon_t, Ev.isNon_l, Ev.max2W_ii, Ev.min2W_ii, Ev.intW_i, Ev.intW_b, Ev.lenW_t, Ev.lenW_r, Ev.wpR_ixT, Ev.wpR_ixR, Ev.wpR_ixS, Ev.listW_t, Ev.tupleW_t, Ev.truW_b, Ev.truW_n, Ev.truW_i, Ev.truW_t, Ev.eqW_ii, Ev.neW_ii, Ev.eqW_ss, Ev.neW_ss, Ev.eqW_bb, Ev.ixN_0, Ev.ixN_1, Ev.ixN_2, Ev.ixN_3, Ev.getE_set_self, Ev.wpR_rng1, Ev.wpR_seq, Ev.wpR_zip, Ev.isi_bb, Ev.isi_bs, Ev.isi_bi, Ev.isi_bt, Ev.isi_bl, Ev.isi_ib, Ev.isi_is, Ev.isi_ii, Ev.isi_it, Ev.isi_il, Ev.isi_sb, Ev.isi_ss, Ev.isi_si, Ev.isi_st, Ev.isi_sl, Ev.isi_tb, Ev.isi_ts, Ev.isi_ti, Ev.isi_tt, Ev.isi_tl, Ev.isi_nb, Ev.isi_ns, Ev.isi_ni, Ev.isi_nt, Ev.isi_nl, Ev.atI_0, Ev.atI_1, Ev.atI_2, Ev.atI_3, Ev.atI_4, Ev.tyOk_s, Ev.slW_to, Ev.slW_from, Ev.addW_SS, Int.toNat_natCast, Ev.tupW, Ev.lstW, Option.some.injEq, exists_eq_left', List.set_set, Option.map_some, W.int.injEq, W.str.injEq, W.loc.injEq, Nat.reduceLeDiff, and_self, Int.reduceLT, Int.reduceLE, Int.reduceNeg, Int.reduceToNat, Int.reduceAdd, Int.reduceMul, Int.reduceSub, decide_eq_true_eq, m_f_law_small, alphaL_eq]
  exact words_ok (by omega) hs rfl alphaL_nd hm.1 (by decide) (.inl hm.2) h
theorem nmS_nd {ks : List Kd} (h : (ks.map Kd.nm).Nodup) : (ks.map fun k => SX.S k.nm).Nodup := by
  rw [show (ks.map fun k => SX.S k.nm) = (ks.map Kd.nm).map SX.S by simp]
  exact List.pairwise_map.mpr (h.imp fun hne e => hne (SX.S_inj e))
def kdAt (ks : List Kd) (a : List Nat) : Kd := (ks.find? fun k => decide (k.nm = a)).getD ⟨[], .pair [] [], 0, 0⟩
theorem kdAt_of : ∀ {ks : List Kd} {k : Kd}, (ks.map Kd.nm).Nodup → k ∈ ks → kdAt ks k.nm = k
  | b :: ks, k, hn, h => by
    rw [List.map_cons, List.nodup_cons] at hn
    unfold kdAt
    by_cases e : b.nm = k.nm
    · rcases List.mem_cons.mp h with rfl | h
      · rw [List.find?_cons_of_pos (by simp)]; rfl
      · exact absurd (List.mem_map.mpr ⟨k, h, e.symm⟩) hn.1
    · rw [List.find?_cons_of_neg (by simp [e])]
      rcases List.mem_cons.mp h with rfl | h
      · exact absurd rfl e
      · exact kdAt_of hn.2 h
theorem cnt_at {ks : List Kd} {k : Kd} (hn : (ks.map Kd.nm).Nodup) (h : k ∈ ks) : dlook (cntD ks) (.inr (SX.S k.nm)) = some (.int k.cnt) := dlook_some (f := fun k : Kd => SX.S k.nm) (g := fun k => .int k.cnt) h (nmS_nd hn)
theorem dep_at {ks : List Kd} {k : Kd} (hn : (ks.map Kd.nm).Nodup) (h : k ∈ ks) : dlook (depD ks) (.inr (SX.S k.nm)) = some (.int k.dep) := dlook_some (f := fun k : Kd => SX.S k.nm) (g := fun k => .int k.dep) h (nmS_nd hn)
theorem nmS_not {ks : List Kd} {nm : List Nat} (h : nm ∉ ks.map Kd.nm) : SX.S nm ∉ ks.map fun k => SX.S k.nm := by
  intro hm
  obtain ⟨k, hk, e⟩ := List.mem_map.mp hm
  exact h (List.mem_map.mpr ⟨k, hk, SX.S_inj e⟩)
theorem put_cnt {ks : List Kd} {nm : List Nat} {w : W} (h : nm ∉ ks.map Kd.nm) : dput (cntD ks) (tx nm) (.inr (SX.S nm)) w = cntD ks ++ [(tx nm, w)] := dput_none (dlook_none (f := fun k : Kd => SX.S k.nm) (g := fun k => .int k.cnt) (nmS_not h))
theorem put_dep {ks : List Kd} {nm : List Nat} {w : W} (h : nm ∉ ks.map Kd.nm) : dput (depD ks) (tx nm) (.inr (SX.S nm)) w = depD ks ++ [(tx nm, w)] := dput_none (dlook_none (f := fun k : Kd => SX.S k.nm) (g := fun k => .int k.dep) (nmS_not h))
/-- the loop's facts -/
structure KI (S0 : Sto) (i p1 p2 p3 p4 p5 : Nat) (top : Int) (nms tgs : List (List Nat)) (ks : List Kd) (S : Sto) : Prop where
  x : Xt [i] S0 S
  st : Strm S i
  a1 : S[p1]? = some (.lst (nms.map tx))
  a2 : S[p2]? = some (.lst (tgs.map tx))
  a3 : S[p3]? = some (.dct (cntD ks))
  a4 : S[p4]? = some (.dct (depD ks))
  a5 : S[p5]? = some (.lst (ks.map Kd.w))
  ok : KOk alphaL alphaU top ks
  nm : ks.map Kd.nm = nms.take ks.length
  tg : ∀ k ∈ ks, ∀ t ∈ k.sh.ts, t ∈ tgs.take (4 * ks.length)
/-- the places are apart -/
structure Ap (S0 : Sto) (i p1 p2 p3 p4 p5 : Nat) : Prop where
  i1 : i ≠ p1
  i2 : i ≠ p2
  i3 : i ≠ p3
  i4 : i ≠ p4
  i5 : i ≠ p5
  j12 : p1 ≠ p2
  j13 : p1 ≠ p3
  j14 : p1 ≠ p4
  j15 : p1 ≠ p5
  j23 : p2 ≠ p3
  j24 : p2 ≠ p4
  j25 : p2 ≠ p5
  j34 : p3 ≠ p4
  j35 : p3 ≠ p5
  j45 : p4 ≠ p5
  k3 : S0.length ≤ p3
  k4 : S0.length ≤ p4
  k5 : S0.length ≤ p5
theorem KI.strm {S0 S : Sto} {i p1 p2 p3 p4 p5 : Nat} {top : Int} {nms tgs : List (List Nat)} {ks : List Kd} (h : KI S0 i p1 p2 p3 p4 p5 top nms tgs ks S) (a : Ap S0 i p1 p2 p3 p4 p5) {S' : Sto} (x : Xt [i] S S') (st : Strm S' i) : KI S0 i p1 p2 p3 p4 p5 top nms tgs ks S' :=
  ⟨h.x.trans x, st, x.get h.a1 (by simpa using a.i1.symm), x.get h.a2 (by simpa using a.i2.symm), x.get h.a3 (by simpa using a.i3.symm), x.get h.a4 (by simpa using a.i4.symm), x.get h.a5 (by simpa using a.i5.symm), h.ok, h.nm, h.tg⟩
theorem KI.push {S0 S : Sto} {i p1 p2 p3 p4 p5 : Nat} {top : Int} {nms tgs : List (List Nat)} {ks : List Kd} (h : KI S0 i p1 p2 p3 p4 p5 top nms tgs ks S) (a : Ap S0 i p1 p2 p3 p4 p5) {k : Kd} (hk : nms[ks.length]? = some k.nm) (ok : KOk alphaL alphaU top (ks ++ [k])) (ht : ∀ t ∈ k.sh.ts, t ∈ tgs.take (4 * (ks.length + 1))) :
    KI S0 i p1 p2 p3 p4 p5 top nms tgs (ks ++ [k]) (((S.set p3 (.dct (cntD ks ++ [(tx k.nm, .int k.cnt)]))).set p4 (.dct (depD ks ++ [(tx k.nm, .int k.dep)]))).set p5 (.lst (ks.map Kd.w ++ [k.w]))) where
  x := ((h.x.setN a.k3).setN a.k4).setN a.k5
  st := ((h.st.ne a.i3.symm).ne a.i4.symm).ne a.i5.symm
  a1 := at_ne (at_ne (at_ne h.a1 a.j13.symm) a.j14.symm) a.j15.symm
  a2 := at_ne (at_ne (at_ne h.a2 a.j23.symm) a.j24.symm) a.j25.symm
  a3 := by rw [at_ne (at_ne (at_set' h.a3) a.j34.symm) a.j35.symm]; simp [cntD]
  a4 := by rw [at_ne (at_set' (at_ne h.a4 a.j34)) a.j45.symm]; simp [depD]
  a5 := by rw [at_set' (at_ne (at_ne h.a5 a.j35) a.j45)]; simp
  ok := ok
  nm := by rw [List.map_append, h.nm, List.length_append, List.length_singleton, List.take_succ, hk]; rfl
  tg := by
    rw [List.length_append, List.length_singleton]
    intro k' hk' t ht'
    rcases List.mem_append.mp hk' with hk' | hk'
    · have := h.tg k' hk' t ht'
      exact (List.take_sublist_take_left (by omega)).subset this
    · obtain rfl := List.mem_singleton.mp hk'
      exact ht t ht'
/-- what a new shape may be -/
def NewSh (top : Int) (ks : List Kd) (w : W) : Prop := w = .non ∨ ∃ a b, a ∈ ks ∧ b ∈ ks ∧ 1 + (if b.dep > a.dep then b.dep else a.dep) ≤ 2 ∧ 1 + a.cnt * b.cnt ≤ top ∧ (∀ k ∈ ks, k.sh ≠ .pair a.nm b.nm) ∧ w = Sh.w (.pair a.nm b.nm)
theorem kinds_ok {n i : Nat} {most top : Int} {S : Sto} {Q : W → Sto → Prop} (hn : 5 ≤ n) (hs : Strm S i) (hm : 1 ≤ most ∧ most ≤ 6) (ht : top ≤ 1000)
    (h : ∀ (ks : List Kd) (S' : Sto) (p p' : Nat), Xt [i] S S' → Strm S' i → S.length ≤ p → S.length ≤ p' → ks ≠ [] → (ks.length : Int) ≤ most → KOk alphaL alphaU top ks → S'[p]? = some (.lst (ks.map Kd.w)) → S'[p']? = some (.dct (cntD ks)) → Q (.tup [.loc p, .loc p']) S') :
    wpR (call n .f_law_kinds [.loc i, .int most, .int top] S) Q := by
  obtain ⟨n, rfl⟩ : ∃ m, n = m + 1 := ⟨n - 1, by omega⟩
  have hiS := hs.lt
  rw [call_s, body]
  try simp (maxSteps := 500000) (implicitDefEqProofs := false) (disch := omega) only [Ev.wpR_ok, Ev.wpR_no, Ev.wpR_bind, Ev.wpR_ite, Ev.wpS_nx, Ev.wpS_rt, Ev.Kn_nx, Ev.Kn_rt, Ev.Kn_bk, Ev.Kn_ct, Ev.wpS_seq, Ev.wpS_ret, Ev.wpS_expr, Ev.wpS_set, Ev.wpS_ite, Ev.wpS_if, Ev.wpS_nil, Ev.wpS_cnt, Ev.wpS_brk, Ev.wpS_retN, Ev.wpS_asg, Ev.wpS_put, Ev.wpR_run, Ev.onRet_nx, Ev.onRet_rt, Ev.onNx_nx, Ev.onNx_ct, Ev.onNx_bk, Ev.onNx_rt, Ev.var_0, Ev.var_S, Ev.wpR_lc, Ev.wpS_for, Ev.e1, Ev.e2, Ev.eL, Ev.eC, Ev.aNil, Ev.aCons, Ev.bTest, Ev.bAnd, Ev.bOr, Ev.bNot, Ev.bTru, Ev.vAnd, Ev.vOr, Ev.vNot, Ev.eIf, Ev.bYes, Ev.eM, Ev.eSl, Ev.oNone, Ev.oSome, Ev.dnewW, Ev.startE, Ev.wipeE, List.map_cons, List.map_nil, List.length_cons, List.length_nil, List.replicate, List.cons_append, List.nil_append, Nat.reduceAdd, Nat.reduceSub, List.set_cons_zero, List.set_cons_succ, if_true, if_false, Ev.ifF, true_and, and_true, Bool.false_eq_true, Bool.not_true, Bool.not_false, reduceIte, Nat.zero_add, Ev.addW_ii, Ev.addW_tt, Ev.subW_ii, Ev.mulW_ii, Ev.modW_ii, Ev.fdivW_ii, Ev.powW_ii, Ev.negW_i, Ev.cmpI_ii, Ev.isW_n, Ev.isnW_n, Ev.isNon_n, Ev.isNon_b, Ev.isNon_i, Ev.isNon_s, Ev.isNon_t, Ev.isNon_l, Ev.max2W_ii, Ev.min2W_ii, Ev.intW_i, Ev.intW_b, Ev.lenW_t, Ev.lenW_r, Ev.wpR_ixT, Ev.wpR_ixR, Ev.wpR_ixS, Ev.listW_t, Ev.tupleW_t, Ev.truW_b, Ev.truW_n, Ev.truW_i, Ev.truW_t, Ev.eqW_ii, Ev.neW_ii, Ev.eqW_ss, Ev.neW_ss, Ev.eqW_bb, Ev.ixN_0, Ev.ixN_1, Ev.ixN_2, Ev.ixN_3, Ev.getE_set_self, Ev.wpR_rng1, Ev.wpR_seq, Ev.wpR_zip, Ev.isi_bb, Ev.isi_bs, Ev.isi_bi, Ev.isi_bt, Ev.isi_bl, Ev.isi_ib, Ev.isi_is, Ev.isi_ii, Ev.isi_it, Ev.isi_il, Ev.isi_sb, Ev.isi_ss, Ev.isi_si, Ev.isi_st, Ev.isi_sl, Ev.isi_tb, Ev.isi_ts, Ev.isi_ti, Ev.isi_tt, Ev.isi_tl, Ev.isi_nb, Ev.isi_ns, Ev.isi_ni, Ev.isi_nt, Ev.isi_nl, Ev.atI_0, Ev.atI_1, Ev.atI_2, Ev.atI_3, Ev.atI_4, Ev.tyOk_s, Ev.slW_to, Ev.slW_from, Ev.addW_SS, Int.toNat_natCast, Ev.tupW, Ev.lstW, Option.some.injEq, exists_eq_left', List.set_set, Option.map_some, W.int.injEq, W.str.injEq, W.loc.injEq, Nat.reduceLeDiff, and_self, Int.reduceLT, Int.reduceLE, Int.reduceNeg, Int.reduceToNat, Int.reduceAdd, Int.reduceMul, Int.reduceSub, decide_eq_true_eq, m_f_law_kinds]
  refine take_ok (by omega) hs (by omega) fun z o h1 h2 st1 => ?_
  try simp (maxSteps := 500000) (implicitDefEqProofs := false) (disch := omega) only [Ev.wpR_ok, Ev.wpR_no, Ev.wpR_bind, Ev.wpR_ite, Ev.wpS_nx, Ev.wpS_rt, Ev.Kn_nx, Ev.Kn_rt, Ev.Kn_bk, Ev.Kn_ct, Ev.wpS_seq, Ev.wpS_ret, Ev.wpS_expr, Ev.wpS_set, Ev.wpS_ite, Ev.wpS_if, Ev.wpS_nil, Ev.wpS_cnt, Ev.wpS_brk, Ev.wpS_retN, Ev.wpS_asg, Ev.wpS_put, Ev.wpR_run, Ev.onRet_nx, Ev.onRet_rt, Ev.onNx_nx, Ev.onNx_ct, Ev.onNx_bk, Ev.onNx_rt, Ev.var_0, Ev.var_S, Ev.wpR_lc, Ev.wpS_for, Ev.e1, Ev.e2, Ev.eL, Ev.eC, Ev.aNil, Ev.aCons, Ev.bTest, Ev.bAnd, Ev.bOr, Ev.bNot, Ev.bTru, Ev.vAnd, Ev.vOr, Ev.vNot, Ev.eIf, Ev.bYes, Ev.eM, Ev.eSl, Ev.oNone, Ev.oSome, Ev.dnewW, Ev.startE, Ev.wipeE, List.map_cons, List.map_nil, List.length_cons, List.length_nil, List.replicate, List.cons_append, List.nil_append, Nat.reduceAdd, Nat.reduceSub, List.set_cons_zero, List.set_cons_succ, if_true, if_false, Ev.ifF, true_and, and_true, Bool.false_eq_true, Bool.not_true, Bool.not_false, reduceIte, Nat.zero_add, Ev.addW_ii, Ev.addW_tt, Ev.subW_ii, Ev.mulW_ii, Ev.modW_ii, Ev.fdivW_ii, Ev.powW_ii, Ev.negW_i, Ev.cmpI_ii, Ev.isW_n, Ev.isnW_n, Ev.isNon_n, Ev.isNon_b, Ev.isNon_i, Ev.isNon_s, Ev.isNon_t, Ev.isNon_l, Ev.max2W_ii, Ev.min2W_ii, Ev.intW_i, Ev.intW_b, Ev.lenW_t, Ev.lenW_r, Ev.wpR_ixT, Ev.wpR_ixR, Ev.wpR_ixS, Ev.listW_t, Ev.tupleW_t, Ev.truW_b, Ev.truW_n, Ev.truW_i, Ev.truW_t, Ev.eqW_ii, Ev.neW_ii, Ev.eqW_ss, Ev.neW_ss, Ev.eqW_bb, Ev.ixN_0, Ev.ixN_1, Ev.ixN_2, Ev.ixN_3, Ev.getE_set_self, Ev.wpR_rng1, Ev.wpR_seq, Ev.wpR_zip, Ev.isi_bb, Ev.isi_bs, Ev.isi_bi, Ev.isi_bt, Ev.isi_bl, Ev.isi_ib, Ev.isi_is, Ev.isi_ii, Ev.isi_it, Ev.isi_il, Ev.isi_sb, Ev.isi_ss, Ev.isi_si, Ev.isi_st, Ev.isi_sl, Ev.isi_tb, Ev.isi_ts, Ev.isi_ti, Ev.isi_tt, Ev.isi_tl, Ev.isi_nb, Ev.isi_ns, Ev.isi_ni, Ev.isi_nt, Ev.isi_nl, Ev.atI_0, Ev.atI_1, Ev.atI_2, Ev.atI_3, Ev.atI_4, Ev.tyOk_s, Ev.slW_to, Ev.slW_from, Ev.addW_SS, Int.toNat_natCast, Ev.tupW, Ev.lstW, Option.some.injEq, exists_eq_left', List.set_set, Option.map_some, W.int.injEq, W.str.injEq, W.loc.injEq, Nat.reduceLeDiff, and_self, Int.reduceLT, Int.reduceLE, Int.reduceNeg, Int.reduceToNat, Int.reduceAdd, Int.reduceMul, Int.reduceSub, decide_eq_true_eq]
  refine small_ok (by omega) st1 (by omega) fun p1 nms S1 x1 l1 st2 e1 hl1 nd1 wo1 => ?_
  have x1' : Xt [i] S S1 := (Xt.set (by simp)).trans x1
  have l1' : S.length ≤ p1 := by simpa using l1
  clear x1 l1 st1
  try simp (maxSteps := 500000) (implicitDefEqProofs := false) (disch := omega) only [Ev.wpR_ok, Ev.wpR_no, Ev.wpR_bind, Ev.wpR_ite, Ev.wpS_nx, Ev.wpS_rt, Ev.Kn_nx, Ev.Kn_rt, Ev.Kn_bk, Ev.Kn_ct, Ev.wpS_seq, Ev.wpS_ret, Ev.wpS_expr, Ev.wpS_set, Ev.wpS_ite, Ev.wpS_if, Ev.wpS_nil, Ev.wpS_cnt, Ev.wpS_brk, Ev.wpS_retN, Ev.wpS_asg, Ev.wpS_put, Ev.wpR_run, Ev.onRet_nx, Ev.onRet_rt, Ev.onNx_nx, Ev.onNx_ct, Ev.onNx_bk, Ev.onNx_rt, Ev.var_0, Ev.var_S, Ev.wpR_lc, Ev.wpS_for, Ev.e1, Ev.e2, Ev.eL, Ev.eC, Ev.aNil, Ev.aCons, Ev.bTest, Ev.bAnd, Ev.bOr, Ev.bNot, Ev.bTru, Ev.vAnd, Ev.vOr, Ev.vNot, Ev.eIf, Ev.bYes, Ev.eM, Ev.eSl, Ev.oNone, Ev.oSome, Ev.dnewW, Ev.startE, Ev.wipeE, List.map_cons, List.map_nil, List.length_cons, List.length_nil, List.replicate, List.cons_append, List.nil_append, Nat.reduceAdd, Nat.reduceSub, List.set_cons_zero, List.set_cons_succ, if_true, if_false, Ev.ifF, true_and, and_true, Bool.false_eq_true, Bool.not_true, Bool.not_false, reduceIte, Nat.zero_add, Ev.addW_ii, Ev.addW_tt, Ev.subW_ii, Ev.mulW_ii, Ev.modW_ii, Ev.fdivW_ii, Ev.powW_ii, Ev.negW_i, Ev.cmpI_ii, Ev.isW_n, Ev.isnW_n, Ev.isNon_n, Ev.isNon_b, Ev.isNon_i, Ev.isNon_s, Ev.isNon_t, Ev.isNon_l, Ev.max2W_ii, Ev.min2W_ii, Ev.intW_i, Ev.intW_b, Ev.lenW_t, Ev.lenW_r, Ev.wpR_ixT, Ev.wpR_ixR, Ev.wpR_ixS, Ev.listW_t, Ev.tupleW_t, Ev.truW_b, Ev.truW_n, Ev.truW_i, Ev.truW_t, Ev.eqW_ii, Ev.neW_ii, Ev.eqW_ss, Ev.neW_ss, Ev.eqW_bb, Ev.ixN_0, Ev.ixN_1, Ev.ixN_2, Ev.ixN_3, Ev.getE_set_self, Ev.wpR_rng1, Ev.wpR_seq, Ev.wpR_zip, Ev.isi_bb, Ev.isi_bs, Ev.isi_bi, Ev.isi_bt, Ev.isi_bl, Ev.isi_ib, Ev.isi_is, Ev.isi_ii, Ev.isi_it, Ev.isi_il, Ev.isi_sb, Ev.isi_ss, Ev.isi_si, Ev.isi_st, Ev.isi_sl, Ev.isi_tb, Ev.isi_ts, Ev.isi_ti, Ev.isi_tt, Ev.isi_tl, Ev.isi_nb, Ev.isi_ns, Ev.isi_ni, Ev.isi_nt, Ev.isi_nl, Ev.atI_0, Ev.atI_1, Ev.atI_2, Ev.atI_3, Ev.atI_4, Ev.tyOk_s, Ev.slW_to, Ev.slW_from, Ev.addW_SS, Int.toNat_natCast, Ev.tupW, Ev.lstW, Option.some.injEq, exists_eq_left', List.set_set, Option.map_some, W.int.injEq, W.str.injEq, W.loc.injEq, Nat.reduceLeDiff, and_self, Int.reduceLT, Int.reduceLE, Int.reduceNeg, Int.reduceToNat, Int.reduceAdd, Int.reduceMul, Int.reduceSub, decide_eq_true_eq, lenW_l e1, List.length_map, alphaU_eq]
  refine ⟨cmul_l (by decide) (by decide), ?_⟩
  refine words_ok (by omega) st2 rfl alphaU_nd (by omega) (by decide) (.inr (by omega)) fun p2 tgs S2 x2 l2 st3 e2' hl2 nd2 wo2 => ?_
  have e1' : S2[p1]? = some (.lst (nms.map tx)) := x2.get e1 (by simp; omega)
  have hp12 : p1 < p2 := by have := lt_at e1; omega
  have hl2' : tgs.length = 4 * nms.length := by omega
  have hnl : 1 ≤ nms.length ∧ (nms.length : Int) ≤ most := by omega
  have x2' := x1'.trans x2
  have hp2 := lt_at e2'
  clear x2 l2 e1 st2 x1'
  try simp (maxSteps := 500000) (implicitDefEqProofs := false) (disch := omega) only [Ev.wpR_ok, Ev.wpR_no, Ev.wpR_bind, Ev.wpR_ite, Ev.wpS_nx, Ev.wpS_rt, Ev.Kn_nx, Ev.Kn_rt, Ev.Kn_bk, Ev.Kn_ct, Ev.wpS_seq, Ev.wpS_ret, Ev.wpS_expr, Ev.wpS_set, Ev.wpS_ite, Ev.wpS_if, Ev.wpS_nil, Ev.wpS_cnt, Ev.wpS_brk, Ev.wpS_retN, Ev.wpS_asg, Ev.wpS_put, Ev.wpR_run, Ev.onRet_nx, Ev.onRet_rt, Ev.onNx_nx, Ev.onNx_ct, Ev.onNx_bk, Ev.onNx_rt, Ev.var_0, Ev.var_S, Ev.wpR_lc, Ev.wpS_for, Ev.e1, Ev.e2, Ev.eL, Ev.eC, Ev.aNil, Ev.aCons, Ev.bTest, Ev.bAnd, Ev.bOr, Ev.bNot, Ev.bTru, Ev.vAnd, Ev.vOr, Ev.vNot, Ev.eIf, Ev.bYes, Ev.eM, Ev.eSl, Ev.oNone, Ev.oSome, Ev.dnewW, Ev.startE, Ev.wipeE, List.map_cons, List.map_nil, List.length_cons, List.length_nil, List.replicate, List.cons_append, List.nil_append, Nat.reduceAdd, Nat.reduceSub, List.set_cons_zero, List.set_cons_succ, if_true, if_false, Ev.ifF, true_and, and_true, Bool.false_eq_true, Bool.not_true, Bool.not_false, reduceIte, Nat.zero_add, Ev.addW_ii, Ev.addW_tt, Ev.subW_ii, Ev.mulW_ii, Ev.modW_ii, Ev.fdivW_ii, Ev.powW_ii, Ev.negW_i, Ev.cmpI_ii, Ev.isW_n, Ev.isnW_n, Ev.isNon_n, Ev.isNon_b, Ev.isNon_i, Ev.isNon_s, Ev.isNon_t, Ev.isNon_l, Ev.max2W_ii, Ev.min2W_ii, Ev.intW_i, Ev.intW_b, Ev.lenW_t, Ev.lenW_r, Ev.wpR_ixT, Ev.wpR_ixR, Ev.wpR_ixS, Ev.listW_t, Ev.tupleW_t, Ev.truW_b, Ev.truW_n, Ev.truW_i, Ev.truW_t, Ev.eqW_ii, Ev.neW_ii, Ev.eqW_ss, Ev.neW_ss, Ev.eqW_bb, Ev.ixN_0, Ev.ixN_1, Ev.ixN_2, Ev.ixN_3, Ev.getE_set_self, Ev.wpR_rng1, Ev.wpR_seq, Ev.wpR_zip, Ev.isi_bb, Ev.isi_bs, Ev.isi_bi, Ev.isi_bt, Ev.isi_bl, Ev.isi_ib, Ev.isi_is, Ev.isi_ii, Ev.isi_it, Ev.isi_il, Ev.isi_sb, Ev.isi_ss, Ev.isi_si, Ev.isi_st, Ev.isi_sl, Ev.isi_tb, Ev.isi_ts, Ev.isi_ti, Ev.isi_tt, Ev.isi_tl, Ev.isi_nb, Ev.isi_ns, Ev.isi_ni, Ev.isi_nt, Ev.isi_nl, Ev.atI_0, Ev.atI_1, Ev.atI_2, Ev.atI_3, Ev.atI_4, Ev.tyOk_s, Ev.slW_to, Ev.slW_from, Ev.addW_SS, Int.toNat_natCast, Ev.tupW, Ev.lstW, Option.some.injEq, exists_eq_left', List.set_set, Option.map_some, W.int.injEq, W.str.injEq, W.loc.injEq, Nat.reduceLeDiff, and_self, Int.reduceLT, Int.reduceLE, Int.reduceNeg, Int.reduceToNat, Int.reduceAdd, Int.reduceMul, Int.reduceSub, decide_eq_true_eq, lenW_l (at_app (at_app (at_app e1'))), List.length_map]
  refine ⟨by omega, ?_⟩
  have ap : Ap S i p1 p2 S2.length (S2.length + 1) (S2.length + 2) := by
    have := x2'.len
    constructor <;> omega
  refine wp_loopN nms.length (fun k s S5 => ∃ x8 x9 x10 ks, s = [some (W.loc i), some (W.int most), some (W.int top), some (W.loc p1), some (W.loc p2), some (W.loc S2.length), some (W.loc (S2.length + 1)), some (W.loc (S2.length + 2)), x8, x9, x10] ∧ ks.length = k ∧ KI S i p1 p2 S2.length (S2.length + 1) (S2.length + 2) top nms tgs ks S5) (by omega) ?_ ?_ ?_
  · refine ⟨none, none, none, [], by simp, rfl, ?_⟩
    exact ⟨((x2'.appI).appI).appI, ((st3.app).app).app, at_app (at_app (at_app e1')), at_app (at_app (at_app e2')), at_app (at_app at_new'), at_app (by simp), by simp, .nil, rfl, fun k h => by cases h⟩
  · generalize S2.length = p3 at *
    rintro k s S5 hk ⟨x8, x9, x10, ks, rfl, hks, I⟩
    refine ⟨_, _, rng0_lt hk, rfl, ?_⟩
    have hcnt := I.ok.cnt
    have nd := I.ok.nd
    have hnk : nms[k]? = some nms[k] := List.getElem?_eq_getElem hk
    have hnew : nms[k] ∉ ks.map Kd.nm := by
      rw [I.nm, hks]
      intro hm
      obtain ⟨j, hj, e⟩ := List.mem_take_iff_getElem.mp hm
      have := (List.getElem_inj nd1).mp e
      omega
    have hwd := wo1 _ (List.getElem_mem hk)
    rw [wpS_seq, wpS_set]
    simp only [eC, wpR_ok, Kn_nx, List.set_cons_succ, List.set_cons_zero]
    rw [wpS_seq]
    refine wpS_mono (Q := fun r => ∃ w9 x10 S6, r = .nx [some (W.loc i), some (W.int most), some (W.int top), some (W.loc p1), some (W.loc p2), some (W.loc p3), some (W.loc (p3 + 1)), some (W.loc (p3 + 2)), some (.int k), some w9, x10] S6 ∧ KI S i p1 p2 p3 (p3 + 1) (p3 + 2) top nms tgs ks S6 ∧ NewSh top ks w9) ?_ ?_
    · by_cases k0 : k = 0
      · subst k0
        try simp (maxSteps := 500000) (implicitDefEqProofs := false) (disch := omega) only [Ev.wpR_ok, Ev.wpR_no, Ev.wpR_bind, Ev.wpR_ite, Ev.wpS_nx, Ev.wpS_rt, Ev.Kn_nx, Ev.Kn_rt, Ev.Kn_bk, Ev.Kn_ct, Ev.wpS_seq, Ev.wpS_ret, Ev.wpS_expr, Ev.wpS_set, Ev.wpS_ite, Ev.wpS_if, Ev.wpS_nil, Ev.wpS_cnt, Ev.wpS_brk, Ev.wpS_retN, Ev.wpS_asg, Ev.wpS_put, Ev.wpR_run, Ev.onRet_nx, Ev.onRet_rt, Ev.onNx_nx, Ev.onNx_ct, Ev.onNx_bk, Ev.onNx_rt, Ev.var_0, Ev.var_S, Ev.wpR_lc, Ev.wpS_for, Ev.e1, Ev.e2, Ev.eL, Ev.eC, Ev.aNil, Ev.aCons, Ev.bTest, Ev.bAnd, Ev.bOr, Ev.bNot, Ev.bTru, Ev.vAnd, Ev.vOr, Ev.vNot, Ev.eIf, Ev.bYes, Ev.eM, Ev.eSl, Ev.oNone, Ev.oSome, Ev.dnewW, Ev.startE, Ev.wipeE, List.map_cons, List.map_nil, List.length_cons, List.length_nil, List.replicate, List.cons_append, List.nil_append, Nat.reduceAdd, Nat.reduceSub, List.set_cons_zero, List.set_cons_succ, if_true, if_false, Ev.ifF, true_and, and_true, Bool.false_eq_true, Bool.not_true, Bool.not_false, reduceIte, Nat.zero_add, Ev.addW_ii, Ev.addW_tt, Ev.subW_ii, Ev.mulW_ii, Ev.modW_ii, Ev.fdivW_ii, Ev.powW_ii, Ev.negW_i, Ev.cmpI_ii, Ev.isW_n, Ev.isnW_n, Ev.isNon_n, Ev.isNon_b, Ev.isNon_i, Ev.isNon_s, Ev.isNon_t, Ev.isNon_l, Ev.max2W_ii, Ev.min2W_ii, Ev.intW_i, Ev.intW_b, Ev.lenW_t, Ev.lenW_r, Ev.wpR_ixT, Ev.wpR_ixR, Ev.wpR_ixS, Ev.listW_t, Ev.tupleW_t, Ev.truW_b, Ev.truW_n, Ev.truW_i, Ev.truW_t, Ev.eqW_ii, Ev.neW_ii, Ev.eqW_ss, Ev.neW_ss, Ev.eqW_bb, Ev.ixN_0, Ev.ixN_1, Ev.ixN_2, Ev.ixN_3, Ev.getE_set_self, Ev.wpR_rng1, Ev.wpR_seq, Ev.wpR_zip, Ev.isi_bb, Ev.isi_bs, Ev.isi_bi, Ev.isi_bt, Ev.isi_bl, Ev.isi_ib, Ev.isi_is, Ev.isi_ii, Ev.isi_it, Ev.isi_il, Ev.isi_sb, Ev.isi_ss, Ev.isi_si, Ev.isi_st, Ev.isi_sl, Ev.isi_tb, Ev.isi_ts, Ev.isi_ti, Ev.isi_tt, Ev.isi_tl, Ev.isi_nb, Ev.isi_ns, Ev.isi_ni, Ev.isi_nt, Ev.isi_nl, Ev.atI_0, Ev.atI_1, Ev.atI_2, Ev.atI_3, Ev.atI_4, Ev.tyOk_s, Ev.slW_to, Ev.slW_from, Ev.addW_SS, Int.toNat_natCast, Ev.tupW, Ev.lstW, Option.some.injEq, exists_eq_left', List.set_set, Option.map_some, W.int.injEq, W.str.injEq, W.loc.injEq, Nat.reduceLeDiff, and_self, Int.reduceLT, Int.reduceLE, Int.reduceNeg, Int.reduceToNat, Int.reduceAdd, Int.reduceMul, Int.reduceSub, decide_eq_true_eq]
        rw [if_neg (by decide)]
        exact ⟨_, _, _, rfl, I, .inl rfl⟩
      · try simp (maxSteps := 500000) (implicitDefEqProofs := false) (disch := omega) only [Ev.wpR_ok, Ev.wpR_no, Ev.wpR_bind, Ev.wpR_ite, Ev.wpS_nx, Ev.wpS_rt, Ev.Kn_nx, Ev.Kn_rt, Ev.Kn_bk, Ev.Kn_ct, Ev.wpS_seq, Ev.wpS_ret, Ev.wpS_expr, Ev.wpS_set, Ev.wpS_ite, Ev.wpS_if, Ev.wpS_nil, Ev.wpS_cnt, Ev.wpS_brk, Ev.wpS_retN, Ev.wpS_asg, Ev.wpS_put, Ev.wpR_run, Ev.onRet_nx, Ev.onRet_rt, Ev.onNx_nx, Ev.onNx_ct, Ev.onNx_bk, Ev.onNx_rt, Ev.var_0, Ev.var_S, Ev.wpR_lc, Ev.wpS_for, Ev.e1, Ev.e2, Ev.eL, Ev.eC, Ev.aNil, Ev.aCons, Ev.bTest, Ev.bAnd, Ev.bOr, Ev.bNot, Ev.bTru, Ev.vAnd, Ev.vOr, Ev.vNot, Ev.eIf, Ev.bYes, Ev.eM, Ev.eSl, Ev.oNone, Ev.oSome, Ev.dnewW, Ev.startE, Ev.wipeE, List.map_cons, List.map_nil, List.length_cons, List.length_nil, List.replicate, List.cons_append, List.nil_append, Nat.reduceAdd, Nat.reduceSub, List.set_cons_zero, List.set_cons_succ, if_true, if_false, Ev.ifF, true_and, and_true, Bool.false_eq_true, Bool.not_true, Bool.not_false, reduceIte, Nat.zero_add, Ev.addW_ii, Ev.addW_tt, Ev.subW_ii, Ev.mulW_ii, Ev.modW_ii, Ev.fdivW_ii, Ev.powW_ii, Ev.negW_i, Ev.cmpI_ii, Ev.isW_n, Ev.isnW_n, Ev.isNon_n, Ev.isNon_b, Ev.isNon_i, Ev.isNon_s, Ev.isNon_t, Ev.isNon_l, Ev.max2W_ii, Ev.min2W_ii, Ev.intW_i, Ev.intW_b, Ev.lenW_t, Ev.lenW_r, Ev.wpR_ixT, Ev.wpR_ixR, Ev.wpR_ixS, Ev.listW_t, Ev.tupleW_t, Ev.truW_b, Ev.truW_n, Ev.truW_i, Ev.truW_t, Ev.eqW_ii, Ev.neW_ii, Ev.eqW_ss, Ev.neW_ss, Ev.eqW_bb, Ev.ixN_0, Ev.ixN_1, Ev.ixN_2, Ev.ixN_3, Ev.getE_set_self, Ev.wpR_rng1, Ev.wpR_seq, Ev.wpR_zip, Ev.isi_bb, Ev.isi_bs, Ev.isi_bi, Ev.isi_bt, Ev.isi_bl, Ev.isi_ib, Ev.isi_is, Ev.isi_ii, Ev.isi_it, Ev.isi_il, Ev.isi_sb, Ev.isi_ss, Ev.isi_si, Ev.isi_st, Ev.isi_sl, Ev.isi_tb, Ev.isi_ts, Ev.isi_ti, Ev.isi_tt, Ev.isi_tl, Ev.isi_nb, Ev.isi_ns, Ev.isi_ni, Ev.isi_nt, Ev.isi_nl, Ev.atI_0, Ev.atI_1, Ev.atI_2, Ev.atI_3, Ev.atI_4, Ev.tyOk_s, Ev.slW_to, Ev.slW_from, Ev.addW_SS, Int.toNat_natCast, Ev.tupW, Ev.lstW, Option.some.injEq, exists_eq_left', List.set_set, Option.map_some, W.int.injEq, W.str.injEq, W.loc.injEq, Nat.reduceLeDiff, and_self, Int.reduceLT, Int.reduceLE, Int.reduceNeg, Int.reduceToNat, Int.reduceAdd, Int.reduceMul, Int.reduceSub, decide_eq_true_eq]
        rw [if_pos (by omega)]
        try simp (maxSteps := 500000) (implicitDefEqProofs := false) (disch := omega) only [Ev.wpR_ok, Ev.wpR_no, Ev.wpR_bind, Ev.wpR_ite, Ev.wpS_nx, Ev.wpS_rt, Ev.Kn_nx, Ev.Kn_rt, Ev.Kn_bk, Ev.Kn_ct, Ev.wpS_seq, Ev.wpS_ret, Ev.wpS_expr, Ev.wpS_set, Ev.wpS_ite, Ev.wpS_if, Ev.wpS_nil, Ev.wpS_cnt, Ev.wpS_brk, Ev.wpS_retN, Ev.wpS_asg, Ev.wpS_put, Ev.wpR_run, Ev.onRet_nx, Ev.onRet_rt, Ev.onNx_nx, Ev.onNx_ct, Ev.onNx_bk, Ev.onNx_rt, Ev.var_0, Ev.var_S, Ev.wpR_lc, Ev.wpS_for, Ev.e1, Ev.e2, Ev.eL, Ev.eC, Ev.aNil, Ev.aCons, Ev.bTest, Ev.bAnd, Ev.bOr, Ev.bNot, Ev.bTru, Ev.vAnd, Ev.vOr, Ev.vNot, Ev.eIf, Ev.bYes, Ev.eM, Ev.eSl, Ev.oNone, Ev.oSome, Ev.dnewW, Ev.startE, Ev.wipeE, List.map_cons, List.map_nil, List.length_cons, List.length_nil, List.replicate, List.cons_append, List.nil_append, Nat.reduceAdd, Nat.reduceSub, List.set_cons_zero, List.set_cons_succ, if_true, if_false, Ev.ifF, true_and, and_true, Bool.false_eq_true, Bool.not_true, Bool.not_false, reduceIte, Nat.zero_add, Ev.addW_ii, Ev.addW_tt, Ev.subW_ii, Ev.mulW_ii, Ev.modW_ii, Ev.fdivW_ii, Ev.powW_ii, Ev.negW_i, Ev.cmpI_ii, Ev.isW_n, Ev.isnW_n, Ev.isNon_n, Ev.isNon_b, Ev.isNon_i, Ev.isNon_s, Ev.isNon_t, Ev.isNon_l, Ev.max2W_ii, Ev.min2W_ii, Ev.intW_i, Ev.intW_b, Ev.lenW_t, Ev.lenW_r, Ev.wpR_ixT, Ev.wpR_ixR, Ev.wpR_ixS, Ev.listW_t, Ev.tupleW_t, Ev.truW_b, Ev.truW_n, Ev.truW_i, Ev.truW_t, Ev.eqW_ii, Ev.neW_ii, Ev.eqW_ss, Ev.neW_ss, Ev.eqW_bb, Ev.ixN_0, Ev.ixN_1, Ev.ixN_2, Ev.ixN_3, Ev.getE_set_self, Ev.wpR_rng1, Ev.wpR_seq, Ev.wpR_zip, Ev.isi_bb, Ev.isi_bs, Ev.isi_bi, Ev.isi_bt, Ev.isi_bl, Ev.isi_ib, Ev.isi_is, Ev.isi_ii, Ev.isi_it, Ev.isi_il, Ev.isi_sb, Ev.isi_ss, Ev.isi_si, Ev.isi_st, Ev.isi_sl, Ev.isi_tb, Ev.isi_ts, Ev.isi_ti, Ev.isi_tt, Ev.isi_tl, Ev.isi_nb, Ev.isi_ns, Ev.isi_ni, Ev.isi_nt, Ev.isi_nl, Ev.atI_0, Ev.atI_1, Ev.atI_2, Ev.atI_3, Ev.atI_4, Ev.tyOk_s, Ev.slW_to, Ev.slW_from, Ev.addW_SS, Int.toNat_natCast, Ev.tupW, Ev.lstW, Option.some.injEq, exists_eq_left', List.set_set, Option.map_some, W.int.injEq, W.str.injEq, W.loc.injEq, Nat.reduceLeDiff, and_self, Int.reduceLT, Int.reduceLE, Int.reduceNeg, Int.reduceToNat, Int.reduceAdd, Int.reduceMul, Int.reduceSub, decide_eq_true_eq]
        refine take_ok (by omega) I.st (by decide) fun z o h1 h2 st4 => ?_
        have I2 := I.strm ap (Xt.set (by simp)) st4
        generalize S5.set i o = S6 at *
        try simp (maxSteps := 500000) (implicitDefEqProofs := false) (disch := omega) only [Ev.wpR_ok, Ev.wpR_no, Ev.wpR_bind, Ev.wpR_ite, Ev.wpS_nx, Ev.wpS_rt, Ev.Kn_nx, Ev.Kn_rt, Ev.Kn_bk, Ev.Kn_ct, Ev.wpS_seq, Ev.wpS_ret, Ev.wpS_expr, Ev.wpS_set, Ev.wpS_ite, Ev.wpS_if, Ev.wpS_nil, Ev.wpS_cnt, Ev.wpS_brk, Ev.wpS_retN, Ev.wpS_asg, Ev.wpS_put, Ev.wpR_run, Ev.onRet_nx, Ev.onRet_rt, Ev.onNx_nx, Ev.onNx_ct, Ev.onNx_bk, Ev.onNx_rt, Ev.var_0, Ev.var_S, Ev.wpR_lc, Ev.wpS_for, Ev.e1, Ev.e2, Ev.eL, Ev.eC, Ev.aNil, Ev.aCons, Ev.bTest, Ev.bAnd, Ev.bOr, Ev.bNot, Ev.bTru, Ev.vAnd, Ev.vOr, Ev.vNot, Ev.eIf, Ev.bYes, Ev.eM, Ev.eSl, Ev.oNone, Ev.oSome, Ev.dnewW, Ev.startE, Ev.wipeE, List.map_cons, List.map_nil, List.length_cons, List.length_nil, List.replicate, List.cons_append, List.nil_append, Nat.reduceAdd, Nat.reduceSub, List.set_cons_zero, List.set_cons_succ, if_true, if_false, Ev.ifF, true_and, and_true, Bool.false_eq_true, Bool.not_true, Bool.not_false, reduceIte, Nat.zero_add, Ev.addW_ii, Ev.addW_tt, Ev.subW_ii, Ev.mulW_ii, Ev.modW_ii, Ev.fdivW_ii, Ev.powW_ii, Ev.negW_i, Ev.cmpI_ii, Ev.isW_n, Ev.isnW_n, Ev.isNon_n, Ev.isNon_b, Ev.isNon_i, Ev.isNon_s, Ev.isNon_t, Ev.isNon_l, Ev.max2W_ii, Ev.min2W_ii, Ev.intW_i, Ev.intW_b, Ev.lenW_t, Ev.lenW_r, Ev.wpR_ixT, Ev.wpR_ixR, Ev.wpR_ixS, Ev.listW_t, Ev.tupleW_t, Ev.truW_b, Ev.truW_n, Ev.truW_i, Ev.truW_t, Ev.eqW_ii, Ev.neW_ii, Ev.eqW_ss, Ev.neW_ss, Ev.eqW_bb, Ev.ixN_0, Ev.ixN_1, Ev.ixN_2, Ev.ixN_3, Ev.getE_set_self, Ev.wpR_rng1, Ev.wpR_seq, Ev.wpR_zip, Ev.isi_bb, Ev.isi_bs, Ev.isi_bi, Ev.isi_bt, Ev.isi_bl, Ev.isi_ib, Ev.isi_is, Ev.isi_ii, Ev.isi_it, Ev.isi_il, Ev.isi_sb, Ev.isi_ss, Ev.isi_si, Ev.isi_st, Ev.isi_sl, Ev.isi_tb, Ev.isi_ts, Ev.isi_ti, Ev.isi_tt, Ev.isi_tl, Ev.isi_nb, Ev.isi_ns, Ev.isi_ni, Ev.isi_nt, Ev.isi_nl, Ev.atI_0, Ev.atI_1, Ev.atI_2, Ev.atI_3, Ev.atI_4, Ev.tyOk_s, Ev.slW_to, Ev.slW_from, Ev.addW_SS, Int.toNat_natCast, Ev.tupW, Ev.lstW, Option.some.injEq, exists_eq_left', List.set_set, Option.map_some, W.int.injEq, W.str.injEq, W.loc.injEq, Nat.reduceLeDiff, and_self, Int.reduceLT, Int.reduceLE, Int.reduceNeg, Int.reduceToNat, Int.reduceAdd, Int.reduceMul, Int.reduceSub, decide_eq_true_eq]
        split
        · rename_i hz
          have e9 : cutW (nms.map tx) none (some (k : Int)) = (ks.map Kd.nm).map tx := by rw [cutW_to, ← List.map_take, I.nm, hks]
          try simp (maxSteps := 500000) (implicitDefEqProofs := false) (disch := omega) only [Ev.wpR_ok, Ev.wpR_no, Ev.wpR_bind, Ev.wpR_ite, Ev.wpS_nx, Ev.wpS_rt, Ev.Kn_nx, Ev.Kn_rt, Ev.Kn_bk, Ev.Kn_ct, Ev.wpS_seq, Ev.wpS_ret, Ev.wpS_expr, Ev.wpS_set, Ev.wpS_ite, Ev.wpS_if, Ev.wpS_nil, Ev.wpS_cnt, Ev.wpS_brk, Ev.wpS_retN, Ev.wpS_asg, Ev.wpS_put, Ev.wpR_run, Ev.onRet_nx, Ev.onRet_rt, Ev.onNx_nx, Ev.onNx_ct, Ev.onNx_bk, Ev.onNx_rt, Ev.var_0, Ev.var_S, Ev.wpR_lc, Ev.wpS_for, Ev.e1, Ev.e2, Ev.eL, Ev.eC, Ev.aNil, Ev.aCons, Ev.bTest, Ev.bAnd, Ev.bOr, Ev.bNot, Ev.bTru, Ev.vAnd, Ev.vOr, Ev.vNot, Ev.eIf, Ev.bYes, Ev.eM, Ev.eSl, Ev.oNone, Ev.oSome, Ev.dnewW, Ev.startE, Ev.wipeE, List.map_cons, List.map_nil, List.length_cons, List.length_nil, List.replicate, List.cons_append, List.nil_append, Nat.reduceAdd, Nat.reduceSub, List.set_cons_zero, List.set_cons_succ, if_true, if_false, Ev.ifF, true_and, and_true, Bool.false_eq_true, Bool.not_true, Bool.not_false, reduceIte, Nat.zero_add, Ev.addW_ii, Ev.addW_tt, Ev.subW_ii, Ev.mulW_ii, Ev.modW_ii, Ev.fdivW_ii, Ev.powW_ii, Ev.negW_i, Ev.cmpI_ii, Ev.isW_n, Ev.isnW_n, Ev.isNon_n, Ev.isNon_b, Ev.isNon_i, Ev.isNon_s, Ev.isNon_t, Ev.isNon_l, Ev.max2W_ii, Ev.min2W_ii, Ev.intW_i, Ev.intW_b, Ev.lenW_t, Ev.lenW_r, Ev.wpR_ixT, Ev.wpR_ixR, Ev.wpR_ixS, Ev.listW_t, Ev.tupleW_t, Ev.truW_b, Ev.truW_n, Ev.truW_i, Ev.truW_t, Ev.eqW_ii, Ev.neW_ii, Ev.eqW_ss, Ev.neW_ss, Ev.eqW_bb, Ev.ixN_0, Ev.ixN_1, Ev.ixN_2, Ev.ixN_3, Ev.getE_set_self, Ev.wpR_rng1, Ev.wpR_seq, Ev.wpR_zip, Ev.isi_bb, Ev.isi_bs, Ev.isi_bi, Ev.isi_bt, Ev.isi_bl, Ev.isi_ib, Ev.isi_is, Ev.isi_ii, Ev.isi_it, Ev.isi_il, Ev.isi_sb, Ev.isi_ss, Ev.isi_si, Ev.isi_st, Ev.isi_sl, Ev.isi_tb, Ev.isi_ts, Ev.isi_ti, Ev.isi_tt, Ev.isi_tl, Ev.isi_nb, Ev.isi_ns, Ev.isi_ni, Ev.isi_nt, Ev.isi_nl, Ev.atI_0, Ev.atI_1, Ev.atI_2, Ev.atI_3, Ev.atI_4, Ev.tyOk_s, Ev.slW_to, Ev.slW_from, Ev.addW_SS, Int.toNat_natCast, Ev.tupW, Ev.lstW, Option.some.injEq, exists_eq_left', List.set_set, Option.map_some, W.int.injEq, W.str.injEq, W.loc.injEq, Nat.reduceLeDiff, and_self, Int.reduceLT, Int.reduceLE, Int.reduceNeg, Int.reduceToNat, Int.reduceAdd, Int.reduceMul, Int.reduceSub, decide_eq_true_eq, slW_l I2.a1, e9]
          have a5 : (S6 ++ [O.lst ((ks.map Kd.nm).map tx)])[p3 + 2]? = some (.lst (ks.map Kd.w)) := at_app I2.a5
          refine ⟨_, seqLen_l a5, ?_⟩
          refine wp_lc_pure (fun w => match w with | .tup [_, b] => b | _ => .non) (fun i => seqIt_l a5) (by rw [List.length_map]; omega) ?_ ?_
          · intro w hw
            obtain ⟨kd, hkd, rfl⟩ := List.mem_map.mp hw
            refine ⟨_, rfl, rfl, ?_⟩
            rfl
          · have es : (List.map (fun w => match w with | W.tup [_, b] => b | _ => W.non) (List.map Kd.w ks)) = (ks.map Kd.sh).map Sh.w := by
              rw [List.map_map, List.map_map]; rfl
            rw [es]
            have bnd := I2.ok.cnt
            refine pair_ok (nms := ks.map Kd.nm) (shs := ks.map Kd.sh) (cf := fun a => (kdAt ks a).cnt) (df := fun a => (kdAt ks a).dep) (by omega) (I2.st.app.app) (at_app at_new') ?_ (by rw [List.length_map]; omega) (at_app (at_app I2.a3)) (at_app (at_app I2.a4)) ?_ ?_ ?_ ?_ ap.i3 ap.i4 ?_ ?_ ?_
            · intro e
              have : ks.length = 0 := by rw [← List.length_map, e]; rfl
              omega
            · simp
            · intro a ha
              obtain ⟨kd, hkd, rfl⟩ := List.mem_map.mp ha
              rw [kdAt_of nd hkd]
              have := hcnt kd hkd
              exact ⟨cnt_at nd hkd, by omega, by omega⟩
            · intro a ha
              obtain ⟨kd, hkd, rfl⟩ := List.mem_map.mp ha
              rw [kdAt_of nd hkd]
              exact dep_at nd hkd
            · have := I2.st.lt; simp; omega
            · have := I2.st.lt; simp; omega
            · intro S7 x7 _ st7
              exact ⟨_, _, _, rfl, I2.strm ap ((Xt.app.appI).trans x7) st7, .inl rfl⟩
            · intro a b S7 x7 _ st7 ha hb hd hc hf
              obtain ⟨ka, hka, rfl⟩ := List.mem_map.mp ha
              obtain ⟨kb, hkb, rfl⟩ := List.mem_map.mp hb
              rw [kdAt_of nd hka, kdAt_of nd hkb] at hd hc
              exact ⟨_, _, _, rfl, I2.strm ap ((Xt.app.appI).trans x7) st7, .inr ⟨ka, kb, hka, hkb, hd, hc, fun k hk => hf _ (List.mem_map_of_mem hk), rfl⟩⟩
        · exact ⟨_, _, _, rfl, I2, .inl rfl⟩
    · rintro r ⟨w9, x10', S6, rfl, I6, hw9⟩
      have e0 : atI (nms.map tx) (k : Int) = some (tx nms[k]) := Ev.atI_nat (by rw [List.getElem?_map, hnk]; rfl)
      have hnk' : nms[ks.length]? = some nms[k] := by rw [hks]; exact hnk
      have lk : ks.length < 1000000 := by omega
      rcases hw9 with rfl | ⟨ka, kb, hka, hkb, hd, hc, hf, rfl⟩
      · try simp (maxSteps := 500000) (implicitDefEqProofs := false) (disch := omega) only [Ev.wpR_ok, Ev.wpR_no, Ev.wpR_bind, Ev.wpR_ite, Ev.wpS_nx, Ev.wpS_rt, Ev.Kn_nx, Ev.Kn_rt, Ev.Kn_bk, Ev.Kn_ct, Ev.wpS_seq, Ev.wpS_ret, Ev.wpS_expr, Ev.wpS_set, Ev.wpS_ite, Ev.wpS_if, Ev.wpS_nil, Ev.wpS_cnt, Ev.wpS_brk, Ev.wpS_retN, Ev.wpS_asg, Ev.wpS_put, Ev.wpR_run, Ev.onRet_nx, Ev.onRet_rt, Ev.onNx_nx, Ev.onNx_ct, Ev.onNx_bk, Ev.onNx_rt, Ev.var_0, Ev.var_S, Ev.wpR_lc, Ev.wpS_for, Ev.e1, Ev.e2, Ev.eL, Ev.eC, Ev.aNil, Ev.aCons, Ev.bTest, Ev.bAnd, Ev.bOr, Ev.bNot, Ev.bTru, Ev.vAnd, Ev.vOr, Ev.vNot, Ev.eIf, Ev.bYes, Ev.eM, Ev.eSl, Ev.oNone, Ev.oSome, Ev.dnewW, Ev.startE, Ev.wipeE, List.map_cons, List.map_nil, List.length_cons, List.length_nil, List.replicate, List.cons_append, List.nil_append, Nat.reduceAdd, Nat.reduceSub, List.set_cons_zero, List.set_cons_succ, if_true, if_false, Ev.ifF, true_and, and_true, Bool.false_eq_true, Bool.not_true, Bool.not_false, reduceIte, Nat.zero_add, Ev.addW_ii, Ev.addW_tt, Ev.subW_ii, Ev.mulW_ii, Ev.modW_ii, Ev.fdivW_ii, Ev.powW_ii, Ev.negW_i, Ev.cmpI_ii, Ev.isW_n, Ev.isnW_n, Ev.isNon_n, Ev.isNon_b, Ev.isNon_i, Ev.isNon_s, Ev.isNon_t, Ev.isNon_l, Ev.max2W_ii, Ev.min2W_ii, Ev.intW_i, Ev.intW_b, Ev.lenW_t, Ev.lenW_r, Ev.wpR_ixT, Ev.wpR_ixR, Ev.wpR_ixS, Ev.listW_t, Ev.tupleW_t, Ev.truW_b, Ev.truW_n, Ev.truW_i, Ev.truW_t, Ev.eqW_ii, Ev.neW_ii, Ev.eqW_ss, Ev.neW_ss, Ev.eqW_bb, Ev.ixN_0, Ev.ixN_1, Ev.ixN_2, Ev.ixN_3, Ev.getE_set_self, Ev.wpR_rng1, Ev.wpR_seq, Ev.wpR_zip, Ev.isi_bb, Ev.isi_bs, Ev.isi_bi, Ev.isi_bt, Ev.isi_bl, Ev.isi_ib, Ev.isi_is, Ev.isi_ii, Ev.isi_it, Ev.isi_il, Ev.isi_sb, Ev.isi_ss, Ev.isi_si, Ev.isi_st, Ev.isi_sl, Ev.isi_tb, Ev.isi_ts, Ev.isi_ti, Ev.isi_tt, Ev.isi_tl, Ev.isi_nb, Ev.isi_ns, Ev.isi_ni, Ev.isi_nt, Ev.isi_nl, Ev.atI_0, Ev.atI_1, Ev.atI_2, Ev.atI_3, Ev.atI_4, Ev.tyOk_s, Ev.slW_to, Ev.slW_from, Ev.addW_SS, Int.toNat_natCast, Ev.tupW, Ev.lstW, Option.some.injEq, exists_eq_left', List.set_set, Option.map_some, W.int.injEq, W.str.injEq, W.loc.injEq, Nat.reduceLeDiff, and_self, Int.reduceLT, Int.reduceLE, Int.reduceNeg, Int.reduceToNat, Int.reduceAdd, Int.reduceMul, Int.reduceSub, decide_eq_true_eq]
        refine ⟨cmul_l (by decide) (by decide), cmul_l (by decide) (by decide), ?_⟩
        refine take_ok (by omega) I6.st (by decide) fun z o h1 h2 st7 => ?_
        have I7 := I6.strm ap (Xt.set (by simp)) st7
        generalize S6.set i o = S7 at *
        obtain ⟨z, rfl⟩ : ∃ a : Nat, z = a := ⟨z.toNat, by omega⟩
        have ez : (4 : Int) * k + 1 + z = ((4 * k + 1 + z : Nat) : Int) := by omega
        have ek : (4 : Int) * k = ((4 * k : Nat) : Int) := by omega
        try simp (maxSteps := 500000) (implicitDefEqProofs := false) (disch := omega) only [Ev.wpR_ok, Ev.wpR_no, Ev.wpR_bind, Ev.wpR_ite, Ev.wpS_nx, Ev.wpS_rt, Ev.Kn_nx, Ev.Kn_rt, Ev.Kn_bk, Ev.Kn_ct, Ev.wpS_seq, Ev.wpS_ret, Ev.wpS_expr, Ev.wpS_set, Ev.wpS_ite, Ev.wpS_if, Ev.wpS_nil, Ev.wpS_cnt, Ev.wpS_brk, Ev.wpS_retN, Ev.wpS_asg, Ev.wpS_put, Ev.wpR_run, Ev.onRet_nx, Ev.onRet_rt, Ev.onNx_nx, Ev.onNx_ct, Ev.onNx_bk, Ev.onNx_rt, Ev.var_0, Ev.var_S, Ev.wpR_lc, Ev.wpS_for, Ev.e1, Ev.e2, Ev.eL, Ev.eC, Ev.aNil, Ev.aCons, Ev.bTest, Ev.bAnd, Ev.bOr, Ev.bNot, Ev.bTru, Ev.vAnd, Ev.vOr, Ev.vNot, Ev.eIf, Ev.bYes, Ev.eM, Ev.eSl, Ev.oNone, Ev.oSome, Ev.dnewW, Ev.startE, Ev.wipeE, List.map_cons, List.map_nil, List.length_cons, List.length_nil, List.replicate, List.cons_append, List.nil_append, Nat.reduceAdd, Nat.reduceSub, List.set_cons_zero, List.set_cons_succ, if_true, if_false, Ev.ifF, true_and, and_true, Bool.false_eq_true, Bool.not_true, Bool.not_false, reduceIte, Nat.zero_add, Ev.addW_ii, Ev.addW_tt, Ev.subW_ii, Ev.mulW_ii, Ev.modW_ii, Ev.fdivW_ii, Ev.powW_ii, Ev.negW_i, Ev.cmpI_ii, Ev.isW_n, Ev.isnW_n, Ev.isNon_n, Ev.isNon_b, Ev.isNon_i, Ev.isNon_s, Ev.isNon_t, Ev.isNon_l, Ev.max2W_ii, Ev.min2W_ii, Ev.intW_i, Ev.intW_b, Ev.lenW_t, Ev.lenW_r, Ev.wpR_ixT, Ev.wpR_ixR, Ev.wpR_ixS, Ev.listW_t, Ev.tupleW_t, Ev.truW_b, Ev.truW_n, Ev.truW_i, Ev.truW_t, Ev.eqW_ii, Ev.neW_ii, Ev.eqW_ss, Ev.neW_ss, Ev.eqW_bb, Ev.ixN_0, Ev.ixN_1, Ev.ixN_2, Ev.ixN_3, Ev.getE_set_self, Ev.wpR_rng1, Ev.wpR_seq, Ev.wpR_zip, Ev.isi_bb, Ev.isi_bs, Ev.isi_bi, Ev.isi_bt, Ev.isi_bl, Ev.isi_ib, Ev.isi_is, Ev.isi_ii, Ev.isi_it, Ev.isi_il, Ev.isi_sb, Ev.isi_ss, Ev.isi_si, Ev.isi_st, Ev.isi_sl, Ev.isi_tb, Ev.isi_ts, Ev.isi_ti, Ev.isi_tt, Ev.isi_tl, Ev.isi_nb, Ev.isi_ns, Ev.isi_ni, Ev.isi_nt, Ev.isi_nl, Ev.atI_0, Ev.atI_1, Ev.atI_2, Ev.atI_3, Ev.atI_4, Ev.tyOk_s, Ev.slW_to, Ev.slW_from, Ev.addW_SS, Int.toNat_natCast, Ev.tupW, Ev.lstW, Option.some.injEq, exists_eq_left', List.set_set, Option.map_some, W.int.injEq, W.str.injEq, W.loc.injEq, Nat.reduceLeDiff, and_self, Int.reduceLT, Int.reduceLE, Int.reduceNeg, Int.reduceToNat, Int.reduceAdd, Int.reduceMul, Int.reduceSub, decide_eq_true_eq]
        rw [ez, ek, slW_l I7.a2]
        have I8 := I7.strm ap (Xt.app (T := [O.lst (cutW (tgs.map tx) (some ((4 * k : Nat) : Int)) (some ((4 * k + 1 + z : Nat) : Int)))])) I7.st.app
        have e8 : (S7 ++ [O.lst (cutW (tgs.map tx) (some ((4 * k : Nat) : Int)) (some ((4 * k + 1 + z : Nat) : Int)))])[S7.length]? = some (.lst (((tgs.drop (4 * k)).take (z + 1)).map tx)) := by
          rw [at_new', cutW_mid, ← List.map_drop, ← List.map_take]
          congr 4; omega
        have lS7 : p3 + 2 < S7.length := lt_at I7.a5
        generalize S7 ++ [O.lst (cutW (tgs.map tx) (some ((4 * k : Nat) : Int)) (some ((4 * k + 1 + z : Nat) : Int)))] = S8 at *
        have tsd : ∃ ts, (tgs.drop (4 * k)).take (z + 1) = ts ∧ ts.length = z + 1 ∧ ts.Nodup ∧ (∀ t ∈ ts, t ∈ tgs) ∧ (∀ t ∈ ts, t ∉ tgs.take (4 * k)) ∧ ∀ t ∈ ts, t ∈ tgs.take (4 * (k + 1)) := by
          refine ⟨_, rfl, ?_, ?_, ?_, ?_, ?_⟩
          · rw [List.length_take, List.length_drop]; omega
          · exact ((List.take_sublist _ _).trans (List.drop_sublist _ _)).nodup nd2
          · exact fun t ht => List.mem_of_mem_drop (List.mem_of_mem_take ht)
          · intro t ht ht'
            have := List.nodup_append.mp (by rw [List.take_append_drop]; exact nd2 : (tgs.take (4 * k) ++ tgs.drop (4 * k)).Nodup)
            exact this.2.2 t ht' t (List.mem_of_mem_take ht) rfl
          · intro t ht
            obtain ⟨j, hj, e⟩ := List.mem_take_iff_getElem.mp ht
            rw [List.length_drop] at hj
            rw [List.getElem_drop] at e
            exact List.mem_take_iff_getElem.mpr ⟨4 * k + j, by omega, e⟩
        obtain ⟨ts, hts, lts, nts, mts, fts, its⟩ := tsd
        rw [hts] at e8
        clear hts
        rw [wpR_ok, tupleW_l e8]
        try simp (maxSteps := 500000) (implicitDefEqProofs := false) (disch := omega) only [Ev.wpR_ok, Ev.wpR_no, Ev.wpR_bind, Ev.wpR_ite, Ev.wpS_nx, Ev.wpS_rt, Ev.Kn_nx, Ev.Kn_rt, Ev.Kn_bk, Ev.Kn_ct, Ev.wpS_seq, Ev.wpS_ret, Ev.wpS_expr, Ev.wpS_set, Ev.wpS_ite, Ev.wpS_if, Ev.wpS_nil, Ev.wpS_cnt, Ev.wpS_brk, Ev.wpS_retN, Ev.wpS_asg, Ev.wpS_put, Ev.wpR_run, Ev.onRet_nx, Ev.onRet_rt, Ev.onNx_nx, Ev.onNx_ct, Ev.onNx_bk, Ev.onNx_rt, Ev.var_0, Ev.var_S, Ev.wpR_lc, Ev.wpS_for, Ev.e1, Ev.e2, Ev.eL, Ev.eC, Ev.aNil, Ev.aCons, Ev.bTest, Ev.bAnd, Ev.bOr, Ev.bNot, Ev.bTru, Ev.vAnd, Ev.vOr, Ev.vNot, Ev.eIf, Ev.bYes, Ev.eM, Ev.eSl, Ev.oNone, Ev.oSome, Ev.dnewW, Ev.startE, Ev.wipeE, List.map_cons, List.map_nil, List.length_cons, List.length_nil, List.replicate, List.cons_append, List.nil_append, Nat.reduceAdd, Nat.reduceSub, List.set_cons_zero, List.set_cons_succ, if_true, if_false, Ev.ifF, true_and, and_true, Bool.false_eq_true, Bool.not_true, Bool.not_false, reduceIte, Nat.zero_add, Ev.addW_ii, Ev.addW_tt, Ev.subW_ii, Ev.mulW_ii, Ev.modW_ii, Ev.fdivW_ii, Ev.powW_ii, Ev.negW_i, Ev.cmpI_ii, Ev.isW_n, Ev.isnW_n, Ev.isNon_n, Ev.isNon_b, Ev.isNon_i, Ev.isNon_s, Ev.isNon_t, Ev.isNon_l, Ev.max2W_ii, Ev.min2W_ii, Ev.intW_i, Ev.intW_b, Ev.lenW_t, Ev.lenW_r, Ev.wpR_ixT, Ev.wpR_ixR, Ev.wpR_ixS, Ev.listW_t, Ev.tupleW_t, Ev.truW_b, Ev.truW_n, Ev.truW_i, Ev.truW_t, Ev.eqW_ii, Ev.neW_ii, Ev.eqW_ss, Ev.neW_ss, Ev.eqW_bb, Ev.ixN_0, Ev.ixN_1, Ev.ixN_2, Ev.ixN_3, Ev.getE_set_self, Ev.wpR_rng1, Ev.wpR_seq, Ev.wpR_zip, Ev.isi_bb, Ev.isi_bs, Ev.isi_bi, Ev.isi_bt, Ev.isi_bl, Ev.isi_ib, Ev.isi_is, Ev.isi_ii, Ev.isi_it, Ev.isi_il, Ev.isi_sb, Ev.isi_ss, Ev.isi_si, Ev.isi_st, Ev.isi_sl, Ev.isi_tb, Ev.isi_ts, Ev.isi_ti, Ev.isi_tt, Ev.isi_tl, Ev.isi_nb, Ev.isi_ns, Ev.isi_ni, Ev.isi_nt, Ev.isi_nl, Ev.atI_0, Ev.atI_1, Ev.atI_2, Ev.atI_3, Ev.atI_4, Ev.tyOk_s, Ev.slW_to, Ev.slW_from, Ev.addW_SS, Int.toNat_natCast, Ev.tupW, Ev.lstW, Option.some.injEq, exists_eq_left', List.set_set, Option.map_some, W.int.injEq, W.str.injEq, W.loc.injEq, Nat.reduceLeDiff, and_self, Int.reduceLT, Int.reduceLE, Int.reduceNeg, Int.reduceToNat, Int.reduceAdd, Int.reduceMul, Int.reduceSub, decide_eq_true_eq, wpR_ixL I8.a1, e0, List.length_map]
        rw [setO_d I8.a3 key_str (by rw [List.length_map]; omega), put_cnt hnew]
        try simp (maxSteps := 500000) (implicitDefEqProofs := false) (disch := omega) only [Ev.wpR_ok, Ev.wpR_no, Ev.wpR_bind, Ev.wpR_ite, Ev.wpS_nx, Ev.wpS_rt, Ev.Kn_nx, Ev.Kn_rt, Ev.Kn_bk, Ev.Kn_ct, Ev.wpS_seq, Ev.wpS_ret, Ev.wpS_expr, Ev.wpS_set, Ev.wpS_ite, Ev.wpS_if, Ev.wpS_nil, Ev.wpS_cnt, Ev.wpS_brk, Ev.wpS_retN, Ev.wpS_asg, Ev.wpS_put, Ev.wpR_run, Ev.onRet_nx, Ev.onRet_rt, Ev.onNx_nx, Ev.onNx_ct, Ev.onNx_bk, Ev.onNx_rt, Ev.var_0, Ev.var_S, Ev.wpR_lc, Ev.wpS_for, Ev.e1, Ev.e2, Ev.eL, Ev.eC, Ev.aNil, Ev.aCons, Ev.bTest, Ev.bAnd, Ev.bOr, Ev.bNot, Ev.bTru, Ev.vAnd, Ev.vOr, Ev.vNot, Ev.eIf, Ev.bYes, Ev.eM, Ev.eSl, Ev.oNone, Ev.oSome, Ev.dnewW, Ev.startE, Ev.wipeE, List.map_cons, List.map_nil, List.length_cons, List.length_nil, List.replicate, List.cons_append, List.nil_append, Nat.reduceAdd, Nat.reduceSub, List.set_cons_zero, List.set_cons_succ, if_true, if_false, Ev.ifF, true_and, and_true, Bool.false_eq_true, Bool.not_true, Bool.not_false, reduceIte, Nat.zero_add, Ev.addW_ii, Ev.addW_tt, Ev.subW_ii, Ev.mulW_ii, Ev.modW_ii, Ev.fdivW_ii, Ev.powW_ii, Ev.negW_i, Ev.cmpI_ii, Ev.isW_n, Ev.isnW_n, Ev.isNon_n, Ev.isNon_b, Ev.isNon_i, Ev.isNon_s, Ev.isNon_t, Ev.isNon_l, Ev.max2W_ii, Ev.min2W_ii, Ev.intW_i, Ev.intW_b, Ev.lenW_t, Ev.lenW_r, Ev.wpR_ixT, Ev.wpR_ixR, Ev.wpR_ixS, Ev.listW_t, Ev.tupleW_t, Ev.truW_b, Ev.truW_n, Ev.truW_i, Ev.truW_t, Ev.eqW_ii, Ev.neW_ii, Ev.eqW_ss, Ev.neW_ss, Ev.eqW_bb, Ev.ixN_0, Ev.ixN_1, Ev.ixN_2, Ev.ixN_3, Ev.getE_set_self, Ev.wpR_rng1, Ev.wpR_seq, Ev.wpR_zip, Ev.isi_bb, Ev.isi_bs, Ev.isi_bi, Ev.isi_bt, Ev.isi_bl, Ev.isi_ib, Ev.isi_is, Ev.isi_ii, Ev.isi_it, Ev.isi_il, Ev.isi_sb, Ev.isi_ss, Ev.isi_si, Ev.isi_st, Ev.isi_sl, Ev.isi_tb, Ev.isi_ts, Ev.isi_ti, Ev.isi_tt, Ev.isi_tl, Ev.isi_nb, Ev.isi_ns, Ev.isi_ni, Ev.isi_nt, Ev.isi_nl, Ev.atI_0, Ev.atI_1, Ev.atI_2, Ev.atI_3, Ev.atI_4, Ev.tyOk_s, Ev.slW_to, Ev.slW_from, Ev.addW_SS, Int.toNat_natCast, Ev.tupW, Ev.lstW, Option.some.injEq, exists_eq_left', List.set_set, Option.map_some, W.int.injEq, W.str.injEq, W.loc.injEq, Nat.reduceLeDiff, and_self, Int.reduceLT, Int.reduceLE, Int.reduceNeg, Int.reduceToNat, Int.reduceAdd, Int.reduceMul, Int.reduceSub, decide_eq_true_eq]
        rw [wpR_ixL (at_ne I8.a1 ap.j13.symm)]
        refine ⟨_, e0, ?_⟩
        rw [setO_d (at_ne I8.a4 ap.j34) key_str (by rw [List.length_map]; omega), put_dep hnew]
        try simp (maxSteps := 500000) (implicitDefEqProofs := false) (disch := omega) only [Ev.wpR_ok, Ev.wpR_no, Ev.wpR_bind, Ev.wpR_ite, Ev.wpS_nx, Ev.wpS_rt, Ev.Kn_nx, Ev.Kn_rt, Ev.Kn_bk, Ev.Kn_ct, Ev.wpS_seq, Ev.wpS_ret, Ev.wpS_expr, Ev.wpS_set, Ev.wpS_ite, Ev.wpS_if, Ev.wpS_nil, Ev.wpS_cnt, Ev.wpS_brk, Ev.wpS_retN, Ev.wpS_asg, Ev.wpS_put, Ev.wpR_run, Ev.onRet_nx, Ev.onRet_rt, Ev.onNx_nx, Ev.onNx_ct, Ev.onNx_bk, Ev.onNx_rt, Ev.var_0, Ev.var_S, Ev.wpR_lc, Ev.wpS_for, Ev.e1, Ev.e2, Ev.eL, Ev.eC, Ev.aNil, Ev.aCons, Ev.bTest, Ev.bAnd, Ev.bOr, Ev.bNot, Ev.bTru, Ev.vAnd, Ev.vOr, Ev.vNot, Ev.eIf, Ev.bYes, Ev.eM, Ev.eSl, Ev.oNone, Ev.oSome, Ev.dnewW, Ev.startE, Ev.wipeE, List.map_cons, List.map_nil, List.length_cons, List.length_nil, List.replicate, List.cons_append, List.nil_append, Nat.reduceAdd, Nat.reduceSub, List.set_cons_zero, List.set_cons_succ, if_true, if_false, Ev.ifF, true_and, and_true, Bool.false_eq_true, Bool.not_true, Bool.not_false, reduceIte, Nat.zero_add, Ev.addW_ii, Ev.addW_tt, Ev.subW_ii, Ev.mulW_ii, Ev.modW_ii, Ev.fdivW_ii, Ev.powW_ii, Ev.negW_i, Ev.cmpI_ii, Ev.isW_n, Ev.isnW_n, Ev.isNon_n, Ev.isNon_b, Ev.isNon_i, Ev.isNon_s, Ev.isNon_t, Ev.isNon_l, Ev.max2W_ii, Ev.min2W_ii, Ev.intW_i, Ev.intW_b, Ev.lenW_t, Ev.lenW_r, Ev.wpR_ixT, Ev.wpR_ixR, Ev.wpR_ixS, Ev.listW_t, Ev.tupleW_t, Ev.truW_b, Ev.truW_n, Ev.truW_i, Ev.truW_t, Ev.eqW_ii, Ev.neW_ii, Ev.eqW_ss, Ev.neW_ss, Ev.eqW_bb, Ev.ixN_0, Ev.ixN_1, Ev.ixN_2, Ev.ixN_3, Ev.getE_set_self, Ev.wpR_rng1, Ev.wpR_seq, Ev.wpR_zip, Ev.isi_bb, Ev.isi_bs, Ev.isi_bi, Ev.isi_bt, Ev.isi_bl, Ev.isi_ib, Ev.isi_is, Ev.isi_ii, Ev.isi_it, Ev.isi_il, Ev.isi_sb, Ev.isi_ss, Ev.isi_si, Ev.isi_st, Ev.isi_sl, Ev.isi_tb, Ev.isi_ts, Ev.isi_ti, Ev.isi_tt, Ev.isi_tl, Ev.isi_nb, Ev.isi_ns, Ev.isi_ni, Ev.isi_nt, Ev.isi_nl, Ev.atI_0, Ev.atI_1, Ev.atI_2, Ev.atI_3, Ev.atI_4, Ev.tyOk_s, Ev.slW_to, Ev.slW_from, Ev.addW_SS, Int.toNat_natCast, Ev.tupW, Ev.lstW, Option.some.injEq, exists_eq_left', List.set_set, Option.map_some, W.int.injEq, W.str.injEq, W.loc.injEq, Nat.reduceLeDiff, and_self, Int.reduceLT, Int.reduceLE, Int.reduceNeg, Int.reduceToNat, Int.reduceAdd, Int.reduceMul, Int.reduceSub, decide_eq_true_eq]
        rw [wpR_ixL (at_ne (at_ne I8.a1 ap.j13.symm) ap.j14.symm)]
        refine ⟨tyOk_l (at_ne (at_ne I8.a5 ap.j35) ap.j45), _, e0, ?_⟩
        try simp (maxSteps := 500000) (implicitDefEqProofs := false) (disch := omega) only [Ev.wpR_ok, Ev.wpR_no, Ev.wpR_bind, Ev.wpR_ite, Ev.wpS_nx, Ev.wpS_rt, Ev.Kn_nx, Ev.Kn_rt, Ev.Kn_bk, Ev.Kn_ct, Ev.wpS_seq, Ev.wpS_ret, Ev.wpS_expr, Ev.wpS_set, Ev.wpS_ite, Ev.wpS_if, Ev.wpS_nil, Ev.wpS_cnt, Ev.wpS_brk, Ev.wpS_retN, Ev.wpS_asg, Ev.wpS_put, Ev.wpR_run, Ev.onRet_nx, Ev.onRet_rt, Ev.onNx_nx, Ev.onNx_ct, Ev.onNx_bk, Ev.onNx_rt, Ev.var_0, Ev.var_S, Ev.wpR_lc, Ev.wpS_for, Ev.e1, Ev.e2, Ev.eL, Ev.eC, Ev.aNil, Ev.aCons, Ev.bTest, Ev.bAnd, Ev.bOr, Ev.bNot, Ev.bTru, Ev.vAnd, Ev.vOr, Ev.vNot, Ev.eIf, Ev.bYes, Ev.eM, Ev.eSl, Ev.oNone, Ev.oSome, Ev.dnewW, Ev.startE, Ev.wipeE, List.map_cons, List.map_nil, List.length_cons, List.length_nil, List.replicate, List.cons_append, List.nil_append, Nat.reduceAdd, Nat.reduceSub, List.set_cons_zero, List.set_cons_succ, if_true, if_false, Ev.ifF, true_and, and_true, Bool.false_eq_true, Bool.not_true, Bool.not_false, reduceIte, Nat.zero_add, Ev.addW_ii, Ev.addW_tt, Ev.subW_ii, Ev.mulW_ii, Ev.modW_ii, Ev.fdivW_ii, Ev.powW_ii, Ev.negW_i, Ev.cmpI_ii, Ev.isW_n, Ev.isnW_n, Ev.isNon_n, Ev.isNon_b, Ev.isNon_i, Ev.isNon_s, Ev.isNon_t, Ev.isNon_l, Ev.max2W_ii, Ev.min2W_ii, Ev.intW_i, Ev.intW_b, Ev.lenW_t, Ev.lenW_r, Ev.wpR_ixT, Ev.wpR_ixR, Ev.wpR_ixS, Ev.listW_t, Ev.tupleW_t, Ev.truW_b, Ev.truW_n, Ev.truW_i, Ev.truW_t, Ev.eqW_ii, Ev.neW_ii, Ev.eqW_ss, Ev.neW_ss, Ev.eqW_bb, Ev.ixN_0, Ev.ixN_1, Ev.ixN_2, Ev.ixN_3, Ev.getE_set_self, Ev.wpR_rng1, Ev.wpR_seq, Ev.wpR_zip, Ev.isi_bb, Ev.isi_bs, Ev.isi_bi, Ev.isi_bt, Ev.isi_bl, Ev.isi_ib, Ev.isi_is, Ev.isi_ii, Ev.isi_it, Ev.isi_il, Ev.isi_sb, Ev.isi_ss, Ev.isi_si, Ev.isi_st, Ev.isi_sl, Ev.isi_tb, Ev.isi_ts, Ev.isi_ti, Ev.isi_tt, Ev.isi_tl, Ev.isi_nb, Ev.isi_ns, Ev.isi_ni, Ev.isi_nt, Ev.isi_nl, Ev.atI_0, Ev.atI_1, Ev.atI_2, Ev.atI_3, Ev.atI_4, Ev.tyOk_s, Ev.slW_to, Ev.slW_from, Ev.addW_SS, Int.toNat_natCast, Ev.tupW, Ev.lstW, Option.some.injEq, exists_eq_left', List.set_set, Option.map_some, W.int.injEq, W.str.injEq, W.loc.injEq, Nat.reduceLeDiff, and_self, Int.reduceLT, Int.reduceLE, Int.reduceNeg, Int.reduceToNat, Int.reduceAdd, Int.reduceMul, Int.reduceSub, decide_eq_true_eq, appendW_l (at_ne (at_ne I8.a5 ap.j35) ap.j45) (show (ks.map Kd.w).length < 1000000 by rw [List.length_map]; exact lk)]
        refine ⟨_, _, _, ks ++ [⟨nms[k], .tags ts, 1 + (ts.length : Int), 0⟩], rfl, by simp [hks], ?_⟩
        refine I8.push ap (k := ⟨nms[k], .tags ts, 1 + (ts.length : Int), 0⟩) hnk' (.tags I8.ok hwd hnew (by omega) (by omega) nts (fun t ht => wo2 t (mts t ht)) fun kd hkd t ht h' => fts t h' (by rw [← hks]; exact I8.tg kd hkd t ht)) ?_
        rw [hks]; exact its
      · have I8 := I6
        try simp (maxSteps := 500000) (implicitDefEqProofs := false) (disch := omega) only [Ev.wpR_ok, Ev.wpR_no, Ev.wpR_bind, Ev.wpR_ite, Ev.wpS_nx, Ev.wpS_rt, Ev.Kn_nx, Ev.Kn_rt, Ev.Kn_bk, Ev.Kn_ct, Ev.wpS_seq, Ev.wpS_ret, Ev.wpS_expr, Ev.wpS_set, Ev.wpS_ite, Ev.wpS_if, Ev.wpS_nil, Ev.wpS_cnt, Ev.wpS_brk, Ev.wpS_retN, Ev.wpS_asg, Ev.wpS_put, Ev.wpR_run, Ev.onRet_nx, Ev.onRet_rt, Ev.onNx_nx, Ev.onNx_ct, Ev.onNx_bk, Ev.onNx_rt, Ev.var_0, Ev.var_S, Ev.wpR_lc, Ev.wpS_for, Ev.e1, Ev.e2, Ev.eL, Ev.eC, Ev.aNil, Ev.aCons, Ev.bTest, Ev.bAnd, Ev.bOr, Ev.bNot, Ev.bTru, Ev.vAnd, Ev.vOr, Ev.vNot, Ev.eIf, Ev.bYes, Ev.eM, Ev.eSl, Ev.oNone, Ev.oSome, Ev.dnewW, Ev.startE, Ev.wipeE, List.map_cons, List.map_nil, List.length_cons, List.length_nil, List.replicate, List.cons_append, List.nil_append, Nat.reduceAdd, Nat.reduceSub, List.set_cons_zero, List.set_cons_succ, if_true, if_false, Ev.ifF, true_and, and_true, Bool.false_eq_true, Bool.not_true, Bool.not_false, reduceIte, Nat.zero_add, Ev.addW_ii, Ev.addW_tt, Ev.subW_ii, Ev.mulW_ii, Ev.modW_ii, Ev.fdivW_ii, Ev.powW_ii, Ev.negW_i, Ev.cmpI_ii, Ev.isW_n, Ev.isnW_n, Ev.isNon_n, Ev.isNon_b, Ev.isNon_i, Ev.isNon_s, Ev.isNon_t, Ev.isNon_l, Ev.max2W_ii, Ev.min2W_ii, Ev.intW_i, Ev.intW_b, Ev.lenW_t, Ev.lenW_r, Ev.wpR_ixT, Ev.wpR_ixR, Ev.wpR_ixS, Ev.listW_t, Ev.tupleW_t, Ev.truW_b, Ev.truW_n, Ev.truW_i, Ev.truW_t, Ev.eqW_ii, Ev.neW_ii, Ev.eqW_ss, Ev.neW_ss, Ev.eqW_bb, Ev.ixN_0, Ev.ixN_1, Ev.ixN_2, Ev.ixN_3, Ev.getE_set_self, Ev.wpR_rng1, Ev.wpR_seq, Ev.wpR_zip, Ev.isi_bb, Ev.isi_bs, Ev.isi_bi, Ev.isi_bt, Ev.isi_bl, Ev.isi_ib, Ev.isi_is, Ev.isi_ii, Ev.isi_it, Ev.isi_il, Ev.isi_sb, Ev.isi_ss, Ev.isi_si, Ev.isi_st, Ev.isi_sl, Ev.isi_tb, Ev.isi_ts, Ev.isi_ti, Ev.isi_tt, Ev.isi_tl, Ev.isi_nb, Ev.isi_ns, Ev.isi_ni, Ev.isi_nt, Ev.isi_nl, Ev.atI_0, Ev.atI_1, Ev.atI_2, Ev.atI_3, Ev.atI_4, Ev.tyOk_s, Ev.slW_to, Ev.slW_from, Ev.addW_SS, Int.toNat_natCast, Ev.tupW, Ev.lstW, Option.some.injEq, exists_eq_left', List.set_set, Option.map_some, W.int.injEq, W.str.injEq, W.loc.injEq, Nat.reduceLeDiff, and_self, Int.reduceLT, Int.reduceLE, Int.reduceNeg, Int.reduceToNat, Int.reduceAdd, Int.reduceMul, Int.reduceSub, decide_eq_true_eq, Sh.w, wpR_ixL I8.a1, e0, wpR_ixD I8.a3 key_str, cnt_at nd hka, cnt_at nd hkb]
        have ca := hcnt ka hka
        have cb := hcnt kb hkb
        refine ⟨cmul_l (by omega) (by omega), ?_⟩
        rw [setO_d I8.a3 key_str (by rw [List.length_map]; omega), put_cnt hnew]
        try simp (maxSteps := 500000) (implicitDefEqProofs := false) (disch := omega) only [Ev.wpR_ok, Ev.wpR_no, Ev.wpR_bind, Ev.wpR_ite, Ev.wpS_nx, Ev.wpS_rt, Ev.Kn_nx, Ev.Kn_rt, Ev.Kn_bk, Ev.Kn_ct, Ev.wpS_seq, Ev.wpS_ret, Ev.wpS_expr, Ev.wpS_set, Ev.wpS_ite, Ev.wpS_if, Ev.wpS_nil, Ev.wpS_cnt, Ev.wpS_brk, Ev.wpS_retN, Ev.wpS_asg, Ev.wpS_put, Ev.wpR_run, Ev.onRet_nx, Ev.onRet_rt, Ev.onNx_nx, Ev.onNx_ct, Ev.onNx_bk, Ev.onNx_rt, Ev.var_0, Ev.var_S, Ev.wpR_lc, Ev.wpS_for, Ev.e1, Ev.e2, Ev.eL, Ev.eC, Ev.aNil, Ev.aCons, Ev.bTest, Ev.bAnd, Ev.bOr, Ev.bNot, Ev.bTru, Ev.vAnd, Ev.vOr, Ev.vNot, Ev.eIf, Ev.bYes, Ev.eM, Ev.eSl, Ev.oNone, Ev.oSome, Ev.dnewW, Ev.startE, Ev.wipeE, List.map_cons, List.map_nil, List.length_cons, List.length_nil, List.replicate, List.cons_append, List.nil_append, Nat.reduceAdd, Nat.reduceSub, List.set_cons_zero, List.set_cons_succ, if_true, if_false, Ev.ifF, true_and, and_true, Bool.false_eq_true, Bool.not_true, Bool.not_false, reduceIte, Nat.zero_add, Ev.addW_ii, Ev.addW_tt, Ev.subW_ii, Ev.mulW_ii, Ev.modW_ii, Ev.fdivW_ii, Ev.powW_ii, Ev.negW_i, Ev.cmpI_ii, Ev.isW_n, Ev.isnW_n, Ev.isNon_n, Ev.isNon_b, Ev.isNon_i, Ev.isNon_s, Ev.isNon_t, Ev.isNon_l, Ev.max2W_ii, Ev.min2W_ii, Ev.intW_i, Ev.intW_b, Ev.lenW_t, Ev.lenW_r, Ev.wpR_ixT, Ev.wpR_ixR, Ev.wpR_ixS, Ev.listW_t, Ev.tupleW_t, Ev.truW_b, Ev.truW_n, Ev.truW_i, Ev.truW_t, Ev.eqW_ii, Ev.neW_ii, Ev.eqW_ss, Ev.neW_ss, Ev.eqW_bb, Ev.ixN_0, Ev.ixN_1, Ev.ixN_2, Ev.ixN_3, Ev.getE_set_self, Ev.wpR_rng1, Ev.wpR_seq, Ev.wpR_zip, Ev.isi_bb, Ev.isi_bs, Ev.isi_bi, Ev.isi_bt, Ev.isi_bl, Ev.isi_ib, Ev.isi_is, Ev.isi_ii, Ev.isi_it, Ev.isi_il, Ev.isi_sb, Ev.isi_ss, Ev.isi_si, Ev.isi_st, Ev.isi_sl, Ev.isi_tb, Ev.isi_ts, Ev.isi_ti, Ev.isi_tt, Ev.isi_tl, Ev.isi_nb, Ev.isi_ns, Ev.isi_ni, Ev.isi_nt, Ev.isi_nl, Ev.atI_0, Ev.atI_1, Ev.atI_2, Ev.atI_3, Ev.atI_4, Ev.tyOk_s, Ev.slW_to, Ev.slW_from, Ev.addW_SS, Int.toNat_natCast, Ev.tupW, Ev.lstW, Option.some.injEq, exists_eq_left', List.set_set, Option.map_some, W.int.injEq, W.str.injEq, W.loc.injEq, Nat.reduceLeDiff, and_self, Int.reduceLT, Int.reduceLE, Int.reduceNeg, Int.reduceToNat, Int.reduceAdd, Int.reduceMul, Int.reduceSub, decide_eq_true_eq]
        try simp (maxSteps := 500000) (implicitDefEqProofs := false) (disch := omega) only [Ev.wpR_ok, Ev.wpR_no, Ev.wpR_bind, Ev.wpR_ite, Ev.wpS_nx, Ev.wpS_rt, Ev.Kn_nx, Ev.Kn_rt, Ev.Kn_bk, Ev.Kn_ct, Ev.wpS_seq, Ev.wpS_ret, Ev.wpS_expr, Ev.wpS_set, Ev.wpS_ite, Ev.wpS_if, Ev.wpS_nil, Ev.wpS_cnt, Ev.wpS_brk, Ev.wpS_retN, Ev.wpS_asg, Ev.wpS_put, Ev.wpR_run, Ev.onRet_nx, Ev.onRet_rt, Ev.onNx_nx, Ev.onNx_ct, Ev.onNx_bk, Ev.onNx_rt, Ev.var_0, Ev.var_S, Ev.wpR_lc, Ev.wpS_for, Ev.e1, Ev.e2, Ev.eL, Ev.eC, Ev.aNil, Ev.aCons, Ev.bTest, Ev.bAnd, Ev.bOr, Ev.bNot, Ev.bTru, Ev.vAnd, Ev.vOr, Ev.vNot, Ev.eIf, Ev.bYes, Ev.eM, Ev.eSl, Ev.oNone, Ev.oSome, Ev.dnewW, Ev.startE, Ev.wipeE, List.map_cons, List.map_nil, List.length_cons, List.length_nil, List.replicate, List.cons_append, List.nil_append, Nat.reduceAdd, Nat.reduceSub, List.set_cons_zero, List.set_cons_succ, if_true, if_false, Ev.ifF, true_and, and_true, Bool.false_eq_true, Bool.not_true, Bool.not_false, reduceIte, Nat.zero_add, Ev.addW_ii, Ev.addW_tt, Ev.subW_ii, Ev.mulW_ii, Ev.modW_ii, Ev.fdivW_ii, Ev.powW_ii, Ev.negW_i, Ev.cmpI_ii, Ev.isW_n, Ev.isnW_n, Ev.isNon_n, Ev.isNon_b, Ev.isNon_i, Ev.isNon_s, Ev.isNon_t, Ev.isNon_l, Ev.max2W_ii, Ev.min2W_ii, Ev.intW_i, Ev.intW_b, Ev.lenW_t, Ev.lenW_r, Ev.wpR_ixT, Ev.wpR_ixR, Ev.wpR_ixS, Ev.listW_t, Ev.tupleW_t, Ev.truW_b, Ev.truW_n, Ev.truW_i, Ev.truW_t, Ev.eqW_ii, Ev.neW_ii, Ev.eqW_ss, Ev.neW_ss, Ev.eqW_bb, Ev.ixN_0, Ev.ixN_1, Ev.ixN_2, Ev.ixN_3, Ev.getE_set_self, Ev.wpR_rng1, Ev.wpR_seq, Ev.wpR_zip, Ev.isi_bb, Ev.isi_bs, Ev.isi_bi, Ev.isi_bt, Ev.isi_bl, Ev.isi_ib, Ev.isi_is, Ev.isi_ii, Ev.isi_it, Ev.isi_il, Ev.isi_sb, Ev.isi_ss, Ev.isi_si, Ev.isi_st, Ev.isi_sl, Ev.isi_tb, Ev.isi_ts, Ev.isi_ti, Ev.isi_tt, Ev.isi_tl, Ev.isi_nb, Ev.isi_ns, Ev.isi_ni, Ev.isi_nt, Ev.isi_nl, Ev.atI_0, Ev.atI_1, Ev.atI_2, Ev.atI_3, Ev.atI_4, Ev.tyOk_s, Ev.slW_to, Ev.slW_from, Ev.addW_SS, Int.toNat_natCast, Ev.tupW, Ev.lstW, Option.some.injEq, exists_eq_left', List.set_set, Option.map_some, W.int.injEq, W.str.injEq, W.loc.injEq, Nat.reduceLeDiff, and_self, Int.reduceLT, Int.reduceLE, Int.reduceNeg, Int.reduceToNat, Int.reduceAdd, Int.reduceMul, Int.reduceSub, decide_eq_true_eq, wpR_ixD (at_ne I8.a4 ap.j34) key_str, dep_at nd hka, dep_at nd hkb]
        rw [wpR_ixL (at_ne I8.a1 ap.j13.symm)]
        refine ⟨_, e0, ?_⟩
        rw [setO_d (at_ne I8.a4 ap.j34) key_str (by rw [List.length_map]; omega), put_dep hnew]
        try simp (maxSteps := 500000) (implicitDefEqProofs := false) (disch := omega) only [Ev.wpR_ok, Ev.wpR_no, Ev.wpR_bind, Ev.wpR_ite, Ev.wpS_nx, Ev.wpS_rt, Ev.Kn_nx, Ev.Kn_rt, Ev.Kn_bk, Ev.Kn_ct, Ev.wpS_seq, Ev.wpS_ret, Ev.wpS_expr, Ev.wpS_set, Ev.wpS_ite, Ev.wpS_if, Ev.wpS_nil, Ev.wpS_cnt, Ev.wpS_brk, Ev.wpS_retN, Ev.wpS_asg, Ev.wpS_put, Ev.wpR_run, Ev.onRet_nx, Ev.onRet_rt, Ev.onNx_nx, Ev.onNx_ct, Ev.onNx_bk, Ev.onNx_rt, Ev.var_0, Ev.var_S, Ev.wpR_lc, Ev.wpS_for, Ev.e1, Ev.e2, Ev.eL, Ev.eC, Ev.aNil, Ev.aCons, Ev.bTest, Ev.bAnd, Ev.bOr, Ev.bNot, Ev.bTru, Ev.vAnd, Ev.vOr, Ev.vNot, Ev.eIf, Ev.bYes, Ev.eM, Ev.eSl, Ev.oNone, Ev.oSome, Ev.dnewW, Ev.startE, Ev.wipeE, List.map_cons, List.map_nil, List.length_cons, List.length_nil, List.replicate, List.cons_append, List.nil_append, Nat.reduceAdd, Nat.reduceSub, List.set_cons_zero, List.set_cons_succ, if_true, if_false, Ev.ifF, true_and, and_true, Bool.false_eq_true, Bool.not_true, Bool.not_false, reduceIte, Nat.zero_add, Ev.addW_ii, Ev.addW_tt, Ev.subW_ii, Ev.mulW_ii, Ev.modW_ii, Ev.fdivW_ii, Ev.powW_ii, Ev.negW_i, Ev.cmpI_ii, Ev.isW_n, Ev.isnW_n, Ev.isNon_n, Ev.isNon_b, Ev.isNon_i, Ev.isNon_s, Ev.isNon_t, Ev.isNon_l, Ev.max2W_ii, Ev.min2W_ii, Ev.intW_i, Ev.intW_b, Ev.lenW_t, Ev.lenW_r, Ev.wpR_ixT, Ev.wpR_ixR, Ev.wpR_ixS, Ev.listW_t, Ev.tupleW_t, Ev.truW_b, Ev.truW_n, Ev.truW_i, Ev.truW_t, Ev.eqW_ii, Ev.neW_ii, Ev.eqW_ss, Ev.neW_ss, Ev.eqW_bb, Ev.ixN_0, Ev.ixN_1, Ev.ixN_2, Ev.ixN_3, Ev.getE_set_self, Ev.wpR_rng1, Ev.wpR_seq, Ev.wpR_zip, Ev.isi_bb, Ev.isi_bs, Ev.isi_bi, Ev.isi_bt, Ev.isi_bl, Ev.isi_ib, Ev.isi_is, Ev.isi_ii, Ev.isi_it, Ev.isi_il, Ev.isi_sb, Ev.isi_ss, Ev.isi_si, Ev.isi_st, Ev.isi_sl, Ev.isi_tb, Ev.isi_ts, Ev.isi_ti, Ev.isi_tt, Ev.isi_tl, Ev.isi_nb, Ev.isi_ns, Ev.isi_ni, Ev.isi_nt, Ev.isi_nl, Ev.atI_0, Ev.atI_1, Ev.atI_2, Ev.atI_3, Ev.atI_4, Ev.tyOk_s, Ev.slW_to, Ev.slW_from, Ev.addW_SS, Int.toNat_natCast, Ev.tupW, Ev.lstW, Option.some.injEq, exists_eq_left', List.set_set, Option.map_some, W.int.injEq, W.str.injEq, W.loc.injEq, Nat.reduceLeDiff, and_self, Int.reduceLT, Int.reduceLE, Int.reduceNeg, Int.reduceToNat, Int.reduceAdd, Int.reduceMul, Int.reduceSub, decide_eq_true_eq]
        rw [wpR_ixL (at_ne (at_ne I8.a1 ap.j13.symm) ap.j14.symm)]
        refine ⟨tyOk_l (at_ne (at_ne I8.a5 ap.j35) ap.j45), _, e0, ?_⟩
        try simp (maxSteps := 500000) (implicitDefEqProofs := false) (disch := omega) only [Ev.wpR_ok, Ev.wpR_no, Ev.wpR_bind, Ev.wpR_ite, Ev.wpS_nx, Ev.wpS_rt, Ev.Kn_nx, Ev.Kn_rt, Ev.Kn_bk, Ev.Kn_ct, Ev.wpS_seq, Ev.wpS_ret, Ev.wpS_expr, Ev.wpS_set, Ev.wpS_ite, Ev.wpS_if, Ev.wpS_nil, Ev.wpS_cnt, Ev.wpS_brk, Ev.wpS_retN, Ev.wpS_asg, Ev.wpS_put, Ev.wpR_run, Ev.onRet_nx, Ev.onRet_rt, Ev.onNx_nx, Ev.onNx_ct, Ev.onNx_bk, Ev.onNx_rt, Ev.var_0, Ev.var_S, Ev.wpR_lc, Ev.wpS_for, Ev.e1, Ev.e2, Ev.eL, Ev.eC, Ev.aNil, Ev.aCons, Ev.bTest, Ev.bAnd, Ev.bOr, Ev.bNot, Ev.bTru, Ev.vAnd, Ev.vOr, Ev.vNot, Ev.eIf, Ev.bYes, Ev.eM, Ev.eSl, Ev.oNone, Ev.oSome, Ev.dnewW, Ev.startE, Ev.wipeE, List.map_cons, List.map_nil, List.length_cons, List.length_nil, List.replicate, List.cons_append, List.nil_append, Nat.reduceAdd, Nat.reduceSub, List.set_cons_zero, List.set_cons_succ, if_true, if_false, Ev.ifF, true_and, and_true, Bool.false_eq_true, Bool.not_true, Bool.not_false, reduceIte, Nat.zero_add, Ev.addW_ii, Ev.addW_tt, Ev.subW_ii, Ev.mulW_ii, Ev.modW_ii, Ev.fdivW_ii, Ev.powW_ii, Ev.negW_i, Ev.cmpI_ii, Ev.isW_n, Ev.isnW_n, Ev.isNon_n, Ev.isNon_b, Ev.isNon_i, Ev.isNon_s, Ev.isNon_t, Ev.isNon_l, Ev.max2W_ii, Ev.min2W_ii, Ev.intW_i, Ev.intW_b, Ev.lenW_t, Ev.lenW_r, Ev.wpR_ixT, Ev.wpR_ixR, Ev.wpR_ixS, Ev.listW_t, Ev.tupleW_t, Ev.truW_b, Ev.truW_n, Ev.truW_i, Ev.truW_t, Ev.eqW_ii, Ev.neW_ii, Ev.eqW_ss, Ev.neW_ss, Ev.eqW_bb, Ev.ixN_0, Ev.ixN_1, Ev.ixN_2, Ev.ixN_3, Ev.getE_set_self, Ev.wpR_rng1, Ev.wpR_seq, Ev.wpR_zip, Ev.isi_bb, Ev.isi_bs, Ev.isi_bi, Ev.isi_bt, Ev.isi_bl, Ev.isi_ib, Ev.isi_is, Ev.isi_ii, Ev.isi_it, Ev.isi_il, Ev.isi_sb, Ev.isi_ss, Ev.isi_si, Ev.isi_st, Ev.isi_sl, Ev.isi_tb, Ev.isi_ts, Ev.isi_ti, Ev.isi_tt, Ev.isi_tl, Ev.isi_nb, Ev.isi_ns, Ev.isi_ni, Ev.isi_nt, Ev.isi_nl, Ev.atI_0, Ev.atI_1, Ev.atI_2, Ev.atI_3, Ev.atI_4, Ev.tyOk_s, Ev.slW_to, Ev.slW_from, Ev.addW_SS, Int.toNat_natCast, Ev.tupW, Ev.lstW, Option.some.injEq, exists_eq_left', List.set_set, Option.map_some, W.int.injEq, W.str.injEq, W.loc.injEq, Nat.reduceLeDiff, and_self, Int.reduceLT, Int.reduceLE, Int.reduceNeg, Int.reduceToNat, Int.reduceAdd, Int.reduceMul, Int.reduceSub, decide_eq_true_eq, appendW_l (at_ne (at_ne I8.a5 ap.j35) ap.j45) (show (ks.map Kd.w).length < 1000000 by rw [List.length_map]; exact lk)]
        refine ⟨_, _, _, ks ++ [⟨nms[k], .pair ka.nm kb.nm, 1 + ka.cnt * kb.cnt, 1 + (if kb.dep > ka.dep then kb.dep else ka.dep)⟩], rfl, by simp [hks], ?_⟩
        exact I8.push ap (k := ⟨nms[k], .pair ka.nm kb.nm, 1 + ka.cnt * kb.cnt, 1 + (if kb.dep > ka.dep then kb.dep else ka.dep)⟩) hnk' (.pair I8.ok hwd hnew hka hkb hd hc hf) fun t ht => by cases ht
  · rintro s S5 ⟨x8, x9, x10, ks, rfl, hks, I⟩
    refine ⟨rng_end, ?_⟩
    try simp (maxSteps := 500000) (implicitDefEqProofs := false) (disch := omega) only [Ev.wpR_ok, Ev.wpR_no, Ev.wpR_bind, Ev.wpR_ite, Ev.wpS_nx, Ev.wpS_rt, Ev.Kn_nx, Ev.Kn_rt, Ev.Kn_bk, Ev.Kn_ct, Ev.wpS_seq, Ev.wpS_ret, Ev.wpS_expr, Ev.wpS_set, Ev.wpS_ite, Ev.wpS_if, Ev.wpS_nil, Ev.wpS_cnt, Ev.wpS_brk, Ev.wpS_retN, Ev.wpS_asg, Ev.wpS_put, Ev.wpR_run, Ev.onRet_nx, Ev.onRet_rt, Ev.onNx_nx, Ev.onNx_ct, Ev.onNx_bk, Ev.onNx_rt, Ev.var_0, Ev.var_S, Ev.wpR_lc, Ev.wpS_for, Ev.e1, Ev.e2, Ev.eL, Ev.eC, Ev.aNil, Ev.aCons, Ev.bTest, Ev.bAnd, Ev.bOr, Ev.bNot, Ev.bTru, Ev.vAnd, Ev.vOr, Ev.vNot, Ev.eIf, Ev.bYes, Ev.eM, Ev.eSl, Ev.oNone, Ev.oSome, Ev.dnewW, Ev.startE, Ev.wipeE, List.map_cons, List.map_nil, List.length_cons, List.length_nil, List.replicate, List.cons_append, List.nil_append, Nat.reduceAdd, Nat.reduceSub, List.set_cons_zero, List.set_cons_succ, if_true, if_false, Ev.ifF, true_and, and_true, Bool.false_eq_true, Bool.not_true, Bool.not_false, reduceIte, Nat.zero_add, Ev.addW_ii, Ev.addW_tt, Ev.subW_ii, Ev.mulW_ii, Ev.modW_ii, Ev.fdivW_ii, Ev.powW_ii, Ev.negW_i, Ev.cmpI_ii, Ev.isW_n, Ev.isnW_n, Ev.isNon_n, Ev.isNon_b, Ev.isNon_i, Ev.isNon_s, Ev.isNon_t, Ev.isNon_l, Ev.max2W_ii, Ev.min2W_ii, Ev.intW_i, Ev.intW_b, Ev.lenW_t, Ev.lenW_r, Ev.wpR_ixT, Ev.wpR_ixR, Ev.wpR_ixS, Ev.listW_t, Ev.tupleW_t, Ev.truW_b, Ev.truW_n, Ev.truW_i, Ev.truW_t, Ev.eqW_ii, Ev.neW_ii, Ev.eqW_ss, Ev.neW_ss, Ev.eqW_bb, Ev.ixN_0, Ev.ixN_1, Ev.ixN_2, Ev.ixN_3, Ev.getE_set_self, Ev.wpR_rng1, Ev.wpR_seq, Ev.wpR_zip, Ev.isi_bb, Ev.isi_bs, Ev.isi_bi, Ev.isi_bt, Ev.isi_bl, Ev.isi_ib, Ev.isi_is, Ev.isi_ii, Ev.isi_it, Ev.isi_il, Ev.isi_sb, Ev.isi_ss, Ev.isi_si, Ev.isi_st, Ev.isi_sl, Ev.isi_tb, Ev.isi_ts, Ev.isi_ti, Ev.isi_tt, Ev.isi_tl, Ev.isi_nb, Ev.isi_ns, Ev.isi_ni, Ev.isi_nt, Ev.isi_nl, Ev.atI_0, Ev.atI_1, Ev.atI_2, Ev.atI_3, Ev.atI_4, Ev.tyOk_s, Ev.slW_to, Ev.slW_from, Ev.addW_SS, Int.toNat_natCast, Ev.tupW, Ev.lstW, Option.some.injEq, exists_eq_left', List.set_set, Option.map_some, W.int.injEq, W.str.injEq, W.loc.injEq, Nat.reduceLeDiff, and_self, Int.reduceLT, Int.reduceLE, Int.reduceNeg, Int.reduceToNat, Int.reduceAdd, Int.reduceMul, Int.reduceSub, decide_eq_true_eq]
    have := x2'.len
    refine h ks S5 _ _ I.x I.st (by omega) (by omega) ?_ (by omega) I.ok I.a5 I.a3
    rintro rfl
    simp at hks; omega
end Lw

set_option linter.all false
set_option maxRecDepth 100000
namespace Lw
open PySem L2 Ev
/-! ### worths -/
inductive Wo where
  | no | tag (t : List Nat) | pr (a b : Wo)
deriving DecidableEq
def Wo.w : Wo → W
  | .no => .non
  | .tag t => tx t
  | .pr a b => .tup [a.w, b.w]
def woL (ks : List Kd) : Nat → List Nat → List Wo
  | 0, _ => []
  | n + 1, nm => match (kdAt ks nm).sh with
    | .tags ts => .no :: ts.map .tag
    | .pair a b => .no :: (woL ks n a).flatMap fun x => (woL ks n b).map (.pr x)
/-- what a kind rests on -/
theorem KOk.sub {L1 L2 : List Nat} {top : Int} {ks : List Kd} (h : KOk L1 L2 top ks) : ∀ k ∈ ks, 0 ≤ k.dep ∧ k.dep ≤ 2 ∧ match k.sh with
    | .tags ts => k.cnt = 1 + (ts.length : Int) ∧ 1 ≤ ts.length ∧ ts.length ≤ 4
    | .pair a b => ∃ x ∈ ks, ∃ y ∈ ks, x.nm = a ∧ y.nm = b ∧ 0 ≤ x.dep ∧ x.dep < k.dep ∧ 0 ≤ y.dep ∧ y.dep < k.dep ∧ k.cnt = 1 + x.cnt * y.cnt := by
  induction h with
  | nil => intro k hk; cases hk
  | @tags ks nm ts h hw hn h1 h4 hd ht hf ih =>
    intro k hk
    rcases List.mem_append.mp hk with hk | hk
    · obtain ⟨a1, a2, a3⟩ := ih k hk
      refine ⟨a1, a2, ?_⟩
      cases e : k.sh with
      | tags ts => rw [e] at a3; exact a3
      | pair a b =>
        rw [e] at a3
        obtain ⟨x, hx, y, hy, r⟩ := a3
        exact ⟨x, List.mem_append_left _ hx, y, List.mem_append_left _ hy, r⟩
    · obtain rfl := List.mem_singleton.mp hk
      exact ⟨Int.le_refl _, (by decide : (0 : Int) ≤ 2), rfl, h1, h4⟩
  | @pair ks nm a b h hw hn ha hb h2 ht hf ih =>
    intro k hk
    rcases List.mem_append.mp hk with hk | hk
    · obtain ⟨a1, a2, a3⟩ := ih k hk
      refine ⟨a1, a2, ?_⟩
      cases e : k.sh with
      | tags ts => rw [e] at a3; exact a3
      | pair a b =>
        rw [e] at a3
        obtain ⟨x, hx, y, hy, r⟩ := a3
        exact ⟨x, List.mem_append_left _ hx, y, List.mem_append_left _ hy, r⟩
    · obtain rfl := List.mem_singleton.mp hk
      have d1 := (ih a ha).1
      have d2 := (ih b hb).1
      refine ⟨?_, h2, a, List.mem_append_left _ ha, b, List.mem_append_left _ hb, rfl, rfl, d1, ?_, d2, ?_, rfl⟩
      · show (0 : Int) ≤ 1 + (if b.dep > a.dep then b.dep else a.dep)
        split <;> omega
      · show a.dep < 1 + (if b.dep > a.dep then b.dep else a.dep)
        split <;> omega
      · show b.dep < 1 + (if b.dep > a.dep then b.dep else a.dep)
        split <;> omega
theorem flatMap_len {A B C : Type} {f : A → B → C} {l : List A} {m : List B} : (l.flatMap fun x => m.map (f x)).length = l.length * m.length := by
  induction l with
  | nil => simp
  | cons a l ih => rw [List.flatMap_cons, List.length_append, ih, List.length_map, List.length_cons, Nat.add_mul, Nat.one_mul, Nat.add_comm]
theorem woL_len {L1 L2 : List Nat} {top : Int} {ks : List Kd} (h : KOk L1 L2 top ks) : ∀ (n : Nat) (k : Kd), k ∈ ks → k.dep < n → ((woL ks n k.nm).length : Int) = k.cnt
  | 0, k, hk, hd => by have := (h.sub k hk).1; omega
  | n + 1, k, hk, hd => by
    have s := (h.sub k hk).2.2
    unfold woL
    rw [kdAt_of h.nd hk]
    cases e : k.sh with
    | tags ts =>
      rw [e] at s
      dsimp only
      rw [List.length_cons, List.length_map, s.1]; omega
    | pair a b =>
      rw [e] at s
      obtain ⟨x, hx, y, hy, rfl, rfl, _, h1, _, h2, hc⟩ := s
      dsimp only
      rw [List.length_cons, flatMap_len]
      have e1 := woL_len h n x hx (by omega)
      have e2 := woL_len h n y hy (by omega)
      rw [hc, ← e1, ← e2]
      push_cast; omega
abbrev shD (ks : List Kd) : List (W × W) := ks.map fun k => (.str (SX.S k.nm), k.sh.w)
theorem sh_at {ks : List Kd} {k : Kd} (hn : (ks.map Kd.nm).Nodup) (h : k ∈ ks) : dlook (shD ks) (.inr (SX.S k.nm)) = some k.sh.w := dlook_some (f := fun k : Kd => SX.S k.nm) (g := fun k => k.sh.w) h (nmS_nd hn)
theorem woL_w (ks : List Kd) (ts : List (List Nat)) : (Wo.no :: ts.map Wo.tag).map Wo.w = .non :: ts.map tx := by
  rw [List.map_cons, List.map_map]; rfl
theorem worths_ok {L1 L2 : List Nat} {top : Int} {ks : List Kd} (ht : top ≤ 1000) (h : KOk L1 L2 top ks) {p : Nat} : ∀ (d n : Nat) (k : Kd) (S : Sto) (Q : W → Sto → Prop), k ∈ ks → k.dep < d → d ≤ n → S[p]? = some (.dct (shD ks)) →
    (∀ (q : Nat) (S' : Sto), Xt [] S S' → S.length ≤ q → S'[q]? = some (.lst ((woL ks d k.nm).map Wo.w)) → Q (.loc q) S') → wpR (call n .f_law_worths [.loc p, tx k.nm] S) Q
  | 0, n, k, S, Q, hk, hd, _, _, _ => by have := (h.sub k hk).1; omega
  | d + 1, n, k, S, Q, hk, hd, hn, hp, hq => by
    obtain ⟨n, rfl⟩ : ∃ m, n = m + 1 := ⟨n - 1, by omega⟩
    have s := (h.sub k hk).2.2
    unfold woL at hq
    rw [kdAt_of h.nd hk] at hq
    rw [call_s, body]
    try simp (maxSteps := 500000) (implicitDefEqProofs := false) (disch := omega) only [Ev.wpR_ok, Ev.wpR_no, Ev.wpR_bind, Ev.wpR_ite, Ev.wpS_nx, Ev.wpS_rt, Ev.Kn_nx, Ev.Kn_rt, Ev.Kn_bk, Ev.Kn_ct, Ev.wpS_seq, Ev.wpS_ret, Ev.wpS_expr, Ev.wpS_set, Ev.wpS_ite, Ev.wpS_if, Ev.wpS_nil, Ev.wpS_cnt, Ev.wpS_brk, Ev.wpS_retN, Ev.wpS_asg, Ev.wpS_put, Ev.wpR_run, Ev.onRet_nx, Ev.onRet_rt, Ev.onNx_nx, Ev.onNx_ct, Ev.onNx_bk, Ev.onNx_rt, Ev.var_0, Ev.var_S, Ev.wpR_lc, Ev.wpS_for, Ev.e1, Ev.e2, Ev.eL, Ev.eC, Ev.aNil, Ev.aCons, Ev.bTest, Ev.bAnd, Ev.bOr, Ev.bNot, Ev.bTru, Ev.vAnd, Ev.vOr, Ev.vNot, Ev.eIf, Ev.bYes, Ev.eM, Ev.eSl, Ev.oNone, Ev.oSome, Ev.dnewW, Ev.startE, Ev.wipeE, List.map_cons, List.map_nil, List.length_cons, List.length_nil, List.replicate, List.cons_append, List.nil_append, Nat.reduceAdd, Nat.reduceSub, List.set_cons_zero, List.set_cons_succ, if_true, if_false, Ev.ifF, true_and, and_true, Bool.false_eq_true, Bool.not_true, Bool.not_false, reduceIte, Nat.zero_add, Ev.addW_ii, Ev.addW_tt, Ev.subW_ii, Ev.mulW_ii, Ev.modW_ii, Ev.fdivW_ii, Ev.powW_ii, Ev.negW_i, Ev.cmpI_ii, Ev.isW_n, Ev.isnW_n, Ev.isNon_n, Ev.isNon_b, Ev.isNon_i, Ev.isNon_s, Ev.isNon_t, Ev.isNon_l, Ev.max2W_ii, Ev.min2W_ii, Ev.intW_i, Ev.intW_b, Ev.lenW_t, Ev.lenW_r, Ev.wpR_ixT, Ev.wpR_ixR, Ev.wpR_ixS, Ev.listW_t, Ev.tupleW_t, Ev.truW_b, Ev.truW_n, Ev.truW_i, Ev.truW_t, Ev.eqW_ii, Ev.neW_ii, Ev.eqW_ss, Ev.neW_ss, Ev.eqW_bb, Ev.ixN_0, Ev.ixN_1, Ev.ixN_2, Ev.ixN_3, Ev.getE_set_self, Ev.wpR_rng1, Ev.wpR_seq, Ev.wpR_zip, Ev.isi_bb, Ev.isi_bs, Ev.isi_bi, Ev.isi_bt, Ev.isi_bl, Ev.isi_ib, Ev.isi_is, Ev.isi_ii, Ev.isi_it, Ev.isi_il, Ev.isi_sb, Ev.isi_ss, Ev.isi_si, Ev.isi_st, Ev.isi_sl, Ev.isi_tb, Ev.isi_ts, Ev.isi_ti, Ev.isi_tt, Ev.isi_tl, Ev.isi_nb, Ev.isi_ns, Ev.isi_ni, Ev.isi_nt, Ev.isi_nl, Ev.atI_0, Ev.atI_1, Ev.atI_2, Ev.atI_3, Ev.atI_4, Ev.tyOk_s, Ev.slW_to, Ev.slW_from, Ev.addW_SS, Int.toNat_natCast, Ev.tupW, Ev.lstW, Option.some.injEq, exists_eq_left', List.set_set, Option.map_some, W.int.injEq, W.str.injEq, W.loc.injEq, Nat.reduceLeDiff, and_self, Int.reduceLT, Int.reduceLE, Int.reduceNeg, Int.reduceToNat, Int.reduceAdd, Int.reduceMul, Int.reduceSub, decide_eq_true_eq, m_f_law_worths, wpR_ixD hp key_str, sh_at h.nd hk]
    cases e : k.sh with
    | tags ts =>
      rw [e] at s hq
      try simp (maxSteps := 500000) (implicitDefEqProofs := false) (disch := omega) only [Ev.wpR_ok, Ev.wpR_no, Ev.wpR_bind, Ev.wpR_ite, Ev.wpS_nx, Ev.wpS_rt, Ev.Kn_nx, Ev.Kn_rt, Ev.Kn_bk, Ev.Kn_ct, Ev.wpS_seq, Ev.wpS_ret, Ev.wpS_expr, Ev.wpS_set, Ev.wpS_ite, Ev.wpS_if, Ev.wpS_nil, Ev.wpS_cnt, Ev.wpS_brk, Ev.wpS_retN, Ev.wpS_asg, Ev.wpS_put, Ev.wpR_run, Ev.onRet_nx, Ev.onRet_rt, Ev.onNx_nx, Ev.onNx_ct, Ev.onNx_bk, Ev.onNx_rt, Ev.var_0, Ev.var_S, Ev.wpR_lc, Ev.wpS_for, Ev.e1, Ev.e2, Ev.eL, Ev.eC, Ev.aNil, Ev.aCons, Ev.bTest, Ev.bAnd, Ev.bOr, Ev.bNot, Ev.bTru, Ev.vAnd, Ev.vOr, Ev.vNot, Ev.eIf, Ev.bYes, Ev.eM, Ev.eSl, Ev.oNone, Ev.oSome, Ev.dnewW, Ev.startE, Ev.wipeE, List.map_cons, List.map_nil, List.length_cons, List.length_nil, List.replicate, List.cons_append, List.nil_append, Nat.reduceAdd, Nat.reduceSub, List.set_cons_zero, List.set_cons_succ, if_true, if_false, Ev.ifF, true_and, and_true, Bool.false_eq_true, Bool.not_true, Bool.not_false, reduceIte, Nat.zero_add, Ev.addW_ii, Ev.addW_tt, Ev.subW_ii, Ev.mulW_ii, Ev.modW_ii, Ev.fdivW_ii, Ev.powW_ii, Ev.negW_i, Ev.cmpI_ii, Ev.isW_n, Ev.isnW_n, Ev.isNon_n, Ev.isNon_b, Ev.isNon_i, Ev.isNon_s, Ev.isNon_t, Ev.isNon_l, Ev.max2W_ii, Ev.min2W_ii, Ev.intW_i, Ev.intW_b, Ev.lenW_t, Ev.lenW_r, Ev.wpR_ixT, Ev.wpR_ixR, Ev.wpR_ixS, Ev.listW_t, Ev.tupleW_t, Ev.truW_b, Ev.truW_n, Ev.truW_i, Ev.truW_t, Ev.eqW_ii, Ev.neW_ii, Ev.eqW_ss, Ev.neW_ss, Ev.eqW_bb, Ev.ixN_0, Ev.ixN_1, Ev.ixN_2, Ev.ixN_3, Ev.getE_set_self, Ev.wpR_rng1, Ev.wpR_seq, Ev.wpR_zip, Ev.isi_bb, Ev.isi_bs, Ev.isi_bi, Ev.isi_bt, Ev.isi_bl, Ev.isi_ib, Ev.isi_is, Ev.isi_ii, Ev.isi_it, Ev.isi_il, Ev.isi_sb, Ev.isi_ss, Ev.isi_si, Ev.isi_st, Ev.isi_sl, Ev.isi_tb, Ev.isi_ts, Ev.isi_ti, Ev.isi_tt, Ev.isi_tl, Ev.isi_nb, Ev.isi_ns, Ev.isi_ni, Ev.isi_nt, Ev.isi_nl, Ev.atI_0, Ev.atI_1, Ev.atI_2, Ev.atI_3, Ev.atI_4, Ev.tyOk_s, Ev.slW_to, Ev.slW_from, Ev.addW_SS, Int.toNat_natCast, Ev.tupW, Ev.lstW, Option.some.injEq, exists_eq_left', List.set_set, Option.map_some, W.int.injEq, W.str.injEq, W.loc.injEq, Nat.reduceLeDiff, and_self, Int.reduceLT, Int.reduceLE, Int.reduceNeg, Int.reduceToNat, Int.reduceAdd, Int.reduceMul, Int.reduceSub, decide_eq_true_eq, Sh.w]
      rw [if_pos (by decide)]
      have e1 : ((S ++ [O.lst [W.non]]) ++ [O.lst (ts.map tx)])[S.length]? = some (.lst [W.non]) := at_app at_new'
      have e2 : ((S ++ [O.lst [W.non]]) ++ [O.lst (ts.map tx)])[(S ++ [O.lst [W.non]]).length]? = some (.lst (ts.map tx)) := at_new'
      rw [addW_l e1 e2 (by rw [List.length_map, List.length_singleton]; omega), wpR_ok]
      refine hq _ _ ((Xt.app.appI).appI) (by simp; try omega) ?_
      rw [at_new', woL_w ks]; rfl
    | pair a b =>
      rw [e] at s hq
      obtain ⟨x, hx, y, hy, rfl, rfl, hx0, hxd, hy0, hyd, hc⟩ := s
      have lx := woL_len h d x hx (by omega)
      have ly := woL_len h d y hy (by omega)
      have cx := h.cnt x hx
      have cy := h.cnt y hy
      try simp (maxSteps := 500000) (implicitDefEqProofs := false) (disch := omega) only [Ev.wpR_ok, Ev.wpR_no, Ev.wpR_bind, Ev.wpR_ite, Ev.wpS_nx, Ev.wpS_rt, Ev.Kn_nx, Ev.Kn_rt, Ev.Kn_bk, Ev.Kn_ct, Ev.wpS_seq, Ev.wpS_ret, Ev.wpS_expr, Ev.wpS_set, Ev.wpS_ite, Ev.wpS_if, Ev.wpS_nil, Ev.wpS_cnt, Ev.wpS_brk, Ev.wpS_retN, Ev.wpS_asg, Ev.wpS_put, Ev.wpR_run, Ev.onRet_nx, Ev.onRet_rt, Ev.onNx_nx, Ev.onNx_ct, Ev.onNx_bk, Ev.onNx_rt, Ev.var_0, Ev.var_S, Ev.wpR_lc, Ev.wpS_for, Ev.e1, Ev.e2, Ev.eL, Ev.eC, Ev.aNil, Ev.aCons, Ev.bTest, Ev.bAnd, Ev.bOr, Ev.bNot, Ev.bTru, Ev.vAnd, Ev.vOr, Ev.vNot, Ev.eIf, Ev.bYes, Ev.eM, Ev.eSl, Ev.oNone, Ev.oSome, Ev.dnewW, Ev.startE, Ev.wipeE, List.map_cons, List.map_nil, List.length_cons, List.length_nil, List.replicate, List.cons_append, List.nil_append, Nat.reduceAdd, Nat.reduceSub, List.set_cons_zero, List.set_cons_succ, if_true, if_false, Ev.ifF, true_and, and_true, Bool.false_eq_true, Bool.not_true, Bool.not_false, reduceIte, Nat.zero_add, Ev.addW_ii, Ev.addW_tt, Ev.subW_ii, Ev.mulW_ii, Ev.modW_ii, Ev.fdivW_ii, Ev.powW_ii, Ev.negW_i, Ev.cmpI_ii, Ev.isW_n, Ev.isnW_n, Ev.isNon_n, Ev.isNon_b, Ev.isNon_i, Ev.isNon_s, Ev.isNon_t, Ev.isNon_l, Ev.max2W_ii, Ev.min2W_ii, Ev.intW_i, Ev.intW_b, Ev.lenW_t, Ev.lenW_r, Ev.wpR_ixT, Ev.wpR_ixR, Ev.wpR_ixS, Ev.listW_t, Ev.tupleW_t, Ev.truW_b, Ev.truW_n, Ev.truW_i, Ev.truW_t, Ev.eqW_ii, Ev.neW_ii, Ev.eqW_ss, Ev.neW_ss, Ev.eqW_bb, Ev.ixN_0, Ev.ixN_1, Ev.ixN_2, Ev.ixN_3, Ev.getE_set_self, Ev.wpR_rng1, Ev.wpR_seq, Ev.wpR_zip, Ev.isi_bb, Ev.isi_bs, Ev.isi_bi, Ev.isi_bt, Ev.isi_bl, Ev.isi_ib, Ev.isi_is, Ev.isi_ii, Ev.isi_it, Ev.isi_il, Ev.isi_sb, Ev.isi_ss, Ev.isi_si, Ev.isi_st, Ev.isi_sl, Ev.isi_tb, Ev.isi_ts, Ev.isi_ti, Ev.isi_tt, Ev.isi_tl, Ev.isi_nb, Ev.isi_ns, Ev.isi_ni, Ev.isi_nt, Ev.isi_nl, Ev.atI_0, Ev.atI_1, Ev.atI_2, Ev.atI_3, Ev.atI_4, Ev.tyOk_s, Ev.slW_to, Ev.slW_from, Ev.addW_SS, Int.toNat_natCast, Ev.tupW, Ev.lstW, Option.some.injEq, exists_eq_left', List.set_set, Option.map_some, W.int.injEq, W.str.injEq, W.loc.injEq, Nat.reduceLeDiff, and_self, Int.reduceLT, Int.reduceLE, Int.reduceNeg, Int.reduceToNat, Int.reduceAdd, Int.reduceMul, Int.reduceSub, decide_eq_true_eq, Sh.w]
      rw [if_neg (by decide)]
      try simp (maxSteps := 500000) (implicitDefEqProofs := false) (disch := omega) only [Ev.wpR_ok, Ev.wpR_no, Ev.wpR_bind, Ev.wpR_ite, Ev.wpS_nx, Ev.wpS_rt, Ev.Kn_nx, Ev.Kn_rt, Ev.Kn_bk, Ev.Kn_ct, Ev.wpS_seq, Ev.wpS_ret, Ev.wpS_expr, Ev.wpS_set, Ev.wpS_ite, Ev.wpS_if, Ev.wpS_nil, Ev.wpS_cnt, Ev.wpS_brk, Ev.wpS_retN, Ev.wpS_asg, Ev.wpS_put, Ev.wpR_run, Ev.onRet_nx, Ev.onRet_rt, Ev.onNx_nx, Ev.onNx_ct, Ev.onNx_bk, Ev.onNx_rt, Ev.var_0, Ev.var_S, Ev.wpR_lc, Ev.wpS_for, Ev.e1, Ev.e2, Ev.eL, Ev.eC, Ev.aNil, Ev.aCons, Ev.bTest, Ev.bAnd, Ev.bOr, Ev.bNot, Ev.bTru, Ev.vAnd, Ev.vOr, Ev.vNot, Ev.eIf, Ev.bYes, Ev.eM, Ev.eSl, Ev.oNone, Ev.oSome, Ev.dnewW, Ev.startE, Ev.wipeE, List.map_cons, List.map_nil, List.length_cons, List.length_nil, List.replicate, List.cons_append, List.nil_append, Nat.reduceAdd, Nat.reduceSub, List.set_cons_zero, List.set_cons_succ, if_true, if_false, Ev.ifF, true_and, and_true, Bool.false_eq_true, Bool.not_true, Bool.not_false, reduceIte, Nat.zero_add, Ev.addW_ii, Ev.addW_tt, Ev.subW_ii, Ev.mulW_ii, Ev.modW_ii, Ev.fdivW_ii, Ev.powW_ii, Ev.negW_i, Ev.cmpI_ii, Ev.isW_n, Ev.isnW_n, Ev.isNon_n, Ev.isNon_b, Ev.isNon_i, Ev.isNon_s, Ev.isNon_t, Ev.isNon_l, Ev.max2W_ii, Ev.min2W_ii, Ev.intW_i, Ev.intW_b, Ev.lenW_t, Ev.lenW_r, Ev.wpR_ixT, Ev.wpR_ixR, Ev.wpR_ixS, Ev.listW_t, Ev.tupleW_t, Ev.truW_b, Ev.truW_n, Ev.truW_i, Ev.truW_t, Ev.eqW_ii, Ev.neW_ii, Ev.eqW_ss, Ev.neW_ss, Ev.eqW_bb, Ev.ixN_0, Ev.ixN_1, Ev.ixN_2, Ev.ixN_3, Ev.getE_set_self, Ev.wpR_rng1, Ev.wpR_seq, Ev.wpR_zip, Ev.isi_bb, Ev.isi_bs, Ev.isi_bi, Ev.isi_bt, Ev.isi_bl, Ev.isi_ib, Ev.isi_is, Ev.isi_ii, Ev.isi_it, Ev.isi_il, Ev.isi_sb, Ev.isi_ss, Ev.isi_si, Ev.isi_st, Ev.isi_sl, Ev.isi_tb, Ev.isi_ts, Ev.isi_ti, Ev.isi_tt, Ev.isi_tl, Ev.isi_nb, Ev.isi_ns, Ev.isi_ni, Ev.isi_nt, Ev.isi_nl, Ev.atI_0, Ev.atI_1, Ev.atI_2, Ev.atI_3, Ev.atI_4, Ev.tyOk_s, Ev.slW_to, Ev.slW_from, Ev.addW_SS, Int.toNat_natCast, Ev.tupW, Ev.lstW, Option.some.injEq, exists_eq_left', List.set_set, Option.map_some, W.int.injEq, W.str.injEq, W.loc.injEq, Nat.reduceLeDiff, and_self, Int.reduceLT, Int.reduceLE, Int.reduceNeg, Int.reduceToNat, Int.reduceAdd, Int.reduceMul, Int.reduceSub, decide_eq_true_eq]
      refine worths_ok ht h d n x _ _ hx (by omega) (by omega) (at_app hp) fun q1 S1 x1 l1 e1 => ?_
      have hp1 := x1.get0 (at_app (T := [O.lst [W.non]]) hp)
      have e3 : S1[S.length]? = some (.lst [W.non]) := x1.get0 at_new'
      try simp (maxSteps := 500000) (implicitDefEqProofs := false) (disch := omega) only [Ev.wpR_ok, Ev.wpR_no, Ev.wpR_bind, Ev.wpR_ite, Ev.wpS_nx, Ev.wpS_rt, Ev.Kn_nx, Ev.Kn_rt, Ev.Kn_bk, Ev.Kn_ct, Ev.wpS_seq, Ev.wpS_ret, Ev.wpS_expr, Ev.wpS_set, Ev.wpS_ite, Ev.wpS_if, Ev.wpS_nil, Ev.wpS_cnt, Ev.wpS_brk, Ev.wpS_retN, Ev.wpS_asg, Ev.wpS_put, Ev.wpR_run, Ev.onRet_nx, Ev.onRet_rt, Ev.onNx_nx, Ev.onNx_ct, Ev.onNx_bk, Ev.onNx_rt, Ev.var_0, Ev.var_S, Ev.wpR_lc, Ev.wpS_for, Ev.e1, Ev.e2, Ev.eL, Ev.eC, Ev.aNil, Ev.aCons, Ev.bTest, Ev.bAnd, Ev.bOr, Ev.bNot, Ev.bTru, Ev.vAnd, Ev.vOr, Ev.vNot, Ev.eIf, Ev.bYes, Ev.eM, Ev.eSl, Ev.oNone, Ev.oSome, Ev.dnewW, Ev.startE, Ev.wipeE, List.map_cons, List.map_nil, List.length_cons, List.length_nil, List.replicate, List.cons_append, List.nil_append, Nat.reduceAdd, Nat.reduceSub, List.set_cons_zero, List.set_cons_succ, if_true, if_false, Ev.ifF, true_and, and_true, Bool.false_eq_true, Bool.not_true, Bool.not_false, reduceIte, Nat.zero_add, Ev.addW_ii, Ev.addW_tt, Ev.subW_ii, Ev.mulW_ii, Ev.modW_ii, Ev.fdivW_ii, Ev.powW_ii, Ev.negW_i, Ev.cmpI_ii, Ev.isW_n, Ev.isnW_n, Ev.isNon_n, Ev.isNon_b, Ev.isNon_i, Ev.isNon_s, Ev.isNon_t, Ev.isNon_l, Ev.max2W_ii, Ev.min2W_ii, Ev.intW_i, Ev.intW_b, Ev.lenW_t, Ev.lenW_r, Ev.wpR_ixT, Ev.wpR_ixR, Ev.wpR_ixS, Ev.listW_t, Ev.tupleW_t, Ev.truW_b, Ev.truW_n, Ev.truW_i, Ev.truW_t, Ev.eqW_ii, Ev.neW_ii, Ev.eqW_ss, Ev.neW_ss, Ev.eqW_bb, Ev.ixN_0, Ev.ixN_1, Ev.ixN_2, Ev.ixN_3, Ev.getE_set_self, Ev.wpR_rng1, Ev.wpR_seq, Ev.wpR_zip, Ev.isi_bb, Ev.isi_bs, Ev.isi_bi, Ev.isi_bt, Ev.isi_bl, Ev.isi_ib, Ev.isi_is, Ev.isi_ii, Ev.isi_it, Ev.isi_il, Ev.isi_sb, Ev.isi_ss, Ev.isi_si, Ev.isi_st, Ev.isi_sl, Ev.isi_tb, Ev.isi_ts, Ev.isi_ti, Ev.isi_tt, Ev.isi_tl, Ev.isi_nb, Ev.isi_ns, Ev.isi_ni, Ev.isi_nt, Ev.isi_nl, Ev.atI_0, Ev.atI_1, Ev.atI_2, Ev.atI_3, Ev.atI_4, Ev.tyOk_s, Ev.slW_to, Ev.slW_from, Ev.addW_SS, Int.toNat_natCast, Ev.tupW, Ev.lstW, Option.some.injEq, exists_eq_left', List.set_set, Option.map_some, W.int.injEq, W.str.injEq, W.loc.injEq, Nat.reduceLeDiff, and_self, Int.reduceLT, Int.reduceLE, Int.reduceNeg, Int.reduceToNat, Int.reduceAdd, Int.reduceMul, Int.reduceSub, decide_eq_true_eq]
      refine ⟨_, seqLen_l e1, ?_⟩
      rw [List.length_map]
      have xs := (Xt.app (M := []) (S := S) (T := [O.lst [W.non]])).trans x1
      have lq : S.length ≤ q1 := by simp at l1; omega
      clear x1 l1
      refine wp_loopN (woL ks d x.nm).length (fun j s S2 => ∃ x4 x5 q3, s = [some (W.loc p), some (tx k.nm), some (Sh.w (.pair x.nm y.nm)), some (.loc q3), x4, x5] ∧ Xt [] S1 S2 ∧ S.length ≤ q3 ∧
        S2[q3]? = some (.lst ((Wo.no :: ((woL ks d x.nm).take j).flatMap fun u => (woL ks d y.nm).map (.pr u)).map Wo.w))) (by omega) ?_ ?_ ?_
      · exact ⟨_, _, _, rfl, .refl, Nat.le_refl _, e3⟩
      · rintro j s S2 hj ⟨x4, x5, q3, rfl, x2, l3, e4⟩
        have gj : (woL ks d x.nm)[j]? = some (woL ks d x.nm)[j] := List.getElem?_eq_getElem hj
        refine ⟨((woL ks d x.nm)[j]).w, _, ?_, rfl, ?_⟩
        · rw [seqIt_l (x2.get0 e1), List.getElem?_map, gj]; rfl
        try simp (maxSteps := 500000) (implicitDefEqProofs := false) (disch := omega) only [Ev.wpR_ok, Ev.wpR_no, Ev.wpR_bind, Ev.wpR_ite, Ev.wpS_nx, Ev.wpS_rt, Ev.Kn_nx, Ev.Kn_rt, Ev.Kn_bk, Ev.Kn_ct, Ev.wpS_seq, Ev.wpS_ret, Ev.wpS_expr, Ev.wpS_set, Ev.wpS_ite, Ev.wpS_if, Ev.wpS_nil, Ev.wpS_cnt, Ev.wpS_brk, Ev.wpS_retN, Ev.wpS_asg, Ev.wpS_put, Ev.wpR_run, Ev.onRet_nx, Ev.onRet_rt, Ev.onNx_nx, Ev.onNx_ct, Ev.onNx_bk, Ev.onNx_rt, Ev.var_0, Ev.var_S, Ev.wpR_lc, Ev.wpS_for, Ev.e1, Ev.e2, Ev.eL, Ev.eC, Ev.aNil, Ev.aCons, Ev.bTest, Ev.bAnd, Ev.bOr, Ev.bNot, Ev.bTru, Ev.vAnd, Ev.vOr, Ev.vNot, Ev.eIf, Ev.bYes, Ev.eM, Ev.eSl, Ev.oNone, Ev.oSome, Ev.dnewW, Ev.startE, Ev.wipeE, List.map_cons, List.map_nil, List.length_cons, List.length_nil, List.replicate, List.cons_append, List.nil_append, Nat.reduceAdd, Nat.reduceSub, List.set_cons_zero, List.set_cons_succ, if_true, if_false, Ev.ifF, true_and, and_true, Bool.false_eq_true, Bool.not_true, Bool.not_false, reduceIte, Nat.zero_add, Ev.addW_ii, Ev.addW_tt, Ev.subW_ii, Ev.mulW_ii, Ev.modW_ii, Ev.fdivW_ii, Ev.powW_ii, Ev.negW_i, Ev.cmpI_ii, Ev.isW_n, Ev.isnW_n, Ev.isNon_n, Ev.isNon_b, Ev.isNon_i, Ev.isNon_s, Ev.isNon_t, Ev.isNon_l, Ev.max2W_ii, Ev.min2W_ii, Ev.intW_i, Ev.intW_b, Ev.lenW_t, Ev.lenW_r, Ev.wpR_ixT, Ev.wpR_ixR, Ev.wpR_ixS, Ev.listW_t, Ev.tupleW_t, Ev.truW_b, Ev.truW_n, Ev.truW_i, Ev.truW_t, Ev.eqW_ii, Ev.neW_ii, Ev.eqW_ss, Ev.neW_ss, Ev.eqW_bb, Ev.ixN_0, Ev.ixN_1, Ev.ixN_2, Ev.ixN_3, Ev.getE_set_self, Ev.wpR_rng1, Ev.wpR_seq, Ev.wpR_zip, Ev.isi_bb, Ev.isi_bs, Ev.isi_bi, Ev.isi_bt, Ev.isi_bl, Ev.isi_ib, Ev.isi_is, Ev.isi_ii, Ev.isi_it, Ev.isi_il, Ev.isi_sb, Ev.isi_ss, Ev.isi_si, Ev.isi_st, Ev.isi_sl, Ev.isi_tb, Ev.isi_ts, Ev.isi_ti, Ev.isi_tt, Ev.isi_tl, Ev.isi_nb, Ev.isi_ns, Ev.isi_ni, Ev.isi_nt, Ev.isi_nl, Ev.atI_0, Ev.atI_1, Ev.atI_2, Ev.atI_3, Ev.atI_4, Ev.tyOk_s, Ev.slW_to, Ev.slW_from, Ev.addW_SS, Int.toNat_natCast, Ev.tupW, Ev.lstW, Option.some.injEq, exists_eq_left', List.set_set, Option.map_some, W.int.injEq, W.str.injEq, W.loc.injEq, Nat.reduceLeDiff, and_self, Int.reduceLT, Int.reduceLE, Int.reduceNeg, Int.reduceToNat, Int.reduceAdd, Int.reduceMul, Int.reduceSub, decide_eq_true_eq, Sh.w]
        refine worths_ok ht h d n y _ _ hy (by omega) (by omega) (x2.get0 hp1) fun q4 S4 x4 l4 e5 => ?_
        try simp (maxSteps := 500000) (implicitDefEqProofs := false) (disch := omega) only [Ev.wpR_ok, Ev.wpR_no, Ev.wpR_bind, Ev.wpR_ite, Ev.wpS_nx, Ev.wpS_rt, Ev.Kn_nx, Ev.Kn_rt, Ev.Kn_bk, Ev.Kn_ct, Ev.wpS_seq, Ev.wpS_ret, Ev.wpS_expr, Ev.wpS_set, Ev.wpS_ite, Ev.wpS_if, Ev.wpS_nil, Ev.wpS_cnt, Ev.wpS_brk, Ev.wpS_retN, Ev.wpS_asg, Ev.wpS_put, Ev.wpR_run, Ev.onRet_nx, Ev.onRet_rt, Ev.onNx_nx, Ev.onNx_ct, Ev.onNx_bk, Ev.onNx_rt, Ev.var_0, Ev.var_S, Ev.wpR_lc, Ev.wpS_for, Ev.e1, Ev.e2, Ev.eL, Ev.eC, Ev.aNil, Ev.aCons, Ev.bTest, Ev.bAnd, Ev.bOr, Ev.bNot, Ev.bTru, Ev.vAnd, Ev.vOr, Ev.vNot, Ev.eIf, Ev.bYes, Ev.eM, Ev.eSl, Ev.oNone, Ev.oSome, Ev.dnewW, Ev.startE, Ev.wipeE, List.map_cons, List.map_nil, List.length_cons, List.length_nil, List.replicate, List.cons_append, List.nil_append, Nat.reduceAdd, Nat.reduceSub, List.set_cons_zero, List.set_cons_succ, if_true, if_false, Ev.ifF, true_and, and_true, Bool.false_eq_true, Bool.not_true, Bool.not_false, reduceIte, Nat.zero_add, Ev.addW_ii, Ev.addW_tt, Ev.subW_ii, Ev.mulW_ii, Ev.modW_ii, Ev.fdivW_ii, Ev.powW_ii, Ev.negW_i, Ev.cmpI_ii, Ev.isW_n, Ev.isnW_n, Ev.isNon_n, Ev.isNon_b, Ev.isNon_i, Ev.isNon_s, Ev.isNon_t, Ev.isNon_l, Ev.max2W_ii, Ev.min2W_ii, Ev.intW_i, Ev.intW_b, Ev.lenW_t, Ev.lenW_r, Ev.wpR_ixT, Ev.wpR_ixR, Ev.wpR_ixS, Ev.listW_t, Ev.tupleW_t, Ev.truW_b, Ev.truW_n, Ev.truW_i, Ev.truW_t, Ev.eqW_ii, Ev.neW_ii, Ev.eqW_ss, Ev.neW_ss, Ev.eqW_bb, Ev.ixN_0, Ev.ixN_1, Ev.ixN_2, Ev.ixN_3, Ev.getE_set_self, Ev.wpR_rng1, Ev.wpR_seq, Ev.wpR_zip, Ev.isi_bb, Ev.isi_bs, Ev.isi_bi, Ev.isi_bt, Ev.isi_bl, Ev.isi_ib, Ev.isi_is, Ev.isi_ii, Ev.isi_it, Ev.isi_il, Ev.isi_sb, Ev.isi_ss, Ev.isi_si, Ev.isi_st, Ev.isi_sl, Ev.isi_tb, Ev.isi_ts, Ev.isi_ti, Ev.isi_tt, Ev.isi_tl, Ev.isi_nb, Ev.isi_ns, Ev.isi_ni, Ev.isi_nt, Ev.isi_nl, Ev.atI_0, Ev.atI_1, Ev.atI_2, Ev.atI_3, Ev.atI_4, Ev.tyOk_s, Ev.slW_to, Ev.slW_from, Ev.addW_SS, Int.toNat_natCast, Ev.tupW, Ev.lstW, Option.some.injEq, exists_eq_left', List.set_set, Option.map_some, W.int.injEq, W.str.injEq, W.loc.injEq, Nat.reduceLeDiff, and_self, Int.reduceLT, Int.reduceLE, Int.reduceNeg, Int.reduceToNat, Int.reduceAdd, Int.reduceMul, Int.reduceSub, decide_eq_true_eq]
        refine ⟨_, seqLen_l e5, ?_⟩
        refine wp_lc_pure (fun v => .tup [((woL ks d x.nm)[j]).w, v]) (fun i => seqIt_l e5) (by rw [List.length_map]; omega) ?_ ?_
        · intro w hw
          exact ⟨_, rfl, rfl, rfl⟩
        · have ltk : ((woL ks d x.nm).take j).length ≤ 1000 := by rw [List.length_take]; omega
          have lmul : ((woL ks d x.nm).take j).length * (woL ks d y.nm).length ≤ 1000 := by
            have h1 := Nat.mul_le_mul_right (woL ks d y.nm).length (show ((woL ks d x.nm).take j).length ≤ (woL ks d x.nm).length by rw [List.length_take]; omega)
            have h2 : (((woL ks d x.nm).length * (woL ks d y.nm).length : Nat) : Int) = x.cnt * y.cnt := by rw [← lx, ← ly]; push_cast; rfl
            have h3 := h.cnt k hk
            omega
          rw [addW_l (at_app (x4.get0 e4)) at_new' (by simp only [List.length_map, List.length_cons, flatMap_len]; omega), wpR_ok]
          refine ⟨_, _, _, rfl, (x2.trans x4).appI.appI, by simp; have := xs.len; have := x2.len; have := x4.len; omega, ?_⟩
          have e6 : (woL ks d x.nm).take (j + 1) = (woL ks d x.nm).take j ++ [(woL ks d x.nm)[j]] := by rw [List.take_succ, gj]; rfl
          rw [at_new', e6]
          generalize (woL ks d x.nm).take j = T
          generalize (woL ks d x.nm)[j] = u
          simp [List.flatMap_append, Function.comp_def, Wo.w]
      · rintro s S2 ⟨x4, x5, q3, rfl, x2, l3, e4⟩
        refine ⟨by rw [seqIt_l (x2.get0 e1), List.getElem?_eq_none (by rw [List.length_map]; exact Nat.le_refl _)], ?_⟩
        try simp (maxSteps := 500000) (implicitDefEqProofs := false) (disch := omega) only [Ev.wpR_ok, Ev.wpR_no, Ev.wpR_bind, Ev.wpR_ite, Ev.wpS_nx, Ev.wpS_rt, Ev.Kn_nx, Ev.Kn_rt, Ev.Kn_bk, Ev.Kn_ct, Ev.wpS_seq, Ev.wpS_ret, Ev.wpS_expr, Ev.wpS_set, Ev.wpS_ite, Ev.wpS_if, Ev.wpS_nil, Ev.wpS_cnt, Ev.wpS_brk, Ev.wpS_retN, Ev.wpS_asg, Ev.wpS_put, Ev.wpR_run, Ev.onRet_nx, Ev.onRet_rt, Ev.onNx_nx, Ev.onNx_ct, Ev.onNx_bk, Ev.onNx_rt, Ev.var_0, Ev.var_S, Ev.wpR_lc, Ev.wpS_for, Ev.e1, Ev.e2, Ev.eL, Ev.eC, Ev.aNil, Ev.aCons, Ev.bTest, Ev.bAnd, Ev.bOr, Ev.bNot, Ev.bTru, Ev.vAnd, Ev.vOr, Ev.vNot, Ev.eIf, Ev.bYes, Ev.eM, Ev.eSl, Ev.oNone, Ev.oSome, Ev.dnewW, Ev.startE, Ev.wipeE, List.map_cons, List.map_nil, List.length_cons, List.length_nil, List.replicate, List.cons_append, List.nil_append, Nat.reduceAdd, Nat.reduceSub, List.set_cons_zero, List.set_cons_succ, if_true, if_false, Ev.ifF, true_and, and_true, Bool.false_eq_true, Bool.not_true, Bool.not_false, reduceIte, Nat.zero_add, Ev.addW_ii, Ev.addW_tt, Ev.subW_ii, Ev.mulW_ii, Ev.modW_ii, Ev.fdivW_ii, Ev.powW_ii, Ev.negW_i, Ev.cmpI_ii, Ev.isW_n, Ev.isnW_n, Ev.isNon_n, Ev.isNon_b, Ev.isNon_i, Ev.isNon_s, Ev.isNon_t, Ev.isNon_l, Ev.max2W_ii, Ev.min2W_ii, Ev.intW_i, Ev.intW_b, Ev.lenW_t, Ev.lenW_r, Ev.wpR_ixT, Ev.wpR_ixR, Ev.wpR_ixS, Ev.listW_t, Ev.tupleW_t, Ev.truW_b, Ev.truW_n, Ev.truW_i, Ev.truW_t, Ev.eqW_ii, Ev.neW_ii, Ev.eqW_ss, Ev.neW_ss, Ev.eqW_bb, Ev.ixN_0, Ev.ixN_1, Ev.ixN_2, Ev.ixN_3, Ev.getE_set_self, Ev.wpR_rng1, Ev.wpR_seq, Ev.wpR_zip, Ev.isi_bb, Ev.isi_bs, Ev.isi_bi, Ev.isi_bt, Ev.isi_bl, Ev.isi_ib, Ev.isi_is, Ev.isi_ii, Ev.isi_it, Ev.isi_il, Ev.isi_sb, Ev.isi_ss, Ev.isi_si, Ev.isi_st, Ev.isi_sl, Ev.isi_tb, Ev.isi_ts, Ev.isi_ti, Ev.isi_tt, Ev.isi_tl, Ev.isi_nb, Ev.isi_ns, Ev.isi_ni, Ev.isi_nt, Ev.isi_nl, Ev.atI_0, Ev.atI_1, Ev.atI_2, Ev.atI_3, Ev.atI_4, Ev.tyOk_s, Ev.slW_to, Ev.slW_from, Ev.addW_SS, Int.toNat_natCast, Ev.tupW, Ev.lstW, Option.some.injEq, exists_eq_left', List.set_set, Option.map_some, W.int.injEq, W.str.injEq, W.loc.injEq, Nat.reduceLeDiff, and_self, Int.reduceLT, Int.reduceLE, Int.reduceNeg, Int.reduceToNat, Int.reduceAdd, Int.reduceMul, Int.reduceSub, decide_eq_true_eq]
        rw [List.take_length] at e4
        exact hq _ _ (xs.trans x2) l3 e4
end Lw

set_option linter.all false
set_option maxRecDepth 100000
namespace Lw
open PySem L2 Ev
set_option maxHeartbeats 2000000 in
theorem same_ok : ∀ (n : Nat) {x y : W} {d : PyData} {S : Sto} {Q : W → Sto → Prop}, Dat S n d x → Dat S n d y → (∀ S', Xt [] S S' → Q (.bl true) S') → wpR (call n .f_law_same [x, y] S) Q
  | 0, _, _, _, _, _, h, _, _ => h.elim
  | n + 1, x, y, d, S, Q, hx, hy, hq => by
    rw [call_s, body]
    cases d with
    | none =>
      obtain rfl : x = .non := hx
      obtain rfl : y = .non := hy
      try simp (maxSteps := 500000) (implicitDefEqProofs := false) (disch := omega) only [↓Ev.wq_aCons, ↓Ev.wq_aNil, ↓Ev.wq_and, ↓Ev.wq_bind, ↓Ev.wq_c, ↓Ev.wq_dnew, ↓Ev.wq_e1, ↓Ev.wq_e2, ↓Ev.wq_eIf, ↓Ev.wq_eL, ↓Ev.wq_eM, ↓Ev.wq_eSl, ↓Ev.wq_in, ↓Ev.wq_ite, ↓Ev.wq_ixR, ↓Ev.wq_ixS, ↓Ev.wq_ixT, ↓Ev.wq_lc, ↓Ev.wq_lst, ↓Ev.wq_no, ↓Ev.wq_not, ↓Ev.wq_oNone, ↓Ev.wq_oSome, ↓Ev.wq_ok, ↓Ev.wq_or, ↓Ev.wq_rng1, ↓Ev.wq_rng2, ↓Ev.wq_run, ↓Ev.wq_seq, ↓Ev.wq_test, ↓Ev.wq_tru, ↓Ev.wq_tup, ↓Ev.wq_vAnd, ↓Ev.wq_vNot, ↓Ev.wq_vOr, ↓Ev.wq_var0, ↓Ev.wq_varS, ↓Ev.wq_yes, ↓Ev.wq_zip, ↓Ev.ws_asg, ↓Ev.ws_brk, ↓Ev.ws_cnt, ↓Ev.ws_expr, ↓Ev.ws_for, ↓Ev.ws_if, ↓Ev.ws_in, ↓Ev.ws_kn, ↓Ev.ws_nil, ↓Ev.ws_nx, ↓Ev.ws_put, ↓Ev.ws_ret, ↓Ev.ws_retN, ↓Ev.ws_rt, ↓Ev.ws_seq, ↓Ev.ws_while, ↓Ev.ws_set, ↓Ev.wo_some, ↓Ev.onB_b, ↓Ev.onI_i, ↓Ev.Kn_rt, ↓Ev.Kn_bk, ↓Ev.Kn_ct, ↓Ev.onRet_nx, ↓Ev.onRet_rt, ↓Ev.onNx_nx, ↓Ev.onNx_ct, ↓Ev.onNx_bk, ↓Ev.onNx_rt, List.map_cons, List.map_nil, List.length_cons, List.length_nil, List.replicate, List.cons_append, List.nil_append, Nat.reduceAdd, Nat.reduceSub, List.set_cons_zero, List.set_cons_succ, if_true, if_false, true_and, and_true, Bool.false_eq_true, Bool.not_true, Bool.not_false, ↓reduceIte, Ev.ifF, Nat.zero_add, Ev.startE, Ev.wipeE, Ev.put_nm, Ev.put_tp, Ev.puts_nil, Ev.puts_cons, Option.bind_some, Ev.seqLen_t, Ev.seqLen_r, Ev.addW_ii, Ev.addW_tt, Ev.subW_ii, Ev.mulW_ii, Ev.modW_ii, Ev.fdivW_ii, Ev.powW_ii, Ev.negW_i, Ev.cmpI_ii, Ev.isW_n, Ev.isnW_n, Ev.isNon_n, Ev.isNon_b, Ev.isNon_i, Ev.isNon_s, Ev.isNon_t, Ev.isNon_l, Ev.max2W_ii, Ev.min2W_ii, Ev.intW_i, Ev.intW_b, Ev.lenW_t, Ev.lenW_r, Ev.listW_t, Ev.tupleW_t, Ev.truW_b, Ev.truW_n, Ev.truW_i, Ev.truW_t, Ev.eqW_ii, Ev.neW_ii, Ev.eqW_ss, Ev.neW_ss, Ev.eqW_bb, Ev.ixN_0, Ev.ixN_1, Ev.ixN_2, Ev.ixN_3, Ev.isi_bb, Ev.isi_bs, Ev.isi_bi, Ev.isi_bt, Ev.isi_bl, Ev.isi_ib, Ev.isi_is, Ev.isi_ii, Ev.isi_it, Ev.isi_il, Ev.isi_sb, Ev.isi_ss, Ev.isi_si, Ev.isi_st, Ev.isi_sl, Ev.isi_tb, Ev.isi_ts, Ev.isi_ti, Ev.isi_tt, Ev.isi_tl, Ev.isi_nb, Ev.isi_ns, Ev.isi_ni, Ev.isi_nt, Ev.isi_nl, Ev.atI_0, Ev.atI_1, Ev.atI_2, Ev.atI_3, Ev.atI_4, Ev.tyOk_s, Ev.slW_to, Ev.slW_from, Ev.addW_SS, Int.toNat_natCast, Option.some.injEq, List.set_set, Option.map_some, W.int.injEq, W.str.injEq, W.loc.injEq, Nat.reduceLeDiff, and_self, Int.reduceLT, Int.reduceLE, Int.reduceNeg, Int.reduceToNat, Int.reduceAdd, Int.reduceMul, Int.reduceSub, decide_eq_true_eq, m_f_law_same]
      exact hq _ .refl
    | bool b =>
      obtain rfl : x = .bl b := hx
      obtain rfl : y = .bl b := hy
      try simp (maxSteps := 500000) (implicitDefEqProofs := false) (disch := omega) only [↓Ev.wq_aCons, ↓Ev.wq_aNil, ↓Ev.wq_and, ↓Ev.wq_bind, ↓Ev.wq_c, ↓Ev.wq_dnew, ↓Ev.wq_e1, ↓Ev.wq_e2, ↓Ev.wq_eIf, ↓Ev.wq_eL, ↓Ev.wq_eM, ↓Ev.wq_eSl, ↓Ev.wq_in, ↓Ev.wq_ite, ↓Ev.wq_ixR, ↓Ev.wq_ixS, ↓Ev.wq_ixT, ↓Ev.wq_lc, ↓Ev.wq_lst, ↓Ev.wq_no, ↓Ev.wq_not, ↓Ev.wq_oNone, ↓Ev.wq_oSome, ↓Ev.wq_ok, ↓Ev.wq_or, ↓Ev.wq_rng1, ↓Ev.wq_rng2, ↓Ev.wq_run, ↓Ev.wq_seq, ↓Ev.wq_test, ↓Ev.wq_tru, ↓Ev.wq_tup, ↓Ev.wq_vAnd, ↓Ev.wq_vNot, ↓Ev.wq_vOr, ↓Ev.wq_var0, ↓Ev.wq_varS, ↓Ev.wq_yes, ↓Ev.wq_zip, ↓Ev.ws_asg, ↓Ev.ws_brk, ↓Ev.ws_cnt, ↓Ev.ws_expr, ↓Ev.ws_for, ↓Ev.ws_if, ↓Ev.ws_in, ↓Ev.ws_kn, ↓Ev.ws_nil, ↓Ev.ws_nx, ↓Ev.ws_put, ↓Ev.ws_ret, ↓Ev.ws_retN, ↓Ev.ws_rt, ↓Ev.ws_seq, ↓Ev.ws_while, ↓Ev.ws_set, ↓Ev.wo_some, ↓Ev.onB_b, ↓Ev.onI_i, ↓Ev.Kn_rt, ↓Ev.Kn_bk, ↓Ev.Kn_ct, ↓Ev.onRet_nx, ↓Ev.onRet_rt, ↓Ev.onNx_nx, ↓Ev.onNx_ct, ↓Ev.onNx_bk, ↓Ev.onNx_rt, List.map_cons, List.map_nil, List.length_cons, List.length_nil, List.replicate, List.cons_append, List.nil_append, Nat.reduceAdd, Nat.reduceSub, List.set_cons_zero, List.set_cons_succ, if_true, if_false, true_and, and_true, Bool.false_eq_true, Bool.not_true, Bool.not_false, ↓reduceIte, Ev.ifF, Nat.zero_add, Ev.startE, Ev.wipeE, Ev.put_nm, Ev.put_tp, Ev.puts_nil, Ev.puts_cons, Option.bind_some, Ev.seqLen_t, Ev.seqLen_r, Ev.addW_ii, Ev.addW_tt, Ev.subW_ii, Ev.mulW_ii, Ev.modW_ii, Ev.fdivW_ii, Ev.powW_ii, Ev.negW_i, Ev.cmpI_ii, Ev.isW_n, Ev.isnW_n, Ev.isNon_n, Ev.isNon_b, Ev.isNon_i, Ev.isNon_s, Ev.isNon_t, Ev.isNon_l, Ev.max2W_ii, Ev.min2W_ii, Ev.intW_i, Ev.intW_b, Ev.lenW_t, Ev.lenW_r, Ev.listW_t, Ev.tupleW_t, Ev.truW_b, Ev.truW_n, Ev.truW_i, Ev.truW_t, Ev.eqW_ii, Ev.neW_ii, Ev.eqW_ss, Ev.neW_ss, Ev.eqW_bb, Ev.ixN_0, Ev.ixN_1, Ev.ixN_2, Ev.ixN_3, Ev.isi_bb, Ev.isi_bs, Ev.isi_bi, Ev.isi_bt, Ev.isi_bl, Ev.isi_ib, Ev.isi_is, Ev.isi_ii, Ev.isi_it, Ev.isi_il, Ev.isi_sb, Ev.isi_ss, Ev.isi_si, Ev.isi_st, Ev.isi_sl, Ev.isi_tb, Ev.isi_ts, Ev.isi_ti, Ev.isi_tt, Ev.isi_tl, Ev.isi_nb, Ev.isi_ns, Ev.isi_ni, Ev.isi_nt, Ev.isi_nl, Ev.atI_0, Ev.atI_1, Ev.atI_2, Ev.atI_3, Ev.atI_4, Ev.tyOk_s, Ev.slW_to, Ev.slW_from, Ev.addW_SS, Int.toNat_natCast, Option.some.injEq, List.set_set, Option.map_some, W.int.injEq, W.str.injEq, W.loc.injEq, Nat.reduceLeDiff, and_self, Int.reduceLT, Int.reduceLE, Int.reduceNeg, Int.reduceToNat, Int.reduceAdd, Int.reduceMul, Int.reduceSub, decide_eq_true_eq, m_f_law_same, beq_self_eq_true]
      exact hq _ .refl
    | int b =>
      obtain rfl : x = .int b := hx
      obtain rfl : y = .int b := hy
      try simp (maxSteps := 500000) (implicitDefEqProofs := false) (disch := omega) only [↓Ev.wq_aCons, ↓Ev.wq_aNil, ↓Ev.wq_and, ↓Ev.wq_bind, ↓Ev.wq_c, ↓Ev.wq_dnew, ↓Ev.wq_e1, ↓Ev.wq_e2, ↓Ev.wq_eIf, ↓Ev.wq_eL, ↓Ev.wq_eM, ↓Ev.wq_eSl, ↓Ev.wq_in, ↓Ev.wq_ite, ↓Ev.wq_ixR, ↓Ev.wq_ixS, ↓Ev.wq_ixT, ↓Ev.wq_lc, ↓Ev.wq_lst, ↓Ev.wq_no, ↓Ev.wq_not, ↓Ev.wq_oNone, ↓Ev.wq_oSome, ↓Ev.wq_ok, ↓Ev.wq_or, ↓Ev.wq_rng1, ↓Ev.wq_rng2, ↓Ev.wq_run, ↓Ev.wq_seq, ↓Ev.wq_test, ↓Ev.wq_tru, ↓Ev.wq_tup, ↓Ev.wq_vAnd, ↓Ev.wq_vNot, ↓Ev.wq_vOr, ↓Ev.wq_var0, ↓Ev.wq_varS, ↓Ev.wq_yes, ↓Ev.wq_zip, ↓Ev.ws_asg, ↓Ev.ws_brk, ↓Ev.ws_cnt, ↓Ev.ws_expr, ↓Ev.ws_for, ↓Ev.ws_if, ↓Ev.ws_in, ↓Ev.ws_kn, ↓Ev.ws_nil, ↓Ev.ws_nx, ↓Ev.ws_put, ↓Ev.ws_ret, ↓Ev.ws_retN, ↓Ev.ws_rt, ↓Ev.ws_seq, ↓Ev.ws_while, ↓Ev.ws_set, ↓Ev.wo_some, ↓Ev.onB_b, ↓Ev.onI_i, ↓Ev.Kn_rt, ↓Ev.Kn_bk, ↓Ev.Kn_ct, ↓Ev.onRet_nx, ↓Ev.onRet_rt, ↓Ev.onNx_nx, ↓Ev.onNx_ct, ↓Ev.onNx_bk, ↓Ev.onNx_rt, List.map_cons, List.map_nil, List.length_cons, List.length_nil, List.replicate, List.cons_append, List.nil_append, Nat.reduceAdd, Nat.reduceSub, List.set_cons_zero, List.set_cons_succ, if_true, if_false, true_and, and_true, Bool.false_eq_true, Bool.not_true, Bool.not_false, ↓reduceIte, Ev.ifF, Nat.zero_add, Ev.startE, Ev.wipeE, Ev.put_nm, Ev.put_tp, Ev.puts_nil, Ev.puts_cons, Option.bind_some, Ev.seqLen_t, Ev.seqLen_r, Ev.addW_ii, Ev.addW_tt, Ev.subW_ii, Ev.mulW_ii, Ev.modW_ii, Ev.fdivW_ii, Ev.powW_ii, Ev.negW_i, Ev.cmpI_ii, Ev.isW_n, Ev.isnW_n, Ev.isNon_n, Ev.isNon_b, Ev.isNon_i, Ev.isNon_s, Ev.isNon_t, Ev.isNon_l, Ev.max2W_ii, Ev.min2W_ii, Ev.intW_i, Ev.intW_b, Ev.lenW_t, Ev.lenW_r, Ev.listW_t, Ev.tupleW_t, Ev.truW_b, Ev.truW_n, Ev.truW_i, Ev.truW_t, Ev.eqW_ii, Ev.neW_ii, Ev.eqW_ss, Ev.neW_ss, Ev.eqW_bb, Ev.ixN_0, Ev.ixN_1, Ev.ixN_2, Ev.ixN_3, Ev.isi_bb, Ev.isi_bs, Ev.isi_bi, Ev.isi_bt, Ev.isi_bl, Ev.isi_ib, Ev.isi_is, Ev.isi_ii, Ev.isi_it, Ev.isi_il, Ev.isi_sb, Ev.isi_ss, Ev.isi_si, Ev.isi_st, Ev.isi_sl, Ev.isi_tb, Ev.isi_ts, Ev.isi_ti, Ev.isi_tt, Ev.isi_tl, Ev.isi_nb, Ev.isi_ns, Ev.isi_ni, Ev.isi_nt, Ev.isi_nl, Ev.atI_0, Ev.atI_1, Ev.atI_2, Ev.atI_3, Ev.atI_4, Ev.tyOk_s, Ev.slW_to, Ev.slW_from, Ev.addW_SS, Int.toNat_natCast, Option.some.injEq, List.set_set, Option.map_some, W.int.injEq, W.str.injEq, W.loc.injEq, Nat.reduceLeDiff, and_self, Int.reduceLT, Int.reduceLE, Int.reduceNeg, Int.reduceToNat, Int.reduceAdd, Int.reduceMul, Int.reduceSub, decide_eq_true_eq, m_f_law_same, beq_self_eq_true]
      exact hq _ .refl
    | str b =>
      obtain rfl : x = .str b := hx
      obtain rfl : y = .str b := hy
      try simp (maxSteps := 500000) (implicitDefEqProofs := false) (disch := omega) only [↓Ev.wq_aCons, ↓Ev.wq_aNil, ↓Ev.wq_and, ↓Ev.wq_bind, ↓Ev.wq_c, ↓Ev.wq_dnew, ↓Ev.wq_e1, ↓Ev.wq_e2, ↓Ev.wq_eIf, ↓Ev.wq_eL, ↓Ev.wq_eM, ↓Ev.wq_eSl, ↓Ev.wq_in, ↓Ev.wq_ite, ↓Ev.wq_ixR, ↓Ev.wq_ixS, ↓Ev.wq_ixT, ↓Ev.wq_lc, ↓Ev.wq_lst, ↓Ev.wq_no, ↓Ev.wq_not, ↓Ev.wq_oNone, ↓Ev.wq_oSome, ↓Ev.wq_ok, ↓Ev.wq_or, ↓Ev.wq_rng1, ↓Ev.wq_rng2, ↓Ev.wq_run, ↓Ev.wq_seq, ↓Ev.wq_test, ↓Ev.wq_tru, ↓Ev.wq_tup, ↓Ev.wq_vAnd, ↓Ev.wq_vNot, ↓Ev.wq_vOr, ↓Ev.wq_var0, ↓Ev.wq_varS, ↓Ev.wq_yes, ↓Ev.wq_zip, ↓Ev.ws_asg, ↓Ev.ws_brk, ↓Ev.ws_cnt, ↓Ev.ws_expr, ↓Ev.ws_for, ↓Ev.ws_if, ↓Ev.ws_in, ↓Ev.ws_kn, ↓Ev.ws_nil, ↓Ev.ws_nx, ↓Ev.ws_put, ↓Ev.ws_ret, ↓Ev.ws_retN, ↓Ev.ws_rt, ↓Ev.ws_seq, ↓Ev.ws_while, ↓Ev.ws_set, ↓Ev.wo_some, ↓Ev.onB_b, ↓Ev.onI_i, ↓Ev.Kn_rt, ↓Ev.Kn_bk, ↓Ev.Kn_ct, ↓Ev.onRet_nx, ↓Ev.onRet_rt, ↓Ev.onNx_nx, ↓Ev.onNx_ct, ↓Ev.onNx_bk, ↓Ev.onNx_rt, List.map_cons, List.map_nil, List.length_cons, List.length_nil, List.replicate, List.cons_append, List.nil_append, Nat.reduceAdd, Nat.reduceSub, List.set_cons_zero, List.set_cons_succ, if_true, if_false, true_and, and_true, Bool.false_eq_true, Bool.not_true, Bool.not_false, ↓reduceIte, Ev.ifF, Nat.zero_add, Ev.startE, Ev.wipeE, Ev.put_nm, Ev.put_tp, Ev.puts_nil, Ev.puts_cons, Option.bind_some, Ev.seqLen_t, Ev.seqLen_r, Ev.addW_ii, Ev.addW_tt, Ev.subW_ii, Ev.mulW_ii, Ev.modW_ii, Ev.fdivW_ii, Ev.powW_ii, Ev.negW_i, Ev.cmpI_ii, Ev.isW_n, Ev.isnW_n, Ev.isNon_n, Ev.isNon_b, Ev.isNon_i, Ev.isNon_s, Ev.isNon_t, Ev.isNon_l, Ev.max2W_ii, Ev.min2W_ii, Ev.intW_i, Ev.intW_b, Ev.lenW_t, Ev.lenW_r, Ev.listW_t, Ev.tupleW_t, Ev.truW_b, Ev.truW_n, Ev.truW_i, Ev.truW_t, Ev.eqW_ii, Ev.neW_ii, Ev.eqW_ss, Ev.neW_ss, Ev.eqW_bb, Ev.ixN_0, Ev.ixN_1, Ev.ixN_2, Ev.ixN_3, Ev.isi_bb, Ev.isi_bs, Ev.isi_bi, Ev.isi_bt, Ev.isi_bl, Ev.isi_ib, Ev.isi_is, Ev.isi_ii, Ev.isi_it, Ev.isi_il, Ev.isi_sb, Ev.isi_ss, Ev.isi_si, Ev.isi_st, Ev.isi_sl, Ev.isi_tb, Ev.isi_ts, Ev.isi_ti, Ev.isi_tt, Ev.isi_tl, Ev.isi_nb, Ev.isi_ns, Ev.isi_ni, Ev.isi_nt, Ev.isi_nl, Ev.atI_0, Ev.atI_1, Ev.atI_2, Ev.atI_3, Ev.atI_4, Ev.tyOk_s, Ev.slW_to, Ev.slW_from, Ev.addW_SS, Int.toNat_natCast, Option.some.injEq, List.set_set, Option.map_some, W.int.injEq, W.str.injEq, W.loc.injEq, Nat.reduceLeDiff, and_self, Int.reduceLT, Int.reduceLE, Int.reduceNeg, Int.reduceToNat, Int.reduceAdd, Int.reduceMul, Int.reduceSub, decide_eq_true_eq, m_f_law_same, beq_self_eq_true]
      exact hq _ .refl
    | tuple ds =>
      obtain ⟨ws, rfl, lw, lb, hw⟩ := (show ∃ ws, _ from hx)
      obtain ⟨us, rfl, lu, _, hu⟩ := (show ∃ ws, _ from hy)
      simp (maxSteps := 500000) (implicitDefEqProofs := false) (disch := omega) only [↓Ev.wq_aCons, ↓Ev.wq_aNil, ↓Ev.wq_and, ↓Ev.wq_bind, ↓Ev.wq_c, ↓Ev.wq_dnew, ↓Ev.wq_e1, ↓Ev.wq_e2, ↓Ev.wq_eIf, ↓Ev.wq_eL, ↓Ev.wq_eM, ↓Ev.wq_eSl, ↓Ev.wq_in, ↓Ev.wq_ite, ↓Ev.wq_ixR, ↓Ev.wq_ixS, ↓Ev.wq_ixT, ↓Ev.wq_lc, ↓Ev.wq_lst, ↓Ev.wq_no, ↓Ev.wq_not, ↓Ev.wq_oNone, ↓Ev.wq_oSome, ↓Ev.wq_ok, ↓Ev.wq_or, ↓Ev.wq_rng1, ↓Ev.wq_rng2, ↓Ev.wq_run, ↓Ev.wq_seq, ↓Ev.wq_test, ↓Ev.wq_tru, ↓Ev.wq_tup, ↓Ev.wq_vAnd, ↓Ev.wq_vNot, ↓Ev.wq_vOr, ↓Ev.wq_var0, ↓Ev.wq_varS, ↓Ev.wq_yes, ↓Ev.wq_zip, ↓Ev.ws_asg, ↓Ev.ws_brk, ↓Ev.ws_cnt, ↓Ev.ws_expr, ↓Ev.ws_for, ↓Ev.ws_if, ↓Ev.ws_in, ↓Ev.ws_kn, ↓Ev.ws_nil, ↓Ev.ws_nx, ↓Ev.ws_put, ↓Ev.ws_ret, ↓Ev.ws_retN, ↓Ev.ws_rt, ↓Ev.ws_seq, ↓Ev.ws_while, ↓Ev.ws_set, ↓Ev.wo_some, ↓Ev.onB_b, ↓Ev.onI_i, ↓Ev.Kn_rt, ↓Ev.Kn_bk, ↓Ev.Kn_ct, ↓Ev.onRet_nx, ↓Ev.onRet_rt, ↓Ev.onNx_nx, ↓Ev.onNx_ct, ↓Ev.onNx_bk, ↓Ev.onNx_rt, List.map_cons, List.map_nil, List.length_cons, List.length_nil, List.replicate, List.cons_append, List.nil_append, Nat.reduceAdd, Nat.reduceSub, List.set_cons_zero, List.set_cons_succ, if_true, if_false, true_and, and_true, Bool.false_eq_true, Bool.not_true, Bool.not_false, ↓reduceIte, Ev.ifF, Nat.zero_add, Ev.startE, Ev.wipeE, Ev.put_nm, Ev.put_tp, Ev.puts_nil, Ev.puts_cons, Option.bind_some, Ev.seqLen_t, Ev.seqLen_r, Ev.addW_ii, Ev.addW_tt, Ev.subW_ii, Ev.mulW_ii, Ev.modW_ii, Ev.fdivW_ii, Ev.powW_ii, Ev.negW_i, Ev.cmpI_ii, Ev.isW_n, Ev.isnW_n, Ev.isNon_n, Ev.isNon_b, Ev.isNon_i, Ev.isNon_s, Ev.isNon_t, Ev.isNon_l, Ev.max2W_ii, Ev.min2W_ii, Ev.intW_i, Ev.intW_b, Ev.lenW_t, Ev.lenW_r, Ev.listW_t, Ev.tupleW_t, Ev.truW_b, Ev.truW_n, Ev.truW_i, Ev.truW_t, Ev.eqW_ii, Ev.neW_ii, Ev.eqW_ss, Ev.neW_ss, Ev.eqW_bb, Ev.ixN_0, Ev.ixN_1, Ev.ixN_2, Ev.ixN_3, Ev.isi_bb, Ev.isi_bs, Ev.isi_bi, Ev.isi_bt, Ev.isi_bl, Ev.isi_ib, Ev.isi_is, Ev.isi_ii, Ev.isi_it, Ev.isi_il, Ev.isi_sb, Ev.isi_ss, Ev.isi_si, Ev.isi_st, Ev.isi_sl, Ev.isi_tb, Ev.isi_ts, Ev.isi_ti, Ev.isi_tt, Ev.isi_tl, Ev.isi_nb, Ev.isi_ns, Ev.isi_ni, Ev.isi_nt, Ev.isi_nl, Ev.atI_0, Ev.atI_1, Ev.atI_2, Ev.atI_3, Ev.atI_4, Ev.tyOk_s, Ev.slW_to, Ev.slW_from, Ev.addW_SS, Int.toNat_natCast, Option.some.injEq, List.set_set, Option.map_some, W.int.injEq, W.str.injEq, W.loc.injEq, Nat.reduceLeDiff, and_self, Int.reduceLT, Int.reduceLE, Int.reduceNeg, Int.reduceToNat, Int.reduceAdd, Int.reduceMul, Int.reduceSub, decide_eq_true_eq, m_f_law_same, lw, lu, beq_self_eq_true]
      refine ⟨both_t, ?_⟩
      refine wp_lclN ds.length (fun j acc S' => Xt [] S S' ∧ acc = (List.replicate j true).map W.bl) (by omega) ⟨.refl, rfl⟩ ?_ ?_
      · rintro j acc S' hj ⟨x', rfl⟩
        refine ⟨.tup [ws[j], us[j]], _, ?_, rfl, ?_⟩
        · rw [zip_at (ws := ws) (us := us) seqIt_t seqIt_t (by omega), List.getElem?_eq_getElem (by rw [List.length_zip]; omega)]
          simp
        · try simp (maxSteps := 500000) (implicitDefEqProofs := false) (disch := omega) only [↓Ev.wq_aCons, ↓Ev.wq_aNil, ↓Ev.wq_and, ↓Ev.wq_bind, ↓Ev.wq_c, ↓Ev.wq_dnew, ↓Ev.wq_e1, ↓Ev.wq_e2, ↓Ev.wq_eIf, ↓Ev.wq_eL, ↓Ev.wq_eM, ↓Ev.wq_eSl, ↓Ev.wq_in, ↓Ev.wq_ite, ↓Ev.wq_ixR, ↓Ev.wq_ixS, ↓Ev.wq_ixT, ↓Ev.wq_lc, ↓Ev.wq_lst, ↓Ev.wq_no, ↓Ev.wq_not, ↓Ev.wq_oNone, ↓Ev.wq_oSome, ↓Ev.wq_ok, ↓Ev.wq_or, ↓Ev.wq_rng1, ↓Ev.wq_rng2, ↓Ev.wq_run, ↓Ev.wq_seq, ↓Ev.wq_test, ↓Ev.wq_tru, ↓Ev.wq_tup, ↓Ev.wq_vAnd, ↓Ev.wq_vNot, ↓Ev.wq_vOr, ↓Ev.wq_var0, ↓Ev.wq_varS, ↓Ev.wq_yes, ↓Ev.wq_zip, ↓Ev.ws_asg, ↓Ev.ws_brk, ↓Ev.ws_cnt, ↓Ev.ws_expr, ↓Ev.ws_for, ↓Ev.ws_if, ↓Ev.ws_in, ↓Ev.ws_kn, ↓Ev.ws_nil, ↓Ev.ws_nx, ↓Ev.ws_put, ↓Ev.ws_ret, ↓Ev.ws_retN, ↓Ev.ws_rt, ↓Ev.ws_seq, ↓Ev.ws_while, ↓Ev.ws_set, ↓Ev.wo_some, ↓Ev.onB_b, ↓Ev.onI_i, ↓Ev.Kn_rt, ↓Ev.Kn_bk, ↓Ev.Kn_ct, ↓Ev.onRet_nx, ↓Ev.onRet_rt, ↓Ev.onNx_nx, ↓Ev.onNx_ct, ↓Ev.onNx_bk, ↓Ev.onNx_rt, List.map_cons, List.map_nil, List.length_cons, List.length_nil, List.replicate, List.cons_append, List.nil_append, Nat.reduceAdd, Nat.reduceSub, List.set_cons_zero, List.set_cons_succ, if_true, if_false, true_and, and_true, Bool.false_eq_true, Bool.not_true, Bool.not_false, ↓reduceIte, Ev.ifF, Nat.zero_add, Ev.startE, Ev.wipeE, Ev.put_nm, Ev.put_tp, Ev.puts_nil, Ev.puts_cons, Option.bind_some, Ev.seqLen_t, Ev.seqLen_r, Ev.addW_ii, Ev.addW_tt, Ev.subW_ii, Ev.mulW_ii, Ev.modW_ii, Ev.fdivW_ii, Ev.powW_ii, Ev.negW_i, Ev.cmpI_ii, Ev.isW_n, Ev.isnW_n, Ev.isNon_n, Ev.isNon_b, Ev.isNon_i, Ev.isNon_s, Ev.isNon_t, Ev.isNon_l, Ev.max2W_ii, Ev.min2W_ii, Ev.intW_i, Ev.intW_b, Ev.lenW_t, Ev.lenW_r, Ev.listW_t, Ev.tupleW_t, Ev.truW_b, Ev.truW_n, Ev.truW_i, Ev.truW_t, Ev.eqW_ii, Ev.neW_ii, Ev.eqW_ss, Ev.neW_ss, Ev.eqW_bb, Ev.ixN_0, Ev.ixN_1, Ev.ixN_2, Ev.ixN_3, Ev.isi_bb, Ev.isi_bs, Ev.isi_bi, Ev.isi_bt, Ev.isi_bl, Ev.isi_ib, Ev.isi_is, Ev.isi_ii, Ev.isi_it, Ev.isi_il, Ev.isi_sb, Ev.isi_ss, Ev.isi_si, Ev.isi_st, Ev.isi_sl, Ev.isi_tb, Ev.isi_ts, Ev.isi_ti, Ev.isi_tt, Ev.isi_tl, Ev.isi_nb, Ev.isi_ns, Ev.isi_ni, Ev.isi_nt, Ev.isi_nl, Ev.atI_0, Ev.atI_1, Ev.atI_2, Ev.atI_3, Ev.atI_4, Ev.tyOk_s, Ev.slW_to, Ev.slW_from, Ev.addW_SS, Int.toNat_natCast, Option.some.injEq, List.set_set, Option.map_some, W.int.injEq, W.str.injEq, W.loc.injEq, Nat.reduceLeDiff, and_self, Int.reduceLT, Int.reduceLE, Int.reduceNeg, Int.reduceToNat, Int.reduceAdd, Int.reduceMul, Int.reduceSub, decide_eq_true_eq]
          refine same_ok n ((hw (ds[j], ws[j]) ?_).xt x') ((hu (ds[j], us[j]) ?_).xt x') fun S3 x3 => ?_
          · exact List.mem_iff_getElem.mpr ⟨j, by rw [List.length_zip]; omega, by simp⟩
          · exact List.mem_iff_getElem.mpr ⟨j, by rw [List.length_zip]; omega, by simp⟩
          · refine ⟨by simp; omega, x'.trans x3, ?_⟩
            show _ = List.map W.bl (List.replicate (j + 1) true)
            rw [List.replicate_succ', List.map_append]; rfl
      · rintro acc S' ⟨x', rfl⟩
        refine ⟨by rw [zip_at (ws := ws) (us := us) seqIt_t seqIt_t (by omega), List.getElem?_eq_none (by rw [List.length_zip]; omega)]; rfl, ?_⟩
        rw [allW_l at_new', all_rep, wq_ok]
        exact hq _ x'.appI
    | list ds =>
      obtain ⟨p, ws, rfl, ep, lw, lb, hw⟩ := (show ∃ k ws, _ from hx)
      obtain ⟨q, us, rfl, eq', lu, _, hu⟩ := (show ∃ k ws, _ from hy)
      simp (maxSteps := 500000) (implicitDefEqProofs := false) (disch := omega) only [↓Ev.wq_aCons, ↓Ev.wq_aNil, ↓Ev.wq_and, ↓Ev.wq_bind, ↓Ev.wq_c, ↓Ev.wq_dnew, ↓Ev.wq_e1, ↓Ev.wq_e2, ↓Ev.wq_eIf, ↓Ev.wq_eL, ↓Ev.wq_eM, ↓Ev.wq_eSl, ↓Ev.wq_in, ↓Ev.wq_ite, ↓Ev.wq_ixR, ↓Ev.wq_ixS, ↓Ev.wq_ixT, ↓Ev.wq_lc, ↓Ev.wq_lst, ↓Ev.wq_no, ↓Ev.wq_not, ↓Ev.wq_oNone, ↓Ev.wq_oSome, ↓Ev.wq_ok, ↓Ev.wq_or, ↓Ev.wq_rng1, ↓Ev.wq_rng2, ↓Ev.wq_run, ↓Ev.wq_seq, ↓Ev.wq_test, ↓Ev.wq_tru, ↓Ev.wq_tup, ↓Ev.wq_vAnd, ↓Ev.wq_vNot, ↓Ev.wq_vOr, ↓Ev.wq_var0, ↓Ev.wq_varS, ↓Ev.wq_yes, ↓Ev.wq_zip, ↓Ev.ws_asg, ↓Ev.ws_brk, ↓Ev.ws_cnt, ↓Ev.ws_expr, ↓Ev.ws_for, ↓Ev.ws_if, ↓Ev.ws_in, ↓Ev.ws_kn, ↓Ev.ws_nil, ↓Ev.ws_nx, ↓Ev.ws_put, ↓Ev.ws_ret, ↓Ev.ws_retN, ↓Ev.ws_rt, ↓Ev.ws_seq, ↓Ev.ws_while, ↓Ev.ws_set, ↓Ev.wo_some, ↓Ev.onB_b, ↓Ev.onI_i, ↓Ev.Kn_rt, ↓Ev.Kn_bk, ↓Ev.Kn_ct, ↓Ev.onRet_nx, ↓Ev.onRet_rt, ↓Ev.onNx_nx, ↓Ev.onNx_ct, ↓Ev.onNx_bk, ↓Ev.onNx_rt, List.map_cons, List.map_nil, List.length_cons, List.length_nil, List.replicate, List.cons_append, List.nil_append, Nat.reduceAdd, Nat.reduceSub, List.set_cons_zero, List.set_cons_succ, if_true, if_false, true_and, and_true, Bool.false_eq_true, Bool.not_true, Bool.not_false, ↓reduceIte, Ev.ifF, Nat.zero_add, Ev.startE, Ev.wipeE, Ev.put_nm, Ev.put_tp, Ev.puts_nil, Ev.puts_cons, Option.bind_some, Ev.seqLen_t, Ev.seqLen_r, Ev.addW_ii, Ev.addW_tt, Ev.subW_ii, Ev.mulW_ii, Ev.modW_ii, Ev.fdivW_ii, Ev.powW_ii, Ev.negW_i, Ev.cmpI_ii, Ev.isW_n, Ev.isnW_n, Ev.isNon_n, Ev.isNon_b, Ev.isNon_i, Ev.isNon_s, Ev.isNon_t, Ev.isNon_l, Ev.max2W_ii, Ev.min2W_ii, Ev.intW_i, Ev.intW_b, Ev.lenW_t, Ev.lenW_r, Ev.listW_t, Ev.tupleW_t, Ev.truW_b, Ev.truW_n, Ev.truW_i, Ev.truW_t, Ev.eqW_ii, Ev.neW_ii, Ev.eqW_ss, Ev.neW_ss, Ev.eqW_bb, Ev.ixN_0, Ev.ixN_1, Ev.ixN_2, Ev.ixN_3, Ev.isi_bb, Ev.isi_bs, Ev.isi_bi, Ev.isi_bt, Ev.isi_bl, Ev.isi_ib, Ev.isi_is, Ev.isi_ii, Ev.isi_it, Ev.isi_il, Ev.isi_sb, Ev.isi_ss, Ev.isi_si, Ev.isi_st, Ev.isi_sl, Ev.isi_tb, Ev.isi_ts, Ev.isi_ti, Ev.isi_tt, Ev.isi_tl, Ev.isi_nb, Ev.isi_ns, Ev.isi_ni, Ev.isi_nt, Ev.isi_nl, Ev.atI_0, Ev.atI_1, Ev.atI_2, Ev.atI_3, Ev.atI_4, Ev.tyOk_s, Ev.slW_to, Ev.slW_from, Ev.addW_SS, Int.toNat_natCast, Option.some.injEq, List.set_set, Option.map_some, W.int.injEq, W.str.injEq, W.loc.injEq, Nat.reduceLeDiff, and_self, Int.reduceLT, Int.reduceLE, Int.reduceNeg, Int.reduceToNat, Int.reduceAdd, Int.reduceMul, Int.reduceSub, decide_eq_true_eq, m_f_law_same, lenW_l ep, lenW_l eq', isi_Lb ep, isi_Lb eq', isi_Ls ep, isi_Ls eq', isi_Li ep, isi_Li eq', isi_Lt ep, isi_Lt eq', isi_Ll ep, isi_Ll eq', isNon_l, lw, lu, beq_self_eq_true]
      refine ⟨both_l ep eq', wo_ex (seqLen_l ep) ?_⟩
      refine wp_lclN ds.length (fun j acc S' => Xt [] S S' ∧ acc = (List.replicate j true).map W.bl) (by omega) ⟨.refl, rfl⟩ ?_ ?_
      · rintro j acc S' hj ⟨x', rfl⟩
        refine ⟨.tup [ws[j], us[j]], _, ?_, rfl, ?_⟩
        · rw [zip_at (ws := ws) (us := us) (seqIt_l (x'.get0 ep)) (seqIt_l (x'.get0 eq')) (by omega), List.getElem?_eq_getElem (by rw [List.length_zip]; omega)]
          simp
        · try simp (maxSteps := 500000) (implicitDefEqProofs := false) (disch := omega) only [↓Ev.wq_aCons, ↓Ev.wq_aNil, ↓Ev.wq_and, ↓Ev.wq_bind, ↓Ev.wq_c, ↓Ev.wq_dnew, ↓Ev.wq_e1, ↓Ev.wq_e2, ↓Ev.wq_eIf, ↓Ev.wq_eL, ↓Ev.wq_eM, ↓Ev.wq_eSl, ↓Ev.wq_in, ↓Ev.wq_ite, ↓Ev.wq_ixR, ↓Ev.wq_ixS, ↓Ev.wq_ixT, ↓Ev.wq_lc, ↓Ev.wq_lst, ↓Ev.wq_no, ↓Ev.wq_not, ↓Ev.wq_oNone, ↓Ev.wq_oSome, ↓Ev.wq_ok, ↓Ev.wq_or, ↓Ev.wq_rng1, ↓Ev.wq_rng2, ↓Ev.wq_run, ↓Ev.wq_seq, ↓Ev.wq_test, ↓Ev.wq_tru, ↓Ev.wq_tup, ↓Ev.wq_vAnd, ↓Ev.wq_vNot, ↓Ev.wq_vOr, ↓Ev.wq_var0, ↓Ev.wq_varS, ↓Ev.wq_yes, ↓Ev.wq_zip, ↓Ev.ws_asg, ↓Ev.ws_brk, ↓Ev.ws_cnt, ↓Ev.ws_expr, ↓Ev.ws_for, ↓Ev.ws_if, ↓Ev.ws_in, ↓Ev.ws_kn, ↓Ev.ws_nil, ↓Ev.ws_nx, ↓Ev.ws_put, ↓Ev.ws_ret, ↓Ev.ws_retN, ↓Ev.ws_rt, ↓Ev.ws_seq, ↓Ev.ws_while, ↓Ev.ws_set, ↓Ev.wo_some, ↓Ev.onB_b, ↓Ev.onI_i, ↓Ev.Kn_rt, ↓Ev.Kn_bk, ↓Ev.Kn_ct, ↓Ev.onRet_nx, ↓Ev.onRet_rt, ↓Ev.onNx_nx, ↓Ev.onNx_ct, ↓Ev.onNx_bk, ↓Ev.onNx_rt, List.map_cons, List.map_nil, List.length_cons, List.length_nil, List.replicate, List.cons_append, List.nil_append, Nat.reduceAdd, Nat.reduceSub, List.set_cons_zero, List.set_cons_succ, if_true, if_false, true_and, and_true, Bool.false_eq_true, Bool.not_true, Bool.not_false, ↓reduceIte, Ev.ifF, Nat.zero_add, Ev.startE, Ev.wipeE, Ev.put_nm, Ev.put_tp, Ev.puts_nil, Ev.puts_cons, Option.bind_some, Ev.seqLen_t, Ev.seqLen_r, Ev.addW_ii, Ev.addW_tt, Ev.subW_ii, Ev.mulW_ii, Ev.modW_ii, Ev.fdivW_ii, Ev.powW_ii, Ev.negW_i, Ev.cmpI_ii, Ev.isW_n, Ev.isnW_n, Ev.isNon_n, Ev.isNon_b, Ev.isNon_i, Ev.isNon_s, Ev.isNon_t, Ev.isNon_l, Ev.max2W_ii, Ev.min2W_ii, Ev.intW_i, Ev.intW_b, Ev.lenW_t, Ev.lenW_r, Ev.listW_t, Ev.tupleW_t, Ev.truW_b, Ev.truW_n, Ev.truW_i, Ev.truW_t, Ev.eqW_ii, Ev.neW_ii, Ev.eqW_ss, Ev.neW_ss, Ev.eqW_bb, Ev.ixN_0, Ev.ixN_1, Ev.ixN_2, Ev.ixN_3, Ev.isi_bb, Ev.isi_bs, Ev.isi_bi, Ev.isi_bt, Ev.isi_bl, Ev.isi_ib, Ev.isi_is, Ev.isi_ii, Ev.isi_it, Ev.isi_il, Ev.isi_sb, Ev.isi_ss, Ev.isi_si, Ev.isi_st, Ev.isi_sl, Ev.isi_tb, Ev.isi_ts, Ev.isi_ti, Ev.isi_tt, Ev.isi_tl, Ev.isi_nb, Ev.isi_ns, Ev.isi_ni, Ev.isi_nt, Ev.isi_nl, Ev.atI_0, Ev.atI_1, Ev.atI_2, Ev.atI_3, Ev.atI_4, Ev.tyOk_s, Ev.slW_to, Ev.slW_from, Ev.addW_SS, Int.toNat_natCast, Option.some.injEq, List.set_set, Option.map_some, W.int.injEq, W.str.injEq, W.loc.injEq, Nat.reduceLeDiff, and_self, Int.reduceLT, Int.reduceLE, Int.reduceNeg, Int.reduceToNat, Int.reduceAdd, Int.reduceMul, Int.reduceSub, decide_eq_true_eq]
          refine same_ok n ((hw (ds[j], ws[j]) ?_).xt x') ((hu (ds[j], us[j]) ?_).xt x') fun S3 x3 => ?_
          · exact List.mem_iff_getElem.mpr ⟨j, by rw [List.length_zip]; omega, by simp⟩
          · exact List.mem_iff_getElem.mpr ⟨j, by rw [List.length_zip]; omega, by simp⟩
          · refine ⟨by simp; omega, x'.trans x3, ?_⟩
            show _ = List.map W.bl (List.replicate (j + 1) true)
            rw [List.replicate_succ', List.map_append]; rfl
      · rintro acc S' ⟨x', rfl⟩
        refine ⟨by rw [zip_at (ws := ws) (us := us) (seqIt_l (x'.get0 ep)) (seqIt_l (x'.get0 eq')) (by omega), List.getElem?_eq_none (by rw [List.length_zip]; omega)]; rfl, ?_⟩
        rw [allW_l at_new', all_rep, wq_ok]
        exact hq _ x'.appI
    | _ => exact hx.elim
end Lw

set_option linter.all false
set_option maxRecDepth 100000
namespace Lw
open PySem L2 Ev
theorem cell_ok {n : Nat} {ns : List Int} {k : Int} {S : Sto} {Q : W → Sto → Prop} (hn : 1 ≤ n) (hk : 0 ≤ k) (h : ∀ c, Q (.int c) S) : wpR (call n .f_law_cell [.rol (ns.map W.int), .int k] S) Q := by
  obtain ⟨n, rfl⟩ : ∃ m, n = m + 1 := ⟨n - 1, by omega⟩
  rw [call_s, body]
  try simp (maxSteps := 500000) (implicitDefEqProofs := false) (disch := omega) only [↓Ev.wq_aCons, ↓Ev.wq_aNil, ↓Ev.wq_and, ↓Ev.wq_bind, ↓Ev.wq_c, ↓Ev.wq_dnew, ↓Ev.wq_e1, ↓Ev.wq_e2, ↓Ev.wq_eIf, ↓Ev.wq_eL, ↓Ev.wq_eM, ↓Ev.wq_eSl, ↓Ev.wq_in, ↓Ev.wq_ite, ↓Ev.wq_ixR, ↓Ev.wq_ixS, ↓Ev.wq_ixT, ↓Ev.wq_lc, ↓Ev.wq_lst, ↓Ev.wq_no, ↓Ev.wq_not, ↓Ev.wq_oNone, ↓Ev.wq_oSome, ↓Ev.wq_ok, ↓Ev.wq_or, ↓Ev.wq_rng1, ↓Ev.wq_rng2, ↓Ev.wq_run, ↓Ev.wq_seq, ↓Ev.wq_test, ↓Ev.wq_tru, ↓Ev.wq_tup, ↓Ev.wq_vAnd, ↓Ev.wq_vNot, ↓Ev.wq_vOr, ↓Ev.wq_var0, ↓Ev.wq_varS, ↓Ev.wq_yes, ↓Ev.wq_zip, ↓Ev.ws_asg, ↓Ev.ws_brk, ↓Ev.ws_cnt, ↓Ev.ws_expr, ↓Ev.ws_for, ↓Ev.ws_if, ↓Ev.ws_in, ↓Ev.ws_kn, ↓Ev.ws_nil, ↓Ev.ws_nx, ↓Ev.ws_put, ↓Ev.ws_ret, ↓Ev.ws_retN, ↓Ev.ws_rt, ↓Ev.ws_seq, ↓Ev.ws_while, ↓Ev.ws_set, ↓Ev.wo_some, ↓Ev.onB_b, ↓Ev.onI_i, ↓Ev.Kn_rt, ↓Ev.Kn_bk, ↓Ev.Kn_ct, ↓Ev.onRet_nx, ↓Ev.onRet_rt, ↓Ev.onNx_nx, ↓Ev.onNx_ct, ↓Ev.onNx_bk, ↓Ev.onNx_rt, List.map_cons, List.map_nil, List.length_cons, List.length_nil, List.replicate, List.cons_append, List.nil_append, Nat.reduceAdd, Nat.reduceSub, List.set_cons_zero, List.set_cons_succ, if_true, if_false, true_and, and_true, Bool.false_eq_true, Bool.not_true, Bool.not_false, ↓reduceIte, Ev.ifF, Nat.zero_add, Ev.startE, Ev.wipeE, Ev.put_nm, Ev.put_tp, Ev.puts_nil, Ev.puts_cons, Option.bind_some, Ev.seqLen_t, Ev.seqLen_r, Ev.addW_ii, Ev.addW_tt, Ev.subW_ii, Ev.mulW_ii, Ev.modW_ii, Ev.fdivW_ii, Ev.powW_ii, Ev.negW_i, Ev.cmpI_ii, Ev.isW_n, Ev.isnW_n, Ev.isNon_n, Ev.isNon_b, Ev.isNon_i, Ev.isNon_s, Ev.isNon_t, Ev.isNon_l, Ev.max2W_ii, Ev.min2W_ii, Ev.intW_i, Ev.intW_b, Ev.lenW_t, Ev.lenW_r, Ev.listW_t, Ev.tupleW_t, Ev.truW_b, Ev.truW_n, Ev.truW_i, Ev.truW_t, Ev.eqW_ii, Ev.neW_ii, Ev.eqW_ss, Ev.neW_ss, Ev.eqW_bb, Ev.ixN_0, Ev.ixN_1, Ev.ixN_2, Ev.ixN_3, Ev.isi_bb, Ev.isi_bs, Ev.isi_bi, Ev.isi_bt, Ev.isi_bl, Ev.isi_ib, Ev.isi_is, Ev.isi_ii, Ev.isi_it, Ev.isi_il, Ev.isi_sb, Ev.isi_ss, Ev.isi_si, Ev.isi_st, Ev.isi_sl, Ev.isi_tb, Ev.isi_ts, Ev.isi_ti, Ev.isi_tt, Ev.isi_tl, Ev.isi_nb, Ev.isi_ns, Ev.isi_ni, Ev.isi_nt, Ev.isi_nl, Ev.atI_0, Ev.atI_1, Ev.atI_2, Ev.atI_3, Ev.atI_4, Ev.tyOk_s, Ev.slW_to, Ev.slW_from, Ev.addW_SS, Int.toNat_natCast, Option.some.injEq, List.set_set, Option.map_some, W.int.injEq, W.str.injEq, W.loc.injEq, Nat.reduceLeDiff, and_self, Int.reduceLT, Int.reduceLE, Int.reduceNeg, Int.reduceToNat, Int.reduceAdd, Int.reduceMul, Int.reduceSub, decide_eq_true_eq, m_f_law_cell, List.length_map]
  split
  · rename_i hlt
    have hl : k.toNat < ns.length := by omega
    exact wo_ex (Ev.atI_of hk (by rw [List.getElem?_map, List.getElem?_eq_getElem hl]; rfl)) (h _)
  · exact h _
/-- the first cell and some behind -/
theorem cells_ok {n : Nat} {ns : List Int} {k : Int} {a b : Nat} {s : En} {S : Sto} {Q : W → Sto → Prop} {hQ : Ph Q} (hn : 1 ≤ n) (hk : 0 ≤ k) (hb : b - a ≤ 1000)
    (h : ∀ (q : Nat) (cs : List Int) (S' : Sto), Xt [] S S' → S'[q]? = some (.lst (cs.map W.int)) → cs.length ≤ b - a + 1 → Q (.loc q) S') :
    wq (e2 addW (eL lstW (aCons (eL (call n .f_law_cell) (aCons (eVar 0) (aCons (eC (.int k)) aNil))) aNil)) (eSl slW (eVar 0) (oSome (eC (.int (a : Nat)))) (oSome (eC (.int (b : Nat))))) (some (.rol (ns.map W.int)) :: s) S) Q hQ := by
  simp (maxSteps := 500000) (implicitDefEqProofs := false) (disch := omega) only [↓Ev.wq_aCons, ↓Ev.wq_aNil, ↓Ev.wq_and, ↓Ev.wq_bind, ↓Ev.wq_c, ↓Ev.wq_dnew, ↓Ev.wq_e1, ↓Ev.wq_e2, ↓Ev.wq_eIf, ↓Ev.wq_eL, ↓Ev.wq_eM, ↓Ev.wq_eSl, ↓Ev.wq_in, ↓Ev.wq_ite, ↓Ev.wq_ixR, ↓Ev.wq_ixS, ↓Ev.wq_ixT, ↓Ev.wq_lc, ↓Ev.wq_lst, ↓Ev.wq_no, ↓Ev.wq_not, ↓Ev.wq_oNone, ↓Ev.wq_oSome, ↓Ev.wq_ok, ↓Ev.wq_or, ↓Ev.wq_rng1, ↓Ev.wq_rng2, ↓Ev.wq_run, ↓Ev.wq_seq, ↓Ev.wq_test, ↓Ev.wq_tru, ↓Ev.wq_tup, ↓Ev.wq_vAnd, ↓Ev.wq_vNot, ↓Ev.wq_vOr, ↓Ev.wq_var0, ↓Ev.wq_varS, ↓Ev.wq_yes, ↓Ev.wq_zip, ↓Ev.ws_asg, ↓Ev.ws_brk, ↓Ev.ws_cnt, ↓Ev.ws_expr, ↓Ev.ws_for, ↓Ev.ws_if, ↓Ev.ws_in, ↓Ev.ws_kn, ↓Ev.ws_nil, ↓Ev.ws_nx, ↓Ev.ws_put, ↓Ev.ws_ret, ↓Ev.ws_retN, ↓Ev.ws_rt, ↓Ev.ws_seq, ↓Ev.ws_while, ↓Ev.ws_set, ↓Ev.wo_some, ↓Ev.onB_b, ↓Ev.onI_i, ↓Ev.Kn_rt, ↓Ev.Kn_bk, ↓Ev.Kn_ct, ↓Ev.onRet_nx, ↓Ev.onRet_rt, ↓Ev.onNx_nx, ↓Ev.onNx_ct, ↓Ev.onNx_bk, ↓Ev.onNx_rt, List.map_cons, List.map_nil, List.length_cons, List.length_nil, List.replicate, List.cons_append, List.nil_append, Nat.reduceAdd, Nat.reduceSub, List.set_cons_zero, List.set_cons_succ, if_true, if_false, true_and, and_true, Bool.false_eq_true, Bool.not_true, Bool.not_false, ↓reduceIte, Ev.ifF, Nat.zero_add, Ev.startE, Ev.wipeE, Ev.put_nm, Ev.put_tp, Ev.puts_nil, Ev.puts_cons, Option.bind_some, Ev.seqLen_t, Ev.seqLen_r, Ev.addW_ii, Ev.addW_tt, Ev.subW_ii, Ev.mulW_ii, Ev.modW_ii, Ev.fdivW_ii, Ev.powW_ii, Ev.negW_i, Ev.cmpI_ii, Ev.isW_n, Ev.isnW_n, Ev.isNon_n, Ev.isNon_b, Ev.isNon_i, Ev.isNon_s, Ev.isNon_t, Ev.isNon_l, Ev.max2W_ii, Ev.min2W_ii, Ev.intW_i, Ev.intW_b, Ev.lenW_t, Ev.lenW_r, Ev.listW_t, Ev.tupleW_t, Ev.truW_b, Ev.truW_n, Ev.truW_i, Ev.truW_t, Ev.eqW_ii, Ev.neW_ii, Ev.eqW_ss, Ev.neW_ss, Ev.eqW_bb, Ev.ixN_0, Ev.ixN_1, Ev.ixN_2, Ev.ixN_3, Ev.isi_bb, Ev.isi_bs, Ev.isi_bi, Ev.isi_bt, Ev.isi_bl, Ev.isi_ib, Ev.isi_is, Ev.isi_ii, Ev.isi_it, Ev.isi_il, Ev.isi_sb, Ev.isi_ss, Ev.isi_si, Ev.isi_st, Ev.isi_sl, Ev.isi_tb, Ev.isi_ts, Ev.isi_ti, Ev.isi_tt, Ev.isi_tl, Ev.isi_nb, Ev.isi_ns, Ev.isi_ni, Ev.isi_nt, Ev.isi_nl, Ev.atI_0, Ev.atI_1, Ev.atI_2, Ev.atI_3, Ev.atI_4, Ev.tyOk_s, Ev.slW_to, Ev.slW_from, Ev.addW_SS, Int.toNat_natCast, Option.some.injEq, List.set_set, Option.map_some, W.int.injEq, W.str.injEq, W.loc.injEq, Nat.reduceLeDiff, and_self, Int.reduceLT, Int.reduceLE, Int.reduceNeg, Int.reduceToNat, Int.reduceAdd, Int.reduceMul, Int.reduceSub, decide_eq_true_eq]
  refine cell_ok hn hk fun c => ?_
  simp (maxSteps := 500000) (implicitDefEqProofs := false) (disch := omega) only [↓Ev.wq_aCons, ↓Ev.wq_aNil, ↓Ev.wq_and, ↓Ev.wq_bind, ↓Ev.wq_c, ↓Ev.wq_dnew, ↓Ev.wq_e1, ↓Ev.wq_e2, ↓Ev.wq_eIf, ↓Ev.wq_eL, ↓Ev.wq_eM, ↓Ev.wq_eSl, ↓Ev.wq_in, ↓Ev.wq_ite, ↓Ev.wq_ixR, ↓Ev.wq_ixS, ↓Ev.wq_ixT, ↓Ev.wq_lc, ↓Ev.wq_lst, ↓Ev.wq_no, ↓Ev.wq_not, ↓Ev.wq_oNone, ↓Ev.wq_oSome, ↓Ev.wq_ok, ↓Ev.wq_or, ↓Ev.wq_rng1, ↓Ev.wq_rng2, ↓Ev.wq_run, ↓Ev.wq_seq, ↓Ev.wq_test, ↓Ev.wq_tru, ↓Ev.wq_tup, ↓Ev.wq_vAnd, ↓Ev.wq_vNot, ↓Ev.wq_vOr, ↓Ev.wq_var0, ↓Ev.wq_varS, ↓Ev.wq_yes, ↓Ev.wq_zip, ↓Ev.ws_asg, ↓Ev.ws_brk, ↓Ev.ws_cnt, ↓Ev.ws_expr, ↓Ev.ws_for, ↓Ev.ws_if, ↓Ev.ws_in, ↓Ev.ws_kn, ↓Ev.ws_nil, ↓Ev.ws_nx, ↓Ev.ws_put, ↓Ev.ws_ret, ↓Ev.ws_retN, ↓Ev.ws_rt, ↓Ev.ws_seq, ↓Ev.ws_while, ↓Ev.ws_set, ↓Ev.wo_some, ↓Ev.onB_b, ↓Ev.onI_i, ↓Ev.Kn_rt, ↓Ev.Kn_bk, ↓Ev.Kn_ct, ↓Ev.onRet_nx, ↓Ev.onRet_rt, ↓Ev.onNx_nx, ↓Ev.onNx_ct, ↓Ev.onNx_bk, ↓Ev.onNx_rt, List.map_cons, List.map_nil, List.length_cons, List.length_nil, List.replicate, List.cons_append, List.nil_append, Nat.reduceAdd, Nat.reduceSub, List.set_cons_zero, List.set_cons_succ, if_true, if_false, true_and, and_true, Bool.false_eq_true, Bool.not_true, Bool.not_false, ↓reduceIte, Ev.ifF, Nat.zero_add, Ev.startE, Ev.wipeE, Ev.put_nm, Ev.put_tp, Ev.puts_nil, Ev.puts_cons, Option.bind_some, Ev.seqLen_t, Ev.seqLen_r, Ev.addW_ii, Ev.addW_tt, Ev.subW_ii, Ev.mulW_ii, Ev.modW_ii, Ev.fdivW_ii, Ev.powW_ii, Ev.negW_i, Ev.cmpI_ii, Ev.isW_n, Ev.isnW_n, Ev.isNon_n, Ev.isNon_b, Ev.isNon_i, Ev.isNon_s, Ev.isNon_t, Ev.isNon_l, Ev.max2W_ii, Ev.min2W_ii, Ev.intW_i, Ev.intW_b, Ev.lenW_t, Ev.lenW_r, Ev.listW_t, Ev.tupleW_t, Ev.truW_b, Ev.truW_n, Ev.truW_i, Ev.truW_t, Ev.eqW_ii, Ev.neW_ii, Ev.eqW_ss, Ev.neW_ss, Ev.eqW_bb, Ev.ixN_0, Ev.ixN_1, Ev.ixN_2, Ev.ixN_3, Ev.isi_bb, Ev.isi_bs, Ev.isi_bi, Ev.isi_bt, Ev.isi_bl, Ev.isi_ib, Ev.isi_is, Ev.isi_ii, Ev.isi_it, Ev.isi_il, Ev.isi_sb, Ev.isi_ss, Ev.isi_si, Ev.isi_st, Ev.isi_sl, Ev.isi_tb, Ev.isi_ts, Ev.isi_ti, Ev.isi_tt, Ev.isi_tl, Ev.isi_nb, Ev.isi_ns, Ev.isi_ni, Ev.isi_nt, Ev.isi_nl, Ev.atI_0, Ev.atI_1, Ev.atI_2, Ev.atI_3, Ev.atI_4, Ev.tyOk_s, Ev.slW_to, Ev.slW_from, Ev.addW_SS, Int.toNat_natCast, Option.some.injEq, List.set_set, Option.map_some, W.int.injEq, W.str.injEq, W.loc.injEq, Nat.reduceLeDiff, and_self, Int.reduceLT, Int.reduceLE, Int.reduceNeg, Int.reduceToNat, Int.reduceAdd, Int.reduceMul, Int.reduceSub, decide_eq_true_eq, slW_r]
  have e1 : ((S ++ [O.lst [W.int c]]) ++ [O.lst (cutW (ns.map W.int) (some (a : Nat)) (some (b : Nat)))])[S.length]? = some (.lst [W.int c]) := at_app at_new'
  have e2 : ((S ++ [O.lst [W.int c]]) ++ [O.lst (cutW (ns.map W.int) (some (a : Nat)) (some (b : Nat)))])[(S ++ [O.lst [W.int c]]).length]? = some (.lst (((ns.drop a).take (b - a)).map W.int)) := by
    rw [at_new', cutW_mid, List.map_take, List.map_drop]
  have hcl : ((ns.drop a).take (b - a)).length ≤ b - a := List.length_take_le ..
  rw [addW_l e1 e2 (by rw [List.length_map, List.length_singleton]; omega), wq_ok]
  refine h _ (c :: (ns.drop a).take (b - a)) _ (.appI (.appI .app)) ?_ (by rw [List.length_cons]; omega)
  rw [at_new']; rfl
end Lw

set_option linter.all false
set_option maxRecDepth 100000
namespace Lw
open PySem L2 Ev
/-! ### worths: under, joined -/
def Wo.dp : Wo → Nat
  | .pr a b => max a.dp b.dp + 1
  | _ => 0
def Wo.d : Wo → PyData
  | .no => .none
  | .tag t => .str (SX.S t)
  | .pr a b => .tuple [a.d, b.d]
theorem Wo.dat {S : Sto} : ∀ w : Wo, Dat S (w.dp + 1) w.d w.w
  | .no => rfl
  | .tag t => rfl
  | .pr a b => by
    have ha := (Wo.dat (S := S) a).up (show a.dp + 1 ≤ max a.dp b.dp + 1 by omega)
    have hb := (Wo.dat (S := S) b).up (show b.dp + 1 ≤ max a.dp b.dp + 1 by omega)
    refine (show ∃ ws, _ from ⟨[a.w, b.w], rfl, rfl, (by show 2 ≤ 100000; decide), ?_⟩)
    intro p hp
    rcases List.mem_cons.mp hp with rfl | hp
    · exact ha
    · rcases List.mem_cons.mp hp with rfl | hp
      · exact hb
      · cases hp
theorem eqv_w : ∀ x y : Wo, PyData.eqv x.d y.d = decide (x = y)
  | .no, .no => by simp [Wo.d, PyData.eqv]
  | .no, .tag _ => by simp [Wo.d, PyData.eqv]
  | .no, .pr _ _ => by simp [Wo.d, PyData.eqv]
  | .tag _, .no => by simp [Wo.d, PyData.eqv]
  | .tag a, .tag b => by
    show (SX.S a == SX.S b) = _
    by_cases h : a = b
    · subst h; simp
    · have : ¬ SX.S a = SX.S b := fun e => h (SX.S_inj e)
      simp [h, this]
  | .tag _, .pr _ _ => by simp [Wo.d, PyData.eqv]
  | .pr _ _, .no => by simp [Wo.d, PyData.eqv]
  | .pr _ _, .tag _ => by simp [Wo.d, PyData.eqv]
  | .pr a b, .pr c d => by
    have h1 := eqv_w a c
    have h2 := eqv_w b d
    simp only [Wo.d, PyData.eqv, PyData.eqvAll, h1, h2, Wo.pr.injEq]
    by_cases e1 : a = c <;> by_cases e2 : b = d <;> simp [e1, e2]
theorem eqW_w {x y : Wo} {S : Sto} (hx : x.dp ≤ 50) (hy : y.dp ≤ 50) : eqW x.w y.w S = .ok (.bl (decide (x = y))) S := by
  rw [eqW_d ((Wo.dat x).up (by omega)).pd ((Wo.dat y).up (by omega)).pd, eqv_w]
theorem neW_w {x y : Wo} {S : Sto} (hx : x.dp ≤ 50) (hy : y.dp ≤ 50) : neW x.w y.w S = .ok (.bl (!decide (x = y))) S := by
  rw [neW_d ((Wo.dat x).up (by omega)).pd ((Wo.dat y).up (by omega)).pd, eqv_w]
def und : Wo → Wo → Bool
  | .no, _ => true
  | .pr a b, .pr c d => und a c && und b d
  | .pr _ _, _ => false
  | .tag t, y => decide (.tag t = y)
def jn : Wo → Wo → Option Wo
  | .no, y => some y
  | .tag t, .no => some (.tag t)
  | .tag t, .tag u => if t = u then some (.tag t) else none
  | .tag _, .pr _ _ => none
  | .pr a b, .no => some (.pr a b)
  | .pr _ _, .tag _ => none
  | .pr a b, .pr c d => match jn a c, jn b d with
    | some x, some y => some (.pr x y)
    | _, _ => none
theorem und_refl : ∀ x, und x x = true
  | .no => rfl
  | .tag t => by simp [und]
  | .pr a b => by simp [und, und_refl a, und_refl b]
theorem und_anti : ∀ x y, und x y = true → und y x = true → x = y
  | .no, .no, _, _ => rfl
  | .no, .tag _, _, h => by simp [und] at h
  | .no, .pr _ _, _, h => by simp [und] at h
  | .tag t, y, h, _ => by simpa [und] using h
  | .pr _ _, .no, h, _ => by simp [und] at h
  | .pr _ _, .tag _, h, _ => by simp [und] at h
  | .pr a b, .pr c d, h, h' => by
    simp only [und, Bool.and_eq_true] at h h'
    rw [und_anti a c h.1 h'.1, und_anti b d h.2 h'.2]
theorem jn_up : ∀ x y j, jn x y = some j → und x j = true ∧ und y j = true
  | .no, y, j, h => by cases h; exact ⟨rfl, und_refl _⟩
  | .tag t, .no, j, h => by cases h; exact ⟨und_refl _, rfl⟩
  | .tag t, .tag u, j, h => by
    unfold jn at h
    split at h
    · rename_i e; subst e; cases h; exact ⟨und_refl _, und_refl _⟩
    · cases h
  | .tag _, .pr _ _, j, h => by cases h
  | .pr a b, .no, j, h => by cases h; exact ⟨und_refl _, rfl⟩
  | .pr _ _, .tag _, j, h => by cases h
  | .pr a b, .pr c d, j, h => by
    unfold jn at h
    split at h
    · rename_i x y e1 e2
      cases h
      obtain ⟨a1, a2⟩ := jn_up a c x e1
      obtain ⟨b1, b2⟩ := jn_up b d y e2
      simp [und, a1, a2, b1, b2]
    · cases h
theorem jn_least : ∀ x y z, und x z = true → und y z = true → ∃ j, jn x y = some j ∧ und j z = true
  | .no, y, z, _, h => ⟨y, rfl, h⟩
  | .tag t, .no, z, h, _ => ⟨_, rfl, h⟩
  | .tag t, .tag u, z, h, h' => by
    simp only [und, decide_eq_true_eq] at h h'
    subst h
    cases h'
    exact ⟨.tag t, by simp [jn], und_refl _⟩
  | .tag _, .pr _ _, z, h, h' => by
    simp only [und, decide_eq_true_eq] at h
    subst h
    simp [und] at h'
  | .pr a b, .no, z, h, _ => ⟨_, rfl, h⟩
  | .pr _ _, .tag _, z, h, h' => by
    simp only [und, decide_eq_true_eq] at h'
    subst h'
    simp [und] at h
  | .pr a b, .pr c d, z, h, h' => by
    cases z with
    | no => simp [und] at h
    | tag t => simp [und] at h
    | pr u v =>
      simp only [und, Bool.and_eq_true] at h h'
      obtain ⟨j1, e1, q1⟩ := jn_least a c u h.1 h'.1
      obtain ⟨j2, e2, q2⟩ := jn_least b d v h.2 h'.2
      exact ⟨.pr j1 j2, by simp [jn, e1, e2], by simp [und, q1, q2]⟩
theorem mem_pr {ks : List Kd} {n : Nat} {nm : List Nat} {x y : Wo} : Wo.pr x y ∈ woL ks (n + 1) nm ↔ ∃ a b, (kdAt ks nm).sh = .pair a b ∧ x ∈ woL ks n a ∧ y ∈ woL ks n b := by
  rw [woL]
  cases e : (kdAt ks nm).sh with
  | tags ts => simp
  | pair a b =>
    simp only [List.mem_cons, reduceCtorEq, false_or, List.mem_flatMap, List.mem_map, Wo.pr.injEq, Sh.pair.injEq]
    constructor
    · rintro ⟨u, hu, v, hv, rfl, rfl⟩; exact ⟨a, b, ⟨rfl, rfl⟩, hu, hv⟩
    · rintro ⟨_, _, ⟨rfl, rfl⟩, hx, hy⟩; exact ⟨x, hx, y, hy, rfl, rfl⟩
theorem mem_no {ks : List Kd} {n : Nat} {nm : List Nat} : Wo.no ∈ woL ks (n + 1) nm := by
  rw [woL]
  split <;> simp
theorem jn_mem {ks : List Kd} : ∀ (x y j : Wo) (n : Nat) (nm : List Nat), x ∈ woL ks n nm → y ∈ woL ks n nm → jn x y = some j → j ∈ woL ks n nm
  | x, y, j, 0, nm, h, _, _ => by cases h
  | .no, y, j, n + 1, nm, _, hy, h => by cases h; exact hy
  | .tag t, .no, j, n + 1, nm, hx, _, h => by cases h; exact hx
  | .tag t, .tag u, j, n + 1, nm, hx, _, h => by
    unfold jn at h
    split at h
    · cases h; exact hx
    · cases h
  | .tag _, .pr _ _, j, n + 1, nm, _, _, h => by cases h
  | .pr a b, .no, j, n + 1, nm, hx, _, h => by cases h; exact hx
  | .pr _ _, .tag _, j, n + 1, nm, _, _, h => by cases h
  | .pr a b, .pr c d, j, n + 1, nm, hx, hy, h => by
    unfold jn at h
    split at h
    · rename_i u v e1 e2
      cases h
      obtain ⟨k1, k2, es, h1, h2⟩ := mem_pr.mp hx
      obtain ⟨k1', k2', es', h1', h2'⟩ := mem_pr.mp hy
      rw [es] at es'
      cases es'
      exact mem_pr.mpr ⟨k1, k2, es, jn_mem a c u n k1 h1 h1' e1, jn_mem b d v n k2 h2 h2' e2⟩
    · cases h
theorem woL_dp (ks : List Kd) : ∀ (n : Nat) (nm : List Nat), ∀ x ∈ woL ks n nm, x.dp < n
  | 0, nm, x, h => by cases h
  | n + 1, nm, x, h => by
    cases x with
    | no => exact Nat.zero_lt_succ _
    | tag t => exact Nat.zero_lt_succ _
    | pr u v =>
      obtain ⟨a, b, _, hu, hv⟩ := mem_pr.mp h
      have := woL_dp ks n _ u hu
      have := woL_dp ks n _ v hv
      show max u.dp v.dp + 1 < n + 1
      omega
def whl : Wo → Bool
  | .no => false
  | .tag _ => true
  | .pr a b => whl a && whl b
end Lw

set_option linter.all false
set_option maxRecDepth 100000
namespace Lw
open PySem L2 Ev
/-! ### the walks of under, whole, joined -/
theorem f_is_under_ok : ∀ (x y : Wo) {n : Nat} {S : Sto}, x.dp < n → x.dp ≤ 50 → y.dp ≤ 50 → wpR (call n .f_is_under [x.w, y.w] S) fun v S' => v = .bl (und x y) ∧ S' = S := by
  intro x
  induction x with
  | no =>
    intro y n S hn _ _
    obtain ⟨n, rfl⟩ : ∃ m, n = m + 1 := ⟨n - 1, by omega⟩
    rw [call_s, body]
    simp (maxSteps := 500000) (implicitDefEqProofs := false) (disch := omega) only [↓Ev.wq_aCons, ↓Ev.wq_aNil, ↓Ev.wq_and, ↓Ev.wq_bind, ↓Ev.wq_c, ↓Ev.wq_dnew, ↓Ev.wq_e1, ↓Ev.wq_e2, ↓Ev.wq_eIf, ↓Ev.wq_eL, ↓Ev.wq_eM, ↓Ev.wq_eSl, ↓Ev.wq_in, ↓Ev.wq_ite, ↓Ev.wq_ixR, ↓Ev.wq_ixS, ↓Ev.wq_ixT, ↓Ev.wq_lc, ↓Ev.wq_lst, ↓Ev.wq_no, ↓Ev.wq_not, ↓Ev.wq_oNone, ↓Ev.wq_oSome, ↓Ev.wq_ok, ↓Ev.wq_or, ↓Ev.wq_rng1, ↓Ev.wq_rng2, ↓Ev.wq_run, ↓Ev.wq_seq, ↓Ev.wq_test, ↓Ev.wq_tru, ↓Ev.wq_tup, ↓Ev.wq_vAnd, ↓Ev.wq_vNot, ↓Ev.wq_vOr, ↓Ev.wq_var0, ↓Ev.wq_varS, ↓Ev.wq_yes, ↓Ev.wq_zip, ↓Ev.ws_asg, ↓Ev.ws_brk, ↓Ev.ws_cnt, ↓Ev.ws_expr, ↓Ev.ws_for, ↓Ev.ws_if, ↓Ev.ws_in, ↓Ev.ws_kn, ↓Ev.ws_nil, ↓Ev.ws_nx, ↓Ev.ws_put, ↓Ev.ws_ret, ↓Ev.ws_retN, ↓Ev.ws_rt, ↓Ev.ws_seq, ↓Ev.ws_while, ↓Ev.ws_set, ↓Ev.wo_some, ↓Ev.onB_b, ↓Ev.onI_i, ↓Ev.Kn_rt, ↓Ev.Kn_bk, ↓Ev.Kn_ct, ↓Ev.onRet_nx, ↓Ev.onRet_rt, ↓Ev.onNx_nx, ↓Ev.onNx_ct, ↓Ev.onNx_bk, ↓Ev.onNx_rt, List.map_cons, List.map_nil, List.length_cons, List.length_nil, List.replicate, List.cons_append, List.nil_append, Nat.reduceAdd, Nat.reduceSub, List.set_cons_zero, List.set_cons_succ, if_true, if_false, true_and, and_true, Bool.false_eq_true, Bool.not_true, Bool.not_false, ↓reduceIte, Ev.ifF, Nat.zero_add, Ev.startE, Ev.wipeE, Ev.put_nm, Ev.put_tp, Ev.puts_nil, Ev.puts_cons, Option.bind_some, Ev.seqLen_t, Ev.seqLen_r, Ev.addW_ii, Ev.addW_tt, Ev.subW_ii, Ev.mulW_ii, Ev.modW_ii, Ev.fdivW_ii, Ev.powW_ii, Ev.negW_i, Ev.cmpI_ii, Ev.isW_n, Ev.isnW_n, Ev.isNon_n, Ev.isNon_b, Ev.isNon_i, Ev.isNon_s, Ev.isNon_t, Ev.isNon_l, Ev.max2W_ii, Ev.min2W_ii, Ev.intW_i, Ev.intW_b, Ev.lenW_t, Ev.lenW_r, Ev.listW_t, Ev.tupleW_t, Ev.truW_b, Ev.truW_n, Ev.truW_i, Ev.truW_t, Ev.eqW_ii, Ev.neW_ii, Ev.eqW_ss, Ev.neW_ss, Ev.eqW_bb, Ev.ixN_0, Ev.ixN_1, Ev.ixN_2, Ev.ixN_3, Ev.isi_bb, Ev.isi_bs, Ev.isi_bi, Ev.isi_bt, Ev.isi_bl, Ev.isi_ib, Ev.isi_is, Ev.isi_ii, Ev.isi_it, Ev.isi_il, Ev.isi_sb, Ev.isi_ss, Ev.isi_si, Ev.isi_st, Ev.isi_sl, Ev.isi_tb, Ev.isi_ts, Ev.isi_ti, Ev.isi_tt, Ev.isi_tl, Ev.isi_nb, Ev.isi_ns, Ev.isi_ni, Ev.isi_nt, Ev.isi_nl, Ev.atI_0, Ev.atI_1, Ev.atI_2, Ev.atI_3, Ev.atI_4, Ev.tyOk_s, Ev.slW_to, Ev.slW_from, Ev.addW_SS, Int.toNat_natCast, Option.some.injEq, List.set_set, Option.map_some, W.int.injEq, W.str.injEq, W.loc.injEq, Nat.reduceLeDiff, and_self, Int.reduceLT, Int.reduceLE, Int.reduceNeg, Int.reduceToNat, Int.reduceAdd, Int.reduceMul, Int.reduceSub, decide_eq_true_eq, m_f_is_under, Wo.w, und]
  | tag t =>
    intro y n S hn hx hy
    obtain ⟨n, rfl⟩ : ∃ m, n = m + 1 := ⟨n - 1, by omega⟩
    rw [call_s, body]
    have e : eqW (tx t) y.w S = .ok (.bl (decide (Wo.tag t = y))) S := eqW_w hx hy
    simp (maxSteps := 500000) (implicitDefEqProofs := false) (disch := omega) only [↓Ev.wq_aCons, ↓Ev.wq_aNil, ↓Ev.wq_and, ↓Ev.wq_bind, ↓Ev.wq_c, ↓Ev.wq_dnew, ↓Ev.wq_e1, ↓Ev.wq_e2, ↓Ev.wq_eIf, ↓Ev.wq_eL, ↓Ev.wq_eM, ↓Ev.wq_eSl, ↓Ev.wq_in, ↓Ev.wq_ite, ↓Ev.wq_ixR, ↓Ev.wq_ixS, ↓Ev.wq_ixT, ↓Ev.wq_lc, ↓Ev.wq_lst, ↓Ev.wq_no, ↓Ev.wq_not, ↓Ev.wq_oNone, ↓Ev.wq_oSome, ↓Ev.wq_ok, ↓Ev.wq_or, ↓Ev.wq_rng1, ↓Ev.wq_rng2, ↓Ev.wq_run, ↓Ev.wq_seq, ↓Ev.wq_test, ↓Ev.wq_tru, ↓Ev.wq_tup, ↓Ev.wq_vAnd, ↓Ev.wq_vNot, ↓Ev.wq_vOr, ↓Ev.wq_var0, ↓Ev.wq_varS, ↓Ev.wq_yes, ↓Ev.wq_zip, ↓Ev.ws_asg, ↓Ev.ws_brk, ↓Ev.ws_cnt, ↓Ev.ws_expr, ↓Ev.ws_for, ↓Ev.ws_if, ↓Ev.ws_in, ↓Ev.ws_kn, ↓Ev.ws_nil, ↓Ev.ws_nx, ↓Ev.ws_put, ↓Ev.ws_ret, ↓Ev.ws_retN, ↓Ev.ws_rt, ↓Ev.ws_seq, ↓Ev.ws_while, ↓Ev.ws_set, ↓Ev.wo_some, ↓Ev.onB_b, ↓Ev.onI_i, ↓Ev.Kn_rt, ↓Ev.Kn_bk, ↓Ev.Kn_ct, ↓Ev.onRet_nx, ↓Ev.onRet_rt, ↓Ev.onNx_nx, ↓Ev.onNx_ct, ↓Ev.onNx_bk, ↓Ev.onNx_rt, List.map_cons, List.map_nil, List.length_cons, List.length_nil, List.replicate, List.cons_append, List.nil_append, Nat.reduceAdd, Nat.reduceSub, List.set_cons_zero, List.set_cons_succ, if_true, if_false, true_and, and_true, Bool.false_eq_true, Bool.not_true, Bool.not_false, ↓reduceIte, Ev.ifF, Nat.zero_add, Ev.startE, Ev.wipeE, Ev.put_nm, Ev.put_tp, Ev.puts_nil, Ev.puts_cons, Option.bind_some, Ev.seqLen_t, Ev.seqLen_r, Ev.addW_ii, Ev.addW_tt, Ev.subW_ii, Ev.mulW_ii, Ev.modW_ii, Ev.fdivW_ii, Ev.powW_ii, Ev.negW_i, Ev.cmpI_ii, Ev.isW_n, Ev.isnW_n, Ev.isNon_n, Ev.isNon_b, Ev.isNon_i, Ev.isNon_s, Ev.isNon_t, Ev.isNon_l, Ev.max2W_ii, Ev.min2W_ii, Ev.intW_i, Ev.intW_b, Ev.lenW_t, Ev.lenW_r, Ev.listW_t, Ev.tupleW_t, Ev.truW_b, Ev.truW_n, Ev.truW_i, Ev.truW_t, Ev.eqW_ii, Ev.neW_ii, Ev.eqW_ss, Ev.neW_ss, Ev.eqW_bb, Ev.ixN_0, Ev.ixN_1, Ev.ixN_2, Ev.ixN_3, Ev.isi_bb, Ev.isi_bs, Ev.isi_bi, Ev.isi_bt, Ev.isi_bl, Ev.isi_ib, Ev.isi_is, Ev.isi_ii, Ev.isi_it, Ev.isi_il, Ev.isi_sb, Ev.isi_ss, Ev.isi_si, Ev.isi_st, Ev.isi_sl, Ev.isi_tb, Ev.isi_ts, Ev.isi_ti, Ev.isi_tt, Ev.isi_tl, Ev.isi_nb, Ev.isi_ns, Ev.isi_ni, Ev.isi_nt, Ev.isi_nl, Ev.atI_0, Ev.atI_1, Ev.atI_2, Ev.atI_3, Ev.atI_4, Ev.tyOk_s, Ev.slW_to, Ev.slW_from, Ev.addW_SS, Int.toNat_natCast, Option.some.injEq, List.set_set, Option.map_some, W.int.injEq, W.str.injEq, W.loc.injEq, Nat.reduceLeDiff, and_self, Int.reduceLT, Int.reduceLE, Int.reduceNeg, Int.reduceToNat, Int.reduceAdd, Int.reduceMul, Int.reduceSub, decide_eq_true_eq, m_f_is_under, Wo.w, und, e]
  | pr a b iha ihb =>
    intro y n S hn hx hy
    have hn' : max a.dp b.dp + 1 < n := hn
    have hx' : max a.dp b.dp + 1 ≤ 50 := hx
    obtain ⟨n, rfl⟩ : ∃ m, n = m + 1 := ⟨n - 1, by omega⟩
    rw [call_s, body]
    cases y with
    | no =>
      have e : eqW (.tup [a.w, b.w]) .non S = .ok (.bl false) S := by rw [show W.tup [a.w, b.w] = (Wo.pr a b).w from rfl, show W.non = Wo.no.w from rfl, eqW_w hx hy]; simp
      simp (maxSteps := 500000) (implicitDefEqProofs := false) (disch := omega) only [↓Ev.wq_aCons, ↓Ev.wq_aNil, ↓Ev.wq_and, ↓Ev.wq_bind, ↓Ev.wq_c, ↓Ev.wq_dnew, ↓Ev.wq_e1, ↓Ev.wq_e2, ↓Ev.wq_eIf, ↓Ev.wq_eL, ↓Ev.wq_eM, ↓Ev.wq_eSl, ↓Ev.wq_in, ↓Ev.wq_ite, ↓Ev.wq_ixR, ↓Ev.wq_ixS, ↓Ev.wq_ixT, ↓Ev.wq_lc, ↓Ev.wq_lst, ↓Ev.wq_no, ↓Ev.wq_not, ↓Ev.wq_oNone, ↓Ev.wq_oSome, ↓Ev.wq_ok, ↓Ev.wq_or, ↓Ev.wq_rng1, ↓Ev.wq_rng2, ↓Ev.wq_run, ↓Ev.wq_seq, ↓Ev.wq_test, ↓Ev.wq_tru, ↓Ev.wq_tup, ↓Ev.wq_vAnd, ↓Ev.wq_vNot, ↓Ev.wq_vOr, ↓Ev.wq_var0, ↓Ev.wq_varS, ↓Ev.wq_yes, ↓Ev.wq_zip, ↓Ev.ws_asg, ↓Ev.ws_brk, ↓Ev.ws_cnt, ↓Ev.ws_expr, ↓Ev.ws_for, ↓Ev.ws_if, ↓Ev.ws_in, ↓Ev.ws_kn, ↓Ev.ws_nil, ↓Ev.ws_nx, ↓Ev.ws_put, ↓Ev.ws_ret, ↓Ev.ws_retN, ↓Ev.ws_rt, ↓Ev.ws_seq, ↓Ev.ws_while, ↓Ev.ws_set, ↓Ev.wo_some, ↓Ev.onB_b, ↓Ev.onI_i, ↓Ev.Kn_rt, ↓Ev.Kn_bk, ↓Ev.Kn_ct, ↓Ev.onRet_nx, ↓Ev.onRet_rt, ↓Ev.onNx_nx, ↓Ev.onNx_ct, ↓Ev.onNx_bk, ↓Ev.onNx_rt, List.map_cons, List.map_nil, List.length_cons, List.length_nil, List.replicate, List.cons_append, List.nil_append, Nat.reduceAdd, Nat.reduceSub, List.set_cons_zero, List.set_cons_succ, if_true, if_false, true_and, and_true, Bool.false_eq_true, Bool.not_true, Bool.not_false, ↓reduceIte, Ev.ifF, Nat.zero_add, Ev.startE, Ev.wipeE, Ev.put_nm, Ev.put_tp, Ev.puts_nil, Ev.puts_cons, Option.bind_some, Ev.seqLen_t, Ev.seqLen_r, Ev.addW_ii, Ev.addW_tt, Ev.subW_ii, Ev.mulW_ii, Ev.modW_ii, Ev.fdivW_ii, Ev.powW_ii, Ev.negW_i, Ev.cmpI_ii, Ev.isW_n, Ev.isnW_n, Ev.isNon_n, Ev.isNon_b, Ev.isNon_i, Ev.isNon_s, Ev.isNon_t, Ev.isNon_l, Ev.max2W_ii, Ev.min2W_ii, Ev.intW_i, Ev.intW_b, Ev.lenW_t, Ev.lenW_r, Ev.listW_t, Ev.tupleW_t, Ev.truW_b, Ev.truW_n, Ev.truW_i, Ev.truW_t, Ev.eqW_ii, Ev.neW_ii, Ev.eqW_ss, Ev.neW_ss, Ev.eqW_bb, Ev.ixN_0, Ev.ixN_1, Ev.ixN_2, Ev.ixN_3, Ev.isi_bb, Ev.isi_bs, Ev.isi_bi, Ev.isi_bt, Ev.isi_bl, Ev.isi_ib, Ev.isi_is, Ev.isi_ii, Ev.isi_it, Ev.isi_il, Ev.isi_sb, Ev.isi_ss, Ev.isi_si, Ev.isi_st, Ev.isi_sl, Ev.isi_tb, Ev.isi_ts, Ev.isi_ti, Ev.isi_tt, Ev.isi_tl, Ev.isi_nb, Ev.isi_ns, Ev.isi_ni, Ev.isi_nt, Ev.isi_nl, Ev.atI_0, Ev.atI_1, Ev.atI_2, Ev.atI_3, Ev.atI_4, Ev.tyOk_s, Ev.slW_to, Ev.slW_from, Ev.addW_SS, Int.toNat_natCast, Option.some.injEq, List.set_set, Option.map_some, W.int.injEq, W.str.injEq, W.loc.injEq, Nat.reduceLeDiff, and_self, Int.reduceLT, Int.reduceLE, Int.reduceNeg, Int.reduceToNat, Int.reduceAdd, Int.reduceMul, Int.reduceSub, decide_eq_true_eq, m_f_is_under, Wo.w, und, e]
    | tag t =>
      have e : eqW (.tup [a.w, b.w]) (tx t) S = .ok (.bl false) S := by rw [show W.tup [a.w, b.w] = (Wo.pr a b).w from rfl, show tx t = (Wo.tag t).w from rfl, eqW_w hx hy]; simp
      simp (maxSteps := 500000) (implicitDefEqProofs := false) (disch := omega) only [↓Ev.wq_aCons, ↓Ev.wq_aNil, ↓Ev.wq_and, ↓Ev.wq_bind, ↓Ev.wq_c, ↓Ev.wq_dnew, ↓Ev.wq_e1, ↓Ev.wq_e2, ↓Ev.wq_eIf, ↓Ev.wq_eL, ↓Ev.wq_eM, ↓Ev.wq_eSl, ↓Ev.wq_in, ↓Ev.wq_ite, ↓Ev.wq_ixR, ↓Ev.wq_ixS, ↓Ev.wq_ixT, ↓Ev.wq_lc, ↓Ev.wq_lst, ↓Ev.wq_no, ↓Ev.wq_not, ↓Ev.wq_oNone, ↓Ev.wq_oSome, ↓Ev.wq_ok, ↓Ev.wq_or, ↓Ev.wq_rng1, ↓Ev.wq_rng2, ↓Ev.wq_run, ↓Ev.wq_seq, ↓Ev.wq_test, ↓Ev.wq_tru, ↓Ev.wq_tup, ↓Ev.wq_vAnd, ↓Ev.wq_vNot, ↓Ev.wq_vOr, ↓Ev.wq_var0, ↓Ev.wq_varS, ↓Ev.wq_yes, ↓Ev.wq_zip, ↓Ev.ws_asg, ↓Ev.ws_brk, ↓Ev.ws_cnt, ↓Ev.ws_expr, ↓Ev.ws_for, ↓Ev.ws_if, ↓Ev.ws_in, ↓Ev.ws_kn, ↓Ev.ws_nil, ↓Ev.ws_nx, ↓Ev.ws_put, ↓Ev.ws_ret, ↓Ev.ws_retN, ↓Ev.ws_rt, ↓Ev.ws_seq, ↓Ev.ws_while, ↓Ev.ws_set, ↓Ev.wo_some, ↓Ev.onB_b, ↓Ev.onI_i, ↓Ev.Kn_rt, ↓Ev.Kn_bk, ↓Ev.Kn_ct, ↓Ev.onRet_nx, ↓Ev.onRet_rt, ↓Ev.onNx_nx, ↓Ev.onNx_ct, ↓Ev.onNx_bk, ↓Ev.onNx_rt, List.map_cons, List.map_nil, List.length_cons, List.length_nil, List.replicate, List.cons_append, List.nil_append, Nat.reduceAdd, Nat.reduceSub, List.set_cons_zero, List.set_cons_succ, if_true, if_false, true_and, and_true, Bool.false_eq_true, Bool.not_true, Bool.not_false, ↓reduceIte, Ev.ifF, Nat.zero_add, Ev.startE, Ev.wipeE, Ev.put_nm, Ev.put_tp, Ev.puts_nil, Ev.puts_cons, Option.bind_some, Ev.seqLen_t, Ev.seqLen_r, Ev.addW_ii, Ev.addW_tt, Ev.subW_ii, Ev.mulW_ii, Ev.modW_ii, Ev.fdivW_ii, Ev.powW_ii, Ev.negW_i, Ev.cmpI_ii, Ev.isW_n, Ev.isnW_n, Ev.isNon_n, Ev.isNon_b, Ev.isNon_i, Ev.isNon_s, Ev.isNon_t, Ev.isNon_l, Ev.max2W_ii, Ev.min2W_ii, Ev.intW_i, Ev.intW_b, Ev.lenW_t, Ev.lenW_r, Ev.listW_t, Ev.tupleW_t, Ev.truW_b, Ev.truW_n, Ev.truW_i, Ev.truW_t, Ev.eqW_ii, Ev.neW_ii, Ev.eqW_ss, Ev.neW_ss, Ev.eqW_bb, Ev.ixN_0, Ev.ixN_1, Ev.ixN_2, Ev.ixN_3, Ev.isi_bb, Ev.isi_bs, Ev.isi_bi, Ev.isi_bt, Ev.isi_bl, Ev.isi_ib, Ev.isi_is, Ev.isi_ii, Ev.isi_it, Ev.isi_il, Ev.isi_sb, Ev.isi_ss, Ev.isi_si, Ev.isi_st, Ev.isi_sl, Ev.isi_tb, Ev.isi_ts, Ev.isi_ti, Ev.isi_tt, Ev.isi_tl, Ev.isi_nb, Ev.isi_ns, Ev.isi_ni, Ev.isi_nt, Ev.isi_nl, Ev.atI_0, Ev.atI_1, Ev.atI_2, Ev.atI_3, Ev.atI_4, Ev.tyOk_s, Ev.slW_to, Ev.slW_from, Ev.addW_SS, Int.toNat_natCast, Option.some.injEq, List.set_set, Option.map_some, W.int.injEq, W.str.injEq, W.loc.injEq, Nat.reduceLeDiff, and_self, Int.reduceLT, Int.reduceLE, Int.reduceNeg, Int.reduceToNat, Int.reduceAdd, Int.reduceMul, Int.reduceSub, decide_eq_true_eq, m_f_is_under, Wo.w, und, e]
    | pr c d =>
      have hy' : max c.dp d.dp + 1 ≤ 50 := hy
      simp (maxSteps := 500000) (implicitDefEqProofs := false) (disch := omega) only [↓Ev.wq_aCons, ↓Ev.wq_aNil, ↓Ev.wq_and, ↓Ev.wq_bind, ↓Ev.wq_c, ↓Ev.wq_dnew, ↓Ev.wq_e1, ↓Ev.wq_e2, ↓Ev.wq_eIf, ↓Ev.wq_eL, ↓Ev.wq_eM, ↓Ev.wq_eSl, ↓Ev.wq_in, ↓Ev.wq_ite, ↓Ev.wq_ixR, ↓Ev.wq_ixS, ↓Ev.wq_ixT, ↓Ev.wq_lc, ↓Ev.wq_lst, ↓Ev.wq_no, ↓Ev.wq_not, ↓Ev.wq_oNone, ↓Ev.wq_oSome, ↓Ev.wq_ok, ↓Ev.wq_or, ↓Ev.wq_rng1, ↓Ev.wq_rng2, ↓Ev.wq_run, ↓Ev.wq_seq, ↓Ev.wq_test, ↓Ev.wq_tru, ↓Ev.wq_tup, ↓Ev.wq_vAnd, ↓Ev.wq_vNot, ↓Ev.wq_vOr, ↓Ev.wq_var0, ↓Ev.wq_varS, ↓Ev.wq_yes, ↓Ev.wq_zip, ↓Ev.ws_asg, ↓Ev.ws_brk, ↓Ev.ws_cnt, ↓Ev.ws_expr, ↓Ev.ws_for, ↓Ev.ws_if, ↓Ev.ws_in, ↓Ev.ws_kn, ↓Ev.ws_nil, ↓Ev.ws_nx, ↓Ev.ws_put, ↓Ev.ws_ret, ↓Ev.ws_retN, ↓Ev.ws_rt, ↓Ev.ws_seq, ↓Ev.ws_while, ↓Ev.ws_set, ↓Ev.wo_some, ↓Ev.onB_b, ↓Ev.onI_i, ↓Ev.Kn_rt, ↓Ev.Kn_bk, ↓Ev.Kn_ct, ↓Ev.onRet_nx, ↓Ev.onRet_rt, ↓Ev.onNx_nx, ↓Ev.onNx_ct, ↓Ev.onNx_bk, ↓Ev.onNx_rt, List.map_cons, List.map_nil, List.length_cons, List.length_nil, List.replicate, List.cons_append, List.nil_append, Nat.reduceAdd, Nat.reduceSub, List.set_cons_zero, List.set_cons_succ, if_true, if_false, true_and, and_true, Bool.false_eq_true, Bool.not_true, Bool.not_false, ↓reduceIte, Ev.ifF, Nat.zero_add, Ev.startE, Ev.wipeE, Ev.put_nm, Ev.put_tp, Ev.puts_nil, Ev.puts_cons, Option.bind_some, Ev.seqLen_t, Ev.seqLen_r, Ev.addW_ii, Ev.addW_tt, Ev.subW_ii, Ev.mulW_ii, Ev.modW_ii, Ev.fdivW_ii, Ev.powW_ii, Ev.negW_i, Ev.cmpI_ii, Ev.isW_n, Ev.isnW_n, Ev.isNon_n, Ev.isNon_b, Ev.isNon_i, Ev.isNon_s, Ev.isNon_t, Ev.isNon_l, Ev.max2W_ii, Ev.min2W_ii, Ev.intW_i, Ev.intW_b, Ev.lenW_t, Ev.lenW_r, Ev.listW_t, Ev.tupleW_t, Ev.truW_b, Ev.truW_n, Ev.truW_i, Ev.truW_t, Ev.eqW_ii, Ev.neW_ii, Ev.eqW_ss, Ev.neW_ss, Ev.eqW_bb, Ev.ixN_0, Ev.ixN_1, Ev.ixN_2, Ev.ixN_3, Ev.isi_bb, Ev.isi_bs, Ev.isi_bi, Ev.isi_bt, Ev.isi_bl, Ev.isi_ib, Ev.isi_is, Ev.isi_ii, Ev.isi_it, Ev.isi_il, Ev.isi_sb, Ev.isi_ss, Ev.isi_si, Ev.isi_st, Ev.isi_sl, Ev.isi_tb, Ev.isi_ts, Ev.isi_ti, Ev.isi_tt, Ev.isi_tl, Ev.isi_nb, Ev.isi_ns, Ev.isi_ni, Ev.isi_nt, Ev.isi_nl, Ev.atI_0, Ev.atI_1, Ev.atI_2, Ev.atI_3, Ev.atI_4, Ev.tyOk_s, Ev.slW_to, Ev.slW_from, Ev.addW_SS, Int.toNat_natCast, Option.some.injEq, List.set_set, Option.map_some, W.int.injEq, W.str.injEq, W.loc.injEq, Nat.reduceLeDiff, and_self, Int.reduceLT, Int.reduceLE, Int.reduceNeg, Int.reduceToNat, Int.reduceAdd, Int.reduceMul, Int.reduceSub, decide_eq_true_eq, m_f_is_under, Wo.w, und]
      refine wpR_mono (iha c (by omega) (by omega) (by omega)) ?_
      rintro v S1 ⟨rfl, rfl⟩
      try simp (maxSteps := 500000) (implicitDefEqProofs := false) (disch := omega) only [↓Ev.wq_aCons, ↓Ev.wq_aNil, ↓Ev.wq_and, ↓Ev.wq_bind, ↓Ev.wq_c, ↓Ev.wq_dnew, ↓Ev.wq_e1, ↓Ev.wq_e2, ↓Ev.wq_eIf, ↓Ev.wq_eL, ↓Ev.wq_eM, ↓Ev.wq_eSl, ↓Ev.wq_in, ↓Ev.wq_ite, ↓Ev.wq_ixR, ↓Ev.wq_ixS, ↓Ev.wq_ixT, ↓Ev.wq_lc, ↓Ev.wq_lst, ↓Ev.wq_no, ↓Ev.wq_not, ↓Ev.wq_oNone, ↓Ev.wq_oSome, ↓Ev.wq_ok, ↓Ev.wq_or, ↓Ev.wq_rng1, ↓Ev.wq_rng2, ↓Ev.wq_run, ↓Ev.wq_seq, ↓Ev.wq_test, ↓Ev.wq_tru, ↓Ev.wq_tup, ↓Ev.wq_vAnd, ↓Ev.wq_vNot, ↓Ev.wq_vOr, ↓Ev.wq_var0, ↓Ev.wq_varS, ↓Ev.wq_yes, ↓Ev.wq_zip, ↓Ev.ws_asg, ↓Ev.ws_brk, ↓Ev.ws_cnt, ↓Ev.ws_expr, ↓Ev.ws_for, ↓Ev.ws_if, ↓Ev.ws_in, ↓Ev.ws_kn, ↓Ev.ws_nil, ↓Ev.ws_nx, ↓Ev.ws_put, ↓Ev.ws_ret, ↓Ev.ws_retN, ↓Ev.ws_rt, ↓Ev.ws_seq, ↓Ev.ws_while, ↓Ev.ws_set, ↓Ev.wo_some, ↓Ev.onB_b, ↓Ev.onI_i, ↓Ev.Kn_rt, ↓Ev.Kn_bk, ↓Ev.Kn_ct, ↓Ev.onRet_nx, ↓Ev.onRet_rt, ↓Ev.onNx_nx, ↓Ev.onNx_ct, ↓Ev.onNx_bk, ↓Ev.onNx_rt, List.map_cons, List.map_nil, List.length_cons, List.length_nil, List.replicate, List.cons_append, List.nil_append, Nat.reduceAdd, Nat.reduceSub, List.set_cons_zero, List.set_cons_succ, if_true, if_false, true_and, and_true, Bool.false_eq_true, Bool.not_true, Bool.not_false, ↓reduceIte, Ev.ifF, Nat.zero_add, Ev.startE, Ev.wipeE, Ev.put_nm, Ev.put_tp, Ev.puts_nil, Ev.puts_cons, Option.bind_some, Ev.seqLen_t, Ev.seqLen_r, Ev.addW_ii, Ev.addW_tt, Ev.subW_ii, Ev.mulW_ii, Ev.modW_ii, Ev.fdivW_ii, Ev.powW_ii, Ev.negW_i, Ev.cmpI_ii, Ev.isW_n, Ev.isnW_n, Ev.isNon_n, Ev.isNon_b, Ev.isNon_i, Ev.isNon_s, Ev.isNon_t, Ev.isNon_l, Ev.max2W_ii, Ev.min2W_ii, Ev.intW_i, Ev.intW_b, Ev.lenW_t, Ev.lenW_r, Ev.listW_t, Ev.tupleW_t, Ev.truW_b, Ev.truW_n, Ev.truW_i, Ev.truW_t, Ev.eqW_ii, Ev.neW_ii, Ev.eqW_ss, Ev.neW_ss, Ev.eqW_bb, Ev.ixN_0, Ev.ixN_1, Ev.ixN_2, Ev.ixN_3, Ev.isi_bb, Ev.isi_bs, Ev.isi_bi, Ev.isi_bt, Ev.isi_bl, Ev.isi_ib, Ev.isi_is, Ev.isi_ii, Ev.isi_it, Ev.isi_il, Ev.isi_sb, Ev.isi_ss, Ev.isi_si, Ev.isi_st, Ev.isi_sl, Ev.isi_tb, Ev.isi_ts, Ev.isi_ti, Ev.isi_tt, Ev.isi_tl, Ev.isi_nb, Ev.isi_ns, Ev.isi_ni, Ev.isi_nt, Ev.isi_nl, Ev.atI_0, Ev.atI_1, Ev.atI_2, Ev.atI_3, Ev.atI_4, Ev.tyOk_s, Ev.slW_to, Ev.slW_from, Ev.addW_SS, Int.toNat_natCast, Option.some.injEq, List.set_set, Option.map_some, W.int.injEq, W.str.injEq, W.loc.injEq, Nat.reduceLeDiff, and_self, Int.reduceLT, Int.reduceLE, Int.reduceNeg, Int.reduceToNat, Int.reduceAdd, Int.reduceMul, Int.reduceSub, decide_eq_true_eq]
      by_cases h : und a c = true
      · rw [if_pos h, h]
        refine wpR_mono (ihb d (by omega) (by omega) (by omega)) ?_
        rintro v S1 ⟨rfl, rfl⟩
        try simp (maxSteps := 500000) (implicitDefEqProofs := false) (disch := omega) only [↓Ev.wq_aCons, ↓Ev.wq_aNil, ↓Ev.wq_and, ↓Ev.wq_bind, ↓Ev.wq_c, ↓Ev.wq_dnew, ↓Ev.wq_e1, ↓Ev.wq_e2, ↓Ev.wq_eIf, ↓Ev.wq_eL, ↓Ev.wq_eM, ↓Ev.wq_eSl, ↓Ev.wq_in, ↓Ev.wq_ite, ↓Ev.wq_ixR, ↓Ev.wq_ixS, ↓Ev.wq_ixT, ↓Ev.wq_lc, ↓Ev.wq_lst, ↓Ev.wq_no, ↓Ev.wq_not, ↓Ev.wq_oNone, ↓Ev.wq_oSome, ↓Ev.wq_ok, ↓Ev.wq_or, ↓Ev.wq_rng1, ↓Ev.wq_rng2, ↓Ev.wq_run, ↓Ev.wq_seq, ↓Ev.wq_test, ↓Ev.wq_tru, ↓Ev.wq_tup, ↓Ev.wq_vAnd, ↓Ev.wq_vNot, ↓Ev.wq_vOr, ↓Ev.wq_var0, ↓Ev.wq_varS, ↓Ev.wq_yes, ↓Ev.wq_zip, ↓Ev.ws_asg, ↓Ev.ws_brk, ↓Ev.ws_cnt, ↓Ev.ws_expr, ↓Ev.ws_for, ↓Ev.ws_if, ↓Ev.ws_in, ↓Ev.ws_kn, ↓Ev.ws_nil, ↓Ev.ws_nx, ↓Ev.ws_put, ↓Ev.ws_ret, ↓Ev.ws_retN, ↓Ev.ws_rt, ↓Ev.ws_seq, ↓Ev.ws_while, ↓Ev.ws_set, ↓Ev.wo_some, ↓Ev.onB_b, ↓Ev.onI_i, ↓Ev.Kn_rt, ↓Ev.Kn_bk, ↓Ev.Kn_ct, ↓Ev.onRet_nx, ↓Ev.onRet_rt, ↓Ev.onNx_nx, ↓Ev.onNx_ct, ↓Ev.onNx_bk, ↓Ev.onNx_rt, List.map_cons, List.map_nil, List.length_cons, List.length_nil, List.replicate, List.cons_append, List.nil_append, Nat.reduceAdd, Nat.reduceSub, List.set_cons_zero, List.set_cons_succ, if_true, if_false, true_and, and_true, Bool.false_eq_true, Bool.not_true, Bool.not_false, ↓reduceIte, Ev.ifF, Nat.zero_add, Ev.startE, Ev.wipeE, Ev.put_nm, Ev.put_tp, Ev.puts_nil, Ev.puts_cons, Option.bind_some, Ev.seqLen_t, Ev.seqLen_r, Ev.addW_ii, Ev.addW_tt, Ev.subW_ii, Ev.mulW_ii, Ev.modW_ii, Ev.fdivW_ii, Ev.powW_ii, Ev.negW_i, Ev.cmpI_ii, Ev.isW_n, Ev.isnW_n, Ev.isNon_n, Ev.isNon_b, Ev.isNon_i, Ev.isNon_s, Ev.isNon_t, Ev.isNon_l, Ev.max2W_ii, Ev.min2W_ii, Ev.intW_i, Ev.intW_b, Ev.lenW_t, Ev.lenW_r, Ev.listW_t, Ev.tupleW_t, Ev.truW_b, Ev.truW_n, Ev.truW_i, Ev.truW_t, Ev.eqW_ii, Ev.neW_ii, Ev.eqW_ss, Ev.neW_ss, Ev.eqW_bb, Ev.ixN_0, Ev.ixN_1, Ev.ixN_2, Ev.ixN_3, Ev.isi_bb, Ev.isi_bs, Ev.isi_bi, Ev.isi_bt, Ev.isi_bl, Ev.isi_ib, Ev.isi_is, Ev.isi_ii, Ev.isi_it, Ev.isi_il, Ev.isi_sb, Ev.isi_ss, Ev.isi_si, Ev.isi_st, Ev.isi_sl, Ev.isi_tb, Ev.isi_ts, Ev.isi_ti, Ev.isi_tt, Ev.isi_tl, Ev.isi_nb, Ev.isi_ns, Ev.isi_ni, Ev.isi_nt, Ev.isi_nl, Ev.atI_0, Ev.atI_1, Ev.atI_2, Ev.atI_3, Ev.atI_4, Ev.tyOk_s, Ev.slW_to, Ev.slW_from, Ev.addW_SS, Int.toNat_natCast, Option.some.injEq, List.set_set, Option.map_some, W.int.injEq, W.str.injEq, W.loc.injEq, Nat.reduceLeDiff, and_self, Int.reduceLT, Int.reduceLE, Int.reduceNeg, Int.reduceToNat, Int.reduceAdd, Int.reduceMul, Int.reduceSub, decide_eq_true_eq, Bool.true_and]
      · rw [if_neg h]
        have : und a c = false := by simpa using h
        rw [this]; rfl
theorem f_law_under_ok : ∀ (x y : Wo) {n : Nat} {S : Sto}, x.dp < n → x.dp ≤ 50 → y.dp ≤ 50 → wpR (call n .f_law_under [x.w, y.w] S) fun v S' => v = .bl (und x y) ∧ S' = S := by
  intro x
  induction x with
  | no =>
    intro y n S hn _ _
    obtain ⟨n, rfl⟩ : ∃ m, n = m + 1 := ⟨n - 1, by omega⟩
    rw [call_s, body]
    simp (maxSteps := 500000) (implicitDefEqProofs := false) (disch := omega) only [↓Ev.wq_aCons, ↓Ev.wq_aNil, ↓Ev.wq_and, ↓Ev.wq_bind, ↓Ev.wq_c, ↓Ev.wq_dnew, ↓Ev.wq_e1, ↓Ev.wq_e2, ↓Ev.wq_eIf, ↓Ev.wq_eL, ↓Ev.wq_eM, ↓Ev.wq_eSl, ↓Ev.wq_in, ↓Ev.wq_ite, ↓Ev.wq_ixR, ↓Ev.wq_ixS, ↓Ev.wq_ixT, ↓Ev.wq_lc, ↓Ev.wq_lst, ↓Ev.wq_no, ↓Ev.wq_not, ↓Ev.wq_oNone, ↓Ev.wq_oSome, ↓Ev.wq_ok, ↓Ev.wq_or, ↓Ev.wq_rng1, ↓Ev.wq_rng2, ↓Ev.wq_run, ↓Ev.wq_seq, ↓Ev.wq_test, ↓Ev.wq_tru, ↓Ev.wq_tup, ↓Ev.wq_vAnd, ↓Ev.wq_vNot, ↓Ev.wq_vOr, ↓Ev.wq_var0, ↓Ev.wq_varS, ↓Ev.wq_yes, ↓Ev.wq_zip, ↓Ev.ws_asg, ↓Ev.ws_brk, ↓Ev.ws_cnt, ↓Ev.ws_expr, ↓Ev.ws_for, ↓Ev.ws_if, ↓Ev.ws_in, ↓Ev.ws_kn, ↓Ev.ws_nil, ↓Ev.ws_nx, ↓Ev.ws_put, ↓Ev.ws_ret, ↓Ev.ws_retN, ↓Ev.ws_rt, ↓Ev.ws_seq, ↓Ev.ws_while, ↓Ev.ws_set, ↓Ev.wo_some, ↓Ev.onB_b, ↓Ev.onI_i, ↓Ev.Kn_rt, ↓Ev.Kn_bk, ↓Ev.Kn_ct, ↓Ev.onRet_nx, ↓Ev.onRet_rt, ↓Ev.onNx_nx, ↓Ev.onNx_ct, ↓Ev.onNx_bk, ↓Ev.onNx_rt, List.map_cons, List.map_nil, List.length_cons, List.length_nil, List.replicate, List.cons_append, List.nil_append, Nat.reduceAdd, Nat.reduceSub, List.set_cons_zero, List.set_cons_succ, if_true, if_false, true_and, and_true, Bool.false_eq_true, Bool.not_true, Bool.not_false, ↓reduceIte, Ev.ifF, Nat.zero_add, Ev.startE, Ev.wipeE, Ev.put_nm, Ev.put_tp, Ev.puts_nil, Ev.puts_cons, Option.bind_some, Ev.seqLen_t, Ev.seqLen_r, Ev.addW_ii, Ev.addW_tt, Ev.subW_ii, Ev.mulW_ii, Ev.modW_ii, Ev.fdivW_ii, Ev.powW_ii, Ev.negW_i, Ev.cmpI_ii, Ev.isW_n, Ev.isnW_n, Ev.isNon_n, Ev.isNon_b, Ev.isNon_i, Ev.isNon_s, Ev.isNon_t, Ev.isNon_l, Ev.max2W_ii, Ev.min2W_ii, Ev.intW_i, Ev.intW_b, Ev.lenW_t, Ev.lenW_r, Ev.listW_t, Ev.tupleW_t, Ev.truW_b, Ev.truW_n, Ev.truW_i, Ev.truW_t, Ev.eqW_ii, Ev.neW_ii, Ev.eqW_ss, Ev.neW_ss, Ev.eqW_bb, Ev.ixN_0, Ev.ixN_1, Ev.ixN_2, Ev.ixN_3, Ev.isi_bb, Ev.isi_bs, Ev.isi_bi, Ev.isi_bt, Ev.isi_bl, Ev.isi_ib, Ev.isi_is, Ev.isi_ii, Ev.isi_it, Ev.isi_il, Ev.isi_sb, Ev.isi_ss, Ev.isi_si, Ev.isi_st, Ev.isi_sl, Ev.isi_tb, Ev.isi_ts, Ev.isi_ti, Ev.isi_tt, Ev.isi_tl, Ev.isi_nb, Ev.isi_ns, Ev.isi_ni, Ev.isi_nt, Ev.isi_nl, Ev.atI_0, Ev.atI_1, Ev.atI_2, Ev.atI_3, Ev.atI_4, Ev.tyOk_s, Ev.slW_to, Ev.slW_from, Ev.addW_SS, Int.toNat_natCast, Option.some.injEq, List.set_set, Option.map_some, W.int.injEq, W.str.injEq, W.loc.injEq, Nat.reduceLeDiff, and_self, Int.reduceLT, Int.reduceLE, Int.reduceNeg, Int.reduceToNat, Int.reduceAdd, Int.reduceMul, Int.reduceSub, decide_eq_true_eq, m_f_law_under, Wo.w, und]
  | tag t =>
    intro y n S hn hx hy
    obtain ⟨n, rfl⟩ : ∃ m, n = m + 1 := ⟨n - 1, by omega⟩
    rw [call_s, body]
    have e : eqW (tx t) y.w S = .ok (.bl (decide (Wo.tag t = y))) S := eqW_w hx hy
    simp (maxSteps := 500000) (implicitDefEqProofs := false) (disch := omega) only [↓Ev.wq_aCons, ↓Ev.wq_aNil, ↓Ev.wq_and, ↓Ev.wq_bind, ↓Ev.wq_c, ↓Ev.wq_dnew, ↓Ev.wq_e1, ↓Ev.wq_e2, ↓Ev.wq_eIf, ↓Ev.wq_eL, ↓Ev.wq_eM, ↓Ev.wq_eSl, ↓Ev.wq_in, ↓Ev.wq_ite, ↓Ev.wq_ixR, ↓Ev.wq_ixS, ↓Ev.wq_ixT, ↓Ev.wq_lc, ↓Ev.wq_lst, ↓Ev.wq_no, ↓Ev.wq_not, ↓Ev.wq_oNone, ↓Ev.wq_oSome, ↓Ev.wq_ok, ↓Ev.wq_or, ↓Ev.wq_rng1, ↓Ev.wq_rng2, ↓Ev.wq_run, ↓Ev.wq_seq, ↓Ev.wq_test, ↓Ev.wq_tru, ↓Ev.wq_tup, ↓Ev.wq_vAnd, ↓Ev.wq_vNot, ↓Ev.wq_vOr, ↓Ev.wq_var0, ↓Ev.wq_varS, ↓Ev.wq_yes, ↓Ev.wq_zip, ↓Ev.ws_asg, ↓Ev.ws_brk, ↓Ev.ws_cnt, ↓Ev.ws_expr, ↓Ev.ws_for, ↓Ev.ws_if, ↓Ev.ws_in, ↓Ev.ws_kn, ↓Ev.ws_nil, ↓Ev.ws_nx, ↓Ev.ws_put, ↓Ev.ws_ret, ↓Ev.ws_retN, ↓Ev.ws_rt, ↓Ev.ws_seq, ↓Ev.ws_while, ↓Ev.ws_set, ↓Ev.wo_some, ↓Ev.onB_b, ↓Ev.onI_i, ↓Ev.Kn_rt, ↓Ev.Kn_bk, ↓Ev.Kn_ct, ↓Ev.onRet_nx, ↓Ev.onRet_rt, ↓Ev.onNx_nx, ↓Ev.onNx_ct, ↓Ev.onNx_bk, ↓Ev.onNx_rt, List.map_cons, List.map_nil, List.length_cons, List.length_nil, List.replicate, List.cons_append, List.nil_append, Nat.reduceAdd, Nat.reduceSub, List.set_cons_zero, List.set_cons_succ, if_true, if_false, true_and, and_true, Bool.false_eq_true, Bool.not_true, Bool.not_false, ↓reduceIte, Ev.ifF, Nat.zero_add, Ev.startE, Ev.wipeE, Ev.put_nm, Ev.put_tp, Ev.puts_nil, Ev.puts_cons, Option.bind_some, Ev.seqLen_t, Ev.seqLen_r, Ev.addW_ii, Ev.addW_tt, Ev.subW_ii, Ev.mulW_ii, Ev.modW_ii, Ev.fdivW_ii, Ev.powW_ii, Ev.negW_i, Ev.cmpI_ii, Ev.isW_n, Ev.isnW_n, Ev.isNon_n, Ev.isNon_b, Ev.isNon_i, Ev.isNon_s, Ev.isNon_t, Ev.isNon_l, Ev.max2W_ii, Ev.min2W_ii, Ev.intW_i, Ev.intW_b, Ev.lenW_t, Ev.lenW_r, Ev.listW_t, Ev.tupleW_t, Ev.truW_b, Ev.truW_n, Ev.truW_i, Ev.truW_t, Ev.eqW_ii, Ev.neW_ii, Ev.eqW_ss, Ev.neW_ss, Ev.eqW_bb, Ev.ixN_0, Ev.ixN_1, Ev.ixN_2, Ev.ixN_3, Ev.isi_bb, Ev.isi_bs, Ev.isi_bi, Ev.isi_bt, Ev.isi_bl, Ev.isi_ib, Ev.isi_is, Ev.isi_ii, Ev.isi_it, Ev.isi_il, Ev.isi_sb, Ev.isi_ss, Ev.isi_si, Ev.isi_st, Ev.isi_sl, Ev.isi_tb, Ev.isi_ts, Ev.isi_ti, Ev.isi_tt, Ev.isi_tl, Ev.isi_nb, Ev.isi_ns, Ev.isi_ni, Ev.isi_nt, Ev.isi_nl, Ev.atI_0, Ev.atI_1, Ev.atI_2, Ev.atI_3, Ev.atI_4, Ev.tyOk_s, Ev.slW_to, Ev.slW_from, Ev.addW_SS, Int.toNat_natCast, Option.some.injEq, List.set_set, Option.map_some, W.int.injEq, W.str.injEq, W.loc.injEq, Nat.reduceLeDiff, and_self, Int.reduceLT, Int.reduceLE, Int.reduceNeg, Int.reduceToNat, Int.reduceAdd, Int.reduceMul, Int.reduceSub, decide_eq_true_eq, m_f_law_under, Wo.w, und, e]
  | pr a b iha ihb =>
    intro y n S hn hx hy
    have hn' : max a.dp b.dp + 1 < n := hn
    have hx' : max a.dp b.dp + 1 ≤ 50 := hx
    obtain ⟨n, rfl⟩ : ∃ m, n = m + 1 := ⟨n - 1, by omega⟩
    rw [call_s, body]
    cases y with
    | no =>
      have e : eqW (.tup [a.w, b.w]) .non S = .ok (.bl false) S := by rw [show W.tup [a.w, b.w] = (Wo.pr a b).w from rfl, show W.non = Wo.no.w from rfl, eqW_w hx hy]; simp
      simp (maxSteps := 500000) (implicitDefEqProofs := false) (disch := omega) only [↓Ev.wq_aCons, ↓Ev.wq_aNil, ↓Ev.wq_and, ↓Ev.wq_bind, ↓Ev.wq_c, ↓Ev.wq_dnew, ↓Ev.wq_e1, ↓Ev.wq_e2, ↓Ev.wq_eIf, ↓Ev.wq_eL, ↓Ev.wq_eM, ↓Ev.wq_eSl, ↓Ev.wq_in, ↓Ev.wq_ite, ↓Ev.wq_ixR, ↓Ev.wq_ixS, ↓Ev.wq_ixT, ↓Ev.wq_lc, ↓Ev.wq_lst, ↓Ev.wq_no, ↓Ev.wq_not, ↓Ev.wq_oNone, ↓Ev.wq_oSome, ↓Ev.wq_ok, ↓Ev.wq_or, ↓Ev.wq_rng1, ↓Ev.wq_rng2, ↓Ev.wq_run, ↓Ev.wq_seq, ↓Ev.wq_test, ↓Ev.wq_tru, ↓Ev.wq_tup, ↓Ev.wq_vAnd, ↓Ev.wq_vNot, ↓Ev.wq_vOr, ↓Ev.wq_var0, ↓Ev.wq_varS, ↓Ev.wq_yes, ↓Ev.wq_zip, ↓Ev.ws_asg, ↓Ev.ws_brk, ↓Ev.ws_cnt, ↓Ev.ws_expr, ↓Ev.ws_for, ↓Ev.ws_if, ↓Ev.ws_in, ↓Ev.ws_kn, ↓Ev.ws_nil, ↓Ev.ws_nx, ↓Ev.ws_put, ↓Ev.ws_ret, ↓Ev.ws_retN, ↓Ev.ws_rt, ↓Ev.ws_seq, ↓Ev.ws_while, ↓Ev.ws_set, ↓Ev.wo_some, ↓Ev.onB_b, ↓Ev.onI_i, ↓Ev.Kn_rt, ↓Ev.Kn_bk, ↓Ev.Kn_ct, ↓Ev.onRet_nx, ↓Ev.onRet_rt, ↓Ev.onNx_nx, ↓Ev.onNx_ct, ↓Ev.onNx_bk, ↓Ev.onNx_rt, List.map_cons, List.map_nil, List.length_cons, List.length_nil, List.replicate, List.cons_append, List.nil_append, Nat.reduceAdd, Nat.reduceSub, List.set_cons_zero, List.set_cons_succ, if_true, if_false, true_and, and_true, Bool.false_eq_true, Bool.not_true, Bool.not_false, ↓reduceIte, Ev.ifF, Nat.zero_add, Ev.startE, Ev.wipeE, Ev.put_nm, Ev.put_tp, Ev.puts_nil, Ev.puts_cons, Option.bind_some, Ev.seqLen_t, Ev.seqLen_r, Ev.addW_ii, Ev.addW_tt, Ev.subW_ii, Ev.mulW_ii, Ev.modW_ii, Ev.fdivW_ii, Ev.powW_ii, Ev.negW_i, Ev.cmpI_ii, Ev.isW_n, Ev.isnW_n, Ev.isNon_n, Ev.isNon_b, Ev.isNon_i, Ev.isNon_s, Ev.isNon_t, Ev.isNon_l, Ev.max2W_ii, Ev.min2W_ii, Ev.intW_i, Ev.intW_b, Ev.lenW_t, Ev.lenW_r, Ev.listW_t, Ev.tupleW_t, Ev.truW_b, Ev.truW_n, Ev.truW_i, Ev.truW_t, Ev.eqW_ii, Ev.neW_ii, Ev.eqW_ss, Ev.neW_ss, Ev.eqW_bb, Ev.ixN_0, Ev.ixN_1, Ev.ixN_2, Ev.ixN_3, Ev.isi_bb, Ev.isi_bs, Ev.isi_bi, Ev.isi_bt, Ev.isi_bl, Ev.isi_ib, Ev.isi_is, Ev.isi_ii, Ev.isi_it, Ev.isi_il, Ev.isi_sb, Ev.isi_ss, Ev.isi_si, Ev.isi_st, Ev.isi_sl, Ev.isi_tb, Ev.isi_ts, Ev.isi_ti, Ev.isi_tt, Ev.isi_tl, Ev.isi_nb, Ev.isi_ns, Ev.isi_ni, Ev.isi_nt, Ev.isi_nl, Ev.atI_0, Ev.atI_1, Ev.atI_2, Ev.atI_3, Ev.atI_4, Ev.tyOk_s, Ev.slW_to, Ev.slW_from, Ev.addW_SS, Int.toNat_natCast, Option.some.injEq, List.set_set, Option.map_some, W.int.injEq, W.str.injEq, W.loc.injEq, Nat.reduceLeDiff, and_self, Int.reduceLT, Int.reduceLE, Int.reduceNeg, Int.reduceToNat, Int.reduceAdd, Int.reduceMul, Int.reduceSub, decide_eq_true_eq, m_f_law_under, Wo.w, und, e]
    | tag t =>
      have e : eqW (.tup [a.w, b.w]) (tx t) S = .ok (.bl false) S := by rw [show W.tup [a.w, b.w] = (Wo.pr a b).w from rfl, show tx t = (Wo.tag t).w from rfl, eqW_w hx hy]; simp
      simp (maxSteps := 500000) (implicitDefEqProofs := false) (disch := omega) only [↓Ev.wq_aCons, ↓Ev.wq_aNil, ↓Ev.wq_and, ↓Ev.wq_bind, ↓Ev.wq_c, ↓Ev.wq_dnew, ↓Ev.wq_e1, ↓Ev.wq_e2, ↓Ev.wq_eIf, ↓Ev.wq_eL, ↓Ev.wq_eM, ↓Ev.wq_eSl, ↓Ev.wq_in, ↓Ev.wq_ite, ↓Ev.wq_ixR, ↓Ev.wq_ixS, ↓Ev.wq_ixT, ↓Ev.wq_lc, ↓Ev.wq_lst, ↓Ev.wq_no, ↓Ev.wq_not, ↓Ev.wq_oNone, ↓Ev.wq_oSome, ↓Ev.wq_ok, ↓Ev.wq_or, ↓Ev.wq_rng1, ↓Ev.wq_rng2, ↓Ev.wq_run, ↓Ev.wq_seq, ↓Ev.wq_test, ↓Ev.wq_tru, ↓Ev.wq_tup, ↓Ev.wq_vAnd, ↓Ev.wq_vNot, ↓Ev.wq_vOr, ↓Ev.wq_var0, ↓Ev.wq_varS, ↓Ev.wq_yes, ↓Ev.wq_zip, ↓Ev.ws_asg, ↓Ev.ws_brk, ↓Ev.ws_cnt, ↓Ev.ws_expr, ↓Ev.ws_for, ↓Ev.ws_if, ↓Ev.ws_in, ↓Ev.ws_kn, ↓Ev.ws_nil, ↓Ev.ws_nx, ↓Ev.ws_put, ↓Ev.ws_ret, ↓Ev.ws_retN, ↓Ev.ws_rt, ↓Ev.ws_seq, ↓Ev.ws_while, ↓Ev.ws_set, ↓Ev.wo_some, ↓Ev.onB_b, ↓Ev.onI_i, ↓Ev.Kn_rt, ↓Ev.Kn_bk, ↓Ev.Kn_ct, ↓Ev.onRet_nx, ↓Ev.onRet_rt, ↓Ev.onNx_nx, ↓Ev.onNx_ct, ↓Ev.onNx_bk, ↓Ev.onNx_rt, List.map_cons, List.map_nil, List.length_cons, List.length_nil, List.replicate, List.cons_append, List.nil_append, Nat.reduceAdd, Nat.reduceSub, List.set_cons_zero, List.set_cons_succ, if_true, if_false, true_and, and_true, Bool.false_eq_true, Bool.not_true, Bool.not_false, ↓reduceIte, Ev.ifF, Nat.zero_add, Ev.startE, Ev.wipeE, Ev.put_nm, Ev.put_tp, Ev.puts_nil, Ev.puts_cons, Option.bind_some, Ev.seqLen_t, Ev.seqLen_r, Ev.addW_ii, Ev.addW_tt, Ev.subW_ii, Ev.mulW_ii, Ev.modW_ii, Ev.fdivW_ii, Ev.powW_ii, Ev.negW_i, Ev.cmpI_ii, Ev.isW_n, Ev.isnW_n, Ev.isNon_n, Ev.isNon_b, Ev.isNon_i, Ev.isNon_s, Ev.isNon_t, Ev.isNon_l, Ev.max2W_ii, Ev.min2W_ii, Ev.intW_i, Ev.intW_b, Ev.lenW_t, Ev.lenW_r, Ev.listW_t, Ev.tupleW_t, Ev.truW_b, Ev.truW_n, Ev.truW_i, Ev.truW_t, Ev.eqW_ii, Ev.neW_ii, Ev.eqW_ss, Ev.neW_ss, Ev.eqW_bb, Ev.ixN_0, Ev.ixN_1, Ev.ixN_2, Ev.ixN_3, Ev.isi_bb, Ev.isi_bs, Ev.isi_bi, Ev.isi_bt, Ev.isi_bl, Ev.isi_ib, Ev.isi_is, Ev.isi_ii, Ev.isi_it, Ev.isi_il, Ev.isi_sb, Ev.isi_ss, Ev.isi_si, Ev.isi_st, Ev.isi_sl, Ev.isi_tb, Ev.isi_ts, Ev.isi_ti, Ev.isi_tt, Ev.isi_tl, Ev.isi_nb, Ev.isi_ns, Ev.isi_ni, Ev.isi_nt, Ev.isi_nl, Ev.atI_0, Ev.atI_1, Ev.atI_2, Ev.atI_3, Ev.atI_4, Ev.tyOk_s, Ev.slW_to, Ev.slW_from, Ev.addW_SS, Int.toNat_natCast, Option.some.injEq, List.set_set, Option.map_some, W.int.injEq, W.str.injEq, W.loc.injEq, Nat.reduceLeDiff, and_self, Int.reduceLT, Int.reduceLE, Int.reduceNeg, Int.reduceToNat, Int.reduceAdd, Int.reduceMul, Int.reduceSub, decide_eq_true_eq, m_f_law_under, Wo.w, und, e]
    | pr c d =>
      have hy' : max c.dp d.dp + 1 ≤ 50 := hy
      simp (maxSteps := 500000) (implicitDefEqProofs := false) (disch := omega) only [↓Ev.wq_aCons, ↓Ev.wq_aNil, ↓Ev.wq_and, ↓Ev.wq_bind, ↓Ev.wq_c, ↓Ev.wq_dnew, ↓Ev.wq_e1, ↓Ev.wq_e2, ↓Ev.wq_eIf, ↓Ev.wq_eL, ↓Ev.wq_eM, ↓Ev.wq_eSl, ↓Ev.wq_in, ↓Ev.wq_ite, ↓Ev.wq_ixR, ↓Ev.wq_ixS, ↓Ev.wq_ixT, ↓Ev.wq_lc, ↓Ev.wq_lst, ↓Ev.wq_no, ↓Ev.wq_not, ↓Ev.wq_oNone, ↓Ev.wq_oSome, ↓Ev.wq_ok, ↓Ev.wq_or, ↓Ev.wq_rng1, ↓Ev.wq_rng2, ↓Ev.wq_run, ↓Ev.wq_seq, ↓Ev.wq_test, ↓Ev.wq_tru, ↓Ev.wq_tup, ↓Ev.wq_vAnd, ↓Ev.wq_vNot, ↓Ev.wq_vOr, ↓Ev.wq_var0, ↓Ev.wq_varS, ↓Ev.wq_yes, ↓Ev.wq_zip, ↓Ev.ws_asg, ↓Ev.ws_brk, ↓Ev.ws_cnt, ↓Ev.ws_expr, ↓Ev.ws_for, ↓Ev.ws_if, ↓Ev.ws_in, ↓Ev.ws_kn, ↓Ev.ws_nil, ↓Ev.ws_nx, ↓Ev.ws_put, ↓Ev.ws_ret, ↓Ev.ws_retN, ↓Ev.ws_rt, ↓Ev.ws_seq, ↓Ev.ws_while, ↓Ev.ws_set, ↓Ev.wo_some, ↓Ev.onB_b, ↓Ev.onI_i, ↓Ev.Kn_rt, ↓Ev.Kn_bk, ↓Ev.Kn_ct, ↓Ev.onRet_nx, ↓Ev.onRet_rt, ↓Ev.onNx_nx, ↓Ev.onNx_ct, ↓Ev.onNx_bk, ↓Ev.onNx_rt, List.map_cons, List.map_nil, List.length_cons, List.length_nil, List.replicate, List.cons_append, List.nil_append, Nat.reduceAdd, Nat.reduceSub, List.set_cons_zero, List.set_cons_succ, if_true, if_false, true_and, and_true, Bool.false_eq_true, Bool.not_true, Bool.not_false, ↓reduceIte, Ev.ifF, Nat.zero_add, Ev.startE, Ev.wipeE, Ev.put_nm, Ev.put_tp, Ev.puts_nil, Ev.puts_cons, Option.bind_some, Ev.seqLen_t, Ev.seqLen_r, Ev.addW_ii, Ev.addW_tt, Ev.subW_ii, Ev.mulW_ii, Ev.modW_ii, Ev.fdivW_ii, Ev.powW_ii, Ev.negW_i, Ev.cmpI_ii, Ev.isW_n, Ev.isnW_n, Ev.isNon_n, Ev.isNon_b, Ev.isNon_i, Ev.isNon_s, Ev.isNon_t, Ev.isNon_l, Ev.max2W_ii, Ev.min2W_ii, Ev.intW_i, Ev.intW_b, Ev.lenW_t, Ev.lenW_r, Ev.listW_t, Ev.tupleW_t, Ev.truW_b, Ev.truW_n, Ev.truW_i, Ev.truW_t, Ev.eqW_ii, Ev.neW_ii, Ev.eqW_ss, Ev.neW_ss, Ev.eqW_bb, Ev.ixN_0, Ev.ixN_1, Ev.ixN_2, Ev.ixN_3, Ev.isi_bb, Ev.isi_bs, Ev.isi_bi, Ev.isi_bt, Ev.isi_bl, Ev.isi_ib, Ev.isi_is, Ev.isi_ii, Ev.isi_it, Ev.isi_il, Ev.isi_sb, Ev.isi_ss, Ev.isi_si, Ev.isi_st, Ev.isi_sl, Ev.isi_tb, Ev.isi_ts, Ev.isi_ti, Ev.isi_tt, Ev.isi_tl, Ev.isi_nb, Ev.isi_ns, Ev.isi_ni, Ev.isi_nt, Ev.isi_nl, Ev.atI_0, Ev.atI_1, Ev.atI_2, Ev.atI_3, Ev.atI_4, Ev.tyOk_s, Ev.slW_to, Ev.slW_from, Ev.addW_SS, Int.toNat_natCast, Option.some.injEq, List.set_set, Option.map_some, W.int.injEq, W.str.injEq, W.loc.injEq, Nat.reduceLeDiff, and_self, Int.reduceLT, Int.reduceLE, Int.reduceNeg, Int.reduceToNat, Int.reduceAdd, Int.reduceMul, Int.reduceSub, decide_eq_true_eq, m_f_law_under, Wo.w, und]
      refine wpR_mono (iha c (by omega) (by omega) (by omega)) ?_
      rintro v S1 ⟨rfl, rfl⟩
      try simp (maxSteps := 500000) (implicitDefEqProofs := false) (disch := omega) only [↓Ev.wq_aCons, ↓Ev.wq_aNil, ↓Ev.wq_and, ↓Ev.wq_bind, ↓Ev.wq_c, ↓Ev.wq_dnew, ↓Ev.wq_e1, ↓Ev.wq_e2, ↓Ev.wq_eIf, ↓Ev.wq_eL, ↓Ev.wq_eM, ↓Ev.wq_eSl, ↓Ev.wq_in, ↓Ev.wq_ite, ↓Ev.wq_ixR, ↓Ev.wq_ixS, ↓Ev.wq_ixT, ↓Ev.wq_lc, ↓Ev.wq_lst, ↓Ev.wq_no, ↓Ev.wq_not, ↓Ev.wq_oNone, ↓Ev.wq_oSome, ↓Ev.wq_ok, ↓Ev.wq_or, ↓Ev.wq_rng1, ↓Ev.wq_rng2, ↓Ev.wq_run, ↓Ev.wq_seq, ↓Ev.wq_test, ↓Ev.wq_tru, ↓Ev.wq_tup, ↓Ev.wq_vAnd, ↓Ev.wq_vNot, ↓Ev.wq_vOr, ↓Ev.wq_var0, ↓Ev.wq_varS, ↓Ev.wq_yes, ↓Ev.wq_zip, ↓Ev.ws_asg, ↓Ev.ws_brk, ↓Ev.ws_cnt, ↓Ev.ws_expr, ↓Ev.ws_for, ↓Ev.ws_if, ↓Ev.ws_in, ↓Ev.ws_kn, ↓Ev.ws_nil, ↓Ev.ws_nx, ↓Ev.ws_put, ↓Ev.ws_ret, ↓Ev.ws_retN, ↓Ev.ws_rt, ↓Ev.ws_seq, ↓Ev.ws_while, ↓Ev.ws_set, ↓Ev.wo_some, ↓Ev.onB_b, ↓Ev.onI_i, ↓Ev.Kn_rt, ↓Ev.Kn_bk, ↓Ev.Kn_ct, ↓Ev.onRet_nx, ↓Ev.onRet_rt, ↓Ev.onNx_nx, ↓Ev.onNx_ct, ↓Ev.onNx_bk, ↓Ev.onNx_rt, List.map_cons, List.map_nil, List.length_cons, List.length_nil, List.replicate, List.cons_append, List.nil_append, Nat.reduceAdd, Nat.reduceSub, List.set_cons_zero, List.set_cons_succ, if_true, if_false, true_and, and_true, Bool.false_eq_true, Bool.not_true, Bool.not_false, ↓reduceIte, Ev.ifF, Nat.zero_add, Ev.startE, Ev.wipeE, Ev.put_nm, Ev.put_tp, Ev.puts_nil, Ev.puts_cons, Option.bind_some, Ev.seqLen_t, Ev.seqLen_r, Ev.addW_ii, Ev.addW_tt, Ev.subW_ii, Ev.mulW_ii, Ev.modW_ii, Ev.fdivW_ii, Ev.powW_ii, Ev.negW_i, Ev.cmpI_ii, Ev.isW_n, Ev.isnW_n, Ev.isNon_n, Ev.isNon_b, Ev.isNon_i, Ev.isNon_s, Ev.isNon_t, Ev.isNon_l, Ev.max2W_ii, Ev.min2W_ii, Ev.intW_i, Ev.intW_b, Ev.lenW_t, Ev.lenW_r, Ev.listW_t, Ev.tupleW_t, Ev.truW_b, Ev.truW_n, Ev.truW_i, Ev.truW_t, Ev.eqW_ii, Ev.neW_ii, Ev.eqW_ss, Ev.neW_ss, Ev.eqW_bb, Ev.ixN_0, Ev.ixN_1, Ev.ixN_2, Ev.ixN_3, Ev.isi_bb, Ev.isi_bs, Ev.isi_bi, Ev.isi_bt, Ev.isi_bl, Ev.isi_ib, Ev.isi_is, Ev.isi_ii, Ev.isi_it, Ev.isi_il, Ev.isi_sb, Ev.isi_ss, Ev.isi_si, Ev.isi_st, Ev.isi_sl, Ev.isi_tb, Ev.isi_ts, Ev.isi_ti, Ev.isi_tt, Ev.isi_tl, Ev.isi_nb, Ev.isi_ns, Ev.isi_ni, Ev.isi_nt, Ev.isi_nl, Ev.atI_0, Ev.atI_1, Ev.atI_2, Ev.atI_3, Ev.atI_4, Ev.tyOk_s, Ev.slW_to, Ev.slW_from, Ev.addW_SS, Int.toNat_natCast, Option.some.injEq, List.set_set, Option.map_some, W.int.injEq, W.str.injEq, W.loc.injEq, Nat.reduceLeDiff, and_self, Int.reduceLT, Int.reduceLE, Int.reduceNeg, Int.reduceToNat, Int.reduceAdd, Int.reduceMul, Int.reduceSub, decide_eq_true_eq]
      by_cases h : und a c = true
      · rw [if_pos h, h]
        refine wpR_mono (ihb d (by omega) (by omega) (by omega)) ?_
        rintro v S1 ⟨rfl, rfl⟩
        try simp (maxSteps := 500000) (implicitDefEqProofs := false) (disch := omega) only [↓Ev.wq_aCons, ↓Ev.wq_aNil, ↓Ev.wq_and, ↓Ev.wq_bind, ↓Ev.wq_c, ↓Ev.wq_dnew, ↓Ev.wq_e1, ↓Ev.wq_e2, ↓Ev.wq_eIf, ↓Ev.wq_eL, ↓Ev.wq_eM, ↓Ev.wq_eSl, ↓Ev.wq_in, ↓Ev.wq_ite, ↓Ev.wq_ixR, ↓Ev.wq_ixS, ↓Ev.wq_ixT, ↓Ev.wq_lc, ↓Ev.wq_lst, ↓Ev.wq_no, ↓Ev.wq_not, ↓Ev.wq_oNone, ↓Ev.wq_oSome, ↓Ev.wq_ok, ↓Ev.wq_or, ↓Ev.wq_rng1, ↓Ev.wq_rng2, ↓Ev.wq_run, ↓Ev.wq_seq, ↓Ev.wq_test, ↓Ev.wq_tru, ↓Ev.wq_tup, ↓Ev.wq_vAnd, ↓Ev.wq_vNot, ↓Ev.wq_vOr, ↓Ev.wq_var0, ↓Ev.wq_varS, ↓Ev.wq_yes, ↓Ev.wq_zip, ↓Ev.ws_asg, ↓Ev.ws_brk, ↓Ev.ws_cnt, ↓Ev.ws_expr, ↓Ev.ws_for, ↓Ev.ws_if, ↓Ev.ws_in, ↓Ev.ws_kn, ↓Ev.ws_nil, ↓Ev.ws_nx, ↓Ev.ws_put, ↓Ev.ws_ret, ↓Ev.ws_retN, ↓Ev.ws_rt, ↓Ev.ws_seq, ↓Ev.ws_while, ↓Ev.ws_set, ↓Ev.wo_some, ↓Ev.onB_b, ↓Ev.onI_i, ↓Ev.Kn_rt, ↓Ev.Kn_bk, ↓Ev.Kn_ct, ↓Ev.onRet_nx, ↓Ev.onRet_rt, ↓Ev.onNx_nx, ↓Ev.onNx_ct, ↓Ev.onNx_bk, ↓Ev.onNx_rt, List.map_cons, List.map_nil, List.length_cons, List.length_nil, List.replicate, List.cons_append, List.nil_append, Nat.reduceAdd, Nat.reduceSub, List.set_cons_zero, List.set_cons_succ, if_true, if_false, true_and, and_true, Bool.false_eq_true, Bool.not_true, Bool.not_false, ↓reduceIte, Ev.ifF, Nat.zero_add, Ev.startE, Ev.wipeE, Ev.put_nm, Ev.put_tp, Ev.puts_nil, Ev.puts_cons, Option.bind_some, Ev.seqLen_t, Ev.seqLen_r, Ev.addW_ii, Ev.addW_tt, Ev.subW_ii, Ev.mulW_ii, Ev.modW_ii, Ev.fdivW_ii, Ev.powW_ii, Ev.negW_i, Ev.cmpI_ii, Ev.isW_n, Ev.isnW_n, Ev.isNon_n, Ev.isNon_b, Ev.isNon_i, Ev.isNon_s, Ev.isNon_t, Ev.isNon_l, Ev.max2W_ii, Ev.min2W_ii, Ev.intW_i, Ev.intW_b, Ev.lenW_t, Ev.lenW_r, Ev.listW_t, Ev.tupleW_t, Ev.truW_b, Ev.truW_n, Ev.truW_i, Ev.truW_t, Ev.eqW_ii, Ev.neW_ii, Ev.eqW_ss, Ev.neW_ss, Ev.eqW_bb, Ev.ixN_0, Ev.ixN_1, Ev.ixN_2, Ev.ixN_3, Ev.isi_bb, Ev.isi_bs, Ev.isi_bi, Ev.isi_bt, Ev.isi_bl, Ev.isi_ib, Ev.isi_is, Ev.isi_ii, Ev.isi_it, Ev.isi_il, Ev.isi_sb, Ev.isi_ss, Ev.isi_si, Ev.isi_st, Ev.isi_sl, Ev.isi_tb, Ev.isi_ts, Ev.isi_ti, Ev.isi_tt, Ev.isi_tl, Ev.isi_nb, Ev.isi_ns, Ev.isi_ni, Ev.isi_nt, Ev.isi_nl, Ev.atI_0, Ev.atI_1, Ev.atI_2, Ev.atI_3, Ev.atI_4, Ev.tyOk_s, Ev.slW_to, Ev.slW_from, Ev.addW_SS, Int.toNat_natCast, Option.some.injEq, List.set_set, Option.map_some, W.int.injEq, W.str.injEq, W.loc.injEq, Nat.reduceLeDiff, and_self, Int.reduceLT, Int.reduceLE, Int.reduceNeg, Int.reduceToNat, Int.reduceAdd, Int.reduceMul, Int.reduceSub, decide_eq_true_eq, Bool.true_and]
      · rw [if_neg h]
        have : und a c = false := by simpa using h
        rw [this]; rfl
theorem f_is_whole_ok : ∀ (x : Wo) {n : Nat} {S : Sto}, x.dp < n → wpR (call n .f_is_whole [x.w] S) fun v S' => v = .bl (whl x) ∧ S' = S := by
  intro x
  induction x with
  | no =>
    intro n S hn
    obtain ⟨n, rfl⟩ : ∃ m, n = m + 1 := ⟨n - 1, by omega⟩
    rw [call_s, body]
    simp (maxSteps := 500000) (implicitDefEqProofs := false) (disch := omega) only [↓Ev.wq_aCons, ↓Ev.wq_aNil, ↓Ev.wq_and, ↓Ev.wq_bind, ↓Ev.wq_c, ↓Ev.wq_dnew, ↓Ev.wq_e1, ↓Ev.wq_e2, ↓Ev.wq_eIf, ↓Ev.wq_eL, ↓Ev.wq_eM, ↓Ev.wq_eSl, ↓Ev.wq_in, ↓Ev.wq_ite, ↓Ev.wq_ixR, ↓Ev.wq_ixS, ↓Ev.wq_ixT, ↓Ev.wq_lc, ↓Ev.wq_lst, ↓Ev.wq_no, ↓Ev.wq_not, ↓Ev.wq_oNone, ↓Ev.wq_oSome, ↓Ev.wq_ok, ↓Ev.wq_or, ↓Ev.wq_rng1, ↓Ev.wq_rng2, ↓Ev.wq_run, ↓Ev.wq_seq, ↓Ev.wq_test, ↓Ev.wq_tru, ↓Ev.wq_tup, ↓Ev.wq_vAnd, ↓Ev.wq_vNot, ↓Ev.wq_vOr, ↓Ev.wq_var0, ↓Ev.wq_varS, ↓Ev.wq_yes, ↓Ev.wq_zip, ↓Ev.ws_asg, ↓Ev.ws_brk, ↓Ev.ws_cnt, ↓Ev.ws_expr, ↓Ev.ws_for, ↓Ev.ws_if, ↓Ev.ws_in, ↓Ev.ws_kn, ↓Ev.ws_nil, ↓Ev.ws_nx, ↓Ev.ws_put, ↓Ev.ws_ret, ↓Ev.ws_retN, ↓Ev.ws_rt, ↓Ev.ws_seq, ↓Ev.ws_while, ↓Ev.ws_set, ↓Ev.wo_some, ↓Ev.onB_b, ↓Ev.onI_i, ↓Ev.Kn_rt, ↓Ev.Kn_bk, ↓Ev.Kn_ct, ↓Ev.onRet_nx, ↓Ev.onRet_rt, ↓Ev.onNx_nx, ↓Ev.onNx_ct, ↓Ev.onNx_bk, ↓Ev.onNx_rt, List.map_cons, List.map_nil, List.length_cons, List.length_nil, List.replicate, List.cons_append, List.nil_append, Nat.reduceAdd, Nat.reduceSub, List.set_cons_zero, List.set_cons_succ, if_true, if_false, true_and, and_true, Bool.false_eq_true, Bool.not_true, Bool.not_false, ↓reduceIte, Ev.ifF, Nat.zero_add, Ev.startE, Ev.wipeE, Ev.put_nm, Ev.put_tp, Ev.puts_nil, Ev.puts_cons, Option.bind_some, Ev.seqLen_t, Ev.seqLen_r, Ev.addW_ii, Ev.addW_tt, Ev.subW_ii, Ev.mulW_ii, Ev.modW_ii, Ev.fdivW_ii, Ev.powW_ii, Ev.negW_i, Ev.cmpI_ii, Ev.isW_n, Ev.isnW_n, Ev.isNon_n, Ev.isNon_b, Ev.isNon_i, Ev.isNon_s, Ev.isNon_t, Ev.isNon_l, Ev.max2W_ii, Ev.min2W_ii, Ev.intW_i, Ev.intW_b, Ev.lenW_t, Ev.lenW_r, Ev.listW_t, Ev.tupleW_t, Ev.truW_b, Ev.truW_n, Ev.truW_i, Ev.truW_t, Ev.eqW_ii, Ev.neW_ii, Ev.eqW_ss, Ev.neW_ss, Ev.eqW_bb, Ev.ixN_0, Ev.ixN_1, Ev.ixN_2, Ev.ixN_3, Ev.isi_bb, Ev.isi_bs, Ev.isi_bi, Ev.isi_bt, Ev.isi_bl, Ev.isi_ib, Ev.isi_is, Ev.isi_ii, Ev.isi_it, Ev.isi_il, Ev.isi_sb, Ev.isi_ss, Ev.isi_si, Ev.isi_st, Ev.isi_sl, Ev.isi_tb, Ev.isi_ts, Ev.isi_ti, Ev.isi_tt, Ev.isi_tl, Ev.isi_nb, Ev.isi_ns, Ev.isi_ni, Ev.isi_nt, Ev.isi_nl, Ev.atI_0, Ev.atI_1, Ev.atI_2, Ev.atI_3, Ev.atI_4, Ev.tyOk_s, Ev.slW_to, Ev.slW_from, Ev.addW_SS, Int.toNat_natCast, Option.some.injEq, List.set_set, Option.map_some, W.int.injEq, W.str.injEq, W.loc.injEq, Nat.reduceLeDiff, and_self, Int.reduceLT, Int.reduceLE, Int.reduceNeg, Int.reduceToNat, Int.reduceAdd, Int.reduceMul, Int.reduceSub, decide_eq_true_eq, m_f_is_whole, Wo.w, whl]
  | tag t =>
    intro n S hn
    obtain ⟨n, rfl⟩ : ∃ m, n = m + 1 := ⟨n - 1, by omega⟩
    rw [call_s, body]
    simp (maxSteps := 500000) (implicitDefEqProofs := false) (disch := omega) only [↓Ev.wq_aCons, ↓Ev.wq_aNil, ↓Ev.wq_and, ↓Ev.wq_bind, ↓Ev.wq_c, ↓Ev.wq_dnew, ↓Ev.wq_e1, ↓Ev.wq_e2, ↓Ev.wq_eIf, ↓Ev.wq_eL, ↓Ev.wq_eM, ↓Ev.wq_eSl, ↓Ev.wq_in, ↓Ev.wq_ite, ↓Ev.wq_ixR, ↓Ev.wq_ixS, ↓Ev.wq_ixT, ↓Ev.wq_lc, ↓Ev.wq_lst, ↓Ev.wq_no, ↓Ev.wq_not, ↓Ev.wq_oNone, ↓Ev.wq_oSome, ↓Ev.wq_ok, ↓Ev.wq_or, ↓Ev.wq_rng1, ↓Ev.wq_rng2, ↓Ev.wq_run, ↓Ev.wq_seq, ↓Ev.wq_test, ↓Ev.wq_tru, ↓Ev.wq_tup, ↓Ev.wq_vAnd, ↓Ev.wq_vNot, ↓Ev.wq_vOr, ↓Ev.wq_var0, ↓Ev.wq_varS, ↓Ev.wq_yes, ↓Ev.wq_zip, ↓Ev.ws_asg, ↓Ev.ws_brk, ↓Ev.ws_cnt, ↓Ev.ws_expr, ↓Ev.ws_for, ↓Ev.ws_if, ↓Ev.ws_in, ↓Ev.ws_kn, ↓Ev.ws_nil, ↓Ev.ws_nx, ↓Ev.ws_put, ↓Ev.ws_ret, ↓Ev.ws_retN, ↓Ev.ws_rt, ↓Ev.ws_seq, ↓Ev.ws_while, ↓Ev.ws_set, ↓Ev.wo_some, ↓Ev.onB_b, ↓Ev.onI_i, ↓Ev.Kn_rt, ↓Ev.Kn_bk, ↓Ev.Kn_ct, ↓Ev.onRet_nx, ↓Ev.onRet_rt, ↓Ev.onNx_nx, ↓Ev.onNx_ct, ↓Ev.onNx_bk, ↓Ev.onNx_rt, List.map_cons, List.map_nil, List.length_cons, List.length_nil, List.replicate, List.cons_append, List.nil_append, Nat.reduceAdd, Nat.reduceSub, List.set_cons_zero, List.set_cons_succ, if_true, if_false, true_and, and_true, Bool.false_eq_true, Bool.not_true, Bool.not_false, ↓reduceIte, Ev.ifF, Nat.zero_add, Ev.startE, Ev.wipeE, Ev.put_nm, Ev.put_tp, Ev.puts_nil, Ev.puts_cons, Option.bind_some, Ev.seqLen_t, Ev.seqLen_r, Ev.addW_ii, Ev.addW_tt, Ev.subW_ii, Ev.mulW_ii, Ev.modW_ii, Ev.fdivW_ii, Ev.powW_ii, Ev.negW_i, Ev.cmpI_ii, Ev.isW_n, Ev.isnW_n, Ev.isNon_n, Ev.isNon_b, Ev.isNon_i, Ev.isNon_s, Ev.isNon_t, Ev.isNon_l, Ev.max2W_ii, Ev.min2W_ii, Ev.intW_i, Ev.intW_b, Ev.lenW_t, Ev.lenW_r, Ev.listW_t, Ev.tupleW_t, Ev.truW_b, Ev.truW_n, Ev.truW_i, Ev.truW_t, Ev.eqW_ii, Ev.neW_ii, Ev.eqW_ss, Ev.neW_ss, Ev.eqW_bb, Ev.ixN_0, Ev.ixN_1, Ev.ixN_2, Ev.ixN_3, Ev.isi_bb, Ev.isi_bs, Ev.isi_bi, Ev.isi_bt, Ev.isi_bl, Ev.isi_ib, Ev.isi_is, Ev.isi_ii, Ev.isi_it, Ev.isi_il, Ev.isi_sb, Ev.isi_ss, Ev.isi_si, Ev.isi_st, Ev.isi_sl, Ev.isi_tb, Ev.isi_ts, Ev.isi_ti, Ev.isi_tt, Ev.isi_tl, Ev.isi_nb, Ev.isi_ns, Ev.isi_ni, Ev.isi_nt, Ev.isi_nl, Ev.atI_0, Ev.atI_1, Ev.atI_2, Ev.atI_3, Ev.atI_4, Ev.tyOk_s, Ev.slW_to, Ev.slW_from, Ev.addW_SS, Int.toNat_natCast, Option.some.injEq, List.set_set, Option.map_some, W.int.injEq, W.str.injEq, W.loc.injEq, Nat.reduceLeDiff, and_self, Int.reduceLT, Int.reduceLE, Int.reduceNeg, Int.reduceToNat, Int.reduceAdd, Int.reduceMul, Int.reduceSub, decide_eq_true_eq, m_f_is_whole, Wo.w, whl]
  | pr a b iha ihb =>
    intro n S hn
    have hn' : max a.dp b.dp + 1 < n := hn
    obtain ⟨n, rfl⟩ : ∃ m, n = m + 1 := ⟨n - 1, by omega⟩
    rw [call_s, body]
    simp (maxSteps := 500000) (implicitDefEqProofs := false) (disch := omega) only [↓Ev.wq_aCons, ↓Ev.wq_aNil, ↓Ev.wq_and, ↓Ev.wq_bind, ↓Ev.wq_c, ↓Ev.wq_dnew, ↓Ev.wq_e1, ↓Ev.wq_e2, ↓Ev.wq_eIf, ↓Ev.wq_eL, ↓Ev.wq_eM, ↓Ev.wq_eSl, ↓Ev.wq_in, ↓Ev.wq_ite, ↓Ev.wq_ixR, ↓Ev.wq_ixS, ↓Ev.wq_ixT, ↓Ev.wq_lc, ↓Ev.wq_lst, ↓Ev.wq_no, ↓Ev.wq_not, ↓Ev.wq_oNone, ↓Ev.wq_oSome, ↓Ev.wq_ok, ↓Ev.wq_or, ↓Ev.wq_rng1, ↓Ev.wq_rng2, ↓Ev.wq_run, ↓Ev.wq_seq, ↓Ev.wq_test, ↓Ev.wq_tru, ↓Ev.wq_tup, ↓Ev.wq_vAnd, ↓Ev.wq_vNot, ↓Ev.wq_vOr, ↓Ev.wq_var0, ↓Ev.wq_varS, ↓Ev.wq_yes, ↓Ev.wq_zip, ↓Ev.ws_asg, ↓Ev.ws_brk, ↓Ev.ws_cnt, ↓Ev.ws_expr, ↓Ev.ws_for, ↓Ev.ws_if, ↓Ev.ws_in, ↓Ev.ws_kn, ↓Ev.ws_nil, ↓Ev.ws_nx, ↓Ev.ws_put, ↓Ev.ws_ret, ↓Ev.ws_retN, ↓Ev.ws_rt, ↓Ev.ws_seq, ↓Ev.ws_while, ↓Ev.ws_set, ↓Ev.wo_some, ↓Ev.onB_b, ↓Ev.onI_i, ↓Ev.Kn_rt, ↓Ev.Kn_bk, ↓Ev.Kn_ct, ↓Ev.onRet_nx, ↓Ev.onRet_rt, ↓Ev.onNx_nx, ↓Ev.onNx_ct, ↓Ev.onNx_bk, ↓Ev.onNx_rt, List.map_cons, List.map_nil, List.length_cons, List.length_nil, List.replicate, List.cons_append, List.nil_append, Nat.reduceAdd, Nat.reduceSub, List.set_cons_zero, List.set_cons_succ, if_true, if_false, true_and, and_true, Bool.false_eq_true, Bool.not_true, Bool.not_false, ↓reduceIte, Ev.ifF, Nat.zero_add, Ev.startE, Ev.wipeE, Ev.put_nm, Ev.put_tp, Ev.puts_nil, Ev.puts_cons, Option.bind_some, Ev.seqLen_t, Ev.seqLen_r, Ev.addW_ii, Ev.addW_tt, Ev.subW_ii, Ev.mulW_ii, Ev.modW_ii, Ev.fdivW_ii, Ev.powW_ii, Ev.negW_i, Ev.cmpI_ii, Ev.isW_n, Ev.isnW_n, Ev.isNon_n, Ev.isNon_b, Ev.isNon_i, Ev.isNon_s, Ev.isNon_t, Ev.isNon_l, Ev.max2W_ii, Ev.min2W_ii, Ev.intW_i, Ev.intW_b, Ev.lenW_t, Ev.lenW_r, Ev.listW_t, Ev.tupleW_t, Ev.truW_b, Ev.truW_n, Ev.truW_i, Ev.truW_t, Ev.eqW_ii, Ev.neW_ii, Ev.eqW_ss, Ev.neW_ss, Ev.eqW_bb, Ev.ixN_0, Ev.ixN_1, Ev.ixN_2, Ev.ixN_3, Ev.isi_bb, Ev.isi_bs, Ev.isi_bi, Ev.isi_bt, Ev.isi_bl, Ev.isi_ib, Ev.isi_is, Ev.isi_ii, Ev.isi_it, Ev.isi_il, Ev.isi_sb, Ev.isi_ss, Ev.isi_si, Ev.isi_st, Ev.isi_sl, Ev.isi_tb, Ev.isi_ts, Ev.isi_ti, Ev.isi_tt, Ev.isi_tl, Ev.isi_nb, Ev.isi_ns, Ev.isi_ni, Ev.isi_nt, Ev.isi_nl, Ev.atI_0, Ev.atI_1, Ev.atI_2, Ev.atI_3, Ev.atI_4, Ev.tyOk_s, Ev.slW_to, Ev.slW_from, Ev.addW_SS, Int.toNat_natCast, Option.some.injEq, List.set_set, Option.map_some, W.int.injEq, W.str.injEq, W.loc.injEq, Nat.reduceLeDiff, and_self, Int.reduceLT, Int.reduceLE, Int.reduceNeg, Int.reduceToNat, Int.reduceAdd, Int.reduceMul, Int.reduceSub, decide_eq_true_eq, m_f_is_whole, Wo.w, whl]
    refine wpR_mono (iha (by omega)) ?_
    rintro v S1 ⟨rfl, rfl⟩
    try simp (maxSteps := 500000) (implicitDefEqProofs := false) (disch := omega) only [↓Ev.wq_aCons, ↓Ev.wq_aNil, ↓Ev.wq_and, ↓Ev.wq_bind, ↓Ev.wq_c, ↓Ev.wq_dnew, ↓Ev.wq_e1, ↓Ev.wq_e2, ↓Ev.wq_eIf, ↓Ev.wq_eL, ↓Ev.wq_eM, ↓Ev.wq_eSl, ↓Ev.wq_in, ↓Ev.wq_ite, ↓Ev.wq_ixR, ↓Ev.wq_ixS, ↓Ev.wq_ixT, ↓Ev.wq_lc, ↓Ev.wq_lst, ↓Ev.wq_no, ↓Ev.wq_not, ↓Ev.wq_oNone, ↓Ev.wq_oSome, ↓Ev.wq_ok, ↓Ev.wq_or, ↓Ev.wq_rng1, ↓Ev.wq_rng2, ↓Ev.wq_run, ↓Ev.wq_seq, ↓Ev.wq_test, ↓Ev.wq_tru, ↓Ev.wq_tup, ↓Ev.wq_vAnd, ↓Ev.wq_vNot, ↓Ev.wq_vOr, ↓Ev.wq_var0, ↓Ev.wq_varS, ↓Ev.wq_yes, ↓Ev.wq_zip, ↓Ev.ws_asg, ↓Ev.ws_brk, ↓Ev.ws_cnt, ↓Ev.ws_expr, ↓Ev.ws_for, ↓Ev.ws_if, ↓Ev.ws_in, ↓Ev.ws_kn, ↓Ev.ws_nil, ↓Ev.ws_nx, ↓Ev.ws_put, ↓Ev.ws_ret, ↓Ev.ws_retN, ↓Ev.ws_rt, ↓Ev.ws_seq, ↓Ev.ws_while, ↓Ev.ws_set, ↓Ev.wo_some, ↓Ev.onB_b, ↓Ev.onI_i, ↓Ev.Kn_rt, ↓Ev.Kn_bk, ↓Ev.Kn_ct, ↓Ev.onRet_nx, ↓Ev.onRet_rt, ↓Ev.onNx_nx, ↓Ev.onNx_ct, ↓Ev.onNx_bk, ↓Ev.onNx_rt, List.map_cons, List.map_nil, List.length_cons, List.length_nil, List.replicate, List.cons_append, List.nil_append, Nat.reduceAdd, Nat.reduceSub, List.set_cons_zero, List.set_cons_succ, if_true, if_false, true_and, and_true, Bool.false_eq_true, Bool.not_true, Bool.not_false, ↓reduceIte, Ev.ifF, Nat.zero_add, Ev.startE, Ev.wipeE, Ev.put_nm, Ev.put_tp, Ev.puts_nil, Ev.puts_cons, Option.bind_some, Ev.seqLen_t, Ev.seqLen_r, Ev.addW_ii, Ev.addW_tt, Ev.subW_ii, Ev.mulW_ii, Ev.modW_ii, Ev.fdivW_ii, Ev.powW_ii, Ev.negW_i, Ev.cmpI_ii, Ev.isW_n, Ev.isnW_n, Ev.isNon_n, Ev.isNon_b, Ev.isNon_i, Ev.isNon_s, Ev.isNon_t, Ev.isNon_l, Ev.max2W_ii, Ev.min2W_ii, Ev.intW_i, Ev.intW_b, Ev.lenW_t, Ev.lenW_r, Ev.listW_t, Ev.tupleW_t, Ev.truW_b, Ev.truW_n, Ev.truW_i, Ev.truW_t, Ev.eqW_ii, Ev.neW_ii, Ev.eqW_ss, Ev.neW_ss, Ev.eqW_bb, Ev.ixN_0, Ev.ixN_1, Ev.ixN_2, Ev.ixN_3, Ev.isi_bb, Ev.isi_bs, Ev.isi_bi, Ev.isi_bt, Ev.isi_bl, Ev.isi_ib, Ev.isi_is, Ev.isi_ii, Ev.isi_it, Ev.isi_il, Ev.isi_sb, Ev.isi_ss, Ev.isi_si, Ev.isi_st, Ev.isi_sl, Ev.isi_tb, Ev.isi_ts, Ev.isi_ti, Ev.isi_tt, Ev.isi_tl, Ev.isi_nb, Ev.isi_ns, Ev.isi_ni, Ev.isi_nt, Ev.isi_nl, Ev.atI_0, Ev.atI_1, Ev.atI_2, Ev.atI_3, Ev.atI_4, Ev.tyOk_s, Ev.slW_to, Ev.slW_from, Ev.addW_SS, Int.toNat_natCast, Option.some.injEq, List.set_set, Option.map_some, W.int.injEq, W.str.injEq, W.loc.injEq, Nat.reduceLeDiff, and_self, Int.reduceLT, Int.reduceLE, Int.reduceNeg, Int.reduceToNat, Int.reduceAdd, Int.reduceMul, Int.reduceSub, decide_eq_true_eq]
    by_cases h : whl a = true
    · rw [if_pos h, h]
      refine wpR_mono (ihb (by omega)) ?_
      rintro v S1 ⟨rfl, rfl⟩
      try simp (maxSteps := 500000) (implicitDefEqProofs := false) (disch := omega) only [↓Ev.wq_aCons, ↓Ev.wq_aNil, ↓Ev.wq_and, ↓Ev.wq_bind, ↓Ev.wq_c, ↓Ev.wq_dnew, ↓Ev.wq_e1, ↓Ev.wq_e2, ↓Ev.wq_eIf, ↓Ev.wq_eL, ↓Ev.wq_eM, ↓Ev.wq_eSl, ↓Ev.wq_in, ↓Ev.wq_ite, ↓Ev.wq_ixR, ↓Ev.wq_ixS, ↓Ev.wq_ixT, ↓Ev.wq_lc, ↓Ev.wq_lst, ↓Ev.wq_no, ↓Ev.wq_not, ↓Ev.wq_oNone, ↓Ev.wq_oSome, ↓Ev.wq_ok, ↓Ev.wq_or, ↓Ev.wq_rng1, ↓Ev.wq_rng2, ↓Ev.wq_run, ↓Ev.wq_seq, ↓Ev.wq_test, ↓Ev.wq_tru, ↓Ev.wq_tup, ↓Ev.wq_vAnd, ↓Ev.wq_vNot, ↓Ev.wq_vOr, ↓Ev.wq_var0, ↓Ev.wq_varS, ↓Ev.wq_yes, ↓Ev.wq_zip, ↓Ev.ws_asg, ↓Ev.ws_brk, ↓Ev.ws_cnt, ↓Ev.ws_expr, ↓Ev.ws_for, ↓Ev.ws_if, ↓Ev.ws_in, ↓Ev.ws_kn, ↓Ev.ws_nil, ↓Ev.ws_nx, ↓Ev.ws_put, ↓Ev.ws_ret, ↓Ev.ws_retN, ↓Ev.ws_rt, ↓Ev.ws_seq, ↓Ev.ws_while, ↓Ev.ws_set, ↓Ev.wo_some, ↓Ev.onB_b, ↓Ev.onI_i, ↓Ev.Kn_rt, ↓Ev.Kn_bk, ↓Ev.Kn_ct, ↓Ev.onRet_nx, ↓Ev.onRet_rt, ↓Ev.onNx_nx, ↓Ev.onNx_ct, ↓Ev.onNx_bk, ↓Ev.onNx_rt, List.map_cons, List.map_nil, List.length_cons, List.length_nil, List.replicate, List.cons_append, List.nil_append, Nat.reduceAdd, Nat.reduceSub, List.set_cons_zero, List.set_cons_succ, if_true, if_false, true_and, and_true, Bool.false_eq_true, Bool.not_true, Bool.not_false, ↓reduceIte, Ev.ifF, Nat.zero_add, Ev.startE, Ev.wipeE, Ev.put_nm, Ev.put_tp, Ev.puts_nil, Ev.puts_cons, Option.bind_some, Ev.seqLen_t, Ev.seqLen_r, Ev.addW_ii, Ev.addW_tt, Ev.subW_ii, Ev.mulW_ii, Ev.modW_ii, Ev.fdivW_ii, Ev.powW_ii, Ev.negW_i, Ev.cmpI_ii, Ev.isW_n, Ev.isnW_n, Ev.isNon_n, Ev.isNon_b, Ev.isNon_i, Ev.isNon_s, Ev.isNon_t, Ev.isNon_l, Ev.max2W_ii, Ev.min2W_ii, Ev.intW_i, Ev.intW_b, Ev.lenW_t, Ev.lenW_r, Ev.listW_t, Ev.tupleW_t, Ev.truW_b, Ev.truW_n, Ev.truW_i, Ev.truW_t, Ev.eqW_ii, Ev.neW_ii, Ev.eqW_ss, Ev.neW_ss, Ev.eqW_bb, Ev.ixN_0, Ev.ixN_1, Ev.ixN_2, Ev.ixN_3, Ev.isi_bb, Ev.isi_bs, Ev.isi_bi, Ev.isi_bt, Ev.isi_bl, Ev.isi_ib, Ev.isi_is, Ev.isi_ii, Ev.isi_it, Ev.isi_il, Ev.isi_sb, Ev.isi_ss, Ev.isi_si, Ev.isi_st, Ev.isi_sl, Ev.isi_tb, Ev.isi_ts, Ev.isi_ti, Ev.isi_tt, Ev.isi_tl, Ev.isi_nb, Ev.isi_ns, Ev.isi_ni, Ev.isi_nt, Ev.isi_nl, Ev.atI_0, Ev.atI_1, Ev.atI_2, Ev.atI_3, Ev.atI_4, Ev.tyOk_s, Ev.slW_to, Ev.slW_from, Ev.addW_SS, Int.toNat_natCast, Option.some.injEq, List.set_set, Option.map_some, W.int.injEq, W.str.injEq, W.loc.injEq, Nat.reduceLeDiff, and_self, Int.reduceLT, Int.reduceLE, Int.reduceNeg, Int.reduceToNat, Int.reduceAdd, Int.reduceMul, Int.reduceSub, decide_eq_true_eq, Bool.true_and]
    · rw [if_neg h]
      have : whl a = false := by simpa using h
      rw [this]; rfl
theorem f_law_whole_ok : ∀ (x : Wo) {n : Nat} {S : Sto}, x.dp < n → wpR (call n .f_law_whole [x.w] S) fun v S' => v = .bl (whl x) ∧ S' = S := by
  intro x
  induction x with
  | no =>
    intro n S hn
    obtain ⟨n, rfl⟩ : ∃ m, n = m + 1 := ⟨n - 1, by omega⟩
    rw [call_s, body]
    simp (maxSteps := 500000) (implicitDefEqProofs := false) (disch := omega) only [↓Ev.wq_aCons, ↓Ev.wq_aNil, ↓Ev.wq_and, ↓Ev.wq_bind, ↓Ev.wq_c, ↓Ev.wq_dnew, ↓Ev.wq_e1, ↓Ev.wq_e2, ↓Ev.wq_eIf, ↓Ev.wq_eL, ↓Ev.wq_eM, ↓Ev.wq_eSl, ↓Ev.wq_in, ↓Ev.wq_ite, ↓Ev.wq_ixR, ↓Ev.wq_ixS, ↓Ev.wq_ixT, ↓Ev.wq_lc, ↓Ev.wq_lst, ↓Ev.wq_no, ↓Ev.wq_not, ↓Ev.wq_oNone, ↓Ev.wq_oSome, ↓Ev.wq_ok, ↓Ev.wq_or, ↓Ev.wq_rng1, ↓Ev.wq_rng2, ↓Ev.wq_run, ↓Ev.wq_seq, ↓Ev.wq_test, ↓Ev.wq_tru, ↓Ev.wq_tup, ↓Ev.wq_vAnd, ↓Ev.wq_vNot, ↓Ev.wq_vOr, ↓Ev.wq_var0, ↓Ev.wq_varS, ↓Ev.wq_yes, ↓Ev.wq_zip, ↓Ev.ws_asg, ↓Ev.ws_brk, ↓Ev.ws_cnt, ↓Ev.ws_expr, ↓Ev.ws_for, ↓Ev.ws_if, ↓Ev.ws_in, ↓Ev.ws_kn, ↓Ev.ws_nil, ↓Ev.ws_nx, ↓Ev.ws_put, ↓Ev.ws_ret, ↓Ev.ws_retN, ↓Ev.ws_rt, ↓Ev.ws_seq, ↓Ev.ws_while, ↓Ev.ws_set, ↓Ev.wo_some, ↓Ev.onB_b, ↓Ev.onI_i, ↓Ev.Kn_rt, ↓Ev.Kn_bk, ↓Ev.Kn_ct, ↓Ev.onRet_nx, ↓Ev.onRet_rt, ↓Ev.onNx_nx, ↓Ev.onNx_ct, ↓Ev.onNx_bk, ↓Ev.onNx_rt, List.map_cons, List.map_nil, List.length_cons, List.length_nil, List.replicate, List.cons_append, List.nil_append, Nat.reduceAdd, Nat.reduceSub, List.set_cons_zero, List.set_cons_succ, if_true, if_false, true_and, and_true, Bool.false_eq_true, Bool.not_true, Bool.not_false, ↓reduceIte, Ev.ifF, Nat.zero_add, Ev.startE, Ev.wipeE, Ev.put_nm, Ev.put_tp, Ev.puts_nil, Ev.puts_cons, Option.bind_some, Ev.seqLen_t, Ev.seqLen_r, Ev.addW_ii, Ev.addW_tt, Ev.subW_ii, Ev.mulW_ii, Ev.modW_ii, Ev.fdivW_ii, Ev.powW_ii, Ev.negW_i, Ev.cmpI_ii, Ev.isW_n, Ev.isnW_n, Ev.isNon_n, Ev.isNon_b, Ev.isNon_i, Ev.isNon_s, Ev.isNon_t, Ev.isNon_l, Ev.max2W_ii, Ev.min2W_ii, Ev.intW_i, Ev.intW_b, Ev.lenW_t, Ev.lenW_r, Ev.listW_t, Ev.tupleW_t, Ev.truW_b, Ev.truW_n, Ev.truW_i, Ev.truW_t, Ev.eqW_ii, Ev.neW_ii, Ev.eqW_ss, Ev.neW_ss, Ev.eqW_bb, Ev.ixN_0, Ev.ixN_1, Ev.ixN_2, Ev.ixN_3, Ev.isi_bb, Ev.isi_bs, Ev.isi_bi, Ev.isi_bt, Ev.isi_bl, Ev.isi_ib, Ev.isi_is, Ev.isi_ii, Ev.isi_it, Ev.isi_il, Ev.isi_sb, Ev.isi_ss, Ev.isi_si, Ev.isi_st, Ev.isi_sl, Ev.isi_tb, Ev.isi_ts, Ev.isi_ti, Ev.isi_tt, Ev.isi_tl, Ev.isi_nb, Ev.isi_ns, Ev.isi_ni, Ev.isi_nt, Ev.isi_nl, Ev.atI_0, Ev.atI_1, Ev.atI_2, Ev.atI_3, Ev.atI_4, Ev.tyOk_s, Ev.slW_to, Ev.slW_from, Ev.addW_SS, Int.toNat_natCast, Option.some.injEq, List.set_set, Option.map_some, W.int.injEq, W.str.injEq, W.loc.injEq, Nat.reduceLeDiff, and_self, Int.reduceLT, Int.reduceLE, Int.reduceNeg, Int.reduceToNat, Int.reduceAdd, Int.reduceMul, Int.reduceSub, decide_eq_true_eq, m_f_law_whole, Wo.w, whl]
  | tag t =>
    intro n S hn
    obtain ⟨n, rfl⟩ : ∃ m, n = m + 1 := ⟨n - 1, by omega⟩
    rw [call_s, body]
    simp (maxSteps := 500000) (implicitDefEqProofs := false) (disch := omega) only [↓Ev.wq_aCons, ↓Ev.wq_aNil, ↓Ev.wq_and, ↓Ev.wq_bind, ↓Ev.wq_c, ↓Ev.wq_dnew, ↓Ev.wq_e1, ↓Ev.wq_e2, ↓Ev.wq_eIf, ↓Ev.wq_eL, ↓Ev.wq_eM, ↓Ev.wq_eSl, ↓Ev.wq_in, ↓Ev.wq_ite, ↓Ev.wq_ixR, ↓Ev.wq_ixS, ↓Ev.wq_ixT, ↓Ev.wq_lc, ↓Ev.wq_lst, ↓Ev.wq_no, ↓Ev.wq_not, ↓Ev.wq_oNone, ↓Ev.wq_oSome, ↓Ev.wq_ok, ↓Ev.wq_or, ↓Ev.wq_rng1, ↓Ev.wq_rng2, ↓Ev.wq_run, ↓Ev.wq_seq, ↓Ev.wq_test, ↓Ev.wq_tru, ↓Ev.wq_tup, ↓Ev.wq_vAnd, ↓Ev.wq_vNot, ↓Ev.wq_vOr, ↓Ev.wq_var0, ↓Ev.wq_varS, ↓Ev.wq_yes, ↓Ev.wq_zip, ↓Ev.ws_asg, ↓Ev.ws_brk, ↓Ev.ws_cnt, ↓Ev.ws_expr, ↓Ev.ws_for, ↓Ev.ws_if, ↓Ev.ws_in, ↓Ev.ws_kn, ↓Ev.ws_nil, ↓Ev.ws_nx, ↓Ev.ws_put, ↓Ev.ws_ret, ↓Ev.ws_retN, ↓Ev.ws_rt, ↓Ev.ws_seq, ↓Ev.ws_while, ↓Ev.ws_set, ↓Ev.wo_some, ↓Ev.onB_b, ↓Ev.onI_i, ↓Ev.Kn_rt, ↓Ev.Kn_bk, ↓Ev.Kn_ct, ↓Ev.onRet_nx, ↓Ev.onRet_rt, ↓Ev.onNx_nx, ↓Ev.onNx_ct, ↓Ev.onNx_bk, ↓Ev.onNx_rt, List.map_cons, List.map_nil, List.length_cons, List.length_nil, List.replicate, List.cons_append, List.nil_append, Nat.reduceAdd, Nat.reduceSub, List.set_cons_zero, List.set_cons_succ, if_true, if_false, true_and, and_true, Bool.false_eq_true, Bool.not_true, Bool.not_false, ↓reduceIte, Ev.ifF, Nat.zero_add, Ev.startE, Ev.wipeE, Ev.put_nm, Ev.put_tp, Ev.puts_nil, Ev.puts_cons, Option.bind_some, Ev.seqLen_t, Ev.seqLen_r, Ev.addW_ii, Ev.addW_tt, Ev.subW_ii, Ev.mulW_ii, Ev.modW_ii, Ev.fdivW_ii, Ev.powW_ii, Ev.negW_i, Ev.cmpI_ii, Ev.isW_n, Ev.isnW_n, Ev.isNon_n, Ev.isNon_b, Ev.isNon_i, Ev.isNon_s, Ev.isNon_t, Ev.isNon_l, Ev.max2W_ii, Ev.min2W_ii, Ev.intW_i, Ev.intW_b, Ev.lenW_t, Ev.lenW_r, Ev.listW_t, Ev.tupleW_t, Ev.truW_b, Ev.truW_n, Ev.truW_i, Ev.truW_t, Ev.eqW_ii, Ev.neW_ii, Ev.eqW_ss, Ev.neW_ss, Ev.eqW_bb, Ev.ixN_0, Ev.ixN_1, Ev.ixN_2, Ev.ixN_3, Ev.isi_bb, Ev.isi_bs, Ev.isi_bi, Ev.isi_bt, Ev.isi_bl, Ev.isi_ib, Ev.isi_is, Ev.isi_ii, Ev.isi_it, Ev.isi_il, Ev.isi_sb, Ev.isi_ss, Ev.isi_si, Ev.isi_st, Ev.isi_sl, Ev.isi_tb, Ev.isi_ts, Ev.isi_ti, Ev.isi_tt, Ev.isi_tl, Ev.isi_nb, Ev.isi_ns, Ev.isi_ni, Ev.isi_nt, Ev.isi_nl, Ev.atI_0, Ev.atI_1, Ev.atI_2, Ev.atI_3, Ev.atI_4, Ev.tyOk_s, Ev.slW_to, Ev.slW_from, Ev.addW_SS, Int.toNat_natCast, Option.some.injEq, List.set_set, Option.map_some, W.int.injEq, W.str.injEq, W.loc.injEq, Nat.reduceLeDiff, and_self, Int.reduceLT, Int.reduceLE, Int.reduceNeg, Int.reduceToNat, Int.reduceAdd, Int.reduceMul, Int.reduceSub, decide_eq_true_eq, m_f_law_whole, Wo.w, whl]
  | pr a b iha ihb =>
    intro n S hn
    have hn' : max a.dp b.dp + 1 < n := hn
    obtain ⟨n, rfl⟩ : ∃ m, n = m + 1 := ⟨n - 1, by omega⟩
    rw [call_s, body]
    simp (maxSteps := 500000) (implicitDefEqProofs := false) (disch := omega) only [↓Ev.wq_aCons, ↓Ev.wq_aNil, ↓Ev.wq_and, ↓Ev.wq_bind, ↓Ev.wq_c, ↓Ev.wq_dnew, ↓Ev.wq_e1, ↓Ev.wq_e2, ↓Ev.wq_eIf, ↓Ev.wq_eL, ↓Ev.wq_eM, ↓Ev.wq_eSl, ↓Ev.wq_in, ↓Ev.wq_ite, ↓Ev.wq_ixR, ↓Ev.wq_ixS, ↓Ev.wq_ixT, ↓Ev.wq_lc, ↓Ev.wq_lst, ↓Ev.wq_no, ↓Ev.wq_not, ↓Ev.wq_oNone, ↓Ev.wq_oSome, ↓Ev.wq_ok, ↓Ev.wq_or, ↓Ev.wq_rng1, ↓Ev.wq_rng2, ↓Ev.wq_run, ↓Ev.wq_seq, ↓Ev.wq_test, ↓Ev.wq_tru, ↓Ev.wq_tup, ↓Ev.wq_vAnd, ↓Ev.wq_vNot, ↓Ev.wq_vOr, ↓Ev.wq_var0, ↓Ev.wq_varS, ↓Ev.wq_yes, ↓Ev.wq_zip, ↓Ev.ws_asg, ↓Ev.ws_brk, ↓Ev.ws_cnt, ↓Ev.ws_expr, ↓Ev.ws_for, ↓Ev.ws_if, ↓Ev.ws_in, ↓Ev.ws_kn, ↓Ev.ws_nil, ↓Ev.ws_nx, ↓Ev.ws_put, ↓Ev.ws_ret, ↓Ev.ws_retN, ↓Ev.ws_rt, ↓Ev.ws_seq, ↓Ev.ws_while, ↓Ev.ws_set, ↓Ev.wo_some, ↓Ev.onB_b, ↓Ev.onI_i, ↓Ev.Kn_rt, ↓Ev.Kn_bk, ↓Ev.Kn_ct, ↓Ev.onRet_nx, ↓Ev.onRet_rt, ↓Ev.onNx_nx, ↓Ev.onNx_ct, ↓Ev.onNx_bk, ↓Ev.onNx_rt, List.map_cons, List.map_nil, List.length_cons, List.length_nil, List.replicate, List.cons_append, List.nil_append, Nat.reduceAdd, Nat.reduceSub, List.set_cons_zero, List.set_cons_succ, if_true, if_false, true_and, and_true, Bool.false_eq_true, Bool.not_true, Bool.not_false, ↓reduceIte, Ev.ifF, Nat.zero_add, Ev.startE, Ev.wipeE, Ev.put_nm, Ev.put_tp, Ev.puts_nil, Ev.puts_cons, Option.bind_some, Ev.seqLen_t, Ev.seqLen_r, Ev.addW_ii, Ev.addW_tt, Ev.subW_ii, Ev.mulW_ii, Ev.modW_ii, Ev.fdivW_ii, Ev.powW_ii, Ev.negW_i, Ev.cmpI_ii, Ev.isW_n, Ev.isnW_n, Ev.isNon_n, Ev.isNon_b, Ev.isNon_i, Ev.isNon_s, Ev.isNon_t, Ev.isNon_l, Ev.max2W_ii, Ev.min2W_ii, Ev.intW_i, Ev.intW_b, Ev.lenW_t, Ev.lenW_r, Ev.listW_t, Ev.tupleW_t, Ev.truW_b, Ev.truW_n, Ev.truW_i, Ev.truW_t, Ev.eqW_ii, Ev.neW_ii, Ev.eqW_ss, Ev.neW_ss, Ev.eqW_bb, Ev.ixN_0, Ev.ixN_1, Ev.ixN_2, Ev.ixN_3, Ev.isi_bb, Ev.isi_bs, Ev.isi_bi, Ev.isi_bt, Ev.isi_bl, Ev.isi_ib, Ev.isi_is, Ev.isi_ii, Ev.isi_it, Ev.isi_il, Ev.isi_sb, Ev.isi_ss, Ev.isi_si, Ev.isi_st, Ev.isi_sl, Ev.isi_tb, Ev.isi_ts, Ev.isi_ti, Ev.isi_tt, Ev.isi_tl, Ev.isi_nb, Ev.isi_ns, Ev.isi_ni, Ev.isi_nt, Ev.isi_nl, Ev.atI_0, Ev.atI_1, Ev.atI_2, Ev.atI_3, Ev.atI_4, Ev.tyOk_s, Ev.slW_to, Ev.slW_from, Ev.addW_SS, Int.toNat_natCast, Option.some.injEq, List.set_set, Option.map_some, W.int.injEq, W.str.injEq, W.loc.injEq, Nat.reduceLeDiff, and_self, Int.reduceLT, Int.reduceLE, Int.reduceNeg, Int.reduceToNat, Int.reduceAdd, Int.reduceMul, Int.reduceSub, decide_eq_true_eq, m_f_law_whole, Wo.w, whl]
    refine wpR_mono (iha (by omega)) ?_
    rintro v S1 ⟨rfl, rfl⟩
    try simp (maxSteps := 500000) (implicitDefEqProofs := false) (disch := omega) only [↓Ev.wq_aCons, ↓Ev.wq_aNil, ↓Ev.wq_and, ↓Ev.wq_bind, ↓Ev.wq_c, ↓Ev.wq_dnew, ↓Ev.wq_e1, ↓Ev.wq_e2, ↓Ev.wq_eIf, ↓Ev.wq_eL, ↓Ev.wq_eM, ↓Ev.wq_eSl, ↓Ev.wq_in, ↓Ev.wq_ite, ↓Ev.wq_ixR, ↓Ev.wq_ixS, ↓Ev.wq_ixT, ↓Ev.wq_lc, ↓Ev.wq_lst, ↓Ev.wq_no, ↓Ev.wq_not, ↓Ev.wq_oNone, ↓Ev.wq_oSome, ↓Ev.wq_ok, ↓Ev.wq_or, ↓Ev.wq_rng1, ↓Ev.wq_rng2, ↓Ev.wq_run, ↓Ev.wq_seq, ↓Ev.wq_test, ↓Ev.wq_tru, ↓Ev.wq_tup, ↓Ev.wq_vAnd, ↓Ev.wq_vNot, ↓Ev.wq_vOr, ↓Ev.wq_var0, ↓Ev.wq_varS, ↓Ev.wq_yes, ↓Ev.wq_zip, ↓Ev.ws_asg, ↓Ev.ws_brk, ↓Ev.ws_cnt, ↓Ev.ws_expr, ↓Ev.ws_for, ↓Ev.ws_if, ↓Ev.ws_in, ↓Ev.ws_kn, ↓Ev.ws_nil, ↓Ev.ws_nx, ↓Ev.ws_put, ↓Ev.ws_ret, ↓Ev.ws_retN, ↓Ev.ws_rt, ↓Ev.ws_seq, ↓Ev.ws_while, ↓Ev.ws_set, ↓Ev.wo_some, ↓Ev.onB_b, ↓Ev.onI_i, ↓Ev.Kn_rt, ↓Ev.Kn_bk, ↓Ev.Kn_ct, ↓Ev.onRet_nx, ↓Ev.onRet_rt, ↓Ev.onNx_nx, ↓Ev.onNx_ct, ↓Ev.onNx_bk, ↓Ev.onNx_rt, List.map_cons, List.map_nil, List.length_cons, List.length_nil, List.replicate, List.cons_append, List.nil_append, Nat.reduceAdd, Nat.reduceSub, List.set_cons_zero, List.set_cons_succ, if_true, if_false, true_and, and_true, Bool.false_eq_true, Bool.not_true, Bool.not_false, ↓reduceIte, Ev.ifF, Nat.zero_add, Ev.startE, Ev.wipeE, Ev.put_nm, Ev.put_tp, Ev.puts_nil, Ev.puts_cons, Option.bind_some, Ev.seqLen_t, Ev.seqLen_r, Ev.addW_ii, Ev.addW_tt, Ev.subW_ii, Ev.mulW_ii, Ev.modW_ii, Ev.fdivW_ii, Ev.powW_ii, Ev.negW_i, Ev.cmpI_ii, Ev.isW_n, Ev.isnW_n, Ev.isNon_n, Ev.isNon_b, Ev.isNon_i, Ev.isNon_s, Ev.isNon_t, Ev.isNon_l, Ev.max2W_ii, Ev.min2W_ii, Ev.intW_i, Ev.intW_b, Ev.lenW_t, Ev.lenW_r, Ev.listW_t, Ev.tupleW_t, Ev.truW_b, Ev.truW_n, Ev.truW_i, Ev.truW_t, Ev.eqW_ii, Ev.neW_ii, Ev.eqW_ss, Ev.neW_ss, Ev.eqW_bb, Ev.ixN_0, Ev.ixN_1, Ev.ixN_2, Ev.ixN_3, Ev.isi_bb, Ev.isi_bs, Ev.isi_bi, Ev.isi_bt, Ev.isi_bl, Ev.isi_ib, Ev.isi_is, Ev.isi_ii, Ev.isi_it, Ev.isi_il, Ev.isi_sb, Ev.isi_ss, Ev.isi_si, Ev.isi_st, Ev.isi_sl, Ev.isi_tb, Ev.isi_ts, Ev.isi_ti, Ev.isi_tt, Ev.isi_tl, Ev.isi_nb, Ev.isi_ns, Ev.isi_ni, Ev.isi_nt, Ev.isi_nl, Ev.atI_0, Ev.atI_1, Ev.atI_2, Ev.atI_3, Ev.atI_4, Ev.tyOk_s, Ev.slW_to, Ev.slW_from, Ev.addW_SS, Int.toNat_natCast, Option.some.injEq, List.set_set, Option.map_some, W.int.injEq, W.str.injEq, W.loc.injEq, Nat.reduceLeDiff, and_self, Int.reduceLT, Int.reduceLE, Int.reduceNeg, Int.reduceToNat, Int.reduceAdd, Int.reduceMul, Int.reduceSub, decide_eq_true_eq]
    by_cases h : whl a = true
    · rw [if_pos h, h]
      refine wpR_mono (ihb (by omega)) ?_
      rintro v S1 ⟨rfl, rfl⟩
      try simp (maxSteps := 500000) (implicitDefEqProofs := false) (disch := omega) only [↓Ev.wq_aCons, ↓Ev.wq_aNil, ↓Ev.wq_and, ↓Ev.wq_bind, ↓Ev.wq_c, ↓Ev.wq_dnew, ↓Ev.wq_e1, ↓Ev.wq_e2, ↓Ev.wq_eIf, ↓Ev.wq_eL, ↓Ev.wq_eM, ↓Ev.wq_eSl, ↓Ev.wq_in, ↓Ev.wq_ite, ↓Ev.wq_ixR, ↓Ev.wq_ixS, ↓Ev.wq_ixT, ↓Ev.wq_lc, ↓Ev.wq_lst, ↓Ev.wq_no, ↓Ev.wq_not, ↓Ev.wq_oNone, ↓Ev.wq_oSome, ↓Ev.wq_ok, ↓Ev.wq_or, ↓Ev.wq_rng1, ↓Ev.wq_rng2, ↓Ev.wq_run, ↓Ev.wq_seq, ↓Ev.wq_test, ↓Ev.wq_tru, ↓Ev.wq_tup, ↓Ev.wq_vAnd, ↓Ev.wq_vNot, ↓Ev.wq_vOr, ↓Ev.wq_var0, ↓Ev.wq_varS, ↓Ev.wq_yes, ↓Ev.wq_zip, ↓Ev.ws_asg, ↓Ev.ws_brk, ↓Ev.ws_cnt, ↓Ev.ws_expr, ↓Ev.ws_for, ↓Ev.ws_if, ↓Ev.ws_in, ↓Ev.ws_kn, ↓Ev.ws_nil, ↓Ev.ws_nx, ↓Ev.ws_put, ↓Ev.ws_ret, ↓Ev.ws_retN, ↓Ev.ws_rt, ↓Ev.ws_seq, ↓Ev.ws_while, ↓Ev.ws_set, ↓Ev.wo_some, ↓Ev.onB_b, ↓Ev.onI_i, ↓Ev.Kn_rt, ↓Ev.Kn_bk, ↓Ev.Kn_ct, ↓Ev.onRet_nx, ↓Ev.onRet_rt, ↓Ev.onNx_nx, ↓Ev.onNx_ct, ↓Ev.onNx_bk, ↓Ev.onNx_rt, List.map_cons, List.map_nil, List.length_cons, List.length_nil, List.replicate, List.cons_append, List.nil_append, Nat.reduceAdd, Nat.reduceSub, List.set_cons_zero, List.set_cons_succ, if_true, if_false, true_and, and_true, Bool.false_eq_true, Bool.not_true, Bool.not_false, ↓reduceIte, Ev.ifF, Nat.zero_add, Ev.startE, Ev.wipeE, Ev.put_nm, Ev.put_tp, Ev.puts_nil, Ev.puts_cons, Option.bind_some, Ev.seqLen_t, Ev.seqLen_r, Ev.addW_ii, Ev.addW_tt, Ev.subW_ii, Ev.mulW_ii, Ev.modW_ii, Ev.fdivW_ii, Ev.powW_ii, Ev.negW_i, Ev.cmpI_ii, Ev.isW_n, Ev.isnW_n, Ev.isNon_n, Ev.isNon_b, Ev.isNon_i, Ev.isNon_s, Ev.isNon_t, Ev.isNon_l, Ev.max2W_ii, Ev.min2W_ii, Ev.intW_i, Ev.intW_b, Ev.lenW_t, Ev.lenW_r, Ev.listW_t, Ev.tupleW_t, Ev.truW_b, Ev.truW_n, Ev.truW_i, Ev.truW_t, Ev.eqW_ii, Ev.neW_ii, Ev.eqW_ss, Ev.neW_ss, Ev.eqW_bb, Ev.ixN_0, Ev.ixN_1, Ev.ixN_2, Ev.ixN_3, Ev.isi_bb, Ev.isi_bs, Ev.isi_bi, Ev.isi_bt, Ev.isi_bl, Ev.isi_ib, Ev.isi_is, Ev.isi_ii, Ev.isi_it, Ev.isi_il, Ev.isi_sb, Ev.isi_ss, Ev.isi_si, Ev.isi_st, Ev.isi_sl, Ev.isi_tb, Ev.isi_ts, Ev.isi_ti, Ev.isi_tt, Ev.isi_tl, Ev.isi_nb, Ev.isi_ns, Ev.isi_ni, Ev.isi_nt, Ev.isi_nl, Ev.atI_0, Ev.atI_1, Ev.atI_2, Ev.atI_3, Ev.atI_4, Ev.tyOk_s, Ev.slW_to, Ev.slW_from, Ev.addW_SS, Int.toNat_natCast, Option.some.injEq, List.set_set, Option.map_some, W.int.injEq, W.str.injEq, W.loc.injEq, Nat.reduceLeDiff, and_self, Int.reduceLT, Int.reduceLE, Int.reduceNeg, Int.reduceToNat, Int.reduceAdd, Int.reduceMul, Int.reduceSub, decide_eq_true_eq, Bool.true_and]
    · rw [if_neg h]
      have : whl a = false := by simpa using h
      rw [this]; rfl
theorem joined_eq : ∀ (x y : Wo) (n : Nat) (S : Sto), x.dp < n → x.dp ≤ 50 → y.dp ≤ 50 → call n .f_joined [x.w, y.w] S = match jn x y with
    | some j => .ok j.w S
    | none => .ex ⟨"NoWorth", []⟩ S := by
  intro x
  induction x with
  | no =>
    intro y n S hn _ _
    obtain ⟨n, rfl⟩ : ∃ m, n = m + 1 := ⟨n - 1, by omega⟩
    rfl
  | tag t =>
    intro y n S hn hx hy
    obtain ⟨n, rfl⟩ : ∃ m, n = m + 1 := ⟨n - 1, by omega⟩
    cases y with
    | no => rfl
    | tag u =>
      have e : neW (tx t) (tx u) S = .ok (.bl (!decide (Wo.tag t = Wo.tag u))) S := neW_w hx hy
      rw [call_s, body]
      by_cases h : t = u
      · subst h
        simp [m_f_joined, runF, startE, sSeq, sIf, sRet, sNil, sRaise, bTest, bAnd, bTru, e2, eL, eVar, eC, aCons, aNil, R.bind, R.toS, isW, Ev.isNon, isi_ss, isi_st, isi_tt, isi_nt, truW, e, Wo.w, jn]
      · have h' : ¬ Wo.tag t = Wo.tag u := fun z => h (by cases z; rfl)
        simp [m_f_joined, runF, startE, sSeq, sIf, sRet, sNil, sRaise, bTest, bAnd, bTru, e2, eL, eVar, eC, aCons, aNil, R.bind, R.toS, isW, Ev.isNon, isi_ss, isi_st, isi_tt, isi_nt, truW, e, Wo.w, jn, h]
    | pr a b =>
      have e : neW (tx t) (Wo.pr a b).w S = .ok (.bl true) S := by rw [show tx t = (Wo.tag t).w from rfl, neW_w hx hy]; simp
      rw [call_s, body]
      rw [Wo.w] at e
      simp [m_f_joined, runF, startE, sSeq, sIf, sRet, sNil, sRaise, bTest, bAnd, bTru, e2, eL, eVar, eC, aCons, aNil, R.bind, R.toS, isW, Ev.isNon, isi_ss, isi_st, isi_tt, isi_nt, truW, e, Wo.w, jn]
  | pr a b iha ihb =>
    intro y n S hn hx hy
    have hn' : max a.dp b.dp + 1 < n := hn
    have hx' : max a.dp b.dp + 1 ≤ 50 := hx
    obtain ⟨n, rfl⟩ : ∃ m, n = m + 1 := ⟨n - 1, by omega⟩
    cases y with
    | no => rfl
    | tag u =>
      have e : neW (Wo.pr a b).w (tx u) S = .ok (.bl true) S := by rw [show tx u = (Wo.tag u).w from rfl, neW_w hx hy]; simp
      rw [call_s, body]
      rw [Wo.w] at e
      simp [m_f_joined, runF, startE, sSeq, sIf, sRet, sNil, sRaise, bTest, bAnd, bTru, e2, eL, eVar, eC, aCons, aNil, R.bind, R.toS, isW, Ev.isNon, isi_ss, isi_st, isi_tt, isi_nt, truW, e, Wo.w, jn]
    | pr c d =>
      have hy' : max c.dp d.dp + 1 ≤ 50 := hy
      have ea := iha c n S (by omega) (by omega) (by omega)
      have eb := ihb d n S (by omega) (by omega) (by omega)
      rw [call_s, body]
      cases h1 : jn a c with
      | none =>
        rw [h1] at ea
        simp [m_f_joined, runF, startE, sSeq, sIf, sRet, sNil, sRaise, bTest, bAnd, bTru, e2, eL, eVar, eC, aCons, aNil, R.bind, R.toS, isW, Ev.isNon, isi_ss, isi_st, isi_tt, isi_nt, truW, Wo.w, jn, ea, h1, ixW, atI_0, atI_1, tupW]
      | some u =>
        rw [h1] at ea
        cases h2 : jn b d with
        | none =>
          rw [h2] at eb
          simp [m_f_joined, runF, startE, sSeq, sIf, sRet, sNil, sRaise, bTest, bAnd, bTru, e2, eL, eVar, eC, aCons, aNil, R.bind, R.toS, isW, Ev.isNon, isi_ss, isi_st, isi_tt, isi_nt, truW, Wo.w, jn, ea, eb, h1, h2, ixW, atI_0, atI_1, tupW]
        | some v =>
          rw [h2] at eb
          simp [m_f_joined, runF, startE, sSeq, sIf, sRet, sNil, sRaise, bTest, bAnd, bTru, e2, eL, eVar, eC, aCons, aNil, R.bind, R.toS, isW, Ev.isNon, isi_ss, isi_st, isi_tt, isi_nt, truW, Wo.w, jn, ea, eb, h1, h2, ixW, atI_0, atI_1, tupW]
end Lw

set_option linter.all false
set_option maxRecDepth 100000
namespace Lw
open PySem L2 Ev
theorem cut_ok {ks : List Kd} {i : Nat} : ∀ (x : Wo) {d n : Nat} {nm : List Nat} {S : Sto} {Q : W → Sto → Prop}, x ∈ woL ks (d + 1) nm → x.dp + 3 ≤ n → Strm S i → (∀ y S', Xt [i] S S' → Strm S' i → y ∈ woL ks (d + 1) nm → Q y.w S') → wpR (call n .f_law_cut [x.w, .loc i] S) Q := by
  intro x
  induction x with
  | no =>
    intro d n nm S Q hx hn hs hq
    obtain ⟨n, rfl⟩ : ∃ m, n = m + 1 := ⟨n - 1, by omega⟩
    rw [call_s, body]
    simp (maxSteps := 500000) (implicitDefEqProofs := false) (disch := omega) only [↓Ev.wq_aCons, ↓Ev.wq_aNil, ↓Ev.wq_and, ↓Ev.wq_bind, ↓Ev.wq_c, ↓Ev.wq_dnew, ↓Ev.wq_e1, ↓Ev.wq_e2, ↓Ev.wq_eIf, ↓Ev.wq_eL, ↓Ev.wq_eM, ↓Ev.wq_eSl, ↓Ev.wq_in, ↓Ev.wq_ite, ↓Ev.wq_ixR, ↓Ev.wq_ixS, ↓Ev.wq_ixT, ↓Ev.wq_lc, ↓Ev.wq_lst, ↓Ev.wq_no, ↓Ev.wq_not, ↓Ev.wq_oNone, ↓Ev.wq_oSome, ↓Ev.wq_ok, ↓Ev.wq_or, ↓Ev.wq_rng1, ↓Ev.wq_rng2, ↓Ev.wq_run, ↓Ev.wq_seq, ↓Ev.wq_test, ↓Ev.wq_tru, ↓Ev.wq_tup, ↓Ev.wq_vAnd, ↓Ev.wq_vNot, ↓Ev.wq_vOr, ↓Ev.wq_var0, ↓Ev.wq_varS, ↓Ev.wq_yes, ↓Ev.wq_zip, ↓Ev.ws_asg, ↓Ev.ws_brk, ↓Ev.ws_cnt, ↓Ev.ws_expr, ↓Ev.ws_for, ↓Ev.ws_if, ↓Ev.ws_in, ↓Ev.ws_kn, ↓Ev.ws_nil, ↓Ev.ws_nx, ↓Ev.ws_put, ↓Ev.ws_ret, ↓Ev.ws_retN, ↓Ev.ws_rt, ↓Ev.ws_seq, ↓Ev.ws_while, ↓Ev.ws_set, ↓Ev.wo_some, ↓Ev.onB_b, ↓Ev.onI_i, ↓Ev.Kn_rt, ↓Ev.Kn_bk, ↓Ev.Kn_ct, ↓Ev.onRet_nx, ↓Ev.onRet_rt, ↓Ev.onNx_nx, ↓Ev.onNx_ct, ↓Ev.onNx_bk, ↓Ev.onNx_rt, List.map_cons, List.map_nil, List.length_cons, List.length_nil, List.replicate, List.cons_append, List.nil_append, Nat.reduceAdd, Nat.reduceSub, List.set_cons_zero, List.set_cons_succ, if_true, if_false, true_and, and_true, Bool.false_eq_true, Bool.not_true, Bool.not_false, ↓reduceIte, Ev.ifF, Nat.zero_add, Ev.startE, Ev.wipeE, Ev.put_nm, Ev.put_tp, Ev.puts_nil, Ev.puts_cons, Option.bind_some, Ev.seqLen_t, Ev.seqLen_r, Ev.addW_ii, Ev.addW_tt, Ev.subW_ii, Ev.mulW_ii, Ev.modW_ii, Ev.fdivW_ii, Ev.powW_ii, Ev.negW_i, Ev.cmpI_ii, Ev.isW_n, Ev.isnW_n, Ev.isNon_n, Ev.isNon_b, Ev.isNon_i, Ev.isNon_s, Ev.isNon_t, Ev.isNon_l, Ev.max2W_ii, Ev.min2W_ii, Ev.intW_i, Ev.intW_b, Ev.lenW_t, Ev.lenW_r, Ev.listW_t, Ev.tupleW_t, Ev.truW_b, Ev.truW_n, Ev.truW_i, Ev.truW_t, Ev.eqW_ii, Ev.neW_ii, Ev.eqW_ss, Ev.neW_ss, Ev.eqW_bb, Ev.ixN_0, Ev.ixN_1, Ev.ixN_2, Ev.ixN_3, Ev.isi_bb, Ev.isi_bs, Ev.isi_bi, Ev.isi_bt, Ev.isi_bl, Ev.isi_ib, Ev.isi_is, Ev.isi_ii, Ev.isi_it, Ev.isi_il, Ev.isi_sb, Ev.isi_ss, Ev.isi_si, Ev.isi_st, Ev.isi_sl, Ev.isi_tb, Ev.isi_ts, Ev.isi_ti, Ev.isi_tt, Ev.isi_tl, Ev.isi_nb, Ev.isi_ns, Ev.isi_ni, Ev.isi_nt, Ev.isi_nl, Ev.atI_0, Ev.atI_1, Ev.atI_2, Ev.atI_3, Ev.atI_4, Ev.tyOk_s, Ev.slW_to, Ev.slW_from, Ev.addW_SS, Int.toNat_natCast, Option.some.injEq, List.set_set, Option.map_some, W.int.injEq, W.str.injEq, W.loc.injEq, Nat.reduceLeDiff, and_self, Int.reduceLT, Int.reduceLE, Int.reduceNeg, Int.reduceToNat, Int.reduceAdd, Int.reduceMul, Int.reduceSub, decide_eq_true_eq, m_f_law_cut, Wo.w]
    exact hq .no _ .refl hs hx
  | tag t =>
    intro d n nm S Q hx hn hs hq
    obtain ⟨n, rfl⟩ : ∃ m, n = m + 1 := ⟨n - 1, by omega⟩
    rw [call_s, body]
    simp (maxSteps := 500000) (implicitDefEqProofs := false) (disch := omega) only [↓Ev.wq_aCons, ↓Ev.wq_aNil, ↓Ev.wq_and, ↓Ev.wq_bind, ↓Ev.wq_c, ↓Ev.wq_dnew, ↓Ev.wq_e1, ↓Ev.wq_e2, ↓Ev.wq_eIf, ↓Ev.wq_eL, ↓Ev.wq_eM, ↓Ev.wq_eSl, ↓Ev.wq_in, ↓Ev.wq_ite, ↓Ev.wq_ixR, ↓Ev.wq_ixS, ↓Ev.wq_ixT, ↓Ev.wq_lc, ↓Ev.wq_lst, ↓Ev.wq_no, ↓Ev.wq_not, ↓Ev.wq_oNone, ↓Ev.wq_oSome, ↓Ev.wq_ok, ↓Ev.wq_or, ↓Ev.wq_rng1, ↓Ev.wq_rng2, ↓Ev.wq_run, ↓Ev.wq_seq, ↓Ev.wq_test, ↓Ev.wq_tru, ↓Ev.wq_tup, ↓Ev.wq_vAnd, ↓Ev.wq_vNot, ↓Ev.wq_vOr, ↓Ev.wq_var0, ↓Ev.wq_varS, ↓Ev.wq_yes, ↓Ev.wq_zip, ↓Ev.ws_asg, ↓Ev.ws_brk, ↓Ev.ws_cnt, ↓Ev.ws_expr, ↓Ev.ws_for, ↓Ev.ws_if, ↓Ev.ws_in, ↓Ev.ws_kn, ↓Ev.ws_nil, ↓Ev.ws_nx, ↓Ev.ws_put, ↓Ev.ws_ret, ↓Ev.ws_retN, ↓Ev.ws_rt, ↓Ev.ws_seq, ↓Ev.ws_while, ↓Ev.ws_set, ↓Ev.wo_some, ↓Ev.onB_b, ↓Ev.onI_i, ↓Ev.Kn_rt, ↓Ev.Kn_bk, ↓Ev.Kn_ct, ↓Ev.onRet_nx, ↓Ev.onRet_rt, ↓Ev.onNx_nx, ↓Ev.onNx_ct, ↓Ev.onNx_bk, ↓Ev.onNx_rt, List.map_cons, List.map_nil, List.length_cons, List.length_nil, List.replicate, List.cons_append, List.nil_append, Nat.reduceAdd, Nat.reduceSub, List.set_cons_zero, List.set_cons_succ, if_true, if_false, true_and, and_true, Bool.false_eq_true, Bool.not_true, Bool.not_false, ↓reduceIte, Ev.ifF, Nat.zero_add, Ev.startE, Ev.wipeE, Ev.put_nm, Ev.put_tp, Ev.puts_nil, Ev.puts_cons, Option.bind_some, Ev.seqLen_t, Ev.seqLen_r, Ev.addW_ii, Ev.addW_tt, Ev.subW_ii, Ev.mulW_ii, Ev.modW_ii, Ev.fdivW_ii, Ev.powW_ii, Ev.negW_i, Ev.cmpI_ii, Ev.isW_n, Ev.isnW_n, Ev.isNon_n, Ev.isNon_b, Ev.isNon_i, Ev.isNon_s, Ev.isNon_t, Ev.isNon_l, Ev.max2W_ii, Ev.min2W_ii, Ev.intW_i, Ev.intW_b, Ev.lenW_t, Ev.lenW_r, Ev.listW_t, Ev.tupleW_t, Ev.truW_b, Ev.truW_n, Ev.truW_i, Ev.truW_t, Ev.eqW_ii, Ev.neW_ii, Ev.eqW_ss, Ev.neW_ss, Ev.eqW_bb, Ev.ixN_0, Ev.ixN_1, Ev.ixN_2, Ev.ixN_3, Ev.isi_bb, Ev.isi_bs, Ev.isi_bi, Ev.isi_bt, Ev.isi_bl, Ev.isi_ib, Ev.isi_is, Ev.isi_ii, Ev.isi_it, Ev.isi_il, Ev.isi_sb, Ev.isi_ss, Ev.isi_si, Ev.isi_st, Ev.isi_sl, Ev.isi_tb, Ev.isi_ts, Ev.isi_ti, Ev.isi_tt, Ev.isi_tl, Ev.isi_nb, Ev.isi_ns, Ev.isi_ni, Ev.isi_nt, Ev.isi_nl, Ev.atI_0, Ev.atI_1, Ev.atI_2, Ev.atI_3, Ev.atI_4, Ev.tyOk_s, Ev.slW_to, Ev.slW_from, Ev.addW_SS, Int.toNat_natCast, Option.some.injEq, List.set_set, Option.map_some, W.int.injEq, W.str.injEq, W.loc.injEq, Nat.reduceLeDiff, and_self, Int.reduceLT, Int.reduceLE, Int.reduceNeg, Int.reduceToNat, Int.reduceAdd, Int.reduceMul, Int.reduceSub, decide_eq_true_eq, m_f_law_cut, Wo.w]
    exact hq .no _ .refl hs mem_no
  | pr a b iha ihb =>
    intro d n nm S Q hx hn hs hq
    have hn' : max a.dp b.dp + 1 + 3 ≤ n := hn
    obtain ⟨n, rfl⟩ : ∃ m, n = m + 1 := ⟨n - 1, by omega⟩
    obtain ⟨k1, k2, es, ha, hb⟩ := mem_pr.mp hx
    obtain ⟨d, rfl⟩ : ∃ m, d = m + 1 := by
      cases d with
      | zero => cases ha
      | succ d => exact ⟨d, rfl⟩
    rw [call_s, body]
    simp (maxSteps := 500000) (implicitDefEqProofs := false) (disch := omega) only [↓Ev.wq_aCons, ↓Ev.wq_aNil, ↓Ev.wq_and, ↓Ev.wq_bind, ↓Ev.wq_c, ↓Ev.wq_dnew, ↓Ev.wq_e1, ↓Ev.wq_e2, ↓Ev.wq_eIf, ↓Ev.wq_eL, ↓Ev.wq_eM, ↓Ev.wq_eSl, ↓Ev.wq_in, ↓Ev.wq_ite, ↓Ev.wq_ixR, ↓Ev.wq_ixS, ↓Ev.wq_ixT, ↓Ev.wq_lc, ↓Ev.wq_lst, ↓Ev.wq_no, ↓Ev.wq_not, ↓Ev.wq_oNone, ↓Ev.wq_oSome, ↓Ev.wq_ok, ↓Ev.wq_or, ↓Ev.wq_rng1, ↓Ev.wq_rng2, ↓Ev.wq_run, ↓Ev.wq_seq, ↓Ev.wq_test, ↓Ev.wq_tru, ↓Ev.wq_tup, ↓Ev.wq_vAnd, ↓Ev.wq_vNot, ↓Ev.wq_vOr, ↓Ev.wq_var0, ↓Ev.wq_varS, ↓Ev.wq_yes, ↓Ev.wq_zip, ↓Ev.ws_asg, ↓Ev.ws_brk, ↓Ev.ws_cnt, ↓Ev.ws_expr, ↓Ev.ws_for, ↓Ev.ws_if, ↓Ev.ws_in, ↓Ev.ws_kn, ↓Ev.ws_nil, ↓Ev.ws_nx, ↓Ev.ws_put, ↓Ev.ws_ret, ↓Ev.ws_retN, ↓Ev.ws_rt, ↓Ev.ws_seq, ↓Ev.ws_while, ↓Ev.ws_set, ↓Ev.wo_some, ↓Ev.onB_b, ↓Ev.onI_i, ↓Ev.Kn_rt, ↓Ev.Kn_bk, ↓Ev.Kn_ct, ↓Ev.onRet_nx, ↓Ev.onRet_rt, ↓Ev.onNx_nx, ↓Ev.onNx_ct, ↓Ev.onNx_bk, ↓Ev.onNx_rt, List.map_cons, List.map_nil, List.length_cons, List.length_nil, List.replicate, List.cons_append, List.nil_append, Nat.reduceAdd, Nat.reduceSub, List.set_cons_zero, List.set_cons_succ, if_true, if_false, true_and, and_true, Bool.false_eq_true, Bool.not_true, Bool.not_false, ↓reduceIte, Ev.ifF, Nat.zero_add, Ev.startE, Ev.wipeE, Ev.put_nm, Ev.put_tp, Ev.puts_nil, Ev.puts_cons, Option.bind_some, Ev.seqLen_t, Ev.seqLen_r, Ev.addW_ii, Ev.addW_tt, Ev.subW_ii, Ev.mulW_ii, Ev.modW_ii, Ev.fdivW_ii, Ev.powW_ii, Ev.negW_i, Ev.cmpI_ii, Ev.isW_n, Ev.isnW_n, Ev.isNon_n, Ev.isNon_b, Ev.isNon_i, Ev.isNon_s, Ev.isNon_t, Ev.isNon_l, Ev.max2W_ii, Ev.min2W_ii, Ev.intW_i, Ev.intW_b, Ev.lenW_t, Ev.lenW_r, Ev.listW_t, Ev.tupleW_t, Ev.truW_b, Ev.truW_n, Ev.truW_i, Ev.truW_t, Ev.eqW_ii, Ev.neW_ii, Ev.eqW_ss, Ev.neW_ss, Ev.eqW_bb, Ev.ixN_0, Ev.ixN_1, Ev.ixN_2, Ev.ixN_3, Ev.isi_bb, Ev.isi_bs, Ev.isi_bi, Ev.isi_bt, Ev.isi_bl, Ev.isi_ib, Ev.isi_is, Ev.isi_ii, Ev.isi_it, Ev.isi_il, Ev.isi_sb, Ev.isi_ss, Ev.isi_si, Ev.isi_st, Ev.isi_sl, Ev.isi_tb, Ev.isi_ts, Ev.isi_ti, Ev.isi_tt, Ev.isi_tl, Ev.isi_nb, Ev.isi_ns, Ev.isi_ni, Ev.isi_nt, Ev.isi_nl, Ev.atI_0, Ev.atI_1, Ev.atI_2, Ev.atI_3, Ev.atI_4, Ev.tyOk_s, Ev.slW_to, Ev.slW_from, Ev.addW_SS, Int.toNat_natCast, Option.some.injEq, List.set_set, Option.map_some, W.int.injEq, W.str.injEq, W.loc.injEq, Nat.reduceLeDiff, and_self, Int.reduceLT, Int.reduceLE, Int.reduceNeg, Int.reduceToNat, Int.reduceAdd, Int.reduceMul, Int.reduceSub, decide_eq_true_eq, m_f_law_cut, Wo.w]
    refine take_ok (by omega) hs (by decide) fun z o h1 h2 st1 => ?_
    have X1 : Xt [i] S (S.set i o) := Xt.set (by simp)
    generalize S.set i o = S1 at *
    try simp (maxSteps := 500000) (implicitDefEqProofs := false) (disch := omega) only [↓Ev.wq_aCons, ↓Ev.wq_aNil, ↓Ev.wq_and, ↓Ev.wq_bind, ↓Ev.wq_c, ↓Ev.wq_dnew, ↓Ev.wq_e1, ↓Ev.wq_e2, ↓Ev.wq_eIf, ↓Ev.wq_eL, ↓Ev.wq_eM, ↓Ev.wq_eSl, ↓Ev.wq_in, ↓Ev.wq_ite, ↓Ev.wq_ixR, ↓Ev.wq_ixS, ↓Ev.wq_ixT, ↓Ev.wq_lc, ↓Ev.wq_lst, ↓Ev.wq_no, ↓Ev.wq_not, ↓Ev.wq_oNone, ↓Ev.wq_oSome, ↓Ev.wq_ok, ↓Ev.wq_or, ↓Ev.wq_rng1, ↓Ev.wq_rng2, ↓Ev.wq_run, ↓Ev.wq_seq, ↓Ev.wq_test, ↓Ev.wq_tru, ↓Ev.wq_tup, ↓Ev.wq_vAnd, ↓Ev.wq_vNot, ↓Ev.wq_vOr, ↓Ev.wq_var0, ↓Ev.wq_varS, ↓Ev.wq_yes, ↓Ev.wq_zip, ↓Ev.ws_asg, ↓Ev.ws_brk, ↓Ev.ws_cnt, ↓Ev.ws_expr, ↓Ev.ws_for, ↓Ev.ws_if, ↓Ev.ws_in, ↓Ev.ws_kn, ↓Ev.ws_nil, ↓Ev.ws_nx, ↓Ev.ws_put, ↓Ev.ws_ret, ↓Ev.ws_retN, ↓Ev.ws_rt, ↓Ev.ws_seq, ↓Ev.ws_while, ↓Ev.ws_set, ↓Ev.wo_some, ↓Ev.onB_b, ↓Ev.onI_i, ↓Ev.Kn_rt, ↓Ev.Kn_bk, ↓Ev.Kn_ct, ↓Ev.onRet_nx, ↓Ev.onRet_rt, ↓Ev.onNx_nx, ↓Ev.onNx_ct, ↓Ev.onNx_bk, ↓Ev.onNx_rt, List.map_cons, List.map_nil, List.length_cons, List.length_nil, List.replicate, List.cons_append, List.nil_append, Nat.reduceAdd, Nat.reduceSub, List.set_cons_zero, List.set_cons_succ, if_true, if_false, true_and, and_true, Bool.false_eq_true, Bool.not_true, Bool.not_false, ↓reduceIte, Ev.ifF, Nat.zero_add, Ev.startE, Ev.wipeE, Ev.put_nm, Ev.put_tp, Ev.puts_nil, Ev.puts_cons, Option.bind_some, Ev.seqLen_t, Ev.seqLen_r, Ev.addW_ii, Ev.addW_tt, Ev.subW_ii, Ev.mulW_ii, Ev.modW_ii, Ev.fdivW_ii, Ev.powW_ii, Ev.negW_i, Ev.cmpI_ii, Ev.isW_n, Ev.isnW_n, Ev.isNon_n, Ev.isNon_b, Ev.isNon_i, Ev.isNon_s, Ev.isNon_t, Ev.isNon_l, Ev.max2W_ii, Ev.min2W_ii, Ev.intW_i, Ev.intW_b, Ev.lenW_t, Ev.lenW_r, Ev.listW_t, Ev.tupleW_t, Ev.truW_b, Ev.truW_n, Ev.truW_i, Ev.truW_t, Ev.eqW_ii, Ev.neW_ii, Ev.eqW_ss, Ev.neW_ss, Ev.eqW_bb, Ev.ixN_0, Ev.ixN_1, Ev.ixN_2, Ev.ixN_3, Ev.isi_bb, Ev.isi_bs, Ev.isi_bi, Ev.isi_bt, Ev.isi_bl, Ev.isi_ib, Ev.isi_is, Ev.isi_ii, Ev.isi_it, Ev.isi_il, Ev.isi_sb, Ev.isi_ss, Ev.isi_si, Ev.isi_st, Ev.isi_sl, Ev.isi_tb, Ev.isi_ts, Ev.isi_ti, Ev.isi_tt, Ev.isi_tl, Ev.isi_nb, Ev.isi_ns, Ev.isi_ni, Ev.isi_nt, Ev.isi_nl, Ev.atI_0, Ev.atI_1, Ev.atI_2, Ev.atI_3, Ev.atI_4, Ev.tyOk_s, Ev.slW_to, Ev.slW_from, Ev.addW_SS, Int.toNat_natCast, Option.some.injEq, List.set_set, Option.map_some, W.int.injEq, W.str.injEq, W.loc.injEq, Nat.reduceLeDiff, and_self, Int.reduceLT, Int.reduceLE, Int.reduceNeg, Int.reduceToNat, Int.reduceAdd, Int.reduceMul, Int.reduceSub, decide_eq_true_eq]
    split
    · exact hq .no _ X1 st1 mem_no
    · try simp (maxSteps := 500000) (implicitDefEqProofs := false) (disch := omega) only [↓Ev.wq_aCons, ↓Ev.wq_aNil, ↓Ev.wq_and, ↓Ev.wq_bind, ↓Ev.wq_c, ↓Ev.wq_dnew, ↓Ev.wq_e1, ↓Ev.wq_e2, ↓Ev.wq_eIf, ↓Ev.wq_eL, ↓Ev.wq_eM, ↓Ev.wq_eSl, ↓Ev.wq_in, ↓Ev.wq_ite, ↓Ev.wq_ixR, ↓Ev.wq_ixS, ↓Ev.wq_ixT, ↓Ev.wq_lc, ↓Ev.wq_lst, ↓Ev.wq_no, ↓Ev.wq_not, ↓Ev.wq_oNone, ↓Ev.wq_oSome, ↓Ev.wq_ok, ↓Ev.wq_or, ↓Ev.wq_rng1, ↓Ev.wq_rng2, ↓Ev.wq_run, ↓Ev.wq_seq, ↓Ev.wq_test, ↓Ev.wq_tru, ↓Ev.wq_tup, ↓Ev.wq_vAnd, ↓Ev.wq_vNot, ↓Ev.wq_vOr, ↓Ev.wq_var0, ↓Ev.wq_varS, ↓Ev.wq_yes, ↓Ev.wq_zip, ↓Ev.ws_asg, ↓Ev.ws_brk, ↓Ev.ws_cnt, ↓Ev.ws_expr, ↓Ev.ws_for, ↓Ev.ws_if, ↓Ev.ws_in, ↓Ev.ws_kn, ↓Ev.ws_nil, ↓Ev.ws_nx, ↓Ev.ws_put, ↓Ev.ws_ret, ↓Ev.ws_retN, ↓Ev.ws_rt, ↓Ev.ws_seq, ↓Ev.ws_while, ↓Ev.ws_set, ↓Ev.wo_some, ↓Ev.onB_b, ↓Ev.onI_i, ↓Ev.Kn_rt, ↓Ev.Kn_bk, ↓Ev.Kn_ct, ↓Ev.onRet_nx, ↓Ev.onRet_rt, ↓Ev.onNx_nx, ↓Ev.onNx_ct, ↓Ev.onNx_bk, ↓Ev.onNx_rt, List.map_cons, List.map_nil, List.length_cons, List.length_nil, List.replicate, List.cons_append, List.nil_append, Nat.reduceAdd, Nat.reduceSub, List.set_cons_zero, List.set_cons_succ, if_true, if_false, true_and, and_true, Bool.false_eq_true, Bool.not_true, Bool.not_false, ↓reduceIte, Ev.ifF, Nat.zero_add, Ev.startE, Ev.wipeE, Ev.put_nm, Ev.put_tp, Ev.puts_nil, Ev.puts_cons, Option.bind_some, Ev.seqLen_t, Ev.seqLen_r, Ev.addW_ii, Ev.addW_tt, Ev.subW_ii, Ev.mulW_ii, Ev.modW_ii, Ev.fdivW_ii, Ev.powW_ii, Ev.negW_i, Ev.cmpI_ii, Ev.isW_n, Ev.isnW_n, Ev.isNon_n, Ev.isNon_b, Ev.isNon_i, Ev.isNon_s, Ev.isNon_t, Ev.isNon_l, Ev.max2W_ii, Ev.min2W_ii, Ev.intW_i, Ev.intW_b, Ev.lenW_t, Ev.lenW_r, Ev.listW_t, Ev.tupleW_t, Ev.truW_b, Ev.truW_n, Ev.truW_i, Ev.truW_t, Ev.eqW_ii, Ev.neW_ii, Ev.eqW_ss, Ev.neW_ss, Ev.eqW_bb, Ev.ixN_0, Ev.ixN_1, Ev.ixN_2, Ev.ixN_3, Ev.isi_bb, Ev.isi_bs, Ev.isi_bi, Ev.isi_bt, Ev.isi_bl, Ev.isi_ib, Ev.isi_is, Ev.isi_ii, Ev.isi_it, Ev.isi_il, Ev.isi_sb, Ev.isi_ss, Ev.isi_si, Ev.isi_st, Ev.isi_sl, Ev.isi_tb, Ev.isi_ts, Ev.isi_ti, Ev.isi_tt, Ev.isi_tl, Ev.isi_nb, Ev.isi_ns, Ev.isi_ni, Ev.isi_nt, Ev.isi_nl, Ev.atI_0, Ev.atI_1, Ev.atI_2, Ev.atI_3, Ev.atI_4, Ev.tyOk_s, Ev.slW_to, Ev.slW_from, Ev.addW_SS, Int.toNat_natCast, Option.some.injEq, List.set_set, Option.map_some, W.int.injEq, W.str.injEq, W.loc.injEq, Nat.reduceLeDiff, and_self, Int.reduceLT, Int.reduceLE, Int.reduceNeg, Int.reduceToNat, Int.reduceAdd, Int.reduceMul, Int.reduceSub, decide_eq_true_eq]
      refine take_ok (by omega) st1 (by decide) fun z2 o2 h3 h4 st2 => ?_
      have X2 : Xt [i] S (S1.set i o2) := X1.trans (Xt.set (by simp))
      generalize S1.set i o2 = S2 at *
      try simp (maxSteps := 500000) (implicitDefEqProofs := false) (disch := omega) only [↓Ev.wq_aCons, ↓Ev.wq_aNil, ↓Ev.wq_and, ↓Ev.wq_bind, ↓Ev.wq_c, ↓Ev.wq_dnew, ↓Ev.wq_e1, ↓Ev.wq_e2, ↓Ev.wq_eIf, ↓Ev.wq_eL, ↓Ev.wq_eM, ↓Ev.wq_eSl, ↓Ev.wq_in, ↓Ev.wq_ite, ↓Ev.wq_ixR, ↓Ev.wq_ixS, ↓Ev.wq_ixT, ↓Ev.wq_lc, ↓Ev.wq_lst, ↓Ev.wq_no, ↓Ev.wq_not, ↓Ev.wq_oNone, ↓Ev.wq_oSome, ↓Ev.wq_ok, ↓Ev.wq_or, ↓Ev.wq_rng1, ↓Ev.wq_rng2, ↓Ev.wq_run, ↓Ev.wq_seq, ↓Ev.wq_test, ↓Ev.wq_tru, ↓Ev.wq_tup, ↓Ev.wq_vAnd, ↓Ev.wq_vNot, ↓Ev.wq_vOr, ↓Ev.wq_var0, ↓Ev.wq_varS, ↓Ev.wq_yes, ↓Ev.wq_zip, ↓Ev.ws_asg, ↓Ev.ws_brk, ↓Ev.ws_cnt, ↓Ev.ws_expr, ↓Ev.ws_for, ↓Ev.ws_if, ↓Ev.ws_in, ↓Ev.ws_kn, ↓Ev.ws_nil, ↓Ev.ws_nx, ↓Ev.ws_put, ↓Ev.ws_ret, ↓Ev.ws_retN, ↓Ev.ws_rt, ↓Ev.ws_seq, ↓Ev.ws_while, ↓Ev.ws_set, ↓Ev.wo_some, ↓Ev.onB_b, ↓Ev.onI_i, ↓Ev.Kn_rt, ↓Ev.Kn_bk, ↓Ev.Kn_ct, ↓Ev.onRet_nx, ↓Ev.onRet_rt, ↓Ev.onNx_nx, ↓Ev.onNx_ct, ↓Ev.onNx_bk, ↓Ev.onNx_rt, List.map_cons, List.map_nil, List.length_cons, List.length_nil, List.replicate, List.cons_append, List.nil_append, Nat.reduceAdd, Nat.reduceSub, List.set_cons_zero, List.set_cons_succ, if_true, if_false, true_and, and_true, Bool.false_eq_true, Bool.not_true, Bool.not_false, ↓reduceIte, Ev.ifF, Nat.zero_add, Ev.startE, Ev.wipeE, Ev.put_nm, Ev.put_tp, Ev.puts_nil, Ev.puts_cons, Option.bind_some, Ev.seqLen_t, Ev.seqLen_r, Ev.addW_ii, Ev.addW_tt, Ev.subW_ii, Ev.mulW_ii, Ev.modW_ii, Ev.fdivW_ii, Ev.powW_ii, Ev.negW_i, Ev.cmpI_ii, Ev.isW_n, Ev.isnW_n, Ev.isNon_n, Ev.isNon_b, Ev.isNon_i, Ev.isNon_s, Ev.isNon_t, Ev.isNon_l, Ev.max2W_ii, Ev.min2W_ii, Ev.intW_i, Ev.intW_b, Ev.lenW_t, Ev.lenW_r, Ev.listW_t, Ev.tupleW_t, Ev.truW_b, Ev.truW_n, Ev.truW_i, Ev.truW_t, Ev.eqW_ii, Ev.neW_ii, Ev.eqW_ss, Ev.neW_ss, Ev.eqW_bb, Ev.ixN_0, Ev.ixN_1, Ev.ixN_2, Ev.ixN_3, Ev.isi_bb, Ev.isi_bs, Ev.isi_bi, Ev.isi_bt, Ev.isi_bl, Ev.isi_ib, Ev.isi_is, Ev.isi_ii, Ev.isi_it, Ev.isi_il, Ev.isi_sb, Ev.isi_ss, Ev.isi_si, Ev.isi_st, Ev.isi_sl, Ev.isi_tb, Ev.isi_ts, Ev.isi_ti, Ev.isi_tt, Ev.isi_tl, Ev.isi_nb, Ev.isi_ns, Ev.isi_ni, Ev.isi_nt, Ev.isi_nl, Ev.atI_0, Ev.atI_1, Ev.atI_2, Ev.atI_3, Ev.atI_4, Ev.tyOk_s, Ev.slW_to, Ev.slW_from, Ev.addW_SS, Int.toNat_natCast, Option.some.injEq, List.set_set, Option.map_some, W.int.injEq, W.str.injEq, W.loc.injEq, Nat.reduceLeDiff, and_self, Int.reduceLT, Int.reduceLE, Int.reduceNeg, Int.reduceToNat, Int.reduceAdd, Int.reduceMul, Int.reduceSub, decide_eq_true_eq]
      split
      · try simp (maxSteps := 500000) (implicitDefEqProofs := false) (disch := omega) only [↓Ev.wq_aCons, ↓Ev.wq_aNil, ↓Ev.wq_and, ↓Ev.wq_bind, ↓Ev.wq_c, ↓Ev.wq_dnew, ↓Ev.wq_e1, ↓Ev.wq_e2, ↓Ev.wq_eIf, ↓Ev.wq_eL, ↓Ev.wq_eM, ↓Ev.wq_eSl, ↓Ev.wq_in, ↓Ev.wq_ite, ↓Ev.wq_ixR, ↓Ev.wq_ixS, ↓Ev.wq_ixT, ↓Ev.wq_lc, ↓Ev.wq_lst, ↓Ev.wq_no, ↓Ev.wq_not, ↓Ev.wq_oNone, ↓Ev.wq_oSome, ↓Ev.wq_ok, ↓Ev.wq_or, ↓Ev.wq_rng1, ↓Ev.wq_rng2, ↓Ev.wq_run, ↓Ev.wq_seq, ↓Ev.wq_test, ↓Ev.wq_tru, ↓Ev.wq_tup, ↓Ev.wq_vAnd, ↓Ev.wq_vNot, ↓Ev.wq_vOr, ↓Ev.wq_var0, ↓Ev.wq_varS, ↓Ev.wq_yes, ↓Ev.wq_zip, ↓Ev.ws_asg, ↓Ev.ws_brk, ↓Ev.ws_cnt, ↓Ev.ws_expr, ↓Ev.ws_for, ↓Ev.ws_if, ↓Ev.ws_in, ↓Ev.ws_kn, ↓Ev.ws_nil, ↓Ev.ws_nx, ↓Ev.ws_put, ↓Ev.ws_ret, ↓Ev.ws_retN, ↓Ev.ws_rt, ↓Ev.ws_seq, ↓Ev.ws_while, ↓Ev.ws_set, ↓Ev.wo_some, ↓Ev.onB_b, ↓Ev.onI_i, ↓Ev.Kn_rt, ↓Ev.Kn_bk, ↓Ev.Kn_ct, ↓Ev.onRet_nx, ↓Ev.onRet_rt, ↓Ev.onNx_nx, ↓Ev.onNx_ct, ↓Ev.onNx_bk, ↓Ev.onNx_rt, List.map_cons, List.map_nil, List.length_cons, List.length_nil, List.replicate, List.cons_append, List.nil_append, Nat.reduceAdd, Nat.reduceSub, List.set_cons_zero, List.set_cons_succ, if_true, if_false, true_and, and_true, Bool.false_eq_true, Bool.not_true, Bool.not_false, ↓reduceIte, Ev.ifF, Nat.zero_add, Ev.startE, Ev.wipeE, Ev.put_nm, Ev.put_tp, Ev.puts_nil, Ev.puts_cons, Option.bind_some, Ev.seqLen_t, Ev.seqLen_r, Ev.addW_ii, Ev.addW_tt, Ev.subW_ii, Ev.mulW_ii, Ev.modW_ii, Ev.fdivW_ii, Ev.powW_ii, Ev.negW_i, Ev.cmpI_ii, Ev.isW_n, Ev.isnW_n, Ev.isNon_n, Ev.isNon_b, Ev.isNon_i, Ev.isNon_s, Ev.isNon_t, Ev.isNon_l, Ev.max2W_ii, Ev.min2W_ii, Ev.intW_i, Ev.intW_b, Ev.lenW_t, Ev.lenW_r, Ev.listW_t, Ev.tupleW_t, Ev.truW_b, Ev.truW_n, Ev.truW_i, Ev.truW_t, Ev.eqW_ii, Ev.neW_ii, Ev.eqW_ss, Ev.neW_ss, Ev.eqW_bb, Ev.ixN_0, Ev.ixN_1, Ev.ixN_2, Ev.ixN_3, Ev.isi_bb, Ev.isi_bs, Ev.isi_bi, Ev.isi_bt, Ev.isi_bl, Ev.isi_ib, Ev.isi_is, Ev.isi_ii, Ev.isi_it, Ev.isi_il, Ev.isi_sb, Ev.isi_ss, Ev.isi_si, Ev.isi_st, Ev.isi_sl, Ev.isi_tb, Ev.isi_ts, Ev.isi_ti, Ev.isi_tt, Ev.isi_tl, Ev.isi_nb, Ev.isi_ns, Ev.isi_ni, Ev.isi_nt, Ev.isi_nl, Ev.atI_0, Ev.atI_1, Ev.atI_2, Ev.atI_3, Ev.atI_4, Ev.tyOk_s, Ev.slW_to, Ev.slW_from, Ev.addW_SS, Int.toNat_natCast, Option.some.injEq, List.set_set, Option.map_some, W.int.injEq, W.str.injEq, W.loc.injEq, Nat.reduceLeDiff, and_self, Int.reduceLT, Int.reduceLE, Int.reduceNeg, Int.reduceToNat, Int.reduceAdd, Int.reduceMul, Int.reduceSub, decide_eq_true_eq]
        refine iha ha (by omega) st2 fun y S3 X3 st3 hy => ?_
        try simp (maxSteps := 500000) (implicitDefEqProofs := false) (disch := omega) only [↓Ev.wq_aCons, ↓Ev.wq_aNil, ↓Ev.wq_and, ↓Ev.wq_bind, ↓Ev.wq_c, ↓Ev.wq_dnew, ↓Ev.wq_e1, ↓Ev.wq_e2, ↓Ev.wq_eIf, ↓Ev.wq_eL, ↓Ev.wq_eM, ↓Ev.wq_eSl, ↓Ev.wq_in, ↓Ev.wq_ite, ↓Ev.wq_ixR, ↓Ev.wq_ixS, ↓Ev.wq_ixT, ↓Ev.wq_lc, ↓Ev.wq_lst, ↓Ev.wq_no, ↓Ev.wq_not, ↓Ev.wq_oNone, ↓Ev.wq_oSome, ↓Ev.wq_ok, ↓Ev.wq_or, ↓Ev.wq_rng1, ↓Ev.wq_rng2, ↓Ev.wq_run, ↓Ev.wq_seq, ↓Ev.wq_test, ↓Ev.wq_tru, ↓Ev.wq_tup, ↓Ev.wq_vAnd, ↓Ev.wq_vNot, ↓Ev.wq_vOr, ↓Ev.wq_var0, ↓Ev.wq_varS, ↓Ev.wq_yes, ↓Ev.wq_zip, ↓Ev.ws_asg, ↓Ev.ws_brk, ↓Ev.ws_cnt, ↓Ev.ws_expr, ↓Ev.ws_for, ↓Ev.ws_if, ↓Ev.ws_in, ↓Ev.ws_kn, ↓Ev.ws_nil, ↓Ev.ws_nx, ↓Ev.ws_put, ↓Ev.ws_ret, ↓Ev.ws_retN, ↓Ev.ws_rt, ↓Ev.ws_seq, ↓Ev.ws_while, ↓Ev.ws_set, ↓Ev.wo_some, ↓Ev.onB_b, ↓Ev.onI_i, ↓Ev.Kn_rt, ↓Ev.Kn_bk, ↓Ev.Kn_ct, ↓Ev.onRet_nx, ↓Ev.onRet_rt, ↓Ev.onNx_nx, ↓Ev.onNx_ct, ↓Ev.onNx_bk, ↓Ev.onNx_rt, List.map_cons, List.map_nil, List.length_cons, List.length_nil, List.replicate, List.cons_append, List.nil_append, Nat.reduceAdd, Nat.reduceSub, List.set_cons_zero, List.set_cons_succ, if_true, if_false, true_and, and_true, Bool.false_eq_true, Bool.not_true, Bool.not_false, ↓reduceIte, Ev.ifF, Nat.zero_add, Ev.startE, Ev.wipeE, Ev.put_nm, Ev.put_tp, Ev.puts_nil, Ev.puts_cons, Option.bind_some, Ev.seqLen_t, Ev.seqLen_r, Ev.addW_ii, Ev.addW_tt, Ev.subW_ii, Ev.mulW_ii, Ev.modW_ii, Ev.fdivW_ii, Ev.powW_ii, Ev.negW_i, Ev.cmpI_ii, Ev.isW_n, Ev.isnW_n, Ev.isNon_n, Ev.isNon_b, Ev.isNon_i, Ev.isNon_s, Ev.isNon_t, Ev.isNon_l, Ev.max2W_ii, Ev.min2W_ii, Ev.intW_i, Ev.intW_b, Ev.lenW_t, Ev.lenW_r, Ev.listW_t, Ev.tupleW_t, Ev.truW_b, Ev.truW_n, Ev.truW_i, Ev.truW_t, Ev.eqW_ii, Ev.neW_ii, Ev.eqW_ss, Ev.neW_ss, Ev.eqW_bb, Ev.ixN_0, Ev.ixN_1, Ev.ixN_2, Ev.ixN_3, Ev.isi_bb, Ev.isi_bs, Ev.isi_bi, Ev.isi_bt, Ev.isi_bl, Ev.isi_ib, Ev.isi_is, Ev.isi_ii, Ev.isi_it, Ev.isi_il, Ev.isi_sb, Ev.isi_ss, Ev.isi_si, Ev.isi_st, Ev.isi_sl, Ev.isi_tb, Ev.isi_ts, Ev.isi_ti, Ev.isi_tt, Ev.isi_tl, Ev.isi_nb, Ev.isi_ns, Ev.isi_ni, Ev.isi_nt, Ev.isi_nl, Ev.atI_0, Ev.atI_1, Ev.atI_2, Ev.atI_3, Ev.atI_4, Ev.tyOk_s, Ev.slW_to, Ev.slW_from, Ev.addW_SS, Int.toNat_natCast, Option.some.injEq, List.set_set, Option.map_some, W.int.injEq, W.str.injEq, W.loc.injEq, Nat.reduceLeDiff, and_self, Int.reduceLT, Int.reduceLE, Int.reduceNeg, Int.reduceToNat, Int.reduceAdd, Int.reduceMul, Int.reduceSub, decide_eq_true_eq]
        exact hq (.pr y b) _ (X2.trans X3) st3 (mem_pr.mpr ⟨k1, k2, es, hy, hb⟩)
      · try simp (maxSteps := 500000) (implicitDefEqProofs := false) (disch := omega) only [↓Ev.wq_aCons, ↓Ev.wq_aNil, ↓Ev.wq_and, ↓Ev.wq_bind, ↓Ev.wq_c, ↓Ev.wq_dnew, ↓Ev.wq_e1, ↓Ev.wq_e2, ↓Ev.wq_eIf, ↓Ev.wq_eL, ↓Ev.wq_eM, ↓Ev.wq_eSl, ↓Ev.wq_in, ↓Ev.wq_ite, ↓Ev.wq_ixR, ↓Ev.wq_ixS, ↓Ev.wq_ixT, ↓Ev.wq_lc, ↓Ev.wq_lst, ↓Ev.wq_no, ↓Ev.wq_not, ↓Ev.wq_oNone, ↓Ev.wq_oSome, ↓Ev.wq_ok, ↓Ev.wq_or, ↓Ev.wq_rng1, ↓Ev.wq_rng2, ↓Ev.wq_run, ↓Ev.wq_seq, ↓Ev.wq_test, ↓Ev.wq_tru, ↓Ev.wq_tup, ↓Ev.wq_vAnd, ↓Ev.wq_vNot, ↓Ev.wq_vOr, ↓Ev.wq_var0, ↓Ev.wq_varS, ↓Ev.wq_yes, ↓Ev.wq_zip, ↓Ev.ws_asg, ↓Ev.ws_brk, ↓Ev.ws_cnt, ↓Ev.ws_expr, ↓Ev.ws_for, ↓Ev.ws_if, ↓Ev.ws_in, ↓Ev.ws_kn, ↓Ev.ws_nil, ↓Ev.ws_nx, ↓Ev.ws_put, ↓Ev.ws_ret, ↓Ev.ws_retN, ↓Ev.ws_rt, ↓Ev.ws_seq, ↓Ev.ws_while, ↓Ev.ws_set, ↓Ev.wo_some, ↓Ev.onB_b, ↓Ev.onI_i, ↓Ev.Kn_rt, ↓Ev.Kn_bk, ↓Ev.Kn_ct, ↓Ev.onRet_nx, ↓Ev.onRet_rt, ↓Ev.onNx_nx, ↓Ev.onNx_ct, ↓Ev.onNx_bk, ↓Ev.onNx_rt, List.map_cons, List.map_nil, List.length_cons, List.length_nil, List.replicate, List.cons_append, List.nil_append, Nat.reduceAdd, Nat.reduceSub, List.set_cons_zero, List.set_cons_succ, if_true, if_false, true_and, and_true, Bool.false_eq_true, Bool.not_true, Bool.not_false, ↓reduceIte, Ev.ifF, Nat.zero_add, Ev.startE, Ev.wipeE, Ev.put_nm, Ev.put_tp, Ev.puts_nil, Ev.puts_cons, Option.bind_some, Ev.seqLen_t, Ev.seqLen_r, Ev.addW_ii, Ev.addW_tt, Ev.subW_ii, Ev.mulW_ii, Ev.modW_ii, Ev.fdivW_ii, Ev.powW_ii, Ev.negW_i, Ev.cmpI_ii, Ev.isW_n, Ev.isnW_n, Ev.isNon_n, Ev.isNon_b, Ev.isNon_i, Ev.isNon_s, Ev.isNon_t, Ev.isNon_l, Ev.max2W_ii, Ev.min2W_ii, Ev.intW_i, Ev.intW_b, Ev.lenW_t, Ev.lenW_r, Ev.listW_t, Ev.tupleW_t, Ev.truW_b, Ev.truW_n, Ev.truW_i, Ev.truW_t, Ev.eqW_ii, Ev.neW_ii, Ev.eqW_ss, Ev.neW_ss, Ev.eqW_bb, Ev.ixN_0, Ev.ixN_1, Ev.ixN_2, Ev.ixN_3, Ev.isi_bb, Ev.isi_bs, Ev.isi_bi, Ev.isi_bt, Ev.isi_bl, Ev.isi_ib, Ev.isi_is, Ev.isi_ii, Ev.isi_it, Ev.isi_il, Ev.isi_sb, Ev.isi_ss, Ev.isi_si, Ev.isi_st, Ev.isi_sl, Ev.isi_tb, Ev.isi_ts, Ev.isi_ti, Ev.isi_tt, Ev.isi_tl, Ev.isi_nb, Ev.isi_ns, Ev.isi_ni, Ev.isi_nt, Ev.isi_nl, Ev.atI_0, Ev.atI_1, Ev.atI_2, Ev.atI_3, Ev.atI_4, Ev.tyOk_s, Ev.slW_to, Ev.slW_from, Ev.addW_SS, Int.toNat_natCast, Option.some.injEq, List.set_set, Option.map_some, W.int.injEq, W.str.injEq, W.loc.injEq, Nat.reduceLeDiff, and_self, Int.reduceLT, Int.reduceLE, Int.reduceNeg, Int.reduceToNat, Int.reduceAdd, Int.reduceMul, Int.reduceSub, decide_eq_true_eq]
        refine ihb hb (by omega) st2 fun y S3 X3 st3 hy => ?_
        try simp (maxSteps := 500000) (implicitDefEqProofs := false) (disch := omega) only [↓Ev.wq_aCons, ↓Ev.wq_aNil, ↓Ev.wq_and, ↓Ev.wq_bind, ↓Ev.wq_c, ↓Ev.wq_dnew, ↓Ev.wq_e1, ↓Ev.wq_e2, ↓Ev.wq_eIf, ↓Ev.wq_eL, ↓Ev.wq_eM, ↓Ev.wq_eSl, ↓Ev.wq_in, ↓Ev.wq_ite, ↓Ev.wq_ixR, ↓Ev.wq_ixS, ↓Ev.wq_ixT, ↓Ev.wq_lc, ↓Ev.wq_lst, ↓Ev.wq_no, ↓Ev.wq_not, ↓Ev.wq_oNone, ↓Ev.wq_oSome, ↓Ev.wq_ok, ↓Ev.wq_or, ↓Ev.wq_rng1, ↓Ev.wq_rng2, ↓Ev.wq_run, ↓Ev.wq_seq, ↓Ev.wq_test, ↓Ev.wq_tru, ↓Ev.wq_tup, ↓Ev.wq_vAnd, ↓Ev.wq_vNot, ↓Ev.wq_vOr, ↓Ev.wq_var0, ↓Ev.wq_varS, ↓Ev.wq_yes, ↓Ev.wq_zip, ↓Ev.ws_asg, ↓Ev.ws_brk, ↓Ev.ws_cnt, ↓Ev.ws_expr, ↓Ev.ws_for, ↓Ev.ws_if, ↓Ev.ws_in, ↓Ev.ws_kn, ↓Ev.ws_nil, ↓Ev.ws_nx, ↓Ev.ws_put, ↓Ev.ws_ret, ↓Ev.ws_retN, ↓Ev.ws_rt, ↓Ev.ws_seq, ↓Ev.ws_while, ↓Ev.ws_set, ↓Ev.wo_some, ↓Ev.onB_b, ↓Ev.onI_i, ↓Ev.Kn_rt, ↓Ev.Kn_bk, ↓Ev.Kn_ct, ↓Ev.onRet_nx, ↓Ev.onRet_rt, ↓Ev.onNx_nx, ↓Ev.onNx_ct, ↓Ev.onNx_bk, ↓Ev.onNx_rt, List.map_cons, List.map_nil, List.length_cons, List.length_nil, List.replicate, List.cons_append, List.nil_append, Nat.reduceAdd, Nat.reduceSub, List.set_cons_zero, List.set_cons_succ, if_true, if_false, true_and, and_true, Bool.false_eq_true, Bool.not_true, Bool.not_false, ↓reduceIte, Ev.ifF, Nat.zero_add, Ev.startE, Ev.wipeE, Ev.put_nm, Ev.put_tp, Ev.puts_nil, Ev.puts_cons, Option.bind_some, Ev.seqLen_t, Ev.seqLen_r, Ev.addW_ii, Ev.addW_tt, Ev.subW_ii, Ev.mulW_ii, Ev.modW_ii, Ev.fdivW_ii, Ev.powW_ii, Ev.negW_i, Ev.cmpI_ii, Ev.isW_n, Ev.isnW_n, Ev.isNon_n, Ev.isNon_b, Ev.isNon_i, Ev.isNon_s, Ev.isNon_t, Ev.isNon_l, Ev.max2W_ii, Ev.min2W_ii, Ev.intW_i, Ev.intW_b, Ev.lenW_t, Ev.lenW_r, Ev.listW_t, Ev.tupleW_t, Ev.truW_b, Ev.truW_n, Ev.truW_i, Ev.truW_t, Ev.eqW_ii, Ev.neW_ii, Ev.eqW_ss, Ev.neW_ss, Ev.eqW_bb, Ev.ixN_0, Ev.ixN_1, Ev.ixN_2, Ev.ixN_3, Ev.isi_bb, Ev.isi_bs, Ev.isi_bi, Ev.isi_bt, Ev.isi_bl, Ev.isi_ib, Ev.isi_is, Ev.isi_ii, Ev.isi_it, Ev.isi_il, Ev.isi_sb, Ev.isi_ss, Ev.isi_si, Ev.isi_st, Ev.isi_sl, Ev.isi_tb, Ev.isi_ts, Ev.isi_ti, Ev.isi_tt, Ev.isi_tl, Ev.isi_nb, Ev.isi_ns, Ev.isi_ni, Ev.isi_nt, Ev.isi_nl, Ev.atI_0, Ev.atI_1, Ev.atI_2, Ev.atI_3, Ev.atI_4, Ev.tyOk_s, Ev.slW_to, Ev.slW_from, Ev.addW_SS, Int.toNat_natCast, Option.some.injEq, List.set_set, Option.map_some, W.int.injEq, W.str.injEq, W.loc.injEq, Nat.reduceLeDiff, and_self, Int.reduceLT, Int.reduceLE, Int.reduceNeg, Int.reduceToNat, Int.reduceAdd, Int.reduceMul, Int.reduceSub, decide_eq_true_eq]
        exact hq (.pr a y) _ (X2.trans X3) st3 (mem_pr.mpr ⟨k1, k2, es, ha, hy⟩)
theorem least_ok {n p : Nat} {ws : List Wo} {x y : Wo} {S : Sto} {Q : W → Sto → Prop} (hn : 52 ≤ n) (hp : S[p]? = some (.lst (ws.map Wo.w))) (hl : ws.length ≤ 1000) (hw : ∀ w ∈ ws, w.dp ≤ 50) (hx : x.dp ≤ 50) (hy : y.dp ≤ 50)
    (h1 : ∀ w S', w ∈ ws.filter (fun w => und x w && und y w) → (∀ e ∈ ws.filter (fun w => und x w && und y w), und w e = true) → Xt [] S S' → Q (.tup [.bl true, w.w]) S')
    (h2 : ∀ S', (∀ w ∈ ws.filter (fun w => und x w && und y w), ¬ ∀ e ∈ ws.filter (fun w => und x w && und y w), und w e = true) → Xt [] S S' → Q (.tup [.bl false, .non]) S') :
    wpR (call n .f_law_least_above [.loc p, x.w, y.w] S) Q := by
  obtain ⟨n, rfl⟩ : ∃ m, n = m + 1 := ⟨n - 1, by omega⟩
  rw [call_s, body]
  simp (maxSteps := 500000) (implicitDefEqProofs := false) (disch := omega) only [↓Ev.wq_aCons, ↓Ev.wq_aNil, ↓Ev.wq_and, ↓Ev.wq_bind, ↓Ev.wq_c, ↓Ev.wq_dnew, ↓Ev.wq_e1, ↓Ev.wq_e2, ↓Ev.wq_eIf, ↓Ev.wq_eL, ↓Ev.wq_eM, ↓Ev.wq_eSl, ↓Ev.wq_in, ↓Ev.wq_ite, ↓Ev.wq_ixR, ↓Ev.wq_ixS, ↓Ev.wq_ixT, ↓Ev.wq_lc, ↓Ev.wq_lst, ↓Ev.wq_no, ↓Ev.wq_not, ↓Ev.wq_oNone, ↓Ev.wq_oSome, ↓Ev.wq_ok, ↓Ev.wq_or, ↓Ev.wq_rng1, ↓Ev.wq_rng2, ↓Ev.wq_run, ↓Ev.wq_seq, ↓Ev.wq_test, ↓Ev.wq_tru, ↓Ev.wq_tup, ↓Ev.wq_vAnd, ↓Ev.wq_vNot, ↓Ev.wq_vOr, ↓Ev.wq_var0, ↓Ev.wq_varS, ↓Ev.wq_yes, ↓Ev.wq_zip, ↓Ev.ws_asg, ↓Ev.ws_brk, ↓Ev.ws_cnt, ↓Ev.ws_expr, ↓Ev.ws_for, ↓Ev.ws_if, ↓Ev.ws_in, ↓Ev.ws_kn, ↓Ev.ws_nil, ↓Ev.ws_nx, ↓Ev.ws_put, ↓Ev.ws_ret, ↓Ev.ws_retN, ↓Ev.ws_rt, ↓Ev.ws_seq, ↓Ev.ws_while, ↓Ev.ws_set, ↓Ev.wo_some, ↓Ev.onB_b, ↓Ev.onI_i, ↓Ev.Kn_rt, ↓Ev.Kn_bk, ↓Ev.Kn_ct, ↓Ev.onRet_nx, ↓Ev.onRet_rt, ↓Ev.onNx_nx, ↓Ev.onNx_ct, ↓Ev.onNx_bk, ↓Ev.onNx_rt, List.map_cons, List.map_nil, List.length_cons, List.length_nil, List.replicate, List.cons_append, List.nil_append, Nat.reduceAdd, Nat.reduceSub, List.set_cons_zero, List.set_cons_succ, if_true, if_false, true_and, and_true, Bool.false_eq_true, Bool.not_true, Bool.not_false, ↓reduceIte, Ev.ifF, Nat.zero_add, Ev.startE, Ev.wipeE, Ev.put_nm, Ev.put_tp, Ev.puts_nil, Ev.puts_cons, Option.bind_some, Ev.seqLen_t, Ev.seqLen_r, Ev.addW_ii, Ev.addW_tt, Ev.subW_ii, Ev.mulW_ii, Ev.modW_ii, Ev.fdivW_ii, Ev.powW_ii, Ev.negW_i, Ev.cmpI_ii, Ev.isW_n, Ev.isnW_n, Ev.isNon_n, Ev.isNon_b, Ev.isNon_i, Ev.isNon_s, Ev.isNon_t, Ev.isNon_l, Ev.max2W_ii, Ev.min2W_ii, Ev.intW_i, Ev.intW_b, Ev.lenW_t, Ev.lenW_r, Ev.listW_t, Ev.tupleW_t, Ev.truW_b, Ev.truW_n, Ev.truW_i, Ev.truW_t, Ev.eqW_ii, Ev.neW_ii, Ev.eqW_ss, Ev.neW_ss, Ev.eqW_bb, Ev.ixN_0, Ev.ixN_1, Ev.ixN_2, Ev.ixN_3, Ev.isi_bb, Ev.isi_bs, Ev.isi_bi, Ev.isi_bt, Ev.isi_bl, Ev.isi_ib, Ev.isi_is, Ev.isi_ii, Ev.isi_it, Ev.isi_il, Ev.isi_sb, Ev.isi_ss, Ev.isi_si, Ev.isi_st, Ev.isi_sl, Ev.isi_tb, Ev.isi_ts, Ev.isi_ti, Ev.isi_tt, Ev.isi_tl, Ev.isi_nb, Ev.isi_ns, Ev.isi_ni, Ev.isi_nt, Ev.isi_nl, Ev.atI_0, Ev.atI_1, Ev.atI_2, Ev.atI_3, Ev.atI_4, Ev.tyOk_s, Ev.slW_to, Ev.slW_from, Ev.addW_SS, Int.toNat_natCast, Option.some.injEq, List.set_set, Option.map_some, W.int.injEq, W.str.injEq, W.loc.injEq, Nat.reduceLeDiff, and_self, Int.reduceLT, Int.reduceLE, Int.reduceNeg, Int.reduceToNat, Int.reduceAdd, Int.reduceMul, Int.reduceSub, decide_eq_true_eq, m_f_law_least_above]
  refine wo_ex (seqLen_l hp) ?_
  rw [List.length_map]
  refine wp_lclN ws.length (fun j acc S' => S' = S ∧ acc = ((ws.take j).filter fun w => und x w && und y w).map Wo.w) (by omega) ⟨rfl, rfl⟩ ?_ ?_
  · rintro j acc S' hj ⟨rfl, rfl⟩
    have gj : ws[j]? = some ws[j] := List.getElem?_eq_getElem hj
    have wj := hw _ (List.getElem_mem hj)
    have e6 : (ws.take (j + 1)).filter (fun w => und x w && und y w) = (ws.take j).filter (fun w => und x w && und y w) ++ (if (und x ws[j] && und y ws[j]) = true then [ws[j]] else []) := by
      rw [List.take_succ, gj, List.filter_append]
      show _ ++ List.filter _ [ws[j]] = _
      rw [List.filter_cons]; split <;> simp
    have hl5 : ((ws.take j).filter fun w => und x w && und y w).length ≤ 1000 := Nat.le_trans (List.length_filter_le _ _) (by rw [List.length_take]; omega)
    rw [e6]
    generalize ws[j] = w at *
    refine ⟨w.w, _, by rw [seqIt_l hp, List.getElem?_map, gj]; rfl, rfl, ?_⟩
    simp (maxSteps := 500000) (implicitDefEqProofs := false) (disch := omega) only [↓Ev.wq_aCons, ↓Ev.wq_aNil, ↓Ev.wq_and, ↓Ev.wq_bind, ↓Ev.wq_c, ↓Ev.wq_dnew, ↓Ev.wq_e1, ↓Ev.wq_e2, ↓Ev.wq_eIf, ↓Ev.wq_eL, ↓Ev.wq_eM, ↓Ev.wq_eSl, ↓Ev.wq_in, ↓Ev.wq_ite, ↓Ev.wq_ixR, ↓Ev.wq_ixS, ↓Ev.wq_ixT, ↓Ev.wq_lc, ↓Ev.wq_lst, ↓Ev.wq_no, ↓Ev.wq_not, ↓Ev.wq_oNone, ↓Ev.wq_oSome, ↓Ev.wq_ok, ↓Ev.wq_or, ↓Ev.wq_rng1, ↓Ev.wq_rng2, ↓Ev.wq_run, ↓Ev.wq_seq, ↓Ev.wq_test, ↓Ev.wq_tru, ↓Ev.wq_tup, ↓Ev.wq_vAnd, ↓Ev.wq_vNot, ↓Ev.wq_vOr, ↓Ev.wq_var0, ↓Ev.wq_varS, ↓Ev.wq_yes, ↓Ev.wq_zip, ↓Ev.ws_asg, ↓Ev.ws_brk, ↓Ev.ws_cnt, ↓Ev.ws_expr, ↓Ev.ws_for, ↓Ev.ws_if, ↓Ev.ws_in, ↓Ev.ws_kn, ↓Ev.ws_nil, ↓Ev.ws_nx, ↓Ev.ws_put, ↓Ev.ws_ret, ↓Ev.ws_retN, ↓Ev.ws_rt, ↓Ev.ws_seq, ↓Ev.ws_while, ↓Ev.ws_set, ↓Ev.wo_some, ↓Ev.onB_b, ↓Ev.onI_i, ↓Ev.Kn_rt, ↓Ev.Kn_bk, ↓Ev.Kn_ct, ↓Ev.onRet_nx, ↓Ev.onRet_rt, ↓Ev.onNx_nx, ↓Ev.onNx_ct, ↓Ev.onNx_bk, ↓Ev.onNx_rt, List.map_cons, List.map_nil, List.length_cons, List.length_nil, List.replicate, List.cons_append, List.nil_append, Nat.reduceAdd, Nat.reduceSub, List.set_cons_zero, List.set_cons_succ, if_true, if_false, true_and, and_true, Bool.false_eq_true, Bool.not_true, Bool.not_false, ↓reduceIte, Ev.ifF, Nat.zero_add, Ev.startE, Ev.wipeE, Ev.put_nm, Ev.put_tp, Ev.puts_nil, Ev.puts_cons, Option.bind_some, Ev.seqLen_t, Ev.seqLen_r, Ev.addW_ii, Ev.addW_tt, Ev.subW_ii, Ev.mulW_ii, Ev.modW_ii, Ev.fdivW_ii, Ev.powW_ii, Ev.negW_i, Ev.cmpI_ii, Ev.isW_n, Ev.isnW_n, Ev.isNon_n, Ev.isNon_b, Ev.isNon_i, Ev.isNon_s, Ev.isNon_t, Ev.isNon_l, Ev.max2W_ii, Ev.min2W_ii, Ev.intW_i, Ev.intW_b, Ev.lenW_t, Ev.lenW_r, Ev.listW_t, Ev.tupleW_t, Ev.truW_b, Ev.truW_n, Ev.truW_i, Ev.truW_t, Ev.eqW_ii, Ev.neW_ii, Ev.eqW_ss, Ev.neW_ss, Ev.eqW_bb, Ev.ixN_0, Ev.ixN_1, Ev.ixN_2, Ev.ixN_3, Ev.isi_bb, Ev.isi_bs, Ev.isi_bi, Ev.isi_bt, Ev.isi_bl, Ev.isi_ib, Ev.isi_is, Ev.isi_ii, Ev.isi_it, Ev.isi_il, Ev.isi_sb, Ev.isi_ss, Ev.isi_si, Ev.isi_st, Ev.isi_sl, Ev.isi_tb, Ev.isi_ts, Ev.isi_ti, Ev.isi_tt, Ev.isi_tl, Ev.isi_nb, Ev.isi_ns, Ev.isi_ni, Ev.isi_nt, Ev.isi_nl, Ev.atI_0, Ev.atI_1, Ev.atI_2, Ev.atI_3, Ev.atI_4, Ev.tyOk_s, Ev.slW_to, Ev.slW_from, Ev.addW_SS, Int.toNat_natCast, Option.some.injEq, List.set_set, Option.map_some, W.int.injEq, W.str.injEq, W.loc.injEq, Nat.reduceLeDiff, and_self, Int.reduceLT, Int.reduceLE, Int.reduceNeg, Int.reduceToNat, Int.reduceAdd, Int.reduceMul, Int.reduceSub, decide_eq_true_eq]
    refine wpR_mono (f_law_under_ok x w (by omega) hx wj) ?_
    rintro v S1 ⟨rfl, rfl⟩
    try simp (maxSteps := 500000) (implicitDefEqProofs := false) (disch := omega) only [↓Ev.wq_aCons, ↓Ev.wq_aNil, ↓Ev.wq_and, ↓Ev.wq_bind, ↓Ev.wq_c, ↓Ev.wq_dnew, ↓Ev.wq_e1, ↓Ev.wq_e2, ↓Ev.wq_eIf, ↓Ev.wq_eL, ↓Ev.wq_eM, ↓Ev.wq_eSl, ↓Ev.wq_in, ↓Ev.wq_ite, ↓Ev.wq_ixR, ↓Ev.wq_ixS, ↓Ev.wq_ixT, ↓Ev.wq_lc, ↓Ev.wq_lst, ↓Ev.wq_no, ↓Ev.wq_not, ↓Ev.wq_oNone, ↓Ev.wq_oSome, ↓Ev.wq_ok, ↓Ev.wq_or, ↓Ev.wq_rng1, ↓Ev.wq_rng2, ↓Ev.wq_run, ↓Ev.wq_seq, ↓Ev.wq_test, ↓Ev.wq_tru, ↓Ev.wq_tup, ↓Ev.wq_vAnd, ↓Ev.wq_vNot, ↓Ev.wq_vOr, ↓Ev.wq_var0, ↓Ev.wq_varS, ↓Ev.wq_yes, ↓Ev.wq_zip, ↓Ev.ws_asg, ↓Ev.ws_brk, ↓Ev.ws_cnt, ↓Ev.ws_expr, ↓Ev.ws_for, ↓Ev.ws_if, ↓Ev.ws_in, ↓Ev.ws_kn, ↓Ev.ws_nil, ↓Ev.ws_nx, ↓Ev.ws_put, ↓Ev.ws_ret, ↓Ev.ws_retN, ↓Ev.ws_rt, ↓Ev.ws_seq, ↓Ev.ws_while, ↓Ev.ws_set, ↓Ev.wo_some, ↓Ev.onB_b, ↓Ev.onI_i, ↓Ev.Kn_rt, ↓Ev.Kn_bk, ↓Ev.Kn_ct, ↓Ev.onRet_nx, ↓Ev.onRet_rt, ↓Ev.onNx_nx, ↓Ev.onNx_ct, ↓Ev.onNx_bk, ↓Ev.onNx_rt, List.map_cons, List.map_nil, List.length_cons, List.length_nil, List.replicate, List.cons_append, List.nil_append, Nat.reduceAdd, Nat.reduceSub, List.set_cons_zero, List.set_cons_succ, if_true, if_false, true_and, and_true, Bool.false_eq_true, Bool.not_true, Bool.not_false, ↓reduceIte, Ev.ifF, Nat.zero_add, Ev.startE, Ev.wipeE, Ev.put_nm, Ev.put_tp, Ev.puts_nil, Ev.puts_cons, Option.bind_some, Ev.seqLen_t, Ev.seqLen_r, Ev.addW_ii, Ev.addW_tt, Ev.subW_ii, Ev.mulW_ii, Ev.modW_ii, Ev.fdivW_ii, Ev.powW_ii, Ev.negW_i, Ev.cmpI_ii, Ev.isW_n, Ev.isnW_n, Ev.isNon_n, Ev.isNon_b, Ev.isNon_i, Ev.isNon_s, Ev.isNon_t, Ev.isNon_l, Ev.max2W_ii, Ev.min2W_ii, Ev.intW_i, Ev.intW_b, Ev.lenW_t, Ev.lenW_r, Ev.listW_t, Ev.tupleW_t, Ev.truW_b, Ev.truW_n, Ev.truW_i, Ev.truW_t, Ev.eqW_ii, Ev.neW_ii, Ev.eqW_ss, Ev.neW_ss, Ev.eqW_bb, Ev.ixN_0, Ev.ixN_1, Ev.ixN_2, Ev.ixN_3, Ev.isi_bb, Ev.isi_bs, Ev.isi_bi, Ev.isi_bt, Ev.isi_bl, Ev.isi_ib, Ev.isi_is, Ev.isi_ii, Ev.isi_it, Ev.isi_il, Ev.isi_sb, Ev.isi_ss, Ev.isi_si, Ev.isi_st, Ev.isi_sl, Ev.isi_tb, Ev.isi_ts, Ev.isi_ti, Ev.isi_tt, Ev.isi_tl, Ev.isi_nb, Ev.isi_ns, Ev.isi_ni, Ev.isi_nt, Ev.isi_nl, Ev.atI_0, Ev.atI_1, Ev.atI_2, Ev.atI_3, Ev.atI_4, Ev.tyOk_s, Ev.slW_to, Ev.slW_from, Ev.addW_SS, Int.toNat_natCast, Option.some.injEq, List.set_set, Option.map_some, W.int.injEq, W.str.injEq, W.loc.injEq, Nat.reduceLeDiff, and_self, Int.reduceLT, Int.reduceLE, Int.reduceNeg, Int.reduceToNat, Int.reduceAdd, Int.reduceMul, Int.reduceSub, decide_eq_true_eq]
    by_cases hc : und x w = true
    · rw [if_pos hc, hc]
      refine wpR_mono (f_law_under_ok y w (by omega) hy wj) ?_
      rintro v S1 ⟨rfl, rfl⟩
      try simp (maxSteps := 500000) (implicitDefEqProofs := false) (disch := omega) only [↓Ev.wq_aCons, ↓Ev.wq_aNil, ↓Ev.wq_and, ↓Ev.wq_bind, ↓Ev.wq_c, ↓Ev.wq_dnew, ↓Ev.wq_e1, ↓Ev.wq_e2, ↓Ev.wq_eIf, ↓Ev.wq_eL, ↓Ev.wq_eM, ↓Ev.wq_eSl, ↓Ev.wq_in, ↓Ev.wq_ite, ↓Ev.wq_ixR, ↓Ev.wq_ixS, ↓Ev.wq_ixT, ↓Ev.wq_lc, ↓Ev.wq_lst, ↓Ev.wq_no, ↓Ev.wq_not, ↓Ev.wq_oNone, ↓Ev.wq_oSome, ↓Ev.wq_ok, ↓Ev.wq_or, ↓Ev.wq_rng1, ↓Ev.wq_rng2, ↓Ev.wq_run, ↓Ev.wq_seq, ↓Ev.wq_test, ↓Ev.wq_tru, ↓Ev.wq_tup, ↓Ev.wq_vAnd, ↓Ev.wq_vNot, ↓Ev.wq_vOr, ↓Ev.wq_var0, ↓Ev.wq_varS, ↓Ev.wq_yes, ↓Ev.wq_zip, ↓Ev.ws_asg, ↓Ev.ws_brk, ↓Ev.ws_cnt, ↓Ev.ws_expr, ↓Ev.ws_for, ↓Ev.ws_if, ↓Ev.ws_in, ↓Ev.ws_kn, ↓Ev.ws_nil, ↓Ev.ws_nx, ↓Ev.ws_put, ↓Ev.ws_ret, ↓Ev.ws_retN, ↓Ev.ws_rt, ↓Ev.ws_seq, ↓Ev.ws_while, ↓Ev.ws_set, ↓Ev.wo_some, ↓Ev.onB_b, ↓Ev.onI_i, ↓Ev.Kn_rt, ↓Ev.Kn_bk, ↓Ev.Kn_ct, ↓Ev.onRet_nx, ↓Ev.onRet_rt, ↓Ev.onNx_nx, ↓Ev.onNx_ct, ↓Ev.onNx_bk, ↓Ev.onNx_rt, List.map_cons, List.map_nil, List.length_cons, List.length_nil, List.replicate, List.cons_append, List.nil_append, Nat.reduceAdd, Nat.reduceSub, List.set_cons_zero, List.set_cons_succ, if_true, if_false, true_and, and_true, Bool.false_eq_true, Bool.not_true, Bool.not_false, ↓reduceIte, Ev.ifF, Nat.zero_add, Ev.startE, Ev.wipeE, Ev.put_nm, Ev.put_tp, Ev.puts_nil, Ev.puts_cons, Option.bind_some, Ev.seqLen_t, Ev.seqLen_r, Ev.addW_ii, Ev.addW_tt, Ev.subW_ii, Ev.mulW_ii, Ev.modW_ii, Ev.fdivW_ii, Ev.powW_ii, Ev.negW_i, Ev.cmpI_ii, Ev.isW_n, Ev.isnW_n, Ev.isNon_n, Ev.isNon_b, Ev.isNon_i, Ev.isNon_s, Ev.isNon_t, Ev.isNon_l, Ev.max2W_ii, Ev.min2W_ii, Ev.intW_i, Ev.intW_b, Ev.lenW_t, Ev.lenW_r, Ev.listW_t, Ev.tupleW_t, Ev.truW_b, Ev.truW_n, Ev.truW_i, Ev.truW_t, Ev.eqW_ii, Ev.neW_ii, Ev.eqW_ss, Ev.neW_ss, Ev.eqW_bb, Ev.ixN_0, Ev.ixN_1, Ev.ixN_2, Ev.ixN_3, Ev.isi_bb, Ev.isi_bs, Ev.isi_bi, Ev.isi_bt, Ev.isi_bl, Ev.isi_ib, Ev.isi_is, Ev.isi_ii, Ev.isi_it, Ev.isi_il, Ev.isi_sb, Ev.isi_ss, Ev.isi_si, Ev.isi_st, Ev.isi_sl, Ev.isi_tb, Ev.isi_ts, Ev.isi_ti, Ev.isi_tt, Ev.isi_tl, Ev.isi_nb, Ev.isi_ns, Ev.isi_ni, Ev.isi_nt, Ev.isi_nl, Ev.atI_0, Ev.atI_1, Ev.atI_2, Ev.atI_3, Ev.atI_4, Ev.tyOk_s, Ev.slW_to, Ev.slW_from, Ev.addW_SS, Int.toNat_natCast, Option.some.injEq, List.set_set, Option.map_some, W.int.injEq, W.str.injEq, W.loc.injEq, Nat.reduceLeDiff, and_self, Int.reduceLT, Int.reduceLE, Int.reduceNeg, Int.reduceToNat, Int.reduceAdd, Int.reduceMul, Int.reduceSub, decide_eq_true_eq, Bool.true_and]
      by_cases hc2 : und y w = true
      · rw [if_pos hc2, if_pos hc2]
        try simp (maxSteps := 500000) (implicitDefEqProofs := false) (disch := omega) only [↓Ev.wq_aCons, ↓Ev.wq_aNil, ↓Ev.wq_and, ↓Ev.wq_bind, ↓Ev.wq_c, ↓Ev.wq_dnew, ↓Ev.wq_e1, ↓Ev.wq_e2, ↓Ev.wq_eIf, ↓Ev.wq_eL, ↓Ev.wq_eM, ↓Ev.wq_eSl, ↓Ev.wq_in, ↓Ev.wq_ite, ↓Ev.wq_ixR, ↓Ev.wq_ixS, ↓Ev.wq_ixT, ↓Ev.wq_lc, ↓Ev.wq_lst, ↓Ev.wq_no, ↓Ev.wq_not, ↓Ev.wq_oNone, ↓Ev.wq_oSome, ↓Ev.wq_ok, ↓Ev.wq_or, ↓Ev.wq_rng1, ↓Ev.wq_rng2, ↓Ev.wq_run, ↓Ev.wq_seq, ↓Ev.wq_test, ↓Ev.wq_tru, ↓Ev.wq_tup, ↓Ev.wq_vAnd, ↓Ev.wq_vNot, ↓Ev.wq_vOr, ↓Ev.wq_var0, ↓Ev.wq_varS, ↓Ev.wq_yes, ↓Ev.wq_zip, ↓Ev.ws_asg, ↓Ev.ws_brk, ↓Ev.ws_cnt, ↓Ev.ws_expr, ↓Ev.ws_for, ↓Ev.ws_if, ↓Ev.ws_in, ↓Ev.ws_kn, ↓Ev.ws_nil, ↓Ev.ws_nx, ↓Ev.ws_put, ↓Ev.ws_ret, ↓Ev.ws_retN, ↓Ev.ws_rt, ↓Ev.ws_seq, ↓Ev.ws_while, ↓Ev.ws_set, ↓Ev.wo_some, ↓Ev.onB_b, ↓Ev.onI_i, ↓Ev.Kn_rt, ↓Ev.Kn_bk, ↓Ev.Kn_ct, ↓Ev.onRet_nx, ↓Ev.onRet_rt, ↓Ev.onNx_nx, ↓Ev.onNx_ct, ↓Ev.onNx_bk, ↓Ev.onNx_rt, List.map_cons, List.map_nil, List.length_cons, List.length_nil, List.replicate, List.cons_append, List.nil_append, Nat.reduceAdd, Nat.reduceSub, List.set_cons_zero, List.set_cons_succ, if_true, if_false, true_and, and_true, Bool.false_eq_true, Bool.not_true, Bool.not_false, ↓reduceIte, Ev.ifF, Nat.zero_add, Ev.startE, Ev.wipeE, Ev.put_nm, Ev.put_tp, Ev.puts_nil, Ev.puts_cons, Option.bind_some, Ev.seqLen_t, Ev.seqLen_r, Ev.addW_ii, Ev.addW_tt, Ev.subW_ii, Ev.mulW_ii, Ev.modW_ii, Ev.fdivW_ii, Ev.powW_ii, Ev.negW_i, Ev.cmpI_ii, Ev.isW_n, Ev.isnW_n, Ev.isNon_n, Ev.isNon_b, Ev.isNon_i, Ev.isNon_s, Ev.isNon_t, Ev.isNon_l, Ev.max2W_ii, Ev.min2W_ii, Ev.intW_i, Ev.intW_b, Ev.lenW_t, Ev.lenW_r, Ev.listW_t, Ev.tupleW_t, Ev.truW_b, Ev.truW_n, Ev.truW_i, Ev.truW_t, Ev.eqW_ii, Ev.neW_ii, Ev.eqW_ss, Ev.neW_ss, Ev.eqW_bb, Ev.ixN_0, Ev.ixN_1, Ev.ixN_2, Ev.ixN_3, Ev.isi_bb, Ev.isi_bs, Ev.isi_bi, Ev.isi_bt, Ev.isi_bl, Ev.isi_ib, Ev.isi_is, Ev.isi_ii, Ev.isi_it, Ev.isi_il, Ev.isi_sb, Ev.isi_ss, Ev.isi_si, Ev.isi_st, Ev.isi_sl, Ev.isi_tb, Ev.isi_ts, Ev.isi_ti, Ev.isi_tt, Ev.isi_tl, Ev.isi_nb, Ev.isi_ns, Ev.isi_ni, Ev.isi_nt, Ev.isi_nl, Ev.atI_0, Ev.atI_1, Ev.atI_2, Ev.atI_3, Ev.atI_4, Ev.tyOk_s, Ev.slW_to, Ev.slW_from, Ev.addW_SS, Int.toNat_natCast, Option.some.injEq, List.set_set, Option.map_some, W.int.injEq, W.str.injEq, W.loc.injEq, Nat.reduceLeDiff, and_self, Int.reduceLT, Int.reduceLE, Int.reduceNeg, Int.reduceToNat, Int.reduceAdd, Int.reduceMul, Int.reduceSub, decide_eq_true_eq]
        refine ⟨by rw [List.length_map]; omega, ?_⟩
        rw [List.map_append]; rfl
      · rw [if_neg hc2, if_neg hc2, List.append_nil]
        try exact ⟨rfl, rfl⟩
    · rw [if_neg hc]
      have : und x w = false := by simpa using hc
      rw [this]
      try simp (maxSteps := 500000) (implicitDefEqProofs := false) (disch := omega) only [↓Ev.wq_aCons, ↓Ev.wq_aNil, ↓Ev.wq_and, ↓Ev.wq_bind, ↓Ev.wq_c, ↓Ev.wq_dnew, ↓Ev.wq_e1, ↓Ev.wq_e2, ↓Ev.wq_eIf, ↓Ev.wq_eL, ↓Ev.wq_eM, ↓Ev.wq_eSl, ↓Ev.wq_in, ↓Ev.wq_ite, ↓Ev.wq_ixR, ↓Ev.wq_ixS, ↓Ev.wq_ixT, ↓Ev.wq_lc, ↓Ev.wq_lst, ↓Ev.wq_no, ↓Ev.wq_not, ↓Ev.wq_oNone, ↓Ev.wq_oSome, ↓Ev.wq_ok, ↓Ev.wq_or, ↓Ev.wq_rng1, ↓Ev.wq_rng2, ↓Ev.wq_run, ↓Ev.wq_seq, ↓Ev.wq_test, ↓Ev.wq_tru, ↓Ev.wq_tup, ↓Ev.wq_vAnd, ↓Ev.wq_vNot, ↓Ev.wq_vOr, ↓Ev.wq_var0, ↓Ev.wq_varS, ↓Ev.wq_yes, ↓Ev.wq_zip, ↓Ev.ws_asg, ↓Ev.ws_brk, ↓Ev.ws_cnt, ↓Ev.ws_expr, ↓Ev.ws_for, ↓Ev.ws_if, ↓Ev.ws_in, ↓Ev.ws_kn, ↓Ev.ws_nil, ↓Ev.ws_nx, ↓Ev.ws_put, ↓Ev.ws_ret, ↓Ev.ws_retN, ↓Ev.ws_rt, ↓Ev.ws_seq, ↓Ev.ws_while, ↓Ev.ws_set, ↓Ev.wo_some, ↓Ev.onB_b, ↓Ev.onI_i, ↓Ev.Kn_rt, ↓Ev.Kn_bk, ↓Ev.Kn_ct, ↓Ev.onRet_nx, ↓Ev.onRet_rt, ↓Ev.onNx_nx, ↓Ev.onNx_ct, ↓Ev.onNx_bk, ↓Ev.onNx_rt, List.map_cons, List.map_nil, List.length_cons, List.length_nil, List.replicate, List.cons_append, List.nil_append, Nat.reduceAdd, Nat.reduceSub, List.set_cons_zero, List.set_cons_succ, if_true, if_false, true_and, and_true, Bool.false_eq_true, Bool.not_true, Bool.not_false, ↓reduceIte, Ev.ifF, Nat.zero_add, Ev.startE, Ev.wipeE, Ev.put_nm, Ev.put_tp, Ev.puts_nil, Ev.puts_cons, Option.bind_some, Ev.seqLen_t, Ev.seqLen_r, Ev.addW_ii, Ev.addW_tt, Ev.subW_ii, Ev.mulW_ii, Ev.modW_ii, Ev.fdivW_ii, Ev.powW_ii, Ev.negW_i, Ev.cmpI_ii, Ev.isW_n, Ev.isnW_n, Ev.isNon_n, Ev.isNon_b, Ev.isNon_i, Ev.isNon_s, Ev.isNon_t, Ev.isNon_l, Ev.max2W_ii, Ev.min2W_ii, Ev.intW_i, Ev.intW_b, Ev.lenW_t, Ev.lenW_r, Ev.listW_t, Ev.tupleW_t, Ev.truW_b, Ev.truW_n, Ev.truW_i, Ev.truW_t, Ev.eqW_ii, Ev.neW_ii, Ev.eqW_ss, Ev.neW_ss, Ev.eqW_bb, Ev.ixN_0, Ev.ixN_1, Ev.ixN_2, Ev.ixN_3, Ev.isi_bb, Ev.isi_bs, Ev.isi_bi, Ev.isi_bt, Ev.isi_bl, Ev.isi_ib, Ev.isi_is, Ev.isi_ii, Ev.isi_it, Ev.isi_il, Ev.isi_sb, Ev.isi_ss, Ev.isi_si, Ev.isi_st, Ev.isi_sl, Ev.isi_tb, Ev.isi_ts, Ev.isi_ti, Ev.isi_tt, Ev.isi_tl, Ev.isi_nb, Ev.isi_ns, Ev.isi_ni, Ev.isi_nt, Ev.isi_nl, Ev.atI_0, Ev.atI_1, Ev.atI_2, Ev.atI_3, Ev.atI_4, Ev.tyOk_s, Ev.slW_to, Ev.slW_from, Ev.addW_SS, Int.toNat_natCast, Option.some.injEq, List.set_set, Option.map_some, W.int.injEq, W.str.injEq, W.loc.injEq, Nat.reduceLeDiff, and_self, Int.reduceLT, Int.reduceLE, Int.reduceNeg, Int.reduceToNat, Int.reduceAdd, Int.reduceMul, Int.reduceSub, decide_eq_true_eq, Bool.false_and, List.append_nil]
  · rintro acc S' ⟨rfl, rfl⟩
    refine ⟨by rw [seqIt_l hp, List.getElem?_eq_none (by rw [List.length_map]; exact Nat.le_refl _)], ?_⟩
    rw [List.take_length]
    have fw : ∀ w ∈ ws.filter (fun w => und x w && und y w), w.dp ≤ 50 := fun w h => hw w (List.mem_filter.mp h).1
    have fl : (ws.filter fun w => und x w && und y w).length ≤ 1000 := Nat.le_trans (List.length_filter_le _ _) hl
    generalize (ws.filter fun w => und x w && und y w) = A at *
    have e1 : (S' ++ [O.lst (A.map Wo.w)])[S'.length]? = some (.lst (A.map Wo.w)) := at_new'
    have X1 : Xt [] S' (S' ++ [O.lst (A.map Wo.w)]) := .app
    try simp (maxSteps := 500000) (implicitDefEqProofs := false) (disch := omega) only [↓Ev.wq_aCons, ↓Ev.wq_aNil, ↓Ev.wq_and, ↓Ev.wq_bind, ↓Ev.wq_c, ↓Ev.wq_dnew, ↓Ev.wq_e1, ↓Ev.wq_e2, ↓Ev.wq_eIf, ↓Ev.wq_eL, ↓Ev.wq_eM, ↓Ev.wq_eSl, ↓Ev.wq_in, ↓Ev.wq_ite, ↓Ev.wq_ixR, ↓Ev.wq_ixS, ↓Ev.wq_ixT, ↓Ev.wq_lc, ↓Ev.wq_lst, ↓Ev.wq_no, ↓Ev.wq_not, ↓Ev.wq_oNone, ↓Ev.wq_oSome, ↓Ev.wq_ok, ↓Ev.wq_or, ↓Ev.wq_rng1, ↓Ev.wq_rng2, ↓Ev.wq_run, ↓Ev.wq_seq, ↓Ev.wq_test, ↓Ev.wq_tru, ↓Ev.wq_tup, ↓Ev.wq_vAnd, ↓Ev.wq_vNot, ↓Ev.wq_vOr, ↓Ev.wq_var0, ↓Ev.wq_varS, ↓Ev.wq_yes, ↓Ev.wq_zip, ↓Ev.ws_asg, ↓Ev.ws_brk, ↓Ev.ws_cnt, ↓Ev.ws_expr, ↓Ev.ws_for, ↓Ev.ws_if, ↓Ev.ws_in, ↓Ev.ws_kn, ↓Ev.ws_nil, ↓Ev.ws_nx, ↓Ev.ws_put, ↓Ev.ws_ret, ↓Ev.ws_retN, ↓Ev.ws_rt, ↓Ev.ws_seq, ↓Ev.ws_while, ↓Ev.ws_set, ↓Ev.wo_some, ↓Ev.onB_b, ↓Ev.onI_i, ↓Ev.Kn_rt, ↓Ev.Kn_bk, ↓Ev.Kn_ct, ↓Ev.onRet_nx, ↓Ev.onRet_rt, ↓Ev.onNx_nx, ↓Ev.onNx_ct, ↓Ev.onNx_bk, ↓Ev.onNx_rt, List.map_cons, List.map_nil, List.length_cons, List.length_nil, List.replicate, List.cons_append, List.nil_append, Nat.reduceAdd, Nat.reduceSub, List.set_cons_zero, List.set_cons_succ, if_true, if_false, true_and, and_true, Bool.false_eq_true, Bool.not_true, Bool.not_false, ↓reduceIte, Ev.ifF, Nat.zero_add, Ev.startE, Ev.wipeE, Ev.put_nm, Ev.put_tp, Ev.puts_nil, Ev.puts_cons, Option.bind_some, Ev.seqLen_t, Ev.seqLen_r, Ev.addW_ii, Ev.addW_tt, Ev.subW_ii, Ev.mulW_ii, Ev.modW_ii, Ev.fdivW_ii, Ev.powW_ii, Ev.negW_i, Ev.cmpI_ii, Ev.isW_n, Ev.isnW_n, Ev.isNon_n, Ev.isNon_b, Ev.isNon_i, Ev.isNon_s, Ev.isNon_t, Ev.isNon_l, Ev.max2W_ii, Ev.min2W_ii, Ev.intW_i, Ev.intW_b, Ev.lenW_t, Ev.lenW_r, Ev.listW_t, Ev.tupleW_t, Ev.truW_b, Ev.truW_n, Ev.truW_i, Ev.truW_t, Ev.eqW_ii, Ev.neW_ii, Ev.eqW_ss, Ev.neW_ss, Ev.eqW_bb, Ev.ixN_0, Ev.ixN_1, Ev.ixN_2, Ev.ixN_3, Ev.isi_bb, Ev.isi_bs, Ev.isi_bi, Ev.isi_bt, Ev.isi_bl, Ev.isi_ib, Ev.isi_is, Ev.isi_ii, Ev.isi_it, Ev.isi_il, Ev.isi_sb, Ev.isi_ss, Ev.isi_si, Ev.isi_st, Ev.isi_sl, Ev.isi_tb, Ev.isi_ts, Ev.isi_ti, Ev.isi_tt, Ev.isi_tl, Ev.isi_nb, Ev.isi_ns, Ev.isi_ni, Ev.isi_nt, Ev.isi_nl, Ev.atI_0, Ev.atI_1, Ev.atI_2, Ev.atI_3, Ev.atI_4, Ev.tyOk_s, Ev.slW_to, Ev.slW_from, Ev.addW_SS, Int.toNat_natCast, Option.some.injEq, List.set_set, Option.map_some, W.int.injEq, W.str.injEq, W.loc.injEq, Nat.reduceLeDiff, and_self, Int.reduceLT, Int.reduceLE, Int.reduceNeg, Int.reduceToNat, Int.reduceAdd, Int.reduceMul, Int.reduceSub, decide_eq_true_eq]
    generalize S' ++ [O.lst (A.map Wo.w)] = S1 at *
    generalize S'.length = q at *
    refine wo_ex (seqLen_l e1) ?_
    rw [List.length_map]
    refine wp_loopN A.length (fun k s S2 => ∃ x4 x5, s = [some (.loc p), some x.w, some y.w, some (.loc q), x4, x5] ∧ Xt [] S1 S2 ∧ ∀ w ∈ A.take k, ¬ ∀ e ∈ A, und w e = true) (by omega) ⟨_, _, rfl, .refl, fun w h => by simp at h⟩ ?_ ?_
    · rintro k s S2 hk ⟨x4, x5, rfl, X2, hno⟩
      have gk : A[k]? = some A[k] := List.getElem?_eq_getElem hk
      have mk := List.getElem_mem hk
      have e7 : A.take (k + 1) = A.take k ++ [A[k]] := by rw [List.take_succ, gk]; rfl
      rw [e7]
      generalize A[k] = w at *
      refine ⟨w.w, _, by rw [seqIt_l (X2.get0 e1), List.getElem?_map, gk]; rfl, rfl, ?_⟩
      simp (maxSteps := 500000) (implicitDefEqProofs := false) (disch := omega) only [↓Ev.wq_aCons, ↓Ev.wq_aNil, ↓Ev.wq_and, ↓Ev.wq_bind, ↓Ev.wq_c, ↓Ev.wq_dnew, ↓Ev.wq_e1, ↓Ev.wq_e2, ↓Ev.wq_eIf, ↓Ev.wq_eL, ↓Ev.wq_eM, ↓Ev.wq_eSl, ↓Ev.wq_in, ↓Ev.wq_ite, ↓Ev.wq_ixR, ↓Ev.wq_ixS, ↓Ev.wq_ixT, ↓Ev.wq_lc, ↓Ev.wq_lst, ↓Ev.wq_no, ↓Ev.wq_not, ↓Ev.wq_oNone, ↓Ev.wq_oSome, ↓Ev.wq_ok, ↓Ev.wq_or, ↓Ev.wq_rng1, ↓Ev.wq_rng2, ↓Ev.wq_run, ↓Ev.wq_seq, ↓Ev.wq_test, ↓Ev.wq_tru, ↓Ev.wq_tup, ↓Ev.wq_vAnd, ↓Ev.wq_vNot, ↓Ev.wq_vOr, ↓Ev.wq_var0, ↓Ev.wq_varS, ↓Ev.wq_yes, ↓Ev.wq_zip, ↓Ev.ws_asg, ↓Ev.ws_brk, ↓Ev.ws_cnt, ↓Ev.ws_expr, ↓Ev.ws_for, ↓Ev.ws_if, ↓Ev.ws_in, ↓Ev.ws_kn, ↓Ev.ws_nil, ↓Ev.ws_nx, ↓Ev.ws_put, ↓Ev.ws_ret, ↓Ev.ws_retN, ↓Ev.ws_rt, ↓Ev.ws_seq, ↓Ev.ws_while, ↓Ev.ws_set, ↓Ev.wo_some, ↓Ev.onB_b, ↓Ev.onI_i, ↓Ev.Kn_rt, ↓Ev.Kn_bk, ↓Ev.Kn_ct, ↓Ev.onRet_nx, ↓Ev.onRet_rt, ↓Ev.onNx_nx, ↓Ev.onNx_ct, ↓Ev.onNx_bk, ↓Ev.onNx_rt, List.map_cons, List.map_nil, List.length_cons, List.length_nil, List.replicate, List.cons_append, List.nil_append, Nat.reduceAdd, Nat.reduceSub, List.set_cons_zero, List.set_cons_succ, if_true, if_false, true_and, and_true, Bool.false_eq_true, Bool.not_true, Bool.not_false, ↓reduceIte, Ev.ifF, Nat.zero_add, Ev.startE, Ev.wipeE, Ev.put_nm, Ev.put_tp, Ev.puts_nil, Ev.puts_cons, Option.bind_some, Ev.seqLen_t, Ev.seqLen_r, Ev.addW_ii, Ev.addW_tt, Ev.subW_ii, Ev.mulW_ii, Ev.modW_ii, Ev.fdivW_ii, Ev.powW_ii, Ev.negW_i, Ev.cmpI_ii, Ev.isW_n, Ev.isnW_n, Ev.isNon_n, Ev.isNon_b, Ev.isNon_i, Ev.isNon_s, Ev.isNon_t, Ev.isNon_l, Ev.max2W_ii, Ev.min2W_ii, Ev.intW_i, Ev.intW_b, Ev.lenW_t, Ev.lenW_r, Ev.listW_t, Ev.tupleW_t, Ev.truW_b, Ev.truW_n, Ev.truW_i, Ev.truW_t, Ev.eqW_ii, Ev.neW_ii, Ev.eqW_ss, Ev.neW_ss, Ev.eqW_bb, Ev.ixN_0, Ev.ixN_1, Ev.ixN_2, Ev.ixN_3, Ev.isi_bb, Ev.isi_bs, Ev.isi_bi, Ev.isi_bt, Ev.isi_bl, Ev.isi_ib, Ev.isi_is, Ev.isi_ii, Ev.isi_it, Ev.isi_il, Ev.isi_sb, Ev.isi_ss, Ev.isi_si, Ev.isi_st, Ev.isi_sl, Ev.isi_tb, Ev.isi_ts, Ev.isi_ti, Ev.isi_tt, Ev.isi_tl, Ev.isi_nb, Ev.isi_ns, Ev.isi_ni, Ev.isi_nt, Ev.isi_nl, Ev.atI_0, Ev.atI_1, Ev.atI_2, Ev.atI_3, Ev.atI_4, Ev.tyOk_s, Ev.slW_to, Ev.slW_from, Ev.addW_SS, Int.toNat_natCast, Option.some.injEq, List.set_set, Option.map_some, W.int.injEq, W.str.injEq, W.loc.injEq, Nat.reduceLeDiff, and_self, Int.reduceLT, Int.reduceLE, Int.reduceNeg, Int.reduceToNat, Int.reduceAdd, Int.reduceMul, Int.reduceSub, decide_eq_true_eq]
      refine wo_ex (seqLen_l (X2.get0 e1)) ?_
      rw [List.length_map]
      refine wp_lclN A.length (fun j acc S3 => S3 = S2 ∧ acc = ((A.take j).map (und w)).map W.bl) (by omega) ⟨rfl, rfl⟩ ?_ ?_
      · rintro j acc S3 hj ⟨rfl, rfl⟩
        have gj : A[j]? = some A[j] := List.getElem?_eq_getElem hj
        have mj := List.getElem_mem hj
        have e8 : A.take (j + 1) = A.take j ++ [A[j]] := by rw [List.take_succ, gj]; rfl
        rw [e8]
        generalize A[j] = u at *
        refine ⟨u.w, _, by rw [seqIt_l (X2.get0 e1), List.getElem?_map, gj]; rfl, rfl, ?_⟩
        simp (maxSteps := 500000) (implicitDefEqProofs := false) (disch := omega) only [↓Ev.wq_aCons, ↓Ev.wq_aNil, ↓Ev.wq_and, ↓Ev.wq_bind, ↓Ev.wq_c, ↓Ev.wq_dnew, ↓Ev.wq_e1, ↓Ev.wq_e2, ↓Ev.wq_eIf, ↓Ev.wq_eL, ↓Ev.wq_eM, ↓Ev.wq_eSl, ↓Ev.wq_in, ↓Ev.wq_ite, ↓Ev.wq_ixR, ↓Ev.wq_ixS, ↓Ev.wq_ixT, ↓Ev.wq_lc, ↓Ev.wq_lst, ↓Ev.wq_no, ↓Ev.wq_not, ↓Ev.wq_oNone, ↓Ev.wq_oSome, ↓Ev.wq_ok, ↓Ev.wq_or, ↓Ev.wq_rng1, ↓Ev.wq_rng2, ↓Ev.wq_run, ↓Ev.wq_seq, ↓Ev.wq_test, ↓Ev.wq_tru, ↓Ev.wq_tup, ↓Ev.wq_vAnd, ↓Ev.wq_vNot, ↓Ev.wq_vOr, ↓Ev.wq_var0, ↓Ev.wq_varS, ↓Ev.wq_yes, ↓Ev.wq_zip, ↓Ev.ws_asg, ↓Ev.ws_brk, ↓Ev.ws_cnt, ↓Ev.ws_expr, ↓Ev.ws_for, ↓Ev.ws_if, ↓Ev.ws_in, ↓Ev.ws_kn, ↓Ev.ws_nil, ↓Ev.ws_nx, ↓Ev.ws_put, ↓Ev.ws_ret, ↓Ev.ws_retN, ↓Ev.ws_rt, ↓Ev.ws_seq, ↓Ev.ws_while, ↓Ev.ws_set, ↓Ev.wo_some, ↓Ev.onB_b, ↓Ev.onI_i, ↓Ev.Kn_rt, ↓Ev.Kn_bk, ↓Ev.Kn_ct, ↓Ev.onRet_nx, ↓Ev.onRet_rt, ↓Ev.onNx_nx, ↓Ev.onNx_ct, ↓Ev.onNx_bk, ↓Ev.onNx_rt, List.map_cons, List.map_nil, List.length_cons, List.length_nil, List.replicate, List.cons_append, List.nil_append, Nat.reduceAdd, Nat.reduceSub, List.set_cons_zero, List.set_cons_succ, if_true, if_false, true_and, and_true, Bool.false_eq_true, Bool.not_true, Bool.not_false, ↓reduceIte, Ev.ifF, Nat.zero_add, Ev.startE, Ev.wipeE, Ev.put_nm, Ev.put_tp, Ev.puts_nil, Ev.puts_cons, Option.bind_some, Ev.seqLen_t, Ev.seqLen_r, Ev.addW_ii, Ev.addW_tt, Ev.subW_ii, Ev.mulW_ii, Ev.modW_ii, Ev.fdivW_ii, Ev.powW_ii, Ev.negW_i, Ev.cmpI_ii, Ev.isW_n, Ev.isnW_n, Ev.isNon_n, Ev.isNon_b, Ev.isNon_i, Ev.isNon_s, Ev.isNon_t, Ev.isNon_l, Ev.max2W_ii, Ev.min2W_ii, Ev.intW_i, Ev.intW_b, Ev.lenW_t, Ev.lenW_r, Ev.listW_t, Ev.tupleW_t, Ev.truW_b, Ev.truW_n, Ev.truW_i, Ev.truW_t, Ev.eqW_ii, Ev.neW_ii, Ev.eqW_ss, Ev.neW_ss, Ev.eqW_bb, Ev.ixN_0, Ev.ixN_1, Ev.ixN_2, Ev.ixN_3, Ev.isi_bb, Ev.isi_bs, Ev.isi_bi, Ev.isi_bt, Ev.isi_bl, Ev.isi_ib, Ev.isi_is, Ev.isi_ii, Ev.isi_it, Ev.isi_il, Ev.isi_sb, Ev.isi_ss, Ev.isi_si, Ev.isi_st, Ev.isi_sl, Ev.isi_tb, Ev.isi_ts, Ev.isi_ti, Ev.isi_tt, Ev.isi_tl, Ev.isi_nb, Ev.isi_ns, Ev.isi_ni, Ev.isi_nt, Ev.isi_nl, Ev.atI_0, Ev.atI_1, Ev.atI_2, Ev.atI_3, Ev.atI_4, Ev.tyOk_s, Ev.slW_to, Ev.slW_from, Ev.addW_SS, Int.toNat_natCast, Option.some.injEq, List.set_set, Option.map_some, W.int.injEq, W.str.injEq, W.loc.injEq, Nat.reduceLeDiff, and_self, Int.reduceLT, Int.reduceLE, Int.reduceNeg, Int.reduceToNat, Int.reduceAdd, Int.reduceMul, Int.reduceSub, decide_eq_true_eq]
        refine wpR_mono (f_law_under_ok w u (by have := fw w mk; omega) (fw w mk) (fw u mj)) ?_
        rintro v S4 ⟨rfl, rfl⟩
        try simp (maxSteps := 500000) (implicitDefEqProofs := false) (disch := omega) only [↓Ev.wq_aCons, ↓Ev.wq_aNil, ↓Ev.wq_and, ↓Ev.wq_bind, ↓Ev.wq_c, ↓Ev.wq_dnew, ↓Ev.wq_e1, ↓Ev.wq_e2, ↓Ev.wq_eIf, ↓Ev.wq_eL, ↓Ev.wq_eM, ↓Ev.wq_eSl, ↓Ev.wq_in, ↓Ev.wq_ite, ↓Ev.wq_ixR, ↓Ev.wq_ixS, ↓Ev.wq_ixT, ↓Ev.wq_lc, ↓Ev.wq_lst, ↓Ev.wq_no, ↓Ev.wq_not, ↓Ev.wq_oNone, ↓Ev.wq_oSome, ↓Ev.wq_ok, ↓Ev.wq_or, ↓Ev.wq_rng1, ↓Ev.wq_rng2, ↓Ev.wq_run, ↓Ev.wq_seq, ↓Ev.wq_test, ↓Ev.wq_tru, ↓Ev.wq_tup, ↓Ev.wq_vAnd, ↓Ev.wq_vNot, ↓Ev.wq_vOr, ↓Ev.wq_var0, ↓Ev.wq_varS, ↓Ev.wq_yes, ↓Ev.wq_zip, ↓Ev.ws_asg, ↓Ev.ws_brk, ↓Ev.ws_cnt, ↓Ev.ws_expr, ↓Ev.ws_for, ↓Ev.ws_if, ↓Ev.ws_in, ↓Ev.ws_kn, ↓Ev.ws_nil, ↓Ev.ws_nx, ↓Ev.ws_put, ↓Ev.ws_ret, ↓Ev.ws_retN, ↓Ev.ws_rt, ↓Ev.ws_seq, ↓Ev.ws_while, ↓Ev.ws_set, ↓Ev.wo_some, ↓Ev.onB_b, ↓Ev.onI_i, ↓Ev.Kn_rt, ↓Ev.Kn_bk, ↓Ev.Kn_ct, ↓Ev.onRet_nx, ↓Ev.onRet_rt, ↓Ev.onNx_nx, ↓Ev.onNx_ct, ↓Ev.onNx_bk, ↓Ev.onNx_rt, List.map_cons, List.map_nil, List.length_cons, List.length_nil, List.replicate, List.cons_append, List.nil_append, Nat.reduceAdd, Nat.reduceSub, List.set_cons_zero, List.set_cons_succ, if_true, if_false, true_and, and_true, Bool.false_eq_true, Bool.not_true, Bool.not_false, ↓reduceIte, Ev.ifF, Nat.zero_add, Ev.startE, Ev.wipeE, Ev.put_nm, Ev.put_tp, Ev.puts_nil, Ev.puts_cons, Option.bind_some, Ev.seqLen_t, Ev.seqLen_r, Ev.addW_ii, Ev.addW_tt, Ev.subW_ii, Ev.mulW_ii, Ev.modW_ii, Ev.fdivW_ii, Ev.powW_ii, Ev.negW_i, Ev.cmpI_ii, Ev.isW_n, Ev.isnW_n, Ev.isNon_n, Ev.isNon_b, Ev.isNon_i, Ev.isNon_s, Ev.isNon_t, Ev.isNon_l, Ev.max2W_ii, Ev.min2W_ii, Ev.intW_i, Ev.intW_b, Ev.lenW_t, Ev.lenW_r, Ev.listW_t, Ev.tupleW_t, Ev.truW_b, Ev.truW_n, Ev.truW_i, Ev.truW_t, Ev.eqW_ii, Ev.neW_ii, Ev.eqW_ss, Ev.neW_ss, Ev.eqW_bb, Ev.ixN_0, Ev.ixN_1, Ev.ixN_2, Ev.ixN_3, Ev.isi_bb, Ev.isi_bs, Ev.isi_bi, Ev.isi_bt, Ev.isi_bl, Ev.isi_ib, Ev.isi_is, Ev.isi_ii, Ev.isi_it, Ev.isi_il, Ev.isi_sb, Ev.isi_ss, Ev.isi_si, Ev.isi_st, Ev.isi_sl, Ev.isi_tb, Ev.isi_ts, Ev.isi_ti, Ev.isi_tt, Ev.isi_tl, Ev.isi_nb, Ev.isi_ns, Ev.isi_ni, Ev.isi_nt, Ev.isi_nl, Ev.atI_0, Ev.atI_1, Ev.atI_2, Ev.atI_3, Ev.atI_4, Ev.tyOk_s, Ev.slW_to, Ev.slW_from, Ev.addW_SS, Int.toNat_natCast, Option.some.injEq, List.set_set, Option.map_some, W.int.injEq, W.str.injEq, W.loc.injEq, Nat.reduceLeDiff, and_self, Int.reduceLT, Int.reduceLE, Int.reduceNeg, Int.reduceToNat, Int.reduceAdd, Int.reduceMul, Int.reduceSub, decide_eq_true_eq]
        refine ⟨by rw [List.length_map, List.length_map, List.length_take]; omega, ?_⟩
        rw [List.map_append, List.map_append]; rfl
      · rintro acc S3 ⟨rfl, rfl⟩
        refine ⟨by rw [seqIt_l (X2.get0 e1), List.getElem?_eq_none (by rw [List.length_map]; exact Nat.le_refl _)], ?_⟩
        rw [List.take_length]
        try simp (maxSteps := 500000) (implicitDefEqProofs := false) (disch := omega) only [↓Ev.wq_aCons, ↓Ev.wq_aNil, ↓Ev.wq_and, ↓Ev.wq_bind, ↓Ev.wq_c, ↓Ev.wq_dnew, ↓Ev.wq_e1, ↓Ev.wq_e2, ↓Ev.wq_eIf, ↓Ev.wq_eL, ↓Ev.wq_eM, ↓Ev.wq_eSl, ↓Ev.wq_in, ↓Ev.wq_ite, ↓Ev.wq_ixR, ↓Ev.wq_ixS, ↓Ev.wq_ixT, ↓Ev.wq_lc, ↓Ev.wq_lst, ↓Ev.wq_no, ↓Ev.wq_not, ↓Ev.wq_oNone, ↓Ev.wq_oSome, ↓Ev.wq_ok, ↓Ev.wq_or, ↓Ev.wq_rng1, ↓Ev.wq_rng2, ↓Ev.wq_run, ↓Ev.wq_seq, ↓Ev.wq_test, ↓Ev.wq_tru, ↓Ev.wq_tup, ↓Ev.wq_vAnd, ↓Ev.wq_vNot, ↓Ev.wq_vOr, ↓Ev.wq_var0, ↓Ev.wq_varS, ↓Ev.wq_yes, ↓Ev.wq_zip, ↓Ev.ws_asg, ↓Ev.ws_brk, ↓Ev.ws_cnt, ↓Ev.ws_expr, ↓Ev.ws_for, ↓Ev.ws_if, ↓Ev.ws_in, ↓Ev.ws_kn, ↓Ev.ws_nil, ↓Ev.ws_nx, ↓Ev.ws_put, ↓Ev.ws_ret, ↓Ev.ws_retN, ↓Ev.ws_rt, ↓Ev.ws_seq, ↓Ev.ws_while, ↓Ev.ws_set, ↓Ev.wo_some, ↓Ev.onB_b, ↓Ev.onI_i, ↓Ev.Kn_rt, ↓Ev.Kn_bk, ↓Ev.Kn_ct, ↓Ev.onRet_nx, ↓Ev.onRet_rt, ↓Ev.onNx_nx, ↓Ev.onNx_ct, ↓Ev.onNx_bk, ↓Ev.onNx_rt, List.map_cons, List.map_nil, List.length_cons, List.length_nil, List.replicate, List.cons_append, List.nil_append, Nat.reduceAdd, Nat.reduceSub, List.set_cons_zero, List.set_cons_succ, if_true, if_false, true_and, and_true, Bool.false_eq_true, Bool.not_true, Bool.not_false, ↓reduceIte, Ev.ifF, Nat.zero_add, Ev.startE, Ev.wipeE, Ev.put_nm, Ev.put_tp, Ev.puts_nil, Ev.puts_cons, Option.bind_some, Ev.seqLen_t, Ev.seqLen_r, Ev.addW_ii, Ev.addW_tt, Ev.subW_ii, Ev.mulW_ii, Ev.modW_ii, Ev.fdivW_ii, Ev.powW_ii, Ev.negW_i, Ev.cmpI_ii, Ev.isW_n, Ev.isnW_n, Ev.isNon_n, Ev.isNon_b, Ev.isNon_i, Ev.isNon_s, Ev.isNon_t, Ev.isNon_l, Ev.max2W_ii, Ev.min2W_ii, Ev.intW_i, Ev.intW_b, Ev.lenW_t, Ev.lenW_r, Ev.listW_t, Ev.tupleW_t, Ev.truW_b, Ev.truW_n, Ev.truW_i, Ev.truW_t, Ev.eqW_ii, Ev.neW_ii, Ev.eqW_ss, Ev.neW_ss, Ev.eqW_bb, Ev.ixN_0, Ev.ixN_1, Ev.ixN_2, Ev.ixN_3, Ev.isi_bb, Ev.isi_bs, Ev.isi_bi, Ev.isi_bt, Ev.isi_bl, Ev.isi_ib, Ev.isi_is, Ev.isi_ii, Ev.isi_it, Ev.isi_il, Ev.isi_sb, Ev.isi_ss, Ev.isi_si, Ev.isi_st, Ev.isi_sl, Ev.isi_tb, Ev.isi_ts, Ev.isi_ti, Ev.isi_tt, Ev.isi_tl, Ev.isi_nb, Ev.isi_ns, Ev.isi_ni, Ev.isi_nt, Ev.isi_nl, Ev.atI_0, Ev.atI_1, Ev.atI_2, Ev.atI_3, Ev.atI_4, Ev.tyOk_s, Ev.slW_to, Ev.slW_from, Ev.addW_SS, Int.toNat_natCast, Option.some.injEq, List.set_set, Option.map_some, W.int.injEq, W.str.injEq, W.loc.injEq, Nat.reduceLeDiff, and_self, Int.reduceLT, Int.reduceLE, Int.reduceNeg, Int.reduceToNat, Int.reduceAdd, Int.reduceMul, Int.reduceSub, decide_eq_true_eq, allW_l at_new']
        by_cases hall : ((A.map (und w)).all id) = true
        · rw [if_pos hall]
          try simp (maxSteps := 500000) (implicitDefEqProofs := false) (disch := omega) only [↓Ev.wq_aCons, ↓Ev.wq_aNil, ↓Ev.wq_and, ↓Ev.wq_bind, ↓Ev.wq_c, ↓Ev.wq_dnew, ↓Ev.wq_e1, ↓Ev.wq_e2, ↓Ev.wq_eIf, ↓Ev.wq_eL, ↓Ev.wq_eM, ↓Ev.wq_eSl, ↓Ev.wq_in, ↓Ev.wq_ite, ↓Ev.wq_ixR, ↓Ev.wq_ixS, ↓Ev.wq_ixT, ↓Ev.wq_lc, ↓Ev.wq_lst, ↓Ev.wq_no, ↓Ev.wq_not, ↓Ev.wq_oNone, ↓Ev.wq_oSome, ↓Ev.wq_ok, ↓Ev.wq_or, ↓Ev.wq_rng1, ↓Ev.wq_rng2, ↓Ev.wq_run, ↓Ev.wq_seq, ↓Ev.wq_test, ↓Ev.wq_tru, ↓Ev.wq_tup, ↓Ev.wq_vAnd, ↓Ev.wq_vNot, ↓Ev.wq_vOr, ↓Ev.wq_var0, ↓Ev.wq_varS, ↓Ev.wq_yes, ↓Ev.wq_zip, ↓Ev.ws_asg, ↓Ev.ws_brk, ↓Ev.ws_cnt, ↓Ev.ws_expr, ↓Ev.ws_for, ↓Ev.ws_if, ↓Ev.ws_in, ↓Ev.ws_kn, ↓Ev.ws_nil, ↓Ev.ws_nx, ↓Ev.ws_put, ↓Ev.ws_ret, ↓Ev.ws_retN, ↓Ev.ws_rt, ↓Ev.ws_seq, ↓Ev.ws_while, ↓Ev.ws_set, ↓Ev.wo_some, ↓Ev.onB_b, ↓Ev.onI_i, ↓Ev.Kn_rt, ↓Ev.Kn_bk, ↓Ev.Kn_ct, ↓Ev.onRet_nx, ↓Ev.onRet_rt, ↓Ev.onNx_nx, ↓Ev.onNx_ct, ↓Ev.onNx_bk, ↓Ev.onNx_rt, List.map_cons, List.map_nil, List.length_cons, List.length_nil, List.replicate, List.cons_append, List.nil_append, Nat.reduceAdd, Nat.reduceSub, List.set_cons_zero, List.set_cons_succ, if_true, if_false, true_and, and_true, Bool.false_eq_true, Bool.not_true, Bool.not_false, ↓reduceIte, Ev.ifF, Nat.zero_add, Ev.startE, Ev.wipeE, Ev.put_nm, Ev.put_tp, Ev.puts_nil, Ev.puts_cons, Option.bind_some, Ev.seqLen_t, Ev.seqLen_r, Ev.addW_ii, Ev.addW_tt, Ev.subW_ii, Ev.mulW_ii, Ev.modW_ii, Ev.fdivW_ii, Ev.powW_ii, Ev.negW_i, Ev.cmpI_ii, Ev.isW_n, Ev.isnW_n, Ev.isNon_n, Ev.isNon_b, Ev.isNon_i, Ev.isNon_s, Ev.isNon_t, Ev.isNon_l, Ev.max2W_ii, Ev.min2W_ii, Ev.intW_i, Ev.intW_b, Ev.lenW_t, Ev.lenW_r, Ev.listW_t, Ev.tupleW_t, Ev.truW_b, Ev.truW_n, Ev.truW_i, Ev.truW_t, Ev.eqW_ii, Ev.neW_ii, Ev.eqW_ss, Ev.neW_ss, Ev.eqW_bb, Ev.ixN_0, Ev.ixN_1, Ev.ixN_2, Ev.ixN_3, Ev.isi_bb, Ev.isi_bs, Ev.isi_bi, Ev.isi_bt, Ev.isi_bl, Ev.isi_ib, Ev.isi_is, Ev.isi_ii, Ev.isi_it, Ev.isi_il, Ev.isi_sb, Ev.isi_ss, Ev.isi_si, Ev.isi_st, Ev.isi_sl, Ev.isi_tb, Ev.isi_ts, Ev.isi_ti, Ev.isi_tt, Ev.isi_tl, Ev.isi_nb, Ev.isi_ns, Ev.isi_ni, Ev.isi_nt, Ev.isi_nl, Ev.atI_0, Ev.atI_1, Ev.atI_2, Ev.atI_3, Ev.atI_4, Ev.tyOk_s, Ev.slW_to, Ev.slW_from, Ev.addW_SS, Int.toNat_natCast, Option.some.injEq, List.set_set, Option.map_some, W.int.injEq, W.str.injEq, W.loc.injEq, Nat.reduceLeDiff, and_self, Int.reduceLT, Int.reduceLE, Int.reduceNeg, Int.reduceToNat, Int.reduceAdd, Int.reduceMul, Int.reduceSub, decide_eq_true_eq]
          refine h1 w _ mk (fun e he => ?_) ((X1.trans X2).appI)
          exact List.all_eq_true.mp hall _ (List.mem_map_of_mem he)
        · rw [if_neg hall]
          refine ⟨_, _, rfl, X2.appI, fun w' hw' => ?_⟩
          rcases List.mem_append.mp hw' with hw' | hw'
          · exact hno w' hw'
          · obtain rfl := List.mem_singleton.mp hw'
            intro hh
            refine hall (List.all_eq_true.mpr fun b hb => ?_)
            obtain ⟨e, he, rfl⟩ := List.mem_map.mp hb
            exact hh e he
    · rintro s S2 ⟨x4, x5, rfl, X2, hno⟩
      refine ⟨by rw [seqIt_l (X2.get0 e1), List.getElem?_eq_none (by rw [List.length_map]; exact Nat.le_refl _)], ?_⟩
      rw [List.take_length] at hno
      try simp (maxSteps := 500000) (implicitDefEqProofs := false) (disch := omega) only [↓Ev.wq_aCons, ↓Ev.wq_aNil, ↓Ev.wq_and, ↓Ev.wq_bind, ↓Ev.wq_c, ↓Ev.wq_dnew, ↓Ev.wq_e1, ↓Ev.wq_e2, ↓Ev.wq_eIf, ↓Ev.wq_eL, ↓Ev.wq_eM, ↓Ev.wq_eSl, ↓Ev.wq_in, ↓Ev.wq_ite, ↓Ev.wq_ixR, ↓Ev.wq_ixS, ↓Ev.wq_ixT, ↓Ev.wq_lc, ↓Ev.wq_lst, ↓Ev.wq_no, ↓Ev.wq_not, ↓Ev.wq_oNone, ↓Ev.wq_oSome, ↓Ev.wq_ok, ↓Ev.wq_or, ↓Ev.wq_rng1, ↓Ev.wq_rng2, ↓Ev.wq_run, ↓Ev.wq_seq, ↓Ev.wq_test, ↓Ev.wq_tru, ↓Ev.wq_tup, ↓Ev.wq_vAnd, ↓Ev.wq_vNot, ↓Ev.wq_vOr, ↓Ev.wq_var0, ↓Ev.wq_varS, ↓Ev.wq_yes, ↓Ev.wq_zip, ↓Ev.ws_asg, ↓Ev.ws_brk, ↓Ev.ws_cnt, ↓Ev.ws_expr, ↓Ev.ws_for, ↓Ev.ws_if, ↓Ev.ws_in, ↓Ev.ws_kn, ↓Ev.ws_nil, ↓Ev.ws_nx, ↓Ev.ws_put, ↓Ev.ws_ret, ↓Ev.ws_retN, ↓Ev.ws_rt, ↓Ev.ws_seq, ↓Ev.ws_while, ↓Ev.ws_set, ↓Ev.wo_some, ↓Ev.onB_b, ↓Ev.onI_i, ↓Ev.Kn_rt, ↓Ev.Kn_bk, ↓Ev.Kn_ct, ↓Ev.onRet_nx, ↓Ev.onRet_rt, ↓Ev.onNx_nx, ↓Ev.onNx_ct, ↓Ev.onNx_bk, ↓Ev.onNx_rt, List.map_cons, List.map_nil, List.length_cons, List.length_nil, List.replicate, List.cons_append, List.nil_append, Nat.reduceAdd, Nat.reduceSub, List.set_cons_zero, List.set_cons_succ, if_true, if_false, true_and, and_true, Bool.false_eq_true, Bool.not_true, Bool.not_false, ↓reduceIte, Ev.ifF, Nat.zero_add, Ev.startE, Ev.wipeE, Ev.put_nm, Ev.put_tp, Ev.puts_nil, Ev.puts_cons, Option.bind_some, Ev.seqLen_t, Ev.seqLen_r, Ev.addW_ii, Ev.addW_tt, Ev.subW_ii, Ev.mulW_ii, Ev.modW_ii, Ev.fdivW_ii, Ev.powW_ii, Ev.negW_i, Ev.cmpI_ii, Ev.isW_n, Ev.isnW_n, Ev.isNon_n, Ev.isNon_b, Ev.isNon_i, Ev.isNon_s, Ev.isNon_t, Ev.isNon_l, Ev.max2W_ii, Ev.min2W_ii, Ev.intW_i, Ev.intW_b, Ev.lenW_t, Ev.lenW_r, Ev.listW_t, Ev.tupleW_t, Ev.truW_b, Ev.truW_n, Ev.truW_i, Ev.truW_t, Ev.eqW_ii, Ev.neW_ii, Ev.eqW_ss, Ev.neW_ss, Ev.eqW_bb, Ev.ixN_0, Ev.ixN_1, Ev.ixN_2, Ev.ixN_3, Ev.isi_bb, Ev.isi_bs, Ev.isi_bi, Ev.isi_bt, Ev.isi_bl, Ev.isi_ib, Ev.isi_is, Ev.isi_ii, Ev.isi_it, Ev.isi_il, Ev.isi_sb, Ev.isi_ss, Ev.isi_si, Ev.isi_st, Ev.isi_sl, Ev.isi_tb, Ev.isi_ts, Ev.isi_ti, Ev.isi_tt, Ev.isi_tl, Ev.isi_nb, Ev.isi_ns, Ev.isi_ni, Ev.isi_nt, Ev.isi_nl, Ev.atI_0, Ev.atI_1, Ev.atI_2, Ev.atI_3, Ev.atI_4, Ev.tyOk_s, Ev.slW_to, Ev.slW_from, Ev.addW_SS, Int.toNat_natCast, Option.some.injEq, List.set_set, Option.map_some, W.int.injEq, W.str.injEq, W.loc.injEq, Nat.reduceLeDiff, and_self, Int.reduceLT, Int.reduceLE, Int.reduceNeg, Int.reduceToNat, Int.reduceAdd, Int.reduceMul, Int.reduceSub, decide_eq_true_eq]
      exact h2 _ hno (X1.trans X2)
def dueW (o : Option Wo) : W := match o with
  | some j => .tup [.bl true, j.w]
  | none => .tup [.bl false, .non]
/-- the least above is the joined -/
theorem least_jn {n p d : Nat} {ks : List Kd} {nm : List Nat} {x y : Wo} {S : Sto} {Q : W → Sto → Prop} (hn : 52 ≤ n) (hp : S[p]? = some (.lst ((woL ks d nm).map Wo.w))) (hl : (woL ks d nm).length ≤ 1000) (hd : d ≤ 40) (hx : x ∈ woL ks d nm) (hy : y ∈ woL ks d nm)
    (h : ∀ S', Xt [] S S' → Q (dueW (jn x y)) S') : wpR (call n .f_law_least_above [.loc p, x.w, y.w] S) Q := by
  have dpb : ∀ w ∈ woL ks d nm, w.dp ≤ 50 := fun w hw => by have := woL_dp ks d nm w hw; omega
  refine least_ok hn hp hl dpb (dpb x hx) (dpb y hy) (fun w S' hw hle X => ?_) fun S' hno X => ?_
  · obtain ⟨hm, hu⟩ := List.mem_filter.mp hw
    rw [Bool.and_eq_true] at hu
    obtain ⟨j, ej, hj⟩ := jn_least x y w hu.1 hu.2
    have uj := jn_up x y j ej
    have mj := jn_mem x y j d nm hx hy ej
    have : w = j := und_anti _ _ (hle j (List.mem_filter.mpr ⟨mj, by rw [uj.1, uj.2]; rfl⟩)) hj
    subst this
    have := h S' X
    rw [ej] at this
    exact this
  · cases ej : jn x y with
    | none =>
      have := h S' X
      rw [ej] at this
      exact this
    | some j =>
      exfalso
      have uj := jn_up x y j ej
      have mj := jn_mem x y j d nm hx hy ej
      refine hno j (List.mem_filter.mpr ⟨mj, by rw [uj.1, uj.2]; rfl⟩) fun e he => ?_
      obtain ⟨_, hu⟩ := List.mem_filter.mp he
      rw [Bool.and_eq_true] at hu
      obtain ⟨j', ej', hj'⟩ := jn_least x y e hu.1 hu.2
      rw [ej] at ej'
      cases ej'
      exact hj'
end Lw

set_option linter.all false
set_option maxRecDepth 100000
namespace Lw
open PySem L2 Ev
theorem jright_ok {n : Nat} {x y : Wo} {S : Sto} {Q : W → Sto → Prop} (hn : 60 ≤ n) (hx : x.dp ≤ 50) (hy : y.dp ≤ 50) (hjd : ∀ j, jn x y = some j → j.dp ≤ 50) (h : ∀ S', Xt [] S S' → Q (.bl true) S') : wpR (call n .f_law_joined_right [x.w, y.w, dueW (jn x y)] S) Q := by
  obtain ⟨n, rfl⟩ : ∃ m, n = m + 1 := ⟨n - 1, by omega⟩
  rw [call_s, body]
  simp (maxSteps := 500000) (implicitDefEqProofs := false) (disch := omega) only [↓Ev.wq_aCons, ↓Ev.wq_aNil, ↓Ev.wq_and, ↓Ev.wq_bind, ↓Ev.wq_c, ↓Ev.wq_dnew, ↓Ev.wq_e1, ↓Ev.wq_e2, ↓Ev.wq_eIf, ↓Ev.wq_eL, ↓Ev.wq_eM, ↓Ev.wq_eSl, ↓Ev.wq_in, ↓Ev.wq_ite, ↓Ev.wq_ixR, ↓Ev.wq_ixS, ↓Ev.wq_ixT, ↓Ev.wq_lc, ↓Ev.wq_lst, ↓Ev.wq_no, ↓Ev.wq_not, ↓Ev.wq_oNone, ↓Ev.wq_oSome, ↓Ev.wq_ok, ↓Ev.wq_or, ↓Ev.wq_rng1, ↓Ev.wq_rng2, ↓Ev.wq_run, ↓Ev.wq_seq, ↓Ev.wq_test, ↓Ev.wq_tru, ↓Ev.wq_tup, ↓Ev.wq_vAnd, ↓Ev.wq_vNot, ↓Ev.wq_vOr, ↓Ev.wq_var0, ↓Ev.wq_varS, ↓Ev.wq_yes, ↓Ev.wq_zip, ↓Ev.ws_asg, ↓Ev.ws_brk, ↓Ev.ws_cnt, ↓Ev.ws_expr, ↓Ev.ws_for, ↓Ev.ws_if, ↓Ev.ws_in, ↓Ev.ws_kn, ↓Ev.ws_nil, ↓Ev.ws_nx, ↓Ev.ws_put, ↓Ev.ws_ret, ↓Ev.ws_retN, ↓Ev.ws_rt, ↓Ev.ws_seq, ↓Ev.ws_while, ↓Ev.ws_set, ↓Ev.wo_some, ↓Ev.onB_b, ↓Ev.onI_i, ↓Ev.Kn_rt, ↓Ev.Kn_bk, ↓Ev.Kn_ct, ↓Ev.onRet_nx, ↓Ev.onRet_rt, ↓Ev.onNx_nx, ↓Ev.onNx_ct, ↓Ev.onNx_bk, ↓Ev.onNx_rt, List.map_cons, List.map_nil, List.length_cons, List.length_nil, List.replicate, List.cons_append, List.nil_append, Nat.reduceAdd, Nat.reduceSub, List.set_cons_zero, List.set_cons_succ, if_true, if_false, true_and, and_true, Bool.false_eq_true, Bool.not_true, Bool.not_false, ↓reduceIte, Ev.ifF, Nat.zero_add, Ev.startE, Ev.wipeE, Ev.put_nm, Ev.put_tp, Ev.puts_nil, Ev.puts_cons, Option.bind_some, Ev.seqLen_t, Ev.seqLen_r, Ev.addW_ii, Ev.addW_tt, Ev.subW_ii, Ev.mulW_ii, Ev.modW_ii, Ev.fdivW_ii, Ev.powW_ii, Ev.negW_i, Ev.cmpI_ii, Ev.isW_n, Ev.isnW_n, Ev.isNon_n, Ev.isNon_b, Ev.isNon_i, Ev.isNon_s, Ev.isNon_t, Ev.isNon_l, Ev.max2W_ii, Ev.min2W_ii, Ev.intW_i, Ev.intW_b, Ev.lenW_t, Ev.lenW_r, Ev.listW_t, Ev.tupleW_t, Ev.truW_b, Ev.truW_n, Ev.truW_i, Ev.truW_t, Ev.eqW_ii, Ev.neW_ii, Ev.eqW_ss, Ev.neW_ss, Ev.eqW_bb, Ev.ixN_0, Ev.ixN_1, Ev.ixN_2, Ev.ixN_3, Ev.isi_bb, Ev.isi_bs, Ev.isi_bi, Ev.isi_bt, Ev.isi_bl, Ev.isi_ib, Ev.isi_is, Ev.isi_ii, Ev.isi_it, Ev.isi_il, Ev.isi_sb, Ev.isi_ss, Ev.isi_si, Ev.isi_st, Ev.isi_sl, Ev.isi_tb, Ev.isi_ts, Ev.isi_ti, Ev.isi_tt, Ev.isi_tl, Ev.isi_nb, Ev.isi_ns, Ev.isi_ni, Ev.isi_nt, Ev.isi_nl, Ev.atI_0, Ev.atI_1, Ev.atI_2, Ev.atI_3, Ev.atI_4, Ev.tyOk_s, Ev.slW_to, Ev.slW_from, Ev.addW_SS, Int.toNat_natCast, Option.some.injEq, List.set_set, Option.map_some, W.int.injEq, W.str.injEq, W.loc.injEq, Nat.reduceLeDiff, and_self, Int.reduceLT, Int.reduceLE, Int.reduceNeg, Int.reduceToNat, Int.reduceAdd, Int.reduceMul, Int.reduceSub, decide_eq_true_eq, m_f_law_joined_right]
  have je := joined_eq x y n (S ++ [O.lst []]) (by omega) hx hy
  cases hj : jn x y with
  | some j =>
    rw [hj] at je
    have mbE : sSet 3 (eL (call n .f_joined) (aCons (eVar 0) (aCons (eVar 1) aNil))) [some x.w, some y.w, some (dueW (some j)), some .non, some (.loc S.length), none, none] (S ++ [O.lst []]) = .nx [some x.w, some y.w, some (dueW (some j)), some j.w, some (.loc S.length), none, none] (S ++ [O.lst []]) := by
      simp [sSet, eL, aCons, eVar, aNil, R.bind, R.toS, je]
    refine ws_try_nx mbE ?_
    try simp (maxSteps := 500000) (implicitDefEqProofs := false) (disch := omega) only [↓Ev.wq_aCons, ↓Ev.wq_aNil, ↓Ev.wq_and, ↓Ev.wq_bind, ↓Ev.wq_c, ↓Ev.wq_dnew, ↓Ev.wq_e1, ↓Ev.wq_e2, ↓Ev.wq_eIf, ↓Ev.wq_eL, ↓Ev.wq_eM, ↓Ev.wq_eSl, ↓Ev.wq_in, ↓Ev.wq_ite, ↓Ev.wq_ixR, ↓Ev.wq_ixS, ↓Ev.wq_ixT, ↓Ev.wq_lc, ↓Ev.wq_lst, ↓Ev.wq_no, ↓Ev.wq_not, ↓Ev.wq_oNone, ↓Ev.wq_oSome, ↓Ev.wq_ok, ↓Ev.wq_or, ↓Ev.wq_rng1, ↓Ev.wq_rng2, ↓Ev.wq_run, ↓Ev.wq_seq, ↓Ev.wq_test, ↓Ev.wq_tru, ↓Ev.wq_tup, ↓Ev.wq_vAnd, ↓Ev.wq_vNot, ↓Ev.wq_vOr, ↓Ev.wq_var0, ↓Ev.wq_varS, ↓Ev.wq_yes, ↓Ev.wq_zip, ↓Ev.ws_asg, ↓Ev.ws_brk, ↓Ev.ws_cnt, ↓Ev.ws_expr, ↓Ev.ws_for, ↓Ev.ws_if, ↓Ev.ws_in, ↓Ev.ws_kn, ↓Ev.ws_nil, ↓Ev.ws_nx, ↓Ev.ws_put, ↓Ev.ws_ret, ↓Ev.ws_retN, ↓Ev.ws_rt, ↓Ev.ws_seq, ↓Ev.ws_while, ↓Ev.ws_set, ↓Ev.wo_some, ↓Ev.onB_b, ↓Ev.onI_i, ↓Ev.Kn_rt, ↓Ev.Kn_bk, ↓Ev.Kn_ct, ↓Ev.onRet_nx, ↓Ev.onRet_rt, ↓Ev.onNx_nx, ↓Ev.onNx_ct, ↓Ev.onNx_bk, ↓Ev.onNx_rt, List.map_cons, List.map_nil, List.length_cons, List.length_nil, List.replicate, List.cons_append, List.nil_append, Nat.reduceAdd, Nat.reduceSub, List.set_cons_zero, List.set_cons_succ, if_true, if_false, true_and, and_true, Bool.false_eq_true, Bool.not_true, Bool.not_false, ↓reduceIte, Ev.ifF, Nat.zero_add, Ev.startE, Ev.wipeE, Ev.put_nm, Ev.put_tp, Ev.puts_nil, Ev.puts_cons, Option.bind_some, Ev.seqLen_t, Ev.seqLen_r, Ev.addW_ii, Ev.addW_tt, Ev.subW_ii, Ev.mulW_ii, Ev.modW_ii, Ev.fdivW_ii, Ev.powW_ii, Ev.negW_i, Ev.cmpI_ii, Ev.isW_n, Ev.isnW_n, Ev.isNon_n, Ev.isNon_b, Ev.isNon_i, Ev.isNon_s, Ev.isNon_t, Ev.isNon_l, Ev.max2W_ii, Ev.min2W_ii, Ev.intW_i, Ev.intW_b, Ev.lenW_t, Ev.lenW_r, Ev.listW_t, Ev.tupleW_t, Ev.truW_b, Ev.truW_n, Ev.truW_i, Ev.truW_t, Ev.eqW_ii, Ev.neW_ii, Ev.eqW_ss, Ev.neW_ss, Ev.eqW_bb, Ev.ixN_0, Ev.ixN_1, Ev.ixN_2, Ev.ixN_3, Ev.isi_bb, Ev.isi_bs, Ev.isi_bi, Ev.isi_bt, Ev.isi_bl, Ev.isi_ib, Ev.isi_is, Ev.isi_ii, Ev.isi_it, Ev.isi_il, Ev.isi_sb, Ev.isi_ss, Ev.isi_si, Ev.isi_st, Ev.isi_sl, Ev.isi_tb, Ev.isi_ts, Ev.isi_ti, Ev.isi_tt, Ev.isi_tl, Ev.isi_nb, Ev.isi_ns, Ev.isi_ni, Ev.isi_nt, Ev.isi_nl, Ev.atI_0, Ev.atI_1, Ev.atI_2, Ev.atI_3, Ev.atI_4, Ev.tyOk_s, Ev.slW_to, Ev.slW_from, Ev.addW_SS, Int.toNat_natCast, Option.some.injEq, List.set_set, Option.map_some, W.int.injEq, W.str.injEq, W.loc.injEq, Nat.reduceLeDiff, and_self, Int.reduceLT, Int.reduceLE, Int.reduceNeg, Int.reduceToNat, Int.reduceAdd, Int.reduceMul, Int.reduceSub, decide_eq_true_eq, dueW]
    have e1 : ((S ++ [O.lst []]) ++ [O.lst []])[S.length]? = some (.lst []) := at_app at_new'
    have e2 : ((S ++ [O.lst []]) ++ [O.lst []])[(S ++ [O.lst []]).length]? = some (.lst []) := at_new'
    try simp (maxSteps := 500000) (implicitDefEqProofs := false) (disch := omega) only [↓Ev.wq_aCons, ↓Ev.wq_aNil, ↓Ev.wq_and, ↓Ev.wq_bind, ↓Ev.wq_c, ↓Ev.wq_dnew, ↓Ev.wq_e1, ↓Ev.wq_e2, ↓Ev.wq_eIf, ↓Ev.wq_eL, ↓Ev.wq_eM, ↓Ev.wq_eSl, ↓Ev.wq_in, ↓Ev.wq_ite, ↓Ev.wq_ixR, ↓Ev.wq_ixS, ↓Ev.wq_ixT, ↓Ev.wq_lc, ↓Ev.wq_lst, ↓Ev.wq_no, ↓Ev.wq_not, ↓Ev.wq_oNone, ↓Ev.wq_oSome, ↓Ev.wq_ok, ↓Ev.wq_or, ↓Ev.wq_rng1, ↓Ev.wq_rng2, ↓Ev.wq_run, ↓Ev.wq_seq, ↓Ev.wq_test, ↓Ev.wq_tru, ↓Ev.wq_tup, ↓Ev.wq_vAnd, ↓Ev.wq_vNot, ↓Ev.wq_vOr, ↓Ev.wq_var0, ↓Ev.wq_varS, ↓Ev.wq_yes, ↓Ev.wq_zip, ↓Ev.ws_asg, ↓Ev.ws_brk, ↓Ev.ws_cnt, ↓Ev.ws_expr, ↓Ev.ws_for, ↓Ev.ws_if, ↓Ev.ws_in, ↓Ev.ws_kn, ↓Ev.ws_nil, ↓Ev.ws_nx, ↓Ev.ws_put, ↓Ev.ws_ret, ↓Ev.ws_retN, ↓Ev.ws_rt, ↓Ev.ws_seq, ↓Ev.ws_while, ↓Ev.ws_set, ↓Ev.wo_some, ↓Ev.onB_b, ↓Ev.onI_i, ↓Ev.Kn_rt, ↓Ev.Kn_bk, ↓Ev.Kn_ct, ↓Ev.onRet_nx, ↓Ev.onRet_rt, ↓Ev.onNx_nx, ↓Ev.onNx_ct, ↓Ev.onNx_bk, ↓Ev.onNx_rt, List.map_cons, List.map_nil, List.length_cons, List.length_nil, List.replicate, List.cons_append, List.nil_append, Nat.reduceAdd, Nat.reduceSub, List.set_cons_zero, List.set_cons_succ, if_true, if_false, true_and, and_true, Bool.false_eq_true, Bool.not_true, Bool.not_false, ↓reduceIte, Ev.ifF, Nat.zero_add, Ev.startE, Ev.wipeE, Ev.put_nm, Ev.put_tp, Ev.puts_nil, Ev.puts_cons, Option.bind_some, Ev.seqLen_t, Ev.seqLen_r, Ev.addW_ii, Ev.addW_tt, Ev.subW_ii, Ev.mulW_ii, Ev.modW_ii, Ev.fdivW_ii, Ev.powW_ii, Ev.negW_i, Ev.cmpI_ii, Ev.isW_n, Ev.isnW_n, Ev.isNon_n, Ev.isNon_b, Ev.isNon_i, Ev.isNon_s, Ev.isNon_t, Ev.isNon_l, Ev.max2W_ii, Ev.min2W_ii, Ev.intW_i, Ev.intW_b, Ev.lenW_t, Ev.lenW_r, Ev.listW_t, Ev.tupleW_t, Ev.truW_b, Ev.truW_n, Ev.truW_i, Ev.truW_t, Ev.eqW_ii, Ev.neW_ii, Ev.eqW_ss, Ev.neW_ss, Ev.eqW_bb, Ev.ixN_0, Ev.ixN_1, Ev.ixN_2, Ev.ixN_3, Ev.isi_bb, Ev.isi_bs, Ev.isi_bi, Ev.isi_bt, Ev.isi_bl, Ev.isi_ib, Ev.isi_is, Ev.isi_ii, Ev.isi_it, Ev.isi_il, Ev.isi_sb, Ev.isi_ss, Ev.isi_si, Ev.isi_st, Ev.isi_sl, Ev.isi_tb, Ev.isi_ts, Ev.isi_ti, Ev.isi_tt, Ev.isi_tl, Ev.isi_nb, Ev.isi_ns, Ev.isi_ni, Ev.isi_nt, Ev.isi_nl, Ev.atI_0, Ev.atI_1, Ev.atI_2, Ev.atI_3, Ev.atI_4, Ev.tyOk_s, Ev.slW_to, Ev.slW_from, Ev.addW_SS, Int.toNat_natCast, Option.some.injEq, List.set_set, Option.map_some, W.int.injEq, W.str.injEq, W.loc.injEq, Nat.reduceLeDiff, and_self, Int.reduceLT, Int.reduceLE, Int.reduceNeg, Int.reduceToNat, Int.reduceAdd, Int.reduceMul, Int.reduceSub, decide_eq_true_eq, eqW_nil e1 (ds := []) rfl e2, List.isEmpty_nil]
    have jd := (Wo.dat (S := (S ++ [O.lst []]) ++ [O.lst []]) j).up (show j.dp + 1 ≤ n by have := hjd j hj; omega)
    refine same_ok n jd jd fun S3 X3 => ?_
    try simp (maxSteps := 500000) (implicitDefEqProofs := false) (disch := omega) only [↓Ev.wq_aCons, ↓Ev.wq_aNil, ↓Ev.wq_and, ↓Ev.wq_bind, ↓Ev.wq_c, ↓Ev.wq_dnew, ↓Ev.wq_e1, ↓Ev.wq_e2, ↓Ev.wq_eIf, ↓Ev.wq_eL, ↓Ev.wq_eM, ↓Ev.wq_eSl, ↓Ev.wq_in, ↓Ev.wq_ite, ↓Ev.wq_ixR, ↓Ev.wq_ixS, ↓Ev.wq_ixT, ↓Ev.wq_lc, ↓Ev.wq_lst, ↓Ev.wq_no, ↓Ev.wq_not, ↓Ev.wq_oNone, ↓Ev.wq_oSome, ↓Ev.wq_ok, ↓Ev.wq_or, ↓Ev.wq_rng1, ↓Ev.wq_rng2, ↓Ev.wq_run, ↓Ev.wq_seq, ↓Ev.wq_test, ↓Ev.wq_tru, ↓Ev.wq_tup, ↓Ev.wq_vAnd, ↓Ev.wq_vNot, ↓Ev.wq_vOr, ↓Ev.wq_var0, ↓Ev.wq_varS, ↓Ev.wq_yes, ↓Ev.wq_zip, ↓Ev.ws_asg, ↓Ev.ws_brk, ↓Ev.ws_cnt, ↓Ev.ws_expr, ↓Ev.ws_for, ↓Ev.ws_if, ↓Ev.ws_in, ↓Ev.ws_kn, ↓Ev.ws_nil, ↓Ev.ws_nx, ↓Ev.ws_put, ↓Ev.ws_ret, ↓Ev.ws_retN, ↓Ev.ws_rt, ↓Ev.ws_seq, ↓Ev.ws_while, ↓Ev.ws_set, ↓Ev.wo_some, ↓Ev.onB_b, ↓Ev.onI_i, ↓Ev.Kn_rt, ↓Ev.Kn_bk, ↓Ev.Kn_ct, ↓Ev.onRet_nx, ↓Ev.onRet_rt, ↓Ev.onNx_nx, ↓Ev.onNx_ct, ↓Ev.onNx_bk, ↓Ev.onNx_rt, List.map_cons, List.map_nil, List.length_cons, List.length_nil, List.replicate, List.cons_append, List.nil_append, Nat.reduceAdd, Nat.reduceSub, List.set_cons_zero, List.set_cons_succ, if_true, if_false, true_and, and_true, Bool.false_eq_true, Bool.not_true, Bool.not_false, ↓reduceIte, Ev.ifF, Nat.zero_add, Ev.startE, Ev.wipeE, Ev.put_nm, Ev.put_tp, Ev.puts_nil, Ev.puts_cons, Option.bind_some, Ev.seqLen_t, Ev.seqLen_r, Ev.addW_ii, Ev.addW_tt, Ev.subW_ii, Ev.mulW_ii, Ev.modW_ii, Ev.fdivW_ii, Ev.powW_ii, Ev.negW_i, Ev.cmpI_ii, Ev.isW_n, Ev.isnW_n, Ev.isNon_n, Ev.isNon_b, Ev.isNon_i, Ev.isNon_s, Ev.isNon_t, Ev.isNon_l, Ev.max2W_ii, Ev.min2W_ii, Ev.intW_i, Ev.intW_b, Ev.lenW_t, Ev.lenW_r, Ev.listW_t, Ev.tupleW_t, Ev.truW_b, Ev.truW_n, Ev.truW_i, Ev.truW_t, Ev.eqW_ii, Ev.neW_ii, Ev.eqW_ss, Ev.neW_ss, Ev.eqW_bb, Ev.ixN_0, Ev.ixN_1, Ev.ixN_2, Ev.ixN_3, Ev.isi_bb, Ev.isi_bs, Ev.isi_bi, Ev.isi_bt, Ev.isi_bl, Ev.isi_ib, Ev.isi_is, Ev.isi_ii, Ev.isi_it, Ev.isi_il, Ev.isi_sb, Ev.isi_ss, Ev.isi_si, Ev.isi_st, Ev.isi_sl, Ev.isi_tb, Ev.isi_ts, Ev.isi_ti, Ev.isi_tt, Ev.isi_tl, Ev.isi_nb, Ev.isi_ns, Ev.isi_ni, Ev.isi_nt, Ev.isi_nl, Ev.atI_0, Ev.atI_1, Ev.atI_2, Ev.atI_3, Ev.atI_4, Ev.tyOk_s, Ev.slW_to, Ev.slW_from, Ev.addW_SS, Int.toNat_natCast, Option.some.injEq, List.set_set, Option.map_some, W.int.injEq, W.str.injEq, W.loc.injEq, Nat.reduceLeDiff, and_self, Int.reduceLT, Int.reduceLE, Int.reduceNeg, Int.reduceToNat, Int.reduceAdd, Int.reduceMul, Int.reduceSub, decide_eq_true_eq]
    exact h _ ((Xt.app.appI).trans X3)
  | none =>
    rw [hj] at je
    have mbE : sSet 3 (eL (call n .f_joined) (aCons (eVar 0) (aCons (eVar 1) aNil))) [some x.w, some y.w, some (dueW none), some .non, some (.loc S.length), none, none] (S ++ [O.lst []]) = .ex ⟨"NoWorth", []⟩ [some x.w, some y.w, some (dueW none), some .non, some (.loc S.length), none, none] (S ++ [O.lst []]) := by
      simp [sSet, eL, aCons, eVar, aNil, R.bind, R.toS, je]
    refine ws_try_ex mbE (by simp [exOne]) (by simp) ?_
    try simp (maxSteps := 500000) (implicitDefEqProofs := false) (disch := omega) only [↓Ev.wq_aCons, ↓Ev.wq_aNil, ↓Ev.wq_and, ↓Ev.wq_bind, ↓Ev.wq_c, ↓Ev.wq_dnew, ↓Ev.wq_e1, ↓Ev.wq_e2, ↓Ev.wq_eIf, ↓Ev.wq_eL, ↓Ev.wq_eM, ↓Ev.wq_eSl, ↓Ev.wq_in, ↓Ev.wq_ite, ↓Ev.wq_ixR, ↓Ev.wq_ixS, ↓Ev.wq_ixT, ↓Ev.wq_lc, ↓Ev.wq_lst, ↓Ev.wq_no, ↓Ev.wq_not, ↓Ev.wq_oNone, ↓Ev.wq_oSome, ↓Ev.wq_ok, ↓Ev.wq_or, ↓Ev.wq_rng1, ↓Ev.wq_rng2, ↓Ev.wq_run, ↓Ev.wq_seq, ↓Ev.wq_test, ↓Ev.wq_tru, ↓Ev.wq_tup, ↓Ev.wq_vAnd, ↓Ev.wq_vNot, ↓Ev.wq_vOr, ↓Ev.wq_var0, ↓Ev.wq_varS, ↓Ev.wq_yes, ↓Ev.wq_zip, ↓Ev.ws_asg, ↓Ev.ws_brk, ↓Ev.ws_cnt, ↓Ev.ws_expr, ↓Ev.ws_for, ↓Ev.ws_if, ↓Ev.ws_in, ↓Ev.ws_kn, ↓Ev.ws_nil, ↓Ev.ws_nx, ↓Ev.ws_put, ↓Ev.ws_ret, ↓Ev.ws_retN, ↓Ev.ws_rt, ↓Ev.ws_seq, ↓Ev.ws_while, ↓Ev.ws_set, ↓Ev.wo_some, ↓Ev.onB_b, ↓Ev.onI_i, ↓Ev.Kn_rt, ↓Ev.Kn_bk, ↓Ev.Kn_ct, ↓Ev.onRet_nx, ↓Ev.onRet_rt, ↓Ev.onNx_nx, ↓Ev.onNx_ct, ↓Ev.onNx_bk, ↓Ev.onNx_rt, List.map_cons, List.map_nil, List.length_cons, List.length_nil, List.replicate, List.cons_append, List.nil_append, Nat.reduceAdd, Nat.reduceSub, List.set_cons_zero, List.set_cons_succ, if_true, if_false, true_and, and_true, Bool.false_eq_true, Bool.not_true, Bool.not_false, ↓reduceIte, Ev.ifF, Nat.zero_add, Ev.startE, Ev.wipeE, Ev.put_nm, Ev.put_tp, Ev.puts_nil, Ev.puts_cons, Option.bind_some, Ev.seqLen_t, Ev.seqLen_r, Ev.addW_ii, Ev.addW_tt, Ev.subW_ii, Ev.mulW_ii, Ev.modW_ii, Ev.fdivW_ii, Ev.powW_ii, Ev.negW_i, Ev.cmpI_ii, Ev.isW_n, Ev.isnW_n, Ev.isNon_n, Ev.isNon_b, Ev.isNon_i, Ev.isNon_s, Ev.isNon_t, Ev.isNon_l, Ev.max2W_ii, Ev.min2W_ii, Ev.intW_i, Ev.intW_b, Ev.lenW_t, Ev.lenW_r, Ev.listW_t, Ev.tupleW_t, Ev.truW_b, Ev.truW_n, Ev.truW_i, Ev.truW_t, Ev.eqW_ii, Ev.neW_ii, Ev.eqW_ss, Ev.neW_ss, Ev.eqW_bb, Ev.ixN_0, Ev.ixN_1, Ev.ixN_2, Ev.ixN_3, Ev.isi_bb, Ev.isi_bs, Ev.isi_bi, Ev.isi_bt, Ev.isi_bl, Ev.isi_ib, Ev.isi_is, Ev.isi_ii, Ev.isi_it, Ev.isi_il, Ev.isi_sb, Ev.isi_ss, Ev.isi_si, Ev.isi_st, Ev.isi_sl, Ev.isi_tb, Ev.isi_ts, Ev.isi_ti, Ev.isi_tt, Ev.isi_tl, Ev.isi_nb, Ev.isi_ns, Ev.isi_ni, Ev.isi_nt, Ev.isi_nl, Ev.atI_0, Ev.atI_1, Ev.atI_2, Ev.atI_3, Ev.atI_4, Ev.tyOk_s, Ev.slW_to, Ev.slW_from, Ev.addW_SS, Int.toNat_natCast, Option.some.injEq, List.set_set, Option.map_some, W.int.injEq, W.str.injEq, W.loc.injEq, Nat.reduceLeDiff, and_self, Int.reduceLT, Int.reduceLE, Int.reduceNeg, Int.reduceToNat, Int.reduceAdd, Int.reduceMul, Int.reduceSub, decide_eq_true_eq]
    try simp (maxSteps := 500000) (implicitDefEqProofs := false) (disch := omega) only [↓Ev.wq_aCons, ↓Ev.wq_aNil, ↓Ev.wq_and, ↓Ev.wq_bind, ↓Ev.wq_c, ↓Ev.wq_dnew, ↓Ev.wq_e1, ↓Ev.wq_e2, ↓Ev.wq_eIf, ↓Ev.wq_eL, ↓Ev.wq_eM, ↓Ev.wq_eSl, ↓Ev.wq_in, ↓Ev.wq_ite, ↓Ev.wq_ixR, ↓Ev.wq_ixS, ↓Ev.wq_ixT, ↓Ev.wq_lc, ↓Ev.wq_lst, ↓Ev.wq_no, ↓Ev.wq_not, ↓Ev.wq_oNone, ↓Ev.wq_oSome, ↓Ev.wq_ok, ↓Ev.wq_or, ↓Ev.wq_rng1, ↓Ev.wq_rng2, ↓Ev.wq_run, ↓Ev.wq_seq, ↓Ev.wq_test, ↓Ev.wq_tru, ↓Ev.wq_tup, ↓Ev.wq_vAnd, ↓Ev.wq_vNot, ↓Ev.wq_vOr, ↓Ev.wq_var0, ↓Ev.wq_varS, ↓Ev.wq_yes, ↓Ev.wq_zip, ↓Ev.ws_asg, ↓Ev.ws_brk, ↓Ev.ws_cnt, ↓Ev.ws_expr, ↓Ev.ws_for, ↓Ev.ws_if, ↓Ev.ws_in, ↓Ev.ws_kn, ↓Ev.ws_nil, ↓Ev.ws_nx, ↓Ev.ws_put, ↓Ev.ws_ret, ↓Ev.ws_retN, ↓Ev.ws_rt, ↓Ev.ws_seq, ↓Ev.ws_while, ↓Ev.ws_set, ↓Ev.wo_some, ↓Ev.onB_b, ↓Ev.onI_i, ↓Ev.Kn_rt, ↓Ev.Kn_bk, ↓Ev.Kn_ct, ↓Ev.onRet_nx, ↓Ev.onRet_rt, ↓Ev.onNx_nx, ↓Ev.onNx_ct, ↓Ev.onNx_bk, ↓Ev.onNx_rt, List.map_cons, List.map_nil, List.length_cons, List.length_nil, List.replicate, List.cons_append, List.nil_append, Nat.reduceAdd, Nat.reduceSub, List.set_cons_zero, List.set_cons_succ, if_true, if_false, true_and, and_true, Bool.false_eq_true, Bool.not_true, Bool.not_false, ↓reduceIte, Ev.ifF, Nat.zero_add, Ev.startE, Ev.wipeE, Ev.put_nm, Ev.put_tp, Ev.puts_nil, Ev.puts_cons, Option.bind_some, Ev.seqLen_t, Ev.seqLen_r, Ev.addW_ii, Ev.addW_tt, Ev.subW_ii, Ev.mulW_ii, Ev.modW_ii, Ev.fdivW_ii, Ev.powW_ii, Ev.negW_i, Ev.cmpI_ii, Ev.isW_n, Ev.isnW_n, Ev.isNon_n, Ev.isNon_b, Ev.isNon_i, Ev.isNon_s, Ev.isNon_t, Ev.isNon_l, Ev.max2W_ii, Ev.min2W_ii, Ev.intW_i, Ev.intW_b, Ev.lenW_t, Ev.lenW_r, Ev.listW_t, Ev.tupleW_t, Ev.truW_b, Ev.truW_n, Ev.truW_i, Ev.truW_t, Ev.eqW_ii, Ev.neW_ii, Ev.eqW_ss, Ev.neW_ss, Ev.eqW_bb, Ev.ixN_0, Ev.ixN_1, Ev.ixN_2, Ev.ixN_3, Ev.isi_bb, Ev.isi_bs, Ev.isi_bi, Ev.isi_bt, Ev.isi_bl, Ev.isi_ib, Ev.isi_is, Ev.isi_ii, Ev.isi_it, Ev.isi_il, Ev.isi_sb, Ev.isi_ss, Ev.isi_si, Ev.isi_st, Ev.isi_sl, Ev.isi_tb, Ev.isi_ts, Ev.isi_ti, Ev.isi_tt, Ev.isi_tl, Ev.isi_nb, Ev.isi_ns, Ev.isi_ni, Ev.isi_nt, Ev.isi_nl, Ev.atI_0, Ev.atI_1, Ev.atI_2, Ev.atI_3, Ev.atI_4, Ev.tyOk_s, Ev.slW_to, Ev.slW_from, Ev.addW_SS, Int.toNat_natCast, Option.some.injEq, List.set_set, Option.map_some, W.int.injEq, W.str.injEq, W.loc.injEq, Nat.reduceLeDiff, and_self, Int.reduceLT, Int.reduceLE, Int.reduceNeg, Int.reduceToNat, Int.reduceAdd, Int.reduceMul, Int.reduceSub, decide_eq_true_eq, dueW]
    have e1 : (((S ++ [O.lst []]) ++ [O.lst [W.bl true, W.bl true, W.bl false]]) ++ [O.lst [W.bl true, W.bl true, W.bl false]])[(S ++ [O.lst []]).length]? = some (.lst [W.bl true, W.bl true, W.bl false]) := at_app at_new'
    have e2 : (((S ++ [O.lst []]) ++ [O.lst [W.bl true, W.bl true, W.bl false]]) ++ [O.lst [W.bl true, W.bl true, W.bl false]])[((S ++ [O.lst []]) ++ [O.lst [W.bl true, W.bl true, W.bl false]]).length]? = some (.lst [W.bl true, W.bl true, W.bl false]) := at_new'
    have d1 := (Dat.lstM (n := 5) (l := [true, true, false]) (f := W.bl) (g := PyData.bool) e1 (by decide) fun _ _ => rfl).up (show 6 ≤ 64 by decide) |>.pd
    have d2 := (Dat.lstM (n := 5) (l := [true, true, false]) (f := W.bl) (g := PyData.bool) e2 (by decide) fun _ _ => rfl).up (show 6 ≤ 64 by decide) |>.pd
    have eqs : PyData.eqv (.list ([true, true, false].map PyData.bool)) (.list ([true, true, false].map PyData.bool)) = true := by simp [PyData.eqv, PyData.eqvAll]
    try simp (maxSteps := 500000) (implicitDefEqProofs := false) (disch := omega) only [↓Ev.wq_aCons, ↓Ev.wq_aNil, ↓Ev.wq_and, ↓Ev.wq_bind, ↓Ev.wq_c, ↓Ev.wq_dnew, ↓Ev.wq_e1, ↓Ev.wq_e2, ↓Ev.wq_eIf, ↓Ev.wq_eL, ↓Ev.wq_eM, ↓Ev.wq_eSl, ↓Ev.wq_in, ↓Ev.wq_ite, ↓Ev.wq_ixR, ↓Ev.wq_ixS, ↓Ev.wq_ixT, ↓Ev.wq_lc, ↓Ev.wq_lst, ↓Ev.wq_no, ↓Ev.wq_not, ↓Ev.wq_oNone, ↓Ev.wq_oSome, ↓Ev.wq_ok, ↓Ev.wq_or, ↓Ev.wq_rng1, ↓Ev.wq_rng2, ↓Ev.wq_run, ↓Ev.wq_seq, ↓Ev.wq_test, ↓Ev.wq_tru, ↓Ev.wq_tup, ↓Ev.wq_vAnd, ↓Ev.wq_vNot, ↓Ev.wq_vOr, ↓Ev.wq_var0, ↓Ev.wq_varS, ↓Ev.wq_yes, ↓Ev.wq_zip, ↓Ev.ws_asg, ↓Ev.ws_brk, ↓Ev.ws_cnt, ↓Ev.ws_expr, ↓Ev.ws_for, ↓Ev.ws_if, ↓Ev.ws_in, ↓Ev.ws_kn, ↓Ev.ws_nil, ↓Ev.ws_nx, ↓Ev.ws_put, ↓Ev.ws_ret, ↓Ev.ws_retN, ↓Ev.ws_rt, ↓Ev.ws_seq, ↓Ev.ws_while, ↓Ev.ws_set, ↓Ev.wo_some, ↓Ev.onB_b, ↓Ev.onI_i, ↓Ev.Kn_rt, ↓Ev.Kn_bk, ↓Ev.Kn_ct, ↓Ev.onRet_nx, ↓Ev.onRet_rt, ↓Ev.onNx_nx, ↓Ev.onNx_ct, ↓Ev.onNx_bk, ↓Ev.onNx_rt, List.map_cons, List.map_nil, List.length_cons, List.length_nil, List.replicate, List.cons_append, List.nil_append, Nat.reduceAdd, Nat.reduceSub, List.set_cons_zero, List.set_cons_succ, if_true, if_false, true_and, and_true, Bool.false_eq_true, Bool.not_true, Bool.not_false, ↓reduceIte, Ev.ifF, Nat.zero_add, Ev.startE, Ev.wipeE, Ev.put_nm, Ev.put_tp, Ev.puts_nil, Ev.puts_cons, Option.bind_some, Ev.seqLen_t, Ev.seqLen_r, Ev.addW_ii, Ev.addW_tt, Ev.subW_ii, Ev.mulW_ii, Ev.modW_ii, Ev.fdivW_ii, Ev.powW_ii, Ev.negW_i, Ev.cmpI_ii, Ev.isW_n, Ev.isnW_n, Ev.isNon_n, Ev.isNon_b, Ev.isNon_i, Ev.isNon_s, Ev.isNon_t, Ev.isNon_l, Ev.max2W_ii, Ev.min2W_ii, Ev.intW_i, Ev.intW_b, Ev.lenW_t, Ev.lenW_r, Ev.listW_t, Ev.tupleW_t, Ev.truW_b, Ev.truW_n, Ev.truW_i, Ev.truW_t, Ev.eqW_ii, Ev.neW_ii, Ev.eqW_ss, Ev.neW_ss, Ev.eqW_bb, Ev.ixN_0, Ev.ixN_1, Ev.ixN_2, Ev.ixN_3, Ev.isi_bb, Ev.isi_bs, Ev.isi_bi, Ev.isi_bt, Ev.isi_bl, Ev.isi_ib, Ev.isi_is, Ev.isi_ii, Ev.isi_it, Ev.isi_il, Ev.isi_sb, Ev.isi_ss, Ev.isi_si, Ev.isi_st, Ev.isi_sl, Ev.isi_tb, Ev.isi_ts, Ev.isi_ti, Ev.isi_tt, Ev.isi_tl, Ev.isi_nb, Ev.isi_ns, Ev.isi_ni, Ev.isi_nt, Ev.isi_nl, Ev.atI_0, Ev.atI_1, Ev.atI_2, Ev.atI_3, Ev.atI_4, Ev.tyOk_s, Ev.slW_to, Ev.slW_from, Ev.addW_SS, Int.toNat_natCast, Option.some.injEq, List.set_set, Option.map_some, W.int.injEq, W.str.injEq, W.loc.injEq, Nat.reduceLeDiff, and_self, Int.reduceLT, Int.reduceLE, Int.reduceNeg, Int.reduceToNat, Int.reduceAdd, Int.reduceMul, Int.reduceSub, decide_eq_true_eq, eqW_d d1 d2, eqs]
    exact h _ (Xt.app.appI.appI)
theorem right_ok {n p d : Nat} {ks : List Kd} {nm : List Nat} {x y : Wo} {S : Sto} {Q : W → Sto → Prop} (hn : 62 ≤ n) (hp : S[p]? = some (.lst ((woL ks d nm).map Wo.w))) (hl : (woL ks d nm).length ≤ 1000) (hd : d ≤ 40) (hx : x ∈ woL ks d nm) (hy : y ∈ woL ks d nm)
    (h : ∀ S', Xt [] S S' → Q (.bl true) S') : wpR (call n .f_law_right [.loc p, x.w, y.w] S) Q := by
  obtain ⟨n, rfl⟩ : ∃ m, n = m + 1 := ⟨n - 1, by omega⟩
  have dpb : ∀ w ∈ woL ks d nm, w.dp ≤ 50 := fun w hw => by have := woL_dp ks d nm w hw; omega
  rw [call_s, body]
  simp (maxSteps := 500000) (implicitDefEqProofs := false) (disch := omega) only [↓Ev.wq_aCons, ↓Ev.wq_aNil, ↓Ev.wq_and, ↓Ev.wq_bind, ↓Ev.wq_c, ↓Ev.wq_dnew, ↓Ev.wq_e1, ↓Ev.wq_e2, ↓Ev.wq_eIf, ↓Ev.wq_eL, ↓Ev.wq_eM, ↓Ev.wq_eSl, ↓Ev.wq_in, ↓Ev.wq_ite, ↓Ev.wq_ixR, ↓Ev.wq_ixS, ↓Ev.wq_ixT, ↓Ev.wq_lc, ↓Ev.wq_lst, ↓Ev.wq_no, ↓Ev.wq_not, ↓Ev.wq_oNone, ↓Ev.wq_oSome, ↓Ev.wq_ok, ↓Ev.wq_or, ↓Ev.wq_rng1, ↓Ev.wq_rng2, ↓Ev.wq_run, ↓Ev.wq_seq, ↓Ev.wq_test, ↓Ev.wq_tru, ↓Ev.wq_tup, ↓Ev.wq_vAnd, ↓Ev.wq_vNot, ↓Ev.wq_vOr, ↓Ev.wq_var0, ↓Ev.wq_varS, ↓Ev.wq_yes, ↓Ev.wq_zip, ↓Ev.ws_asg, ↓Ev.ws_brk, ↓Ev.ws_cnt, ↓Ev.ws_expr, ↓Ev.ws_for, ↓Ev.ws_if, ↓Ev.ws_in, ↓Ev.ws_kn, ↓Ev.ws_nil, ↓Ev.ws_nx, ↓Ev.ws_put, ↓Ev.ws_ret, ↓Ev.ws_retN, ↓Ev.ws_rt, ↓Ev.ws_seq, ↓Ev.ws_while, ↓Ev.ws_set, ↓Ev.wo_some, ↓Ev.onB_b, ↓Ev.onI_i, ↓Ev.Kn_rt, ↓Ev.Kn_bk, ↓Ev.Kn_ct, ↓Ev.onRet_nx, ↓Ev.onRet_rt, ↓Ev.onNx_nx, ↓Ev.onNx_ct, ↓Ev.onNx_bk, ↓Ev.onNx_rt, List.map_cons, List.map_nil, List.length_cons, List.length_nil, List.replicate, List.cons_append, List.nil_append, Nat.reduceAdd, Nat.reduceSub, List.set_cons_zero, List.set_cons_succ, if_true, if_false, true_and, and_true, Bool.false_eq_true, Bool.not_true, Bool.not_false, ↓reduceIte, Ev.ifF, Nat.zero_add, Ev.startE, Ev.wipeE, Ev.put_nm, Ev.put_tp, Ev.puts_nil, Ev.puts_cons, Option.bind_some, Ev.seqLen_t, Ev.seqLen_r, Ev.addW_ii, Ev.addW_tt, Ev.subW_ii, Ev.mulW_ii, Ev.modW_ii, Ev.fdivW_ii, Ev.powW_ii, Ev.negW_i, Ev.cmpI_ii, Ev.isW_n, Ev.isnW_n, Ev.isNon_n, Ev.isNon_b, Ev.isNon_i, Ev.isNon_s, Ev.isNon_t, Ev.isNon_l, Ev.max2W_ii, Ev.min2W_ii, Ev.intW_i, Ev.intW_b, Ev.lenW_t, Ev.lenW_r, Ev.listW_t, Ev.tupleW_t, Ev.truW_b, Ev.truW_n, Ev.truW_i, Ev.truW_t, Ev.eqW_ii, Ev.neW_ii, Ev.eqW_ss, Ev.neW_ss, Ev.eqW_bb, Ev.ixN_0, Ev.ixN_1, Ev.ixN_2, Ev.ixN_3, Ev.isi_bb, Ev.isi_bs, Ev.isi_bi, Ev.isi_bt, Ev.isi_bl, Ev.isi_ib, Ev.isi_is, Ev.isi_ii, Ev.isi_it, Ev.isi_il, Ev.isi_sb, Ev.isi_ss, Ev.isi_si, Ev.isi_st, Ev.isi_sl, Ev.isi_tb, Ev.isi_ts, Ev.isi_ti, Ev.isi_tt, Ev.isi_tl, Ev.isi_nb, Ev.isi_ns, Ev.isi_ni, Ev.isi_nt, Ev.isi_nl, Ev.atI_0, Ev.atI_1, Ev.atI_2, Ev.atI_3, Ev.atI_4, Ev.tyOk_s, Ev.slW_to, Ev.slW_from, Ev.addW_SS, Int.toNat_natCast, Option.some.injEq, List.set_set, Option.map_some, W.int.injEq, W.str.injEq, W.loc.injEq, Nat.reduceLeDiff, and_self, Int.reduceLT, Int.reduceLE, Int.reduceNeg, Int.reduceToNat, Int.reduceAdd, Int.reduceMul, Int.reduceSub, decide_eq_true_eq, m_f_law_right]
  have e1 : (S ++ [O.lst [W.tup [x.w, y.w], W.tup [y.w, x.w], W.tup [x.w, x.w]]])[S.length]? = some (.lst ([(x, y), (y, x), (x, x)].map fun z => W.tup [z.1.w, z.2.w])) := at_new'
  have X1 : Xt [] S (S ++ [O.lst [W.tup [x.w, y.w], W.tup [y.w, x.w], W.tup [x.w, x.w]]]) := .app
  generalize S ++ [O.lst [W.tup [x.w, y.w], W.tup [y.w, x.w], W.tup [x.w, x.w]]] = S1 at *
  generalize S.length = q at *
  have hm : ∀ z ∈ [(x, y), (y, x), (x, x)], z.1 ∈ woL ks d nm ∧ z.2 ∈ woL ks d nm := by
    intro z hz
    simp only [List.mem_cons, List.not_mem_nil, or_false] at hz
    rcases hz with rfl | rfl | rfl
    · exact ⟨hx, hy⟩
    · exact ⟨hy, hx⟩
    · exact ⟨hx, hx⟩
  have hlz : [(x, y), (y, x), (x, x)].length = 3 := rfl
  generalize [(x, y), (y, x), (x, x)] = zs at *
  refine wo_ex (seqLen_l e1) ?_
  rw [List.length_map]
  refine wp_loopN zs.length (fun k s S2 => ∃ x3 x4, s = [some (.loc p), some x.w, some y.w, x3, x4] ∧ Xt [] S1 S2) (by omega) ⟨_, _, rfl, .refl⟩ ?_ ?_
  · rintro k s S2 hk ⟨x3, x4, rfl, X2⟩
    have gk : zs[k]? = some zs[k] := List.getElem?_eq_getElem hk
    have mk := hm _ (List.getElem_mem hk)
    generalize zs[k] = z at *
    obtain ⟨u, v⟩ := z
    have mu : u.dp ≤ 50 := dpb u mk.1
    have mv : v.dp ≤ 50 := dpb v mk.2
    refine ⟨.tup [u.w, v.w], _, by rw [seqIt_l (X2.get0 e1), List.getElem?_map, gk]; rfl, rfl, ?_⟩
    simp (maxSteps := 500000) (implicitDefEqProofs := false) (disch := omega) only [↓Ev.wq_aCons, ↓Ev.wq_aNil, ↓Ev.wq_and, ↓Ev.wq_bind, ↓Ev.wq_c, ↓Ev.wq_dnew, ↓Ev.wq_e1, ↓Ev.wq_e2, ↓Ev.wq_eIf, ↓Ev.wq_eL, ↓Ev.wq_eM, ↓Ev.wq_eSl, ↓Ev.wq_in, ↓Ev.wq_ite, ↓Ev.wq_ixR, ↓Ev.wq_ixS, ↓Ev.wq_ixT, ↓Ev.wq_lc, ↓Ev.wq_lst, ↓Ev.wq_no, ↓Ev.wq_not, ↓Ev.wq_oNone, ↓Ev.wq_oSome, ↓Ev.wq_ok, ↓Ev.wq_or, ↓Ev.wq_rng1, ↓Ev.wq_rng2, ↓Ev.wq_run, ↓Ev.wq_seq, ↓Ev.wq_test, ↓Ev.wq_tru, ↓Ev.wq_tup, ↓Ev.wq_vAnd, ↓Ev.wq_vNot, ↓Ev.wq_vOr, ↓Ev.wq_var0, ↓Ev.wq_varS, ↓Ev.wq_yes, ↓Ev.wq_zip, ↓Ev.ws_asg, ↓Ev.ws_brk, ↓Ev.ws_cnt, ↓Ev.ws_expr, ↓Ev.ws_for, ↓Ev.ws_if, ↓Ev.ws_in, ↓Ev.ws_kn, ↓Ev.ws_nil, ↓Ev.ws_nx, ↓Ev.ws_put, ↓Ev.ws_ret, ↓Ev.ws_retN, ↓Ev.ws_rt, ↓Ev.ws_seq, ↓Ev.ws_while, ↓Ev.ws_set, ↓Ev.wo_some, ↓Ev.onB_b, ↓Ev.onI_i, ↓Ev.Kn_rt, ↓Ev.Kn_bk, ↓Ev.Kn_ct, ↓Ev.onRet_nx, ↓Ev.onRet_rt, ↓Ev.onNx_nx, ↓Ev.onNx_ct, ↓Ev.onNx_bk, ↓Ev.onNx_rt, List.map_cons, List.map_nil, List.length_cons, List.length_nil, List.replicate, List.cons_append, List.nil_append, Nat.reduceAdd, Nat.reduceSub, List.set_cons_zero, List.set_cons_succ, if_true, if_false, true_and, and_true, Bool.false_eq_true, Bool.not_true, Bool.not_false, ↓reduceIte, Ev.ifF, Nat.zero_add, Ev.startE, Ev.wipeE, Ev.put_nm, Ev.put_tp, Ev.puts_nil, Ev.puts_cons, Option.bind_some, Ev.seqLen_t, Ev.seqLen_r, Ev.addW_ii, Ev.addW_tt, Ev.subW_ii, Ev.mulW_ii, Ev.modW_ii, Ev.fdivW_ii, Ev.powW_ii, Ev.negW_i, Ev.cmpI_ii, Ev.isW_n, Ev.isnW_n, Ev.isNon_n, Ev.isNon_b, Ev.isNon_i, Ev.isNon_s, Ev.isNon_t, Ev.isNon_l, Ev.max2W_ii, Ev.min2W_ii, Ev.intW_i, Ev.intW_b, Ev.lenW_t, Ev.lenW_r, Ev.listW_t, Ev.tupleW_t, Ev.truW_b, Ev.truW_n, Ev.truW_i, Ev.truW_t, Ev.eqW_ii, Ev.neW_ii, Ev.eqW_ss, Ev.neW_ss, Ev.eqW_bb, Ev.ixN_0, Ev.ixN_1, Ev.ixN_2, Ev.ixN_3, Ev.isi_bb, Ev.isi_bs, Ev.isi_bi, Ev.isi_bt, Ev.isi_bl, Ev.isi_ib, Ev.isi_is, Ev.isi_ii, Ev.isi_it, Ev.isi_il, Ev.isi_sb, Ev.isi_ss, Ev.isi_si, Ev.isi_st, Ev.isi_sl, Ev.isi_tb, Ev.isi_ts, Ev.isi_ti, Ev.isi_tt, Ev.isi_tl, Ev.isi_nb, Ev.isi_ns, Ev.isi_ni, Ev.isi_nt, Ev.isi_nl, Ev.atI_0, Ev.atI_1, Ev.atI_2, Ev.atI_3, Ev.atI_4, Ev.tyOk_s, Ev.slW_to, Ev.slW_from, Ev.addW_SS, Int.toNat_natCast, Option.some.injEq, List.set_set, Option.map_some, W.int.injEq, W.str.injEq, W.loc.injEq, Nat.reduceLeDiff, and_self, Int.reduceLT, Int.reduceLE, Int.reduceNeg, Int.reduceToNat, Int.reduceAdd, Int.reduceMul, Int.reduceSub, decide_eq_true_eq]
    refine wpR_mono (f_is_under_ok u v (by omega) mu mv) ?_
    rintro w S3 ⟨rfl, rfl⟩
    try simp (maxSteps := 500000) (implicitDefEqProofs := false) (disch := omega) only [↓Ev.wq_aCons, ↓Ev.wq_aNil, ↓Ev.wq_and, ↓Ev.wq_bind, ↓Ev.wq_c, ↓Ev.wq_dnew, ↓Ev.wq_e1, ↓Ev.wq_e2, ↓Ev.wq_eIf, ↓Ev.wq_eL, ↓Ev.wq_eM, ↓Ev.wq_eSl, ↓Ev.wq_in, ↓Ev.wq_ite, ↓Ev.wq_ixR, ↓Ev.wq_ixS, ↓Ev.wq_ixT, ↓Ev.wq_lc, ↓Ev.wq_lst, ↓Ev.wq_no, ↓Ev.wq_not, ↓Ev.wq_oNone, ↓Ev.wq_oSome, ↓Ev.wq_ok, ↓Ev.wq_or, ↓Ev.wq_rng1, ↓Ev.wq_rng2, ↓Ev.wq_run, ↓Ev.wq_seq, ↓Ev.wq_test, ↓Ev.wq_tru, ↓Ev.wq_tup, ↓Ev.wq_vAnd, ↓Ev.wq_vNot, ↓Ev.wq_vOr, ↓Ev.wq_var0, ↓Ev.wq_varS, ↓Ev.wq_yes, ↓Ev.wq_zip, ↓Ev.ws_asg, ↓Ev.ws_brk, ↓Ev.ws_cnt, ↓Ev.ws_expr, ↓Ev.ws_for, ↓Ev.ws_if, ↓Ev.ws_in, ↓Ev.ws_kn, ↓Ev.ws_nil, ↓Ev.ws_nx, ↓Ev.ws_put, ↓Ev.ws_ret, ↓Ev.ws_retN, ↓Ev.ws_rt, ↓Ev.ws_seq, ↓Ev.ws_while, ↓Ev.ws_set, ↓Ev.wo_some, ↓Ev.onB_b, ↓Ev.onI_i, ↓Ev.Kn_rt, ↓Ev.Kn_bk, ↓Ev.Kn_ct, ↓Ev.onRet_nx, ↓Ev.onRet_rt, ↓Ev.onNx_nx, ↓Ev.onNx_ct, ↓Ev.onNx_bk, ↓Ev.onNx_rt, List.map_cons, List.map_nil, List.length_cons, List.length_nil, List.replicate, List.cons_append, List.nil_append, Nat.reduceAdd, Nat.reduceSub, List.set_cons_zero, List.set_cons_succ, if_true, if_false, true_and, and_true, Bool.false_eq_true, Bool.not_true, Bool.not_false, ↓reduceIte, Ev.ifF, Nat.zero_add, Ev.startE, Ev.wipeE, Ev.put_nm, Ev.put_tp, Ev.puts_nil, Ev.puts_cons, Option.bind_some, Ev.seqLen_t, Ev.seqLen_r, Ev.addW_ii, Ev.addW_tt, Ev.subW_ii, Ev.mulW_ii, Ev.modW_ii, Ev.fdivW_ii, Ev.powW_ii, Ev.negW_i, Ev.cmpI_ii, Ev.isW_n, Ev.isnW_n, Ev.isNon_n, Ev.isNon_b, Ev.isNon_i, Ev.isNon_s, Ev.isNon_t, Ev.isNon_l, Ev.max2W_ii, Ev.min2W_ii, Ev.intW_i, Ev.intW_b, Ev.lenW_t, Ev.lenW_r, Ev.listW_t, Ev.tupleW_t, Ev.truW_b, Ev.truW_n, Ev.truW_i, Ev.truW_t, Ev.eqW_ii, Ev.neW_ii, Ev.eqW_ss, Ev.neW_ss, Ev.eqW_bb, Ev.ixN_0, Ev.ixN_1, Ev.ixN_2, Ev.ixN_3, Ev.isi_bb, Ev.isi_bs, Ev.isi_bi, Ev.isi_bt, Ev.isi_bl, Ev.isi_ib, Ev.isi_is, Ev.isi_ii, Ev.isi_it, Ev.isi_il, Ev.isi_sb, Ev.isi_ss, Ev.isi_si, Ev.isi_st, Ev.isi_sl, Ev.isi_tb, Ev.isi_ts, Ev.isi_ti, Ev.isi_tt, Ev.isi_tl, Ev.isi_nb, Ev.isi_ns, Ev.isi_ni, Ev.isi_nt, Ev.isi_nl, Ev.atI_0, Ev.atI_1, Ev.atI_2, Ev.atI_3, Ev.atI_4, Ev.tyOk_s, Ev.slW_to, Ev.slW_from, Ev.addW_SS, Int.toNat_natCast, Option.some.injEq, List.set_set, Option.map_some, W.int.injEq, W.str.injEq, W.loc.injEq, Nat.reduceLeDiff, and_self, Int.reduceLT, Int.reduceLE, Int.reduceNeg, Int.reduceToNat, Int.reduceAdd, Int.reduceMul, Int.reduceSub, decide_eq_true_eq]
    refine wpR_mono (f_law_under_ok u v (by omega) mu mv) ?_
    rintro w S3 ⟨rfl, rfl⟩
    try simp (maxSteps := 500000) (implicitDefEqProofs := false) (disch := omega) only [↓Ev.wq_aCons, ↓Ev.wq_aNil, ↓Ev.wq_and, ↓Ev.wq_bind, ↓Ev.wq_c, ↓Ev.wq_dnew, ↓Ev.wq_e1, ↓Ev.wq_e2, ↓Ev.wq_eIf, ↓Ev.wq_eL, ↓Ev.wq_eM, ↓Ev.wq_eSl, ↓Ev.wq_in, ↓Ev.wq_ite, ↓Ev.wq_ixR, ↓Ev.wq_ixS, ↓Ev.wq_ixT, ↓Ev.wq_lc, ↓Ev.wq_lst, ↓Ev.wq_no, ↓Ev.wq_not, ↓Ev.wq_oNone, ↓Ev.wq_oSome, ↓Ev.wq_ok, ↓Ev.wq_or, ↓Ev.wq_rng1, ↓Ev.wq_rng2, ↓Ev.wq_run, ↓Ev.wq_seq, ↓Ev.wq_test, ↓Ev.wq_tru, ↓Ev.wq_tup, ↓Ev.wq_vAnd, ↓Ev.wq_vNot, ↓Ev.wq_vOr, ↓Ev.wq_var0, ↓Ev.wq_varS, ↓Ev.wq_yes, ↓Ev.wq_zip, ↓Ev.ws_asg, ↓Ev.ws_brk, ↓Ev.ws_cnt, ↓Ev.ws_expr, ↓Ev.ws_for, ↓Ev.ws_if, ↓Ev.ws_in, ↓Ev.ws_kn, ↓Ev.ws_nil, ↓Ev.ws_nx, ↓Ev.ws_put, ↓Ev.ws_ret, ↓Ev.ws_retN, ↓Ev.ws_rt, ↓Ev.ws_seq, ↓Ev.ws_while, ↓Ev.ws_set, ↓Ev.wo_some, ↓Ev.onB_b, ↓Ev.onI_i, ↓Ev.Kn_rt, ↓Ev.Kn_bk, ↓Ev.Kn_ct, ↓Ev.onRet_nx, ↓Ev.onRet_rt, ↓Ev.onNx_nx, ↓Ev.onNx_ct, ↓Ev.onNx_bk, ↓Ev.onNx_rt, List.map_cons, List.map_nil, List.length_cons, List.length_nil, List.replicate, List.cons_append, List.nil_append, Nat.reduceAdd, Nat.reduceSub, List.set_cons_zero, List.set_cons_succ, if_true, if_false, true_and, and_true, Bool.false_eq_true, Bool.not_true, Bool.not_false, ↓reduceIte, Ev.ifF, Nat.zero_add, Ev.startE, Ev.wipeE, Ev.put_nm, Ev.put_tp, Ev.puts_nil, Ev.puts_cons, Option.bind_some, Ev.seqLen_t, Ev.seqLen_r, Ev.addW_ii, Ev.addW_tt, Ev.subW_ii, Ev.mulW_ii, Ev.modW_ii, Ev.fdivW_ii, Ev.powW_ii, Ev.negW_i, Ev.cmpI_ii, Ev.isW_n, Ev.isnW_n, Ev.isNon_n, Ev.isNon_b, Ev.isNon_i, Ev.isNon_s, Ev.isNon_t, Ev.isNon_l, Ev.max2W_ii, Ev.min2W_ii, Ev.intW_i, Ev.intW_b, Ev.lenW_t, Ev.lenW_r, Ev.listW_t, Ev.tupleW_t, Ev.truW_b, Ev.truW_n, Ev.truW_i, Ev.truW_t, Ev.eqW_ii, Ev.neW_ii, Ev.eqW_ss, Ev.neW_ss, Ev.eqW_bb, Ev.ixN_0, Ev.ixN_1, Ev.ixN_2, Ev.ixN_3, Ev.isi_bb, Ev.isi_bs, Ev.isi_bi, Ev.isi_bt, Ev.isi_bl, Ev.isi_ib, Ev.isi_is, Ev.isi_ii, Ev.isi_it, Ev.isi_il, Ev.isi_sb, Ev.isi_ss, Ev.isi_si, Ev.isi_st, Ev.isi_sl, Ev.isi_tb, Ev.isi_ts, Ev.isi_ti, Ev.isi_tt, Ev.isi_tl, Ev.isi_nb, Ev.isi_ns, Ev.isi_ni, Ev.isi_nt, Ev.isi_nl, Ev.atI_0, Ev.atI_1, Ev.atI_2, Ev.atI_3, Ev.atI_4, Ev.tyOk_s, Ev.slW_to, Ev.slW_from, Ev.addW_SS, Int.toNat_natCast, Option.some.injEq, List.set_set, Option.map_some, W.int.injEq, W.str.injEq, W.loc.injEq, Nat.reduceLeDiff, and_self, Int.reduceLT, Int.reduceLE, Int.reduceNeg, Int.reduceToNat, Int.reduceAdd, Int.reduceMul, Int.reduceSub, decide_eq_true_eq]
    refine same_ok n (d := .bool (und u v)) (show Dat S3 n _ _ by obtain ⟨m, rfl⟩ : ∃ m, n = m + 1 := ⟨n - 1, by omega⟩; rfl) (show Dat S3 n _ _ by obtain ⟨m, rfl⟩ : ∃ m, n = m + 1 := ⟨n - 1, by omega⟩; rfl) fun S4 X4 => ?_
    try simp (maxSteps := 500000) (implicitDefEqProofs := false) (disch := omega) only [↓Ev.wq_aCons, ↓Ev.wq_aNil, ↓Ev.wq_and, ↓Ev.wq_bind, ↓Ev.wq_c, ↓Ev.wq_dnew, ↓Ev.wq_e1, ↓Ev.wq_e2, ↓Ev.wq_eIf, ↓Ev.wq_eL, ↓Ev.wq_eM, ↓Ev.wq_eSl, ↓Ev.wq_in, ↓Ev.wq_ite, ↓Ev.wq_ixR, ↓Ev.wq_ixS, ↓Ev.wq_ixT, ↓Ev.wq_lc, ↓Ev.wq_lst, ↓Ev.wq_no, ↓Ev.wq_not, ↓Ev.wq_oNone, ↓Ev.wq_oSome, ↓Ev.wq_ok, ↓Ev.wq_or, ↓Ev.wq_rng1, ↓Ev.wq_rng2, ↓Ev.wq_run, ↓Ev.wq_seq, ↓Ev.wq_test, ↓Ev.wq_tru, ↓Ev.wq_tup, ↓Ev.wq_vAnd, ↓Ev.wq_vNot, ↓Ev.wq_vOr, ↓Ev.wq_var0, ↓Ev.wq_varS, ↓Ev.wq_yes, ↓Ev.wq_zip, ↓Ev.ws_asg, ↓Ev.ws_brk, ↓Ev.ws_cnt, ↓Ev.ws_expr, ↓Ev.ws_for, ↓Ev.ws_if, ↓Ev.ws_in, ↓Ev.ws_kn, ↓Ev.ws_nil, ↓Ev.ws_nx, ↓Ev.ws_put, ↓Ev.ws_ret, ↓Ev.ws_retN, ↓Ev.ws_rt, ↓Ev.ws_seq, ↓Ev.ws_while, ↓Ev.ws_set, ↓Ev.wo_some, ↓Ev.onB_b, ↓Ev.onI_i, ↓Ev.Kn_rt, ↓Ev.Kn_bk, ↓Ev.Kn_ct, ↓Ev.onRet_nx, ↓Ev.onRet_rt, ↓Ev.onNx_nx, ↓Ev.onNx_ct, ↓Ev.onNx_bk, ↓Ev.onNx_rt, List.map_cons, List.map_nil, List.length_cons, List.length_nil, List.replicate, List.cons_append, List.nil_append, Nat.reduceAdd, Nat.reduceSub, List.set_cons_zero, List.set_cons_succ, if_true, if_false, true_and, and_true, Bool.false_eq_true, Bool.not_true, Bool.not_false, ↓reduceIte, Ev.ifF, Nat.zero_add, Ev.startE, Ev.wipeE, Ev.put_nm, Ev.put_tp, Ev.puts_nil, Ev.puts_cons, Option.bind_some, Ev.seqLen_t, Ev.seqLen_r, Ev.addW_ii, Ev.addW_tt, Ev.subW_ii, Ev.mulW_ii, Ev.modW_ii, Ev.fdivW_ii, Ev.powW_ii, Ev.negW_i, Ev.cmpI_ii, Ev.isW_n, Ev.isnW_n, Ev.isNon_n, Ev.isNon_b, Ev.isNon_i, Ev.isNon_s, Ev.isNon_t, Ev.isNon_l, Ev.max2W_ii, Ev.min2W_ii, Ev.intW_i, Ev.intW_b, Ev.lenW_t, Ev.lenW_r, Ev.listW_t, Ev.tupleW_t, Ev.truW_b, Ev.truW_n, Ev.truW_i, Ev.truW_t, Ev.eqW_ii, Ev.neW_ii, Ev.eqW_ss, Ev.neW_ss, Ev.eqW_bb, Ev.ixN_0, Ev.ixN_1, Ev.ixN_2, Ev.ixN_3, Ev.isi_bb, Ev.isi_bs, Ev.isi_bi, Ev.isi_bt, Ev.isi_bl, Ev.isi_ib, Ev.isi_is, Ev.isi_ii, Ev.isi_it, Ev.isi_il, Ev.isi_sb, Ev.isi_ss, Ev.isi_si, Ev.isi_st, Ev.isi_sl, Ev.isi_tb, Ev.isi_ts, Ev.isi_ti, Ev.isi_tt, Ev.isi_tl, Ev.isi_nb, Ev.isi_ns, Ev.isi_ni, Ev.isi_nt, Ev.isi_nl, Ev.atI_0, Ev.atI_1, Ev.atI_2, Ev.atI_3, Ev.atI_4, Ev.tyOk_s, Ev.slW_to, Ev.slW_from, Ev.addW_SS, Int.toNat_natCast, Option.some.injEq, List.set_set, Option.map_some, W.int.injEq, W.str.injEq, W.loc.injEq, Nat.reduceLeDiff, and_self, Int.reduceLT, Int.reduceLE, Int.reduceNeg, Int.reduceToNat, Int.reduceAdd, Int.reduceMul, Int.reduceSub, decide_eq_true_eq]
    refine least_jn (by omega) ((X1.trans (X2.trans X4)).get0 hp) hl hd mk.1 mk.2 fun S5 X5 => ?_
    try simp (maxSteps := 500000) (implicitDefEqProofs := false) (disch := omega) only [↓Ev.wq_aCons, ↓Ev.wq_aNil, ↓Ev.wq_and, ↓Ev.wq_bind, ↓Ev.wq_c, ↓Ev.wq_dnew, ↓Ev.wq_e1, ↓Ev.wq_e2, ↓Ev.wq_eIf, ↓Ev.wq_eL, ↓Ev.wq_eM, ↓Ev.wq_eSl, ↓Ev.wq_in, ↓Ev.wq_ite, ↓Ev.wq_ixR, ↓Ev.wq_ixS, ↓Ev.wq_ixT, ↓Ev.wq_lc, ↓Ev.wq_lst, ↓Ev.wq_no, ↓Ev.wq_not, ↓Ev.wq_oNone, ↓Ev.wq_oSome, ↓Ev.wq_ok, ↓Ev.wq_or, ↓Ev.wq_rng1, ↓Ev.wq_rng2, ↓Ev.wq_run, ↓Ev.wq_seq, ↓Ev.wq_test, ↓Ev.wq_tru, ↓Ev.wq_tup, ↓Ev.wq_vAnd, ↓Ev.wq_vNot, ↓Ev.wq_vOr, ↓Ev.wq_var0, ↓Ev.wq_varS, ↓Ev.wq_yes, ↓Ev.wq_zip, ↓Ev.ws_asg, ↓Ev.ws_brk, ↓Ev.ws_cnt, ↓Ev.ws_expr, ↓Ev.ws_for, ↓Ev.ws_if, ↓Ev.ws_in, ↓Ev.ws_kn, ↓Ev.ws_nil, ↓Ev.ws_nx, ↓Ev.ws_put, ↓Ev.ws_ret, ↓Ev.ws_retN, ↓Ev.ws_rt, ↓Ev.ws_seq, ↓Ev.ws_while, ↓Ev.ws_set, ↓Ev.wo_some, ↓Ev.onB_b, ↓Ev.onI_i, ↓Ev.Kn_rt, ↓Ev.Kn_bk, ↓Ev.Kn_ct, ↓Ev.onRet_nx, ↓Ev.onRet_rt, ↓Ev.onNx_nx, ↓Ev.onNx_ct, ↓Ev.onNx_bk, ↓Ev.onNx_rt, List.map_cons, List.map_nil, List.length_cons, List.length_nil, List.replicate, List.cons_append, List.nil_append, Nat.reduceAdd, Nat.reduceSub, List.set_cons_zero, List.set_cons_succ, if_true, if_false, true_and, and_true, Bool.false_eq_true, Bool.not_true, Bool.not_false, ↓reduceIte, Ev.ifF, Nat.zero_add, Ev.startE, Ev.wipeE, Ev.put_nm, Ev.put_tp, Ev.puts_nil, Ev.puts_cons, Option.bind_some, Ev.seqLen_t, Ev.seqLen_r, Ev.addW_ii, Ev.addW_tt, Ev.subW_ii, Ev.mulW_ii, Ev.modW_ii, Ev.fdivW_ii, Ev.powW_ii, Ev.negW_i, Ev.cmpI_ii, Ev.isW_n, Ev.isnW_n, Ev.isNon_n, Ev.isNon_b, Ev.isNon_i, Ev.isNon_s, Ev.isNon_t, Ev.isNon_l, Ev.max2W_ii, Ev.min2W_ii, Ev.intW_i, Ev.intW_b, Ev.lenW_t, Ev.lenW_r, Ev.listW_t, Ev.tupleW_t, Ev.truW_b, Ev.truW_n, Ev.truW_i, Ev.truW_t, Ev.eqW_ii, Ev.neW_ii, Ev.eqW_ss, Ev.neW_ss, Ev.eqW_bb, Ev.ixN_0, Ev.ixN_1, Ev.ixN_2, Ev.ixN_3, Ev.isi_bb, Ev.isi_bs, Ev.isi_bi, Ev.isi_bt, Ev.isi_bl, Ev.isi_ib, Ev.isi_is, Ev.isi_ii, Ev.isi_it, Ev.isi_il, Ev.isi_sb, Ev.isi_ss, Ev.isi_si, Ev.isi_st, Ev.isi_sl, Ev.isi_tb, Ev.isi_ts, Ev.isi_ti, Ev.isi_tt, Ev.isi_tl, Ev.isi_nb, Ev.isi_ns, Ev.isi_ni, Ev.isi_nt, Ev.isi_nl, Ev.atI_0, Ev.atI_1, Ev.atI_2, Ev.atI_3, Ev.atI_4, Ev.tyOk_s, Ev.slW_to, Ev.slW_from, Ev.addW_SS, Int.toNat_natCast, Option.some.injEq, List.set_set, Option.map_some, W.int.injEq, W.str.injEq, W.loc.injEq, Nat.reduceLeDiff, and_self, Int.reduceLT, Int.reduceLE, Int.reduceNeg, Int.reduceToNat, Int.reduceAdd, Int.reduceMul, Int.reduceSub, decide_eq_true_eq]
    refine jright_ok (by omega) mu mv (fun j ej => dpb j (jn_mem u v j d nm mk.1 mk.2 ej)) fun S6 X6 => ?_
    try simp (maxSteps := 500000) (implicitDefEqProofs := false) (disch := omega) only [↓Ev.wq_aCons, ↓Ev.wq_aNil, ↓Ev.wq_and, ↓Ev.wq_bind, ↓Ev.wq_c, ↓Ev.wq_dnew, ↓Ev.wq_e1, ↓Ev.wq_e2, ↓Ev.wq_eIf, ↓Ev.wq_eL, ↓Ev.wq_eM, ↓Ev.wq_eSl, ↓Ev.wq_in, ↓Ev.wq_ite, ↓Ev.wq_ixR, ↓Ev.wq_ixS, ↓Ev.wq_ixT, ↓Ev.wq_lc, ↓Ev.wq_lst, ↓Ev.wq_no, ↓Ev.wq_not, ↓Ev.wq_oNone, ↓Ev.wq_oSome, ↓Ev.wq_ok, ↓Ev.wq_or, ↓Ev.wq_rng1, ↓Ev.wq_rng2, ↓Ev.wq_run, ↓Ev.wq_seq, ↓Ev.wq_test, ↓Ev.wq_tru, ↓Ev.wq_tup, ↓Ev.wq_vAnd, ↓Ev.wq_vNot, ↓Ev.wq_vOr, ↓Ev.wq_var0, ↓Ev.wq_varS, ↓Ev.wq_yes, ↓Ev.wq_zip, ↓Ev.ws_asg, ↓Ev.ws_brk, ↓Ev.ws_cnt, ↓Ev.ws_expr, ↓Ev.ws_for, ↓Ev.ws_if, ↓Ev.ws_in, ↓Ev.ws_kn, ↓Ev.ws_nil, ↓Ev.ws_nx, ↓Ev.ws_put, ↓Ev.ws_ret, ↓Ev.ws_retN, ↓Ev.ws_rt, ↓Ev.ws_seq, ↓Ev.ws_while, ↓Ev.ws_set, ↓Ev.wo_some, ↓Ev.onB_b, ↓Ev.onI_i, ↓Ev.Kn_rt, ↓Ev.Kn_bk, ↓Ev.Kn_ct, ↓Ev.onRet_nx, ↓Ev.onRet_rt, ↓Ev.onNx_nx, ↓Ev.onNx_ct, ↓Ev.onNx_bk, ↓Ev.onNx_rt, List.map_cons, List.map_nil, List.length_cons, List.length_nil, List.replicate, List.cons_append, List.nil_append, Nat.reduceAdd, Nat.reduceSub, List.set_cons_zero, List.set_cons_succ, if_true, if_false, true_and, and_true, Bool.false_eq_true, Bool.not_true, Bool.not_false, ↓reduceIte, Ev.ifF, Nat.zero_add, Ev.startE, Ev.wipeE, Ev.put_nm, Ev.put_tp, Ev.puts_nil, Ev.puts_cons, Option.bind_some, Ev.seqLen_t, Ev.seqLen_r, Ev.addW_ii, Ev.addW_tt, Ev.subW_ii, Ev.mulW_ii, Ev.modW_ii, Ev.fdivW_ii, Ev.powW_ii, Ev.negW_i, Ev.cmpI_ii, Ev.isW_n, Ev.isnW_n, Ev.isNon_n, Ev.isNon_b, Ev.isNon_i, Ev.isNon_s, Ev.isNon_t, Ev.isNon_l, Ev.max2W_ii, Ev.min2W_ii, Ev.intW_i, Ev.intW_b, Ev.lenW_t, Ev.lenW_r, Ev.listW_t, Ev.tupleW_t, Ev.truW_b, Ev.truW_n, Ev.truW_i, Ev.truW_t, Ev.eqW_ii, Ev.neW_ii, Ev.eqW_ss, Ev.neW_ss, Ev.eqW_bb, Ev.ixN_0, Ev.ixN_1, Ev.ixN_2, Ev.ixN_3, Ev.isi_bb, Ev.isi_bs, Ev.isi_bi, Ev.isi_bt, Ev.isi_bl, Ev.isi_ib, Ev.isi_is, Ev.isi_ii, Ev.isi_it, Ev.isi_il, Ev.isi_sb, Ev.isi_ss, Ev.isi_si, Ev.isi_st, Ev.isi_sl, Ev.isi_tb, Ev.isi_ts, Ev.isi_ti, Ev.isi_tt, Ev.isi_tl, Ev.isi_nb, Ev.isi_ns, Ev.isi_ni, Ev.isi_nt, Ev.isi_nl, Ev.atI_0, Ev.atI_1, Ev.atI_2, Ev.atI_3, Ev.atI_4, Ev.tyOk_s, Ev.slW_to, Ev.slW_from, Ev.addW_SS, Int.toNat_natCast, Option.some.injEq, List.set_set, Option.map_some, W.int.injEq, W.str.injEq, W.loc.injEq, Nat.reduceLeDiff, and_self, Int.reduceLT, Int.reduceLE, Int.reduceNeg, Int.reduceToNat, Int.reduceAdd, Int.reduceMul, Int.reduceSub, decide_eq_true_eq]
    exact ⟨_, _, rfl, ((X2.trans X4).trans X5).trans X6⟩
  · rintro s S2 ⟨x3, x4, rfl, X2⟩
    refine ⟨by rw [seqIt_l (X2.get0 e1), List.getElem?_eq_none (by rw [List.length_map]; exact Nat.le_refl _)], ?_⟩
    have mx : x.dp ≤ 50 := dpb x hx
    have my : y.dp ≤ 50 := dpb y hy
    try simp (maxSteps := 500000) (implicitDefEqProofs := false) (disch := omega) only [↓Ev.wq_aCons, ↓Ev.wq_aNil, ↓Ev.wq_and, ↓Ev.wq_bind, ↓Ev.wq_c, ↓Ev.wq_dnew, ↓Ev.wq_e1, ↓Ev.wq_e2, ↓Ev.wq_eIf, ↓Ev.wq_eL, ↓Ev.wq_eM, ↓Ev.wq_eSl, ↓Ev.wq_in, ↓Ev.wq_ite, ↓Ev.wq_ixR, ↓Ev.wq_ixS, ↓Ev.wq_ixT, ↓Ev.wq_lc, ↓Ev.wq_lst, ↓Ev.wq_no, ↓Ev.wq_not, ↓Ev.wq_oNone, ↓Ev.wq_oSome, ↓Ev.wq_ok, ↓Ev.wq_or, ↓Ev.wq_rng1, ↓Ev.wq_rng2, ↓Ev.wq_run, ↓Ev.wq_seq, ↓Ev.wq_test, ↓Ev.wq_tru, ↓Ev.wq_tup, ↓Ev.wq_vAnd, ↓Ev.wq_vNot, ↓Ev.wq_vOr, ↓Ev.wq_var0, ↓Ev.wq_varS, ↓Ev.wq_yes, ↓Ev.wq_zip, ↓Ev.ws_asg, ↓Ev.ws_brk, ↓Ev.ws_cnt, ↓Ev.ws_expr, ↓Ev.ws_for, ↓Ev.ws_if, ↓Ev.ws_in, ↓Ev.ws_kn, ↓Ev.ws_nil, ↓Ev.ws_nx, ↓Ev.ws_put, ↓Ev.ws_ret, ↓Ev.ws_retN, ↓Ev.ws_rt, ↓Ev.ws_seq, ↓Ev.ws_while, ↓Ev.ws_set, ↓Ev.wo_some, ↓Ev.onB_b, ↓Ev.onI_i, ↓Ev.Kn_rt, ↓Ev.Kn_bk, ↓Ev.Kn_ct, ↓Ev.onRet_nx, ↓Ev.onRet_rt, ↓Ev.onNx_nx, ↓Ev.onNx_ct, ↓Ev.onNx_bk, ↓Ev.onNx_rt, List.map_cons, List.map_nil, List.length_cons, List.length_nil, List.replicate, List.cons_append, List.nil_append, Nat.reduceAdd, Nat.reduceSub, List.set_cons_zero, List.set_cons_succ, if_true, if_false, true_and, and_true, Bool.false_eq_true, Bool.not_true, Bool.not_false, ↓reduceIte, Ev.ifF, Nat.zero_add, Ev.startE, Ev.wipeE, Ev.put_nm, Ev.put_tp, Ev.puts_nil, Ev.puts_cons, Option.bind_some, Ev.seqLen_t, Ev.seqLen_r, Ev.addW_ii, Ev.addW_tt, Ev.subW_ii, Ev.mulW_ii, Ev.modW_ii, Ev.fdivW_ii, Ev.powW_ii, Ev.negW_i, Ev.cmpI_ii, Ev.isW_n, Ev.isnW_n, Ev.isNon_n, Ev.isNon_b, Ev.isNon_i, Ev.isNon_s, Ev.isNon_t, Ev.isNon_l, Ev.max2W_ii, Ev.min2W_ii, Ev.intW_i, Ev.intW_b, Ev.lenW_t, Ev.lenW_r, Ev.listW_t, Ev.tupleW_t, Ev.truW_b, Ev.truW_n, Ev.truW_i, Ev.truW_t, Ev.eqW_ii, Ev.neW_ii, Ev.eqW_ss, Ev.neW_ss, Ev.eqW_bb, Ev.ixN_0, Ev.ixN_1, Ev.ixN_2, Ev.ixN_3, Ev.isi_bb, Ev.isi_bs, Ev.isi_bi, Ev.isi_bt, Ev.isi_bl, Ev.isi_ib, Ev.isi_is, Ev.isi_ii, Ev.isi_it, Ev.isi_il, Ev.isi_sb, Ev.isi_ss, Ev.isi_si, Ev.isi_st, Ev.isi_sl, Ev.isi_tb, Ev.isi_ts, Ev.isi_ti, Ev.isi_tt, Ev.isi_tl, Ev.isi_nb, Ev.isi_ns, Ev.isi_ni, Ev.isi_nt, Ev.isi_nl, Ev.atI_0, Ev.atI_1, Ev.atI_2, Ev.atI_3, Ev.atI_4, Ev.tyOk_s, Ev.slW_to, Ev.slW_from, Ev.addW_SS, Int.toNat_natCast, Option.some.injEq, List.set_set, Option.map_some, W.int.injEq, W.str.injEq, W.loc.injEq, Nat.reduceLeDiff, and_self, Int.reduceLT, Int.reduceLE, Int.reduceNeg, Int.reduceToNat, Int.reduceAdd, Int.reduceMul, Int.reduceSub, decide_eq_true_eq]
    refine wpR_mono (f_is_whole_ok x (by omega)) ?_
    rintro w S3 ⟨rfl, rfl⟩
    try simp (maxSteps := 500000) (implicitDefEqProofs := false) (disch := omega) only [↓Ev.wq_aCons, ↓Ev.wq_aNil, ↓Ev.wq_and, ↓Ev.wq_bind, ↓Ev.wq_c, ↓Ev.wq_dnew, ↓Ev.wq_e1, ↓Ev.wq_e2, ↓Ev.wq_eIf, ↓Ev.wq_eL, ↓Ev.wq_eM, ↓Ev.wq_eSl, ↓Ev.wq_in, ↓Ev.wq_ite, ↓Ev.wq_ixR, ↓Ev.wq_ixS, ↓Ev.wq_ixT, ↓Ev.wq_lc, ↓Ev.wq_lst, ↓Ev.wq_no, ↓Ev.wq_not, ↓Ev.wq_oNone, ↓Ev.wq_oSome, ↓Ev.wq_ok, ↓Ev.wq_or, ↓Ev.wq_rng1, ↓Ev.wq_rng2, ↓Ev.wq_run, ↓Ev.wq_seq, ↓Ev.wq_test, ↓Ev.wq_tru, ↓Ev.wq_tup, ↓Ev.wq_vAnd, ↓Ev.wq_vNot, ↓Ev.wq_vOr, ↓Ev.wq_var0, ↓Ev.wq_varS, ↓Ev.wq_yes, ↓Ev.wq_zip, ↓Ev.ws_asg, ↓Ev.ws_brk, ↓Ev.ws_cnt, ↓Ev.ws_expr, ↓Ev.ws_for, ↓Ev.ws_if, ↓Ev.ws_in, ↓Ev.ws_kn, ↓Ev.ws_nil, ↓Ev.ws_nx, ↓Ev.ws_put, ↓Ev.ws_ret, ↓Ev.ws_retN, ↓Ev.ws_rt, ↓Ev.ws_seq, ↓Ev.ws_while, ↓Ev.ws_set, ↓Ev.wo_some, ↓Ev.onB_b, ↓Ev.onI_i, ↓Ev.Kn_rt, ↓Ev.Kn_bk, ↓Ev.Kn_ct, ↓Ev.onRet_nx, ↓Ev.onRet_rt, ↓Ev.onNx_nx, ↓Ev.onNx_ct, ↓Ev.onNx_bk, ↓Ev.onNx_rt, List.map_cons, List.map_nil, List.length_cons, List.length_nil, List.replicate, List.cons_append, List.nil_append, Nat.reduceAdd, Nat.reduceSub, List.set_cons_zero, List.set_cons_succ, if_true, if_false, true_and, and_true, Bool.false_eq_true, Bool.not_true, Bool.not_false, ↓reduceIte, Ev.ifF, Nat.zero_add, Ev.startE, Ev.wipeE, Ev.put_nm, Ev.put_tp, Ev.puts_nil, Ev.puts_cons, Option.bind_some, Ev.seqLen_t, Ev.seqLen_r, Ev.addW_ii, Ev.addW_tt, Ev.subW_ii, Ev.mulW_ii, Ev.modW_ii, Ev.fdivW_ii, Ev.powW_ii, Ev.negW_i, Ev.cmpI_ii, Ev.isW_n, Ev.isnW_n, Ev.isNon_n, Ev.isNon_b, Ev.isNon_i, Ev.isNon_s, Ev.isNon_t, Ev.isNon_l, Ev.max2W_ii, Ev.min2W_ii, Ev.intW_i, Ev.intW_b, Ev.lenW_t, Ev.lenW_r, Ev.listW_t, Ev.tupleW_t, Ev.truW_b, Ev.truW_n, Ev.truW_i, Ev.truW_t, Ev.eqW_ii, Ev.neW_ii, Ev.eqW_ss, Ev.neW_ss, Ev.eqW_bb, Ev.ixN_0, Ev.ixN_1, Ev.ixN_2, Ev.ixN_3, Ev.isi_bb, Ev.isi_bs, Ev.isi_bi, Ev.isi_bt, Ev.isi_bl, Ev.isi_ib, Ev.isi_is, Ev.isi_ii, Ev.isi_it, Ev.isi_il, Ev.isi_sb, Ev.isi_ss, Ev.isi_si, Ev.isi_st, Ev.isi_sl, Ev.isi_tb, Ev.isi_ts, Ev.isi_ti, Ev.isi_tt, Ev.isi_tl, Ev.isi_nb, Ev.isi_ns, Ev.isi_ni, Ev.isi_nt, Ev.isi_nl, Ev.atI_0, Ev.atI_1, Ev.atI_2, Ev.atI_3, Ev.atI_4, Ev.tyOk_s, Ev.slW_to, Ev.slW_from, Ev.addW_SS, Int.toNat_natCast, Option.some.injEq, List.set_set, Option.map_some, W.int.injEq, W.str.injEq, W.loc.injEq, Nat.reduceLeDiff, and_self, Int.reduceLT, Int.reduceLE, Int.reduceNeg, Int.reduceToNat, Int.reduceAdd, Int.reduceMul, Int.reduceSub, decide_eq_true_eq]
    refine wpR_mono (f_law_whole_ok x (by omega)) ?_
    rintro w S3 ⟨rfl, rfl⟩
    try simp (maxSteps := 500000) (implicitDefEqProofs := false) (disch := omega) only [↓Ev.wq_aCons, ↓Ev.wq_aNil, ↓Ev.wq_and, ↓Ev.wq_bind, ↓Ev.wq_c, ↓Ev.wq_dnew, ↓Ev.wq_e1, ↓Ev.wq_e2, ↓Ev.wq_eIf, ↓Ev.wq_eL, ↓Ev.wq_eM, ↓Ev.wq_eSl, ↓Ev.wq_in, ↓Ev.wq_ite, ↓Ev.wq_ixR, ↓Ev.wq_ixS, ↓Ev.wq_ixT, ↓Ev.wq_lc, ↓Ev.wq_lst, ↓Ev.wq_no, ↓Ev.wq_not, ↓Ev.wq_oNone, ↓Ev.wq_oSome, ↓Ev.wq_ok, ↓Ev.wq_or, ↓Ev.wq_rng1, ↓Ev.wq_rng2, ↓Ev.wq_run, ↓Ev.wq_seq, ↓Ev.wq_test, ↓Ev.wq_tru, ↓Ev.wq_tup, ↓Ev.wq_vAnd, ↓Ev.wq_vNot, ↓Ev.wq_vOr, ↓Ev.wq_var0, ↓Ev.wq_varS, ↓Ev.wq_yes, ↓Ev.wq_zip, ↓Ev.ws_asg, ↓Ev.ws_brk, ↓Ev.ws_cnt, ↓Ev.ws_expr, ↓Ev.ws_for, ↓Ev.ws_if, ↓Ev.ws_in, ↓Ev.ws_kn, ↓Ev.ws_nil, ↓Ev.ws_nx, ↓Ev.ws_put, ↓Ev.ws_ret, ↓Ev.ws_retN, ↓Ev.ws_rt, ↓Ev.ws_seq, ↓Ev.ws_while, ↓Ev.ws_set, ↓Ev.wo_some, ↓Ev.onB_b, ↓Ev.onI_i, ↓Ev.Kn_rt, ↓Ev.Kn_bk, ↓Ev.Kn_ct, ↓Ev.onRet_nx, ↓Ev.onRet_rt, ↓Ev.onNx_nx, ↓Ev.onNx_ct, ↓Ev.onNx_bk, ↓Ev.onNx_rt, List.map_cons, List.map_nil, List.length_cons, List.length_nil, List.replicate, List.cons_append, List.nil_append, Nat.reduceAdd, Nat.reduceSub, List.set_cons_zero, List.set_cons_succ, if_true, if_false, true_and, and_true, Bool.false_eq_true, Bool.not_true, Bool.not_false, ↓reduceIte, Ev.ifF, Nat.zero_add, Ev.startE, Ev.wipeE, Ev.put_nm, Ev.put_tp, Ev.puts_nil, Ev.puts_cons, Option.bind_some, Ev.seqLen_t, Ev.seqLen_r, Ev.addW_ii, Ev.addW_tt, Ev.subW_ii, Ev.mulW_ii, Ev.modW_ii, Ev.fdivW_ii, Ev.powW_ii, Ev.negW_i, Ev.cmpI_ii, Ev.isW_n, Ev.isnW_n, Ev.isNon_n, Ev.isNon_b, Ev.isNon_i, Ev.isNon_s, Ev.isNon_t, Ev.isNon_l, Ev.max2W_ii, Ev.min2W_ii, Ev.intW_i, Ev.intW_b, Ev.lenW_t, Ev.lenW_r, Ev.listW_t, Ev.tupleW_t, Ev.truW_b, Ev.truW_n, Ev.truW_i, Ev.truW_t, Ev.eqW_ii, Ev.neW_ii, Ev.eqW_ss, Ev.neW_ss, Ev.eqW_bb, Ev.ixN_0, Ev.ixN_1, Ev.ixN_2, Ev.ixN_3, Ev.isi_bb, Ev.isi_bs, Ev.isi_bi, Ev.isi_bt, Ev.isi_bl, Ev.isi_ib, Ev.isi_is, Ev.isi_ii, Ev.isi_it, Ev.isi_il, Ev.isi_sb, Ev.isi_ss, Ev.isi_si, Ev.isi_st, Ev.isi_sl, Ev.isi_tb, Ev.isi_ts, Ev.isi_ti, Ev.isi_tt, Ev.isi_tl, Ev.isi_nb, Ev.isi_ns, Ev.isi_ni, Ev.isi_nt, Ev.isi_nl, Ev.atI_0, Ev.atI_1, Ev.atI_2, Ev.atI_3, Ev.atI_4, Ev.tyOk_s, Ev.slW_to, Ev.slW_from, Ev.addW_SS, Int.toNat_natCast, Option.some.injEq, List.set_set, Option.map_some, W.int.injEq, W.str.injEq, W.loc.injEq, Nat.reduceLeDiff, and_self, Int.reduceLT, Int.reduceLE, Int.reduceNeg, Int.reduceToNat, Int.reduceAdd, Int.reduceMul, Int.reduceSub, decide_eq_true_eq]
    refine same_ok n (d := .bool (whl x)) (show Dat S3 n _ _ by obtain ⟨m, rfl⟩ : ∃ m, n = m + 1 := ⟨n - 1, by omega⟩; rfl) (show Dat S3 n _ _ by obtain ⟨m, rfl⟩ : ∃ m, n = m + 1 := ⟨n - 1, by omega⟩; rfl) fun S4 X4 => ?_
    try simp (maxSteps := 500000) (implicitDefEqProofs := false) (disch := omega) only [↓Ev.wq_aCons, ↓Ev.wq_aNil, ↓Ev.wq_and, ↓Ev.wq_bind, ↓Ev.wq_c, ↓Ev.wq_dnew, ↓Ev.wq_e1, ↓Ev.wq_e2, ↓Ev.wq_eIf, ↓Ev.wq_eL, ↓Ev.wq_eM, ↓Ev.wq_eSl, ↓Ev.wq_in, ↓Ev.wq_ite, ↓Ev.wq_ixR, ↓Ev.wq_ixS, ↓Ev.wq_ixT, ↓Ev.wq_lc, ↓Ev.wq_lst, ↓Ev.wq_no, ↓Ev.wq_not, ↓Ev.wq_oNone, ↓Ev.wq_oSome, ↓Ev.wq_ok, ↓Ev.wq_or, ↓Ev.wq_rng1, ↓Ev.wq_rng2, ↓Ev.wq_run, ↓Ev.wq_seq, ↓Ev.wq_test, ↓Ev.wq_tru, ↓Ev.wq_tup, ↓Ev.wq_vAnd, ↓Ev.wq_vNot, ↓Ev.wq_vOr, ↓Ev.wq_var0, ↓Ev.wq_varS, ↓Ev.wq_yes, ↓Ev.wq_zip, ↓Ev.ws_asg, ↓Ev.ws_brk, ↓Ev.ws_cnt, ↓Ev.ws_expr, ↓Ev.ws_for, ↓Ev.ws_if, ↓Ev.ws_in, ↓Ev.ws_kn, ↓Ev.ws_nil, ↓Ev.ws_nx, ↓Ev.ws_put, ↓Ev.ws_ret, ↓Ev.ws_retN, ↓Ev.ws_rt, ↓Ev.ws_seq, ↓Ev.ws_while, ↓Ev.ws_set, ↓Ev.wo_some, ↓Ev.onB_b, ↓Ev.onI_i, ↓Ev.Kn_rt, ↓Ev.Kn_bk, ↓Ev.Kn_ct, ↓Ev.onRet_nx, ↓Ev.onRet_rt, ↓Ev.onNx_nx, ↓Ev.onNx_ct, ↓Ev.onNx_bk, ↓Ev.onNx_rt, List.map_cons, List.map_nil, List.length_cons, List.length_nil, List.replicate, List.cons_append, List.nil_append, Nat.reduceAdd, Nat.reduceSub, List.set_cons_zero, List.set_cons_succ, if_true, if_false, true_and, and_true, Bool.false_eq_true, Bool.not_true, Bool.not_false, ↓reduceIte, Ev.ifF, Nat.zero_add, Ev.startE, Ev.wipeE, Ev.put_nm, Ev.put_tp, Ev.puts_nil, Ev.puts_cons, Option.bind_some, Ev.seqLen_t, Ev.seqLen_r, Ev.addW_ii, Ev.addW_tt, Ev.subW_ii, Ev.mulW_ii, Ev.modW_ii, Ev.fdivW_ii, Ev.powW_ii, Ev.negW_i, Ev.cmpI_ii, Ev.isW_n, Ev.isnW_n, Ev.isNon_n, Ev.isNon_b, Ev.isNon_i, Ev.isNon_s, Ev.isNon_t, Ev.isNon_l, Ev.max2W_ii, Ev.min2W_ii, Ev.intW_i, Ev.intW_b, Ev.lenW_t, Ev.lenW_r, Ev.listW_t, Ev.tupleW_t, Ev.truW_b, Ev.truW_n, Ev.truW_i, Ev.truW_t, Ev.eqW_ii, Ev.neW_ii, Ev.eqW_ss, Ev.neW_ss, Ev.eqW_bb, Ev.ixN_0, Ev.ixN_1, Ev.ixN_2, Ev.ixN_3, Ev.isi_bb, Ev.isi_bs, Ev.isi_bi, Ev.isi_bt, Ev.isi_bl, Ev.isi_ib, Ev.isi_is, Ev.isi_ii, Ev.isi_it, Ev.isi_il, Ev.isi_sb, Ev.isi_ss, Ev.isi_si, Ev.isi_st, Ev.isi_sl, Ev.isi_tb, Ev.isi_ts, Ev.isi_ti, Ev.isi_tt, Ev.isi_tl, Ev.isi_nb, Ev.isi_ns, Ev.isi_ni, Ev.isi_nt, Ev.isi_nl, Ev.atI_0, Ev.atI_1, Ev.atI_2, Ev.atI_3, Ev.atI_4, Ev.tyOk_s, Ev.slW_to, Ev.slW_from, Ev.addW_SS, Int.toNat_natCast, Option.some.injEq, List.set_set, Option.map_some, W.int.injEq, W.str.injEq, W.loc.injEq, Nat.reduceLeDiff, and_self, Int.reduceLT, Int.reduceLE, Int.reduceNeg, Int.reduceToNat, Int.reduceAdd, Int.reduceMul, Int.reduceSub, decide_eq_true_eq]
    refine wpR_mono (f_is_whole_ok y (by omega)) ?_
    rintro w S5 ⟨rfl, rfl⟩
    try simp (maxSteps := 500000) (implicitDefEqProofs := false) (disch := omega) only [↓Ev.wq_aCons, ↓Ev.wq_aNil, ↓Ev.wq_and, ↓Ev.wq_bind, ↓Ev.wq_c, ↓Ev.wq_dnew, ↓Ev.wq_e1, ↓Ev.wq_e2, ↓Ev.wq_eIf, ↓Ev.wq_eL, ↓Ev.wq_eM, ↓Ev.wq_eSl, ↓Ev.wq_in, ↓Ev.wq_ite, ↓Ev.wq_ixR, ↓Ev.wq_ixS, ↓Ev.wq_ixT, ↓Ev.wq_lc, ↓Ev.wq_lst, ↓Ev.wq_no, ↓Ev.wq_not, ↓Ev.wq_oNone, ↓Ev.wq_oSome, ↓Ev.wq_ok, ↓Ev.wq_or, ↓Ev.wq_rng1, ↓Ev.wq_rng2, ↓Ev.wq_run, ↓Ev.wq_seq, ↓Ev.wq_test, ↓Ev.wq_tru, ↓Ev.wq_tup, ↓Ev.wq_vAnd, ↓Ev.wq_vNot, ↓Ev.wq_vOr, ↓Ev.wq_var0, ↓Ev.wq_varS, ↓Ev.wq_yes, ↓Ev.wq_zip, ↓Ev.ws_asg, ↓Ev.ws_brk, ↓Ev.ws_cnt, ↓Ev.ws_expr, ↓Ev.ws_for, ↓Ev.ws_if, ↓Ev.ws_in, ↓Ev.ws_kn, ↓Ev.ws_nil, ↓Ev.ws_nx, ↓Ev.ws_put, ↓Ev.ws_ret, ↓Ev.ws_retN, ↓Ev.ws_rt, ↓Ev.ws_seq, ↓Ev.ws_while, ↓Ev.ws_set, ↓Ev.wo_some, ↓Ev.onB_b, ↓Ev.onI_i, ↓Ev.Kn_rt, ↓Ev.Kn_bk, ↓Ev.Kn_ct, ↓Ev.onRet_nx, ↓Ev.onRet_rt, ↓Ev.onNx_nx, ↓Ev.onNx_ct, ↓Ev.onNx_bk, ↓Ev.onNx_rt, List.map_cons, List.map_nil, List.length_cons, List.length_nil, List.replicate, List.cons_append, List.nil_append, Nat.reduceAdd, Nat.reduceSub, List.set_cons_zero, List.set_cons_succ, if_true, if_false, true_and, and_true, Bool.false_eq_true, Bool.not_true, Bool.not_false, ↓reduceIte, Ev.ifF, Nat.zero_add, Ev.startE, Ev.wipeE, Ev.put_nm, Ev.put_tp, Ev.puts_nil, Ev.puts_cons, Option.bind_some, Ev.seqLen_t, Ev.seqLen_r, Ev.addW_ii, Ev.addW_tt, Ev.subW_ii, Ev.mulW_ii, Ev.modW_ii, Ev.fdivW_ii, Ev.powW_ii, Ev.negW_i, Ev.cmpI_ii, Ev.isW_n, Ev.isnW_n, Ev.isNon_n, Ev.isNon_b, Ev.isNon_i, Ev.isNon_s, Ev.isNon_t, Ev.isNon_l, Ev.max2W_ii, Ev.min2W_ii, Ev.intW_i, Ev.intW_b, Ev.lenW_t, Ev.lenW_r, Ev.listW_t, Ev.tupleW_t, Ev.truW_b, Ev.truW_n, Ev.truW_i, Ev.truW_t, Ev.eqW_ii, Ev.neW_ii, Ev.eqW_ss, Ev.neW_ss, Ev.eqW_bb, Ev.ixN_0, Ev.ixN_1, Ev.ixN_2, Ev.ixN_3, Ev.isi_bb, Ev.isi_bs, Ev.isi_bi, Ev.isi_bt, Ev.isi_bl, Ev.isi_ib, Ev.isi_is, Ev.isi_ii, Ev.isi_it, Ev.isi_il, Ev.isi_sb, Ev.isi_ss, Ev.isi_si, Ev.isi_st, Ev.isi_sl, Ev.isi_tb, Ev.isi_ts, Ev.isi_ti, Ev.isi_tt, Ev.isi_tl, Ev.isi_nb, Ev.isi_ns, Ev.isi_ni, Ev.isi_nt, Ev.isi_nl, Ev.atI_0, Ev.atI_1, Ev.atI_2, Ev.atI_3, Ev.atI_4, Ev.tyOk_s, Ev.slW_to, Ev.slW_from, Ev.addW_SS, Int.toNat_natCast, Option.some.injEq, List.set_set, Option.map_some, W.int.injEq, W.str.injEq, W.loc.injEq, Nat.reduceLeDiff, and_self, Int.reduceLT, Int.reduceLE, Int.reduceNeg, Int.reduceToNat, Int.reduceAdd, Int.reduceMul, Int.reduceSub, decide_eq_true_eq]
    refine wpR_mono (f_law_whole_ok y (by omega)) ?_
    rintro w S5 ⟨rfl, rfl⟩
    try simp (maxSteps := 500000) (implicitDefEqProofs := false) (disch := omega) only [↓Ev.wq_aCons, ↓Ev.wq_aNil, ↓Ev.wq_and, ↓Ev.wq_bind, ↓Ev.wq_c, ↓Ev.wq_dnew, ↓Ev.wq_e1, ↓Ev.wq_e2, ↓Ev.wq_eIf, ↓Ev.wq_eL, ↓Ev.wq_eM, ↓Ev.wq_eSl, ↓Ev.wq_in, ↓Ev.wq_ite, ↓Ev.wq_ixR, ↓Ev.wq_ixS, ↓Ev.wq_ixT, ↓Ev.wq_lc, ↓Ev.wq_lst, ↓Ev.wq_no, ↓Ev.wq_not, ↓Ev.wq_oNone, ↓Ev.wq_oSome, ↓Ev.wq_ok, ↓Ev.wq_or, ↓Ev.wq_rng1, ↓Ev.wq_rng2, ↓Ev.wq_run, ↓Ev.wq_seq, ↓Ev.wq_test, ↓Ev.wq_tru, ↓Ev.wq_tup, ↓Ev.wq_vAnd, ↓Ev.wq_vNot, ↓Ev.wq_vOr, ↓Ev.wq_var0, ↓Ev.wq_varS, ↓Ev.wq_yes, ↓Ev.wq_zip, ↓Ev.ws_asg, ↓Ev.ws_brk, ↓Ev.ws_cnt, ↓Ev.ws_expr, ↓Ev.ws_for, ↓Ev.ws_if, ↓Ev.ws_in, ↓Ev.ws_kn, ↓Ev.ws_nil, ↓Ev.ws_nx, ↓Ev.ws_put, ↓Ev.ws_ret, ↓Ev.ws_retN, ↓Ev.ws_rt, ↓Ev.ws_seq, ↓Ev.ws_while, ↓Ev.ws_set, ↓Ev.wo_some, ↓Ev.onB_b, ↓Ev.onI_i, ↓Ev.Kn_rt, ↓Ev.Kn_bk, ↓Ev.Kn_ct, ↓Ev.onRet_nx, ↓Ev.onRet_rt, ↓Ev.onNx_nx, ↓Ev.onNx_ct, ↓Ev.onNx_bk, ↓Ev.onNx_rt, List.map_cons, List.map_nil, List.length_cons, List.length_nil, List.replicate, List.cons_append, List.nil_append, Nat.reduceAdd, Nat.reduceSub, List.set_cons_zero, List.set_cons_succ, if_true, if_false, true_and, and_true, Bool.false_eq_true, Bool.not_true, Bool.not_false, ↓reduceIte, Ev.ifF, Nat.zero_add, Ev.startE, Ev.wipeE, Ev.put_nm, Ev.put_tp, Ev.puts_nil, Ev.puts_cons, Option.bind_some, Ev.seqLen_t, Ev.seqLen_r, Ev.addW_ii, Ev.addW_tt, Ev.subW_ii, Ev.mulW_ii, Ev.modW_ii, Ev.fdivW_ii, Ev.powW_ii, Ev.negW_i, Ev.cmpI_ii, Ev.isW_n, Ev.isnW_n, Ev.isNon_n, Ev.isNon_b, Ev.isNon_i, Ev.isNon_s, Ev.isNon_t, Ev.isNon_l, Ev.max2W_ii, Ev.min2W_ii, Ev.intW_i, Ev.intW_b, Ev.lenW_t, Ev.lenW_r, Ev.listW_t, Ev.tupleW_t, Ev.truW_b, Ev.truW_n, Ev.truW_i, Ev.truW_t, Ev.eqW_ii, Ev.neW_ii, Ev.eqW_ss, Ev.neW_ss, Ev.eqW_bb, Ev.ixN_0, Ev.ixN_1, Ev.ixN_2, Ev.ixN_3, Ev.isi_bb, Ev.isi_bs, Ev.isi_bi, Ev.isi_bt, Ev.isi_bl, Ev.isi_ib, Ev.isi_is, Ev.isi_ii, Ev.isi_it, Ev.isi_il, Ev.isi_sb, Ev.isi_ss, Ev.isi_si, Ev.isi_st, Ev.isi_sl, Ev.isi_tb, Ev.isi_ts, Ev.isi_ti, Ev.isi_tt, Ev.isi_tl, Ev.isi_nb, Ev.isi_ns, Ev.isi_ni, Ev.isi_nt, Ev.isi_nl, Ev.atI_0, Ev.atI_1, Ev.atI_2, Ev.atI_3, Ev.atI_4, Ev.tyOk_s, Ev.slW_to, Ev.slW_from, Ev.addW_SS, Int.toNat_natCast, Option.some.injEq, List.set_set, Option.map_some, W.int.injEq, W.str.injEq, W.loc.injEq, Nat.reduceLeDiff, and_self, Int.reduceLT, Int.reduceLE, Int.reduceNeg, Int.reduceToNat, Int.reduceAdd, Int.reduceMul, Int.reduceSub, decide_eq_true_eq]
    refine same_ok n (d := .bool (whl y)) (show Dat S5 n _ _ by obtain ⟨m, rfl⟩ : ∃ m, n = m + 1 := ⟨n - 1, by omega⟩; rfl) (show Dat S5 n _ _ by obtain ⟨m, rfl⟩ : ∃ m, n = m + 1 := ⟨n - 1, by omega⟩; rfl) fun S6 X6 => ?_
    try simp (maxSteps := 500000) (implicitDefEqProofs := false) (disch := omega) only [↓Ev.wq_aCons, ↓Ev.wq_aNil, ↓Ev.wq_and, ↓Ev.wq_bind, ↓Ev.wq_c, ↓Ev.wq_dnew, ↓Ev.wq_e1, ↓Ev.wq_e2, ↓Ev.wq_eIf, ↓Ev.wq_eL, ↓Ev.wq_eM, ↓Ev.wq_eSl, ↓Ev.wq_in, ↓Ev.wq_ite, ↓Ev.wq_ixR, ↓Ev.wq_ixS, ↓Ev.wq_ixT, ↓Ev.wq_lc, ↓Ev.wq_lst, ↓Ev.wq_no, ↓Ev.wq_not, ↓Ev.wq_oNone, ↓Ev.wq_oSome, ↓Ev.wq_ok, ↓Ev.wq_or, ↓Ev.wq_rng1, ↓Ev.wq_rng2, ↓Ev.wq_run, ↓Ev.wq_seq, ↓Ev.wq_test, ↓Ev.wq_tru, ↓Ev.wq_tup, ↓Ev.wq_vAnd, ↓Ev.wq_vNot, ↓Ev.wq_vOr, ↓Ev.wq_var0, ↓Ev.wq_varS, ↓Ev.wq_yes, ↓Ev.wq_zip, ↓Ev.ws_asg, ↓Ev.ws_brk, ↓Ev.ws_cnt, ↓Ev.ws_expr, ↓Ev.ws_for, ↓Ev.ws_if, ↓Ev.ws_in, ↓Ev.ws_kn, ↓Ev.ws_nil, ↓Ev.ws_nx, ↓Ev.ws_put, ↓Ev.ws_ret, ↓Ev.ws_retN, ↓Ev.ws_rt, ↓Ev.ws_seq, ↓Ev.ws_while, ↓Ev.ws_set, ↓Ev.wo_some, ↓Ev.onB_b, ↓Ev.onI_i, ↓Ev.Kn_rt, ↓Ev.Kn_bk, ↓Ev.Kn_ct, ↓Ev.onRet_nx, ↓Ev.onRet_rt, ↓Ev.onNx_nx, ↓Ev.onNx_ct, ↓Ev.onNx_bk, ↓Ev.onNx_rt, List.map_cons, List.map_nil, List.length_cons, List.length_nil, List.replicate, List.cons_append, List.nil_append, Nat.reduceAdd, Nat.reduceSub, List.set_cons_zero, List.set_cons_succ, if_true, if_false, true_and, and_true, Bool.false_eq_true, Bool.not_true, Bool.not_false, ↓reduceIte, Ev.ifF, Nat.zero_add, Ev.startE, Ev.wipeE, Ev.put_nm, Ev.put_tp, Ev.puts_nil, Ev.puts_cons, Option.bind_some, Ev.seqLen_t, Ev.seqLen_r, Ev.addW_ii, Ev.addW_tt, Ev.subW_ii, Ev.mulW_ii, Ev.modW_ii, Ev.fdivW_ii, Ev.powW_ii, Ev.negW_i, Ev.cmpI_ii, Ev.isW_n, Ev.isnW_n, Ev.isNon_n, Ev.isNon_b, Ev.isNon_i, Ev.isNon_s, Ev.isNon_t, Ev.isNon_l, Ev.max2W_ii, Ev.min2W_ii, Ev.intW_i, Ev.intW_b, Ev.lenW_t, Ev.lenW_r, Ev.listW_t, Ev.tupleW_t, Ev.truW_b, Ev.truW_n, Ev.truW_i, Ev.truW_t, Ev.eqW_ii, Ev.neW_ii, Ev.eqW_ss, Ev.neW_ss, Ev.eqW_bb, Ev.ixN_0, Ev.ixN_1, Ev.ixN_2, Ev.ixN_3, Ev.isi_bb, Ev.isi_bs, Ev.isi_bi, Ev.isi_bt, Ev.isi_bl, Ev.isi_ib, Ev.isi_is, Ev.isi_ii, Ev.isi_it, Ev.isi_il, Ev.isi_sb, Ev.isi_ss, Ev.isi_si, Ev.isi_st, Ev.isi_sl, Ev.isi_tb, Ev.isi_ts, Ev.isi_ti, Ev.isi_tt, Ev.isi_tl, Ev.isi_nb, Ev.isi_ns, Ev.isi_ni, Ev.isi_nt, Ev.isi_nl, Ev.atI_0, Ev.atI_1, Ev.atI_2, Ev.atI_3, Ev.atI_4, Ev.tyOk_s, Ev.slW_to, Ev.slW_from, Ev.addW_SS, Int.toNat_natCast, Option.some.injEq, List.set_set, Option.map_some, W.int.injEq, W.str.injEq, W.loc.injEq, Nat.reduceLeDiff, and_self, Int.reduceLT, Int.reduceLE, Int.reduceNeg, Int.reduceToNat, Int.reduceAdd, Int.reduceMul, Int.reduceSub, decide_eq_true_eq]
    exact h _ (((X1.trans X2).trans X4).trans X6)
end Lw

set_option linter.all false
set_option maxRecDepth 100000
namespace Lw
open PySem L2 Ev
/-- a dict of kinds at a place -/
structure ShAt (S : Sto) (p : Nat) (ks : List Kd) : Prop where
  at_ : S[p]? = some (.dct (shD ks))
  ok : KOk alphaL alphaU 30 ks
  ne : ks ≠ []
  le : ks.length ≤ 6
theorem ShAt.xt {S S' : Sto} {p : Nat} {ks : List Kd} (h : ShAt S p ks) (x : Xt [] S S') : ShAt S' p ks := ⟨x.get0 h.at_, h.ok, h.ne, h.le⟩
theorem law_true (ns : List Int) (hl : ns.length ≤ 63) (hb : ∀ z ∈ ns, Builtin.Int.intBits z ≤ 1048576) : ∃ S, call (LV + 1) .f_law [.rol (ns.map W.int)] [] = .ok (.bl true) S := by
  suffices h : wpR (call (LV + 1) .f_law [.rol (ns.map W.int)] []) (fun w _ => w = .bl true) by
    obtain ⟨a, S, e, rfl⟩ := wpR_ex h
    exact ⟨S, e⟩
  rw [call_s, body]
  try simp (maxSteps := 500000) (implicitDefEqProofs := false) (disch := omega) only [↓Ev.wq_aCons, ↓Ev.wq_aNil, ↓Ev.wq_and, ↓Ev.wq_bind, ↓Ev.wq_c, ↓Ev.wq_dnew, ↓Ev.wq_e1, ↓Ev.wq_e2, ↓Ev.wq_eIf, ↓Ev.wq_eL, ↓Ev.wq_eM, ↓Ev.wq_eSl, ↓Ev.wq_in, ↓Ev.wq_ite, ↓Ev.wq_ixR, ↓Ev.wq_ixS, ↓Ev.wq_ixT, ↓Ev.wq_lc, ↓Ev.wq_lst, ↓Ev.wq_no, ↓Ev.wq_not, ↓Ev.wq_oNone, ↓Ev.wq_oSome, ↓Ev.wq_ok, ↓Ev.wq_or, ↓Ev.wq_rng1, ↓Ev.wq_rng2, ↓Ev.wq_run, ↓Ev.wq_seq, ↓Ev.wq_test, ↓Ev.wq_tru, ↓Ev.wq_tup, ↓Ev.wq_vAnd, ↓Ev.wq_vNot, ↓Ev.wq_vOr, ↓Ev.wq_var0, ↓Ev.wq_varS, ↓Ev.wq_yes, ↓Ev.wq_zip, ↓Ev.ws_asg, ↓Ev.ws_brk, ↓Ev.ws_cnt, ↓Ev.ws_expr, ↓Ev.ws_for, ↓Ev.ws_if, ↓Ev.ws_in, ↓Ev.ws_kn, ↓Ev.ws_nil, ↓Ev.ws_nx, ↓Ev.ws_put, ↓Ev.ws_ret, ↓Ev.ws_retN, ↓Ev.ws_rt, ↓Ev.ws_seq, ↓Ev.ws_while, ↓Ev.ws_set, ↓Ev.wo_some, ↓Ev.onB_b, ↓Ev.onI_i, ↓Ev.Kn_rt, ↓Ev.Kn_bk, ↓Ev.Kn_ct, ↓Ev.onRet_nx, ↓Ev.onRet_rt, ↓Ev.onNx_nx, ↓Ev.onNx_ct, ↓Ev.onNx_bk, ↓Ev.onNx_rt, List.map_cons, List.map_nil, List.length_cons, List.length_nil, List.replicate, List.cons_append, List.nil_append, Nat.reduceAdd, Nat.reduceSub, List.set_cons_zero, List.set_cons_succ, if_true, if_false, true_and, and_true, Bool.false_eq_true, Bool.not_true, Bool.not_false, ↓reduceIte, Ev.ifF, Nat.zero_add, Ev.startE, Ev.wipeE, Ev.put_nm, Ev.put_tp, Ev.puts_nil, Ev.puts_cons, Option.bind_some, Ev.seqLen_t, Ev.seqLen_r, Ev.addW_ii, Ev.addW_tt, Ev.subW_ii, Ev.mulW_ii, Ev.modW_ii, Ev.fdivW_ii, Ev.powW_ii, Ev.negW_i, Ev.cmpI_ii, Ev.isW_n, Ev.isnW_n, Ev.isNon_n, Ev.isNon_b, Ev.isNon_i, Ev.isNon_s, Ev.isNon_t, Ev.isNon_l, Ev.max2W_ii, Ev.min2W_ii, Ev.intW_i, Ev.intW_b, Ev.lenW_t, Ev.lenW_r, Ev.listW_t, Ev.tupleW_t, Ev.truW_b, Ev.truW_n, Ev.truW_i, Ev.truW_t, Ev.eqW_ii, Ev.neW_ii, Ev.eqW_ss, Ev.neW_ss, Ev.eqW_bb, Ev.ixN_0, Ev.ixN_1, Ev.ixN_2, Ev.ixN_3, Ev.isi_bb, Ev.isi_bs, Ev.isi_bi, Ev.isi_bt, Ev.isi_bl, Ev.isi_ib, Ev.isi_is, Ev.isi_ii, Ev.isi_it, Ev.isi_il, Ev.isi_sb, Ev.isi_ss, Ev.isi_si, Ev.isi_st, Ev.isi_sl, Ev.isi_tb, Ev.isi_ts, Ev.isi_ti, Ev.isi_tt, Ev.isi_tl, Ev.isi_nb, Ev.isi_ns, Ev.isi_ni, Ev.isi_nt, Ev.isi_nl, Ev.atI_0, Ev.atI_1, Ev.atI_2, Ev.atI_3, Ev.atI_4, Ev.tyOk_s, Ev.slW_to, Ev.slW_from, Ev.addW_SS, Int.toNat_natCast, Option.some.injEq, List.set_set, Option.map_some, W.int.injEq, W.str.injEq, W.loc.injEq, Nat.reduceLeDiff, and_self, Int.reduceLT, Int.reduceLE, Int.reduceNeg, Int.reduceToNat, Int.reduceAdd, Int.reduceMul, Int.reduceSub, decide_eq_true_eq, m_f_law]
  refine wp_lclN 2 (fun j acc S => acc.length = j ∧ ∀ w ∈ acc, ∃ p ks, w = .loc p ∧ ShAt S p ks) (by decide) ⟨rfl, fun w h => by cases h⟩ ?_ ?_
  · rintro j acc S hj ⟨ha, hs⟩
    refine ⟨_, _, rng0_lt hj, rfl, ?_⟩
    try simp (maxSteps := 500000) (implicitDefEqProofs := false) (disch := omega) only [↓Ev.wq_aCons, ↓Ev.wq_aNil, ↓Ev.wq_and, ↓Ev.wq_bind, ↓Ev.wq_c, ↓Ev.wq_dnew, ↓Ev.wq_e1, ↓Ev.wq_e2, ↓Ev.wq_eIf, ↓Ev.wq_eL, ↓Ev.wq_eM, ↓Ev.wq_eSl, ↓Ev.wq_in, ↓Ev.wq_ite, ↓Ev.wq_ixR, ↓Ev.wq_ixS, ↓Ev.wq_ixT, ↓Ev.wq_lc, ↓Ev.wq_lst, ↓Ev.wq_no, ↓Ev.wq_not, ↓Ev.wq_oNone, ↓Ev.wq_oSome, ↓Ev.wq_ok, ↓Ev.wq_or, ↓Ev.wq_rng1, ↓Ev.wq_rng2, ↓Ev.wq_run, ↓Ev.wq_seq, ↓Ev.wq_test, ↓Ev.wq_tru, ↓Ev.wq_tup, ↓Ev.wq_vAnd, ↓Ev.wq_vNot, ↓Ev.wq_vOr, ↓Ev.wq_var0, ↓Ev.wq_varS, ↓Ev.wq_yes, ↓Ev.wq_zip, ↓Ev.ws_asg, ↓Ev.ws_brk, ↓Ev.ws_cnt, ↓Ev.ws_expr, ↓Ev.ws_for, ↓Ev.ws_if, ↓Ev.ws_in, ↓Ev.ws_kn, ↓Ev.ws_nil, ↓Ev.ws_nx, ↓Ev.ws_put, ↓Ev.ws_ret, ↓Ev.ws_retN, ↓Ev.ws_rt, ↓Ev.ws_seq, ↓Ev.ws_while, ↓Ev.ws_set, ↓Ev.wo_some, ↓Ev.onB_b, ↓Ev.onI_i, ↓Ev.Kn_rt, ↓Ev.Kn_bk, ↓Ev.Kn_ct, ↓Ev.onRet_nx, ↓Ev.onRet_rt, ↓Ev.onNx_nx, ↓Ev.onNx_ct, ↓Ev.onNx_bk, ↓Ev.onNx_rt, List.map_cons, List.map_nil, List.length_cons, List.length_nil, List.replicate, List.cons_append, List.nil_append, Nat.reduceAdd, Nat.reduceSub, List.set_cons_zero, List.set_cons_succ, if_true, if_false, true_and, and_true, Bool.false_eq_true, Bool.not_true, Bool.not_false, ↓reduceIte, Ev.ifF, Nat.zero_add, Ev.startE, Ev.wipeE, Ev.put_nm, Ev.put_tp, Ev.puts_nil, Ev.puts_cons, Option.bind_some, Ev.seqLen_t, Ev.seqLen_r, Ev.addW_ii, Ev.addW_tt, Ev.subW_ii, Ev.mulW_ii, Ev.modW_ii, Ev.fdivW_ii, Ev.powW_ii, Ev.negW_i, Ev.cmpI_ii, Ev.isW_n, Ev.isnW_n, Ev.isNon_n, Ev.isNon_b, Ev.isNon_i, Ev.isNon_s, Ev.isNon_t, Ev.isNon_l, Ev.max2W_ii, Ev.min2W_ii, Ev.intW_i, Ev.intW_b, Ev.lenW_t, Ev.lenW_r, Ev.listW_t, Ev.tupleW_t, Ev.truW_b, Ev.truW_n, Ev.truW_i, Ev.truW_t, Ev.eqW_ii, Ev.neW_ii, Ev.eqW_ss, Ev.neW_ss, Ev.eqW_bb, Ev.ixN_0, Ev.ixN_1, Ev.ixN_2, Ev.ixN_3, Ev.isi_bb, Ev.isi_bs, Ev.isi_bi, Ev.isi_bt, Ev.isi_bl, Ev.isi_ib, Ev.isi_is, Ev.isi_ii, Ev.isi_it, Ev.isi_il, Ev.isi_sb, Ev.isi_ss, Ev.isi_si, Ev.isi_st, Ev.isi_sl, Ev.isi_tb, Ev.isi_ts, Ev.isi_ti, Ev.isi_tt, Ev.isi_tl, Ev.isi_nb, Ev.isi_ns, Ev.isi_ni, Ev.isi_nt, Ev.isi_nl, Ev.atI_0, Ev.atI_1, Ev.atI_2, Ev.atI_3, Ev.atI_4, Ev.tyOk_s, Ev.slW_to, Ev.slW_from, Ev.addW_SS, Int.toNat_natCast, Option.some.injEq, List.set_set, Option.map_some, W.int.injEq, W.str.injEq, W.loc.injEq, Nat.reduceLeDiff, and_self, Int.reduceLT, Int.reduceLE, Int.reduceNeg, Int.reduceToNat, Int.reduceAdd, Int.reduceMul, Int.reduceSub, decide_eq_true_eq]
    refine cell_ok (by decide) (by omega) fun c => ?_
    try simp (maxSteps := 500000) (implicitDefEqProofs := false) (disch := omega) only [↓Ev.wq_aCons, ↓Ev.wq_aNil, ↓Ev.wq_and, ↓Ev.wq_bind, ↓Ev.wq_c, ↓Ev.wq_dnew, ↓Ev.wq_e1, ↓Ev.wq_e2, ↓Ev.wq_eIf, ↓Ev.wq_eL, ↓Ev.wq_eM, ↓Ev.wq_eSl, ↓Ev.wq_in, ↓Ev.wq_ite, ↓Ev.wq_ixR, ↓Ev.wq_ixS, ↓Ev.wq_ixT, ↓Ev.wq_lc, ↓Ev.wq_lst, ↓Ev.wq_no, ↓Ev.wq_not, ↓Ev.wq_oNone, ↓Ev.wq_oSome, ↓Ev.wq_ok, ↓Ev.wq_or, ↓Ev.wq_rng1, ↓Ev.wq_rng2, ↓Ev.wq_run, ↓Ev.wq_seq, ↓Ev.wq_test, ↓Ev.wq_tru, ↓Ev.wq_tup, ↓Ev.wq_vAnd, ↓Ev.wq_vNot, ↓Ev.wq_vOr, ↓Ev.wq_var0, ↓Ev.wq_varS, ↓Ev.wq_yes, ↓Ev.wq_zip, ↓Ev.ws_asg, ↓Ev.ws_brk, ↓Ev.ws_cnt, ↓Ev.ws_expr, ↓Ev.ws_for, ↓Ev.ws_if, ↓Ev.ws_in, ↓Ev.ws_kn, ↓Ev.ws_nil, ↓Ev.ws_nx, ↓Ev.ws_put, ↓Ev.ws_ret, ↓Ev.ws_retN, ↓Ev.ws_rt, ↓Ev.ws_seq, ↓Ev.ws_while, ↓Ev.ws_set, ↓Ev.wo_some, ↓Ev.onB_b, ↓Ev.onI_i, ↓Ev.Kn_rt, ↓Ev.Kn_bk, ↓Ev.Kn_ct, ↓Ev.onRet_nx, ↓Ev.onRet_rt, ↓Ev.onNx_nx, ↓Ev.onNx_ct, ↓Ev.onNx_bk, ↓Ev.onNx_rt, List.map_cons, List.map_nil, List.length_cons, List.length_nil, List.replicate, List.cons_append, List.nil_append, Nat.reduceAdd, Nat.reduceSub, List.set_cons_zero, List.set_cons_succ, if_true, if_false, true_and, and_true, Bool.false_eq_true, Bool.not_true, Bool.not_false, ↓reduceIte, Ev.ifF, Nat.zero_add, Ev.startE, Ev.wipeE, Ev.put_nm, Ev.put_tp, Ev.puts_nil, Ev.puts_cons, Option.bind_some, Ev.seqLen_t, Ev.seqLen_r, Ev.addW_ii, Ev.addW_tt, Ev.subW_ii, Ev.mulW_ii, Ev.modW_ii, Ev.fdivW_ii, Ev.powW_ii, Ev.negW_i, Ev.cmpI_ii, Ev.isW_n, Ev.isnW_n, Ev.isNon_n, Ev.isNon_b, Ev.isNon_i, Ev.isNon_s, Ev.isNon_t, Ev.isNon_l, Ev.max2W_ii, Ev.min2W_ii, Ev.intW_i, Ev.intW_b, Ev.lenW_t, Ev.lenW_r, Ev.listW_t, Ev.tupleW_t, Ev.truW_b, Ev.truW_n, Ev.truW_i, Ev.truW_t, Ev.eqW_ii, Ev.neW_ii, Ev.eqW_ss, Ev.neW_ss, Ev.eqW_bb, Ev.ixN_0, Ev.ixN_1, Ev.ixN_2, Ev.ixN_3, Ev.isi_bb, Ev.isi_bs, Ev.isi_bi, Ev.isi_bt, Ev.isi_bl, Ev.isi_ib, Ev.isi_is, Ev.isi_ii, Ev.isi_it, Ev.isi_il, Ev.isi_sb, Ev.isi_ss, Ev.isi_si, Ev.isi_st, Ev.isi_sl, Ev.isi_tb, Ev.isi_ts, Ev.isi_ti, Ev.isi_tt, Ev.isi_tl, Ev.isi_nb, Ev.isi_ns, Ev.isi_ni, Ev.isi_nt, Ev.isi_nl, Ev.atI_0, Ev.atI_1, Ev.atI_2, Ev.atI_3, Ev.atI_4, Ev.tyOk_s, Ev.slW_to, Ev.slW_from, Ev.addW_SS, Int.toNat_natCast, Option.some.injEq, List.set_set, Option.map_some, W.int.injEq, W.str.injEq, W.loc.injEq, Nat.reduceLeDiff, and_self, Int.reduceLT, Int.reduceLE, Int.reduceNeg, Int.reduceToNat, Int.reduceAdd, Int.reduceMul, Int.reduceSub, decide_eq_true_eq]
    refine stream_ok (by decide) fun S1 X1 l1 st1 => ?_
    try simp (maxSteps := 500000) (implicitDefEqProofs := false) (disch := omega) only [↓Ev.wq_aCons, ↓Ev.wq_aNil, ↓Ev.wq_and, ↓Ev.wq_bind, ↓Ev.wq_c, ↓Ev.wq_dnew, ↓Ev.wq_e1, ↓Ev.wq_e2, ↓Ev.wq_eIf, ↓Ev.wq_eL, ↓Ev.wq_eM, ↓Ev.wq_eSl, ↓Ev.wq_in, ↓Ev.wq_ite, ↓Ev.wq_ixR, ↓Ev.wq_ixS, ↓Ev.wq_ixT, ↓Ev.wq_lc, ↓Ev.wq_lst, ↓Ev.wq_no, ↓Ev.wq_not, ↓Ev.wq_oNone, ↓Ev.wq_oSome, ↓Ev.wq_ok, ↓Ev.wq_or, ↓Ev.wq_rng1, ↓Ev.wq_rng2, ↓Ev.wq_run, ↓Ev.wq_seq, ↓Ev.wq_test, ↓Ev.wq_tru, ↓Ev.wq_tup, ↓Ev.wq_vAnd, ↓Ev.wq_vNot, ↓Ev.wq_vOr, ↓Ev.wq_var0, ↓Ev.wq_varS, ↓Ev.wq_yes, ↓Ev.wq_zip, ↓Ev.ws_asg, ↓Ev.ws_brk, ↓Ev.ws_cnt, ↓Ev.ws_expr, ↓Ev.ws_for, ↓Ev.ws_if, ↓Ev.ws_in, ↓Ev.ws_kn, ↓Ev.ws_nil, ↓Ev.ws_nx, ↓Ev.ws_put, ↓Ev.ws_ret, ↓Ev.ws_retN, ↓Ev.ws_rt, ↓Ev.ws_seq, ↓Ev.ws_while, ↓Ev.ws_set, ↓Ev.wo_some, ↓Ev.onB_b, ↓Ev.onI_i, ↓Ev.Kn_rt, ↓Ev.Kn_bk, ↓Ev.Kn_ct, ↓Ev.onRet_nx, ↓Ev.onRet_rt, ↓Ev.onNx_nx, ↓Ev.onNx_ct, ↓Ev.onNx_bk, ↓Ev.onNx_rt, List.map_cons, List.map_nil, List.length_cons, List.length_nil, List.replicate, List.cons_append, List.nil_append, Nat.reduceAdd, Nat.reduceSub, List.set_cons_zero, List.set_cons_succ, if_true, if_false, true_and, and_true, Bool.false_eq_true, Bool.not_true, Bool.not_false, ↓reduceIte, Ev.ifF, Nat.zero_add, Ev.startE, Ev.wipeE, Ev.put_nm, Ev.put_tp, Ev.puts_nil, Ev.puts_cons, Option.bind_some, Ev.seqLen_t, Ev.seqLen_r, Ev.addW_ii, Ev.addW_tt, Ev.subW_ii, Ev.mulW_ii, Ev.modW_ii, Ev.fdivW_ii, Ev.powW_ii, Ev.negW_i, Ev.cmpI_ii, Ev.isW_n, Ev.isnW_n, Ev.isNon_n, Ev.isNon_b, Ev.isNon_i, Ev.isNon_s, Ev.isNon_t, Ev.isNon_l, Ev.max2W_ii, Ev.min2W_ii, Ev.intW_i, Ev.intW_b, Ev.lenW_t, Ev.lenW_r, Ev.listW_t, Ev.tupleW_t, Ev.truW_b, Ev.truW_n, Ev.truW_i, Ev.truW_t, Ev.eqW_ii, Ev.neW_ii, Ev.eqW_ss, Ev.neW_ss, Ev.eqW_bb, Ev.ixN_0, Ev.ixN_1, Ev.ixN_2, Ev.ixN_3, Ev.isi_bb, Ev.isi_bs, Ev.isi_bi, Ev.isi_bt, Ev.isi_bl, Ev.isi_ib, Ev.isi_is, Ev.isi_ii, Ev.isi_it, Ev.isi_il, Ev.isi_sb, Ev.isi_ss, Ev.isi_si, Ev.isi_st, Ev.isi_sl, Ev.isi_tb, Ev.isi_ts, Ev.isi_ti, Ev.isi_tt, Ev.isi_tl, Ev.isi_nb, Ev.isi_ns, Ev.isi_ni, Ev.isi_nt, Ev.isi_nl, Ev.atI_0, Ev.atI_1, Ev.atI_2, Ev.atI_3, Ev.atI_4, Ev.tyOk_s, Ev.slW_to, Ev.slW_from, Ev.addW_SS, Int.toNat_natCast, Option.some.injEq, List.set_set, Option.map_some, W.int.injEq, W.str.injEq, W.loc.injEq, Nat.reduceLeDiff, and_self, Int.reduceLT, Int.reduceLE, Int.reduceNeg, Int.reduceToNat, Int.reduceAdd, Int.reduceMul, Int.reduceSub, decide_eq_true_eq]
    refine kinds_ok (by decide) st1 (by decide) (by decide) fun ks S2 p p' X2 st2 lp lp' ne le ok ep ep' => ?_
    try simp (maxSteps := 500000) (implicitDefEqProofs := false) (disch := omega) only [↓Ev.wq_aCons, ↓Ev.wq_aNil, ↓Ev.wq_and, ↓Ev.wq_bind, ↓Ev.wq_c, ↓Ev.wq_dnew, ↓Ev.wq_e1, ↓Ev.wq_e2, ↓Ev.wq_eIf, ↓Ev.wq_eL, ↓Ev.wq_eM, ↓Ev.wq_eSl, ↓Ev.wq_in, ↓Ev.wq_ite, ↓Ev.wq_ixR, ↓Ev.wq_ixS, ↓Ev.wq_ixT, ↓Ev.wq_lc, ↓Ev.wq_lst, ↓Ev.wq_no, ↓Ev.wq_not, ↓Ev.wq_oNone, ↓Ev.wq_oSome, ↓Ev.wq_ok, ↓Ev.wq_or, ↓Ev.wq_rng1, ↓Ev.wq_rng2, ↓Ev.wq_run, ↓Ev.wq_seq, ↓Ev.wq_test, ↓Ev.wq_tru, ↓Ev.wq_tup, ↓Ev.wq_vAnd, ↓Ev.wq_vNot, ↓Ev.wq_vOr, ↓Ev.wq_var0, ↓Ev.wq_varS, ↓Ev.wq_yes, ↓Ev.wq_zip, ↓Ev.ws_asg, ↓Ev.ws_brk, ↓Ev.ws_cnt, ↓Ev.ws_expr, ↓Ev.ws_for, ↓Ev.ws_if, ↓Ev.ws_in, ↓Ev.ws_kn, ↓Ev.ws_nil, ↓Ev.ws_nx, ↓Ev.ws_put, ↓Ev.ws_ret, ↓Ev.ws_retN, ↓Ev.ws_rt, ↓Ev.ws_seq, ↓Ev.ws_while, ↓Ev.ws_set, ↓Ev.wo_some, ↓Ev.onB_b, ↓Ev.onI_i, ↓Ev.Kn_rt, ↓Ev.Kn_bk, ↓Ev.Kn_ct, ↓Ev.onRet_nx, ↓Ev.onRet_rt, ↓Ev.onNx_nx, ↓Ev.onNx_ct, ↓Ev.onNx_bk, ↓Ev.onNx_rt, List.map_cons, List.map_nil, List.length_cons, List.length_nil, List.replicate, List.cons_append, List.nil_append, Nat.reduceAdd, Nat.reduceSub, List.set_cons_zero, List.set_cons_succ, if_true, if_false, true_and, and_true, Bool.false_eq_true, Bool.not_true, Bool.not_false, ↓reduceIte, Ev.ifF, Nat.zero_add, Ev.startE, Ev.wipeE, Ev.put_nm, Ev.put_tp, Ev.puts_nil, Ev.puts_cons, Option.bind_some, Ev.seqLen_t, Ev.seqLen_r, Ev.addW_ii, Ev.addW_tt, Ev.subW_ii, Ev.mulW_ii, Ev.modW_ii, Ev.fdivW_ii, Ev.powW_ii, Ev.negW_i, Ev.cmpI_ii, Ev.isW_n, Ev.isnW_n, Ev.isNon_n, Ev.isNon_b, Ev.isNon_i, Ev.isNon_s, Ev.isNon_t, Ev.isNon_l, Ev.max2W_ii, Ev.min2W_ii, Ev.intW_i, Ev.intW_b, Ev.lenW_t, Ev.lenW_r, Ev.listW_t, Ev.tupleW_t, Ev.truW_b, Ev.truW_n, Ev.truW_i, Ev.truW_t, Ev.eqW_ii, Ev.neW_ii, Ev.eqW_ss, Ev.neW_ss, Ev.eqW_bb, Ev.ixN_0, Ev.ixN_1, Ev.ixN_2, Ev.ixN_3, Ev.isi_bb, Ev.isi_bs, Ev.isi_bi, Ev.isi_bt, Ev.isi_bl, Ev.isi_ib, Ev.isi_is, Ev.isi_ii, Ev.isi_it, Ev.isi_il, Ev.isi_sb, Ev.isi_ss, Ev.isi_si, Ev.isi_st, Ev.isi_sl, Ev.isi_tb, Ev.isi_ts, Ev.isi_ti, Ev.isi_tt, Ev.isi_tl, Ev.isi_nb, Ev.isi_ns, Ev.isi_ni, Ev.isi_nt, Ev.isi_nl, Ev.atI_0, Ev.atI_1, Ev.atI_2, Ev.atI_3, Ev.atI_4, Ev.tyOk_s, Ev.slW_to, Ev.slW_from, Ev.addW_SS, Int.toNat_natCast, Option.some.injEq, List.set_set, Option.map_some, W.int.injEq, W.str.injEq, W.loc.injEq, Nat.reduceLeDiff, and_self, Int.reduceLT, Int.reduceLE, Int.reduceNeg, Int.reduceToNat, Int.reduceAdd, Int.reduceMul, Int.reduceSub, decide_eq_true_eq, dictW_l (f := fun k : Kd => SX.S k.nm) (g := fun k => k.sh.w) ep (nmS_nd ok.nd)]
    refine ⟨by omega, by rw [List.length_append, ha]; rfl, ?_⟩
    have X3 : Xt [] S (S2 ++ [O.dct (shD ks)]) := ((X1.nil.trans X2).drop (M' := []) fun k hk hl => by
      have := List.mem_singleton.mp hk; omega).appI
    intro w hw
    rcases List.mem_append.mp hw with hw | hw
    · obtain ⟨p, ks, rfl, h⟩ := hs w hw
      exact ⟨p, ks, rfl, h.xt X3⟩
    · obtain rfl := List.mem_singleton.mp hw
      exact ⟨_, ks, rfl, at_new', ok, ne, by omega⟩
  · rintro acc S ⟨ha, hs⟩
    refine ⟨rng_end, ?_⟩
    try simp (maxSteps := 500000) (implicitDefEqProofs := false) (disch := omega) only [↓Ev.wq_aCons, ↓Ev.wq_aNil, ↓Ev.wq_and, ↓Ev.wq_bind, ↓Ev.wq_c, ↓Ev.wq_dnew, ↓Ev.wq_e1, ↓Ev.wq_e2, ↓Ev.wq_eIf, ↓Ev.wq_eL, ↓Ev.wq_eM, ↓Ev.wq_eSl, ↓Ev.wq_in, ↓Ev.wq_ite, ↓Ev.wq_ixR, ↓Ev.wq_ixS, ↓Ev.wq_ixT, ↓Ev.wq_lc, ↓Ev.wq_lst, ↓Ev.wq_no, ↓Ev.wq_not, ↓Ev.wq_oNone, ↓Ev.wq_oSome, ↓Ev.wq_ok, ↓Ev.wq_or, ↓Ev.wq_rng1, ↓Ev.wq_rng2, ↓Ev.wq_run, ↓Ev.wq_seq, ↓Ev.wq_test, ↓Ev.wq_tru, ↓Ev.wq_tup, ↓Ev.wq_vAnd, ↓Ev.wq_vNot, ↓Ev.wq_vOr, ↓Ev.wq_var0, ↓Ev.wq_varS, ↓Ev.wq_yes, ↓Ev.wq_zip, ↓Ev.ws_asg, ↓Ev.ws_brk, ↓Ev.ws_cnt, ↓Ev.ws_expr, ↓Ev.ws_for, ↓Ev.ws_if, ↓Ev.ws_in, ↓Ev.ws_kn, ↓Ev.ws_nil, ↓Ev.ws_nx, ↓Ev.ws_put, ↓Ev.ws_ret, ↓Ev.ws_retN, ↓Ev.ws_rt, ↓Ev.ws_seq, ↓Ev.ws_while, ↓Ev.ws_set, ↓Ev.wo_some, ↓Ev.onB_b, ↓Ev.onI_i, ↓Ev.Kn_rt, ↓Ev.Kn_bk, ↓Ev.Kn_ct, ↓Ev.onRet_nx, ↓Ev.onRet_rt, ↓Ev.onNx_nx, ↓Ev.onNx_ct, ↓Ev.onNx_bk, ↓Ev.onNx_rt, List.map_cons, List.map_nil, List.length_cons, List.length_nil, List.replicate, List.cons_append, List.nil_append, Nat.reduceAdd, Nat.reduceSub, List.set_cons_zero, List.set_cons_succ, if_true, if_false, true_and, and_true, Bool.false_eq_true, Bool.not_true, Bool.not_false, ↓reduceIte, Ev.ifF, Nat.zero_add, Ev.startE, Ev.wipeE, Ev.put_nm, Ev.put_tp, Ev.puts_nil, Ev.puts_cons, Option.bind_some, Ev.seqLen_t, Ev.seqLen_r, Ev.addW_ii, Ev.addW_tt, Ev.subW_ii, Ev.mulW_ii, Ev.modW_ii, Ev.fdivW_ii, Ev.powW_ii, Ev.negW_i, Ev.cmpI_ii, Ev.isW_n, Ev.isnW_n, Ev.isNon_n, Ev.isNon_b, Ev.isNon_i, Ev.isNon_s, Ev.isNon_t, Ev.isNon_l, Ev.max2W_ii, Ev.min2W_ii, Ev.intW_i, Ev.intW_b, Ev.lenW_t, Ev.lenW_r, Ev.listW_t, Ev.tupleW_t, Ev.truW_b, Ev.truW_n, Ev.truW_i, Ev.truW_t, Ev.eqW_ii, Ev.neW_ii, Ev.eqW_ss, Ev.neW_ss, Ev.eqW_bb, Ev.ixN_0, Ev.ixN_1, Ev.ixN_2, Ev.ixN_3, Ev.isi_bb, Ev.isi_bs, Ev.isi_bi, Ev.isi_bt, Ev.isi_bl, Ev.isi_ib, Ev.isi_is, Ev.isi_ii, Ev.isi_it, Ev.isi_il, Ev.isi_sb, Ev.isi_ss, Ev.isi_si, Ev.isi_st, Ev.isi_sl, Ev.isi_tb, Ev.isi_ts, Ev.isi_ti, Ev.isi_tt, Ev.isi_tl, Ev.isi_nb, Ev.isi_ns, Ev.isi_ni, Ev.isi_nt, Ev.isi_nl, Ev.atI_0, Ev.atI_1, Ev.atI_2, Ev.atI_3, Ev.atI_4, Ev.tyOk_s, Ev.slW_to, Ev.slW_from, Ev.addW_SS, Int.toNat_natCast, Option.some.injEq, List.set_set, Option.map_some, W.int.injEq, W.str.injEq, W.loc.injEq, Nat.reduceLeDiff, and_self, Int.reduceLT, Int.reduceLE, Int.reduceNeg, Int.reduceToNat, Int.reduceAdd, Int.reduceMul, Int.reduceSub, decide_eq_true_eq]
    have hs' : ∀ w ∈ acc, ∃ p ks, w = .loc p ∧ ShAt (S ++ [O.lst acc]) p ks := fun w hw => by
      obtain ⟨p, ks, rfl, h⟩ := hs w hw
      exact ⟨p, ks, rfl, h.xt .app⟩
    have eb : (S ++ [O.lst acc])[S.length]? = some (.lst acc) := at_new'
    generalize S.length = pb at *
    generalize S ++ [O.lst acc] = S0 at *
    clear hs S
    refine cell_ok (by decide) (by omega) fun c => ?_
    try simp (maxSteps := 500000) (implicitDefEqProofs := false) (disch := omega) only [↓Ev.wq_aCons, ↓Ev.wq_aNil, ↓Ev.wq_and, ↓Ev.wq_bind, ↓Ev.wq_c, ↓Ev.wq_dnew, ↓Ev.wq_e1, ↓Ev.wq_e2, ↓Ev.wq_eIf, ↓Ev.wq_eL, ↓Ev.wq_eM, ↓Ev.wq_eSl, ↓Ev.wq_in, ↓Ev.wq_ite, ↓Ev.wq_ixR, ↓Ev.wq_ixS, ↓Ev.wq_ixT, ↓Ev.wq_lc, ↓Ev.wq_lst, ↓Ev.wq_no, ↓Ev.wq_not, ↓Ev.wq_oNone, ↓Ev.wq_oSome, ↓Ev.wq_ok, ↓Ev.wq_or, ↓Ev.wq_rng1, ↓Ev.wq_rng2, ↓Ev.wq_run, ↓Ev.wq_seq, ↓Ev.wq_test, ↓Ev.wq_tru, ↓Ev.wq_tup, ↓Ev.wq_vAnd, ↓Ev.wq_vNot, ↓Ev.wq_vOr, ↓Ev.wq_var0, ↓Ev.wq_varS, ↓Ev.wq_yes, ↓Ev.wq_zip, ↓Ev.ws_asg, ↓Ev.ws_brk, ↓Ev.ws_cnt, ↓Ev.ws_expr, ↓Ev.ws_for, ↓Ev.ws_if, ↓Ev.ws_in, ↓Ev.ws_kn, ↓Ev.ws_nil, ↓Ev.ws_nx, ↓Ev.ws_put, ↓Ev.ws_ret, ↓Ev.ws_retN, ↓Ev.ws_rt, ↓Ev.ws_seq, ↓Ev.ws_while, ↓Ev.ws_set, ↓Ev.wo_some, ↓Ev.onB_b, ↓Ev.onI_i, ↓Ev.Kn_rt, ↓Ev.Kn_bk, ↓Ev.Kn_ct, ↓Ev.onRet_nx, ↓Ev.onRet_rt, ↓Ev.onNx_nx, ↓Ev.onNx_ct, ↓Ev.onNx_bk, ↓Ev.onNx_rt, List.map_cons, List.map_nil, List.length_cons, List.length_nil, List.replicate, List.cons_append, List.nil_append, Nat.reduceAdd, Nat.reduceSub, List.set_cons_zero, List.set_cons_succ, if_true, if_false, true_and, and_true, Bool.false_eq_true, Bool.not_true, Bool.not_false, ↓reduceIte, Ev.ifF, Nat.zero_add, Ev.startE, Ev.wipeE, Ev.put_nm, Ev.put_tp, Ev.puts_nil, Ev.puts_cons, Option.bind_some, Ev.seqLen_t, Ev.seqLen_r, Ev.addW_ii, Ev.addW_tt, Ev.subW_ii, Ev.mulW_ii, Ev.modW_ii, Ev.fdivW_ii, Ev.powW_ii, Ev.negW_i, Ev.cmpI_ii, Ev.isW_n, Ev.isnW_n, Ev.isNon_n, Ev.isNon_b, Ev.isNon_i, Ev.isNon_s, Ev.isNon_t, Ev.isNon_l, Ev.max2W_ii, Ev.min2W_ii, Ev.intW_i, Ev.intW_b, Ev.lenW_t, Ev.lenW_r, Ev.listW_t, Ev.tupleW_t, Ev.truW_b, Ev.truW_n, Ev.truW_i, Ev.truW_t, Ev.eqW_ii, Ev.neW_ii, Ev.eqW_ss, Ev.neW_ss, Ev.eqW_bb, Ev.ixN_0, Ev.ixN_1, Ev.ixN_2, Ev.ixN_3, Ev.isi_bb, Ev.isi_bs, Ev.isi_bi, Ev.isi_bt, Ev.isi_bl, Ev.isi_ib, Ev.isi_is, Ev.isi_ii, Ev.isi_it, Ev.isi_il, Ev.isi_sb, Ev.isi_ss, Ev.isi_si, Ev.isi_st, Ev.isi_sl, Ev.isi_tb, Ev.isi_ts, Ev.isi_ti, Ev.isi_tt, Ev.isi_tl, Ev.isi_nb, Ev.isi_ns, Ev.isi_ni, Ev.isi_nt, Ev.isi_nl, Ev.atI_0, Ev.atI_1, Ev.atI_2, Ev.atI_3, Ev.atI_4, Ev.tyOk_s, Ev.slW_to, Ev.slW_from, Ev.addW_SS, Int.toNat_natCast, Option.some.injEq, List.set_set, Option.map_some, W.int.injEq, W.str.injEq, W.loc.injEq, Nat.reduceLeDiff, and_self, Int.reduceLT, Int.reduceLE, Int.reduceNeg, Int.reduceToNat, Int.reduceAdd, Int.reduceMul, Int.reduceSub, decide_eq_true_eq, slW_r]
    have e1 : ((S0 ++ [O.lst [W.int c]]) ++ [O.lst (cutW (ns.map W.int) (some 3) (some 18))])[S0.length]? = some (.lst [W.int c]) := at_app at_new'
    have e2 : ((S0 ++ [O.lst [W.int c]]) ++ [O.lst (cutW (ns.map W.int) (some 3) (some 18))])[(S0 ++ [O.lst [W.int c]]).length]? = some (.lst (((ns.drop 3).take 15).map W.int)) := by
      rw [at_new', show (some 3 : Option Int) = some ((3 : Nat) : Int) from rfl, show (some 18 : Option Int) = some ((18 : Nat) : Int) from rfl, cutW_mid, List.map_take, List.map_drop]
    have hcl : ((ns.drop 3).take 15).length ≤ 15 := List.length_take_le ..
    rw [addW_l e1 e2 (by rw [List.length_map, List.length_singleton]; omega)]
    generalize hcs : c :: (ns.drop 3).take 15 = cs at *
    have hcl2 : cs.length ≤ 40 := by rw [← hcs, List.length_cons]; omega
    have X1 : Xt [] S0 (((S0 ++ [O.lst [W.int c]]) ++ [O.lst (cutW (ns.map W.int) (some 3) (some 18))]) ++ [O.lst ([W.int c] ++ ((ns.drop 3).take 15).map W.int)]) := .appI (.appI .app)
    have e3 : (((S0 ++ [O.lst [W.int c]]) ++ [O.lst (cutW (ns.map W.int) (some 3) (some 18))]) ++ [O.lst ([W.int c] ++ ((ns.drop 3).take 15).map W.int)])[((S0 ++ [O.lst [W.int c]]) ++ [O.lst (cutW (ns.map W.int) (some 3) (some 18))]).length]? = some (.lst (cs.map W.int)) := by
      rw [at_new', ← hcs]; rfl
    generalize ((S0 ++ [O.lst [W.int c]]) ++ [O.lst (cutW (ns.map W.int) (some 3) (some 18))]).length = pq at *
    generalize ((S0 ++ [O.lst [W.int c]]) ++ [O.lst (cutW (ns.map W.int) (some 3) (some 18))]) ++ [O.lst ([W.int c] ++ ((ns.drop 3).take 15).map W.int)] = S1 at *
    try simp (maxSteps := 500000) (implicitDefEqProofs := false) (disch := omega) only [↓Ev.wq_aCons, ↓Ev.wq_aNil, ↓Ev.wq_and, ↓Ev.wq_bind, ↓Ev.wq_c, ↓Ev.wq_dnew, ↓Ev.wq_e1, ↓Ev.wq_e2, ↓Ev.wq_eIf, ↓Ev.wq_eL, ↓Ev.wq_eM, ↓Ev.wq_eSl, ↓Ev.wq_in, ↓Ev.wq_ite, ↓Ev.wq_ixR, ↓Ev.wq_ixS, ↓Ev.wq_ixT, ↓Ev.wq_lc, ↓Ev.wq_lst, ↓Ev.wq_no, ↓Ev.wq_not, ↓Ev.wq_oNone, ↓Ev.wq_oSome, ↓Ev.wq_ok, ↓Ev.wq_or, ↓Ev.wq_rng1, ↓Ev.wq_rng2, ↓Ev.wq_run, ↓Ev.wq_seq, ↓Ev.wq_test, ↓Ev.wq_tru, ↓Ev.wq_tup, ↓Ev.wq_vAnd, ↓Ev.wq_vNot, ↓Ev.wq_vOr, ↓Ev.wq_var0, ↓Ev.wq_varS, ↓Ev.wq_yes, ↓Ev.wq_zip, ↓Ev.ws_asg, ↓Ev.ws_brk, ↓Ev.ws_cnt, ↓Ev.ws_expr, ↓Ev.ws_for, ↓Ev.ws_if, ↓Ev.ws_in, ↓Ev.ws_kn, ↓Ev.ws_nil, ↓Ev.ws_nx, ↓Ev.ws_put, ↓Ev.ws_ret, ↓Ev.ws_retN, ↓Ev.ws_rt, ↓Ev.ws_seq, ↓Ev.ws_while, ↓Ev.ws_set, ↓Ev.wo_some, ↓Ev.onB_b, ↓Ev.onI_i, ↓Ev.Kn_rt, ↓Ev.Kn_bk, ↓Ev.Kn_ct, ↓Ev.onRet_nx, ↓Ev.onRet_rt, ↓Ev.onNx_nx, ↓Ev.onNx_ct, ↓Ev.onNx_bk, ↓Ev.onNx_rt, List.map_cons, List.map_nil, List.length_cons, List.length_nil, List.replicate, List.cons_append, List.nil_append, Nat.reduceAdd, Nat.reduceSub, List.set_cons_zero, List.set_cons_succ, if_true, if_false, true_and, and_true, Bool.false_eq_true, Bool.not_true, Bool.not_false, ↓reduceIte, Ev.ifF, Nat.zero_add, Ev.startE, Ev.wipeE, Ev.put_nm, Ev.put_tp, Ev.puts_nil, Ev.puts_cons, Option.bind_some, Ev.seqLen_t, Ev.seqLen_r, Ev.addW_ii, Ev.addW_tt, Ev.subW_ii, Ev.mulW_ii, Ev.modW_ii, Ev.fdivW_ii, Ev.powW_ii, Ev.negW_i, Ev.cmpI_ii, Ev.isW_n, Ev.isnW_n, Ev.isNon_n, Ev.isNon_b, Ev.isNon_i, Ev.isNon_s, Ev.isNon_t, Ev.isNon_l, Ev.max2W_ii, Ev.min2W_ii, Ev.intW_i, Ev.intW_b, Ev.lenW_t, Ev.lenW_r, Ev.listW_t, Ev.tupleW_t, Ev.truW_b, Ev.truW_n, Ev.truW_i, Ev.truW_t, Ev.eqW_ii, Ev.neW_ii, Ev.eqW_ss, Ev.neW_ss, Ev.eqW_bb, Ev.ixN_0, Ev.ixN_1, Ev.ixN_2, Ev.ixN_3, Ev.isi_bb, Ev.isi_bs, Ev.isi_bi, Ev.isi_bt, Ev.isi_bl, Ev.isi_ib, Ev.isi_is, Ev.isi_ii, Ev.isi_it, Ev.isi_il, Ev.isi_sb, Ev.isi_ss, Ev.isi_si, Ev.isi_st, Ev.isi_sl, Ev.isi_tb, Ev.isi_ts, Ev.isi_ti, Ev.isi_tt, Ev.isi_tl, Ev.isi_nb, Ev.isi_ns, Ev.isi_ni, Ev.isi_nt, Ev.isi_nl, Ev.atI_0, Ev.atI_1, Ev.atI_2, Ev.atI_3, Ev.atI_4, Ev.tyOk_s, Ev.slW_to, Ev.slW_from, Ev.addW_SS, Int.toNat_natCast, Option.some.injEq, List.set_set, Option.map_some, W.int.injEq, W.str.injEq, W.loc.injEq, Nat.reduceLeDiff, and_self, Int.reduceLT, Int.reduceLE, Int.reduceNeg, Int.reduceToNat, Int.reduceAdd, Int.reduceMul, Int.reduceSub, decide_eq_true_eq]
    refine wo_ex (seqLen_l e3) ?_
    rw [List.length_map]
    refine wp_loopN cs.length (fun j s S2 => ∃ x2 x3 x4 x5 x6 x7 x8, s = [some (.rol (ns.map W.int)), some (.loc pb), x2, x3, x4, x5, x6, x7, x8, none] ∧ Xt [] S1 S2) (by omega) ⟨_, _, _, _, _, _, _, rfl, .refl⟩ ?_ ?_
    · rintro j s S2 hj ⟨x2, x3, x4, x5, x6, x7, x8, rfl, X2⟩
      refine ⟨.int cs[j], _, by rw [seqIt_l (X2.get0 e3), List.getElem?_map, List.getElem?_eq_getElem hj]; rfl, rfl, ?_⟩
      try simp (maxSteps := 500000) (implicitDefEqProofs := false) (disch := omega) only [↓Ev.wq_aCons, ↓Ev.wq_aNil, ↓Ev.wq_and, ↓Ev.wq_bind, ↓Ev.wq_c, ↓Ev.wq_dnew, ↓Ev.wq_e1, ↓Ev.wq_e2, ↓Ev.wq_eIf, ↓Ev.wq_eL, ↓Ev.wq_eM, ↓Ev.wq_eSl, ↓Ev.wq_in, ↓Ev.wq_ite, ↓Ev.wq_ixR, ↓Ev.wq_ixS, ↓Ev.wq_ixT, ↓Ev.wq_lc, ↓Ev.wq_lst, ↓Ev.wq_no, ↓Ev.wq_not, ↓Ev.wq_oNone, ↓Ev.wq_oSome, ↓Ev.wq_ok, ↓Ev.wq_or, ↓Ev.wq_rng1, ↓Ev.wq_rng2, ↓Ev.wq_run, ↓Ev.wq_seq, ↓Ev.wq_test, ↓Ev.wq_tru, ↓Ev.wq_tup, ↓Ev.wq_vAnd, ↓Ev.wq_vNot, ↓Ev.wq_vOr, ↓Ev.wq_var0, ↓Ev.wq_varS, ↓Ev.wq_yes, ↓Ev.wq_zip, ↓Ev.ws_asg, ↓Ev.ws_brk, ↓Ev.ws_cnt, ↓Ev.ws_expr, ↓Ev.ws_for, ↓Ev.ws_if, ↓Ev.ws_in, ↓Ev.ws_kn, ↓Ev.ws_nil, ↓Ev.ws_nx, ↓Ev.ws_put, ↓Ev.ws_ret, ↓Ev.ws_retN, ↓Ev.ws_rt, ↓Ev.ws_seq, ↓Ev.ws_while, ↓Ev.ws_set, ↓Ev.wo_some, ↓Ev.onB_b, ↓Ev.onI_i, ↓Ev.Kn_rt, ↓Ev.Kn_bk, ↓Ev.Kn_ct, ↓Ev.onRet_nx, ↓Ev.onRet_rt, ↓Ev.onNx_nx, ↓Ev.onNx_ct, ↓Ev.onNx_bk, ↓Ev.onNx_rt, List.map_cons, List.map_nil, List.length_cons, List.length_nil, List.replicate, List.cons_append, List.nil_append, Nat.reduceAdd, Nat.reduceSub, List.set_cons_zero, List.set_cons_succ, if_true, if_false, true_and, and_true, Bool.false_eq_true, Bool.not_true, Bool.not_false, ↓reduceIte, Ev.ifF, Nat.zero_add, Ev.startE, Ev.wipeE, Ev.put_nm, Ev.put_tp, Ev.puts_nil, Ev.puts_cons, Option.bind_some, Ev.seqLen_t, Ev.seqLen_r, Ev.addW_ii, Ev.addW_tt, Ev.subW_ii, Ev.mulW_ii, Ev.modW_ii, Ev.fdivW_ii, Ev.powW_ii, Ev.negW_i, Ev.cmpI_ii, Ev.isW_n, Ev.isnW_n, Ev.isNon_n, Ev.isNon_b, Ev.isNon_i, Ev.isNon_s, Ev.isNon_t, Ev.isNon_l, Ev.max2W_ii, Ev.min2W_ii, Ev.intW_i, Ev.intW_b, Ev.lenW_t, Ev.lenW_r, Ev.listW_t, Ev.tupleW_t, Ev.truW_b, Ev.truW_n, Ev.truW_i, Ev.truW_t, Ev.eqW_ii, Ev.neW_ii, Ev.eqW_ss, Ev.neW_ss, Ev.eqW_bb, Ev.ixN_0, Ev.ixN_1, Ev.ixN_2, Ev.ixN_3, Ev.isi_bb, Ev.isi_bs, Ev.isi_bi, Ev.isi_bt, Ev.isi_bl, Ev.isi_ib, Ev.isi_is, Ev.isi_ii, Ev.isi_it, Ev.isi_il, Ev.isi_sb, Ev.isi_ss, Ev.isi_si, Ev.isi_st, Ev.isi_sl, Ev.isi_tb, Ev.isi_ts, Ev.isi_ti, Ev.isi_tt, Ev.isi_tl, Ev.isi_nb, Ev.isi_ns, Ev.isi_ni, Ev.isi_nt, Ev.isi_nl, Ev.atI_0, Ev.atI_1, Ev.atI_2, Ev.atI_3, Ev.atI_4, Ev.tyOk_s, Ev.slW_to, Ev.slW_from, Ev.addW_SS, Int.toNat_natCast, Option.some.injEq, List.set_set, Option.map_some, W.int.injEq, W.str.injEq, W.loc.injEq, Nat.reduceLeDiff, and_self, Int.reduceLT, Int.reduceLE, Int.reduceNeg, Int.reduceToNat, Int.reduceAdd, Int.reduceMul, Int.reduceSub, decide_eq_true_eq]
      refine stream_ok (by decide) fun S3 X3 l3 st3 => ?_
      try simp (maxSteps := 500000) (implicitDefEqProofs := false) (disch := omega) only [↓Ev.wq_aCons, ↓Ev.wq_aNil, ↓Ev.wq_and, ↓Ev.wq_bind, ↓Ev.wq_c, ↓Ev.wq_dnew, ↓Ev.wq_e1, ↓Ev.wq_e2, ↓Ev.wq_eIf, ↓Ev.wq_eL, ↓Ev.wq_eM, ↓Ev.wq_eSl, ↓Ev.wq_in, ↓Ev.wq_ite, ↓Ev.wq_ixR, ↓Ev.wq_ixS, ↓Ev.wq_ixT, ↓Ev.wq_lc, ↓Ev.wq_lst, ↓Ev.wq_no, ↓Ev.wq_not, ↓Ev.wq_oNone, ↓Ev.wq_oSome, ↓Ev.wq_ok, ↓Ev.wq_or, ↓Ev.wq_rng1, ↓Ev.wq_rng2, ↓Ev.wq_run, ↓Ev.wq_seq, ↓Ev.wq_test, ↓Ev.wq_tru, ↓Ev.wq_tup, ↓Ev.wq_vAnd, ↓Ev.wq_vNot, ↓Ev.wq_vOr, ↓Ev.wq_var0, ↓Ev.wq_varS, ↓Ev.wq_yes, ↓Ev.wq_zip, ↓Ev.ws_asg, ↓Ev.ws_brk, ↓Ev.ws_cnt, ↓Ev.ws_expr, ↓Ev.ws_for, ↓Ev.ws_if, ↓Ev.ws_in, ↓Ev.ws_kn, ↓Ev.ws_nil, ↓Ev.ws_nx, ↓Ev.ws_put, ↓Ev.ws_ret, ↓Ev.ws_retN, ↓Ev.ws_rt, ↓Ev.ws_seq, ↓Ev.ws_while, ↓Ev.ws_set, ↓Ev.wo_some, ↓Ev.onB_b, ↓Ev.onI_i, ↓Ev.Kn_rt, ↓Ev.Kn_bk, ↓Ev.Kn_ct, ↓Ev.onRet_nx, ↓Ev.onRet_rt, ↓Ev.onNx_nx, ↓Ev.onNx_ct, ↓Ev.onNx_bk, ↓Ev.onNx_rt, List.map_cons, List.map_nil, List.length_cons, List.length_nil, List.replicate, List.cons_append, List.nil_append, Nat.reduceAdd, Nat.reduceSub, List.set_cons_zero, List.set_cons_succ, if_true, if_false, true_and, and_true, Bool.false_eq_true, Bool.not_true, Bool.not_false, ↓reduceIte, Ev.ifF, Nat.zero_add, Ev.startE, Ev.wipeE, Ev.put_nm, Ev.put_tp, Ev.puts_nil, Ev.puts_cons, Option.bind_some, Ev.seqLen_t, Ev.seqLen_r, Ev.addW_ii, Ev.addW_tt, Ev.subW_ii, Ev.mulW_ii, Ev.modW_ii, Ev.fdivW_ii, Ev.powW_ii, Ev.negW_i, Ev.cmpI_ii, Ev.isW_n, Ev.isnW_n, Ev.isNon_n, Ev.isNon_b, Ev.isNon_i, Ev.isNon_s, Ev.isNon_t, Ev.isNon_l, Ev.max2W_ii, Ev.min2W_ii, Ev.intW_i, Ev.intW_b, Ev.lenW_t, Ev.lenW_r, Ev.listW_t, Ev.tupleW_t, Ev.truW_b, Ev.truW_n, Ev.truW_i, Ev.truW_t, Ev.eqW_ii, Ev.neW_ii, Ev.eqW_ss, Ev.neW_ss, Ev.eqW_bb, Ev.ixN_0, Ev.ixN_1, Ev.ixN_2, Ev.ixN_3, Ev.isi_bb, Ev.isi_bs, Ev.isi_bi, Ev.isi_bt, Ev.isi_bl, Ev.isi_ib, Ev.isi_is, Ev.isi_ii, Ev.isi_it, Ev.isi_il, Ev.isi_sb, Ev.isi_ss, Ev.isi_si, Ev.isi_st, Ev.isi_sl, Ev.isi_tb, Ev.isi_ts, Ev.isi_ti, Ev.isi_tt, Ev.isi_tl, Ev.isi_nb, Ev.isi_ns, Ev.isi_ni, Ev.isi_nt, Ev.isi_nl, Ev.atI_0, Ev.atI_1, Ev.atI_2, Ev.atI_3, Ev.atI_4, Ev.tyOk_s, Ev.slW_to, Ev.slW_from, Ev.addW_SS, Int.toNat_natCast, Option.some.injEq, List.set_set, Option.map_some, W.int.injEq, W.str.injEq, W.loc.injEq, Nat.reduceLeDiff, and_self, Int.reduceLT, Int.reduceLE, Int.reduceNeg, Int.reduceToNat, Int.reduceAdd, Int.reduceMul, Int.reduceSub, decide_eq_true_eq]
      refine take_ok (by decide) st3 (by decide) fun z o h1 h2 st4 => ?_
      have X04 : Xt [S2.length] S1 (S3.set S2.length o) := (X2.trans X3).nil.trans (Xt.set (by simp))
      have l2 : S1.length ≤ S2.length := X2.len
      have X5 := X04.drop (M' := []) fun k hk hl => by have := List.mem_singleton.mp hk; omega
      clear X04 X3
      generalize S3.set S2.length o = S4 at *
      obtain ⟨w, hw⟩ : ∃ w, acc[z.toNat]? = some w := ⟨_, List.getElem?_eq_getElem (by omega)⟩
      obtain ⟨p, ks, rfl, hsh⟩ := hs' w (List.mem_of_getElem? hw)
      try simp (maxSteps := 500000) (implicitDefEqProofs := false) (disch := omega) only [↓Ev.wq_aCons, ↓Ev.wq_aNil, ↓Ev.wq_and, ↓Ev.wq_bind, ↓Ev.wq_c, ↓Ev.wq_dnew, ↓Ev.wq_e1, ↓Ev.wq_e2, ↓Ev.wq_eIf, ↓Ev.wq_eL, ↓Ev.wq_eM, ↓Ev.wq_eSl, ↓Ev.wq_in, ↓Ev.wq_ite, ↓Ev.wq_ixR, ↓Ev.wq_ixS, ↓Ev.wq_ixT, ↓Ev.wq_lc, ↓Ev.wq_lst, ↓Ev.wq_no, ↓Ev.wq_not, ↓Ev.wq_oNone, ↓Ev.wq_oSome, ↓Ev.wq_ok, ↓Ev.wq_or, ↓Ev.wq_rng1, ↓Ev.wq_rng2, ↓Ev.wq_run, ↓Ev.wq_seq, ↓Ev.wq_test, ↓Ev.wq_tru, ↓Ev.wq_tup, ↓Ev.wq_vAnd, ↓Ev.wq_vNot, ↓Ev.wq_vOr, ↓Ev.wq_var0, ↓Ev.wq_varS, ↓Ev.wq_yes, ↓Ev.wq_zip, ↓Ev.ws_asg, ↓Ev.ws_brk, ↓Ev.ws_cnt, ↓Ev.ws_expr, ↓Ev.ws_for, ↓Ev.ws_if, ↓Ev.ws_in, ↓Ev.ws_kn, ↓Ev.ws_nil, ↓Ev.ws_nx, ↓Ev.ws_put, ↓Ev.ws_ret, ↓Ev.ws_retN, ↓Ev.ws_rt, ↓Ev.ws_seq, ↓Ev.ws_while, ↓Ev.ws_set, ↓Ev.wo_some, ↓Ev.onB_b, ↓Ev.onI_i, ↓Ev.Kn_rt, ↓Ev.Kn_bk, ↓Ev.Kn_ct, ↓Ev.onRet_nx, ↓Ev.onRet_rt, ↓Ev.onNx_nx, ↓Ev.onNx_ct, ↓Ev.onNx_bk, ↓Ev.onNx_rt, List.map_cons, List.map_nil, List.length_cons, List.length_nil, List.replicate, List.cons_append, List.nil_append, Nat.reduceAdd, Nat.reduceSub, List.set_cons_zero, List.set_cons_succ, if_true, if_false, true_and, and_true, Bool.false_eq_true, Bool.not_true, Bool.not_false, ↓reduceIte, Ev.ifF, Nat.zero_add, Ev.startE, Ev.wipeE, Ev.put_nm, Ev.put_tp, Ev.puts_nil, Ev.puts_cons, Option.bind_some, Ev.seqLen_t, Ev.seqLen_r, Ev.addW_ii, Ev.addW_tt, Ev.subW_ii, Ev.mulW_ii, Ev.modW_ii, Ev.fdivW_ii, Ev.powW_ii, Ev.negW_i, Ev.cmpI_ii, Ev.isW_n, Ev.isnW_n, Ev.isNon_n, Ev.isNon_b, Ev.isNon_i, Ev.isNon_s, Ev.isNon_t, Ev.isNon_l, Ev.max2W_ii, Ev.min2W_ii, Ev.intW_i, Ev.intW_b, Ev.lenW_t, Ev.lenW_r, Ev.listW_t, Ev.tupleW_t, Ev.truW_b, Ev.truW_n, Ev.truW_i, Ev.truW_t, Ev.eqW_ii, Ev.neW_ii, Ev.eqW_ss, Ev.neW_ss, Ev.eqW_bb, Ev.ixN_0, Ev.ixN_1, Ev.ixN_2, Ev.ixN_3, Ev.isi_bb, Ev.isi_bs, Ev.isi_bi, Ev.isi_bt, Ev.isi_bl, Ev.isi_ib, Ev.isi_is, Ev.isi_ii, Ev.isi_it, Ev.isi_il, Ev.isi_sb, Ev.isi_ss, Ev.isi_si, Ev.isi_st, Ev.isi_sl, Ev.isi_tb, Ev.isi_ts, Ev.isi_ti, Ev.isi_tt, Ev.isi_tl, Ev.isi_nb, Ev.isi_ns, Ev.isi_ni, Ev.isi_nt, Ev.isi_nl, Ev.atI_0, Ev.atI_1, Ev.atI_2, Ev.atI_3, Ev.atI_4, Ev.tyOk_s, Ev.slW_to, Ev.slW_from, Ev.addW_SS, Int.toNat_natCast, Option.some.injEq, List.set_set, Option.map_some, W.int.injEq, W.str.injEq, W.loc.injEq, Nat.reduceLeDiff, and_self, Int.reduceLT, Int.reduceLE, Int.reduceNeg, Int.reduceToNat, Int.reduceAdd, Int.reduceMul, Int.reduceSub, decide_eq_true_eq, wq_ixL ((X1.trans X5).get0 eb), Ev.atI_of h1 hw]
      have sh4 := hsh.xt (X1.trans X5)
      try simp (maxSteps := 500000) (implicitDefEqProofs := false) (disch := omega) only [↓Ev.wq_aCons, ↓Ev.wq_aNil, ↓Ev.wq_and, ↓Ev.wq_bind, ↓Ev.wq_c, ↓Ev.wq_dnew, ↓Ev.wq_e1, ↓Ev.wq_e2, ↓Ev.wq_eIf, ↓Ev.wq_eL, ↓Ev.wq_eM, ↓Ev.wq_eSl, ↓Ev.wq_in, ↓Ev.wq_ite, ↓Ev.wq_ixR, ↓Ev.wq_ixS, ↓Ev.wq_ixT, ↓Ev.wq_lc, ↓Ev.wq_lst, ↓Ev.wq_no, ↓Ev.wq_not, ↓Ev.wq_oNone, ↓Ev.wq_oSome, ↓Ev.wq_ok, ↓Ev.wq_or, ↓Ev.wq_rng1, ↓Ev.wq_rng2, ↓Ev.wq_run, ↓Ev.wq_seq, ↓Ev.wq_test, ↓Ev.wq_tru, ↓Ev.wq_tup, ↓Ev.wq_vAnd, ↓Ev.wq_vNot, ↓Ev.wq_vOr, ↓Ev.wq_var0, ↓Ev.wq_varS, ↓Ev.wq_yes, ↓Ev.wq_zip, ↓Ev.ws_asg, ↓Ev.ws_brk, ↓Ev.ws_cnt, ↓Ev.ws_expr, ↓Ev.ws_for, ↓Ev.ws_if, ↓Ev.ws_in, ↓Ev.ws_kn, ↓Ev.ws_nil, ↓Ev.ws_nx, ↓Ev.ws_put, ↓Ev.ws_ret, ↓Ev.ws_retN, ↓Ev.ws_rt, ↓Ev.ws_seq, ↓Ev.ws_while, ↓Ev.ws_set, ↓Ev.wo_some, ↓Ev.onB_b, ↓Ev.onI_i, ↓Ev.Kn_rt, ↓Ev.Kn_bk, ↓Ev.Kn_ct, ↓Ev.onRet_nx, ↓Ev.onRet_rt, ↓Ev.onNx_nx, ↓Ev.onNx_ct, ↓Ev.onNx_bk, ↓Ev.onNx_rt, List.map_cons, List.map_nil, List.length_cons, List.length_nil, List.replicate, List.cons_append, List.nil_append, Nat.reduceAdd, Nat.reduceSub, List.set_cons_zero, List.set_cons_succ, if_true, if_false, true_and, and_true, Bool.false_eq_true, Bool.not_true, Bool.not_false, ↓reduceIte, Ev.ifF, Nat.zero_add, Ev.startE, Ev.wipeE, Ev.put_nm, Ev.put_tp, Ev.puts_nil, Ev.puts_cons, Option.bind_some, Ev.seqLen_t, Ev.seqLen_r, Ev.addW_ii, Ev.addW_tt, Ev.subW_ii, Ev.mulW_ii, Ev.modW_ii, Ev.fdivW_ii, Ev.powW_ii, Ev.negW_i, Ev.cmpI_ii, Ev.isW_n, Ev.isnW_n, Ev.isNon_n, Ev.isNon_b, Ev.isNon_i, Ev.isNon_s, Ev.isNon_t, Ev.isNon_l, Ev.max2W_ii, Ev.min2W_ii, Ev.intW_i, Ev.intW_b, Ev.lenW_t, Ev.lenW_r, Ev.listW_t, Ev.tupleW_t, Ev.truW_b, Ev.truW_n, Ev.truW_i, Ev.truW_t, Ev.eqW_ii, Ev.neW_ii, Ev.eqW_ss, Ev.neW_ss, Ev.eqW_bb, Ev.ixN_0, Ev.ixN_1, Ev.ixN_2, Ev.ixN_3, Ev.isi_bb, Ev.isi_bs, Ev.isi_bi, Ev.isi_bt, Ev.isi_bl, Ev.isi_ib, Ev.isi_is, Ev.isi_ii, Ev.isi_it, Ev.isi_il, Ev.isi_sb, Ev.isi_ss, Ev.isi_si, Ev.isi_st, Ev.isi_sl, Ev.isi_tb, Ev.isi_ts, Ev.isi_ti, Ev.isi_tt, Ev.isi_tl, Ev.isi_nb, Ev.isi_ns, Ev.isi_ni, Ev.isi_nt, Ev.isi_nl, Ev.atI_0, Ev.atI_1, Ev.atI_2, Ev.atI_3, Ev.atI_4, Ev.tyOk_s, Ev.slW_to, Ev.slW_from, Ev.addW_SS, Int.toNat_natCast, Option.some.injEq, List.set_set, Option.map_some, W.int.injEq, W.str.injEq, W.loc.injEq, Nat.reduceLeDiff, and_self, Int.reduceLT, Int.reduceLE, Int.reduceNeg, Int.reduceToNat, Int.reduceAdd, Int.reduceMul, Int.reduceSub, decide_eq_true_eq, listW_d sh4.at_, lenW_d (at_app sh4.at_), List.length_map]
      have hks := List.length_pos_iff.mpr sh4.ne
      have hk6 := sh4.le
      refine take_ok (by decide) st4.app (by omega) fun z2 o2 h3 h4 st5 => ?_
      have l4 : S4.length > S2.length := st4.lt
      have e5 : ((S4 ++ [O.lst ((shD ks).map fun x => x.1)]).set S2.length o2)[S4.length]? = some (.lst ((shD ks).map fun x => x.1)) := at_ne at_new' (by omega)
      have X06 : Xt [] S1 ((S4 ++ [O.lst ((shD ks).map fun x => x.1)]).set S2.length o2) := X5.appI.setN l2
      generalize (S4 ++ [O.lst ((shD ks).map fun x => x.1)]).set S2.length o2 = S5 at *
      have hz2 : z2.toNat < ks.length := by omega
      have e6 : atI ((shD ks).map fun x => x.1) z2 = some (tx ks[z2.toNat].nm) := Ev.atI_of h3 (by rw [List.map_map, List.getElem?_map, List.getElem?_eq_getElem hz2]; rfl)
      try simp (maxSteps := 500000) (implicitDefEqProofs := false) (disch := omega) only [↓Ev.wq_aCons, ↓Ev.wq_aNil, ↓Ev.wq_and, ↓Ev.wq_bind, ↓Ev.wq_c, ↓Ev.wq_dnew, ↓Ev.wq_e1, ↓Ev.wq_e2, ↓Ev.wq_eIf, ↓Ev.wq_eL, ↓Ev.wq_eM, ↓Ev.wq_eSl, ↓Ev.wq_in, ↓Ev.wq_ite, ↓Ev.wq_ixR, ↓Ev.wq_ixS, ↓Ev.wq_ixT, ↓Ev.wq_lc, ↓Ev.wq_lst, ↓Ev.wq_no, ↓Ev.wq_not, ↓Ev.wq_oNone, ↓Ev.wq_oSome, ↓Ev.wq_ok, ↓Ev.wq_or, ↓Ev.wq_rng1, ↓Ev.wq_rng2, ↓Ev.wq_run, ↓Ev.wq_seq, ↓Ev.wq_test, ↓Ev.wq_tru, ↓Ev.wq_tup, ↓Ev.wq_vAnd, ↓Ev.wq_vNot, ↓Ev.wq_vOr, ↓Ev.wq_var0, ↓Ev.wq_varS, ↓Ev.wq_yes, ↓Ev.wq_zip, ↓Ev.ws_asg, ↓Ev.ws_brk, ↓Ev.ws_cnt, ↓Ev.ws_expr, ↓Ev.ws_for, ↓Ev.ws_if, ↓Ev.ws_in, ↓Ev.ws_kn, ↓Ev.ws_nil, ↓Ev.ws_nx, ↓Ev.ws_put, ↓Ev.ws_ret, ↓Ev.ws_retN, ↓Ev.ws_rt, ↓Ev.ws_seq, ↓Ev.ws_while, ↓Ev.ws_set, ↓Ev.wo_some, ↓Ev.onB_b, ↓Ev.onI_i, ↓Ev.Kn_rt, ↓Ev.Kn_bk, ↓Ev.Kn_ct, ↓Ev.onRet_nx, ↓Ev.onRet_rt, ↓Ev.onNx_nx, ↓Ev.onNx_ct, ↓Ev.onNx_bk, ↓Ev.onNx_rt, List.map_cons, List.map_nil, List.length_cons, List.length_nil, List.replicate, List.cons_append, List.nil_append, Nat.reduceAdd, Nat.reduceSub, List.set_cons_zero, List.set_cons_succ, if_true, if_false, true_and, and_true, Bool.false_eq_true, Bool.not_true, Bool.not_false, ↓reduceIte, Ev.ifF, Nat.zero_add, Ev.startE, Ev.wipeE, Ev.put_nm, Ev.put_tp, Ev.puts_nil, Ev.puts_cons, Option.bind_some, Ev.seqLen_t, Ev.seqLen_r, Ev.addW_ii, Ev.addW_tt, Ev.subW_ii, Ev.mulW_ii, Ev.modW_ii, Ev.fdivW_ii, Ev.powW_ii, Ev.negW_i, Ev.cmpI_ii, Ev.isW_n, Ev.isnW_n, Ev.isNon_n, Ev.isNon_b, Ev.isNon_i, Ev.isNon_s, Ev.isNon_t, Ev.isNon_l, Ev.max2W_ii, Ev.min2W_ii, Ev.intW_i, Ev.intW_b, Ev.lenW_t, Ev.lenW_r, Ev.listW_t, Ev.tupleW_t, Ev.truW_b, Ev.truW_n, Ev.truW_i, Ev.truW_t, Ev.eqW_ii, Ev.neW_ii, Ev.eqW_ss, Ev.neW_ss, Ev.eqW_bb, Ev.ixN_0, Ev.ixN_1, Ev.ixN_2, Ev.ixN_3, Ev.isi_bb, Ev.isi_bs, Ev.isi_bi, Ev.isi_bt, Ev.isi_bl, Ev.isi_ib, Ev.isi_is, Ev.isi_ii, Ev.isi_it, Ev.isi_il, Ev.isi_sb, Ev.isi_ss, Ev.isi_si, Ev.isi_st, Ev.isi_sl, Ev.isi_tb, Ev.isi_ts, Ev.isi_ti, Ev.isi_tt, Ev.isi_tl, Ev.isi_nb, Ev.isi_ns, Ev.isi_ni, Ev.isi_nt, Ev.isi_nl, Ev.atI_0, Ev.atI_1, Ev.atI_2, Ev.atI_3, Ev.atI_4, Ev.tyOk_s, Ev.slW_to, Ev.slW_from, Ev.addW_SS, Int.toNat_natCast, Option.some.injEq, List.set_set, Option.map_some, W.int.injEq, W.str.injEq, W.loc.injEq, Nat.reduceLeDiff, and_self, Int.reduceLT, Int.reduceLE, Int.reduceNeg, Int.reduceToNat, Int.reduceAdd, Int.reduceMul, Int.reduceSub, decide_eq_true_eq, wq_ixL e5, e6]
      have mk := List.getElem_mem hz2
      generalize ks[z2.toNat] = kd at *
      have sh5 := hsh.xt (X1.trans X06)
      have sub := (sh5.ok.sub kd mk).2.1
      have wl := woL_len sh5.ok 3 kd mk (by omega)
      have wc := sh5.ok.cnt kd mk
      refine worths_ok (by decide) sh5.ok 3 64 kd _ _ mk (by omega) (by decide) sh5.at_ fun q S6 X6 l6 e7 => ?_
      have st6 := st5.mono X6 (by simp)
      have l26 : S2.length < S6.length := st6.lt
      have nq : S2.length ≠ q := by have := st5.lt; omega
      have X16 : Xt [] S1 S6 := X06.trans X6
      have lq := lt_at e7
      clear e6 e5 X5
      try simp (maxSteps := 500000) (implicitDefEqProofs := false) (disch := omega) only [↓Ev.wq_aCons, ↓Ev.wq_aNil, ↓Ev.wq_and, ↓Ev.wq_bind, ↓Ev.wq_c, ↓Ev.wq_dnew, ↓Ev.wq_e1, ↓Ev.wq_e2, ↓Ev.wq_eIf, ↓Ev.wq_eL, ↓Ev.wq_eM, ↓Ev.wq_eSl, ↓Ev.wq_in, ↓Ev.wq_ite, ↓Ev.wq_ixR, ↓Ev.wq_ixS, ↓Ev.wq_ixT, ↓Ev.wq_lc, ↓Ev.wq_lst, ↓Ev.wq_no, ↓Ev.wq_not, ↓Ev.wq_oNone, ↓Ev.wq_oSome, ↓Ev.wq_ok, ↓Ev.wq_or, ↓Ev.wq_rng1, ↓Ev.wq_rng2, ↓Ev.wq_run, ↓Ev.wq_seq, ↓Ev.wq_test, ↓Ev.wq_tru, ↓Ev.wq_tup, ↓Ev.wq_vAnd, ↓Ev.wq_vNot, ↓Ev.wq_vOr, ↓Ev.wq_var0, ↓Ev.wq_varS, ↓Ev.wq_yes, ↓Ev.wq_zip, ↓Ev.ws_asg, ↓Ev.ws_brk, ↓Ev.ws_cnt, ↓Ev.ws_expr, ↓Ev.ws_for, ↓Ev.ws_if, ↓Ev.ws_in, ↓Ev.ws_kn, ↓Ev.ws_nil, ↓Ev.ws_nx, ↓Ev.ws_put, ↓Ev.ws_ret, ↓Ev.ws_retN, ↓Ev.ws_rt, ↓Ev.ws_seq, ↓Ev.ws_while, ↓Ev.ws_set, ↓Ev.wo_some, ↓Ev.onB_b, ↓Ev.onI_i, ↓Ev.Kn_rt, ↓Ev.Kn_bk, ↓Ev.Kn_ct, ↓Ev.onRet_nx, ↓Ev.onRet_rt, ↓Ev.onNx_nx, ↓Ev.onNx_ct, ↓Ev.onNx_bk, ↓Ev.onNx_rt, List.map_cons, List.map_nil, List.length_cons, List.length_nil, List.replicate, List.cons_append, List.nil_append, Nat.reduceAdd, Nat.reduceSub, List.set_cons_zero, List.set_cons_succ, if_true, if_false, true_and, and_true, Bool.false_eq_true, Bool.not_true, Bool.not_false, ↓reduceIte, Ev.ifF, Nat.zero_add, Ev.startE, Ev.wipeE, Ev.put_nm, Ev.put_tp, Ev.puts_nil, Ev.puts_cons, Option.bind_some, Ev.seqLen_t, Ev.seqLen_r, Ev.addW_ii, Ev.addW_tt, Ev.subW_ii, Ev.mulW_ii, Ev.modW_ii, Ev.fdivW_ii, Ev.powW_ii, Ev.negW_i, Ev.cmpI_ii, Ev.isW_n, Ev.isnW_n, Ev.isNon_n, Ev.isNon_b, Ev.isNon_i, Ev.isNon_s, Ev.isNon_t, Ev.isNon_l, Ev.max2W_ii, Ev.min2W_ii, Ev.intW_i, Ev.intW_b, Ev.lenW_t, Ev.lenW_r, Ev.listW_t, Ev.tupleW_t, Ev.truW_b, Ev.truW_n, Ev.truW_i, Ev.truW_t, Ev.eqW_ii, Ev.neW_ii, Ev.eqW_ss, Ev.neW_ss, Ev.eqW_bb, Ev.ixN_0, Ev.ixN_1, Ev.ixN_2, Ev.ixN_3, Ev.isi_bb, Ev.isi_bs, Ev.isi_bi, Ev.isi_bt, Ev.isi_bl, Ev.isi_ib, Ev.isi_is, Ev.isi_ii, Ev.isi_it, Ev.isi_il, Ev.isi_sb, Ev.isi_ss, Ev.isi_si, Ev.isi_st, Ev.isi_sl, Ev.isi_tb, Ev.isi_ts, Ev.isi_ti, Ev.isi_tt, Ev.isi_tl, Ev.isi_nb, Ev.isi_ns, Ev.isi_ni, Ev.isi_nt, Ev.isi_nl, Ev.atI_0, Ev.atI_1, Ev.atI_2, Ev.atI_3, Ev.atI_4, Ev.tyOk_s, Ev.slW_to, Ev.slW_from, Ev.addW_SS, Int.toNat_natCast, Option.some.injEq, List.set_set, Option.map_some, W.int.injEq, W.str.injEq, W.loc.injEq, Nat.reduceLeDiff, and_self, Int.reduceLT, Int.reduceLE, Int.reduceNeg, Int.reduceToNat, Int.reduceAdd, Int.reduceMul, Int.reduceSub, decide_eq_true_eq, lenW_l e7, List.length_map]
      refine take_ok (by decide) st6 (by omega) fun z3 o3 h5 h6 st7 => ?_
      have hz3 : z3.toNat < (woL ks 3 kd.nm).length := by omega
      have e8 : atI ((woL ks 3 kd.nm).map Wo.w) z3 = some ((woL ks 3 kd.nm)[z3.toNat]).w := Ev.atI_of h5 (by rw [List.getElem?_map, List.getElem?_eq_getElem hz3]; rfl)
      have m3 := List.getElem_mem hz3
      generalize (woL ks 3 kd.nm)[z3.toNat] = one at *
      have e7b := at_ne (o' := o3) e7 nq
      have X17 : Xt [] S1 (S6.set S2.length o3) := X16.setN l2
      generalize S6.set S2.length o3 = S7 at *
      try simp (maxSteps := 500000) (implicitDefEqProofs := false) (disch := omega) only [↓Ev.wq_aCons, ↓Ev.wq_aNil, ↓Ev.wq_and, ↓Ev.wq_bind, ↓Ev.wq_c, ↓Ev.wq_dnew, ↓Ev.wq_e1, ↓Ev.wq_e2, ↓Ev.wq_eIf, ↓Ev.wq_eL, ↓Ev.wq_eM, ↓Ev.wq_eSl, ↓Ev.wq_in, ↓Ev.wq_ite, ↓Ev.wq_ixR, ↓Ev.wq_ixS, ↓Ev.wq_ixT, ↓Ev.wq_lc, ↓Ev.wq_lst, ↓Ev.wq_no, ↓Ev.wq_not, ↓Ev.wq_oNone, ↓Ev.wq_oSome, ↓Ev.wq_ok, ↓Ev.wq_or, ↓Ev.wq_rng1, ↓Ev.wq_rng2, ↓Ev.wq_run, ↓Ev.wq_seq, ↓Ev.wq_test, ↓Ev.wq_tru, ↓Ev.wq_tup, ↓Ev.wq_vAnd, ↓Ev.wq_vNot, ↓Ev.wq_vOr, ↓Ev.wq_var0, ↓Ev.wq_varS, ↓Ev.wq_yes, ↓Ev.wq_zip, ↓Ev.ws_asg, ↓Ev.ws_brk, ↓Ev.ws_cnt, ↓Ev.ws_expr, ↓Ev.ws_for, ↓Ev.ws_if, ↓Ev.ws_in, ↓Ev.ws_kn, ↓Ev.ws_nil, ↓Ev.ws_nx, ↓Ev.ws_put, ↓Ev.ws_ret, ↓Ev.ws_retN, ↓Ev.ws_rt, ↓Ev.ws_seq, ↓Ev.ws_while, ↓Ev.ws_set, ↓Ev.wo_some, ↓Ev.onB_b, ↓Ev.onI_i, ↓Ev.Kn_rt, ↓Ev.Kn_bk, ↓Ev.Kn_ct, ↓Ev.onRet_nx, ↓Ev.onRet_rt, ↓Ev.onNx_nx, ↓Ev.onNx_ct, ↓Ev.onNx_bk, ↓Ev.onNx_rt, List.map_cons, List.map_nil, List.length_cons, List.length_nil, List.replicate, List.cons_append, List.nil_append, Nat.reduceAdd, Nat.reduceSub, List.set_cons_zero, List.set_cons_succ, if_true, if_false, true_and, and_true, Bool.false_eq_true, Bool.not_true, Bool.not_false, ↓reduceIte, Ev.ifF, Nat.zero_add, Ev.startE, Ev.wipeE, Ev.put_nm, Ev.put_tp, Ev.puts_nil, Ev.puts_cons, Option.bind_some, Ev.seqLen_t, Ev.seqLen_r, Ev.addW_ii, Ev.addW_tt, Ev.subW_ii, Ev.mulW_ii, Ev.modW_ii, Ev.fdivW_ii, Ev.powW_ii, Ev.negW_i, Ev.cmpI_ii, Ev.isW_n, Ev.isnW_n, Ev.isNon_n, Ev.isNon_b, Ev.isNon_i, Ev.isNon_s, Ev.isNon_t, Ev.isNon_l, Ev.max2W_ii, Ev.min2W_ii, Ev.intW_i, Ev.intW_b, Ev.lenW_t, Ev.lenW_r, Ev.listW_t, Ev.tupleW_t, Ev.truW_b, Ev.truW_n, Ev.truW_i, Ev.truW_t, Ev.eqW_ii, Ev.neW_ii, Ev.eqW_ss, Ev.neW_ss, Ev.eqW_bb, Ev.ixN_0, Ev.ixN_1, Ev.ixN_2, Ev.ixN_3, Ev.isi_bb, Ev.isi_bs, Ev.isi_bi, Ev.isi_bt, Ev.isi_bl, Ev.isi_ib, Ev.isi_is, Ev.isi_ii, Ev.isi_it, Ev.isi_il, Ev.isi_sb, Ev.isi_ss, Ev.isi_si, Ev.isi_st, Ev.isi_sl, Ev.isi_tb, Ev.isi_ts, Ev.isi_ti, Ev.isi_tt, Ev.isi_tl, Ev.isi_nb, Ev.isi_ns, Ev.isi_ni, Ev.isi_nt, Ev.isi_nl, Ev.atI_0, Ev.atI_1, Ev.atI_2, Ev.atI_3, Ev.atI_4, Ev.tyOk_s, Ev.slW_to, Ev.slW_from, Ev.addW_SS, Int.toNat_natCast, Option.some.injEq, List.set_set, Option.map_some, W.int.injEq, W.str.injEq, W.loc.injEq, Nat.reduceLeDiff, and_self, Int.reduceLT, Int.reduceLE, Int.reduceNeg, Int.reduceToNat, Int.reduceAdd, Int.reduceMul, Int.reduceSub, decide_eq_true_eq, wq_ixL e7b, e8]
      try simp (maxSteps := 500000) (implicitDefEqProofs := false) (disch := omega) only [↓Ev.wq_aCons, ↓Ev.wq_aNil, ↓Ev.wq_and, ↓Ev.wq_bind, ↓Ev.wq_c, ↓Ev.wq_dnew, ↓Ev.wq_e1, ↓Ev.wq_e2, ↓Ev.wq_eIf, ↓Ev.wq_eL, ↓Ev.wq_eM, ↓Ev.wq_eSl, ↓Ev.wq_in, ↓Ev.wq_ite, ↓Ev.wq_ixR, ↓Ev.wq_ixS, ↓Ev.wq_ixT, ↓Ev.wq_lc, ↓Ev.wq_lst, ↓Ev.wq_no, ↓Ev.wq_not, ↓Ev.wq_oNone, ↓Ev.wq_oSome, ↓Ev.wq_ok, ↓Ev.wq_or, ↓Ev.wq_rng1, ↓Ev.wq_rng2, ↓Ev.wq_run, ↓Ev.wq_seq, ↓Ev.wq_test, ↓Ev.wq_tru, ↓Ev.wq_tup, ↓Ev.wq_vAnd, ↓Ev.wq_vNot, ↓Ev.wq_vOr, ↓Ev.wq_var0, ↓Ev.wq_varS, ↓Ev.wq_yes, ↓Ev.wq_zip, ↓Ev.ws_asg, ↓Ev.ws_brk, ↓Ev.ws_cnt, ↓Ev.ws_expr, ↓Ev.ws_for, ↓Ev.ws_if, ↓Ev.ws_in, ↓Ev.ws_kn, ↓Ev.ws_nil, ↓Ev.ws_nx, ↓Ev.ws_put, ↓Ev.ws_ret, ↓Ev.ws_retN, ↓Ev.ws_rt, ↓Ev.ws_seq, ↓Ev.ws_while, ↓Ev.ws_set, ↓Ev.wo_some, ↓Ev.onB_b, ↓Ev.onI_i, ↓Ev.Kn_rt, ↓Ev.Kn_bk, ↓Ev.Kn_ct, ↓Ev.onRet_nx, ↓Ev.onRet_rt, ↓Ev.onNx_nx, ↓Ev.onNx_ct, ↓Ev.onNx_bk, ↓Ev.onNx_rt, List.map_cons, List.map_nil, List.length_cons, List.length_nil, List.replicate, List.cons_append, List.nil_append, Nat.reduceAdd, Nat.reduceSub, List.set_cons_zero, List.set_cons_succ, if_true, if_false, true_and, and_true, Bool.false_eq_true, Bool.not_true, Bool.not_false, ↓reduceIte, Ev.ifF, Nat.zero_add, Ev.startE, Ev.wipeE, Ev.put_nm, Ev.put_tp, Ev.puts_nil, Ev.puts_cons, Option.bind_some, Ev.seqLen_t, Ev.seqLen_r, Ev.addW_ii, Ev.addW_tt, Ev.subW_ii, Ev.mulW_ii, Ev.modW_ii, Ev.fdivW_ii, Ev.powW_ii, Ev.negW_i, Ev.cmpI_ii, Ev.isW_n, Ev.isnW_n, Ev.isNon_n, Ev.isNon_b, Ev.isNon_i, Ev.isNon_s, Ev.isNon_t, Ev.isNon_l, Ev.max2W_ii, Ev.min2W_ii, Ev.intW_i, Ev.intW_b, Ev.lenW_t, Ev.lenW_r, Ev.listW_t, Ev.tupleW_t, Ev.truW_b, Ev.truW_n, Ev.truW_i, Ev.truW_t, Ev.eqW_ii, Ev.neW_ii, Ev.eqW_ss, Ev.neW_ss, Ev.eqW_bb, Ev.ixN_0, Ev.ixN_1, Ev.ixN_2, Ev.ixN_3, Ev.isi_bb, Ev.isi_bs, Ev.isi_bi, Ev.isi_bt, Ev.isi_bl, Ev.isi_ib, Ev.isi_is, Ev.isi_ii, Ev.isi_it, Ev.isi_il, Ev.isi_sb, Ev.isi_ss, Ev.isi_si, Ev.isi_st, Ev.isi_sl, Ev.isi_tb, Ev.isi_ts, Ev.isi_ti, Ev.isi_tt, Ev.isi_tl, Ev.isi_nb, Ev.isi_ns, Ev.isi_ni, Ev.isi_nt, Ev.isi_nl, Ev.atI_0, Ev.atI_1, Ev.atI_2, Ev.atI_3, Ev.atI_4, Ev.tyOk_s, Ev.slW_to, Ev.slW_from, Ev.addW_SS, Int.toNat_natCast, Option.some.injEq, List.set_set, Option.map_some, W.int.injEq, W.str.injEq, W.loc.injEq, Nat.reduceLeDiff, and_self, Int.reduceLT, Int.reduceLE, Int.reduceNeg, Int.reduceToNat, Int.reduceAdd, Int.reduceMul, Int.reduceSub, decide_eq_true_eq, lenW_l e7b, List.length_map]
      refine take_ok (by decide) st7 (by omega) fun z4 o4 h7 h8 st8 => ?_
      have hz4 : z4.toNat < (woL ks 3 kd.nm).length := by omega
      have e9 : atI ((woL ks 3 kd.nm).map Wo.w) z4 = some ((woL ks 3 kd.nm)[z4.toNat]).w := Ev.atI_of h7 (by rw [List.getElem?_map, List.getElem?_eq_getElem hz4]; rfl)
      have m4 := List.getElem_mem hz4
      generalize (woL ks 3 kd.nm)[z4.toNat] = other at *
      have e7c := at_ne (o' := o4) e7b nq
      have X18 : Xt [] S1 (S7.set S2.length o4) := X17.setN l2
      generalize S7.set S2.length o4 = S8 at *
      try simp (maxSteps := 500000) (implicitDefEqProofs := false) (disch := omega) only [↓Ev.wq_aCons, ↓Ev.wq_aNil, ↓Ev.wq_and, ↓Ev.wq_bind, ↓Ev.wq_c, ↓Ev.wq_dnew, ↓Ev.wq_e1, ↓Ev.wq_e2, ↓Ev.wq_eIf, ↓Ev.wq_eL, ↓Ev.wq_eM, ↓Ev.wq_eSl, ↓Ev.wq_in, ↓Ev.wq_ite, ↓Ev.wq_ixR, ↓Ev.wq_ixS, ↓Ev.wq_ixT, ↓Ev.wq_lc, ↓Ev.wq_lst, ↓Ev.wq_no, ↓Ev.wq_not, ↓Ev.wq_oNone, ↓Ev.wq_oSome, ↓Ev.wq_ok, ↓Ev.wq_or, ↓Ev.wq_rng1, ↓Ev.wq_rng2, ↓Ev.wq_run, ↓Ev.wq_seq, ↓Ev.wq_test, ↓Ev.wq_tru, ↓Ev.wq_tup, ↓Ev.wq_vAnd, ↓Ev.wq_vNot, ↓Ev.wq_vOr, ↓Ev.wq_var0, ↓Ev.wq_varS, ↓Ev.wq_yes, ↓Ev.wq_zip, ↓Ev.ws_asg, ↓Ev.ws_brk, ↓Ev.ws_cnt, ↓Ev.ws_expr, ↓Ev.ws_for, ↓Ev.ws_if, ↓Ev.ws_in, ↓Ev.ws_kn, ↓Ev.ws_nil, ↓Ev.ws_nx, ↓Ev.ws_put, ↓Ev.ws_ret, ↓Ev.ws_retN, ↓Ev.ws_rt, ↓Ev.ws_seq, ↓Ev.ws_while, ↓Ev.ws_set, ↓Ev.wo_some, ↓Ev.onB_b, ↓Ev.onI_i, ↓Ev.Kn_rt, ↓Ev.Kn_bk, ↓Ev.Kn_ct, ↓Ev.onRet_nx, ↓Ev.onRet_rt, ↓Ev.onNx_nx, ↓Ev.onNx_ct, ↓Ev.onNx_bk, ↓Ev.onNx_rt, List.map_cons, List.map_nil, List.length_cons, List.length_nil, List.replicate, List.cons_append, List.nil_append, Nat.reduceAdd, Nat.reduceSub, List.set_cons_zero, List.set_cons_succ, if_true, if_false, true_and, and_true, Bool.false_eq_true, Bool.not_true, Bool.not_false, ↓reduceIte, Ev.ifF, Nat.zero_add, Ev.startE, Ev.wipeE, Ev.put_nm, Ev.put_tp, Ev.puts_nil, Ev.puts_cons, Option.bind_some, Ev.seqLen_t, Ev.seqLen_r, Ev.addW_ii, Ev.addW_tt, Ev.subW_ii, Ev.mulW_ii, Ev.modW_ii, Ev.fdivW_ii, Ev.powW_ii, Ev.negW_i, Ev.cmpI_ii, Ev.isW_n, Ev.isnW_n, Ev.isNon_n, Ev.isNon_b, Ev.isNon_i, Ev.isNon_s, Ev.isNon_t, Ev.isNon_l, Ev.max2W_ii, Ev.min2W_ii, Ev.intW_i, Ev.intW_b, Ev.lenW_t, Ev.lenW_r, Ev.listW_t, Ev.tupleW_t, Ev.truW_b, Ev.truW_n, Ev.truW_i, Ev.truW_t, Ev.eqW_ii, Ev.neW_ii, Ev.eqW_ss, Ev.neW_ss, Ev.eqW_bb, Ev.ixN_0, Ev.ixN_1, Ev.ixN_2, Ev.ixN_3, Ev.isi_bb, Ev.isi_bs, Ev.isi_bi, Ev.isi_bt, Ev.isi_bl, Ev.isi_ib, Ev.isi_is, Ev.isi_ii, Ev.isi_it, Ev.isi_il, Ev.isi_sb, Ev.isi_ss, Ev.isi_si, Ev.isi_st, Ev.isi_sl, Ev.isi_tb, Ev.isi_ts, Ev.isi_ti, Ev.isi_tt, Ev.isi_tl, Ev.isi_nb, Ev.isi_ns, Ev.isi_ni, Ev.isi_nt, Ev.isi_nl, Ev.atI_0, Ev.atI_1, Ev.atI_2, Ev.atI_3, Ev.atI_4, Ev.tyOk_s, Ev.slW_to, Ev.slW_from, Ev.addW_SS, Int.toNat_natCast, Option.some.injEq, List.set_set, Option.map_some, W.int.injEq, W.str.injEq, W.loc.injEq, Nat.reduceLeDiff, and_self, Int.reduceLT, Int.reduceLE, Int.reduceNeg, Int.reduceToNat, Int.reduceAdd, Int.reduceMul, Int.reduceSub, decide_eq_true_eq, wq_ixL e7c, e9]
      refine take_ok (by decide) st8 (by decide) fun z5 o5 h9 h10 st9 => ?_
      have e7d := at_ne (o' := o5) e7c nq
      have X19 : Xt [] S1 (S8.set S2.length o5) := X18.setN l2
      generalize S8.set S2.length o5 = S9 at *
      try simp (maxSteps := 500000) (implicitDefEqProofs := false) (disch := omega) only [↓Ev.wq_aCons, ↓Ev.wq_aNil, ↓Ev.wq_and, ↓Ev.wq_bind, ↓Ev.wq_c, ↓Ev.wq_dnew, ↓Ev.wq_e1, ↓Ev.wq_e2, ↓Ev.wq_eIf, ↓Ev.wq_eL, ↓Ev.wq_eM, ↓Ev.wq_eSl, ↓Ev.wq_in, ↓Ev.wq_ite, ↓Ev.wq_ixR, ↓Ev.wq_ixS, ↓Ev.wq_ixT, ↓Ev.wq_lc, ↓Ev.wq_lst, ↓Ev.wq_no, ↓Ev.wq_not, ↓Ev.wq_oNone, ↓Ev.wq_oSome, ↓Ev.wq_ok, ↓Ev.wq_or, ↓Ev.wq_rng1, ↓Ev.wq_rng2, ↓Ev.wq_run, ↓Ev.wq_seq, ↓Ev.wq_test, ↓Ev.wq_tru, ↓Ev.wq_tup, ↓Ev.wq_vAnd, ↓Ev.wq_vNot, ↓Ev.wq_vOr, ↓Ev.wq_var0, ↓Ev.wq_varS, ↓Ev.wq_yes, ↓Ev.wq_zip, ↓Ev.ws_asg, ↓Ev.ws_brk, ↓Ev.ws_cnt, ↓Ev.ws_expr, ↓Ev.ws_for, ↓Ev.ws_if, ↓Ev.ws_in, ↓Ev.ws_kn, ↓Ev.ws_nil, ↓Ev.ws_nx, ↓Ev.ws_put, ↓Ev.ws_ret, ↓Ev.ws_retN, ↓Ev.ws_rt, ↓Ev.ws_seq, ↓Ev.ws_while, ↓Ev.ws_set, ↓Ev.wo_some, ↓Ev.onB_b, ↓Ev.onI_i, ↓Ev.Kn_rt, ↓Ev.Kn_bk, ↓Ev.Kn_ct, ↓Ev.onRet_nx, ↓Ev.onRet_rt, ↓Ev.onNx_nx, ↓Ev.onNx_ct, ↓Ev.onNx_bk, ↓Ev.onNx_rt, List.map_cons, List.map_nil, List.length_cons, List.length_nil, List.replicate, List.cons_append, List.nil_append, Nat.reduceAdd, Nat.reduceSub, List.set_cons_zero, List.set_cons_succ, if_true, if_false, true_and, and_true, Bool.false_eq_true, Bool.not_true, Bool.not_false, ↓reduceIte, Ev.ifF, Nat.zero_add, Ev.startE, Ev.wipeE, Ev.put_nm, Ev.put_tp, Ev.puts_nil, Ev.puts_cons, Option.bind_some, Ev.seqLen_t, Ev.seqLen_r, Ev.addW_ii, Ev.addW_tt, Ev.subW_ii, Ev.mulW_ii, Ev.modW_ii, Ev.fdivW_ii, Ev.powW_ii, Ev.negW_i, Ev.cmpI_ii, Ev.isW_n, Ev.isnW_n, Ev.isNon_n, Ev.isNon_b, Ev.isNon_i, Ev.isNon_s, Ev.isNon_t, Ev.isNon_l, Ev.max2W_ii, Ev.min2W_ii, Ev.intW_i, Ev.intW_b, Ev.lenW_t, Ev.lenW_r, Ev.listW_t, Ev.tupleW_t, Ev.truW_b, Ev.truW_n, Ev.truW_i, Ev.truW_t, Ev.eqW_ii, Ev.neW_ii, Ev.eqW_ss, Ev.neW_ss, Ev.eqW_bb, Ev.ixN_0, Ev.ixN_1, Ev.ixN_2, Ev.ixN_3, Ev.isi_bb, Ev.isi_bs, Ev.isi_bi, Ev.isi_bt, Ev.isi_bl, Ev.isi_ib, Ev.isi_is, Ev.isi_ii, Ev.isi_it, Ev.isi_il, Ev.isi_sb, Ev.isi_ss, Ev.isi_si, Ev.isi_st, Ev.isi_sl, Ev.isi_tb, Ev.isi_ts, Ev.isi_ti, Ev.isi_tt, Ev.isi_tl, Ev.isi_nb, Ev.isi_ns, Ev.isi_ni, Ev.isi_nt, Ev.isi_nl, Ev.atI_0, Ev.atI_1, Ev.atI_2, Ev.atI_3, Ev.atI_4, Ev.tyOk_s, Ev.slW_to, Ev.slW_from, Ev.addW_SS, Int.toNat_natCast, Option.some.injEq, List.set_set, Option.map_some, W.int.injEq, W.str.injEq, W.loc.injEq, Nat.reduceLeDiff, and_self, Int.reduceLT, Int.reduceLE, Int.reduceNeg, Int.reduceToNat, Int.reduceAdd, Int.reduceMul, Int.reduceSub, decide_eq_true_eq]
      split
      · try simp (maxSteps := 500000) (implicitDefEqProofs := false) (disch := omega) only [↓Ev.wq_aCons, ↓Ev.wq_aNil, ↓Ev.wq_and, ↓Ev.wq_bind, ↓Ev.wq_c, ↓Ev.wq_dnew, ↓Ev.wq_e1, ↓Ev.wq_e2, ↓Ev.wq_eIf, ↓Ev.wq_eL, ↓Ev.wq_eM, ↓Ev.wq_eSl, ↓Ev.wq_in, ↓Ev.wq_ite, ↓Ev.wq_ixR, ↓Ev.wq_ixS, ↓Ev.wq_ixT, ↓Ev.wq_lc, ↓Ev.wq_lst, ↓Ev.wq_no, ↓Ev.wq_not, ↓Ev.wq_oNone, ↓Ev.wq_oSome, ↓Ev.wq_ok, ↓Ev.wq_or, ↓Ev.wq_rng1, ↓Ev.wq_rng2, ↓Ev.wq_run, ↓Ev.wq_seq, ↓Ev.wq_test, ↓Ev.wq_tru, ↓Ev.wq_tup, ↓Ev.wq_vAnd, ↓Ev.wq_vNot, ↓Ev.wq_vOr, ↓Ev.wq_var0, ↓Ev.wq_varS, ↓Ev.wq_yes, ↓Ev.wq_zip, ↓Ev.ws_asg, ↓Ev.ws_brk, ↓Ev.ws_cnt, ↓Ev.ws_expr, ↓Ev.ws_for, ↓Ev.ws_if, ↓Ev.ws_in, ↓Ev.ws_kn, ↓Ev.ws_nil, ↓Ev.ws_nx, ↓Ev.ws_put, ↓Ev.ws_ret, ↓Ev.ws_retN, ↓Ev.ws_rt, ↓Ev.ws_seq, ↓Ev.ws_while, ↓Ev.ws_set, ↓Ev.wo_some, ↓Ev.onB_b, ↓Ev.onI_i, ↓Ev.Kn_rt, ↓Ev.Kn_bk, ↓Ev.Kn_ct, ↓Ev.onRet_nx, ↓Ev.onRet_rt, ↓Ev.onNx_nx, ↓Ev.onNx_ct, ↓Ev.onNx_bk, ↓Ev.onNx_rt, List.map_cons, List.map_nil, List.length_cons, List.length_nil, List.replicate, List.cons_append, List.nil_append, Nat.reduceAdd, Nat.reduceSub, List.set_cons_zero, List.set_cons_succ, if_true, if_false, true_and, and_true, Bool.false_eq_true, Bool.not_true, Bool.not_false, ↓reduceIte, Ev.ifF, Nat.zero_add, Ev.startE, Ev.wipeE, Ev.put_nm, Ev.put_tp, Ev.puts_nil, Ev.puts_cons, Option.bind_some, Ev.seqLen_t, Ev.seqLen_r, Ev.addW_ii, Ev.addW_tt, Ev.subW_ii, Ev.mulW_ii, Ev.modW_ii, Ev.fdivW_ii, Ev.powW_ii, Ev.negW_i, Ev.cmpI_ii, Ev.isW_n, Ev.isnW_n, Ev.isNon_n, Ev.isNon_b, Ev.isNon_i, Ev.isNon_s, Ev.isNon_t, Ev.isNon_l, Ev.max2W_ii, Ev.min2W_ii, Ev.intW_i, Ev.intW_b, Ev.lenW_t, Ev.lenW_r, Ev.listW_t, Ev.tupleW_t, Ev.truW_b, Ev.truW_n, Ev.truW_i, Ev.truW_t, Ev.eqW_ii, Ev.neW_ii, Ev.eqW_ss, Ev.neW_ss, Ev.eqW_bb, Ev.ixN_0, Ev.ixN_1, Ev.ixN_2, Ev.ixN_3, Ev.isi_bb, Ev.isi_bs, Ev.isi_bi, Ev.isi_bt, Ev.isi_bl, Ev.isi_ib, Ev.isi_is, Ev.isi_ii, Ev.isi_it, Ev.isi_il, Ev.isi_sb, Ev.isi_ss, Ev.isi_si, Ev.isi_st, Ev.isi_sl, Ev.isi_tb, Ev.isi_ts, Ev.isi_ti, Ev.isi_tt, Ev.isi_tl, Ev.isi_nb, Ev.isi_ns, Ev.isi_ni, Ev.isi_nt, Ev.isi_nl, Ev.atI_0, Ev.atI_1, Ev.atI_2, Ev.atI_3, Ev.atI_4, Ev.tyOk_s, Ev.slW_to, Ev.slW_from, Ev.addW_SS, Int.toNat_natCast, Option.some.injEq, List.set_set, Option.map_some, W.int.injEq, W.str.injEq, W.loc.injEq, Nat.reduceLeDiff, and_self, Int.reduceLT, Int.reduceLE, Int.reduceNeg, Int.reduceToNat, Int.reduceAdd, Int.reduceMul, Int.reduceSub, decide_eq_true_eq]
        refine cut_ok (d := 2) one m3 (by have := woL_dp ks 3 kd.nm one m3; show one.dp + 3 ≤ 64; omega) st9 fun y S10 X10 st10 hy => ?_
        have e7e := X10.get e7d (by simp; omega)
        try simp (maxSteps := 500000) (implicitDefEqProofs := false) (disch := omega) only [↓Ev.wq_aCons, ↓Ev.wq_aNil, ↓Ev.wq_and, ↓Ev.wq_bind, ↓Ev.wq_c, ↓Ev.wq_dnew, ↓Ev.wq_e1, ↓Ev.wq_e2, ↓Ev.wq_eIf, ↓Ev.wq_eL, ↓Ev.wq_eM, ↓Ev.wq_eSl, ↓Ev.wq_in, ↓Ev.wq_ite, ↓Ev.wq_ixR, ↓Ev.wq_ixS, ↓Ev.wq_ixT, ↓Ev.wq_lc, ↓Ev.wq_lst, ↓Ev.wq_no, ↓Ev.wq_not, ↓Ev.wq_oNone, ↓Ev.wq_oSome, ↓Ev.wq_ok, ↓Ev.wq_or, ↓Ev.wq_rng1, ↓Ev.wq_rng2, ↓Ev.wq_run, ↓Ev.wq_seq, ↓Ev.wq_test, ↓Ev.wq_tru, ↓Ev.wq_tup, ↓Ev.wq_vAnd, ↓Ev.wq_vNot, ↓Ev.wq_vOr, ↓Ev.wq_var0, ↓Ev.wq_varS, ↓Ev.wq_yes, ↓Ev.wq_zip, ↓Ev.ws_asg, ↓Ev.ws_brk, ↓Ev.ws_cnt, ↓Ev.ws_expr, ↓Ev.ws_for, ↓Ev.ws_if, ↓Ev.ws_in, ↓Ev.ws_kn, ↓Ev.ws_nil, ↓Ev.ws_nx, ↓Ev.ws_put, ↓Ev.ws_ret, ↓Ev.ws_retN, ↓Ev.ws_rt, ↓Ev.ws_seq, ↓Ev.ws_while, ↓Ev.ws_set, ↓Ev.wo_some, ↓Ev.onB_b, ↓Ev.onI_i, ↓Ev.Kn_rt, ↓Ev.Kn_bk, ↓Ev.Kn_ct, ↓Ev.onRet_nx, ↓Ev.onRet_rt, ↓Ev.onNx_nx, ↓Ev.onNx_ct, ↓Ev.onNx_bk, ↓Ev.onNx_rt, List.map_cons, List.map_nil, List.length_cons, List.length_nil, List.replicate, List.cons_append, List.nil_append, Nat.reduceAdd, Nat.reduceSub, List.set_cons_zero, List.set_cons_succ, if_true, if_false, true_and, and_true, Bool.false_eq_true, Bool.not_true, Bool.not_false, ↓reduceIte, Ev.ifF, Nat.zero_add, Ev.startE, Ev.wipeE, Ev.put_nm, Ev.put_tp, Ev.puts_nil, Ev.puts_cons, Option.bind_some, Ev.seqLen_t, Ev.seqLen_r, Ev.addW_ii, Ev.addW_tt, Ev.subW_ii, Ev.mulW_ii, Ev.modW_ii, Ev.fdivW_ii, Ev.powW_ii, Ev.negW_i, Ev.cmpI_ii, Ev.isW_n, Ev.isnW_n, Ev.isNon_n, Ev.isNon_b, Ev.isNon_i, Ev.isNon_s, Ev.isNon_t, Ev.isNon_l, Ev.max2W_ii, Ev.min2W_ii, Ev.intW_i, Ev.intW_b, Ev.lenW_t, Ev.lenW_r, Ev.listW_t, Ev.tupleW_t, Ev.truW_b, Ev.truW_n, Ev.truW_i, Ev.truW_t, Ev.eqW_ii, Ev.neW_ii, Ev.eqW_ss, Ev.neW_ss, Ev.eqW_bb, Ev.ixN_0, Ev.ixN_1, Ev.ixN_2, Ev.ixN_3, Ev.isi_bb, Ev.isi_bs, Ev.isi_bi, Ev.isi_bt, Ev.isi_bl, Ev.isi_ib, Ev.isi_is, Ev.isi_ii, Ev.isi_it, Ev.isi_il, Ev.isi_sb, Ev.isi_ss, Ev.isi_si, Ev.isi_st, Ev.isi_sl, Ev.isi_tb, Ev.isi_ts, Ev.isi_ti, Ev.isi_tt, Ev.isi_tl, Ev.isi_nb, Ev.isi_ns, Ev.isi_ni, Ev.isi_nt, Ev.isi_nl, Ev.atI_0, Ev.atI_1, Ev.atI_2, Ev.atI_3, Ev.atI_4, Ev.tyOk_s, Ev.slW_to, Ev.slW_from, Ev.addW_SS, Int.toNat_natCast, Option.some.injEq, List.set_set, Option.map_some, W.int.injEq, W.str.injEq, W.loc.injEq, Nat.reduceLeDiff, and_self, Int.reduceLT, Int.reduceLE, Int.reduceNeg, Int.reduceToNat, Int.reduceAdd, Int.reduceMul, Int.reduceSub, decide_eq_true_eq]
        refine right_ok (by decide) e7e (by omega) (by decide) m3 hy fun S11 X11 => ?_
        try simp (maxSteps := 500000) (implicitDefEqProofs := false) (disch := omega) only [↓Ev.wq_aCons, ↓Ev.wq_aNil, ↓Ev.wq_and, ↓Ev.wq_bind, ↓Ev.wq_c, ↓Ev.wq_dnew, ↓Ev.wq_e1, ↓Ev.wq_e2, ↓Ev.wq_eIf, ↓Ev.wq_eL, ↓Ev.wq_eM, ↓Ev.wq_eSl, ↓Ev.wq_in, ↓Ev.wq_ite, ↓Ev.wq_ixR, ↓Ev.wq_ixS, ↓Ev.wq_ixT, ↓Ev.wq_lc, ↓Ev.wq_lst, ↓Ev.wq_no, ↓Ev.wq_not, ↓Ev.wq_oNone, ↓Ev.wq_oSome, ↓Ev.wq_ok, ↓Ev.wq_or, ↓Ev.wq_rng1, ↓Ev.wq_rng2, ↓Ev.wq_run, ↓Ev.wq_seq, ↓Ev.wq_test, ↓Ev.wq_tru, ↓Ev.wq_tup, ↓Ev.wq_vAnd, ↓Ev.wq_vNot, ↓Ev.wq_vOr, ↓Ev.wq_var0, ↓Ev.wq_varS, ↓Ev.wq_yes, ↓Ev.wq_zip, ↓Ev.ws_asg, ↓Ev.ws_brk, ↓Ev.ws_cnt, ↓Ev.ws_expr, ↓Ev.ws_for, ↓Ev.ws_if, ↓Ev.ws_in, ↓Ev.ws_kn, ↓Ev.ws_nil, ↓Ev.ws_nx, ↓Ev.ws_put, ↓Ev.ws_ret, ↓Ev.ws_retN, ↓Ev.ws_rt, ↓Ev.ws_seq, ↓Ev.ws_while, ↓Ev.ws_set, ↓Ev.wo_some, ↓Ev.onB_b, ↓Ev.onI_i, ↓Ev.Kn_rt, ↓Ev.Kn_bk, ↓Ev.Kn_ct, ↓Ev.onRet_nx, ↓Ev.onRet_rt, ↓Ev.onNx_nx, ↓Ev.onNx_ct, ↓Ev.onNx_bk, ↓Ev.onNx_rt, List.map_cons, List.map_nil, List.length_cons, List.length_nil, List.replicate, List.cons_append, List.nil_append, Nat.reduceAdd, Nat.reduceSub, List.set_cons_zero, List.set_cons_succ, if_true, if_false, true_and, and_true, Bool.false_eq_true, Bool.not_true, Bool.not_false, ↓reduceIte, Ev.ifF, Nat.zero_add, Ev.startE, Ev.wipeE, Ev.put_nm, Ev.put_tp, Ev.puts_nil, Ev.puts_cons, Option.bind_some, Ev.seqLen_t, Ev.seqLen_r, Ev.addW_ii, Ev.addW_tt, Ev.subW_ii, Ev.mulW_ii, Ev.modW_ii, Ev.fdivW_ii, Ev.powW_ii, Ev.negW_i, Ev.cmpI_ii, Ev.isW_n, Ev.isnW_n, Ev.isNon_n, Ev.isNon_b, Ev.isNon_i, Ev.isNon_s, Ev.isNon_t, Ev.isNon_l, Ev.max2W_ii, Ev.min2W_ii, Ev.intW_i, Ev.intW_b, Ev.lenW_t, Ev.lenW_r, Ev.listW_t, Ev.tupleW_t, Ev.truW_b, Ev.truW_n, Ev.truW_i, Ev.truW_t, Ev.eqW_ii, Ev.neW_ii, Ev.eqW_ss, Ev.neW_ss, Ev.eqW_bb, Ev.ixN_0, Ev.ixN_1, Ev.ixN_2, Ev.ixN_3, Ev.isi_bb, Ev.isi_bs, Ev.isi_bi, Ev.isi_bt, Ev.isi_bl, Ev.isi_ib, Ev.isi_is, Ev.isi_ii, Ev.isi_it, Ev.isi_il, Ev.isi_sb, Ev.isi_ss, Ev.isi_si, Ev.isi_st, Ev.isi_sl, Ev.isi_tb, Ev.isi_ts, Ev.isi_ti, Ev.isi_tt, Ev.isi_tl, Ev.isi_nb, Ev.isi_ns, Ev.isi_ni, Ev.isi_nt, Ev.isi_nl, Ev.atI_0, Ev.atI_1, Ev.atI_2, Ev.atI_3, Ev.atI_4, Ev.tyOk_s, Ev.slW_to, Ev.slW_from, Ev.addW_SS, Int.toNat_natCast, Option.some.injEq, List.set_set, Option.map_some, W.int.injEq, W.str.injEq, W.loc.injEq, Nat.reduceLeDiff, and_self, Int.reduceLT, Int.reduceLE, Int.reduceNeg, Int.reduceToNat, Int.reduceAdd, Int.reduceMul, Int.reduceSub, decide_eq_true_eq]
        exact ⟨_, _, _, _, _, _, _, rfl, ((X19.nil.trans X10).drop (M' := []) fun k hk hl => by have := List.mem_singleton.mp hk; omega).trans X11⟩
      · try simp (maxSteps := 500000) (implicitDefEqProofs := false) (disch := omega) only [↓Ev.wq_aCons, ↓Ev.wq_aNil, ↓Ev.wq_and, ↓Ev.wq_bind, ↓Ev.wq_c, ↓Ev.wq_dnew, ↓Ev.wq_e1, ↓Ev.wq_e2, ↓Ev.wq_eIf, ↓Ev.wq_eL, ↓Ev.wq_eM, ↓Ev.wq_eSl, ↓Ev.wq_in, ↓Ev.wq_ite, ↓Ev.wq_ixR, ↓Ev.wq_ixS, ↓Ev.wq_ixT, ↓Ev.wq_lc, ↓Ev.wq_lst, ↓Ev.wq_no, ↓Ev.wq_not, ↓Ev.wq_oNone, ↓Ev.wq_oSome, ↓Ev.wq_ok, ↓Ev.wq_or, ↓Ev.wq_rng1, ↓Ev.wq_rng2, ↓Ev.wq_run, ↓Ev.wq_seq, ↓Ev.wq_test, ↓Ev.wq_tru, ↓Ev.wq_tup, ↓Ev.wq_vAnd, ↓Ev.wq_vNot, ↓Ev.wq_vOr, ↓Ev.wq_var0, ↓Ev.wq_varS, ↓Ev.wq_yes, ↓Ev.wq_zip, ↓Ev.ws_asg, ↓Ev.ws_brk, ↓Ev.ws_cnt, ↓Ev.ws_expr, ↓Ev.ws_for, ↓Ev.ws_if, ↓Ev.ws_in, ↓Ev.ws_kn, ↓Ev.ws_nil, ↓Ev.ws_nx, ↓Ev.ws_put, ↓Ev.ws_ret, ↓Ev.ws_retN, ↓Ev.ws_rt, ↓Ev.ws_seq, ↓Ev.ws_while, ↓Ev.ws_set, ↓Ev.wo_some, ↓Ev.onB_b, ↓Ev.onI_i, ↓Ev.Kn_rt, ↓Ev.Kn_bk, ↓Ev.Kn_ct, ↓Ev.onRet_nx, ↓Ev.onRet_rt, ↓Ev.onNx_nx, ↓Ev.onNx_ct, ↓Ev.onNx_bk, ↓Ev.onNx_rt, List.map_cons, List.map_nil, List.length_cons, List.length_nil, List.replicate, List.cons_append, List.nil_append, Nat.reduceAdd, Nat.reduceSub, List.set_cons_zero, List.set_cons_succ, if_true, if_false, true_and, and_true, Bool.false_eq_true, Bool.not_true, Bool.not_false, ↓reduceIte, Ev.ifF, Nat.zero_add, Ev.startE, Ev.wipeE, Ev.put_nm, Ev.put_tp, Ev.puts_nil, Ev.puts_cons, Option.bind_some, Ev.seqLen_t, Ev.seqLen_r, Ev.addW_ii, Ev.addW_tt, Ev.subW_ii, Ev.mulW_ii, Ev.modW_ii, Ev.fdivW_ii, Ev.powW_ii, Ev.negW_i, Ev.cmpI_ii, Ev.isW_n, Ev.isnW_n, Ev.isNon_n, Ev.isNon_b, Ev.isNon_i, Ev.isNon_s, Ev.isNon_t, Ev.isNon_l, Ev.max2W_ii, Ev.min2W_ii, Ev.intW_i, Ev.intW_b, Ev.lenW_t, Ev.lenW_r, Ev.listW_t, Ev.tupleW_t, Ev.truW_b, Ev.truW_n, Ev.truW_i, Ev.truW_t, Ev.eqW_ii, Ev.neW_ii, Ev.eqW_ss, Ev.neW_ss, Ev.eqW_bb, Ev.ixN_0, Ev.ixN_1, Ev.ixN_2, Ev.ixN_3, Ev.isi_bb, Ev.isi_bs, Ev.isi_bi, Ev.isi_bt, Ev.isi_bl, Ev.isi_ib, Ev.isi_is, Ev.isi_ii, Ev.isi_it, Ev.isi_il, Ev.isi_sb, Ev.isi_ss, Ev.isi_si, Ev.isi_st, Ev.isi_sl, Ev.isi_tb, Ev.isi_ts, Ev.isi_ti, Ev.isi_tt, Ev.isi_tl, Ev.isi_nb, Ev.isi_ns, Ev.isi_ni, Ev.isi_nt, Ev.isi_nl, Ev.atI_0, Ev.atI_1, Ev.atI_2, Ev.atI_3, Ev.atI_4, Ev.tyOk_s, Ev.slW_to, Ev.slW_from, Ev.addW_SS, Int.toNat_natCast, Option.some.injEq, List.set_set, Option.map_some, W.int.injEq, W.str.injEq, W.loc.injEq, Nat.reduceLeDiff, and_self, Int.reduceLT, Int.reduceLE, Int.reduceNeg, Int.reduceToNat, Int.reduceAdd, Int.reduceMul, Int.reduceSub, decide_eq_true_eq]
        refine right_ok (by decide) e7d (by omega) (by decide) m3 m4 fun S11 X11 => ?_
        try simp (maxSteps := 500000) (implicitDefEqProofs := false) (disch := omega) only [↓Ev.wq_aCons, ↓Ev.wq_aNil, ↓Ev.wq_and, ↓Ev.wq_bind, ↓Ev.wq_c, ↓Ev.wq_dnew, ↓Ev.wq_e1, ↓Ev.wq_e2, ↓Ev.wq_eIf, ↓Ev.wq_eL, ↓Ev.wq_eM, ↓Ev.wq_eSl, ↓Ev.wq_in, ↓Ev.wq_ite, ↓Ev.wq_ixR, ↓Ev.wq_ixS, ↓Ev.wq_ixT, ↓Ev.wq_lc, ↓Ev.wq_lst, ↓Ev.wq_no, ↓Ev.wq_not, ↓Ev.wq_oNone, ↓Ev.wq_oSome, ↓Ev.wq_ok, ↓Ev.wq_or, ↓Ev.wq_rng1, ↓Ev.wq_rng2, ↓Ev.wq_run, ↓Ev.wq_seq, ↓Ev.wq_test, ↓Ev.wq_tru, ↓Ev.wq_tup, ↓Ev.wq_vAnd, ↓Ev.wq_vNot, ↓Ev.wq_vOr, ↓Ev.wq_var0, ↓Ev.wq_varS, ↓Ev.wq_yes, ↓Ev.wq_zip, ↓Ev.ws_asg, ↓Ev.ws_brk, ↓Ev.ws_cnt, ↓Ev.ws_expr, ↓Ev.ws_for, ↓Ev.ws_if, ↓Ev.ws_in, ↓Ev.ws_kn, ↓Ev.ws_nil, ↓Ev.ws_nx, ↓Ev.ws_put, ↓Ev.ws_ret, ↓Ev.ws_retN, ↓Ev.ws_rt, ↓Ev.ws_seq, ↓Ev.ws_while, ↓Ev.ws_set, ↓Ev.wo_some, ↓Ev.onB_b, ↓Ev.onI_i, ↓Ev.Kn_rt, ↓Ev.Kn_bk, ↓Ev.Kn_ct, ↓Ev.onRet_nx, ↓Ev.onRet_rt, ↓Ev.onNx_nx, ↓Ev.onNx_ct, ↓Ev.onNx_bk, ↓Ev.onNx_rt, List.map_cons, List.map_nil, List.length_cons, List.length_nil, List.replicate, List.cons_append, List.nil_append, Nat.reduceAdd, Nat.reduceSub, List.set_cons_zero, List.set_cons_succ, if_true, if_false, true_and, and_true, Bool.false_eq_true, Bool.not_true, Bool.not_false, ↓reduceIte, Ev.ifF, Nat.zero_add, Ev.startE, Ev.wipeE, Ev.put_nm, Ev.put_tp, Ev.puts_nil, Ev.puts_cons, Option.bind_some, Ev.seqLen_t, Ev.seqLen_r, Ev.addW_ii, Ev.addW_tt, Ev.subW_ii, Ev.mulW_ii, Ev.modW_ii, Ev.fdivW_ii, Ev.powW_ii, Ev.negW_i, Ev.cmpI_ii, Ev.isW_n, Ev.isnW_n, Ev.isNon_n, Ev.isNon_b, Ev.isNon_i, Ev.isNon_s, Ev.isNon_t, Ev.isNon_l, Ev.max2W_ii, Ev.min2W_ii, Ev.intW_i, Ev.intW_b, Ev.lenW_t, Ev.lenW_r, Ev.listW_t, Ev.tupleW_t, Ev.truW_b, Ev.truW_n, Ev.truW_i, Ev.truW_t, Ev.eqW_ii, Ev.neW_ii, Ev.eqW_ss, Ev.neW_ss, Ev.eqW_bb, Ev.ixN_0, Ev.ixN_1, Ev.ixN_2, Ev.ixN_3, Ev.isi_bb, Ev.isi_bs, Ev.isi_bi, Ev.isi_bt, Ev.isi_bl, Ev.isi_ib, Ev.isi_is, Ev.isi_ii, Ev.isi_it, Ev.isi_il, Ev.isi_sb, Ev.isi_ss, Ev.isi_si, Ev.isi_st, Ev.isi_sl, Ev.isi_tb, Ev.isi_ts, Ev.isi_ti, Ev.isi_tt, Ev.isi_tl, Ev.isi_nb, Ev.isi_ns, Ev.isi_ni, Ev.isi_nt, Ev.isi_nl, Ev.atI_0, Ev.atI_1, Ev.atI_2, Ev.atI_3, Ev.atI_4, Ev.tyOk_s, Ev.slW_to, Ev.slW_from, Ev.addW_SS, Int.toNat_natCast, Option.some.injEq, List.set_set, Option.map_some, W.int.injEq, W.str.injEq, W.loc.injEq, Nat.reduceLeDiff, and_self, Int.reduceLT, Int.reduceLE, Int.reduceNeg, Int.reduceToNat, Int.reduceAdd, Int.reduceMul, Int.reduceSub, decide_eq_true_eq]
        exact ⟨_, _, _, _, _, _, _, rfl, X19.trans X11⟩
    · rintro s S2 ⟨x2, x3, x4, x5, x6, x7, x8, rfl, X2⟩
      refine ⟨by rw [seqIt_l (X2.get0 e3), List.getElem?_eq_none (by rw [List.length_map]; exact Nat.le_refl _)], ?_⟩
      try simp (maxSteps := 500000) (implicitDefEqProofs := false) (disch := omega) only [↓Ev.wq_aCons, ↓Ev.wq_aNil, ↓Ev.wq_and, ↓Ev.wq_bind, ↓Ev.wq_c, ↓Ev.wq_dnew, ↓Ev.wq_e1, ↓Ev.wq_e2, ↓Ev.wq_eIf, ↓Ev.wq_eL, ↓Ev.wq_eM, ↓Ev.wq_eSl, ↓Ev.wq_in, ↓Ev.wq_ite, ↓Ev.wq_ixR, ↓Ev.wq_ixS, ↓Ev.wq_ixT, ↓Ev.wq_lc, ↓Ev.wq_lst, ↓Ev.wq_no, ↓Ev.wq_not, ↓Ev.wq_oNone, ↓Ev.wq_oSome, ↓Ev.wq_ok, ↓Ev.wq_or, ↓Ev.wq_rng1, ↓Ev.wq_rng2, ↓Ev.wq_run, ↓Ev.wq_seq, ↓Ev.wq_test, ↓Ev.wq_tru, ↓Ev.wq_tup, ↓Ev.wq_vAnd, ↓Ev.wq_vNot, ↓Ev.wq_vOr, ↓Ev.wq_var0, ↓Ev.wq_varS, ↓Ev.wq_yes, ↓Ev.wq_zip, ↓Ev.ws_asg, ↓Ev.ws_brk, ↓Ev.ws_cnt, ↓Ev.ws_expr, ↓Ev.ws_for, ↓Ev.ws_if, ↓Ev.ws_in, ↓Ev.ws_kn, ↓Ev.ws_nil, ↓Ev.ws_nx, ↓Ev.ws_put, ↓Ev.ws_ret, ↓Ev.ws_retN, ↓Ev.ws_rt, ↓Ev.ws_seq, ↓Ev.ws_while, ↓Ev.ws_set, ↓Ev.wo_some, ↓Ev.onB_b, ↓Ev.onI_i, ↓Ev.Kn_rt, ↓Ev.Kn_bk, ↓Ev.Kn_ct, ↓Ev.onRet_nx, ↓Ev.onRet_rt, ↓Ev.onNx_nx, ↓Ev.onNx_ct, ↓Ev.onNx_bk, ↓Ev.onNx_rt, List.map_cons, List.map_nil, List.length_cons, List.length_nil, List.replicate, List.cons_append, List.nil_append, Nat.reduceAdd, Nat.reduceSub, List.set_cons_zero, List.set_cons_succ, if_true, if_false, true_and, and_true, Bool.false_eq_true, Bool.not_true, Bool.not_false, ↓reduceIte, Ev.ifF, Nat.zero_add, Ev.startE, Ev.wipeE, Ev.put_nm, Ev.put_tp, Ev.puts_nil, Ev.puts_cons, Option.bind_some, Ev.seqLen_t, Ev.seqLen_r, Ev.addW_ii, Ev.addW_tt, Ev.subW_ii, Ev.mulW_ii, Ev.modW_ii, Ev.fdivW_ii, Ev.powW_ii, Ev.negW_i, Ev.cmpI_ii, Ev.isW_n, Ev.isnW_n, Ev.isNon_n, Ev.isNon_b, Ev.isNon_i, Ev.isNon_s, Ev.isNon_t, Ev.isNon_l, Ev.max2W_ii, Ev.min2W_ii, Ev.intW_i, Ev.intW_b, Ev.lenW_t, Ev.lenW_r, Ev.listW_t, Ev.tupleW_t, Ev.truW_b, Ev.truW_n, Ev.truW_i, Ev.truW_t, Ev.eqW_ii, Ev.neW_ii, Ev.eqW_ss, Ev.neW_ss, Ev.eqW_bb, Ev.ixN_0, Ev.ixN_1, Ev.ixN_2, Ev.ixN_3, Ev.isi_bb, Ev.isi_bs, Ev.isi_bi, Ev.isi_bt, Ev.isi_bl, Ev.isi_ib, Ev.isi_is, Ev.isi_ii, Ev.isi_it, Ev.isi_il, Ev.isi_sb, Ev.isi_ss, Ev.isi_si, Ev.isi_st, Ev.isi_sl, Ev.isi_tb, Ev.isi_ts, Ev.isi_ti, Ev.isi_tt, Ev.isi_tl, Ev.isi_nb, Ev.isi_ns, Ev.isi_ni, Ev.isi_nt, Ev.isi_nl, Ev.atI_0, Ev.atI_1, Ev.atI_2, Ev.atI_3, Ev.atI_4, Ev.tyOk_s, Ev.slW_to, Ev.slW_from, Ev.addW_SS, Int.toNat_natCast, Option.some.injEq, List.set_set, Option.map_some, W.int.injEq, W.str.injEq, W.loc.injEq, Nat.reduceLeDiff, and_self, Int.reduceLT, Int.reduceLE, Int.reduceNeg, Int.reduceToNat, Int.reduceAdd, Int.reduceMul, Int.reduceSub, decide_eq_true_eq]
end Lw

set_option Elab.async false
set_option linter.all false
set_option maxRecDepth 100000
namespace Lw
open PySem L2 Ev
theorem walk {l : PySem.W.OpenLaw} {q : Program} {loose : List Str} {XP : (Str → Option Value) → Heap → Prop} {YP : World → Heap → Prop} {d : DefRec} {K : Params → PySem.W.Frag} (hn : l.most = some 63) (hdf : d.params.defaults = []) (hd : d.name = "law")
    (hY : ∀ (w : World) (h : Heap), YP w h → (K w.params).In h)
    (F : ∀ (w : World) (mg : Str → Option Value) (h : Heap), (K w.params).In h → h.Ns mainGlobals mg → Txt (K w.params) mg) :
    PySem.W.WalkO q loose XP YP l.row.toRowW d [] (fun f vs => PySem.call f vs) :=
  L2.walk_ofB (n := 63) (k := LV + 1) (x := "script") (CX := fun w => L2.CX l.prog w) (sp := fun w => fun vs H Q E => ∃ (a : Addr) (ns : List Int), vs = [.ref a] ∧ ns.length ≤ 63 ∧ (∀ z ∈ ns, Builtin.Int.intBits z ≤ 1048576) ∧ Only H ∧ SqL (K w.params) H a (ns.map V.int) ∧ Q = (fun v _ => v = .bl true) ∧ E = fun _ _ _ => False) hn (by decide) hdf ⟨rfl, by decide, by decide⟩ hY
    (fun w mg fa h KX G hm => by
      have T := F w mg h KX G
      obtain ⟨f, fd, FF, A⟩ := T.t_f_law
      obtain rfl : f = fa := by
        have e := A.mgx
        rw [← hd, hm] at e
        cases e; rfl
      refine ⟨fd, fun s u => ?_, fun base Kb Gb => ?_⟩
      · obtain ⟨oc, od, kV, doc, pm, an, cdv, ct, osl, rfl, _, _⟩ := FF.ex
        exact .of_eq rfl
      · refine (fn_f_law (P := l.prog) (w := w) (base := base) (n := LV) T (all_ok T LV) FF).imp ?_
        rintro vs H Q E ⟨a, ns, rfl, hl, hb, hO, hS, rfl, rfl⟩
        exact law_end hO hS (law_true ns hl hb))
    (fun w H a ns hl hb hO hS => ⟨a, ns, rfl, hl, hb, hO, hS, rfl, rfl⟩) (fun w H s e s' z => cx_end z)
end Lw
open PySem PySem.W PyProof.Rows
set_option maxRecDepth 100000 in
set_option maxHeartbeats 0 in
theorem PySem.Challenge.cw_wantway_k03_under_and_joined_holds : PySem.Challenge.rw_wantway_k03_under_and_joined.Holds := by
  w_on; o_law; k_head; (case hw => w_witness2)
  k_fill
  refine Lw.walk (l := PySem.Challenge.rw_wantway_k03_under_and_joined) rfl rfl rfl (fun w h Y => PySem.W.kIn_of Y) ?F
  case F =>
    intro w mg h KX G
    refine' Lw.all_mk KX G ?a0 ?l0 ?c0 ?k0 ?a1 ?l1 ?c1 ?k1 ?a2 ?l2 ?c2 ?k2 ?a3 ?l3 ?c3 ?k3 ?a4 ?l4 ?c4 ?k4 ?a5 ?l5 ?c5 ?k5 ?a6 ?l6 ?c6 ?k6 ?a7 ?l7 ?c7 ?k7 ?a8 ?l8 ?c8 ?k8 ?a9 ?l9 ?c9 ?k9 ?a10 ?l10 ?c10 ?k10 ?a11 ?l11 ?c11 ?k11 ?a12 ?l12 ?c12 ?k12 ?a13 ?l13 ?c13 ?k13 ?a14 ?l14 ?c14 ?k14 ?a15 ?l15 ?c15 ?k15 ?a16 ?l16 ?c16 ?k16 ?a17 ?l17 ?c17 ?k17 ?a18 ?l18 ?c18 ?k18 ?a19 ?l19 ?c19 ?k19 ?z_ValueError ?z_all ?z_bool ?z_dict ?z_int ?z_isinstance ?z_len ?z_list ?z_max ?z_range ?z_str ?z_tuple ?z_zip ?gc_NoWorth ?gc_WantError ?gc_Falling ?gc_NoAsking ?gc_NoBook ?gc_NoCell ?gc_NoKinds ?gc_NoMore ?gc_NoMost ?gc_NoNote ?gc_NoPart ?gc_NoRows ?gc_NoSheet ?gc_Torn ?x_NoWorth ?kp_NoWorth ?sb_NoWorth ?ty_NoWorth ?ec_NoWorth ?sb_WantError ?ty_WantError ?hd_WantError ?su_NoWorth_WantError ?ka_NoWorth_Falling_NoAsking_NoBook_NoCell_NoKinds_NoMore_NoMost_NoNote_NoPart ?ka_NoWorth_NoRows_NoSheet_Torn ?ko_NoWorth_ValueError ?ko_NoWorth_NoWorth
    case a0 => k_is
    case l0 => k_is
    case c0 => k_is
    case k0 => k_is
    case a1 => k_is
    case l1 => k_is
    case c1 => k_is
    case k1 => k_is
    case a2 => k_is
    case l2 => k_is
    case c2 => k_is
    case k2 => k_is
    case a3 => k_is
    case l3 => k_is
    case c3 => k_is
    case k3 => k_is
    case a4 => k_is
    case l4 => k_is
    case c4 => k_is
    case k4 => k_is
    case a5 => k_is
    case l5 => k_is
    case c5 => k_is
    case k5 => k_is
    case a6 => k_is
    case l6 => k_is
    case c6 => k_is
    case k6 => k_is
    case a7 => k_is
    case l7 => k_is
    case c7 => k_is
    case k7 => k_is
    case a8 => k_is
    case l8 => k_is
    case c8 => k_is
    case k8 => k_is
    case a9 => k_is
    case l9 => k_is
    case c9 => k_is
    case k9 => k_is
    case a10 => k_is
    case l10 => k_is
    case c10 => k_is
    case k10 => k_is
    case a11 => k_is
    case l11 => k_is
    case c11 => k_is
    case k11 => k_is
    case a12 => k_is
    case l12 => k_is
    case c12 => k_is
    case k12 => k_is
    case a13 => k_is
    case l13 => k_is
    case c13 => k_is
    case k13 => k_is
    case a14 => k_is
    case l14 => k_is
    case c14 => k_is
    case k14 => k_is
    case a15 => k_is
    case l15 => k_is
    case c15 => k_is
    case k15 => k_is
    case a16 => k_is
    case l16 => k_is
    case c16 => k_is
    case k16 => k_is
    case a17 => k_is
    case l17 => k_is
    case c17 => k_is
    case k17 => k_is
    case a18 => k_is
    case l18 => k_is
    case c18 => k_is
    case k18 => k_is
    case a19 => k_is
    case l19 => k_is
    case c19 => k_is
    case k19 => k_is
    case z_ValueError => k_is
    case z_all => k_is
    case z_bool => k_is
    case z_dict => k_is
    case z_int => k_is
    case z_isinstance => k_is
    case z_len => k_is
    case z_list => k_is
    case z_max => k_is
    case z_range => k_is
    case z_str => k_is
    case z_tuple => k_is
    case z_zip => k_is
    case gc_NoWorth => k_is
    case gc_WantError => k_is
    case gc_Falling => k_is
    case gc_NoAsking => k_is
    case gc_NoBook => k_is
    case gc_NoCell => k_is
    case gc_NoKinds => k_is
    case gc_NoMore => k_is
    case gc_NoMost => k_is
    case gc_NoNote => k_is
    case gc_NoPart => k_is
    case gc_NoRows => k_is
    case gc_NoSheet => k_is
    case gc_Torn => k_is
    case x_NoWorth => k_exc
    case kp_NoWorth => k_is
    case sb_NoWorth => k_is
    case ty_NoWorth => k_is
    case ec_NoWorth => (constructor <;> k_is)
    case sb_WantError => k_is
    case ty_WantError => k_is
    case hd_WantError => k_is
    case su_NoWorth_WantError => k_is
    case ka_NoWorth_Falling_NoAsking_NoBook_NoCell_NoKinds_NoMore_NoMost_NoNote_NoPart => exact (Ev.kit_ff (Ev.kit_ref (by k_is) (by k_is) (by k_is) (.inr (by decide))) (Ev.kit_ff (Ev.kit_ref (by k_is) (by k_is) (by k_is) (.inr (by decide))) (Ev.kit_ff (Ev.kit_ref (by k_is) (by k_is) (by k_is) (.inr (by decide))) (Ev.kit_ff (Ev.kit_ref (by k_is) (by k_is) (by k_is) (.inr (by decide))) (Ev.kit_ff (Ev.kit_ref (by k_is) (by k_is) (by k_is) (.inr (by decide))) (Ev.kit_ff (Ev.kit_ref (by k_is) (by k_is) (by k_is) (.inr (by decide))) (Ev.kit_ff (Ev.kit_ref (by k_is) (by k_is) (by k_is) (.inr (by decide))) (Ev.kit_ff (Ev.kit_ref (by k_is) (by k_is) (by k_is) (.inr (by decide))) (Ev.kit_ff (Ev.kit_ref (by k_is) (by k_is) (by k_is) (.inr (by decide))) L2.kitAny_nil)))))))))
    case ka_NoWorth_NoRows_NoSheet_Torn => exact (Ev.kit_ff (Ev.kit_ref (by k_is) (by k_is) (by k_is) (.inr (by decide))) (Ev.kit_ff (Ev.kit_ref (by k_is) (by k_is) (by k_is) (.inr (by decide))) (Ev.kit_ff (Ev.kit_ref (by k_is) (by k_is) (by k_is) (.inr (by decide))) L2.kitAny_nil)))
    case ko_NoWorth_ValueError => exact (Ev.kit_type (by decide +kernel) (by k_is) (.inl rfl))
    case ko_NoWorth_NoWorth => exact (Ev.kit_ref (by k_is) (by k_is) (by k_is) (.inl rfl))

