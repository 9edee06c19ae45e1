import PyProof.Rows.All
import Wide.All
import OpenK.AllK
import Wide.FinOn
import HandS.ForMost
import HandS.ForExc
import HandS.CallSlots
import HandS.Deep
import HandS.IsInst
import KE.DataEq
import HandS.TupAny
import HandS.TupMul
import HandS.Replace
import HandS.More
import HandS.Zip
import HandS.EndBits
import KE.SortData
import HandS.Codes
import HandS.Style
import HandS.Conv
import HandS.ExcIs
import KE.GoesEnum
import KE.KDictPairs
import PySem.Challenge.RW_wantway_k05_bodies_and_places
set_option Elab.async false
set_option linter.all false
set_option maxRecDepth 100000
/-! Ev1: values W (tuples are trees), the store, results, and how they lie in the abstract heap. -/
namespace Ev
open PySem L2

inductive W where
  | non | bl (b : Bool) | int (i : Int) | str (x : Str) | tup (ws : List W) | ptp (ws : List W) | rol (ws : List W) | loc (n : Nat) | gl (x : Str) | ty (n : String)
instance : Inhabited W := ⟨.non⟩
/-- what stands at a place of the store -/
inductive O where
  | lst (ws : List W) | dct (kvs : List (W × W)) | ins (c : Str) (fs : List (Str × W)) | fdc (kvs : List (W × W)) | tct (kvs : List (List Key × W))
abbrev Sto := List O
structure Xn where
  c : Str
  fs : List (Str × W)
inductive R (α : Type) where
  | ok (a : α) (S : Sto) | ex (e : Xn) (S : Sto) | no
def R.bind {α β : Type} (r : R α) (k : α → Sto → R β) : R β :=
  match r with
  | .ok a S => k a S
  | .ex e S => .ex e S
  | .no => .no
theorem R.bind_ok {α β : Type} (a : α) (S : Sto) (k : α → Sto → R β) : R.bind (.ok a S) k = k a S := rfl
theorem R.bind_ex {α β : Type} (e : Xn) (S : Sto) (k : α → Sto → R β) : R.bind (.ex e S) k = .ex e S := rfl
theorem R.bind_no {α β : Type} (k : α → Sto → R β) : R.bind .no k = .no := rfl
abbrev En := List (Option W)

/-! ### how a value lies in the abstract heap -/
def RoL (K : PySem.W.Frag) (H : Hp) (a : Addr) (vs : List V) : Prop := (∃ o, H a = some (.frz o (.lst vs))) ∨ ∀ H', SqL K H' a vs
section
variable (K : PySem.W.Frag) (mg : Str → Option Value) (f : List Addr) (H : Hp)
mutual
def Rp : W → V → Prop
  | .non, v => v = .non
  | .bl b, v => v = .bl b
  | .int i, v => v = .int i
  | .str x, v => v = .str x
  | .tup ws, v => ∃ a vs, v = .ref a ∧ H a = some (.tup vs) ∧ Rpl ws vs
  | .ptp ws, v => ∃ a vs o, v = .ref a ∧ H a = some (.frz o (.tup vs)) ∧ o.dict = none ∧ Rpl ws vs
  | .rol ws, v => ∃ a vs, v = .ref a ∧ RoL K H a vs ∧ Rpl ws vs
  | .loc n, v => ∃ a, v = .ref a ∧ f[n]? = some a
  | .gl x, v => ∃ a, v = .ref a ∧ mg x = some (.ref a)
  | .ty n, v => v = .ty n
def Rpl : List W → List V → Prop
  | [], vs => vs = []
  | w :: ws, vs => ∃ v r, vs = v :: r ∧ Rp w v ∧ Rpl ws r
end
def RpF : List (Str × W) → List (Str × V) → Prop
  | [], vs => vs = []
  | (x, w) :: ws, vs => ∃ v r, vs = (x, v) :: r ∧ Rp K mg f H w v ∧ RpF ws r
/-- keys that are ints or texts -/
def W.key? : W → Option Key
  | .int i => some (.inl i)
  | .str x => some (.inr x)
  | _ => none
def RpK : List (W × W) → List (Key × V) → Prop
  | [], vs => vs = []
  | (k, w) :: ws, vs => ∃ q v r, vs = (q, v) :: r ∧ W.key? k = some q ∧ Rp K mg f H w v ∧ RpK ws r
/-- keys that are tuples of ints and texts -/
def RpT : List (List Key × W) → List (List Key × V) → Prop
  | [], vs => vs = []
  | (k, w) :: ws, vs => ∃ v r, vs = (k, v) :: r ∧ Rp K mg f H w v ∧ RpT ws r
def RelO : O → Addr → Prop
  | .lst ws, a => ∃ vs, H a = some (.lst vs) ∧ Rpl K mg f H ws vs
  | .dct kvs, a => ∃ vs, H a = some (.dK vs) ∧ RpK K mg f H kvs vs
  | .ins c fs, a => ∃ C dx vs, mg c = some (.ref C) ∧ H a = some (.ins C dx vs) ∧ RpF K mg f H fs vs
  | .fdc kvs, a => ∃ od vs, H a = some (.frz od (.dK vs)) ∧ RpK K mg f H kvs vs
  | .tct kvs, a => ∃ vs, H a = some (.dT vs) ∧ RpT K mg f H kvs vs
structure RelS (S : Sto) : Prop where
  len : f.length = S.length
  nd : f.Nodup
  at_ : ∀ (n : Nat) (o : O) (a : Addr), S[n]? = some o → f[n]? = some a → RelO K mg f H o a
def RelE : En → St → Prop
  | [], vs => vs = []
  | o :: s, vs => ∃ x r, vs = x :: r ∧ (∀ w, o = some w → ∃ v, x = some v ∧ Rp K mg f H w v) ∧ RelE s r
end
/-- what stays -/
structure Kp (f : List Addr) (H : Hp) (f' : List Addr) (H' : Hp) : Prop where
  ext : ∀ (n : Nat) (a : Addr), f[n]? = some a → f'[n]? = some a
  tup : ∀ a xs, H a = some (.tup xs) → H' a = some (.tup xs)
  frz : ∀ a o u, H a = some (.frz o u) → H' a = some (.frz o u)
  out : ∀ a o, a ∉ f → H a = some o → H' a = some o
  new : ∀ a, a ∈ f' → a ∈ f ∨ H a = none
section
variable {K : PySem.W.Frag} {mg : Str → Option Value} {f f1 f2 : List Addr} {H H1 H2 : Hp} {S : Sto}
theorem Kp.refl : Kp f H f H := ⟨fun _ _ h => h, fun _ _ h => h, fun _ _ _ h => h, fun _ _ _ h => h, fun _ h => .inl h⟩
theorem Kp.trans (x : Kp f H f1 H1) (y : Kp f1 H1 f2 H2) : Kp f H f2 H2 := by
  refine ⟨fun n a h => y.ext n a (x.ext n a h), fun a xs h => y.tup a xs (x.tup a xs h), fun a o u h => y.frz a o u (x.frz a o u h), fun a o h e => ?_, fun a h => ?_⟩
  · refine y.out a o (fun z => ?_) (x.out a o h e)
    rcases x.new a z with q | q
    · exact h q
    · rw [e] at q; cases q
  · rcases y.new a h with q | q
    · exact x.new a q
    · by_cases z : a ∈ f
      · exact .inl z
      · cases e : H a with
        | none => exact .inr rfl
        | some o => rw [x.out a o z e] at q; cases q
/-- .. as far as values ask -/
structure Kq (f : List Addr) (H : Hp) (f' : List Addr) (H' : Hp) : Prop where
  ext : ∀ (n : Nat) (a : Addr), f[n]? = some a → f'[n]? = some a
  tup : ∀ a xs, H a = some (.tup xs) → H' a = some (.tup xs)
  frz : ∀ a o u, H a = some (.frz o (.lst u)) → H' a = some (.frz o (.lst u))
  frt : ∀ a o u, H a = some (.frz o (.tup u)) → H' a = some (.frz o (.tup u))
theorem Kp.q (x : Kp f H f1 H1) : Kq f H f1 H1 := ⟨x.ext, x.tup, fun a o u => x.frz a o _, fun a o u => x.frz a o _⟩
theorem Kq.roL (x : Kq f H f1 H1) {a : Addr} {xs : List V} (h : RoL K H a xs) : RoL K H1 a xs := by
  rcases h with ⟨o, h⟩ | h
  · exact .inl ⟨o, x.frz _ _ _ h⟩
  · exact .inr h
theorem Kp.roL (x : Kp f H f1 H1) {a : Addr} {xs : List V} (h : RoL K H a xs) : RoL K H1 a xs := x.q.roL h
theorem RoL.seq {a : Addr} {xs : List V} (h : RoL K H a xs) : SqL K H a xs := by
  rcases h with ⟨o, h⟩ | h
  · exact .inl (.inr ⟨o, h⟩)
  · exact h _
mutual
theorem Rp.monoQ (x : Kq f H f1 H1) : ∀ (w : W) (v : V), Rp K mg f H w v → Rp K mg f1 H1 w v
  | .non, _, h => h
  | .bl _, _, h => h
  | .int _, _, h => h
  | .str _, _, h => h
  | .tup ws, v, h => by
    unfold Rp at h ⊢
    obtain ⟨a, vs, e, q, r⟩ := h
    exact ⟨a, vs, e, x.tup _ _ q, Rpl.monoQ x ws vs r⟩
  | .ptp ws, v, h => by
    unfold Rp at h ⊢
    obtain ⟨a, vs, o, e, q, d, r⟩ := h
    exact ⟨a, vs, o, e, x.frt _ _ _ q, d, Rpl.monoQ x ws vs r⟩
  | .rol ws, v, h => by
    unfold Rp at h ⊢
    obtain ⟨a, vs, e, q, r⟩ := h
    exact ⟨a, vs, e, x.roL q, Rpl.monoQ x ws vs r⟩
  | .loc n, v, h => by
    unfold Rp at h ⊢
    obtain ⟨a, e, q⟩ := h
    exact ⟨a, e, x.ext _ _ q⟩
  | .gl _, _, h => h
  | .ty _, _, h => h
theorem Rpl.monoQ (x : Kq f H f1 H1) : ∀ (ws : List W) (vs : List V), Rpl K mg f H ws vs → Rpl K mg f1 H1 ws vs
  | [], _, h => h
  | w :: ws, vs, h => by
    unfold Rpl at h ⊢
    obtain ⟨v, r, e, q, z⟩ := h
    exact ⟨v, r, e, Rp.monoQ x w v q, Rpl.monoQ x ws r z⟩
end
theorem RpF.monoQ (x : Kq f H f1 H1) : ∀ (ws : List (Str × W)) (vs : List (Str × V)), RpF K mg f H ws vs → RpF K mg f1 H1 ws vs
  | [], _, h => h
  | (n, w) :: ws, vs, h => by
    unfold RpF at h ⊢
    obtain ⟨v, r, e, q, z⟩ := h
    exact ⟨v, r, e, Rp.monoQ x w v q, RpF.monoQ x ws r z⟩
theorem RpK.monoQ (x : Kq f H f1 H1) : ∀ (ws : List (W × W)) (vs : List (Key × V)), RpK K mg f H ws vs → RpK K mg f1 H1 ws vs
  | [], _, h => h
  | (n, w) :: ws, vs, h => by
    unfold RpK at h ⊢
    obtain ⟨q, v, r, e, k, y, z⟩ := h
    exact ⟨q, v, r, e, k, Rp.monoQ x w v y, RpK.monoQ x ws r z⟩
theorem RpT.monoQ (x : Kq f H f1 H1) : ∀ (ws : List (List Key × W)) (vs : List (List Key × V)), RpT K mg f H ws vs → RpT K mg f1 H1 ws vs
  | [], _, h => h
  | (k, w) :: ws, vs, h => by
    unfold RpT at h ⊢
    obtain ⟨v, r, e, q, z⟩ := h
    exact ⟨v, r, e, Rp.monoQ x w v q, RpT.monoQ x ws r z⟩
theorem RelE.monoQ (x : Kq f H f1 H1) : ∀ {s : En} {vs : St}, RelE K mg f H s vs → RelE K mg f1 H1 s vs
  | [], _, h => h
  | o :: s, vs, h => by
    unfold RelE at h ⊢
    obtain ⟨y, r, e, q, z⟩ := h
    refine ⟨y, r, e, fun w hw => ?_, RelE.monoQ x z⟩
    obtain ⟨v, e1, q1⟩ := q w hw
    exact ⟨v, e1, Rp.monoQ x w v q1⟩
theorem RelO.monoQ (x : Kq f H f1 H1) {o : O} {a : Addr} (h : RelO K mg f H o a) (e : H1 a = H a) : RelO K mg f1 H1 o a := by
  cases o with
  | lst ws => obtain ⟨vs, q, r⟩ := h; exact ⟨vs, by rw [e]; exact q, Rpl.monoQ x _ _ r⟩
  | dct kvs => obtain ⟨vs, q, r⟩ := h; exact ⟨vs, by rw [e]; exact q, RpK.monoQ x _ _ r⟩
  | ins c fs => obtain ⟨C, dx, vs, m, q, r⟩ := h; exact ⟨C, dx, vs, m, by rw [e]; exact q, RpF.monoQ x _ _ r⟩
  | fdc kvs => obtain ⟨od, vs, q, r⟩ := h; exact ⟨od, vs, by rw [e]; exact q, RpK.monoQ x _ _ r⟩
  | tct kvs => obtain ⟨vs, q, r⟩ := h; exact ⟨vs, by rw [e]; exact q, RpT.monoQ x _ _ r⟩
theorem Rp.mono {w : W} {v : V} (h : Rp K mg f H w v) (x : Kp f H f1 H1) : Rp K mg f1 H1 w v := Rp.monoQ x.q w v h
theorem Rpl.mono {w : List W} {v : List V} (h : Rpl K mg f H w v) (x : Kp f H f1 H1) : Rpl K mg f1 H1 w v := Rpl.monoQ x.q w v h
theorem RpF.mono {w : List (Str × W)} {v : List (Str × V)} (h : RpF K mg f H w v) (x : Kp f H f1 H1) : RpF K mg f1 H1 w v := RpF.monoQ x.q w v h
theorem RpK.mono {w : List (W × W)} {v : List (Key × V)} (h : RpK K mg f H w v) (x : Kp f H f1 H1) : RpK K mg f1 H1 w v := RpK.monoQ x.q w v h
theorem RpT.mono {w : List (List Key × W)} {v : List (List Key × V)} (h : RpT K mg f H w v) (x : Kp f H f1 H1) : RpT K mg f1 H1 w v := RpT.monoQ x.q w v h
theorem RelE.mono {w : En} {v : St} (h : RelE K mg f H w v) (x : Kp f H f1 H1) : RelE K mg f1 H1 w v := RelE.monoQ x.q h
theorem RelO.mono (x : Kp f H f1 H1) {o : O} {a : Addr} (h : RelO K mg f H o a) (e : H1 a = H a) : RelO K mg f1 H1 o a := RelO.monoQ x.q h e
theorem RelO.hit {o : O} {a : Addr} (h : RelO K mg f H o a) : ∃ u, H a = some u ∧ (∀ xs, u ≠ .tup xs) := by
  cases o with
  | lst ws => obtain ⟨vs, q, r⟩ := h; exact ⟨_, q, (fun _ z => nomatch z)⟩
  | dct kvs => obtain ⟨vs, q, r⟩ := h; exact ⟨_, q, (fun _ z => nomatch z)⟩
  | ins c fs => obtain ⟨C, dx, vs, m, q, r⟩ := h; exact ⟨_, q, (fun _ z => nomatch z)⟩
  | fdc kvs => obtain ⟨od, vs, q, r⟩ := h; exact ⟨_, q, (fun _ z => nomatch z)⟩
  | tct kvs => obtain ⟨vs, q, r⟩ := h; exact ⟨_, q, (fun _ z => nomatch z)⟩
theorem RelS.get (x : RelS K mg f H S) {n : Nat} {o : O} (h : S[n]? = some o) : ∃ a, f[n]? = some a ∧ RelO K mg f H o a := by
  have hn : n < S.length := (List.getElem?_eq_some_iff.mp h).1
  have hf : n < f.length := by rw [x.len]; exact hn
  exact ⟨f[n], List.getElem?_eq_getElem hf, x.at_ n o _ h (List.getElem?_eq_getElem hf)⟩
theorem RelS.mem (x : RelS K mg f H S) {a : Addr} (h : a ∈ f) : ∃ (n : Nat) (o : O), S[n]? = some o ∧ f[n]? = some a ∧ RelO K mg f H o a := by
  obtain ⟨n, hn, e⟩ := List.mem_iff_getElem.mp h
  have hs : n < S.length := by rw [← x.len]; exact hn
  have e1 : f[n]? = some a := by rw [List.getElem?_eq_getElem hn, e]
  exact ⟨n, S[n], List.getElem?_eq_getElem hs, e1, x.at_ n _ _ (List.getElem?_eq_getElem hs) e1⟩
theorem RelS.hit (x : RelS K mg f H S) {a : Addr} (h : a ∈ f) : ∃ u, H a = some u ∧ (∀ xs, u ≠ .tup xs) := by
  obtain ⟨_, _, _, _, r⟩ := x.mem h
  exact r.hit
theorem RelS.fresh (x : RelS K mg f H S) {p : Addr} (h : H p = none) : p ∉ f := fun z => by
  obtain ⟨u, e, _⟩ := x.hit z
  rw [h] at e; cases e
/-- an object at a place is changed -/
theorem RelS.kpUpd (x : RelS K mg f H S) {a : Addr} (ha : a ∈ f) (nf : ∀ o w, H a ≠ some (.frz o w)) (u : HO) : Kp f H f (upd H a u) := by
  obtain ⟨w, e, n1⟩ := x.hit ha
  refine ⟨fun _ _ h => h, fun b xs h => ?_, fun b o v h => ?_, fun b o hb h => ?_, fun _ h => .inl h⟩
  · rw [upd_ne (fun z => ?_)]; exact h
    subst z; rw [e] at h; cases h; exact n1 _ rfl
  · rw [upd_ne (fun z => ?_)]; exact h
    subst z; exact nf _ _ h
  · rw [upd_ne (fun z => ?_)]; exact h
    subst z; exact hb ha
theorem RelS.upd (x : RelS K mg f H S) {n : Nat} {a : Addr} {o : O} {u : HO} (hn : f[n]? = some a) (nf : ∀ o w, H a ≠ some (.frz o w)) (h : RelO K mg f (upd H a u) o a) : RelS K mg f (upd H a u) (S.set n o) := by
  have ha : a ∈ f := List.mem_of_getElem? hn
  refine ⟨by rw [List.length_set]; exact x.len, x.nd, fun m o' b h1 h2 => ?_⟩
  by_cases e : m = n
  · subst e
    have hm : m < S.length := by rw [← x.len]; exact (List.getElem?_eq_some_iff.mp hn).1
    rw [List.getElem?_set_self hm] at h1
    cases h1
    rw [hn] at h2; cases h2
    exact h
  · rw [List.getElem?_set_ne (Ne.symm e)] at h1
    refine RelO.mono (x.kpUpd ha nf u) (x.at_ m o' b h1 h2) (upd_ne ?_)
    rintro rfl
    obtain ⟨q1, e1⟩ := List.getElem?_eq_some_iff.mp h2
    obtain ⟨q2, e2⟩ := List.getElem?_eq_some_iff.mp hn
    exact e ((List.getElem_inj x.nd).mp (e1.trans e2.symm))
/-- an untracked object is laid (a tuple) -/
theorem kpLaid {p : Addr} (h : H p = none) (u : HO) : Kp f H f (upd H p u) :=
  ⟨fun _ _ h => h, fun b xs q => by rw [upd_ne (ne_of_none q h)]; exact q, fun b o v q => by rw [upd_ne (ne_of_none q h)]; exact q, fun b o _ q => by rw [upd_ne (ne_of_none q h)]; exact q, fun _ h => .inl h⟩
theorem RelS.laid (x : RelS K mg f H S) {p : Addr} (h : H p = none) (u : HO) : RelS K mg f (L2.upd H p u) S :=
  ⟨x.len, x.nd, fun n o a h1 h2 => RelO.mono (kpLaid h u) (x.at_ n o a h1 h2) (upd_ne fun z => by
    obtain ⟨v, e, _⟩ := (x.at_ n o a h1 h2).hit
    rw [z, h] at e; cases e)⟩
/-- a new object of the store -/
theorem RelS.kpNew (x : RelS K mg f H S) {p : Addr} (h : H p = none) (u : HO) : Kp f H (f ++ [p]) (L2.upd H p u) :=
  ⟨fun n a q => by rw [List.getElem?_append_left (List.getElem?_eq_some_iff.mp q).1]; exact q, (kpLaid (f := f) h u).tup, (kpLaid (f := f) h u).frz, (kpLaid (f := f) h u).out, fun a q => by
    rcases List.mem_append.mp q with z | z
    · exact .inl z
    · rw [List.mem_singleton.mp z]; exact .inr h⟩
theorem RelS.new (x : RelS K mg f H S) {p : Addr} {u : HO} {o : O} (h : H p = none) (r : RelO K mg (f ++ [p]) (L2.upd H p u) o p) : RelS K mg (f ++ [p]) (L2.upd H p u) (S ++ [o]) := by
  refine ⟨by simp [x.len], ?_, fun n o' a h1 h2 => ?_⟩
  · refine List.nodup_append.mpr ⟨x.nd, by simp, fun a ha b hb => ?_⟩
    rw [List.mem_singleton.mp hb]
    rintro rfl
    exact x.fresh h ha
  · by_cases e : n < S.length
    · rw [List.getElem?_append_left e] at h1
      rw [List.getElem?_append_left (by rw [x.len]; exact e)] at h2
      refine RelO.mono (x.kpNew h u) (x.at_ n o' a h1 h2) (upd_ne fun z => ?_)
      obtain ⟨v, e1, _⟩ := (x.at_ n o' a h1 h2).hit
      rw [z, h] at e1; cases e1
    · rw [List.getElem?_append_right (by omega)] at h1
      rw [List.getElem?_append_right (by rw [x.len]; omega)] at h2
      rw [x.len] at h2
      have e0 : n - S.length = 0 := by
        have := (List.getElem?_eq_some_iff.mp h1).1
        simp only [List.length_singleton] at this
        omega
      rw [e0] at h1 h2
      cases h1; cases h2
      exact r
/-- an object that is tracked already becomes one of the store -/
theorem kqAdd {D : Addr} : Kq f H (f ++ [D]) H := ⟨fun n a q => by rw [List.getElem?_append_left (List.getElem?_eq_some_iff.mp q).1]; exact q, fun _ _ q => q, fun _ _ _ q => q, fun _ _ _ q => q⟩
theorem RelS.adopt (x : RelS K mg f H S) {p : Addr} {o : O} (h : p ∉ f) (r : RelO K mg (f ++ [p]) H o p) : RelS K mg (f ++ [p]) H (S ++ [o]) := by
  refine ⟨by simp [x.len], ?_, fun n o' a h1 h2 => ?_⟩
  · refine List.nodup_append.mpr ⟨x.nd, by simp, fun a ha b hb => ?_⟩
    rw [List.mem_singleton.mp hb]
    rintro rfl
    exact h ha
  · by_cases e : n < S.length
    · rw [List.getElem?_append_left e] at h1
      rw [List.getElem?_append_left (by rw [x.len]; exact e)] at h2
      exact RelO.monoQ kqAdd (x.at_ n o' a h1 h2) rfl
    · rw [List.getElem?_append_right (by omega)] at h1
      rw [List.getElem?_append_right (by rw [x.len]; omega)] at h2
      rw [x.len] at h2
      have e0 : n - S.length = 0 := by
        have := (List.getElem?_eq_some_iff.mp h1).1
        simp only [List.length_singleton] at this
        omega
      rw [e0] at h1 h2
      cases h1; cases h2
      exact r
theorem at_new {p : Addr} (x : RelS K mg f H S) : (f ++ [p])[S.length]? = some p := by
  rw [List.getElem?_append_right (by rw [x.len]; exact Nat.le_refl _), x.len, Nat.sub_self]
  rfl
theorem Rpl.length : ∀ {ws : List W} {vs : List V}, Rpl K mg f H ws vs → vs.length = ws.length
  | [], _, h => by unfold Rpl at h; subst h; rfl
  | w :: ws, vs, h => by
    unfold Rpl at h
    obtain ⟨v, r, rfl, _, z⟩ := h
    rw [List.length_cons, List.length_cons, Rpl.length z]
theorem Rpl.get : ∀ {ws : List W} {vs : List V} {i : Nat} {w : W}, Rpl K mg f H ws vs → ws[i]? = some w → ∃ v, vs[i]? = some v ∧ Rp K mg f H w v
  | [], _, _, _, _, e => by simp at e
  | w :: ws, vs, i, w', h, e => by
    unfold Rpl at h
    obtain ⟨v, r, rfl, q, z⟩ := h
    cases i with
    | zero => simp at e; subst e; exact ⟨v, by simp, q⟩
    | succ i =>
      obtain ⟨u, e1, q1⟩ := Rpl.get (i := i) z (by simpa using e)
      exact ⟨u, by simpa using e1, q1⟩
theorem Rpl.nil : Rpl K mg f H [] [] := by unfold Rpl; rfl
theorem Rpl.cons {w : W} {ws : List W} {v : V} {vs : List V} (h : Rp K mg f H w v) (r : Rpl K mg f H ws vs) : Rpl K mg f H (w :: ws) (v :: vs) := by
  unfold Rpl; exact ⟨v, vs, rfl, h, r⟩
theorem Rpl.append : ∀ {ws ws' : List W} {vs vs' : List V}, Rpl K mg f H ws vs → Rpl K mg f H ws' vs' → Rpl K mg f H (ws ++ ws') (vs ++ vs')
  | [], _, _, _, h, r => by unfold Rpl at h; subst h; exact r
  | w :: ws, _, _, _, h, r => by
    unfold Rpl at h
    obtain ⟨v, t, rfl, q, z⟩ := h
    exact .cons q (Rpl.append z r)
theorem Rpl.take : ∀ {ws : List W} {vs : List V} (n : Nat), Rpl K mg f H ws vs → Rpl K mg f H (ws.take n) (vs.take n)
  | [], _, _, h => by unfold Rpl at h; subst h; simp [Rpl]
  | w :: ws, _, 0, h => by simp [Rpl]
  | w :: ws, _, n + 1, h => by
    unfold Rpl at h
    obtain ⟨v, t, rfl, q, z⟩ := h
    exact .cons q (Rpl.take n z)
theorem Rpl.drop : ∀ {ws : List W} {vs : List V} (n : Nat), Rpl K mg f H ws vs → Rpl K mg f H (ws.drop n) (vs.drop n)
  | [], _, _, h => by unfold Rpl at h; subst h; simp [Rpl]
  | w :: ws, _, 0, h => h
  | w :: ws, _, n + 1, h => by
    unfold Rpl at h
    obtain ⟨v, t, rfl, q, z⟩ := h
    exact Rpl.drop n z
theorem Rpl.set {w : W} {v : V} (hw : Rp K mg f H w v) : ∀ {ws : List W} {vs : List V} (n : Nat), Rpl K mg f H ws vs → Rpl K mg f H (ws.set n w) (vs.set n v)
  | [], _, _, h => by unfold Rpl at h; subst h; simp [Rpl]
  | w' :: ws, _, 0, h => by
    unfold Rpl at h
    obtain ⟨u, t, rfl, q, z⟩ := h
    exact .cons hw z
  | w' :: ws, _, n + 1, h => by
    unfold Rpl at h
    obtain ⟨u, t, rfl, q, z⟩ := h
    exact .cons q (Rpl.set hw n z)
theorem RelE.get : ∀ {s : En} {vs : St} {i : Nat} {w : W}, RelE K mg f H s vs → s[i]? = some (some w) → ∃ v, vs[i]? = some (some v) ∧ Rp K mg f H w v
  | [], _, _, _, _, e => by simp at e
  | o :: s, vs, i, w', h, e => by
    unfold RelE at h
    obtain ⟨x, r, rfl, q, z⟩ := h
    cases i with
    | zero =>
      simp at e
      obtain ⟨v, e1, q1⟩ := q _ e
      exact ⟨v, by simp [e1], q1⟩
    | succ i =>
      obtain ⟨u, e1, q1⟩ := RelE.get (i := i) z (by simpa using e)
      exact ⟨u, by simpa using e1, q1⟩
theorem RelE.set {w : W} {v : V} (hw : Rp K mg f H w v) : ∀ {s : En} {vs : St} (i : Nat), RelE K mg f H s vs → RelE K mg f H (s.set i (some w)) (vs.set i (some v))
  | [], _, _, h => by unfold RelE at h; subst h; simp [RelE]
  | o :: s, _, 0, h => by
    unfold RelE at h
    obtain ⟨x, r, rfl, q, z⟩ := h
    show RelE K mg f H (some w :: s) (some v :: r)
    unfold RelE
    exact ⟨_, r, rfl, fun w' e => by cases e; exact ⟨v, rfl, hw⟩, z⟩
  | o :: s, _, i + 1, h => by
    unfold RelE at h
    obtain ⟨x, r, rfl, q, z⟩ := h
    show RelE K mg f H (o :: s.set i (some w)) (x :: r.set i (some v))
    unfold RelE
    exact ⟨x, _, rfl, q, RelE.set hw i z⟩
theorem RelE.clr {x : Option V} : ∀ {s : En} {vs : St} (i : Nat), RelE K mg f H s vs → RelE K mg f H (s.set i none) (vs.set i x)
  | [], _, _, h => by unfold RelE at h; subst h; simp [RelE]
  | o :: s, _, 0, h => by
    unfold RelE at h
    obtain ⟨y, r, rfl, q, z⟩ := h
    show RelE K mg f H (none :: s) (x :: r)
    unfold RelE
    exact ⟨_, r, rfl, fun w' e => (by cases e), z⟩
  | o :: s, _, i + 1, h => by
    unfold RelE at h
    obtain ⟨y, r, rfl, q, z⟩ := h
    show RelE K mg f H (o :: s.set i none) (y :: r.set i x)
    unfold RelE
    exact ⟨y, _, rfl, q, RelE.clr i z⟩
def wipeE (s : En) : List Nat → En
  | [] => s
  | v :: vs => (wipeE s vs).set v none
theorem RelE.wipe {s : En} {vs : St} (h : RelE K mg f H s vs) : ∀ l : List Nat, RelE K mg f H (wipeE s l) (L2.wipe vs l)
  | [] => h
  | v :: l => (RelE.wipe h l).clr v
/-- the names at a def's entry -/
def startE (n : Nat) (ws : List W) : En := ws.map some ++ List.replicate (n - ws.length) none
theorem RelE.nones : ∀ n : Nat, RelE K mg f H (List.replicate n none) (List.replicate n none)
  | 0 => by simp [RelE]
  | n + 1 => by
    rw [List.replicate_succ, List.replicate_succ]
    unfold RelE
    exact ⟨_, _, rfl, fun w e => (by cases e), RelE.nones n⟩
theorem RelE.somes {t : En} {u : St} (ht : RelE K mg f H t u) : ∀ {ws : List W} {vs : List V}, Rpl K mg f H ws vs → RelE K mg f H (ws.map some ++ t) (vs.map some ++ u)
  | [], _, h => by unfold Rpl at h; subst h; exact ht
  | w :: ws, _, h => by
    unfold Rpl at h
    obtain ⟨v, r, rfl, q, z⟩ := h
    show RelE K mg f H (some w :: (ws.map some ++ t)) (some v :: (r.map some ++ u))
    unfold RelE
    exact ⟨_, _, rfl, fun w' e => by cases e; exact ⟨v, rfl, q⟩, RelE.somes ht z⟩
theorem RelE.start {N : List Str} {ws : List W} {vs : List V} (h : Rpl K mg f H ws vs) : RelE K mg f H (startE N.length ws) (L2.start N vs) := by
  unfold startE L2.start
  rw [h.length]
  exact RelE.somes (RelE.nones _) h
end
end Ev

set_option Elab.async false
set_option linter.all false
set_option maxRecDepth 100000
/-! Ev2: readings by results; expressions. -/
namespace Ev
open PySem L2

/-- an exception's record -/
def RelX (K : PySem.W.Frag) (mg : Str → Option Value) (f : List Addr) (H : Hp) (e : Xn) (c : Value) (d : Option Addr) : Prop :=
  ∃ C, mg e.c = some (.ref C) ∧ c = .ref C ∧ ((e.fs = [] ∧ d = none) ∨ ∃ dx vs, e.fs ≠ [] ∧ d = some dx ∧ H dx = some (.xd vs) ∧ RpF K mg f H e.fs vs)
abbrev Rel3 (A B : Type) := List Addr → Hp → A → B → Prop
section
variable (X : Cx) (Z : WX) {A B : Type}
/-- what follows a result -/
def post (P : Rel3 A B) (st : St) (f : List Addr) (H : Hp) (r : R A) (Q : B → Hp → Prop) : Prop :=
  match r with
  | .ok a S => ∀ f' H' b, Kp f H f' H' → RelS X.K X.mg f' H' S → P f' H' a b → Q b H'
  | .ex e S => ∀ f' H' c d, Kp f H f' H' → RelS X.K X.mg f' H' S → RelX X.K X.mg f' H' e c d → Z c d st H'
  | .no => False
/-- the reading of code whose result is m -/
def tG (P : Rel3 A B) (m : En → Sto → R A) : St → Hp → (B → Hp → Prop) → Prop := fun st H Q =>
  ∃ f s S, RelE X.K X.mg f H s st ∧ RelS X.K X.mg f H S ∧ post X Z P st f H (m s S) Q
abbrev tI (m : En → Sto → R W) : TE := tG X Z (Rp X.K X.mg) m
abbrev tA (m : En → Sto → R (List W)) : TA := tG X Z (Rpl X.K X.mg) m
abbrev tT (m : En → Sto → R Bool) : TT := tG X Z (fun _ _ a b => b = a) m
end
section
variable {X : Cx} {Z : WX} {A B C D : Type} {P : Rel3 A B} {P' : Rel3 C D} {st : St} {f f1 : List Addr} {H H1 : Hp} {r : R A} {Q : B → Hp → Prop}
theorem post.mono (h : post X Z P st f H r Q) (k : Kp f H f1 H1) : post X Z P st f1 H1 r Q := by
  cases r with
  | ok a S => exact fun f' H' b k' => h f' H' b (k.trans k')
  | ex e S => exact fun f' H' c d k' => h f' H' c d (k.trans k')
  | no => exact h
theorem post.seq {k : A → Sto → R C} {Q' : D → Hp → Prop} (h : post X Z P' st f H (r.bind k) Q')
    (hk : ∀ f1 H1 a S1 b, Kp f H f1 H1 → RelS X.K X.mg f1 H1 S1 → P f1 H1 a b → post X Z P' st f1 H1 (k a S1) Q' → Q b H1) : post X Z P st f H r Q := by
  cases r with
  | ok a S => exact fun f' H' b k' s' p' => hk f' H' a S b k' s' p' (post.mono (show post X Z P' st f H (k a S) Q' from h) k')
  | ex e S => exact h
  | no => exact h
end
theorem _root_.L2.PE.imp {X : Cx} {e : Expr} {t t' : TE} (h : PE X e t) (i : ∀ st H Q, t' st H Q → t st H Q) : PE X e t' := ⟨fun pins s st H Q I q => h.run pins s st H Q I (i _ _ _ q)⟩
theorem _root_.L2.PT.imp {X : Cx} {e : Expr} {t t' : TT} (h : PT X e t) (i : ∀ st H Q, t' st H Q → t st H Q) : PT X e t' := ⟨fun pins s st H Q I q => h.run pins s st H Q I (i _ _ _ q)⟩
theorem _root_.L2.PW.imp {X : Cx} {e : Expr} {t t' : TT} (h : PW X e t) (i : ∀ st H Q, t' st H Q → t st H Q) : PW X e t' := ⟨fun w pins s st H Q I q => h.run w pins s st H Q I (i _ _ _ q)⟩
theorem _root_.L2.PA.imp {X : Cx} {e : List Expr} {t t' : TA} (h : PA X e t) (i : ∀ st H Q, t' st H Q → t st H Q) : PA X e t' := ⟨fun p pins s st H Q I q => h.run p pins s st H Q I (i _ _ _ q)⟩
/-! ### the results -/
abbrev EV := En → Sto → R W
abbrev BV := En → Sto → R Bool
abbrev AV := En → Sto → R (List W)
def eVar (i : Nat) : EV := fun s S => match s[i]? with
  | some (some w) => .ok w S
  | _ => .no
def eC (w : W) : EV := fun _ S => .ok w S
def e1 (F : W → Sto → R W) (a : EV) : EV := fun s S => (a s S).bind F
def e2 (F : W → W → Sto → R W) (a b : EV) : EV := fun s S => (a s S).bind fun x S => (b s S).bind fun y S => F x y S
def aNil : AV := fun _ S => .ok [] S
def aCons (a : EV) (r : AV) : AV := fun s S => (a s S).bind fun x S => (r s S).bind fun xs S => .ok (x :: xs) S
def eL (F : List W → Sto → R W) (a : AV) : EV := fun s S => (a s S).bind F
def bTest (a : EV) : BV := fun s S => (a s S).bind fun w S => match w with
  | .bl b => .ok b S
  | _ => .no
def bAnd (a b : BV) : BV := fun s S => (a s S).bind fun c S => if c = true then b s S else .ok false S
def bOr (a b : BV) : BV := fun s S => (a s S).bind fun c S => if c = true then .ok true S else b s S
def bNot (a : BV) : BV := fun s S => (a s S).bind fun c S => .ok (!c) S
def vAnd (a b : EV) : EV := fun s S => (a s S).bind fun w S => match w with
  | .bl c => if c = true then b s S else .ok (.bl false) S
  | _ => .no
def vOr (a b : EV) : EV := fun s S => (a s S).bind fun w S => match w with
  | .bl c => if c = true then .ok (.bl true) S else b s S
  | _ => .no
def vNot (a : EV) : EV := fun s S => (a s S).bind fun w S => match w with
  | .bl c => .ok (.bl (!c)) S
  | _ => .no
def eIf (c : BV) (a b : EV) : EV := fun s S => (c s S).bind fun c S => if c = true then a s S else b s S
/-- the list at a place, or a list that is read only -/
def getL (S : Sto) : W → Option (List W)
  | .loc n => match S[n]? with
    | some (.lst ws) => some ws
    | _ => none
  | .rol ws => some ws
  | _ => none

/-! ### what an operation must have -/
section
variable (X : Cx) (Z : WX)
def Snd1 (r : V → Hp → VK → Prop) (F : W → Sto → R W) : Prop := ∀ {f H st S w v Q}, RelS X.K X.mg f H S → Rp X.K X.mg f H w v → post X Z (Rp X.K X.mg) st f H (F w S) Q → r v H Q
def Snd2 (r : R2) (F : W → W → Sto → R W) : Prop := ∀ {f H st S w v w' v' Q}, RelS X.K X.mg f H S → Rp X.K X.mg f H w v → Rp X.K X.mg f H w' v' → post X Z (Rp X.K X.mg) st f H (F w w' S) Q → r v v' H Q
def SndL (r : List V → Hp → VK → Prop) (F : List W → Sto → R W) : Prop := ∀ {f H st S ws vs Q}, RelS X.K X.mg f H S → Rpl X.K X.mg f H ws vs → post X Z (Rp X.K X.mg) st f H (F ws S) Q → r vs H Q
end

section
variable {X : Cx} {Z : WX} {e a b c : Expr} {es : List Expr} {pos : Pos} {ma mb mc : EV} {ba bb : BV} {mr : AV}
theorem post.fin {A B : Type} {P : Rel3 A B} {st : St} {f : List Addr} {H : Hp} {S : Sto} {w : A} {v : B} {Q : B → Hp → Prop} (h : post X Z P st f H (.ok w S) Q) (s : RelS X.K X.mg f H S) (p : P f H w v) : Q v H := h f H v Kp.refl s p
theorem e_var (i : Nat) {x : Str} (hN : X.N[i]? = some x := by rfl) (hv : Vis X.env.scope x := by first | exact Or.inl rfl | exact Or.inr (Or.inl rfl) | exact Or.inr (Or.inr rfl)) (hd : (x == ("__debug__" : Str)) = false := by decide)
    (hcd : (x == ("__classdict__" : Str)) = false := by decide) : PE X (.Name x pos) (tI X Z (eVar i)) := by
  refine (pe_var hN hv hd hcd).imp ?_
  rintro st H Q ⟨f, s, S, hE, hS, hp⟩
  unfold eVar at hp
  split at hp
  · rename_i w e
    obtain ⟨v, e1, r⟩ := hE.get e
    exact ⟨v, e1, hp.fin hS r⟩
  · exact hp.elim
theorem e_const {w : W} {v : V} (h : PE X e (tC v)) (hw : ∀ f H, Rp X.K X.mg f H w v) : PE X e (tI X Z (eC w)) := by
  refine h.imp ?_
  rintro st H Q ⟨f, s, S, hE, hS, hp⟩
  exact hp.fin hS (hw f H)
theorem e_int {i j} : PE X (.Constant (.int i) j pos) (tI X Z (eC (.int i))) := e_const pe_int fun f H => by unfold Rp; rfl
theorem e_bl {i j} : PE X (.Constant (.bool i) j pos) (tI X Z (eC (.bl i))) := e_const pe_bl fun f H => by unfold Rp; rfl
theorem e_non {j} : PE X (.Constant .none j pos) (tI X Z (eC .non)) := e_const pe_non fun f H => by unfold Rp; rfl
theorem e_str {i j} : PE X (.Constant (.str i) j pos) (tI X Z (eC (.str i))) := e_const pe_str fun f H => by unfold Rp; rfl
theorem e_glob {x : Str} {p : Addr} (hg : Gl X x) (hm : X.mg x = some (.ref p)) (hd : (x == ("__debug__" : Str)) = false := by decide) : PE X (.Name x pos) (tI X Z (eC (.gl x))) :=
  e_const (pe_glob hg hm (show RelV (.ref p) (.ref p) from rfl) hd) fun f H => by unfold Rp; exact ⟨p, rfl, hm⟩
theorem e_type {x : Str} {n : String} (hg : Gl X x) (hm : X.mg x = none) (hv : bootBuiltins x = some (.type n)) (hn : x ≠ "__name__" := by decide) (hd : (x == ("__debug__" : Str)) = false := by decide) : PE X (.Name x pos) (tI X Z (eC (.ty n))) :=
  e_const (pe_bltn hg hm hv (show RelV (.ty n) (.type n) from rfl) hn hd) fun f H => by unfold Rp; rfl

theorem e_un {op : UnaryOp} {r : V → Hp → VK → Prop} {F : W → Sto → R W} (ho : UnR X (unaryOp op) r) (hF : Snd1 X Z r F) (ha : PE X a (tI X Z ma)) : PE X (.UnaryOp op a pos) (tI X Z (e1 F ma)) := by
  refine (pe_un ho ha).imp ?_
  rintro st H Q ⟨f, s, S, hE, hS, hp⟩
  exact ⟨f, s, S, hE, hS, hp.seq fun f1 H1 w1 S1 v1 k1 s1 p1 hp1 => hF s1 p1 hp1⟩
/-- two parts in a row -/
theorem two {r : R2} {F : W → W → Sto → R W} (hF : Snd2 X Z r F) (st : St) (H : Hp) (Q : VK) (h : tI X Z (e2 F ma mb) st H Q) : tOp r (tI X Z ma) (tI X Z mb) st H Q := by
  obtain ⟨f, s, S, hE, hS, hp⟩ := h
  exact ⟨f, s, S, hE, hS, hp.seq fun f1 H1 w1 S1 v1 k1 s1 p1 hp1 => ⟨f1, s, S1, hE.mono k1, s1, hp1.seq fun f2 H2 w2 S2 v2 k2 s2 p2 hp2 => hF s2 (p1.mono k2) p2 hp2⟩⟩
theorem e_op {op : Operator} {r : R2} {F : W → W → Sto → R W} (ho : OpR X (binaryOp op) r) (hF : Snd2 X Z r F) (ha : PE X a (tI X Z ma)) (hb : PE X b (tI X Z mb)) : PE X (.BinOp a op b pos) (tI X Z (e2 F ma mb)) :=
  (pe_op ho ha hb).imp (two hF)
theorem e_ixr {r : R2} {F : W → W → Sto → R W} (ho : IxR X r) (hF : Snd2 X Z r F) (ha : PE X a (tI X Z ma)) (hb : PE X b (tI X Z mb)) (hs : PlainIx b := by exact fun _ _ => rfl) : PE X (.Subscript a b pos) (tI X Z (e2 F ma mb)) :=
  (pe_ix ho ha hb hs).imp (two hF)
theorem e_cmp {op : CmpOp} {r : R2} {F : W → W → Sto → R W} (ho : OpR X (compareOp op) r) (hF : Snd2 X Z r F) (ha : PE X a (tI X Z ma)) (hb : PE X b (tI X Z mb)) (hm : behindInMarks op b = false := by rfl) : PE X (.Compare a [op] [b] pos) (tI X Z (e2 F ma mb)) :=
  (pe_cmpR ho ha hb hm).imp (two hF)
/-- a value that is a truth -/
theorem testOf {t : TE} {m : EV} (h : ∀ st H Q, tI X Z m st H Q → t st H Q) (st : St) (H : Hp) (Q : Bool → Hp → Prop) (q : tT X Z (bTest m) st H Q) : t st H fun x H1 => ∃ k, x = .bl k ∧ Q k H1 := by
  refine h st H _ ?_
  obtain ⟨f, s, S, hE, hS, hp⟩ := q
  refine ⟨f, s, S, hE, hS, hp.seq fun f1 H1 w1 S1 v1 k1 s1 p1 hp1 => ?_⟩
  try dsimp only at hp1
  split at hp1
  · rename_i b'
    unfold Rp at p1
    exact ⟨b', p1, hp1.fin s1 rfl⟩
  · exact hp1.elim
theorem t_cmp {op : CmpOp} {r : R2} {F : W → W → Sto → R W} (ho : OpR X (compareOp op) r) (hF : Snd2 X Z r F) (ha : PE X a (tI X Z ma)) (hb : PE X b (tI X Z mb)) (hm : behindInMarks op b = false := by rfl) : PT X (.Compare a [op] [b] pos) (tT X Z (bTest (e2 F ma mb))) :=
  (pt_cmpR ho ha hb hm).imp (testOf (two hF))
theorem t_and (ha : PT X a (tT X Z ba)) (hb : PW X (.BoolOp .And (b :: es) pos) (tT X Z bb)) : PW X (.BoolOp .And (a :: b :: es) pos) (tT X Z (bAnd ba bb)) := by
  refine (pw_and ha hb).imp ?_
  rintro st H Q ⟨f, s, S, hE, hS, hp⟩
  refine ⟨f, s, S, hE, hS, hp.seq fun f1 H1 w1 S1 v1 k1 s1 p1 hp1 => ?_⟩
  obtain rfl : v1 = w1 := p1
  by_cases e : v1 = true
  · rw [if_pos e] at hp1 ⊢
    exact ⟨f1, s, S1, hE.mono k1, s1, hp1⟩
  · rw [if_neg e] at hp1 ⊢
    exact hp1.fin s1 rfl
theorem t_or (ha : PT X a (tT X Z ba)) (hb : PW X (.BoolOp .Or (b :: es) pos) (tT X Z bb)) : PW X (.BoolOp .Or (a :: b :: es) pos) (tT X Z (bOr ba bb)) := by
  refine (pw_or ha hb).imp ?_
  rintro st H Q ⟨f, s, S, hE, hS, hp⟩
  refine ⟨f, s, S, hE, hS, hp.seq fun f1 H1 w1 S1 v1 k1 s1 p1 hp1 => ?_⟩
  obtain rfl : v1 = w1 := p1
  by_cases e : v1 = true
  · rw [if_pos e] at hp1 ⊢
    exact hp1.fin s1 rfl
  · rw [if_neg e] at hp1 ⊢
    exact ⟨f1, s, S1, hE.mono k1, s1, hp1⟩
theorem t_and1 (ha : PT X a (tT X Z ba)) : PW X (.BoolOp .And [a] pos) (tT X Z ba) := pw_and1 ha
theorem t_or1 (ha : PT X a (tT X Z ba)) : PW X (.BoolOp .Or [a] pos) (tT X Z ba) := pw_or1 ha
theorem t_not (ha : PT X a (tT X Z ba)) : PT X (.UnaryOp .Not a pos) (tT X Z (bNot ba)) := by
  refine (pt_not ha).imp ?_
  rintro st H Q ⟨f, s, S, hE, hS, hp⟩
  refine ⟨f, s, S, hE, hS, hp.seq fun f1 H1 w1 S1 v1 k1 s1 p1 hp1 => ?_⟩
  obtain rfl : v1 = w1 := p1
  exact hp1.fin s1 rfl
theorem e_one {op} (ha : PE X a (tI X Z ma)) : PE X (.BoolOp op [a] pos) (tI X Z ma) := pe_one ha
theorem e_and (ha : PE X a (tI X Z ma)) (hb : PE X (.BoolOp .And (b :: es) pos) (tI X Z mb)) : PE X (.BoolOp .And (a :: b :: es) pos) (tI X Z (vAnd ma mb)) := by
  refine (pe_and ha hb).imp ?_
  rintro st H Q ⟨f, s, S, hE, hS, hp⟩
  refine ⟨f, s, S, hE, hS, hp.seq fun f1 H1 w1 S1 v1 k1 s1 p1 hp1 => ?_⟩
  try dsimp only at hp1
  split at hp1
  · rename_i c
    unfold Rp at p1
    refine ⟨c, p1, ?_⟩
    by_cases e : c = true
    · rw [if_pos e] at hp1 ⊢
      exact ⟨f1, s, S1, hE.mono k1, s1, hp1⟩
    · rw [if_neg e] at hp1 ⊢
      exact hp1.fin s1 (by unfold Rp; rfl)
  · exact hp1.elim
theorem e_or (ha : PE X a (tI X Z ma)) (hb : PE X (.BoolOp .Or (b :: es) pos) (tI X Z mb)) : PE X (.BoolOp .Or (a :: b :: es) pos) (tI X Z (vOr ma mb)) := by
  refine (pe_or ha hb).imp ?_
  rintro st H Q ⟨f, s, S, hE, hS, hp⟩
  refine ⟨f, s, S, hE, hS, hp.seq fun f1 H1 w1 S1 v1 k1 s1 p1 hp1 => ?_⟩
  try dsimp only at hp1
  split at hp1
  · rename_i c
    unfold Rp at p1
    refine ⟨c, p1, ?_⟩
    by_cases e : c = true
    · rw [if_pos e] at hp1 ⊢
      exact hp1.fin s1 (by unfold Rp; rfl)
    · rw [if_neg e] at hp1 ⊢
      exact ⟨f1, s, S1, hE.mono k1, s1, hp1⟩
  · exact hp1.elim
theorem e_not (ha : PE X a (tI X Z ma)) : PE X (.UnaryOp .Not a pos) (tI X Z (vNot ma)) := by
  refine (pe_not ha).imp ?_
  rintro st H Q ⟨f, s, S, hE, hS, hp⟩
  refine ⟨f, s, S, hE, hS, hp.seq fun f1 H1 w1 S1 v1 k1 s1 p1 hp1 => ?_⟩
  try dsimp only at hp1
  split at hp1
  · rename_i c
    unfold Rp at p1
    exact ⟨c, p1, hp1.fin s1 (by unfold Rp; rfl)⟩
  · exact hp1.elim
theorem e_if (hc : PT X c (tT X Z ba)) (ha : PE X a (tI X Z ma)) (hb : PE X b (tI X Z mb)) : PE X (.IfExp c a b pos) (tI X Z (eIf ba ma mb)) := by
  refine (pe_ifExp hc ha hb).imp ?_
  rintro st H Q ⟨f, s, S, hE, hS, hp⟩
  refine ⟨f, s, S, hE, hS, hp.seq fun f1 H1 w1 S1 v1 k1 s1 p1 hp1 => ?_⟩
  obtain rfl : v1 = w1 := p1
  by_cases e : v1 = true
  · rw [if_pos e] at hp1 ⊢
    exact ⟨f1, s, S1, hE.mono k1, s1, hp1⟩
  · rw [if_neg e] at hp1 ⊢
    exact ⟨f1, s, S1, hE.mono k1, s1, hp1⟩
theorem a_nil : PA X [] (tA X Z aNil) := by
  refine pa_nil.imp ?_
  rintro st H Q ⟨f, s, S, hE, hS, hp⟩
  exact hp.fin hS Rpl.nil
theorem a_cons (ha : PE X e (tI X Z ma)) (hr : PA X es (tA X Z mr)) (hs : starEach (e :: es) X.env = (false, eval e X.env) :: starEach es X.env := by rfl) : PA X (e :: es) (tA X Z (aCons ma mr)) := by
  refine (pa_cons ha hr hs).imp ?_
  rintro st H Q ⟨f, s, S, hE, hS, hp⟩
  exact ⟨f, s, S, hE, hS, hp.seq fun f1 H1 w1 S1 v1 k1 s1 p1 hp1 => ⟨f1, s, S1, hE.mono k1, s1, hp1.seq fun f2 H2 w2 S2 v2 k2 s2 p2 hp2 => hp2.fin s2 (.cons (p1.mono k2) p2)⟩⟩
/-- a call of a builtin by its name -/
theorem e_callB {x : Str} {id : String} {p : Pos} {r : List V → Hp → VK → Prop} {F : List W → Sto → R W} (hc : CallR X (.builtin id) r) (hF : SndL X Z r F) (hg : Gl X x) (hm : X.mg x = none) (hv : bootBuiltins x = some (.builtin id)) (ha : PA X (e :: es) (tA X Z mr)) (hn : x ≠ "__name__" := by decide)
    (hdb : (x == ("__debug__" : Str)) = false := by decide) (he : starEach (e :: es) X.env = (false, eval e X.env) :: starEach es X.env := by rfl) (hpl : (backTo pos (starEach es X.env)).any (·.1) = false := by rfl) :
    PE X (.Call (.Name x p) (e :: es) [] pos) (tI X Z (eL F mr)) := by
  refine (pe_callB hc hg hm hv ha hn hdb he hpl).imp ?_
  rintro st H Q ⟨f, s, S, hE, hS, hp⟩
  exact ⟨f, s, S, hE, hS, hp.seq fun f1 H1 w1 S1 v1 k1 s1 p1 hp1 => hF s1 p1 hp1⟩
theorem e_callTy {x : Str} {T : String} {p : Pos} {r : List V → Hp → VK → Prop} {F : List W → Sto → R W} (hc : CallR X (.type T) r) (hF : SndL X Z r F) (hg : Gl X x) (hm : X.mg x = none) (hv : bootBuiltins x = some (.type T)) (ha : PA X (e :: es) (tA X Z mr)) (hn : x ≠ "__name__" := by decide)
    (hdb : (x == ("__debug__" : Str)) = false := by decide) (he : starEach (e :: es) X.env = (false, eval e X.env) :: starEach es X.env := by rfl) (hpl : (backTo pos (starEach es X.env)).any (·.1) = false := by rfl) :
    PE X (.Call (.Name x p) (e :: es) [] pos) (tI X Z (eL F mr)) := by
  refine (pe_callTy hc hg hm hv ha hn hdb he hpl).imp ?_
  rintro st H Q ⟨f, s, S, hE, hS, hp⟩
  exact ⟨f, s, S, hE, hS, hp.seq fun f1 H1 w1 S1 v1 k1 s1 p1 hp1 => hF s1 p1 hp1⟩
/-! displays -/
def tupW (ws : List W) (S : Sto) : R W := if ws.length ≤ 1000000 then .ok (.tup ws) S else .no
def lstW (ws : List W) (S : Sto) : R W := if ws.length ≤ 1000000 then .ok (.loc S.length) (S ++ [.lst ws]) else .no
theorem mill {n : Nat} (h : n ≤ 1000000) : n ≤ sizeLine := by rw [sizeLine_eq]; omega
theorem post.newT {st : St} {f : List Addr} {H : Hp} {S : Sto} {ws : List W} {vs : List V} {Q : VK} (h : post X Z (Rp X.K X.mg) st f H (.ok (.tup ws) S) Q) (s : RelS X.K X.mg f H S) (r : Rpl X.K X.mg f H ws vs) {p : Addr} (hp : H p = none) : Q (.ref p) (upd H p (.tup vs)) := by
  have k : Kp f H f (upd H p (.tup vs)) := kpLaid hp _
  refine h f _ _ k (s.laid hp _) ?_
  unfold Rp
  exact ⟨p, vs, rfl, upd_same, r.mono k⟩
theorem post.newL {st : St} {f : List Addr} {H : Hp} {S : Sto} {ws : List W} {vs : List V} {Q : VK} (h : post X Z (Rp X.K X.mg) st f H (.ok (.loc S.length) (S ++ [.lst ws])) Q) (s : RelS X.K X.mg f H S) (r : Rpl X.K X.mg f H ws vs) {p : Addr} (hp : H p = none) : Q (.ref p) (upd H p (.lst vs)) := by
  have k : Kp f H (f ++ [p]) (upd H p (.lst vs)) := s.kpNew hp _
  refine h _ _ _ k (s.new hp ⟨vs, upd_same, r.mono k⟩) ?_
  unfold Rp
  exact ⟨p, rfl, at_new s⟩
theorem e_tup {k1} (ha : PA X es (tA X Z mr)) : PE X (.Tuple es k1 pos) (tI X Z (eL tupW mr)) := by
  refine (pe_tup ha).imp ?_
  rintro st H Q ⟨f, s, S, hE, hS, hp⟩
  refine ⟨f, s, S, hE, hS, hp.seq fun f1 H1 ws S1 vs k1 s1 p1 hp1 => ?_⟩
  unfold tupW at hp1
  split at hp1
  · rename_i z
    exact ⟨by rw [p1.length]; exact mill z, fun p hn => hp1.newT s1 p1 hn⟩
  · exact hp1.elim
theorem e_lst (ha : PA X es (tA X Z mr)) : PE X (.List es pos) (tI X Z (eL lstW mr)) := by
  refine (pe_lst ha).imp ?_
  rintro st H Q ⟨f, s, S, hE, hS, hp⟩
  refine ⟨f, s, S, hE, hS, hp.seq fun f1 H1 ws S1 vs k1 s1 p1 hp1 => ?_⟩
  unfold lstW at hp1
  split at hp1
  · rename_i z
    exact ⟨by rw [p1.length]; exact mill z, fun p hn => hp1.newL s1 p1 hn⟩
  · exact hp1.elim
end
end Ev

set_option Elab.async false
set_option linter.all false
set_option maxRecDepth 100000
/-! Ev3: operations on values. -/
namespace Ev
open PySem L2
section
variable {X : Cx} {Z : WX}
/-- a value that is not in the store's heap -/
theorem Rp.intE {K : PySem.W.Frag} {mg : Str → Option Value} {f : List Addr} {H : Hp} {i : Int} {v : V} (h : Rp K mg f H (.int i) v) : v = .int i := by unfold Rp at h; exact h
theorem Rp.strE {K : PySem.W.Frag} {mg : Str → Option Value} {f : List Addr} {H : Hp} {i : Str} {v : V} (h : Rp K mg f H (.str i) v) : v = .str i := by unfold Rp at h; exact h
theorem Rp.blE {K : PySem.W.Frag} {mg : Str → Option Value} {f : List Addr} {H : Hp} {i : Bool} {v : V} (h : Rp K mg f H (.bl i) v) : v = .bl i := by unfold Rp at h; exact h
theorem Rp.nonE {K : PySem.W.Frag} {mg : Str → Option Value} {f : List Addr} {H : Hp} {v : V} (h : Rp K mg f H .non v) : v = .non := by unfold Rp at h; exact h
theorem Rp.tyE {K : PySem.W.Frag} {mg : Str → Option Value} {f : List Addr} {H : Hp} {i : String} {v : V} (h : Rp K mg f H (.ty i) v) : v = .ty i := by unfold Rp at h; exact h
theorem Rp.tupE {K : PySem.W.Frag} {mg : Str → Option Value} {f : List Addr} {H : Hp} {ws : List W} {v : V} (h : Rp K mg f H (.tup ws) v) : ∃ a vs, v = .ref a ∧ H a = some (.tup vs) ∧ Rpl K mg f H ws vs := by unfold Rp at h; exact h
theorem Rp.ptpE {K : PySem.W.Frag} {mg : Str → Option Value} {f : List Addr} {H : Hp} {ws : List W} {v : V} (h : Rp K mg f H (.ptp ws) v) : ∃ a vs o, v = .ref a ∧ H a = some (.frz o (.tup vs)) ∧ o.dict = none ∧ Rpl K mg f H ws vs := by unfold Rp at h; exact h
theorem SqT.frz {K : PySem.W.Frag} {H : Hp} {a : Addr} {o : Obj} {vs : List V} (q : H a = some (.frz o (.tup vs))) : SqT K H a vs := .inl (.inr ⟨o, q⟩)
theorem Rp.rolE {K : PySem.W.Frag} {mg : Str → Option Value} {f : List Addr} {H : Hp} {ws : List W} {v : V} (h : Rp K mg f H (.rol ws) v) : ∃ a vs, v = .ref a ∧ RoL K H a vs ∧ Rpl K mg f H ws vs := by unfold Rp at h; exact h
theorem Rp.locE {K : PySem.W.Frag} {mg : Str → Option Value} {f : List Addr} {H : Hp} {n : Nat} {v : V} (h : Rp K mg f H (.loc n) v) : ∃ a, v = .ref a ∧ f[n]? = some a := by unfold Rp at h; exact h
theorem Rp.glE {K : PySem.W.Frag} {mg : Str → Option Value} {f : List Addr} {H : Hp} {n : Str} {v : V} (h : Rp K mg f H (.gl n) v) : ∃ a, v = .ref a ∧ mg n = some (.ref a) := by unfold Rp at h; exact h
theorem Rp.int' {K : PySem.W.Frag} {mg : Str → Option Value} {f : List Addr} {H : Hp} {i : Int} : Rp K mg f H (.int i) (.int i) := by unfold Rp; rfl
theorem Rp.str' {K : PySem.W.Frag} {mg : Str → Option Value} {f : List Addr} {H : Hp} {i : Str} : Rp K mg f H (.str i) (.str i) := by unfold Rp; rfl
theorem Rp.bl' {K : PySem.W.Frag} {mg : Str → Option Value} {f : List Addr} {H : Hp} {i : Bool} : Rp K mg f H (.bl i) (.bl i) := by unfold Rp; rfl
theorem Rp.non' {K : PySem.W.Frag} {mg : Str → Option Value} {f : List Addr} {H : Hp} : Rp K mg f H .non .non := by unfold Rp; rfl
theorem Rp.tup' {K : PySem.W.Frag} {mg : Str → Option Value} {f : List Addr} {H : Hp} {a : Addr} {ws : List W} {vs : List V} (h : H a = some (.tup vs)) (r : Rpl K mg f H ws vs) : Rp K mg f H (.tup ws) (.ref a) := by unfold Rp; exact ⟨a, vs, rfl, h, r⟩
/-- a list that may be written -/
theorem lstAt {f : List Addr} {H : Hp} {S : Sto} {n : Nat} {ws : List W} {v : V} (s : RelS X.K X.mg f H S) (h : Rp X.K X.mg f H (.loc n) v) (e : S[n]? = some (.lst ws)) : ∃ a vs, v = .ref a ∧ f[n]? = some a ∧ H a = some (.lst vs) ∧ Rpl X.K X.mg f H ws vs := by
  obtain ⟨a, e1, e2⟩ := h.locE
  obtain ⟨vs, q, r⟩ := s.at_ n _ a e e2
  exact ⟨a, vs, e1, e2, q, r⟩
theorem dctAt {f : List Addr} {H : Hp} {S : Sto} {n : Nat} {kvs : List (W × W)} {v : V} (s : RelS X.K X.mg f H S) (h : Rp X.K X.mg f H (.loc n) v) (e : S[n]? = some (.dct kvs)) : ∃ a vs, v = .ref a ∧ f[n]? = some a ∧ H a = some (.dK vs) ∧ RpK X.K X.mg f H kvs vs := by
  obtain ⟨a, e1, e2⟩ := h.locE
  obtain ⟨vs, q, r⟩ := s.at_ n _ a e e2
  exact ⟨a, vs, e1, e2, q, r⟩
theorem fdcAt {f : List Addr} {H : Hp} {S : Sto} {n : Nat} {kvs : List (W × W)} {v : V} (s : RelS X.K X.mg f H S) (h : Rp X.K X.mg f H (.loc n) v) (e : S[n]? = some (.fdc kvs)) : ∃ a od vs, v = .ref a ∧ f[n]? = some a ∧ H a = some (.frz od (.dK vs)) ∧ RpK X.K X.mg f H kvs vs := by
  obtain ⟨a, e1, e2⟩ := h.locE
  obtain ⟨od, vs, q, r⟩ := s.at_ n _ a e e2
  exact ⟨a, od, vs, e1, e2, q, r⟩
theorem tctAt {f : List Addr} {H : Hp} {S : Sto} {n : Nat} {kvs : List (List Key × W)} {v : V} (s : RelS X.K X.mg f H S) (h : Rp X.K X.mg f H (.loc n) v) (e : S[n]? = some (.tct kvs)) : ∃ a vs, v = .ref a ∧ f[n]? = some a ∧ H a = some (.dT vs) ∧ RpT X.K X.mg f H kvs vs := by
  obtain ⟨a, e1, e2⟩ := h.locE
  obtain ⟨vs, q, r⟩ := s.at_ n _ a e e2
  exact ⟨a, vs, e1, e2, q, r⟩
theorem DGet.f {H : Hp} {a : Addr} {od : Obj} {kvs : List (Key × V)} {k : Key} (e : H a = some (.frz od (.dK kvs))) : DGet H a (kV k) (valV kvs k) := .inl ⟨kvs, k, .inr ⟨_, e⟩, rfl, rfl⟩
theorem insAt {f : List Addr} {H : Hp} {S : Sto} {n : Nat} {c : Str} {fs : List (Str × W)} {v : V} (s : RelS X.K X.mg f H S) (h : Rp X.K X.mg f H (.loc n) v) (e : S[n]? = some (.ins c fs)) : ∃ a C dx vs, v = .ref a ∧ f[n]? = some a ∧ X.mg c = some (.ref C) ∧ H a = some (.ins C dx vs) ∧ RpF X.K X.mg f H fs vs := by
  obtain ⟨a, e1, e2⟩ := h.locE
  obtain ⟨C, dx, vs, m, q, r⟩ := s.at_ n _ a e e2
  exact ⟨a, C, dx, vs, e1, e2, m, q, r⟩
/-- a list that is read -/
theorem getL_at {f : List Addr} {H : Hp} {S : Sto} {w : W} {ws : List W} {v : V} (s : RelS X.K X.mg f H S) (h : Rp X.K X.mg f H w v) (e : getL S w = some ws) : ∃ a vs, v = .ref a ∧ SqL X.K H a vs ∧ Rpl X.K X.mg f H ws vs := by
  cases w with
  | loc n =>
    unfold getL at e
    dsimp only at e
    split at e
    · rename_i xs e2
      cases e
      obtain ⟨a, vs, e3, _, q, r⟩ := lstAt s h e2
      exact ⟨a, vs, e3, SqL.of q, r⟩
    · cases e
  | rol xs =>
    cases e
    obtain ⟨a, vs, e3, q, r⟩ := h.rolE
    exact ⟨a, vs, e3, q.seq, r⟩
  | _ => cases e

/-! ### arithmetic -/
def subW : W → W → Sto → R W
  | .int i, .int j, S => .ok (.int (i - j)) S
  | _, _, _ => .no
theorem snd_sub : Snd2 X Z (rI0 fun i j => .int (i - j)) subW := by
  intro f H st S w v w' v' Q s h h' p
  unfold subW at p
  split at p
  · exact ⟨_, _, h.intE, h'.intE, p.fin s Rp.int'⟩
  · exact p.elim
instance (i j : Int) : Decidable (CMul i j) := by unfold CMul; exact inferInstance
def modW : W → W → Sto → R W
  | .int i, .int j, S => if 0 < j then .ok (.int (i % j)) S else .no
  | _, _, _ => .no
theorem snd_mod : Snd2 X Z (rI (fun _ j => 0 < j) fun i j => .int (i % j)) modW := by
  intro f H st S w v w' v' Q s h h' p
  unfold modW at p
  split at p
  · split at p
    · rename_i z
      exact ⟨_, _, h.intE, h'.intE, z, p.fin s Rp.int'⟩
    · exact p.elim
  · exact p.elim
def fdivW : W → W → Sto → R W
  | .int i, .int j, S => if 0 < j ∧ j < 1073741824 then .ok (.int (i / j)) S else .no
  | _, _, _ => .no
theorem snd_fdiv : Snd2 X Z (rI CDiv fun i j => .int (i / j)) fdivW := by
  intro f H st S w v w' v' Q s h h' p
  unfold fdivW at p
  split at p
  · split at p
    · rename_i z
      exact ⟨_, _, h.intE, h'.intE, z, p.fin s Rp.int'⟩
    · exact p.elim
  · exact p.elim
def powW : W → W → Sto → R W
  | .int i, .int j, S => if 0 ≤ j ∧ j ≤ 1000000 ∧ i.natAbs < 2 ^ 64 then .ok (.int (i ^ j.toNat)) S else .no
  | _, _, _ => .no
theorem snd_pow : Snd2 X Z (rI CPow fun i j => .int (i ^ j.toNat)) powW := by
  intro f H st S w v w' v' Q s h h' p
  unfold powW at p
  split at p
  · split at p
    · rename_i z
      exact ⟨_, _, h.intE, h'.intE, z, p.fin s Rp.int'⟩
    · exact p.elim
  · exact p.elim
def negW : W → Sto → R W
  | .int i, S => .ok (.int (-i)) S
  | _, _ => .no
theorem snd_neg : Snd1 X Z (rU fun i => .int (-i)) negW := by
  intro f H st S w v Q s h p
  unfold negW at p
  split at p
  · exact ⟨_, h.intE, p.fin s Rp.int'⟩
  · exact p.elim
/-! x + y -/
def addW : W → W → Sto → R W
  | .int i, .int j, S => .ok (.int (i + j)) S
  | .str x, .str y, S => if x.length + y.length ≤ 1000000 then .ok (.str (x ++ y)) S else .no
  | .tup a, .tup b, S => if a.length + b.length ≤ 1000000 then .ok (.tup (a ++ b)) S else .no
  | .loc m, .loc n, S => match S[m]?, S[n]? with
    | some (.lst a), some (.lst b) => if a.length + b.length ≤ 1000000 then .ok (.loc S.length) (S ++ [.lst (a ++ b)]) else .no
    | _, _ => .no
  | _, _, _ => .no
def rAddW (K : PySem.W.Frag) : R2 := fun x y H Q => (∃ i j, x = .int i ∧ y = .int j ∧ Q (.int (i + j)) H) ∨ (∃ i j, x = .str i ∧ y = .str j ∧ i.length + j.length ≤ sizeLine ∧ Q (.str (i ++ j)) H) ∨ rCatA K x y H Q ∨ rCat x y H Q
theorem op_addW : OpR X (binaryOp .Add) (rAddW X.K) := op_add.or (op_add_str.or (op_catA.or op_cat))
theorem Rpl.nilL {K : PySem.W.Frag} {mg : Str → Option Value} {f : List Addr} {H : Hp} {ws : List W} {vs : List V} (r : Rpl K mg f H ws vs) : vs = [] ↔ ws = [] := by
  have := r.length
  rw [← List.length_eq_zero_iff, ← List.length_eq_zero_iff, this]
theorem snd_add : Snd2 X Z (rAddW X.K) addW := by
  intro f H st S w v w' v' Q s h h' p
  unfold addW at p
  split at p
  · exact .inl ⟨_, _, h.intE, h'.intE, p.fin s Rp.int'⟩
  · split at p
    · rename_i z
      exact .inr (.inl ⟨_, _, h.strE, h'.strE, mill z, p.fin s Rp.str'⟩)
    · exact p.elim
  · split at p
    · rename_i a b z
      obtain ⟨pa, va, rfl, qa, ra⟩ := h.tupE
      obtain ⟨pb, vb, rfl, qb, rb⟩ := h'.tupE
      refine .inr (.inr (.inl ⟨pa, pb, va, vb, rfl, rfl, SqT.of qa, SqT.of qb, by rw [ra.length, rb.length]; exact mill z, fun e => ?_, fun _ e => ?_, fun _ _ q hq => p.newT s (ra.append rb) hq⟩))
      · refine p.fin s (.tup' qb ?_)
        rw [ra.nilL.mp e]; exact rb
      · refine p.fin s (.tup' qa ?_)
        rw [rb.nilL.mp e, List.append_nil]; exact ra
    · exact p.elim
  · split at p
    · rename_i a b e1 e2
      split at p
      · rename_i z
        obtain ⟨pa, va, rfl, _, qa, ra⟩ := lstAt s h e1
        obtain ⟨pb, vb, rfl, _, qb, rb⟩ := lstAt s h' e2
        exact .inr (.inr (.inr ⟨pa, pb, va, vb, rfl, rfl, qa, qb, by rw [ra.length, rb.length]; exact mill z, fun q hq => p.newL s (ra.append rb) hq⟩))
      · exact p.elim
    · exact p.elim
  · exact p.elim
/-! x * y -/
def mulW : W → W → Sto → R W
  | .int i, .int j, S => if CMul i j then .ok (.int (i * j)) S else .no
  | .loc n, .int k, S => match S[n]? with
    | some (.lst a) => if -1000000 ≤ k ∧ k ≤ 1000000 ∧ a.length * k.toNat ≤ 1000000 then .ok (.loc S.length) (S ++ [.lst (List.replicate k.toNat a).flatten]) else .no
    | _ => .no
  | .tup a, .int k, S => if a ≠ [] ∧ 2 ≤ k ∧ k ≤ 1000 ∧ a.length ≤ 1000 then .ok (.tup (List.replicate k.toNat a).flatten) S else .no
  | _, _, _ => .no
def rMulW (K : PySem.W.Frag) : R2 := fun x y H Q => rI CMul (fun i j => .int (i * j)) x y H Q ∨ rRep x y H Q ∨ rRepT K x y H Q
theorem op_mulW' : OpR X (binaryOp .Mult) (rMulW X.K) := op_mul.or (op_rep.or op_repT)
theorem Rpl.rep {K : PySem.W.Frag} {mg : Str → Option Value} {f : List Addr} {H : Hp} {ws : List W} {vs : List V} (r : Rpl K mg f H ws vs) : ∀ k : Nat, Rpl K mg f H (List.replicate k ws).flatten (List.replicate k vs).flatten
  | 0 => by simp [Rpl]
  | k + 1 => by
    rw [List.replicate_succ, List.replicate_succ, List.flatten_cons, List.flatten_cons]
    exact r.append (Rpl.rep r k)
theorem snd_mul : Snd2 X Z (rMulW X.K) mulW := by
  intro f H st S w v w' v' Q s h h' p
  unfold mulW at p
  split at p
  · split at p
    · rename_i z
      exact .inl ⟨_, _, h.intE, h'.intE, z, p.fin s Rp.int'⟩
    · exact p.elim
  · split at p
    · rename_i e1
      split at p
      · rename_i z
        obtain ⟨pa, va, rfl, _, qa, ra⟩ := lstAt s h e1
        exact .inr (.inl ⟨pa, _, va, rfl, h'.intE, qa, by omega, by omega, by rw [ra.length]; exact mill z.2.2, fun q hq => p.newL s (ra.rep _) hq⟩)
      · exact p.elim
    · exact p.elim
  · split at p
    · rename_i z
      obtain ⟨pa, va, rfl, qa, ra⟩ := h.tupE
      exact .inr (.inr ⟨pa, _, va, rfl, h'.intE, SqT.of qa, fun e => z.1 (ra.nilL.mp e), z.2.1, z.2.2.1, by rw [ra.length]; exact z.2.2.2, fun q hq => p.newT s (ra.rep _) hq⟩)
    · exact p.elim
  · exact p.elim

/-! ### comparisons -/
def cmpI (g : Int → Int → Bool) : W → W → Sto → R W
  | .int i, .int j, S => .ok (.bl (g i j)) S
  | _, _, _ => .no
theorem snd_cmpI {g : Int → Int → Bool} : Snd2 X Z (rI0 fun i j => .bl (g i j)) (cmpI g) := by
  intro f H st S w v w' v' Q s h h' p
  unfold cmpI at p
  split at p
  · exact ⟨_, _, h.intE, h'.intE, p.fin s Rp.bl'⟩
  · exact p.elim
abbrev ltW := cmpI fun i j => decide (i < j)
abbrev leW := cmpI fun i j => decide (i ≤ j)
abbrev gtW := cmpI fun i j => decide (j < i)
abbrev geW := cmpI fun i j => decide (j ≤ i)
/-- the data that a value is -/
def W.pd (S : Sto) : Nat → W → Option PyData
  | 0, _ => none
  | n + 1, w => match w with
    | .non => some .none
    | .bl b => some (.bool b)
    | .int i => some (.int i)
    | .str x => some (.str x)
    | .tup ws => (ws.mapM (W.pd S n)).map .tuple
    | .ptp ws => (ws.mapM (W.pd S n)).map .tuple
    | .rol ws => (ws.mapM (W.pd S n)).map .list
    | .loc k => match S[k]? with
      | some (.lst ws) => (ws.mapM (W.pd S n)).map .list
      | _ => none
    | _ => none
theorem mapM_cons {A B : Type} (g : A → Option B) (a : A) (l : List A) : (a :: l).mapM g = (g a).bind fun b => (l.mapM g).map fun r => b :: r := by
  rw [List.mapM_cons]
  cases g a with
  | none => rfl
  | some b => cases l.mapM g <;> rfl
theorem pd_all {f : List Addr} {H : Hp} {S : Sto} {n : Nat} (ih : ∀ w v d, Rp X.K X.mg f H w v → W.pd S n w = some d → Dp X.K H v d ∧ d.plain = true ∧ d.depth ≤ n) :
    ∀ (ws : List W) (vs : List V) (ds : List PyData), Rpl X.K X.mg f H ws vs → ws.mapM (W.pd S n) = some ds → DpAll X.K H vs ds ∧ PyData.plainAll ds = true ∧ PyData.depthAll ds ≤ n
  | [], vs, ds, h, e => by
    unfold Rpl at h
    subst h
    cases (show some [] = some ds from e)
    exact ⟨.nil, rfl, Nat.zero_le _⟩
  | w :: ws, vs, ds, h, e => by
    unfold Rpl at h
    obtain ⟨v, r, rfl, q, z⟩ := h
    rw [mapM_cons] at e
    cases e1 : W.pd S n w with
    | none => rw [e1] at e; cases e
    | some d =>
      rw [e1] at e
      cases e2 : ws.mapM (W.pd S n) with
      | none => rw [e2] at e; cases e
      | some ds' =>
        rw [e2] at e
        cases e
        obtain ⟨a1, a2, a3⟩ := ih w v d q e1
        obtain ⟨b1, b2, b3⟩ := pd_all ih ws r ds' z e2
        refine ⟨.cons a1 b1, ?_, ?_⟩
        · show (d.plain && PyData.plainAll ds') = true
          rw [a2, b2]; rfl
        · show max d.depth (PyData.depthAll ds') ≤ n
          omega
theorem pd_ok {f : List Addr} {H : Hp} {S : Sto} (s : RelS X.K X.mg f H S) : ∀ (n : Nat) (w : W) (v : V) (d : PyData), Rp X.K X.mg f H w v → W.pd S n w = some d → Dp X.K H v d ∧ d.plain = true ∧ d.depth ≤ n
  | 0, _, _, _, _, e => by cases e
  | n + 1, w, v, d, h, e => by
    have ih := pd_ok s n
    unfold W.pd at e
    split at e
    · cases e; rw [h.nonE]; exact ⟨.non, rfl, Nat.zero_le _⟩
    · cases e; rw [h.blE]; exact ⟨.bl _, rfl, Nat.zero_le _⟩
    · cases e; rw [h.intE]; exact ⟨.int _, rfl, Nat.zero_le _⟩
    · cases e; rw [h.strE]; exact ⟨.str _, rfl, Nat.zero_le _⟩
    · rename_i ws
      obtain ⟨a, vs, rfl, q, r⟩ := h.tupE
      obtain ⟨ds, e1, rfl⟩ := Option.map_eq_some_iff.mp e
      obtain ⟨b1, b2, b3⟩ := pd_all ih ws vs ds r e1
      exact ⟨.tup (SqT.of q) b1, b2, by show PyData.depthAll ds + 1 ≤ n + 1; omega⟩
    · rename_i ws
      obtain ⟨a, vs, o, rfl, q, _, r⟩ := h.ptpE
      obtain ⟨ds, e1, rfl⟩ := Option.map_eq_some_iff.mp e
      obtain ⟨b1, b2, b3⟩ := pd_all ih ws vs ds r e1
      exact ⟨.tup (SqT.frz q) b1, b2, by show PyData.depthAll ds + 1 ≤ n + 1; omega⟩
    · rename_i ws
      obtain ⟨a, vs, rfl, q, r⟩ := h.rolE
      obtain ⟨ds, e1, rfl⟩ := Option.map_eq_some_iff.mp e
      obtain ⟨b1, b2, b3⟩ := pd_all ih ws vs ds r e1
      exact ⟨.lst q.seq b1, b2, by show PyData.depthAll ds + 1 ≤ n + 1; omega⟩
    · split at e
      · rename_i ws e0
        obtain ⟨a, vs, rfl, _, q, r⟩ := lstAt s h e0
        obtain ⟨ds, e1, rfl⟩ := Option.map_eq_some_iff.mp e
        obtain ⟨b1, b2, b3⟩ := pd_all ih ws vs ds r e1
        exact ⟨.lst (SqL.of q) b1, b2, by show PyData.depthAll ds + 1 ≤ n + 1; omega⟩
      · cases e
    · cases e
def rEqP (K : PySem.W.Frag) (neg : Bool) : R2 := fun x y H Q => ∃ d e, Dp K H x d ∧ Dp K H y e ∧ d.plain = true ∧ e.plain = true ∧ d.depth ≤ 64 ∧ Q (.bl (if neg then !PyData.eqv d e else PyData.eqv d e)) H
theorem op_eqP (hu : X.A.units + 64 < cLine) : OpR X (compareOp .Eq) (rEqP X.K false) := by
  intro pins s st H x y v u Q I rx ry h
  obtain ⟨d, e, hd, he, sd, se, dd, q⟩ := h
  obtain ⟨as, r1⟩ := Dp.reads I d x v hd rx
  obtain ⟨bs, r2⟩ := Dp.reads I e y u he ry
  have : min d.depth e.depth ≤ d.depth := Nat.min_le_left _ _
  exact SeqAt.eq_plain r1 r2 sd se (by omega) ⟨.bl _, H, I, rfl, q⟩
theorem op_neP (hu : X.A.units + 64 < cLine) : OpR X (compareOp .NotEq) (rEqP X.K true) := by
  intro pins s st H x y v u Q I rx ry h
  obtain ⟨d, e, hd, he, sd, se, dd, q⟩ := h
  obtain ⟨as, r1⟩ := Dp.reads I d x v hd rx
  obtain ⟨bs, r2⟩ := Dp.reads I e y u he ry
  have : min d.depth e.depth ≤ d.depth := Nat.min_le_left _ _
  exact SeqAt.ne_plain r1 r2 sd se (by omega) ⟨.bl _, H, I, rfl, q⟩
/-- whether two values are equal as data -/
def eqO (x y : W) (S : Sto) : Option Bool := match W.pd S 64 x, W.pd S 64 y with
  | some d, some e => some (PyData.eqv d e)
  | _, _ => none
def eqW (x y : W) (S : Sto) : R W := match eqO x y S with
  | some b => .ok (.bl b) S
  | none => .no
def neW (x y : W) (S : Sto) : R W := match eqO x y S with
  | some b => .ok (.bl (!b)) S
  | none => .no
theorem eqO_ok {f : List Addr} {H : Hp} {S : Sto} {w w' : W} {v v' : V} {b : Bool} (s : RelS X.K X.mg f H S) (h : Rp X.K X.mg f H w v) (h' : Rp X.K X.mg f H w' v') (e : eqO w w' S = some b) :
    ∃ d e, Dp X.K H v d ∧ Dp X.K H v' e ∧ d.plain = true ∧ e.plain = true ∧ d.depth ≤ 64 ∧ PyData.eqv d e = b := by
  unfold eqO at e
  split at e
  · rename_i d d' e1 e2
    obtain ⟨a1, a2, a3⟩ := pd_ok s 64 w v d h e1
    obtain ⟨b1, b2, b3⟩ := pd_ok s 64 w' v' d' h' e2
    cases e
    exact ⟨d, d', a1, b1, a2, b2, a3, rfl⟩
  · cases e
theorem snd_eq : Snd2 X Z (rEqP X.K false) eqW := by
  intro f H st S w v w' v' Q s h h' p
  unfold eqW at p
  split at p
  · rename_i b e
    obtain ⟨d, d', a1, b1, a2, b2, a3, eb⟩ := eqO_ok s h h' e
    refine ⟨d, d', a1, b1, a2, b2, a3, ?_⟩
    rw [if_neg (by decide), eb]
    exact p.fin s Rp.bl'
  · exact p.elim
theorem snd_ne : Snd2 X Z (rEqP X.K true) neW := by
  intro f H st S w v w' v' Q s h h' p
  unfold neW at p
  split at p
  · rename_i b e
    obtain ⟨d, d', a1, b1, a2, b2, a3, eb⟩ := eqO_ok s h h' e
    refine ⟨d, d', a1, b1, a2, b2, a3, ?_⟩
    rw [if_pos rfl, eb]
    exact p.fin s Rp.bl'
  · exact p.elim
/-! is None -/
def isNon : W → Bool
  | .non => true
  | _ => false
def isW (x y : W) (S : Sto) : R W := match y with
  | .non => .ok (.bl (isNon x)) S
  | _ => .no
def isnW (x y : W) (S : Sto) : R W := match y with
  | .non => .ok (.bl (!isNon x)) S
  | _ => .no
theorem isNon_ok {f : List Addr} {H : Hp} {w : W} {v : V} (h : Rp X.K X.mg f H w v) : decide (v = .non) = isNon w := by
  cases w with
  | non => rw [h.nonE]; rfl
  | bl b => rw [h.blE]; rfl
  | int i => rw [h.intE]; rfl
  | str i => rw [h.strE]; rfl
  | tup ws => obtain ⟨a, _, rfl, _⟩ := h.tupE; rfl
  | ptp ws => obtain ⟨a, _, _, rfl, _⟩ := h.ptpE; rfl
  | rol ws => obtain ⟨a, _, rfl, _⟩ := h.rolE; rfl
  | loc n => obtain ⟨a, rfl, _⟩ := h.locE; rfl
  | gl x => obtain ⟨a, rfl, _⟩ := h.glE; rfl
  | ty n => rw [h.tyE]; rfl
theorem snd_is : Snd2 X Z (fun x y H Q => y = .non ∧ Q (.bl (decide (x = .non))) H) isW := by
  intro f H st S w v w' v' Q s h h' p
  unfold isW at p
  split at p
  · exact ⟨h'.nonE, by rw [isNon_ok h]; exact p.fin s Rp.bl'⟩
  · exact p.elim
theorem snd_isn : Snd2 X Z (fun x y H Q => y = .non ∧ Q (.bl (!decide (x = .non))) H) isnW := by
  intro f H st S w v w' v' Q s h h' p
  unfold isnW at p
  split at p
  · exact ⟨h'.nonE, by rw [isNon_ok h]; exact p.fin s Rp.bl'⟩
  · exact p.elim
end
end Ev

set_option Elab.async false
set_option linter.all false
set_option maxRecDepth 100000
/-! Ev4: in, subscripts, slices, dicts, builtins, methods, truth. -/
namespace Ev
open PySem L2 PySem.Spec PyProof.Rows
section
variable {X : Cx} {Z : WX}
/-! ### dicts with keys that are intsOf or texts -/
def dlook (kvs : List (W × W)) (q : Key) : Option W := (kvs.find? fun p => decide (W.key? p.1 = some q)).map (·.2)
def dput (kvs : List (W × W)) (k : W) (q : Key) (w : W) : List (W × W) :=
  if (dlook kvs q).isSome = true then kvs.map (fun p => if W.key? p.1 = some q then (p.1, w) else p) else kvs ++ [(k, w)]
def ddrop (kvs : List (W × W)) (q : Key) : List (W × W) := kvs.filter fun p => decide (W.key? p.1 ≠ some q)
/-! dicts whose keys are tuples of ints and texts -/
def tlook (kvs : List (List Key × W)) (q : List Key) : Option W := (kvs.find? fun p => decide (p.1 = q)).map (·.2)
def tput (kvs : List (List Key × W)) (q : List Key) (w : W) : List (List Key × W) :=
  if (tlook kvs q).isSome = true then kvs.map (fun p => if p.1 = q then (p.1, w) else p) else kvs ++ [(q, w)]
def W.tkey? : W → Option (List Key)
  | .tup ws => ws.mapM W.key?
  | _ => none
theorem RpT.val {f : List Addr} {H : Hp} (q : List Key) : ∀ {kvs : List (List Key × W)} {vs : List (List Key × V)}, RpT X.K X.mg f H kvs vs → (tlook kvs q = none ∧ valV vs q = none) ∨ ∃ w v, tlook kvs q = some w ∧ valV vs q = some v ∧ Rp X.K X.mg f H w v
  | [], vs, h => by unfold RpT at h; subst h; exact .inl ⟨rfl, rfl⟩
  | (k, w) :: kvs, vs, h => by
    unfold RpT at h
    obtain ⟨v, r, rfl, hw, hr⟩ := h
    by_cases e : k = q
    · refine .inr ⟨w, v, ?_, valV_pos e, hw⟩
      unfold tlook
      rw [List.find?_cons_of_pos (by simp [e])]; rfl
    · have e1 : tlook ((k, w) :: kvs) q = tlook kvs q := by
        unfold tlook
        rw [List.find?_cons_of_neg (by simp [e])]
      rw [e1, valV_neg (p := (k, v)) e]
      exact RpT.val q hr
theorem RpT.map {f : List Addr} {H : Hp} {q : List Key} {w : W} {v : V} (hw : Rp X.K X.mg f H w v) : ∀ {kvs : List (List Key × W)} {vs : List (List Key × V)}, RpT X.K X.mg f H kvs vs →
    RpT X.K X.mg f H (kvs.map (fun p => if p.1 = q then (p.1, w) else p)) (vs.map fun p => if p.1 = q then (p.1, v) else p)
  | [], vs, h => by unfold RpT at h; subst h; simp [RpT]
  | (k, w') :: kvs, vs, h => by
    unfold RpT at h
    obtain ⟨v', r, rfl, hw', hr⟩ := h
    rw [List.map_cons, List.map_cons]
    have ih := RpT.map (q := q) hw hr
    by_cases e : k = q
    · rw [if_pos e, if_pos e]; unfold RpT; exact ⟨v, _, rfl, hw, ih⟩
    · rw [if_neg e, if_neg e]; unfold RpT; exact ⟨v', _, rfl, hw', ih⟩
theorem RpT.snoc {f : List Addr} {H : Hp} {q : List Key} {w : W} {v : V} (hw : Rp X.K X.mg f H w v) : ∀ {kvs : List (List Key × W)} {vs : List (List Key × V)}, RpT X.K X.mg f H kvs vs → RpT X.K X.mg f H (kvs ++ [(q, w)]) (vs ++ [(q, v)])
  | [], vs, h => by
    unfold RpT at h; subst h
    show RpT X.K X.mg f H [(q, w)] [(q, v)]
    unfold RpT
    exact ⟨v, [], rfl, hw, by unfold RpT; rfl⟩
  | (k', w') :: kvs, vs, h => by
    unfold RpT at h
    obtain ⟨v', r, rfl, hw', hr⟩ := h
    show RpT X.K X.mg f H ((k', w') :: (kvs ++ [(q, w)])) ((k', v') :: (r ++ [(q, v)]))
    unfold RpT
    exact ⟨v', _, rfl, hw', RpT.snoc hw hr⟩
theorem RpT.put {f : List Addr} {H : Hp} {q : List Key} {w : W} {v : V} (hw : Rp X.K X.mg f H w v) {kvs : List (List Key × W)} {vs : List (List Key × V)} (h : RpT X.K X.mg f H kvs vs) : RpT X.K X.mg f H (tput kvs q w) (putK vs q v) := by
  unfold tput putK
  rw [valV_any]
  rcases h.val q with ⟨e1, e2⟩ | ⟨w', v', e1, e2, _⟩
  · rw [e1, e2]; exact h.snoc hw
  · rw [e1, e2]; exact h.map hw
theorem RpT.length {f : List Addr} {H : Hp} : ∀ {kvs : List (List Key × W)} {vs : List (List Key × V)}, RpT X.K X.mg f H kvs vs → vs.length = kvs.length
  | [], vs, h => by unfold RpT at h; subst h; rfl
  | (k, w') :: kvs, vs, h => by
    unfold RpT at h
    obtain ⟨v', r, rfl, hw', hr⟩ := h
    rw [List.length_cons, List.length_cons, RpT.length hr]
theorem tkeys_ok {f : List Addr} {H : Hp} : ∀ {ws : List W} {vs : List V} {q : List Key}, Rpl X.K X.mg f H ws vs → ws.mapM W.key? = some q → vs = q.map kV
  | [], vs, q, h, e => by
    unfold Rpl at h; subst h
    cases (show some [] = some q from e); rfl
  | w :: ws, vs, q, h, e => by
    unfold Rpl at h
    obtain ⟨v, r, rfl, hv, hr⟩ := h
    rw [mapM_cons] at e
    cases e1 : W.key? w with
    | none => rw [e1] at e; cases e
    | some k =>
      rw [e1] at e
      cases e2 : ws.mapM W.key? with
      | none => rw [e2] at e; cases e
      | some q' =>
        rw [e2] at e
        cases e
        have hk : v = kV k := by
          cases w with
          | int i => cases e1; exact hv.intE
          | str x => cases e1; exact hv.strE
          | _ => cases e1
        rw [List.map_cons, ← tkeys_ok hr e2, hk]
theorem tkey_ok {f : List Addr} {H : Hp} {w : W} {v : V} {q : List Key} (h : Rp X.K X.mg f H w v) (e : W.tkey? w = some q) : ∃ b, v = .ref b ∧ H b = some (.tup (q.map kV)) := by
  cases w with
  | tup ws =>
    obtain ⟨b, vs, rfl, hb, r⟩ := h.tupE
    exact ⟨b, rfl, by rw [hb, tkeys_ok r e]⟩
  | _ => cases e
def W.ofKey : Key → W
  | .inl i => .int i
  | .inr x => .str x
theorem key_ok {f : List Addr} {H : Hp} {w : W} {v : V} {q : Key} (h : Rp X.K X.mg f H w v) (e : W.key? w = some q) : v = kV q := by
  cases w with
  | int i => cases e; exact h.intE
  | str x => cases e; exact h.strE
  | _ => cases e
theorem RpK.val {f : List Addr} {H : Hp} (q : Key) : ∀ {kvs : List (W × W)} {vs : List (Key × V)}, RpK X.K X.mg f H kvs vs → (dlook kvs q = none ∧ valV vs q = none) ∨ ∃ w v, dlook kvs q = some w ∧ valV vs q = some v ∧ Rp X.K X.mg f H w v
  | [], vs, h => by unfold RpK at h; subst h; exact .inl ⟨rfl, rfl⟩
  | (k, w) :: kvs, vs, h => by
    unfold RpK at h
    obtain ⟨q', v, r, rfl, hk, hw, hr⟩ := h
    by_cases e : q' = q
    · refine .inr ⟨w, v, ?_, valV_pos e, hw⟩
      unfold dlook
      rw [List.find?_cons_of_pos]
      · rfl
      · simp [hk, e]
    · have e1 : dlook ((k, w) :: kvs) q = dlook kvs q := by
        unfold dlook
        rw [List.find?_cons_of_neg]
        simp [hk, e]
      rw [e1, valV_neg (p := (q', v)) e]
      exact RpK.val q hr
theorem RpK.map {f : List Addr} {H : Hp} {q : Key} {w : W} {v : V} (hw : Rp X.K X.mg f H w v) : ∀ {kvs : List (W × W)} {vs : List (Key × V)}, RpK X.K X.mg f H kvs vs →
    RpK X.K X.mg f H (kvs.map (fun p => if W.key? p.1 = some q then (p.1, w) else p)) (vs.map fun p => if p.1 = q then (p.1, v) else p)
  | [], vs, h => by unfold RpK at h; subst h; simp [RpK]
  | (k, w') :: kvs, vs, h => by
    unfold RpK at h
    obtain ⟨q', v', r, rfl, hk, hw', hr⟩ := h
    rw [List.map_cons, List.map_cons]
    have ih := RpK.map (q := q) hw hr
    by_cases e : q' = q
    · have : W.key? k = some q := by rw [hk, e]
      rw [if_pos this, if_pos e]
      unfold RpK
      exact ⟨q', v, _, rfl, hk, hw, ih⟩
    · have : ¬ W.key? k = some q := by rw [hk]; intro z; exact e (Option.some.inj z)
      rw [if_neg this, if_neg e]
      unfold RpK
      exact ⟨q', v', _, rfl, hk, hw', ih⟩
theorem RpK.snoc {f : List Addr} {H : Hp} {q : Key} {k w : W} {v : V} (hk : W.key? k = some q) (hw : Rp X.K X.mg f H w v) : ∀ {kvs : List (W × W)} {vs : List (Key × V)}, RpK X.K X.mg f H kvs vs →
    RpK X.K X.mg f H (kvs ++ [(k, w)]) (vs ++ [(q, v)])
  | [], vs, h => by
    unfold RpK at h; subst h
    show RpK X.K X.mg f H [(k, w)] [(q, v)]
    unfold RpK
    exact ⟨q, v, [], rfl, hk, hw, by unfold RpK; rfl⟩
  | (k', w') :: kvs, vs, h => by
    unfold RpK at h
    obtain ⟨q', v', r, rfl, hk', hw', hr⟩ := h
    show RpK X.K X.mg f H ((k', w') :: (kvs ++ [(k, w)])) ((q', v') :: (r ++ [(q, v)]))
    unfold RpK
    exact ⟨q', v', _, rfl, hk', hw', RpK.snoc hk hw hr⟩
theorem RpK.put {f : List Addr} {H : Hp} {q : Key} {k w : W} {v : V} (hk : W.key? k = some q) (hw : Rp X.K X.mg f H w v) {kvs : List (W × W)} {vs : List (Key × V)} (h : RpK X.K X.mg f H kvs vs) :
    RpK X.K X.mg f H (dput kvs k q w) (putK vs q v) := by
  unfold dput putK
  rw [valV_any]
  rcases h.val q with ⟨e1, e2⟩ | ⟨w', v', e1, e2, _⟩
  · rw [e1, e2]
    exact h.snoc hk hw
  · rw [e1, e2]
    exact h.map hw
theorem RpK.drop {f : List Addr} {H : Hp} {q : Key} : ∀ {kvs : List (W × W)} {vs : List (Key × V)}, RpK X.K X.mg f H kvs vs → RpK X.K X.mg f H (ddrop kvs q) (dropK vs q)
  | [], vs, h => by unfold RpK at h; subst h; simp [ddrop, dropK, RpK]
  | (k, w') :: kvs, vs, h => by
    unfold RpK at h
    obtain ⟨q', v', r, rfl, hk, hw', hr⟩ := h
    have ih := RpK.drop (q := q) hr
    unfold ddrop dropK at ih ⊢
    by_cases e : q' = q
    · rw [List.filter_cons_of_neg (by simp [hk, e]), List.filter_cons_of_neg (by simp [e])]
      exact ih
    · rw [List.filter_cons_of_pos (by simp [hk, e]), List.filter_cons_of_pos (by simp [e])]
      unfold RpK
      exact ⟨q', v', _, rfl, hk, hw', ih⟩
theorem RpK.length {f : List Addr} {H : Hp} : ∀ {kvs : List (W × W)} {vs : List (Key × V)}, RpK X.K X.mg f H kvs vs → vs.length = kvs.length
  | [], vs, h => by unfold RpK at h; subst h; rfl
  | (k, w') :: kvs, vs, h => by
    unfold RpK at h
    obtain ⟨q', v', r, rfl, hk, hw', hr⟩ := h
    rw [List.length_cons, List.length_cons, RpK.length hr]
theorem RpK.keys {f : List Addr} {H : Hp} : ∀ {kvs : List (W × W)} {vs : List (Key × V)}, RpK X.K X.mg f H kvs vs → Rpl X.K X.mg f H (kvs.map (·.1)) (vs.map fun p => kV p.1)
  | [], vs, h => by unfold RpK at h; subst h; exact Rpl.nil
  | (k, w') :: kvs, vs, h => by
    unfold RpK at h
    obtain ⟨q', v', r, rfl, hk, hw', hr⟩ := h
    refine .cons ?_ (RpK.keys hr)
    cases k with
    | int i => cases hk; exact Rp.int'
    | str i => cases hk; exact Rp.str'
    | _ => cases hk

/-! ### x in y -/
def rInP (K : PySem.W.Frag) (neg : Bool) : R2 := fun x y H Q => ∃ d ds, Dp K H x d ∧ (Dp K H y (.list ds) ∨ Dp K H y (.tuple ds)) ∧ d.plain = true ∧ PyData.plainAll ds = true ∧ d.depth ≤ 64 ∧ Q (.bl (if neg then !ds.any (fun z => PyData.eqv z d) else ds.any fun z => PyData.eqv z d)) H
theorem op_inP (hu : X.A.units + 65 < cLine) : OpR X (compareOp .In) (rInP X.K false) := by
  intro pins s st H x y v u Q I rx ry h
  obtain ⟨d, ds, hd, he, sd, se, dd, q⟩ := h
  obtain ⟨as, r1⟩ := Dp.reads I d x v hd rx
  have : min (PyData.depthAll ds) d.depth ≤ d.depth := Nat.min_le_right _ _
  rcases he with he | he
  · obtain ⟨bs, r2⟩ := Dp.reads I (.list ds) y u he ry
    exact SeqAt.in_list_data r2 r1 se sd (by omega) ⟨.bl _, H, I, rfl, q⟩
  · obtain ⟨bs, r2⟩ := Dp.reads I (.tuple ds) y u he ry
    exact SeqAt.in_tuple_data r2 r1 se sd (by omega) ⟨.bl _, H, I, rfl, q⟩
theorem op_ninP (hu : X.A.units + 65 < cLine) : OpR X (compareOp .NotIn) (rInP X.K true) := by
  intro pins s st H x y v u Q I rx ry h
  obtain ⟨d, ds, hd, he, sd, se, dd, q⟩ := h
  obtain ⟨as, r1⟩ := Dp.reads I d x v hd rx
  have : min (PyData.depthAll ds) d.depth ≤ d.depth := Nat.min_le_right _ _
  rcases he with he | he
  · obtain ⟨bs, r2⟩ := Dp.reads I (.list ds) y u he ry
    exact SeqAt.notIn_list_data r2 r1 se sd (by omega) ⟨.bl _, H, I, rfl, q⟩
  · obtain ⟨bs, r2⟩ := Dp.reads I (.tuple ds) y u he ry
    exact SeqAt.notIn_tuple_data r2 r1 se sd (by omega) ⟨.bl _, H, I, rfl, q⟩
def rInD2 (neg : Bool) : R2 := fun y x H Q => ∃ a o, x = .ref a ∧ DGet H a y o ∧ Q (.bl (if neg then !o.isSome else o.isSome)) H
theorem op_inD2 (hu : X.A.units + 1 < cLine) : OpR X (compareOp .In) (rInD2 false) := by
  intro pins s st H y x v u Q I ry rx h
  obtain ⟨a, o, rfl, g, q⟩ := h
  obtain rfl : u = Value.ref a := rx
  exact d_in hu I g ry fun s3 I3 => ⟨.bl o.isSome, H, I3, rfl, q⟩
theorem op_ninD2 (hu : X.A.units + 1 < cLine) : OpR X (compareOp .NotIn) (rInD2 true) := by
  intro pins s st H y x v u Q I ry rx h
  obtain ⟨a, o, rfl, g, q⟩ := h
  obtain rfl : u = Value.ref a := rx
  exact d_notIn hu I g ry fun s3 I3 => ⟨.bl (!o.isSome), H, I3, rfl, q⟩
def rInC (neg : Bool) : R2 := fun x y H Q => ∃ (c : Nat) (z : Str), x = .str ⟨#[c]⟩ ∧ y = .str z ∧ Q (.bl (if neg then !decide (c ∈ z.cps.toList) else decide (c ∈ z.cps.toList))) H
def rInW (K : PySem.W.Frag) (neg : Bool) : R2 := fun x y H Q => rInP K neg x y H Q ∨ rInD2 neg x y H Q ∨ rInC neg x y H Q
theorem op_inW (hu : X.A.units + 65 < cLine) : OpR X (compareOp .In) (rInW X.K false) := (op_inP hu).or ((op_inD2 (by omega)).or (op_in_sign (X := X)))
theorem op_ninW (hu : X.A.units + 65 < cLine) : OpR X (compareOp .NotIn) (rInW X.K true) := (op_ninP hu).or ((op_ninD2 (by omega)).or (op_notIn_sign (X := X)))
/-- whether x is in y -/
def inO (x y : W) (S : Sto) : Option Bool := match y with
  | .str z => match x with
    | .str ⟨⟨[c]⟩⟩ => some (decide (c ∈ z.cps.toList))
    | _ => none
  | .tup ws => match W.pd S 64 x, ws.mapM (W.pd S 64) with
    | some d, some ds => some (ds.any fun z => PyData.eqv z d)
    | _, _ => none
  | .loc n => match S[n]? with
    | some (.lst ws) => match W.pd S 64 x, ws.mapM (W.pd S 64) with
      | some d, some ds => some (ds.any fun z => PyData.eqv z d)
      | _, _ => none
    | some (.dct kvs) => match W.key? x with
      | some q => some (dlook kvs q).isSome
      | none => none
    | some (.fdc kvs) => match W.key? x with
      | some q => some (dlook kvs q).isSome
      | none => none
    | some (.tct kvs) => match W.tkey? x with
      | some q => some (tlook kvs q).isSome
      | none => none
    | _ => none
  | _ => none
theorem inO_ok {neg : Bool} {f : List Addr} {H : Hp} {S : Sto} {x y : W} {v u : V} {b : Bool} {Q : VK} (s : RelS X.K X.mg f H S) (h : Rp X.K X.mg f H x v) (h' : Rp X.K X.mg f H y u) (e : inO x y S = some b) (q : Q (.bl (if neg then !b else b)) H) : rInW X.K neg v u H Q := by
  unfold inO at e
  split at e
  · split at e
    · cases e
      exact .inr (.inr ⟨_, _, h.strE, h'.strE, q⟩)
    · cases e
  · rename_i ws
    split at e
    · rename_i d ds e1 e2
      cases e
      obtain ⟨a, vs, rfl, hq, r⟩ := h'.tupE
      obtain ⟨a1, a2, a3⟩ := pd_ok s 64 _ _ _ h e1
      obtain ⟨b1, b2, b3⟩ := pd_all (pd_ok s 64) ws vs ds r e2
      exact .inl ⟨d, ds, a1, .inr (.tup (SqT.of hq) b1), a2, b2, a3, q⟩
    · cases e
  · split at e
    · rename_i ws e0
      split at e
      · rename_i d ds e1 e2
        cases e
        obtain ⟨a, vs, rfl, _, hq, r⟩ := lstAt s h' e0
        obtain ⟨a1, a2, a3⟩ := pd_ok s 64 _ _ _ h e1
        obtain ⟨b1, b2, b3⟩ := pd_all (pd_ok s 64) ws vs ds r e2
        exact .inl ⟨d, ds, a1, .inl (.lst (SqL.of hq) b1), a2, b2, a3, q⟩
      · cases e
    · rename_i kvs e0
      split at e
      · rename_i k e1
        cases e
        obtain ⟨a, vs, rfl, _, hq, r⟩ := dctAt s h' e0
        refine .inr (.inl ⟨a, valV vs k, rfl, ?_, ?_⟩)
        · rw [key_ok h e1]; exact DGet.k hq
        · have : (valV vs k).isSome = (dlook kvs k).isSome := by
            rcases r.val k with ⟨z1, z2⟩ | ⟨w', v', z1, z2, _⟩ <;> rw [z1, z2] <;> rfl
          rw [this]; exact q
      · cases e
    · rename_i kvs e0
      split at e
      · rename_i k e1
        cases e
        obtain ⟨a, od, vs, rfl, _, hq, r⟩ := fdcAt s h' e0
        refine .inr (.inl ⟨a, valV vs k, rfl, ?_, ?_⟩)
        · rw [key_ok h e1]; exact Ev.DGet.f hq
        · have : (valV vs k).isSome = (dlook kvs k).isSome := by
            rcases r.val k with ⟨z1, z2⟩ | ⟨w', v', z1, z2, _⟩ <;> rw [z1, z2] <;> rfl
          rw [this]; exact q
      · cases e
    · rename_i kvs e0
      split at e
      · rename_i k e1
        cases e
        obtain ⟨a, vs, rfl, _, hq, r⟩ := tctAt s h' e0
        obtain ⟨b, rfl, hb⟩ := tkey_ok h e1
        refine .inr (.inl ⟨a, valV vs k, rfl, DGet.t hq hb, ?_⟩)
        have : (valV vs k).isSome = (tlook kvs k).isSome := by
          rcases r.val k with ⟨z1, z2⟩ | ⟨w', v', z1, z2, _⟩ <;> rw [z1, z2] <;> rfl
        rw [this]; exact q
      · cases e
    · cases e
  · cases e
def inW (x y : W) (S : Sto) : R W := match inO x y S with
  | some b => .ok (.bl b) S
  | none => .no
def ninW (x y : W) (S : Sto) : R W := match inO x y S with
  | some b => .ok (.bl (!b)) S
  | none => .no
theorem snd_in : Snd2 X Z (rInW X.K false) inW := by
  intro f H st S w v w' v' Q s h h' p
  unfold inW at p
  split at p
  · rename_i b e
    exact inO_ok s h h' e (p.fin s Rp.bl')
  · exact p.elim
theorem snd_nin : Snd2 X Z (rInW X.K true) ninW := by
  intro f H st S w v w' v' Q s h h' p
  unfold ninW at p
  split at p
  · rename_i b e
    exact inO_ok s h h' e (p.fin s Rp.bl')
  · exact p.elim

/-! ### x[i] -/
def rIxDict : R2 := fun x y H Q => ∃ a v, x = .ref a ∧ DGet H a y (some v) ∧ Q v H
theorem ix_dict (hu : X.A.units + 1 < cLine) : IxR X rIxDict := by
  intro value slice pins s st H x y v u Q I rx ry h hs
  obtain ⟨a, z, rfl, g, q⟩ := h
  obtain rfl : v = Value.ref a := rx
  have hT := dict_typeIs I g
  unfold subscriptTail
  refine wpAny_bind ?_
  rw [getitemInPython_of_ne hT.not_modules]
  refine wpAny_bind (wpAny_specialOf hT PySem.F.slot_dict_getitem.lookup ?_)
  have fin : wpAny (model X.prog X.w) X.A (subscripted slice false (.ref a) u) (fun r s₃ => wpAny (model X.prog X.w) X.A (letTemporaryGo value (.ref a) r >>= fun _ => pure r) (EP X pins st Q) X.xe s₃) X.xe s := by
    rw [hs]
    exact wpAny_operating (wpAny_mono (d_getItem hu I g ry fun w' s3 I3 rw' => (⟨z, H, I3, rw', q⟩ : EP X pins st Q w' s3)) (fun r s₃ h₃ => wpAny_bind (wpAny_letTemporaryGo (wpAny_pure h₃))) fun _ _ x => x)
  first
    | exact wpAny_pure (wpAny_bind fin)
    | exact wpAny_bind (wpAny_pure (wpAny_bind fin))
    | exact wpAny_bind fin
def rIxW (K : PySem.W.Frag) : R2 := fun x y H Q => rIx K x y H Q ∨ rIxDict x y H Q
theorem ix_any (hu : X.A.units + 1 < cLine) : IxR X (rIxW X.K) := ix_seq.or (ix_dict hu)
def ixW (x y : W) (S : Sto) : R W := match x with
  | .tup ws => match y with
    | .int i => match atI ws i with
      | some w => .ok w S
      | none => .no
    | _ => .no
  | .ptp ws => match y with
    | .int i => match atI ws i with
      | some w => .ok w S
      | none => .no
    | _ => .no
  | .rol ws => match y with
    | .int i => match atI ws i with
      | some w => .ok w S
      | none => .no
    | _ => .no
  | .str z => match y with
    | .int i => if z.length ≤ 1000000 then (match atI z.cps.toList i with
      | some c => .ok (.str ⟨#[c]⟩) S
      | none => .no) else .no
    | _ => .no
  | .loc n => match S[n]? with
    | some (.lst ws) => match y with
      | .int i => match atI ws i with
        | some w => .ok w S
        | none => .no
      | _ => .no
    | some (.dct kvs) => match W.key? y with
      | some q => match dlook kvs q with
        | some w => .ok w S
        | none => .no
      | none => .no
    | some (.fdc kvs) => match W.key? y with
      | some q => match dlook kvs q with
        | some w => .ok w S
        | none => .no
      | none => .no
    | _ => .no
  | _ => .no
theorem atI_rel {f : List Addr} {H : Hp} {ws : List W} {vs : List V} {i : Int} {w : W} (r : Rpl X.K X.mg f H ws vs) (e : atI ws i = some w) : ∃ v, atI vs i = some v ∧ Rp X.K X.mg f H w v := by
  unfold atI at e ⊢
  rw [r.length]
  cases e1 : ixN ws.length i with
  | none => rw [e1] at e; cases e
  | some j =>
    rw [e1] at e
    exact r.get e
theorem snd_ix : Snd2 X Z (rIxW X.K) ixW := by
  intro f H st S w v w' v' Q s h h' p
  unfold ixW at p
  split at p
  · split at p
    · split at p
      · rename_i w1 e
        obtain ⟨a, vs, rfl, q, r⟩ := h.tupE
        obtain ⟨v1, e1, r1⟩ := atI_rel r e
        exact .inl (.inr (.inl ⟨a, vs, _, v1, rfl, h'.intE, SqT.of q, e1, p.fin s r1⟩))
      · exact p.elim
    · exact p.elim
  · split at p
    · split at p
      · rename_i w1 e
        obtain ⟨a, vs, o, rfl, q, _, r⟩ := h.ptpE
        obtain ⟨v1, e1, r1⟩ := atI_rel r e
        exact .inl (.inr (.inl ⟨a, vs, _, v1, rfl, h'.intE, SqT.frz q, e1, p.fin s r1⟩))
      · exact p.elim
    · exact p.elim
  · split at p
    · split at p
      · rename_i w1 e
        obtain ⟨a, vs, rfl, q, r⟩ := h.rolE
        obtain ⟨v1, e1, r1⟩ := atI_rel r e
        exact .inl (.inl ⟨a, vs, _, v1, rfl, h'.intE, q.seq, e1, p.fin s r1⟩)
      · exact p.elim
    · exact p.elim
  · split at p
    · split at p
      · rename_i z
        split at p
        · rename_i c e
          exact .inl (.inr (.inr ⟨_, _, c, h.strE, h'.intE, mill z, e, p.fin s Rp.str'⟩))
        · exact p.elim
      · exact p.elim
    · exact p.elim
  · split at p
    · rename_i ws e0
      split at p
      · split at p
        · rename_i w1 e
          obtain ⟨a, vs, rfl, _, q, r⟩ := lstAt s h e0
          obtain ⟨v1, e1, r1⟩ := atI_rel r e
          exact .inl (.inl ⟨a, vs, _, v1, rfl, h'.intE, SqL.of q, e1, p.fin s r1⟩)
        · exact p.elim
      · exact p.elim
    · rename_i kvs e0
      split at p
      · rename_i k e1
        split at p
        · rename_i w1 e
          obtain ⟨a, vs, rfl, _, q, r⟩ := dctAt s h e0
          rcases r.val k with ⟨z1, z2⟩ | ⟨w2, v2, z1, z2, r2⟩
          · rw [z1] at e; cases e
          · rw [z1] at e; cases e
            refine .inr ⟨a, v2, rfl, ?_, p.fin s r2⟩
            rw [key_ok h' e1, ← z2]; exact DGet.k q
        · exact p.elim
      · exact p.elim
    · rename_i kvs e0
      split at p
      · rename_i k e1
        split at p
        · rename_i w1 e
          obtain ⟨a, od, vs, rfl, _, q, r⟩ := fdcAt s h e0
          rcases r.val k with ⟨z1, z2⟩ | ⟨w2, v2, z1, z2, r2⟩
          · rw [z1] at e; cases e
          · rw [z1] at e; cases e
            refine .inr ⟨a, v2, rfl, ?_, p.fin s r2⟩
            rw [key_ok h' e1, ← z2]; exact Ev.DGet.f q
        · exact p.elim
      · exact p.elim
    · exact p.elim
  · exact p.elim

/-! ### slices -/
abbrev OV := En → Sto → R (Option Int)
def oNone : OV := fun _ S => .ok none S
def oSome (m : EV) : OV := fun s S => (m s S).bind fun w S => match w with
  | .int i => .ok (some i) S
  | _ => .no
abbrev tO (X : Cx) (Z : WX) (m : OV) : TO := tG X Z (fun _ _ a b => b = a) m
def eSl (F : W → Option Int → Option Int → Sto → R W) (a : EV) (l u : OV) : EV := fun s S => (a s S).bind fun x S => (l s S).bind fun i S => (u s S).bind fun j S => F x i j S
def cutW (xs : List W) (lo hi : Option Int) : List W := (xs.drop (HT.sIx xs.length 0 lo)).take (HT.sIx xs.length xs.length hi - HT.sIx xs.length 0 lo)
theorem cut_rel {f : List Addr} {H : Hp} {ws : List W} {vs : List V} (r : Rpl X.K X.mg f H ws vs) (lo hi : Option Int) : Rpl X.K X.mg f H (cutW ws lo hi) (cutV vs lo hi) := by
  unfold cutW cutV
  rw [r.length]
  exact (r.drop _).take _
def slW (x : W) (lo hi : Option Int) (S : Sto) : R W := match x with
  | .str z => if z.length ≤ 1000000 then .ok (.str (cutS z lo hi)) S else .no
  | .tup ws => .ok (.tup (cutW ws lo hi)) S
  | .rol ws => .ok (.loc S.length) (S ++ [.lst (cutW ws lo hi)])
  | .loc n => match S[n]? with
    | some (.lst ws) => .ok (.loc S.length) (S ++ [.lst (cutW ws lo hi)])
    | _ => .no
  | _ => .no
def rSlW (K : PySem.W.Frag) : V → Option Int → Option Int → Hp → VK → Prop := fun x lo hi H Q => rSlS x lo hi H Q ∨ rSlA K x lo hi H Q ∨ rSlL K x lo hi H Q
theorem sl_any : SlR X (rSlW X.K) := (sl_str (X := X)).or (sl_tupA.or sl_list)
theorem cut_whole {ws : List W} {lo hi : Option Int} (h : HT.sIx ws.length 0 lo = 0 ∧ HT.sIx ws.length ws.length hi = ws.length) : cutW ws lo hi = ws := by
  unfold cutW
  rw [h.1, h.2]
  simp
theorem snd_sl {f : List Addr} {H : Hp} {st : L2.St} {S : Sto} {w : W} {v : V} {lo hi : Option Int} {Q : VK} (s : RelS X.K X.mg f H S) (h : Rp X.K X.mg f H w v) (p : post X Z (Rp X.K X.mg) st f H (slW w lo hi S) Q) : rSlW X.K v lo hi H Q := by
  unfold slW at p
  split at p
  · split at p
    · rename_i z
      exact .inl ⟨_, h.strE, mill z, p.fin s Rp.str'⟩
    · exact p.elim
  · obtain ⟨a, vs, rfl, q, r⟩ := h.tupE
    refine .inr (.inl ⟨a, vs, rfl, SqT.of q, fun e => ?_, fun _ b hb => p.newT s (cut_rel r lo hi) hb⟩)
    rw [r.length] at e
    rw [cut_whole e] at p
    exact p.fin s (.tup' q r)
  · obtain ⟨a, vs, rfl, q, r⟩ := h.rolE
    exact .inr (.inr ⟨a, vs, rfl, q.seq, fun b hb => p.newL s (cut_rel r lo hi) hb⟩)
  · split at p
    · rename_i e0
      obtain ⟨a, vs, rfl, _, q, r⟩ := lstAt s h e0
      exact .inr (.inr ⟨a, vs, rfl, SqL.of q, fun b hb => p.newL s (cut_rel r lo hi) hb⟩)
    · exact p.elim
  · exact p.elim
theorem o_none : PO X none (tO X Z oNone) := by
  refine ⟨fun pins s st H Q I h => po_none.run pins s st H Q I ?_⟩
  obtain ⟨f, s, S, hE, hS, hp⟩ := h
  exact hp.fin hS rfl
theorem o_some {e : Expr} {m : EV} (h : PE X e (tI X Z m)) : PO X (some e) (tO X Z (oSome m)) := by
  refine ⟨fun pins s st H Q I q => (po_some h).run pins s st H Q I ?_⟩
  obtain ⟨f, s, S, hE, hS, hp⟩ := q
  refine ⟨f, s, S, hE, hS, hp.seq fun f1 H1 w1 S1 v1 k1 s1 p1 hp1 => ?_⟩
  split at hp1
  · exact ⟨_, p1.intE, hp1.fin s1 rfl⟩
  · exact hp1.elim
theorem e_slice {e : Expr} {lo hi : Option Expr} {pos p2 : Pos} {m : EV} {ml mu : OV} (he : PE X e (tI X Z m)) (hl : PO X lo (tO X Z ml)) (hu : PO X hi (tO X Z mu)) : PE X (.Subscript e (.Slice lo hi none p2) pos) (tI X Z (eSl slW m ml mu)) := by
  refine (pe_slice sl_any he hl hu).imp ?_
  rintro st H Q ⟨f, s, S, hE, hS, hp⟩
  refine ⟨f, s, S, hE, hS, hp.seq fun f1 H1 w1 S1 v1 k1 s1 p1 hp1 => ⟨f1, s, S1, hE.mono k1, s1, hp1.seq fun f2 H2 w2 S2 v2 k2 s2 p2 hp2 => ⟨f2, s, S2, hE.mono (k1.trans k2), s2, hp2.seq fun f3 H3 w3 S3 v3 k3 s3 p3 hp3 => ?_⟩⟩⟩
  obtain rfl : v2 = w2 := p2
  obtain rfl : v3 = w3 := p3
  exact snd_sl s3 (p1.mono (k2.trans k3)) hp3

/-! ### truth -/
def truW (w : W) (S : Sto) : R Bool := match w with
  | .non => .ok false S
  | .bl b => .ok b S
  | .int i => .ok (i != 0) S
  | .str y => if y.length ≤ 1000000 then .ok ((y.length : Int) != 0) S else .no
  | .tup ws => .ok (!ws.isEmpty) S
  | .rol ws => .ok (!ws.isEmpty) S
  | .loc n => match S[n]? with
    | some (.lst ws) => .ok (!ws.isEmpty) S
    | some (.dct kvs) => .ok (!kvs.isEmpty) S
    | _ => .no
  | _ => .no
def bTru (m : EV) : BV := fun s S => (m s S).bind truW
theorem empty_rel {f : List Addr} {H : Hp} {ws : List W} {vs : List V} (r : Rpl X.K X.mg f H ws vs) : vs.isEmpty = ws.isEmpty := by
  have := r.length
  cases ws <;> cases vs <;> first | rfl | (simp at this)
theorem t_val {e : Expr} {m : EV} (h : PE X e (tI X Z m)) (he : ∀ whole, isTrue e X.env whole = (do let v ← whole; standAt e.pos; holding [v] (truthy v)) := by intro _; rfl) : PT X e (tT X Z (bTru m)) := by
  refine (pt_truth h he).imp ?_
  rintro st H Q ⟨f, s, S, hE, hS, hp⟩
  refine ⟨f, s, S, hE, hS, hp.seq fun f1 H1 w S1 v k1 s1 p1 hp1 => ?_⟩
  unfold truW at hp1
  split at hp1
  · rw [p1.nonE]; exact ⟨false, rfl, hp1.fin s1 rfl⟩
  · rw [p1.blE]; exact ⟨_, rfl, hp1.fin s1 rfl⟩
  · rw [p1.intE]; exact ⟨_, rfl, hp1.fin s1 rfl⟩
  · split at hp1
    · rename_i z
      rw [p1.strE]; exact ⟨_, ⟨mill z, rfl⟩, hp1.fin s1 rfl⟩
    · exact hp1.elim
  · obtain ⟨a, vs, rfl, q, r⟩ := p1.tupE
    exact ⟨_, .inr (.inl ⟨vs, SqT.of q, rfl⟩), hp1.fin s1 (by rw [empty_rel r])⟩
  · obtain ⟨a, vs, rfl, q, r⟩ := p1.rolE
    exact ⟨_, .inl ⟨vs, q.seq, rfl⟩, hp1.fin s1 (by rw [empty_rel r])⟩
  · split at hp1
    · rename_i e0
      obtain ⟨a, vs, rfl, _, q, r⟩ := lstAt s1 p1 e0
      exact ⟨_, .inl ⟨vs, SqL.of q, rfl⟩, hp1.fin s1 (by rw [empty_rel r])⟩
    · rename_i kvs e0
      obtain ⟨a, vs, rfl, _, q, r⟩ := dctAt s1 p1 e0
      refine ⟨_, .inr (.inr ⟨vs, q, rfl⟩), hp1.fin s1 ?_⟩
      have := r.length
      cases kvs <;> cases vs <;> first | rfl | (simp at this)
    · exact hp1.elim
  · exact hp1.elim

/-! ### builtins -/
/-- how many -/
def lenO (S : Sto) : W → Option Nat
  | .str y => if y.length ≤ 1000000 then some y.length else none
  | .tup ws => some ws.length
  | .ptp ws => some ws.length
  | .rol ws => some ws.length
  | .loc n => match S[n]? with
    | some (.lst ws) => some ws.length
    | some (.dct kvs) => some kvs.length
    | _ => none
  | _ => none
def lenW (ws : List W) (S : Sto) : R W := match ws with
  | [w] => match lenO S w with
    | some n => .ok (.int n) S
    | none => .no
  | _ => .no
theorem Rpl.oneE {f : List Addr} {H : Hp} {w : W} {vs : List V} (r : Rpl X.K X.mg f H [w] vs) : ∃ v, vs = [v] ∧ Rp X.K X.mg f H w v := by
  unfold Rpl at r
  obtain ⟨v, t, rfl, h, z⟩ := r
  unfold Rpl at z
  subst z
  exact ⟨v, rfl, h⟩
theorem Rpl.twoE {f : List Addr} {H : Hp} {w w' : W} {vs : List V} (r : Rpl X.K X.mg f H [w, w'] vs) : ∃ v v', vs = [v, v'] ∧ Rp X.K X.mg f H w v ∧ Rp X.K X.mg f H w' v' := by
  unfold Rpl at r
  obtain ⟨v, t, rfl, h, z⟩ := r
  obtain ⟨v', rfl, h'⟩ := Rpl.oneE z
  exact ⟨v, v', rfl, h, h'⟩
def rLenW (K : PySem.W.Frag) : List V → Hp → VK → Prop := fun xs H Q => (∃ x n, xs = [x] ∧ LenV K x H n ∧ Q (.int n) H) ∨ ∃ a kvs, xs = [V.ref a] ∧ H a = some (.dK kvs) ∧ Q (.int kvs.length) H
theorem call_lenW : CallR X (.builtin "len") (rLenW X.K) := call_len.or call_lenD
theorem snd_len : SndL X Z (rLenW X.K) lenW := by
  intro f H st S ws vs Q s r p
  unfold lenW at p
  split at p
  · rename_i w
    obtain ⟨v, rfl, h⟩ := r.oneE
    split at p
    · rename_i n e
      unfold lenO at e
      split at e
      · split at e
        · rename_i z
          cases e
          exact .inl ⟨_, _, rfl, by rw [h.strE]; exact ⟨mill z, rfl⟩, p.fin s Rp.int'⟩
        · cases e
      · cases e
        obtain ⟨a, us, rfl, q, r⟩ := h.tupE
        exact .inl ⟨_, us.length, rfl, .inr ⟨us, SqT.of q, rfl⟩, by rw [r.length]; exact p.fin s Rp.int'⟩
      · cases e
        obtain ⟨a, us, o, rfl, q, _, r⟩ := h.ptpE
        exact .inl ⟨_, us.length, rfl, .inr ⟨us, SqT.frz q, rfl⟩, by rw [r.length]; exact p.fin s Rp.int'⟩
      · cases e
        obtain ⟨a, us, rfl, q, r⟩ := h.rolE
        exact .inl ⟨_, us.length, rfl, .inl ⟨us, q.seq, rfl⟩, by rw [r.length]; exact p.fin s Rp.int'⟩
      · split at e
        · rename_i e0
          cases e
          obtain ⟨a, us, rfl, _, q, r⟩ := lstAt s h e0
          exact .inl ⟨_, us.length, rfl, .inl ⟨us, SqL.of q, rfl⟩, by rw [r.length]; exact p.fin s Rp.int'⟩
        · rename_i e0
          cases e
          obtain ⟨a, us, rfl, _, q, r⟩ := dctAt s h e0
          exact .inr ⟨a, us, rfl, q, by rw [r.length]; exact p.fin s Rp.int'⟩
        · cases e
      · cases e
    · exact p.elim
  · exact p.elim
/-- the items of a list, a tuple, a dict's keys -/
def itemsO (S : Sto) : W → Option (List W)
  | .tup ws => some ws
  | .ptp ws => some ws
  | .rol ws => some ws
  | .loc n => match S[n]? with
    | some (.lst ws) => some ws
    | some (.dct kvs) => some (kvs.map (·.1))
    | _ => none
  | _ => none
def listW (ws : List W) (S : Sto) : R W := match ws with
  | [w] => match itemsO S w with
    | some us => .ok (.loc S.length) (S ++ [.lst us])
    | none => .no
  | _ => .no
def rListW (K : PySem.W.Frag) : List V → Hp → VK → Prop := fun xs H Q => (∃ p ys, xs = [.ref p] ∧ (SqL K H p ys ∨ SqT K H p ys) ∧ ∀ l, H l = none → Q (.ref l) (upd H l (.lst ys))) ∨
  ∃ (a : Addr) (kvs : List (Key × V)), xs = [.ref a] ∧ Rd H a (.dK kvs) ∧ ∀ p, H p = none → Q (.ref p) (upd H p (.lst (kvs.map fun kv => kV kv.1)))
theorem call_listW (hc : X.calm = true) : CallR X (.type "list") (rListW X.K) := call_list_of.or (call_listD hc)
theorem snd_list : SndL X Z (rListW X.K) listW := by
  intro f H st S ws vs Q s r p
  unfold listW at p
  split at p
  · rename_i w
    obtain ⟨v, rfl, h⟩ := r.oneE
    split at p
    · rename_i us e
      unfold itemsO at e
      split at e
      · cases e
        obtain ⟨a, vs, rfl, q, r⟩ := h.tupE
        exact .inl ⟨a, vs, rfl, .inr (SqT.of q), fun l hl => p.newL s r hl⟩
      · cases e
        obtain ⟨a, vs, o, rfl, q, _, r⟩ := h.ptpE
        exact .inl ⟨a, vs, rfl, .inr (SqT.frz q), fun l hl => p.newL s r hl⟩
      · cases e
        obtain ⟨a, vs, rfl, q, r⟩ := h.rolE
        exact .inl ⟨a, vs, rfl, .inl q.seq, fun l hl => p.newL s r hl⟩
      · split at e
        · rename_i e0
          cases e
          obtain ⟨a, vs, rfl, _, q, r⟩ := lstAt s h e0
          exact .inl ⟨a, vs, rfl, .inl (SqL.of q), fun l hl => p.newL s r hl⟩
        · rename_i e0
          cases e
          obtain ⟨a, vs, rfl, _, q, r⟩ := dctAt s h e0
          exact .inr ⟨a, vs, rfl, .inl q, fun l hl => p.newL s r.keys hl⟩
        · cases e
      · cases e
    · exact p.elim
  · exact p.elim
def tupleW (ws : List W) (S : Sto) : R W := match ws with
  | [.tup us] => .ok (.tup us) S
  | [w] => match getL S w with
    | some us => .ok (.tup us) S
    | none => .no
  | _ => .no
theorem snd_tuple : SndL X Z (fun xs H Q => ∃ p ys, xs = [.ref p] ∧ ((SqL X.K H p ys ∧ ∀ l, H l = none → Q (.ref l) (upd H l (.tup ys))) ∨ (SqT X.K H p ys ∧ Q (.ref p) H))) tupleW := by
  intro f H st S ws vs Q s r p
  unfold tupleW at p
  split at p
  · obtain ⟨v, rfl, h⟩ := r.oneE
    obtain ⟨a, vs, rfl, q, r⟩ := h.tupE
    exact ⟨a, vs, rfl, .inr ⟨SqT.of q, p.fin s (.tup' q r)⟩⟩
  · obtain ⟨v, rfl, h⟩ := r.oneE
    split at p
    · rename_i us e
      obtain ⟨a, vs, rfl, q, r⟩ := getL_at s h e
      exact ⟨a, vs, rfl, .inl ⟨q, fun l hl => p.newT s r hl⟩⟩
    · exact p.elim
  · exact p.elim
/-! max, min of two intsOf; int; abs -/
def max2W (ws : List W) (S : Sto) : R W := match ws with
  | [.int i, .int j] => .ok (.int (if j > i then j else i)) S
  | _ => .no
def min2W (ws : List W) (S : Sto) : R W := match ws with
  | [.int i, .int j] => .ok (.int (if j < i then j else i)) S
  | _ => .no
theorem snd_max2 : SndL X Z (fun xs H Q => ∃ i j, xs = [.int i, .int j] ∧ Q (.int (if j > i then j else i)) H) max2W := by
  intro f H st S ws vs Q s r p
  unfold max2W at p
  split at p
  · obtain ⟨v, v', rfl, h, h'⟩ := r.twoE
    rw [h.intE, h'.intE]
    exact ⟨_, _, rfl, p.fin s Rp.int'⟩
  · exact p.elim
theorem snd_min2 : SndL X Z (fun xs H Q => ∃ i j, xs = [.int i, .int j] ∧ Q (.int (if j < i then j else i)) H) min2W := by
  intro f H st S ws vs Q s r p
  unfold min2W at p
  split at p
  · obtain ⟨v, v', rfl, h, h'⟩ := r.twoE
    rw [h.intE, h'.intE]
    exact ⟨_, _, rfl, p.fin s Rp.int'⟩
  · exact p.elim
def intW (ws : List W) (S : Sto) : R W := match ws with
  | [.int i] => .ok (.int i) S
  | [.bl k] => .ok (.int (if k then 1 else 0)) S
  | _ => .no
theorem snd_int : SndL X Z (fun xs H Q => (∃ i, xs = [.int i] ∧ Q (.int i) H) ∨ ∃ k, xs = [.bl k] ∧ Q (.int (if k then 1 else 0)) H) intW := by
  intro f H st S ws vs Q s r p
  unfold intW at p
  split at p
  · obtain ⟨v, rfl, h⟩ := r.oneE
    rw [h.intE]
    exact .inl ⟨_, rfl, p.fin s Rp.int'⟩
  · obtain ⟨v, rfl, h⟩ := r.oneE
    rw [h.blE]
    exact .inr ⟨_, rfl, p.fin s Rp.int'⟩
  · exact p.elim
/-! all, any, sum, max, min of a list -/
def boolsOf : List W → Option (List Bool)
  | [] => some []
  | .bl b :: ws => (boolsOf ws).map (b :: ·)
  | _ :: _ => none
def intsOf : List W → Option (List Int)
  | [] => some []
  | .int i :: ws => (intsOf ws).map (i :: ·)
  | _ :: _ => none
def strsOf : List W → Option (List Str)
  | [] => some []
  | .str i :: ws => (strsOf ws).map (i :: ·)
  | _ :: _ => none
theorem boolsOf_ok {f : List Addr} {H : Hp} : ∀ {ws : List W} {vs : List V} {bs : List Bool}, Rpl X.K X.mg f H ws vs → boolsOf ws = some bs → vs = bs.map V.bl
  | [], vs, bs, h, e => by unfold Rpl at h; subst h; cases e; rfl
  | w :: ws, vs, bs, h, e => by
    unfold Rpl at h
    obtain ⟨v, t, rfl, q, z⟩ := h
    cases w <;> try (cases e; done)
    unfold boolsOf at e
    obtain ⟨r, e1, rfl⟩ := Option.map_eq_some_iff.mp e
    rw [q.blE, boolsOf_ok z e1]; rfl
theorem intsOf_ok {f : List Addr} {H : Hp} : ∀ {ws : List W} {vs : List V} {bs : List Int}, Rpl X.K X.mg f H ws vs → intsOf ws = some bs → vs = bs.map V.int
  | [], vs, bs, h, e => by unfold Rpl at h; subst h; cases e; rfl
  | w :: ws, vs, bs, h, e => by
    unfold Rpl at h
    obtain ⟨v, t, rfl, q, z⟩ := h
    cases w <;> try (cases e; done)
    unfold intsOf at e
    obtain ⟨r, e1, rfl⟩ := Option.map_eq_some_iff.mp e
    rw [q.intE, intsOf_ok z e1]; rfl
theorem strsOf_ok {f : List Addr} {H : Hp} : ∀ {ws : List W} {vs : List V} {bs : List Str}, Rpl X.K X.mg f H ws vs → strsOf ws = some bs → vs = bs.map V.str
  | [], vs, bs, h, e => by unfold Rpl at h; subst h; cases e; rfl
  | w :: ws, vs, bs, h, e => by
    unfold Rpl at h
    obtain ⟨v, t, rfl, q, z⟩ := h
    cases w <;> try (cases e; done)
    unfold strsOf at e
    obtain ⟨r, e1, rfl⟩ := Option.map_eq_some_iff.mp e
    rw [q.strE, strsOf_ok z e1]; rfl
def allW (ws : List W) (S : Sto) : R W := match ws with
  | [w] => match getL S w with
    | some us => match boolsOf us with
      | some bs => .ok (.bl (bs.all id)) S
      | none => .no
    | none => .no
  | _ => .no
def anyW (ws : List W) (S : Sto) : R W := match ws with
  | [w] => match getL S w with
    | some us => match boolsOf us with
      | some bs => .ok (.bl (bs.any id)) S
      | none => .no
    | none => .no
  | _ => .no
def sumW (ws : List W) (S : Sto) : R W := match ws with
  | [w] => match getL S w with
    | some us => match intsOf us with
      | some bs => .ok (.int bs.sum) S
      | none => .no
    | none => .no
  | _ => .no
theorem snd_all : SndL X Z (rAll X.K) allW := by
  intro f H st S ws vs Q s r p
  unfold allW at p
  split at p
  · obtain ⟨v, rfl, h⟩ := r.oneE
    split at p
    · rename_i us e
      split at p
      · rename_i bs e1
        obtain ⟨a, vs, rfl, q, r⟩ := getL_at s h e
        rw [boolsOf_ok r e1] at q
        exact ⟨a, bs, rfl, q, p.fin s Rp.bl'⟩
      · exact p.elim
    · exact p.elim
  · exact p.elim
theorem snd_any : SndL X Z (rAny X.K) anyW := by
  intro f H st S ws vs Q s r p
  unfold anyW at p
  split at p
  · obtain ⟨v, rfl, h⟩ := r.oneE
    split at p
    · rename_i us e
      split at p
      · rename_i bs e1
        obtain ⟨a, vs, rfl, q, r⟩ := getL_at s h e
        rw [boolsOf_ok r e1] at q
        exact ⟨a, bs, rfl, q, p.fin s Rp.bl'⟩
      · exact p.elim
    · exact p.elim
  · exact p.elim
theorem snd_sum : SndL X Z (rSum X.K) sumW := by
  intro f H st S ws vs Q s r p
  unfold sumW at p
  split at p
  · obtain ⟨v, rfl, h⟩ := r.oneE
    split at p
    · rename_i us e
      split at p
      · rename_i bs e1
        obtain ⟨a, vs, rfl, q, r⟩ := getL_at s h e
        rw [intsOf_ok r e1] at q
        exact ⟨a, bs, rfl, q, p.fin s Rp.int'⟩
      · exact p.elim
    · exact p.elim
  · exact p.elim
/-! isinstance -/
def tyO (S : Sto) : W → Option String
  | .non => some "NoneType"
  | .bl _ => some "bool"
  | .int _ => some "int"
  | .str _ => some "str"
  | .tup _ => some "tuple"
  | .ptp _ => some "tuple"
  | .loc n => match S[n]? with
    | some (.lst _) => some "list"
    | some (.dct _) => some "dict"
    | _ => none
  | _ => none
def isiW (ws : List W) (S : Sto) : R W := match ws with
  | [w, .ty c] => match tyO S w with
    | some t => match kitB t c with
      | some b => .ok (.bl b) S
      | none => .no
    | none => .no
  | [w, .tup cs] => match tyO S w with
    | some t => match cs with
      | [.ty c1, .ty c2] => match kitB t c1, kitB t c2 with
        | some b1, some b2 => .ok (.bl (b1 || b2)) S
        | _, _ => .no
      | _ => .no
    | none => .no
  | _ => .no
end
end Ev

set_option Elab.async false
set_option linter.all false
set_option maxRecDepth 100000
/-! Ev5: isinstance, methods of lists, texts, dicts; dict(..); stores. -/
namespace Ev
open PySem L2
section
variable {X : Cx} {Z : WX}
theorem ty_ok {f : List Addr} {H : Hp} {S : Sto} {w : W} {v : V} {t : String} (s : RelS X.K X.mg f H S) (h : Rp X.K X.mg f H w v) (e : tyO S w = some t) : TyX X.K H v (.type t) := by
  cases w with
  | non => cases e; rw [h.nonE]; exact .base .non
  | bl b => cases e; rw [h.blE]; exact .base (.bl b)
  | int b => cases e; rw [h.intE]; exact .base (.int b)
  | str b => cases e; rw [h.strE]; exact .base (.str b)
  | tup ws =>
    cases e
    obtain ⟨a, vs, rfl, q, r⟩ := h.tupE
    exact .base (.tup q)
  | ptp ws =>
    cases e
    obtain ⟨a, vs, o, rfl, q, _, r⟩ := h.ptpE
    exact .fTuple q
  | loc n =>
    unfold tyO at e
    dsimp only at e
    split at e
    · rename_i e0
      cases e
      obtain ⟨a, vs, rfl, _, q, r⟩ := lstAt s h e0
      exact .base (.lst q)
    · rename_i e0
      cases e
      obtain ⟨a, vs, rfl, _, q, r⟩ := dctAt s h e0
      exact .base (.dK q)
    · cases e
  | _ => cases e
def rIsiW (K : PySem.W.Frag) : List V → Hp → VK → Prop := fun xs H Q => rIsi K xs H Q ∨ rIsiT K xs H Q
theorem call_isiW : CallR X (.builtin "isinstance") (rIsiW X.K) := call_isi.or call_isiT
theorem kit_or {K : PySem.W.Frag} {t : Value} {a b : String} {x y : Bool} (h1 : PySem.W.kitOne K t (.type a) = some x) (h2 : PySem.W.kitOne K t (.type b) = some y) : PySem.W.kitAny K t [.type a, .type b] = some (x || y) := by
  unfold PySem.W.kitAny
  rw [h1]
  cases x with
  | true => rfl
  | false =>
    show PySem.W.kitAny K t [.type b] = some (false || y)
    unfold PySem.W.kitAny
    rw [h2]
    cases y <;> rfl
theorem snd_isi : SndL X Z (rIsiW X.K) isiW := by
  intro f H st S ws vs Q s r p
  unfold isiW at p
  split at p
  · obtain ⟨v, v', rfl, h, h'⟩ := r.twoE
    split at p
    · rename_i t e
      split at p
      · rename_i b e1
        rw [h'.tyE]
        exact .inl ⟨_, _, _, _, b, rfl, .ty _, ty_ok s h e, kit_ty e1, p.fin s Rp.bl'⟩
      · exact p.elim
    · exact p.elim
  · obtain ⟨v, v', rfl, h, h'⟩ := r.twoE
    split at p
    · rename_i t e
      split at p
      · split at p
        · rename_i b1 b2 e1 e2
          obtain ⟨a, us, rfl, q, r⟩ := h'.tupE
          obtain ⟨u1, u2, rfl, h1, h2⟩ := r.twoE
          rw [h1.tyE, h2.tyE] at q
          exact .inr ⟨_, a, _, _, _, _, rfl, q, .cons (.ty _) (.cons (.ty _) .nil), ty_ok s h e, kit_or (kit_ty e1) (kit_ty e2), p.fin s Rp.bl'⟩
        · exact p.elim
      · exact p.elim
    · exact p.elim
  · exact p.elim

/-! ### methods of built-in types -/
def tyOkW (T : String) (w : W) (S : Sto) : Bool := match w with
  | .str _ => T == "str"
  | .rol _ => T == "list"
  | .loc n => match S[n]? with
    | some (.lst _) => T == "list"
    | some (.dct _) => T == "dict"
    | some (.tct _) => T == "dict"
    | _ => false
  | _ => false
theorem tyOk_ok {f : List Addr} {H : Hp} {S : Sto} {w : W} {v : V} {T : String} (s : RelS X.K X.mg f H S) (h : Rp X.K X.mg f H w v) (e : tyOkW T w S = true) : tyV X.K T v H := by
  cases w with
  | str b => rw [h.strE]; exact beq_iff_eq.mp e
  | rol ws =>
    obtain ⟨a, vs, rfl, q, r⟩ := h.rolE
    exact .inl ⟨beq_iff_eq.mp e, vs, q.seq⟩
  | loc n =>
    unfold tyOkW at e
    dsimp only at e
    split at e
    · rename_i e0
      obtain ⟨a, vs, rfl, _, q, r⟩ := lstAt s h e0
      exact .inl ⟨beq_iff_eq.mp e, vs, SqL.of q⟩
    · rename_i e0
      obtain ⟨a, vs, rfl, _, q, r⟩ := dctAt s h e0
      exact .inr (.inr (.inl ⟨beq_iff_eq.mp e, .inl ⟨vs, q⟩⟩))
    · rename_i e0
      obtain ⟨a, vs, rfl, _, q, r⟩ := tctAt s h e0
      exact .inr (.inr (.inl ⟨beq_iff_eq.mp e, .inr ⟨vs, q⟩⟩))
    · cases e
  | _ => cases e
def eM (T : String) (F : W → List W → Sto → R W) (a : EV) (r : AV) : EV := fun s S => (a s S).bind fun x S => if tyOkW T x S = true then (r s S).bind fun xs S => F x xs S else .no
def SndM (X : Cx) (Z : WX) (r : V → List V → Hp → VK → Prop) (F : W → List W → Sto → R W) : Prop := ∀ {f H st S w v ws vs Q}, RelS X.K X.mg f H S → Rp X.K X.mg f H w v → Rpl X.K X.mg f H ws vs → post X Z (Rp X.K X.mg) st f H (F w ws S) Q → r v vs H Q
theorem e_bm {o e : Expr} {es : List Expr} {name : Str} {apos cpos : Pos} {T id : String} {r : V → List V → Hp → VK → Prop} {F : W → List W → Sto → R W} {mo : EV} {mr : AV}
    (pa : PlainAttrs T) (slot : Slot T name id) (hty : typeOf (.builtin id) = pure (.type "method_descriptor")) (hm : MtR X id r) (hF : SndM X Z r F) (ho : PE X o (tI X Z mo)) (ha : PA X (e :: es) (tA X Z mr))
    (hbase : attributeBase o name X.env (eval o X.env) = eval o X.env := by rfl)
    (hfew : ((backTo cpos (starEach (e :: es) X.env)).all (fun x => !x.1) && (backToKw cpos (keywordEach [] X.env)).all (fun x => x.1.isSome)
      && decide ((e :: es).length + ([] : List Keyword).length + (if ([] : List Keyword).isEmpty then 0 else 1) < 30)) = true := by rfl)
    (hline : (apos.endLine == cpos.line) = true := by rfl) (hs : starEach (e :: es) X.env = (false, eval e X.env) :: starEach es X.env := by rfl) (hplain : (backTo cpos (starEach es X.env)).any (·.1) = false := by rfl) :
    PE X (.Call (.Attribute o name apos) (e :: es) [] cpos) (tI X Z (eM T F mo mr)) := by
  refine (pe_bm pa slot hty hm ho ha hbase hfew hline hs hplain).imp ?_
  rintro st H Q ⟨f, s, S, hE, hS, hp⟩
  refine ⟨f, s, S, hE, hS, hp.seq fun f1 H1 w1 S1 v1 k1 s1 p1 hp1 => ?_⟩
  split at hp1
  · rename_i z
    exact ⟨tyOk_ok s1 p1 z, f1, s, S1, hE.mono k1, s1, hp1.seq fun f2 H2 w2 S2 v2 k2 s2 p2 hp2 => hF s2 (p1.mono k2) p2 hp2⟩
  · exact hp1.elim
theorem e_bm0 {o : Expr} {name : Str} {apos cpos : Pos} {T id : String} {r : V → List V → Hp → VK → Prop} {F : W → List W → Sto → R W} {mo : EV}
    (pa : PlainAttrs T) (slot : Slot T name id) (hty : typeOf (.builtin id) = pure (.type "method_descriptor")) (hm : MtR X id r) (hF : SndM X Z r F) (ho : PE X o (tI X Z mo))
    (hbase : attributeBase o name X.env (eval o X.env) = eval o X.env := by rfl) (hline : (apos.endLine == cpos.line) = true := by rfl) : PE X (.Call (.Attribute o name apos) [] [] cpos) (tI X Z (eM T F mo aNil)) := by
  refine (pe_bm0 pa slot hty hm ho hbase hline).imp ?_
  rintro st H Q ⟨f, s, S, hE, hS, hp⟩
  refine ⟨f, s, S, hE, hS, hp.seq fun f1 H1 w1 S1 v1 k1 s1 p1 hp1 => ?_⟩
  split at hp1
  · rename_i z
    exact ⟨tyOk_ok s1 p1 z, hF s1 p1 Rpl.nil hp1⟩
  · exact hp1.elim
/-- a list is rewritten -/
theorem post.updL {st : St} {f : List Addr} {H : Hp} {S : Sto} {n : Nat} {a : Addr} {w : W} {v : V} {ws : List W} {vs : List V} {Q : VK} (h : post X Z (Rp X.K X.mg) st f H (.ok w (S.set n (.lst ws))) Q) (s : RelS X.K X.mg f H S) (ha : f[n]? = some a) {us0 : List V} (hq0 : H a = some (.lst us0))
    (r : Rpl X.K X.mg f H ws vs) (rw' : Rp X.K X.mg f H w v) : Q v (upd H a (.lst vs)) := by
  have k : Kp f H f (upd H a (.lst vs)) := s.kpUpd (List.mem_of_getElem? ha) (fun _ _ z => by rw [hq0] at z; cases z) _
  exact h f _ _ k (s.upd ha (fun _ _ z => by rw [hq0] at z; cases z) ⟨vs, upd_same, r.mono k⟩) (rw'.mono k)
theorem post.updD {st : St} {f : List Addr} {H : Hp} {S : Sto} {n : Nat} {a : Addr} {w : W} {v : V} {ws : List (W × W)} {vs : List (Key × V)} {Q : VK} (h : post X Z (Rp X.K X.mg) st f H (.ok w (S.set n (.dct ws))) Q) (s : RelS X.K X.mg f H S) (ha : f[n]? = some a) {us0 : List (Key × V)} (hq0 : H a = some (.dK us0))
    (r : RpK X.K X.mg f H ws vs) (rw' : Rp X.K X.mg f H w v) : Q v (upd H a (.dK vs)) := by
  have k : Kp f H f (upd H a (.dK vs)) := s.kpUpd (List.mem_of_getElem? ha) (fun _ _ z => by rw [hq0] at z; cases z) _
  exact h f _ _ k (s.upd ha (fun _ _ z => by rw [hq0] at z; cases z) ⟨vs, upd_same, r.mono k⟩) (rw'.mono k)
theorem Rpl.dropLast {K : PySem.W.Frag} {mg : Str → Option Value} {f : List Addr} {H : Hp} {ws : List W} {vs : List V} (r : Rpl K mg f H ws vs) : Rpl K mg f H ws.dropLast vs.dropLast := by
  rw [List.dropLast_eq_take, List.dropLast_eq_take, r.length]
  exact r.take _
theorem Rpl.eraseIdx {K : PySem.W.Frag} {mg : Str → Option Value} {f : List Addr} {H : Hp} {ws : List W} {vs : List V} (r : Rpl K mg f H ws vs) (n : Nat) : Rpl K mg f H (ws.eraseIdx n) (vs.eraseIdx n) := by
  rw [List.eraseIdx_eq_take_drop_succ, List.eraseIdx_eq_take_drop_succ]
  exact (r.take _).append (r.drop _)
theorem Rpl.reverse {K : PySem.W.Frag} {mg : Str → Option Value} {f : List Addr} {H : Hp} : ∀ {ws : List W} {vs : List V}, Rpl K mg f H ws vs → Rpl K mg f H ws.reverse vs.reverse
  | [], _, h => by unfold Rpl at h; subst h; exact Rpl.nil
  | w :: ws, _, h => by
    unfold Rpl at h
    obtain ⟨v, t, rfl, q, z⟩ := h
    rw [List.reverse_cons, List.reverse_cons]
    exact (Rpl.reverse z).append (.cons q .nil)
def appendW (x : W) (xs : List W) (S : Sto) : R W := match x, xs with
  | .loc n, [w] => match S[n]? with
    | some (.lst ws) => if ws.length < 1000000 then .ok .non (S.set n (.lst (ws ++ [w]))) else .no
    | _ => .no
  | _, _ => .no
theorem snd_append : SndM X Z rAppend appendW := by
  intro f H st S w v ws vs Q s h r p
  unfold appendW at p
  split at p
  · split at p
    · rename_i e0
      split at p
      · rename_i z
        obtain ⟨a, us, rfl, ha, q, r'⟩ := lstAt s h e0
        obtain ⟨u, rfl, h'⟩ := r.oneE
        exact ⟨a, us, u, rfl, rfl, q, by rw [r'.length, sizeLine_eq]; omega, p.updL s ha q (r'.append (.cons h' .nil)) Rp.non'⟩
      · exact p.elim
    · exact p.elim
  · exact p.elim
def extendW (x : W) (xs : List W) (S : Sto) : R W := match x, xs with
  | .loc n, [.loc m] => match S[n]?, S[m]? with
    | some (.lst ws), some (.lst zs) => if ws.length + zs.length ≤ 1000000 then .ok .non (S.set n (.lst (ws ++ zs))) else .no
    | _, _ => .no
  | _, _ => .no
theorem snd_extend : SndM X Z rExtend extendW := by
  intro f H st S w v ws vs Q s h r p
  unfold extendW at p
  split at p
  · split at p
    · rename_i e0 e1
      split at p
      · rename_i z
        obtain ⟨a, us, rfl, ha, q, r'⟩ := lstAt s h e0
        obtain ⟨u, rfl, h'⟩ := r.oneE
        obtain ⟨b, zs, rfl, _, q2, r2⟩ := lstAt s h' e1
        exact ⟨a, b, us, zs, rfl, rfl, q, q2, by rw [r'.length, r2.length]; exact mill z, p.updL s ha q (r'.append r2) Rp.non'⟩
      · exact p.elim
    · exact p.elim
  · exact p.elim
def popW (x : W) (xs : List W) (S : Sto) : R W := match x, xs with
  | .loc n, [] => match S[n]? with
    | some (.lst ws) => match ws[ws.length - 1]? with
      | some w => .ok w (S.set n (.lst ws.dropLast))
      | none => .no
    | _ => .no
  | _, _ => .no
theorem snd_pop : SndM X Z rPop popW := by
  intro f H st S w v ws vs Q s h r p
  unfold popW at p
  split at p
  · split at p
    · rename_i e0
      split at p
      · rename_i w1 e1
        obtain ⟨a, us, rfl, ha, q, r'⟩ := lstAt s h e0
        obtain ⟨y, e2, ry⟩ := r'.get e1
        have : vs = [] := by have := r.length; simpa using this
        exact ⟨a, us, y, rfl, this, q, by rw [r'.length]; exact e2, p.updL s ha q r'.dropLast ry⟩
      · exact p.elim
    · exact p.elim
  · exact p.elim
def popAtW (x : W) (xs : List W) (S : Sto) : R W := match x, xs with
  | .loc n, [.int i] => match S[n]? with
    | some (.lst ws) => if 0 ≤ i ∧ i < ws.length ∧ i < 1000000 then (match ws[i.toNat]? with
      | some w => .ok w (S.set n (.lst (ws.eraseIdx i.toNat)))
      | none => .no) else .no
    | _ => .no
  | _, _ => .no
theorem snd_popAt : SndM X Z rPopAt popAtW := by
  intro f H st S w v ws vs Q s h r p
  unfold popAtW at p
  split at p
  · split at p
    · rename_i e0
      split at p
      · rename_i z
        split at p
        · rename_i w1 e1
          obtain ⟨a, us, rfl, ha, q, r'⟩ := lstAt s h e0
          obtain ⟨u, rfl, h'⟩ := r.oneE
          obtain ⟨y, e2, ry⟩ := r'.get e1
          refine ⟨a, us, _, _, y, rfl, by rw [h'.intE], q, by omega, by omega, ?_, e2, p.updL s ha q (r'.eraseIdx _) ry⟩
          rw [r'.length]
          unfold seqIndex?
          first
            | (simp [z.1, z.2.1]; done)
            | (simp; omega)
        · exact p.elim
      · exact p.elim
    · exact p.elim
  · exact p.elim
def reverseW (x : W) (xs : List W) (S : Sto) : R W := match x, xs with
  | .loc n, [] => match S[n]? with
    | some (.lst ws) => .ok .non (S.set n (.lst ws.reverse))
    | _ => .no
  | _, _ => .no
theorem snd_reverse : SndM X Z rReverse reverseW := by
  intro f H st S w v ws vs Q s h r p
  unfold reverseW at p
  split at p
  · split at p
    · rename_i e0
      obtain ⟨a, us, rfl, ha, q, r'⟩ := lstAt s h e0
      have : vs = [] := by have := r.length; simpa using this
      exact ⟨a, us, rfl, this, q, p.updL s ha q r'.reverse Rp.non'⟩
    · exact p.elim
  · exact p.elim
def clearW (x : W) (xs : List W) (S : Sto) : R W := match x, xs with
  | .loc n, [] => match S[n]? with
    | some (.lst ws) => .ok .non (S.set n (.lst []))
    | _ => .no
  | _, _ => .no
theorem snd_clear : SndM X Z rClear clearW := by
  intro f H st S w v ws vs Q s h r p
  unfold clearW at p
  split at p
  · split at p
    · rename_i e0
      obtain ⟨a, us, rfl, ha, q, r'⟩ := lstAt s h e0
      have : vs = [] := by have := r.length; simpa using this
      exact ⟨a, us, rfl, this, q, p.updL s ha q Rpl.nil Rp.non'⟩
    · exact p.elim
  · exact p.elim
/-! texts -/
def joinW (x : W) (xs : List W) (S : Sto) : R W := match x, xs with
  | .str a, [w] => match getL S w with
    | some us => match strsOf us with
      | some ys => if (ys.map (·.length)).sum + ys.length * a.length ≤ 1000000 then .ok (.str (Txt.join a ys)) S else .no
      | none => .no
    | none => .no
  | _, _ => .no
abbrev rJoin (K : PySem.W.Frag) : V → List V → Hp → VK → Prop := fun x xs H Q => ∃ a p, ∃ ys : List Str, x = .str a ∧ xs = [.ref p] ∧ (SqL K H p (ys.map V.str) ∨ SqT K H p (ys.map V.str)) ∧ (ys.map (·.length)).sum + ys.length * a.length ≤ 16777216 ∧ Q (.str (Txt.join a ys)) H
theorem snd_join : SndM X Z (rJoin X.K) joinW := by
  intro f H st S w v ws vs Q s h r p
  unfold joinW at p
  split at p
  · split at p
    · rename_i us e
      split at p
      · rename_i ys e1
        split at p
        · rename_i z
          obtain ⟨u, rfl, h'⟩ := r.oneE
          obtain ⟨a, vs, rfl, q, r⟩ := getL_at s h' e
          rw [strsOf_ok r e1] at q
          exact ⟨_, a, ys, h.strE, rfl, .inl q, by omega, p.fin s Rp.str'⟩
        · exact p.elim
      · exact p.elim
    · exact p.elim
  · exact p.elim
def sindexW (x : W) (xs : List W) (S : Sto) : R W := match x, xs with
  | .str a, [.str b] => match Builtin.Str.occurrences a b 0 a.length 1 with
    | i :: _ => .ok (.int (i : Nat)) S
    | [] => .no
  | _, _ => .no
theorem snd_sindex : SndM X Z (fun x xs H Q => ∃ a b i rest, x = .str a ∧ xs = [.str b] ∧ Builtin.Str.occurrences a b 0 a.length 1 = i :: rest ∧ Q (.int (i : Nat)) H) sindexW := by
  intro f H st S w v ws vs Q s h r p
  unfold sindexW at p
  split at p
  · split at p
    · rename_i e
      obtain ⟨u, rfl, h'⟩ := r.oneE
      exact ⟨_, _, _, _, h.strE, by rw [h'.strE], e, p.fin s Rp.int'⟩
    · exact p.elim
  · exact p.elim
/-! dicts -/
def rGet1 : V → List V → Hp → VK → Prop := fun x xs H Q => ∃ a y o, x = .ref a ∧ xs = [y] ∧ DGet H a y o ∧ Q (o.getD .non) H
theorem mt_get1 (hu : X.A.units + 1 < cLine) : MtR X "dict.get" rGet1 := by
  intro pins s st H x xs v us Q I rx rxs h
  obtain ⟨a, y, o, rfl, rfl, g, q⟩ := h
  obtain rfl : v = Value.ref a := rx
  cases rxs with
  | cons ry rt =>
    cases rt
    exact d_get1 hu I g ry fun w' s3 I3 rw' => ⟨_, H, I3, rw', q⟩
def rGet2 : V → List V → Hp → VK → Prop := fun x xs H Q => ∃ a y d o, x = .ref a ∧ xs = [y, d] ∧ DGet H a y o ∧ Q (o.getD d) H
theorem mt_get2 (hu : X.A.units + 1 < cLine) : MtR X "dict.get" rGet2 := by
  intro pins s st H x xs v us Q I rx rxs h
  obtain ⟨a, y, d, o, rfl, rfl, g, q⟩ := h
  obtain rfl : v = Value.ref a := rx
  cases rxs with
  | cons ry rt =>
    cases rt with
    | cons rd rt =>
      cases rt
      exact d_get2 hu I g ry rd fun w' s3 I3 rw' => ⟨_, H, I3, rw', q⟩
def getW (x : W) (xs : List W) (S : Sto) : R W := match x, xs with
  | .loc n, [k] => match S[n]? with
    | some (.dct kvs) => match W.key? k with
      | some q => .ok ((dlook kvs q).getD .non) S
      | none => .no
    | some (.tct kvs) => match W.tkey? k with
      | some q => .ok ((tlook kvs q).getD .non) S
      | none => .no
    | _ => .no
  | .loc n, [k, d] => match S[n]? with
    | some (.dct kvs) => match W.key? k with
      | some q => .ok ((dlook kvs q).getD d) S
      | none => .no
    | _ => .no
  | _, _ => .no
def rGetW : V → List V → Hp → VK → Prop := fun x xs H Q => rGet1 x xs H Q ∨ rGet2 x xs H Q
theorem mt_get (hu : X.A.units + 1 < cLine) : MtR X "dict.get" rGetW := (mt_get1 hu).or (mt_get2 hu)
theorem snd_get : SndM X Z rGetW getW := by
  intro f H st S w v ws vs Q s h r p
  unfold getW at p
  split at p
  · split at p
    · rename_i e0
      split at p
      · rename_i q e1
        obtain ⟨a, us, rfl, ha, hq, r'⟩ := dctAt s h e0
        obtain ⟨u, rfl, h'⟩ := r.oneE
        refine .inl ⟨a, u, valV us q, rfl, rfl, by rw [key_ok h' e1]; exact DGet.k hq, ?_⟩
        rcases r'.val q with ⟨z1, z2⟩ | ⟨w2, v2, z1, z2, r2⟩
        · rw [z2]; rw [z1] at p; exact p.fin s Rp.non'
        · rw [z2]; rw [z1] at p; exact p.fin s r2
      · exact p.elim
    · rename_i e0
      split at p
      · rename_i q e1
        obtain ⟨a, us, rfl, ha, hq, r'⟩ := tctAt s h e0
        obtain ⟨u, rfl, h'⟩ := r.oneE
        obtain ⟨b, rfl, hb⟩ := tkey_ok h' e1
        refine .inl ⟨a, .ref b, valV us q, rfl, rfl, DGet.t hq hb, ?_⟩
        rcases r'.val q with ⟨z1, z2⟩ | ⟨w2, v2, z1, z2, r2⟩
        · rw [z2]; rw [z1] at p; exact p.fin s Rp.non'
        · rw [z2]; rw [z1] at p; exact p.fin s r2
      · exact p.elim
    · exact p.elim
  · split at p
    · rename_i e0
      split at p
      · rename_i q e1
        obtain ⟨a, us, rfl, ha, hq, r'⟩ := dctAt s h e0
        obtain ⟨u, u', rfl, h', h2⟩ := r.twoE
        refine .inr ⟨a, u, u', valV us q, rfl, rfl, by rw [key_ok h' e1]; exact DGet.k hq, ?_⟩
        rcases r'.val q with ⟨z1, z2⟩ | ⟨w2, v2, z1, z2, r2⟩
        · rw [z2]; rw [z1] at p; exact p.fin s h2
        · rw [z2]; rw [z1] at p; exact p.fin s r2
      · exact p.elim
    · exact p.elim
  · exact p.elim
/-! {} -/
def dnewW : EV := fun _ S => .ok (.loc S.length) (S ++ [.dct []])
theorem e_dnew {pos : Pos} : PE X (.Dict [] [] pos) (tI X Z dnewW) := by
  refine pe_dnewK.imp ?_
  rintro st H Q ⟨f, s, S, hE, hS, hp⟩
  intro p hn
  have k : Kp f H (f ++ [p]) (upd H p (.dK [])) := hS.kpNew hn _
  refine hp _ _ _ k (hS.new hn ⟨[], upd_same, by unfold RpK; rfl⟩) ?_
  unfold Rp
  exact ⟨p, rfl, at_new hS⟩
def dnewT : EV := fun _ S => .ok (.loc S.length) (S ++ [.tct []])
theorem e_dnewT {pos : Pos} : PE X (.Dict [] [] pos) (tI X Z dnewT) := by
  refine pe_dnewT.imp ?_
  rintro st H Q ⟨f, s, S, hE, hS, hp⟩
  intro p hn
  have k : Kp f H (f ++ [p]) (upd H p (.dT [])) := hS.kpNew hn _
  refine hp _ _ _ k (hS.new hn ⟨[], upd_same, by unfold RpT; rfl⟩) ?_
  unfold Rp
  exact ⟨p, rfl, at_new hS⟩
/-! dict(xs) of pairs, dict(d) -/
def pairsOf : List W → Option (List (W × Key × W))
  | [] => some []
  | .tup [k, w] :: ws => match W.key? k with
    | some q => (pairsOf ws).map ((k, q, w) :: ·)
    | none => none
  | _ :: _ => none
def dmerge (kvs : List (W × W)) (more : List (W × Key × W)) : List (W × W) := more.foldl (fun acc p => dput acc p.1 p.2.1 p.2.2) kvs
def dictW (ws : List W) (S : Sto) : R W := match ws with
  | [.loc n] => match S[n]? with
    | some (.lst us) => match pairsOf us with
      | some ps => .ok (.loc S.length) (S ++ [.dct (dmerge [] ps)])
      | none => .no
    | some (.dct kvs) => .ok (.loc S.length) (S ++ [.dct kvs])
    | _ => .no
  | _ => .no
def rDictP (K : PySem.W.Frag) : List V → Hp → VK → Prop := fun xs H Q => ∃ (a : Addr) (ps : List Addr) (kvs : List (Key × V)), xs = [.ref a] ∧ SqL K H a (ps.map V.ref) ∧ Paired (fun p kv => SqT K H p [kV kv.1, kv.2]) ps kvs ∧
    ∀ p, H p = none → Q (.ref p) (upd H p (.dK (mergeK [] kvs)))
def rDictW (K : PySem.W.Frag) : List V → Hp → VK → Prop := fun xs H Q => rDictP K xs H Q ∨ ∃ (a : Addr) (kvs : List (Key × V)), xs = [.ref a] ∧ Rd H a (.dK kvs) ∧ ∀ p, H p = none → Q (.ref p) (upd H p (.dK kvs))
theorem call_dictW (hc : X.calm = true) : CallR X (.type "dict") (rDictW X.K) := (call_dictP hc).or call_dictD
theorem pairs_ok {f : List Addr} {H : Hp} : ∀ {us : List W} {vs : List V} {ps : List (W × Key × W)}, Rpl X.K X.mg f H us vs → pairsOf us = some ps →
    ∃ (as : List Addr) (kvs : List (Key × V)), vs = as.map V.ref ∧ Paired (fun p kv => SqT X.K H p [kV kv.1, kv.2]) as kvs ∧ Paired (fun (p : W × Key × W) (kv : Key × V) => p.2.1 = kv.1 ∧ W.key? p.1 = some p.2.1 ∧ Rp X.K X.mg f H p.2.2 kv.2) ps kvs
  | [], vs, ps, h, e => by unfold Rpl at h; subst h; cases e; exact ⟨[], [], rfl, .nil, .nil⟩
  | w :: us, vs, ps, h, e => by
    unfold Rpl at h
    obtain ⟨v, t, rfl, q, z⟩ := h
    unfold pairsOf at e
    split at e
    · rename_i e'; cases e'
    · rename_i k w1 ws' e0
      cases e0
      split at e
      · rename_i kk e1
        obtain ⟨r, e2, rfl⟩ := Option.map_eq_some_iff.mp e
        obtain ⟨a, us', rfl, hq, hr⟩ := q.tupE
        obtain ⟨v1, v2, rfl, h1, h2⟩ := hr.twoE
        obtain ⟨as, kvs, e3, p1, p2⟩ := pairs_ok z e2
        refine ⟨a :: as, (kk, v2) :: kvs, by rw [e3]; rfl, .cons ?_ p1, .cons ⟨rfl, e1, h2⟩ p2⟩
        rw [key_ok h1 e1] at hq
        exact SqT.of hq
      · cases e
    · cases e
theorem merge_ok {f : List Addr} {H : Hp} : ∀ {ps : List (W × Key × W)} {kvs : List (Key × V)}, Paired (fun (p : W × Key × W) (kv : Key × V) => p.2.1 = kv.1 ∧ W.key? p.1 = some p.2.1 ∧ Rp X.K X.mg f H p.2.2 kv.2) ps kvs →
    ∀ {acc : List (W × W)} {vs : List (Key × V)}, RpK X.K X.mg f H acc vs → RpK X.K X.mg f H (dmerge acc ps) (mergeK vs kvs)
  | [], _, .nil, _, _, h => h
  | p :: ps, _, .cons (b := kv) hp r, acc, vs, h => by
    obtain ⟨e1, e2, e3⟩ := hp
    show RpK X.K X.mg f H (dmerge (dput acc p.1 p.2.1 p.2.2) ps) (mergeK (putK vs kv.1 kv.2) _)
    rw [← e1]
    exact merge_ok r (RpK.put e2 e3 h)
theorem post.newD {st : St} {f : List Addr} {H : Hp} {S : Sto} {ws : List (W × W)} {vs : List (Key × V)} {Q : VK} (h : post X Z (Rp X.K X.mg) st f H (.ok (.loc S.length) (S ++ [.dct ws])) Q) (s : RelS X.K X.mg f H S) (r : RpK X.K X.mg f H ws vs) {p : Addr} (hp : H p = none) : Q (.ref p) (upd H p (.dK vs)) := by
  have k : Kp f H (f ++ [p]) (upd H p (.dK vs)) := s.kpNew hp _
  refine h _ _ _ k (s.new hp ⟨vs, upd_same, r.mono k⟩) ?_
  unfold Rp
  exact ⟨p, rfl, at_new s⟩
theorem snd_dict : SndL X Z (rDictW X.K) dictW := by
  intro f H st S ws vs Q s r p
  unfold dictW at p
  split at p
  · obtain ⟨v, rfl, h⟩ := r.oneE
    split at p
    · rename_i us e0
      split at p
      · rename_i ps e1
        obtain ⟨a, vs, rfl, _, q, r⟩ := lstAt s h e0
        obtain ⟨as, kvs, rfl, p1, p2⟩ := pairs_ok r e1
        exact .inl ⟨a, as, kvs, rfl, SqL.of q, p1, fun b hb => p.newD s (merge_ok p2 (by unfold RpK; rfl)) hb⟩
      · exact p.elim
    · rename_i kvs e0
      obtain ⟨a, vs, rfl, _, q, r⟩ := dctAt s h e0
      exact .inr ⟨a, vs, rfl, .inl q, fun b hb => p.newD s r hb⟩
    · exact p.elim
  · exact p.elim
end
end Ev

set_option Elab.async false
set_option linter.all false
set_option maxRecDepth 100000
/-! Ev6: statements, targets, what is walked, loops, comprehensions. -/
namespace Ev
open PySem L2

inductive RS where
  | nx (s : En) (S : Sto) | rt (w : W) (S : Sto) | bk (s : En) (S : Sto) | ct (s : En) (S : Sto) | ex (e : Xn) (s : En) (S : Sto) | no
abbrev SV := En → Sto → RS
def postS (X : Cx) (Z : WX) (f : List Addr) (H : Hp) (r : RS) (D : Ends) : Prop :=
  match r with
  | .nx s S => ∀ f' H' st, Kp f H f' H' → RelS X.K X.mg f' H' S → RelE X.K X.mg f' H' s st → D.nx st H'
  | .rt w S => ∀ f' H' v, Kp f H f' H' → RelS X.K X.mg f' H' S → Rp X.K X.mg f' H' w v → D.rt v H'
  | .bk s S => ∀ f' H' st, Kp f H f' H' → RelS X.K X.mg f' H' S → RelE X.K X.mg f' H' s st → D.bk st H'
  | .ct s S => ∀ f' H' st, Kp f H f' H' → RelS X.K X.mg f' H' S → RelE X.K X.mg f' H' s st → D.ct st H'
  | .ex e s S => ∀ f' H' st c d, Kp f H f' H' → RelS X.K X.mg f' H' S → RelE X.K X.mg f' H' s st → RelX X.K X.mg f' H' e c d → Z c d st H'
  | .no => False
def tS (X : Cx) (Z : WX) (m : SV) : TS := fun D st H => ∃ f s S, RelE X.K X.mg f H s st ∧ RelS X.K X.mg f H S ∧ postS X Z f H (m s S) D
theorem postS.mono {X : Cx} {Z : WX} {f f1 : List Addr} {H H1 : Hp} {r : RS} {D : Ends} (h : postS X Z f H r D) (k : Kp f H f1 H1) : postS X Z f1 H1 r D := by
  cases r with
  | nx s S => exact fun f' H' b k' => h f' H' b (k.trans k')
  | rt w S => exact fun f' H' b k' => h f' H' b (k.trans k')
  | bk s S => exact fun f' H' b k' => h f' H' b (k.trans k')
  | ct s S => exact fun f' H' b k' => h f' H' b (k.trans k')
  | ex e s S => exact fun f' H' st c d k' => h f' H' st c d (k.trans k')
  | no => exact h
def R.toS {A : Type} (r : R A) (s : En) (k : A → Sto → RS) : RS :=
  match r with
  | .ok a S => k a S
  | .ex e S => .ex e s S
  | .no => .no
theorem R.toS_ok {A : Type} (a : A) (S : Sto) (s : En) (k : A → Sto → RS) : R.toS (.ok a S) s k = k a S := rfl
theorem postS.seq {X : Cx} {Z : WX} {A B : Type} {P : Rel3 A B} {f : List Addr} {H : Hp} {r : R A} {s : En} {st : St} {k : A → Sto → RS} {D : Ends} {Q : B → Hp → Prop} (h : postS X Z f H (r.toS s k) D) (hE : RelE X.K X.mg f H s st)
    (hk : ∀ f1 H1 a S1 b, Kp f H f1 H1 → RelS X.K X.mg f1 H1 S1 → RelE X.K X.mg f1 H1 s st → P f1 H1 a b → postS X Z f1 H1 (k a S1) D → Q b H1) : post X Z P st f H r Q := by
  cases r with
  | ok a S => exact fun f' H' b k' s' p' => hk f' H' a S b k' s' (hE.mono k') p' (postS.mono (show postS X Z f H (k a S) D from h) k')
  | ex e S => exact fun f' H' c d k' s' x' => h f' H' st c d k' s' (hE.mono k') x'
  | no => exact h
theorem _root_.L2.PS.imp {X : Cx} {e : Stmt} {t t' : TS} (h : PS X e t) (i : ∀ D st H, t' D st H → t D st H) : PS X e t' := ⟨fun pins s st H Q I q => h.run pins s st H Q I (i _ _ _ q)⟩
theorem _root_.L2.PSs.imp {X : Cx} {e : List Stmt} {t t' : TS} (h : PSs X e t) (i : ∀ D st H, t' D st H → t D st H) : PSs X e t' := ⟨fun pins s st H Q I q => h.run pins s st H Q I (i _ _ _ q)⟩

def sNil : SV := fun s S => .nx s S
def sSeq (a b : SV) : SV := fun s S => match a s S with
  | .nx s S => b s S
  | .rt w S => .rt w S
  | .bk s S => .bk s S
  | .ct s S => .ct s S
  | .ex e s S => .ex e s S
  | .no => .no
def sExpr (m : EV) : SV := fun s S => (m s S).toS s fun _ S => .nx s S
def sRet (m : EV) : SV := fun s S => (m s S).toS s fun w S => .rt w S
def sRetN : SV := fun _ S => .rt .non S
def sIf (c : BV) (a b : SV) : SV := fun s S => (c s S).toS s fun k S => if k = true then a s S else b s S
def sBrk : SV := fun s S => .bk s S
def sCnt : SV := fun s S => .ct s S
def sSet (i : Nat) (m : EV) : SV := fun s S => (m s S).toS s fun w S => .nx (s.set i (some w)) S

section
variable {X : Cx} {Z : WX} {e a b c : Expr} {es : List Expr} {st0 : Stmt} {sts stb : List Stmt} {pos pos' : Pos} {m : EV} {bm : BV} {ms mt : SV}
theorem ss_nil : PSs X [] (tS X Z sNil) := by
  refine pss_nil.imp ?_
  rintro D st H ⟨f, s, S, hE, hS, hp⟩
  exact hp f H st Kp.refl hS hE
theorem seq_ok {t u : TS} (ht : ∀ D st H, tS X Z ms D st H → t D st H) (hu : ∀ D st H, tS X Z mt D st H → u D st H) (D : Ends) (st : St) (H : Hp) (h : tS X Z (sSeq ms mt) D st H) : tSeq t u D st H := by
  obtain ⟨f, s, S, hE, hS, hp⟩ := h
  refine ht _ _ _ ⟨f, s, S, hE, hS, ?_⟩
  unfold sSeq at hp
  cases e : ms s S with
  | nx s1 S1 =>
    rw [e] at hp
    intro f' H' st' k' s' e'
    exact hu _ _ _ ⟨f', s1, S1, e', s', postS.mono (show postS X Z f H (mt s1 S1) D from hp) k'⟩
  | rt w S1 => rw [e] at hp; exact hp
  | bk s1 S1 => rw [e] at hp; exact hp
  | ct s1 S1 => rw [e] at hp; exact hp
  | ex e1 s1 S1 => rw [e] at hp; exact hp
  | no => rw [e] at hp; exact hp
theorem ss_cons (h1 : PS X st0 (tS X Z ms)) (h2 : PSs X sts (tS X Z mt)) : PSs X (st0 :: sts) (tS X Z (sSeq ms mt)) :=
  (pss_cons h1 h2).imp (seq_ok (fun _ _ _ h => h) fun _ _ _ h => h)
theorem ss_one (h1 : PS X st0 (tS X Z ms)) : PSs X [st0] (tS X Z ms) := pss_one h1
theorem s_pass : PS X (.Pass pos) (tS X Z sNil) := by
  refine ps_pass.imp ?_
  rintro D st H ⟨f, s, S, hE, hS, hp⟩
  exact hp f H st Kp.refl hS hE
theorem s_break : PS X (.Break pos) (tS X Z sBrk) := by
  refine ps_break.imp ?_
  rintro D st H ⟨f, s, S, hE, hS, hp⟩
  exact hp f H st Kp.refl hS hE
theorem s_cont : PS X (.Continue pos) (tS X Z sCnt) := by
  refine ps_continue.imp ?_
  rintro D st H ⟨f, s, S, hE, hS, hp⟩
  exact hp f H st Kp.refl hS hE
theorem s_expr (he : PE X e (tI X Z m)) (hs : swapsWith e none pos.line X.env = pure false := by rfl) : PS X (.Expr e pos) (tS X Z (sExpr m)) := by
  refine (ps_expr he hs).imp ?_
  rintro D st H ⟨f, s, S, hE, hS, hp⟩
  exact ⟨f, s, S, hE, hS, hp.seq hE fun f1 H1 w1 S1 v1 k1 s1 e1 p1 hp1 => hp1 f1 H1 st Kp.refl s1 e1⟩
theorem s_ret (he : PE X e (tI X Z m)) : PS X (.Return (some e) pos) (tS X Z (sRet m)) := by
  refine (ps_ret he).imp ?_
  rintro D st H ⟨f, s, S, hE, hS, hp⟩
  exact ⟨f, s, S, hE, hS, hp.seq hE fun f1 H1 w1 S1 v1 k1 s1 e1 p1 hp1 => hp1 f1 H1 v1 Kp.refl s1 p1⟩
theorem s_retN : PS X (.Return none pos) (tS X Z sRetN) := by
  refine ps_retN.imp ?_
  rintro D st H ⟨f, s, S, hE, hS, hp⟩
  exact hp f H .non Kp.refl hS Rp.non'
theorem s_if (hc : PT X c (tT X Z bm)) (ha : PSs X sts (tS X Z ms)) (hb : PSs X stb (tS X Z mt)) : PS X (.If c sts stb pos) (tS X Z (sIf bm ms mt)) := by
  refine (ps_if hc ha hb).imp ?_
  rintro D st H ⟨f, s, S, hE, hS, hp⟩
  refine ⟨f, s, S, hE, hS, hp.seq hE fun f1 H1 w1 S1 v1 k1 s1 e1 p1 hp1 => ?_⟩
  obtain rfl : v1 = w1 := p1
  by_cases z : v1 = true
  · rw [if_pos z] at hp1 ⊢
    exact ⟨f1, s, S1, e1, s1, hp1⟩
  · rw [if_neg z] at hp1 ⊢
    exact ⟨f1, s, S1, e1, s1, hp1⟩
theorem s_set (i : Nat) {x : Str} (hN : X.N.Nodup) (he : PE X e (tI X Z m)) (hx : Loc X.env.scope x := by first | exact Or.inl rfl | exact Or.inr rfl) (hi : X.N[i]? = some x := by rfl) (hs : swapsWith e (some (.Name x pos')) pos.line X.env = pure false := by rfl)
    (hf : X.fn x = true ∨ X.env.scope.names.lookup x = some .local := by first | exact .inl rfl | exact .inr rfl) : PS X (.Assign [.Name x pos'] e pos) (tS X Z (sSet i m)) := by
  refine (ps_set hN hi hx he hs hf).imp ?_
  rintro D st H ⟨f, s, S, hE, hS, hp⟩
  exact ⟨f, s, S, hE, hS, hp.seq hE fun f1 H1 w1 S1 v1 k1 s1 e1 p1 hp1 => hp1 f1 H1 _ Kp.refl s1 (e1.set p1 i)⟩

/-! ### o[i] = v -/
def setO (o i v : W) (S : Sto) : Option Sto := match o with
  | .loc n => match S[n]? with
    | some (.lst ws) => match i with
      | .int k => match ixN ws.length k with
        | some j => some (S.set n (.lst (ws.set j v)))
        | none => none
      | _ => none
    | some (.dct kvs) => match W.key? i with
      | some q => if kvs.length < 1000000 then some (S.set n (.dct (dput kvs i q v))) else none
      | none => none
    | some (.tct kvs) => match W.tkey? i with
      | some q => if kvs.length < 1000000 then some (S.set n (.tct (tput kvs q v))) else none
      | none => none
    | _ => none
  | _ => none
def rSetW : V → V → V → Hp → (Hp → Prop) → Prop := fun o i v H Q => rSetL o i v H Q ∨ ∃ a H', o = .ref a ∧ DPut H a i v H' ∧ Q H'
theorem set_any (hu : X.A.units + 1 < cLine) : PSet X rSetW := by
  intro pins s st H o i v ov iv u Q I ro ri rv h
  rcases h with h | ⟨a, H', rfl, g, q⟩
  · exact set_list pins s st H o i v ov iv u Q I ro ri rv h
  · obtain rfl : ov = Value.ref a := ro
    exact d_setItem hu I g ri rv fun s4 I4 => ⟨H', I4, q⟩
theorem setO_ok {f : List Addr} {H : Hp} {S S' : Sto} {o i w : W} {vo vi v : V} {Q : Hp → Prop} (s : RelS X.K X.mg f H S) (ho : Rp X.K X.mg f H o vo) (hi : Rp X.K X.mg f H i vi) (hw : Rp X.K X.mg f H w v) (e : setO o i w S = some S')
    (h : ∀ H', Kp f H f H' → RelS X.K X.mg f H' S' → Q H') : rSetW vo vi v H Q := by
  unfold setO at e
  split at e
  · split at e
    · rename_i e0
      split at e
      · split at e
        · rename_i j e1
          cases e
          obtain ⟨a, us, rfl, ha, q, r⟩ := lstAt s ho e0
          have k : Kp f H f (upd H a (.lst (us.set j v))) := s.kpUpd (List.mem_of_getElem? ha) (fun _ _ z => by rw [q] at z; cases z) _
          exact .inl ⟨a, us, _, j, rfl, hi.intE, q, by rw [r.length]; exact e1, h _ k (s.upd ha (fun _ _ z => by rw [q] at z; cases z) ⟨_, upd_same, (r.set hw j).mono k⟩)⟩
        · cases e
      · cases e
    · rename_i e0
      split at e
      · rename_i q e1
        split at e
        · rename_i z
          cases e
          obtain ⟨a, us, rfl, ha, hq, r⟩ := dctAt s ho e0
          have k : Kp f H f (upd H a (.dK (putK us q v))) := s.kpUpd (List.mem_of_getElem? ha) (fun _ _ z => by rw [hq] at z; cases z) _
          refine .inr ⟨a, _, rfl, ?_, h _ k (s.upd ha (fun _ _ z => by rw [hq] at z; cases z) ⟨_, upd_same, (RpK.put e1 hw r).mono k⟩)⟩
          rw [key_ok hi e1]
          exact DPut.k hq (by rw [r.length, sizeLine_eq]; omega)
        · cases e
      · cases e
    · rename_i e0
      split at e
      · rename_i q e1
        split at e
        · rename_i z
          cases e
          obtain ⟨a, us, rfl, ha, hq, r⟩ := tctAt s ho e0
          obtain ⟨b, rfl, hb⟩ := tkey_ok hi e1
          have k : Kp f H f (upd H a (.dT (putK us q v))) := s.kpUpd (List.mem_of_getElem? ha) (fun _ _ z => by rw [hq] at z; cases z) _
          exact .inr ⟨a, _, rfl, .inr ⟨us, q, b, hq, rfl, hb, by rw [r.length, sizeLine_eq]; omega, rfl⟩, h _ k (s.upd ha (fun _ _ z => by rw [hq] at z; cases z) ⟨_, upd_same, (RpT.put hw r).mono k⟩)⟩
        · cases e
      · cases e
    · cases e
  · cases e
def sPut (mv mo mi : EV) : SV := fun s S => (mv s S).toS s fun v S => (mo s S).toS s fun o S => (mi s S).toS s fun i S => match setO o i v S with
  | some S' => .nx s S'
  | none => .no
theorem s_put {o i : Expr} {mv mo mi : EV} (hu : X.A.units + 1 < cLine) (he : PE X e (tI X Z mv)) (ho : PE X o (tI X Z mo)) (hi : PE X i (tI X Z mi))
    (ha : ∀ v, assign (.Subscript o i pos') X.env v = (do
      let ov ← holding [v] (eval o X.env)
      let iv ← holding [v, ov] (eval i X.env)
      standAt pos'
      holding [v, ov, iv] (setItem ov iv v)
      release [v, ov, iv] []) := by intro _; rfl) (hs : swapsWithSole [.Subscript o i pos'] e pos.line X.env = pure false := by rfl) (hw : swappedStores [.Subscript o i pos'] e X.env = pure none := by rfl)
    (h1 : (assignEach [.Subscript o i pos'] X.env).map (·.2) = [assign (.Subscript o i pos') X.env] := by rfl) : PS X (.Assign [.Subscript o i pos'] e pos) (tS X Z (sPut mv mo mi)) := by
  refine (ps_asg he (pg_sub ho hi (set_any hu) ha) hs hw h1).imp ?_
  rintro D st H ⟨f, s, S, hE, hS, hp⟩
  refine ⟨f, s, S, hE, hS, hp.seq hE fun f1 H1 w1 S1 v1 k1 s1 e1 p1 hp1 => ?_⟩
  refine ⟨f1, s, S1, e1, s1, hp1.seq e1 fun f2 H2 w2 S2 v2 k2 s2 e2 p2 hp2 => ⟨f2, s, S2, e2, s2, hp2.seq e2 fun f3 H3 w3 S3 v3 k3 s3 e3 p3 hp3 => ?_⟩⟩
  split at hp3
  · rename_i S' e0
    exact setO_ok s3 (p2.mono k3) p3 (p1.mono (k2.trans k3)) e0 fun H' k' s' => hp3 f3 H' st k' s' (e3.mono k')
  · exact hp3.elim

/-! ### targets -/
inductive Tg where
  | nm (i : Nat) | tp (ts : List Tg)
mutual
def Tg.put : Tg → W → En → Option En
  | .nm i, w, s => some (s.set i (some w))
  | .tp ts, .tup ws, s => Tg.puts ts ws s
  | .tp _, _, _ => none
def Tg.puts : List Tg → List W → En → Option En
  | [], [], s => some s
  | t :: ts, w :: ws, s => (Tg.put t w s).bind (Tg.puts ts ws)
  | _, _, _ => none
end
mutual
def Tg.rd (K : PySem.W.Frag) : Tg → TG
  | .nm i => gName i
  | .tp ts => gTup K ts.length (Tg.rds K ts)
def Tg.rds (K : PySem.W.Frag) : List Tg → TGs
  | [] => gNil
  | t :: ts => gCons (Tg.rd K t) (Tg.rds K ts)
end
mutual
def Tg.slots : Tg → List Nat
  | .nm i => [i]
  | .tp ts => Tg.slotss ts
def Tg.slotss : List Tg → List Nat
  | [] => []
  | t :: ts => Tg.slots t ++ Tg.slotss ts
end
/-- two frames that differ at the slots l alone -/
def Diff (l : List Nat) (a b : St) : Prop := a.length = b.length ∧ ∀ i, i ∉ l → a[i]? = b[i]?
theorem Diff.refl {l : List Nat} {a : St} : Diff l a a := ⟨rfl, fun _ _ => rfl⟩
theorem Diff.trans {l l' : List Nat} {a b c : St} (x : Diff l a b) (y : Diff l' b c) : Diff (l ++ l') a c :=
  ⟨x.1.trans y.1, fun i h => (x.2 i fun z => h (List.mem_append_left _ z)).trans (y.2 i fun z => h (List.mem_append_right _ z))⟩
mutual
theorem Tg.put_ok {f : List Addr} {H : Hp} : ∀ (t : Tg) (w : W) (v : V) (s s' : En) (st : St) (Q : St → Hp → Prop), Rp X.K X.mg f H w v → RelE X.K X.mg f H s st → Tg.put t w s = some s' →
    (∀ st', RelE X.K X.mg f H s' st' → Diff t.slots st st' → Q st' H) → Tg.rd X.K t v st H Q
  | .nm i, w, v, s, s', st, Q, h, hE, e, k => by
    unfold Tg.put at e
    cases e
    show gName i v st H Q
    exact k _ (hE.set h i) ⟨by rw [List.length_set], fun j hj => by
      rw [List.getElem?_set_ne]
      intro z
      exact hj (by unfold Tg.slots; simp [z])⟩
  | .tp ts, .tup ws, v, s, s', st, Q, h, hE, e, k => by
    unfold Tg.put at e
    obtain ⟨a, vs, rfl, q, r⟩ := h.tupE
    show gTup X.K ts.length (Tg.rds X.K ts) _ st H Q
    refine ⟨a, vs, rfl, SqT.of q, ?_, ?_⟩
    · rw [r.length]
      exact (puts_len e).symm
    · exact Tg.puts_ok ts ws vs s s' st Q r hE e fun st' e' d' => k st' e' d'
  | .tp _, .non, _, _, _, _, _, _, _, e, _ => by simp [Tg.put] at e
  | .tp _, .bl _, _, _, _, _, _, _, _, e, _ => by simp [Tg.put] at e
  | .tp _, .int _, _, _, _, _, _, _, _, e, _ => by simp [Tg.put] at e
  | .tp _, .str _, _, _, _, _, _, _, _, e, _ => by simp [Tg.put] at e
  | .tp _, .ptp _, _, _, _, _, _, _, _, e, _ => by simp [Tg.put] at e
  | .tp _, .rol _, _, _, _, _, _, _, _, e, _ => by simp [Tg.put] at e
  | .tp _, .loc _, _, _, _, _, _, _, _, e, _ => by simp [Tg.put] at e
  | .tp _, .gl _, _, _, _, _, _, _, _, e, _ => by simp [Tg.put] at e
  | .tp _, .ty _, _, _, _, _, _, _, _, e, _ => by simp [Tg.put] at e
theorem Tg.puts_ok {f : List Addr} {H : Hp} : ∀ (ts : List Tg) (ws : List W) (vs : List V) (s s' : En) (st : St) (Q : St → Hp → Prop), Rpl X.K X.mg f H ws vs → RelE X.K X.mg f H s st → Tg.puts ts ws s = some s' →
    (∀ st', RelE X.K X.mg f H s' st' → Diff (Tg.slotss ts) st st' → Q st' H) → Tg.rds X.K ts vs st H Q
  | [], [], vs, s, s', st, Q, h, hE, e, k => by
    unfold Tg.puts at e
    cases e
    unfold Rpl at h
    subst h
    show gNil [] st H Q
    exact ⟨rfl, k st hE Diff.refl⟩
  | [], _ :: _, _, _, _, _, _, _, _, e, _ => by simp [Tg.puts] at e
  | t :: ts, [], _, _, _, _, _, _, _, e, _ => by simp [Tg.puts] at e
  | t :: ts, w :: ws, vs, s, s', st, Q, h, hE, e, k => by
    unfold Tg.puts at e
    unfold Rpl at h
    obtain ⟨v, r, rfl, h1, h2⟩ := h
    obtain ⟨s1, e1, e2⟩ := Option.bind_eq_some_iff.mp e
    show gCons (Tg.rd X.K t) (Tg.rds X.K ts) _ st H Q
    refine ⟨v, r, rfl, Tg.put_ok t w v s s1 st _ h1 hE e1 fun st1 hE1 d1 => Tg.puts_ok ts ws r s1 s' st1 Q h2 hE1 e2 fun st2 hE2 d2 => k st2 hE2 ?_⟩
    exact d1.trans d2
theorem puts_len : ∀ {ts : List Tg} {ws : List W} {s s' : En}, Tg.puts ts ws s = some s' → ts.length = ws.length
  | [], [], _, _, _ => rfl
  | [], _ :: _, _, _, e => by simp [Tg.puts] at e
  | _ :: _, [], _, _, e => by simp [Tg.puts] at e
  | t :: ts, w :: ws, s, s', e => by
    unfold Tg.puts at e
    obtain ⟨s1, e1, e2⟩ := Option.bind_eq_some_iff.mp e
    rw [List.length_cons, List.length_cons, puts_len e2]
end
theorem g_name (i : Nat) {x : Str} (hN : X.N.Nodup) (hx : Loc X.env.scope x := by first | exact Or.inl rfl | exact Or.inr rfl) (hi : X.N[i]? = some x := by rfl) (hf : X.fn x = true ∨ X.env.scope.names.lookup x = some .local := by first | exact .inl rfl | exact .inr rfl) :
    PG X (.Name x pos) (Tg.rd X.K (.nm i)) := pg_name hN hi hx hf
theorem gs_nil : PGs X [] (Tg.rds X.K []) := pgs_nil
theorem gs_cons {t : Tg} {ts : List Tg} (h1 : PG X e (Tg.rd X.K t)) (h2 : PGs X es (Tg.rds X.K ts)) (hs : (assignEach (e :: es) X.env).map (·.2) = assign e X.env :: (assignEach es X.env).map (·.2) := by rfl) : PGs X (e :: es) (Tg.rds X.K (t :: ts)) := pgs_cons h1 h2 hs
theorem g_tup {k : Nat} {ts : List Tg} (hc : X.calm = true) (h : PGs X es (Tg.rds X.K ts)) (hn : (assignEach es X.env).length = ts.length := by rfl) (hst : (assignEach es X.env).findIdx? (·.1) = none := by rfl) : PG X (.Tuple es k pos) (Tg.rd X.K (.tp ts)) := pg_tup hc h hn hst
/-- (a, b) = e, e a tuple -/
def sAsg (t : Tg) (m : EV) : SV := fun s S => (m s S).toS s fun w S => match Tg.put t w s with
  | some s' => .nx s' S
  | none => .no
theorem s_asg {tg : Expr} {t : Tg} (he : PE X e (tI X Z m)) (hg : PG X tg (Tg.rd X.K t)) (hs : swapsWithSole [tg] e pos.line X.env = pure false := by rfl) (hw : swappedStores [tg] e X.env = pure none := by rfl)
    (h1 : (assignEach [tg] X.env).map (·.2) = [assign tg X.env] := by rfl) : PS X (.Assign [tg] e pos) (tS X Z (sAsg t m)) := by
  refine (ps_asg he hg hs hw h1).imp ?_
  rintro D st H ⟨f, s, S, hE, hS, hp⟩
  refine ⟨f, s, S, hE, hS, hp.seq hE fun f1 H1 w1 S1 v1 k1 s1 e1 p1 hp1 => ?_⟩
  split at hp1
  · rename_i s' e0
    exact Tg.put_ok t w1 v1 s s' st _ p1 e1 e0 fun st' e' _ => hp1 f1 H1 st' Kp.refl s1 e'
  · exact hp1.elim

/-! ### what is walked -/
structure IT where
  item : Sto → Nat → Option (Option W)
  fuel : Nat
def ItOk (X : Cx) (f0 : List Addr) (H0 : Hp) (it : Sto → Nat → Option (Option W)) (J : It) : Prop := ∀ f H S i, Kp f0 H0 f H → RelS X.K X.mg f H S →
  (it S i = some none → J.stop i H) ∧ ∀ w, it S i = some (some w) → J.go i H ∧ ∀ x H', J.yld i H x H' → Kp f H f H' ∧ RelS X.K X.mg f H' S ∧ Rp X.K X.mg f H' w x
abbrev IV := En → Sto → R IT
def tF (X : Cx) (Z : WX) (m : IV) : TI := fun st H Q => tG X Z (fun f H (a : IT) (b : It) => ItOk X f H a.item b) m st H Q
/-- the items of what stands at a value -/
def seqIt (w : W) : Sto → Nat → Option (Option W) := fun S i => match w with
  | .tup ws => some ws[i]?
  | .ptp ws => some ws[i]?
  | .rol ws => some ws[i]?
  | .str x => some ((x.cps[i]?).map fun c => .str ⟨#[c]⟩)
  | .loc n => match S[n]? with
    | some (.lst ws) => some ws[i]?
    | _ => none
  | _ => none
def seqLen (w : W) (S : Sto) : Option Nat := match w with
  | .tup ws => some ws.length
  | .ptp ws => some ws.length
  | .rol ws => some ws.length
  | .str x => some x.cps.size
  | .loc n => match S[n]? with
    | some (.lst ws) => some ws.length
    | _ => none
  | _ => none
def iSeq (m : EV) : IV := fun s S => (m s S).bind fun w S => match seqLen w S with
  | some n => .ok ⟨seqIt w, n + 1⟩ S
  | none => .no
theorem it_list {f : List Addr} {H : Hp} {S : Sto} {n : Nat} {ws : List W} {a : Addr} (s : RelS X.K X.mg f H S) (e : S[n]? = some (.lst ws)) (ha : f[n]? = some a) : ItOk X f H (seqIt (.loc n)) (Itl X.K a) := by
  intro f1 H1 S1 i k s1
  have ha1 := k.ext _ _ ha
  have hw : Rp X.K X.mg f1 H1 (.loc n) (.ref a) := by unfold Rp; exact ⟨a, rfl, ha1⟩
  unfold seqIt
  dsimp only
  cases e1 : S1[n]? with
  | none => exact ⟨fun z => (by cases z), fun w z => (by cases z)⟩
  | some o =>
    cases o with
    | lst us =>
      obtain ⟨b, vs, e2, _, q, r⟩ := lstAt s1 hw e1
      cases e2
      refine ⟨fun z => ⟨vs, SqL.of q, ?_⟩, fun w z => ?_⟩
      · have z' : us[i]? = none := Option.some.inj z
        rw [r.length]
        exact List.getElem?_eq_none_iff.mp z'
      · have z' : us[i]? = some w := Option.some.inj z
        obtain ⟨v, e3, rv⟩ := r.get z'
        refine ⟨⟨vs, v, SqL.of q, e3⟩, fun x H' y => ?_⟩
        obtain ⟨rfl, y⟩ := y
        have := y vs (SqL.of q)
        rw [e3] at this
        cases this
        exact ⟨Kp.refl, s1, rv⟩
    | dct us => exact ⟨fun z => (by cases z), fun w z => (by cases z)⟩
    | ins c us => exact ⟨fun z => (by cases z), fun w z => (by cases z)⟩
    | fdc us => exact ⟨fun z => (by cases z), fun w z => (by cases z)⟩
    | tct us => exact ⟨fun z => (by cases z), fun w z => (by cases z)⟩
theorem it_rol {f : List Addr} {H : Hp} {ws : List W} {a : Addr} {vs : List V} (q : RoL X.K H a vs) (r : Rpl X.K X.mg f H ws vs) : ItOk X f H (seqIt (.rol ws)) (Itl X.K a) := by
  intro f1 H1 S1 i k s1
  have q1 := (k.roL q).seq
  have r1 := r.mono k
  refine ⟨fun z => ⟨vs, q1, ?_⟩, fun w z => ?_⟩
  · have z' : ws[i]? = none := Option.some.inj z
    rw [r1.length]
    exact List.getElem?_eq_none_iff.mp z'
  · have z' : ws[i]? = some w := Option.some.inj z
    obtain ⟨v, e3, rv⟩ := r1.get z'
    refine ⟨⟨vs, v, q1, e3⟩, fun x H' y => ?_⟩
    obtain ⟨rfl, y⟩ := y
    have := y vs q1
    rw [e3] at this
    cases this
    exact ⟨Kp.refl, s1, rv⟩
theorem it_tup {f : List Addr} {H : Hp} {ws : List W} {a : Addr} {vs : List V} (q : H a = some (.tup vs)) (r : Rpl X.K X.mg f H ws vs) : ItOk X f H (seqIt (.tup ws)) (Itt X.K a) := by
  intro f1 H1 S1 i k s1
  have q1 : SqT X.K H1 a vs := SqT.of (k.tup _ _ q)
  have r1 := r.mono k
  refine ⟨fun z => ⟨vs, q1, ?_⟩, fun w z => ?_⟩
  · have z' : ws[i]? = none := Option.some.inj z
    rw [r1.length]
    exact List.getElem?_eq_none_iff.mp z'
  · have z' : ws[i]? = some w := Option.some.inj z
    obtain ⟨v, e3, rv⟩ := r1.get z'
    refine ⟨⟨vs, v, q1, e3⟩, fun x H' y => ?_⟩
    obtain ⟨rfl, y⟩ := y
    have := y vs q1
    rw [e3] at this
    cases this
    exact ⟨Kp.refl, s1, rv⟩
theorem it_ptp {f : List Addr} {H : Hp} {ws : List W} {a : Addr} {vs : List V} {o : Obj} (q : H a = some (.frz o (.tup vs))) (r : Rpl X.K X.mg f H ws vs) : ItOk X f H (seqIt (.ptp ws)) (Itt X.K a) := by
  intro f1 H1 S1 i k s1
  have q1 : SqT X.K H1 a vs := SqT.frz (k.frz _ _ _ q)
  have r1 := r.mono k
  refine ⟨fun z => ⟨vs, q1, ?_⟩, fun w z => ?_⟩
  · have z' : ws[i]? = none := Option.some.inj z
    rw [r1.length]
    exact List.getElem?_eq_none_iff.mp z'
  · have z' : ws[i]? = some w := Option.some.inj z
    obtain ⟨v, e3, rv⟩ := r1.get z'
    refine ⟨⟨vs, v, q1, e3⟩, fun x H' y => ?_⟩
    obtain ⟨rfl, y⟩ := y
    have := y vs q1
    rw [e3] at this
    cases this
    exact ⟨Kp.refl, s1, rv⟩
theorem it_str {f : List Addr} {H : Hp} {x : Str} : ItOk X f H (seqIt (.str x)) (Its x) := by
  intro f1 H1 S1 i k s1
  unfold seqIt
  dsimp only
  cases e : x.cps[i]? with
  | none => exact ⟨fun _ => Array.getElem?_eq_none_iff.mp e, fun w z => (by cases z)⟩
  | some c =>
    refine ⟨fun z => (by cases z), fun w z => ?_⟩
    cases z
    refine ⟨(Array.getElem?_eq_some_iff.mp e).1, fun v H' y => ?_⟩
    obtain ⟨rfl, c', e', rfl⟩ := y
    rw [e] at e'; cases e'
    exact ⟨Kp.refl, s1, Rp.str'⟩
/-- a list, a tuple, a text -/
def iAny (K : PySem.W.Frag) (tl : TE) : TI := fun st H R => tl st H fun x H1 => (∃ a, x = .ref a ∧ (∃ xs, SqL K H1 a xs) ∧ R (Itl K a) H1) ∨ (∃ a, x = .ref a ∧ (∃ xs, SqT K H1 a xs) ∧ R (Itt K a) H1) ∨ ∃ z, x = .str z ∧ R (Its z) H1
theorem pi_any {tg l : Expr} {tl : TE} (hl : PE X l tl) : PI X tg l (iAny X.K tl) := by
  refine ⟨fun pins s st H R I h => ?_⟩
  refine thn (hl.run pins s st H _ I h) fun v s1 ⟨x, H1, I1, r1, q1⟩ => ?_
  rcases q1 with ⟨a, e, ⟨xs, hq⟩, q⟩ | ⟨a, e, ⟨xs, hq⟩, q⟩ | ⟨z, e, q⟩
  · subst e
    cases r1
    obtain ⟨its, rv, p, hz⟩ := I1.list hq
    exact wpAny_pyIter_list p.isList (pi_one (tk := s1.toks) I1 _ (turn_list a _) ⟨_, Heap.get?_push_size _ rfl, rfl, rfl⟩ q)
  · subst e
    cases r1
    obtain ⟨its, rv, p, hz⟩ := I1.tuple hq
    exact wpAny_pyIter_tuple (show s1.heap.IsTuple a its.toArray from p) (pi_one (tk := s1.toks) I1 _ (turn_tuple a _) ⟨_, Heap.get?_push_size _ rfl, rfl, rfl⟩ q)
  · subst e
    obtain ⟨t, rfl⟩ := r1
    cases ha : z.cps.all (· < 128)
    · exact wpAny_pyIter_wide ha (pi_one (tk := s1.toks) I1 _ (turn_str _ z t "str_iterator" (.inr rfl)) ⟨_, Heap.get?_push_size _ rfl, rfl, rfl⟩ q)
    · exact wpAny_pyIter_ascii ha (pi_one (tk := s1.toks) I1 _ (turn_str _ z t "str_ascii_iterator" (.inl rfl)) ⟨_, Heap.get?_push_size _ rfl, rfl, rfl⟩ q)
theorem _root_.L2.PI.imp {X : Cx} {tg e : Expr} {t t' : TI} (h : PI X tg e t) (i : ∀ st H R, t' st H R → t st H R) : PI X tg e t' := ⟨fun pins s st H R I q => h.run pins s st H R I (i _ _ _ q)⟩
theorem i_seq {tg l : Expr} (hl : PE X l (tI X Z m)) : PI X tg l (tF X Z (iSeq m)) := by
  refine (pi_any hl).imp ?_
  rintro st H Q ⟨f, s, S, hE, hS, hp⟩
  refine ⟨f, s, S, hE, hS, hp.seq fun f1 H1 w1 S1 v1 k1 s1 p1 hp1 => ?_⟩
  split at hp1
  · rename_i n e
    unfold seqLen at e
    split at e
    · obtain ⟨a, vs, rfl, q, r⟩ := p1.tupE
      exact .inr (.inl ⟨a, rfl, ⟨vs, SqT.of q⟩, hp1.fin s1 (it_tup q r)⟩)
    · obtain ⟨a, vs, o, rfl, q, _, r⟩ := p1.ptpE
      exact .inr (.inl ⟨a, rfl, ⟨vs, SqT.frz q⟩, hp1.fin s1 (it_ptp q r)⟩)
    · obtain ⟨a, vs, rfl, q, r⟩ := p1.rolE
      exact .inl ⟨a, rfl, ⟨vs, q.seq⟩, hp1.fin s1 (it_rol q r)⟩
    · exact .inr (.inr ⟨_, p1.strE, hp1.fin s1 it_str⟩)
    · split at e
      · rename_i e0
        obtain ⟨a, vs, rfl, ha, q, r⟩ := lstAt s1 p1 e0
        exact .inl ⟨a, rfl, ⟨vs, SqL.of q⟩, hp1.fin s1 (it_list s1 e0 ha)⟩
      · cases e
    · cases e
  · exact hp1.elim
/-! range -/
def rngIt (lo : Int) (n : Nat) : Sto → Nat → Option (Option W) := fun _ i => if i < n then some (some (.int (lo + i))) else some none
theorem it_rng {f : List Addr} {H : Hp} {lo : Int} {n : Nat} : ItOk X f H (rngIt lo n) (Itr lo n) := by
  intro f1 H1 S1 i k s1
  unfold rngIt
  by_cases h : i < n
  · rw [if_pos h]
    refine ⟨fun z => (by cases z), fun w z => ?_⟩
    cases z
    refine ⟨h, fun v H' y => ?_⟩
    obtain ⟨rfl, rfl⟩ := y
    exact ⟨Kp.refl, s1, Rp.int'⟩
  · rw [if_neg h]
    exact ⟨fun _ => Nat.le_of_not_lt h, fun w z => (by cases z)⟩
def iRng1 (m : EV) : IV := fun s S => (m s S).bind fun w S => match w with
  | .int j => if -1000000 ≤ j ∧ j ≤ 1000000 then .ok ⟨rngIt 0 j.toNat, j.toNat + 1⟩ S else .no
  | _ => .no
def iRng2 (m n : EV) : IV := fun s S => (m s S).bind fun w S => (n s S).bind fun u S => match w, u with
  | .int i, .int j => if -1000000 ≤ i ∧ i ≤ 1000000 ∧ -1000000 ≤ j ∧ j ≤ 1000000 then .ok ⟨rngIt i (j - i).toNat, (j - i).toNat + 1⟩ S else .no
  | _, _ => .no
theorem i_rng1 {tg : Expr} {p : Pos} (hm : X.mg "range" = none) (ha : PE X a (tI X Z m)) (hg : Gl X "range" := by rfl) (hs : starEach [a] X.env = [(false, eval a X.env)] := by rfl) : PI X tg (.Call (.Name "range" p) [a] [] pos) (tF X Z (iRng1 m)) := by
  refine (pi_range1 hg hm (pa_cons ha pa_nil (by rw [hs]; rfl)) hs).imp ?_
  rintro st H Q ⟨f, s, S, hE, hS, hp⟩
  refine ⟨f, s, S, hE, hS, hp.seq fun f1 H1 w1 S1 v1 k1 s1 p1 hp1 => ?_⟩
  split at hp1
  · split at hp1
    · rename_i z
      exact ⟨_, by rw [p1.intE], by omega, by omega, hp1.fin s1 it_rng⟩
    · exact hp1.elim
  · exact hp1.elim
theorem i_rng2 {tg : Expr} {p : Pos} {m2 : EV} (hm : X.mg "range" = none) (ha : PE X a (tI X Z m)) (hb : PE X b (tI X Z m2)) (hg : Gl X "range" := by rfl) (hs : starEach [a, b] X.env = [(false, eval a X.env), (false, eval b X.env)] := by rfl) (hs2 : starEach [b] X.env = [(false, eval b X.env)] := by rfl) :
    PI X tg (.Call (.Name "range" p) [a, b] [] pos) (tF X Z (iRng2 m m2)) := by
  refine (pi_range2 hg hm (pa_cons ha (pa_cons hb pa_nil (by rw [hs2]; rfl)) (by rw [hs, hs2])) hs hs2).imp ?_
  rintro st H Q ⟨f, s, S, hE, hS, hp⟩
  refine ⟨f, s, S, hE, hS, hp.seq fun f1 H1 w1 S1 v1 k1 s1 p1 hp1 => ⟨f1, s, S1, hE.mono k1, s1, hp1.seq fun f2 H2 w2 S2 v2 k2 s2 p2 hp2 => ?_⟩⟩
  split at hp2
  · split at hp2
    · rename_i z
      exact ⟨_, _, by rw [p1.intE, p2.intE], by omega, hp2.fin s2 it_rng⟩
    · exact hp2.elim
  · exact hp2.elim
/-! zip of two lists, of two tuples -/
def zipIt (x y : W) : Sto → Nat → Option (Option W) := fun S i => match seqIt x S i, seqIt y S i with
  | some (some a), some (some b) => some (some (.tup [a, b]))
  | some none, some _ => some none
  | some (some _), some none => some none
  | _, _ => none
def bothL (S : Sto) (x y : W) : Bool := match x, y with
  | .tup _, .tup _ => true
  | _, _ => (getL S x).isSome && (getL S y).isSome
def iZip (m n : EV) : IV := fun s S => (m s S).bind fun x S => (n s S).bind fun y S => if bothL S x y = true then (match seqLen x S with
  | some k => .ok ⟨zipIt x y, k + 1⟩ S
  | none => .no) else .no
theorem kp_tup2 {f : List Addr} {H : Hp} {S : Sto} {T : Addr} {wa wb : W} {va vb : V} (s : RelS X.K X.mg f H S) (hT : H T = none) (ra : Rp X.K X.mg f H wa va) (rb : Rp X.K X.mg f H wb vb) :
    Kp f H f (upd H T (.tup [va, vb])) ∧ RelS X.K X.mg f (upd H T (.tup [va, vb])) S ∧ Rp X.K X.mg f (upd H T (.tup [va, vb])) (.tup [wa, wb]) (.ref T) := by
  have k : Kp f H f (upd H T (.tup [va, vb])) := kpLaid hT _
  exact ⟨k, s.laid hT _, .tup' upd_same (.cons (ra.mono k) (.cons (rb.mono k) .nil))⟩
/-- what an iterator over a list tells -/
theorem seq_lst {f : List Addr} {H : Hp} {S : Sto} {x : W} {v : V} {us : List W} {i : Nat} {o : Option W} (s : RelS X.K X.mg f H S) (h : Rp X.K X.mg f H x v) (e : seqIt x S i = some o) (hx : ∃ xs, getL S x = some xs) :
    ∃ a vs, v = .ref a ∧ SqL X.K H a vs ∧ (o = none → vs.length ≤ i) ∧ ∀ w, o = some w → ∃ u, vs[i]? = some u ∧ Rp X.K X.mg f H w u := by
  obtain ⟨xs, ex⟩ := hx
  obtain ⟨a, vs, rfl, q, r⟩ := getL_at s h ex
  have e' : o = xs[i]? := by
    unfold getL at ex
    split at ex
    · split at ex
      · rename_i e0
        cases ex
        unfold seqIt at e
        dsimp only at e
        rw [e0] at e
        exact (Option.some.inj e).symm
      · cases ex
    · cases ex
      exact (Option.some.inj e).symm
    · cases ex
  refine ⟨a, vs, rfl, q, fun z => ?_, fun w z => ?_⟩
  · rw [r.length]
    exact List.getElem?_eq_none_iff.mp (e'.symm.trans z)
  · exact r.get (e'.symm.trans z)
theorem getL_of_seq {S : Sto} {x : W} {i : Nat} {o : Option W} (e : seqIt x S i = some o) (h : (∃ n, x = .loc n) ∨ ∃ ws, x = .rol ws) : ∃ xs, getL S x = some xs := by
  rcases h with ⟨n, rfl⟩ | ⟨ws, rfl⟩
  · unfold seqIt at e
    dsimp only at e
    split at e
    · rename_i e0
      exact ⟨_, by unfold getL; dsimp only; rw [e0]⟩
    · cases e
  · exact ⟨ws, rfl⟩
theorem lst_shape {S : Sto} {x : W} (h : (getL S x).isSome = true) : (∃ n, x = .loc n) ∨ ∃ ws, x = .rol ws := by
  cases x with
  | loc n => exact .inl ⟨n, rfl⟩
  | rol ws => exact .inr ⟨ws, rfl⟩
  | _ => cases h
theorem shape_rp {f f1 : List Addr} {H H1 : Hp} {x : W} {v : V} {a : Addr} (h : Rp X.K X.mg f H x v) (k : Kp f H f1 H1) : Rp X.K X.mg f1 H1 x v := h.mono k
theorem it_zipL {f : List Addr} {H : Hp} {S : Sto} {x y : W} {a b : Addr} (hx : Rp X.K X.mg f H x (.ref a)) (hy : Rp X.K X.mg f H y (.ref b)) (sx : (∃ n, x = .loc n) ∨ ∃ ws, x = .rol ws) (sy : (∃ n, y = .loc n) ∨ ∃ ws, y = .rol ws) : ItOk X f H (zipIt x y) (Itz X.K a b) := by
  intro f1 H1 S1 i k s1
  have hx1 := hx.mono k
  have hy1 := hy.mono k
  unfold zipIt
  cases ex : seqIt x S1 i with
  | none => exact ⟨fun z => (by cases z), fun w z => (by cases z)⟩
  | some o =>
    cases ey : seqIt y S1 i with
    | none => cases o <;> exact ⟨fun z => (by cases z), fun w z => (by cases z)⟩
    | some o' =>
      obtain ⟨a1, xs, e1, qx, nx, gx⟩ := seq_lst (us := []) s1 hx1 ex (getL_of_seq ex sx)
      obtain ⟨b1, ys, e2, qy, ny, gy⟩ := seq_lst (us := []) s1 hy1 ey (getL_of_seq ey sy)
      cases e1
      cases e2
      cases o with
      | none => exact ⟨fun _ => ⟨xs, ys, qx, qy, .inl (nx rfl)⟩, fun w z => (by cases z)⟩
      | some wa =>
        cases o' with
        | none => exact ⟨fun _ => ⟨xs, ys, qx, qy, .inr (ny rfl)⟩, fun w z => (by cases z)⟩
        | some wb =>
          refine ⟨fun z => (by cases z), fun w z => ?_⟩
          cases z
          obtain ⟨va, e3, ra⟩ := gx wa rfl
          obtain ⟨vb, e4, rb⟩ := gy wb rfl
          refine ⟨⟨xs, ys, va, vb, qx, qy, e3, e4⟩, fun v H' h => ?_⟩
          obtain ⟨T, xa, xb, rfl, hT, rfl, l1, l2⟩ := h
          have z1 := l1 xs qx
          have z2 := l2 ys qy
          rw [e3] at z1
          rw [e4] at z2
          cases z1
          cases z2
          exact kp_tup2 s1 hT ra rb
theorem it_zipT {f : List Addr} {H : Hp} {ws us : List W} {a b : Addr} {vs xs : List V} (hx : H a = some (.tup vs)) (rx : Rpl X.K X.mg f H ws vs) (hy : H b = some (.tup xs)) (ry : Rpl X.K X.mg f H us xs) : ItOk X f H (zipIt (.tup ws) (.tup us)) (RZ.ItzT X.K a b) := by
  intro f1 H1 S1 i k s1
  have qx : SqT X.K H1 a vs := SqT.of (k.tup _ _ hx)
  have qy : SqT X.K H1 b xs := SqT.of (k.tup _ _ hy)
  have rx1 := rx.mono k
  have ry1 := ry.mono k
  unfold zipIt seqIt
  dsimp only
  cases ex : ws[i]? with
  | none => exact ⟨fun _ => ⟨vs, xs, qx, qy, .inl (by rw [rx1.length]; exact List.getElem?_eq_none_iff.mp ex)⟩, fun w z => (by cases z)⟩
  | some wa =>
    cases ey : us[i]? with
    | none => exact ⟨fun _ => ⟨vs, xs, qx, qy, .inr (by rw [ry1.length]; exact List.getElem?_eq_none_iff.mp ey)⟩, fun w z => (by cases z)⟩
    | some wb =>
      refine ⟨fun z => (by cases z), fun w z => ?_⟩
      cases z
      obtain ⟨va, e3, ra⟩ := rx1.get ex
      obtain ⟨vb, e4, rb⟩ := ry1.get ey
      refine ⟨⟨vs, xs, va, vb, qx, qy, e3, e4⟩, fun v H' h => ?_⟩
      obtain ⟨T, xa, xb, rfl, hT, rfl, l1, l2⟩ := h
      have z1 := l1 vs qx
      have z2 := l2 xs qy
      rw [e3] at z1
      rw [e4] at z2
      cases z1
      cases z2
      exact kp_tup2 s1 hT ra rb
theorem i_zip {elts : List Expr} {kk : Nat} {tpos p : Pos} {m2 : EV} (hm : X.mg "zip" = none) (ha : PE X a (tI X Z m)) (hb : PE X b (tI X Z m2)) (hg : Gl X "zip" := by rfl)
    (hs : starEach [a, b] X.env = (false, eval a X.env) :: starEach [b] X.env := by rfl) (hs2 : starEach [b] X.env = [(false, eval b X.env)] := by rfl) (hpl : (backTo pos (starEach [b] X.env)).any (·.1) = false := by rfl) :
    PI X (.Tuple elts kk tpos) (.Call (.Name "zip" p) [a, b] [] pos) (tF X Z (iZip m m2)) := by
  refine (RZ.pi_zipA hg hm (pa_cons ha (pa_cons hb pa_nil (by rw [hs2]; rfl)) hs) hs hpl).imp ?_
  rintro st H Q ⟨f, s, S, hE, hS, hp⟩
  refine ⟨f, s, S, hE, hS, hp.seq fun f1 H1 x S1 v1 k1 s1 p1 hp1 => ⟨f1, s, S1, hE.mono k1, s1, hp1.seq fun f2 H2 y S2 v2 k2 s2 p2 hp2 => ?_⟩⟩
  split at hp2
  · rename_i z
    split at hp2
    · rename_i n e
      unfold bothL at z
      split at z
      · obtain ⟨a1, xs, rfl, q1, r1⟩ := (p1.mono k2).tupE
        obtain ⟨b1, ys, rfl, q2, r2⟩ := p2.tupE
        exact ⟨a1, b1, xs, ys, rfl, .inr ⟨SqT.of q1, SqT.of q2, hp2.fin s2 (it_zipT q1 r1 q2 r2)⟩⟩
      · rw [Bool.and_eq_true] at z
        obtain ⟨z1, z2⟩ := z
        obtain ⟨us, e1⟩ := Option.isSome_iff_exists.mp z1
        obtain ⟨us', e2⟩ := Option.isSome_iff_exists.mp z2
        have p1' := p1.mono k2
        obtain ⟨a1, xs, rfl, q1, r1⟩ := getL_at s2 p1' e1
        obtain ⟨b1, ys, rfl, q2, r2⟩ := getL_at s2 p2 e2
        exact ⟨a1, b1, xs, ys, rfl, .inl ⟨q1, q2, hp2.fin s2 (it_zipL (S := S2) p1' p2 (lst_shape z1) (lst_shape z2))⟩⟩
    · exact hp2.elim
  · exact hp2.elim
end
end Ev

set_option Elab.async false
set_option linter.all false
set_option maxRecDepth 100000
/-! Ev7: for, while, comprehensions. -/
namespace Ev
open PySem L2

def loopS (it : Sto → Nat → Option (Option W)) (t : Tg) (b : SV) : Nat → Nat → En → Sto → RS
  | 0, _, _, _ => .no
  | n + 1, i, s, S => match it S i with
    | none => .no
    | some none => .nx s S
    | some (some w) => match Tg.put t w s with
      | none => .no
      | some s1 => match b s1 S with
        | .nx s2 S2 => loopS it t b n (i + 1) s2 S2
        | .ct s2 S2 => loopS it t b n (i + 1) s2 S2
        | .bk s2 S2 => .nx s2 S2
        | .rt w S2 => .rt w S2
        | .ex e s2 S2 => .ex e s2 S2
        | .no => .no
def sFor (m : IV) (t : Tg) (b : SV) : SV := fun s S => (m s S).toS s fun it S => loopS it.item t b it.fuel 0 s S
def whileS (c : BV) (b : SV) : Nat → En → Sto → RS
  | 0, _, _ => .no
  | n + 1, s, S => (c s S).toS s fun k S => if k = true then (match b s S with
      | .nx s2 S2 => whileS c b n s2 S2
      | .ct s2 S2 => whileS c b n s2 S2
      | .bk s2 S2 => .nx s2 S2
      | .rt w S2 => .rt w S2
      | .ex e s2 S2 => .ex e s2 S2
      | .no => .no) else .nx s S
/-- n: a bound of the turns, as great as one likes -/
def sWhile (n : Nat) (c : BV) (b : SV) : SV := fun s S => whileS c b n s S
section
variable {X : Cx} {Z : WX} {e a b c : Expr} {es : List Expr} {st0 : Stmt} {sts stb : List Stmt} {pos pos' : Pos} {m : EV} {bm : BV} {ms mt : SV}
theorem s_for {tg iter : Expr} {t : Tg} {mi : IV} (hp : PassesOwn (model X.prog X.w) X.A X.env X.xe) (hc : X.calm = true) (hi : PI X tg iter (tF X Z mi)) (hg : PG X tg (Tg.rd X.K t)) (hb : PSs X sts (tS X Z ms))
    (hs : ∀ x, foldedSetIterable iter X.env x = pure x := by intro _; rfl) : PS X (.For tg iter sts [] pos) (tS X Z (sFor mi t ms)) := by
  refine (ps_for hp hc hi hg hb hs).imp ?_
  rintro D st H ⟨f, s, S, hE, hS, hp⟩
  refine ⟨f, s, S, hE, hS, hp.seq hE fun f1 H1 it S1 J k1 s1 e1 ok hp1 => ?_⟩
  refine ⟨fun i m st H => ∃ f2 s2 S2, Kp f1 H1 f2 H ∧ RelE X.K X.mg f2 H s2 st ∧ RelS X.K X.mg f2 H S2 ∧ postS X Z f2 H (loopS it.item t ms m i s2 S2) D, ⟨it.fuel, f1, s, S1, Kp.refl, e1, s1, hp1⟩, ?_⟩
  rintro i m st2 H2 ⟨f2, s2, S2, k2, e2, s2', hp2⟩
  cases m with
  | zero => exact hp2.elim
  | succ n =>
    obtain ⟨ok1, ok2⟩ := ok f2 H2 S2 i k2 s2'
    unfold loopS at hp2
    cases e : it.item S2 i with
    | none => rw [e] at hp2; exact hp2.elim
    | some o =>
      rw [e] at hp2
      cases o with
      | none => exact .inl ⟨ok1 e, hp2 f2 H2 st2 Kp.refl s2' e2⟩
      | some w =>
        dsimp only at hp2
        cases ep : Tg.put t w s2 with
        | none => rw [ep] at hp2; exact hp2.elim
        | some s3 =>
          rw [ep] at hp2
          dsimp only at hp2
          obtain ⟨go, yl⟩ := ok2 w e
          refine .inr ⟨go, fun st' H' => ∃ f2 s2 S2, Kp f1 H1 f2 H' ∧ RelE X.K X.mg f2 H' s2 st' ∧ RelS X.K X.mg f2 H' S2 ∧ postS X Z f2 H' (loopS it.item t ms n (i + 1) s2 S2) D, fun st' H' z => ⟨n, Nat.lt_succ_self n, z⟩, fun x H' y => ?_⟩
          obtain ⟨k3, s3', r3⟩ := yl x H' y
          refine Tg.put_ok t w x s2 s3 st2 _ r3 (e2.mono k3) ep fun st' e3 _ => ⟨f2, s3, S2, e3, s3', ?_⟩
          have kk := k2.trans k3
          have hp3 := hp2.mono k3
          cases eb : ms s3 S2 with
          | nx s4 S4 => rw [eb] at hp3; exact fun f' H'' st'' k' s' e' => ⟨f', s4, S4, kk.trans k', e', s', hp3.mono k'⟩
          | ct s4 S4 => rw [eb] at hp3; exact fun f' H'' st'' k' s' e' => ⟨f', s4, S4, kk.trans k', e', s', hp3.mono k'⟩
          | bk s4 S4 => rw [eb] at hp3; exact hp3
          | rt w4 S4 => rw [eb] at hp3; exact hp3
          | ex e4 s4 S4 => rw [eb] at hp3; exact hp3
          | no => rw [eb] at hp3; exact hp3
theorem s_while (n : Nat) (hp : PassesOwn (model X.prog X.w) X.A X.env X.xe) (hc : PT X c (tT X Z bm)) (hb : PSs X sts (tS X Z ms)) : PS X (.While c sts [] pos) (tS X Z (sWhile n bm ms)) := by
  refine (ps_while hp hc hb).imp ?_
  rintro D st H ⟨f, s, S, hE, hS, hp⟩
  refine ⟨fun m st H => ∃ f2 s2 S2, RelE X.K X.mg f2 H s2 st ∧ RelS X.K X.mg f2 H S2 ∧ postS X Z f2 H (whileS bm ms m s2 S2) D, ⟨n, f, s, S, hE, hS, hp⟩, ?_⟩
  rintro m st2 H2 ⟨f2, s2, S2, e2, s2', hp2⟩
  cases m with
  | zero => exact hp2.elim
  | succ k =>
    unfold whileS at hp2
    refine ⟨f2, s2, S2, e2, s2', hp2.seq e2 fun f3 H3 w3 S3 v3 k3 s3 e3 p3 hp3 => ?_⟩
    obtain rfl : v3 = w3 := p3
    by_cases z : v3 = true
    · rw [if_pos z] at hp3 ⊢
      refine ⟨fun st' H' => ∃ f2 s2 S2, RelE X.K X.mg f2 H' s2 st' ∧ RelS X.K X.mg f2 H' S2 ∧ postS X Z f2 H' (whileS bm ms k s2 S2) D, fun st' H' z => ⟨k, Nat.lt_succ_self k, z⟩, f3, s2, S3, e3, s3, ?_⟩
      cases eb : ms s2 S3 with
      | nx s4 S4 => rw [eb] at hp3; exact fun f' H'' st'' k' s' e' => ⟨f', s4, S4, e', s', hp3.mono k'⟩
      | ct s4 S4 => rw [eb] at hp3; exact fun f' H'' st'' k' s' e' => ⟨f', s4, S4, e', s', hp3.mono k'⟩
      | bk s4 S4 => rw [eb] at hp3; exact hp3
      | rt w4 S4 => rw [eb] at hp3; exact hp3
      | ex e4 s4 S4 => rw [eb] at hp3; exact hp3
      | no => rw [eb] at hp3; exact hp3
    · rw [if_neg z] at hp3 ⊢
      exact hp3 f3 H3 st2 Kp.refl s3 e3
end

/-! ### [e for t in iter if c] -/
def lcLoop (it : Sto → Nat → Option (Option W)) (t : Tg) (c : BV) (m : EV) (s0 : En) : Nat → Nat → List W → Sto → R (List W)
  | 0, _, _, _ => .no
  | n + 1, i, acc, S => match it S i with
    | none => .no
    | some none => .ok acc S
    | some (some w) => match Tg.put t w s0 with
      | none => .no
      | some s1 => match c s1 S with
        | .ok true S1 => match m s1 S1 with
          | .ok x S2 => if acc.length < 1000000 then lcLoop it t c m s0 n (i + 1) (acc ++ [x]) S2 else .no
          | _ => .no
        | .ok false S1 => lcLoop it t c m s0 n (i + 1) acc S1
        | _ => .no
def eLc (mi : IV) (t : Tg) (c : BV) (m : EV) (vs : List Nat) : EV := fun s S => (mi s S).bind fun it S => (lcLoop it.item t c m (wipeE s vs) it.fuel 0 [] S).bind fun acc S => .ok (.loc S.length) (S ++ [.lst acc])
def bYes : BV := fun _ S => .ok true S
/-- no exception -/
abbrev Z0 : WX := fun _ _ _ _ => False
theorem wipe_len (l : List Nat) (st : St) : (wipe st l).length = st.length := wipe_length st l
theorem wipe_at {st : St} {i : Nat} : ∀ {l : List Nat}, (wipe st l)[i]? = if i ∈ l ∧ i < st.length then some none else st[i]?
  | [] => by simp [wipe]
  | v :: l => by
    unfold wipe
    by_cases h : i = v
    · subst h
      by_cases h2 : i < st.length
      · rw [List.getElem?_set_self (by rw [wipe_length]; exact h2), if_pos ⟨List.mem_cons_self, h2⟩]
      · rw [if_neg (fun z => h2 z.2)]
        rw [List.getElem?_eq_none (by rw [List.length_set, wipe_length]; omega), List.getElem?_eq_none (by omega)]
    · rw [List.getElem?_set_ne (Ne.symm h), wipe_at (l := l)]
      simp only [List.mem_cons, h, false_or]
theorem wipe_diff {l vs : List Nat} {a b : St} (d : Diff l a b) (h : ∀ i ∈ l, i ∈ vs) : wipe b vs = wipe a vs := by
  refine List.ext_getElem? fun i => ?_
  rw [wipe_at, wipe_at, ← d.1]
  by_cases hi : i ∈ vs
  · by_cases h2 : i < a.length
    · rw [if_pos ⟨hi, h2⟩, if_pos ⟨hi, h2⟩]
    · rw [if_neg (fun z => h2 z.2), if_neg (fun z => h2 z.2), List.getElem?_eq_none (by rw [← d.1]; omega), List.getElem?_eq_none (by omega)]
  · rw [if_neg (fun z => hi z.1), if_neg (fun z => hi z.1)]
    exact (d.2 i fun z => hi (h i z)).symm
theorem wipe_wipe (vs : List Nat) (st : St) : wipe (wipe st vs) vs = wipe st vs := by
  refine List.ext_getElem? fun i => ?_
  rw [wipe_at, wipe_length, wipe_at]
  by_cases h : i ∈ vs ∧ i < st.length
  · rw [if_pos h, if_pos h]
  · rw [if_neg h]
section
variable {X : Cx} {Z : WX}
/-- the comprehension's reading -/
theorem lc_rd {mi : IV} {t : Tg} {cm : BV} {m : EV} {vs : List Nat} {tt : TT} {te : TE} (hts : ∀ i ∈ t.slots, i ∈ vs)
    (ht : ∀ st H Q, tT X Z0 cm st H Q → tt st H Q) (he : ∀ st H Q, tI X Z0 m st H Q → te st H Q) (st : St) (H : Hp) (Q : VK) (h : tI X Z (eLc mi t cm m vs) st H Q) :
    tLc (tF X Z mi) (Tg.rd X.K t) tt te vs st H Q := by
  obtain ⟨f, s, S, hE, hS, hp⟩ := h
  refine ⟨f, s, S, hE, hS, hp.seq fun f1 H1 it S1 J k1 s1 ok hp1 => ?_⟩
  intro D hD
  -- the new list D is no place of the store while it grows
  have hDf : D ∉ f1 := s1.fresh hD
  have e1 : RelE X.K X.mg f1 H1 (wipeE s vs) (wipe st vs) := (hE.mono k1).wipe vs
  refine ⟨fun i n H => ∃ f2 S2 acc as, Kp f1 H1 f2 H ∧ RelS X.K X.mg f2 H S2 ∧ D ∉ f2 ∧ H D = some (.lst as) ∧ Rpl X.K X.mg f2 H acc as ∧
    post X Z (Rp X.K X.mg) st f1 H1 ((lcLoop it.item t cm m (wipeE s vs) n i acc S2).bind fun acc S => .ok (.loc S.length) (S ++ [.lst acc])) Q, ?_, ?_⟩
  · exact ⟨it.fuel, f1, S1, [], [], kpLaid hD _, s1.laid hD _, hDf, upd_same, Rpl.nil, hp1⟩
  · rintro i n H2 ⟨f2, S2, acc, as, k2, s2, hDf2, hD2, ra, hp2⟩
    cases n with
    | zero => exact hp2.elim
    | succ n =>
      obtain ⟨ok1, ok2⟩ := ok f2 H2 S2 i k2 s2
      unfold lcLoop at hp2
      cases e : it.item S2 i with
      | none => rw [e] at hp2; exact hp2.elim
      | some o =>
        rw [e] at hp2
        cases o with
        | none =>
          -- the list is put into the store
          refine .inl ⟨ok1 e, ?_⟩
          have hp3 : post X Z (Rp X.K X.mg) st f1 H1 (.ok (.loc S2.length) (S2 ++ [.lst acc])) Q := hp2
          refine hp3 (f2 ++ [D]) H2 (.ref D) ⟨fun k a q => (kqAdd (H := H2)).ext k a (k2.ext k a q), k2.tup, k2.frz, k2.out, fun a q => ?_⟩ (s2.adopt hDf2 ⟨as, hD2, Rpl.monoQ kqAdd _ _ ra⟩) ?_
          · rcases List.mem_append.mp q with z | z
            · exact k2.new a z
            · rw [List.mem_singleton.mp z]; exact .inr hD
          · unfold Rp
            exact ⟨D, rfl, at_new s2⟩
        | some w =>
          dsimp only at hp2
          cases ep : Tg.put t w (wipeE s vs) with
          | none => rw [ep] at hp2; exact hp2.elim
          | some s3 =>
            rw [ep] at hp2
            dsimp only at hp2
            obtain ⟨go, yl⟩ := ok2 w e
            refine .inr ⟨go, fun H' => ∃ f2 S2 acc as, Kp f1 H1 f2 H' ∧ RelS X.K X.mg f2 H' S2 ∧ D ∉ f2 ∧ H' D = some (.lst as) ∧ Rpl X.K X.mg f2 H' acc as ∧
              post X Z (Rp X.K X.mg) st f1 H1 ((lcLoop it.item t cm m (wipeE s vs) n (i + 1) acc S2).bind fun acc S => .ok (.loc S.length) (S ++ [.lst acc])) Q, fun H' z => ⟨n, Nat.lt_succ_self n, z⟩, fun x H3 y => ?_⟩
            obtain ⟨k3, s3', r3⟩ := yl x H3 y
            have hD3 : H3 D = some (.lst as) := k3.out D _ hDf2 hD2
            have k3' := k2.trans k3
            refine Tg.put_ok t w x (wipeE s vs) s3 (wipe st vs) _ r3 (e1.mono k3') ep fun st' e3 df => ⟨(wipe_diff df hts).trans (wipe_wipe vs st), ht _ _ _ ⟨f2, s3, S2, e3, s3', ?_⟩⟩
            cases ec : cm s3 S2 with
            | ex e4 S4 => rw [ec] at hp2; exact hp2.elim
            | no => rw [ec] at hp2; exact hp2.elim
            | ok bb S4 =>
              rw [ec] at hp2
              intro f4 H4 b' k4 s4 eb
              obtain rfl : b' = bb := eb
              have hD4 : H4 D = some (.lst as) := k4.out D _ hDf2 hD3
              have nf : ∀ {f5 : List Addr} {H5 : Hp}, Kp f2 H3 f5 H5 → D ∉ f5 := fun k5 z => by
                rcases k5.new D z with q | q
                · exact hDf2 q
                · rw [hD3] at q; cases q
              have k4' := k3'.trans k4
              cases b' with
              | false =>
                rw [if_neg Bool.false_ne_true]
                exact ⟨f4, S4, acc, as, k4', s4, nf k4, hD4, (ra.mono k3).mono k4, hp2⟩
              | true =>
                rw [if_pos rfl]
                dsimp only at hp2
                refine he _ _ _ ⟨f4, s3, S4, e3.mono k4, s4, ?_⟩
                cases em : m s3 S4 with
                | ex e5 S5 => rw [em] at hp2; exact hp2.elim
                | no => rw [em] at hp2; exact hp2.elim
                | ok x5 S5 =>
                  rw [em] at hp2
                  dsimp only at hp2
                  intro f5 H5 v5 k5 s5 r5
                  have k45 := k4.trans k5
                  have hD5 : H5 D = some (.lst as) := k5.out D _ (nf k4) hD4
                  have nD := nf k45
                  by_cases z : acc.length < 1000000
                  · rw [if_pos z] at hp2
                    have r5' := ((ra.mono k3).mono k45).append (.cons r5 .nil)
                    refine ⟨as, hD5, by rw [ra.length, sizeLine_eq]; omega, f5, S5, acc ++ [x5], as ++ [v5], ?_, ?_, nD, upd_same, ?_, hp2⟩
                    · -- only D is written
                      have k := k3'.trans k45
                      exact ⟨k.ext, fun a xs q => by
                          have q' := k.tup a xs q
                          rw [upd_ne (fun e => by rw [e, hD5] at q'; cases q')]; exact q', fun a o u q => by
                          have q' := k.frz a o u q
                          rw [upd_ne (fun e => by rw [e, hD5] at q'; cases q')]; exact q', fun a o h q => by
                          rw [upd_ne (fun e => by rw [e, hD] at q; cases q)]; exact k.out a o h q, k.new⟩
                    · exact ⟨s5.len, s5.nd, fun j o a h1 h2 => RelO.monoQ ⟨fun _ _ q => q, fun b xs q => by
                          rw [upd_ne (fun e => by rw [e, hD5] at q; cases q)]; exact q, fun b o u q => by
                          rw [upd_ne (fun e => by rw [e, hD5] at q; cases q)]; exact q, fun b o u q => by
                          rw [upd_ne (fun e => by rw [e, hD5] at q; cases q)]; exact q⟩ (s5.at_ j o a h1 h2) (upd_ne fun e => nD (e ▸ List.mem_of_getElem? h2))⟩
                    · exact Rpl.monoQ ⟨fun _ _ q => q, fun b xs q => by
                          rw [upd_ne (fun e => by rw [e, hD5] at q; cases q)]; exact q, fun b o u q => by
                          rw [upd_ne (fun e => by rw [e, hD5] at q; cases q)]; exact q, fun b o u q => by
                          rw [upd_ne (fun e => by rw [e, hD5] at q; cases q)]; exact q⟩ _ _ r5'
                  · rw [if_neg z] at hp2; exact hp2.elim
theorem ts_nil : PTs X [] (tT X Z bYes) := by
  refine ⟨fun pins s st H Q I h => pts_nil.run pins s st H Q I ?_⟩
  obtain ⟨f, s, S, hE, hS, hp⟩ := h
  exact hp.fin hS rfl
theorem ts_one {c : Expr} {cm : BV} (h : PT X c (tT X Z cm)) : PTs X [c] (tT X Z cm) := pts_one h
theorem e_lc {elt tg iter : Expr} {ifs : List Expr} {scope : Scope} {own : List (Str × Nat)} {pos : Pos} {mi : IV} {t : Tg} {cm : BV} {m : EV} (hc : X.calm = true) (hN : X.N.Nodup) (hi : PI X tg iter (tF X Z mi)) (ok : BlkOk X.N X.env.scope scope own)
    (hg : ∀ (s : Shared) (H : Hp) (C : Addr) (cl : List (Str × Addr)) (fp : List Addr), PG (X.blk s H scope (compEnvC scope cl C X.env) fp) tg (Tg.rd X.K t)) (ht : ∀ (s : Shared) (H : Hp) (C : Addr) (cl : List (Str × Addr)) (fp : List Addr), PTs (X.blk s H scope (compEnvC scope cl C X.env) fp) ifs (tT (X.blk s H scope (compEnvC scope cl C X.env) fp) Z0 cm))
    (he : ∀ (s : Shared) (H : Hp) (C : Addr) (cl : List (Str × Addr)) (fp : List Addr), PE (X.blk s H scope (compEnvC scope cl C X.env) fp) elt (tI (X.blk s H scope (compEnvC scope cl C X.env) fp) Z0 m)) (hts : ∀ i ∈ t.slots, i ∈ own.map (·.2) := by decide) (hs : ∀ x, foldedSetIterable iter X.env x = pure x := by intro _; rfl) :
    PE X (.ListComp elt [⟨tg, iter, ifs, 0⟩] scope pos) (tI X Z (eLc mi t cm m (own.map (·.2)))) :=
  (pe_lc (tt := tT X Z0 cm) (te := tI X Z0 m) hc hN hi ok hg ht he hs).imp (lc_rd hts (fun _ _ _ h => h) fun _ _ _ h => h)
theorem s_setLc (i : Nat) {y : Str} {py : Pos} {elt tg iter : Expr} {ifs : List Expr} {scope : Scope} {own : List (Str × Nat)} {pos spos : Pos} {mi : IV} {t : Tg} {cm : BV} {m : EV} (hc : X.calm = true) (hN : X.N.Nodup)
    (hsw : swapsWith (.ListComp elt [⟨tg, iter, ifs, 0⟩] scope pos) (some (.Name y py)) spos.line X.env = pure true) (hi : PI X tg iter (tF X Z mi)) (ok : BlkOk X.N X.env.scope scope own)
    (hg : ∀ (s : Shared) (H : Hp) (C : Addr) (cl : List (Str × Addr)) (fp : List Addr), PG (X.blk s H scope (compEnvC scope cl C X.env) fp) tg (Tg.rd X.K t)) (ht : ∀ (s : Shared) (H : Hp) (C : Addr) (cl : List (Str × Addr)) (fp : List Addr), PTs (X.blk s H scope (compEnvC scope cl C X.env) fp) ifs (tT (X.blk s H scope (compEnvC scope cl C X.env) fp) Z0 cm))
    (he : ∀ (s : Shared) (H : Hp) (C : Addr) (cl : List (Str × Addr)) (fp : List Addr), PE (X.blk s H scope (compEnvC scope cl C X.env) fp) elt (tI (X.blk s H scope (compEnvC scope cl C X.env) fp) Z0 m)) (hts : ∀ i ∈ t.slots, i ∈ own.map (·.2) := by decide) (hy : X.N[i]? = some y := by rfl) (hyl : X.env.scope.names.lookup y = some .local := by rfl) (hs : ∀ x, foldedSetIterable iter X.env x = pure x := by intro _; rfl) :
    PS X (.Assign [.Name y py] (.ListComp elt [⟨tg, iter, ifs, 0⟩] scope pos) spos) (tS X Z (sSet i (eLc mi t cm m (own.map (·.2))))) := by
  refine (ps_setLc (tt := tT X Z0 cm) (te := tI X Z0 m) hc hN hy hyl hsw hi ok hg ht he hs).imp ?_
  rintro D st H ⟨f, s, S, hE, hS, hp⟩
  refine lc_rd (Z := Z) hts (fun _ _ _ h => h) (fun _ _ _ h => h) _ _ _ ⟨f, s, S, hE, hS, hp.seq hE fun f1 H1 w1 S1 v1 k1 s1 e1 p1 hp1 => hp1 f1 H1 _ Kp.refl s1 (e1.set p1 i)⟩
end
end Ev

set_option Elab.async false
set_option linter.all false
set_option maxRecDepth 100000
/-! Ev8: defs: their promises, calls, the law's end. -/
namespace Ev
open PySem L2 PySem.Spec PyProof.Rows

/-- a def's promise by its result -/
def spF (K : PySem.W.Frag) (mg : Str → Option Value) (F : List W → Sto → R W) : Sp := fun vs H Q E => ∃ f S ws, Rpl K mg f H ws vs ∧ RelS K mg f H S ∧
  match F ws S with
  | .ok w S' => ∀ f' H' v, Kp f H f' H' → RelS K mg f' H' S' → Rp K mg f' H' w v → Q v H'
  | .ex e S' => ∀ f' H' c d, Kp f H f' H' → RelS K mg f' H' S' → RelX K mg f' H' e c d → E c d H'
  | .no => False
/-- it knows as many arguments as the def has -/
def Ar (F : List W → Sto → R W) (n : Nat) : Prop := ∀ ws S, ws.length ≠ n → F ws S = .no
theorem spF_len {K : PySem.W.Frag} {mg : Str → Option Value} {F : List W → Sto → R W} {n : Nat} (ar : Ar F n) {vs : List V} {H : Hp} {Q : VK} {E : XK} (h : spF K mg F vs H Q E) : vs.length = n := by
  obtain ⟨f, S, ws, r, s, p⟩ := h
  by_cases e : ws.length = n
  · rw [r.length, e]
  · rw [ar ws S e] at p; exact p.elim
/-- a body's result -/
def runF (n : Nat) (m : SV) (ws : List W) (S : Sto) : R W := match m (startE n ws) S with
  | .nx _ S => .ok .non S
  | .rt w S => .ok w S
  | .ex e _ S => .ex e S
  | _ => .no
theorem spF_of {X : Cx} {Z : WX} {F : List W → Sto → R W} {f : List Addr} {H : Hp} {S : Sto} {ws : List W} {vs : List V} {st : L2.St} {Q : VK} (s : RelS X.K X.mg f H S) (r : Rpl X.K X.mg f H ws vs) (p : post X Z (Rp X.K X.mg) st f H (F ws S) Q) :
    spF X.K X.mg F vs H Q (WE Z st) := by
  refine ⟨f, S, ws, r, s, ?_⟩
  cases e : F ws S with
  | ok w S' => rw [e] at p; exact p
  | ex x S' => rw [e] at p; exact fun f' H' c d k s' x' => p f' H' c d k s' x'
  | no => rw [e] at p; exact p
section
variable {P : Program} {w : World} {K : PySem.W.Frag} {mg : Str → Option Value} {base : Heap}
/-- a def of the text, by its body's result -/
theorem fnW {x qual : Str} {st : Stmt} {f : Addr} {fd : FuncData} {N ps : List Str} {k : Nat} {m : SV} {F0 : List W → Sto → R W} (F : Fun K x qual st f fd) (S : FnScope N ps (defScope st)) (ar : Ar F0 ps.length)
    (hb : ∀ (cdv : Value) (A : Around) (outer : List Env) (s : Shared) (H : Hp) (E : XK), Room k (A.deeper (envOfC qual (defScope st) s.heap.objs.size f cdv)) →
      PSs (cxOf (L2.CX P w) P w K mg base N qual (defScope st) f cdv A outer s H E) (defBody st) (tS (cxOf (L2.CX P w) P w K mg base N qual (defScope st) f cdv A outer s H E) (fun c d _ H => E c d H) m))
    (hF : ∀ ws S, ws.length = ps.length → F0 ws S = runF N.length m ws S) :
    FnOk P w K mg base (L2.CX P w) (k + 1) f fd ps (spF K mg F0) := by
  refine F.okX S (fun vs H Q E h => spF_len ar h) (fun cdv A outer s H vs Q E hr h => ?_)
  refine ⟨_, hb cdv A outer s H E hr, ?_⟩
  have hl := spF_len ar h
  obtain ⟨f1, S1, ws, r, rs, p⟩ := h
  refine ⟨f1, startE N.length ws, S1, RelE.start r, rs, ?_⟩
  rw [hF ws S1 (by rw [← r.length, hl])] at p
  unfold runF at p
  cases e : m (startE N.length ws) S1 with
  | nx s2 S2 => rw [e] at p; exact fun f' H' st k s' e' => p f' H' .non k s' Rp.non'
  | rt w2 S2 => rw [e] at p; exact p
  | bk s2 S2 => rw [e] at p; exact p.elim
  | ct s2 S2 => rw [e] at p; exact p.elim
  | ex x2 s2 S2 => rw [e] at p; exact fun f' H' st c d k s' e' x' => p f' H' c d k s' x'
  | no => rw [e] at p; exact p.elim
/-- what is not known promises nothing -/
theorem fnNo {f : Addr} {fd : FuncData} {ps : List Str} {k : Nat} {F : List W → Sto → R W} (h : ∀ ws S, F ws S = .no) : FnOk P w K mg base (L2.CX P w) k f fd ps (spF K mg F) := by
  have no : ∀ vs H Q E, ¬ spF K mg F vs H Q E := fun vs H Q E z => by
    obtain ⟨f, S, ws, _, _, p⟩ := z
    rw [h] at p
    exact p
  exact ⟨fun vs H Q E z => absurd z (no vs H Q E), fun A outer s H args us vs Q E _ _ _ _ z => absurd z (no vs H Q E)⟩
end
/-- what of a def a caller leans on: where it stands; and its promise -/
structure At (K : PySem.W.Frag) (mg : Str → Option Value) (x : Str) (n : Nat) (f : Addr) (fd : FuncData) (ps : List Str) : Prop where
  ln : ps.length = n
  mgx : mg x = some (.ref f)
  kp : PySem.W.keepIn K (.ref f) = true
  bd : Binds K fd ps []
structure Held (P : Program) (w : World) (K : PySem.W.Frag) (mg : Str → Option Value) (base : Heap) (k : Nat) (x : Str) (F : List W → Sto → R W) : Prop where
  ex : ∃ (n : Nat) (f : Addr) (fd : FuncData) (ps : List Str), At K mg x n f fd ps ∧ FnOk P w K mg base (L2.CX P w) k f fd ps (spF K mg F)
section
variable {X : Cx} {Z : WX} {e o : Expr} {es : List Expr} {pos apos p : Pos} {mr : AV} {mo : EV}
theorem takesB {X : Cx} : Takes X Z0 := takes0
theorem e_call {x : Str} {k : Nat} {F : List W → Sto → R W} (T : Held X.prog X.w X.K X.mg X.base k x F) (hr : Room k X.A) (tk : Takes X Z) (ha : PA X (e :: es) (tA X Z mr)) (hg : Gl X x := by rfl)
    (hdb : (x == ("__debug__" : Str)) = false := by decide) (he : starEach (e :: es) X.env = (false, eval e X.env) :: starEach es X.env := by rfl) (hpl : (backTo pos (starEach es X.env)).any (·.1) = false := by rfl) :
    PE X (.Call (.Name x p) (e :: es) [] pos) (tI X Z (eL F mr)) := by
  obtain ⟨n, f, fd, ps, T, hF⟩ := T.ex
  refine (pe_callS (E := WE Z) hF hr hg T.mgx T.kp T.bd (passAt tk) ha hdb he hpl).imp ?_
  rintro st H Q ⟨f1, s, S, hE, hS, hp⟩
  exact ⟨f1, s, S, hE, hS, hp.seq fun f1 H1 w1 S1 v1 k1 s1 p1 hp1 => spF_of s1 p1 hp1⟩
/-- f() -/
theorem e_call0 {x : Str} {k : Nat} {F : List W → Sto → R W} (T : Held X.prog X.w X.K X.mg X.base k x F) (hr : Room k X.A) (tk : Takes X Z) (hg : Gl X x := by rfl) (hdb : (x == ("__debug__" : Str)) = false := by decide) :
    PE X (.Call (.Name x p) [] [] pos) (tI X Z (eL F aNil)) := by
  obtain ⟨n, f, fd, ps, T, hF⟩ := T.ex
  refine ⟨fun pins s st H Q I h => ?_⟩
  refine wpAny_Call_Name_kw (ld_glob I hg T.mgx ?_ hdb)
  obtain ⟨f1, s1, S, hE, hS, hp⟩ := h
  exact PySem.W.callWith_K0 I.kIn T.kp (run_fnS (us := []) (E := WE Z) hF hr T.bd (passAt tk st) I .nil (spF_of hS Rpl.nil hp))
end
/-! ### the law's end -/
theorem roL_of {K : PySem.W.Frag} {H : Hp} {a : Addr} {vs : List V} (hO : Only H) (h : SqL K H a vs) : RoL K H a vs := by
  rcases h with (h | ⟨o, h⟩) | h
  · rcases hO a with z | ⟨o, xs, z⟩
    · rw [z] at h; cases h
    · rw [z] at h; cases h
  · exact .inl ⟨o, h⟩
  · exact .inr fun H' => .inr h
theorem ints_rel {K : PySem.W.Frag} {mg : Str → Option Value} {f : List Addr} {H : Hp} : ∀ ns : List Int, Rpl K mg f H (ns.map W.int) (ns.map V.int)
  | [] => Rpl.nil
  | n :: ns => .cons (by unfold Rp; rfl) (ints_rel ns)
theorem law_end {K : PySem.W.Frag} {mg : Str → Option Value} {F : List W → Sto → R W} {H : Hp} {a : Addr} {ns : List Int} (hO : Only H) (hS : SqL K H a (ns.map V.int)) (h : ∃ S, F [.rol (ns.map W.int)] [] = .ok (.bl true) S) :
    spF K mg F [.ref a] H (fun v _ => v = .bl true) fun _ _ _ => False := by
  obtain ⟨S, e⟩ := h
  refine ⟨[], [], [.rol (ns.map W.int)], .cons ?_ Rpl.nil, ⟨rfl, List.nodup_nil, fun n o a h => by simp at h⟩, ?_⟩
  · unfold Rp
    exact ⟨a, _, rfl, roL_of hO hS, ints_rel ns⟩
  · rw [e]
    exact fun f' H' v _ _ r => r.blE
theorem cx_end {P : Program} {w : World} {H : Hp} {s : Shared} {e : Value} {s' : Shared} (h : L2.CX P w [] H s (fun _ _ _ => False) e s') : False := by
  obtain ⟨_, _, _, _, _, _, _, _, _, _, _, _, z⟩ := h
  exact z
end Ev

set_option Elab.async false
set_option linter.all false
set_option maxRecDepth 100000
/-! Ev9: sorted. -/
namespace Ev
open PySem L2
section
variable {X : Cx} {Z : WX}
/-- the one item of a list needs no second -/
theorem sortsOne {prog : Program} {w : World} {A : Around} {s : Shared} {v : Value} {d : PyData} {as : List Addr} (r : Reads s.heap v d as) (hal : PySem.W.alike d d = true) (hn : d ≠ .none) (hu : A.units + d.depth < cLine) :
    PySem.W.SortsAt prog w A s (PySem.W.dataKind s.heap [d]) [v] := by
  have al : PySem.W.AllAlike [d] := fun x hx y hy => by rw [List.mem_singleton.mp hx, List.mem_singleton.mp hy]; exact hal
  refine ⟨fun u hu => ?_, PyProof.Rows.general', fun E x y a b Q ha hb hq => ?_, fun h2 => absurd h2 (by simp)⟩
  · rw [List.mem_singleton.mp hu]
    exact ⟨_, PySem.W.dataKind_some al (List.mem_singleton_self d) r⟩
  · obtain ⟨d1, as1, hd1, ra, rfl⟩ := PySem.W.dataKind_inv ha
    obtain ⟨d2, as2, hd2, rb, rfl⟩ := PySem.W.dataKind_inv hb
    rw [List.mem_singleton] at hd1 hd2
    subst hd1 hd2
    exact PySem.W.oneLt_alike (f := false) (fun z => absurd z (by decide)) ra rb hal hn (by rw [Nat.min_self]; exact hu) hq
/-! sorting tuples the first of which is empty -/
section
variable {prog : Program} {w : World} {A : Around} {E : Value → Shared → Prop} {s : Shared}
theorem call_tuple_lt {Q : Value → Shared → Prop} {l b : Addr} {items items2 : Array Value} {e r : Nat → Bool} (hl : s.heap.IsTuple l items) (hb : s.heap.IsTuple b items2)
    (he : ∀ j (h1 : j < items.size) (h2 : j < items2.size), PySem.SeqAt.EqAt A.in1 s items[j] items2[j] (e j)) (hr : ∀ j (h1 : j < items.size) (h2 : j < items2.size), e j = false → PySem.SeqAt.RcLt A.in1 s items[j] items2[j] (r j))
    (h : Q (.bool (PySem.SeqAt.firstLt e r (decide (items.size < items2.size)) (List.range (min items.size items2.size)))) s) : wpAny (model prog w) A (call (.builtin "tuple.__lt__") [.ref l, .ref b]) Q E s := by
  obtain ⟨⟨cls, dd, data, sl⟩, ho, hc, n, hd⟩ := id hl
  obtain ⟨⟨cls2, dd2, data2, sl2⟩, ho2, hc2, n2, hd2⟩ := id hb
  simp only at hc hd hc2 hd2
  subst hc hd hc2 hd2
  exact call_meets PySem.F.slot_tuple_lt ⟨_, ho, rfl⟩ PySem.F.entry_tuple_lt (PySem.F.args_tuple_lt_2 _ _) (PySem.SeqAt.tuple_ltAt l b items items2 n n2 dd dd2 sl sl2 e r) ⟨ho, ho2, he, hr, h⟩
theorem oneLt_tup {xs ys : List PyData} {a b : Value} {as bs : List Addr} {Q : Bool → Shared → Prop} (ra : Reads s.heap a (.tuple xs) as) (rb : Reads s.heap b (.tuple ys) bs) (hal : PySem.W.alikeAll xs ys = true)
    (hu : A.units + min (PyData.tuple xs).depth (PyData.tuple ys).depth < cLine) (hq : Q (PySem.W.dataLt (.tuple xs) (.tuple ys)) s) : wpAny (model prog w) A (PyProof.Rows.oneLt' true a b) Q E s := by
  cases ra with
  | @tuple l o vs n _ as₁ h1 h2 h3 h4 =>
    cases rb with
    | @tuple l' o' vs' n' _ bs₁ k1 k2 k3 k4 =>
      have n1 : vs.size = xs.length := by simpa using PySem.SeqAt.ReadsAll.length _ _ _ h4
      have n2 : vs'.size = ys.length := by simpa using PySem.SeqAt.ReadsAll.length _ _ _ k4
      rw [PySem.W.dataLt_tuple, ← PySem.W.firstLt_toks xs ys hal, ← n1, ← n2] at hq
      rw [PyProof.Rows.oneLt'_eq]
      simp only [if_true]
      refine wpAny_bind (wpAny_cRoomFor (PySem.SeqAt.room_here hu) ?_)
      refine wpAny_bind (wpAny_callSpecialIfBound?_slot (T := "tuple") ⟨_, h1, h2⟩ PySem.F.slot_tuple_lt (call_tuple_lt (e := PySem.SeqAt.pairEq xs ys) (r := fun j => PySem.W.dataLt (xs.getD j .none) (ys.getD j .none)) ⟨_, h1, h2, _, h3⟩ ⟨_, k1, k2, _, k3⟩ (fun j j1 j2 => ?_) (fun j j1 j2 hj => ?_) ?_))
      · have := PySem.W.eqAt_alikeAll xs ys A.in1 s vs.toList vs'.toList _ _ h4 k4 hal (PySem.SeqAt.room_in hu) j (by simpa using j1) (by simpa using j2)
        simpa using this
      · have := PySem.W.rcLt_alikeAll xs ys A.in1 s vs.toList vs'.toList _ _ h4 k4 hal (PySem.SeqAt.room_in hu) j (by simpa using j1) (by simpa using j2) hj
        simpa using this
      · exact wpAny_truthy_bool hq
def IsTupV (h : Heap) (v : Value) : Prop := ∃ a o xs n, v = .ref a ∧ h.get? a = some o ∧ o.cls = .type "tuple" ∧ o.data = .seq xs n
theorem firsts_any {M : Model} : ∀ (vs : List Value) {Q : List (Option Value) → Shared → Prop}, (∀ v ∈ vs, IsTupV s.heap v) → (∀ fs, Q fs s) → wpAny M A (vs.mapM PyProof.Rows.firstOfTuple') Q E s
  | [], _, _, h => by rw [List.mapM_nil]; exact wpAny_pure (h _)
  | v :: vs, Q, t, h => by
    obtain ⟨a, o, xs, n, rfl, ho, hc, hd⟩ := t v (List.mem_cons_self ..)
    rw [List.mapM_cons]
    refine wpAny_bind ?_
    rw [PySem.W.kas_first_eq]
    refine wpAny_bind (PySem.W.Looks.here (show PySem.W.Looks M s.heap (typeOf (.ref a)) o.cls from (PySem.W.Looks.ld ho).andThen .now) ?_)
    rw [hc, if_neg (by first | decide | simp)]
    refine wpAny_bind (PyProof.Rows.listItems_at ho hd (wpAny_pure ?_))
    exact wpAny_bind (firsts_any vs (Q := fun bs s' => wpAny M A (pure (xs[0]? :: bs)) Q E s') (fun v hv => t v (List.mem_cons_of_mem _ hv)) fun fs => wpAny_pure (h _))
theorem kind_tup0 {M : Model} {a0 : Addr} {o0 : Obj} {n0 : Nat} {vs : List Value} {Q : PyProof.Rows.SortKind → Shared → Prop} (ho : s.heap.get? a0 = some o0) (hc : o0.cls = .type "tuple") (hd : o0.data = .seq #[] n0) (ht : ∀ v ∈ vs, IsTupV s.heap v) (h : Q PyProof.Rows.oneType' s) :
    wpAny M A (PyProof.Rows.keyKind' (Value.ref a0 :: vs).toArray) Q E s := by
  have ht' : ∀ v ∈ Value.ref a0 :: vs, PySem.W.Looks M s.heap (typeOf v) (.type "tuple") := fun v hv => by
    have : IsTupV s.heap v := by
      rcases List.mem_cons.mp hv with rfl | hv
      · exact ⟨a0, o0, _, n0, rfl, ho, hc, hd⟩
      · exact ht v hv
    obtain ⟨a, o, xs, n, rfl, ho, hc, hd⟩ := this
    exact hc ▸ (PySem.W.Looks.ld ho).andThen .now
  rw [PyProof.Rows.kat_kind_eq, List.mapM_toArray, map_eq_pure_bind]
  refine wpAny_bind (wpAny_bind ?_)
  rw [List.mapM_cons]
  refine wpAny_bind ?_
  rw [PySem.W.kas_first_eq]
  refine wpAny_bind (PySem.W.Looks.here (ht' _ (List.mem_cons_self ..)) ?_)
  rw [if_neg (by first | decide | simp)]
  refine wpAny_bind (PyProof.Rows.listItems_at ho hd (wpAny_pure ?_))
  refine wpAny_bind (firsts_any vs ht fun fs => ?_)
  refine wpAny_pure (wpAny_pure ?_)
  rw [if_neg (by simp), if_neg (by simp)]
  rw [PyProof.Rows.oneTypeOnly'_eq, List.mapM_toArray, map_eq_pure_bind]
  refine wpAny_bind (wpAny_bind (wpAny_bind (PySem.W.kas_mapM (r := Value.type "tuple") _ (fun v hv Q' hq => (ht' v hv).here hq) (wpAny_pure ?_))))
  have hall : ((List.map (fun _ => Value.type "tuple") (Value.ref a0 :: vs)).toArray.all fun x => x == Value.type "tuple") = true := by
    simp only [List.all_toArray, List.all_map, List.all_eq_true]
    intro _ _
    exact beq_self_eq_true _
  have h0 : (List.map (fun _ => Value.type "tuple") (Value.ref a0 :: vs)).toArray[0]? = some (Value.type "tuple") := by simp
  rw [h0]
  simp only [hall, if_true]
  exact wpAny_pure (wpAny_pure h)
theorem reads_tup {h : Heap} {v : Value} {xs : List PyData} {as : List Addr} (r : Reads h v (.tuple xs) as) : IsTupV h v := by
  cases r with
  | @tuple l o vs n _ _ h1 h2 h3 h4 => exact ⟨l, o, vs, n, rfl, h1, h2, h3⟩
theorem sortsT {vs : List Value} {ds : List PyData} (e : PySem.W.EachIs (fun v d => ∃ as, Reads s.heap v d as) vs ds) (hal : PySem.W.AllAlike ds) (h0 : ∃ r, ds = .tuple [] :: r) (ht : ∀ d ∈ ds, ∃ xs, d = .tuple xs) (hu : ∀ d, d ∈ ds → A.units + d.depth < cLine) :
    PySem.W.SortsAt prog w A s (PySem.W.dataKind s.heap ds) vs := by
  refine ⟨fun v hv => ?_, PyProof.Rows.oneType', fun E x y a b Q ha hb hq => ?_, fun _ E Q hq => ?_⟩
  · obtain ⟨d, hd, as, r⟩ := e.left v hv
    exact ⟨_, PySem.W.dataKind_some hal hd r⟩
  · obtain ⟨d1, as1, hd1, ra, rfl⟩ := PySem.W.dataKind_inv ha
    obtain ⟨d2, as2, hd2, rb, rfl⟩ := PySem.W.dataKind_inv hb
    have h12 := hal d1 hd1 d2 hd2
    obtain ⟨xs, rfl⟩ := ht d1 hd1
    obtain ⟨ys, rfl⟩ := ht d2 hd2
    rw [PyProof.Rows.keyLt'_oneType]
    exact oneLt_tup ra rb (by simpa [PySem.W.alike] using h12) (Nat.lt_of_le_of_lt (Nat.add_le_add_left (Nat.min_le_left _ _) _) (hu _ hd1)) hq
  · obtain ⟨r, rfl⟩ := h0
    cases e with
    | cons h1 h2 =>
      obtain ⟨as, r1⟩ := h1
      have tl : ∀ v ∈ _, IsTupV s.heap v := fun v hv => by
        obtain ⟨d, hd, as, rr⟩ := h2.left v hv
        obtain ⟨xs, rfl⟩ := ht d (List.mem_cons_of_mem _ hd)
        exact reads_tup rr
      cases r1 with
      | @tuple l o vs n _ _ k1 k2 k3 k4 =>
        have k5 : vs = #[] := by
          generalize hvs : vs.toList = l at k4
          cases k4
          exact Array.toList_inj.mp hvs
        subst k5
        exact kind_tup0 k1 k2 k3 tl hq
theorem sorted_tup0 {Q : Value → Shared → Prop} {l : Addr} {us : List Value} {bs : List (V × PyData)} (hl : s.heap.IsList l us.toArray) (e1 : PySem.W.EachIs (fun u (b : V × PyData) => RelV b.1 u) us bs) (e2 : PySem.W.EachIs (fun u (b : V × PyData) => ∃ as, Reads s.heap u b.2 as) us bs)
    (hal : PySem.W.AllAlike (bs.map Prod.snd)) (h0 : ∃ r, bs.map Prod.snd = .tuple [] :: r) (ht : ∀ d ∈ bs.map Prod.snd, ∃ xs, d = .tuple xs) (hL : bs.length ≤ sizeLine) (hu : ∀ b, b ∈ bs → A.units + 2 + b.2.depth < cLine)
    (h : ∀ out : List Value, PySem.W.EachIs (fun u (b : V × PyData) => RelV b.1 u) out (bs.mergeSort (PySem.W.dataLe false Prod.snd)) → Q (.ref (s.heap.objs.size + 1)) { s with heap := PyProof.Rows.sortedAll s.heap us out.toArray }) :
    wpAny (model prog w) A (call (.builtin "sorted") [.ref l]) Q E s := by
  have er' : PySem.W.EachIs (fun v (b : V × PyData) => ∃ as, Reads (PySem.W.sortingHeap (PySem.W.copyHeap s.heap us) (s.heap.objs.size + 1) us) v b.2 as) us bs := e2.mono fun _ _ ⟨as, r⟩ => ⟨as, PyProof.Rows.Reads.keeps (fun _ _ => PySem.W.sorting_copy_old) r⟩
  exact PySem.W.sorted_vals hl (sortsT (s := { s with heap := PySem.W.sortingHeap (PySem.W.copyHeap s.heap us) (s.heap.objs.size + 1) us }) (PySem.W.each_map (R := fun v d => ∃ as, Reads (PySem.W.sortingHeap (PySem.W.copyHeap s.heap us) (s.heap.objs.size + 1) us) v d as) Prod.snd er') hal h0 ht (PySem.W.bound_map hu)) (by rw [e1.length]; exact hL)
    (h _ (PySem.W.sortVals_data (enc := Prod.snd) false e1 er' hal))
end
def isTupD : PyData → Bool
  | .tuple _ => true
  | _ => false
def tup0 : List PyData → Bool
  | .tuple [] :: r => r.all isTupD
  | _ => false
theorem tup0_ok {ds : List PyData} (h : tup0 ds = true) : (∃ r, ds = .tuple [] :: r) ∧ ∀ d ∈ ds, ∃ xs, d = .tuple xs := by
  cases ds with
  | nil => cases h
  | cons d r =>
    cases d with
    | tuple xs =>
      cases xs with
      | nil =>
        refine ⟨⟨r, rfl⟩, fun d hd => ?_⟩
        rcases List.mem_cons.mp hd with rfl | hd
        · exact ⟨_, rfl⟩
        · have := List.all_eq_true.mp (show r.all isTupD = true from h) d hd
          cases d with
          | tuple xs => exact ⟨_, rfl⟩
          | _ => cases this
      | cons x xs => cases h
    | _ => cases h
def allAl (ds : List PyData) : Bool := ds.all fun x => ds.all fun y => PySem.W.alike x y
theorem allAl_ok {ds : List PyData} (h : allAl ds = true) : PySem.W.AllAlike ds := fun x hx y hy => by
  unfold allAl at h
  exact List.all_eq_true.mp (List.all_eq_true.mp h x hx) y hy
def tupNe : PyData → Bool
  | .tuple (_ :: _) => true
  | _ => false
def notTN : PyData → Bool
  | .none => false
  | .tuple _ => false
  | _ => true
def sortB (ds : List PyData) : Bool := allAl ds && ((ds.all tupNe || tup0 ds) || ds.all notTN || (ds.length == 1 && ds.all fun x => match x with
  | .none => false
  | _ => true))
theorem tupNe_ok {ds : List PyData} (h : ds.all tupNe = true) : PySem.W.Sortable ds := .inl fun d hd => by
  have := List.all_eq_true.mp h d hd
  cases d with
  | tuple xs => cases xs with
    | nil => cases this
    | cons x r => exact ⟨x, r, rfl⟩
  | _ => cases this
theorem notTN_ok {ds : List PyData} (h : ds.all notTN = true) : PySem.W.Sortable ds := .inr fun d hd => by
  have := List.all_eq_true.mp h d hd
  refine ⟨?_, fun xs => ?_⟩
  · rintro rfl; cases this
  · rintro rfl; cases this
def rSortW (K : PySem.W.Frag) : List V → Hp → VK → Prop := fun xs H Q => ∃ (p : Addr) (vs : List V) (ds : List PyData), xs = [.ref p] ∧ SqL K H p vs ∧ vs.length ≤ 1000000 ∧ DpAll K H vs ds ∧ PyData.depthAll ds ≤ 60 ∧ sortB ds = true ∧
  ∀ l, H l = none → Q (.ref l) (upd H l (.lst (((vs.zip ds).mergeSort (PySem.W.dataLe false Prod.snd)).map Prod.fst)))
theorem dp_each {pins : List (Addr × Obj)} {σ : St} {H : Hp} {s : Shared} (I : Inv X pins σ H s) : ∀ {vs : List V} {ds : List PyData} {us : List Value}, DpAll X.K H vs ds → Vals vs us →
    PySem.W.EachIs (fun u (b : V × PyData) => RelV b.1 u) us (vs.zip ds) ∧ PySem.W.EachIs (fun u (b : V × PyData) => ∃ as, Reads s.heap u b.2 as) us (vs.zip ds) ∧ (vs.zip ds).map Prod.snd = ds ∧ (vs.zip ds).length = vs.length
  | [], ds, us, hd, hv => by
    cases hd; cases hv
    exact ⟨.nil, .nil, rfl, rfl⟩
  | v :: vs, ds, us, hd, hv => by
    cases hd with
    | cons d1 dr =>
      cases hv with
      | cons r1 rr =>
        obtain ⟨a, b, c, e⟩ := dp_each I dr rr
        exact ⟨.cons r1 a, .cons (Dp.reads I _ _ _ d1 r1) b, by simp [c], by simpa using e⟩
theorem vals_each : ∀ {us : List Value} {bs : List (V × PyData)}, PySem.W.EachIs (fun u (b : V × PyData) => RelV b.1 u) us bs → Vals (bs.map Prod.fst) us
  | _, _, .nil => .nil
  | _, _, .cons h t => .cons h (vals_each t)
theorem depth_mem : ∀ {ds : List PyData} {d : PyData}, d ∈ ds → d.depth ≤ PyData.depthAll ds
  | [], _, h => by cases h
  | x :: xs, d, h => by
    show d.depth ≤ max x.depth (PyData.depthAll xs)
    rcases List.mem_cons.mp h with rfl | h
    · exact Nat.le_max_left _ _
    · exact Nat.le_trans (depth_mem h) (Nat.le_max_right _ _)
theorem sorted_one {prog : Program} {w : World} {A : Around} {E : Value → Shared → Prop} {s : Shared} {Q : Value → Shared → Prop} {l : Addr} {u : Value} {x : V} {d : PyData} (hl : s.heap.IsList l [u].toArray) (rx : RelV x u) (rd : ∃ as, Reads s.heap u d as) (hal : PySem.W.alike d d = true) (hn : d ≠ .none) (hu : A.units + 2 + d.depth < cLine)
    (h : ∀ out : List Value, PySem.W.EachIs (fun u (b : V × PyData) => RelV b.1 u) out (([x].zip [d]).mergeSort (PySem.W.dataLe false Prod.snd)) → Q (.ref (s.heap.objs.size + 1)) { s with heap := PyProof.Rows.sortedAll s.heap [u] out.toArray }) :
    wpAny (model prog w) A (call (.builtin "sorted") [.ref l]) Q E s := by
  obtain ⟨as, r⟩ := rd
  have r' := PyProof.Rows.Reads.keeps (h' := PySem.W.sortingHeap (PySem.W.copyHeap s.heap [u]) (s.heap.objs.size + 1) [u]) (fun _ _ => PySem.W.sorting_copy_old) r
  refine PySem.W.sorted_vals hl (sortsOne (s := { s with heap := PySem.W.sortingHeap (PySem.W.copyHeap s.heap [u]) (s.heap.objs.size + 1) [u] }) r' hal hn hu) (by rw [sizeLine_eq]; simp) (h _ ?_)
  exact PySem.W.sortVals_data (enc := Prod.snd) (bs := [(x, d)]) false (.cons rx .nil) (.cons ⟨as, r'⟩ .nil) (fun a ha b hb => by rw [List.mem_singleton.mp ha, List.mem_singleton.mp hb]; exact hal)
theorem call_sortedW (hu : X.A.units + 65 < cLine) : CallR X (.builtin "sorted") (rSortW X.K) := by
  intro pins s σ H vs us Q I r h
  obtain ⟨p, xs, ds, rfl, hs, h6, hd, hdep, hb, q⟩ := h
  obtain ⟨its, rv, hl, _⟩ := I.list hs
  rw [Vals.ref1 r]
  obtain ⟨e1, e2, e3, e4⟩ := dp_each I hd rv
  have hdm : ∀ b, b ∈ xs.zip ds → X.A.units + 2 + b.2.depth < cLine := fun b hb => by
    have : b.2 ∈ ds := by rw [← e3]; exact List.mem_map_of_mem hb
    have := depth_mem this
    omega
  have fin : ∀ out : List Value, PySem.W.EachIs (fun u (b : V × PyData) => RelV b.1 u) out ((xs.zip ds).mergeSort (PySem.W.dataLe false Prod.snd)) →
      EP X pins σ Q (.ref (s.heap.objs.size + 1)) { s with heap := PyProof.Rows.sortedAll s.heap its out.toArray } := by
    intro out eo
    obtain ⟨ep, he'⟩ := PyProof.Rows.sortedAll_at s.heap its out.toArray
    have hv := vals_each eo
    have hlen : (((xs.zip ds).mergeSort (PySem.W.dataLe false Prod.snd)).map Prod.fst).length ≤ sizeLine := by
      rw [List.length_map, List.length_mergeSort, e4]; exact mill h6
    exact ⟨.ref _, upd H (s.heap.objs.size + 1) (.lst (((xs.zip ds).mergeSort (PySem.W.dataLe false Prod.snd)).map Prod.fst)), I.laid (t' := s.toks) (fun _ _ => PyProof.Rows.sortedAll_old) (Nat.le_succ _) ⟨hlen, out.toArray.toList, ep, hv, he'⟩, rfl, q _ (I.hok.fresh (Nat.le_succ _))⟩
  unfold sortB at hb
  rw [Bool.and_eq_true] at hb
  have hal := allAl_ok hb.1
  have hb2 := hb.2
  rw [Bool.or_eq_true, Bool.or_eq_true] at hb2
  have main : PySem.W.Sortable ds → _ := fun hk => PySem.W.sorted_data (E := X.xe) (Q := EP X pins σ Q) (prog := X.prog) (w := X.w) (A := X.A) (s := s) hl.isList e1 e2 (by rw [e3]; exact hal) (by rw [e3]; exact hk) (by rw [e4]; exact mill h6) hdm
    fun out ho eo => fin out eo
  rcases hb2 with (hk | hk) | hk
  · rcases Bool.or_eq_true _ _ ▸ hk with hk | hk
    · exact main (tupNe_ok hk)
    · obtain ⟨k1, k2⟩ := tup0_ok hk
      exact sorted_tup0 hl.isList e1 e2 (by rw [e3]; exact hal) (by rw [e3]; exact k1) (by rw [e3]; exact k2) (by rw [e4]; exact mill h6) hdm fun out eo => fin out eo
  · exact main (notTN_ok hk)
  · rw [Bool.and_eq_true, beq_iff_eq] at hk
    obtain ⟨h1, hnn⟩ := hk
    obtain ⟨d, rfl⟩ := List.length_eq_one_iff.mp h1
    cases hd with
    | cons d1 dr =>
      cases dr
      cases rv with
      | cons r1 rr =>
        cases rr
        exact sorted_one hl.isList r1 (Dp.reads I _ _ _ d1 r1) (hal d (List.mem_singleton_self d) d (List.mem_singleton_self d)) (by rintro rfl; cases hnn) (hdm (_, d) (List.mem_singleton_self _)) fun out eo => fin out eo
/-! the results -/
def sortedW (ws : List W) (S : Sto) : R W := match ws with
  | [w] => match getL S w with
    | some us => match us.mapM (W.pd S 59) with
      | some ds => if us.length ≤ 1000000 ∧ sortB ds = true then .ok (.loc S.length) (S ++ [.lst (((us.zip ds).mergeSort (PySem.W.dataLe false Prod.snd)).map Prod.fst)]) else .no
      | none => .no
    | none => .no
  | _ => .no
theorem mapM_len {A B : Type} {g : A → Option B} : ∀ {l : List A} {r : List B}, l.mapM g = some r → r.length = l.length
  | [], r, e => by cases (show some [] = some r from e); rfl
  | a :: l, r, e => by
    rw [mapM_cons] at e
    cases e1 : g a with
    | none => rw [e1] at e; cases e
    | some b =>
      rw [e1] at e
      cases e2 : l.mapM g with
      | none => rw [e2] at e; cases e
      | some r' =>
        rw [e2] at e
        cases e
        rw [List.length_cons, List.length_cons, mapM_len e2]
theorem rpl_zip {f : List Addr} {H : Hp} : ∀ {ws : List W} {vs : List V}, Rpl X.K X.mg f H ws vs → ∀ z ∈ ws.zip vs, Rp X.K X.mg f H z.1 z.2
  | [], _, _, z, hz => by simp at hz
  | w :: ws, vs, h, z, hz => by
    unfold Rpl at h
    obtain ⟨v, r, rfl, q, t⟩ := h
    rcases List.mem_cons.mp (show z ∈ (w, v) :: ws.zip r from hz) with rfl | hz
    · exact q
    · exact rpl_zip t z hz
theorem rpl_map {A : Type} {f : List Addr} {H : Hp} (g : A → W) (k : A → V) : ∀ {l : List A}, (∀ z ∈ l, Rp X.K X.mg f H (g z) (k z)) → Rpl X.K X.mg f H (l.map g) (l.map k)
  | [], _ => Rpl.nil
  | a :: l, h => .cons (h a (List.mem_cons_self ..)) (rpl_map g k fun z hz => h z (List.mem_cons_of_mem _ hz))
theorem snd_sorted : SndL X Z (rSortW X.K) sortedW := by
  intro f H st S ws vs Q s r p
  unfold sortedW at p
  split at p
  · rename_i w
    obtain ⟨v, rfl, h⟩ := r.oneE
    split at p
    · rename_i us e
      split at p
      · rename_i ds e2
        split at p
        · rename_i hb
          obtain ⟨a, vs, rfl, q, rr⟩ := getL_at s h e
          obtain ⟨b1, b2, b3⟩ := pd_all (pd_ok s 59) us vs ds rr e2
          refine ⟨a, vs, ds, rfl, q, by rw [rr.length]; exact hb.1, b1, by omega, hb.2, fun l hl => ?_⟩
          have l1 := rr.length
          have l2 : ds.length = us.length := mapM_len e2
          have c1 : (((us.zip ds).mergeSort (PySem.W.dataLe false Prod.snd)).map Prod.fst) = (((us.zip (vs.zip ds)).mergeSort (PySem.W.dataLe false fun z => z.2.2)).map fun z => z.1) := by
            have : us.zip ds = (us.zip (vs.zip ds)).map fun z => (z.1, z.2.2) := by
              rw [show (fun z : W × V × PyData => (z.1, z.2.2)) = Prod.map id Prod.snd from rfl, ← List.zip_map_right, List.map_snd_zip (by omega)]
            rw [this, ← PySem.W.sort_maps (fun z : W × V × PyData => (z.1, z.2.2)) (r := PySem.W.dataLe false fun z : W × V × PyData => z.2.2) (fun _ _ _ _ => rfl), List.map_map]
            rfl
          have c2 : (((vs.zip ds).mergeSort (PySem.W.dataLe false Prod.snd)).map Prod.fst) = (((us.zip (vs.zip ds)).mergeSort (PySem.W.dataLe false fun z => z.2.2)).map fun z => z.2.1) := by
            have : vs.zip ds = (us.zip (vs.zip ds)).map fun z => z.2 := by
              rw [List.map_snd_zip (by rw [List.length_zip]; omega)]
            rw [this, ← PySem.W.sort_maps (fun z : W × V × PyData => z.2) (r := PySem.W.dataLe false fun z : W × V × PyData => z.2.2) (fun _ _ _ _ => rfl), List.map_map, ← this]
            rfl
          rw [c2]
          rw [c1] at p
          refine p.newL s (rpl_map _ _ fun z hz => ?_) hl
          rw [List.mem_mergeSort] at hz
          have : (z.1, z.2.1) ∈ us.zip vs := by
            obtain ⟨i, hi, ei⟩ := List.mem_iff_getElem.mp hz
            rw [← ei]
            simp only [List.getElem_zip]
            rw [List.length_zip, List.length_zip] at hi
            refine List.mem_iff_getElem.mpr ⟨i, by rw [List.length_zip]; omega, ?_⟩
            simp only [List.getElem_zip]
          exact rpl_zip rr _ this
        · exact p.elim
      · exact p.elim
    · exact p.elim
  · exact p.elim
end
end Ev

set_option Elab.async false
set_option linter.all false
set_option maxRecDepth 100000
/-! Ev10: reasoning about results. -/
namespace Ev
open PySem L2
/-- what holds where an error comes out (none may, unless one says so) -/
class Exc where
  post : Xn → Sto → Prop
instance (priority := low) noExc : Exc := ⟨fun _ _ => False⟩
variable {EE : Exc}
section
variable {A B : Type}
/-- the result is there and is as Q says -/
def wpR [EX : Exc] (r : R A) (Q : A → Sto → Prop) : Prop := match r with
  | .ok a S => Q a S
  | .ex e S => Exc.post e S
  | .no => False
theorem wpR_ok {a : A} {S : Sto} {Q : A → Sto → Prop} : wpR (.ok a S) Q = Q a S := rfl
theorem wpR_no {Q : A → Sto → Prop} : wpR (.no) Q = False := rfl
theorem wpR_bind {r : R A} {k : A → Sto → R B} {Q : B → Sto → Prop} : wpR (r.bind k) Q = wpR r fun a S => wpR (k a S) Q := by
  cases r <;> rfl
theorem wpR_mono {r : R A} {Q Q' : A → Sto → Prop} (h : wpR r Q) (i : ∀ a S, Q a S → Q' a S) : wpR r Q' := by
  cases r with
  | ok a S => exact i a S h
  | ex _ _ => exact h
  | no => exact h
theorem wpR_ex {r : R A} {Q : A → Sto → Prop} (h : @wpR A noExc r Q) : ∃ a S, r = .ok a S ∧ Q a S := by
  cases r with
  | ok a S => exact ⟨a, S, rfl, h⟩
  | ex _ _ => exact h.elim
  | no => exact h.elim
theorem wpR_ite {c : Prop} [Decidable c] {x y : R A} {Q : A → Sto → Prop} : wpR (if c then x else y) Q = if c then wpR x Q else wpR y Q := by
  by_cases h : c <;> simp [h]
/-- a statement's end -/
def wpS [EX : Exc] (r : RS) (Q : RS → Prop) : Prop := match r with
  | .no => False
  | .ex e _ S => Exc.post e S
  | r => Q r
theorem wpS_nx {s : En} {S : Sto} {Q : RS → Prop} : wpS (.nx s S) Q = Q (.nx s S) := rfl
theorem wpS_rt {w : W} {S : Sto} {Q : RS → Prop} : wpS (.rt w S) Q = Q (.rt w S) := rfl
theorem wpS_mono {r : RS} {Q Q' : RS → Prop} (h : wpS r Q) (i : ∀ r, Q r → Q' r) : wpS r Q' := by
  cases r <;> first | exact i _ h | exact h
/-- what follows a statement -/
def Kn [EX : Exc] (b : SV) (Q : RS → Prop) : RS → Prop
  | .nx s S => wpS (b s S) Q
  | r => Q r
section
variable {a b : SV} {s : En} {S : Sto} {Q : RS → Prop} {m : EV} {c : BV} {w : W}
theorem Kn_nx : Kn b Q (.nx s S) = wpS (b s S) Q := rfl
theorem Kn_rt : Kn b Q (.rt w S) = Q (.rt w S) := rfl
theorem Kn_bk : Kn b Q (.bk s S) = Q (.bk s S) := rfl
theorem Kn_ct : Kn b Q (.ct s S) = Q (.ct s S) := rfl
theorem wpS_seq : wpS (sSeq a b s S) Q = wpS (a s S) (Kn b Q) := by
  unfold sSeq
  cases e : a s S <;> rfl
theorem wpS_toS {r : R A} {k : A → Sto → RS} : wpS (r.toS s k) Q = wpR r fun a S => wpS (k a S) Q := by
  cases r <;> rfl
theorem wpS_ret : wpS (sRet m s S) Q = wpR (m s S) fun w S => Q (.rt w S) := by unfold sRet; rw [wpS_toS]; rfl
theorem wpS_expr : wpS (sExpr m s S) Q = wpR (m s S) fun _ S => Q (.nx s S) := by unfold sExpr; rw [wpS_toS]; rfl
theorem wpS_set {i : Nat} : wpS (sSet i m s S) Q = wpR (m s S) fun w S => Q (.nx (s.set i (some w)) S) := by unfold sSet; rw [wpS_toS]; rfl
theorem wpS_ite {p : Prop} [Decidable p] {x y : RS} : wpS (if p then x else y) Q = if p then wpS x Q else wpS y Q := by
  by_cases h : p <;> simp [h]
theorem wpS_if : wpS (sIf c a b s S) Q = wpR (c s S) fun k S => if k = true then wpS (a s S) Q else wpS (b s S) Q := by
  unfold sIf; rw [wpS_toS]; congr 1; funext k S; rw [wpS_ite]
theorem wpS_nil : wpS (sNil s S) Q = Q (.nx s S) := rfl
theorem wpS_cnt : wpS (sCnt s S) Q = Q (.ct s S) := rfl
theorem wpS_brk : wpS (sBrk s S) Q = Q (.bk s S) := rfl
theorem wpS_retN : wpS (sRetN s S) Q = Q (.rt .non S) := rfl
theorem wpS_asg {t : Tg} : wpS (sAsg t m s S) Q = wpR (m s S) fun w S => ∃ s', Tg.put t w s = some s' ∧ Q (.nx s' S) := by
  unfold sAsg; rw [wpS_toS]; congr 1; funext w S
  cases e : Tg.put t w s with
  | none => simp [wpS]
  | some s' => simp [wpS]
theorem wpS_put {mv mo mi : EV} : wpS (sPut mv mo mi s S) Q = wpR (mv s S) fun v S => wpR (mo s S) fun o S => wpR (mi s S) fun i S => ∃ S', setO o i v S = some S' ∧ Q (.nx s S') := by
  unfold sPut; rw [wpS_toS]; congr 1; funext v S; rw [wpS_toS]; congr 1; funext o S; rw [wpS_toS]; congr 1; funext i S
  cases e : setO o i v S with
  | none => simp [wpS]
  | some s' => simp [wpS]
end
/-- a def's end -/
def onRet (Q : W → Sto → Prop) : RS → Prop
  | .nx _ S => Q .non S
  | .rt w S => Q w S
  | _ => False
/-- a loop turn's end -/
def onNx (I : En → Sto → Prop) (Q : RS → Prop) : RS → Prop
  | .nx s S => I s S
  | .ct s S => I s S
  | .bk s S => Q (.nx s S)
  | .rt w S => Q (.rt w S)
  | _ => False
section
variable {Q : W → Sto → Prop} {I : En → Sto → Prop} {P : RS → Prop} {s : En} {S : Sto} {w : W}
theorem onRet_nx : onRet Q (.nx s S) = Q .non S := rfl
theorem onRet_rt : onRet Q (.rt w S) = Q w S := rfl
theorem onNx_nx : onNx I P (.nx s S) = I s S := rfl
theorem onNx_ct : onNx I P (.ct s S) = I s S := rfl
theorem onNx_bk : onNx I P (.bk s S) = P (.nx s S) := rfl
theorem onNx_rt : onNx I P (.rt w S) = P (.rt w S) := rfl
end
theorem wpR_run {n : Nat} {m : SV} {ws : List W} {S : Sto} {Q : W → Sto → Prop} : wpR (runF n m ws S) Q = wpS (m (startE n ws) S) (onRet Q) := by
  unfold runF
  cases m (startE n ws) S <;> rfl
section
variable {s : En} {S : Sto} {Q : W → Sto → Prop} {w : W} {o : Option W} {i : Nat}
theorem var_0 : eVar 0 (some w :: s) S = .ok w S := rfl
theorem var_S : eVar (i + 1) (o :: s) S = eVar i s S := rfl
theorem wpR_lc {mi : IV} {t : Tg} {c : BV} {m : EV} {vs : List Nat} : wpR (eLc mi t c m vs s S) Q = wpR (mi s S) fun it S => wpR (lcLoop it.item t c m (wipeE s vs) it.fuel 0 [] S) fun acc S => Q (.loc S.length) (S ++ [.lst acc]) := by
  unfold eLc
  rw [wpR_bind]
  congr 1; funext it S
  rw [wpR_bind]; rfl
theorem wpS_for {mi : IV} {t : Tg} {b : SV} {Q : RS → Prop} : wpS (sFor mi t b s S) Q = wpR (mi s S) fun it S => wpS (loopS it.item t b it.fuel 0 s S) Q := by
  unfold sFor; rw [wpS_toS]
end
/-- a loop over len items -/
theorem wp_loop {it : Sto → Nat → Option (Option W)} {t : Tg} {b : SV} {Q : RS → Prop} {len : Nat} (I : Nat → En → Sto → Prop)
    (hs : ∀ i s S, i < len → I i s S → ∃ w s1, it S i = some (some w) ∧ Tg.put t w s = some s1 ∧ wpS (b s1 S) fun r => match r with
      | .nx s2 S2 => I (i + 1) s2 S2
      | .ct s2 S2 => I (i + 1) s2 S2
      | .bk s2 S2 => Q (.nx s2 S2)
      | .rt w S2 => Q (.rt w S2)
      | _ => False)
    (hend : ∀ s S, I len s S → it S len = some none ∧ Q (.nx s S)) : ∀ (n i : Nat) (s : En) (S : Sto), len < i + n → i ≤ len → I i s S → wpS (loopS it t b n i s S) Q
  | 0, i, s, S, h1, h2, _ => by omega
  | n + 1, i, s, S, h1, h2, hi => by
    unfold loopS
    rcases Nat.lt_or_ge i len with h | h
    · obtain ⟨w, s1, e1, e2, hb⟩ := hs i s S h hi
      rw [e1]
      dsimp only
      rw [e2]
      dsimp only
      cases e3 : b s1 S with
      | nx s2 S2 => rw [e3] at hb; exact wp_loop I hs hend n (i + 1) s2 S2 (by omega) (by omega) hb
      | ct s2 S2 => rw [e3] at hb; exact wp_loop I hs hend n (i + 1) s2 S2 (by omega) (by omega) hb
      | bk s2 S2 => rw [e3] at hb; exact hb
      | rt w2 S2 => rw [e3] at hb; exact hb
      | ex x s2 S2 => rw [e3] at hb; exact hb
      | no => rw [e3] at hb; exact hb
    · obtain rfl : i = len := by omega
      obtain ⟨e1, hq⟩ := hend s S hi
      rw [e1]
      exact hq
theorem wp_loopN {it : Sto → Nat → Option (Option W)} {t : Tg} {b : SV} {Q : RS → Prop} (len : Nat) (I : Nat → En → Sto → Prop) {n : Nat} {s : En} {S : Sto} (hn : len < n) (h0 : I 0 s S)
    (hs : ∀ i s S, i < len → I i s S → ∃ w s1, it S i = some (some w) ∧ Tg.put t w s = some s1 ∧ wpS (b s1 S) (onNx (I (i + 1)) Q))
    (hend : ∀ s S, I len s S → it S len = some none ∧ Q (.nx s S)) : wpS (loopS it t b n 0 s S) Q := by
  refine wp_loop I (fun i s S hi h => ?_) hend n 0 s S (by omega) (by omega) h0
  obtain ⟨w, s1, e1, e2, e3⟩ := hs i s S hi h
  exact ⟨w, s1, e1, e2, wpS_mono e3 fun r hr => by cases r <;> exact hr⟩
theorem wp_lcl {it : Sto → Nat → Option (Option W)} {t : Tg} {c : BV} {m : EV} {s0 : En} {Q : List W → Sto → Prop} {len : Nat} (I : Nat → List W → Sto → Prop)
    (hs : ∀ i acc S, i < len → I i acc S → ∃ w s1, it S i = some (some w) ∧ Tg.put t w s0 = some s1 ∧ @wpR _ noExc (c s1 S) fun k S => if k = true then @wpR _ noExc (m s1 S) fun x S => acc.length < 1000000 ∧ I (i + 1) (acc ++ [x]) S else I (i + 1) acc S)
    (hend : ∀ acc S, I len acc S → it S len = some none ∧ Q acc S) : ∀ (n i : Nat) (acc : List W) (S : Sto), len < i + n → i ≤ len → I i acc S → wpR (lcLoop it t c m s0 n i acc S) Q
  | 0, i, acc, S, h1, h2, _ => by omega
  | n + 1, i, acc, S, h1, h2, hi => by
    unfold lcLoop
    rcases Nat.lt_or_ge i len with h | h
    · obtain ⟨w, s1, e1, e2, hb⟩ := hs i acc S h hi
      rw [e1]
      dsimp only
      rw [e2]
      dsimp only
      cases e3 : c s1 S with
      | ok k S1 =>
        rw [e3] at hb
        cases k with
        | true =>
          have hb' : @wpR _ noExc (m s1 S1) fun x S => acc.length < 1000000 ∧ I (i + 1) (acc ++ [x]) S := hb
          dsimp only
          cases e4 : m s1 S1 with
          | ok x S2 =>
            rw [e4] at hb'
            dsimp only
            rw [if_pos hb'.1]
            exact wp_lcl I hs hend n (i + 1) _ S2 (by omega) (by omega) hb'.2
          | ex _ _ => rw [e4] at hb'; exact hb'.elim
          | no => rw [e4] at hb'; exact hb'.elim
        | false => exact wp_lcl I hs hend n (i + 1) acc S1 (by omega) (by omega) hb
      | ex _ _ => rw [e3] at hb; exact hb.elim
      | no => rw [e3] at hb; exact hb.elim
    · obtain rfl : i = len := by omega
      obtain ⟨e1, hq⟩ := hend acc S hi
      rw [e1]
      exact hq
theorem wp_lclN {it : Sto → Nat → Option (Option W)} {t : Tg} {c : BV} {m : EV} {s0 : En} {Q : List W → Sto → Prop} (len : Nat) (I : Nat → List W → Sto → Prop) {n : Nat} {S : Sto} (hn : len < n) (h0 : I 0 [] S)
    (hs : ∀ i acc S, i < len → I i acc S → ∃ w s1, it S i = some (some w) ∧ Tg.put t w s0 = some s1 ∧ @wpR _ noExc (c s1 S) fun k S => if k = true then @wpR _ noExc (m s1 S) fun x S => acc.length < 1000000 ∧ I (i + 1) (acc ++ [x]) S else I (i + 1) acc S)
    (hend : ∀ acc S, I len acc S → it S len = some none ∧ Q acc S) : wpR (lcLoop it t c m s0 n 0 [] S) Q := wp_lcl I hs hend n 0 [] S (by omega) (by omega) h0
end
theorem ifF {c P : Prop} [Decidable c] : (if c then P else False) = (c ∧ P) := by by_cases h : c <;> simp [h]
theorem cmul_r {i j : Int} (h1 : -(2 ^ 64) < j) (h2 : j < 2 ^ 64) : CMul i j := .inr ⟨h1, h2⟩
theorem cmul_l {i j : Int} (h1 : -(2 ^ 64) < i) (h2 : i < 2 ^ 64) : CMul i j := .inl ⟨h1, h2⟩
theorem ixN_nat {n j : Nat} (h : j < n) : ixN n (j : Int) = some j := by
  unfold ixN
  rw [if_pos (by omega), if_pos (by omega)]
  simp
theorem ixN_of {n : Nat} {i : Int} (h0 : 0 ≤ i) (h : i < n) : ixN n i = some i.toNat := by
  unfold ixN
  rw [if_pos h0, if_pos h]
theorem atI_of {A : Type} {l : List A} {i : Int} {w : A} (h0 : 0 ≤ i) (h : l[i.toNat]? = some w) : atI l i = some w := by
  have := (List.getElem?_eq_some_iff.mp h).1
  unfold atI
  rw [ixN_of h0 (by omega)]
  exact h
theorem atI_nat {A : Type} {l : List A} {j : Nat} {w : A} (h : l[j]? = some w) : atI l (j : Int) = some w := atI_of (by omega) (by simpa using h)
section
variable {A : Type} {a b c d e : A} {l : List A}
theorem atI_0 : atI (a :: l) 0 = some a := atI_of (by omega) rfl
theorem atI_1 : atI (a :: b :: l) 1 = some b := atI_of (by omega) rfl
theorem atI_2 : atI (a :: b :: c :: l) 2 = some c := atI_of (by omega) rfl
theorem atI_3 : atI (a :: b :: c :: d :: l) 3 = some d := atI_of (by omega) rfl
theorem atI_4 : atI (a :: b :: c :: d :: e :: l) 4 = some e := atI_of (by omega) rfl
end
/-! ### operations on values known in part -/
section
variable {i j : Int} {x y : Str} {S : Sto} {a b : List W} {m n : Nat} {w v : W}
theorem addW_ii : addW (.int i) (.int j) S = .ok (.int (i + j)) S := rfl
theorem addW_ss : addW (.str x) (.str y) S = if x.length + y.length ≤ 1000000 then .ok (.str (x ++ y)) S else .no := rfl
theorem addW_tt : addW (.tup a) (.tup b) S = if a.length + b.length ≤ 1000000 then .ok (.tup (a ++ b)) S else .no := rfl
theorem addW_ll : addW (.loc m) (.loc n) S = match S[m]?, S[n]? with
    | some (.lst a), some (.lst b) => if a.length + b.length ≤ 1000000 then .ok (.loc S.length) (S ++ [.lst (a ++ b)]) else .no
    | _, _ => .no := rfl
theorem subW_ii : subW (.int i) (.int j) S = .ok (.int (i - j)) S := rfl
theorem mulW_ii : mulW (.int i) (.int j) S = if CMul i j then .ok (.int (i * j)) S else .no := rfl
theorem modW_ii : modW (.int i) (.int j) S = if 0 < j then .ok (.int (i % j)) S else .no := rfl
theorem fdivW_ii : fdivW (.int i) (.int j) S = if 0 < j ∧ j < 1073741824 then .ok (.int (i / j)) S else .no := rfl
theorem powW_ii : powW (.int i) (.int j) S = if 0 ≤ j ∧ j ≤ 1000000 ∧ i.natAbs < 2 ^ 64 then .ok (.int (i ^ j.toNat)) S else .no := rfl
theorem negW_i : negW (.int i) S = .ok (.int (-i)) S := rfl
theorem cmpI_ii {g : Int → Int → Bool} : cmpI g (.int i) (.int j) S = .ok (.bl (g i j)) S := rfl
theorem isW_n : isW w .non S = .ok (.bl (isNon w)) S := rfl
theorem isnW_n : isnW w .non S = .ok (.bl (!isNon w)) S := rfl
theorem isNon_n : isNon .non = true := rfl
theorem isNon_b {k : Bool} : isNon (.bl k) = false := rfl
theorem isNon_i : isNon (.int i) = false := rfl
theorem isNon_s : isNon (.str x) = false := rfl
theorem isNon_t : isNon (.tup a) = false := rfl
theorem isNon_l : isNon (.loc n) = false := rfl
theorem max2W_ii : max2W [.int i, .int j] S = .ok (.int (if j > i then j else i)) S := rfl
theorem min2W_ii : min2W [.int i, .int j] S = .ok (.int (if j < i then j else i)) S := rfl
theorem intW_i : intW [.int i] S = .ok (.int i) S := rfl
theorem intW_b {k : Bool} : intW [.bl k] S = .ok (.int (if k then 1 else 0)) S := rfl
theorem lenW_t : lenW [.tup a] S = .ok (.int a.length) S := rfl
theorem lenW_r : lenW [.rol a] S = .ok (.int a.length) S := rfl
theorem wpR_ixT {Q : W → Sto → Prop} : wpR (ixW (.tup a) (.int i) S) Q = ∃ w, atI a i = some w ∧ Q w S := by
  unfold ixW; dsimp only
  cases atI a i <;> simp [wpR]
theorem wpR_ixR {Q : W → Sto → Prop} : wpR (ixW (.rol a) (.int i) S) Q = ∃ w, atI a i = some w ∧ Q w S := by
  unfold ixW; dsimp only
  cases atI a i <;> simp [wpR]
theorem wpR_ixL {Q : W → Sto → Prop} (h : S[n]? = some (.lst a)) : wpR (ixW (.loc n) (.int i) S) Q = ∃ w, atI a i = some w ∧ Q w S := by
  unfold ixW; dsimp only; rw [h]; dsimp only
  cases atI a i <;> simp [wpR]
theorem wpR_ixS {Q : W → Sto → Prop} : wpR (ixW (.str x) (.int i) S) Q = (x.length ≤ 1000000 ∧ ∃ c, atI x.cps.toList i = some c ∧ Q (.str (SX.S [c])) S) := by
  unfold ixW; dsimp only
  by_cases h : x.length ≤ 1000000
  · rw [if_pos h]
    cases atI x.cps.toList i <;> simp [wpR, h]
  · rw [if_neg h]; simp [wpR, h]
theorem wpR_ixD {Q : W → Sto → Prop} {kvs : List (W × W)} {q : Key} {k : W} (h : S[n]? = some (.dct kvs)) (hk : W.key? k = some q) : wpR (ixW (.loc n) k S) Q = ∃ w, dlook kvs q = some w ∧ Q w S := by
  unfold ixW; dsimp only; rw [h]; dsimp only; rw [hk]; dsimp only
  cases dlook kvs q <;> simp [wpR]
theorem setO_l (h : S[n]? = some (.lst a)) {v : W} {j : Nat} (hj : ixN a.length i = some j) : setO (.loc n) (.int i) v S = some (S.set n (.lst (a.set j v))) := by
  unfold setO; dsimp only; rw [h]; dsimp only; rw [hj]
theorem setO_L (h : S[n]? = some (.lst a)) {v : W} : setO (.loc n) (.int i) v S = (ixN a.length i).map fun j => S.set n (.lst (a.set j v)) := by
  unfold setO; dsimp only; rw [h]; dsimp only
  cases ixN a.length i <;> rfl
theorem setO_d {kvs : List (W × W)} {q : Key} {k : W} (h : S[n]? = some (.dct kvs)) (hk : W.key? k = some q) (hl : kvs.length < 1000000) : setO (.loc n) k v S = some (S.set n (.dct (dput kvs k q v))) := by
  unfold setO; dsimp only; rw [h]; dsimp only; rw [hk]; dsimp only; rw [if_pos hl]
theorem lenW_l (h : S[n]? = some (.lst a)) : lenW [.loc n] S = .ok (.int a.length) S := by
  unfold lenW; dsimp only; unfold lenO; dsimp only; rw [h]
theorem lenW_d {kvs : List (W × W)} (h : S[n]? = some (.dct kvs)) : lenW [.loc n] S = .ok (.int kvs.length) S := by
  unfold lenW; dsimp only; unfold lenO; dsimp only; rw [h]
theorem lenW_s : lenW [.str x] S = if x.length ≤ 1000000 then .ok (.int x.length) S else .no := by
  unfold lenW; dsimp only; unfold lenO; dsimp only
  by_cases h : x.length ≤ 1000000
  · rw [if_pos h, if_pos h]
  · rw [if_neg h, if_neg h]
theorem listW_t : listW [.tup a] S = .ok (.loc S.length) (S ++ [.lst a]) := rfl
theorem listW_l (h : S[n]? = some (.lst a)) : listW [.loc n] S = .ok (.loc S.length) (S ++ [.lst a]) := by
  unfold listW; dsimp only; unfold itemsO; dsimp only; rw [h]
theorem listW_d {kvs : List (W × W)} (h : S[n]? = some (.dct kvs)) : listW [.loc n] S = .ok (.loc S.length) (S ++ [.lst (kvs.map (·.1))]) := by
  unfold listW; dsimp only; unfold itemsO; dsimp only; rw [h]
theorem tupleW_t : tupleW [.tup a] S = .ok (.tup a) S := rfl
theorem tupleW_l (h : S[n]? = some (.lst a)) : tupleW [.loc n] S = .ok (.tup a) S := by
  unfold tupleW; dsimp only; unfold getL; dsimp only; rw [h]
theorem appendW_l (h : S[n]? = some (.lst a)) (hl : a.length < 1000000) : appendW (.loc n) [w] S = .ok .non (S.set n (.lst (a ++ [w]))) := by
  unfold appendW; dsimp only; rw [h]; dsimp only; rw [if_pos hl]
theorem addW_l {c : List W} (h : S[m]? = some (.lst a)) (h' : S[n]? = some (.lst c)) (hl : a.length + c.length ≤ 1000000) : addW (.loc m) (.loc n) S = .ok (.loc S.length) (S ++ [.lst (a ++ c)]) := by
  rw [addW_ll, h, h']; dsimp only; rw [if_pos hl]
theorem truW_b {k : Bool} : truW (.bl k) S = .ok k S := rfl
theorem truW_n : truW .non S = .ok false S := rfl
theorem truW_i : truW (.int i) S = .ok (i != 0) S := rfl
theorem truW_t : truW (.tup a) S = .ok (!a.isEmpty) S := rfl
theorem truW_l (h : S[n]? = some (.lst a)) : truW (.loc n) S = .ok (!a.isEmpty) S := by
  unfold truW; dsimp only; rw [h]
theorem eqW_ii : eqW (.int i) (.int j) S = .ok (.bl (i == j)) S := rfl
theorem neW_ii : neW (.int i) (.int j) S = .ok (.bl (!(i == j))) S := rfl
theorem eqW_ss : eqW (.str x) (.str y) S = .ok (.bl (x == y)) S := rfl
theorem neW_ss : neW (.str x) (.str y) S = .ok (.bl (!(x == y))) S := rfl
theorem eqW_bb {b c : Bool} : eqW (.bl b) (.bl c) S = .ok (.bl (b == c)) S := rfl
theorem ixN_0 : ixN (m + 1) 0 = some 0 := ixN_of (by omega) (by omega)
theorem ixN_1 : ixN (m + 2) 1 = some 1 := ixN_of (by omega) (by omega)
theorem ixN_2 : ixN (m + 3) 2 = some 2 := ixN_of (by omega) (by omega)
theorem ixN_3 : ixN (m + 4) 3 = some 3 := ixN_of (by omega) (by omega)
theorem getE_set_self {o : O} : (S.set n o)[n]? = S[n]?.map fun _ => o := by
  by_cases h : n < S.length
  · rw [List.getElem?_set_self h, List.getElem?_eq_getElem h]; rfl
  · rw [List.getElem?_eq_none (by rw [List.length_set]; omega), List.getElem?_eq_none (by omega)]; rfl
theorem wpR_rng1 {e : EV} {s : En} {Q : IT → Sto → Prop} : wpR (iRng1 e s S) Q = wpR (e s S) fun w S => ∃ j, w = .int j ∧ (-1000000 ≤ j ∧ j ≤ 1000000) ∧ Q ⟨rngIt 0 j.toNat, j.toNat + 1⟩ S := by
  unfold iRng1
  rw [wpR_bind]; congr 1; funext w S
  cases w <;> try (simp [wpR]; done)
  rename_i k
  dsimp only
  by_cases h : -1000000 ≤ k ∧ k ≤ 1000000
  · rw [if_pos h]; simp [wpR, h]
  · rw [if_neg h]; simp only [wpR_no, eq_iff_iff, false_iff, not_exists]; rintro j ⟨e, h2, _⟩; cases e; exact h h2
theorem wpR_seq {e : EV} {s : En} {Q : IT → Sto → Prop} : wpR (iSeq e s S) Q = wpR (e s S) fun w S => ∃ k, seqLen w S = some k ∧ Q ⟨seqIt w, k + 1⟩ S := by
  unfold iSeq
  rw [wpR_bind]; congr 1; funext w S
  cases seqLen w S <;> simp [wpR]
end
theorem rng_lt {lo : Int} {n i : Nat} {S : Sto} (h : i < n) : rngIt lo n S i = some (some (.int (lo + i))) := if_pos h
theorem rng0_lt {n i : Nat} {S : Sto} (h : i < n) : rngIt 0 n S i = some (some (.int i)) := by rw [rng_lt h, Int.zero_add]
theorem gD_at {A : Type} {l : List A} {i : Nat} {d : A} (h : i < l.length) : l.getD i d = l[i] := by simp [List.getD, List.getElem?_eq_getElem h]
theorem rng_end {lo : Int} {n : Nat} {S : Sto} : rngIt lo n S n = some none := if_neg (Nat.lt_irrefl n)
/-! ### texts -/
section
variable {a b : List Nat} {S : Sto} {n : Nat}
theorem slW_to {i : Int} (h : 0 ≤ i) (hl : a.length ≤ 1000000) : slW (.str (SX.S a)) none (some i) S = .ok (.str (SX.S (a.take i.toNat))) S := by
  unfold slW; dsimp only
  rw [SX.S_len, if_pos hl, C8.cutS_slice, SX.slice_to h]
theorem slW_from {i : Int} (h : 0 ≤ i) (hl : a.length ≤ 1000000) : slW (.str (SX.S a)) (some i) none S = .ok (.str (SX.S (a.drop i.toNat))) S := by
  unfold slW; dsimp only
  rw [SX.S_len, if_pos hl, C8.cutS_slice, SX.slice_from h]
theorem addW_SS : addW (.str (SX.S a)) (.str (SX.S b)) S = if a.length + b.length ≤ 1000000 then .ok (.str (SX.S (a ++ b))) S else .no := by
  rw [addW_ss, SX.S_len, SX.S_len, SX.S_cat]
theorem sindex_ok {c : Nat} (h : c ∈ a) : ∃ i : Nat, ∀ S, sindexW (.str (SX.S a)) [.str (SX.S [c])] S = .ok (.int i) S := by
  unfold sindexW
  dsimp only
  have := SX.in_one a c
  cases e : Builtin.Str.occurrences (SX.S a) (SX.S [c]) 0 (SX.S a).length 1 with
  | nil => rw [e] at this; simp [h] at this
  | cons i r => exact ⟨i, fun _ => rfl⟩
theorem strs_of (l : List (List Nat)) : strsOf (l.map fun w => .str (SX.S w)) = some (l.map SX.S) := by
  induction l with
  | nil => rfl
  | cons x l ih => rw [List.map_cons, strsOf, ih]; rfl
theorem joinL_nil : ∀ l : List (List Nat), TL.joinL [] l = l.flatten
  | [] => rfl
  | [p] => by simp [TL.joinL]
  | p :: q :: r => by
    show p ++ ([] ++ TL.joinL [] (q :: r)) = _
    rw [joinL_nil (q :: r)]; simp
theorem joinW_l {l : List (List Nat)} (h : S[n]? = some (.lst (l.map fun w => .str (SX.S w)))) (hl : (l.map (·.length)).sum ≤ 1000000) : joinW (.str (SX.S [])) [.loc n] S = .ok (.str (SX.S l.flatten)) S := by
  unfold joinW
  dsimp only
  unfold getL
  dsimp only
  rw [h]
  dsimp only
  rw [strs_of]
  dsimp only
  rw [SX.lens, if_pos (by simpa [SX.S_len] using hl), SX.join_S, joinL_nil]
theorem tyOk_s {x : Str} : tyOkW "str" (.str x) S = true := rfl
theorem tyOk_l {ws : List W} (h : S[n]? = some (.lst ws)) : tyOkW "list" (.loc n) S = true := by
  unfold tyOkW; dsimp only; rw [h]; rfl
theorem tyOk_d {ws : List (W × W)} (h : S[n]? = some (.dct ws)) : tyOkW "dict" (.loc n) S = true := by
  unfold tyOkW; dsimp only; rw [h]; rfl
end
/-! ### stores -/
/-- S' is S but for the places M and new ones -/
structure Xt (M : List Nat) (S S' : Sto) : Prop where
  len : S.length ≤ S'.length
  at_ : ∀ (k : Nat) (o : O), k ∉ M → S[k]? = some o → S'[k]? = some o
theorem Xt.refl {M : List Nat} {S : Sto} : Xt M S S := ⟨Nat.le_refl _, fun _ _ _ h => h⟩
theorem Xt.trans {M : List Nat} {S S1 S2 : Sto} (x : Xt M S S1) (y : Xt M S1 S2) : Xt M S S2 := ⟨Nat.le_trans x.len y.len, fun k o h e => y.at_ k o h (x.at_ k o h e)⟩
theorem Xt.mono {M M' : List Nat} {S S' : Sto} (x : Xt M S S') (h : ∀ k ∈ M, k ∈ M') : Xt M' S S' := ⟨x.len, fun k o n e => x.at_ k o (fun z => n (h k z)) e⟩
theorem Xt.app {M : List Nat} {S T : Sto} : Xt M S (S ++ T) := ⟨by simp, fun k o _ e => by rw [List.getElem?_append_left (List.getElem?_eq_some_iff.mp e).1]; exact e⟩
theorem Xt.set {M : List Nat} {S : Sto} {i : Nat} {o : O} (h : i ∈ M) : Xt M S (S.set i o) := ⟨by simp, fun k o' n e => by rw [List.getElem?_set_ne (fun (z : i = k) => n (by rw [← z]; exact h))]; exact e⟩
theorem Xt.nil {M : List Nat} {S S' : Sto} (x : Xt [] S S') : Xt M S S' := x.mono (fun _ h => by cases h)
theorem Xt.get {M : List Nat} {S S' : Sto} (x : Xt M S S') {k : Nat} {o : O} (h : S[k]? = some o) (n : k ∉ M) : S'[k]? = some o := x.at_ k o n h
theorem Xt.get0 {S S' : Sto} (x : Xt [] S S') {k : Nat} {o : O} (h : S[k]? = some o) : S'[k]? = some o := x.at_ k o (by simp) h
theorem lt_at {S : Sto} {k : Nat} {o : O} (h : S[k]? = some o) : k < S.length := (List.getElem?_eq_some_iff.mp h).1
theorem at_new' {S : Sto} {o : O} : (S ++ [o])[S.length]? = some o := by simp
theorem at_set' {S : Sto} {i : Nat} {o o' : O} (h : S[i]? = some o) : (S.set i o')[i]? = some o' := List.getElem?_set_self (lt_at h)
/-- what is new was no place ahead of it: dropping M's new places -/
theorem Xt.drop {M M' : List Nat} {S S' : Sto} (x : Xt M S S') (h : ∀ k ∈ M, k < S.length → k ∈ M') : Xt M' S S' := ⟨x.len, fun k o n e => x.at_ k o (fun z => n (h k z (lt_at e))) e⟩
theorem Xt.setN {M : List Nat} {S S1 : Sto} {p : Nat} {o : O} (x : Xt M S S1) (hp : S.length ≤ p) : Xt M S (S1.set p o) := ⟨by rw [List.length_set]; exact x.len, fun k o' n e => by
  have := lt_at e
  rw [List.getElem?_set_ne (by omega)]; exact x.at_ k o' n e⟩
theorem Xt.setI {M : List Nat} {S S1 : Sto} {p : Nat} {o : O} (x : Xt M S S1) (hp : p ∈ M) : Xt M S (S1.set p o) := x.trans (.set hp)
theorem Xt.appI {M : List Nat} {S S1 T : Sto} (x : Xt M S S1) : Xt M S (S1 ++ T) := x.trans .app
theorem at_app {S T : Sto} {k : Nat} {o : O} (h : S[k]? = some o) : (S ++ T)[k]? = some o := by rw [List.getElem?_append_left (lt_at h)]; exact h
theorem at_ne {S : Sto} {k p : Nat} {o o' : O} (h : S[k]? = some o) (n : p ≠ k) : (S.set p o')[k]? = some o := by rw [List.getElem?_set_ne n]; exact h
end Ev

set_option Elab.async false
set_option linter.all false
set_option maxRecDepth 100000
/-! Ev11: lists, dicts, loops over them. -/
namespace Ev
open PySem L2
variable {EE : Exc}
section
variable {S : Sto} {n : Nat} {ws : List W}
theorem seqLen_l (h : S[n]? = some (.lst ws)) : seqLen (.loc n) S = some ws.length := by
  unfold seqLen; dsimp only; rw [h]
theorem seqLen_t : seqLen (.tup ws) S = some ws.length := rfl
theorem seqLen_r : seqLen (.rol ws) S = some ws.length := rfl
theorem seqIt_l (h : S[n]? = some (.lst ws)) {i : Nat} : seqIt (.loc n) S i = some ws[i]? := by
  unfold seqIt; dsimp only; rw [h]
theorem seqIt_t {i : Nat} : seqIt (.tup ws) S i = some ws[i]? := rfl
theorem seqIt_r {i : Nat} : seqIt (.rol ws) S i = some ws[i]? := rfl
theorem cutW_to {k : Nat} : cutW ws none (some (k : Int)) = ws.take k := by
  unfold cutW
  rw [HT.sIx_none, HT.sIx_nat, List.drop_zero, Nat.sub_zero]
  by_cases h : k ≤ ws.length
  · rw [Nat.min_eq_left h]
  · rw [Nat.min_eq_right (by omega), List.take_of_length_le (by omega), List.take_of_length_le (by omega)]
theorem cutW_mid {j k : Nat} : cutW ws (some (j : Int)) (some (k : Int)) = (ws.drop j).take (k - j) := by
  unfold cutW
  rw [HT.sIx_nat, HT.sIx_nat]
  by_cases h : j ≤ ws.length
  · rw [Nat.min_eq_left h]
    by_cases h2 : k ≤ ws.length
    · rw [Nat.min_eq_left h2]
    · rw [Nat.min_eq_right (by omega), List.take_of_length_le (by rw [List.length_drop]; omega), List.take_of_length_le (by rw [List.length_drop]; omega)]
  · rw [List.drop_eq_nil_of_le (by omega), List.drop_eq_nil_of_le (by omega)]; simp
theorem cutW_from {j : Nat} : cutW ws (some (j : Int)) none = ws.drop j := by
  unfold cutW
  rw [HT.sIx_nat, HT.sIx_none]
  by_cases h : j ≤ ws.length
  · rw [Nat.min_eq_left h, List.take_of_length_le (by rw [List.length_drop]; exact Nat.le_refl _)]
  · rw [List.drop_eq_nil_of_le (by omega), List.drop_eq_nil_of_le (by omega)]; simp
theorem cutW_but : cutW ws none (some (-1)) = ws.dropLast := by
  unfold cutW
  rw [HT.sIx_none, List.drop_zero, Nat.sub_zero, List.dropLast_eq_take]
  have e : HT.sIx ws.length ws.length (some (-1)) = ws.length - 1 := by
    unfold HT.sIx
    simp only [show (-1 : Int) < 0 by decide, if_true]
    omega
  rw [e]
theorem slW_l {lo hi : Option Int} (h : S[n]? = some (.lst ws)) : slW (.loc n) lo hi S = .ok (.loc S.length) (S ++ [.lst (cutW ws lo hi)]) := by
  unfold slW; dsimp only; rw [h]
theorem slW_t {lo hi : Option Int} : slW (.tup ws) lo hi S = .ok (.tup (cutW ws lo hi)) S := rfl
theorem slW_r {lo hi : Option Int} : slW (.rol ws) lo hi S = .ok (.loc S.length) (S ++ [.lst (cutW ws lo hi)]) := rfl
/-- a comprehension whose parts change nothing -/
theorem wp_lc_pure {it : Sto → Nat → Option (Option W)} {t : Tg} {c : BV} {m : EV} {s0 : En} {Q : List W → Sto → Prop} (g : W → W) (hit : ∀ i, it S i = some ws[i]?) (hl : ws.length ≤ 1000000)
    (hb : ∀ w ∈ ws, ∃ s1, Tg.put t w s0 = some s1 ∧ c s1 S = .ok true S ∧ m s1 S = .ok (g w) S) (q : Q (ws.map g) S) : wpR (lcLoop it t c m s0 (ws.length + 1) 0 [] S) Q := by
  refine wp_lcl (len := ws.length) (fun k acc S' => S' = S ∧ acc = (ws.take k).map g) ?_ ?_ _ 0 [] S (by omega) (by omega) ⟨rfl, rfl⟩
  · rintro i acc S' hi ⟨rfl, rfl⟩
    obtain ⟨s1, e1, e2, e3⟩ := hb ws[i] (List.getElem_mem hi)
    refine ⟨ws[i], s1, by rw [hit, List.getElem?_eq_getElem hi], e1, ?_⟩
    rw [e2, wpR_ok, if_pos rfl, e3, wpR_ok]
    refine ⟨by rw [List.length_map, List.length_take]; omega, rfl, ?_⟩
    rw [List.take_succ, List.getElem?_eq_getElem hi, List.map_append]; rfl
  · rintro acc S' ⟨rfl, rfl⟩
    refine ⟨by rw [hit, List.getElem?_eq_none (Nat.le_refl _)], ?_⟩
    rw [List.take_length]; exact q
end
/-! ### dicts by texts -/
section
variable {A : Type} {f : A → Str} {g : A → W}
theorem key_str {x : Str} : W.key? (.str x) = some (.inr x) := rfl
theorem key_int {x : Int} : W.key? (.int x) = some (.inl x) := rfl
theorem dlook_some {l : List A} {a : A} (ha : a ∈ l) (hn : (l.map f).Nodup) : dlook (l.map fun a => (.str (f a), g a)) (.inr (f a)) = some (g a) := by
  induction l with
  | nil => cases ha
  | cons b l ih =>
    unfold dlook
    rw [List.map_cons, List.nodup_cons] at hn
    by_cases e : f b = f a
    · rcases List.mem_cons.mp ha with rfl | ha
      · rw [List.map_cons, List.find?_cons_of_pos (by simp [key_str])]; rfl
      · exact absurd (List.mem_map.mpr ⟨a, ha, e.symm⟩) hn.1
    · rw [List.map_cons, List.find?_cons_of_neg (by simp [key_str, e])]
      rcases List.mem_cons.mp ha with rfl | ha
      · exact absurd rfl e
      · exact ih ha hn.2
theorem dlook_none {l : List A} {x : Str} (h : x ∉ l.map f) : dlook (l.map fun a => (.str (f a), g a)) (.inr x) = none := by
  unfold dlook
  rw [Option.map_eq_none_iff, List.find?_eq_none]
  intro p hp
  obtain ⟨a, ha, rfl⟩ := List.mem_map.mp hp
  simp only [key_str, Option.some.injEq, decide_eq_true_eq, Sum.inr.injEq]
  exact fun e => h (List.mem_map.mpr ⟨a, ha, e⟩)
theorem dput_none {kvs : List (W × W)} {k w : W} {q : Key} (h : dlook kvs q = none) : dput kvs k q w = kvs ++ [(k, w)] := by
  unfold dput
  rw [h]; rfl
end
end Ev

set_option Elab.async false
set_option linter.all false
set_option maxRecDepth 100000
/-! Ev12: data kept by stores; sorted lists; dicts of pairs. -/
namespace Ev
open PySem L2
variable {EE : Exc}
theorem mapM_imp {A B : Type} {g g' : A → Option B} : ∀ {l : List A} {r : List B}, (∀ a b, a ∈ l → g a = some b → g' a = some b) → l.mapM g = some r → l.mapM g' = some r
  | [], r, _, e => e
  | a :: l, r, h, e => by
    rw [mapM_cons] at e ⊢
    cases e1 : g a with
    | none => rw [e1] at e; cases e
    | some b =>
      rw [e1] at e
      cases e2 : l.mapM g with
      | none => rw [e2] at e; cases e
      | some r' =>
        rw [e2] at e
        rw [h a b (List.mem_cons_self ..) e1, mapM_imp (fun a b ha => h a b (List.mem_cons_of_mem _ ha)) e2]
        exact e
theorem map_someE {A B : Type} {o : Option A} {f : A → B} {b : B} (h : o.map f = some b) : ∃ a, o = some a ∧ f a = b := by
  cases o with
  | none => cases h
  | some a => exact ⟨a, rfl, by simpa using h⟩
/-- what stays in a store keeps its data -/
theorem pd_xt {S S' : Sto} (x : Xt [] S S') : ∀ (n : Nat) {w : W} {d : PyData}, W.pd S n w = some d → W.pd S' n w = some d
  | 0, _, _, h => by cases h
  | n + 1, w, d, h => by
    cases w with
    | tup ws =>
      obtain ⟨ds, e, rfl⟩ := map_someE (show (ws.mapM (W.pd S n)).map PyData.tuple = some d from h)
      show (ws.mapM (W.pd S' n)).map PyData.tuple = _
      rw [mapM_imp (fun a b _ => pd_xt x n) e]; rfl
    | ptp ws =>
      obtain ⟨ds, e, rfl⟩ := map_someE (show (ws.mapM (W.pd S n)).map PyData.tuple = some d from h)
      show (ws.mapM (W.pd S' n)).map PyData.tuple = _
      rw [mapM_imp (fun a b _ => pd_xt x n) e]; rfl
    | rol ws =>
      obtain ⟨ds, e, rfl⟩ := map_someE (show (ws.mapM (W.pd S n)).map PyData.list = some d from h)
      show (ws.mapM (W.pd S' n)).map PyData.list = _
      rw [mapM_imp (fun a b _ => pd_xt x n) e]; rfl
    | loc k =>
      unfold W.pd at h ⊢
      dsimp only at h ⊢
      cases e : S[k]? with
      | none => rw [e] at h; cases h
      | some o =>
        rw [e] at h
        rw [x.get0 e]
        cases o with
        | lst ws =>
          dsimp only at h ⊢
          obtain ⟨ds, e, rfl⟩ := map_someE h
          rw [mapM_imp (fun a b _ => pd_xt x n) e]; rfl
        | _ => cases h
    | _ => exact h
theorem mapM_map {A B C : Type} {g : B → Option C} {f : A → B} {k : A → C} : ∀ {l : List A}, (∀ a ∈ l, g (f a) = some (k a)) → (l.map f).mapM g = some (l.map k)
  | [], _ => rfl
  | a :: l, h => by
    rw [List.map_cons, mapM_cons, h a (List.mem_cons_self ..), mapM_map (fun a ha => h a (List.mem_cons_of_mem _ ha))]; rfl
/-! ### sorted -/
theorem ms_of {A : Type} {le : A → A → Bool} {l l' : List A} (hp : l.Perm l') (hs : l'.Pairwise fun a b => le a b = true) (an : ∀ a b, le a b = true → le b a = true → a = b) (tr : ∀ a b c, le a b = true → le b c = true → le a c = true) (to : ∀ a b, (le a b || le b a) = true) : l.mergeSort le = l' :=
  List.Perm.eq_of_pairwise (le := fun a b => le a b = true) (fun a b _ _ => an a b) (List.pairwise_mergeSort tr to l) hs ((List.mergeSort_perm l le).trans hp)
theorem ms_rows {l l' : List (List Int)} (hp : l.Perm l') (hs : l'.Pairwise (· < ·)) : (l.mergeSort fun p q => decide (p ≤ q)) = l' := by
  refine ms_of hp (hs.imp fun h => by simpa using List.le_of_lt h) ?_ ?_ ?_
  · intro a b h1 h2; exact List.le_antisymm (of_decide_eq_true h1) (of_decide_eq_true h2)
  · intro a b c h1 h2; exact decide_eq_true (List.le_trans (of_decide_eq_true h1) (of_decide_eq_true h2))
  · intro a b
    rw [Bool.or_eq_true, decide_eq_true_eq, decide_eq_true_eq]
    exact List.le_total a b
theorem ms_nats {l l' : List (List Nat)} (hp : l.Perm l') (hs : l'.Pairwise (· < ·)) : (l.mergeSort fun p q => decide (p ≤ q)) = l' := by
  refine ms_of hp (hs.imp fun h => by simpa using List.le_of_lt h) ?_ ?_ ?_
  · intro a b h1 h2; exact List.le_antisymm (of_decide_eq_true h1) (of_decide_eq_true h2)
  · intro a b c h1 h2; exact decide_eq_true (List.le_trans (of_decide_eq_true h1) (of_decide_eq_true h2))
  · intro a b
    rw [Bool.or_eq_true, decide_eq_true_eq, decide_eq_true_eq]
    exact List.le_total a b
/-- a tuple of whole numbers -/
def rowW (x : List Int) : W := .tup (x.map .int)
def rowD (x : List Int) : PyData := .tuple (x.map .int)
theorem pd_row {S : Sto} {n : Nat} (x : List Int) : W.pd S (n + 2) (rowW x) = some (rowD x) := by
  show ((x.map W.int).mapM (W.pd S (n + 1))).map PyData.tuple = _
  rw [mapM_map (g := W.pd S (n + 1)) (f := W.int) (k := PyData.int) (fun a _ => rfl)]; rfl
theorem alike_rows : ∀ x y : List Int, PySem.W.alikeAll (x.map PyData.int) (y.map PyData.int) = true
  | [], _ => by cases ‹List Int› <;> rfl
  | _ :: _, [] => rfl
  | a :: x, b :: y => by
    show (PySem.W.alike (.int a) (.int b) && PySem.W.alikeAll (x.map PyData.int) (y.map PyData.int)) = true
    rw [alike_rows x y]; rfl
theorem le_rows (x y : List Int) : (!PySem.W.dataLt (rowD y) (rowD x)) = decide (x ≤ y) := by
  unfold rowD
  rw [PySem.W.dataLt_tuple]
  show (!PySem.W.rowLt (y.map .int) (x.map .int)) = _
  rw [PySem.W.dataLt_ints]
  by_cases h : y < x
  · have h' : ¬ x ≤ y := fun r => List.not_lt.mpr r h
    simp [h, h']
  · have h' : x ≤ y := List.not_lt.mp h
    simp [h, h']
theorem sortW_rows {S : Sto} {n : Nat} {l l' : List (List Int)} (h : S[n]? = some (.lst (l.map rowW))) (hp : l.Perm l') (hs : l'.Pairwise (· < ·)) (hl : l.length ≤ 1000000) (hne : (∀ x ∈ l, x ≠ []) ∨ l.length = 1 ∨ ∃ r, l = [] :: r) :
    sortedW [.loc n] S = .ok (.loc S.length) (S ++ [.lst (l'.map rowW)]) := by
  unfold sortedW getL
  dsimp only
  rw [h]
  dsimp only
  rw [mapM_map (k := rowD) (fun x _ => pd_row x)]
  dsimp only
  have hb : sortB (l.map rowD) = true := by
    unfold sortB
    rw [Bool.and_eq_true]
    refine ⟨?_, ?_⟩
    · unfold allAl
      rw [List.all_eq_true]
      intro x hx
      rw [List.all_eq_true]
      intro y hy
      obtain ⟨a, _, rfl⟩ := List.mem_map.mp hx
      obtain ⟨b, _, rfl⟩ := List.mem_map.mp hy
      exact alike_rows a b
    · rw [Bool.or_eq_true, Bool.or_eq_true, Bool.or_eq_true]
      rcases hne with hne | hne | hne
      · refine .inl (.inl (.inl ?_))
        simp only [List.all_map, List.all_eq_true]
        intro x hx
        cases x with
        | nil => exact absurd rfl (hne [] hx)
        | cons a x => rfl
      · refine .inr ?_
        rw [List.length_map, hne]
        simp only [List.all_map, List.all_eq_true, Bool.and_eq_true]
        exact ⟨rfl, fun x _ => rfl⟩
      · obtain ⟨r, rfl⟩ := hne
        refine .inl (.inl (.inr ?_))
        show (r.map rowD).all isTupD = true
        rw [List.all_map]
        exact List.all_eq_true.mpr fun x _ => rfl
  rw [if_pos ⟨by rw [List.length_map]; exact hl, hb⟩]
  have e : (l.map rowW).zip (l.map rowD) = l.map fun x => (rowW x, rowD x) := by
    rw [List.zip_map']
  rw [e, ← PySem.W.sort_maps (fun x : List Int => (rowW x, rowD x)) (r := fun p q => decide (p ≤ q)) (fun a _ b _ => by rw [PySem.W.dataLe_eq]; exact (le_rows a b).symm), List.map_map, ms_rows hp hs]
  rfl
/-! ### dict(pairs) -/
section
variable {A : Type} {f : A → Str} {g : A → W}
theorem pairs_of : ∀ l : List A, pairsOf (l.map fun a => .tup [.str (f a), g a]) = some (l.map fun a => (.str (f a), .inr (f a), g a))
  | [] => rfl
  | a :: l => by
    rw [List.map_cons]
    unfold pairsOf
    dsimp only [W.key?]
    rw [pairs_of l]; rfl
theorem dmerge_nd : ∀ (l m : List A), ((m ++ l).map f).Nodup → dmerge (m.map fun a => (.str (f a), g a)) (l.map fun a => (.str (f a), .inr (f a), g a)) = (m ++ l).map fun a => (.str (f a), g a)
  | [], m, _ => by rw [List.append_nil]; rfl
  | a :: l, m, h => by
    unfold dmerge
    rw [List.map_cons, List.foldl_cons]
    have hn : f a ∉ m.map f := by
      rw [List.map_append, List.map_cons] at h
      exact fun hm => (List.nodup_append.mp h).2.2 _ hm _ (List.mem_cons_self ..) rfl
    dsimp only
    rw [dput_none (dlook_none hn)]
    have := dmerge_nd l (m ++ [a]) (by rw [List.append_assoc]; exact h)
    unfold dmerge at this
    rw [List.map_append] at this
    rw [show [a].map (fun a => (W.str (f a), g a)) = [(W.str (f a), g a)] from rfl] at this
    rw [this, List.append_assoc]; rfl
theorem dictW_l {S : Sto} {n : Nat} {l : List A} (h : S[n]? = some (.lst (l.map fun a => .tup [.str (f a), g a]))) (hn : (l.map f).Nodup) : dictW [.loc n] S = .ok (.loc S.length) (S ++ [.dct (l.map fun a => (.str (f a), g a))]) := by
  unfold dictW
  dsimp only
  rw [h]
  dsimp only
  rw [pairs_of]
  dsimp only
  rw [show ([] : List (W × W)) = ([] : List A).map fun a => (.str (f a), g a) from rfl, dmerge_nd l [] hn]
  rfl
end
/-! ### data with no list that is read only -/
def Dat (S : Sto) : Nat → PyData → W → Prop
  | 0, _, _ => False
  | n + 1, d, w => match d with
    | .none => w = .non
    | .bool b => w = .bl b
    | .int i => w = .int i
    | .str x => w = .str x
    | .tuple ds => ∃ ws, w = .tup ws ∧ ws.length = ds.length ∧ ds.length ≤ 100000 ∧ ∀ p ∈ ds.zip ws, Dat S n p.1 p.2
    | .list ds => ∃ k ws, w = .loc k ∧ S[k]? = some (.lst ws) ∧ ws.length = ds.length ∧ ds.length ≤ 100000 ∧ ∀ p ∈ ds.zip ws, Dat S n p.1 p.2
    | _ => False
theorem Dat.xt {S S' : Sto} (x : Xt [] S S') : ∀ {n : Nat} {d : PyData} {w : W}, Dat S n d w → Dat S' n d w
  | 0, _, _, h => h
  | n + 1, d, w, h => by
    cases d with
    | tuple ds =>
      obtain ⟨ws, e, l, b, h⟩ := (show ∃ ws, _ from h)
      exact (show ∃ ws, _ from ⟨ws, e, l, b, fun p hp => Dat.xt x (h p hp)⟩)
    | list ds =>
      obtain ⟨k, ws, e, ek, l, b, h⟩ := (show ∃ k ws, _ from h)
      exact (show ∃ k ws, _ from ⟨k, ws, e, x.get0 ek, l, b, fun p hp => Dat.xt x (h p hp)⟩)
    | _ => exact h
theorem Dat.up {S : Sto} : ∀ {n m : Nat} {d : PyData} {w : W}, Dat S n d w → n ≤ m → Dat S m d w
  | 0, _, _, _, h, _ => h.elim
  | n + 1, m, d, w, h, hm => by
    obtain ⟨m, rfl⟩ : ∃ k, m = k + 1 := ⟨m - 1, by omega⟩
    cases d with
    | tuple ds =>
      obtain ⟨ws, e, l, b, h⟩ := (show ∃ ws, _ from h)
      exact (show ∃ ws, _ from ⟨ws, e, l, b, fun p hp => Dat.up (h p hp) (by omega)⟩)
    | list ds =>
      obtain ⟨k, ws, e, ek, l, b, h⟩ := (show ∃ k ws, _ from h)
      exact (show ∃ k ws, _ from ⟨k, ws, e, ek, l, b, fun p hp => Dat.up (h p hp) (by omega)⟩)
    | _ => exact h
theorem Dat.tupM {A : Type} {S : Sto} {n : Nat} {l : List A} {f : A → W} {g : A → PyData} (hl : l.length ≤ 100000) (h : ∀ a ∈ l, Dat S n (g a) (f a)) : Dat S (n + 1) (.tuple (l.map g)) (.tup (l.map f)) := by
  refine (show ∃ ws, _ from ⟨l.map f, rfl, by rw [List.length_map, List.length_map], by rw [List.length_map]; exact hl, ?_⟩)
  rw [List.zip_map']
  intro p hp
  obtain ⟨a, ha, rfl⟩ := List.mem_map.mp hp
  exact h a ha
theorem Dat.lstM {A : Type} {S : Sto} {n k : Nat} {l : List A} {f : A → W} {g : A → PyData} (e : S[k]? = some (.lst (l.map f))) (hl : l.length ≤ 100000) (h : ∀ a ∈ l, Dat S n (g a) (f a)) : Dat S (n + 1) (.list (l.map g)) (.loc k) := by
  refine (show ∃ k ws, _ from ⟨k, l.map f, rfl, e, by rw [List.length_map, List.length_map], by rw [List.length_map]; exact hl, ?_⟩)
  rw [List.zip_map']
  intro p hp
  obtain ⟨a, ha, rfl⟩ := List.mem_map.mp hp
  exact h a ha
theorem Dat.row {S : Sto} {n : Nat} {x : List Int} (h : x.length ≤ 100000) : Dat S (n + 2) (rowD x) (rowW x) := Dat.tupM h fun _ _ => rfl
/-! ### zip, all -/
theorem wpR_zip {m n : EV} {s : En} {S : Sto} {Q : IT → Sto → Prop} : wpR (iZip m n s S) Q = wpR (m s S) fun x S => wpR (n s S) fun y S => bothL S x y = true ∧ ∃ k, seqLen x S = some k ∧ Q ⟨zipIt x y, k + 1⟩ S := by
  unfold iZip
  rw [wpR_bind]; congr 1; funext x S
  rw [wpR_bind]; congr 1; funext y S
  rw [wpR_ite]
  by_cases h : bothL S x y = true
  · rw [if_pos h]
    cases seqLen x S <;> simp [wpR, h]
  · rw [if_neg h]; simp [wpR, h]
theorem zip_at {x y : W} {ws us : List W} {S : Sto} {i : Nat} (hx : seqIt x S i = some ws[i]?) (hy : seqIt y S i = some us[i]?) (hl : ws.length = us.length) : zipIt x y S i = some ((ws.zip us)[i]?.map fun p => .tup [p.1, p.2]) := by
  unfold zipIt
  rw [hx, hy]
  rcases Nat.lt_or_ge i ws.length with h | h
  · rw [List.getElem?_eq_getElem h, List.getElem?_eq_getElem (by omega), List.getElem?_eq_getElem (by rw [List.length_zip]; omega)]
    simp
  · rw [List.getElem?_eq_none h, List.getElem?_eq_none (by omega), List.getElem?_eq_none (by rw [List.length_zip]; omega)]; rfl
theorem bools_of : ∀ l : List Bool, boolsOf (l.map W.bl) = some l
  | [] => rfl
  | a :: l => by rw [List.map_cons, boolsOf, bools_of l]; rfl
theorem allW_l {S : Sto} {n : Nat} {l : List Bool} (h : S[n]? = some (.lst (l.map W.bl))) : allW [.loc n] S = .ok (.bl (l.all id)) S := by
  unfold allW getL
  dsimp only
  rw [h]
  dsimp only
  rw [bools_of]
theorem anyW_l {S : Sto} {n : Nat} {l : List Bool} (h : S[n]? = some (.lst (l.map W.bl))) : anyW [.loc n] S = .ok (.bl (l.any id)) S := by
  unfold anyW getL
  dsimp only
  rw [h]
  dsimp only
  rw [bools_of]
theorem isi_n {S : Sto} {c : String} {b : Bool} (h : kitB "NoneType" c = some b) : isiW [.non, .ty c] S = .ok (.bl b) S := by unfold isiW; dsimp only [tyO]; rw [h]
theorem isi_b {S : Sto} {c : String} {b k : Bool} (h : kitB "bool" c = some b) : isiW [.bl k, .ty c] S = .ok (.bl b) S := by unfold isiW; dsimp only [tyO]; rw [h]
theorem isi_i {S : Sto} {c : String} {b : Bool} {k : Int} (h : kitB "int" c = some b) : isiW [.int k, .ty c] S = .ok (.bl b) S := by unfold isiW; dsimp only [tyO]; rw [h]
theorem isi_s {S : Sto} {c : String} {b : Bool} {k : Str} (h : kitB "str" c = some b) : isiW [.str k, .ty c] S = .ok (.bl b) S := by unfold isiW; dsimp only [tyO]; rw [h]
theorem isi_t {S : Sto} {c : String} {b : Bool} {k : List W} (h : kitB "tuple" c = some b) : isiW [.tup k, .ty c] S = .ok (.bl b) S := by unfold isiW; dsimp only [tyO]; rw [h]
theorem isi_l {S : Sto} {c : String} {b : Bool} {n : Nat} {k : List W} (e : S[n]? = some (.lst k)) (h : kitB "list" c = some b) : isiW [.loc n, .ty c] S = .ok (.bl b) S := by unfold isiW tyO; dsimp only; rw [e]; dsimp only; rw [h]
theorem isi_d {S : Sto} {c : String} {b : Bool} {n : Nat} {k : List (W × W)} (e : S[n]? = some (.dct k)) (h : kitB "dict" c = some b) : isiW [.loc n, .ty c] S = .ok (.bl b) S := by unfold isiW tyO; dsimp only; rw [e]; dsimp only; rw [h]
section
variable {S : Sto} {k : Bool} {i : Int} {x : Str} {ws : List W}
theorem isi_bb : isiW [.bl k, .ty "bool"] S = .ok (.bl true) S := isi_b (by decide)
theorem isi_bs : isiW [.bl k, .ty "str"] S = .ok (.bl false) S := isi_b (by decide)
theorem isi_bi : isiW [.bl k, .ty "int"] S = .ok (.bl true) S := isi_b (by decide)
theorem isi_bt : isiW [.bl k, .ty "tuple"] S = .ok (.bl false) S := isi_b (by decide)
theorem isi_bl : isiW [.bl k, .ty "list"] S = .ok (.bl false) S := isi_b (by decide)
theorem isi_ib : isiW [.int i, .ty "bool"] S = .ok (.bl false) S := isi_i (by decide)
theorem isi_is : isiW [.int i, .ty "str"] S = .ok (.bl false) S := isi_i (by decide)
theorem isi_ii : isiW [.int i, .ty "int"] S = .ok (.bl true) S := isi_i (by decide)
theorem isi_it : isiW [.int i, .ty "tuple"] S = .ok (.bl false) S := isi_i (by decide)
theorem isi_il : isiW [.int i, .ty "list"] S = .ok (.bl false) S := isi_i (by decide)
theorem isi_sb : isiW [.str x, .ty "bool"] S = .ok (.bl false) S := isi_s (by decide)
theorem isi_ss : isiW [.str x, .ty "str"] S = .ok (.bl true) S := isi_s (by decide)
theorem isi_si : isiW [.str x, .ty "int"] S = .ok (.bl false) S := isi_s (by decide)
theorem isi_st : isiW [.str x, .ty "tuple"] S = .ok (.bl false) S := isi_s (by decide)
theorem isi_sl : isiW [.str x, .ty "list"] S = .ok (.bl false) S := isi_s (by decide)
theorem isi_tb : isiW [.tup ws, .ty "bool"] S = .ok (.bl false) S := isi_t (by decide)
theorem isi_ts : isiW [.tup ws, .ty "str"] S = .ok (.bl false) S := isi_t (by decide)
theorem isi_ti : isiW [.tup ws, .ty "int"] S = .ok (.bl false) S := isi_t (by decide)
theorem isi_tt : isiW [.tup ws, .ty "tuple"] S = .ok (.bl true) S := isi_t (by decide)
theorem isi_tl : isiW [.tup ws, .ty "list"] S = .ok (.bl false) S := isi_t (by decide)
theorem isi_nb : isiW [.non, .ty "bool"] S = .ok (.bl false) S := isi_n (by decide)
theorem isi_ns : isiW [.non, .ty "str"] S = .ok (.bl false) S := isi_n (by decide)
theorem isi_ni : isiW [.non, .ty "int"] S = .ok (.bl false) S := isi_n (by decide)
theorem isi_nt : isiW [.non, .ty "tuple"] S = .ok (.bl false) S := isi_n (by decide)
theorem isi_nl : isiW [.non, .ty "list"] S = .ok (.bl false) S := isi_n (by decide)
end
section
variable {S : Sto} {n : Nat} {k : List W} {d : List (W × W)}
theorem isi_Lb (e : S[n]? = some (.lst k)) : isiW [.loc n, .ty "bool"] S = .ok (.bl false) S := isi_l e (by decide)
theorem isi_Ls (e : S[n]? = some (.lst k)) : isiW [.loc n, .ty "str"] S = .ok (.bl false) S := isi_l e (by decide)
theorem isi_Li (e : S[n]? = some (.lst k)) : isiW [.loc n, .ty "int"] S = .ok (.bl false) S := isi_l e (by decide)
theorem isi_Lt (e : S[n]? = some (.lst k)) : isiW [.loc n, .ty "tuple"] S = .ok (.bl false) S := isi_l e (by decide)
theorem isi_Ll (e : S[n]? = some (.lst k)) : isiW [.loc n, .ty "list"] S = .ok (.bl true) S := isi_l e (by decide)
theorem isi_Db (e : S[n]? = some (.dct d)) : isiW [.loc n, .ty "bool"] S = .ok (.bl false) S := isi_d e (by decide)
theorem isi_Ds (e : S[n]? = some (.dct d)) : isiW [.loc n, .ty "str"] S = .ok (.bl false) S := isi_d e (by decide)
theorem isi_Di (e : S[n]? = some (.dct d)) : isiW [.loc n, .ty "int"] S = .ok (.bl false) S := isi_d e (by decide)
theorem isi_Dt (e : S[n]? = some (.dct d)) : isiW [.loc n, .ty "tuple"] S = .ok (.bl false) S := isi_d e (by decide)
theorem isi_Dl (e : S[n]? = some (.dct d)) : isiW [.loc n, .ty "list"] S = .ok (.bl false) S := isi_d e (by decide)
end
/-- a comprehension over a zip, with a truth for each pair that is yes -/
theorem both_t {S : Sto} {a b : List W} : bothL S (.tup a) (.tup b) = true := rfl
theorem both_l {S : Sto} {p q : Nat} {a b : List W} (h : S[p]? = some (.lst a)) (h' : S[q]? = some (.lst b)) : bothL S (.loc p) (.loc q) = true := by
  unfold bothL; dsimp only; unfold getL; dsimp only; rw [h, h']; rfl
theorem all_rep (n : Nat) : (List.replicate n true).all id = true := by
  rw [List.all_eq_true]; intro x hx; rw [List.eq_of_mem_replicate hx]; rfl
end Ev

set_option Elab.async false
set_option linter.all false
set_option maxRecDepth 100000
/-! Ev13: rules from the outside in. -/
namespace Ev
open PySem L2
variable {EE : Exc}
/-- a mark: simp leaves what it names alone -/
structure Ph {α : Sort u} (a : α) : Type where
def wq [EX : Exc] {A : Type} (r : R A) (Q : A → Sto → Prop) (_ : Ph Q) : Prop := wpR r Q
def ws [EX : Exc] (r : RS) (Q : RS → Prop) (_ : Ph Q) : Prop := wpS r Q
def wo {A : Type} (o : Option A) (P : A → Prop) (_ : Ph P) : Prop := match o with
  | some a => P a
  | none => False
def onB (w : W) (P : Bool → Prop) (_ : Ph P) : Prop := match w with
  | .bl b => P b
  | _ => False
def onI (w : W) (P : Int → Prop) (_ : Ph P) : Prop := match w with
  | .int b => P b
  | _ => False
theorem wq_in {A : Type} {r : R A} {Q : A → Sto → Prop} : wpR r Q = wq r Q ⟨⟩ := rfl
theorem ws_in {r : RS} {Q : RS → Prop} : wpS r Q = ws r Q ⟨⟩ := rfl
theorem wo_some {A : Type} {a : A} {P : A → Prop} {h : Ph P} : wo (some a) P h = P a := rfl
theorem wo_none {A : Type} {P : A → Prop} {h : Ph P} : wo none P h = False := rfl
theorem wo_ex {A : Type} {o : Option A} {P : A → Prop} {h : Ph P} {a : A} (e : o = some a) (q : P a) : wo o P h := by rw [e]; exact q
theorem wo_eq {A : Type} {o : Option A} {P : A → Prop} {h : Ph P} : wo o P h = ∃ a, o = some a ∧ P a := by cases o <;> simp [wo]
theorem onB_b {b : Bool} {P : Bool → Prop} {h : Ph P} : onB (.bl b) P h = P b := rfl
theorem onI_i {b : Int} {P : Int → Prop} {h : Ph P} : onI (.int b) P h = P b := rfl
section
variable {s : En} {S : Sto} {Q : W → Sto → Prop} {B : Bool → Sto → Prop} {L : List W → Sto → Prop} {P P' : RS → Prop} {w : W} {i : Nat} {a b : EV} {r : AV} {c d : BV} {o : Option W} {hQ : Ph Q} {hB : Ph B} {hL : Ph L} {hP : Ph P}
theorem wq_ok {A : Type} {x : A} {Q : A → Sto → Prop} {hQ : Ph Q} : wq (.ok x S) Q hQ = Q x S := rfl
theorem wq_no {A : Type} {Q : A → Sto → Prop} {hQ : Ph Q} : wq (.no) Q hQ = False := rfl
theorem wq_ite {A : Type} {p : Prop} [Decidable p] {x y : R A} {Q : A → Sto → Prop} {hQ : Ph Q} : wq (if p then x else y) Q hQ = if p then wq x Q ⟨⟩ else wq y Q ⟨⟩ := wpR_ite
theorem wq_bind {A B : Type} {x : R A} {k : A → Sto → R B} {Q : B → Sto → Prop} {hQ : Ph Q} : wq (x.bind k) Q hQ = wq x (fun a S => wq (k a S) Q ⟨⟩) ⟨⟩ := wpR_bind
theorem wq_var0 : wq (eVar 0 (some w :: s) S) Q hQ = Q w S := rfl
theorem wq_varS : wq (eVar (i + 1) (o :: s) S) Q hQ = wq (eVar i s S) Q ⟨⟩ := rfl
theorem wq_c : wq (eC w s S) Q hQ = Q w S := rfl
theorem wq_e1 {F : W → Sto → R W} : wq (e1 F a s S) Q hQ = wq (a s S) (fun w S => wq (F w S) Q ⟨⟩) ⟨⟩ := wpR_bind
theorem wq_e2 {F : W → W → Sto → R W} : wq (e2 F a b s S) Q hQ = wq (a s S) (fun x S => wq (b s S) (fun y S => wq (F x y S) Q ⟨⟩) ⟨⟩) ⟨⟩ := by
  unfold e2 wq; rw [wpR_bind]; congr 1; funext x S; rw [wpR_bind]
theorem wq_eL {F : List W → Sto → R W} : wq (eL F r s S) Q hQ = wq (r s S) (fun ws S => wq (F ws S) Q ⟨⟩) ⟨⟩ := wpR_bind
theorem wq_aNil : wq (aNil s S) L hL = L [] S := rfl
theorem wq_aCons : wq (aCons a r s S) L hL = wq (a s S) (fun x S => wq (r s S) (fun xs S => L (x :: xs) S) ⟨⟩) ⟨⟩ := by
  unfold aCons wq; rw [wpR_bind]; congr 1; funext x S; rw [wpR_bind]; rfl
theorem wq_test : wq (bTest a s S) B hB = wq (a s S) (fun w S => onB w (fun b => B b S) ⟨⟩) ⟨⟩ := by
  unfold bTest wq; rw [wpR_bind]; congr 1; funext w S; cases w <;> rfl
theorem wq_and : wq (bAnd c d s S) B hB = wq (c s S) (fun k S => if k = true then wq (d s S) B ⟨⟩ else B false S) ⟨⟩ := by
  unfold bAnd wq; rw [wpR_bind]; congr 1; funext k S; rw [wpR_ite]; rfl
theorem wq_or : wq (bOr c d s S) B hB = wq (c s S) (fun k S => if k = true then B true S else wq (d s S) B ⟨⟩) ⟨⟩ := by
  unfold bOr wq; rw [wpR_bind]; congr 1; funext k S; rw [wpR_ite]; rfl
theorem wq_not : wq (bNot c s S) B hB = wq (c s S) (fun k S => B (!k) S) ⟨⟩ := by
  unfold bNot wq; rw [wpR_bind]; rfl
theorem wq_tru : wq (bTru a s S) B hB = wq (a s S) (fun w S => wq (truW w S) B ⟨⟩) ⟨⟩ := wpR_bind
theorem wq_vAnd : wq (vAnd a b s S) Q hQ = wq (a s S) (fun w S => onB w (fun k => if k = true then wq (b s S) Q ⟨⟩ else Q (.bl false) S) ⟨⟩) ⟨⟩ := by
  unfold vAnd wq; rw [wpR_bind]; congr 1; funext w S; cases w <;> try rfl
  dsimp only; rw [wpR_ite]; rfl
theorem wq_vOr : wq (vOr a b s S) Q hQ = wq (a s S) (fun w S => onB w (fun k => if k = true then Q (.bl true) S else wq (b s S) Q ⟨⟩) ⟨⟩) ⟨⟩ := by
  unfold vOr wq; rw [wpR_bind]; congr 1; funext w S; cases w <;> try rfl
  dsimp only; rw [wpR_ite]; rfl
theorem wq_vNot : wq (vNot a s S) Q hQ = wq (a s S) (fun w S => onB w (fun k => Q (.bl (!k)) S) ⟨⟩) ⟨⟩ := by
  unfold vNot wq; rw [wpR_bind]; congr 1; funext w S; cases w <;> rfl
theorem wq_eIf : wq (eIf c a b s S) Q hQ = wq (c s S) (fun k S => if k = true then wq (a s S) Q ⟨⟩ else wq (b s S) Q ⟨⟩) ⟨⟩ := by
  unfold eIf wq; rw [wpR_bind]; congr 1; funext k S; rw [wpR_ite]
theorem wq_yes : wq (bYes s S) B hB = B true S := rfl
theorem wq_eM {T : String} {F : W → List W → Sto → R W} : wq (eM T F a r s S) Q hQ = wq (a s S) (fun x S => tyOkW T x S = true ∧ wq (r s S) (fun xs S => wq (F x xs S) Q ⟨⟩) ⟨⟩) ⟨⟩ := by
  unfold eM wq; rw [wpR_bind]; congr 1; funext x S; rw [wpR_ite, wpR_no, ifF, wpR_bind]
theorem wq_oNone {O : Option Int → Sto → Prop} {h : Ph O} : wq (oNone s S) O h = O none S := rfl
theorem wq_oSome {O : Option Int → Sto → Prop} {h : Ph O} : wq (oSome a s S) O h = wq (a s S) (fun w S => onI w (fun i => O (some i) S) ⟨⟩) ⟨⟩ := by
  unfold oSome wq; rw [wpR_bind]; congr 1; funext w S; cases w <;> rfl
theorem wq_eSl {F : W → Option Int → Option Int → Sto → R W} {l u : OV} : wq (eSl F a l u s S) Q hQ = wq (a s S) (fun x S => wq (l s S) (fun i S => wq (u s S) (fun j S => wq (F x i j S) Q ⟨⟩) ⟨⟩) ⟨⟩) ⟨⟩ := by
  unfold eSl wq; rw [wpR_bind]; congr 1; funext x S; rw [wpR_bind]; congr 1; funext i S; rw [wpR_bind]
theorem wq_dnew : wq (dnewW s S) Q hQ = Q (.loc S.length) (S ++ [.dct []]) := rfl
theorem wq_tup {l : List W} : wq (tupW l S) Q hQ = (l.length ≤ 1000000 ∧ Q (.tup l) S) := by unfold tupW wq; rw [wpR_ite, wpR_no, ifF]; rfl
theorem wq_lst {l : List W} : wq (lstW l S) Q hQ = (l.length ≤ 1000000 ∧ Q (.loc S.length) (S ++ [.lst l])) := by unfold lstW wq; rw [wpR_ite, wpR_no, ifF]; rfl
/-! operations -/
theorem wq_ixT {j : Int} {l : List W} : wq (ixW (.tup l) (.int j) S) Q hQ = wo (atI l j) (fun w => Q w S) ⟨⟩ := by unfold wq; rw [wpR_ixT, wo_eq]
theorem wq_ixR {j : Int} {l : List W} : wq (ixW (.rol l) (.int j) S) Q hQ = wo (atI l j) (fun w => Q w S) ⟨⟩ := by unfold wq; rw [wpR_ixR, wo_eq]
theorem wq_ixL {j : Int} {n : Nat} {l : List W} (h : S[n]? = some (.lst l)) : wq (ixW (.loc n) (.int j) S) Q hQ = wo (atI l j) (fun w => Q w S) ⟨⟩ := by unfold wq; rw [wpR_ixL h, wo_eq]
theorem wq_ixD {n : Nat} {kvs : List (W × W)} {q : Key} {k : W} (h : S[n]? = some (.dct kvs)) (hk : W.key? k = some q) : wq (ixW (.loc n) k S) Q hQ = wo (dlook kvs q) (fun w => Q w S) ⟨⟩ := by unfold wq; rw [wpR_ixD h hk, wo_eq]
theorem wq_ixDs {n : Nat} {kvs : List (W × W)} {x : Str} (h : S[n]? = some (.dct kvs)) : wq (ixW (.loc n) (.str x) S) Q hQ = wo (dlook kvs (.inr x)) (fun w => Q w S) ⟨⟩ := wq_ixD h rfl
theorem wq_ixDi {n : Nat} {kvs : List (W × W)} {x : Int} (h : S[n]? = some (.dct kvs)) : wq (ixW (.loc n) (.int x) S) Q hQ = wo (dlook kvs (.inl x)) (fun w => Q w S) ⟨⟩ := wq_ixD h rfl
theorem wq_ixS {j : Int} {x : Str} : wq (ixW (.str x) (.int j) S) Q hQ = (x.length ≤ 1000000 ∧ wo (atI x.cps.toList j) (fun c => Q (.str (SX.S [c])) S) ⟨⟩) := by unfold wq; rw [wpR_ixS, wo_eq]
theorem wq_rng1 {I : IT → Sto → Prop} {h : Ph I} : wq (iRng1 a s S) I h = wq (a s S) (fun w S => onI w (fun j => (-1000000 ≤ j ∧ j ≤ 1000000) ∧ I ⟨rngIt 0 j.toNat, j.toNat + 1⟩ S) ⟨⟩) ⟨⟩ := by
  unfold wq; rw [wpR_rng1]; congr 1; funext w S; cases w <;> simp [onI]
theorem wq_rng2 {I : IT → Sto → Prop} {h : Ph I} : wq (iRng2 a b s S) I h = wq (a s S) (fun w S => wq (b s S) (fun u S => onI w (fun i => onI u (fun j => (-1000000 ≤ i ∧ i ≤ 1000000 ∧ -1000000 ≤ j ∧ j ≤ 1000000) ∧ I ⟨rngIt i (j - i).toNat, (j - i).toNat + 1⟩ S) ⟨⟩) ⟨⟩) ⟨⟩) ⟨⟩ := by
  unfold iRng2 wq; rw [wpR_bind]; congr 1; funext w S; rw [wpR_bind]; congr 1; funext u S
  cases w <;> cases u <;> try rfl
  dsimp only; rw [wpR_ite, wpR_no, ifF]; rfl
theorem wq_seq {I : IT → Sto → Prop} {h : Ph I} : wq (iSeq a s S) I h = wq (a s S) (fun w S => wo (seqLen w S) (fun k => I ⟨seqIt w, k + 1⟩ S) ⟨⟩) ⟨⟩ := by
  unfold wq; rw [wpR_seq]; congr 1; funext w S; rw [wo_eq]
theorem wq_zip {I : IT → Sto → Prop} {h : Ph I} : wq (iZip a b s S) I h = wq (a s S) (fun x S => wq (b s S) (fun y S => bothL S x y = true ∧ wo (seqLen x S) (fun k => I ⟨zipIt x y, k + 1⟩ S) ⟨⟩) ⟨⟩) ⟨⟩ := by
  unfold wq; rw [wpR_zip]; congr 1; funext x S; congr 1; funext y S; rw [wo_eq]
theorem wq_lc {mi : IV} {t : Tg} {vs : List Nat} : wq (eLc mi t c a vs s S) Q hQ = wq (mi s S) (fun it S => wq (lcLoop it.item t c a (wipeE s vs) it.fuel 0 [] S) (fun acc S => Q (.loc S.length) (S ++ [.lst acc])) ⟨⟩) ⟨⟩ := wpR_lc
/-! statements -/
theorem wq_run {n : Nat} {m : SV} {l : List W} : wq (runF n m l S) Q hQ = ws (m (startE n l) S) (onRet Q) ⟨⟩ := wpR_run
theorem ws_nx : ws (.nx s S) P hP = P (.nx s S) := rfl
theorem ws_rt : ws (.rt w S) P hP = P (.rt w S) := rfl
theorem ws_kn {k : SV} : Kn k P (.nx s S) = ws (k s S) P ⟨⟩ := rfl
theorem ws_seq {x y : SV} : ws (sSeq x y s S) P hP = ws (x s S) (Kn y P) ⟨⟩ := wpS_seq
theorem ws_ret : ws (sRet a s S) P hP = wq (a s S) (fun w S => P (.rt w S)) ⟨⟩ := wpS_ret
theorem ws_expr : ws (sExpr a s S) P hP = wq (a s S) (fun _ S => P (.nx s S)) ⟨⟩ := wpS_expr
theorem ws_set : ws (sSet i a s S) P hP = wq (a s S) (fun w S => P (.nx (s.set i (some w)) S)) ⟨⟩ := wpS_set
theorem ws_if {x y : SV} : ws (sIf c x y s S) P hP = wq (c s S) (fun k S => if k = true then ws (x s S) P ⟨⟩ else ws (y s S) P ⟨⟩) ⟨⟩ := wpS_if
theorem ws_nil : ws (sNil s S) P hP = P (.nx s S) := rfl
theorem ws_cnt : ws (sCnt s S) P hP = P (.ct s S) := rfl
theorem ws_brk : ws (sBrk s S) P hP = P (.bk s S) := rfl
theorem ws_retN : ws (sRetN s S) P hP = P (.rt .non S) := rfl
theorem ws_for {mi : IV} {t : Tg} {k : SV} : ws (sFor mi t k s S) P hP = wq (mi s S) (fun it S => ws (loopS it.item t k it.fuel 0 s S) P ⟨⟩) ⟨⟩ := wpS_for
theorem ws_asg {t : Tg} : ws (sAsg t a s S) P hP = wq (a s S) (fun w S => wo (Tg.put t w s) (fun s' => P (.nx s' S)) ⟨⟩) ⟨⟩ := by
  unfold ws; rw [wpS_asg]; unfold wq; congr 1; funext w S; rw [wo_eq]
theorem ws_put {mv mo mi : EV} : ws (sPut mv mo mi s S) P hP = wq (mv s S) (fun v S => wq (mo s S) (fun o S => wq (mi s S) (fun i S => wo (setO o i v S) (fun S' => P (.nx s S')) ⟨⟩) ⟨⟩) ⟨⟩) ⟨⟩ := by
  unfold ws; rw [wpS_put]; unfold wq; congr 1; funext v S; congr 1; funext o S; congr 1; funext i S; rw [wo_eq]
end
end Ev

set_option Elab.async false
set_option linter.all false
set_option maxRecDepth 100000
/-! Ev14: xs[::-1], list(range(n)). -/
namespace Ev
open PySem L2
variable {EE : Exc}
section
variable {X : Cx} {Z : WX}
def revW (w : W) (S : Sto) : R W := match getL S w with
  | some ws => .ok (.loc S.length) (S ++ [.lst ws.reverse])
  | none => .no
theorem e_revL {e : Expr} {m : EV} {k : Nat} {p1 p2 p3 pos : Pos} (he : PE X e (tI X Z m)) : PE X (.Subscript e (.Slice none none (some (.UnaryOp .USub (.Constant (.int 1) k p1) p2)) p3) pos) (tI X Z (e1 revW m)) := by
  refine (pe_revL he).imp ?_
  rintro st H Q ⟨f, s, S, hE, hS, hp⟩
  refine ⟨f, s, S, hE, hS, hp.seq fun f1 H1 w1 S1 v1 k1 s1 p1 hp1 => ?_⟩
  unfold revW at hp1
  split at hp1
  · rename_i ws e
    obtain ⟨a, vs, rfl, q, r⟩ := getL_at s1 p1 e
    exact ⟨a, vs, rfl, q, fun p hp => hp1.newL s1 r.reverse hp⟩
  · exact hp1.elim
def lrgW (w : W) (S : Sto) : R W := match w with
  | .int j => if -1000000 ≤ j ∧ j ≤ 1000000 then .ok (.loc S.length) (S ++ [.lst ((List.range j.toNat).map fun (i : Nat) => W.int i)]) else .no
  | _ => .no
theorem e_lrg {a : Expr} {m : EV} {p p' pos pos' : Pos} (hc : X.calm = true) (hml : X.mg "list" = none) (hmr : X.mg "range" = none) (ha : PE X a (tI X Z m)) (hgl : Gl X "list" := by rfl) (hgr : Gl X "range" := by rfl) (na : starEach [a] X.env = (false, eval a X.env) :: starEach [] X.env := by rfl)
    (nb : starEach [Expr.Call (.Name "range" p') [a] [] pos'] X.env = (false, eval (Expr.Call (.Name "range" p') [a] [] pos') X.env) :: starEach [] X.env := by rfl) : PE X (.Call (.Name "list" p) [.Call (.Name "range" p') [a] [] pos'] [] pos) (tI X Z (e1 lrgW m)) := by
  refine (pe_listRg hc hgl hml (prg_1 hgr hmr ha na) nb).imp ?_
  rintro st H Q ⟨f, s, S, hE, hS, hp⟩
  refine ⟨f, s, S, hE, hS, hp.seq fun f1 H1 w1 S1 v1 k1 s1 p1 hp1 => ?_⟩
  unfold lrgW at hp1
  split at hp1
  · rename_i j
    rw [p1.intE]
    split at hp1
    · rename_i hj
      refine ⟨j, rfl, ⟨by omega, by omega, by omega, by omega, by omega⟩, fun q hq => ?_⟩
      refine hp1.newL s1 ?_ hq
      unfold rgV
      rw [Int.sub_zero]
      exact rpl_map _ _ fun i _ => by
        rw [Int.zero_add]; exact Rp.int'
    · exact hp1.elim
  · exact hp1.elim
end
section
variable {S : Sto} {n : Nat} {ws : List W}
theorem revW_l (h : S[n]? = some (.lst ws)) : revW (.loc n) S = .ok (.loc S.length) (S ++ [.lst ws.reverse]) := by
  unfold revW getL; dsimp only; rw [h]
theorem lrgW_i {j : Int} (h : -1000000 ≤ j ∧ j ≤ 1000000) : lrgW (.int j) S = .ok (.loc S.length) (S ++ [.lst ((List.range j.toNat).map fun (i : Nat) => W.int i)]) := if_pos h
end
/-- a while loop, the turns counted down -/
theorem wp_while {c : BV} {b : SV} {Q : RS → Prop} (I : Nat → En → Sto → Prop)
    (hs : ∀ d s S, I d s S → wpR (c s S) fun k S1 => if k = true then wpS (b s S1) (onNx (fun s2 S2 => ∃ d', d' < d ∧ I d' s2 S2) Q) else Q (.nx s S1)) :
    ∀ (n d : Nat) (s : En) (S : Sto), d < n → I d s S → wpS (whileS c b n s S) Q
  | 0, d, s, S, h, _ => by omega
  | n + 1, d, s, S, h, hi => by
    unfold whileS
    rw [wpS_toS]
    refine wpR_mono (hs d s S hi) fun k S1 hk => ?_
    rw [wpS_ite]
    by_cases e : k = true
    · rw [if_pos e] at hk ⊢
      cases e2 : b s S1 with
      | nx s2 S2 =>
        rw [e2] at hk
        obtain ⟨d', hd, hi'⟩ := (show ∃ d', d' < d ∧ I d' s2 S2 from hk)
        exact wp_while I hs n d' s2 S2 (by omega) hi'
      | ct s2 S2 =>
        rw [e2] at hk
        obtain ⟨d', hd, hi'⟩ := (show ∃ d', d' < d ∧ I d' s2 S2 from hk)
        exact wp_while I hs n d' s2 S2 (by omega) hi'
      | bk s2 S2 => rw [e2] at hk; exact hk
      | rt w S2 => rw [e2] at hk; exact hk
      | ex _ _ _ => rw [e2] at hk; exact hk
      | no => rw [e2] at hk; exact hk
    · rw [if_neg e] at hk ⊢; exact hk
theorem ws_while {n : Nat} {c : BV} {b : SV} {s : En} {S : Sto} {P : RS → Prop} {hP : Ph P} : ws (sWhile n c b s S) P hP = ws (whileS c b n s S) P ⟨⟩ := rfl
theorem mapM_zip {A B : Type} {g : A → Option B} : ∀ {ws : List A} {ds : List B}, ws.length = ds.length → (∀ p ∈ ds.zip ws, g p.2 = some p.1) → ws.mapM g = some ds
  | [], [], _, _ => rfl
  | a :: ws, d :: ds, hl, h => by
    rw [mapM_cons, h (d, a) (by simp), mapM_zip (by simpa using hl) (fun p hp => h p (by simp [hp]))]; rfl
theorem Dat.pd {S : Sto} : ∀ {n : Nat} {d : PyData} {w : W}, Dat S n d w → W.pd S n w = some d
  | 0, _, _, h => h.elim
  | n + 1, d, w, h => by
    cases d with
    | none => obtain rfl : w = .non := h; rfl
    | bool b => obtain rfl : w = .bl b := h; rfl
    | int b => obtain rfl : w = .int b := h; rfl
    | str b => obtain rfl : w = .str b := h; rfl
    | tuple ds =>
      obtain ⟨ws, rfl, l, b, h⟩ := (show ∃ ws, _ from h)
      show (ws.mapM (W.pd S n)).map PyData.tuple = _
      rw [mapM_zip l fun p hp => Dat.pd (h p hp)]; rfl
    | list ds =>
      obtain ⟨k, ws, rfl, ek, l, b, h⟩ := (show ∃ k ws, _ from h)
      unfold W.pd
      dsimp only
      rw [ek]
      dsimp only
      rw [mapM_zip l fun p hp => Dat.pd (h p hp)]; rfl
    | _ => exact h.elim
theorem eqW_d {S : Sto} {x y : W} {d e : PyData} (hx : W.pd S 64 x = some d) (hy : W.pd S 64 y = some e) : eqW x y S = .ok (.bl (PyData.eqv d e)) S := by
  unfold eqW eqO; rw [hx, hy]
theorem neW_d {S : Sto} {x y : W} {d e : PyData} (hx : W.pd S 64 x = some d) (hy : W.pd S 64 y = some e) : neW x y S = .ok (.bl (!PyData.eqv d e)) S := by
  unfold neW eqO; rw [hx, hy]
theorem eqv_nil {ds : List PyData} : PyData.eqv (.list ds) (.list []) = ds.isEmpty := by cases ds <;> simp [PyData.eqv, PyData.eqvAll]
/-- xs == [] -/
theorem eqW_nil {S : Sto} {p q : Nat} {ws : List W} {ds : List PyData} (h : S[p]? = some (.lst ws)) (hd : ws.mapM (W.pd S 63) = some ds) (h' : S[q]? = some (.lst [])) : eqW (.loc p) (.loc q) S = .ok (.bl ws.isEmpty) S := by
  rw [eqW_d (d := .list ds) (e := .list []), eqv_nil]
  · have := mapM_len hd
    cases ws <;> cases ds <;> first | rfl | cases this
  · unfold W.pd; dsimp only; rw [h]; dsimp only; rw [hd]; rfl
  · unfold W.pd; dsimp only; rw [h']; rfl
theorem eqW_nilI {S : Sto} {p q : Nat} {l : List Int} (h : S[p]? = some (.lst (l.map W.int))) (h' : S[q]? = some (.lst [])) : eqW (.loc p) (.loc q) S = .ok (.bl l.isEmpty) S := by
  rw [eqW_nil h (mapM_map (g := W.pd S 63) (f := W.int) (k := PyData.int) fun _ _ => rfl) h']; simp
/-- a text and None -/
theorem eqW_sn {S : Sto} {x : Str} : eqW (.str x) .non S = .ok (.bl false) S := by
  rw [eqW_d (d := .str x) (e := .none) rfl rfl]; simp [PyData.eqv]
theorem eqW_ns {S : Sto} {x : Str} : eqW .non (.str x) S = .ok (.bl false) S := by
  rw [eqW_d (d := .none) (e := .str x) rfl rfl]; simp [PyData.eqv]
theorem put_nm {i : Nat} {w : W} {s : En} : Tg.put (.nm i) w s = some (s.set i (some w)) := by rw [Tg.put]
theorem put_tp {l : List Tg} {ws : List W} {s : En} : Tg.put (.tp l) (.tup ws) s = Tg.puts l ws s := by rw [Tg.put]
theorem puts_nil {s : En} : Tg.puts [] [] s = some s := by rw [Tg.puts]
theorem puts_cons {t : Tg} {l : List Tg} {w : W} {ws : List W} {s : En} : Tg.puts (t :: l) (w :: ws) s = (Tg.put t w s).bind (Tg.puts l ws) := by rw [Tg.puts]
end Ev

set_option Elab.async false
set_option linter.all false
set_option maxRecDepth 100000
/-! Ev15: raise; try .. except X as n with isinstance of n in the suite. -/
namespace Ev
open PySem L2 PySem.Spec PyProof.Rows
section
variable {X : Cx} {Z : WX}
def sRaise (c : Str) : SV := fun s S => .ex ⟨c, []⟩ s S
theorem s_raise {x m : Str} {j : Nat} {p p2 pos pos' : Pos} {C : Addr} {B : String} {newId initId : String} {bmB : List Value} (hc : X.calm = true) (tk : Takes X Z) (F : ExcBaseFacts B newId initId bmB) (q : PySem.W.excIn X.K C bmB newId = true) (gC : X.mg x = some (.ref C)) (kC : PySem.W.keepIn X.K (.ref C) = true) (b : PySem.W.subIn X.K (.ref C) (.type "BaseException") = some true) (t : PySem.W.typeIn X.K (.ref C) = some (.type "type")) (hg : Gl X x := by rfl)
    (hdb : (x == ("__debug__" : Str)) = false := by decide) : PS X (.Raise (some (.Call (.Name x p) [.Constant (.str m) j p2] [] pos)) none pos') (tS X Z (sRaise x)) := by
  refine (ps_raise hc tk (pmk_own F q gC kC (raises_own b t) hg hdb)).imp ?_
  rintro D st H ⟨f, s, S, hE, hS, hp⟩
  exact hp f H st (.ref C) none Kp.refl hS hE ⟨C, gC, rfl, .inl ⟨rfl, rfl⟩⟩
/-! ### within a suite: the name's slot i holds the error -/
abbrev tJ (i : Nat) (a : Addr) (X : Cx) (Z : WX) (m : EV) : TE := fun st H Q => st[i]? = some (some (V.ref a)) ∧ tI X Z m st H Q
abbrev tJA (i : Nat) (a : Addr) (X : Cx) (Z : WX) (m : AV) : TA := fun st H Q => st[i]? = some (some (V.ref a)) ∧ tA X Z m st H Q
variable {i : Nat} {a : Addr} {e b : Expr} {es : List Expr} {pos : Pos} {ma mb : EV} {mr : AV}
theorem j_lift (h : PE X e (tI X Z ma)) : PE X e (tJ i a X Z ma) := h.imp fun _ _ _ q => q.2
theorem j_one {op} (h : PE X e (tJ i a X Z ma)) : PE X (.BoolOp op [e] pos) (tJ i a X Z ma) := pe_one h
theorem j_or (ha : PE X e (tJ i a X Z ma)) (hb : PE X (.BoolOp .Or (b :: es) pos) (tJ i a X Z mb)) : PE X (.BoolOp .Or (e :: b :: es) pos) (tJ i a X Z (vOr ma mb)) := by
  refine (pe_or ha hb).imp ?_
  rintro st H Q ⟨hi, f, s, S, hE, hS, hp⟩
  refine ⟨hi, f, s, S, hE, hS, hp.seq fun f1 H1 w1 S1 v1 k1 s1 p1 hp1 => ?_⟩
  try dsimp only at hp1
  split at hp1
  · rename_i c
    unfold Rp at p1
    refine ⟨c, p1, ?_⟩
    by_cases e : c = true
    · rw [if_pos e] at hp1 ⊢
      exact hp1.fin s1 (by unfold Rp; rfl)
    · rw [if_neg e] at hp1 ⊢
      exact ⟨hi, f1, s, S1, hE.mono k1, s1, hp1⟩
  · exact hp1.elim
theorem j_nil : PA X [] (tJA i a X Z aNil) := a_nil.imp fun _ _ _ q => q.2
theorem j_cons (ha : PE X e (tJ i a X Z ma)) (hr : PA X es (tJA i a X Z mr)) (hs : starEach (e :: es) X.env = (false, eval e X.env) :: starEach es X.env := by rfl) : PA X (e :: es) (tJA i a X Z (aCons ma mr)) := by
  refine (pa_cons ha hr hs).imp ?_
  rintro st H Q ⟨hi, f, s, S, hE, hS, hp⟩
  exact ⟨hi, f, s, S, hE, hS, hp.seq fun f1 H1 w1 S1 v1 k1 s1 p1 hp1 => ⟨hi, f1, s, S1, hE.mono k1, s1, hp1.seq fun f2 H2 w2 S2 v2 k2 s2 p2 hp2 => hp2.fin s2 (.cons (p1.mono k2) p2)⟩⟩
theorem j_lst (ha : PA X es (tJA i a X Z mr)) : PE X (.List es pos) (tJ i a X Z (eL lstW mr)) := by
  refine (pe_lst ha).imp ?_
  rintro st H Q ⟨hi, f, s, S, hE, hS, hp⟩
  refine ⟨hi, f, s, S, hE, hS, hp.seq fun f1 H1 ws S1 vs k1 s1 p1 hp1 => ?_⟩
  unfold lstW at hp1
  split at hp1
  · rename_i z
    exact ⟨by rw [p1.length]; exact mill z, fun p hn => hp1.newL s1 p1 hn⟩
  · exact hp1.elim
/-- names of classes in a row -/
abbrev tVs (vs : List V) : TA := fun _ H Q => Q vs H
theorem pv_nil : PA X [] (tVs []) := pa_nil.imp fun _ _ _ q => q
theorem pv_cons {x : Str} {p : Pos} {C : Addr} {vs : List V} (gC : X.mg x = some (.ref C)) (hr : PA X es (tVs vs)) (hg : Gl X x := by rfl) (hd : (x == ("__debug__" : Str)) = false := by decide) (hs : starEach (Expr.Name x p :: es) X.env = (false, eval (.Name x p) X.env) :: starEach es X.env := by rfl) : PA X (.Name x p :: es) (tVs (.ref C :: vs)) :=
  (pa_cons (pe_glob hg gC (show RelV (.ref C) (.ref C) from rfl) hd) hr hs).imp fun _ _ _ q => q
theorem pv_ty {x : Str} {n : String} {p : Pos} {vs : List V} (hm : X.mg x = none) (hv : bootBuiltins x = some (.type n)) (hr : PA X es (tVs vs)) (hg : Gl X x := by rfl) (hn : x ≠ "__name__" := by decide) (hd : (x == ("__debug__" : Str)) = false := by decide) (hs : starEach (Expr.Name x p :: es) X.env = (false, eval (.Name x p) X.env) :: starEach es X.env := by rfl) : PA X (.Name x p :: es) (tVs (.ty n :: vs)) :=
  (pa_cons (pe_bltn hg hm hv (show RelV (.ty n) (.type n) from rfl) hn hd) hr hs).imp fun _ _ _ q => q
end
section
variable {X : Cx} {Z : WX} {i : Nat} {a D : Addr} {oe : Obj} {pn : List (Addr × Obj)}
/-- isinstance(e, (c1, ..)), e the exception that the suite holds -/
def rIsET (K : PySem.W.Frag) (D a : Addr) : List V → Hp → VK → Prop := fun xs H Q => ∃ (tp : Addr) (cs : List V) (us : List Value) (b : Bool), xs = [.ref a, .ref tp] ∧ H tp = some (.tup cs) ∧ Paired ClsV cs us ∧ PySem.W.kitAny K (.ref D) us = some b ∧ Q (.bl b) H
theorem call_isET (C : ExcC X.K D) (hz : Zc (.ref D) none oe) (hf : ∃ vs, oe.data = .fields vs) : CallR (X.suite a ((a, oe) :: pn)) (.builtin "isinstance") (rIsET X.K D a) := by
  intro pins s σ H xs us Q I r h
  obtain ⟨tp, cs, ws, b, rfl, hT, k, e, q⟩ := h
  obtain ⟨u1, u2, rfl, r1, r2⟩ := vals2 r
  cases (show u1 = Value.ref a from r1)
  cases (show u2 = Value.ref tp from r2)
  obtain ⟨hget, _⟩ := I.pin (a, oe) (List.mem_append.mpr (.inl List.mem_cons_self))
  obtain ⟨vs, hv⟩ := hf
  have J : PySem.W.InstAt s.heap a oe D none := by
    obtain ⟨oc, od, oda, osl⟩ := oe
    obtain ⟨h1, h2⟩ := hz
    dsimp only at h1 h2 hv
    subst h1 h2 hv
    exact ⟨hget, rfl, rfl, trivial⟩
  obtain ⟨_, its, rv, o, h1, h2, n, h3⟩ := (show ObjOk X.prog X.w H s.heap tp (.tup cs) from I.hok tp _ hT)
  have e3 := ClsV.all k rv
  subst e3
  obtain ⟨oc, od, dt, sl⟩ := o
  simp only at h2 h3
  subst h2 h3
  exact PySem.W.kia_tup (PySem.W.handS_kitx_exc C.hg C.hk C.hs C.hd C.ha C.hn C.ht C.hm) I.kIn J h1 e (fun z => nomatch z) fun tk => ⟨.bl b, H, I.kept (t' := tk) fun _ _ z => z, rfl, q⟩
variable {n : Str} {p p1 p2 p3 pos : Pos} {es : List Expr} {b : Bool}
theorem j_isE {x : Expr} {c : V} {cv : Value} (C : ExcC X.K D) (hz : Zc (.ref D) none oe) (hf : ∃ vs, oe.data = .fields vs) (hm : X.mg "isinstance" = none) (hi : X.N[i]? = some n) (hv : Vis X.env.scope n) (hx : PA (X.suite a ((a, oe) :: pn)) [x] (tVs [c])) (hcv : ∀ u, RelV c u → u = cv) (hk : PySem.W.kitOne X.K (.ref D) cv = some b)
    (hg : Gl X "isinstance" := by rfl) (hd : (n == ("__debug__" : Str)) = false := by decide) (hcd : (n == ("__classdict__" : Str)) = false := by decide) (hs : starEach (Expr.Name n p1 :: [x]) X.env = (false, eval (.Name n p1) X.env) :: starEach [x] X.env := by rfl) (hpl : (backTo pos (starEach [x] X.env)).any (·.1) = false := by rfl) :
    PE (X.suite a ((a, oe) :: pn)) (.Call (.Name "isinstance" p) [.Name n p1, x] [] pos) (tJ i a (X.suite a ((a, oe) :: pn)) Z (eC (.bl b))) := by
  refine (pe_callB (call_isE C hz hf) hg hm (by decide +kernel) (pa_cons (pe_var (i := i) hi hv hd hcd) hx hs) (by decide) (by decide) hs hpl).imp ?_
  rintro st H Q ⟨hst, f, s, S, hE, hS, hp⟩
  exact ⟨_, hst, c, cv, b, rfl, hcv, hk, hp.fin hS Rp.bl'⟩
theorem j_isET {k : Nat} {cs : List V} {us : List Value} (C : ExcC X.K D) (hz : Zc (.ref D) none oe) (hf : ∃ vs, oe.data = .fields vs) (hm : X.mg "isinstance" = none) (hi : X.N[i]? = some n) (hv : Vis X.env.scope n) (hx : PA (X.suite a ((a, oe) :: pn)) es (tVs cs)) (hl : cs.length ≤ 1000) (hc : Paired ClsV cs us) (hk : PySem.W.kitAny X.K (.ref D) us = some b)
    (hg : Gl X "isinstance" := by rfl) (hd : (n == ("__debug__" : Str)) = false := by decide) (hcd : (n == ("__classdict__" : Str)) = false := by decide) (hs : starEach (Expr.Name n p1 :: [.Tuple es k p2]) X.env = (false, eval (.Name n p1) X.env) :: starEach [.Tuple es k p2] X.env := by rfl)
    (hs2 : starEach [Expr.Tuple es k p2] X.env = (false, eval (.Tuple es k p2) X.env) :: starEach [] X.env := by rfl) (hpl : (backTo pos (starEach [Expr.Tuple es k p2] X.env)).any (·.1) = false := by rfl) :
    PE (X.suite a ((a, oe) :: pn)) (.Call (.Name "isinstance" p) [.Name n p1, .Tuple es k p2] [] pos) (tJ i a (X.suite a ((a, oe) :: pn)) Z (eC (.bl b))) := by
  refine (pe_callB (call_isET C hz hf) hg hm (by decide +kernel) (pa_cons (pe_var (i := i) hi hv hd hcd) (pa_cons (pe_tup hx) pa_nil hs2) hs) (by decide) (by decide) hs hpl).imp ?_
  rintro st H Q ⟨hst, f, s, S, hE, hS, hp⟩
  refine ⟨_, hst, mill (by omega), fun T hT => ⟨T, cs, us, b, rfl, upd_same, hc, hk, ?_⟩⟩
  exact hp f _ _ (kpLaid hT _) (hS.laid hT _) Rp.bl'
end
end Ev

set_option Elab.async false
set_option linter.all false
set_option maxRecDepth 100000
/-! Ev16: try .. except X as n. -/
namespace Ev
open PySem L2 PySem.Spec PyProof.Rows
variable {EE : Exc}
section
variable {X : Cx} {Z : WX} {i : Nat} {a : Addr} {e : Expr} {st0 : Stmt} {sts : List Stmt} {pos pos' : Pos} {m : EV} {ms mt : SV}
/-- ends that only see states in which the name still holds the error -/
def endJ (i : Nat) (a : Addr) (D : Ends) : Ends := { D with nx := fun st H => st[i]? = some (some (V.ref a)) → D.nx st H }
def tJS (i : Nat) (a : Addr) (X : Cx) (Z : WX) (m : SV) : TS := fun D st H => st[i]? = some (some (V.ref a)) ∧ ∃ f s S, RelE X.K X.mg f H s st ∧ RelS X.K X.mg f H S ∧ postS X Z f H (m s S) (endJ i a D)
theorem js_set (j : Nat) {x : Str} (hij : j ≠ i) (hN : X.N.Nodup) (he : PE X e (tJ i a X Z m)) (hx : Loc X.env.scope x := by first | exact Or.inl rfl | exact Or.inr rfl) (hi : X.N[j]? = some x := by rfl) (hs : swapsWith e (some (.Name x pos')) pos.line X.env = pure false := by rfl)
    (hf : X.fn x = true ∨ X.env.scope.names.lookup x = some .local := by first | exact .inl rfl | exact .inr rfl) : PS X (.Assign [.Name x pos'] e pos) (tJS i a X Z (sSet j m)) := by
  refine (ps_set hN hi hx he hs hf).imp ?_
  rintro D st H ⟨hst, f, s, S, hE, hS, hp⟩
  refine ⟨hst, f, s, S, hE, hS, hp.seq hE fun f1 H1 w1 S1 v1 k1 s1 e1 p1 hp1 => ?_⟩
  exact hp1 f1 H1 _ Kp.refl s1 (e1.set p1 j) (by rw [List.getElem?_set_ne hij]; exact hst)
theorem js_one (h : PS X st0 (tJS i a X Z ms)) : PSs X [st0] (tJS i a X Z ms) := pss_one h
theorem js_cons (h1 : PS X st0 (tJS i a X Z ms)) (h2 : PSs X sts (tJS i a X Z mt)) : PSs X (st0 :: sts) (tJS i a X Z (sSeq ms mt)) := by
  refine (pss_cons h1 h2).imp ?_
  rintro D st H ⟨hst, f, s, S, hE, hS, hp⟩
  refine ⟨hst, f, s, S, hE, hS, ?_⟩
  unfold sSeq at hp
  cases e : ms s S with
  | nx s1 S1 =>
    rw [e] at hp
    intro f' H' st' k' s' e' h'
    exact ⟨h', f', s1, S1, e', s', postS.mono (show postS X Z f H (mt s1 S1) (endJ i a D) from hp) k'⟩
  | rt w S1 => rw [e] at hp; exact hp
  | bk s1 S1 => rw [e] at hp; exact hp
  | ct s1 S1 => rw [e] at hp; exact hp
  | ex e1 s1 S1 => rw [e] at hp; exact hp
  | no => rw [e] at hp; exact hp
/-- ca: whether an error is caught; mu: the suite, by the error -/
def sTry (mb : SV) (i : Nat) (ca : Xn → Option Bool) (mu : Xn → SV) : SV := fun s S => match mb s S with
  | .ex e s2 S2 => match ca e with
    | some true => if i < s2.length then (match mu e (s2.set i none) S2 with
      | .nx s3 S3 => .nx (s3.set i none) S3
      | _ => .no) else .no
    | some false => .ex e s2 S2
    | none => .no
  | r => r
theorem relE_len {K : PySem.W.Frag} {mg : Str → Option Value} {f : List Addr} {H : Hp} : ∀ {s : En} {vs : L2.St}, RelE K mg f H s vs → vs.length = s.length
  | [], _, h => by unfold RelE at h; subst h; rfl
  | o :: s, vs, h => by
    unfold RelE at h
    obtain ⟨x, r, rfl, _, z⟩ := h
    rw [List.length_cons, List.length_cons, relE_len z]
theorem pss_ex {A : Type} {P : A → Prop} {X : Cx} {b : List Stmt} {t : A → TS} (h : ∀ e, P e → PSs X b (t e)) : PSs X b (fun D σ H => ∃ e, P e ∧ t e D σ H) :=
  ⟨fun pins s σ H D I q => by
    obtain ⟨e, he, q⟩ := q
    exact (h e he).run pins s σ H D I q⟩
theorem s_tryAs {x n : Str} {c : Value} {body suite : List Stmt} {b₀ : Stmt} {np : Pos} {mb : SV} {ca : Xn → Option Bool} {mu : Xn → SV}
    (hs : X.stack = X.env :: X.outer) (hf : X.env.frame = some X.env.locals) (hN : X.N.Nodup) (hi : X.N[i]? = some n) (hln : X.env.kindOf n = some .local) (hc : Names X x c) (tk : Takes X Z)
    (hca : ∀ y b C, ca y = some b → X.mg y.c = some (.ref C) → PySem.W.exmOne X.K (.ref C) c = some b)
    (hb : ∀ (W : WX) (pn : List (Addr × Obj)) (xe : Value → Shared → Prop), Takes (X.tr pn xe) W → PassesOwn (model X.prog X.w) X.A X.env xe → PSs (X.tr pn xe) body (tS (X.tr pn xe) W mb))
    (hsu : ∀ (a : Addr) (oe : Obj) (C : Addr) (d : Option Addr) (pn : List (Addr × Obj)) (e : Xn), Zc (.ref C) d oe → (∃ vs, oe.data = .fields vs) → X.mg e.c = some (.ref C) → ca e = some true → (e.fs = [] → d = none) → PSs (X.suite a ((a, oe) :: pn)) (b₀ :: suite) (tJS i a (X.suite a ((a, oe) :: pn)) Z0 (mu e))) :
    PS X (.Try body [.ExceptHandler (some (.Name x np)) (some n) (b₀ :: suite) pos'] [] [] pos) (tS X Z (sTry mb i ca mu)) := by
  refine (ps_try_as (i := i) (Wout := Z) (tb := fun W => tS X W mb) (ts := fun a cls d => fun D σ H => ∃ e : Xn, (∃ C, cls = .ref C ∧ X.mg e.c = some (.ref C) ∧ ca e = some true ∧ (e.fs = [] → d = none)) ∧ tJS i a X Z0 (mu e) D σ H)
    hs hf hN hi hln hc tk (fun W pn xe h1 h2 => hb W pn xe h1 h2) (fun a oe cls d pn hz hf => ?_)).imp ?_
  · refine pss_ex fun e he => ?_
    obtain ⟨C, rfl, h1, h2, h3⟩ := he
    exact hsu a oe C d pn e hz hf h1 h2 h3
  · rintro D st H ⟨f, s, S, hE, hS, hp⟩
    refine ⟨f, s, S, hE, hS, ?_⟩
    unfold sTry at hp
    cases e : mb s S with
    | nx s1 S1 => rw [e] at hp; exact hp
    | rt w S1 => rw [e] at hp; exact hp
    | bk s1 S1 => rw [e] at hp; exact hp
    | ct s1 S1 => rw [e] at hp; exact hp
    | no => rw [e] at hp; exact hp
    | ex x1 s1 S1 =>
      rw [e] at hp
      dsimp only at hp
      intro f' H' st' cl d k' s' e' x'
      obtain ⟨C, hC, rfl, hd⟩ := x'
      cases hcc : ca x1 with
      | none => rw [hcc] at hp; exact hp.elim
      | some b =>
        rw [hcc] at hp
        refine ⟨b, hca _ _ _ hcc hC, ?_, ?_⟩
        · rintro rfl a ha
          dsimp only at hp
          split at hp
          case isFalse => exact hp.elim
          rename_i hil
          refine ⟨x1, ⟨C, rfl, hC, hcc, fun hfs => ?_⟩, ?_, f', s1.set i none, S1, e'.clr i, s', ?_⟩
          · rcases hd with ⟨_, rfl⟩ | ⟨dx, vs, hne, rfl, hdx, hr⟩
            · rfl
            · exact absurd hfs hne
          · rw [List.getElem?_set_self (by rw [relE_len e']; exact hil)]
          · cases e2 : mu x1 (s1.set i none) S1 with
            | nx s3 S3 =>
              rw [e2] at hp
              intro f2 H2 st2 k2 s2 e2' _
              exact hp f2 H2 _ (k'.trans k2) s2 (e2'.clr i)
            | rt w S3 => rw [e2] at hp; exact hp.elim
            | bk s3 S3 => rw [e2] at hp; exact hp.elim
            | ct s3 S3 => rw [e2] at hp; exact hp.elim
            | ex _ s3 S3 => rw [e2] at hp; exact hp.elim
            | no => rw [e2] at hp; exact hp.elim
        · rintro rfl
          exact hp f' H' st' _ d k' s' e' ⟨C, hC, rfl, hd⟩
/-- one class, made without fields -/
def exOne (c : Str) (b : Bool) (e : Xn) : Option Bool := match e.fs with
  | [] => if e.c = c then some b else none
  | _ => none
theorem exOne_some {c : Str} {b b' : Bool} {e : Xn} (h : exOne c b e = some b') : e.c = c ∧ e.fs = [] ∧ b' = b := by
  unfold exOne at h
  split at h
  · rename_i h0
    split at h
    · rename_i h1
      cases h
      exact ⟨h1, h0, rfl⟩
    · cases h
  · cases h
/-! what a result with an error asks -/
theorem ws_try_nx {mb : SV} {i : Nat} {ca : Xn → Option Bool} {mu : Xn → SV} {s s2 : En} {S S2 : Sto} {P : RS → Prop} (h : mb s S = .nx s2 S2) (q : P (.nx s2 S2)) : wpS (sTry mb i ca mu s S) P := by
  unfold sTry; rw [h]; exact q
theorem ws_try_ex {mb : SV} {i : Nat} {ca : Xn → Option Bool} {mu : Xn → SV} {s s2 : En} {S S2 : Sto} {P : RS → Prop} {e : Xn} (h : mb s S = .ex e s2 S2) (hc : ca e = some true) (hi : i < s2.length) (q : @wpS noExc (mu e (s2.set i none) S2) fun r => match r with
    | .nx s3 S3 => P (.nx (s3.set i none) S3)
    | _ => False) : wpS (sTry mb i ca mu s S) P := by
  unfold sTry; rw [h]; dsimp only; rw [hc]; dsimp only; rw [if_pos hi]
  cases e2 : mu e (s2.set i none) S2 <;> rw [e2] at q <;> first | exact q | exact q.elim
/-- an assignment tried -/
theorem wp_try_set {i0 i : Nat} {m : EV} {ca : Xn → Option Bool} {mu : Xn → SV} {s : En} {S : Sto} {P : RS → Prop}
    (h : @wpR W ⟨fun e S2 => ca e = some true ∧ i < s.length ∧ @wpS noExc (mu e (s.set i none) S2) fun r => match r with
      | .nx s3 S3 => P (.nx (s3.set i none) S3)
      | _ => False⟩ (m s S) fun w S2 => P (.nx (s.set i0 (some w)) S2)) : wpS (sTry (sSet i0 m) i ca mu s S) P := by
  unfold sTry sSet
  cases e : m s S with
  | ok w S2 => rw [e] at h; exact h
  | ex x S2 =>
    rw [e] at h
    obtain ⟨h1, h2, q⟩ := h
    dsimp only [R.toS]; rw [h1]; dsimp only; rw [if_pos h2]
    cases e2 : mu x (s.set i none) S2 <;> rw [e2] at q <;> first | exact q | exact q.elim
  | no => rw [e] at h; exact h.elim
/-- an expression tried -/
theorem wp_try_expr {i : Nat} {m : EV} {ca : Xn → Option Bool} {mu : Xn → SV} {s : En} {S : Sto} {P : RS → Prop}
    (h : @wpR W ⟨fun e S2 => ca e = some true ∧ i < s.length ∧ @wpS noExc (mu e (s.set i none) S2) fun r => match r with
      | .nx s3 S3 => P (.nx (s3.set i none) S3)
      | _ => False⟩ (m s S) fun w S2 => P (.nx s S2)) : wpS (sTry (sExpr m) i ca mu s S) P := by
  unfold sTry sExpr
  cases e : m s S with
  | ok w S2 => rw [e] at h; exact h
  | ex x S2 =>
    rw [e] at h
    obtain ⟨h1, h2, q⟩ := h
    dsimp only [R.toS]; rw [h1]; dsimp only; rw [if_pos h2]
    cases e2 : mu x (s.set i none) S2 <;> rw [e2] at q <;> first | exact q | exact q.elim
  | no => rw [e] at h; exact h.elim
/-- what raises nothing -/
theorem wpR_up {A : Type} {r : R A} {Q : A → Sto → Prop} (h : @wpR A noExc r Q) : wpR r Q := by
  cases r with
  | ok a S => exact h
  | ex _ _ => exact h.elim
  | no => exact h.elim
theorem wpS_raise {c : Str} {s : En} {S : Sto} {P : RS → Prop} : wpS (sRaise c s S) P = Exc.post ⟨c, []⟩ S := rfl
end
/-! isinstance of an error's class -/
theorem kit_ref {K : PySem.W.Frag} {t : Value} {C : Addr} {b : Bool} (hd : PySem.W.hasDictIn K C = true) (ht : PySem.W.typeIn K (.ref C) = some (.type "type")) (h4 : PySem.W.subIn K t (.ref C) = some b) (hne : b = true ∨ (t == .ref C) = false) : PySem.W.kitOne K t (.ref C) = some b := by
  unfold PySem.W.kitOne
  by_cases e : (t == .ref C) = true
  · rw [if_pos e]
    rcases hne with rfl | h
    · rfl
    · rw [h] at e; cases e
  · rw [if_neg e]
    obtain ⟨cd, hc, _⟩ := PySem.W.any_some hd
    have e2 : ((PySem.W.clsIn K C).isSome && PySem.W.typeIn K (.ref C) == some (.type "type")) = true := by rw [hc, ht] <;> rfl
    show (if ((PySem.W.clsIn K C).isSome && PySem.W.typeIn K (.ref C) == some (.type "type")) = true then PySem.W.subIn K t (.ref C) else none) = some b
    rw [if_pos e2]
    exact h4
theorem kit_type {K : PySem.W.Frag} {t : Value} {T : String} {b : Bool} (hm : PySem.W.kitMeta T = true) (h4 : PySem.W.subIn K t (.type T) = some b) (hne : b = true ∨ (t == .type T) = false) : PySem.W.kitOne K t (.type T) = some b := by
  unfold PySem.W.kitOne
  by_cases e : (t == .type T) = true
  · rw [if_pos e]
    rcases hne with rfl | h
    · rfl
    · rw [h] at e; cases e
  · rw [if_neg e]
    show (if PySem.W.kitMeta T = true then PySem.W.subIn K t (.type T) else none) = some b
    rw [if_pos hm]
    exact h4
theorem kit_f {K : PySem.W.Frag} {t c : Value} {cs : List Value} (h : PySem.W.kitOne K t c = some false) (hr : PySem.W.kitAny K t cs = some false) : PySem.W.kitAny K t (c :: cs) = some false := kitAny_cons h (fun _ => hr) fun z => nomatch z
theorem kit_ff {K : PySem.W.Frag} {t c : Value} {cs : List Value} {r : Bool} (h : PySem.W.kitOne K t c = some false) (hr : PySem.W.kitAny K t cs = some r) : PySem.W.kitAny K t (c :: cs) = some r := kitAny_cons h (fun _ => hr) fun z => nomatch z
theorem kit_t {K : PySem.W.Frag} {t c : Value} {cs : List Value} (h : PySem.W.kitOne K t c = some true) : PySem.W.kitAny K t (c :: cs) = some true := kitAny_cons h (fun z => nomatch z) fun _ => rfl
end Ev

set_option Elab.async false
set_option linter.all false
set_option maxRecDepth 100000
/-! Ev17: dicts walked by their keys (locked meanwhile). -/
namespace Ev
open PySem L2 PySem.Spec PyProof.Rows
section
variable {X : Cx} {Z : WX}
def keyIt (w : W) : Sto → Nat → Option (Option W) := fun S i => match w with
  | .loc n => match S[n]? with
    | some (.fdc kvs) => some ((kvs[i]?).map (·.1))
    | _ => none
  | _ => none
def keyLen (w : W) (S : Sto) : Option Nat := match w with
  | .loc n => match S[n]? with
    | some (.fdc kvs) => some kvs.length
    | _ => none
  | _ => none
def iKey (m : EV) : IV := fun s S => (m s S).bind fun w S => match keyLen w S with
  | some n => .ok ⟨keyIt w, n + 1⟩ S
  | none => .no
theorem RpK.get {f : List Addr} {H : Hp} : ∀ {kvs : List (W × W)} {vs : List (Key × V)} {i : Nat} {p : W × W}, RpK X.K X.mg f H kvs vs → kvs[i]? = some p → ∃ q v, vs[i]? = some (q, v) ∧ W.key? p.1 = some q ∧ Rp X.K X.mg f H p.2 v
  | [], _, _, _, _, e => by simp at e
  | (k, w) :: kvs, vs, i, p, h, e => by
    unfold RpK at h
    obtain ⟨q, v, r, rfl, hk, hw, hr⟩ := h
    cases i with
    | zero => simp at e; subst e; exact ⟨q, v, by simp, hk, hw⟩
    | succ i =>
      obtain ⟨q', v', e1, a, b⟩ := RpK.get (i := i) hr (by simpa using e)
      exact ⟨q', v', by simpa using e1, a, b⟩
theorem rp_key {f : List Addr} {H : Hp} {w : W} {q : Key} (h : W.key? w = some q) : Rp X.K X.mg f H w (kV q) := by
  cases w with
  | int i => cases h; exact Rp.int'
  | str x => cases h; exact Rp.str'
  | _ => cases h
theorem it_key {f : List Addr} {H : Hp} {n : Nat} {a : Addr} {od : Obj} {vs : List (Key × V)} (ha : f[n]? = some a) (q : H a = some (.frz od (.dK vs))) : ItOk X f H (keyIt (.loc n)) (Itk a od vs) := by
  intro f1 H1 S1 i k s1
  have ha1 := k.ext _ _ ha
  have q1 := k.frz _ _ _ q
  unfold keyIt
  dsimp only
  cases e1 : S1[n]? with
  | none => exact ⟨fun z => (by cases z), fun w z => (by cases z)⟩
  | some o =>
    cases o with
    | fdc us =>
      obtain ⟨od', vs', q', r⟩ := s1.at_ n _ a e1 ha1
      rw [q1] at q'
      cases q'
      refine ⟨fun z => ⟨q1, ?_⟩, fun w z => ?_⟩
      · have z' : (us[i]?).map (·.1) = none := Option.some.inj z
        rw [RpK.length r]
        exact List.getElem?_eq_none_iff.mp (Option.map_eq_none_iff.mp z')
      · have z' : (us[i]?).map (·.1) = some w := Option.some.inj z
        obtain ⟨p, hp, rfl⟩ := map_someE z'
        obtain ⟨k', v', e3, hk, hv⟩ := RpK.get r hp
        refine ⟨⟨q1, (List.getElem?_eq_some_iff.mp e3).1⟩, fun x H' y => ?_⟩
        obtain ⟨rfl, k2, v2, e4, rfl⟩ := y
        rw [e3] at e4
        cases e4
        exact ⟨Kp.refl, s1, rp_key hk⟩
    | _ => exact ⟨fun z => (by cases z), fun w z => (by cases z)⟩
theorem i_key {tg l : Expr} {m : EV} (hl : PE X l (tI X Z m)) : PI X tg l (tF X Z (iKey m)) := by
  refine (pi_keys hl).imp ?_
  rintro st H Q ⟨f, s, S, hE, hS, hp⟩
  refine ⟨f, s, S, hE, hS, hp.seq fun f1 H1 w1 S1 v1 k1 s1 p1 hp1 => ?_⟩
  split at hp1
  · rename_i n e
    unfold keyLen at e
    split at e
    · split at e
      · rename_i e0
        obtain ⟨a, od, vs, rfl, ha, q, r⟩ := fdcAt s1 p1 e0
        exact ⟨a, od, rfl, .inl ⟨vs, q, hp1.fin s1 (it_key ha q)⟩⟩
      · cases e
    · cases e
  · exact hp1.elim
/-! ### locks -/
theorem kq_lock {f : List Addr} {H : Hp} {a : Addr} {od : Obj} {vs : List (Key × V)} (q : H a = some (.dK vs)) : Kq f H f (upd H a (.frz od (.dK vs))) :=
  ⟨fun _ _ h => h, fun b xs h => by rw [upd_ne (fun z => by subst z; rw [q] at h; cases h)]; exact h, fun b o u h => by rw [upd_ne (fun z => by subst z; rw [q] at h; cases h)]; exact h, fun b o u h => by rw [upd_ne (fun z => by subst z; rw [q] at h; cases h)]; exact h⟩
theorem kq_unlock {f : List Addr} {H : Hp} {a : Addr} {od : Obj} {vs : List (Key × V)} (q : H a = some (.frz od (.dK vs))) : Kq f H f (upd H a (.dK vs)) :=
  ⟨fun _ _ h => h, fun b xs h => by rw [upd_ne (fun z => by subst z; rw [q] at h; cases h)]; exact h, fun b o u h => by rw [upd_ne (fun z => by subst z; rw [q] at h; cases h)]; exact h, fun b o u h => by rw [upd_ne (fun z => by subst z; rw [q] at h; cases h)]; exact h⟩
theorem kp_lock {f f' : List Addr} {H H' : Hp} {a : Addr} {od : Obj} {vs : List (Key × V)} (q : H a = some (.dK vs)) (ha : a ∈ f) (k : Kp f (upd H a (.frz od (.dK vs))) f' H') : Kp f H f' (upd H' a (.dK vs)) := by
  have ne : ∀ b u, H b = some u → u ≠ .dK vs → b ≠ a := fun b u h n z => by subst z; rw [q] at h; cases h; exact n rfl
  refine ⟨k.ext, fun b xs h => ?_, fun b o u h => ?_, fun b o hb h => ?_, fun b hb => ?_⟩
  · have nb := ne b _ h (fun z => nomatch z)
    rw [upd_ne nb]; exact k.tup b xs (by rw [upd_ne nb]; exact h)
  · have nb := ne b _ h (fun z => nomatch z)
    rw [upd_ne nb]; exact k.frz b o u (by rw [upd_ne nb]; exact h)
  · have nb : b ≠ a := fun z => hb (z ▸ ha)
    rw [upd_ne nb]; exact k.out b o hb (by rw [upd_ne nb]; exact h)
  · rcases k.new b hb with h | h
    · exact .inl h
    · by_cases e : b = a
      · exact .inl (e ▸ ha)
      · rw [upd_ne e] at h; exact .inr h
theorem rs_set {f : List Addr} {H H' : Hp} {S : Sto} {n : Nat} {a : Addr} {o : O} (s : RelS X.K X.mg f H S) (ha : f[n]? = some a) (kq : Kq f H f H') (he : ∀ b, b ≠ a → H' b = H b) (h : RelO X.K X.mg f H' o a) : RelS X.K X.mg f H' (S.set n o) := by
  refine ⟨by rw [List.length_set]; exact s.len, s.nd, fun m o' b h1 h2 => ?_⟩
  by_cases e : m = n
  · subst e
    have hm : m < S.length := by rw [← s.len]; exact (List.getElem?_eq_some_iff.mp ha).1
    rw [List.getElem?_set_self hm] at h1
    cases h1
    rw [ha] at h2; cases h2
    exact h
  · rw [List.getElem?_set_ne (Ne.symm e)] at h1
    refine RelO.monoQ kq (s.at_ m o' b h1 h2) (he b ?_)
    rintro rfl
    obtain ⟨q1, e1⟩ := List.getElem?_eq_some_iff.mp h2
    obtain ⟨q2, e2⟩ := List.getElem?_eq_some_iff.mp ha
    exact e ((List.getElem_inj s.nd).mp (e1.trans e2.symm))
def unl (n : Nat) (kvs : List (W × W)) : RS → RS
  | .nx s S => .nx s (S.set n (.dct kvs))
  | .rt w S => .rt w (S.set n (.dct kvs))
  | .bk s S => .bk s (S.set n (.dct kvs))
  | .ct s S => .ct s (S.set n (.dct kvs))
  | _ => .no
def sLock (me : EV) (b : SV) : SV := fun s S => match me s S with
  | .ok (.loc n) _ => (match S[n]? with
    | some (.dct kvs) => unl n kvs (b s (S.set n (.fdc kvs)))
    | some (.fdc _) => b s S
    | _ => .no)
  | _ => .no
theorem s_lock {st0 : Stmt} {b : SV} (me : EV) (h : PS X st0 (tS X Z b)) : PS X st0 (tS X Z (sLock me b)) := by
  refine ⟨fun pins s st H D I q => ?_⟩
  obtain ⟨f, en, S, hE, hS, hp⟩ := q
  unfold sLock at hp
  split at hp
  · rename_i n S0 e0
    split at hp
    · rename_i kvs e1
      obtain ⟨a, ha, vs, hH, hr⟩ := hS.get e1
      have ham : a ∈ f := List.mem_of_getElem? ha
      refine (ps_lock h).run pins s st H D I ⟨a, .dK vs, hH, trivial, fun od => ?_⟩
      have kl := kq_lock (f := f) (od := od) hH
      refine ⟨f, en, S.set n (.fdc kvs), RelE.monoQ kl hE, rs_set hS ha kl (fun b nb => upd_ne nb) ⟨od, vs, upd_same, RpK.monoQ kl _ _ hr⟩, ?_⟩
      have un : ∀ (f' : List Addr) (H' : Hp) (S2 : Sto), Kp f (upd H a (.frz od (.dK vs))) f' H' → RelS X.K X.mg f' H' S2 → H' a = some (.frz od (.dK vs)) ∧ Kp f H f' (upd H' a (.dK vs)) ∧ Kq f' H' f' (upd H' a (.dK vs)) ∧ RelS X.K X.mg f' (upd H' a (.dK vs)) (S2.set n (.dct kvs)) := fun f' H' S2 k s' => by
        have q1 := k.frz a od _ upd_same
        have kp := kp_lock hH ham k
        have ku := kq_unlock (f := f') q1
        exact ⟨q1, kp, ku, rs_set s' (k.ext _ _ ha) ku (fun b nb => upd_ne nb) ⟨vs, upd_same, RpK.monoQ kp.q _ _ hr⟩⟩
      cases e2 : b en (S.set n (.fdc kvs)) with
      | nx s2 S2 =>
        rw [e2] at hp
        intro f' H' st' k s' e'
        obtain ⟨q1, kp, ku, rs⟩ := un f' H' S2 k s'
        exact ⟨q1, hp f' _ st' kp rs (RelE.monoQ ku e')⟩
      | rt w S2 =>
        rw [e2] at hp
        intro f' H' v k s' e'
        obtain ⟨q1, kp, ku, rs⟩ := un f' H' S2 k s'
        exact ⟨q1, hp f' _ v kp rs (Rp.monoQ ku _ _ e')⟩
      | bk s2 S2 =>
        rw [e2] at hp
        intro f' H' st' k s' e'
        obtain ⟨q1, kp, ku, rs⟩ := un f' H' S2 k s'
        exact ⟨q1, hp f' _ st' kp rs (RelE.monoQ ku e')⟩
      | ct s2 S2 =>
        rw [e2] at hp
        intro f' H' st' k s' e'
        obtain ⟨q1, kp, ku, rs⟩ := un f' H' S2 k s'
        exact ⟨q1, hp f' _ st' kp rs (RelE.monoQ ku e')⟩
      | ex x s2 S2 => rw [e2] at hp; exact hp.elim
      | no => rw [e2] at hp; exact hp.elim
    · exact h.run pins s st H D I ⟨f, en, S, hE, hS, hp⟩
    · exact hp.elim
  · exact hp.elim
def unlR (n : Nat) (kvs : List (W × W)) : R W → R W
  | .ok w S => .ok w (S.set n (.dct kvs))
  | _ => .no
def eLock (me : EV) (m : EV) : EV := fun s S => match me s S with
  | .ok (.loc n) _ => (match S[n]? with
    | some (.dct kvs) => unlR n kvs (m s (S.set n (.fdc kvs)))
    | some (.fdc _) => m s S
    | _ => .no)
  | _ => .no
theorem e_lock {e : Expr} {m : EV} (me : EV) (h : PE X e (tI X Z m)) : PE X e (tI X Z (eLock me m)) := by
  refine ⟨fun pins s st H Q I q => ?_⟩
  obtain ⟨f, en, S, hE, hS, hp⟩ := q
  unfold eLock at hp
  split at hp
  · rename_i n S0 e0
    split at hp
    · rename_i kvs e1
      obtain ⟨a, ha, vs, hH, hr⟩ := hS.get e1
      have ham : a ∈ f := List.mem_of_getElem? ha
      refine (pe_lock h).run pins s st H Q I ⟨a, .dK vs, hH, trivial, fun od => ?_⟩
      have kl := kq_lock (f := f) (od := od) hH
      refine ⟨f, en, S.set n (.fdc kvs), RelE.monoQ kl hE, rs_set hS ha kl (fun b nb => upd_ne nb) ⟨od, vs, upd_same, RpK.monoQ kl _ _ hr⟩, ?_⟩
      cases e2 : m en (S.set n (.fdc kvs)) with
      | ok w S2 =>
        rw [e2] at hp
        intro f' H' v k s' r'
        have q1 := k.frz a od _ upd_same
        have kp := kp_lock hH ham k
        have ku := kq_unlock (f := f') q1
        exact ⟨q1, hp f' _ v kp (rs_set s' (k.ext _ _ ha) ku (fun b nb => upd_ne nb) ⟨vs, upd_same, RpK.monoQ kp.q _ _ hr⟩) (Rp.monoQ ku _ _ r')⟩
      | ex x S2 => rw [e2] at hp; exact hp.elim
      | no => rw [e2] at hp; exact hp.elim
    · exact h.run pins s st H Q I ⟨f, en, S, hE, hS, hp⟩
    · exact hp.elim
  · exact hp.elim
end
end Ev

set_option Elab.async false
set_option linter.all false
set_option maxRecDepth 100000
/-! Ev18: own classes: attributes, methods, instances made. -/
namespace Ev
open PySem L2 PySem.Spec PyProof.Rows
section
variable {K : PySem.W.Frag} {mg : Str → Option Value} {f : List Addr} {H : Hp}
def putFW (x : Str) (w : W) : List (Str × W) → List (Str × W)
  | [] => [(x, w)]
  | (g, y) :: r => if g = x then (g, w) :: r else (g, y) :: putFW x w r
theorem RpF.put {x : Str} {w : W} {v : V} (hw : Rp K mg f H w v) : ∀ {fs : List (Str × W)} {vs : List (Str × V)}, RpF K mg f H fs vs → RpF K mg f H (putFW x w fs) (putF x v vs)
  | [], vs, h => by
    unfold RpF at h; subst h
    show RpF K mg f H [(x, w)] [(x, v)]
    unfold RpF
    exact ⟨v, [], rfl, hw, by unfold RpF; rfl⟩
  | (g, y) :: fs, vs, h => by
    unfold RpF at h
    obtain ⟨u, r, rfl, hy, hr⟩ := h
    unfold putFW putF
    by_cases e : g = x
    · rw [if_pos e, if_pos e]; unfold RpF; exact ⟨v, r, rfl, hw, hr⟩
    · rw [if_neg e, if_neg e]; unfold RpF; exact ⟨u, _, rfl, hy, RpF.put hw hr⟩
theorem RpF.look {x : Str} : ∀ {fs : List (Str × W)} {vs : List (Str × V)}, RpF K mg f H fs vs → (fs.lookup x = none ∧ vs.lookup x = none) ∨ ∃ w v, fs.lookup x = some w ∧ vs.lookup x = some v ∧ Rp K mg f H w v
  | [], vs, h => by unfold RpF at h; subst h; exact .inl ⟨rfl, rfl⟩
  | (g, y) :: fs, vs, h => by
    unfold RpF at h
    obtain ⟨u, r, rfl, hy, hr⟩ := h
    by_cases e : x = g
    · subst e
      exact .inr ⟨y, u, by simp [List.lookup], by simp [List.lookup], hy⟩
    · have e' : (x == g) = false := by simp [e]
      rcases RpF.look (x := x) hr with ⟨a, b⟩ | ⟨w, v, a, b, c⟩
      · exact .inl ⟨by simp [List.lookup, e', a], by simp [List.lookup, e', b]⟩
      · exact .inr ⟨w, v, by simp [List.lookup, e', a], by simp [List.lookup, e', b], c⟩
theorem RpF.length : ∀ {fs : List (Str × W)} {vs : List (Str × V)}, RpF K mg f H fs vs → vs.length = fs.length
  | [], vs, h => by unfold RpF at h; subst h; rfl
  | (g, y) :: fs, vs, h => by
    unfold RpF at h
    obtain ⟨u, r, rfl, hy, hr⟩ := h
    rw [List.length_cons, List.length_cons, RpF.length hr]
end
section
variable {X : Cx} {Z : WX} {e o : Expr} {es : List Expr} {pos pos' apos p : Pos} {m mo mv : EV} {mr : AV}
/-- o.x, o an instance of one of the classes cs -/
def fldW (cs : List Str) (x : Str) (w : W) (S : Sto) : R W := match w with
  | .loc n => match S[n]? with
    | some (.ins c fs) => if c ∈ cs then (match fs.lookup x with
      | some w => .ok w S
      | none => .no) else .no
    | _ => .no
  | _ => .no
theorem e_fld {x : Str} (cs : List Str) (hc : ∀ c ∈ cs, ∀ C, X.mg c = some (.ref C) → Cls X.K C ∧ NoAttr X.K C x) (he : PE X e (tI X Z m)) (hb : attributeBase e x X.env (eval e X.env) = eval e X.env := by rfl) : PE X (.Attribute e x pos) (tI X Z (e1 (fldW cs x) m)) := by
  refine (pe_fld he hb).imp ?_
  rintro st H Q ⟨f, s, S, hE, hS, hp⟩
  refine ⟨f, s, S, hE, hS, hp.seq fun f1 H1 w1 S1 v1 k1 s1 p1 hp1 => ?_⟩
  unfold fldW at hp1
  split at hp1
  · split at hp1
    · rename_i c fs e0
      split at hp1
      · rename_i hcs
        split at hp1
        · rename_i w e1
          obtain ⟨a, C, dx, vs, rfl, ha, hC, q, r⟩ := insAt s1 p1 e0
          obtain ⟨h1, h2⟩ := hc c hcs C hC
          rcases RpF.look (x := x) r with ⟨z, _⟩ | ⟨w', v', z1, z2, r2⟩
          · rw [z] at e1; cases e1
          · rw [z1] at e1; cases e1
            exact ⟨a, C, dx, vs, v', rfl, q, h1, h2, z2, hp1.fin s1 r2⟩
        · exact hp1.elim
      · exact hp1.elim
    · exact hp1.elim
  · exact hp1.elim
def sFld (cs : List Str) (x : Str) (mv mo : EV) : SV := fun s S => (mv s S).toS s fun v S => (mo s S).toS s fun o S => match o with
  | .loc n => match S[n]? with
    | some (.ins c fs) => if c ∈ cs ∧ fs.length < 1000 then .nx s (S.set n (.ins c (putFW x v fs))) else .no
    | _ => .no
  | _ => .no
theorem s_fld {x : Str} (cs : List Str) (hc : ∀ c ∈ cs, ∀ C, X.mg c = some (.ref C) → Cls X.K C ∧ NoAttr X.K C x) (hv : PE X e (tI X Z mv)) (ho : PE X o (tI X Z mo)) (hs : swapsWith e (some (.Attribute o x pos')) pos.line X.env = pure false := by rfl) : PS X (.Assign [.Attribute o x pos'] e pos) (tS X Z (sFld cs x mv mo)) := by
  refine (ps_fld ho hv hs).imp ?_
  rintro D st H ⟨f, s, S, hE, hS, hp⟩
  refine ⟨f, s, S, hE, hS, hp.seq hE fun f1 H1 w1 S1 v1 k1 s1 e1 p1 hp1 => ?_⟩
  refine ⟨f1, s, S1, e1, s1, hp1.seq e1 fun f2 H2 w2 S2 v2 k2 s2 e2 p2 hp2 => ?_⟩
  split at hp2
  · split at hp2
    · rename_i c fs e0
      split at hp2
      · rename_i hcs
        obtain ⟨a, C, dx, vs, rfl, ha, hC, q, r⟩ := insAt s2 p2 e0
        obtain ⟨h1, h2⟩ := hc c hcs.1 C hC
        refine ⟨a, C, dx, vs, rfl, q, h1, h2, by rw [RpF.length r]; exact hcs.2, ?_⟩
        have nf : ∀ o w, H2 a ≠ some (.frz o w) := fun _ _ z => by rw [q] at z; cases z
        have k : Kp f2 H2 f2 (upd H2 a (.ins C dx (putF x v1 vs))) := s2.kpUpd (List.mem_of_getElem? ha) nf _
        exact hp2 f2 _ st k (s2.upd ha nf ⟨C, dx, _, hC, upd_same, (RpF.put (p1.mono k2) r).mono k⟩) (e2.mono k)
      · exact hp2.elim
    · exact hp2.elim
  · exact hp2.elim
/-- a method call whose errors go out by the state's own wish -/
def tMeE (C : Addr) (m : Str) (sp : Sp) (Z : WX) (ta : TE) (t : TA) : TE := fun st H Q => ta st H fun y H1 => ∃ b db gs, y = .ref b ∧ H1 b = some (.ins C db gs) ∧ gs.lookup m = none ∧ t st H1 fun zs H2 => sp (y :: zs) H2 Q (WE Z st)
end
section
variable {X : Cx} {Z : WX} {C g : Addr} {m : Str} {k : Nat} {fd : FuncData} {ps : List Str} {sp : Sp} {o e : Expr} {es : List Expr} {apos pos : Pos} {ta : TE} {t : TA} {pl : Sem Bool}
theorem pm_e (ho : PE X o ta) (cl : Cls X.K C) (hm : Meth X.K C m g) (hF : FnOk X.prog X.w X.K X.mg X.base (L2.CX X.prog X.w) k g fd ps sp) (hr : Room k X.A) (hb : Binds X.K fd ps []) (tk : Takes X Z) (ha : PA X (e :: es) t)
    (hst : starEach (e :: es) X.env = (false, eval e X.env) :: starEach es X.env) (hpl : (backTo pos (starEach es X.env)).any (·.1) = false)
    (ht : eval (.Call (.Attribute o m apos) (e :: es) [] pos) X.env = (do
      let ov ← eval o X.env
      standAt apos.atName
      let (f, first) ← holding [ov] (getMethod ov m pl)
      callWith pos f first (backTo pos (starEach (e :: es) X.env)) (backToKw pos (keywordEach [] X.env)))) : PE X (.Call (.Attribute o m apos) (e :: es) [] pos) (tMeE C m sp Z ta t) := by
  refine ⟨fun pins s st H Q I q => PySem.W.methodCall_KW (pl := pl) (thn (ho.run pins s st H _ I q) fun ov s1 got => ?_) ht⟩
  obtain ⟨y, H1, I1, ry, b, db, gs, ey, hb1, hlk, q1⟩ := got
  subst ey
  obtain rfl : ov = Value.ref b := ry
  exact getmeth_ok I1 hb1 cl hm hlk (PySem.W.callWith_K (first := [.ref b]) (h₀ := X.base) I.ok.mod.kin hm.kp (thn (ha.run pos pins s1 st H1 _ I1 q1) fun us s2 ⟨vs, H2, I2, r2, q2⟩ => ⟨I2.kIn, run_fnS (E := WE Z) (us := .ref b :: us) (vs := .ref b :: vs) hF hr hb (passAt tk st) I2 (.cons rfl r2) q2⟩) hst hpl)
theorem pm_e0 (ho : PE X o ta) (cl : Cls X.K C) (hm : Meth X.K C m g) (hF : FnOk X.prog X.w X.K X.mg X.base (L2.CX X.prog X.w) k g fd ps sp) (hr : Room k X.A) (hb : Binds X.K fd ps []) (tk : Takes X Z)
    (ht : eval (.Call (.Attribute o m apos) [] [] pos) X.env = (do
      let ov ← eval o X.env
      standAt apos.atName
      let (f, first) ← holding [ov] (getMethod ov m pl)
      callWith pos f first (backTo pos (starEach [] X.env)) (backToKw pos (keywordEach [] X.env)))) : PE X (.Call (.Attribute o m apos) [] [] pos) (tMeE C m sp Z ta (tVs [])) := by
  refine ⟨fun pins s st H Q I q => PySem.W.methodCall_KW (pl := pl) (thn (ho.run pins s st H _ I q) fun ov s1 got => ?_) ht⟩
  obtain ⟨y, H1, I1, ry, b, db, gs, ey, hb1, hlk, q1⟩ := got
  subst ey
  obtain rfl : ov = Value.ref b := ry
  exact getmeth_ok I1 hb1 cl hm hlk (PySem.W.callWith_K0 I1.kIn hm.kp (run_fnS (E := WE Z) (us := [.ref b]) (vs := [.ref b]) hF hr hb (passAt tk st) I1 (.cons rfl .nil) q1))
end
section
variable {X : Cx} {Z : WX} {C f : Addr} {k : Nat} {fd : FuncData} {ps : List Str} {sp : Sp} {c : Str} {e : Expr} {es : List Expr} {p pos : Pos} {t : TA}
def tMkE (C : Addr) (sp : Sp) (Z : WX) (t : TA) : TE := fun st H Q => t st H fun zs H1 => ∀ y dy, H1 y = none → H1 dy = none → dy ≠ y → sp (.ref y :: zs) (upd (upd H1 dy (.own y)) y (.ins C dy [])) (fun v H2 => v = .non ∧ Q (.ref y) H2) (WE Z st)
theorem mk_run {pins : List (Addr × Obj)} {st : L2.St} {H : Hp} {s : Shared} {Q : VK} {us : List Value} {zs : List V} (M : Mk X.K C f) (hF : FnOk X.prog X.w X.K X.mg X.base (L2.CX X.prog X.w) k f fd ps sp) (hr : Room (k + 1) X.A) (hb : Binds X.K fd ps []) (tk : Takes X Z) (I : Inv X pins st H s) (rz : Vals zs us)
    (h : ∀ y dy, H y = none → H dy = none → dy ≠ y → sp (.ref y :: zs) (upd (upd H dy (.own y)) y (.ins C dy [])) (fun v H2 => v = .non ∧ Q (.ref y) H2) (WE Z st)) : wpAny (model X.prog X.w) X.A (call (.ref C) us) (EP X pins st Q) X.xe s := by
  have hz := h _ _ (I.hok.fresh (Nat.le_succ s.heap.objs.size)) (I.hok.fresh (Nat.le_refl s.heap.objs.size)) (Nat.ne_of_lt (Nat.lt_succ_self _))
  have J := Inv.made (C := C) I
  have rr : Vals (V.ref (s.heap.objs.size + 1) :: zs) (Value.ref (s.heap.objs.size + 1) :: us) := .cons rfl rz
  have hlen : (Value.ref (s.heap.objs.size + 1) :: us).length = ps.length := by rw [← rr.length]; exact hF.len _ _ _ _ hz
  have hbn := hb _ (Value.ref (s.heap.objs.size + 1) :: us) J.kIn (by rw [List.append_nil]; exact hlen)
  rw [List.append_nil] at hbn
  have env1 := J.env0.make C us []
  refine wpAny_call (make_map (f := f) I.kIn M.makes M.init (beq_iff_eq.mp M.fn) (codeAny_mono (hF.run _ X.stack _ _ ⟨Value.ref (s.heap.objs.size + 1) :: us, []⟩ _ _ _ _ (hr.make C us []) env1 hbn rr hz) fun out s2 got => ?_))
  cases out with
  | error er => exact passAt tk st pins _ _ er s2 J got
  | ok fl =>
    cases fl with
    | ret u =>
      obtain ⟨v, H2, J2, rv, ev, q⟩ := J.after got
      subst ev
      exact ⟨rv, V.ref (s.heap.objs.size + 1), H2, J2, rfl, q⟩
    | next => exact got.elim
    | brk => exact got.elim
    | cont => exact got.elim
theorem pmk_e (M : Mk X.K C f) (hF : FnOk X.prog X.w X.K X.mg X.base (L2.CX X.prog X.w) k f fd ps sp) (hr : Room (k + 1) X.A) (hg : Gl X c) (hC : X.mg c = some (.ref C)) (hb : Binds X.K fd ps []) (tk : Takes X Z) (ha : PA X (e :: es) t) (hdb : (c == ("__debug__" : Str)) = false)
    (he : starEach (e :: es) X.env = (false, eval e X.env) :: starEach es X.env) (hpl : (backTo pos (starEach es X.env)).any (·.1) = false) : PE X (.Call (.Name c p) (e :: es) [] pos) (tMkE C sp Z t) :=
  ⟨fun pins s st H Q I q => wpAny_Call_Name_kw (ld_glob I hg hC (PySem.W.callWith_K (h₀ := X.base) I.ok.mod.kin M.kp (thn (ha.run pos pins s st H _ I q) fun us s1 ⟨vs, H1, I1, r1, q1⟩ => ⟨I1.kIn, mk_run M hF hr hb tk I1 r1 q1⟩) he hpl) hdb)⟩
end
section
variable {X : Cx} {Z : WX} {e o : Expr} {es : List Expr} {pos pos' apos p : Pos} {m mo mv : EV} {mr : AV}
/-- a method of a class, by its result -/
structure HeldM (P : Program) (w : World) (K : PySem.W.Frag) (mg : Str → Option Value) (base : Heap) (k : Nat) (c m : Str) (F : List W → Sto → R W) : Prop where
  ex : ∃ (C f : Addr) (fd : FuncData) (ps : List Str), mg c = some (.ref C) ∧ Cls K C ∧ Meth K C m f ∧ Binds K fd ps [] ∧ FnOk P w K mg base (L2.CX P w) k f fd ps (spF K mg F)
def eMeth (c m : Str) (F : List W → Sto → R W) (mo : EV) (ma : AV) : EV := fun s S => (mo s S).bind fun x S => match x with
  | .loc n => (match S[n]? with
    | some (.ins c' fs) => if c' = c ∧ fs.lookup m = none then (ma s S).bind fun xs S => F (x :: xs) S else .no
    | _ => .no)
  | _ => .no
theorem e_meth {c m : Str} {k : Nat} {F : List W → Sto → R W} {pl : Sem Bool} (T : HeldM X.prog X.w X.K X.mg X.base k c m F) (hr : Room k X.A) (tk : Takes X Z) (ho : PE X o (tI X Z mo)) (ha : PA X (e :: es) (tA X Z mr))
    (hst : starEach (e :: es) X.env = (false, eval e X.env) :: starEach es X.env := by rfl) (hpl : (backTo pos (starEach es X.env)).any (·.1) = false := by rfl)
    (ht : eval (.Call (.Attribute o m apos) (e :: es) [] pos) X.env = (do
      let ov ← eval o X.env
      standAt apos.atName
      let (f, first) ← holding [ov] (getMethod ov m pl)
      callWith pos f first (backTo pos (starEach (e :: es) X.env)) (backToKw pos (keywordEach [] X.env))) := by rfl) :
    PE X (.Call (.Attribute o m apos) (e :: es) [] pos) (tI X Z (eMeth c m F mo mr)) := by
  obtain ⟨C, f, fd, ps, hC, hcl, hm, hb, hF⟩ := T.ex
  refine (pm_e ho hcl hm hF hr hb tk ha hst hpl ht).imp ?_
  rintro st H Q ⟨f0, en, S, hE, hS, hp⟩
  refine ⟨f0, en, S, hE, hS, hp.seq fun f1 H1 w1 S1 v1 k1 s1 p1 hp1 => ?_⟩
  split at hp1
  · split at hp1
    · rename_i n c' fs e0
      split at hp1
      · rename_i hcf
        obtain ⟨rfl, hlk⟩ := hcf
        obtain ⟨a, C', dx, vs, rfl, ha', hC', q, r⟩ := insAt s1 p1 e0
        rw [hC] at hC'; cases hC'
        refine ⟨a, dx, vs, rfl, q, ?_, f1, en, S1, hE.mono k1, s1, hp1.seq fun f2 H2 ws S2 us k2 s2 p2 hp2 => ?_⟩
        · rcases RpF.look (x := m) r with ⟨_, z⟩ | ⟨w', v', z1, _, _⟩
          · exact z
          · rw [z1] at hlk; cases hlk
        · exact spF_of s2 (.cons (p1.mono k2) p2) hp2
      · exact hp1.elim
    · exact hp1.elim
  · exact hp1.elim
theorem e_meth0 {c m : Str} {k : Nat} {F : List W → Sto → R W} {pl : Sem Bool} (T : HeldM X.prog X.w X.K X.mg X.base k c m F) (hr : Room k X.A) (tk : Takes X Z) (ho : PE X o (tI X Z mo))
    (ht : eval (.Call (.Attribute o m apos) [] [] pos) X.env = (do
      let ov ← eval o X.env
      standAt apos.atName
      let (f, first) ← holding [ov] (getMethod ov m pl)
      callWith pos f first (backTo pos (starEach [] X.env)) (backToKw pos (keywordEach [] X.env))) := by rfl) :
    PE X (.Call (.Attribute o m apos) [] [] pos) (tI X Z (eMeth c m F mo aNil)) := by
  obtain ⟨C, f, fd, ps, hC, hcl, hm, hb, hF⟩ := T.ex
  refine (pm_e0 ho hcl hm hF hr hb tk ht).imp ?_
  rintro st H Q ⟨f0, en, S, hE, hS, hp⟩
  refine ⟨f0, en, S, hE, hS, hp.seq fun f1 H1 w1 S1 v1 k1 s1 p1 hp1 => ?_⟩
  split at hp1
  · split at hp1
    · rename_i n c' fs e0
      split at hp1
      · rename_i hcf
        obtain ⟨rfl, hlk⟩ := hcf
        obtain ⟨a, C', dx, vs, rfl, ha', hC', q, r⟩ := insAt s1 p1 e0
        rw [hC] at hC'; cases hC'
        refine ⟨a, dx, vs, rfl, q, ?_, ?_⟩
        · rcases RpF.look (x := m) r with ⟨_, z⟩ | ⟨w', v', z1, _, _⟩
          · exact z
          · rw [z1] at hlk; cases hlk
        · exact spF_of s1 (.cons p1 Rpl.nil) hp1
      · exact hp1.elim
    · exact hp1.elim
  · exact hp1.elim
/-- an instance made, by what __init__ does -/
def makeF (c : Str) (F : List W → Sto → R W) (ws : List W) (S : Sto) : R W := match F (.loc S.length :: ws) (S ++ [.ins c []]) with
  | .ok .non S2 => .ok (.loc S.length) S2
  | .ok _ _ => .no
  | .ex e S2 => .ex e S2
  | .no => .no
structure HeldK (P : Program) (w : World) (K : PySem.W.Frag) (mg : Str → Option Value) (base : Heap) (k : Nat) (c : Str) (F : List W → Sto → R W) : Prop where
  ex : (∀ ws S, F ws S = .no) ∨ ∃ (k' : Nat) (C f : Addr) (fd : FuncData) (ps : List Str) (F0 : List W → Sto → R W), k = k' + 1 ∧ mg c = some (.ref C) ∧ Mk K C f ∧ Binds K fd ps [] ∧ FnOk P w K mg base (L2.CX P w) k' f fd ps (spF K mg F0) ∧ ∀ ws S, F ws S = makeF c F0 ws S
def eMake (F : List W → Sto → R W) (ma : AV) : EV := fun s S => match ma s S with
  | .ok xs S => F xs S
  | _ => .no
theorem make_sp {f1 : List Addr} {H1 : Hp} {S1 : Sto} {ws : List W} {vs : List V} {c : Str} {C : Addr} {F F0 : List W → Sto → R W} {st : L2.St} {Q : VK} (hC : X.mg c = some (.ref C)) (s1 : RelS X.K X.mg f1 H1 S1) (p1 : Rpl X.K X.mg f1 H1 ws vs) (hF : F ws S1 = makeF c F0 ws S1) (hp1 : post X Z (Rp X.K X.mg) st f1 H1 (F ws S1) Q) {x dx : Addr} (hx : H1 x = none) (hdx : H1 dx = none) (hne : dx ≠ x) :
    spF X.K X.mg F0 (.ref x :: vs) (upd (upd H1 dx (.own x)) x (.ins C dx [])) (fun v H2 => v = .non ∧ Q (.ref x) H2) (WE Z st) := by
  have hx' : upd H1 dx (.own x) x = none := by rw [upd_ne (Ne.symm hne)]; exact hx
  have k1 : Kp f1 H1 f1 (upd H1 dx (.own x)) := kpLaid hdx _
  have s1' := s1.laid hdx (.own x)
  have k2 := s1'.kpNew hx' (.ins C dx [])
  have k := k1.trans k2
  have hl : Rp X.K X.mg (f1 ++ [x]) (upd (upd H1 dx (.own x)) x (.ins C dx [])) (.loc S1.length) (.ref x) := by
    unfold Rp; exact ⟨x, rfl, at_new s1⟩
  refine ⟨f1 ++ [x], S1 ++ [.ins c []], .loc S1.length :: ws, .cons hl (p1.mono k), s1'.new hx' (show RelO X.K X.mg (f1 ++ [x]) _ (.ins c []) x from ⟨C, dx, [], hC, upd_same, by unfold RpF; rfl⟩), ?_⟩
  rw [hF] at hp1
  unfold makeF at hp1
  cases e : F0 (.loc S1.length :: ws) (S1 ++ [.ins c []]) with
  | ok w S2 =>
    rw [e] at hp1
    cases w with
    | non =>
      intro f' H' v k' s' r'
      exact ⟨r'.nonE, hp1 f' H' _ (k.trans k') s' (hl.mono k')⟩
    | _ => exact hp1.elim
  | ex x2 S2 =>
    rw [e] at hp1
    exact fun f' H' c2 d2 k' s' x' => hp1 f' H' c2 d2 (k.trans k') s' x'
  | no => rw [e] at hp1; exact hp1.elim
theorem e_make {c : Str} {k : Nat} {F : List W → Sto → R W} (T : HeldK X.prog X.w X.K X.mg X.base k c F) (hr : Room k X.A) (tk : Takes X Z) (ha : PA X (e :: es) (tA X Z mr)) (hg : Gl X c := by rfl)
    (hdb : (c == ("__debug__" : Str)) = false := by decide) (he : starEach (e :: es) X.env = (false, eval e X.env) :: starEach es X.env := by rfl) (hpl : (backTo pos (starEach es X.env)).any (·.1) = false := by rfl) :
    PE X (.Call (.Name c p) (e :: es) [] pos) (tI X Z (eMake F mr)) := by
  rcases T.ex with hno | ⟨k', C, f, fd, ps, F0, rfl, hC, M, hb, hF, hFF⟩
  · refine ⟨fun pins s st H Q I q => ?_⟩
    obtain ⟨f0, en, S, hE, hS, hp⟩ := q
    unfold eMake at hp
    split at hp
    · rw [hno] at hp; exact hp.elim
    · exact hp.elim
  · refine (pmk_e M hF hr hg hC hb tk ha hdb he hpl).imp ?_
    rintro st H Q ⟨f0, en, S, hE, hS, hp⟩
    refine ⟨f0, en, S, hE, hS, ?_⟩
    unfold eMake at hp
    cases e1 : mr en S with
    | ok ws S1 =>
      rw [e1] at hp
      intro f1 H1 vs k1 s1 p1 x dx hx hdx hne
      exact make_sp hC s1 p1 (hFF ws S1) (post.mono hp k1) hx hdx hne
    | ex x2 S1 => rw [e1] at hp; exact hp.elim
    | no => rw [e1] at hp; exact hp.elim
end
end Ev

set_option Elab.async false
set_option linter.all false
set_option maxRecDepth 100000
/-! Ev19: a < b < c; promises of __init__. -/
namespace Ev
open PySem L2 PySem.Spec PyProof.Rows
section
variable {X : Cx} {Z : WX} {a b c : Expr} {pos : Pos} {ma mb mc : EV}
def eChain (F G : W → W → Sto → R W) (a b c : EV) : EV := fun s S => (a s S).bind fun x S => (b s S).bind fun y S => (F x y S).bind fun w S => match w with
  | .bl k => if k = true then (c s S).bind fun z S => G y z S else .ok (.bl false) S
  | _ => .no
theorem chain_rd {r r' : R2} {F G : W → W → Sto → R W} (hF : Snd2 X Z r F) (hG : Snd2 X Z r' G) (st : L2.St) (H : Hp) (Q : VK) (h : tI X Z (eChain F G ma mb mc) st H Q) : tChain r r' (tI X Z ma) (tI X Z mb) (tI X Z mc) st H Q := by
  obtain ⟨f, s, S, hE, hS, hp⟩ := h
  refine ⟨f, s, S, hE, hS, hp.seq fun f1 H1 w1 S1 v1 k1 s1 p1 hp1 => ⟨f1, s, S1, hE.mono k1, s1, hp1.seq fun f2 H2 w2 S2 v2 k2 s2 p2 hp2 => hF s2 (p1.mono k2) p2 (hp2.seq fun f3 H3 w3 S3 v3 k3 s3 p3 hp3 => ?_)⟩⟩
  try dsimp only at hp3
  split at hp3
  · rename_i k
    refine ⟨k, p3.blE, ?_⟩
    by_cases e : k = true
    · rw [if_pos e] at hp3 ⊢
      exact ⟨f3, s, S3, ((hE.mono k1).mono k2).mono k3, s3, hp3.seq fun f4 H4 w4 S4 v4 k4 s4 p4 hp4 => hG s4 ((p2.mono k3).mono k4) p4 hp4⟩
    · rw [if_neg e] at hp3 ⊢
      exact hp3.fin s3 Rp.bl'
  · exact hp3.elim
theorem e_chain {op op' : CmpOp} {r r' : R2} {F G : W → W → Sto → R W} (ho : OpR X (compareOp op) r) (hF : Snd2 X Z r F) (ho' : OpR X (compareOp op') r') (hG : Snd2 X Z r' G) (ha : PE X a (tI X Z ma)) (hb : PE X b (tI X Z mb)) (hc : PE X c (tI X Z mc)) (hm : lastMarks [op, op'] [b, c] = false := by with_unfolding_all rfl) :
    PE X (.Compare a [op, op'] [b, c] pos) (tI X Z (eChain F G ma mb mc)) := (pe_chain ho ho' ha hb hc hm).imp (chain_rd hF hG)
theorem t_chain {op op' : CmpOp} {r r' : R2} {F G : W → W → Sto → R W} (ho : OpR X (compareOp op) r) (hF : Snd2 X Z r F) (ho' : OpR X (compareOp op') r') (hG : Snd2 X Z r' G) (ha : PE X a (tI X Z ma)) (hb : PE X b (tI X Z mb)) (hc : PE X c (tI X Z mc)) (hm : lastMarks [op, op'] [b, c] = false := by with_unfolding_all rfl) :
    PT X (.Compare a [op, op'] [b, c] pos) (tT X Z (bTest (eChain F G ma mb mc))) := (pt_chain ho ho' ha hb hc hm).imp (testOf (chain_rd hF hG))
end
/-- an __init__, by its result -/
structure HeldI (P : Program) (w : World) (K : PySem.W.Frag) (mg : Str → Option Value) (base : Heap) (k : Nat) (c : Str) (F : List W → Sto → R W) : Prop where
  ex : ∃ (C f : Addr) (fd : FuncData) (ps : List Str), mg c = some (.ref C) ∧ Mk K C f ∧ Binds K fd ps [] ∧ FnOk P w K mg base (L2.CX P w) k f fd ps (spF K mg F)
theorem HeldI.make {P : Program} {w : World} {K : PySem.W.Frag} {mg : Str → Option Value} {base : Heap} {k : Nat} {c : Str} {F : List W → Sto → R W} (h : HeldI P w K mg base k c F) : HeldK P w K mg base (k + 1) c (makeF c F) := by
  obtain ⟨C, f, fd, ps, h1, h2, h3, h4⟩ := h.ex
  exact ⟨.inr ⟨k, C, f, fd, ps, F, rfl, h1, h2, h3, h4, fun _ _ => rfl⟩⟩
section
variable {X : Cx} {Z : WX} {pos : Pos}
/-- a constant of the module -/
theorem e_gint {x : Str} {i : Int} (h : ∃ tk, X.mg x = some (.int i tk)) (hg : Gl X x := by rfl) (hd : (x == ("__debug__" : Str)) = false := by decide) : PE X (.Name x pos) (tI X Z (eC (.int i))) := by
  obtain ⟨tk, h⟩ := h
  exact e_const (v := .int i) (pe_glob hg h ⟨tk, rfl⟩ hd) fun _ _ => Rp.int'
theorem e_gstr {x y : Str} (h : ∃ tk, X.mg x = some (.str y tk)) (hg : Gl X x := by rfl) (hd : (x == ("__debug__" : Str)) = false := by decide) : PE X (.Name x pos) (tI X Z (eC (.str y))) := by
  obtain ⟨tk, h⟩ := h
  exact e_const (v := .str y) (pe_glob hg h ⟨tk, rfl⟩ hd) fun _ _ => Rp.str'
end
end Ev

set_option Elab.async false
set_option linter.all false
set_option maxRecDepth 100000
/-! Ev20: reasoning about objects, locked dicts, chains. -/
namespace Ev
open PySem L2
variable {EE : Exc}
section
variable {s : En} {S : Sto} {Q : W → Sto → Prop} {P : RS → Prop} {a b c mo mv : EV} {r : AV} {hQ : Ph Q} {hP : Ph P} {n : Nat} {fs : List (Str × W)} {w v : W}
theorem fld_eq {cs : List Str} {x y : Str} (h : S[n]? = some (.ins y fs)) (hc : y ∈ cs) (hl : fs.lookup x = some w) : fldW cs x (.loc n) S = .ok w S := by
  unfold fldW; dsimp only; rw [h]; dsimp only; rw [if_pos hc, hl]
def setF (cs : List Str) (x : Str) (o v : W) (S : Sto) : Option Sto := match o with
  | .loc n => match S[n]? with
    | some (.ins c fs) => if c ∈ cs ∧ fs.length < 1000 then some (S.set n (.ins c (putFW x v fs))) else none
    | _ => none
  | _ => none
theorem setF_eq {cs : List Str} {x y : Str} (h : S[n]? = some (.ins y fs)) (hc : y ∈ cs) (hl : fs.length < 1000) : setF cs x (.loc n) v S = some (S.set n (.ins y (putFW x v fs))) := by
  unfold setF; dsimp only; rw [h]; dsimp only; rw [if_pos ⟨hc, hl⟩]
theorem ws_fld {cs : List Str} {x : Str} : ws (sFld cs x mv mo s S) P hP = wq (mv s S) (fun v S => wq (mo s S) (fun o S => wo (setF cs x o v S) (fun S' => P (.nx s S')) ⟨⟩) ⟨⟩) ⟨⟩ := by
  unfold ws sFld wq
  rw [wpS_toS]; congr 1; funext v S1; rw [wpS_toS]; congr 1; funext o S2
  unfold setF
  cases o <;> try rfl
  rename_i m
  cases e : S2[m]? with
  | none => simp [e, wpS, wo]
  | some ob =>
    cases ob <;> simp only [e, wpS, wo]
    rename_i c fs
    by_cases h : c ∈ cs ∧ fs.length < 1000
    · simp [h]
    · simp [h]
def isIns (c m : Str) (o : W) (S : Sto) : Prop := match o with
  | .loc n => ∃ fs, S[n]? = some (.ins c fs) ∧ fs.lookup m = none
  | _ => False
theorem isIns_of {y m : Str} (h : S[n]? = some (.ins y fs)) (hl : fs.lookup m = none) : isIns y m (.loc n) S := ⟨fs, h, hl⟩
theorem wq_meth {c m : Str} {F : List W → Sto → R W} : wq (eMeth c m F mo r s S) Q hQ = wq (mo s S) (fun o S => isIns c m o S ∧ wq (r s S) (fun xs S => wq (F (o :: xs) S) Q ⟨⟩) ⟨⟩) ⟨⟩ := by
  unfold eMeth wq
  rw [wpR_bind]; congr 1; funext o S1
  cases o <;> try (simp [wpR, isIns]; done)
  rename_i k
  unfold isIns
  dsimp only
  cases e : S1[k]? with
  | none => simp [wpR]
  | some ob =>
    cases ob <;> try (simp [wpR]; done)
    rename_i c' fs
    dsimp only
    by_cases h : c' = c ∧ fs.lookup m = none
    · obtain ⟨rfl, h2⟩ := h
      rw [if_pos ⟨rfl, h2⟩, wpR_bind]
      exact eq_iff_iff.mpr ⟨fun z => ⟨⟨fs, rfl, h2⟩, z⟩, fun z => z.2⟩
    · rw [if_neg h]
      simp only [wpR_no, Option.some.injEq, O.ins.injEq, eq_iff_iff, false_iff, not_and]
      rintro ⟨fs', ⟨h1, h2⟩, h3⟩
      subst h1 h2
      exact absurd ⟨rfl, h3⟩ h
theorem wq_make {F : List W → Sto → R W} : wq (eMake F r s S) Q hQ = @wq noExc _ (r s S) (fun xs S => wq (F xs S) Q ⟨⟩) ⟨⟩ := by
  unfold eMake wq
  cases r s S <;> rfl
theorem wpR_makeF {c : Str} {F : List W → Sto → R W} {ws : List W} : wpR (makeF c F ws S) Q = wpR (F (.loc S.length :: ws) (S ++ [.ins c []])) fun w S2 => w = .non ∧ Q (.loc S.length) S2 := by
  unfold makeF
  cases e : F (.loc S.length :: ws) (S ++ [.ins c []]) with
  | ok w S2 => cases w <;> simp [wpR]
  | ex _ _ => rfl
  | no => rfl
theorem wq_chain {F G : W → W → Sto → R W} : wq (eChain F G a b c s S) Q hQ = wq (a s S) (fun x S => wq (b s S) (fun y S => wq (F x y S) (fun w S => onB w (fun k => if k = true then wq (c s S) (fun z S => wq (G y z S) Q ⟨⟩) ⟨⟩ else Q (.bl false) S) ⟨⟩) ⟨⟩) ⟨⟩) ⟨⟩ := by
  unfold eChain wq
  rw [wpR_bind]; congr 1; funext x S1; rw [wpR_bind]; congr 1; funext y S2; rw [wpR_bind]; congr 1; funext w S3
  cases w <;> try rfl
  dsimp only
  rw [wpR_ite, wpR_bind]; rfl
theorem wq_dnewT : wq (dnewT s S) Q hQ = Q (.loc S.length) (S ++ [.tct []]) := rfl
theorem wq_key {I : IT → Sto → Prop} {h : Ph I} : wq (iKey a s S) I h = wq (a s S) (fun w S => wo (keyLen w S) (fun k => I ⟨keyIt w, k + 1⟩ S) ⟨⟩) ⟨⟩ := by
  unfold iKey wq
  rw [wpR_bind]; congr 1; funext w S1
  cases keyLen w S1 <;> rfl
theorem keyLen_f {kvs : List (W × W)} (h : S[n]? = some (.fdc kvs)) : keyLen (.loc n) S = some kvs.length := by
  unfold keyLen; dsimp only; rw [h]
theorem keyIt_f {kvs : List (W × W)} {i : Nat} (h : S[n]? = some (.fdc kvs)) : keyIt (.loc n) S i = some ((kvs[i]?).map (·.1)) := by
  unfold keyIt; dsimp only; rw [h]
def onUnl (n : Nat) (kvs : List (W × W)) (P : RS → Prop) : RS → Prop
  | .nx s S => P (.nx s (S.set n (.dct kvs)))
  | .rt w S => P (.rt w (S.set n (.dct kvs)))
  | .bk s S => P (.bk s (S.set n (.dct kvs)))
  | .ct s S => P (.ct s (S.set n (.dct kvs)))
  | _ => False
theorem wp_lock {me : EV} {m : SV} {S0 : Sto} {kvs : List (W × W)} (h1 : me s S = .ok (.loc n) S0) (h2 : S[n]? = some (.dct kvs)) (h : @wpS noExc (m s (S.set n (.fdc kvs))) (onUnl n kvs P)) : wpS (sLock me m s S) P := by
  unfold sLock
  rw [h1]; dsimp only; rw [h2]; dsimp only
  cases e : m s (S.set n (.fdc kvs)) <;> rw [e] at h <;> first | exact h | exact h.elim
theorem wp_lockE {me m : EV} {S0 : Sto} {kvs : List (W × W)} (h1 : me s S = .ok (.loc n) S0) (h2 : S[n]? = some (.dct kvs)) (h : @wpR _ noExc (m s (S.set n (.fdc kvs))) fun w S' => Q w (S'.set n (.dct kvs))) : wpR (eLock me m s S) Q := by
  unfold eLock
  rw [h1]; dsimp only; rw [h2]; dsimp only
  cases e : m s (S.set n (.fdc kvs)) <;> rw [e] at h <;> first | exact h | exact h.elim
theorem onUnl_nx {kvs : List (W × W)} : onUnl n kvs P (.nx s S) = P (.nx s (S.set n (.dct kvs))) := rfl
theorem onUnl_rt {kvs : List (W × W)} : onUnl n kvs P (.rt w S) = P (.rt w (S.set n (.dct kvs))) := rfl
/-- reads of a locked dict -/
theorem wq_ixF {kvs : List (W × W)} {q : Key} {k : W} (h : S[n]? = some (.fdc kvs)) (hk : W.key? k = some q) : wq (ixW (.loc n) k S) Q hQ = wo (dlook kvs q) (fun w => Q w S) ⟨⟩ := by
  unfold wq ixW; dsimp only; rw [h]; dsimp only; rw [hk]; dsimp only
  cases dlook kvs q <;> simp [wpR, wo]
theorem wq_ixFs {kvs : List (W × W)} {x : Str} (h : S[n]? = some (.fdc kvs)) : wq (ixW (.loc n) (.str x) S) Q hQ = wo (dlook kvs (.inr x)) (fun w => Q w S) ⟨⟩ := wq_ixF h rfl
theorem inW_d {kvs : List (W × W)} {x : Str} (h : S[n]? = some (.dct kvs)) : inW (.str x) (.loc n) S = .ok (.bl (dlook kvs (.inr x)).isSome) S := by
  unfold inW inO; dsimp only; rw [h]; dsimp only [W.key?]
theorem ninW_d {kvs : List (W × W)} {x : Str} (h : S[n]? = some (.dct kvs)) : ninW (.str x) (.loc n) S = .ok (.bl (!(dlook kvs (.inr x)).isSome)) S := by
  unfold ninW inO; dsimp only; rw [h]; dsimp only [W.key?]
theorem inW_t {kvs : List (List Key × W)} {w : W} {q : List Key} (h : S[n]? = some (.tct kvs)) (hk : W.tkey? w = some q) : inW w (.loc n) S = .ok (.bl (tlook kvs q).isSome) S := by
  unfold inW inO; dsimp only; rw [h]; dsimp only; rw [hk]
theorem setO_t {kvs : List (List Key × W)} {i v : W} {q : List Key} (h : S[n]? = some (.tct kvs)) (hk : W.tkey? i = some q) (hl : kvs.length < 1000000) : setO (.loc n) i v S = some (S.set n (.tct (tput kvs q v))) := by
  unfold setO; dsimp only; rw [h]; dsimp only; rw [hk]; dsimp only; rw [if_pos hl]
theorem getW_d {kvs : List (W × W)} {x : Str} (h : S[n]? = some (.dct kvs)) : getW (.loc n) [.str x] S = .ok ((dlook kvs (.inr x)).getD .non) S := by
  unfold getW; dsimp only; rw [h]; dsimp only [W.key?]
theorem getW_t {kvs : List (List Key × W)} {w : W} {q : List Key} (h : S[n]? = some (.tct kvs)) (hk : W.tkey? w = some q) : getW (.loc n) [w] S = .ok ((tlook kvs q).getD .non) S := by
  unfold getW; dsimp only; rw [h]; dsimp only; rw [hk]
theorem tyOk_t {kvs : List (List Key × W)} (h : S[n]? = some (.tct kvs)) : tyOkW "dict" (.loc n) S = true := by
  unfold tyOkW; dsimp only; rw [h]; rfl
theorem wp_lockF {me : EV} {m : SV} {S0 : Sto} {kvs : List (W × W)} (h1 : me s S = .ok (.loc n) S0) (h2 : S[n]? = some (.fdc kvs)) (h : wpS (m s S) P) : wpS (sLock me m s S) P := by
  unfold sLock
  rw [h1]; dsimp only; rw [h2]; exact h
end
end Ev

set_option Elab.async false
set_option linter.all false
set_option maxRecDepth 100000
/-! Ev21: enumerate and zip over lists and tuples alike. -/
namespace Ev
open PySem PySem.Spec PyProof.Rows L2
def SqB (t : Bool) (K : PySem.W.Frag) (H : Hp) (a : Addr) (xs : List V) : Prop := match t with
  | true => SqL K H a xs
  | false => SqT K H a xs
def IterB (t : Bool) (h : Heap) (it a : Addr) (i : Nat) : Prop := match t with
  | true => h.IsListIter it a i
  | false => h.IsTupleIter it a i
def SeqB (t : Bool) (h : Heap) (a : Addr) (items : Array Value) : Prop := match t with
  | true => h.IsList a items
  | false => h.IsTuple a items
def objB (t : Bool) (a : Addr) : Obj := match t with
  | true => { cls := .type "list_iterator", data := .fields #[.ref a, .int 0 0] }
  | false => { cls := .type "tuple_iterator", data := .fields #[.ref a, .int 0 0] }
theorem drawsB {prog : Program} {w : World} {A : Around} {t : Bool} (hh : A.handled = none) (it a : Addr) (hne : a ≠ it) (items : Array Value) : Draws prog w A it [it, a] items.size (fun i v => items[i]? = some v) (fun i h => IterB t h it a i ∧ SeqB t h a items) := by
  cases t
  · exact Draws.tuple hh it a hne items
  · exact Draws.list hh it a hne items
theorem beginsB {t : Bool} (a : Addr) (items : Array Value) : Begins (.ref a) (objB t a) fun h => SeqB t h a items := by
  cases t
  · exact begins_tuple a items
  · exact begins_list a items
theorem IterB.obj {t : Bool} {h : Heap} {it a : Addr} {i : Nat} (st : IterB t h it a i) : ∃ o, h.get? it = some o ∧ ∀ v, o.data ≠ .cell v := by
  cases t
  · obtain ⟨o, ho, _, d⟩ := (show h.IsTupleIter it a i from st)
    exact ⟨o, ho, fun v q => by rw [d] at q; cases q⟩
  · obtain ⟨o, ho, _, d⟩ := (show h.IsListIter it a i from st)
    exact ⟨o, ho, fun v q => by rw [d] at q; cases q⟩
theorem IterB.at {t : Bool} {h h' : Heap} {it a : Addr} {i : Nat} (st : IterB t h it a i) (k : ∀ o, h.get? it = some o → h'.get? it = some o) : IterB t h' it a i := by
  cases t
  · exact Heap.IsTupleIter.at (show h.IsTupleIter it a i from st) k
  · exact Heap.IsListIter.at (show h.IsListIter it a i from st) k
theorem IterB.new {t : Bool} {h : Heap} {it a : Addr} (e : h.get? it = some (objB t a)) : IterB t h it a 0 := by
  cases t
  · exact ⟨_, e, rfl, rfl⟩
  · exact ⟨_, e, rfl, rfl⟩
theorem SeqB.lt {t : Bool} {h : Heap} {a : Addr} {items : Array Value} (s : SeqB t h a items) : a < h.objs.size := by
  cases t
  · obtain ⟨o, e, _⟩ := (show h.IsTuple a items from s); exact Heap.lt_size e
  · obtain ⟨o, e, _⟩ := (show h.IsList a items from s); exact Heap.lt_size e
section
variable {X : Cx} {pins : List (Addr × Obj)} {σ : L2.St} {H : Hp} {s : Shared} {a : Addr} {xs ys : List V} {t : Bool}
theorem inv_seqB (I : Inv X pins σ H s) (h : SqB t X.K H a xs) : ∃ its : List Value, Vals xs its ∧ SeqB t s.heap a its.toArray := by
  cases t
  · obtain ⟨its, r, p, _⟩ := I.tuple h
    exact ⟨its, r, p⟩
  · obtain ⟨its, r, p, _⟩ := I.list h
    exact ⟨its, r, p.isList⟩
theorem inv_injB (I : Inv X pins σ H s) (h : SqB t X.K H a xs) (h' : SqB t X.K H a ys) : xs = ys := by
  cases t
  · exact I.tuple_inj h h'
  · exact I.list_inj h h'
end
/-! ### enumerate -/
def IteB (t : Bool) (K : PySem.W.Frag) (a : Addr) : It :=
  ⟨fun i H => ∃ (xs : List V) (x : V), SqB t K H a xs ∧ xs[i]? = some x, fun i H v H' => ∃ T x, v = .ref T ∧ H T = none ∧ H' = upd H T (.tup [.int (i : Nat), x]) ∧ ∀ xs, SqB t K H a xs → xs[i]? = some x, fun i H => ∃ xs : List V, SqB t K H a xs ∧ xs.length = i⟩
theorem turn_enumB {P : Program} {w : World} {K : PySem.W.Frag} {t : Bool} {elts : List Expr} {kk : Nat} {tpos : Pos} (a e it : Addr) (hai : a ≠ it) (hae : e ≠ a) (hne : e ≠ it) :
    Turn P w K (.Tuple elts kk tpos) (IteB t K a) [e, it] e (fun i h => (∃ old, IsEnum h e it ((i : Nat) : Int) old) ∧ IterB t h it a i) where
  mem := by simp
  obj := fun i h st b hb => by
    obtain ⟨⟨old, he⟩, hit⟩ := st
    have e' : b = e ∨ b = it := by simpa using hb
    rcases e' with z | z
    · rw [z]; exact ⟨_, he, fun v q => nomatch q⟩
    · rw [z]; exact hit.obj
  keep := fun i h h' st k => let ⟨⟨old, he⟩, hi⟩ := st; ⟨⟨old, k e (by simp) _ he⟩, hi.at fun o q => k it (by simp) o q⟩
  item := by
    intro X hP hw hK hc i pins s σ H E I hf st hg
    subst hP hw hK
    obtain ⟨⟨old, he⟩, hit⟩ := st
    obtain ⟨xs, x, hq, hx⟩ := hg
    obtain ⟨its, rv, p⟩ := inv_seqB I hq
    obtain ⟨u, hu, ru⟩ := rv.get hx
    have hel : e < s.heap.objs.size := Heap.lt_size he
    have hil : it < s.heap.objs.size := by obtain ⟨_, q, _⟩ := hit.obj; exact Heap.lt_size q
    have hlt : i < its.toArray.size := by
      have h1 := (List.getElem?_eq_some_iff.mp hu).1
      simpa using h1
    refine wpAny_pyNext_enum_itemD (drawsB (prog := X.prog) (w := X.w) (A := X.A.in1) (t := t) (I.ok.hd hc) it a hai its.toArray) he ⟨hit, p⟩ hlt hne (by simp [hne, hae]) fun x' h' tk hP ho hst' hT hsz hk => ?_
    have ex : x' = u := by
      rw [List.getElem?_toArray] at hP
      rw [hu] at hP; exact (Option.some.inj hP).symm
    subst ex
    refine ⟨_, rfl, wpAny_letOwnedTupleGo_enum (s := { s with heap := h', toks := tk + 1 }) ho fun h'' he' sb => ?_⟩
    have hT2 : h''.get? s.heap.objs.size = some { cls := .type "tuple", data := .seq #[.int i tk, x'] } := (sb.2 _ (Nat.ne_of_gt hel)).trans hT
    have new : ObjOk X.prog X.w (upd H s.heap.objs.size (.tup [.int (i : Nat), x])) h'' s.heap.objs.size (.tup [.int (i : Nat), x]) :=
      ⟨by show 2 ≤ sizeLine; decide, [.int i tk, x'], .cons ⟨_, rfl⟩ (.cons ru .nil), ⟨_, hT2, rfl, _, rfl⟩⟩
    have I1 : Inv X pins σ (upd H s.heap.objs.size (.tup [.int (i : Nat), x])) { s with heap := h'', toks := tk + 1 } :=
      I.turnedNew (ch := [e, it]) (fun b ob hb q => (sb.2 b (fun z => hb (by simp [z]))).trans (hk b ob (fun z => hb (by simp [z])) (fun z => hb (by simp [z])) q)) hf (Nat.le_refl _) new
    refine ⟨.ref s.heap.objs.size, _, I1, rfl, ⟨_, x, rfl, I.hok.fresh (Nat.le_refl _), rfl, fun ys hy => by rw [inv_injB I hy hq]; exact hx⟩, ⟨⟨x', ?_⟩, hst'.1.at fun o q => (sb.2 it (Ne.symm hne)).trans q⟩, fun b hb => ?_⟩
    · have e1 : ((i + 1 : Nat) : Int) = (i : Int) + 1 := by omega
      rw [e1]; exact he'
    · have hb' : b < s.heap.objs.size := by
        have e' : b = e ∨ b = it := by simpa using hb
        rcases e' with z | z
        · rw [z]; exact hel
        · rw [z]; exact hil
      rw [upd_ne (Nat.ne_of_lt hb')]
      exact (hf b hb).1
  done := by
    intro X hP hw hK hc i pins s σ H E I hf st hg
    subst hP hw hK
    obtain ⟨⟨old, he⟩, hit⟩ := st
    obtain ⟨xs, hq, hx⟩ := hg
    obtain ⟨its, rv, p⟩ := inv_seqB I hq
    obtain ⟨f0, f1, f2, f3, f4, f5⟩ := hf it (by simp)
    have hl := rv.length
    have e : i = its.toArray.size := by simp; omega
    subst e
    exact wpAny_pyNext_enum_endD (drawsB (prog := X.prog) (w := X.w) (A := X.A.in1) (t := t) (I.ok.hd hc) it a hai its.toArray) he ⟨hit, p⟩ fun h' eb => ⟨rfl, I.turned (t' := s.toks) (fun b o hb q => eb b o hb q) f0 f1 f3 f4 f5⟩
  self := fun A i s Q E st h => let ⟨⟨_, he⟩, _⟩ := st; wpAny_pyIter_enum he h
theorem meets_enumerate_newA {v : Value} {o : Obj} {H : Heap → Prop} (B : Begins v o H) :
    Meets (Builtin.«enumerate.__new__» ⟨[.type "enumerate", v], []⟩) (fun _ R s => H s.heap ∧
      R (.ok (.ret (.ref (s.heap.push o).objs.size))) { s with heap := (s.heap.push o).push { cls := .type "enumerate", data := .fields #[.none, .bool false, .ref s.heap.objs.size, rawInt 0, .none, .none] } }) :=
  .of_wp fun prog w A R s h => by
    obtain ⟨hp, g, d, tk, os⟩ := s; obtain ⟨h1, h⟩ := h
    have hsub := sub_enumerate
    have q1 : ∀ {A' : Around} {E : Value → Shared → Prop} {Q : Value → Shared → Prop}, Q (.ref hp.objs.size) ⟨(hp.push o), g, d, tk, os⟩ → wpAny (model prog w) A' (pyIter v) Q E ⟨hp, g, d, tk, os⟩ :=
      fun q => B.iter prog w _ _ ⟨hp, g, d, tk, os⟩ _ h1 q
    wp_walk using q1
    refine wpAny_stack_any fun st => wpAny_pure ?_
    split
    · rename_i c _ _ _ _ _
      cases (c == Value.type "enumerate")
      · wp_walk using q1
        exact ⟨_, rfl, h⟩
      · wp_walk using q1
        exact ⟨_, rfl, h⟩
    · wp_walk using q1
      exact ⟨_, rfl, h⟩
theorem enum_begin1 {prog : Program} {w : World} {A : Around} {E : Value → Shared → Prop} {s : Shared} {v : Value} {o : Obj} {H : Heap → Prop} {Q : Value → Shared → Prop} (B : Begins v o H) (h1 : H s.heap)
    (h : ∀ h', IsEnum h' (s.heap.objs.size + 1) s.heap.objs.size 0 .none → h'.get? s.heap.objs.size = some o → h'.objs.size = s.heap.objs.size + 2 →
      (∀ b o, s.heap.get? b = some o → h'.get? b = some o) → Q (.ref (s.heap.objs.size + 1)) { s with heap := h' }) :
    wpAny (model prog w) A (call (.type "enumerate") [v]) Q E s := by
  refine callType_new F.called_enumerate (by decide) (F.typeCall_enumerate_1 _) (F.newCall_enumerate_1 _) (fun obj => F.args_object_init_2 obj _) F.entry_enumerate_new
    (meets_enumerate_newA B) ⟨h1, ?_⟩
  have hz : (s.heap.push o).objs.size = s.heap.objs.size + 1 := Heap.size_push ..
  show _ ∧ _
  rw [hz]
  have he : IsEnum ((s.heap.push o).push { cls := .type "enumerate", data := .fields #[.none, .bool false, .ref s.heap.objs.size, rawInt 0, .none, .none] }) (s.heap.objs.size + 1) s.heap.objs.size 0 .none := by
    have := Heap.get?_push_size (s.heap.push o) (o := { cls := .type "enumerate", data := .fields #[.none, .bool false, .ref s.heap.objs.size, rawInt 0, .none, .none] }) rfl
    rw [hz] at this; exact this
  refine ⟨⟨_, he, rfl⟩, h _ he (Heap.get?_push_of_some _ (Heap.get?_push_size _ B.free)) (by rw [Heap.size_push, hz]) fun b o x => Heap.get?_push_of_some _ (Heap.get?_push_of_some _ x)⟩
def iEnB (K : PySem.W.Frag) (ta : TA) : TI := fun σ H R => ta σ H fun vs H1 => ∃ t a xs, vs = [.ref a] ∧ SqB t K H1 a xs ∧ R (IteB t K a) H1
theorem pi_enumB {X : Cx} {e : Expr} {ta : TA} {p pos tpos : Pos} {elts : List Expr} {kk : Nat} (hg : Gl X "enumerate") (hm : X.mg "enumerate" = none) (ha : PA X [e] ta) (hs : starEach [e] X.env = [(false, eval e X.env)] := by rfl) :
    PI X (.Tuple elts kk tpos) (.Call (.Name "enumerate" p) [e] [] pos) (iEnB X.K ta) := by
  refine ⟨fun pins s σ H R I h => ?_⟩
  refine Call_ (ld_blt I hg hm boot_enumerate (PyProof.Rows.callWith_type1 (thn (ha.run pos pins s σ H _ I h) fun us s1 ⟨vs, H1, I1, r1, q1⟩ => ?_) hs rfl))
  obtain ⟨t, a, xs, ex, hq, q⟩ := q1
  subst ex
  cases r1 with
  | cons r rr =>
    cases rr
    cases r
    obtain ⟨its, rv, p'⟩ := inv_seqB I1 hq
    have la := p'.lt
    refine enum_begin1 (beginsB (t := t) a its.toArray) p' fun h' he hit hsz hk => wpAny_pyIter_enum he ?_
    have I2 : Inv X pins σ H1 { s1 with heap := h' } := I1.kept (t' := s1.toks) hk
    refine ⟨s1.heap.objs.size + 1, [s1.heap.objs.size + 1, s1.heap.objs.size], _, _, H1, rfl, I2, turn_enumB (t := t) a (s1.heap.objs.size + 1) s1.heap.objs.size (Nat.ne_of_lt la) (fun z => ?_) (Nat.succ_ne_self _), ⟨⟨.none, he⟩, .new hit⟩, fun b hb => ?_, q⟩
    · have la' : a < s1.heap.objs.size := la
      rw [← z] at la'; exact absurd la' (by simp)
    have e' : b = s1.heap.objs.size + 1 ∨ b = s1.heap.objs.size := by simpa using hb
    have hle : s1.heap.objs.size ≤ b := by
      rcases e' with z | z
      · rw [z]; exact Nat.le_add_right _ _
      · rw [z]; exact Nat.le_refl _
    exact I1.fpOk hle (I1.hok.fresh hle)
/-! ### zip -/
def ItzB (t1 t2 : Bool) (K : PySem.W.Frag) (a b : Addr) : It :=
  ⟨fun i H => ∃ (xs ys : List V) (x y : V), SqB t1 K H a xs ∧ SqB t2 K H b ys ∧ xs[i]? = some x ∧ ys[i]? = some y,
    fun i H v H' => ∃ T x y, v = .ref T ∧ H T = none ∧ H' = upd H T (.tup [x, y]) ∧ (∀ xs, SqB t1 K H a xs → xs[i]? = some x) ∧ ∀ ys, SqB t2 K H b ys → ys[i]? = some y,
    fun i H => ∃ xs ys : List V, SqB t1 K H a xs ∧ SqB t2 K H b ys ∧ i ≤ xs.length ∧ i ≤ ys.length ∧ (i = xs.length ∨ i = ys.length)⟩
theorem turn_zipB {P : Program} {w : World} {K : PySem.W.Frag} {t1 t2 : Bool} {elts : List Expr} {kk : Nat} {tpos : Pos} {a b z TI TO i1 i2 : Addr} (D : ZipSep2 z TI TO i1 i2 [i1, a] [i2, b]) (ha : a ≠ i1) (hb : b ≠ i2) :
    Turn P w K (.Tuple elts kk tpos) (ItzB t1 t2 K a b) [z, TI, TO, i1, i2] z (fun i h => IsZip h z TI TO .none ∧ IsTupOf2 h TI (.ref i1) (.ref i2) ∧ (∃ x y, IsTupOf2 h TO x y) ∧ IterB t1 h i1 a i ∧ IterB t2 h i2 b i) where
  mem := by simp
  obj := fun i h st c hc => by
    obtain ⟨hz, hTI, ⟨x, y, hTO⟩, h1, h2⟩ := st
    have e' : c = z ∨ c = TI ∨ c = TO ∨ c = i1 ∨ c = i2 := by simpa using hc
    rcases e' with q | q | q | q | q
    · rw [q]; exact ⟨_, hz, fun v q => nomatch q⟩
    · rw [q]; exact ⟨_, hTI, fun v q => nomatch q⟩
    · rw [q]; exact ⟨_, hTO, fun v q => nomatch q⟩
    · rw [q]; exact h1.obj
    · rw [q]; exact h2.obj
  keep := fun i h h' st k => by
    obtain ⟨hz, hTI, ⟨x, y, hTO⟩, h1, h2⟩ := st
    exact ⟨k z (by simp) _ hz, k TI (by simp) _ hTI, ⟨x, y, k TO (by simp) _ hTO⟩, h1.at fun o q => k i1 (by simp) o q, h2.at fun o q => k i2 (by simp) o q⟩
  item := by
    intro X hP hw hK hc i pins s σ H E I hf st hg
    subst hP hw hK
    obtain ⟨hz, hTI, ⟨x0, y0, hTO⟩, h1, h2⟩ := st
    obtain ⟨xs, ys, x, y, hqx, hqy, hx, hy⟩ := hg
    obtain ⟨its, rv, p⟩ := inv_seqB I hqx
    obtain ⟨its2, rv2, p2⟩ := inv_seqB I hqy
    obtain ⟨u, hu, ru⟩ := rv.get hx
    obtain ⟨u2, hu2, ru2⟩ := rv2.get hy
    have hzl : z < s.heap.objs.size := Heap.lt_size hz
    have hlt1 : i < its.toArray.size := by
      have h1 := (List.getElem?_eq_some_iff.mp hu).1
      simpa using h1
    have hlt2 : i < its2.toArray.size := by
      have h1 := (List.getElem?_eq_some_iff.mp hu2).1
      simpa using h1
    refine wpAny_pyNext_zipD2_item D (drawsB (prog := X.prog) (w := X.w) (A := X.A.in1) (t := t1) (I.ok.hd hc) i1 a ha its.toArray) (drawsB (prog := X.prog) (w := X.w) (A := X.A.in1) (t := t2) (I.ok.hd hc) i2 b hb its2.toArray)
      hz hTI hTO ⟨h1, p⟩ ⟨h2, p2⟩ hlt1 hlt2 fun x1 x2 h' tk hP1 hP2 z' TO' h1' h2' hT hsz hk => ?_
    have ex1 : x1 = u := by
      rw [List.getElem?_toArray] at hP1
      rw [hu] at hP1; exact (Option.some.inj hP1).symm
    have ex2 : x2 = u2 := by
      rw [List.getElem?_toArray] at hP2
      rw [hu2] at hP2; exact (Option.some.inj hP2).symm
    subst ex1 ex2
    refine ⟨_, rfl, wpAny_letOwnedTupleGo_zip (s := { s with heap := h', toks := tk }) z' fun h'' z'' sb => ?_⟩
    have hT2 : h''.get? s.heap.objs.size = some { cls := .type "tuple", data := .seq #[x1, x2] } := (sb.2 _ (Nat.ne_of_gt hzl)).trans hT
    have new : ObjOk X.prog X.w (upd H s.heap.objs.size (.tup [x, y])) h'' s.heap.objs.size (.tup [x, y]) :=
      ⟨by show 2 ≤ sizeLine; decide, [x1, x2], .cons ru (.cons ru2 .nil), ⟨_, hT2, rfl, _, rfl⟩⟩
    have I1 : Inv X pins σ (upd H s.heap.objs.size (.tup [x, y])) { s with heap := h'', toks := tk } :=
      I.turnedNew (t' := tk) (ch := [z, TI, TO, i1, i2]) (fun c o hb q => (sb.2 c (fun q' => hb (by simp [q']))).trans (hk c o (fun q' => hb (by simp [q'])) (fun q' => hb (by simp [q'])) (fun q' => hb (by simp [q'])) (fun q' => hb (by simp [q'])) q)) hf (Nat.le_refl _) new
    refine ⟨.ref s.heap.objs.size, _, I1, rfl, ⟨_, x, y, rfl, I.hok.fresh (Nat.le_refl _), rfl, fun l hl => by rw [inv_injB I hl hqx]; exact hx, fun l hl => by rw [inv_injB I hl hqy]; exact hy⟩, ⟨z'', ?_, ⟨x1, x2, ?_⟩, ?_, ?_⟩, fun c hcm => ?_⟩
    · exact (sb.2 _ D.TIz).trans (hk _ _ D.TIz D.TITO D.TIi1 D.TIi2 hTI)
    · exact (sb.2 _ D.TOz).trans TO'
    · exact h1'.1.at fun o q => (sb.2 _ (Ne.symm D.zi1)).trans q
    · exact h2'.1.at fun o q => (sb.2 _ (Ne.symm D.zi2)).trans q
    · have hlt : c < s.heap.objs.size := by
        have e' : c = z ∨ c = TI ∨ c = TO ∨ c = i1 ∨ c = i2 := by simpa using hcm
        rcases e' with q | q | q | q | q
        · rw [q]; exact hzl
        · rw [q]; exact Heap.lt_size hTI
        · rw [q]; exact Heap.lt_size hTO
        · rw [q]; obtain ⟨_, e1, _⟩ := h1.obj; exact Heap.lt_size e1
        · rw [q]; obtain ⟨_, e2, _⟩ := h2.obj; exact Heap.lt_size e2
      rw [upd_ne (Nat.ne_of_lt hlt)]
      exact (hf c hcm).1
  done := by
    intro X hP hw hK hc i pins s σ H E I hf st hg
    subst hP hw hK
    obtain ⟨hz, hTI, ⟨x0, y0, hTO⟩, h1, h2⟩ := st
    obtain ⟨xs, ys, hqx, hqy, g1, g2, hend⟩ := hg
    obtain ⟨its, rv, p⟩ := inv_seqB I hqx
    obtain ⟨its2, rv2, p2⟩ := inv_seqB I hqy
    have l1 := rv.length
    have l2 := rv2.length
    exact wpAny_pyNext_zipD2_end D (drawsB (prog := X.prog) (w := X.w) (A := X.A.in1) (t := t1) (I.ok.hd hc) i1 a ha its.toArray) (drawsB (prog := X.prog) (w := X.w) (A := X.A.in1) (t := t2) (I.ok.hd hc) i2 b hb its2.toArray)
      hz hTI hTO ⟨h1, p⟩ ⟨h2, p2⟩ (by simp; omega) (by simp; omega) (by simp; omega) fun h' tk hk => ⟨rfl, I.turnedL (t' := tk) (ch := [z, TI, TO, i1, i2]) (fun c o hb q =>
      hk c o (fun q' => hb (by simp [q'])) (fun q' => hb (by simp [q'])) (fun q' => hb (by simp [q'])) (fun q' => hb (by simp [q'])) q) hf⟩
  self := fun A i s Q E st h => wpAny_pyIter_zip st.1 h
def iZiB (K : PySem.W.Frag) (ta : TA) : TI := fun σ H R => ta σ H fun vs H1 => ∃ t1 t2 a b xs ys, vs = [.ref a, .ref b] ∧ SqB t1 K H1 a xs ∧ SqB t2 K H1 b ys ∧ R (ItzB t1 t2 K a b) H1
theorem pi_zipB {X : Cx} {e e2 : Expr} {ta : TA} {p pos tpos : Pos} {elts : List Expr} {kk : Nat} (hg : Gl X "zip") (hm : X.mg "zip" = none) (ha : PA X [e, e2] ta)
    (hs : starEach [e, e2] X.env = (false, eval e X.env) :: starEach [e2] X.env := by rfl) (hpl : (backTo pos (starEach [e2] X.env)).any (·.1) = false := by rfl) :
    PI X (.Tuple elts kk tpos) (.Call (.Name "zip" p) [e, e2] [] pos) (iZiB X.K ta) := by
  refine ⟨fun pins s σ H R I h => ?_⟩
  refine Call_ (ld_blt I hg hm PyProof.Rows.boot_zip (PyProof.Rows.callWith_type1 (thn (ha.run pos pins s σ H _ I h) fun us s1 ⟨vs, H1, I1, r1, q1⟩ => ?_) hs hpl))
  obtain ⟨t1, t2, a, b, xs, ys, ex, hqx, hqy, q⟩ := q1
  subst ex
  cases r1 with
  | cons r rr =>
    cases rr with
    | cons r' rr =>
      cases rr
      cases r
      cases r'
      obtain ⟨its, rv, p1⟩ := inv_seqB I1 hqx
      obtain ⟨its2, rv2, p2⟩ := inv_seqB I1 hqy
      have la : a < s1.heap.objs.size := p1.lt
      have lb : b < s1.heap.objs.size := p2.lt
      refine zip_begins2 (beginsB (t := t1) a its.toArray) (beginsB (t := t2) b its2.toArray) p1 p2 fun h' hz hTI hTO h1 h2 hsz hk => wpAny_pyIter_zip hz ?_
      have I2 : Inv X pins σ H1 { s1 with heap := h' } := I1.kept (t' := s1.toks) hk
      refine ⟨s1.heap.objs.size + 4, [s1.heap.objs.size + 4, s1.heap.objs.size + 2, s1.heap.objs.size + 3, s1.heap.objs.size, s1.heap.objs.size + 1], _, _, H1, rfl, I2, turn_zipB (t1 := t1) (t2 := t2) (a := a) (b := b) (zip_sep2 (fp1 := [a]) (fp2 := [b]) (by simpa using la) (by simpa using lb)) (Nat.ne_of_lt la) (Nat.ne_of_lt (Nat.lt_succ_of_lt lb)), ⟨hz, hTI, ⟨_, _, hTO⟩, .new h1, .new h2⟩, fun c hcm => ?_, q⟩
      have e' : c = s1.heap.objs.size + 4 ∨ c = s1.heap.objs.size + 2 ∨ c = s1.heap.objs.size + 3 ∨ c = s1.heap.objs.size ∨ c = s1.heap.objs.size + 1 := by simpa using hcm
      have hle : s1.heap.objs.size ≤ c := by
        rcases e' with z | z | z | z | z
        · rw [z]; exact Nat.le_add_right _ _
        · rw [z]; exact Nat.le_add_right _ _
        · rw [z]; exact Nat.le_add_right _ _
        · rw [z]; exact Nat.le_refl _
        · rw [z]; exact Nat.le_add_right _ _
      exact I1.fpOk hle (I1.hok.fresh hle)
end Ev

set_option Elab.async false
set_option linter.all false
set_option maxRecDepth 100000
/-! Ev22: enumerate, zip, dict(tuple), tuples that are known to be plain, list.remove of a text, displays of dicts. -/
namespace Ev
open PySem PySem.Spec PyProof.Rows L2
section
variable {X : Cx} {Z : WX} {m m2 : EV} {a b : Expr} {pos : Pos}
def getQ (S : Sto) (w : W) : Option (List W) := match w with
  | .tup ws => some ws
  | .ptp ws => some ws
  | .rol ws => some ws
  | .loc n => match S[n]? with
    | some (.lst ws) => some ws
    | _ => none
  | _ => none
def isL : W → Bool
  | .tup _ => false
  | .ptp _ => false
  | _ => true
theorem getQ_at {f : List Addr} {H : Hp} {S : Sto} {w : W} {ws : List W} {v : V} (s : RelS X.K X.mg f H S) (h : Rp X.K X.mg f H w v) (e : getQ S w = some ws) : ∃ a vs, v = .ref a ∧ SqB (isL w) X.K H a vs ∧ Rpl X.K X.mg f H ws vs := by
  cases w with
  | loc n =>
    unfold getQ at e
    dsimp only at e
    split at e
    · rename_i xs e2
      cases e
      obtain ⟨a, vs, e3, _, q, r⟩ := lstAt s h e2
      exact ⟨a, vs, e3, SqL.of q, r⟩
    · cases e
  | rol xs =>
    cases e
    obtain ⟨a, vs, e3, q, r⟩ := h.rolE
    exact ⟨a, vs, e3, q.seq, r⟩
  | tup xs =>
    cases e
    obtain ⟨a, vs, e3, q, r⟩ := h.tupE
    exact ⟨a, vs, e3, SqT.of q, r⟩
  | ptp xs =>
    cases e
    obtain ⟨a, vs, o, e3, q, _, r⟩ := h.ptpE
    exact ⟨a, vs, e3, SqT.frz q, r⟩
  | _ => cases e
/-! ### enumerate -/
def enIt (x : W) : Sto → Nat → Option (Option W) := fun S i => match getQ S x with
  | some ws => if i ≤ ws.length then some ((ws[i]?).map fun w => .tup [.int (i : Nat), w]) else none
  | none => none
def iEn (m : EV) : IV := fun s S => (m s S).bind fun w S => match getQ S w with
  | some ws => .ok ⟨enIt w, ws.length + 1⟩ S
  | none => .no
theorem it_en {f : List Addr} {H : Hp} {x : W} {a : Addr} (hx : Rp X.K X.mg f H x (.ref a)) : ItOk X f H (enIt x) (IteB (isL x) X.K a) := by
  intro f1 H1 S1 i k s1
  have hx1 := hx.mono k
  unfold enIt
  cases e : getQ S1 x with
  | none => exact ⟨fun z => (by cases z), fun w z => (by cases z)⟩
  | some ws =>
    obtain ⟨a1, vs, e1, q, r⟩ := getQ_at s1 hx1 e
    cases e1
    dsimp only
    by_cases hi : i ≤ ws.length
    · rw [if_pos hi]
      refine ⟨fun z => ⟨vs, q, ?_⟩, fun w z => ?_⟩
      · have z' : ws[i]? = none := Option.map_eq_none_iff.mp (Option.some.inj z)
        have := List.getElem?_eq_none_iff.mp z'
        rw [r.length]; omega
      · obtain ⟨x0, e2, rfl⟩ := Option.map_eq_some_iff.mp (Option.some.inj z)
        obtain ⟨v, e3, rv⟩ := r.get e2
        refine ⟨⟨vs, v, q, e3⟩, fun y H' h => ?_⟩
        obtain ⟨T, xa, rfl, hT, rfl, l1⟩ := h
        have z1 := l1 vs q
        rw [e3] at z1
        cases z1
        exact kp_tup2 s1 hT Rp.int' rv
    · rw [if_neg hi]
      exact ⟨fun z => (by cases z), fun w z => (by cases z)⟩
theorem i_en {elts : List Expr} {kk : Nat} {tpos p : Pos} (hm : X.mg "enumerate" = none) (ha : PE X a (tI X Z m)) (hg : Gl X "enumerate" := by rfl) (hs : starEach [a] X.env = [(false, eval a X.env)] := by rfl) :
    PI X (.Tuple elts kk tpos) (.Call (.Name "enumerate" p) [a] [] pos) (tF X Z (iEn m)) := by
  refine (pi_enumB hg hm (pa_cons ha pa_nil (by rw [hs]; rfl)) hs).imp ?_
  rintro st H Q ⟨f, s, S, hE, hS, hp⟩
  refine ⟨f, s, S, hE, hS, hp.seq fun f1 H1 x S1 v1 k1 s1 p1 hp1 => ?_⟩
  split at hp1
  · rename_i ws e
    obtain ⟨a1, vs, rfl, q, r⟩ := getQ_at s1 p1 e
    exact ⟨isL x, a1, vs, rfl, q, hp1.fin s1 (it_en p1)⟩
  · exact hp1.elim
/-! ### zip -/
def zipIt2 (x y : W) : Sto → Nat → Option (Option W) := fun S i => match getQ S x, getQ S y with
  | some ws, some us => if i ≤ ws.length ∧ i ≤ us.length then (match ws[i]?, us[i]? with
    | some a, some b => some (some (.tup [a, b]))
    | _, _ => some none) else none
  | _, _ => none
def iZip2 (m n : EV) : IV := fun s S => (m s S).bind fun x S => (n s S).bind fun y S => match getQ S x, getQ S y with
  | some ws, some _ => .ok ⟨zipIt2 x y, ws.length + 1⟩ S
  | _, _ => .no
theorem it_zip2 {f : List Addr} {H : Hp} {x y : W} {a b : Addr} (hx : Rp X.K X.mg f H x (.ref a)) (hy : Rp X.K X.mg f H y (.ref b)) : ItOk X f H (zipIt2 x y) (ItzB (isL x) (isL y) X.K a b) := by
  intro f1 H1 S1 i k s1
  have hx1 := hx.mono k
  have hy1 := hy.mono k
  unfold zipIt2
  cases ex : getQ S1 x with
  | none => exact ⟨fun z => (by cases z), fun w z => (by cases z)⟩
  | some ws =>
    cases ey : getQ S1 y with
    | none => exact ⟨fun z => (by cases z), fun w z => (by cases z)⟩
    | some us =>
      obtain ⟨a1, vs, e1, q1, r1⟩ := getQ_at s1 hx1 ex
      obtain ⟨b1, xs, e2, q2, r2⟩ := getQ_at s1 hy1 ey
      cases e1
      cases e2
      have l1 := r1.length
      have l2 := r2.length
      dsimp only
      by_cases hi : i ≤ ws.length ∧ i ≤ us.length
      · rw [if_pos hi]
        cases e3 : ws[i]? with
        | none =>
          have := List.getElem?_eq_none_iff.mp e3
          exact ⟨fun _ => ⟨vs, xs, q1, q2, by omega, by omega, .inl (by omega)⟩, fun w z => (by cases z)⟩
        | some wa =>
          cases e4 : us[i]? with
          | none =>
            have := List.getElem?_eq_none_iff.mp e4
            exact ⟨fun _ => ⟨vs, xs, q1, q2, by omega, by omega, .inr (by omega)⟩, fun w z => (by cases z)⟩
          | some wb =>
            refine ⟨fun z => (by cases z), fun w z => ?_⟩
            cases z
            obtain ⟨va, e5, ra⟩ := r1.get e3
            obtain ⟨vb, e6, rb⟩ := r2.get e4
            refine ⟨⟨vs, xs, va, vb, q1, q2, e5, e6⟩, fun v H' h => ?_⟩
            obtain ⟨T, xa, xb, rfl, hT, rfl, g1, g2⟩ := h
            have z1 := g1 vs q1
            have z2 := g2 xs q2
            rw [e5] at z1
            rw [e6] at z2
            cases z1
            cases z2
            exact kp_tup2 s1 hT ra rb
      · rw [if_neg hi]
        exact ⟨fun z => (by cases z), fun w z => (by cases z)⟩
theorem i_zip2 {elts : List Expr} {kk : Nat} {tpos p : Pos} (hm : X.mg "zip" = none) (ha : PE X a (tI X Z m)) (hb : PE X b (tI X Z m2)) (hg : Gl X "zip" := by rfl)
    (hs : starEach [a, b] X.env = (false, eval a X.env) :: starEach [b] X.env := by rfl) (hs2 : starEach [b] X.env = [(false, eval b X.env)] := by rfl) (hpl : (backTo pos (starEach [b] X.env)).any (·.1) = false := by rfl) :
    PI X (.Tuple elts kk tpos) (.Call (.Name "zip" p) [a, b] [] pos) (tF X Z (iZip2 m m2)) := by
  refine (pi_zipB hg hm (pa_cons ha (pa_cons hb pa_nil (by rw [hs2]; rfl)) hs) hs hpl).imp ?_
  rintro st H Q ⟨f, s, S, hE, hS, hp⟩
  refine ⟨f, s, S, hE, hS, hp.seq fun f1 H1 x S1 v1 k1 s1 p1 hp1 => ⟨f1, s, S1, hE.mono k1, s1, hp1.seq fun f2 H2 y S2 v2 k2 s2 p2 hp2 => ?_⟩⟩
  split at hp2
  · rename_i ws us e1 e2
    have p1' := p1.mono k2
    obtain ⟨a1, vs, rfl, q1, r1⟩ := getQ_at s2 p1' e1
    obtain ⟨b1, xs, rfl, q2, r2⟩ := getQ_at s2 p2 e2
    exact ⟨isL x, isL y, a1, b1, vs, xs, rfl, q1, q2, hp2.fin s2 (it_zip2 p1' p2)⟩
  · exact hp2.elim
/-! ### a tuple that is known with its object -/
theorem call_tupleF : CallR X (.type "tuple") (fun xs H Q => ∃ p ys, xs = [.ref p] ∧ SqL X.K H p ys ∧ ∀ l o, H l = none → o.dict = none → Q (.ref l) (upd H l (.frz o (.tup ys)))) := by
  intro pins s σ H xs us Q I r h
  obtain ⟨p, ys, rfl, hq, q⟩ := h
  obtain ⟨u, rfl, rx⟩ := vals1 r
  cases rx
  obtain ⟨its, r', pl, hz⟩ := I.list hq
  have hlen := r'.length
  refine call_tuple_list pl.isList (fun h' kp => ?_) (by simp only [List.size_toArray] <;> omega)
  have I1 : Inv X pins σ H { s with heap := h' } := I.kept (t' := s.toks) kp
  have I2 : Inv X pins σ (upd H h'.objs.size (.frz { cls := .type "tuple", data := .seq its.toArray } (.tup ys))) { s with heap := h'.push { cls := .type "tuple", data := .seq its.toArray } } :=
    I1.laid (t' := s.toks) (fun b o e => Heap.get?_push_of_some _ e) (Nat.le_refl _) (show ObjOk X.prog X.w _ _ _ (.frz _ (.tup ys)) from ⟨Heap.get?_push_size _ rfl, hz, its, r', IsTup.new _ _⟩)
  exact ⟨.ref h'.objs.size, _, I2, rfl, q _ _ (I1.hok.fresh (Nat.le_refl _)) rfl⟩
def tuplePW (ws : List W) (S : Sto) : R W := match ws with
  | [w] => match getL S w with
    | some us => .ok (.ptp us) S
    | none => .no
  | _ => .no
theorem snd_tupleP : SndL X Z (fun xs H Q => ∃ p ys, xs = [.ref p] ∧ SqL X.K H p ys ∧ ∀ l o, H l = none → o.dict = none → Q (.ref l) (upd H l (.frz o (.tup ys)))) tuplePW := by
  intro f H st S ws vs Q s r p
  unfold tuplePW at p
  split at p
  · obtain ⟨v, rfl, h⟩ := r.oneE
    split at p
    · rename_i us e
      obtain ⟨a, vs, rfl, q, r⟩ := getL_at s h e
      refine ⟨a, vs, rfl, q, fun l o hl hd => ?_⟩
      have k : Kp f H f (upd H l (.frz o (.tup vs))) := kpLaid hl _
      refine p f _ _ k (s.laid hl _) ?_
      unfold Rp
      exact ⟨l, vs, o, rfl, upd_same, hd, r.mono k⟩
    · exact p.elim
  · exact p.elim
/-! ### dict of such a tuple of pairs -/
theorem pairs_ofV {pins : List (Addr × Obj)} {σ : L2.St} {H : Hp} {s : Shared} (I : Inv X pins σ H s) : ∀ {ps : List Addr} {kvs : List (Key × V)}, Paired (fun p kv => SqT X.K H p [kV kv.1, kv.2]) ps kvs →
    ∃ (prs : List (Key × Value)) (us : List (Value × Value)), KV kvs prs ∧ prs.length = ps.length ∧ us.length = ps.length ∧ ∀ (j : Nat) (u v : Value), us[j]? = some (u, v) → ∃ (k : Key) (b : Addr), prs[j]? = some (k, v) ∧ ps[j]? = some b ∧ IsTup s.heap b #[u, v] ∧ (mixKind X.prog X.w).is k u = true
  | _, _, .nil => ⟨[], [], .nil, rfl, rfl, fun j u v e => by simp at e⟩
  | _, _, .cons (a := p) (b := kv) h t => by
    obtain ⟨prs, us, r, hl, hl2, hp⟩ := pairs_ofV I t
    obtain ⟨its, rv, ht, _⟩ := I.tuple h
    obtain ⟨u, y, ei, ru, ry⟩ := vals2 rv
    subst ei
    refine ⟨(kv.1, y) :: prs, (u, y) :: us, .cons ⟨rfl, ry⟩ r, by rw [List.length_cons, List.length_cons, hl], by rw [List.length_cons, List.length_cons, hl2], fun j u' v' e => ?_⟩
    cases j with
    | zero =>
      have e' : (u, y) = (u', v') := Option.some.inj e
      cases e'
      exact ⟨kv.1, p, rfl, rfl, ht, kV_is (P := X.prog) (w := X.w) ru⟩
    | succ j =>
      obtain ⟨k, b, e1, e2, e3, e4⟩ := hp j u' v' (by simpa using e)
      exact ⟨k, b, by simpa using e1, by simpa using e2, e3, e4⟩
def rDictF : List V → Hp → VK → Prop := fun xs H Q => ∃ (a : Addr) (o : Obj) (ps : List Addr) (kvs : List (Key × V)), xs = [.ref a] ∧ H a = some (.frz o (.tup (ps.map V.ref))) ∧ o.dict = none ∧ Paired (fun p kv => SqT X.K H p [kV kv.1, kv.2]) ps kvs ∧
    ∀ p, H p = none → Q (.ref p) (upd H p (.dK (mergeK [] kvs)))
theorem call_dictF (hcalm : X.calm = true) : CallR X (.type "dict") (rDictF (X := X)) := by
  intro pins s σ H xs us Q I r q
  obtain ⟨a, o, ps, kvs, ex, hq, hod, hp, q⟩ := q
  subst ex
  obtain ⟨u, eu, rx⟩ := vals1 r
  subst eu
  cases rx
  obtain ⟨ho, hz, its, rv, ⟨o', ho', hc, n, hdat⟩⟩ := (show ObjOk X.prog X.w H s.heap a (.frz o (.tup (ps.map V.ref))) from I.hok a _ hq)
  rw [ho] at ho'; cases ho'
  have ei := refs_at rv
  subst ei
  rw [List.length_map] at hz
  obtain ⟨prs, vs, rel, hl, hl2, hpr⟩ := pairs_ofV I hp
  have P := PairArg.tuple (prog := X.prog) (w := X.w) a (ps.map Value.ref).toArray (fun j => (ps[j]?).getD 0) vs
  refine PySem.call_dict_pairs (knd := mixKind X.prog X.w) (kvs := prs) P (I.ok.hd hcalm) ⟨⟨o, n, ho, hc, hod, hdat⟩, by simp [hl2], fun j u v e => ?_⟩ ⟨by rw [hl, hl2], fun j u v e => ?_⟩ (by rw [hl2]; exact hz) fun h' tk hd' k => ?_
  · obtain ⟨k, b, e1, e2, e3, e4⟩ := hpr j u v e
    exact ⟨by simp [e2], .inl (by show s.heap.IsTuple ((ps[j]?).getD 0) _; rw [e2]; exact e3)⟩
  · obtain ⟨k, b, e1, e2, e3, e4⟩ := hpr j u v e
    exact ⟨k, e1, e4⟩
  · have hm : (s.heap.objs.size == sysModules) = false := beq_eq_false_iff_ne.mpr (Nat.ne_of_gt I.big)
    have hlen : (mergeK [] kvs).length ≤ sizeLine := by
      refine Nat.le_trans (length_mergeK kvs []) ?_
      rw [List.length_nil, Nat.zero_add, rel.length, hl]
      exact hz
    exact ⟨.ref s.heap.objs.size, upd H s.heap.objs.size (.dK (mergeK [] kvs)), I.laid (t' := tk) (fun b o' e => k b o' (by simp) e) (Nat.le_refl _) (show ObjOk X.prog X.w _ _ _ (.dK (mergeK [] kvs)) from ⟨hlen, hm, merged [] prs, KV.merge rel .nil, hd'⟩), rfl, q _ (I.hok.fresh (Nat.le_refl _))⟩
def dict2W (ws : List W) (S : Sto) : R W := match ws with
  | [.ptp us] => match pairsOf us with
    | some ps => .ok (.loc S.length) (S ++ [.dct (dmerge [] ps)])
    | none => .no
  | _ => dictW ws S
def rDict2 (X : Cx) : List V → Hp → VK → Prop := fun xs H Q => rDictW X.K xs H Q ∨ rDictF (X := X) xs H Q
theorem call_dict2 (hc : X.calm = true) : CallR X (.type "dict") (rDict2 X) := (call_dictW hc).or (call_dictF hc)
theorem snd_dict2 : SndL X Z (rDict2 X) dict2W := by
  intro f H st S ws vs Q s r p
  unfold dict2W at p
  split at p
  · obtain ⟨v, rfl, h⟩ := r.oneE
    split at p
    · rename_i us ps e1
      obtain ⟨a, vs, o, rfl, q, hd, r⟩ := h.ptpE
      obtain ⟨as, kvs, rfl, p1, p2⟩ := pairs_ok r e1
      exact .inr ⟨a, o, as, kvs, rfl, q, hd, p1, fun b hb => p.newD s (merge_ok p2 (by unfold RpK; rfl)) hb⟩
    · exact p.elim
  · exact .inl (snd_dict s r p)
/-! ### list.remove of a text -/
def eqs (k : Str) : Value → Bool
  | .str y _ => y.cps.toList == k.cps.toList
  | _ => false
theorem str_eq {a b : Str} (h : (a.cps.toList == b.cps.toList) = true) : a = b := by
  cases a; cases b
  simp at h
  rw [h]
theorem strs_at {its : List Value} : ∀ {ns : List Str}, Vals (ns.map V.str) its → ∀ (j : Nat) (k : Str), ns[j]? = some k → ∃ t, its[j]? = some (.str k t)
  | [], r, j, k, e => by simp at e
  | n :: ns, r, j, k, e => by
    rw [List.map_cons] at r
    cases r with
    | cons h t =>
      cases j with
      | zero =>
        obtain ⟨tk, rfl⟩ := h
        cases e
        exact ⟨tk, rfl⟩
      | succ j => exact strs_at t j k (by simpa using e)
theorem strs_all {its : List Value} : ∀ {ns : List Str}, Vals (ns.map V.str) its → ∀ y ∈ its, ∃ n t, y = .str n t
  | [], r, y, hy => by rw [List.map_nil] at r; cases r; cases hy
  | n :: ns, r, y, hy => by
    rw [List.map_cons] at r
    cases r with
    | cons h t =>
      rcases List.mem_cons.mp hy with rfl | hy
      · obtain ⟨tk, rfl⟩ := h; exact ⟨n, tk, rfl⟩
      · exact strs_all t y hy
theorem erase_mapS : ∀ (l : List Str) (j : Nat), (l.map V.str).eraseIdx j = (l.eraseIdx j).map V.str
  | [], j => by simp
  | a :: r, 0 => by simp
  | a :: r, j + 1 => by
    have ih := erase_mapS r j
    simp [ih]
def rRemS : V → List V → Hp → VK → Prop := fun x xs H Q => ∃ (l : Addr) (ns : List Str) (k : Str) (j : Nat), x = .ref l ∧ xs = [.str k] ∧ H l = some (.lst (ns.map V.str)) ∧ ns[j]? = some k ∧ (∀ m : Nat, m < j → ns[m]? ≠ some k) ∧ Q .non (upd H l (.lst ((ns.eraseIdx j).map V.str)))
theorem mt_removeS : MtR X "list.remove" rRemS := by
  intro pins s σ H x xs v us Q I rx rxs h
  obtain ⟨l, ns, k, j, rfl, rfl, hH, hj, hno, q⟩ := h
  cases rx
  obtain ⟨u, rfl, ru⟩ := rxs.one
  obtain ⟨t, rfl⟩ := ru
  obtain ⟨z, its, n, r, hl, e⟩ := I.lstM hH
  rw [List.length_map] at hl z
  have hjn : j < ns.length := (List.getElem?_eq_some_iff.mp hj).1
  have hjl : j < its.toArray.size := by rw [List.size_toArray]; omega
  refine call_meets PySem.F.slot_list_remove ⟨_, e, rfl⟩ PySem.F.entry_list_remove (PySem.F.args_list_remove_2 _ _)
    (MeetsSeq.list_remove l its.toArray n (.str k t) (eqs k) (fun y hy => ?_) j hjl ?_ ?_ (by rw [List.size_toArray]; omega)) ⟨e, ?_⟩
  · obtain ⟨m, tm, rfl⟩ := strs_all r y (by simpa using hy)
    exact SeqRoads2.EqGives.str m k tm t
  · obtain ⟨tj, hjt⟩ := strs_at r j k hj
    obtain ⟨h1, h2⟩ := List.getElem?_eq_some_iff.mp hjt
    have e1 : its.toArray[j] = .str k tj := by simpa using h2
    rw [e1]
    exact beq_self_eq_true _
  · intro m hm hmj
    have hmn : m < ns.length := by omega
    obtain ⟨tm, hmt⟩ := strs_at r m _ (List.getElem?_eq_getElem hmn)
    obtain ⟨h1, h2⟩ := List.getElem?_eq_some_iff.mp hmt
    have e1 : its.toArray[m] = .str ns[m] tm := by simpa using h2
    rw [e1]
    cases e2 : eqs k (.str ns[m] tm) with
    | false => rfl
    | true =>
      have := str_eq (a := ns[m]) (b := k) e2
      exact absurd (by rw [List.getElem?_eq_getElem hmn, this]) (hno m hmj)
  · have rr := r.eraseIdx j
    rw [erase_mapS] at rr
    refine ⟨.non, _, I.lset (its' := its.eraseIdx j) (t' := s.toks) hH e ?_ rr ?_, rfl, q⟩
    · show its.toArray.eraseIdxIfInBounds j = (its.eraseIdx j).toArray
      rw [List.eraseIdxIfInBounds_toArray]
    · rw [List.length_map]
      have := List.length_eraseIdx_le ns j
      omega
def rmAt (k : Str) : List Str → Option Nat
  | [] => none
  | y :: ys => if y = k then some 0 else (rmAt k ys).map (· + 1)
theorem rmAt_ok {k : Str} : ∀ {ys : List Str} {j : Nat}, rmAt k ys = some j → ys[j]? = some k ∧ ∀ m, m < j → ys[m]? ≠ some k
  | [], j, e => by cases e
  | y :: ys, j, e => by
    unfold rmAt at e
    split at e
    · rename_i h
      cases e
      exact ⟨by rw [h]; rfl, fun m hm => absurd hm (Nat.not_lt_zero _)⟩
    · rename_i h
      obtain ⟨i, e1, rfl⟩ := Option.map_eq_some_iff.mp e
      obtain ⟨h1, h2⟩ := rmAt_ok e1
      refine ⟨h1, fun m hm => ?_⟩
      cases m with
      | zero => intro z; exact h (Option.some.inj z)
      | succ m => exact h2 m (by omega)
def removeW (x : W) (xs : List W) (S : Sto) : R W := match x, xs with
  | .loc n, [.str k] => match S[n]? with
    | some (.lst us) => match strsOf us with
      | some ys => match rmAt k ys with
        | some j => .ok .non (S.set n (.lst (us.eraseIdx j)))
        | none => .no
      | none => .no
    | _ => .no
  | _, _ => .no
theorem snd_removeS : SndM X Z rRemS removeW := by
  intro f H st S w v ws vs Q s h r p
  unfold removeW at p
  split at p
  · split at p
    · rename_i e0
      split at p
      · rename_i ys e1
        split at p
        · rename_i j e2
          obtain ⟨a, us, rfl, ha, q, r'⟩ := lstAt s h e0
          obtain ⟨u, rfl, h'⟩ := r.oneE
          have eu := strsOf_ok r' e1
          subst eu
          obtain ⟨g1, g2⟩ := rmAt_ok e2
          refine ⟨a, ys, _, j, rfl, by rw [h'.strE], q, g1, g2, ?_⟩
          rw [← erase_mapS]
          exact p.updL s ha q (r'.eraseIdx j) Rp.non'
        · exact p.elim
      · exact p.elim
    · exact p.elim
  · exact p.elim
/-! ### displays of dicts -/
def dvals : List (Str × EV) → En → Sto → R (List W)
  | [], _, S => .ok [] S
  | (_, m) :: r, s, S => (m s S).bind fun w S => (dvals r s S).bind fun ws S => .ok (w :: ws) S
def dpairs (ks : List Str) (ws : List W) : List (W × Key × W) := (ks.zip ws).map fun p => (.str p.1, .inr p.1, p.2)
def dispW (kms : List (Str × EV)) : EV := fun s S => (dvals kms s (S ++ [.dct []])).bind fun ws S' => match S'[S.length]? with
  | some (.dct []) => .ok (.loc S.length) (S'.set S.length (.dct (dmerge [] (dpairs (kms.map (·.1)) ws))))
  | _ => .no
abbrev dtrs (X : Cx) (Z : WX) (kms : List (Str × EV)) : List (TE × TE) := kms.map fun p => (tI X Z (eC (.str p.1)), tI X Z p.2)
theorem dv_bind {x : Str} {m : EV} {r : List (Str × EV)} {s : En} {S : Sto} {k : List W → Sto → R W} : (dvals ((x, m) :: r) s S).bind k = (m s S).bind fun w S => (dvals r s S).bind fun ws S => k (w :: ws) S := by
  show ((m s S).bind fun w S => (dvals r s S).bind fun ws S => .ok (w :: ws) S).bind k = _
  cases m s S with
  | ok w S1 =>
    show ((dvals r s S1).bind fun ws S => .ok (w :: ws) S).bind k = (dvals r s S1).bind fun ws S => k (w :: ws) S
    cases dvals r s S1 <;> rfl
  | ex _ _ => rfl
  | no => rfl
def dzip (ks : List Str) (vs : List V) : List (V × V) := (ks.zip vs).map fun p => (.str p.1, p.2)
theorem dv_pairs {st : L2.St} {s : En} {Q0 : VK} : ∀ (kms : List (Str × EV)) {k : List W → Sto → R W} {f : List Addr} {H : Hp} {S : Sto} {QQ : List (V × V) → Hp → Prop}, RelE X.K X.mg f H s st → RelS X.K X.mg f H S → post X Z (Rp X.K X.mg) st f H ((dvals kms s S).bind k) Q0 →
    (∀ f2 H2 ws vs S2, Kp f H f2 H2 → RelS X.K X.mg f2 H2 S2 → Rpl X.K X.mg f2 H2 ws vs → ws.length = kms.length → post X Z (Rp X.K X.mg) st f2 H2 (k ws S2) Q0 → QQ (dzip (kms.map (·.1)) vs) H2) → tPairs (dtrs X Z kms) st H QQ
  | [], k, f, H, S, QQ, hE, hS, hp, hk => hk f H [] [] S Kp.refl hS Rpl.nil rfl hp
  | (x, m) :: r, k, f, H, S, QQ, hE, hS, hp, hk => by
    refine ⟨f, s, S, hE, hS, fun f1 H1 b k1 s1 r1 => ?_⟩
    have eb := r1.strE
    subst eb
    rw [dv_bind] at hp
    refine ⟨f1, s, S, hE.mono k1, s1, (hp.mono k1).seq fun f2 H2 w2 S2 v2 k2 s2 p2 hp2 => ?_⟩
    refine dv_pairs r ((hE.mono k1).mono k2) s2 hp2 fun f3 H3 ws vs S3 k3 s3 r3 hl hp3 => ?_
    exact hk f3 H3 (w2 :: ws) (v2 :: vs) S3 (k1.trans (k2.trans k3)) s3 (.cons (p2.mono k3) r3) (by simp [hl]) hp3
theorem dk_ok {f : List Addr} {H : Hp} : ∀ (ks : List Str) {ws : List W} {vs : List V}, Rpl X.K X.mg f H ws vs → Paired (fun (p : W × Key × W) (kv : Key × V) => p.2.1 = kv.1 ∧ W.key? p.1 = some p.2.1 ∧ Rp X.K X.mg f H p.2.2 kv.2) (dpairs ks ws) ((ks.zip vs).map fun p => (.inr p.1, p.2))
  | [], ws, vs, r => .nil
  | k :: ks, [], vs, r => by
    unfold Rpl at r
    subst r
    exact .nil
  | k :: ks, w :: ws, vs, r => by
    unfold Rpl at r
    obtain ⟨v, r', rfl, h1, h2⟩ := r
    exact .cons ⟨rfl, rfl, h1⟩ (dk_ok ks h2)
theorem e_disp {kms : List (Str × EV)} {keys : List (Option Expr)} {values : List Expr} (h : PPs X pos keys values (dtrs X Z kms)) (hn : kms.length ≤ 15) (hall : keys.all (·.isSome) = true := by rfl) (hl : keys.length = values.length := by rfl) (h0 : keys ≠ [] := by simp) (h15 : keys.length ≤ 15 := by decide) :
    PE X (.Dict keys values pos) (tI X Z (dispW kms)) := by
  refine (pe_disp h hall hl h0 h15).imp ?_
  rintro st H Q ⟨f, s, S, hE, hS, hp⟩ p hp0
  have hS' := hS.new (o := .dct []) hp0 ⟨[], upd_same, by unfold RpK; rfl⟩
  have k0 := hS.kpNew hp0 (.dK [])
  refine dv_pairs kms (hE.mono k0) hS' (hp.mono k0) fun f2 H2 ws vs S2 k2 s2 r2 hlen hp2 => ?_
  split at hp2
  · rename_i e0
    have ha : f2[S.length]? = some p := k2.ext _ _ (at_new hS)
    have hr : Rp X.K X.mg f2 H2 (.loc S.length) (.ref p) := by unfold Rp; exact ⟨p, rfl, ha⟩
    obtain ⟨a, us, e3, _, q, r⟩ := dctAt s2 hr e0
    cases e3
    unfold RpK at r
    subst r
    refine ⟨q, ((kms.map (·.1)).zip vs).map fun p => (.inr p.1, p.2), by unfold dzip; rw [List.map_map]; rfl, by simp; omega, ?_⟩
    exact hp2.updD s2 ha q (merge_ok (dk_ok _ r2) (by unfold RpK; rfl)) hr
  · exact hp2.elim
theorem d_nil : PPs X pos [] [] (dtrs X Z []) := pps_nil
theorem d_cons {x : Str} {j : Nat} {p : Pos} {m : EV} {v : Expr} {kms : List (Str × EV)} {ks : List (Option Expr)} {vs : List Expr} (hv : PE X v (tI X Z m)) (hr : PPs X pos ks vs (dtrs X Z kms)) : PPs X pos (some (.Constant (.str x) j p) :: ks) (v :: vs) (dtrs X Z ((x, m) :: kms)) := pps_cons e_str hv hr
/-! ### code that is not come to -/
theorem e_no {e : Expr} : PE X e (tI X Z fun _ _ => .no) := ⟨fun pins s σ H Q I q => by
  obtain ⟨f, s', S, hE, hS, hp⟩ := q
  exact hp.elim⟩
end
end Ev

set_option Elab.async false
set_option linter.all false
set_option maxRecDepth 100000
/-! Ev23: rules for Ev22, and all rules in packs. -/
namespace Ev
open PySem L2
section
variable {EE : Exc} {S : Sto} {n i : Nat} {ws us : List W} {x y w : W} {Q : W → Sto → Prop} {hQ : Ph Q} {a b : EV} {s : En}
theorem getQ_t : getQ S (.tup ws) = some ws := rfl
theorem getQ_p : getQ S (.ptp ws) = some ws := rfl
theorem getQ_l (h : S[n]? = some (.lst ws)) : getQ S (.loc n) = some ws := by unfold getQ; dsimp only; rw [h]
theorem enIt_at (h : getQ S x = some ws) (hi : i < ws.length) : enIt x S i = some (some (.tup [.int (i : Nat), ws[i]])) := by
  unfold enIt; rw [h]; dsimp only; rw [if_pos (Nat.le_of_lt hi), List.getElem?_eq_getElem hi]; rfl
theorem enIt_end (h : getQ S x = some ws) : enIt x S ws.length = some none := by
  unfold enIt; rw [h]; dsimp only; rw [if_pos (Nat.le_refl _), List.getElem?_eq_none (Nat.le_refl _)]; rfl
theorem zip2_at (h : getQ S x = some ws) (h2 : getQ S y = some us) (hi : i < ws.length) (hl : ws.length = us.length) : zipIt2 x y S i = some (some (.tup [ws[i], us[i]'(by omega)])) := by
  unfold zipIt2; rw [h, h2]; dsimp only; rw [if_pos ⟨Nat.le_of_lt hi, by omega⟩, List.getElem?_eq_getElem hi, List.getElem?_eq_getElem (show i < us.length by omega)]
theorem zip2_end (h : getQ S x = some ws) (h2 : getQ S y = some us) (hl : ws.length = us.length) : zipIt2 x y S ws.length = some none := by
  unfold zipIt2; rw [h, h2]; dsimp only; rw [if_pos ⟨Nat.le_refl _, by omega⟩, List.getElem?_eq_none (Nat.le_refl _)]
theorem wq_en {I : IT → Sto → Prop} {h : Ph I} : wq (iEn a s S) I h = wq (a s S) (fun w S => wo (getQ S w) (fun ws => I ⟨enIt w, ws.length + 1⟩ S) ⟨⟩) ⟨⟩ := by
  unfold iEn wq; rw [wpR_bind]; congr 1; funext w S1
  cases getQ S1 w <;> rfl
theorem wq_zip2 {I : IT → Sto → Prop} {h : Ph I} : wq (iZip2 a b s S) I h = wq (a s S) (fun x S => wq (b s S) (fun y S => wo (getQ S x) (fun ws => wo (getQ S y) (fun _ => I ⟨zipIt2 x y, ws.length + 1⟩ S) ⟨⟩) ⟨⟩) ⟨⟩) ⟨⟩ := by
  unfold iZip2 wq; rw [wpR_bind]; congr 1; funext x S1; rw [wpR_bind]; congr 1; funext y S2
  cases getQ S2 x with
  | none => rfl
  | some ws => cases getQ S2 y <;> rfl
theorem wq_disp {kms : List (Str × EV)} : wq (dispW kms s S) Q hQ = wq (dvals kms s (S ++ [.dct []])) (fun ws S' => S'[S.length]? = some (.dct []) ∧ Q (.loc S.length) (S'.set S.length (.dct (dmerge [] (dpairs (kms.map (·.1)) ws))))) ⟨⟩ := by
  unfold dispW wq; rw [wpR_bind]; congr 1; funext ws S1
  cases e : S1[S.length]? with
  | none => simp [wpR]
  | some o =>
    cases o <;> try (simp [wpR]; done)
    rename_i kvs
    cases kvs <;> simp [wpR]
theorem wq_dv0 {L : List W → Sto → Prop} {h : Ph L} : wq (dvals [] s S) L h = L [] S := rfl
theorem wq_dvS {L : List W → Sto → Prop} {h : Ph L} {t : Str} {r : List (Str × EV)} : wq (dvals ((t, a) :: r) s S) L h = wq (a s S) (fun w S => wq (dvals r s S) (fun ws S => L (w :: ws) S) ⟨⟩) ⟨⟩ := by
  unfold dvals wq; rw [wpR_bind]; congr 1; funext w S1; rw [wpR_bind]; rfl
theorem seqLen_p : seqLen (.ptp ws) S = some ws.length := rfl
theorem seqIt_p : seqIt (.ptp ws) S i = some ws[i]? := rfl
theorem lenW_p : lenW [.ptp ws] S = .ok (.int ws.length) S := rfl
theorem wq_ixP {j : Int} : wq (ixW (.ptp ws) (.int j) S) Q hQ = wo (atI ws j) (fun w => Q w S) ⟨⟩ := by
  unfold wq ixW; dsimp only
  cases atI ws j <;> rfl
theorem dict2W_loc : dict2W [.loc n] S = dictW [.loc n] S := rfl
theorem dict2W_p {A : Type} {f : A → Str} {g : A → W} {l : List A} (hn : (l.map f).Nodup) : dict2W [.ptp (l.map fun a => .tup [.str (f a), g a])] S = .ok (.loc S.length) (S ++ [.dct (l.map fun a => (.str (f a), g a))]) := by
  unfold dict2W; dsimp only; rw [pairs_of]; dsimp only
  have := dmerge_nd (f := f) (g := g) l [] hn
  rw [List.map_nil, List.nil_append] at this
  rw [this]
theorem dictW_d {kvs : List (W × W)} (h : S[n]? = some (.dct kvs)) : dictW [.loc n] S = .ok (.loc S.length) (S ++ [.dct kvs]) := by
  unfold dictW; dsimp only; rw [h]
theorem tuplePW_l (h : S[n]? = some (.lst us)) : tuplePW [.loc n] S = .ok (.ptp us) S := by
  unfold tuplePW getL; dsimp only; rw [h]
theorem rmAt_mem {k : Str} : ∀ {ys : List Str}, k ∈ ys → ∃ j, rmAt k ys = some j
  | y :: ys, h => by
    unfold rmAt
    by_cases e : y = k
    · exact ⟨0, if_pos e⟩
    · rw [if_neg e]
      rcases List.mem_cons.mp h with rfl | h
      · exact absurd rfl e
      · obtain ⟨j, e2⟩ := rmAt_mem h
        exact ⟨j + 1, by rw [e2]; rfl⟩
theorem eraseMap {A B : Type} (f : A → B) : ∀ (l : List A) (j : Nat), (l.map f).eraseIdx j = (l.eraseIdx j).map f
  | [], j => by simp
  | a :: r, 0 => by simp
  | a :: r, j + 1 => by
    have ih := eraseMap f r j
    simp [ih]
theorem removeW_t {l : List (List Nat)} {k : List Nat} (h : S[n]? = some (.lst (l.map fun w => .str (SX.S w)))) (hk : k ∈ l) : ∃ j, removeW (.loc n) [.str (SX.S k)] S = .ok .non (S.set n (.lst ((l.eraseIdx j).map fun w => .str (SX.S w)))) := by
  obtain ⟨j, e⟩ := rmAt_mem (List.mem_map_of_mem (f := SX.S) hk)
  refine ⟨j, ?_⟩
  unfold removeW; dsimp only; rw [h]; dsimp only; rw [strs_of]; dsimp only; rw [e]; dsimp only
  rw [eraseMap]
end
def pa0 := And.intro @wq_aCons (And.intro @wq_aNil (And.intro @wq_and (And.intro @wq_bind (And.intro @wq_c (And.intro @wq_dnew (And.intro @wq_e1 (And.intro @wq_e2 (And.intro @wq_eIf (And.intro @wq_eL (And.intro @wq_eM (@wq_eSl)))))))))))
def pa1 := And.intro @wq_in (And.intro @wq_ite (And.intro @wq_ixR (And.intro @wq_ixS (And.intro @wq_ixT (And.intro @wq_lc (And.intro @wq_lst (And.intro @wq_no (And.intro @wq_not (And.intro @wq_oNone (And.intro @wq_oSome (@wq_ok)))))))))))
def pa2 := And.intro @wq_or (And.intro @wq_rng1 (And.intro @wq_rng2 (And.intro @wq_run (And.intro @wq_seq (And.intro @wq_test (And.intro @wq_tru (And.intro @wq_tup (And.intro @wq_vAnd (And.intro @wq_vNot (And.intro @wq_vOr (@wq_var0)))))))))))
def pa3 := And.intro @wq_varS (And.intro @wq_yes (And.intro @wq_zip (And.intro @ws_asg (And.intro @ws_brk (And.intro @ws_cnt (And.intro @ws_expr (And.intro @ws_for (And.intro @ws_if (And.intro @ws_in (And.intro @ws_kn (@ws_nil)))))))))))
def pa4 := And.intro @ws_nx (And.intro @ws_put (And.intro @ws_ret (And.intro @ws_retN (And.intro @ws_rt (And.intro @ws_seq (And.intro @ws_while (And.intro @ws_set (And.intro @wo_some (And.intro @onB_b (And.intro @onI_i (@Kn_rt)))))))))))
def pa5 := And.intro @Kn_bk (And.intro @Kn_ct (And.intro @onRet_nx (And.intro @onRet_rt (And.intro @onNx_nx (And.intro @onNx_ct (And.intro @onNx_bk (And.intro @onNx_rt (And.intro @ws_fld (And.intro @wq_meth (And.intro @wq_make (@wq_chain)))))))))))
def pa6 := And.intro @wq_dnewT (And.intro @wq_key (And.intro @onUnl_nx (And.intro @onUnl_rt (And.intro @wq_en (And.intro @wq_zip2 (And.intro @wq_disp (And.intro @wq_dv0 (@wq_dvS))))))))
def pb0 := And.intro @addW_ii (And.intro @addW_tt (And.intro @subW_ii (And.intro @mulW_ii (And.intro @modW_ii (And.intro @fdivW_ii (And.intro @powW_ii (And.intro @negW_i (And.intro @cmpI_ii (And.intro @isW_n (And.intro @isnW_n (@isNon_n)))))))))))
def pb1 := And.intro @isNon_b (And.intro @isNon_i (And.intro @isNon_s (And.intro @isNon_t (And.intro @isNon_l (And.intro @max2W_ii (And.intro @min2W_ii (And.intro @intW_i (And.intro @intW_b (And.intro @lenW_t (And.intro @lenW_r (@listW_t)))))))))))
def pb2 := And.intro @tupleW_t (And.intro @truW_b (And.intro @truW_n (And.intro @truW_i (And.intro @truW_t (And.intro @eqW_ii (And.intro @neW_ii (And.intro @eqW_ss (And.intro @neW_ss (And.intro @eqW_bb (And.intro @ixN_0 (@ixN_1)))))))))))
def pb3 := And.intro @ixN_2 (And.intro @ixN_3 (And.intro @isi_bb (And.intro @isi_bs (And.intro @isi_bi (And.intro @isi_bt (And.intro @isi_bl (And.intro @isi_ib (And.intro @isi_is (And.intro @isi_ii (And.intro @isi_it (@isi_il)))))))))))
def pb4 := And.intro @isi_sb (And.intro @isi_ss (And.intro @isi_si (And.intro @isi_st (And.intro @isi_sl (And.intro @isi_tb (And.intro @isi_ts (And.intro @isi_ti (And.intro @isi_tt (And.intro @isi_tl (And.intro @isi_nb (@isi_ns)))))))))))
def pb5 := And.intro @isi_ni (And.intro @isi_nt (And.intro @isi_nl (And.intro @atI_0 (And.intro @atI_1 (And.intro @atI_2 (And.intro @atI_3 (And.intro @atI_4 (And.intro @tyOk_s (And.intro @slW_to (And.intro @slW_from (@addW_SS)))))))))))
def pb6 := And.intro @put_nm (And.intro @put_tp (And.intro @puts_nil (And.intro @puts_cons (And.intro @seqLen_t (And.intro @seqLen_r (And.intro @seqLen_p (And.intro @getQ_t (And.intro @getQ_p (And.intro @wq_ixP (And.intro @lenW_p (@dict2W_loc)))))))))))
end Ev

set_option Elab.async false
set_option linter.all false
set_option maxRecDepth 100000
/-! Ev24: comprehensions with a test, locks, small rules. -/
namespace Ev
open PySem L2
section
variable {EE : Exc} {S : Sto} {n i : Nat} {ws us : List W} {x y w : W} {Q : W → Sto → Prop} {hQ : Ph Q} {a b : EV} {s : En}
/-- a comprehension whose parts change nothing, with a test -/
theorem wp_filtB {A : Type} {ws : List A} {it : Sto → Nat → Option (Option W)} {t : Tg} {c : BV} {m : EV} {s0 : En} {Q : List W → Sto → Prop} (f g : A → W) (p : A → Bool) (hit : ∀ i, i ≤ ws.length → it S i = some ((ws[i]?).map f)) (hl : ws.length ≤ 1000000)
    (hb : ∀ w ∈ ws, ∃ s1, Tg.put t (f w) s0 = some s1 ∧ @wpR _ noExc (c s1 S) (fun k S' => S' = S ∧ k = p w) ∧ (p w = true → @wpR _ noExc (m s1 S) (fun v S' => S' = S ∧ v = g w))) (q : Q ((ws.filter p).map g) S) : wpR (lcLoop it t c m s0 (ws.length + 1) 0 [] S) Q := by
  refine wp_lclN ws.length (fun k acc S' => S' = S ∧ acc = ((ws.take k).filter p).map g) (by omega) ⟨rfl, rfl⟩ ?_ ?_
  · rintro i acc S' hi ⟨rfl, rfl⟩
    obtain ⟨s1, e1, e2, e3⟩ := hb ws[i] (List.getElem_mem hi)
    refine ⟨f ws[i], s1, by rw [hit _ (Nat.le_of_lt hi), List.getElem?_eq_getElem hi]; rfl, e1, ?_⟩
    refine @wpR_mono noExc _ _ _ _ e2 ?_
    rintro k S2 ⟨rfl, rfl⟩
    have tk : ws.take (i + 1) = ws.take i ++ [ws[i]] := by rw [List.take_succ, List.getElem?_eq_getElem hi]; rfl
    by_cases hp : p ws[i] = true
    · rw [if_pos hp]
      refine @wpR_mono noExc _ _ _ _ (e3 hp) ?_
      rintro v S3 ⟨rfl, rfl⟩
      refine ⟨?_, rfl, ?_⟩
      · have := List.length_filter_le p (ws.take i)
        rw [List.length_map]
        rw [List.length_take] at this
        omega
      · rw [tk, List.filter_append, List.map_append]
        simp [hp]
    · rw [if_neg hp]
      refine ⟨rfl, ?_⟩
      rw [tk, List.filter_append]
      simp [hp]
  · rintro acc S' ⟨rfl, rfl⟩
    refine ⟨by rw [hit _ (Nat.le_refl _), List.getElem?_eq_none (Nat.le_refl _)]; rfl, ?_⟩
    rw [List.take_length]; exact q
theorem wp_filt {A : Type} {ws : List A} {it : Sto → Nat → Option (Option W)} {t : Tg} {c : BV} {m : EV} {s0 : En} {Q : List W → Sto → Prop} (f g : A → W) (p : A → Bool) (hit : ∀ i, it S i = some ((ws[i]?).map f)) (hl : ws.length ≤ 1000000)
    (hb : ∀ w ∈ ws, ∃ s1, Tg.put t (f w) s0 = some s1 ∧ @wpR _ noExc (c s1 S) (fun k S' => S' = S ∧ k = p w) ∧ (p w = true → @wpR _ noExc (m s1 S) (fun v S' => S' = S ∧ v = g w))) (q : Q ((ws.filter p).map g) S) : wpR (lcLoop it t c m s0 (ws.length + 1) 0 [] S) Q :=
  wp_filtB f g p (fun i _ => hit i) hl hb q
/-- .. with no test -/
theorem wp_mapB {A : Type} {ws : List A} {it : Sto → Nat → Option (Option W)} {t : Tg} {c : BV} {m : EV} {s0 : En} {Q : List W → Sto → Prop} (f g : A → W) (hit : ∀ i, i ≤ ws.length → it S i = some ((ws[i]?).map f)) (hl : ws.length ≤ 1000000)
    (hb : ∀ w ∈ ws, ∃ s1, Tg.put t (f w) s0 = some s1 ∧ @wpR _ noExc (c s1 S) (fun k S' => S' = S ∧ k = true) ∧ @wpR _ noExc (m s1 S) (fun v S' => S' = S ∧ v = g w)) (q : Q (ws.map g) S) : wpR (lcLoop it t c m s0 (ws.length + 1) 0 [] S) Q :=
  wp_filtB f g (fun _ => true) hit hl (fun w hw => by obtain ⟨s1, a, b, c⟩ := hb w hw; exact ⟨s1, a, b, fun _ => c⟩) (by rw [List.filter_eq_self.mpr fun _ _ => rfl]; exact q)
theorem zip2_any (h : getQ S x = some ws) (h2 : getQ S y = some us) (hl : ws.length = us.length) (hi : i ≤ ws.length) : zipIt2 x y S i = some (((ws.zip us)[i]?).map fun p => .tup [p.1, p.2]) := by
  rcases Nat.lt_or_eq_of_le hi with hi | rfl
  · rw [zip2_at h h2 hi hl, List.getElem?_eq_getElem (by rw [List.length_zip]; omega), List.getElem_zip]; rfl
  · rw [zip2_end h h2 hl, List.getElem?_eq_none (by rw [List.length_zip]; omega)]; rfl
theorem neW_nil {p q : Nat} {ds : List PyData} (h : S[p]? = some (.lst ws)) (hd : ws.mapM (W.pd S 63) = some ds) (h' : S[q]? = some (.lst [])) : neW (.loc p) (.loc q) S = .ok (.bl (!ws.isEmpty)) S := by
  rw [neW_d (d := .list ds) (e := .list []), eqv_nil]
  · have := mapM_len hd
    cases ws <;> cases ds <;> first | rfl | cases this
  · unfold W.pd; dsimp only; rw [h]; dsimp only; rw [hd]; rfl
  · unfold W.pd; dsimp only; rw [h']; rfl
theorem Xt.unlock {M : List Nat} {S1 : Sto} {kvs : List (W × W)} (e : S[n]? = some (.dct kvs)) (x : Xt M (S.set n (.fdc kvs)) S1) : Xt M S (S1.set n (.dct kvs)) := by
  have hl := lt_at e
  have hl1 : n < S1.length := by have := x.len; rw [List.length_set] at this; omega
  refine ⟨by have := x.len; rw [List.length_set] at this ⊢; exact this, fun k o hk h => ?_⟩
  by_cases z : n = k
  · subst z
    rw [e] at h; cases h
    rw [List.getElem?_set_self hl1]
  · rw [List.getElem?_set_ne z]
    exact x.at_ k o hk (by rw [List.getElem?_set_ne z]; exact h)
theorem Xt.lock {M : List Nat} {kvs : List (W × W)} (h : n ∈ M) : Xt M S (S.set n (.fdc kvs)) := Xt.set h
theorem wp_lockW {me : EV} {m : SV} {kvs : List (W × W)} {P : RS → Prop} (h1 : @wpR _ noExc (me s S) fun w _ => w = .loc n) (h2 : S[n]? = some (.dct kvs)) (h : @wpS noExc (m s (S.set n (.fdc kvs))) (onUnl n kvs P)) : wpS (sLock me m s S) P := by
  obtain ⟨a, S0, e, rfl⟩ := wpR_ex h1
  exact wp_lock e h2 h
theorem wp_lockFW {me : EV} {m : SV} {kvs : List (W × W)} {P : RS → Prop} (h1 : @wpR _ noExc (me s S) fun w _ => w = .loc n) (h2 : S[n]? = some (.fdc kvs)) (h : wpS (m s S) P) : wpS (sLock me m s S) P := by
  obtain ⟨a, S0, e, rfl⟩ := wpR_ex h1
  exact wp_lockF e h2 h
/-- an early return: what is known where it does not come -/
theorem wp_cutIf {c : BV} {m k : SV} {P : RS → Prop} (J : Sto → Prop) (hc : wpR (c s S) fun b S1 => if b = true then wpS (m s S1) (Kn k P) else J S1) (hr : ∀ S1, J S1 → wpS (k s S1) P) : wpS (sSeq (sIf c m sNil) k s S) P := by
  rw [wpS_seq, wpS_if]
  refine wpR_mono hc fun b S1 h => ?_
  by_cases e : b = true
  · rw [if_pos e] at h ⊢; exact h
  · rw [if_neg e] at h ⊢
    rw [wpS_nil, Kn_nx]; exact hr S1 h
/-- a statement cut off -/
theorem wp_cut {m k : SV} {P : RS → Prop} (J : RS → Prop) (hc : wpS (m s S) J) (hr : ∀ r, J r → Kn k P r) : wpS (sSeq m k s S) P := by
  rw [wpS_seq]; exact wpS_mono hc hr
end
end Ev

set_option Elab.async false
set_option linter.all false
set_option maxRecDepth 100000
/-! Ev25: code that is not come to; tuples with their plain objects. -/
namespace Ev
open PySem L2
section
variable {X : Cx} {Z : WX}
def sNo : SV := fun _ _ => .no
theorem s_no {st : Stmt} : PS X st (tS X Z sNo) := ⟨fun pins σ s H D I q => by
  obtain ⟨f, s', S, hE, hS, hp⟩ := q
  exact hp.elim⟩
end
section
variable {EE : Exc} {S : Sto} {n i : Nat} {ws us : List W} {x y w : W} {Q : W → Sto → Prop} {hQ : Ph Q} {a b : EV} {s : En}
theorem isi_p {c : String} {b : Bool} (h : kitB "tuple" c = some b) : isiW [.ptp ws, .ty c] S = .ok (.bl b) S := by unfold isiW; dsimp only [tyO]; rw [h]
theorem isi_pb : isiW [.ptp ws, .ty "bool"] S = .ok (.bl false) S := isi_p (by decide)
theorem isi_ps : isiW [.ptp ws, .ty "str"] S = .ok (.bl false) S := isi_p (by decide)
theorem isi_pi : isiW [.ptp ws, .ty "int"] S = .ok (.bl false) S := isi_p (by decide)
theorem isi_pt : isiW [.ptp ws, .ty "tuple"] S = .ok (.bl true) S := isi_p (by decide)
theorem isi_pl : isiW [.ptp ws, .ty "list"] S = .ok (.bl false) S := isi_p (by decide)
theorem isNon_p : isNon (.ptp ws) = false := rfl
end
end Ev

set_option Elab.async false
set_option linter.all false
set_option maxRecDepth 100000
/-! the result terms of the defs, printed by gen.py -/
namespace Lw
open PySem L2 Ev
inductive Fn where
  | f_parts | f_with_parts | f_places | f_part_at | f_law_cell | f_law_mixed | f_law_stream | f_law_take | f_law_words | f_law_small | f_law_pair | f_law_kinds | f_law_heads | f_law_plain | f_law_some | f_law_choose | f_law_ask | f_law_part | f_law_let | f_law_body | f_law_parts | f_law_size | f_law_book | f_law_same | f_law_places | f_law_exchanged | f_law_put | f_law_right | f_law
abbrev LV : Nat := 64
abbrev Orc := Fn → List W → Sto → R W
def m_f_parts (C : Orc) : SV :=
 (sSeq (sSet 1 (e2 ixW (eVar 0) (eC (.int 0))))
 (sSeq (sIf (bOr (bTest (e2 eqW (eVar 1) (eC (.str (Str.ofString "tag"))))) (bTest (e2 eqW (eVar 1) (eC (.str (Str.ofString "name"))))))
 (sRet (eL tupW aNil))
 sNil)
 (sSeq (sIf (bTest (e2 eqW (eVar 1) (eC (.str (Str.ofString "choose")))))
 (sRet (e2 addW (eL tupW (aCons (e2 ixW (eVar 0) (eC (.int 1))) aNil)) (eL tupleW (aCons (eLc (iSeq (e2 ixW (eVar 0) (eC (.int 2)))) (.tp [(.nm 2), (.nm 3)]) bYes (eVar 3) [2, 3]) aNil))))
 sNil)
 (sSeq (sIf (bTest (e2 eqW (eVar 1) (eC (.str (Str.ofString "ask")))))
 (sRet (eL tupleW (aCons (e2 ixW (eVar 0) (eC (.int 2))) aNil)))
 sNil)
 (sSeq (sIf (bTest (e2 eqW (eVar 1) (eC (.str (Str.ofString "let")))))
 (sRet (eSl slW (eVar 0) (oSome (eC (.int 3))) oNone))
 sNil)
 (sRet (eSl slW (eVar 0) (oSome (eC (.int 1))) oNone)))))))
def m_f_with_parts (C : Orc) : SV :=
 (sSeq (sSet 2 (e2 ixW (eVar 0) (eC (.int 0))))
 (sSeq (sIf (bOr (bTest (e2 eqW (eVar 2) (eC (.str (Str.ofString "tag"))))) (bTest (e2 eqW (eVar 2) (eC (.str (Str.ofString "name"))))))
 (sRet (eVar 0))
 sNil)
 (sSeq (sIf (bTest (e2 eqW (eVar 2) (eC (.str (Str.ofString "choose")))))
 (sSeq (sSet 3 (eLc (iZip2 (e2 ixW (eVar 0) (eC (.int 2))) (eSl slW (eVar 1) (oSome (eC (.int 1))) oNone)) (.tp [(.nm 4), (.nm 5)]) bYes (eL tupW (aCons (e2 ixW (eVar 4) (eC (.int 0))) (aCons (eVar 5) aNil))) [4, 5]))
 (sRet (eL tupW (aCons (eVar 2) (aCons (e2 ixW (eVar 1) (eC (.int 0))) (aCons (eL tupleW (aCons (eVar 3) aNil)) aNil))))))
 sNil)
 (sSeq (sIf (bTest (e2 eqW (eVar 2) (eC (.str (Str.ofString "ask")))))
 (sRet (eL tupW (aCons (eVar 2) (aCons (e2 ixW (eVar 0) (eC (.int 1))) (aCons (eL tupleW (aCons (eVar 1) aNil)) aNil)))))
 sNil)
 (sSeq (sIf (bTest (e2 eqW (eVar 2) (eC (.str (Str.ofString "let")))))
 (sRet (e2 addW (eSl slW (eVar 0) oNone (oSome (eC (.int 3)))) (eL tupleW (aCons (eVar 1) aNil))))
 sNil)
 (sRet (e2 addW (eL tupW (aCons (eVar 2) aNil)) (eL tupleW (aCons (eVar 1) aNil)))))))))
def m_f_places (C : Orc) : SV :=
 (sSeq (sSet 1 (eL lstW (aCons (eL tupW aNil) aNil)))
 (sSeq (sFor (iEn (eL (C .f_parts) (aCons (eVar 0) aNil))) (.tp [(.nm 2), (.nm 3)])
 (sExpr (eM "list" extendW (eVar 1) (aCons (eLc (iSeq (eL (C .f_places) (aCons (eVar 3) aNil))) (.nm 4) bYes (e2 addW (eL tupW (aCons (eVar 2) aNil)) (eVar 4)) [4]) aNil))))
 (sRet (eVar 1))))
def m_f_part_at (C : Orc) : SV :=
 (sSeq (sFor (iSeq (eVar 1)) (.nm 2)
 (sSet 0 (e2 ixW (eL (C .f_parts) (aCons (eVar 0) aNil)) (eVar 2))))
 (sRet (eVar 0)))
def m_f_law_cell (C : Orc) : SV :=
 (sSeq (sIf (bTest (e2 ltW (eVar 1) (eL lenW (aCons (eVar 0) aNil))))
 (sRet (e2 ixW (eVar 0) (eVar 1)))
 sNil)
 (sRet (eC (.int 0))))
def m_f_law_mixed (C : Orc) : SV :=
 (sSeq (sSet 2 (e2 modW (e2 addW (e2 addW (e2 mulW (e2 modW (eVar 0) (eC (.int 2147483647))) (eC (.int 48271))) (e2 mulW (eC (.int 69621)) (eVar 1))) (eC (.int 7919))) (eC (.int 2147483629))))
 (sSeq (sSet 2 (e2 modW (e2 addW (e2 addW (e2 mulW (eVar 2) (eVar 2)) (e2 mulW (eC (.int 31)) (eVar 1))) (eC (.int 5))) (eC (.int 2147483587))))
 (sRet (e2 modW (e2 mulW (eVar 2) (e2 addW (eVar 2) (eC (.int 69621)))) (eC (.int 2147483563))))))
def m_f_law_stream (C : Orc) : SV :=
 (sRet (eL lstW (aCons (eVar 0) (aCons (vOr (e2 geW (eVar 0) (e2 powW (eC (.int 10)) (eC (.int 18)))) (e2 leW (eVar 0) (e1 negW (e2 powW (eC (.int 10)) (eC (.int 18)))))) (aCons (eC (.int 0)) (aCons (e2 modW (eVar 0) (eC (.int 2147483647))) aNil))))))
def m_f_law_take (C : Orc) : SV :=
 (sSeq (sIf (bTru (e2 ixW (eVar 0) (eC (.int 1))))
 (sSeq (sSet 2 (e2 modW (e2 ixW (eVar 0) (eC (.int 0))) (eVar 1)))
 (sSeq (sPut (e2 fdivW (e2 ixW (eVar 0) (eC (.int 0))) (eVar 1)) (eVar 0) (eC (.int 0)))
 (sSeq (sPut (vAnd (e2 neW (e2 ixW (eVar 0) (eC (.int 0))) (eC (.int 0))) (e2 neW (e2 ixW (eVar 0) (eC (.int 0))) (e1 negW (eC (.int 1))))) (eVar 0) (eC (.int 1)))
 (sRet (eVar 2)))))
 sNil)
 (sSeq (sPut (e2 addW (e2 ixW (eVar 0) (eC (.int 2))) (eC (.int 1))) (eVar 0) (eC (.int 2)))
 (sRet (e2 modW (e2 fdivW (eL (C .f_law_mixed) (aCons (e2 ixW (eVar 0) (eC (.int 3))) (aCons (e2 ixW (eVar 0) (eC (.int 2))) aNil))) (eC (.int 7))) (eVar 1)))))
def m_f_law_words (C : Orc) : SV :=
 (sSeq (sSet 4 (eM "str" joinW (eC (.str (Str.ofString ""))) (aCons (eLc (iRng1 (eC (.int 8))) (.nm 8) bYes (e2 ixW (eVar 2) (eL (C .f_law_take) (aCons (eVar 0) (aCons (eC (.int 26)) aNil)))) [8]) aNil)))
 (sSeq (sSet 5 (eL (C .f_law_take) (aCons (eVar 0) (aCons (eC (.int 8)) aNil))))
 (sSeq (sSet 6 (eL (C .f_law_take) (aCons (eVar 0) (aCons (eVar 3) aNil))))
 (sSeq (sSet 7 (eL lstW aNil))
 (sSeq (sFor (iRng1 (eVar 1)) (.nm 8)
 (sSeq (sSet 9 (e2 ixW (eVar 2) (e2 modW (e2 addW (eM "str" sindexW (eVar 2) (aCons (e2 ixW (eVar 4) (eVar 5)) aNil)) (e2 mulW (eC (.int 5)) (eVar 8))) (eC (.int 26)))))
 (sSeq (sSet 10 (eL lstW (aCons (e2 addW (e2 addW (eSl slW (eVar 4) oNone (oSome (eVar 5))) (eVar 9)) (eSl slW (eVar 4) (oSome (e2 addW (eVar 5) (eC (.int 1)))) oNone)) (aCons (e2 addW (eVar 9) (eSl slW (eVar 4) oNone (oSome (e2 modW (e2 addW (e2 mulW (eC (.int 3)) (eVar 8)) (eVar 5)) (eC (.int 8)))))) (aCons (eSl slW (eVar 4) oNone (oSome (e2 addW (e2 modW (eVar 8) (eC (.int 8))) (eC (.int 1))))) (aCons (eSl slW (eVar 4) oNone (oSome (e2 subW (eC (.int 8)) (e2 modW (eVar 8) (eC (.int 8)))))) aNil))))))
 (sExpr (eM "list" appendW (eVar 7) (aCons (e2 ixW (eVar 10) (eVar 6)) aNil))))))
 (sRet (eVar 7)))))))
def m_f_law_small (C : Orc) : SV :=
 (sRet (eL (C .f_law_words) (aCons (eVar 0) (aCons (eVar 1) (aCons (eC (.str (Str.ofString "abcdefghijklmnopqrstuvwxyz"))) (aCons (eC (.int 4)) aNil))))))
def m_f_law_pair (C : Orc) : SV :=
 (sSeq (sSet 6 (e2 ixW (eVar 1) (eL (C .f_law_take) (aCons (eVar 0) (aCons (eL lenW (aCons (eVar 1) aNil)) aNil)))))
 (sSeq (sSet 7 (e2 ixW (eVar 1) (eL (C .f_law_take) (aCons (eVar 0) (aCons (eL lenW (aCons (eVar 1) aNil)) aNil)))))
 (sSeq (sSet 8 (e2 addW (eC (.int 1)) (eL max2W (aCons (e2 ixW (eVar 3) (eVar 6)) (aCons (e2 ixW (eVar 3) (eVar 7)) aNil)))))
 (sSeq (sIf (bOr (bTest (e2 gtW (eVar 8) (eC (.int 2)))) (bOr (bTest (e2 gtW (e2 addW (eC (.int 1)) (e2 mulW (e2 ixW (eVar 2) (eVar 6)) (e2 ixW (eVar 2) (eVar 7)))) (eVar 5))) (bTest (e2 inW (eL tupW (aCons (eC (.str (Str.ofString "pair"))) (aCons (eVar 6) (aCons (eVar 7) aNil)))) (eVar 4)))))
 (sRet (eC .non))
 sNil)
 (sRet (eL tupW (aCons (eC (.str (Str.ofString "pair"))) (aCons (eVar 6) (aCons (eVar 7) aNil)))))))))
def m_f_law_kinds (C : Orc) : SV :=
 (sSeq (sSet 3 (eL (C .f_law_small) (aCons (eVar 0) (aCons (e2 addW (eC (.int 1)) (eL (C .f_law_take) (aCons (eVar 0) (aCons (eVar 1) aNil)))) aNil))))
 (sSeq (sSet 4 (eL (C .f_law_words) (aCons (eVar 0) (aCons (e2 mulW (eC (.int 4)) (eL lenW (aCons (eVar 3) aNil))) (aCons (eC (.str (Str.ofString "ABCDEFGHIJKLMNOPQRSTUVWXYZ"))) (aCons (eC (.int 2)) aNil))))))
 (sSeq (sSet 5 dnewW)
 (sSeq (sSet 6 dnewW)
 (sSeq (sSet 7 (eL lstW aNil))
 (sSeq (sFor (iRng1 (eL lenW (aCons (eVar 3) aNil))) (.nm 8)
 (sSeq (sSet 9 (eC .non))
 (sSeq (sIf (bAnd (bTest (e2 gtW (eVar 8) (eC (.int 0)))) (bTest (e2 eqW (eL (C .f_law_take) (aCons (eVar 0) (aCons (eC (.int 2)) aNil))) (eC (.int 0)))))
 (sSet 9 (eL (C .f_law_pair) (aCons (eVar 0) (aCons (eSl slW (eVar 3) oNone (oSome (eVar 8))) (aCons (eVar 5) (aCons (eVar 6) (aCons (eLc (iSeq (eVar 7)) (.nm 10) bYes (e2 ixW (eVar 10) (eC (.int 1))) [10]) (aCons (eVar 2) aNil))))))))
 sNil)
 (sSeq (sIf (bTest (e2 isW (eVar 9) (eC .non)))
 (sSeq (sSet 9 (eL tupW (aCons (eC (.str (Str.ofString "tags"))) (aCons (eL tupleW (aCons (eSl slW (eVar 4) (oSome (e2 mulW (eC (.int 4)) (eVar 8))) (oSome (e2 addW (e2 addW (e2 mulW (eC (.int 4)) (eVar 8)) (eC (.int 1))) (eL (C .f_law_take) (aCons (eVar 0) (aCons (eC (.int 4)) aNil)))))) aNil)) aNil))))
 (sSeq (sPut (e2 addW (eC (.int 1)) (eL lenW (aCons (e2 ixW (eVar 9) (eC (.int 1))) aNil))) (eVar 5) (e2 ixW (eVar 3) (eVar 8)))
 (sPut (eC (.int 0)) (eVar 6) (e2 ixW (eVar 3) (eVar 8)))))
 (sSeq (sPut (e2 addW (eC (.int 1)) (e2 mulW (e2 ixW (eVar 5) (e2 ixW (eVar 9) (eC (.int 1)))) (e2 ixW (eVar 5) (e2 ixW (eVar 9) (eC (.int 2)))))) (eVar 5) (e2 ixW (eVar 3) (eVar 8)))
 (sPut (e2 addW (eC (.int 1)) (eL max2W (aCons (e2 ixW (eVar 6) (e2 ixW (eVar 9) (eC (.int 1)))) (aCons (e2 ixW (eVar 6) (e2 ixW (eVar 9) (eC (.int 2)))) aNil)))) (eVar 6) (e2 ixW (eVar 3) (eVar 8)))))
 (sExpr (eM "list" appendW (eVar 7) (aCons (eL tupW (aCons (e2 ixW (eVar 3) (eVar 8)) (aCons (eVar 9) aNil))) aNil)))))))
 (sRet (eL tupW (aCons (eVar 7) (aCons (eVar 5) aNil))))))))))
def m_f_law_heads (C : Orc) : SV :=
 (sSeq (sSet 5 (eL (C .f_law_small) (aCons (eVar 0) (aCons (e2 addW (eC (.int 1)) (eL (C .f_law_take) (aCons (eVar 0) (aCons (eVar 3) aNil)))) aNil))))
 (sSeq (sSet 6 dnewW)
 (sSeq (sFor (iSeq (eVar 5)) (.nm 7)
 (sSeq (sSet 8 (eL (C .f_law_small) (aCons (eVar 0) (aCons (eC (.int 3)) aNil))))
 (sSeq (sSet 9 (eC (.int 1)))
 (sSeq (sSet 10 (eL lstW aNil))
 (sSeq (sFor (iRng1 (e2 ixW (eL lstW (aCons (eC (.int 0)) (aCons (eC (.int 1)) (aCons (eC (.int 1)) (aCons (eC (.int 2)) (aCons (eC (.int 2)) (aCons (eC (.int 3)) aNil))))))) (eL (C .f_law_take) (aCons (eVar 0) (aCons (eC (.int 6)) aNil))))) (.nm 11)
 (sSeq (sSet 12 (e2 ixW (e2 ixW (eVar 1) (eL (C .f_law_take) (aCons (eVar 0) (aCons (eL lenW (aCons (eVar 1) aNil)) aNil)))) (eC (.int 0))))
 (sIf (bTest (e2 leW (e2 mulW (eVar 9) (e2 ixW (eVar 2) (eVar 12))) (eVar 4)))
 (sSeq (sSet 9 (e2 mulW (eVar 9) (e2 ixW (eVar 2) (eVar 12))))
 (sExpr (eM "list" appendW (eVar 10) (aCons (eL tupW (aCons (e2 ixW (eVar 8) (eVar 11)) (aCons (eVar 12) aNil))) aNil))))
 sNil)))
 (sPut (eL tupW (aCons (eL tuplePW (aCons (eVar 10) aNil)) (aCons (e2 ixW (e2 ixW (eVar 1) (eL (C .f_law_take) (aCons (eVar 0) (aCons (eL lenW (aCons (eVar 1) aNil)) aNil)))) (eC (.int 0))) aNil))) (eVar 6) (eVar 7)))))))
 (sRet (eVar 6)))))
def m_f_law_plain (C : Orc) : SV :=
 (sSeq (sLock (eVar 2) (sSet 4 (eLc (iKey (eVar 2)) (.nm 7) (bTest (e2 eqW (e2 ixW (eVar 2) (eVar 7)) (eVar 3))) (eVar 7) [7])))
 (sSeq (sIf (bAnd (bTest (e2 neW (eVar 4) (eL lstW aNil))) (bTest (e2 gtW (eL (C .f_law_take) (aCons (eVar 0) (aCons (eC (.int 3)) aNil))) (eC (.int 0)))))
 (sRet (eL tupW (aCons (eC (.str (Str.ofString "name"))) (aCons (e2 ixW (eVar 4) (eL (C .f_law_take) (aCons (eVar 0) (aCons (eL lenW (aCons (eVar 4) aNil)) aNil)))) aNil))))
 sNil)
 (sSeq (sSet 5 (e2 ixW (e2 ixW (eVar 1) (eC (.str (Str.ofString "shapes")))) (eVar 3)))
 (sSeq (sIf (bTest (e2 eqW (e2 ixW (eVar 5) (eC (.int 0))) (eC (.str (Str.ofString "tags")))))
 (sRet (eL tupW (aCons (eC (.str (Str.ofString "tag"))) (aCons (e2 ixW (e2 ixW (eVar 5) (eC (.int 1))) (eL (C .f_law_take) (aCons (eVar 0) (aCons (eL lenW (aCons (e2 ixW (eVar 5) (eC (.int 1))) aNil)) aNil)))) aNil))))
 sNil)
 (sSeq (sSet 6 (eL (C .f_law_plain) (aCons (eVar 0) (aCons (eVar 1) (aCons (eVar 2) (aCons (e2 ixW (eVar 5) (eC (.int 1))) aNil))))))
 (sRet (eL tupW (aCons (eC (.str (Str.ofString "pair"))) (aCons (eVar 6) (aCons (eL (C .f_law_plain) (aCons (eVar 0) (aCons (eVar 1) (aCons (eVar 2) (aCons (e2 ixW (eVar 5) (eC (.int 2))) aNil))))) aNil))))))))))
def m_f_law_some (C : Orc) : SV :=
 (sSeq (sIf (bTest (e2 gtW (eL (C .f_law_take) (aCons (eVar 0) (aCons (eC (.int 3)) aNil))) (eC (.int 0))))
 (sRet (eL (C .f_law_plain) (aCons (eVar 0) (aCons (eVar 1) (aCons (eVar 2) (aCons (eVar 3) aNil))))))
 sNil)
 (sRet (eL (C .f_law_body) (aCons (eVar 0) (aCons (eVar 1) (aCons (eVar 2) (aCons (eVar 3) (aCons (eVar 4) aNil))))))))
def m_f_law_choose (C : Orc) : SV :=
 (sSeq (sLock (e2 ixW (eVar 1) (eC (.str (Str.ofString "shapes")))) (sSet 5 (eLc (iKey (e2 ixW (eVar 1) (eC (.str (Str.ofString "shapes"))))) (.nm 10) (bTest (e2 eqW (e2 ixW (e2 ixW (e2 ixW (eVar 1) (eC (.str (Str.ofString "shapes")))) (eVar 10)) (eC (.int 0))) (eC (.str (Str.ofString "tags"))))) (eVar 10) [10])))
 (sSeq (sSet 6 (e2 ixW (eVar 5) (eL (C .f_law_take) (aCons (eVar 0) (aCons (eL lenW (aCons (eVar 5) aNil)) aNil)))))
 (sSeq (sSet 7 (eL (C .f_law_some) (aCons (eVar 0) (aCons (eVar 1) (aCons (eVar 2) (aCons (eVar 6) (aCons (e2 subW (eVar 4) (eC (.int 1))) aNil)))))))
 (sSeq (sSet 8 (eL lstW aNil))
 (sSeq (sFor (iSeq (e2 ixW (e2 ixW (e2 ixW (eVar 1) (eC (.str (Str.ofString "shapes")))) (eVar 6)) (eC (.int 1)))) (.nm 9)
 (sExpr (eM "list" appendW (eVar 8) (aCons (eL tupW (aCons (eVar 9) (aCons (eL (C .f_law_body) (aCons (eVar 0) (aCons (eVar 1) (aCons (eVar 2) (aCons (eVar 3) (aCons (e2 subW (eVar 4) (eC (.int 1))) aNil)))))) aNil))) aNil))))
 (sRet (eL tupW (aCons (eC (.str (Str.ofString "choose"))) (aCons (eVar 7) (aCons (eL tupleW (aCons (eVar 8) aNil)) aNil))))))))))
def m_f_law_ask (C : Orc) : SV :=
 (sSeq (sLock (e2 ixW (eVar 1) (eC (.str (Str.ofString "heads")))) (sSet 5 (eLc (iKey (e2 ixW (eVar 1) (eC (.str (Str.ofString "heads"))))) (.nm 6) (bTest (e2 eqW (e2 ixW (e2 ixW (e2 ixW (eVar 1) (eC (.str (Str.ofString "heads")))) (eVar 6)) (eC (.int 1))) (eVar 3))) (eVar 6) [6])))
 (sSeq (sIf (bTest (e2 eqW (eVar 5) (eL lstW aNil)))
 (sRet (eL (C .f_law_plain) (aCons (eVar 0) (aCons (eVar 1) (aCons (eVar 2) (aCons (eVar 3) aNil))))))
 sNil)
 (sSeq (sSet 6 (e2 ixW (eVar 5) (eL (C .f_law_take) (aCons (eVar 0) (aCons (eL lenW (aCons (eVar 5) aNil)) aNil)))))
 (sSeq (sSet 7 (eL lstW aNil))
 (sSeq (sFor (iSeq (e2 ixW (e2 ixW (e2 ixW (eVar 1) (eC (.str (Str.ofString "heads")))) (eVar 6)) (eC (.int 0)))) (.tp [(.nm 8), (.nm 9)])
 (sExpr (eM "list" appendW (eVar 7) (aCons (eL (C .f_law_some) (aCons (eVar 0) (aCons (eVar 1) (aCons (eVar 2) (aCons (eVar 9) (aCons (e2 subW (eVar 4) (eC (.int 1))) aNil)))))) aNil))))
 (sRet (eL tupW (aCons (eC (.str (Str.ofString "ask"))) (aCons (eVar 6) (aCons (eL tupleW (aCons (eVar 7) aNil)) aNil))))))))))
def m_f_law_part (C : Orc) : SV :=
 (sSeq (sSet 5 (eL lstW aNil))
 (sSeq (sLock (e2 ixW (eVar 1) (eC (.str (Str.ofString "shapes")))) (sFor (iKey (e2 ixW (eVar 1) (eC (.str (Str.ofString "shapes"))))) (.nm 6)
 (sSeq (sSet 7 (e2 ixW (e2 ixW (eVar 1) (eC (.str (Str.ofString "shapes")))) (eVar 6)))
 (sSeq (sIf (bAnd (bTest (e2 eqW (e2 ixW (eVar 7) (eC (.int 0))) (eC (.str (Str.ofString "pair"))))) (bTest (e2 eqW (e2 ixW (eVar 7) (eC (.int 1))) (eVar 3))))
 (sExpr (eM "list" appendW (eVar 5) (aCons (eL tupW (aCons (eC (.str (Str.ofString "one"))) (aCons (eVar 6) aNil))) aNil)))
 sNil)
 (sIf (bAnd (bTest (e2 eqW (e2 ixW (eVar 7) (eC (.int 0))) (eC (.str (Str.ofString "pair"))))) (bTest (e2 eqW (e2 ixW (eVar 7) (eC (.int 2))) (eVar 3))))
 (sExpr (eM "list" appendW (eVar 5) (aCons (eL tupW (aCons (eC (.str (Str.ofString "other"))) (aCons (eVar 6) aNil))) aNil)))
 sNil)))))
 (sSeq (sIf (bTest (e2 eqW (eVar 5) (eL lstW aNil)))
 (sRet (eL (C .f_law_choose) (aCons (eVar 0) (aCons (eVar 1) (aCons (eVar 2) (aCons (eVar 3) (aCons (eVar 4) aNil)))))))
 sNil)
 (sSeq (sAsg (.tp [(.nm 8), (.nm 9)]) (e2 ixW (eVar 5) (eL (C .f_law_take) (aCons (eVar 0) (aCons (eL lenW (aCons (eVar 5) aNil)) aNil)))))
 (sRet (eL tupW (aCons (eVar 8) (aCons (eL (C .f_law_body) (aCons (eVar 0) (aCons (eVar 1) (aCons (eVar 2) (aCons (eVar 9) (aCons (e2 subW (eVar 4) (eC (.int 1))) aNil)))))) aNil))))))))
def m_f_law_let (C : Orc) : SV :=
 (sSeq (sSet 5 (eLc (iSeq (e2 ixW (eVar 1) (eC (.str (Str.ofString "lets"))))) (.nm 11) (bTest (e2 ninW (eVar 11) (eVar 2))) (eVar 11) [11]))
 (sSeq (sIf (bTest (e2 eqW (eVar 5) (eL lstW aNil)))
 (sRet (eL (C .f_law_choose) (aCons (eVar 0) (aCons (eVar 1) (aCons (eVar 2) (aCons (eVar 3) (aCons (eVar 4) aNil)))))))
 sNil)
 (sSeq (sSet 6 (e2 ixW (eVar 5) (eL (C .f_law_take) (aCons (eVar 0) (aCons (eL lenW (aCons (eVar 5) aNil)) aNil)))))
 (sSeq (sSet 7 (eL listW (aCons (e2 ixW (eVar 1) (eC (.str (Str.ofString "lets")))) aNil)))
 (sSeq (sExpr (eM "list" removeW (eVar 7) (aCons (eVar 6) aNil)))
 (sSeq (sPut (eVar 7) (eVar 1) (eC (.str (Str.ofString "lets"))))
 (sSeq (sSet 8 (e2 ixW (eL listW (aCons (e2 ixW (eVar 1) (eC (.str (Str.ofString "shapes")))) aNil)) (eL (C .f_law_take) (aCons (eVar 0) (aCons (eL lenW (aCons (e2 ixW (eVar 1) (eC (.str (Str.ofString "shapes")))) aNil)) aNil)))))
 (sSeq (sSet 9 (eL dictW (aCons (eVar 2) aNil)))
 (sSeq (sPut (eVar 8) (eVar 9) (eVar 6))
 (sSeq (sSet 10 (eL (C .f_law_body) (aCons (eVar 0) (aCons (eVar 1) (aCons (eVar 9) (aCons (eVar 8) (aCons (e2 subW (eVar 4) (eC (.int 1))) aNil)))))))
 (sRet (eL tupW (aCons (eC (.str (Str.ofString "let"))) (aCons (eVar 6) (aCons (eVar 8) (aCons (eVar 10) (aCons (eL (C .f_law_body) (aCons (eVar 0) (aCons (eVar 1) (aCons (eVar 9) (aCons (eVar 3) (aCons (e2 subW (eVar 4) (eC (.int 1))) aNil)))))) aNil)))))))))))))))))
def m_f_law_body (C : Orc) : SV :=
 (sSeq (sPut (e2 subW (e2 ixW (eVar 1) (eC (.str (Str.ofString "left")))) (eC (.int 1))) (eVar 1) (eC (.str (Str.ofString "left"))))
 (sSeq (sIf (bOr (bTest (e2 eqW (eVar 4) (eC (.int 0)))) (bTest (e2 ltW (e2 ixW (eVar 1) (eC (.str (Str.ofString "left")))) (eC (.int 0)))))
 (sRet (eL (C .f_law_plain) (aCons (eVar 0) (aCons (eVar 1) (aCons (eVar 2) (aCons (eVar 3) aNil))))))
 sNil)
 (sSeq (sSet 5 (eL (C .f_law_take) (aCons (eVar 0) (aCons (eC (.int 12)) aNil))))
 (sSeq (sIf (bTest (e2 eqW (eVar 5) (eC (.int 0))))
 (sRet (eL (C .f_law_plain) (aCons (eVar 0) (aCons (eVar 1) (aCons (eVar 2) (aCons (eVar 3) aNil))))))
 sNil)
 (sSeq (sIf (bTest (e2 ltW (eVar 5) (eC (.int 6))))
 (sRet (eL (C .f_law_choose) (aCons (eVar 0) (aCons (eVar 1) (aCons (eVar 2) (aCons (eVar 3) (aCons (eVar 4) aNil)))))))
 sNil)
 (sSeq (sIf (bTest (e2 ltW (eVar 5) (eC (.int 8))))
 (sRet (eL (C .f_law_part) (aCons (eVar 0) (aCons (eVar 1) (aCons (eVar 2) (aCons (eVar 3) (aCons (eVar 4) aNil)))))))
 sNil)
 (sSeq (sIf (bTest (e2 eqW (eVar 5) (eC (.int 8))))
 (sRet (eL (C .f_law_let) (aCons (eVar 0) (aCons (eVar 1) (aCons (eVar 2) (aCons (eVar 3) (aCons (eVar 4) aNil)))))))
 sNil)
 (sSeq (sSet 6 (e2 ixW (e2 ixW (eVar 1) (eC (.str (Str.ofString "shapes")))) (eVar 3)))
 (sSeq (sIf (bAnd (bTest (e2 eqW (e2 ixW (eVar 6) (eC (.int 0))) (eC (.str (Str.ofString "pair"))))) (bTest (e2 eqW (eVar 5) (eC (.int 9)))))
 (sSeq (sSet 7 (eL (C .f_law_body) (aCons (eVar 0) (aCons (eVar 1) (aCons (eVar 2) (aCons (e2 ixW (eVar 6) (eC (.int 1))) (aCons (e2 subW (eVar 4) (eC (.int 1))) aNil)))))))
 (sRet (eL tupW (aCons (eC (.str (Str.ofString "pair"))) (aCons (eVar 7) (aCons (eL (C .f_law_body) (aCons (eVar 0) (aCons (eVar 1) (aCons (eVar 2) (aCons (e2 ixW (eVar 6) (eC (.int 2))) (aCons (e2 subW (eVar 4) (eC (.int 1))) aNil)))))) aNil))))))
 sNil)
 (sRet (eL (C .f_law_ask) (aCons (eVar 0) (aCons (eVar 1) (aCons (eVar 2) (aCons (eVar 3) (aCons (eVar 4) aNil))))))))))))))))
def m_f_law_parts (C : Orc) : SV :=
 (sSeq (sIf (bTest (e2 eqW (e2 ixW (eVar 0) (eC (.int 0))) (eC (.str (Str.ofString "choose")))))
 (sRet (e2 addW (eL lstW (aCons (e2 ixW (eVar 0) (eC (.int 1))) aNil)) (eLc (iSeq (e2 ixW (eVar 0) (eC (.int 2)))) (.nm 1) bYes (e2 ixW (eVar 1) (eC (.int 1))) [1])))
 sNil)
 (sSeq (sIf (bTest (e2 eqW (e2 ixW (eVar 0) (eC (.int 0))) (eC (.str (Str.ofString "ask")))))
 (sRet (eL listW (aCons (e2 ixW (eVar 0) (eC (.int 2))) aNil)))
 sNil)
 (sRet (eLc (iSeq (eSl slW (eVar 0) (oSome (eC (.int 1))) oNone)) (.nm 2) (bTru (eL isiW (aCons (eVar 2) (aCons (eC (.ty "tuple")) aNil)))) (eVar 2) [2]))))
def m_f_law_size (C : Orc) : SV :=
 (sRet (e2 addW (eC (.int 1)) (eL sumW (aCons (eLc (iSeq (eL (C .f_law_parts) (aCons (eVar 0) aNil))) (.nm 1) bYes (eL (C .f_law_size) (aCons (eVar 1) aNil)) [1]) aNil))))
def m_f_law_book (C : Orc) : SV :=
 (sSeq (sSet 5 (eL (C .f_law_stream) (aCons (eVar 0) aNil)))
 (sSeq (sAsg (.tp [(.nm 6), (.nm 7)]) (eL (C .f_law_kinds) (aCons (eVar 5) (aCons (eVar 1) (aCons (eL min2W (aCons (eVar 3) (aCons (eC (.int 30)) aNil))) aNil)))))
 (sSeq (sSet 8 (eL (C .f_law_heads) (aCons (eVar 5) (aCons (eVar 6) (aCons (eVar 7) (aCons (eVar 2) (aCons (eVar 3) aNil)))))))
 (sSeq (sSet 9 (eL (C .f_law_small) (aCons (eVar 5) (aCons (eC (.int 3)) aNil))))
 (sSeq (sPut (e2 ixW (eVar 9) (e2 ixW (eL lstW (aCons (eC (.int 0)) (aCons (eC (.int 2)) aNil))) (eL (C .f_law_take) (aCons (eVar 5) (aCons (eC (.int 2)) aNil))))) (eVar 9) (eC (.int 2)))
 (sSeq (sSet 10 (eL lstW aNil))
 (sSeq (sLock (eVar 8) (sFor (iKey (eVar 8)) (.nm 11)
 (sSeq (sSet 12 (eL dict2W (aCons (e2 ixW (e2 ixW (eVar 8) (eVar 11)) (eC (.int 0))) aNil)))
 (sSeq (sSet 13 (dispW [(Str.ofString "shapes", (eL dictW (aCons (eVar 6) aNil))), (Str.ofString "heads", (eVar 8)), (Str.ofString "lets", (eVar 9)), (Str.ofString "left", (eVar 4))]))
 (sSeq (sSet 14 (eL (C .f_law_body) (aCons (eVar 5) (aCons (eVar 13) (aCons (eVar 12) (aCons (e2 ixW (e2 ixW (eVar 8) (eVar 11)) (eC (.int 1))) (aCons (eC (.int 9)) aNil)))))))
 (sSeq (sIf (bTest (e2 gtW (eL (C .f_law_size) (aCons (eVar 14) aNil)) (eC (.int 40))))
 (sSet 14 (eL (C .f_law_plain) (aCons (eVar 5) (aCons (eVar 13) (aCons (eVar 12) (aCons (e2 ixW (e2 ixW (eVar 8) (eVar 11)) (eC (.int 1))) aNil))))))
 sNil)
 (sExpr (eM "list" appendW (eVar 10) (aCons (eL tupW (aCons (eVar 11) (aCons (e2 ixW (e2 ixW (eVar 8) (eVar 11)) (eC (.int 0))) (aCons (e2 ixW (e2 ixW (eVar 8) (eVar 11)) (eC (.int 1))) (aCons (eVar 14) aNil))))) aNil)))))))))
 (sRet (eL tupW (aCons (eVar 6) (aCons (eVar 10) aNil)))))))))))
def m_f_law_same (C : Orc) : SV :=
 (sSeq (sIf (bTest (e2 isW (eVar 1) (eC .non)))
 (sRet (e2 isW (eVar 0) (eC .non)))
 sNil)
 (sSeq (sIf (bTru (eL isiW (aCons (eVar 1) (aCons (eC (.ty "bool")) aNil))))
 (sRet (vAnd (eL isiW (aCons (eVar 0) (aCons (eC (.ty "bool")) aNil))) (e2 eqW (eVar 0) (eVar 1))))
 sNil)
 (sSeq (sIf (bTru (eL isiW (aCons (eVar 1) (aCons (eC (.ty "str")) aNil))))
 (sRet (vAnd (eL isiW (aCons (eVar 0) (aCons (eC (.ty "str")) aNil))) (e2 eqW (eVar 0) (eVar 1))))
 sNil)
 (sSeq (sIf (bTru (eL isiW (aCons (eVar 1) (aCons (eC (.ty "int")) aNil))))
 (sRet (vAnd (eL isiW (aCons (eVar 0) (aCons (eC (.ty "int")) aNil))) (vAnd (vNot (eL isiW (aCons (eVar 0) (aCons (eC (.ty "bool")) aNil)))) (e2 eqW (eVar 0) (eVar 1)))))
 sNil)
 (sSeq (sIf (bOr (bAnd (bTru (eL isiW (aCons (eVar 1) (aCons (eC (.ty "tuple")) aNil)))) (bNot (bTru (eL isiW (aCons (eVar 0) (aCons (eC (.ty "tuple")) aNil)))))) (bAnd (bTru (eL isiW (aCons (eVar 1) (aCons (eC (.ty "list")) aNil)))) (bNot (bTru (eL isiW (aCons (eVar 0) (aCons (eC (.ty "list")) aNil)))))))
 (sRet (eC (.bl false)))
 sNil)
 (sSeq (sIf (bTest (e2 neW (eL lenW (aCons (eVar 0) aNil)) (eL lenW (aCons (eVar 1) aNil))))
 (sRet (eC (.bl false)))
 sNil)
 (sRet (eL allW (aCons (eLc (iZip (eVar 0) (eVar 1)) (.tp [(.nm 2), (.nm 3)]) bYes (eL (C .f_law_same) (aCons (eVar 2) (aCons (eVar 3) aNil))) [2, 3]) aNil)))))))))
def m_f_law_places (C : Orc) : SV :=
 (sSeq (sSet 1 (eL lstW (aCons (eL tupW aNil) aNil)))
 (sSeq (sFor (iEn (eL (C .f_law_parts) (aCons (eVar 0) aNil))) (.tp [(.nm 2), (.nm 3)])
 (sSet 1 (e2 addW (eVar 1) (eLc (iSeq (eL (C .f_law_places) (aCons (eVar 3) aNil))) (.nm 4) bYes (e2 addW (eL tupW (aCons (eVar 2) aNil)) (eVar 4)) [4]))))
 (sRet (eVar 1))))
def m_f_law_exchanged (C : Orc) : SV :=
 (sSeq (sIf (bTest (e2 eqW (eVar 1) (eL tupW aNil)))
 (sRet (eVar 2))
 sNil)
 (sSeq (sSet 3 (eL (C .f_law_parts) (aCons (eVar 0) aNil)))
 (sSeq (sPut (eL (C .f_law_exchanged) (aCons (e2 ixW (eVar 3) (e2 ixW (eVar 1) (eC (.int 0)))) (aCons (eSl slW (eVar 1) (oSome (eC (.int 1))) oNone) (aCons (eVar 2) aNil)))) (eVar 3) (e2 ixW (eVar 1) (eC (.int 0))))
 (sSeq (sIf (bTest (e2 eqW (e2 ixW (eVar 0) (eC (.int 0))) (eC (.str (Str.ofString "choose")))))
 (sRet (eL tupW (aCons (eC (.str (Str.ofString "choose"))) (aCons (e2 ixW (eVar 3) (eC (.int 0))) (aCons (eL tupleW (aCons (eLc (iZip2 (e2 ixW (eVar 0) (eC (.int 2))) (eSl slW (eVar 3) (oSome (eC (.int 1))) oNone)) (.tp [(.nm 4), (.nm 5)]) bYes (eL tupW (aCons (e2 ixW (eVar 4) (eC (.int 0))) (aCons (eVar 5) aNil))) [4, 5]) aNil)) aNil)))))
 sNil)
 (sSeq (sIf (bTest (e2 eqW (e2 ixW (eVar 0) (eC (.int 0))) (eC (.str (Str.ofString "ask")))))
 (sRet (eL tupW (aCons (eC (.str (Str.ofString "ask"))) (aCons (e2 ixW (eVar 0) (eC (.int 1))) (aCons (eL tupleW (aCons (eVar 3) aNil)) aNil)))))
 sNil)
 (sSeq (sIf (bTest (e2 eqW (e2 ixW (eVar 0) (eC (.int 0))) (eC (.str (Str.ofString "let")))))
 (sRet (eL tupW (aCons (eC (.str (Str.ofString "let"))) (aCons (e2 ixW (eVar 0) (eC (.int 1))) (aCons (e2 ixW (eVar 0) (eC (.int 2))) (aCons (e2 ixW (eVar 3) (eC (.int 0))) (aCons (e2 ixW (eVar 3) (eC (.int 1))) aNil)))))))
 sNil)
 (sRet (e2 addW (eL tupW (aCons (e2 ixW (eVar 0) (eC (.int 0))) aNil)) (eL tupleW (aCons (eVar 3) aNil))))))))))
def m_f_law_put (C : Orc) : SV :=
 (sSeq (sFor (iRng1 (eL lenW (aCons (eVar 1) aNil))) (.nm 3)
 (sSeq (sSet 4 (eSl slW (eVar 1) oNone (oSome (e2 subW (e2 subW (eL lenW (aCons (eVar 1) aNil)) (eC (.int 1))) (eVar 3)))))
 (sSeq (sSet 5 (eL (C .f_part_at) (aCons (eVar 0) (aCons (eVar 4) aNil))))
 (sSeq (sSet 6 (eL listW (aCons (eL (C .f_parts) (aCons (eVar 5) aNil)) aNil)))
 (sSeq (sPut (eVar 2) (eVar 6) (e2 ixW (eVar 1) (eL lenW (aCons (eVar 4) aNil))))
 (sSet 2 (eL (C .f_with_parts) (aCons (eVar 5) (aCons (eL tupleW (aCons (eVar 6) aNil)) aNil)))))))))
 (sRet (eVar 2)))
def m_f_law_right (C : Orc) : SV :=
 (sSeq (sSet 3 (eL (C .f_law_places) (aCons (eVar 0) aNil)))
 (sSeq (sSet 4 (eL (C .f_places) (aCons (eVar 0) aNil)))
 (sSeq (sIf (bOr (bNot (bTru (eL (C .f_law_same) (aCons (eVar 4) (aCons (eVar 3) aNil))))) (bOr (bTest (e2 neW (eVar 3) (eL sortedW (aCons (eVar 3) aNil)))) (bNot (bTru (eL (C .f_law_same) (aCons (eL (C .f_parts) (aCons (eVar 0) aNil)) (aCons (eL tupleW (aCons (eL (C .f_law_parts) (aCons (eVar 0) aNil)) aNil)) aNil)))))))
 (sRet (eC (.bl false)))
 sNil)
 (sSeq (sPut (eL tupW (aCons (eC (.int 9)) aNil)) (eVar 4) (eC (.int 0)))
 (sSeq (sFor (iSeq (eVar 3)) (.nm 5)
 (sSeq (sSet 6 (eVar 0))
 (sSeq (sFor (iSeq (eVar 5)) (.nm 7)
 (sSet 6 (e2 ixW (eL (C .f_law_parts) (aCons (eVar 6) aNil)) (eVar 7))))
 (sIf (bNot (bTru (eL (C .f_law_same) (aCons (eL (C .f_part_at) (aCons (eVar 0) (aCons (eVar 5) aNil))) (aCons (eVar 6) aNil)))))
 (sRet (eC (.bl false)))
 sNil))))
 (sSeq (sIf (bOr (bNot (bTru (eL (C .f_law_same) (aCons (eL (C .f_places) (aCons (eVar 0) aNil)) (aCons (eVar 3) aNil))))) (bNot (bTru (eL (C .f_law_same) (aCons (eL (C .f_with_parts) (aCons (eVar 0) (aCons (eL (C .f_parts) (aCons (eVar 0) aNil)) aNil))) (aCons (eVar 0) aNil))))))
 (sRet (eC (.bl false)))
 sNil)
 (sRet (eL (C .f_law_same) (aCons (eL (C .f_law_put) (aCons (eVar 0) (aCons (eVar 1) (aCons (eVar 2) aNil)))) (aCons (eL (C .f_law_exchanged) (aCons (eVar 0) (aCons (eVar 1) (aCons (eVar 2) aNil)))) aNil))))))))))
def m_f_law (C : Orc) : SV :=
 (sSeq (sFor (iRng1 (eL max2W (aCons (eC (.int 1)) (aCons (e2 fdivW (eL min2W (aCons (eL lenW (aCons (eVar 0) aNil)) (aCons (eC (.int 8)) aNil))) (eC (.int 2))) aNil)))) (.nm 1)
 (sSeq (sAsg (.tp [(.nm 2), (.nm 3)]) (eL (C .f_law_book) (aCons (eL (C .f_law_cell) (aCons (eVar 0) (aCons (e2 mulW (eC (.int 2)) (eVar 1)) aNil))) (aCons (eC (.int 4)) (aCons (eC (.int 4)) (aCons (eC (.int 40)) (aCons (eC (.int 12)) aNil)))))))
 (sSeq (sSet 4 (eL (C .f_law_stream) (aCons (eL (C .f_law_cell) (aCons (eVar 0) (aCons (e2 addW (e2 mulW (eC (.int 2)) (eVar 1)) (eC (.int 1))) aNil))) aNil)))
 (sFor (iSeq (eVar 3)) (.tp [(.nm 5), (.nm 6), (.nm 7), (.nm 8)])
 (sSeq (sSet 9 (eL (C .f_law_places) (aCons (eVar 8) aNil)))
 (sSeq (sSet 10 (e2 ixW (eVar 9) (eL (C .f_law_take) (aCons (eVar 4) (aCons (eL lenW (aCons (eVar 9) aNil)) aNil)))))
 (sSeq (sSet 11 (eL lstW (aCons (eL tupW (aCons (eC (.str (Str.ofString "tag"))) (aCons (eC (.str (Str.ofString "Q"))) aNil))) (aCons (eL tupW (aCons (eC (.str (Str.ofString "name"))) (aCons (eC (.str (Str.ofString "q"))) aNil))) (aCons (eL tupW (aCons (eC (.str (Str.ofString "one"))) (aCons (eL tupW (aCons (eC (.str (Str.ofString "name"))) (aCons (eC (.str (Str.ofString "q"))) aNil))) aNil))) (aCons (eL tupW (aCons (eC (.str (Str.ofString "pair"))) (aCons (eL tupW (aCons (eC (.str (Str.ofString "name"))) (aCons (eC (.str (Str.ofString "q"))) aNil))) (aCons (eL tupW (aCons (eC (.str (Str.ofString "tag"))) (aCons (eC (.str (Str.ofString "Q"))) aNil))) aNil)))) aNil))))))
 (sSeq (sSet 11 (e2 ixW (eVar 11) (eL (C .f_law_take) (aCons (eVar 4) (aCons (eC (.int 4)) aNil)))))
 (sSeq (sIf (bOr (bTest (e2 gtW (eL lenW (aCons (eVar 10) aNil)) (eC (.int 10)))) (bTest (e2 gtW (eL (C .f_law_size) (aCons (eVar 8) aNil)) (eC (.int 36)))))
 (sSet 11 (eL tupW (aCons (eC (.str (Str.ofString "tag"))) (aCons (eC (.str (Str.ofString "Q"))) aNil))))
 sNil)
 (sIf (bNot (bTru (eL (C .f_law_right) (aCons (eVar 8) (aCons (eVar 10) (aCons (eVar 11) aNil))))))
 (sRet (eC (.bl false)))
 sNil))))))))))
 (sRet (eC (.bl true))))
def body (C : Orc) : Orc
  | .f_parts, ws, S => if ws.length = 1 then runF 4 (m_f_parts C) ws S else .no
  | .f_with_parts, ws, S => if ws.length = 2 then runF 6 (m_f_with_parts C) ws S else .no
  | .f_places, ws, S => if ws.length = 1 then runF 5 (m_f_places C) ws S else .no
  | .f_part_at, ws, S => if ws.length = 2 then runF 3 (m_f_part_at C) ws S else .no
  | .f_law_cell, ws, S => if ws.length = 2 then runF 2 (m_f_law_cell C) ws S else .no
  | .f_law_mixed, ws, S => if ws.length = 2 then runF 3 (m_f_law_mixed C) ws S else .no
  | .f_law_stream, ws, S => if ws.length = 1 then runF 1 (m_f_law_stream C) ws S else .no
  | .f_law_take, ws, S => if ws.length = 2 then runF 3 (m_f_law_take C) ws S else .no
  | .f_law_words, ws, S => if ws.length = 4 then runF 11 (m_f_law_words C) ws S else .no
  | .f_law_small, ws, S => if ws.length = 2 then runF 2 (m_f_law_small C) ws S else .no
  | .f_law_pair, ws, S => if ws.length = 6 then runF 9 (m_f_law_pair C) ws S else .no
  | .f_law_kinds, ws, S => if ws.length = 3 then runF 11 (m_f_law_kinds C) ws S else .no
  | .f_law_heads, ws, S => if ws.length = 5 then runF 13 (m_f_law_heads C) ws S else .no
  | .f_law_plain, ws, S => if ws.length = 4 then runF 8 (m_f_law_plain C) ws S else .no
  | .f_law_some, ws, S => if ws.length = 5 then runF 5 (m_f_law_some C) ws S else .no
  | .f_law_choose, ws, S => if ws.length = 5 then runF 11 (m_f_law_choose C) ws S else .no
  | .f_law_ask, ws, S => if ws.length = 5 then runF 10 (m_f_law_ask C) ws S else .no
  | .f_law_part, ws, S => if ws.length = 5 then runF 10 (m_f_law_part C) ws S else .no
  | .f_law_let, ws, S => if ws.length = 5 then runF 12 (m_f_law_let C) ws S else .no
  | .f_law_body, ws, S => if ws.length = 5 then runF 8 (m_f_law_body C) ws S else .no
  | .f_law_parts, ws, S => if ws.length = 1 then runF 3 (m_f_law_parts C) ws S else .no
  | .f_law_size, ws, S => if ws.length = 1 then runF 2 (m_f_law_size C) ws S else .no
  | .f_law_book, ws, S => if ws.length = 5 then runF 15 (m_f_law_book C) ws S else .no
  | .f_law_same, ws, S => if ws.length = 2 then runF 4 (m_f_law_same C) ws S else .no
  | .f_law_places, ws, S => if ws.length = 1 then runF 5 (m_f_law_places C) ws S else .no
  | .f_law_exchanged, ws, S => if ws.length = 3 then runF 6 (m_f_law_exchanged C) ws S else .no
  | .f_law_put, ws, S => if ws.length = 3 then runF 7 (m_f_law_put C) ws S else .no
  | .f_law_right, ws, S => if ws.length = 3 then runF 8 (m_f_law_right C) ws S else .no
  | .f_law, ws, S => if ws.length = 1 then runF 12 (m_f_law C) ws S else .no
def call : Nat → Orc
  | 0, _, _, _ => .no
  | n + 1, g, ws, S => body (call n) g ws S
end Lw

set_option Elab.async false
set_option linter.all false
set_option maxRecDepth 100000
/-! the walks of the defs, printed by gen.py -/
namespace Lw
open PySem L2 Ev
def top (i : Nat) : Stmt := PySem.Challenge.pw_wantway_k05_bodies_and_places.main.body.getD i (.Pass ⟨0, 0, 0, 0⟩)
abbrev s_f_parts : Stmt := top 1
theorem sc_f_parts : FnScope ["body", "sign", "tag", "branch"] ["body"] (defScope s_f_parts) := ⟨rfl, rfl, rfl, by decide +kernel, rfl, by decide +kernel, by decide +kernel⟩
abbrev s_f_with_parts : Stmt := top 2
theorem sc_f_with_parts : FnScope ["body", "some", "sign", "branches", "row", "branch"] ["body", "some"] (defScope s_f_with_parts) := ⟨rfl, rfl, rfl, by decide +kernel, rfl, by decide +kernel, by decide +kernel⟩
abbrev s_f_places : Stmt := top 3
theorem sc_f_places : FnScope ["body", "found", "number", "part", "place"] ["body"] (defScope s_f_places) := ⟨rfl, rfl, rfl, by decide +kernel, rfl, by decide +kernel, by decide +kernel⟩
abbrev s_f_part_at : Stmt := top 4
theorem sc_f_part_at : FnScope ["body", "place", "number"] ["body", "place"] (defScope s_f_part_at) := ⟨rfl, rfl, rfl, by decide +kernel, rfl, by decide +kernel, by decide +kernel⟩
abbrev s_f_law_cell : Stmt := top 6
theorem sc_f_law_cell : FnScope ["script", "k"] ["script", "k"] (defScope s_f_law_cell) := ⟨rfl, rfl, rfl, by decide +kernel, rfl, by decide +kernel, by decide +kernel⟩
abbrev s_f_law_mixed : Stmt := top 7
theorem sc_f_law_mixed : FnScope ["cell", "k", "number"] ["cell", "k"] (defScope s_f_law_mixed) := ⟨rfl, rfl, rfl, by decide +kernel, rfl, by decide +kernel, by decide +kernel⟩
abbrev s_f_law_stream : Stmt := top 8
theorem sc_f_law_stream : FnScope ["cell"] ["cell"] (defScope s_f_law_stream) := ⟨rfl, rfl, rfl, by decide +kernel, rfl, by decide +kernel, by decide +kernel⟩
abbrev s_f_law_take : Stmt := top 9
theorem sc_f_law_take : FnScope ["stream", "many", "number"] ["stream", "many"] (defScope s_f_law_take) := ⟨rfl, rfl, rfl, by decide +kernel, rfl, by decide +kernel, by decide +kernel⟩
abbrev s_f_law_words : Stmt := top 10
theorem sc_f_law_words : FnScope ["stream", "many", "letters", "ways", "base", "at", "way", "words", "k", "sign", "some"] ["stream", "many", "letters", "ways"] (defScope s_f_law_words) := ⟨rfl, rfl, rfl, by decide +kernel, rfl, by decide +kernel, by decide +kernel⟩
abbrev s_f_law_small : Stmt := top 11
theorem sc_f_law_small : FnScope ["stream", "many"] ["stream", "many"] (defScope s_f_law_small) := ⟨rfl, rfl, rfl, by decide +kernel, rfl, by decide +kernel, by decide +kernel⟩
abbrev s_f_law_pair : Stmt := top 12
theorem sc_f_law_pair : FnScope ["stream", "names", "counts", "depths", "taken", "top", "one", "other", "deep"] ["stream", "names", "counts", "depths", "taken", "top"] (defScope s_f_law_pair) := ⟨rfl, rfl, rfl, by decide +kernel, rfl, by decide +kernel, by decide +kernel⟩
abbrev s_f_law_kinds : Stmt := top 13
theorem sc_f_law_kinds : FnScope ["stream", "most", "top", "names", "tags", "counts", "depths", "kinds", "k", "shape", "kind"] ["stream", "most", "top"] (defScope s_f_law_kinds) := ⟨rfl, rfl, rfl, by decide +kernel, rfl, by decide +kernel, by decide +kernel⟩
abbrev s_f_law_heads : Stmt := top 14
theorem sc_f_law_heads : FnScope ["stream", "kinds", "counts", "most", "top", "names", "asks", "name", "words", "rows", "parameters", "k", "kind"] ["stream", "kinds", "counts", "most", "top"] (defScope s_f_law_heads) := ⟨rfl, rfl, rfl, by decide +kernel, rfl, by decide +kernel, by decide +kernel⟩
abbrev s_f_law_plain : Stmt := top 15
theorem sc_f_law_plain : FnScope ["stream", "world", "around", "kind", "names", "shape", "one", "name"] ["stream", "world", "around", "kind"] (defScope s_f_law_plain) := ⟨rfl, rfl, rfl, by decide +kernel, rfl, by decide +kernel, by decide +kernel⟩
abbrev s_f_law_some : Stmt := top 16
theorem sc_f_law_some : FnScope ["stream", "world", "around", "kind", "deep"] ["stream", "world", "around", "kind", "deep"] (defScope s_f_law_some) := ⟨rfl, rfl, rfl, by decide +kernel, rfl, by decide +kernel, by decide +kernel⟩
abbrev s_f_law_choose : Stmt := top 17
theorem sc_f_law_choose : FnScope ["stream", "world", "around", "kind", "deep", "flat", "own", "first", "branches", "tag", "name"] ["stream", "world", "around", "kind", "deep"] (defScope s_f_law_choose) := ⟨rfl, rfl, rfl, by decide +kernel, rfl, by decide +kernel, by decide +kernel⟩
abbrev s_f_law_ask : Stmt := top 18
theorem sc_f_law_ask : FnScope ["stream", "world", "around", "kind", "deep", "some", "f", "given", "name", "own"] ["stream", "world", "around", "kind", "deep"] (defScope s_f_law_ask) := ⟨rfl, rfl, rfl, by decide +kernel, rfl, by decide +kernel, by decide +kernel⟩
abbrev s_f_law_part : Stmt := top 19
theorem sc_f_law_part : FnScope ["stream", "world", "around", "kind", "deep", "some", "name", "shape", "sign", "own"] ["stream", "world", "around", "kind", "deep"] (defScope s_f_law_part) := ⟨rfl, rfl, rfl, by decide +kernel, rfl, by decide +kernel, by decide +kernel⟩
abbrev s_f_law_let : Stmt := top 20
theorem sc_f_law_let : FnScope ["stream", "world", "around", "kind", "deep", "names", "name", "lets", "own", "inner", "first", "one"] ["stream", "world", "around", "kind", "deep"] (defScope s_f_law_let) := ⟨rfl, rfl, rfl, by decide +kernel, rfl, by decide +kernel, by decide +kernel⟩
abbrev s_f_law_body : Stmt := top 21
theorem sc_f_law_body : FnScope ["stream", "world", "around", "kind", "deep", "way", "shape", "one"] ["stream", "world", "around", "kind", "deep"] (defScope s_f_law_body) := ⟨rfl, rfl, rfl, by decide +kernel, rfl, by decide +kernel, by decide +kernel⟩
abbrev s_f_law_parts : Stmt := top 22
theorem sc_f_law_parts : FnScope ["body", "row", "part"] ["body"] (defScope s_f_law_parts) := ⟨rfl, rfl, rfl, by decide +kernel, rfl, by decide +kernel, by decide +kernel⟩
abbrev s_f_law_size : Stmt := top 23
theorem sc_f_law_size : FnScope ["body", "part"] ["body"] (defScope s_f_law_size) := ⟨rfl, rfl, rfl, by decide +kernel, rfl, by decide +kernel, by decide +kernel⟩
abbrev s_f_law_book : Stmt := top 24
theorem sc_f_law_book : FnScope ["cell", "most", "many", "top", "left", "stream", "kinds", "counts", "asks", "lets", "definitions", "f", "around", "world", "body"] ["cell", "most", "many", "top", "left"] (defScope s_f_law_book) := ⟨rfl, rfl, rfl, by decide +kernel, rfl, by decide +kernel, by decide +kernel⟩
abbrev s_f_law_same : Stmt := top 25
theorem sc_f_law_same : FnScope ["found", "due", "one", "other"] ["found", "due"] (defScope s_f_law_same) := ⟨rfl, rfl, rfl, by decide +kernel, rfl, by decide +kernel, by decide +kernel⟩
abbrev s_f_law_places : Stmt := top 26
theorem sc_f_law_places : FnScope ["body", "found", "k", "part", "place"] ["body"] (defScope s_f_law_places) := ⟨rfl, rfl, rfl, by decide +kernel, rfl, by decide +kernel, by decide +kernel⟩
abbrev s_f_law_exchanged : Stmt := top 27
theorem sc_f_law_exchanged : FnScope ["body", "place", "other", "some", "row", "branch"] ["body", "place", "other"] (defScope s_f_law_exchanged) := ⟨rfl, rfl, rfl, by decide +kernel, rfl, by decide +kernel, by decide +kernel⟩
abbrev s_f_law_put : Stmt := top 28
theorem sc_f_law_put : FnScope ["body", "place", "other", "k", "front", "around", "some"] ["body", "place", "other"] (defScope s_f_law_put) := ⟨rfl, rfl, rfl, by decide +kernel, rfl, by decide +kernel, by decide +kernel⟩
abbrev s_f_law_right : Stmt := top 29
theorem sc_f_law_right : FnScope ["body", "place", "other", "due", "found", "at", "there", "step"] ["body", "place", "other"] (defScope s_f_law_right) := ⟨rfl, rfl, rfl, by decide +kernel, rfl, by decide +kernel, by decide +kernel⟩
abbrev s_f_law : Stmt := top 30
theorem sc_f_law : FnScope ["script", "k", "kinds", "definitions", "stream", "name", "parameters", "kind", "body", "some", "place", "other"] ["script"] (defScope s_f_law) := ⟨rfl, rfl, rfl, by decide +kernel, rfl, by decide +kernel, by decide +kernel⟩
structure Txt (K : PySem.W.Frag) (mg : Str → Option Value) : Prop where
  t_f_parts : ∃ f fd, Fun K "parts" "parts" s_f_parts f fd ∧ At K mg "parts" 1 f fd ["body"]
  t_f_with_parts : ∃ f fd, Fun K "with_parts" "with_parts" s_f_with_parts f fd ∧ At K mg "with_parts" 2 f fd ["body", "some"]
  t_f_places : ∃ f fd, Fun K "places" "places" s_f_places f fd ∧ At K mg "places" 1 f fd ["body"]
  t_f_part_at : ∃ f fd, Fun K "part_at" "part_at" s_f_part_at f fd ∧ At K mg "part_at" 2 f fd ["body", "place"]
  t_f_law_cell : ∃ f fd, Fun K "_law_cell" "_law_cell" s_f_law_cell f fd ∧ At K mg "_law_cell" 2 f fd ["script", "k"]
  t_f_law_mixed : ∃ f fd, Fun K "_law_mixed" "_law_mixed" s_f_law_mixed f fd ∧ At K mg "_law_mixed" 2 f fd ["cell", "k"]
  t_f_law_stream : ∃ f fd, Fun K "_law_stream" "_law_stream" s_f_law_stream f fd ∧ At K mg "_law_stream" 1 f fd ["cell"]
  t_f_law_take : ∃ f fd, Fun K "_law_take" "_law_take" s_f_law_take f fd ∧ At K mg "_law_take" 2 f fd ["stream", "many"]
  t_f_law_words : ∃ f fd, Fun K "_law_words" "_law_words" s_f_law_words f fd ∧ At K mg "_law_words" 4 f fd ["stream", "many", "letters", "ways"]
  t_f_law_small : ∃ f fd, Fun K "_law_small" "_law_small" s_f_law_small f fd ∧ At K mg "_law_small" 2 f fd ["stream", "many"]
  t_f_law_pair : ∃ f fd, Fun K "_law_pair" "_law_pair" s_f_law_pair f fd ∧ At K mg "_law_pair" 6 f fd ["stream", "names", "counts", "depths", "taken", "top"]
  t_f_law_kinds : ∃ f fd, Fun K "_law_kinds" "_law_kinds" s_f_law_kinds f fd ∧ At K mg "_law_kinds" 3 f fd ["stream", "most", "top"]
  t_f_law_heads : ∃ f fd, Fun K "_law_heads" "_law_heads" s_f_law_heads f fd ∧ At K mg "_law_heads" 5 f fd ["stream", "kinds", "counts", "most", "top"]
  t_f_law_plain : ∃ f fd, Fun K "_law_plain" "_law_plain" s_f_law_plain f fd ∧ At K mg "_law_plain" 4 f fd ["stream", "world", "around", "kind"]
  t_f_law_some : ∃ f fd, Fun K "_law_some" "_law_some" s_f_law_some f fd ∧ At K mg "_law_some" 5 f fd ["stream", "world", "around", "kind", "deep"]
  t_f_law_choose : ∃ f fd, Fun K "_law_choose" "_law_choose" s_f_law_choose f fd ∧ At K mg "_law_choose" 5 f fd ["stream", "world", "around", "kind", "deep"]
  t_f_law_ask : ∃ f fd, Fun K "_law_ask" "_law_ask" s_f_law_ask f fd ∧ At K mg "_law_ask" 5 f fd ["stream", "world", "around", "kind", "deep"]
  t_f_law_part : ∃ f fd, Fun K "_law_part" "_law_part" s_f_law_part f fd ∧ At K mg "_law_part" 5 f fd ["stream", "world", "around", "kind", "deep"]
  t_f_law_let : ∃ f fd, Fun K "_law_let" "_law_let" s_f_law_let f fd ∧ At K mg "_law_let" 5 f fd ["stream", "world", "around", "kind", "deep"]
  t_f_law_body : ∃ f fd, Fun K "_law_body" "_law_body" s_f_law_body f fd ∧ At K mg "_law_body" 5 f fd ["stream", "world", "around", "kind", "deep"]
  t_f_law_parts : ∃ f fd, Fun K "_law_parts" "_law_parts" s_f_law_parts f fd ∧ At K mg "_law_parts" 1 f fd ["body"]
  t_f_law_size : ∃ f fd, Fun K "_law_size" "_law_size" s_f_law_size f fd ∧ At K mg "_law_size" 1 f fd ["body"]
  t_f_law_book : ∃ f fd, Fun K "_law_book" "_law_book" s_f_law_book f fd ∧ At K mg "_law_book" 5 f fd ["cell", "most", "many", "top", "left"]
  t_f_law_same : ∃ f fd, Fun K "_law_same" "_law_same" s_f_law_same f fd ∧ At K mg "_law_same" 2 f fd ["found", "due"]
  t_f_law_places : ∃ f fd, Fun K "_law_places" "_law_places" s_f_law_places f fd ∧ At K mg "_law_places" 1 f fd ["body"]
  t_f_law_exchanged : ∃ f fd, Fun K "_law_exchanged" "_law_exchanged" s_f_law_exchanged f fd ∧ At K mg "_law_exchanged" 3 f fd ["body", "place", "other"]
  t_f_law_put : ∃ f fd, Fun K "_law_put" "_law_put" s_f_law_put f fd ∧ At K mg "_law_put" 3 f fd ["body", "place", "other"]
  t_f_law_right : ∃ f fd, Fun K "_law_right" "_law_right" s_f_law_right f fd ∧ At K mg "_law_right" 3 f fd ["body", "place", "other"]
  t_f_law : ∃ f fd, Fun K "law" "law" s_f_law f fd ∧ At K mg "law" 1 f fd ["script"]
  z_all : mg "all" = none
  z_bool : mg "bool" = none
  z_dict : mg "dict" = none
  z_enumerate : mg "enumerate" = none
  z_int : mg "int" = none
  z_isinstance : mg "isinstance" = none
  z_len : mg "len" = none
  z_list : mg "list" = none
  z_max : mg "max" = none
  z_min : mg "min" = none
  z_range : mg "range" = none
  z_sorted : mg "sorted" = none
  z_str : mg "str" = none
  z_sum : mg "sum" = none
  z_tuple : mg "tuple" = none
  z_zip : mg "zip" = none
abbrev HeldG (P : Program) (w : World) (K : PySem.W.Frag) (mg : Str → Option Value) (base : Heap) (n : Nat) : Fn → Prop
  | .f_parts => Held P w K mg base n "parts" (call n .f_parts)
  | .f_with_parts => Held P w K mg base n "with_parts" (call n .f_with_parts)
  | .f_places => Held P w K mg base n "places" (call n .f_places)
  | .f_part_at => Held P w K mg base n "part_at" (call n .f_part_at)
  | .f_law_cell => Held P w K mg base n "_law_cell" (call n .f_law_cell)
  | .f_law_mixed => Held P w K mg base n "_law_mixed" (call n .f_law_mixed)
  | .f_law_stream => Held P w K mg base n "_law_stream" (call n .f_law_stream)
  | .f_law_take => Held P w K mg base n "_law_take" (call n .f_law_take)
  | .f_law_words => Held P w K mg base n "_law_words" (call n .f_law_words)
  | .f_law_small => Held P w K mg base n "_law_small" (call n .f_law_small)
  | .f_law_pair => Held P w K mg base n "_law_pair" (call n .f_law_pair)
  | .f_law_kinds => Held P w K mg base n "_law_kinds" (call n .f_law_kinds)
  | .f_law_heads => Held P w K mg base n "_law_heads" (call n .f_law_heads)
  | .f_law_plain => Held P w K mg base n "_law_plain" (call n .f_law_plain)
  | .f_law_some => Held P w K mg base n "_law_some" (call n .f_law_some)
  | .f_law_choose => Held P w K mg base n "_law_choose" (call n .f_law_choose)
  | .f_law_ask => Held P w K mg base n "_law_ask" (call n .f_law_ask)
  | .f_law_part => Held P w K mg base n "_law_part" (call n .f_law_part)
  | .f_law_let => Held P w K mg base n "_law_let" (call n .f_law_let)
  | .f_law_body => Held P w K mg base n "_law_body" (call n .f_law_body)
  | .f_law_parts => Held P w K mg base n "_law_parts" (call n .f_law_parts)
  | .f_law_size => Held P w K mg base n "_law_size" (call n .f_law_size)
  | .f_law_book => Held P w K mg base n "_law_book" (call n .f_law_book)
  | .f_law_same => Held P w K mg base n "_law_same" (call n .f_law_same)
  | .f_law_places => Held P w K mg base n "_law_places" (call n .f_law_places)
  | .f_law_exchanged => Held P w K mg base n "_law_exchanged" (call n .f_law_exchanged)
  | .f_law_put => Held P w K mg base n "_law_put" (call n .f_law_put)
  | .f_law_right => Held P w K mg base n "_law_right" (call n .f_law_right)
  | .f_law => Held P w K mg base n "law" (call n .f_law)
theorem hu0_of {A : Around} {k : Nat} (hr : Room k A) : A.units + 64 < cLine := hr.units
theorem hu1_of {A : Around} {k : Nat} (hr : Room k A) : A.units + 65 < cLine := by have := hr.un; omega
theorem hu2_of {A : Around} {k : Nat} (hr : Room k A) : A.units + 1 < cLine := by have := hr.un; omega
section
variable {P : Program} {w : World} {K : PySem.W.Frag} {mg : Str → Option Value} {base : Heap} {n : Nat}
theorem ok_f_parts (T : Txt K mg) (IH : ∀ g, HeldG P w K mg base n g) : HeldG P w K mg base (n + 1) .f_parts := by
  obtain ⟨f, fd, F, A⟩ := T.t_f_parts
  refine ⟨_, f, fd, _, A, fnW (m := m_f_parts (call n)) F sc_f_parts (fun ws S h => if_neg h) (fun cdv A outer s H E hr => ?_) (fun ws S h => if_pos h)⟩
  exact (ss_cons (s_set 1 sc_f_parts.nd (e_ixr (ix_any (hu2_of hr)) snd_ix (e_var 0) e_int))
 (ss_cons (s_if (PW.pt (t_or (t_cmp (op_eqP (hu0_of hr)) snd_eq (e_var 1) e_str) (t_or1 (t_cmp (op_eqP (hu0_of hr)) snd_eq (e_var 1) e_str))))
 (ss_one (s_ret (e_tup a_nil)))
 ss_nil)
 (ss_cons (s_if (t_cmp (op_eqP (hu0_of hr)) snd_eq (e_var 1) e_str)
 (ss_one (s_ret (e_op op_addW snd_add (e_tup (a_cons (e_ixr (ix_any (hu2_of hr)) snd_ix (e_var 0) e_int) a_nil)) (e_callTy call_tuple_of snd_tuple (by rfl) T.z_tuple (by decide +kernel) (a_cons (e_lc (own := [("tag", 2), ("branch", 3)]) rfl sc_f_parts.nd (i_seq (e_ixr (ix_any (hu2_of hr)) snd_ix (e_var 0) e_int)) (blkOk_by (own := [("tag", 2), ("branch", 3)]) (N := ["body", "sign", "tag", "branch"]) (sc := defScope s_f_parts) (by decide +kernel)) (fun _ _ _ _ _ => (g_tup rfl (gs_cons (g_name 2 sc_f_parts.nd) (gs_cons (g_name 3 sc_f_parts.nd) gs_nil)))) (fun _ _ _ _ _ => ts_nil) (fun _ _ _ _ _ => (e_var 3))) a_nil)))))
 ss_nil)
 (ss_cons (s_if (t_cmp (op_eqP (hu0_of hr)) snd_eq (e_var 1) e_str)
 (ss_one (s_ret (e_callTy call_tuple_of snd_tuple (by rfl) T.z_tuple (by decide +kernel) (a_cons (e_ixr (ix_any (hu2_of hr)) snd_ix (e_var 0) e_int) a_nil))))
 ss_nil)
 (ss_cons (s_if (t_cmp (op_eqP (hu0_of hr)) snd_eq (e_var 1) e_str)
 (ss_one (s_ret (e_slice (e_var 0) (o_some e_int) o_none)))
 ss_nil)
 (ss_one (s_ret (e_slice (e_var 0) (o_some e_int) o_none))))))))
theorem ok_f_with_parts (T : Txt K mg) (IH : ∀ g, HeldG P w K mg base n g) : HeldG P w K mg base (n + 1) .f_with_parts := by
  obtain ⟨f, fd, F, A⟩ := T.t_f_with_parts
  refine ⟨_, f, fd, _, A, fnW (m := m_f_with_parts (call n)) F sc_f_with_parts (fun ws S h => if_neg h) (fun cdv A outer s H E hr => ?_) (fun ws S h => if_pos h)⟩
  exact (ss_cons (s_set 2 sc_f_with_parts.nd (e_ixr (ix_any (hu2_of hr)) snd_ix (e_var 0) e_int))
 (ss_cons (s_if (PW.pt (t_or (t_cmp (op_eqP (hu0_of hr)) snd_eq (e_var 2) e_str) (t_or1 (t_cmp (op_eqP (hu0_of hr)) snd_eq (e_var 2) e_str))))
 (ss_one (s_ret (e_var 0)))
 ss_nil)
 (ss_cons (s_if (t_cmp (op_eqP (hu0_of hr)) snd_eq (e_var 2) e_str)
 (ss_cons (s_setLc 3 (own := [("row", 4), ("branch", 5)]) rfl sc_f_with_parts.nd (sw_true rfl rfl rfl (by decide +kernel)) (i_zip2 T.z_zip (e_ixr (ix_any (hu2_of hr)) snd_ix (e_var 0) e_int) (e_slice (e_var 1) (o_some e_int) o_none)) (blkOk_by (own := [("row", 4), ("branch", 5)]) (N := ["body", "some", "sign", "branches", "row", "branch"]) (sc := defScope s_f_with_parts) (by decide +kernel)) (fun _ _ _ _ _ => (g_tup rfl (gs_cons (g_name 4 sc_f_with_parts.nd) (gs_cons (g_name 5 sc_f_with_parts.nd) gs_nil)))) (fun _ _ _ _ _ => ts_nil) (fun _ _ _ _ _ => (e_tup (a_cons (e_ixr (ix_any (hu2_of hr)) snd_ix (e_var 4) e_int) (a_cons (e_var 5) a_nil)))))
 (ss_one (s_ret (e_tup (a_cons (e_var 2) (a_cons (e_ixr (ix_any (hu2_of hr)) snd_ix (e_var 1) e_int) (a_cons (e_callTy call_tuple_of snd_tuple (by rfl) T.z_tuple (by decide +kernel) (a_cons (e_var 3) a_nil)) a_nil)))))))
 ss_nil)
 (ss_cons (s_if (t_cmp (op_eqP (hu0_of hr)) snd_eq (e_var 2) e_str)
 (ss_one (s_ret (e_tup (a_cons (e_var 2) (a_cons (e_ixr (ix_any (hu2_of hr)) snd_ix (e_var 0) e_int) (a_cons (e_callTy call_tuple_of snd_tuple (by rfl) T.z_tuple (by decide +kernel) (a_cons (e_var 1) a_nil)) a_nil))))))
 ss_nil)
 (ss_cons (s_if (t_cmp (op_eqP (hu0_of hr)) snd_eq (e_var 2) e_str)
 (ss_one (s_ret (e_op op_addW snd_add (e_slice (e_var 0) o_none (o_some e_int)) (e_callTy call_tuple_of snd_tuple (by rfl) T.z_tuple (by decide +kernel) (a_cons (e_var 1) a_nil)))))
 ss_nil)
 (ss_one (s_ret (e_op op_addW snd_add (e_tup (a_cons (e_var 2) a_nil)) (e_callTy call_tuple_of snd_tuple (by rfl) T.z_tuple (by decide +kernel) (a_cons (e_var 1) a_nil))))))))))
theorem ok_f_places (T : Txt K mg) (IH : ∀ g, HeldG P w K mg base n g) : HeldG P w K mg base (n + 1) .f_places := by
  obtain ⟨f, fd, F, A⟩ := T.t_f_places
  refine ⟨_, f, fd, _, A, fnW (m := m_f_places (call n)) F sc_f_places (fun ws S h => if_neg h) (fun cdv A outer s H E hr => ?_) (fun ws S h => if_pos h)⟩
  exact (ss_cons (s_set 1 sc_f_places.nd (e_lst (a_cons (e_tup a_nil) a_nil)))
 (ss_cons (s_for (passes_of rfl) rfl (i_en T.z_enumerate (e_call (IH .f_parts) hr (takes_of rfl rfl rfl rfl) (a_cons (e_var 0) a_nil))) (g_tup rfl (gs_cons (g_name 2 sc_f_places.nd) (gs_cons (g_name 3 sc_f_places.nd) gs_nil)))
 (ss_one (s_expr (e_bm PySem.F.plainAttrs_list PySem.F.slot_list_extend PySem.F.type_list_extend mt_extend snd_extend (e_var 1) (a_cons (e_lc (own := [("place", 4)]) rfl sc_f_places.nd (i_seq (e_call (IH .f_places) hr (takes_of rfl rfl rfl rfl) (a_cons (e_var 3) a_nil))) (blkOk_by (own := [("place", 4)]) (N := ["body", "found", "number", "part", "place"]) (sc := defScope s_f_places) (by decide +kernel)) (fun _ _ _ _ _ => (g_name 4 sc_f_places.nd)) (fun _ _ _ _ _ => ts_nil) (fun _ _ _ _ _ => (e_op op_addW snd_add (e_tup (a_cons (e_var 2) a_nil)) (e_var 4)))) a_nil)))))
 (ss_one (s_ret (e_var 1)))))
theorem ok_f_part_at (T : Txt K mg) (IH : ∀ g, HeldG P w K mg base n g) : HeldG P w K mg base (n + 1) .f_part_at := by
  obtain ⟨f, fd, F, A⟩ := T.t_f_part_at
  refine ⟨_, f, fd, _, A, fnW (m := m_f_part_at (call n)) F sc_f_part_at (fun ws S h => if_neg h) (fun cdv A outer s H E hr => ?_) (fun ws S h => if_pos h)⟩
  exact (ss_cons (s_for (passes_of rfl) rfl (i_seq (e_var 1)) (g_name 2 sc_f_part_at.nd)
 (ss_one (s_set 0 sc_f_part_at.nd (e_ixr (ix_any (hu2_of hr)) snd_ix (e_call (IH .f_parts) hr (takes_of rfl rfl rfl rfl) (a_cons (e_var 0) a_nil)) (e_var 2)))))
 (ss_one (s_ret (e_var 0))))
theorem ok_f_law_cell (T : Txt K mg) (IH : ∀ g, HeldG P w K mg base n g) : HeldG P w K mg base (n + 1) .f_law_cell := by
  obtain ⟨f, fd, F, A⟩ := T.t_f_law_cell
  refine ⟨_, f, fd, _, A, fnW (m := m_f_law_cell (call n)) F sc_f_law_cell (fun ws S h => if_neg h) (fun cdv A outer s H E hr => ?_) (fun ws S h => if_pos h)⟩
  exact (ss_cons (s_if (t_cmp op_lt snd_cmpI (e_var 1) (e_callB call_lenW snd_len (by rfl) T.z_len (by decide +kernel) (a_cons (e_var 0) a_nil)))
 (ss_one (s_ret (e_ixr (ix_any (hu2_of hr)) snd_ix (e_var 0) (e_var 1))))
 ss_nil)
 (ss_one (s_ret e_int)))
theorem ok_f_law_mixed (T : Txt K mg) (IH : ∀ g, HeldG P w K mg base n g) : HeldG P w K mg base (n + 1) .f_law_mixed := by
  obtain ⟨f, fd, F, A⟩ := T.t_f_law_mixed
  refine ⟨_, f, fd, _, A, fnW (m := m_f_law_mixed (call n)) F sc_f_law_mixed (fun ws S h => if_neg h) (fun cdv A outer s H E hr => ?_) (fun ws S h => if_pos h)⟩
  exact (ss_cons (s_set 2 sc_f_law_mixed.nd (e_op op_mod snd_mod (e_op op_addW snd_add (e_op op_addW snd_add (e_op op_mulW' snd_mul (e_op op_mod snd_mod (e_var 0) e_int) e_int) (e_op op_mulW' snd_mul e_int (e_var 1))) e_int) e_int))
 (ss_cons (s_set 2 sc_f_law_mixed.nd (e_op op_mod snd_mod (e_op op_addW snd_add (e_op op_addW snd_add (e_op op_mulW' snd_mul (e_var 2) (e_var 2)) (e_op op_mulW' snd_mul e_int (e_var 1))) e_int) e_int))
 (ss_one (s_ret (e_op op_mod snd_mod (e_op op_mulW' snd_mul (e_var 2) (e_op op_addW snd_add (e_var 2) e_int)) e_int)))))
theorem ok_f_law_stream (T : Txt K mg) (IH : ∀ g, HeldG P w K mg base n g) : HeldG P w K mg base (n + 1) .f_law_stream := by
  obtain ⟨f, fd, F, A⟩ := T.t_f_law_stream
  refine ⟨_, f, fd, _, A, fnW (m := m_f_law_stream (call n)) F sc_f_law_stream (fun ws S h => if_neg h) (fun cdv A outer s H E hr => ?_) (fun ws S h => if_pos h)⟩
  exact (ss_one (s_ret (e_lst (a_cons (e_var 0) (a_cons (e_or (e_cmp op_ge snd_cmpI (e_var 0) (e_op op_pow snd_pow e_int e_int)) (e_one (e_cmp op_le snd_cmpI (e_var 0) (e_un un_neg snd_neg (e_op op_pow snd_pow e_int e_int))))) (a_cons e_int (a_cons (e_op op_mod snd_mod (e_var 0) e_int) a_nil)))))))
theorem ok_f_law_take (T : Txt K mg) (IH : ∀ g, HeldG P w K mg base n g) : HeldG P w K mg base (n + 1) .f_law_take := by
  obtain ⟨f, fd, F, A⟩ := T.t_f_law_take
  refine ⟨_, f, fd, _, A, fnW (m := m_f_law_take (call n)) F sc_f_law_take (fun ws S h => if_neg h) (fun cdv A outer s H E hr => ?_) (fun ws S h => if_pos h)⟩
  exact (ss_cons (s_if (t_val (e_ixr (ix_any (hu2_of hr)) snd_ix (e_var 0) e_int))
 (ss_cons (s_set 2 sc_f_law_take.nd (e_op op_mod snd_mod (e_ixr (ix_any (hu2_of hr)) snd_ix (e_var 0) e_int) (e_var 1)))
 (ss_cons (s_put (hu2_of hr) (e_op op_fdiv snd_fdiv (e_ixr (ix_any (hu2_of hr)) snd_ix (e_var 0) e_int) (e_var 1)) (e_var 0) e_int)
 (ss_cons (s_put (hu2_of hr) (e_and (e_cmp (op_neP (hu0_of hr)) snd_ne (e_ixr (ix_any (hu2_of hr)) snd_ix (e_var 0) e_int) e_int) (e_one (e_cmp (op_neP (hu0_of hr)) snd_ne (e_ixr (ix_any (hu2_of hr)) snd_ix (e_var 0) e_int) (e_un un_neg snd_neg e_int)))) (e_var 0) e_int)
 (ss_one (s_ret (e_var 2))))))
 ss_nil)
 (ss_cons (s_put (hu2_of hr) (e_op op_addW snd_add (e_ixr (ix_any (hu2_of hr)) snd_ix (e_var 0) e_int) e_int) (e_var 0) e_int)
 (ss_one (s_ret (e_op op_mod snd_mod (e_op op_fdiv snd_fdiv (e_call (IH .f_law_mixed) hr (takes_of rfl rfl rfl rfl) (a_cons (e_ixr (ix_any (hu2_of hr)) snd_ix (e_var 0) e_int) (a_cons (e_ixr (ix_any (hu2_of hr)) snd_ix (e_var 0) e_int) a_nil))) e_int) (e_var 1))))))
theorem ok_f_law_words (T : Txt K mg) (IH : ∀ g, HeldG P w K mg base n g) : HeldG P w K mg base (n + 1) .f_law_words := by
  obtain ⟨f, fd, F, A⟩ := T.t_f_law_words
  refine ⟨_, f, fd, _, A, fnW (m := m_f_law_words (call n)) F sc_f_law_words (fun ws S h => if_neg h) (fun cdv A outer s H E hr => ?_) (fun ws S h => if_pos h)⟩
  exact (ss_cons (s_set 4 sc_f_law_words.nd (e_bm PySem.F.plainAttrs_str PySem.F.slot_str_join PySem.F.type_str_join mt_join snd_join e_str (a_cons (e_lc (own := [("k", 8)]) rfl sc_f_law_words.nd (i_rng1 T.z_range e_int) (blkOk_by (own := [("k", 8)]) (N := ["stream", "many", "letters", "ways", "base", "at", "way", "words", "k", "sign", "some"]) (sc := defScope s_f_law_words) (by decide +kernel)) (fun _ _ _ _ _ => (g_name 8 sc_f_law_words.nd)) (fun _ _ _ _ _ => ts_nil) (fun _ _ _ _ _ => (e_ixr (ix_any (hu2_of hr)) snd_ix (e_var 2) (e_call (IH .f_law_take) hr takesB (a_cons (e_var 0) (a_cons e_int a_nil)))))) a_nil)))
 (ss_cons (s_set 5 sc_f_law_words.nd (e_call (IH .f_law_take) hr (takes_of rfl rfl rfl rfl) (a_cons (e_var 0) (a_cons e_int a_nil))))
 (ss_cons (s_set 6 sc_f_law_words.nd (e_call (IH .f_law_take) hr (takes_of rfl rfl rfl rfl) (a_cons (e_var 0) (a_cons (e_var 3) a_nil))))
 (ss_cons (s_set 7 sc_f_law_words.nd (e_lst a_nil))
 (ss_cons (s_for (passes_of rfl) rfl (i_rng1 T.z_range (e_var 1)) (g_name 8 sc_f_law_words.nd)
 (ss_cons (s_set 9 sc_f_law_words.nd (e_ixr (ix_any (hu2_of hr)) snd_ix (e_var 2) (e_op op_mod snd_mod (e_op op_addW snd_add (e_bm PySem.F.plainAttrs_str PySem.F.slot_str_index PySem.F.type_str_index mt_sindex snd_sindex (e_var 2) (a_cons (e_ixr (ix_any (hu2_of hr)) snd_ix (e_var 4) (e_var 5)) a_nil)) (e_op op_mulW' snd_mul e_int (e_var 8))) e_int)))
 (ss_cons (s_set 10 sc_f_law_words.nd (e_lst (a_cons (e_op op_addW snd_add (e_op op_addW snd_add (e_slice (e_var 4) o_none (o_some (e_var 5))) (e_var 9)) (e_slice (e_var 4) (o_some (e_op op_addW snd_add (e_var 5) e_int)) o_none)) (a_cons (e_op op_addW snd_add (e_var 9) (e_slice (e_var 4) o_none (o_some (e_op op_mod snd_mod (e_op op_addW snd_add (e_op op_mulW' snd_mul e_int (e_var 8)) (e_var 5)) e_int)))) (a_cons (e_slice (e_var 4) o_none (o_some (e_op op_addW snd_add (e_op op_mod snd_mod (e_var 8) e_int) e_int))) (a_cons (e_slice (e_var 4) o_none (o_some (e_op op_sub snd_sub e_int (e_op op_mod snd_mod (e_var 8) e_int)))) a_nil))))))
 (ss_one (s_expr (e_bm PySem.F.plainAttrs_list PySem.F.slot_list_append PySem.F.type_list_append mt_append snd_append (e_var 7) (a_cons (e_ixr (ix_any (hu2_of hr)) snd_ix (e_var 10) (e_var 6)) a_nil)))))))
 (ss_one (s_ret (e_var 7))))))))
theorem ok_f_law_small (T : Txt K mg) (IH : ∀ g, HeldG P w K mg base n g) : HeldG P w K mg base (n + 1) .f_law_small := by
  obtain ⟨f, fd, F, A⟩ := T.t_f_law_small
  refine ⟨_, f, fd, _, A, fnW (m := m_f_law_small (call n)) F sc_f_law_small (fun ws S h => if_neg h) (fun cdv A outer s H E hr => ?_) (fun ws S h => if_pos h)⟩
  exact (ss_one (s_ret (e_call (IH .f_law_words) hr (takes_of rfl rfl rfl rfl) (a_cons (e_var 0) (a_cons (e_var 1) (a_cons e_str (a_cons e_int a_nil)))))))
theorem ok_f_law_pair (T : Txt K mg) (IH : ∀ g, HeldG P w K mg base n g) : HeldG P w K mg base (n + 1) .f_law_pair := by
  obtain ⟨f, fd, F, A⟩ := T.t_f_law_pair
  refine ⟨_, f, fd, _, A, fnW (m := m_f_law_pair (call n)) F sc_f_law_pair (fun ws S h => if_neg h) (fun cdv A outer s H E hr => ?_) (fun ws S h => if_pos h)⟩
  exact (ss_cons (s_set 6 sc_f_law_pair.nd (e_ixr (ix_any (hu2_of hr)) snd_ix (e_var 1) (e_call (IH .f_law_take) hr (takes_of rfl rfl rfl rfl) (a_cons (e_var 0) (a_cons (e_callB call_lenW snd_len (by rfl) T.z_len (by decide +kernel) (a_cons (e_var 1) a_nil)) a_nil)))))
 (ss_cons (s_set 7 sc_f_law_pair.nd (e_ixr (ix_any (hu2_of hr)) snd_ix (e_var 1) (e_call (IH .f_law_take) hr (takes_of rfl rfl rfl rfl) (a_cons (e_var 0) (a_cons (e_callB call_lenW snd_len (by rfl) T.z_len (by decide +kernel) (a_cons (e_var 1) a_nil)) a_nil)))))
 (ss_cons (s_set 8 sc_f_law_pair.nd (e_op op_addW snd_add e_int (e_callB (call_max2 rfl) snd_max2 (by rfl) T.z_max (by decide +kernel) (a_cons (e_ixr (ix_any (hu2_of hr)) snd_ix (e_var 3) (e_var 6)) (a_cons (e_ixr (ix_any (hu2_of hr)) snd_ix (e_var 3) (e_var 7)) a_nil)))))
 (ss_cons (s_if (PW.pt (t_or (t_cmp op_gt snd_cmpI (e_var 8) e_int) (t_or (t_cmp op_gt snd_cmpI (e_op op_addW snd_add e_int (e_op op_mulW' snd_mul (e_ixr (ix_any (hu2_of hr)) snd_ix (e_var 2) (e_var 6)) (e_ixr (ix_any (hu2_of hr)) snd_ix (e_var 2) (e_var 7)))) (e_var 5)) (t_or1 (t_cmp (op_inW (hu1_of hr)) snd_in (e_tup (a_cons e_str (a_cons (e_var 6) (a_cons (e_var 7) a_nil)))) (e_var 4))))))
 (ss_one (s_ret e_non))
 ss_nil)
 (ss_one (s_ret (e_tup (a_cons e_str (a_cons (e_var 6) (a_cons (e_var 7) a_nil))))))))))
theorem ok_f_law_kinds (T : Txt K mg) (IH : ∀ g, HeldG P w K mg base n g) : HeldG P w K mg base (n + 1) .f_law_kinds := by
  obtain ⟨f, fd, F, A⟩ := T.t_f_law_kinds
  refine ⟨_, f, fd, _, A, fnW (m := m_f_law_kinds (call n)) F sc_f_law_kinds (fun ws S h => if_neg h) (fun cdv A outer s H E hr => ?_) (fun ws S h => if_pos h)⟩
  exact (ss_cons (s_set 3 sc_f_law_kinds.nd (e_call (IH .f_law_small) hr (takes_of rfl rfl rfl rfl) (a_cons (e_var 0) (a_cons (e_op op_addW snd_add e_int (e_call (IH .f_law_take) hr (takes_of rfl rfl rfl rfl) (a_cons (e_var 0) (a_cons (e_var 1) a_nil)))) a_nil))))
 (ss_cons (s_set 4 sc_f_law_kinds.nd (e_call (IH .f_law_words) hr (takes_of rfl rfl rfl rfl) (a_cons (e_var 0) (a_cons (e_op op_mulW' snd_mul e_int (e_callB call_lenW snd_len (by rfl) T.z_len (by decide +kernel) (a_cons (e_var 3) a_nil))) (a_cons e_str (a_cons e_int a_nil))))))
 (ss_cons (s_set 5 sc_f_law_kinds.nd e_dnew)
 (ss_cons (s_set 6 sc_f_law_kinds.nd e_dnew)
 (ss_cons (s_set 7 sc_f_law_kinds.nd (e_lst a_nil))
 (ss_cons (s_for (passes_of rfl) rfl (i_rng1 T.z_range (e_callB call_lenW snd_len (by rfl) T.z_len (by decide +kernel) (a_cons (e_var 3) a_nil))) (g_name 8 sc_f_law_kinds.nd)
 (ss_cons (s_set 9 sc_f_law_kinds.nd e_non)
 (ss_cons (s_if (PW.pt (t_and (t_cmp op_gt snd_cmpI (e_var 8) e_int) (t_and1 (t_cmp (op_eqP (hu0_of hr)) snd_eq (e_call (IH .f_law_take) hr (takes_of rfl rfl rfl rfl) (a_cons (e_var 0) (a_cons e_int a_nil))) e_int))))
 (ss_one (s_set 9 sc_f_law_kinds.nd (e_call (IH .f_law_pair) hr (takes_of rfl rfl rfl rfl) (a_cons (e_var 0) (a_cons (e_slice (e_var 3) o_none (o_some (e_var 8))) (a_cons (e_var 5) (a_cons (e_var 6) (a_cons (e_lc (own := [("kind", 10)]) rfl sc_f_law_kinds.nd (i_seq (e_var 7)) (blkOk_by (own := [("kind", 10)]) (N := ["stream", "most", "top", "names", "tags", "counts", "depths", "kinds", "k", "shape", "kind"]) (sc := defScope s_f_law_kinds) (by decide +kernel)) (fun _ _ _ _ _ => (g_name 10 sc_f_law_kinds.nd)) (fun _ _ _ _ _ => ts_nil) (fun _ _ _ _ _ => (e_ixr (ix_any (hu2_of hr)) snd_ix (e_var 10) e_int))) (a_cons (e_var 2) a_nil)))))))))
 ss_nil)
 (ss_cons (s_if (t_cmp op_isN snd_is (e_var 9) e_non)
 (ss_cons (s_set 9 sc_f_law_kinds.nd (e_tup (a_cons e_str (a_cons (e_callTy call_tuple_of snd_tuple (by rfl) T.z_tuple (by decide +kernel) (a_cons (e_slice (e_var 4) (o_some (e_op op_mulW' snd_mul e_int (e_var 8))) (o_some (e_op op_addW snd_add (e_op op_addW snd_add (e_op op_mulW' snd_mul e_int (e_var 8)) e_int) (e_call (IH .f_law_take) hr (takes_of rfl rfl rfl rfl) (a_cons (e_var 0) (a_cons e_int a_nil)))))) a_nil)) a_nil))))
 (ss_cons (s_put (hu2_of hr) (e_op op_addW snd_add e_int (e_callB call_lenW snd_len (by rfl) T.z_len (by decide +kernel) (a_cons (e_ixr (ix_any (hu2_of hr)) snd_ix (e_var 9) e_int) a_nil))) (e_var 5) (e_ixr (ix_any (hu2_of hr)) snd_ix (e_var 3) (e_var 8)))
 (ss_one (s_put (hu2_of hr) e_int (e_var 6) (e_ixr (ix_any (hu2_of hr)) snd_ix (e_var 3) (e_var 8))))))
 (ss_cons (s_put (hu2_of hr) (e_op op_addW snd_add e_int (e_op op_mulW' snd_mul (e_ixr (ix_any (hu2_of hr)) snd_ix (e_var 5) (e_ixr (ix_any (hu2_of hr)) snd_ix (e_var 9) e_int)) (e_ixr (ix_any (hu2_of hr)) snd_ix (e_var 5) (e_ixr (ix_any (hu2_of hr)) snd_ix (e_var 9) e_int)))) (e_var 5) (e_ixr (ix_any (hu2_of hr)) snd_ix (e_var 3) (e_var 8)))
 (ss_one (s_put (hu2_of hr) (e_op op_addW snd_add e_int (e_callB (call_max2 rfl) snd_max2 (by rfl) T.z_max (by decide +kernel) (a_cons (e_ixr (ix_any (hu2_of hr)) snd_ix (e_var 6) (e_ixr (ix_any (hu2_of hr)) snd_ix (e_var 9) e_int)) (a_cons (e_ixr (ix_any (hu2_of hr)) snd_ix (e_var 6) (e_ixr (ix_any (hu2_of hr)) snd_ix (e_var 9) e_int)) a_nil)))) (e_var 6) (e_ixr (ix_any (hu2_of hr)) snd_ix (e_var 3) (e_var 8))))))
 (ss_one (s_expr (e_bm PySem.F.plainAttrs_list PySem.F.slot_list_append PySem.F.type_list_append mt_append snd_append (e_var 7) (a_cons (e_tup (a_cons (e_ixr (ix_any (hu2_of hr)) snd_ix (e_var 3) (e_var 8)) (a_cons (e_var 9) a_nil))) a_nil))))))))
 (ss_one (s_ret (e_tup (a_cons (e_var 7) (a_cons (e_var 5) a_nil)))))))))))
theorem ok_f_law_heads (T : Txt K mg) (IH : ∀ g, HeldG P w K mg base n g) : HeldG P w K mg base (n + 1) .f_law_heads := by
  obtain ⟨f, fd, F, A⟩ := T.t_f_law_heads
  refine ⟨_, f, fd, _, A, fnW (m := m_f_law_heads (call n)) F sc_f_law_heads (fun ws S h => if_neg h) (fun cdv A outer s H E hr => ?_) (fun ws S h => if_pos h)⟩
  exact (ss_cons (s_set 5 sc_f_law_heads.nd (e_call (IH .f_law_small) hr (takes_of rfl rfl rfl rfl) (a_cons (e_var 0) (a_cons (e_op op_addW snd_add e_int (e_call (IH .f_law_take) hr (takes_of rfl rfl rfl rfl) (a_cons (e_var 0) (a_cons (e_var 3) a_nil)))) a_nil))))
 (ss_cons (s_set 6 sc_f_law_heads.nd e_dnew)
 (ss_cons (s_for (passes_of rfl) rfl (i_seq (e_var 5)) (g_name 7 sc_f_law_heads.nd)
 (ss_cons (s_set 8 sc_f_law_heads.nd (e_call (IH .f_law_small) hr (takes_of rfl rfl rfl rfl) (a_cons (e_var 0) (a_cons e_int a_nil))))
 (ss_cons (s_set 9 sc_f_law_heads.nd e_int)
 (ss_cons (s_set 10 sc_f_law_heads.nd (e_lst a_nil))
 (ss_cons (s_for (passes_of rfl) rfl (i_rng1 T.z_range (e_ixr (ix_any (hu2_of hr)) snd_ix (e_lst (a_cons e_int (a_cons e_int (a_cons e_int (a_cons e_int (a_cons e_int (a_cons e_int a_nil))))))) (e_call (IH .f_law_take) hr (takes_of rfl rfl rfl rfl) (a_cons (e_var 0) (a_cons e_int a_nil))))) (g_name 11 sc_f_law_heads.nd)
 (ss_cons (s_set 12 sc_f_law_heads.nd (e_ixr (ix_any (hu2_of hr)) snd_ix (e_ixr (ix_any (hu2_of hr)) snd_ix (e_var 1) (e_call (IH .f_law_take) hr (takes_of rfl rfl rfl rfl) (a_cons (e_var 0) (a_cons (e_callB call_lenW snd_len (by rfl) T.z_len (by decide +kernel) (a_cons (e_var 1) a_nil)) a_nil)))) e_int))
 (ss_one (s_if (t_cmp op_le snd_cmpI (e_op op_mulW' snd_mul (e_var 9) (e_ixr (ix_any (hu2_of hr)) snd_ix (e_var 2) (e_var 12))) (e_var 4))
 (ss_cons (s_set 9 sc_f_law_heads.nd (e_op op_mulW' snd_mul (e_var 9) (e_ixr (ix_any (hu2_of hr)) snd_ix (e_var 2) (e_var 12))))
 (ss_one (s_expr (e_bm PySem.F.plainAttrs_list PySem.F.slot_list_append PySem.F.type_list_append mt_append snd_append (e_var 10) (a_cons (e_tup (a_cons (e_ixr (ix_any (hu2_of hr)) snd_ix (e_var 8) (e_var 11)) (a_cons (e_var 12) a_nil))) a_nil)))))
 ss_nil))))
 (ss_one (s_put (hu2_of hr) (e_tup (a_cons (e_callTy call_tupleF snd_tupleP (by rfl) T.z_tuple (by decide +kernel) (a_cons (e_var 10) a_nil)) (a_cons (e_ixr (ix_any (hu2_of hr)) snd_ix (e_ixr (ix_any (hu2_of hr)) snd_ix (e_var 1) (e_call (IH .f_law_take) hr (takes_of rfl rfl rfl rfl) (a_cons (e_var 0) (a_cons (e_callB call_lenW snd_len (by rfl) T.z_len (by decide +kernel) (a_cons (e_var 1) a_nil)) a_nil)))) e_int) a_nil))) (e_var 6) (e_var 7))))))))
 (ss_one (s_ret (e_var 6))))))
theorem ok_f_law_plain (T : Txt K mg) (IH : ∀ g, HeldG P w K mg base n g) : HeldG P w K mg base (n + 1) .f_law_plain := by
  obtain ⟨f, fd, F, A⟩ := T.t_f_law_plain
  refine ⟨_, f, fd, _, A, fnW (m := m_f_law_plain (call n)) F sc_f_law_plain (fun ws S h => if_neg h) (fun cdv A outer s H E hr => ?_) (fun ws S h => if_pos h)⟩
  exact (ss_cons (s_lock (eVar 2) (s_setLc 4 (own := [("name", 7)]) rfl sc_f_law_plain.nd (sw_true rfl rfl rfl (by decide +kernel)) (i_key (e_var 2)) (blkOk_by (own := [("name", 7)]) (N := ["stream", "world", "around", "kind", "names", "shape", "one", "name"]) (sc := defScope s_f_law_plain) (by decide +kernel)) (fun _ _ _ _ _ => (g_name 7 sc_f_law_plain.nd)) (fun _ _ _ _ _ => (ts_one (t_cmp (op_eqP (hu0_of hr)) snd_eq (e_ixr (ix_any (hu2_of hr)) snd_ix (e_var 2) (e_var 7)) (e_var 3)))) (fun _ _ _ _ _ => (e_var 7))))
 (ss_cons (s_if (PW.pt (t_and (t_cmp (op_neP (hu0_of hr)) snd_ne (e_var 4) (e_lst a_nil)) (t_and1 (t_cmp op_gt snd_cmpI (e_call (IH .f_law_take) hr (takes_of rfl rfl rfl rfl) (a_cons (e_var 0) (a_cons e_int a_nil))) e_int))))
 (ss_one (s_ret (e_tup (a_cons e_str (a_cons (e_ixr (ix_any (hu2_of hr)) snd_ix (e_var 4) (e_call (IH .f_law_take) hr (takes_of rfl rfl rfl rfl) (a_cons (e_var 0) (a_cons (e_callB call_lenW snd_len (by rfl) T.z_len (by decide +kernel) (a_cons (e_var 4) a_nil)) a_nil)))) a_nil)))))
 ss_nil)
 (ss_cons (s_set 5 sc_f_law_plain.nd (e_ixr (ix_any (hu2_of hr)) snd_ix (e_ixr (ix_any (hu2_of hr)) snd_ix (e_var 1) e_str) (e_var 3)))
 (ss_cons (s_if (t_cmp (op_eqP (hu0_of hr)) snd_eq (e_ixr (ix_any (hu2_of hr)) snd_ix (e_var 5) e_int) e_str)
 (ss_one (s_ret (e_tup (a_cons e_str (a_cons (e_ixr (ix_any (hu2_of hr)) snd_ix (e_ixr (ix_any (hu2_of hr)) snd_ix (e_var 5) e_int) (e_call (IH .f_law_take) hr (takes_of rfl rfl rfl rfl) (a_cons (e_var 0) (a_cons (e_callB call_lenW snd_len (by rfl) T.z_len (by decide +kernel) (a_cons (e_ixr (ix_any (hu2_of hr)) snd_ix (e_var 5) e_int) a_nil)) a_nil)))) a_nil)))))
 ss_nil)
 (ss_cons (s_set 6 sc_f_law_plain.nd (e_call (IH .f_law_plain) hr (takes_of rfl rfl rfl rfl) (a_cons (e_var 0) (a_cons (e_var 1) (a_cons (e_var 2) (a_cons (e_ixr (ix_any (hu2_of hr)) snd_ix (e_var 5) e_int) a_nil))))))
 (ss_one (s_ret (e_tup (a_cons e_str (a_cons (e_var 6) (a_cons (e_call (IH .f_law_plain) hr (takes_of rfl rfl rfl rfl) (a_cons (e_var 0) (a_cons (e_var 1) (a_cons (e_var 2) (a_cons (e_ixr (ix_any (hu2_of hr)) snd_ix (e_var 5) e_int) a_nil))))) a_nil)))))))))))
theorem ok_f_law_some (T : Txt K mg) (IH : ∀ g, HeldG P w K mg base n g) : HeldG P w K mg base (n + 1) .f_law_some := by
  obtain ⟨f, fd, F, A⟩ := T.t_f_law_some
  refine ⟨_, f, fd, _, A, fnW (m := m_f_law_some (call n)) F sc_f_law_some (fun ws S h => if_neg h) (fun cdv A outer s H E hr => ?_) (fun ws S h => if_pos h)⟩
  exact (ss_cons (s_if (t_cmp op_gt snd_cmpI (e_call (IH .f_law_take) hr (takes_of rfl rfl rfl rfl) (a_cons (e_var 0) (a_cons e_int a_nil))) e_int)
 (ss_one (s_ret (e_call (IH .f_law_plain) hr (takes_of rfl rfl rfl rfl) (a_cons (e_var 0) (a_cons (e_var 1) (a_cons (e_var 2) (a_cons (e_var 3) a_nil)))))))
 ss_nil)
 (ss_one (s_ret (e_call (IH .f_law_body) hr (takes_of rfl rfl rfl rfl) (a_cons (e_var 0) (a_cons (e_var 1) (a_cons (e_var 2) (a_cons (e_var 3) (a_cons (e_var 4) a_nil)))))))))
theorem ok_f_law_choose (T : Txt K mg) (IH : ∀ g, HeldG P w K mg base n g) : HeldG P w K mg base (n + 1) .f_law_choose := by
  obtain ⟨f, fd, F, A⟩ := T.t_f_law_choose
  refine ⟨_, f, fd, _, A, fnW (m := m_f_law_choose (call n)) F sc_f_law_choose (fun ws S h => if_neg h) (fun cdv A outer s H E hr => ?_) (fun ws S h => if_pos h)⟩
  exact (ss_cons (s_lock (e2 ixW (eVar 1) (eC (.str (Str.ofString "shapes")))) (s_setLc 5 (own := [("name", 10)]) rfl sc_f_law_choose.nd (sw_true rfl rfl rfl (by decide +kernel)) (i_key (e_ixr (ix_any (hu2_of hr)) snd_ix (e_var 1) e_str)) (blkOk_by (own := [("name", 10)]) (N := ["stream", "world", "around", "kind", "deep", "flat", "own", "first", "branches", "tag", "name"]) (sc := defScope s_f_law_choose) (by decide +kernel)) (fun _ _ _ _ _ => (g_name 10 sc_f_law_choose.nd)) (fun _ _ _ _ _ => (ts_one (t_cmp (op_eqP (hu0_of hr)) snd_eq (e_ixr (ix_any (hu2_of hr)) snd_ix (e_ixr (ix_any (hu2_of hr)) snd_ix (e_ixr (ix_any (hu2_of hr)) snd_ix (e_var 1) e_str) (e_var 10)) e_int) e_str))) (fun _ _ _ _ _ => (e_var 10))))
 (ss_cons (s_set 6 sc_f_law_choose.nd (e_ixr (ix_any (hu2_of hr)) snd_ix (e_var 5) (e_call (IH .f_law_take) hr (takes_of rfl rfl rfl rfl) (a_cons (e_var 0) (a_cons (e_callB call_lenW snd_len (by rfl) T.z_len (by decide +kernel) (a_cons (e_var 5) a_nil)) a_nil)))))
 (ss_cons (s_set 7 sc_f_law_choose.nd (e_call (IH .f_law_some) hr (takes_of rfl rfl rfl rfl) (a_cons (e_var 0) (a_cons (e_var 1) (a_cons (e_var 2) (a_cons (e_var 6) (a_cons (e_op op_sub snd_sub (e_var 4) e_int) a_nil)))))))
 (ss_cons (s_set 8 sc_f_law_choose.nd (e_lst a_nil))
 (ss_cons (s_for (passes_of rfl) rfl (i_seq (e_ixr (ix_any (hu2_of hr)) snd_ix (e_ixr (ix_any (hu2_of hr)) snd_ix (e_ixr (ix_any (hu2_of hr)) snd_ix (e_var 1) e_str) (e_var 6)) e_int)) (g_name 9 sc_f_law_choose.nd)
 (ss_one (s_expr (e_bm PySem.F.plainAttrs_list PySem.F.slot_list_append PySem.F.type_list_append mt_append snd_append (e_var 8) (a_cons (e_tup (a_cons (e_var 9) (a_cons (e_call (IH .f_law_body) hr (takes_of rfl rfl rfl rfl) (a_cons (e_var 0) (a_cons (e_var 1) (a_cons (e_var 2) (a_cons (e_var 3) (a_cons (e_op op_sub snd_sub (e_var 4) e_int) a_nil)))))) a_nil))) a_nil)))))
 (ss_one (s_ret (e_tup (a_cons e_str (a_cons (e_var 7) (a_cons (e_callTy call_tuple_of snd_tuple (by rfl) T.z_tuple (by decide +kernel) (a_cons (e_var 8) a_nil)) a_nil)))))))))))
theorem ok_f_law_ask (T : Txt K mg) (IH : ∀ g, HeldG P w K mg base n g) : HeldG P w K mg base (n + 1) .f_law_ask := by
  obtain ⟨f, fd, F, A⟩ := T.t_f_law_ask
  refine ⟨_, f, fd, _, A, fnW (m := m_f_law_ask (call n)) F sc_f_law_ask (fun ws S h => if_neg h) (fun cdv A outer s H E hr => ?_) (fun ws S h => if_pos h)⟩
  exact (ss_cons (s_lock (e2 ixW (eVar 1) (eC (.str (Str.ofString "heads")))) (s_setLc 5 (own := [("f", 6)]) rfl sc_f_law_ask.nd (sw_true rfl rfl rfl (by decide +kernel)) (i_key (e_ixr (ix_any (hu2_of hr)) snd_ix (e_var 1) e_str)) (blkOk_by (own := [("f", 6)]) (N := ["stream", "world", "around", "kind", "deep", "some", "f", "given", "name", "own"]) (sc := defScope s_f_law_ask) (by decide +kernel)) (fun _ _ _ _ _ => (g_name 6 sc_f_law_ask.nd)) (fun _ _ _ _ _ => (ts_one (t_cmp (op_eqP (hu0_of hr)) snd_eq (e_ixr (ix_any (hu2_of hr)) snd_ix (e_ixr (ix_any (hu2_of hr)) snd_ix (e_ixr (ix_any (hu2_of hr)) snd_ix (e_var 1) e_str) (e_var 6)) e_int) (e_var 3)))) (fun _ _ _ _ _ => (e_var 6))))
 (ss_cons (s_if (t_cmp (op_eqP (hu0_of hr)) snd_eq (e_var 5) (e_lst a_nil))
 (ss_one (s_ret (e_call (IH .f_law_plain) hr (takes_of rfl rfl rfl rfl) (a_cons (e_var 0) (a_cons (e_var 1) (a_cons (e_var 2) (a_cons (e_var 3) a_nil)))))))
 ss_nil)
 (ss_cons (s_set 6 sc_f_law_ask.nd (e_ixr (ix_any (hu2_of hr)) snd_ix (e_var 5) (e_call (IH .f_law_take) hr (takes_of rfl rfl rfl rfl) (a_cons (e_var 0) (a_cons (e_callB call_lenW snd_len (by rfl) T.z_len (by decide +kernel) (a_cons (e_var 5) a_nil)) a_nil)))))
 (ss_cons (s_set 7 sc_f_law_ask.nd (e_lst a_nil))
 (ss_cons (s_for (passes_of rfl) rfl (i_seq (e_ixr (ix_any (hu2_of hr)) snd_ix (e_ixr (ix_any (hu2_of hr)) snd_ix (e_ixr (ix_any (hu2_of hr)) snd_ix (e_var 1) e_str) (e_var 6)) e_int)) (g_tup rfl (gs_cons (g_name 8 sc_f_law_ask.nd) (gs_cons (g_name 9 sc_f_law_ask.nd) gs_nil)))
 (ss_one (s_expr (e_bm PySem.F.plainAttrs_list PySem.F.slot_list_append PySem.F.type_list_append mt_append snd_append (e_var 7) (a_cons (e_call (IH .f_law_some) hr (takes_of rfl rfl rfl rfl) (a_cons (e_var 0) (a_cons (e_var 1) (a_cons (e_var 2) (a_cons (e_var 9) (a_cons (e_op op_sub snd_sub (e_var 4) e_int) a_nil)))))) a_nil)))))
 (ss_one (s_ret (e_tup (a_cons e_str (a_cons (e_var 6) (a_cons (e_callTy call_tuple_of snd_tuple (by rfl) T.z_tuple (by decide +kernel) (a_cons (e_var 7) a_nil)) a_nil)))))))))))
theorem ok_f_law_part (T : Txt K mg) (IH : ∀ g, HeldG P w K mg base n g) : HeldG P w K mg base (n + 1) .f_law_part := by
  obtain ⟨f, fd, F, A⟩ := T.t_f_law_part
  refine ⟨_, f, fd, _, A, fnW (m := m_f_law_part (call n)) F sc_f_law_part (fun ws S h => if_neg h) (fun cdv A outer s H E hr => ?_) (fun ws S h => if_pos h)⟩
  exact (ss_cons (s_set 5 sc_f_law_part.nd (e_lst a_nil))
 (ss_cons (s_lock (e2 ixW (eVar 1) (eC (.str (Str.ofString "shapes")))) (s_for (passes_of rfl) rfl (i_key (e_ixr (ix_any (hu2_of hr)) snd_ix (e_var 1) e_str)) (g_name 6 sc_f_law_part.nd)
 (ss_cons (s_set 7 sc_f_law_part.nd (e_ixr (ix_any (hu2_of hr)) snd_ix (e_ixr (ix_any (hu2_of hr)) snd_ix (e_var 1) e_str) (e_var 6)))
 (ss_cons (s_if (PW.pt (t_and (t_cmp (op_eqP (hu0_of hr)) snd_eq (e_ixr (ix_any (hu2_of hr)) snd_ix (e_var 7) e_int) e_str) (t_and1 (t_cmp (op_eqP (hu0_of hr)) snd_eq (e_ixr (ix_any (hu2_of hr)) snd_ix (e_var 7) e_int) (e_var 3)))))
 (ss_one (s_expr (e_bm PySem.F.plainAttrs_list PySem.F.slot_list_append PySem.F.type_list_append mt_append snd_append (e_var 5) (a_cons (e_tup (a_cons e_str (a_cons (e_var 6) a_nil))) a_nil))))
 ss_nil)
 (ss_one (s_if (PW.pt (t_and (t_cmp (op_eqP (hu0_of hr)) snd_eq (e_ixr (ix_any (hu2_of hr)) snd_ix (e_var 7) e_int) e_str) (t_and1 (t_cmp (op_eqP (hu0_of hr)) snd_eq (e_ixr (ix_any (hu2_of hr)) snd_ix (e_var 7) e_int) (e_var 3)))))
 (ss_one (s_expr (e_bm PySem.F.plainAttrs_list PySem.F.slot_list_append PySem.F.type_list_append mt_append snd_append (e_var 5) (a_cons (e_tup (a_cons e_str (a_cons (e_var 6) a_nil))) a_nil))))
 ss_nil))))))
 (ss_cons (s_if (t_cmp (op_eqP (hu0_of hr)) snd_eq (e_var 5) (e_lst a_nil))
 (ss_one (s_ret (e_call (IH .f_law_choose) hr (takes_of rfl rfl rfl rfl) (a_cons (e_var 0) (a_cons (e_var 1) (a_cons (e_var 2) (a_cons (e_var 3) (a_cons (e_var 4) a_nil))))))))
 ss_nil)
 (ss_cons (s_asg (e_ixr (ix_any (hu2_of hr)) snd_ix (e_var 5) (e_call (IH .f_law_take) hr (takes_of rfl rfl rfl rfl) (a_cons (e_var 0) (a_cons (e_callB call_lenW snd_len (by rfl) T.z_len (by decide +kernel) (a_cons (e_var 5) a_nil)) a_nil)))) (g_tup rfl (gs_cons (g_name 8 sc_f_law_part.nd) (gs_cons (g_name 9 sc_f_law_part.nd) gs_nil))))
 (ss_one (s_ret (e_tup (a_cons (e_var 8) (a_cons (e_call (IH .f_law_body) hr (takes_of rfl rfl rfl rfl) (a_cons (e_var 0) (a_cons (e_var 1) (a_cons (e_var 2) (a_cons (e_var 9) (a_cons (e_op op_sub snd_sub (e_var 4) e_int) a_nil)))))) a_nil)))))))))
theorem ok_f_law_let (T : Txt K mg) (IH : ∀ g, HeldG P w K mg base n g) : HeldG P w K mg base (n + 1) .f_law_let := by
  obtain ⟨f, fd, F, A⟩ := T.t_f_law_let
  refine ⟨_, f, fd, _, A, fnW (m := m_f_law_let (call n)) F sc_f_law_let (fun ws S h => if_neg h) (fun cdv A outer s H E hr => ?_) (fun ws S h => if_pos h)⟩
  exact (ss_cons (s_setLc 5 (own := [("one", 11)]) rfl sc_f_law_let.nd (sw_true rfl rfl rfl (by decide +kernel)) (i_seq (e_ixr (ix_any (hu2_of hr)) snd_ix (e_var 1) e_str)) (blkOk_by (own := [("one", 11)]) (N := ["stream", "world", "around", "kind", "deep", "names", "name", "lets", "own", "inner", "first", "one"]) (sc := defScope s_f_law_let) (by decide +kernel)) (fun _ _ _ _ _ => (g_name 11 sc_f_law_let.nd)) (fun _ _ _ _ _ => (ts_one (t_cmp (op_ninW (hu1_of hr)) snd_nin (e_var 11) (e_var 2)))) (fun _ _ _ _ _ => (e_var 11)))
 (ss_cons (s_if (t_cmp (op_eqP (hu0_of hr)) snd_eq (e_var 5) (e_lst a_nil))
 (ss_one (s_ret (e_call (IH .f_law_choose) hr (takes_of rfl rfl rfl rfl) (a_cons (e_var 0) (a_cons (e_var 1) (a_cons (e_var 2) (a_cons (e_var 3) (a_cons (e_var 4) a_nil))))))))
 ss_nil)
 (ss_cons (s_set 6 sc_f_law_let.nd (e_ixr (ix_any (hu2_of hr)) snd_ix (e_var 5) (e_call (IH .f_law_take) hr (takes_of rfl rfl rfl rfl) (a_cons (e_var 0) (a_cons (e_callB call_lenW snd_len (by rfl) T.z_len (by decide +kernel) (a_cons (e_var 5) a_nil)) a_nil)))))
 (ss_cons (s_set 7 sc_f_law_let.nd (e_callTy (call_listW rfl) snd_list (by rfl) T.z_list (by decide +kernel) (a_cons (e_ixr (ix_any (hu2_of hr)) snd_ix (e_var 1) e_str) a_nil)))
 (ss_cons (s_expr (e_bm PySem.F.plainAttrs_list PySem.F.slot_list_remove PySem.F.type_list_remove mt_removeS snd_removeS (e_var 7) (a_cons (e_var 6) a_nil)))
 (ss_cons (s_put (hu2_of hr) (e_var 7) (e_var 1) e_str)
 (ss_cons (s_set 8 sc_f_law_let.nd (e_ixr (ix_any (hu2_of hr)) snd_ix (e_callTy (call_listW rfl) snd_list (by rfl) T.z_list (by decide +kernel) (a_cons (e_ixr (ix_any (hu2_of hr)) snd_ix (e_var 1) e_str) a_nil)) (e_call (IH .f_law_take) hr (takes_of rfl rfl rfl rfl) (a_cons (e_var 0) (a_cons (e_callB call_lenW snd_len (by rfl) T.z_len (by decide +kernel) (a_cons (e_ixr (ix_any (hu2_of hr)) snd_ix (e_var 1) e_str) a_nil)) a_nil)))))
 (ss_cons (s_set 9 sc_f_law_let.nd (e_callTy (call_dictW rfl) snd_dict (by rfl) T.z_dict (by decide +kernel) (a_cons (e_var 2) a_nil)))
 (ss_cons (s_put (hu2_of hr) (e_var 8) (e_var 9) (e_var 6))
 (ss_cons (s_set 10 sc_f_law_let.nd (e_call (IH .f_law_body) hr (takes_of rfl rfl rfl rfl) (a_cons (e_var 0) (a_cons (e_var 1) (a_cons (e_var 9) (a_cons (e_var 8) (a_cons (e_op op_sub snd_sub (e_var 4) e_int) a_nil)))))))
 (ss_one (s_ret (e_tup (a_cons e_str (a_cons (e_var 6) (a_cons (e_var 8) (a_cons (e_var 10) (a_cons (e_call (IH .f_law_body) hr (takes_of rfl rfl rfl rfl) (a_cons (e_var 0) (a_cons (e_var 1) (a_cons (e_var 9) (a_cons (e_var 3) (a_cons (e_op op_sub snd_sub (e_var 4) e_int) a_nil)))))) a_nil))))))))))))))))))
theorem ok_f_law_body (T : Txt K mg) (IH : ∀ g, HeldG P w K mg base n g) : HeldG P w K mg base (n + 1) .f_law_body := by
  obtain ⟨f, fd, F, A⟩ := T.t_f_law_body
  refine ⟨_, f, fd, _, A, fnW (m := m_f_law_body (call n)) F sc_f_law_body (fun ws S h => if_neg h) (fun cdv A outer s H E hr => ?_) (fun ws S h => if_pos h)⟩
  exact (ss_cons (s_put (hu2_of hr) (e_op op_sub snd_sub (e_ixr (ix_any (hu2_of hr)) snd_ix (e_var 1) e_str) e_int) (e_var 1) e_str)
 (ss_cons (s_if (PW.pt (t_or (t_cmp (op_eqP (hu0_of hr)) snd_eq (e_var 4) e_int) (t_or1 (t_cmp op_lt snd_cmpI (e_ixr (ix_any (hu2_of hr)) snd_ix (e_var 1) e_str) e_int))))
 (ss_one (s_ret (e_call (IH .f_law_plain) hr (takes_of rfl rfl rfl rfl) (a_cons (e_var 0) (a_cons (e_var 1) (a_cons (e_var 2) (a_cons (e_var 3) a_nil)))))))
 ss_nil)
 (ss_cons (s_set 5 sc_f_law_body.nd (e_call (IH .f_law_take) hr (takes_of rfl rfl rfl rfl) (a_cons (e_var 0) (a_cons e_int a_nil))))
 (ss_cons (s_if (t_cmp (op_eqP (hu0_of hr)) snd_eq (e_var 5) e_int)
 (ss_one (s_ret (e_call (IH .f_law_plain) hr (takes_of rfl rfl rfl rfl) (a_cons (e_var 0) (a_cons (e_var 1) (a_cons (e_var 2) (a_cons (e_var 3) a_nil)))))))
 ss_nil)
 (ss_cons (s_if (t_cmp op_lt snd_cmpI (e_var 5) e_int)
 (ss_one (s_ret (e_call (IH .f_law_choose) hr (takes_of rfl rfl rfl rfl) (a_cons (e_var 0) (a_cons (e_var 1) (a_cons (e_var 2) (a_cons (e_var 3) (a_cons (e_var 4) a_nil))))))))
 ss_nil)
 (ss_cons (s_if (t_cmp op_lt snd_cmpI (e_var 5) e_int)
 (ss_one (s_ret (e_call (IH .f_law_part) hr (takes_of rfl rfl rfl rfl) (a_cons (e_var 0) (a_cons (e_var 1) (a_cons (e_var 2) (a_cons (e_var 3) (a_cons (e_var 4) a_nil))))))))
 ss_nil)
 (ss_cons (s_if (t_cmp (op_eqP (hu0_of hr)) snd_eq (e_var 5) e_int)
 (ss_one (s_ret (e_call (IH .f_law_let) hr (takes_of rfl rfl rfl rfl) (a_cons (e_var 0) (a_cons (e_var 1) (a_cons (e_var 2) (a_cons (e_var 3) (a_cons (e_var 4) a_nil))))))))
 ss_nil)
 (ss_cons (s_set 6 sc_f_law_body.nd (e_ixr (ix_any (hu2_of hr)) snd_ix (e_ixr (ix_any (hu2_of hr)) snd_ix (e_var 1) e_str) (e_var 3)))
 (ss_cons (s_if (PW.pt (t_and (t_cmp (op_eqP (hu0_of hr)) snd_eq (e_ixr (ix_any (hu2_of hr)) snd_ix (e_var 6) e_int) e_str) (t_and1 (t_cmp (op_eqP (hu0_of hr)) snd_eq (e_var 5) e_int))))
 (ss_cons (s_set 7 sc_f_law_body.nd (e_call (IH .f_law_body) hr (takes_of rfl rfl rfl rfl) (a_cons (e_var 0) (a_cons (e_var 1) (a_cons (e_var 2) (a_cons (e_ixr (ix_any (hu2_of hr)) snd_ix (e_var 6) e_int) (a_cons (e_op op_sub snd_sub (e_var 4) e_int) a_nil)))))))
 (ss_one (s_ret (e_tup (a_cons e_str (a_cons (e_var 7) (a_cons (e_call (IH .f_law_body) hr (takes_of rfl rfl rfl rfl) (a_cons (e_var 0) (a_cons (e_var 1) (a_cons (e_var 2) (a_cons (e_ixr (ix_any (hu2_of hr)) snd_ix (e_var 6) e_int) (a_cons (e_op op_sub snd_sub (e_var 4) e_int) a_nil)))))) a_nil)))))))
 ss_nil)
 (ss_one (s_ret (e_call (IH .f_law_ask) hr (takes_of rfl rfl rfl rfl) (a_cons (e_var 0) (a_cons (e_var 1) (a_cons (e_var 2) (a_cons (e_var 3) (a_cons (e_var 4) a_nil)))))))))))))))))
theorem ok_f_law_parts (T : Txt K mg) (IH : ∀ g, HeldG P w K mg base n g) : HeldG P w K mg base (n + 1) .f_law_parts := by
  obtain ⟨f, fd, F, A⟩ := T.t_f_law_parts
  refine ⟨_, f, fd, _, A, fnW (m := m_f_law_parts (call n)) F sc_f_law_parts (fun ws S h => if_neg h) (fun cdv A outer s H E hr => ?_) (fun ws S h => if_pos h)⟩
  exact (ss_cons (s_if (t_cmp (op_eqP (hu0_of hr)) snd_eq (e_ixr (ix_any (hu2_of hr)) snd_ix (e_var 0) e_int) e_str)
 (ss_one (s_ret (e_op op_addW snd_add (e_lst (a_cons (e_ixr (ix_any (hu2_of hr)) snd_ix (e_var 0) e_int) a_nil)) (e_lc (own := [("row", 1)]) rfl sc_f_law_parts.nd (i_seq (e_ixr (ix_any (hu2_of hr)) snd_ix (e_var 0) e_int)) (blkOk_by (own := [("row", 1)]) (N := ["body", "row", "part"]) (sc := defScope s_f_law_parts) (by decide +kernel)) (fun _ _ _ _ _ => (g_name 1 sc_f_law_parts.nd)) (fun _ _ _ _ _ => ts_nil) (fun _ _ _ _ _ => (e_ixr (ix_any (hu2_of hr)) snd_ix (e_var 1) e_int))))))
 ss_nil)
 (ss_cons (s_if (t_cmp (op_eqP (hu0_of hr)) snd_eq (e_ixr (ix_any (hu2_of hr)) snd_ix (e_var 0) e_int) e_str)
 (ss_one (s_ret (e_callTy (call_listW rfl) snd_list (by rfl) T.z_list (by decide +kernel) (a_cons (e_ixr (ix_any (hu2_of hr)) snd_ix (e_var 0) e_int) a_nil))))
 ss_nil)
 (ss_one (s_ret (e_lc (own := [("part", 2)]) rfl sc_f_law_parts.nd (i_seq (e_slice (e_var 0) (o_some e_int) o_none)) (blkOk_by (own := [("part", 2)]) (N := ["body", "row", "part"]) (sc := defScope s_f_law_parts) (by decide +kernel)) (fun _ _ _ _ _ => (g_name 2 sc_f_law_parts.nd)) (fun _ _ _ _ _ => (ts_one (t_val (e_callB call_isiW snd_isi (by rfl) T.z_isinstance (by decide +kernel) (a_cons (e_var 2) (a_cons (e_type (by rfl) T.z_tuple (by decide +kernel)) a_nil)))))) (fun _ _ _ _ _ => (e_var 2)))))))
theorem ok_f_law_size (T : Txt K mg) (IH : ∀ g, HeldG P w K mg base n g) : HeldG P w K mg base (n + 1) .f_law_size := by
  obtain ⟨f, fd, F, A⟩ := T.t_f_law_size
  refine ⟨_, f, fd, _, A, fnW (m := m_f_law_size (call n)) F sc_f_law_size (fun ws S h => if_neg h) (fun cdv A outer s H E hr => ?_) (fun ws S h => if_pos h)⟩
  exact (ss_one (s_ret (e_op op_addW snd_add e_int (e_callB (cr_sum rfl) snd_sum (by rfl) T.z_sum (by decide +kernel) (a_cons (e_lc (own := [("part", 1)]) rfl sc_f_law_size.nd (i_seq (e_call (IH .f_law_parts) hr (takes_of rfl rfl rfl rfl) (a_cons (e_var 0) a_nil))) (blkOk_by (own := [("part", 1)]) (N := ["body", "part"]) (sc := defScope s_f_law_size) (by decide +kernel)) (fun _ _ _ _ _ => (g_name 1 sc_f_law_size.nd)) (fun _ _ _ _ _ => ts_nil) (fun _ _ _ _ _ => (e_call (IH .f_law_size) hr takesB (a_cons (e_var 1) a_nil)))) a_nil)))))
theorem ok_f_law_book (T : Txt K mg) (IH : ∀ g, HeldG P w K mg base n g) : HeldG P w K mg base (n + 1) .f_law_book := by
  obtain ⟨f, fd, F, A⟩ := T.t_f_law_book
  refine ⟨_, f, fd, _, A, fnW (m := m_f_law_book (call n)) F sc_f_law_book (fun ws S h => if_neg h) (fun cdv A outer s H E hr => ?_) (fun ws S h => if_pos h)⟩
  exact (ss_cons (s_set 5 sc_f_law_book.nd (e_call (IH .f_law_stream) hr (takes_of rfl rfl rfl rfl) (a_cons (e_var 0) a_nil)))
 (ss_cons (s_asg (e_call (IH .f_law_kinds) hr (takes_of rfl rfl rfl rfl) (a_cons (e_var 5) (a_cons (e_var 1) (a_cons (e_callB (call_min2 rfl) snd_min2 (by rfl) T.z_min (by decide +kernel) (a_cons (e_var 3) (a_cons e_int a_nil))) a_nil)))) (g_tup rfl (gs_cons (g_name 6 sc_f_law_book.nd) (gs_cons (g_name 7 sc_f_law_book.nd) gs_nil))))
 (ss_cons (s_set 8 sc_f_law_book.nd (e_call (IH .f_law_heads) hr (takes_of rfl rfl rfl rfl) (a_cons (e_var 5) (a_cons (e_var 6) (a_cons (e_var 7) (a_cons (e_var 2) (a_cons (e_var 3) a_nil)))))))
 (ss_cons (s_set 9 sc_f_law_book.nd (e_call (IH .f_law_small) hr (takes_of rfl rfl rfl rfl) (a_cons (e_var 5) (a_cons e_int a_nil))))
 (ss_cons (s_put (hu2_of hr) (e_ixr (ix_any (hu2_of hr)) snd_ix (e_var 9) (e_ixr (ix_any (hu2_of hr)) snd_ix (e_lst (a_cons e_int (a_cons e_int a_nil))) (e_call (IH .f_law_take) hr (takes_of rfl rfl rfl rfl) (a_cons (e_var 5) (a_cons e_int a_nil))))) (e_var 9) e_int)
 (ss_cons (s_set 10 sc_f_law_book.nd (e_lst a_nil))
 (ss_cons (s_lock (eVar 8) (s_for (passes_of rfl) rfl (i_key (e_var 8)) (g_name 11 sc_f_law_book.nd)
 (ss_cons (s_set 12 sc_f_law_book.nd (e_callTy (call_dict2 rfl) snd_dict2 (by rfl) T.z_dict (by decide +kernel) (a_cons (e_ixr (ix_any (hu2_of hr)) snd_ix (e_ixr (ix_any (hu2_of hr)) snd_ix (e_var 8) (e_var 11)) e_int) a_nil)))
 (ss_cons (s_set 13 sc_f_law_book.nd (e_disp (d_cons (e_callTy (call_dictW rfl) snd_dict (by rfl) T.z_dict (by decide +kernel) (a_cons (e_var 6) a_nil)) (d_cons (e_var 8) (d_cons (e_var 9) (d_cons (e_var 4) d_nil)))) (by decide)))
 (ss_cons (s_set 14 sc_f_law_book.nd (e_call (IH .f_law_body) hr (takes_of rfl rfl rfl rfl) (a_cons (e_var 5) (a_cons (e_var 13) (a_cons (e_var 12) (a_cons (e_ixr (ix_any (hu2_of hr)) snd_ix (e_ixr (ix_any (hu2_of hr)) snd_ix (e_var 8) (e_var 11)) e_int) (a_cons e_int a_nil)))))))
 (ss_cons (s_if (t_cmp op_gt snd_cmpI (e_call (IH .f_law_size) hr (takes_of rfl rfl rfl rfl) (a_cons (e_var 14) a_nil)) e_int)
 (ss_one (s_set 14 sc_f_law_book.nd (e_call (IH .f_law_plain) hr (takes_of rfl rfl rfl rfl) (a_cons (e_var 5) (a_cons (e_var 13) (a_cons (e_var 12) (a_cons (e_ixr (ix_any (hu2_of hr)) snd_ix (e_ixr (ix_any (hu2_of hr)) snd_ix (e_var 8) (e_var 11)) e_int) a_nil)))))))
 ss_nil)
 (ss_one (s_expr (e_bm PySem.F.plainAttrs_list PySem.F.slot_list_append PySem.F.type_list_append mt_append snd_append (e_var 10) (a_cons (e_tup (a_cons (e_var 11) (a_cons (e_ixr (ix_any (hu2_of hr)) snd_ix (e_ixr (ix_any (hu2_of hr)) snd_ix (e_var 8) (e_var 11)) e_int) (a_cons (e_ixr (ix_any (hu2_of hr)) snd_ix (e_ixr (ix_any (hu2_of hr)) snd_ix (e_var 8) (e_var 11)) e_int) (a_cons (e_var 14) a_nil))))) a_nil))))))))))
 (ss_one (s_ret (e_tup (a_cons (e_var 6) (a_cons (e_var 10) a_nil))))))))))))
theorem ok_f_law_same (T : Txt K mg) (IH : ∀ g, HeldG P w K mg base n g) : HeldG P w K mg base (n + 1) .f_law_same := by
  obtain ⟨f, fd, F, A⟩ := T.t_f_law_same
  refine ⟨_, f, fd, _, A, fnW (m := m_f_law_same (call n)) F sc_f_law_same (fun ws S h => if_neg h) (fun cdv A outer s H E hr => ?_) (fun ws S h => if_pos h)⟩
  exact (ss_cons (s_if (t_cmp op_isN snd_is (e_var 1) e_non)
 (ss_one (s_ret (e_cmp op_isN snd_is (e_var 0) e_non)))
 ss_nil)
 (ss_cons (s_if (t_val (e_callB call_isiW snd_isi (by rfl) T.z_isinstance (by decide +kernel) (a_cons (e_var 1) (a_cons (e_type (by rfl) T.z_bool (by decide +kernel)) a_nil))))
 (ss_one (s_ret (e_and (e_callB call_isiW snd_isi (by rfl) T.z_isinstance (by decide +kernel) (a_cons (e_var 0) (a_cons (e_type (by rfl) T.z_bool (by decide +kernel)) a_nil))) (e_one (e_cmp (op_eqP (hu0_of hr)) snd_eq (e_var 0) (e_var 1))))))
 ss_nil)
 (ss_cons (s_if (t_val (e_callB call_isiW snd_isi (by rfl) T.z_isinstance (by decide +kernel) (a_cons (e_var 1) (a_cons (e_type (by rfl) T.z_str (by decide +kernel)) a_nil))))
 (ss_one (s_ret (e_and (e_callB call_isiW snd_isi (by rfl) T.z_isinstance (by decide +kernel) (a_cons (e_var 0) (a_cons (e_type (by rfl) T.z_str (by decide +kernel)) a_nil))) (e_one (e_cmp (op_eqP (hu0_of hr)) snd_eq (e_var 0) (e_var 1))))))
 ss_nil)
 (ss_cons (s_if (t_val (e_callB call_isiW snd_isi (by rfl) T.z_isinstance (by decide +kernel) (a_cons (e_var 1) (a_cons (e_type (by rfl) T.z_int (by decide +kernel)) a_nil))))
 (ss_one (s_ret (e_and (e_callB call_isiW snd_isi (by rfl) T.z_isinstance (by decide +kernel) (a_cons (e_var 0) (a_cons (e_type (by rfl) T.z_int (by decide +kernel)) a_nil))) (e_and (e_not (e_callB call_isiW snd_isi (by rfl) T.z_isinstance (by decide +kernel) (a_cons (e_var 0) (a_cons (e_type (by rfl) T.z_bool (by decide +kernel)) a_nil)))) (e_one (e_cmp (op_eqP (hu0_of hr)) snd_eq (e_var 0) (e_var 1)))))))
 ss_nil)
 (ss_cons (s_if (PW.pt (t_or (PW.pt (t_and (t_val (e_callB call_isiW snd_isi (by rfl) T.z_isinstance (by decide +kernel) (a_cons (e_var 1) (a_cons (e_type (by rfl) T.z_tuple (by decide +kernel)) a_nil)))) (t_and1 (t_not (t_val (e_callB call_isiW snd_isi (by rfl) T.z_isinstance (by decide +kernel) (a_cons (e_var 0) (a_cons (e_type (by rfl) T.z_tuple (by decide +kernel)) a_nil)))))))) (t_or1 (PW.pt (t_and (t_val (e_callB call_isiW snd_isi (by rfl) T.z_isinstance (by decide +kernel) (a_cons (e_var 1) (a_cons (e_type (by rfl) T.z_list (by decide +kernel)) a_nil)))) (t_and1 (t_not (t_val (e_callB call_isiW snd_isi (by rfl) T.z_isinstance (by decide +kernel) (a_cons (e_var 0) (a_cons (e_type (by rfl) T.z_list (by decide +kernel)) a_nil)))))))))))
 (ss_one (s_ret e_bl))
 ss_nil)
 (ss_cons (s_if (t_cmp (op_neP (hu0_of hr)) snd_ne (e_callB call_lenW snd_len (by rfl) T.z_len (by decide +kernel) (a_cons (e_var 0) a_nil)) (e_callB call_lenW snd_len (by rfl) T.z_len (by decide +kernel) (a_cons (e_var 1) a_nil)))
 (ss_one (s_ret e_bl))
 ss_nil)
 (ss_one (s_ret (e_callB (cr_all rfl) snd_all (by rfl) T.z_all (by decide +kernel) (a_cons (e_lc (own := [("one", 2), ("other", 3)]) rfl sc_f_law_same.nd (i_zip T.z_zip (e_var 0) (e_var 1)) (blkOk_by (own := [("one", 2), ("other", 3)]) (N := ["found", "due", "one", "other"]) (sc := defScope s_f_law_same) (by decide +kernel)) (fun _ _ _ _ _ => (g_tup rfl (gs_cons (g_name 2 sc_f_law_same.nd) (gs_cons (g_name 3 sc_f_law_same.nd) gs_nil)))) (fun _ _ _ _ _ => ts_nil) (fun _ _ _ _ _ => (e_call (IH .f_law_same) hr takesB (a_cons (e_var 2) (a_cons (e_var 3) a_nil))))) a_nil))))))))))
theorem ok_f_law_places (T : Txt K mg) (IH : ∀ g, HeldG P w K mg base n g) : HeldG P w K mg base (n + 1) .f_law_places := by
  obtain ⟨f, fd, F, A⟩ := T.t_f_law_places
  refine ⟨_, f, fd, _, A, fnW (m := m_f_law_places (call n)) F sc_f_law_places (fun ws S h => if_neg h) (fun cdv A outer s H E hr => ?_) (fun ws S h => if_pos h)⟩
  exact (ss_cons (s_set 1 sc_f_law_places.nd (e_lst (a_cons (e_tup a_nil) a_nil)))
 (ss_cons (s_for (passes_of rfl) rfl (i_en T.z_enumerate (e_call (IH .f_law_parts) hr (takes_of rfl rfl rfl rfl) (a_cons (e_var 0) a_nil))) (g_tup rfl (gs_cons (g_name 2 sc_f_law_places.nd) (gs_cons (g_name 3 sc_f_law_places.nd) gs_nil)))
 (ss_one (s_set 1 sc_f_law_places.nd (e_op op_addW snd_add (e_var 1) (e_lc (own := [("place", 4)]) rfl sc_f_law_places.nd (i_seq (e_call (IH .f_law_places) hr (takes_of rfl rfl rfl rfl) (a_cons (e_var 3) a_nil))) (blkOk_by (own := [("place", 4)]) (N := ["body", "found", "k", "part", "place"]) (sc := defScope s_f_law_places) (by decide +kernel)) (fun _ _ _ _ _ => (g_name 4 sc_f_law_places.nd)) (fun _ _ _ _ _ => ts_nil) (fun _ _ _ _ _ => (e_op op_addW snd_add (e_tup (a_cons (e_var 2) a_nil)) (e_var 4))))))))
 (ss_one (s_ret (e_var 1)))))
theorem ok_f_law_exchanged (T : Txt K mg) (IH : ∀ g, HeldG P w K mg base n g) : HeldG P w K mg base (n + 1) .f_law_exchanged := by
  obtain ⟨f, fd, F, A⟩ := T.t_f_law_exchanged
  refine ⟨_, f, fd, _, A, fnW (m := m_f_law_exchanged (call n)) F sc_f_law_exchanged (fun ws S h => if_neg h) (fun cdv A outer s H E hr => ?_) (fun ws S h => if_pos h)⟩
  exact (ss_cons (s_if (t_cmp (op_eqP (hu0_of hr)) snd_eq (e_var 1) (e_tup a_nil))
 (ss_one (s_ret (e_var 2)))
 ss_nil)
 (ss_cons (s_set 3 sc_f_law_exchanged.nd (e_call (IH .f_law_parts) hr (takes_of rfl rfl rfl rfl) (a_cons (e_var 0) a_nil)))
 (ss_cons (s_put (hu2_of hr) (e_call (IH .f_law_exchanged) hr (takes_of rfl rfl rfl rfl) (a_cons (e_ixr (ix_any (hu2_of hr)) snd_ix (e_var 3) (e_ixr (ix_any (hu2_of hr)) snd_ix (e_var 1) e_int)) (a_cons (e_slice (e_var 1) (o_some e_int) o_none) (a_cons (e_var 2) a_nil)))) (e_var 3) (e_ixr (ix_any (hu2_of hr)) snd_ix (e_var 1) e_int))
 (ss_cons (s_if (t_cmp (op_eqP (hu0_of hr)) snd_eq (e_ixr (ix_any (hu2_of hr)) snd_ix (e_var 0) e_int) e_str)
 (ss_one (s_ret (e_tup (a_cons e_str (a_cons (e_ixr (ix_any (hu2_of hr)) snd_ix (e_var 3) e_int) (a_cons (e_callTy call_tuple_of snd_tuple (by rfl) T.z_tuple (by decide +kernel) (a_cons (e_lc (own := [("row", 4), ("branch", 5)]) rfl sc_f_law_exchanged.nd (i_zip2 T.z_zip (e_ixr (ix_any (hu2_of hr)) snd_ix (e_var 0) e_int) (e_slice (e_var 3) (o_some e_int) o_none)) (blkOk_by (own := [("row", 4), ("branch", 5)]) (N := ["body", "place", "other", "some", "row", "branch"]) (sc := defScope s_f_law_exchanged) (by decide +kernel)) (fun _ _ _ _ _ => (g_tup rfl (gs_cons (g_name 4 sc_f_law_exchanged.nd) (gs_cons (g_name 5 sc_f_law_exchanged.nd) gs_nil)))) (fun _ _ _ _ _ => ts_nil) (fun _ _ _ _ _ => (e_tup (a_cons (e_ixr (ix_any (hu2_of hr)) snd_ix (e_var 4) e_int) (a_cons (e_var 5) a_nil))))) a_nil)) a_nil))))))
 ss_nil)
 (ss_cons (s_if (t_cmp (op_eqP (hu0_of hr)) snd_eq (e_ixr (ix_any (hu2_of hr)) snd_ix (e_var 0) e_int) e_str)
 (ss_one (s_ret (e_tup (a_cons e_str (a_cons (e_ixr (ix_any (hu2_of hr)) snd_ix (e_var 0) e_int) (a_cons (e_callTy call_tuple_of snd_tuple (by rfl) T.z_tuple (by decide +kernel) (a_cons (e_var 3) a_nil)) a_nil))))))
 ss_nil)
 (ss_cons (s_if (t_cmp (op_eqP (hu0_of hr)) snd_eq (e_ixr (ix_any (hu2_of hr)) snd_ix (e_var 0) e_int) e_str)
 (ss_one (s_ret (e_tup (a_cons e_str (a_cons (e_ixr (ix_any (hu2_of hr)) snd_ix (e_var 0) e_int) (a_cons (e_ixr (ix_any (hu2_of hr)) snd_ix (e_var 0) e_int) (a_cons (e_ixr (ix_any (hu2_of hr)) snd_ix (e_var 3) e_int) (a_cons (e_ixr (ix_any (hu2_of hr)) snd_ix (e_var 3) e_int) a_nil))))))))
 ss_nil)
 (ss_one (s_ret (e_op op_addW snd_add (e_tup (a_cons (e_ixr (ix_any (hu2_of hr)) snd_ix (e_var 0) e_int) a_nil)) (e_callTy call_tuple_of snd_tuple (by rfl) T.z_tuple (by decide +kernel) (a_cons (e_var 3) a_nil)))))))))))
theorem ok_f_law_put (T : Txt K mg) (IH : ∀ g, HeldG P w K mg base n g) : HeldG P w K mg base (n + 1) .f_law_put := by
  obtain ⟨f, fd, F, A⟩ := T.t_f_law_put
  refine ⟨_, f, fd, _, A, fnW (m := m_f_law_put (call n)) F sc_f_law_put (fun ws S h => if_neg h) (fun cdv A outer s H E hr => ?_) (fun ws S h => if_pos h)⟩
  exact (ss_cons (s_for (passes_of rfl) rfl (i_rng1 T.z_range (e_callB call_lenW snd_len (by rfl) T.z_len (by decide +kernel) (a_cons (e_var 1) a_nil))) (g_name 3 sc_f_law_put.nd)
 (ss_cons (s_set 4 sc_f_law_put.nd (e_slice (e_var 1) o_none (o_some (e_op op_sub snd_sub (e_op op_sub snd_sub (e_callB call_lenW snd_len (by rfl) T.z_len (by decide +kernel) (a_cons (e_var 1) a_nil)) e_int) (e_var 3)))))
 (ss_cons (s_set 5 sc_f_law_put.nd (e_call (IH .f_part_at) hr (takes_of rfl rfl rfl rfl) (a_cons (e_var 0) (a_cons (e_var 4) a_nil))))
 (ss_cons (s_set 6 sc_f_law_put.nd (e_callTy (call_listW rfl) snd_list (by rfl) T.z_list (by decide +kernel) (a_cons (e_call (IH .f_parts) hr (takes_of rfl rfl rfl rfl) (a_cons (e_var 5) a_nil)) a_nil)))
 (ss_cons (s_put (hu2_of hr) (e_var 2) (e_var 6) (e_ixr (ix_any (hu2_of hr)) snd_ix (e_var 1) (e_callB call_lenW snd_len (by rfl) T.z_len (by decide +kernel) (a_cons (e_var 4) a_nil))))
 (ss_one (s_set 2 sc_f_law_put.nd (e_call (IH .f_with_parts) hr (takes_of rfl rfl rfl rfl) (a_cons (e_var 5) (a_cons (e_callTy call_tuple_of snd_tuple (by rfl) T.z_tuple (by decide +kernel) (a_cons (e_var 6) a_nil)) a_nil))))))))))
 (ss_one (s_ret (e_var 2))))
theorem ok_f_law_right (T : Txt K mg) (IH : ∀ g, HeldG P w K mg base n g) : HeldG P w K mg base (n + 1) .f_law_right := by
  obtain ⟨f, fd, F, A⟩ := T.t_f_law_right
  refine ⟨_, f, fd, _, A, fnW (m := m_f_law_right (call n)) F sc_f_law_right (fun ws S h => if_neg h) (fun cdv A outer s H E hr => ?_) (fun ws S h => if_pos h)⟩
  exact (ss_cons (s_set 3 sc_f_law_right.nd (e_call (IH .f_law_places) hr (takes_of rfl rfl rfl rfl) (a_cons (e_var 0) a_nil)))
 (ss_cons (s_set 4 sc_f_law_right.nd (e_call (IH .f_places) hr (takes_of rfl rfl rfl rfl) (a_cons (e_var 0) a_nil)))
 (ss_cons (s_if (PW.pt (t_or (t_not (t_val (e_call (IH .f_law_same) hr (takes_of rfl rfl rfl rfl) (a_cons (e_var 4) (a_cons (e_var 3) a_nil))))) (t_or (t_cmp (op_neP (hu0_of hr)) snd_ne (e_var 3) (e_callB (call_sortedW (hu1_of hr)) snd_sorted (by rfl) T.z_sorted (by decide +kernel) (a_cons (e_var 3) a_nil))) (t_or1 (t_not (t_val (e_call (IH .f_law_same) hr (takes_of rfl rfl rfl rfl) (a_cons (e_call (IH .f_parts) hr (takes_of rfl rfl rfl rfl) (a_cons (e_var 0) a_nil)) (a_cons (e_callTy call_tuple_of snd_tuple (by rfl) T.z_tuple (by decide +kernel) (a_cons (e_call (IH .f_law_parts) hr (takes_of rfl rfl rfl rfl) (a_cons (e_var 0) a_nil)) a_nil)) a_nil)))))))))
 (ss_one (s_ret e_bl))
 ss_nil)
 (ss_cons (s_put (hu2_of hr) (e_tup (a_cons e_int a_nil)) (e_var 4) e_int)
 (ss_cons (s_for (passes_of rfl) rfl (i_seq (e_var 3)) (g_name 5 sc_f_law_right.nd)
 (ss_cons (s_set 6 sc_f_law_right.nd (e_var 0))
 (ss_cons (s_for (passes_of rfl) rfl (i_seq (e_var 5)) (g_name 7 sc_f_law_right.nd)
 (ss_one (s_set 6 sc_f_law_right.nd (e_ixr (ix_any (hu2_of hr)) snd_ix (e_call (IH .f_law_parts) hr (takes_of rfl rfl rfl rfl) (a_cons (e_var 6) a_nil)) (e_var 7)))))
 (ss_one (s_if (t_not (t_val (e_call (IH .f_law_same) hr (takes_of rfl rfl rfl rfl) (a_cons (e_call (IH .f_part_at) hr (takes_of rfl rfl rfl rfl) (a_cons (e_var 0) (a_cons (e_var 5) a_nil))) (a_cons (e_var 6) a_nil)))))
 (ss_one (s_ret e_bl))
 ss_nil)))))
 (ss_cons (s_if (PW.pt (t_or (t_not (t_val (e_call (IH .f_law_same) hr (takes_of rfl rfl rfl rfl) (a_cons (e_call (IH .f_places) hr (takes_of rfl rfl rfl rfl) (a_cons (e_var 0) a_nil)) (a_cons (e_var 3) a_nil))))) (t_or1 (t_not (t_val (e_call (IH .f_law_same) hr (takes_of rfl rfl rfl rfl) (a_cons (e_call (IH .f_with_parts) hr (takes_of rfl rfl rfl rfl) (a_cons (e_var 0) (a_cons (e_call (IH .f_parts) hr (takes_of rfl rfl rfl rfl) (a_cons (e_var 0) a_nil)) a_nil))) (a_cons (e_var 0) a_nil))))))))
 (ss_one (s_ret e_bl))
 ss_nil)
 (ss_one (s_ret (e_call (IH .f_law_same) hr (takes_of rfl rfl rfl rfl) (a_cons (e_call (IH .f_law_put) hr (takes_of rfl rfl rfl rfl) (a_cons (e_var 0) (a_cons (e_var 1) (a_cons (e_var 2) a_nil)))) (a_cons (e_call (IH .f_law_exchanged) hr (takes_of rfl rfl rfl rfl) (a_cons (e_var 0) (a_cons (e_var 1) (a_cons (e_var 2) a_nil)))) a_nil)))))))))))
theorem ok_f_law (T : Txt K mg) (IH : ∀ g, HeldG P w K mg base n g) : HeldG P w K mg base (n + 1) .f_law := by
  obtain ⟨f, fd, F, A⟩ := T.t_f_law
  refine ⟨_, f, fd, _, A, fnW (m := m_f_law (call n)) F sc_f_law (fun ws S h => if_neg h) (fun cdv A outer s H E hr => ?_) (fun ws S h => if_pos h)⟩
  exact (ss_cons (s_for (passes_of rfl) rfl (i_rng1 T.z_range (e_callB (call_max2 rfl) snd_max2 (by rfl) T.z_max (by decide +kernel) (a_cons e_int (a_cons (e_op op_fdiv snd_fdiv (e_callB (call_min2 rfl) snd_min2 (by rfl) T.z_min (by decide +kernel) (a_cons (e_callB call_lenW snd_len (by rfl) T.z_len (by decide +kernel) (a_cons (e_var 0) a_nil)) (a_cons e_int a_nil))) e_int) a_nil)))) (g_name 1 sc_f_law.nd)
 (ss_cons (s_asg (e_call (IH .f_law_book) hr (takes_of rfl rfl rfl rfl) (a_cons (e_call (IH .f_law_cell) hr (takes_of rfl rfl rfl rfl) (a_cons (e_var 0) (a_cons (e_op op_mulW' snd_mul e_int (e_var 1)) a_nil))) (a_cons e_int (a_cons e_int (a_cons e_int (a_cons e_int a_nil)))))) (g_tup rfl (gs_cons (g_name 2 sc_f_law.nd) (gs_cons (g_name 3 sc_f_law.nd) gs_nil))))
 (ss_cons (s_set 4 sc_f_law.nd (e_call (IH .f_law_stream) hr (takes_of rfl rfl rfl rfl) (a_cons (e_call (IH .f_law_cell) hr (takes_of rfl rfl rfl rfl) (a_cons (e_var 0) (a_cons (e_op op_addW snd_add (e_op op_mulW' snd_mul e_int (e_var 1)) e_int) a_nil))) a_nil)))
 (ss_one (s_for (passes_of rfl) rfl (i_seq (e_var 3)) (g_tup rfl (gs_cons (g_name 5 sc_f_law.nd) (gs_cons (g_name 6 sc_f_law.nd) (gs_cons (g_name 7 sc_f_law.nd) (gs_cons (g_name 8 sc_f_law.nd) gs_nil)))))
 (ss_cons (s_set 9 sc_f_law.nd (e_call (IH .f_law_places) hr (takes_of rfl rfl rfl rfl) (a_cons (e_var 8) a_nil)))
 (ss_cons (s_set 10 sc_f_law.nd (e_ixr (ix_any (hu2_of hr)) snd_ix (e_var 9) (e_call (IH .f_law_take) hr (takes_of rfl rfl rfl rfl) (a_cons (e_var 4) (a_cons (e_callB call_lenW snd_len (by rfl) T.z_len (by decide +kernel) (a_cons (e_var 9) a_nil)) a_nil)))))
 (ss_cons (s_set 11 sc_f_law.nd (e_lst (a_cons (e_tup (a_cons e_str (a_cons e_str a_nil))) (a_cons (e_tup (a_cons e_str (a_cons e_str a_nil))) (a_cons (e_tup (a_cons e_str (a_cons (e_tup (a_cons e_str (a_cons e_str a_nil))) a_nil))) (a_cons (e_tup (a_cons e_str (a_cons (e_tup (a_cons e_str (a_cons e_str a_nil))) (a_cons (e_tup (a_cons e_str (a_cons e_str a_nil))) a_nil)))) a_nil))))))
 (ss_cons (s_set 11 sc_f_law.nd (e_ixr (ix_any (hu2_of hr)) snd_ix (e_var 11) (e_call (IH .f_law_take) hr (takes_of rfl rfl rfl rfl) (a_cons (e_var 4) (a_cons e_int a_nil)))))
 (ss_cons (s_if (PW.pt (t_or (t_cmp op_gt snd_cmpI (e_callB call_lenW snd_len (by rfl) T.z_len (by decide +kernel) (a_cons (e_var 10) a_nil)) e_int) (t_or1 (t_cmp op_gt snd_cmpI (e_call (IH .f_law_size) hr (takes_of rfl rfl rfl rfl) (a_cons (e_var 8) a_nil)) e_int))))
 (ss_one (s_set 11 sc_f_law.nd (e_tup (a_cons e_str (a_cons e_str a_nil)))))
 ss_nil)
 (ss_one (s_if (t_not (t_val (e_call (IH .f_law_right) hr (takes_of rfl rfl rfl rfl) (a_cons (e_var 8) (a_cons (e_var 10) (a_cons (e_var 11) a_nil))))))
 (ss_one (s_ret e_bl))
 ss_nil))))))))))))
 (ss_one (s_ret e_bl)))
theorem fn_f_law (T : Txt K mg) (IH : ∀ g, HeldG P w K mg base n g) {f : Addr} {fd : FuncData} (F : Fun K "law" "law" s_f_law f fd) : FnOk P w K mg base (L2.CX P w) (n + 1) f fd ["script"] (spF K mg (call (n + 1) .f_law)) := by
  refine fnW (m := m_f_law (call n)) F sc_f_law (fun ws S h => if_neg h) (fun cdv A outer s H E hr => ?_) (fun ws S h => if_pos h)
  exact (ss_cons (s_for (passes_of rfl) rfl (i_rng1 T.z_range (e_callB (call_max2 rfl) snd_max2 (by rfl) T.z_max (by decide +kernel) (a_cons e_int (a_cons (e_op op_fdiv snd_fdiv (e_callB (call_min2 rfl) snd_min2 (by rfl) T.z_min (by decide +kernel) (a_cons (e_callB call_lenW snd_len (by rfl) T.z_len (by decide +kernel) (a_cons (e_var 0) a_nil)) (a_cons e_int a_nil))) e_int) a_nil)))) (g_name 1 sc_f_law.nd)
 (ss_cons (s_asg (e_call (IH .f_law_book) hr (takes_of rfl rfl rfl rfl) (a_cons (e_call (IH .f_law_cell) hr (takes_of rfl rfl rfl rfl) (a_cons (e_var 0) (a_cons (e_op op_mulW' snd_mul e_int (e_var 1)) a_nil))) (a_cons e_int (a_cons e_int (a_cons e_int (a_cons e_int a_nil)))))) (g_tup rfl (gs_cons (g_name 2 sc_f_law.nd) (gs_cons (g_name 3 sc_f_law.nd) gs_nil))))
 (ss_cons (s_set 4 sc_f_law.nd (e_call (IH .f_law_stream) hr (takes_of rfl rfl rfl rfl) (a_cons (e_call (IH .f_law_cell) hr (takes_of rfl rfl rfl rfl) (a_cons (e_var 0) (a_cons (e_op op_addW snd_add (e_op op_mulW' snd_mul e_int (e_var 1)) e_int) a_nil))) a_nil)))
 (ss_one (s_for (passes_of rfl) rfl (i_seq (e_var 3)) (g_tup rfl (gs_cons (g_name 5 sc_f_law.nd) (gs_cons (g_name 6 sc_f_law.nd) (gs_cons (g_name 7 sc_f_law.nd) (gs_cons (g_name 8 sc_f_law.nd) gs_nil)))))
 (ss_cons (s_set 9 sc_f_law.nd (e_call (IH .f_law_places) hr (takes_of rfl rfl rfl rfl) (a_cons (e_var 8) a_nil)))
 (ss_cons (s_set 10 sc_f_law.nd (e_ixr (ix_any (hu2_of hr)) snd_ix (e_var 9) (e_call (IH .f_law_take) hr (takes_of rfl rfl rfl rfl) (a_cons (e_var 4) (a_cons (e_callB call_lenW snd_len (by rfl) T.z_len (by decide +kernel) (a_cons (e_var 9) a_nil)) a_nil)))))
 (ss_cons (s_set 11 sc_f_law.nd (e_lst (a_cons (e_tup (a_cons e_str (a_cons e_str a_nil))) (a_cons (e_tup (a_cons e_str (a_cons e_str a_nil))) (a_cons (e_tup (a_cons e_str (a_cons (e_tup (a_cons e_str (a_cons e_str a_nil))) a_nil))) (a_cons (e_tup (a_cons e_str (a_cons (e_tup (a_cons e_str (a_cons e_str a_nil))) (a_cons (e_tup (a_cons e_str (a_cons e_str a_nil))) a_nil)))) a_nil))))))
 (ss_cons (s_set 11 sc_f_law.nd (e_ixr (ix_any (hu2_of hr)) snd_ix (e_var 11) (e_call (IH .f_law_take) hr (takes_of rfl rfl rfl rfl) (a_cons (e_var 4) (a_cons e_int a_nil)))))
 (ss_cons (s_if (PW.pt (t_or (t_cmp op_gt snd_cmpI (e_callB call_lenW snd_len (by rfl) T.z_len (by decide +kernel) (a_cons (e_var 10) a_nil)) e_int) (t_or1 (t_cmp op_gt snd_cmpI (e_call (IH .f_law_size) hr (takes_of rfl rfl rfl rfl) (a_cons (e_var 8) a_nil)) e_int))))
 (ss_one (s_set 11 sc_f_law.nd (e_tup (a_cons e_str (a_cons e_str a_nil)))))
 ss_nil)
 (ss_one (s_if (t_not (t_val (e_call (IH .f_law_right) hr (takes_of rfl rfl rfl rfl) (a_cons (e_var 8) (a_cons (e_var 10) (a_cons (e_var 11) a_nil))))))
 (ss_one (s_ret e_bl))
 ss_nil))))))))))))
 (ss_one (s_ret e_bl)))
theorem all_ok (T : Txt K mg) : ∀ (n : Nat) (g : Fn), HeldG P w K mg base n g
  | 0, g => by
    cases g
    · obtain ⟨f, fd, F, A⟩ := T.t_f_parts; exact ⟨_, f, fd, _, A, fnNo fun _ _ => rfl⟩
    · obtain ⟨f, fd, F, A⟩ := T.t_f_with_parts; exact ⟨_, f, fd, _, A, fnNo fun _ _ => rfl⟩
    · obtain ⟨f, fd, F, A⟩ := T.t_f_places; exact ⟨_, f, fd, _, A, fnNo fun _ _ => rfl⟩
    · obtain ⟨f, fd, F, A⟩ := T.t_f_part_at; exact ⟨_, f, fd, _, A, fnNo fun _ _ => rfl⟩
    · obtain ⟨f, fd, F, A⟩ := T.t_f_law_cell; exact ⟨_, f, fd, _, A, fnNo fun _ _ => rfl⟩
    · obtain ⟨f, fd, F, A⟩ := T.t_f_law_mixed; exact ⟨_, f, fd, _, A, fnNo fun _ _ => rfl⟩
    · obtain ⟨f, fd, F, A⟩ := T.t_f_law_stream; exact ⟨_, f, fd, _, A, fnNo fun _ _ => rfl⟩
    · obtain ⟨f, fd, F, A⟩ := T.t_f_law_take; exact ⟨_, f, fd, _, A, fnNo fun _ _ => rfl⟩
    · obtain ⟨f, fd, F, A⟩ := T.t_f_law_words; exact ⟨_, f, fd, _, A, fnNo fun _ _ => rfl⟩
    · obtain ⟨f, fd, F, A⟩ := T.t_f_law_small; exact ⟨_, f, fd, _, A, fnNo fun _ _ => rfl⟩
    · obtain ⟨f, fd, F, A⟩ := T.t_f_law_pair; exact ⟨_, f, fd, _, A, fnNo fun _ _ => rfl⟩
    · obtain ⟨f, fd, F, A⟩ := T.t_f_law_kinds; exact ⟨_, f, fd, _, A, fnNo fun _ _ => rfl⟩
    · obtain ⟨f, fd, F, A⟩ := T.t_f_law_heads; exact ⟨_, f, fd, _, A, fnNo fun _ _ => rfl⟩
    · obtain ⟨f, fd, F, A⟩ := T.t_f_law_plain; exact ⟨_, f, fd, _, A, fnNo fun _ _ => rfl⟩
    · obtain ⟨f, fd, F, A⟩ := T.t_f_law_some; exact ⟨_, f, fd, _, A, fnNo fun _ _ => rfl⟩
    · obtain ⟨f, fd, F, A⟩ := T.t_f_law_choose; exact ⟨_, f, fd, _, A, fnNo fun _ _ => rfl⟩
    · obtain ⟨f, fd, F, A⟩ := T.t_f_law_ask; exact ⟨_, f, fd, _, A, fnNo fun _ _ => rfl⟩
    · obtain ⟨f, fd, F, A⟩ := T.t_f_law_part; exact ⟨_, f, fd, _, A, fnNo fun _ _ => rfl⟩
    · obtain ⟨f, fd, F, A⟩ := T.t_f_law_let; exact ⟨_, f, fd, _, A, fnNo fun _ _ => rfl⟩
    · obtain ⟨f, fd, F, A⟩ := T.t_f_law_body; exact ⟨_, f, fd, _, A, fnNo fun _ _ => rfl⟩
    · obtain ⟨f, fd, F, A⟩ := T.t_f_law_parts; exact ⟨_, f, fd, _, A, fnNo fun _ _ => rfl⟩
    · obtain ⟨f, fd, F, A⟩ := T.t_f_law_size; exact ⟨_, f, fd, _, A, fnNo fun _ _ => rfl⟩
    · obtain ⟨f, fd, F, A⟩ := T.t_f_law_book; exact ⟨_, f, fd, _, A, fnNo fun _ _ => rfl⟩
    · obtain ⟨f, fd, F, A⟩ := T.t_f_law_same; exact ⟨_, f, fd, _, A, fnNo fun _ _ => rfl⟩
    · obtain ⟨f, fd, F, A⟩ := T.t_f_law_places; exact ⟨_, f, fd, _, A, fnNo fun _ _ => rfl⟩
    · obtain ⟨f, fd, F, A⟩ := T.t_f_law_exchanged; exact ⟨_, f, fd, _, A, fnNo fun _ _ => rfl⟩
    · obtain ⟨f, fd, F, A⟩ := T.t_f_law_put; exact ⟨_, f, fd, _, A, fnNo fun _ _ => rfl⟩
    · obtain ⟨f, fd, F, A⟩ := T.t_f_law_right; exact ⟨_, f, fd, _, A, fnNo fun _ _ => rfl⟩
    · obtain ⟨f, fd, F, A⟩ := T.t_f_law; exact ⟨_, f, fd, _, A, fnNo fun _ _ => rfl⟩
  | n + 1, g => by
    have ih := all_ok T n
    cases g
    · exact ok_f_parts T ih
    · exact ok_f_with_parts T ih
    · exact ok_f_places T ih
    · exact ok_f_part_at T ih
    · exact ok_f_law_cell T ih
    · exact ok_f_law_mixed T ih
    · exact ok_f_law_stream T ih
    · exact ok_f_law_take T ih
    · exact ok_f_law_words T ih
    · exact ok_f_law_small T ih
    · exact ok_f_law_pair T ih
    · exact ok_f_law_kinds T ih
    · exact ok_f_law_heads T ih
    · exact ok_f_law_plain T ih
    · exact ok_f_law_some T ih
    · exact ok_f_law_choose T ih
    · exact ok_f_law_ask T ih
    · exact ok_f_law_part T ih
    · exact ok_f_law_let T ih
    · exact ok_f_law_body T ih
    · exact ok_f_law_parts T ih
    · exact ok_f_law_size T ih
    · exact ok_f_law_book T ih
    · exact ok_f_law_same T ih
    · exact ok_f_law_places T ih
    · exact ok_f_law_exchanged T ih
    · exact ok_f_law_put T ih
    · exact ok_f_law_right T ih
    · exact ok_f_law T ih
end
theorem all_mk {K : PySem.W.Frag} {h : Heap} {mg : Str → Option Value} (X : K.In h) (G : h.Ns mainGlobals mg)
    {f0 f1 f2 f3 f4 f5 f6 f7 f8 f9 f10 f11 f12 f13 f14 f15 f16 f17 f18 f19 f20 f21 f22 f23 f24 f25 f26 f27 f28 : Addr}
    {od0 an0 od1 an1 od2 an2 od3 an3 od4 an4 od5 an5 od6 an6 od7 an7 od8 an8 od9 an9 od10 an10 od11 an11 od12 an12 od13 an13 od14 an14 od15 an15 od16 an16 od17 an17 od18 an18 od19 an19 od20 an20 od21 an21 od22 an22 od23 an23 od24 an24 od25 an25 od26 an26 od27 an27 od28 an28 : Option Addr} {sl0 sl1 sl2 sl3 sl4 sl5 sl6 sl7 sl8 sl9 sl10 sl11 sl12 sl13 sl14 sl15 sl16 sl17 sl18 sl19 sl20 sl21 sl22 sl23 sl24 sl25 sl26 sl27 sl28 : Array (Option Value)} {oc0 kV0 dc0 pm0 cd0 ct0 oc1 kV1 dc1 pm1 cd1 ct1 oc2 kV2 dc2 pm2 cd2 ct2 oc3 kV3 dc3 pm3 cd3 ct3 oc4 kV4 dc4 pm4 cd4 ct4 oc5 kV5 dc5 pm5 cd5 ct5 oc6 kV6 dc6 pm6 cd6 ct6 oc7 kV7 dc7 pm7 cd7 ct7 oc8 kV8 dc8 pm8 cd8 ct8 oc9 kV9 dc9 pm9 cd9 ct9 oc10 kV10 dc10 pm10 cd10 ct10 oc11 kV11 dc11 pm11 cd11 ct11 oc12 kV12 dc12 pm12 cd12 ct12 oc13 kV13 dc13 pm13 cd13 ct13 oc14 kV14 dc14 pm14 cd14 ct14 oc15 kV15 dc15 pm15 cd15 ct15 oc16 kV16 dc16 pm16 cd16 ct16 oc17 kV17 dc17 pm17 cd17 ct17 oc18 kV18 dc18 pm18 cd18 ct18 oc19 kV19 dc19 pm19 cd19 ct19 oc20 kV20 dc20 pm20 cd20 ct20 oc21 kV21 dc21 pm21 cd21 ct21 oc22 kV22 dc22 pm22 cd22 ct22 oc23 kV23 dc23 pm23 cd23 ct23 oc24 kV24 dc24 pm24 cd24 ct24 oc25 kV25 dc25 pm25 cd25 ct25 oc26 kV26 dc26 pm26 cd26 ct26 oc27 kV27 dc27 pm27 cd27 ct27 oc28 kV28 dc28 pm28 cd28 ct28 : Value}
    (a0 : PySem.W.nsIn K mainGlobals "parts" = some (some (.ref f0)))
    (l0 : K.lookup f0 = some ⟨oc0, od0, .func (PySem.W.fnOf "parts" "parts" (defArgs s_f_parts) (defBody s_f_parts) (defScope s_f_parts) .none kV0 dc0 pm0 an0 cd0 ct0), sl0⟩) (c0 : PySem.W.codeIn K cd0 "parts" = true) (k0 : PySem.W.keepIn K (.ref f0) = true)
    (a1 : PySem.W.nsIn K mainGlobals "with_parts" = some (some (.ref f1)))
    (l1 : K.lookup f1 = some ⟨oc1, od1, .func (PySem.W.fnOf "with_parts" "with_parts" (defArgs s_f_with_parts) (defBody s_f_with_parts) (defScope s_f_with_parts) .none kV1 dc1 pm1 an1 cd1 ct1), sl1⟩) (c1 : PySem.W.codeIn K cd1 "with_parts" = true) (k1 : PySem.W.keepIn K (.ref f1) = true)
    (a2 : PySem.W.nsIn K mainGlobals "places" = some (some (.ref f2)))
    (l2 : K.lookup f2 = some ⟨oc2, od2, .func (PySem.W.fnOf "places" "places" (defArgs s_f_places) (defBody s_f_places) (defScope s_f_places) .none kV2 dc2 pm2 an2 cd2 ct2), sl2⟩) (c2 : PySem.W.codeIn K cd2 "places" = true) (k2 : PySem.W.keepIn K (.ref f2) = true)
    (a3 : PySem.W.nsIn K mainGlobals "part_at" = some (some (.ref f3)))
    (l3 : K.lookup f3 = some ⟨oc3, od3, .func (PySem.W.fnOf "part_at" "part_at" (defArgs s_f_part_at) (defBody s_f_part_at) (defScope s_f_part_at) .none kV3 dc3 pm3 an3 cd3 ct3), sl3⟩) (c3 : PySem.W.codeIn K cd3 "part_at" = true) (k3 : PySem.W.keepIn K (.ref f3) = true)
    (a4 : PySem.W.nsIn K mainGlobals "_law_cell" = some (some (.ref f4)))
    (l4 : K.lookup f4 = some ⟨oc4, od4, .func (PySem.W.fnOf "_law_cell" "_law_cell" (defArgs s_f_law_cell) (defBody s_f_law_cell) (defScope s_f_law_cell) .none kV4 dc4 pm4 an4 cd4 ct4), sl4⟩) (c4 : PySem.W.codeIn K cd4 "_law_cell" = true) (k4 : PySem.W.keepIn K (.ref f4) = true)
    (a5 : PySem.W.nsIn K mainGlobals "_law_mixed" = some (some (.ref f5)))
    (l5 : K.lookup f5 = some ⟨oc5, od5, .func (PySem.W.fnOf "_law_mixed" "_law_mixed" (defArgs s_f_law_mixed) (defBody s_f_law_mixed) (defScope s_f_law_mixed) .none kV5 dc5 pm5 an5 cd5 ct5), sl5⟩) (c5 : PySem.W.codeIn K cd5 "_law_mixed" = true) (k5 : PySem.W.keepIn K (.ref f5) = true)
    (a6 : PySem.W.nsIn K mainGlobals "_law_stream" = some (some (.ref f6)))
    (l6 : K.lookup f6 = some ⟨oc6, od6, .func (PySem.W.fnOf "_law_stream" "_law_stream" (defArgs s_f_law_stream) (defBody s_f_law_stream) (defScope s_f_law_stream) .none kV6 dc6 pm6 an6 cd6 ct6), sl6⟩) (c6 : PySem.W.codeIn K cd6 "_law_stream" = true) (k6 : PySem.W.keepIn K (.ref f6) = true)
    (a7 : PySem.W.nsIn K mainGlobals "_law_take" = some (some (.ref f7)))
    (l7 : K.lookup f7 = some ⟨oc7, od7, .func (PySem.W.fnOf "_law_take" "_law_take" (defArgs s_f_law_take) (defBody s_f_law_take) (defScope s_f_law_take) .none kV7 dc7 pm7 an7 cd7 ct7), sl7⟩) (c7 : PySem.W.codeIn K cd7 "_law_take" = true) (k7 : PySem.W.keepIn K (.ref f7) = true)
    (a8 : PySem.W.nsIn K mainGlobals "_law_words" = some (some (.ref f8)))
    (l8 : K.lookup f8 = some ⟨oc8, od8, .func (PySem.W.fnOf "_law_words" "_law_words" (defArgs s_f_law_words) (defBody s_f_law_words) (defScope s_f_law_words) .none kV8 dc8 pm8 an8 cd8 ct8), sl8⟩) (c8 : PySem.W.codeIn K cd8 "_law_words" = true) (k8 : PySem.W.keepIn K (.ref f8) = true)
    (a9 : PySem.W.nsIn K mainGlobals "_law_small" = some (some (.ref f9)))
    (l9 : K.lookup f9 = some ⟨oc9, od9, .func (PySem.W.fnOf "_law_small" "_law_small" (defArgs s_f_law_small) (defBody s_f_law_small) (defScope s_f_law_small) .none kV9 dc9 pm9 an9 cd9 ct9), sl9⟩) (c9 : PySem.W.codeIn K cd9 "_law_small" = true) (k9 : PySem.W.keepIn K (.ref f9) = true)
    (a10 : PySem.W.nsIn K mainGlobals "_law_pair" = some (some (.ref f10)))
    (l10 : K.lookup f10 = some ⟨oc10, od10, .func (PySem.W.fnOf "_law_pair" "_law_pair" (defArgs s_f_law_pair) (defBody s_f_law_pair) (defScope s_f_law_pair) .none kV10 dc10 pm10 an10 cd10 ct10), sl10⟩) (c10 : PySem.W.codeIn K cd10 "_law_pair" = true) (k10 : PySem.W.keepIn K (.ref f10) = true)
    (a11 : PySem.W.nsIn K mainGlobals "_law_kinds" = some (some (.ref f11)))
    (l11 : K.lookup f11 = some ⟨oc11, od11, .func (PySem.W.fnOf "_law_kinds" "_law_kinds" (defArgs s_f_law_kinds) (defBody s_f_law_kinds) (defScope s_f_law_kinds) .none kV11 dc11 pm11 an11 cd11 ct11), sl11⟩) (c11 : PySem.W.codeIn K cd11 "_law_kinds" = true) (k11 : PySem.W.keepIn K (.ref f11) = true)
    (a12 : PySem.W.nsIn K mainGlobals "_law_heads" = some (some (.ref f12)))
    (l12 : K.lookup f12 = some ⟨oc12, od12, .func (PySem.W.fnOf "_law_heads" "_law_heads" (defArgs s_f_law_heads) (defBody s_f_law_heads) (defScope s_f_law_heads) .none kV12 dc12 pm12 an12 cd12 ct12), sl12⟩) (c12 : PySem.W.codeIn K cd12 "_law_heads" = true) (k12 : PySem.W.keepIn K (.ref f12) = true)
    (a13 : PySem.W.nsIn K mainGlobals "_law_plain" = some (some (.ref f13)))
    (l13 : K.lookup f13 = some ⟨oc13, od13, .func (PySem.W.fnOf "_law_plain" "_law_plain" (defArgs s_f_law_plain) (defBody s_f_law_plain) (defScope s_f_law_plain) .none kV13 dc13 pm13 an13 cd13 ct13), sl13⟩) (c13 : PySem.W.codeIn K cd13 "_law_plain" = true) (k13 : PySem.W.keepIn K (.ref f13) = true)
    (a14 : PySem.W.nsIn K mainGlobals "_law_some" = some (some (.ref f14)))
    (l14 : K.lookup f14 = some ⟨oc14, od14, .func (PySem.W.fnOf "_law_some" "_law_some" (defArgs s_f_law_some) (defBody s_f_law_some) (defScope s_f_law_some) .none kV14 dc14 pm14 an14 cd14 ct14), sl14⟩) (c14 : PySem.W.codeIn K cd14 "_law_some" = true) (k14 : PySem.W.keepIn K (.ref f14) = true)
    (a15 : PySem.W.nsIn K mainGlobals "_law_choose" = some (some (.ref f15)))
    (l15 : K.lookup f15 = some ⟨oc15, od15, .func (PySem.W.fnOf "_law_choose" "_law_choose" (defArgs s_f_law_choose) (defBody s_f_law_choose) (defScope s_f_law_choose) .none kV15 dc15 pm15 an15 cd15 ct15), sl15⟩) (c15 : PySem.W.codeIn K cd15 "_law_choose" = true) (k15 : PySem.W.keepIn K (.ref f15) = true)
    (a16 : PySem.W.nsIn K mainGlobals "_law_ask" = some (some (.ref f16)))
    (l16 : K.lookup f16 = some ⟨oc16, od16, .func (PySem.W.fnOf "_law_ask" "_law_ask" (defArgs s_f_law_ask) (defBody s_f_law_ask) (defScope s_f_law_ask) .none kV16 dc16 pm16 an16 cd16 ct16), sl16⟩) (c16 : PySem.W.codeIn K cd16 "_law_ask" = true) (k16 : PySem.W.keepIn K (.ref f16) = true)
    (a17 : PySem.W.nsIn K mainGlobals "_law_part" = some (some (.ref f17)))
    (l17 : K.lookup f17 = some ⟨oc17, od17, .func (PySem.W.fnOf "_law_part" "_law_part" (defArgs s_f_law_part) (defBody s_f_law_part) (defScope s_f_law_part) .none kV17 dc17 pm17 an17 cd17 ct17), sl17⟩) (c17 : PySem.W.codeIn K cd17 "_law_part" = true) (k17 : PySem.W.keepIn K (.ref f17) = true)
    (a18 : PySem.W.nsIn K mainGlobals "_law_let" = some (some (.ref f18)))
    (l18 : K.lookup f18 = some ⟨oc18, od18, .func (PySem.W.fnOf "_law_let" "_law_let" (defArgs s_f_law_let) (defBody s_f_law_let) (defScope s_f_law_let) .none kV18 dc18 pm18 an18 cd18 ct18), sl18⟩) (c18 : PySem.W.codeIn K cd18 "_law_let" = true) (k18 : PySem.W.keepIn K (.ref f18) = true)
    (a19 : PySem.W.nsIn K mainGlobals "_law_body" = some (some (.ref f19)))
    (l19 : K.lookup f19 = some ⟨oc19, od19, .func (PySem.W.fnOf "_law_body" "_law_body" (defArgs s_f_law_body) (defBody s_f_law_body) (defScope s_f_law_body) .none kV19 dc19 pm19 an19 cd19 ct19), sl19⟩) (c19 : PySem.W.codeIn K cd19 "_law_body" = true) (k19 : PySem.W.keepIn K (.ref f19) = true)
    (a20 : PySem.W.nsIn K mainGlobals "_law_parts" = some (some (.ref f20)))
    (l20 : K.lookup f20 = some ⟨oc20, od20, .func (PySem.W.fnOf "_law_parts" "_law_parts" (defArgs s_f_law_parts) (defBody s_f_law_parts) (defScope s_f_law_parts) .none kV20 dc20 pm20 an20 cd20 ct20), sl20⟩) (c20 : PySem.W.codeIn K cd20 "_law_parts" = true) (k20 : PySem.W.keepIn K (.ref f20) = true)
    (a21 : PySem.W.nsIn K mainGlobals "_law_size" = some (some (.ref f21)))
    (l21 : K.lookup f21 = some ⟨oc21, od21, .func (PySem.W.fnOf "_law_size" "_law_size" (defArgs s_f_law_size) (defBody s_f_law_size) (defScope s_f_law_size) .none kV21 dc21 pm21 an21 cd21 ct21), sl21⟩) (c21 : PySem.W.codeIn K cd21 "_law_size" = true) (k21 : PySem.W.keepIn K (.ref f21) = true)
    (a22 : PySem.W.nsIn K mainGlobals "_law_book" = some (some (.ref f22)))
    (l22 : K.lookup f22 = some ⟨oc22, od22, .func (PySem.W.fnOf "_law_book" "_law_book" (defArgs s_f_law_book) (defBody s_f_law_book) (defScope s_f_law_book) .none kV22 dc22 pm22 an22 cd22 ct22), sl22⟩) (c22 : PySem.W.codeIn K cd22 "_law_book" = true) (k22 : PySem.W.keepIn K (.ref f22) = true)
    (a23 : PySem.W.nsIn K mainGlobals "_law_same" = some (some (.ref f23)))
    (l23 : K.lookup f23 = some ⟨oc23, od23, .func (PySem.W.fnOf "_law_same" "_law_same" (defArgs s_f_law_same) (defBody s_f_law_same) (defScope s_f_law_same) .none kV23 dc23 pm23 an23 cd23 ct23), sl23⟩) (c23 : PySem.W.codeIn K cd23 "_law_same" = true) (k23 : PySem.W.keepIn K (.ref f23) = true)
    (a24 : PySem.W.nsIn K mainGlobals "_law_places" = some (some (.ref f24)))
    (l24 : K.lookup f24 = some ⟨oc24, od24, .func (PySem.W.fnOf "_law_places" "_law_places" (defArgs s_f_law_places) (defBody s_f_law_places) (defScope s_f_law_places) .none kV24 dc24 pm24 an24 cd24 ct24), sl24⟩) (c24 : PySem.W.codeIn K cd24 "_law_places" = true) (k24 : PySem.W.keepIn K (.ref f24) = true)
    (a25 : PySem.W.nsIn K mainGlobals "_law_exchanged" = some (some (.ref f25)))
    (l25 : K.lookup f25 = some ⟨oc25, od25, .func (PySem.W.fnOf "_law_exchanged" "_law_exchanged" (defArgs s_f_law_exchanged) (defBody s_f_law_exchanged) (defScope s_f_law_exchanged) .none kV25 dc25 pm25 an25 cd25 ct25), sl25⟩) (c25 : PySem.W.codeIn K cd25 "_law_exchanged" = true) (k25 : PySem.W.keepIn K (.ref f25) = true)
    (a26 : PySem.W.nsIn K mainGlobals "_law_put" = some (some (.ref f26)))
    (l26 : K.lookup f26 = some ⟨oc26, od26, .func (PySem.W.fnOf "_law_put" "_law_put" (defArgs s_f_law_put) (defBody s_f_law_put) (defScope s_f_law_put) .none kV26 dc26 pm26 an26 cd26 ct26), sl26⟩) (c26 : PySem.W.codeIn K cd26 "_law_put" = true) (k26 : PySem.W.keepIn K (.ref f26) = true)
    (a27 : PySem.W.nsIn K mainGlobals "_law_right" = some (some (.ref f27)))
    (l27 : K.lookup f27 = some ⟨oc27, od27, .func (PySem.W.fnOf "_law_right" "_law_right" (defArgs s_f_law_right) (defBody s_f_law_right) (defScope s_f_law_right) .none kV27 dc27 pm27 an27 cd27 ct27), sl27⟩) (c27 : PySem.W.codeIn K cd27 "_law_right" = true) (k27 : PySem.W.keepIn K (.ref f27) = true)
    (a28 : PySem.W.nsIn K mainGlobals "law" = some (some (.ref f28)))
    (l28 : K.lookup f28 = some ⟨oc28, od28, .func (PySem.W.fnOf "law" "law" (defArgs s_f_law) (defBody s_f_law) (defScope s_f_law) .none kV28 dc28 pm28 an28 cd28 ct28), sl28⟩) (c28 : PySem.W.codeIn K cd28 "law" = true) (k28 : PySem.W.keepIn K (.ref f28) = true)
    (z_all : PySem.W.nsIn K mainGlobals "all" = some none)
    (z_bool : PySem.W.nsIn K mainGlobals "bool" = some none)
    (z_dict : PySem.W.nsIn K mainGlobals "dict" = some none)
    (z_enumerate : PySem.W.nsIn K mainGlobals "enumerate" = some none)
    (z_int : PySem.W.nsIn K mainGlobals "int" = some none)
    (z_isinstance : PySem.W.nsIn K mainGlobals "isinstance" = some none)
    (z_len : PySem.W.nsIn K mainGlobals "len" = some none)
    (z_list : PySem.W.nsIn K mainGlobals "list" = some none)
    (z_max : PySem.W.nsIn K mainGlobals "max" = some none)
    (z_min : PySem.W.nsIn K mainGlobals "min" = some none)
    (z_range : PySem.W.nsIn K mainGlobals "range" = some none)
    (z_sorted : PySem.W.nsIn K mainGlobals "sorted" = some none)
    (z_str : PySem.W.nsIn K mainGlobals "str" = some none)
    (z_sum : PySem.W.nsIn K mainGlobals "sum" = some none)
    (z_tuple : PySem.W.nsIn K mainGlobals "tuple" = some none)
    (z_zip : PySem.W.nsIn K mainGlobals "zip" = some none)
    : Txt K mg := by
  refine {t_f_parts := ?_, t_f_with_parts := ?_, t_f_places := ?_, t_f_part_at := ?_, t_f_law_cell := ?_, t_f_law_mixed := ?_, t_f_law_stream := ?_, t_f_law_take := ?_, t_f_law_words := ?_, t_f_law_small := ?_, t_f_law_pair := ?_, t_f_law_kinds := ?_, t_f_law_heads := ?_, t_f_law_plain := ?_, t_f_law_some := ?_, t_f_law_choose := ?_, t_f_law_ask := ?_, t_f_law_part := ?_, t_f_law_let := ?_, t_f_law_body := ?_, t_f_law_parts := ?_, t_f_law_size := ?_, t_f_law_book := ?_, t_f_law_same := ?_, t_f_law_places := ?_, t_f_law_exchanged := ?_, t_f_law_put := ?_, t_f_law_right := ?_, t_f_law := ?_, z_all := PySem.W.mg_none_of X G z_all, z_bool := PySem.W.mg_none_of X G z_bool, z_dict := PySem.W.mg_none_of X G z_dict, z_enumerate := PySem.W.mg_none_of X G z_enumerate, z_int := PySem.W.mg_none_of X G z_int, z_isinstance := PySem.W.mg_none_of X G z_isinstance, z_len := PySem.W.mg_none_of X G z_len, z_list := PySem.W.mg_none_of X G z_list, z_max := PySem.W.mg_none_of X G z_max, z_min := PySem.W.mg_none_of X G z_min, z_range := PySem.W.mg_none_of X G z_range, z_sorted := PySem.W.mg_none_of X G z_sorted, z_str := PySem.W.mg_none_of X G z_str, z_sum := PySem.W.mg_none_of X G z_sum, z_tuple := PySem.W.mg_none_of X G z_tuple, z_zip := PySem.W.mg_none_of X G z_zip }
  · have F := fun_mk (st := s_f_parts) l0 c0 k0
    exact ⟨f0, _, F, rfl, PySem.W.mg_of X G a0, k0, F.binds (ps := ["body"]) fun _ _ _ _ _ _ us hl => match us, hl with | [_], _ => rfl⟩
  · have F := fun_mk (st := s_f_with_parts) l1 c1 k1
    exact ⟨f1, _, F, rfl, PySem.W.mg_of X G a1, k1, F.binds (ps := ["body", "some"]) fun _ _ _ _ _ _ us hl => match us, hl with | [_, _], _ => rfl⟩
  · have F := fun_mk (st := s_f_places) l2 c2 k2
    exact ⟨f2, _, F, rfl, PySem.W.mg_of X G a2, k2, F.binds (ps := ["body"]) fun _ _ _ _ _ _ us hl => match us, hl with | [_], _ => rfl⟩
  · have F := fun_mk (st := s_f_part_at) l3 c3 k3
    exact ⟨f3, _, F, rfl, PySem.W.mg_of X G a3, k3, F.binds (ps := ["body", "place"]) fun _ _ _ _ _ _ us hl => match us, hl with | [_, _], _ => rfl⟩
  · have F := fun_mk (st := s_f_law_cell) l4 c4 k4
    exact ⟨f4, _, F, rfl, PySem.W.mg_of X G a4, k4, F.binds (ps := ["script", "k"]) fun _ _ _ _ _ _ us hl => match us, hl with | [_, _], _ => rfl⟩
  · have F := fun_mk (st := s_f_law_mixed) l5 c5 k5
    exact ⟨f5, _, F, rfl, PySem.W.mg_of X G a5, k5, F.binds (ps := ["cell", "k"]) fun _ _ _ _ _ _ us hl => match us, hl with | [_, _], _ => rfl⟩
  · have F := fun_mk (st := s_f_law_stream) l6 c6 k6
    exact ⟨f6, _, F, rfl, PySem.W.mg_of X G a6, k6, F.binds (ps := ["cell"]) fun _ _ _ _ _ _ us hl => match us, hl with | [_], _ => rfl⟩
  · have F := fun_mk (st := s_f_law_take) l7 c7 k7
    exact ⟨f7, _, F, rfl, PySem.W.mg_of X G a7, k7, F.binds (ps := ["stream", "many"]) fun _ _ _ _ _ _ us hl => match us, hl with | [_, _], _ => rfl⟩
  · have F := fun_mk (st := s_f_law_words) l8 c8 k8
    exact ⟨f8, _, F, rfl, PySem.W.mg_of X G a8, k8, F.binds (ps := ["stream", "many", "letters", "ways"]) fun _ _ _ _ _ _ us hl => match us, hl with | [_, _, _, _], _ => rfl⟩
  · have F := fun_mk (st := s_f_law_small) l9 c9 k9
    exact ⟨f9, _, F, rfl, PySem.W.mg_of X G a9, k9, F.binds (ps := ["stream", "many"]) fun _ _ _ _ _ _ us hl => match us, hl with | [_, _], _ => rfl⟩
  · have F := fun_mk (st := s_f_law_pair) l10 c10 k10
    exact ⟨f10, _, F, rfl, PySem.W.mg_of X G a10, k10, F.binds (ps := ["stream", "names", "counts", "depths", "taken", "top"]) fun _ _ _ _ _ _ us hl => match us, hl with | [_, _, _, _, _, _], _ => rfl⟩
  · have F := fun_mk (st := s_f_law_kinds) l11 c11 k11
    exact ⟨f11, _, F, rfl, PySem.W.mg_of X G a11, k11, F.binds (ps := ["stream", "most", "top"]) fun _ _ _ _ _ _ us hl => match us, hl with | [_, _, _], _ => rfl⟩
  · have F := fun_mk (st := s_f_law_heads) l12 c12 k12
    exact ⟨f12, _, F, rfl, PySem.W.mg_of X G a12, k12, F.binds (ps := ["stream", "kinds", "counts", "most", "top"]) fun _ _ _ _ _ _ us hl => match us, hl with | [_, _, _, _, _], _ => rfl⟩
  · have F := fun_mk (st := s_f_law_plain) l13 c13 k13
    exact ⟨f13, _, F, rfl, PySem.W.mg_of X G a13, k13, F.binds (ps := ["stream", "world", "around", "kind"]) fun _ _ _ _ _ _ us hl => match us, hl with | [_, _, _, _], _ => rfl⟩
  · have F := fun_mk (st := s_f_law_some) l14 c14 k14
    exact ⟨f14, _, F, rfl, PySem.W.mg_of X G a14, k14, F.binds (ps := ["stream", "world", "around", "kind", "deep"]) fun _ _ _ _ _ _ us hl => match us, hl with | [_, _, _, _, _], _ => rfl⟩
  · have F := fun_mk (st := s_f_law_choose) l15 c15 k15
    exact ⟨f15, _, F, rfl, PySem.W.mg_of X G a15, k15, F.binds (ps := ["stream", "world", "around", "kind", "deep"]) fun _ _ _ _ _ _ us hl => match us, hl with | [_, _, _, _, _], _ => rfl⟩
  · have F := fun_mk (st := s_f_law_ask) l16 c16 k16
    exact ⟨f16, _, F, rfl, PySem.W.mg_of X G a16, k16, F.binds (ps := ["stream", "world", "around", "kind", "deep"]) fun _ _ _ _ _ _ us hl => match us, hl with | [_, _, _, _, _], _ => rfl⟩
  · have F := fun_mk (st := s_f_law_part) l17 c17 k17
    exact ⟨f17, _, F, rfl, PySem.W.mg_of X G a17, k17, F.binds (ps := ["stream", "world", "around", "kind", "deep"]) fun _ _ _ _ _ _ us hl => match us, hl with | [_, _, _, _, _], _ => rfl⟩
  · have F := fun_mk (st := s_f_law_let) l18 c18 k18
    exact ⟨f18, _, F, rfl, PySem.W.mg_of X G a18, k18, F.binds (ps := ["stream", "world", "around", "kind", "deep"]) fun _ _ _ _ _ _ us hl => match us, hl with | [_, _, _, _, _], _ => rfl⟩
  · have F := fun_mk (st := s_f_law_body) l19 c19 k19
    exact ⟨f19, _, F, rfl, PySem.W.mg_of X G a19, k19, F.binds (ps := ["stream", "world", "around", "kind", "deep"]) fun _ _ _ _ _ _ us hl => match us, hl with | [_, _, _, _, _], _ => rfl⟩
  · have F := fun_mk (st := s_f_law_parts) l20 c20 k20
    exact ⟨f20, _, F, rfl, PySem.W.mg_of X G a20, k20, F.binds (ps := ["body"]) fun _ _ _ _ _ _ us hl => match us, hl with | [_], _ => rfl⟩
  · have F := fun_mk (st := s_f_law_size) l21 c21 k21
    exact ⟨f21, _, F, rfl, PySem.W.mg_of X G a21, k21, F.binds (ps := ["body"]) fun _ _ _ _ _ _ us hl => match us, hl with | [_], _ => rfl⟩
  · have F := fun_mk (st := s_f_law_book) l22 c22 k22
    exact ⟨f22, _, F, rfl, PySem.W.mg_of X G a22, k22, F.binds (ps := ["cell", "most", "many", "top", "left"]) fun _ _ _ _ _ _ us hl => match us, hl with | [_, _, _, _, _], _ => rfl⟩
  · have F := fun_mk (st := s_f_law_same) l23 c23 k23
    exact ⟨f23, _, F, rfl, PySem.W.mg_of X G a23, k23, F.binds (ps := ["found", "due"]) fun _ _ _ _ _ _ us hl => match us, hl with | [_, _], _ => rfl⟩
  · have F := fun_mk (st := s_f_law_places) l24 c24 k24
    exact ⟨f24, _, F, rfl, PySem.W.mg_of X G a24, k24, F.binds (ps := ["body"]) fun _ _ _ _ _ _ us hl => match us, hl with | [_], _ => rfl⟩
  · have F := fun_mk (st := s_f_law_exchanged) l25 c25 k25
    exact ⟨f25, _, F, rfl, PySem.W.mg_of X G a25, k25, F.binds (ps := ["body", "place", "other"]) fun _ _ _ _ _ _ us hl => match us, hl with | [_, _, _], _ => rfl⟩
  · have F := fun_mk (st := s_f_law_put) l26 c26 k26
    exact ⟨f26, _, F, rfl, PySem.W.mg_of X G a26, k26, F.binds (ps := ["body", "place", "other"]) fun _ _ _ _ _ _ us hl => match us, hl with | [_, _, _], _ => rfl⟩
  · have F := fun_mk (st := s_f_law_right) l27 c27 k27
    exact ⟨f27, _, F, rfl, PySem.W.mg_of X G a27, k27, F.binds (ps := ["body", "place", "other"]) fun _ _ _ _ _ _ us hl => match us, hl with | [_, _, _], _ => rfl⟩
  · have F := fun_mk (st := s_f_law) l28 c28 k28
    exact ⟨f28, _, F, rfl, PySem.W.mg_of X G a28, k28, F.binds (ps := ["script"]) fun _ _ _ _ _ _ us hl => match us, hl with | [_], _ => rfl⟩
end Lw

set_option linter.all false
set_option maxRecDepth 100000
namespace Lw
open PySem L2 Ev
variable {EE : Exc}
theorem call_s (n : Nat) (g : Fn) (ws : List W) (S : Sto) : call (n + 1) g ws S = body (call n) g ws S := rfl
/-- the mixed number -/
theorem mixed_ok {n : Nat} {c k : Int} {S : Sto} {Q : W → Sto → Prop} (hn : 1 ≤ n) (h : ∀ z : Int, 0 ≤ z → Q (.int z) S) : wpR (call n .f_law_mixed [.int c, .int k] S) Q := by
  obtain ⟨n, rfl⟩ : ∃ m, n = m + 1 := ⟨n - 1, by omega⟩
  rw [call_s, body]
  try simp (maxSteps := 500000) (implicitDefEqProofs := false) (disch := omega) only [Ev.wpR_ok, Ev.wpR_no, Ev.wpR_bind, Ev.wpR_ite, Ev.wpS_nx, Ev.wpS_rt, Ev.Kn_nx, Ev.Kn_rt, Ev.Kn_bk, Ev.Kn_ct, Ev.wpS_seq, Ev.wpS_ret, Ev.wpS_expr, Ev.wpS_set, Ev.wpS_ite, Ev.wpS_if, Ev.wpS_nil, Ev.wpS_cnt, Ev.wpS_brk, Ev.wpS_retN, Ev.wpS_asg, Ev.wpS_put, Ev.wpR_run, Ev.onRet_nx, Ev.onRet_rt, Ev.onNx_nx, Ev.onNx_ct, Ev.onNx_bk, Ev.onNx_rt, Ev.var_0, Ev.var_S, Ev.wpR_lc, Ev.wpS_for, Ev.e1, Ev.e2, Ev.eL, Ev.eC, Ev.aNil, Ev.aCons, Ev.bTest, Ev.bAnd, Ev.bOr, Ev.bNot, Ev.bTru, Ev.vAnd, Ev.vOr, Ev.vNot, Ev.eIf, Ev.bYes, Ev.eM, Ev.eSl, Ev.oNone, Ev.oSome, Ev.dnewW, Ev.startE, Ev.wipeE, List.map_cons, List.map_nil, List.length_cons, List.length_nil, List.replicate, List.cons_append, List.nil_append, Nat.reduceAdd, Nat.reduceSub, List.set_cons_zero, List.set_cons_succ, if_true, if_false, Ev.ifF, true_and, and_true, Bool.false_eq_true, Bool.not_true, Bool.not_false, reduceIte, Nat.zero_add, Ev.addW_ii, Ev.addW_tt, Ev.subW_ii, Ev.mulW_ii, Ev.modW_ii, Ev.fdivW_ii, Ev.powW_ii, Ev.negW_i, Ev.cmpI_ii, Ev.isW_n, Ev.isnW_n, Ev.isNon_n, Ev.isNon_b, Ev.isNon_i, Ev.isNon_s, Ev.isNon_t, Ev.isNon_l, Ev.max2W_ii, Ev.min2W_ii, Ev.intW_i, Ev.intW_b, Ev.lenW_t, Ev.lenW_r, Ev.wpR_ixT, Ev.wpR_ixR, Ev.wpR_ixS, Ev.listW_t, Ev.tupleW_t, Ev.truW_b, Ev.truW_n, Ev.truW_i, Ev.truW_t, Ev.eqW_ii, Ev.neW_ii, Ev.eqW_ss, Ev.neW_ss, Ev.eqW_bb, Ev.ixN_0, Ev.ixN_1, Ev.ixN_2, Ev.ixN_3, Ev.getE_set_self, Ev.wpR_rng1, Ev.wpR_seq, Ev.wpR_zip, Ev.isi_bb, Ev.isi_bs, Ev.isi_bi, Ev.isi_bt, Ev.isi_bl, Ev.isi_ib, Ev.isi_is, Ev.isi_ii, Ev.isi_it, Ev.isi_il, Ev.isi_sb, Ev.isi_ss, Ev.isi_si, Ev.isi_st, Ev.isi_sl, Ev.isi_tb, Ev.isi_ts, Ev.isi_ti, Ev.isi_tt, Ev.isi_tl, Ev.isi_nb, Ev.isi_ns, Ev.isi_ni, Ev.isi_nt, Ev.isi_nl, Ev.atI_0, Ev.atI_1, Ev.atI_2, Ev.atI_3, Ev.atI_4, Ev.tyOk_s, Ev.slW_to, Ev.slW_from, Ev.addW_SS, Int.toNat_natCast, Ev.tupW, Ev.lstW, Option.some.injEq, exists_eq_left', List.set_set, Option.map_some, W.int.injEq, W.str.injEq, W.loc.injEq, Nat.reduceLeDiff, and_self, Int.reduceLT, Int.reduceLE, Int.reduceNeg, Int.reduceToNat, Int.reduceAdd, Int.reduceMul, Int.reduceSub, decide_eq_true_eq, m_f_law_mixed]
  have b := Int.emod_nonneg (c % 2147483647 * 48271 + 69621 * k + 7919) (b := 2147483629) (by decide)
  have b' := Int.emod_lt_of_pos (c % 2147483647 * 48271 + 69621 * k + 7919) (b := 2147483629) (by decide)
  generalize (c % 2147483647 * 48271 + 69621 * k + 7919) % 2147483629 = z at *
  have d := Int.emod_nonneg (z * z + 31 * k + 5) (b := 2147483587) (by decide)
  have d' := Int.emod_lt_of_pos (z * z + 31 * k + 5) (b := 2147483587) (by decide)
  generalize (z * z + 31 * k + 5) % 2147483587 = y at *
  exact ⟨cmul_r (by decide) (by decide), cmul_l (by decide) (by decide), cmul_l (by omega) (by omega), cmul_l (by decide) (by decide), cmul_l (by omega) (by omega), h _ (Int.emod_nonneg _ (by decide))⟩
/-- a stream at a place -/
def Strm (S : Sto) (i : Nat) : Prop := ∃ (c : Int) (b : Bool) (k m : Int), S[i]? = some (.lst [.int c, .bl b, .int k, .int m])
theorem Strm.mono {M : List Nat} {S S' : Sto} {i : Nat} (h : Strm S i) (x : Xt M S S') (n : i ∉ M) : Strm S' i := by
  obtain ⟨c, b, k, m, e⟩ := h
  exact ⟨c, b, k, m, x.at_ i _ n e⟩
theorem Strm.lt {S : Sto} {i : Nat} (h : Strm S i) : i < S.length := by
  obtain ⟨c, b, k, m, e⟩ := h
  exact lt_at e
theorem Strm.app {S T : Sto} {i : Nat} (h : Strm S i) : Strm (S ++ T) i := by
  obtain ⟨c, b, k, m, e⟩ := h
  exact ⟨c, b, k, m, at_app e⟩
theorem Strm.ne {S : Sto} {i p : Nat} {o : O} (h : Strm S i) (n : p ≠ i) : Strm (S.set p o) i := by
  obtain ⟨c, b, k, m, e⟩ := h
  exact ⟨c, b, k, m, at_ne e n⟩
theorem stream_ok {n : Nat} {c : Int} {S : Sto} {Q : W → Sto → Prop} (hn : 1 ≤ n) (h : ∀ S', Xt [] S S' → S'.length = S.length + 1 → Strm S' S.length → Q (.loc S.length) S') : wpR (call n .f_law_stream [.int c] S) Q := by
  obtain ⟨n, rfl⟩ : ∃ m, n = m + 1 := ⟨n - 1, by omega⟩
  rw [call_s, body]
  try simp (maxSteps := 500000) (implicitDefEqProofs := false) (disch := omega) only [Ev.wpR_ok, Ev.wpR_no, Ev.wpR_bind, Ev.wpR_ite, Ev.wpS_nx, Ev.wpS_rt, Ev.Kn_nx, Ev.Kn_rt, Ev.Kn_bk, Ev.Kn_ct, Ev.wpS_seq, Ev.wpS_ret, Ev.wpS_expr, Ev.wpS_set, Ev.wpS_ite, Ev.wpS_if, Ev.wpS_nil, Ev.wpS_cnt, Ev.wpS_brk, Ev.wpS_retN, Ev.wpS_asg, Ev.wpS_put, Ev.wpR_run, Ev.onRet_nx, Ev.onRet_rt, Ev.onNx_nx, Ev.onNx_ct, Ev.onNx_bk, Ev.onNx_rt, Ev.var_0, Ev.var_S, Ev.wpR_lc, Ev.wpS_for, Ev.e1, Ev.e2, Ev.eL, Ev.eC, Ev.aNil, Ev.aCons, Ev.bTest, Ev.bAnd, Ev.bOr, Ev.bNot, Ev.bTru, Ev.vAnd, Ev.vOr, Ev.vNot, Ev.eIf, Ev.bYes, Ev.eM, Ev.eSl, Ev.oNone, Ev.oSome, Ev.dnewW, Ev.startE, Ev.wipeE, List.map_cons, List.map_nil, List.length_cons, List.length_nil, List.replicate, List.cons_append, List.nil_append, Nat.reduceAdd, Nat.reduceSub, List.set_cons_zero, List.set_cons_succ, if_true, if_false, Ev.ifF, true_and, and_true, Bool.false_eq_true, Bool.not_true, Bool.not_false, reduceIte, Nat.zero_add, Ev.addW_ii, Ev.addW_tt, Ev.subW_ii, Ev.mulW_ii, Ev.modW_ii, Ev.fdivW_ii, Ev.powW_ii, Ev.negW_i, Ev.cmpI_ii, Ev.isW_n, Ev.isnW_n, Ev.isNon_n, Ev.isNon_b, Ev.isNon_i, Ev.isNon_s, Ev.isNon_t, Ev.isNon_l, Ev.max2W_ii, Ev.min2W_ii, Ev.intW_i, Ev.intW_b, Ev.lenW_t, Ev.lenW_r, Ev.wpR_ixT, Ev.wpR_ixR, Ev.wpR_ixS, Ev.listW_t, Ev.tupleW_t, Ev.truW_b, Ev.truW_n, Ev.truW_i, Ev.truW_t, Ev.eqW_ii, Ev.neW_ii, Ev.eqW_ss, Ev.neW_ss, Ev.eqW_bb, Ev.ixN_0, Ev.ixN_1, Ev.ixN_2, Ev.ixN_3, Ev.getE_set_self, Ev.wpR_rng1, Ev.wpR_seq, Ev.wpR_zip, Ev.isi_bb, Ev.isi_bs, Ev.isi_bi, Ev.isi_bt, Ev.isi_bl, Ev.isi_ib, Ev.isi_is, Ev.isi_ii, Ev.isi_it, Ev.isi_il, Ev.isi_sb, Ev.isi_ss, Ev.isi_si, Ev.isi_st, Ev.isi_sl, Ev.isi_tb, Ev.isi_ts, Ev.isi_ti, Ev.isi_tt, Ev.isi_tl, Ev.isi_nb, Ev.isi_ns, Ev.isi_ni, Ev.isi_nt, Ev.isi_nl, Ev.atI_0, Ev.atI_1, Ev.atI_2, Ev.atI_3, Ev.atI_4, Ev.tyOk_s, Ev.slW_to, Ev.slW_from, Ev.addW_SS, Int.toNat_natCast, Ev.tupW, Ev.lstW, Option.some.injEq, exists_eq_left', List.set_set, Option.map_some, W.int.injEq, W.str.injEq, W.loc.injEq, Nat.reduceLeDiff, and_self, Int.reduceLT, Int.reduceLE, Int.reduceNeg, Int.reduceToNat, Int.reduceAdd, Int.reduceMul, Int.reduceSub, decide_eq_true_eq, m_f_law_stream]
  refine ⟨by decide, ?_⟩
  split
  · exact h _ Xt.app (by simp) ⟨_, _, _, _, at_new'⟩
  · refine ⟨by decide, ?_⟩
    exact h _ Xt.app (by simp) ⟨_, _, _, _, at_new'⟩
theorem take_ok {n i : Nat} {k : Int} {S : Sto} {Q : W → Sto → Prop} (hn : 2 ≤ n) (hs : Strm S i) (hk : 0 < k ∧ k < 1073741824) (h : ∀ (z : Int) (o : O), 0 ≤ z → z < k → Strm (S.set i o) i → Q (.int z) (S.set i o)) : wpR (call n .f_law_take [.loc i, .int k] S) Q := by
  obtain ⟨n, rfl⟩ : ∃ m, n = m + 1 := ⟨n - 1, by omega⟩
  obtain ⟨c, b, q, m, e⟩ := hs
  rw [call_s, body]
  have fin : ∀ (z : Int) (c : Int) (b : Bool) (q m : Int), 0 ≤ z → z < k → Q (.int z) (S.set i (.lst [.int c, .bl b, .int q, .int m])) := fun z c b q m h1 h2 => h z _ h1 h2 ⟨c, b, q, m, at_set' e⟩
  cases b
  · try simp (maxSteps := 500000) (implicitDefEqProofs := false) (disch := omega) only [Ev.wpR_ok, Ev.wpR_no, Ev.wpR_bind, Ev.wpR_ite, Ev.wpS_nx, Ev.wpS_rt, Ev.Kn_nx, Ev.Kn_rt, Ev.Kn_bk, Ev.Kn_ct, Ev.wpS_seq, Ev.wpS_ret, Ev.wpS_expr, Ev.wpS_set, Ev.wpS_ite, Ev.wpS_if, Ev.wpS_nil, Ev.wpS_cnt, Ev.wpS_brk, Ev.wpS_retN, Ev.wpS_asg, Ev.wpS_put, Ev.wpR_run, Ev.onRet_nx, Ev.onRet_rt, Ev.onNx_nx, Ev.onNx_ct, Ev.onNx_bk, Ev.onNx_rt, Ev.var_0, Ev.var_S, Ev.wpR_lc, Ev.wpS_for, Ev.e1, Ev.e2, Ev.eL, Ev.eC, Ev.aNil, Ev.aCons, Ev.bTest, Ev.bAnd, Ev.bOr, Ev.bNot, Ev.bTru, Ev.vAnd, Ev.vOr, Ev.vNot, Ev.eIf, Ev.bYes, Ev.eM, Ev.eSl, Ev.oNone, Ev.oSome, Ev.dnewW, Ev.startE, Ev.wipeE, List.map_cons, List.map_nil, List.length_cons, List.length_nil, List.replicate, List.cons_append, List.nil_append, Nat.reduceAdd, Nat.reduceSub, List.set_cons_zero, List.set_cons_succ, if_true, if_false, Ev.ifF, true_and, and_true, Bool.false_eq_true, Bool.not_true, Bool.not_false, reduceIte, Nat.zero_add, Ev.addW_ii, Ev.addW_tt, Ev.subW_ii, Ev.mulW_ii, Ev.modW_ii, Ev.fdivW_ii, Ev.powW_ii, Ev.negW_i, Ev.cmpI_ii, Ev.isW_n, Ev.isnW_n, Ev.isNon_n, Ev.isNon_b, Ev.isNon_i, Ev.isNon_s, Ev.isNon_t, Ev.isNon_l, Ev.max2W_ii, Ev.min2W_ii, Ev.intW_i, Ev.intW_b, Ev.lenW_t, Ev.lenW_r, Ev.wpR_ixT, Ev.wpR_ixR, Ev.wpR_ixS, Ev.listW_t, Ev.tupleW_t, Ev.truW_b, Ev.truW_n, Ev.truW_i, Ev.truW_t, Ev.eqW_ii, Ev.neW_ii, Ev.eqW_ss, Ev.neW_ss, Ev.eqW_bb, Ev.ixN_0, Ev.ixN_1, Ev.ixN_2, Ev.ixN_3, Ev.getE_set_self, Ev.wpR_rng1, Ev.wpR_seq, Ev.wpR_zip, Ev.isi_bb, Ev.isi_bs, Ev.isi_bi, Ev.isi_bt, Ev.isi_bl, Ev.isi_ib, Ev.isi_is, Ev.isi_ii, Ev.isi_it, Ev.isi_il, Ev.isi_sb, Ev.isi_ss, Ev.isi_si, Ev.isi_st, Ev.isi_sl, Ev.isi_tb, Ev.isi_ts, Ev.isi_ti, Ev.isi_tt, Ev.isi_tl, Ev.isi_nb, Ev.isi_ns, Ev.isi_ni, Ev.isi_nt, Ev.isi_nl, Ev.atI_0, Ev.atI_1, Ev.atI_2, Ev.atI_3, Ev.atI_4, Ev.tyOk_s, Ev.slW_to, Ev.slW_from, Ev.addW_SS, Int.toNat_natCast, Ev.tupW, Ev.lstW, Option.some.injEq, exists_eq_left', List.set_set, Option.map_some, W.int.injEq, W.str.injEq, W.loc.injEq, Nat.reduceLeDiff, and_self, Int.reduceLT, Int.reduceLE, Int.reduceNeg, Int.reduceToNat, Int.reduceAdd, Int.reduceMul, Int.reduceSub, decide_eq_true_eq, m_f_law_take, wpR_ixL e, setO_L e, wpR_ixL (at_set' e)]
    refine mixed_ok (by omega) fun z hz => ?_
    try simp (maxSteps := 500000) (implicitDefEqProofs := false) (disch := omega) only [Ev.wpR_ok, Ev.wpR_no, Ev.wpR_bind, Ev.wpR_ite, Ev.wpS_nx, Ev.wpS_rt, Ev.Kn_nx, Ev.Kn_rt, Ev.Kn_bk, Ev.Kn_ct, Ev.wpS_seq, Ev.wpS_ret, Ev.wpS_expr, Ev.wpS_set, Ev.wpS_ite, Ev.wpS_if, Ev.wpS_nil, Ev.wpS_cnt, Ev.wpS_brk, Ev.wpS_retN, Ev.wpS_asg, Ev.wpS_put, Ev.wpR_run, Ev.onRet_nx, Ev.onRet_rt, Ev.onNx_nx, Ev.onNx_ct, Ev.onNx_bk, Ev.onNx_rt, Ev.var_0, Ev.var_S, Ev.wpR_lc, Ev.wpS_for, Ev.e1, Ev.e2, Ev.eL, Ev.eC, Ev.aNil, Ev.aCons, Ev.bTest, Ev.bAnd, Ev.bOr, Ev.bNot, Ev.bTru, Ev.vAnd, Ev.vOr, Ev.vNot, Ev.eIf, Ev.bYes, Ev.eM, Ev.eSl, Ev.oNone, Ev.oSome, Ev.dnewW, Ev.startE, Ev.wipeE, List.map_cons, List.map_nil, List.length_cons, List.length_nil, List.replicate, List.cons_append, List.nil_append, Nat.reduceAdd, Nat.reduceSub, List.set_cons_zero, List.set_cons_succ, if_true, if_false, Ev.ifF, true_and, and_true, Bool.false_eq_true, Bool.not_true, Bool.not_false, reduceIte, Nat.zero_add, Ev.addW_ii, Ev.addW_tt, Ev.subW_ii, Ev.mulW_ii, Ev.modW_ii, Ev.fdivW_ii, Ev.powW_ii, Ev.negW_i, Ev.cmpI_ii, Ev.isW_n, Ev.isnW_n, Ev.isNon_n, Ev.isNon_b, Ev.isNon_i, Ev.isNon_s, Ev.isNon_t, Ev.isNon_l, Ev.max2W_ii, Ev.min2W_ii, Ev.intW_i, Ev.intW_b, Ev.lenW_t, Ev.lenW_r, Ev.wpR_ixT, Ev.wpR_ixR, Ev.wpR_ixS, Ev.listW_t, Ev.tupleW_t, Ev.truW_b, Ev.truW_n, Ev.truW_i, Ev.truW_t, Ev.eqW_ii, Ev.neW_ii, Ev.eqW_ss, Ev.neW_ss, Ev.eqW_bb, Ev.ixN_0, Ev.ixN_1, Ev.ixN_2, Ev.ixN_3, Ev.getE_set_self, Ev.wpR_rng1, Ev.wpR_seq, Ev.wpR_zip, Ev.isi_bb, Ev.isi_bs, Ev.isi_bi, Ev.isi_bt, Ev.isi_bl, Ev.isi_ib, Ev.isi_is, Ev.isi_ii, Ev.isi_it, Ev.isi_il, Ev.isi_sb, Ev.isi_ss, Ev.isi_si, Ev.isi_st, Ev.isi_sl, Ev.isi_tb, Ev.isi_ts, Ev.isi_ti, Ev.isi_tt, Ev.isi_tl, Ev.isi_nb, Ev.isi_ns, Ev.isi_ni, Ev.isi_nt, Ev.isi_nl, Ev.atI_0, Ev.atI_1, Ev.atI_2, Ev.atI_3, Ev.atI_4, Ev.tyOk_s, Ev.slW_to, Ev.slW_from, Ev.addW_SS, Int.toNat_natCast, Ev.tupW, Ev.lstW, Option.some.injEq, exists_eq_left', List.set_set, Option.map_some, W.int.injEq, W.str.injEq, W.loc.injEq, Nat.reduceLeDiff, and_self, Int.reduceLT, Int.reduceLE, Int.reduceNeg, Int.reduceToNat, Int.reduceAdd, Int.reduceMul, Int.reduceSub, decide_eq_true_eq, hk.1]
    exact fin _ _ _ _ _ (Int.emod_nonneg _ (by omega)) (Int.emod_lt_of_pos _ hk.1)
  · try simp (maxSteps := 500000) (implicitDefEqProofs := false) (disch := omega) only [Ev.wpR_ok, Ev.wpR_no, Ev.wpR_bind, Ev.wpR_ite, Ev.wpS_nx, Ev.wpS_rt, Ev.Kn_nx, Ev.Kn_rt, Ev.Kn_bk, Ev.Kn_ct, Ev.wpS_seq, Ev.wpS_ret, Ev.wpS_expr, Ev.wpS_set, Ev.wpS_ite, Ev.wpS_if, Ev.wpS_nil, Ev.wpS_cnt, Ev.wpS_brk, Ev.wpS_retN, Ev.wpS_asg, Ev.wpS_put, Ev.wpR_run, Ev.onRet_nx, Ev.onRet_rt, Ev.onNx_nx, Ev.onNx_ct, Ev.onNx_bk, Ev.onNx_rt, Ev.var_0, Ev.var_S, Ev.wpR_lc, Ev.wpS_for, Ev.e1, Ev.e2, Ev.eL, Ev.eC, Ev.aNil, Ev.aCons, Ev.bTest, Ev.bAnd, Ev.bOr, Ev.bNot, Ev.bTru, Ev.vAnd, Ev.vOr, Ev.vNot, Ev.eIf, Ev.bYes, Ev.eM, Ev.eSl, Ev.oNone, Ev.oSome, Ev.dnewW, Ev.startE, Ev.wipeE, List.map_cons, List.map_nil, List.length_cons, List.length_nil, List.replicate, List.cons_append, List.nil_append, Nat.reduceAdd, Nat.reduceSub, List.set_cons_zero, List.set_cons_succ, if_true, if_false, Ev.ifF, true_and, and_true, Bool.false_eq_true, Bool.not_true, Bool.not_false, reduceIte, Nat.zero_add, Ev.addW_ii, Ev.addW_tt, Ev.subW_ii, Ev.mulW_ii, Ev.modW_ii, Ev.fdivW_ii, Ev.powW_ii, Ev.negW_i, Ev.cmpI_ii, Ev.isW_n, Ev.isnW_n, Ev.isNon_n, Ev.isNon_b, Ev.isNon_i, Ev.isNon_s, Ev.isNon_t, Ev.isNon_l, Ev.max2W_ii, Ev.min2W_ii, Ev.intW_i, Ev.intW_b, Ev.lenW_t, Ev.lenW_r, Ev.wpR_ixT, Ev.wpR_ixR, Ev.wpR_ixS, Ev.listW_t, Ev.tupleW_t, Ev.truW_b, Ev.truW_n, Ev.truW_i, Ev.truW_t, Ev.eqW_ii, Ev.neW_ii, Ev.eqW_ss, Ev.neW_ss, Ev.eqW_bb, Ev.ixN_0, Ev.ixN_1, Ev.ixN_2, Ev.ixN_3, Ev.getE_set_self, Ev.wpR_rng1, Ev.wpR_seq, Ev.wpR_zip, Ev.isi_bb, Ev.isi_bs, Ev.isi_bi, Ev.isi_bt, Ev.isi_bl, Ev.isi_ib, Ev.isi_is, Ev.isi_ii, Ev.isi_it, Ev.isi_il, Ev.isi_sb, Ev.isi_ss, Ev.isi_si, Ev.isi_st, Ev.isi_sl, Ev.isi_tb, Ev.isi_ts, Ev.isi_ti, Ev.isi_tt, Ev.isi_tl, Ev.isi_nb, Ev.isi_ns, Ev.isi_ni, Ev.isi_nt, Ev.isi_nl, Ev.atI_0, Ev.atI_1, Ev.atI_2, Ev.atI_3, Ev.atI_4, Ev.tyOk_s, Ev.slW_to, Ev.slW_from, Ev.addW_SS, Int.toNat_natCast, Ev.tupW, Ev.lstW, Option.some.injEq, exists_eq_left', List.set_set, Option.map_some, W.int.injEq, W.str.injEq, W.loc.injEq, Nat.reduceLeDiff, and_self, Int.reduceLT, Int.reduceLE, Int.reduceNeg, Int.reduceToNat, Int.reduceAdd, Int.reduceMul, Int.reduceSub, decide_eq_true_eq, m_f_law_take, wpR_ixL e, setO_L e, wpR_ixL (at_set' e), setO_L (at_set' e)]
    refine ⟨hk.1, hk, ?_⟩
    split
    · exact fin _ _ _ _ _ (Int.emod_nonneg _ (by omega)) (Int.emod_lt_of_pos _ hk.1)
    · exact fin _ _ _ _ _ (Int.emod_nonneg _ (by omega)) (Int.emod_lt_of_pos _ hk.1)
end Lw

set_option linter.all false
set_option maxRecDepth 100000
namespace Lw
open PySem L2 Ev
variable {EE : Exc}
/-- a word by its number -/
def wordAt (L b : List Nat) (idx a way k : Nat) : List Nat :=
  if way = 0 then b.take a ++ [L.getD ((idx + 5 * k) % 26) 0] ++ b.drop (a + 1) else if way = 1 then [L.getD ((idx + 5 * k) % 26) 0] ++ b.take ((3 * k + a) % 8) else if way = 2 then b.take (k % 8 + 1) else b.take (8 - k % 8)
theorem wordAt_inj {L b : List Nat} {idx a way m k k' : Nat} (hL : L.length = 26) (hd : L.Nodup) (hb : b.length = 8) (ha : a < 8) (hw : way < 4) (hm : m ≤ 8 ∨ (m ≤ 26 ∧ way < 2)) (hk : k < m) (hk' : k' < m) (e : wordAt L b idx a way k = wordAt L b idx a way k') : k = k' := by
  have sg : L.getD ((idx + 5 * k) % 26) 0 = L.getD ((idx + 5 * k') % 26) 0 → k < 26 → k' < 26 → k = k' := by
    intro e h1 h2
    rw [gD_at (by omega), gD_at (by omega)] at e
    have := (List.getElem_inj hd).mp e
    omega
  unfold wordAt at e
  split at e
  · refine sg ?_ (by omega) (by omega)
    have := congrArg (fun l => l[a]?) e
    simpa [List.getElem?_append, List.length_take, hb, Nat.min_eq_left (Nat.le_of_lt ha)] using this
  · split at e
    · refine sg ?_ (by omega) (by omega)
      simp only [List.cons_append, List.nil_append, List.cons.injEq] at e
      exact e.1
    · split at e
      · have := congrArg List.length e
        simp only [List.length_take, hb] at this
        omega
      · have := congrArg List.length e
        simp only [List.length_take, hb] at this
        omega
theorem wordAt_ok {L b : List Nat} {idx a way k : Nat} (hL : L.length = 26) (hb : b.length = 8) (ha : a < 8) (hbL : ∀ c ∈ b, c ∈ L) : 1 ≤ (wordAt L b idx a way k).length ∧ (wordAt L b idx a way k).length ≤ 8 ∧ ∀ c ∈ wordAt L b idx a way k, c ∈ L := by
  have hs : L.getD ((idx + 5 * k) % 26) 0 ∈ L := by
    rw [gD_at (by omega)]
    exact List.getElem_mem _
  unfold wordAt
  split
  · refine ⟨by simp; omega, by simp [hb]; omega, fun c hc => ?_⟩
    rcases List.mem_append.mp hc with hc | hc
    · rcases List.mem_append.mp hc with hc | hc
      · exact hbL c (List.mem_of_mem_take hc)
      · rw [List.mem_singleton.mp hc]; exact hs
    · exact hbL c (List.mem_of_mem_drop hc)
  · split
    · refine ⟨by simp, by simp [hb]; omega, fun c hc => ?_⟩
      rcases List.mem_append.mp hc with hc | hc
      · rw [List.mem_singleton.mp hc]; exact hs
      · exact hbL c (List.mem_of_mem_take hc)
    · split
      · exact ⟨by simp [hb]; omega, by simp [hb]; omega, fun c hc => hbL c (List.mem_of_mem_take hc)⟩
      · exact ⟨by simp [hb]; omega, by simp [hb], fun c hc => hbL c (List.mem_of_mem_take hc)⟩
theorem words_ok {n i : Nat} {many ways : Int} {L : List Nat} {S : Sto} {Q : W → Sto → Prop} (hn : 3 ≤ n) (hs : Strm S i) (hL : L.length = 26) (hd : L.Nodup) (hm : 0 ≤ many) (hw : 0 < ways ∧ ways ≤ 4) (hmw : many ≤ 8 ∨ (many ≤ 26 ∧ ways ≤ 2))
    (h : ∀ (p : Nat) (wds : List (List Nat)) (S' : Sto), Xt [i] S S' → S.length ≤ p → Strm S' i → S'[p]? = some (.lst (wds.map fun w => .str (SX.S w))) → wds.length = many.toNat → wds.Nodup → (∀ w ∈ wds, 1 ≤ w.length ∧ w.length ≤ 8 ∧ ∀ c ∈ w, c ∈ L) → Q (.loc p) S') :
    wpR (call n .f_law_words [.loc i, .int many, .str (SX.S L), .int ways] S) Q := by
  obtain ⟨n, rfl⟩ : ∃ m, n = m + 1 := ⟨n - 1, by omega⟩
  rw [call_s, body]
  try simp (maxSteps := 500000) (implicitDefEqProofs := false) (disch := omega) only [Ev.wpR_ok, Ev.wpR_no, Ev.wpR_bind, Ev.wpR_ite, Ev.wpS_nx, Ev.wpS_rt, Ev.Kn_nx, Ev.Kn_rt, Ev.Kn_bk, Ev.Kn_ct, Ev.wpS_seq, Ev.wpS_ret, Ev.wpS_expr, Ev.wpS_set, Ev.wpS_ite, Ev.wpS_if, Ev.wpS_nil, Ev.wpS_cnt, Ev.wpS_brk, Ev.wpS_retN, Ev.wpS_asg, Ev.wpS_put, Ev.wpR_run, Ev.onRet_nx, Ev.onRet_rt, Ev.onNx_nx, Ev.onNx_ct, Ev.onNx_bk, Ev.onNx_rt, Ev.var_0, Ev.var_S, Ev.wpR_lc, Ev.wpS_for, Ev.e1, Ev.e2, Ev.eL, Ev.eC, Ev.aNil, Ev.aCons, Ev.bTest, Ev.bAnd, Ev.bOr, Ev.bNot, Ev.bTru, Ev.vAnd, Ev.vOr, Ev.vNot, Ev.eIf, Ev.bYes, Ev.eM, Ev.eSl, Ev.oNone, Ev.oSome, Ev.dnewW, Ev.startE, Ev.wipeE, List.map_cons, List.map_nil, List.length_cons, List.length_nil, List.replicate, List.cons_append, List.nil_append, Nat.reduceAdd, Nat.reduceSub, List.set_cons_zero, List.set_cons_succ, if_true, if_false, Ev.ifF, true_and, and_true, Bool.false_eq_true, Bool.not_true, Bool.not_false, reduceIte, Nat.zero_add, Ev.addW_ii, Ev.addW_tt, Ev.subW_ii, Ev.mulW_ii, Ev.modW_ii, Ev.fdivW_ii, Ev.powW_ii, Ev.negW_i, Ev.cmpI_ii, Ev.isW_n, Ev.isnW_n, Ev.isNon_n, Ev.isNon_b, Ev.isNon_i, Ev.isNon_s, Ev.isNon_t, Ev.isNon_l, Ev.max2W_ii, Ev.min2W_ii, Ev.intW_i, Ev.intW_b, Ev.lenW_t, Ev.lenW_r, Ev.wpR_ixT, Ev.wpR_ixR, Ev.wpR_ixS, Ev.listW_t, Ev.tupleW_t, Ev.truW_b, Ev.truW_n, Ev.truW_i, Ev.truW_t, Ev.eqW_ii, Ev.neW_ii, Ev.eqW_ss, Ev.neW_ss, Ev.eqW_bb, Ev.ixN_0, Ev.ixN_1, Ev.ixN_2, Ev.ixN_3, Ev.getE_set_self, Ev.wpR_rng1, Ev.wpR_seq, Ev.wpR_zip, Ev.isi_bb, Ev.isi_bs, Ev.isi_bi, Ev.isi_bt, Ev.isi_bl, Ev.isi_ib, Ev.isi_is, Ev.isi_ii, Ev.isi_it, Ev.isi_il, Ev.isi_sb, Ev.isi_ss, Ev.isi_si, Ev.isi_st, Ev.isi_sl, Ev.isi_tb, Ev.isi_ts, Ev.isi_ti, Ev.isi_tt, Ev.isi_tl, Ev.isi_nb, Ev.isi_ns, Ev.isi_ni, Ev.isi_nt, Ev.isi_nl, Ev.atI_0, Ev.atI_1, Ev.atI_2, Ev.atI_3, Ev.atI_4, Ev.tyOk_s, Ev.slW_to, Ev.slW_from, Ev.addW_SS, Int.toNat_natCast, Ev.tupW, Ev.lstW, Option.some.injEq, exists_eq_left', List.set_set, Option.map_some, W.int.injEq, W.str.injEq, W.loc.injEq, Nat.reduceLeDiff, and_self, Int.reduceLT, Int.reduceLE, Int.reduceNeg, Int.reduceToNat, Int.reduceAdd, Int.reduceMul, Int.reduceSub, decide_eq_true_eq, m_f_law_words]
  refine wp_lcl (len := 8) (fun k acc S1 => Xt [i] S S1 ∧ Strm S1 i ∧ ∃ cs : List (List Nat), acc = cs.map (fun c => .str (SX.S c)) ∧ cs.length = k ∧ ∀ c ∈ cs, ∃ x ∈ L, c = [x]) ?_ ?_ _ 0 [] S (by decide) (by decide) ⟨Xt.refl, hs, [], rfl, rfl, fun c h => by cases h⟩
  · rintro k acc S1 hk ⟨x1, st1, cs, rfl, hc, hin⟩
    refine ⟨_, _, rng0_lt hk, rfl, ?_⟩
    try simp (maxSteps := 500000) (implicitDefEqProofs := false) (disch := omega) only [Ev.wpR_ok, Ev.wpR_no, Ev.wpR_bind, Ev.wpR_ite, Ev.wpS_nx, Ev.wpS_rt, Ev.Kn_nx, Ev.Kn_rt, Ev.Kn_bk, Ev.Kn_ct, Ev.wpS_seq, Ev.wpS_ret, Ev.wpS_expr, Ev.wpS_set, Ev.wpS_ite, Ev.wpS_if, Ev.wpS_nil, Ev.wpS_cnt, Ev.wpS_brk, Ev.wpS_retN, Ev.wpS_asg, Ev.wpS_put, Ev.wpR_run, Ev.onRet_nx, Ev.onRet_rt, Ev.onNx_nx, Ev.onNx_ct, Ev.onNx_bk, Ev.onNx_rt, Ev.var_0, Ev.var_S, Ev.wpR_lc, Ev.wpS_for, Ev.e1, Ev.e2, Ev.eL, Ev.eC, Ev.aNil, Ev.aCons, Ev.bTest, Ev.bAnd, Ev.bOr, Ev.bNot, Ev.bTru, Ev.vAnd, Ev.vOr, Ev.vNot, Ev.eIf, Ev.bYes, Ev.eM, Ev.eSl, Ev.oNone, Ev.oSome, Ev.dnewW, Ev.startE, Ev.wipeE, List.map_cons, List.map_nil, List.length_cons, List.length_nil, List.replicate, List.cons_append, List.nil_append, Nat.reduceAdd, Nat.reduceSub, List.set_cons_zero, List.set_cons_succ, if_true, if_false, Ev.ifF, true_and, and_true, Bool.false_eq_true, Bool.not_true, Bool.not_false, reduceIte, Nat.zero_add, Ev.addW_ii, Ev.addW_tt, Ev.subW_ii, Ev.mulW_ii, Ev.modW_ii, Ev.fdivW_ii, Ev.powW_ii, Ev.negW_i, Ev.cmpI_ii, Ev.isW_n, Ev.isnW_n, Ev.isNon_n, Ev.isNon_b, Ev.isNon_i, Ev.isNon_s, Ev.isNon_t, Ev.isNon_l, Ev.max2W_ii, Ev.min2W_ii, Ev.intW_i, Ev.intW_b, Ev.lenW_t, Ev.lenW_r, Ev.wpR_ixT, Ev.wpR_ixR, Ev.wpR_ixS, Ev.listW_t, Ev.tupleW_t, Ev.truW_b, Ev.truW_n, Ev.truW_i, Ev.truW_t, Ev.eqW_ii, Ev.neW_ii, Ev.eqW_ss, Ev.neW_ss, Ev.eqW_bb, Ev.ixN_0, Ev.ixN_1, Ev.ixN_2, Ev.ixN_3, Ev.getE_set_self, Ev.wpR_rng1, Ev.wpR_seq, Ev.wpR_zip, Ev.isi_bb, Ev.isi_bs, Ev.isi_bi, Ev.isi_bt, Ev.isi_bl, Ev.isi_ib, Ev.isi_is, Ev.isi_ii, Ev.isi_it, Ev.isi_il, Ev.isi_sb, Ev.isi_ss, Ev.isi_si, Ev.isi_st, Ev.isi_sl, Ev.isi_tb, Ev.isi_ts, Ev.isi_ti, Ev.isi_tt, Ev.isi_tl, Ev.isi_nb, Ev.isi_ns, Ev.isi_ni, Ev.isi_nt, Ev.isi_nl, Ev.atI_0, Ev.atI_1, Ev.atI_2, Ev.atI_3, Ev.atI_4, Ev.tyOk_s, Ev.slW_to, Ev.slW_from, Ev.addW_SS, Int.toNat_natCast, Ev.tupW, Ev.lstW, Option.some.injEq, exists_eq_left', List.set_set, Option.map_some, W.int.injEq, W.str.injEq, W.loc.injEq, Nat.reduceLeDiff, and_self, Int.reduceLT, Int.reduceLE, Int.reduceNeg, Int.reduceToNat, Int.reduceAdd, Int.reduceMul, Int.reduceSub, decide_eq_true_eq]
    refine take_ok (by omega) st1 (by decide) fun z o h1 h2 st2 => ?_
    try simp (maxSteps := 500000) (implicitDefEqProofs := false) (disch := omega) only [Ev.wpR_ok, Ev.wpR_no, Ev.wpR_bind, Ev.wpR_ite, Ev.wpS_nx, Ev.wpS_rt, Ev.Kn_nx, Ev.Kn_rt, Ev.Kn_bk, Ev.Kn_ct, Ev.wpS_seq, Ev.wpS_ret, Ev.wpS_expr, Ev.wpS_set, Ev.wpS_ite, Ev.wpS_if, Ev.wpS_nil, Ev.wpS_cnt, Ev.wpS_brk, Ev.wpS_retN, Ev.wpS_asg, Ev.wpS_put, Ev.wpR_run, Ev.onRet_nx, Ev.onRet_rt, Ev.onNx_nx, Ev.onNx_ct, Ev.onNx_bk, Ev.onNx_rt, Ev.var_0, Ev.var_S, Ev.wpR_lc, Ev.wpS_for, Ev.e1, Ev.e2, Ev.eL, Ev.eC, Ev.aNil, Ev.aCons, Ev.bTest, Ev.bAnd, Ev.bOr, Ev.bNot, Ev.bTru, Ev.vAnd, Ev.vOr, Ev.vNot, Ev.eIf, Ev.bYes, Ev.eM, Ev.eSl, Ev.oNone, Ev.oSome, Ev.dnewW, Ev.startE, Ev.wipeE, List.map_cons, List.map_nil, List.length_cons, List.length_nil, List.replicate, List.cons_append, List.nil_append, Nat.reduceAdd, Nat.reduceSub, List.set_cons_zero, List.set_cons_succ, if_true, if_false, Ev.ifF, true_and, and_true, Bool.false_eq_true, Bool.not_true, Bool.not_false, reduceIte, Nat.zero_add, Ev.addW_ii, Ev.addW_tt, Ev.subW_ii, Ev.mulW_ii, Ev.modW_ii, Ev.fdivW_ii, Ev.powW_ii, Ev.negW_i, Ev.cmpI_ii, Ev.isW_n, Ev.isnW_n, Ev.isNon_n, Ev.isNon_b, Ev.isNon_i, Ev.isNon_s, Ev.isNon_t, Ev.isNon_l, Ev.max2W_ii, Ev.min2W_ii, Ev.intW_i, Ev.intW_b, Ev.lenW_t, Ev.lenW_r, Ev.wpR_ixT, Ev.wpR_ixR, Ev.wpR_ixS, Ev.listW_t, Ev.tupleW_t, Ev.truW_b, Ev.truW_n, Ev.truW_i, Ev.truW_t, Ev.eqW_ii, Ev.neW_ii, Ev.eqW_ss, Ev.neW_ss, Ev.eqW_bb, Ev.ixN_0, Ev.ixN_1, Ev.ixN_2, Ev.ixN_3, Ev.getE_set_self, Ev.wpR_rng1, Ev.wpR_seq, Ev.wpR_zip, Ev.isi_bb, Ev.isi_bs, Ev.isi_bi, Ev.isi_bt, Ev.isi_bl, Ev.isi_ib, Ev.isi_is, Ev.isi_ii, Ev.isi_it, Ev.isi_il, Ev.isi_sb, Ev.isi_ss, Ev.isi_si, Ev.isi_st, Ev.isi_sl, Ev.isi_tb, Ev.isi_ts, Ev.isi_ti, Ev.isi_tt, Ev.isi_tl, Ev.isi_nb, Ev.isi_ns, Ev.isi_ni, Ev.isi_nt, Ev.isi_nl, Ev.atI_0, Ev.atI_1, Ev.atI_2, Ev.atI_3, Ev.atI_4, Ev.tyOk_s, Ev.slW_to, Ev.slW_from, Ev.addW_SS, Int.toNat_natCast, Ev.tupW, Ev.lstW, Option.some.injEq, exists_eq_left', List.set_set, Option.map_some, W.int.injEq, W.str.injEq, W.loc.injEq, Nat.reduceLeDiff, and_self, Int.reduceLT, Int.reduceLE, Int.reduceNeg, Int.reduceToNat, Int.reduceAdd, Int.reduceMul, Int.reduceSub, decide_eq_true_eq, SX.S_len, hL]
    have hz : z.toNat < L.length := by omega
    refine ⟨L[z.toNat], atI_of h1 (List.getElem?_eq_getElem hz), by simp; omega, x1.trans (Xt.set (by simp)), st2, cs ++ [[L[z.toNat]]], by simp, by simp [hc], fun c hc => ?_⟩
    rcases List.mem_append.mp hc with hc | hc
    · exact hin c hc
    · exact ⟨_, List.getElem_mem hz, List.mem_singleton.mp hc⟩
  · rintro acc S1 ⟨x1, st1, cs, rfl, hc, hin⟩
    refine ⟨rng_end, ?_⟩
    have base : ∃ b : List Nat, cs.flatten = b ∧ b.length = 8 ∧ (∀ c ∈ b, c ∈ L) := by
      refine ⟨_, rfl, ?_, fun c hc => ?_⟩
      · have : ∀ l : List (List Nat), (∀ c ∈ l, ∃ x ∈ L, c = [x]) → l.flatten.length = l.length := by
          intro l
          induction l with
          | nil => intro _; rfl
          | cons a l ih =>
            intro h
            obtain ⟨x, _, rfl⟩ := h a (List.mem_cons_self ..)
            rw [List.flatten_cons, List.length_append, ih fun c hc => h c (List.mem_cons_of_mem _ hc)]
            simp; omega
        rw [this cs hin, hc]
      · obtain ⟨w, hw, hcw⟩ := List.mem_flatten.mp hc
        obtain ⟨x, hx, rfl⟩ := hin w hw
        rw [List.mem_singleton.mp hcw]; exact hx
    have hsum : (cs.map (·.length)).sum ≤ 1000000 := by
      rw [← List.length_flatten]
      obtain ⟨b, hb, h8, _⟩ := base
      rw [hb, h8]; decide
    rw [show Str.ofString "" = SX.S [] from rfl, joinW_l at_new' hsum]
    obtain ⟨b, hb, h8, hbL⟩ := base
    rw [hb]
    have st2 := st1.mono (Xt.app (M := []) (T := [O.lst (cs.map (fun c => W.str (SX.S c)))])) (by simp)
    have x2 := x1.trans (Xt.app (T := [O.lst (cs.map (fun c => W.str (SX.S c)))]))
    generalize S1 ++ [O.lst (cs.map (fun c => W.str (SX.S c)))] = S2 at *
    clear hc hin hb hsum x1 st1 S1 cs
    try simp (maxSteps := 500000) (implicitDefEqProofs := false) (disch := omega) only [Ev.wpR_ok, Ev.wpR_no, Ev.wpR_bind, Ev.wpR_ite, Ev.wpS_nx, Ev.wpS_rt, Ev.Kn_nx, Ev.Kn_rt, Ev.Kn_bk, Ev.Kn_ct, Ev.wpS_seq, Ev.wpS_ret, Ev.wpS_expr, Ev.wpS_set, Ev.wpS_ite, Ev.wpS_if, Ev.wpS_nil, Ev.wpS_cnt, Ev.wpS_brk, Ev.wpS_retN, Ev.wpS_asg, Ev.wpS_put, Ev.wpR_run, Ev.onRet_nx, Ev.onRet_rt, Ev.onNx_nx, Ev.onNx_ct, Ev.onNx_bk, Ev.onNx_rt, Ev.var_0, Ev.var_S, Ev.wpR_lc, Ev.wpS_for, Ev.e1, Ev.e2, Ev.eL, Ev.eC, Ev.aNil, Ev.aCons, Ev.bTest, Ev.bAnd, Ev.bOr, Ev.bNot, Ev.bTru, Ev.vAnd, Ev.vOr, Ev.vNot, Ev.eIf, Ev.bYes, Ev.eM, Ev.eSl, Ev.oNone, Ev.oSome, Ev.dnewW, Ev.startE, Ev.wipeE, List.map_cons, List.map_nil, List.length_cons, List.length_nil, List.replicate, List.cons_append, List.nil_append, Nat.reduceAdd, Nat.reduceSub, List.set_cons_zero, List.set_cons_succ, if_true, if_false, Ev.ifF, true_and, and_true, Bool.false_eq_true, Bool.not_true, Bool.not_false, reduceIte, Nat.zero_add, Ev.addW_ii, Ev.addW_tt, Ev.subW_ii, Ev.mulW_ii, Ev.modW_ii, Ev.fdivW_ii, Ev.powW_ii, Ev.negW_i, Ev.cmpI_ii, Ev.isW_n, Ev.isnW_n, Ev.isNon_n, Ev.isNon_b, Ev.isNon_i, Ev.isNon_s, Ev.isNon_t, Ev.isNon_l, Ev.max2W_ii, Ev.min2W_ii, Ev.intW_i, Ev.intW_b, Ev.lenW_t, Ev.lenW_r, Ev.wpR_ixT, Ev.wpR_ixR, Ev.wpR_ixS, Ev.listW_t, Ev.tupleW_t, Ev.truW_b, Ev.truW_n, Ev.truW_i, Ev.truW_t, Ev.eqW_ii, Ev.neW_ii, Ev.eqW_ss, Ev.neW_ss, Ev.eqW_bb, Ev.ixN_0, Ev.ixN_1, Ev.ixN_2, Ev.ixN_3, Ev.getE_set_self, Ev.wpR_rng1, Ev.wpR_seq, Ev.wpR_zip, Ev.isi_bb, Ev.isi_bs, Ev.isi_bi, Ev.isi_bt, Ev.isi_bl, Ev.isi_ib, Ev.isi_is, Ev.isi_ii, Ev.isi_it, Ev.isi_il, Ev.isi_sb, Ev.isi_ss, Ev.isi_si, Ev.isi_st, Ev.isi_sl, Ev.isi_tb, Ev.isi_ts, Ev.isi_ti, Ev.isi_tt, Ev.isi_tl, Ev.isi_nb, Ev.isi_ns, Ev.isi_ni, Ev.isi_nt, Ev.isi_nl, Ev.atI_0, Ev.atI_1, Ev.atI_2, Ev.atI_3, Ev.atI_4, Ev.tyOk_s, Ev.slW_to, Ev.slW_from, Ev.addW_SS, Int.toNat_natCast, Ev.tupW, Ev.lstW, Option.some.injEq, exists_eq_left', List.set_set, Option.map_some, W.int.injEq, W.str.injEq, W.loc.injEq, Nat.reduceLeDiff, and_self, Int.reduceLT, Int.reduceLE, Int.reduceNeg, Int.reduceToNat, Int.reduceAdd, Int.reduceMul, Int.reduceSub, decide_eq_true_eq]
    refine take_ok (by omega) st2 (by decide) fun at_ o h1 h2 st3 => ?_
    try simp (maxSteps := 500000) (implicitDefEqProofs := false) (disch := omega) only [Ev.wpR_ok, Ev.wpR_no, Ev.wpR_bind, Ev.wpR_ite, Ev.wpS_nx, Ev.wpS_rt, Ev.Kn_nx, Ev.Kn_rt, Ev.Kn_bk, Ev.Kn_ct, Ev.wpS_seq, Ev.wpS_ret, Ev.wpS_expr, Ev.wpS_set, Ev.wpS_ite, Ev.wpS_if, Ev.wpS_nil, Ev.wpS_cnt, Ev.wpS_brk, Ev.wpS_retN, Ev.wpS_asg, Ev.wpS_put, Ev.wpR_run, Ev.onRet_nx, Ev.onRet_rt, Ev.onNx_nx, Ev.onNx_ct, Ev.onNx_bk, Ev.onNx_rt, Ev.var_0, Ev.var_S, Ev.wpR_lc, Ev.wpS_for, Ev.e1, Ev.e2, Ev.eL, Ev.eC, Ev.aNil, Ev.aCons, Ev.bTest, Ev.bAnd, Ev.bOr, Ev.bNot, Ev.bTru, Ev.vAnd, Ev.vOr, Ev.vNot, Ev.eIf, Ev.bYes, Ev.eM, Ev.eSl, Ev.oNone, Ev.oSome, Ev.dnewW, Ev.startE, Ev.wipeE, List.map_cons, List.map_nil, List.length_cons, List.length_nil, List.replicate, List.cons_append, List.nil_append, Nat.reduceAdd, Nat.reduceSub, List.set_cons_zero, List.set_cons_succ, if_true, if_false, Ev.ifF, true_and, and_true, Bool.false_eq_true, Bool.not_true, Bool.not_false, reduceIte, Nat.zero_add, Ev.addW_ii, Ev.addW_tt, Ev.subW_ii, Ev.mulW_ii, Ev.modW_ii, Ev.fdivW_ii, Ev.powW_ii, Ev.negW_i, Ev.cmpI_ii, Ev.isW_n, Ev.isnW_n, Ev.isNon_n, Ev.isNon_b, Ev.isNon_i, Ev.isNon_s, Ev.isNon_t, Ev.isNon_l, Ev.max2W_ii, Ev.min2W_ii, Ev.intW_i, Ev.intW_b, Ev.lenW_t, Ev.lenW_r, Ev.wpR_ixT, Ev.wpR_ixR, Ev.wpR_ixS, Ev.listW_t, Ev.tupleW_t, Ev.truW_b, Ev.truW_n, Ev.truW_i, Ev.truW_t, Ev.eqW_ii, Ev.neW_ii, Ev.eqW_ss, Ev.neW_ss, Ev.eqW_bb, Ev.ixN_0, Ev.ixN_1, Ev.ixN_2, Ev.ixN_3, Ev.getE_set_self, Ev.wpR_rng1, Ev.wpR_seq, Ev.wpR_zip, Ev.isi_bb, Ev.isi_bs, Ev.isi_bi, Ev.isi_bt, Ev.isi_bl, Ev.isi_ib, Ev.isi_is, Ev.isi_ii, Ev.isi_it, Ev.isi_il, Ev.isi_sb, Ev.isi_ss, Ev.isi_si, Ev.isi_st, Ev.isi_sl, Ev.isi_tb, Ev.isi_ts, Ev.isi_ti, Ev.isi_tt, Ev.isi_tl, Ev.isi_nb, Ev.isi_ns, Ev.isi_ni, Ev.isi_nt, Ev.isi_nl, Ev.atI_0, Ev.atI_1, Ev.atI_2, Ev.atI_3, Ev.atI_4, Ev.tyOk_s, Ev.slW_to, Ev.slW_from, Ev.addW_SS, Int.toNat_natCast, Ev.tupW, Ev.lstW, Option.some.injEq, exists_eq_left', List.set_set, Option.map_some, W.int.injEq, W.str.injEq, W.loc.injEq, Nat.reduceLeDiff, and_self, Int.reduceLT, Int.reduceLE, Int.reduceNeg, Int.reduceToNat, Int.reduceAdd, Int.reduceMul, Int.reduceSub, decide_eq_true_eq]
    refine take_ok (by omega) st3 (by omega) fun way o' h3 h4 st4 => ?_
    try simp (maxSteps := 500000) (implicitDefEqProofs := false) (disch := omega) only [Ev.wpR_ok, Ev.wpR_no, Ev.wpR_bind, Ev.wpR_ite, Ev.wpS_nx, Ev.wpS_rt, Ev.Kn_nx, Ev.Kn_rt, Ev.Kn_bk, Ev.Kn_ct, Ev.wpS_seq, Ev.wpS_ret, Ev.wpS_expr, Ev.wpS_set, Ev.wpS_ite, Ev.wpS_if, Ev.wpS_nil, Ev.wpS_cnt, Ev.wpS_brk, Ev.wpS_retN, Ev.wpS_asg, Ev.wpS_put, Ev.wpR_run, Ev.onRet_nx, Ev.onRet_rt, Ev.onNx_nx, Ev.onNx_ct, Ev.onNx_bk, Ev.onNx_rt, Ev.var_0, Ev.var_S, Ev.wpR_lc, Ev.wpS_for, Ev.e1, Ev.e2, Ev.eL, Ev.eC, Ev.aNil, Ev.aCons, Ev.bTest, Ev.bAnd, Ev.bOr, Ev.bNot, Ev.bTru, Ev.vAnd, Ev.vOr, Ev.vNot, Ev.eIf, Ev.bYes, Ev.eM, Ev.eSl, Ev.oNone, Ev.oSome, Ev.dnewW, Ev.startE, Ev.wipeE, List.map_cons, List.map_nil, List.length_cons, List.length_nil, List.replicate, List.cons_append, List.nil_append, Nat.reduceAdd, Nat.reduceSub, List.set_cons_zero, List.set_cons_succ, if_true, if_false, Ev.ifF, true_and, and_true, Bool.false_eq_true, Bool.not_true, Bool.not_false, reduceIte, Nat.zero_add, Ev.addW_ii, Ev.addW_tt, Ev.subW_ii, Ev.mulW_ii, Ev.modW_ii, Ev.fdivW_ii, Ev.powW_ii, Ev.negW_i, Ev.cmpI_ii, Ev.isW_n, Ev.isnW_n, Ev.isNon_n, Ev.isNon_b, Ev.isNon_i, Ev.isNon_s, Ev.isNon_t, Ev.isNon_l, Ev.max2W_ii, Ev.min2W_ii, Ev.intW_i, Ev.intW_b, Ev.lenW_t, Ev.lenW_r, Ev.wpR_ixT, Ev.wpR_ixR, Ev.wpR_ixS, Ev.listW_t, Ev.tupleW_t, Ev.truW_b, Ev.truW_n, Ev.truW_i, Ev.truW_t, Ev.eqW_ii, Ev.neW_ii, Ev.eqW_ss, Ev.neW_ss, Ev.eqW_bb, Ev.ixN_0, Ev.ixN_1, Ev.ixN_2, Ev.ixN_3, Ev.getE_set_self, Ev.wpR_rng1, Ev.wpR_seq, Ev.wpR_zip, Ev.isi_bb, Ev.isi_bs, Ev.isi_bi, Ev.isi_bt, Ev.isi_bl, Ev.isi_ib, Ev.isi_is, Ev.isi_ii, Ev.isi_it, Ev.isi_il, Ev.isi_sb, Ev.isi_ss, Ev.isi_si, Ev.isi_st, Ev.isi_sl, Ev.isi_tb, Ev.isi_ts, Ev.isi_ti, Ev.isi_tt, Ev.isi_tl, Ev.isi_nb, Ev.isi_ns, Ev.isi_ni, Ev.isi_nt, Ev.isi_nl, Ev.atI_0, Ev.atI_1, Ev.atI_2, Ev.atI_3, Ev.atI_4, Ev.tyOk_s, Ev.slW_to, Ev.slW_from, Ev.addW_SS, Int.toNat_natCast, Ev.tupW, Ev.lstW, Option.some.injEq, exists_eq_left', List.set_set, Option.map_some, W.int.injEq, W.str.injEq, W.loc.injEq, Nat.reduceLeDiff, and_self, Int.reduceLT, Int.reduceLE, Int.reduceNeg, Int.reduceToNat, Int.reduceAdd, Int.reduceMul, Int.reduceSub, decide_eq_true_eq]
    rw [List.set_set] at st4
    have x4 := x2.trans (Xt.set (i := i) (o := o') (by simp))
    generalize S2.set i o' = S4 at *
    refine ⟨by omega, ?_⟩
    obtain ⟨a, rfl⟩ : ∃ a : Nat, at_ = a := ⟨at_.toNat, by omega⟩
    obtain ⟨wy, rfl⟩ : ∃ a : Nat, way = a := ⟨way.toNat, by omega⟩
    obtain ⟨idx, hidx⟩ := sindex_ok (hbL b[a] (List.getElem_mem (by omega)))
    have hba : atI b (a : Int) = some b[a] := Ev.atI_nat (List.getElem?_eq_getElem (by omega))
    refine wp_loop (len := many.toNat) (fun k s S5 => ∃ x8 x9 x10 p, s = [some (W.loc i), some (W.int many), some (W.str (SX.S L)), some (W.int ways), some (W.str (SX.S b)),
        some (W.int a), some (W.int wy), some (W.loc p), x8, x9, x10] ∧ Xt [i] S S5 ∧ Strm S5 i ∧ S.length ≤ p ∧ S5[p]? = some (.lst (((List.range k).map (wordAt L b idx a wy)).map fun w => .str (SX.S w)))) ?_ ?_ _ 0 _ _ (by omega) (by omega) ?_
    · rintro k s S5 hk ⟨x8, x9, x10, p, rfl, x5, st5, hp, ep⟩
      refine ⟨_, _, rng0_lt hk, rfl, ?_⟩
      try simp (maxSteps := 500000) (implicitDefEqProofs := false) (disch := omega) only [Ev.wpR_ok, Ev.wpR_no, Ev.wpR_bind, Ev.wpR_ite, Ev.wpS_nx, Ev.wpS_rt, Ev.Kn_nx, Ev.Kn_rt, Ev.Kn_bk, Ev.Kn_ct, Ev.wpS_seq, Ev.wpS_ret, Ev.wpS_expr, Ev.wpS_set, Ev.wpS_ite, Ev.wpS_if, Ev.wpS_nil, Ev.wpS_cnt, Ev.wpS_brk, Ev.wpS_retN, Ev.wpS_asg, Ev.wpS_put, Ev.wpR_run, Ev.onRet_nx, Ev.onRet_rt, Ev.onNx_nx, Ev.onNx_ct, Ev.onNx_bk, Ev.onNx_rt, Ev.var_0, Ev.var_S, Ev.wpR_lc, Ev.wpS_for, Ev.e1, Ev.e2, Ev.eL, Ev.eC, Ev.aNil, Ev.aCons, Ev.bTest, Ev.bAnd, Ev.bOr, Ev.bNot, Ev.bTru, Ev.vAnd, Ev.vOr, Ev.vNot, Ev.eIf, Ev.bYes, Ev.eM, Ev.eSl, Ev.oNone, Ev.oSome, Ev.dnewW, Ev.startE, Ev.wipeE, List.map_cons, List.map_nil, List.length_cons, List.length_nil, List.replicate, List.cons_append, List.nil_append, Nat.reduceAdd, Nat.reduceSub, List.set_cons_zero, List.set_cons_succ, if_true, if_false, Ev.ifF, true_and, and_true, Bool.false_eq_true, Bool.not_true, Bool.not_false, reduceIte, Nat.zero_add, Ev.addW_ii, Ev.addW_tt, Ev.subW_ii, Ev.mulW_ii, Ev.modW_ii, Ev.fdivW_ii, Ev.powW_ii, Ev.negW_i, Ev.cmpI_ii, Ev.isW_n, Ev.isnW_n, Ev.isNon_n, Ev.isNon_b, Ev.isNon_i, Ev.isNon_s, Ev.isNon_t, Ev.isNon_l, Ev.max2W_ii, Ev.min2W_ii, Ev.intW_i, Ev.intW_b, Ev.lenW_t, Ev.lenW_r, Ev.wpR_ixT, Ev.wpR_ixR, Ev.wpR_ixS, Ev.listW_t, Ev.tupleW_t, Ev.truW_b, Ev.truW_n, Ev.truW_i, Ev.truW_t, Ev.eqW_ii, Ev.neW_ii, Ev.eqW_ss, Ev.neW_ss, Ev.eqW_bb, Ev.ixN_0, Ev.ixN_1, Ev.ixN_2, Ev.ixN_3, Ev.getE_set_self, Ev.wpR_rng1, Ev.wpR_seq, Ev.wpR_zip, Ev.isi_bb, Ev.isi_bs, Ev.isi_bi, Ev.isi_bt, Ev.isi_bl, Ev.isi_ib, Ev.isi_is, Ev.isi_ii, Ev.isi_it, Ev.isi_il, Ev.isi_sb, Ev.isi_ss, Ev.isi_si, Ev.isi_st, Ev.isi_sl, Ev.isi_tb, Ev.isi_ts, Ev.isi_ti, Ev.isi_tt, Ev.isi_tl, Ev.isi_nb, Ev.isi_ns, Ev.isi_ni, Ev.isi_nt, Ev.isi_nl, Ev.atI_0, Ev.atI_1, Ev.atI_2, Ev.atI_3, Ev.atI_4, Ev.tyOk_s, Ev.slW_to, Ev.slW_from, Ev.addW_SS, Int.toNat_natCast, Ev.tupW, Ev.lstW, Option.some.injEq, exists_eq_left', List.set_set, Option.map_some, W.int.injEq, W.str.injEq, W.loc.injEq, Nat.reduceLeDiff, and_self, Int.reduceLT, Int.reduceLE, Int.reduceNeg, Int.reduceToNat, Int.reduceAdd, Int.reduceMul, Int.reduceSub, decide_eq_true_eq, hba, SX.S_len, h8, hidx]
      have hi : ((idx : Int) + 5 * k) % 26 = (((idx + 5 * k) % 26 : Nat) : Int) := by omega
      have hlt : (idx + 5 * k) % 26 < L.length := by omega
      have hpl : p < S5.length := lt_at ep
      refine ⟨cmul_l (by decide) (by decide), by omega, L[(idx + 5 * k) % 26], by rw [hi]; exact Ev.atI_nat (List.getElem?_eq_getElem hlt), ?_⟩
      refine ⟨by simp; omega, by simp; omega, cmul_l (by decide) (by decide), by simp; omega, tyOk_l (Xt.app (M := []) |>.get0 ep), ?_⟩
      rw [wpR_ixL at_new']
      have e1 : ((a : Int) + 1).toNat = a + 1 := by omega
      have e2 : ((3 * (k : Int) + a) % 8).toNat = (3 * k + a) % 8 := by omega
      have e3 : ((k : Int) % 8 + 1).toNat = k % 8 + 1 := by omega
      have e4 : (8 - (k : Int) % 8).toNat = 8 - k % 8 := by omega
      rw [e1, e2, e3, e4]
      refine ⟨.str (SX.S (wordAt L b idx a wy k)), ?_, ?_⟩
      · have hw : wy = 0 ∨ wy = 1 ∨ wy = 2 ∨ wy = 3 := by omega
        unfold wordAt
        rw [gD_at hlt]
        rcases hw with rfl | rfl | rfl | rfl
        · exact atI_0
        · exact atI_1
        · exact atI_2
        · exact atI_3
      · rw [appendW_l ((Xt.app (M := [])).get0 ep) (by simp; omega), wpR_ok]
        refine ⟨_, _, _, p, rfl, ?_, ?_, hp, ?_⟩
        · exact x5.appI.setN hp
        · exact st5.app.ne (by have := hs.lt; omega)
        · rw [at_set' (at_app ep)]
          simp [List.range_succ]
    · rintro s S5 ⟨x8, x9, x10, p, rfl, x5, st5, hp, ep⟩
      refine ⟨rng_end, ?_⟩
      try simp (maxSteps := 500000) (implicitDefEqProofs := false) (disch := omega) only [Ev.wpR_ok, Ev.wpR_no, Ev.wpR_bind, Ev.wpR_ite, Ev.wpS_nx, Ev.wpS_rt, Ev.Kn_nx, Ev.Kn_rt, Ev.Kn_bk, Ev.Kn_ct, Ev.wpS_seq, Ev.wpS_ret, Ev.wpS_expr, Ev.wpS_set, Ev.wpS_ite, Ev.wpS_if, Ev.wpS_nil, Ev.wpS_cnt, Ev.wpS_brk, Ev.wpS_retN, Ev.wpS_asg, Ev.wpS_put, Ev.wpR_run, Ev.onRet_nx, Ev.onRet_rt, Ev.onNx_nx, Ev.onNx_ct, Ev.onNx_bk, Ev.onNx_rt, Ev.var_0, Ev.var_S, Ev.wpR_lc, Ev.wpS_for, Ev.e1, Ev.e2, Ev.eL, Ev.eC, Ev.aNil, Ev.aCons, Ev.bTest, Ev.bAnd, Ev.bOr, Ev.bNot, Ev.bTru, Ev.vAnd, Ev.vOr, Ev.vNot, Ev.eIf, Ev.bYes, Ev.eM, Ev.eSl, Ev.oNone, Ev.oSome, Ev.dnewW, Ev.startE, Ev.wipeE, List.map_cons, List.map_nil, List.length_cons, List.length_nil, List.replicate, List.cons_append, List.nil_append, Nat.reduceAdd, Nat.reduceSub, List.set_cons_zero, List.set_cons_succ, if_true, if_false, Ev.ifF, true_and, and_true, Bool.false_eq_true, Bool.not_true, Bool.not_false, reduceIte, Nat.zero_add, Ev.addW_ii, Ev.addW_tt, Ev.subW_ii, Ev.mulW_ii, Ev.modW_ii, Ev.fdivW_ii, Ev.powW_ii, Ev.negW_i, Ev.cmpI_ii, Ev.isW_n, Ev.isnW_n, Ev.isNon_n, Ev.isNon_b, Ev.isNon_i, Ev.isNon_s, Ev.isNon_t, Ev.isNon_l, Ev.max2W_ii, Ev.min2W_ii, Ev.intW_i, Ev.intW_b, Ev.lenW_t, Ev.lenW_r, Ev.wpR_ixT, Ev.wpR_ixR, Ev.wpR_ixS, Ev.listW_t, Ev.tupleW_t, Ev.truW_b, Ev.truW_n, Ev.truW_i, Ev.truW_t, Ev.eqW_ii, Ev.neW_ii, Ev.eqW_ss, Ev.neW_ss, Ev.eqW_bb, Ev.ixN_0, Ev.ixN_1, Ev.ixN_2, Ev.ixN_3, Ev.getE_set_self, Ev.wpR_rng1, Ev.wpR_seq, Ev.wpR_zip, Ev.isi_bb, Ev.isi_bs, Ev.isi_bi, Ev.isi_bt, Ev.isi_bl, Ev.isi_ib, Ev.isi_is, Ev.isi_ii, Ev.isi_it, Ev.isi_il, Ev.isi_sb, Ev.isi_ss, Ev.isi_si, Ev.isi_st, Ev.isi_sl, Ev.isi_tb, Ev.isi_ts, Ev.isi_ti, Ev.isi_tt, Ev.isi_tl, Ev.isi_nb, Ev.isi_ns, Ev.isi_ni, Ev.isi_nt, Ev.isi_nl, Ev.atI_0, Ev.atI_1, Ev.atI_2, Ev.atI_3, Ev.atI_4, Ev.tyOk_s, Ev.slW_to, Ev.slW_from, Ev.addW_SS, Int.toNat_natCast, Ev.tupW, Ev.lstW, Option.some.injEq, exists_eq_left', List.set_set, Option.map_some, W.int.injEq, W.str.injEq, W.loc.injEq, Nat.reduceLeDiff, and_self, Int.reduceLT, Int.reduceLE, Int.reduceNeg, Int.reduceToNat, Int.reduceAdd, Int.reduceMul, Int.reduceSub, decide_eq_true_eq]
      refine h p _ S5 x5 hp st5 ep (by simp) ?_ ?_
      · refine List.pairwise_map.mpr (List.nodup_range.imp_of_mem fun hx hy hne e => hne (wordAt_inj (m := many.toNat) hL hd h8 (by omega) (by omega) (by omega) (List.mem_range.mp hx) (List.mem_range.mp hy) e))
      · intro w hw
        obtain ⟨k, _, rfl⟩ := List.mem_map.mp hw
        exact wordAt_ok hL h8 (by omega) hbL
    · refine ⟨_, _, _, _, rfl, x4.trans Xt.app, st4.app, x4.len, at_new'⟩
end Lw

set_option linter.all false
set_option maxRecDepth 100000
namespace Lw
open PySem L2 Ev
variable {EE : Exc}
abbrev tx (l : List Nat) : W := .str (SX.S l)
/-- a shape -/
inductive Sh where
  | tags (ts : List (List Nat)) | pair (a b : List Nat)
def Sh.w : Sh → W
  | .tags ts => .tup [.str (Str.ofString "tags"), .tup (ts.map tx)]
  | .pair a b => .tup [.str (Str.ofString "pair"), tx a, tx b]
def Sh.d : Sh → PyData
  | .tags ts => .tuple [.str (Str.ofString "tags"), .tuple (ts.map fun t => .str (SX.S t))]
  | .pair a b => .tuple [.str (Str.ofString "pair"), .str (SX.S a), .str (SX.S b)]
theorem pd_strs {S : Sto} {n : Nat} : ∀ l : List (List Nat), (l.map tx).mapM (W.pd S (n + 1)) = some (l.map fun t => .str (SX.S t))
  | [] => rfl
  | a :: l => by rw [List.map_cons, mapM_cons, pd_strs l]; rfl
theorem pd_sh {S : Sto} {n : Nat} (s : Sh) : W.pd S (n + 3) s.w = some s.d := by
  cases s with
  | tags ts =>
    show ((([.str (Str.ofString "tags"), .tup (ts.map tx)] : List W).mapM (W.pd S (n + 2))).map PyData.tuple) = _
    rw [mapM_cons, mapM_cons]
    show (((some (PyData.str _)).bind fun b => (((((ts.map tx).mapM (W.pd S (n + 1))).map PyData.tuple).bind fun b => (some []).map fun r => b :: r).map fun r => b :: r)).map PyData.tuple) = _
    rw [pd_strs]; rfl
  | pair a b => rfl
theorem pd_shs {S : Sto} {n : Nat} : ∀ l : List Sh, (l.map Sh.w).mapM (W.pd S (n + 3)) = some (l.map Sh.d)
  | [] => rfl
  | a :: l => by rw [List.map_cons, mapM_cons, pd_sh, pd_shs l]; rfl
theorem pair_ok {n i p1 p2 p3 p5 : Nat} {top : Int} {nms : List (List Nat)} {shs : List Sh} {cs ds : List (W × W)} {cf df : List Nat → Int} {S : Sto} {Q : W → Sto → Prop} (hn : 3 ≤ n) (hs : Strm S i)
    (h1 : S[p1]? = some (.lst (nms.map tx))) (hne : nms ≠ []) (hlen : nms.length ≤ 1000) (h2 : S[p2]? = some (.dct cs)) (h3 : S[p3]? = some (.dct ds)) (h5 : S[p5]? = some (.lst (shs.map Sh.w)))
    (hc : ∀ a ∈ nms, dlook cs (.inr (SX.S a)) = some (.int (cf a)) ∧ 0 ≤ cf a ∧ cf a ≤ 1000) (hd : ∀ a ∈ nms, dlook ds (.inr (SX.S a)) = some (.int (df a))) (n1 : i ≠ p1) (n2 : i ≠ p2) (n3 : i ≠ p3) (n5 : i ≠ p5)
    (hq0 : ∀ S', Xt [i] S S' → S'.length = S.length → Strm S' i → Q .non S')
    (hq1 : ∀ a b S', Xt [i] S S' → S'.length = S.length → Strm S' i → a ∈ nms → b ∈ nms → 1 + (if df b > df a then df b else df a) ≤ 2 → 1 + cf a * cf b ≤ top → (∀ s ∈ shs, s ≠ .pair a b) → Q (Sh.w (.pair a b)) S') :
    wpR (call n .f_law_pair [.loc i, .loc p1, .loc p2, .loc p3, .loc p5, .int top] S) Q := by
  obtain ⟨n, rfl⟩ : ∃ m, n = m + 1 := ⟨n - 1, by omega⟩
  rw [call_s, body]
  have hpos : 0 < nms.length := List.length_pos_iff.mpr hne
  try simp (maxSteps := 500000) (implicitDefEqProofs := false) (disch := omega) only [Ev.wpR_ok, Ev.wpR_no, Ev.wpR_bind, Ev.wpR_ite, Ev.wpS_nx, Ev.wpS_rt, Ev.Kn_nx, Ev.Kn_rt, Ev.Kn_bk, Ev.Kn_ct, Ev.wpS_seq, Ev.wpS_ret, Ev.wpS_expr, Ev.wpS_set, Ev.wpS_ite, Ev.wpS_if, Ev.wpS_nil, Ev.wpS_cnt, Ev.wpS_brk, Ev.wpS_retN, Ev.wpS_asg, Ev.wpS_put, Ev.wpR_run, Ev.onRet_nx, Ev.onRet_rt, Ev.onNx_nx, Ev.onNx_ct, Ev.onNx_bk, Ev.onNx_rt, Ev.var_0, Ev.var_S, Ev.wpR_lc, Ev.wpS_for, Ev.e1, Ev.e2, Ev.eL, Ev.eC, Ev.aNil, Ev.aCons, Ev.bTest, Ev.bAnd, Ev.bOr, Ev.bNot, Ev.bTru, Ev.vAnd, Ev.vOr, Ev.vNot, Ev.eIf, Ev.bYes, Ev.eM, Ev.eSl, Ev.oNone, Ev.oSome, Ev.dnewW, Ev.startE, Ev.wipeE, List.map_cons, List.map_nil, List.length_cons, List.length_nil, List.replicate, List.cons_append, List.nil_append, Nat.reduceAdd, Nat.reduceSub, List.set_cons_zero, List.set_cons_succ, if_true, if_false, Ev.ifF, true_and, and_true, Bool.false_eq_true, Bool.not_true, Bool.not_false, reduceIte, Nat.zero_add, Ev.addW_ii, Ev.addW_tt, Ev.subW_ii, Ev.mulW_ii, Ev.modW_ii, Ev.fdivW_ii, Ev.powW_ii, Ev.negW_i, Ev.cmpI_ii, Ev.isW_n, Ev.isnW_n, Ev.isNon_n, Ev.isNon_b, Ev.isNon_i, Ev.isNon_s, Ev.isNon_t, Ev.isNon_l, Ev.max2W_ii, Ev.min2W_ii, Ev.intW_i, Ev.intW_b, Ev.lenW_t, Ev.lenW_r, Ev.wpR_ixT, Ev.wpR_ixR, Ev.wpR_ixS, Ev.listW_t, Ev.tupleW_t, Ev.truW_b, Ev.truW_n, Ev.truW_i, Ev.truW_t, Ev.eqW_ii, Ev.neW_ii, Ev.eqW_ss, Ev.neW_ss, Ev.eqW_bb, Ev.ixN_0, Ev.ixN_1, Ev.ixN_2, Ev.ixN_3, Ev.getE_set_self, Ev.wpR_rng1, Ev.wpR_seq, Ev.wpR_zip, Ev.isi_bb, Ev.isi_bs, Ev.isi_bi, Ev.isi_bt, Ev.isi_bl, Ev.isi_ib, Ev.isi_is, Ev.isi_ii, Ev.isi_it, Ev.isi_il, Ev.isi_sb, Ev.isi_ss, Ev.isi_si, Ev.isi_st, Ev.isi_sl, Ev.isi_tb, Ev.isi_ts, Ev.isi_ti, Ev.isi_tt, Ev.isi_tl, Ev.isi_nb, Ev.isi_ns, Ev.isi_ni, Ev.isi_nt, Ev.isi_nl, Ev.atI_0, Ev.atI_1, Ev.atI_2, Ev.atI_3, Ev.atI_4, Ev.tyOk_s, Ev.slW_to, Ev.slW_from, Ev.addW_SS, Int.toNat_natCast, Ev.tupW, Ev.lstW, Option.some.injEq, exists_eq_left', List.set_set, Option.map_some, W.int.injEq, W.str.injEq, W.loc.injEq, Nat.reduceLeDiff, and_self, Int.reduceLT, Int.reduceLE, Int.reduceNeg, Int.reduceToNat, Int.reduceAdd, Int.reduceMul, Int.reduceSub, decide_eq_true_eq, m_f_law_pair, lenW_l h1, List.length_map]
  refine take_ok (by omega) hs (by omega) fun z o h6 h7 st2 => ?_
  obtain ⟨a, rfl⟩ : ∃ a : Nat, z = a := ⟨z.toNat, by omega⟩
  have ha : a < nms.length := by omega
  try simp (maxSteps := 500000) (implicitDefEqProofs := false) (disch := omega) only [Ev.wpR_ok, Ev.wpR_no, Ev.wpR_bind, Ev.wpR_ite, Ev.wpS_nx, Ev.wpS_rt, Ev.Kn_nx, Ev.Kn_rt, Ev.Kn_bk, Ev.Kn_ct, Ev.wpS_seq, Ev.wpS_ret, Ev.wpS_expr, Ev.wpS_set, Ev.wpS_ite, Ev.wpS_if, Ev.wpS_nil, Ev.wpS_cnt, Ev.wpS_brk, Ev.wpS_retN, Ev.wpS_asg, Ev.wpS_put, Ev.wpR_run, Ev.onRet_nx, Ev.onRet_rt, Ev.onNx_nx, Ev.onNx_ct, Ev.onNx_bk, Ev.onNx_rt, Ev.var_0, Ev.var_S, Ev.wpR_lc, Ev.wpS_for, Ev.e1, Ev.e2, Ev.eL, Ev.eC, Ev.aNil, Ev.aCons, Ev.bTest, Ev.bAnd, Ev.bOr, Ev.bNot, Ev.bTru, Ev.vAnd, Ev.vOr, Ev.vNot, Ev.eIf, Ev.bYes, Ev.eM, Ev.eSl, Ev.oNone, Ev.oSome, Ev.dnewW, Ev.startE, Ev.wipeE, List.map_cons, List.map_nil, List.length_cons, List.length_nil, List.replicate, List.cons_append, List.nil_append, Nat.reduceAdd, Nat.reduceSub, List.set_cons_zero, List.set_cons_succ, if_true, if_false, Ev.ifF, true_and, and_true, Bool.false_eq_true, Bool.not_true, Bool.not_false, reduceIte, Nat.zero_add, Ev.addW_ii, Ev.addW_tt, Ev.subW_ii, Ev.mulW_ii, Ev.modW_ii, Ev.fdivW_ii, Ev.powW_ii, Ev.negW_i, Ev.cmpI_ii, Ev.isW_n, Ev.isnW_n, Ev.isNon_n, Ev.isNon_b, Ev.isNon_i, Ev.isNon_s, Ev.isNon_t, Ev.isNon_l, Ev.max2W_ii, Ev.min2W_ii, Ev.intW_i, Ev.intW_b, Ev.lenW_t, Ev.lenW_r, Ev.wpR_ixT, Ev.wpR_ixR, Ev.wpR_ixS, Ev.listW_t, Ev.tupleW_t, Ev.truW_b, Ev.truW_n, Ev.truW_i, Ev.truW_t, Ev.eqW_ii, Ev.neW_ii, Ev.eqW_ss, Ev.neW_ss, Ev.eqW_bb, Ev.ixN_0, Ev.ixN_1, Ev.ixN_2, Ev.ixN_3, Ev.getE_set_self, Ev.wpR_rng1, Ev.wpR_seq, Ev.wpR_zip, Ev.isi_bb, Ev.isi_bs, Ev.isi_bi, Ev.isi_bt, Ev.isi_bl, Ev.isi_ib, Ev.isi_is, Ev.isi_ii, Ev.isi_it, Ev.isi_il, Ev.isi_sb, Ev.isi_ss, Ev.isi_si, Ev.isi_st, Ev.isi_sl, Ev.isi_tb, Ev.isi_ts, Ev.isi_ti, Ev.isi_tt, Ev.isi_tl, Ev.isi_nb, Ev.isi_ns, Ev.isi_ni, Ev.isi_nt, Ev.isi_nl, Ev.atI_0, Ev.atI_1, Ev.atI_2, Ev.atI_3, Ev.atI_4, Ev.tyOk_s, Ev.slW_to, Ev.slW_from, Ev.addW_SS, Int.toNat_natCast, Ev.tupW, Ev.lstW, Option.some.injEq, exists_eq_left', List.set_set, Option.map_some, W.int.injEq, W.str.injEq, W.loc.injEq, Nat.reduceLeDiff, and_self, Int.reduceLT, Int.reduceLE, Int.reduceNeg, Int.reduceToNat, Int.reduceAdd, Int.reduceMul, Int.reduceSub, decide_eq_true_eq, wpR_ixL (at_ne h1 n1), lenW_l (at_ne h1 n1), List.length_map]
  refine ⟨tx nms[a], Ev.atI_nat (by rw [List.getElem?_map, List.getElem?_eq_getElem ha]; rfl), ?_⟩
  refine take_ok (by omega) st2 (by omega) fun z o h6 h7 st3 => ?_
  obtain ⟨b, rfl⟩ : ∃ a : Nat, z = a := ⟨z.toNat, by omega⟩
  have hb : b < nms.length := by omega
  rw [List.set_set] at st3 ⊢
  have ma := List.getElem_mem ha
  have mb := List.getElem_mem hb
  try simp (maxSteps := 500000) (implicitDefEqProofs := false) (disch := omega) only [Ev.wpR_ok, Ev.wpR_no, Ev.wpR_bind, Ev.wpR_ite, Ev.wpS_nx, Ev.wpS_rt, Ev.Kn_nx, Ev.Kn_rt, Ev.Kn_bk, Ev.Kn_ct, Ev.wpS_seq, Ev.wpS_ret, Ev.wpS_expr, Ev.wpS_set, Ev.wpS_ite, Ev.wpS_if, Ev.wpS_nil, Ev.wpS_cnt, Ev.wpS_brk, Ev.wpS_retN, Ev.wpS_asg, Ev.wpS_put, Ev.wpR_run, Ev.onRet_nx, Ev.onRet_rt, Ev.onNx_nx, Ev.onNx_ct, Ev.onNx_bk, Ev.onNx_rt, Ev.var_0, Ev.var_S, Ev.wpR_lc, Ev.wpS_for, Ev.e1, Ev.e2, Ev.eL, Ev.eC, Ev.aNil, Ev.aCons, Ev.bTest, Ev.bAnd, Ev.bOr, Ev.bNot, Ev.bTru, Ev.vAnd, Ev.vOr, Ev.vNot, Ev.eIf, Ev.bYes, Ev.eM, Ev.eSl, Ev.oNone, Ev.oSome, Ev.dnewW, Ev.startE, Ev.wipeE, List.map_cons, List.map_nil, List.length_cons, List.length_nil, List.replicate, List.cons_append, List.nil_append, Nat.reduceAdd, Nat.reduceSub, List.set_cons_zero, List.set_cons_succ, if_true, if_false, Ev.ifF, true_and, and_true, Bool.false_eq_true, Bool.not_true, Bool.not_false, reduceIte, Nat.zero_add, Ev.addW_ii, Ev.addW_tt, Ev.subW_ii, Ev.mulW_ii, Ev.modW_ii, Ev.fdivW_ii, Ev.powW_ii, Ev.negW_i, Ev.cmpI_ii, Ev.isW_n, Ev.isnW_n, Ev.isNon_n, Ev.isNon_b, Ev.isNon_i, Ev.isNon_s, Ev.isNon_t, Ev.isNon_l, Ev.max2W_ii, Ev.min2W_ii, Ev.intW_i, Ev.intW_b, Ev.lenW_t, Ev.lenW_r, Ev.wpR_ixT, Ev.wpR_ixR, Ev.wpR_ixS, Ev.listW_t, Ev.tupleW_t, Ev.truW_b, Ev.truW_n, Ev.truW_i, Ev.truW_t, Ev.eqW_ii, Ev.neW_ii, Ev.eqW_ss, Ev.neW_ss, Ev.eqW_bb, Ev.ixN_0, Ev.ixN_1, Ev.ixN_2, Ev.ixN_3, Ev.getE_set_self, Ev.wpR_rng1, Ev.wpR_seq, Ev.wpR_zip, Ev.isi_bb, Ev.isi_bs, Ev.isi_bi, Ev.isi_bt, Ev.isi_bl, Ev.isi_ib, Ev.isi_is, Ev.isi_ii, Ev.isi_it, Ev.isi_il, Ev.isi_sb, Ev.isi_ss, Ev.isi_si, Ev.isi_st, Ev.isi_sl, Ev.isi_tb, Ev.isi_ts, Ev.isi_ti, Ev.isi_tt, Ev.isi_tl, Ev.isi_nb, Ev.isi_ns, Ev.isi_ni, Ev.isi_nt, Ev.isi_nl, Ev.atI_0, Ev.atI_1, Ev.atI_2, Ev.atI_3, Ev.atI_4, Ev.tyOk_s, Ev.slW_to, Ev.slW_from, Ev.addW_SS, Int.toNat_natCast, Ev.tupW, Ev.lstW, Option.some.injEq, exists_eq_left', List.set_set, Option.map_some, W.int.injEq, W.str.injEq, W.loc.injEq, Nat.reduceLeDiff, and_self, Int.reduceLT, Int.reduceLE, Int.reduceNeg, Int.reduceToNat, Int.reduceAdd, Int.reduceMul, Int.reduceSub, decide_eq_true_eq, wpR_ixL (at_ne h1 n1)]
  refine ⟨tx nms[b], Ev.atI_nat (by rw [List.getElem?_map, List.getElem?_eq_getElem hb]; rfl), ?_⟩
  generalize nms[a] = A at *
  generalize nms[b] = B at *
  try simp (maxSteps := 500000) (implicitDefEqProofs := false) (disch := omega) only [Ev.wpR_ok, Ev.wpR_no, Ev.wpR_bind, Ev.wpR_ite, Ev.wpS_nx, Ev.wpS_rt, Ev.Kn_nx, Ev.Kn_rt, Ev.Kn_bk, Ev.Kn_ct, Ev.wpS_seq, Ev.wpS_ret, Ev.wpS_expr, Ev.wpS_set, Ev.wpS_ite, Ev.wpS_if, Ev.wpS_nil, Ev.wpS_cnt, Ev.wpS_brk, Ev.wpS_retN, Ev.wpS_asg, Ev.wpS_put, Ev.wpR_run, Ev.onRet_nx, Ev.onRet_rt, Ev.onNx_nx, Ev.onNx_ct, Ev.onNx_bk, Ev.onNx_rt, Ev.var_0, Ev.var_S, Ev.wpR_lc, Ev.wpS_for, Ev.e1, Ev.e2, Ev.eL, Ev.eC, Ev.aNil, Ev.aCons, Ev.bTest, Ev.bAnd, Ev.bOr, Ev.bNot, Ev.bTru, Ev.vAnd, Ev.vOr, Ev.vNot, Ev.eIf, Ev.bYes, Ev.eM, Ev.eSl, Ev.oNone, Ev.oSome, Ev.dnewW, Ev.startE, Ev.wipeE, List.map_cons, List.map_nil, List.length_cons, List.length_nil, List.replicate, List.cons_append, List.nil_append, Nat.reduceAdd, Nat.reduceSub, List.set_cons_zero, List.set_cons_succ, if_true, if_false, Ev.ifF, true_and, and_true, Bool.false_eq_true, Bool.not_true, Bool.not_false, reduceIte, Nat.zero_add, Ev.addW_ii, Ev.addW_tt, Ev.subW_ii, Ev.mulW_ii, Ev.modW_ii, Ev.fdivW_ii, Ev.powW_ii, Ev.negW_i, Ev.cmpI_ii, Ev.isW_n, Ev.isnW_n, Ev.isNon_n, Ev.isNon_b, Ev.isNon_i, Ev.isNon_s, Ev.isNon_t, Ev.isNon_l, Ev.max2W_ii, Ev.min2W_ii, Ev.intW_i, Ev.intW_b, Ev.lenW_t, Ev.lenW_r, Ev.wpR_ixT, Ev.wpR_ixR, Ev.wpR_ixS, Ev.listW_t, Ev.tupleW_t, Ev.truW_b, Ev.truW_n, Ev.truW_i, Ev.truW_t, Ev.eqW_ii, Ev.neW_ii, Ev.eqW_ss, Ev.neW_ss, Ev.eqW_bb, Ev.ixN_0, Ev.ixN_1, Ev.ixN_2, Ev.ixN_3, Ev.getE_set_self, Ev.wpR_rng1, Ev.wpR_seq, Ev.wpR_zip, Ev.isi_bb, Ev.isi_bs, Ev.isi_bi, Ev.isi_bt, Ev.isi_bl, Ev.isi_ib, Ev.isi_is, Ev.isi_ii, Ev.isi_it, Ev.isi_il, Ev.isi_sb, Ev.isi_ss, Ev.isi_si, Ev.isi_st, Ev.isi_sl, Ev.isi_tb, Ev.isi_ts, Ev.isi_ti, Ev.isi_tt, Ev.isi_tl, Ev.isi_nb, Ev.isi_ns, Ev.isi_ni, Ev.isi_nt, Ev.isi_nl, Ev.atI_0, Ev.atI_1, Ev.atI_2, Ev.atI_3, Ev.atI_4, Ev.tyOk_s, Ev.slW_to, Ev.slW_from, Ev.addW_SS, Int.toNat_natCast, Ev.tupW, Ev.lstW, Option.some.injEq, exists_eq_left', List.set_set, Option.map_some, W.int.injEq, W.str.injEq, W.loc.injEq, Nat.reduceLeDiff, and_self, Int.reduceLT, Int.reduceLE, Int.reduceNeg, Int.reduceToNat, Int.reduceAdd, Int.reduceMul, Int.reduceSub, decide_eq_true_eq, wpR_ixD (at_ne h3 n3) key_str, wpR_ixD (at_ne h2 n2) key_str, hd A ma, hd B mb, (hc A ma).1, (hc B mb).1]
  have hx : Xt [i] S (S.set i o) := Xt.set (by simp)
  have hin : inW (.tup [.str (Str.ofString "pair"), tx A, tx B]) (.loc p5) (S.set i o) = .ok (.bl ((shs.map Sh.d).any fun z => PyData.eqv z (Sh.d (.pair A B)))) (S.set i o) := by
    unfold inW inO
    dsimp only
    rw [at_ne h5 n5]
    dsimp only
    rw [show W.pd (S.set i o) 64 (.tup [.str (Str.ofString "pair"), tx A, tx B]) = some (Sh.d (.pair A B)) from pd_sh (n := 61) (.pair A B), pd_shs (n := 61)]
  have fin0 := hq0 _ hx (by simp) st3
  have cA := (hc A ma).2
  have cB := (hc B mb).2
  have fin1 := hq1 A B _ hx (by simp) st3 ma mb
  generalize (if df B > df A then df B else df A) = dd at *
  split
  · exact fin0
  · refine ⟨cmul_l (by omega) (by omega), ?_⟩
    split
    · exact fin0
    · rw [hin]
      try simp (maxSteps := 500000) (implicitDefEqProofs := false) (disch := omega) only [Ev.wpR_ok, Ev.wpR_no, Ev.wpR_bind, Ev.wpR_ite, Ev.wpS_nx, Ev.wpS_rt, Ev.Kn_nx, Ev.Kn_rt, Ev.Kn_bk, Ev.Kn_ct, Ev.wpS_seq, Ev.wpS_ret, Ev.wpS_expr, Ev.wpS_set, Ev.wpS_ite, Ev.wpS_if, Ev.wpS_nil, Ev.wpS_cnt, Ev.wpS_brk, Ev.wpS_retN, Ev.wpS_asg, Ev.wpS_put, Ev.wpR_run, Ev.onRet_nx, Ev.onRet_rt, Ev.onNx_nx, Ev.onNx_ct, Ev.onNx_bk, Ev.onNx_rt, Ev.var_0, Ev.var_S, Ev.wpR_lc, Ev.wpS_for, Ev.e1, Ev.e2, Ev.eL, Ev.eC, Ev.aNil, Ev.aCons, Ev.bTest, Ev.bAnd, Ev.bOr, Ev.bNot, Ev.bTru, Ev.vAnd, Ev.vOr, Ev.vNot, Ev.eIf, Ev.bYes, Ev.eM, Ev.eSl, Ev.oNone, Ev.oSome, Ev.dnewW, Ev.startE, Ev.wipeE, List.map_cons, List.map_nil, List.length_cons, List.length_nil, List.replicate, List.cons_append, List.nil_append, Nat.reduceAdd, Nat.reduceSub, List.set_cons_zero, List.set_cons_succ, if_true, if_false, Ev.ifF, true_and, and_true, Bool.false_eq_true, Bool.not_true, Bool.not_false, reduceIte, Nat.zero_add, Ev.addW_ii, Ev.addW_tt, Ev.subW_ii, Ev.mulW_ii, Ev.modW_ii, Ev.fdivW_ii, Ev.powW_ii, Ev.negW_i, Ev.cmpI_ii, Ev.isW_n, Ev.isnW_n, Ev.isNon_n, Ev.isNon_b, Ev.isNon_i, Ev.isNon_s, Ev.isNon_t, Ev.isNon_l, Ev.max2W_ii, Ev.min2W_ii, Ev.intW_i, Ev.intW_b, Ev.lenW_t, Ev.lenW_r, Ev.wpR_ixT, Ev.wpR_ixR, Ev.wpR_ixS, Ev.listW_t, Ev.tupleW_t, Ev.truW_b, Ev.truW_n, Ev.truW_i, Ev.truW_t, Ev.eqW_ii, Ev.neW_ii, Ev.eqW_ss, Ev.neW_ss, Ev.eqW_bb, Ev.ixN_0, Ev.ixN_1, Ev.ixN_2, Ev.ixN_3, Ev.getE_set_self, Ev.wpR_rng1, Ev.wpR_seq, Ev.wpR_zip, Ev.isi_bb, Ev.isi_bs, Ev.isi_bi, Ev.isi_bt, Ev.isi_bl, Ev.isi_ib, Ev.isi_is, Ev.isi_ii, Ev.isi_it, Ev.isi_il, Ev.isi_sb, Ev.isi_ss, Ev.isi_si, Ev.isi_st, Ev.isi_sl, Ev.isi_tb, Ev.isi_ts, Ev.isi_ti, Ev.isi_tt, Ev.isi_tl, Ev.isi_nb, Ev.isi_ns, Ev.isi_ni, Ev.isi_nt, Ev.isi_nl, Ev.atI_0, Ev.atI_1, Ev.atI_2, Ev.atI_3, Ev.atI_4, Ev.tyOk_s, Ev.slW_to, Ev.slW_from, Ev.addW_SS, Int.toNat_natCast, Ev.tupW, Ev.lstW, Option.some.injEq, exists_eq_left', List.set_set, Option.map_some, W.int.injEq, W.str.injEq, W.loc.injEq, Nat.reduceLeDiff, and_self, Int.reduceLT, Int.reduceLE, Int.reduceNeg, Int.reduceToNat, Int.reduceAdd, Int.reduceMul, Int.reduceSub, decide_eq_true_eq]
      split
      · exact fin0
      · rename_i hany
        refine fin1 (by omega) (by omega) fun s hs e => hany ?_
        rw [List.any_eq_true]
        refine ⟨s.d, List.mem_map_of_mem hs, ?_⟩
        rw [e]
        simp [Sh.d, PyData.eqv, PyData.eqvAll]
end Lw

set_option linter.all false
set_option maxRecDepth 100000
namespace Lw
open PySem L2 Ev
variable {EE : Exc}
/-- a kind told -/
structure Kd where
  nm : List Nat
  sh : Sh
  cnt : Int
  dep : Int
def Kd.w (k : Kd) : W := .tup [tx k.nm, k.sh.w]
def Sh.ts : Sh → List (List Nat)
  | .tags ts => ts
  | .pair _ _ => []
def WordOf (L w : List Nat) : Prop := 1 ≤ w.length ∧ w.length ≤ 8 ∧ ∀ c ∈ w, c ∈ L
/-- kinds as they are drawn -/
inductive KOk (L1 L2 : List Nat) (top : Int) : List Kd → Prop
  | nil : KOk L1 L2 top []
  | tags {ks : List Kd} {nm : List Nat} {ts : List (List Nat)} (h : KOk L1 L2 top ks) (hw : WordOf L1 nm) (hn : nm ∉ ks.map Kd.nm) (h1 : 1 ≤ ts.length) (h4 : ts.length ≤ 4) (hd : ts.Nodup) (ht : ∀ t ∈ ts, WordOf L2 t) (hf : ∀ k ∈ ks, ∀ t ∈ k.sh.ts, t ∉ ts) : KOk L1 L2 top (ks ++ [⟨nm, .tags ts, 1 + (ts.length : Int), 0⟩])
  | pair {ks : List Kd} {nm : List Nat} {a b : Kd} (h : KOk L1 L2 top ks) (hw : WordOf L1 nm) (hn : nm ∉ ks.map Kd.nm) (ha : a ∈ ks) (hb : b ∈ ks) (h2 : 1 + (if b.dep > a.dep then b.dep else a.dep) ≤ 2) (ht : 1 + a.cnt * b.cnt ≤ top) (hf : ∀ k ∈ ks, k.sh ≠ .pair a.nm b.nm) : KOk L1 L2 top (ks ++ [⟨nm, .pair a.nm b.nm, 1 + a.cnt * b.cnt, 1 + (if b.dep > a.dep then b.dep else a.dep)⟩])
theorem KOk.nd {L1 L2 : List Nat} {top : Int} {ks : List Kd} (h : KOk L1 L2 top ks) : (ks.map Kd.nm).Nodup := by
  induction h with
  | nil => exact List.nodup_nil
  | tags h hw hn _ _ _ _ _ ih =>
    rw [List.map_append]
    exact List.nodup_append.mpr ⟨ih, by simp, fun a ha b hb e => by subst e; rw [List.map_singleton, List.mem_singleton] at hb; subst hb; exact hn ha⟩
  | pair h hw hn _ _ _ _ _ ih =>
    rw [List.map_append]
    exact List.nodup_append.mpr ⟨ih, by simp, fun a ha b hb e => by subst e; rw [List.map_singleton, List.mem_singleton] at hb; subst hb; exact hn ha⟩
theorem KOk.cnt {L1 L2 : List Nat} {top : Int} {ks : List Kd} (h : KOk L1 L2 top ks) : ∀ k ∈ ks, 2 ≤ k.cnt ∧ (k.cnt ≤ 5 ∨ k.cnt ≤ top) := by
  induction h with
  | nil => intro k h; cases h
  | tags h hw hn h1 h4 _ _ _ ih =>
    intro k hk
    rcases List.mem_append.mp hk with hk | hk
    · exact ih k hk
    · obtain rfl := List.mem_singleton.mp hk
      exact ⟨by show (2 : Int) ≤ 1 + _; omega, .inl (by show 1 + _ ≤ (5 : Int); omega)⟩
  | @pair ks nm a b h hw hn ha hb _ ht _ ih =>
    intro k hk
    rcases List.mem_append.mp hk with hk | hk
    · exact ih k hk
    · obtain rfl := List.mem_singleton.mp hk
      have h1 := (ih a ha).1
      have h2 := (ih b hb).1
      have : 2 * 2 ≤ a.cnt * b.cnt := Int.mul_le_mul h1 h2 (by decide) (by omega)
      exact ⟨by show (2 : Int) ≤ 1 + _; omega, .inr ht⟩
abbrev cntD (ks : List Kd) : List (W × W) := ks.map fun k => (.str (SX.S k.nm), .int k.cnt)
abbrev depD (ks : List Kd) : List (W × W) := ks.map fun k => (.str (SX.S k.nm), .int k.dep)
abbrev alphaL : List Nat := [97, 98, 99, 100, 101, 102, 103, 104, 105, 106, 107, 108, 109, 110, 111, 112, 113, 114, 115, 116, 117, 118, 119, 120, 121, 122]
abbrev alphaU : List Nat := [65, 66, 67, 68, 69, 70, 71, 72, 73, 74, 75, 76, 77, 78, 79, 80, 81, 82, 83, 84, 85, 86, 87, 88, 89, 90]
theorem alphaL_eq : Str.ofString "abcdefghijklmnopqrstuvwxyz" = SX.S alphaL := by rfl
theorem alphaU_eq : Str.ofString "ABCDEFGHIJKLMNOPQRSTUVWXYZ" = SX.S alphaU := by rfl
theorem alphaL_nd : alphaL.Nodup := by decide
theorem alphaU_nd : alphaU.Nodup := by decide
theorem small_ok {n i : Nat} {many : Int} {S : Sto} {Q : W → Sto → Prop} (hn : 4 ≤ n) (hs : Strm S i) (hm : 0 ≤ many ∧ many ≤ 8)
    (h : ∀ (p : Nat) (wds : List (List Nat)) (S' : Sto), Xt [i] S S' → S.length ≤ p → Strm S' i → S'[p]? = some (.lst (wds.map tx)) → wds.length = many.toNat → wds.Nodup → (∀ w ∈ wds, WordOf alphaL w) → Q (.loc p) S') :
    wpR (call n .f_law_small [.loc i, .int many] S) Q := by
  obtain ⟨n, rfl⟩ : ∃ m, n = m + 1 := ⟨n - 1, by omega⟩
  rw [call_s, body]
  try simp (maxSteps := 500000) (implicitDefEqProofs := false) (disch := omega) only [Ev.wpR_ok, Ev.wpR_no, Ev.wpR_bind, Ev.wpR_ite, Ev.wpS_nx, Ev.wpS_rt, Ev.Kn_nx, Ev.Kn_rt, Ev.Kn_bk, Ev.Kn_ct, Ev.wpS_seq, Ev.wpS_ret, Ev.wpS_expr, Ev.wpS_set, Ev.wpS_ite, Ev.wpS_if, Ev.wpS_nil, Ev.wpS_cnt, Ev.wpS_brk, Ev.wpS_retN, Ev.wpS_asg, Ev.wpS_put, Ev.wpR_run, Ev.onRet_nx, Ev.onRet_rt, Ev.onNx_nx, Ev.onNx_ct, Ev.onNx_bk, Ev.onNx_rt, Ev.var_0, Ev.var_S, Ev.wpR_lc, Ev.wpS_for, Ev.e1, Ev.e2, Ev.eL, Ev.eC, Ev.aNil, Ev.aCons, Ev.bTest, Ev.bAnd, Ev.bOr, Ev.bNot, Ev.bTru, Ev.vAnd, Ev.vOr, Ev.vNot, Ev.eIf, Ev.bYes, Ev.eM, Ev.eSl, Ev.oNone, Ev.oSome, Ev.dnewW, Ev.startE, Ev.wipeE, List.map_cons, List.map_nil, List.length_cons, List.length_nil, List.replicate, List.cons_append, List.nil_append, Nat.reduceAdd, Nat.reduceSub, List.set_cons_zero, List.set_cons_succ, if_true, if_false, Ev.ifF, true_and, and_true, Bool.false_eq_true, Bool.not_true, Bool.not_false, reduceIte, Nat.zero_add, Ev.addW_ii, Ev.addW_tt, Ev.subW_ii, Ev.mulW_ii, Ev.modW_ii, Ev.fdivW_ii, Ev.powW_ii, Ev.negW_i, Ev.cmpI_ii, Ev.isW_n, Ev.isnW_n, Ev.isNon_n, Ev.isNon_b, Ev.isNon_i, Ev.isNon_s, Ev.isNon_t, Ev.isNon_l, Ev.max2W_ii, Ev.min2W_ii, Ev.intW_i, Ev.intW_b, Ev.lenW_t, Ev.lenW_r, Ev.wpR_ixT, Ev.wpR_ixR, Ev.wpR_ixS, Ev.listW_t, Ev.tupleW_t, Ev.truW_b, Ev.truW_n, Ev.truW_i, Ev.truW_t, Ev.eqW_ii, Ev.neW_ii, Ev.eqW_ss, Ev.neW_ss, Ev.eqW_bb, Ev.ixN_0, Ev.ixN_1, Ev.ixN_2, Ev.ixN_3, Ev.getE_set_self, Ev.wpR_rng1, Ev.wpR_seq, Ev.wpR_zip, Ev.isi_bb, Ev.isi_bs, Ev.isi_bi, Ev.isi_bt, Ev.isi_bl, Ev.isi_ib, Ev.isi_is, Ev.isi_ii, Ev.isi_it, Ev.isi_il, Ev.isi_sb, Ev.isi_ss, Ev.isi_si, Ev.isi_st, Ev.isi_sl, Ev.isi_tb, Ev.isi_ts, Ev.isi_ti, Ev.isi_tt, Ev.isi_tl, Ev.isi_nb, Ev.isi_ns, Ev.isi_ni, Ev.isi_nt, Ev.isi_nl, Ev.atI_0, Ev.atI_1, Ev.atI_2, Ev.atI_3, Ev.atI_4, Ev.tyOk_s, Ev.slW_to, Ev.slW_from, Ev.addW_SS, Int.toNat_natCast, Ev.tupW, Ev.lstW, Option.some.injEq, exists_eq_left', List.set_set, Option.map_some, W.int.injEq, W.str.injEq, W.loc.injEq, Nat.reduceLeDiff, and_self, Int.reduceLT, Int.reduceLE, Int.reduceNeg, Int.reduceToNat, Int.reduceAdd, Int.reduceMul, Int.reduceSub, decide_eq_true_eq, m_f_law_small, alphaL_eq]
  exact words_ok (by omega) hs rfl alphaL_nd hm.1 (by decide) (.inl hm.2) h
theorem nmS_nd {ks : List Kd} (h : (ks.map Kd.nm).Nodup) : (ks.map fun k => SX.S k.nm).Nodup := by
  rw [show (ks.map fun k => SX.S k.nm) = (ks.map Kd.nm).map SX.S by simp]
  exact List.pairwise_map.mpr (h.imp fun hne e => hne (SX.S_inj e))
def kdAt (ks : List Kd) (a : List Nat) : Kd := (ks.find? fun k => decide (k.nm = a)).getD ⟨[], .pair [] [], 0, 0⟩
theorem kdAt_of : ∀ {ks : List Kd} {k : Kd}, (ks.map Kd.nm).Nodup → k ∈ ks → kdAt ks k.nm = k
  | b :: ks, k, hn, h => by
    rw [List.map_cons, List.nodup_cons] at hn
    unfold kdAt
    by_cases e : b.nm = k.nm
    · rcases List.mem_cons.mp h with rfl | h
      · rw [List.find?_cons_of_pos (by simp)]; rfl
      · exact absurd (List.mem_map.mpr ⟨k, h, e.symm⟩) hn.1
    · rw [List.find?_cons_of_neg (by simp [e])]
      rcases List.mem_cons.mp h with rfl | h
      · exact absurd rfl e
      · exact kdAt_of hn.2 h
theorem cnt_at {ks : List Kd} {k : Kd} (hn : (ks.map Kd.nm).Nodup) (h : k ∈ ks) : dlook (cntD ks) (.inr (SX.S k.nm)) = some (.int k.cnt) := dlook_some (f := fun k : Kd => SX.S k.nm) (g := fun k => .int k.cnt) h (nmS_nd hn)
theorem dep_at {ks : List Kd} {k : Kd} (hn : (ks.map Kd.nm).Nodup) (h : k ∈ ks) : dlook (depD ks) (.inr (SX.S k.nm)) = some (.int k.dep) := dlook_some (f := fun k : Kd => SX.S k.nm) (g := fun k => .int k.dep) h (nmS_nd hn)
theorem nmS_not {ks : List Kd} {nm : List Nat} (h : nm ∉ ks.map Kd.nm) : SX.S nm ∉ ks.map fun k => SX.S k.nm := by
  intro hm
  obtain ⟨k, hk, e⟩ := List.mem_map.mp hm
  exact h (List.mem_map.mpr ⟨k, hk, SX.S_inj e⟩)
theorem put_cnt {ks : List Kd} {nm : List Nat} {w : W} (h : nm ∉ ks.map Kd.nm) : dput (cntD ks) (tx nm) (.inr (SX.S nm)) w = cntD ks ++ [(tx nm, w)] := dput_none (dlook_none (f := fun k : Kd => SX.S k.nm) (g := fun k => .int k.cnt) (nmS_not h))
theorem put_dep {ks : List Kd} {nm : List Nat} {w : W} (h : nm ∉ ks.map Kd.nm) : dput (depD ks) (tx nm) (.inr (SX.S nm)) w = depD ks ++ [(tx nm, w)] := dput_none (dlook_none (f := fun k : Kd => SX.S k.nm) (g := fun k => .int k.dep) (nmS_not h))
/-- the loop's facts -/
structure KI (S0 : Sto) (i p1 p2 p3 p4 p5 : Nat) (top : Int) (nms tgs : List (List Nat)) (ks : List Kd) (S : Sto) : Prop where
  x : Xt [i] S0 S
  st : Strm S i
  a1 : S[p1]? = some (.lst (nms.map tx))
  a2 : S[p2]? = some (.lst (tgs.map tx))
  a3 : S[p3]? = some (.dct (cntD ks))
  a4 : S[p4]? = some (.dct (depD ks))
  a5 : S[p5]? = some (.lst (ks.map Kd.w))
  ok : KOk alphaL alphaU top ks
  nm : ks.map Kd.nm = nms.take ks.length
  tg : ∀ k ∈ ks, ∀ t ∈ k.sh.ts, t ∈ tgs.take (4 * ks.length)
/-- the places are apart -/
structure Ap (S0 : Sto) (i p1 p2 p3 p4 p5 : Nat) : Prop where
  i1 : i ≠ p1
  i2 : i ≠ p2
  i3 : i ≠ p3
  i4 : i ≠ p4
  i5 : i ≠ p5
  j12 : p1 ≠ p2
  j13 : p1 ≠ p3
  j14 : p1 ≠ p4
  j15 : p1 ≠ p5
  j23 : p2 ≠ p3
  j24 : p2 ≠ p4
  j25 : p2 ≠ p5
  j34 : p3 ≠ p4
  j35 : p3 ≠ p5
  j45 : p4 ≠ p5
  k3 : S0.length ≤ p3
  k4 : S0.length ≤ p4
  k5 : S0.length ≤ p5
theorem KI.strm {S0 S : Sto} {i p1 p2 p3 p4 p5 : Nat} {top : Int} {nms tgs : List (List Nat)} {ks : List Kd} (h : KI S0 i p1 p2 p3 p4 p5 top nms tgs ks S) (a : Ap S0 i p1 p2 p3 p4 p5) {S' : Sto} (x : Xt [i] S S') (st : Strm S' i) : KI S0 i p1 p2 p3 p4 p5 top nms tgs ks S' :=
  ⟨h.x.trans x, st, x.get h.a1 (by simpa using a.i1.symm), x.get h.a2 (by simpa using a.i2.symm), x.get h.a3 (by simpa using a.i3.symm), x.get h.a4 (by simpa using a.i4.symm), x.get h.a5 (by simpa using a.i5.symm), h.ok, h.nm, h.tg⟩
theorem KI.push {S0 S : Sto} {i p1 p2 p3 p4 p5 : Nat} {top : Int} {nms tgs : List (List Nat)} {ks : List Kd} (h : KI S0 i p1 p2 p3 p4 p5 top nms tgs ks S) (a : Ap S0 i p1 p2 p3 p4 p5) {k : Kd} (hk : nms[ks.length]? = some k.nm) (ok : KOk alphaL alphaU top (ks ++ [k])) (ht : ∀ t ∈ k.sh.ts, t ∈ tgs.take (4 * (ks.length + 1))) :
    KI S0 i p1 p2 p3 p4 p5 top nms tgs (ks ++ [k]) (((S.set p3 (.dct (cntD ks ++ [(tx k.nm, .int k.cnt)]))).set p4 (.dct (depD ks ++ [(tx k.nm, .int k.dep)]))).set p5 (.lst (ks.map Kd.w ++ [k.w]))) where
  x := ((h.x.setN a.k3).setN a.k4).setN a.k5
  st := ((h.st.ne a.i3.symm).ne a.i4.symm).ne a.i5.symm
  a1 := at_ne (at_ne (at_ne h.a1 a.j13.symm) a.j14.symm) a.j15.symm
  a2 := at_ne (at_ne (at_ne h.a2 a.j23.symm) a.j24.symm) a.j25.symm
  a3 := by rw [at_ne (at_ne (at_set' h.a3) a.j34.symm) a.j35.symm]; simp [cntD]
  a4 := by rw [at_ne (at_set' (at_ne h.a4 a.j34)) a.j45.symm]; simp [depD]
  a5 := by rw [at_set' (at_ne (at_ne h.a5 a.j35) a.j45)]; simp
  ok := ok
  nm := by rw [List.map_append, h.nm, List.length_append, List.length_singleton, List.take_succ, hk]; rfl
  tg := by
    rw [List.length_append, List.length_singleton]
    intro k' hk' t ht'
    rcases List.mem_append.mp hk' with hk' | hk'
    · have := h.tg k' hk' t ht'
      exact (List.take_sublist_take_left (by omega)).subset this
    · obtain rfl := List.mem_singleton.mp hk'
      exact ht t ht'
/-- what a new shape may be -/
def NewSh (top : Int) (ks : List Kd) (w : W) : Prop := w = .non ∨ ∃ a b, a ∈ ks ∧ b ∈ ks ∧ 1 + (if b.dep > a.dep then b.dep else a.dep) ≤ 2 ∧ 1 + a.cnt * b.cnt ≤ top ∧ (∀ k ∈ ks, k.sh ≠ .pair a.nm b.nm) ∧ w = Sh.w (.pair a.nm b.nm)
theorem kinds_ok {n i : Nat} {most top : Int} {S : Sto} {Q : W → Sto → Prop} (hn : 5 ≤ n) (hs : Strm S i) (hm : 1 ≤ most ∧ most ≤ 6) (ht : top ≤ 1000)
    (h : ∀ (ks : List Kd) (S' : Sto) (p p' : Nat), Xt [i] S S' → Strm S' i → S.length ≤ p → S.length ≤ p' → ks ≠ [] → (ks.length : Int) ≤ most → KOk alphaL alphaU top ks → S'[p]? = some (.lst (ks.map Kd.w)) → S'[p']? = some (.dct (cntD ks)) → Q (.tup [.loc p, .loc p']) S') :
    wpR (call n .f_law_kinds [.loc i, .int most, .int top] S) Q := by
  obtain ⟨n, rfl⟩ : ∃ m, n = m + 1 := ⟨n - 1, by omega⟩
  have hiS := hs.lt
  rw [call_s, body]
  try simp (maxSteps := 500000) (implicitDefEqProofs := false) (disch := omega) only [Ev.wpR_ok, Ev.wpR_no, Ev.wpR_bind, Ev.wpR_ite, Ev.wpS_nx, Ev.wpS_rt, Ev.Kn_nx, Ev.Kn_rt, Ev.Kn_bk, Ev.Kn_ct, Ev.wpS_seq, Ev.wpS_ret, Ev.wpS_expr, Ev.wpS_set, Ev.wpS_ite, Ev.wpS_if, Ev.wpS_nil, Ev.wpS_cnt, Ev.wpS_brk, Ev.wpS_retN, Ev.wpS_asg, Ev.wpS_put, Ev.wpR_run, Ev.onRet_nx, Ev.onRet_rt, Ev.onNx_nx, Ev.onNx_ct, Ev.onNx_bk, Ev.onNx_rt, Ev.var_0, Ev.var_S, Ev.wpR_lc, Ev.wpS_for, Ev.e1, Ev.e2, Ev.eL, Ev.eC, Ev.aNil, Ev.aCons, Ev.bTest, Ev.bAnd, Ev.bOr, Ev.bNot, Ev.bTru, Ev.vAnd, Ev.vOr, Ev.vNot, Ev.eIf, Ev.bYes, Ev.eM, Ev.eSl, Ev.oNone, Ev.oSome, Ev.dnewW, Ev.startE, Ev.wipeE, List.map_cons, List.map_nil, List.length_cons, List.length_nil, List.replicate, List.cons_append, List.nil_append, Nat.reduceAdd, Nat.reduceSub, List.set_cons_zero, List.set_cons_succ, if_true, if_false, Ev.ifF, true_and, and_true, Bool.false_eq_true, Bool.not_true, Bool.not_false, reduceIte, Nat.zero_add, Ev.addW_ii, Ev.addW_tt, Ev.subW_ii, Ev.mulW_ii, Ev.modW_ii, Ev.fdivW_ii, Ev.powW_ii, Ev.negW_i, Ev.cmpI_ii, Ev.isW_n, Ev.isnW_n, Ev.isNon_n, Ev.isNon_b, Ev.isNon_i, Ev.isNon_s, Ev.isNon_t, Ev.isNon_l, Ev.max2W_ii, Ev.min2W_ii, Ev.intW_i, Ev.intW_b, Ev.lenW_t, Ev.lenW_r, Ev.wpR_ixT, Ev.wpR_ixR, Ev.wpR_ixS, Ev.listW_t, Ev.tupleW_t, Ev.truW_b, Ev.truW_n, Ev.truW_i, Ev.truW_t, Ev.eqW_ii, Ev.neW_ii, Ev.eqW_ss, Ev.neW_ss, Ev.eqW_bb, Ev.ixN_0, Ev.ixN_1, Ev.ixN_2, Ev.ixN_3, Ev.getE_set_self, Ev.wpR_rng1, Ev.wpR_seq, Ev.wpR_zip, Ev.isi_bb, Ev.isi_bs, Ev.isi_bi, Ev.isi_bt, Ev.isi_bl, Ev.isi_ib, Ev.isi_is, Ev.isi_ii, Ev.isi_it, Ev.isi_il, Ev.isi_sb, Ev.isi_ss, Ev.isi_si, Ev.isi_st, Ev.isi_sl, Ev.isi_tb, Ev.isi_ts, Ev.isi_ti, Ev.isi_tt, Ev.isi_tl, Ev.isi_nb, Ev.isi_ns, Ev.isi_ni, Ev.isi_nt, Ev.isi_nl, Ev.atI_0, Ev.atI_1, Ev.atI_2, Ev.atI_3, Ev.atI_4, Ev.tyOk_s, Ev.slW_to, Ev.slW_from, Ev.addW_SS, Int.toNat_natCast, Ev.tupW, Ev.lstW, Option.some.injEq, exists_eq_left', List.set_set, Option.map_some, W.int.injEq, W.str.injEq, W.loc.injEq, Nat.reduceLeDiff, and_self, Int.reduceLT, Int.reduceLE, Int.reduceNeg, Int.reduceToNat, Int.reduceAdd, Int.reduceMul, Int.reduceSub, decide_eq_true_eq, m_f_law_kinds]
  refine take_ok (by omega) hs (by omega) fun z o h1 h2 st1 => ?_
  try simp (maxSteps := 500000) (implicitDefEqProofs := false) (disch := omega) only [Ev.wpR_ok, Ev.wpR_no, Ev.wpR_bind, Ev.wpR_ite, Ev.wpS_nx, Ev.wpS_rt, Ev.Kn_nx, Ev.Kn_rt, Ev.Kn_bk, Ev.Kn_ct, Ev.wpS_seq, Ev.wpS_ret, Ev.wpS_expr, Ev.wpS_set, Ev.wpS_ite, Ev.wpS_if, Ev.wpS_nil, Ev.wpS_cnt, Ev.wpS_brk, Ev.wpS_retN, Ev.wpS_asg, Ev.wpS_put, Ev.wpR_run, Ev.onRet_nx, Ev.onRet_rt, Ev.onNx_nx, Ev.onNx_ct, Ev.onNx_bk, Ev.onNx_rt, Ev.var_0, Ev.var_S, Ev.wpR_lc, Ev.wpS_for, Ev.e1, Ev.e2, Ev.eL, Ev.eC, Ev.aNil, Ev.aCons, Ev.bTest, Ev.bAnd, Ev.bOr, Ev.bNot, Ev.bTru, Ev.vAnd, Ev.vOr, Ev.vNot, Ev.eIf, Ev.bYes, Ev.eM, Ev.eSl, Ev.oNone, Ev.oSome, Ev.dnewW, Ev.startE, Ev.wipeE, List.map_cons, List.map_nil, List.length_cons, List.length_nil, List.replicate, List.cons_append, List.nil_append, Nat.reduceAdd, Nat.reduceSub, List.set_cons_zero, List.set_cons_succ, if_true, if_false, Ev.ifF, true_and, and_true, Bool.false_eq_true, Bool.not_true, Bool.not_false, reduceIte, Nat.zero_add, Ev.addW_ii, Ev.addW_tt, Ev.subW_ii, Ev.mulW_ii, Ev.modW_ii, Ev.fdivW_ii, Ev.powW_ii, Ev.negW_i, Ev.cmpI_ii, Ev.isW_n, Ev.isnW_n, Ev.isNon_n, Ev.isNon_b, Ev.isNon_i, Ev.isNon_s, Ev.isNon_t, Ev.isNon_l, Ev.max2W_ii, Ev.min2W_ii, Ev.intW_i, Ev.intW_b, Ev.lenW_t, Ev.lenW_r, Ev.wpR_ixT, Ev.wpR_ixR, Ev.wpR_ixS, Ev.listW_t, Ev.tupleW_t, Ev.truW_b, Ev.truW_n, Ev.truW_i, Ev.truW_t, Ev.eqW_ii, Ev.neW_ii, Ev.eqW_ss, Ev.neW_ss, Ev.eqW_bb, Ev.ixN_0, Ev.ixN_1, Ev.ixN_2, Ev.ixN_3, Ev.getE_set_self, Ev.wpR_rng1, Ev.wpR_seq, Ev.wpR_zip, Ev.isi_bb, Ev.isi_bs, Ev.isi_bi, Ev.isi_bt, Ev.isi_bl, Ev.isi_ib, Ev.isi_is, Ev.isi_ii, Ev.isi_it, Ev.isi_il, Ev.isi_sb, Ev.isi_ss, Ev.isi_si, Ev.isi_st, Ev.isi_sl, Ev.isi_tb, Ev.isi_ts, Ev.isi_ti, Ev.isi_tt, Ev.isi_tl, Ev.isi_nb, Ev.isi_ns, Ev.isi_ni, Ev.isi_nt, Ev.isi_nl, Ev.atI_0, Ev.atI_1, Ev.atI_2, Ev.atI_3, Ev.atI_4, Ev.tyOk_s, Ev.slW_to, Ev.slW_from, Ev.addW_SS, Int.toNat_natCast, Ev.tupW, Ev.lstW, Option.some.injEq, exists_eq_left', List.set_set, Option.map_some, W.int.injEq, W.str.injEq, W.loc.injEq, Nat.reduceLeDiff, and_self, Int.reduceLT, Int.reduceLE, Int.reduceNeg, Int.reduceToNat, Int.reduceAdd, Int.reduceMul, Int.reduceSub, decide_eq_true_eq]
  refine small_ok (by omega) st1 (by omega) fun p1 nms S1 x1 l1 st2 e1 hl1 nd1 wo1 => ?_
  have x1' : Xt [i] S S1 := (Xt.set (by simp)).trans x1
  have l1' : S.length ≤ p1 := by simpa using l1
  clear x1 l1 st1
  try simp (maxSteps := 500000) (implicitDefEqProofs := false) (disch := omega) only [Ev.wpR_ok, Ev.wpR_no, Ev.wpR_bind, Ev.wpR_ite, Ev.wpS_nx, Ev.wpS_rt, Ev.Kn_nx, Ev.Kn_rt, Ev.Kn_bk, Ev.Kn_ct, Ev.wpS_seq, Ev.wpS_ret, Ev.wpS_expr, Ev.wpS_set, Ev.wpS_ite, Ev.wpS_if, Ev.wpS_nil, Ev.wpS_cnt, Ev.wpS_brk, Ev.wpS_retN, Ev.wpS_asg, Ev.wpS_put, Ev.wpR_run, Ev.onRet_nx, Ev.onRet_rt, Ev.onNx_nx, Ev.onNx_ct, Ev.onNx_bk, Ev.onNx_rt, Ev.var_0, Ev.var_S, Ev.wpR_lc, Ev.wpS_for, Ev.e1, Ev.e2, Ev.eL, Ev.eC, Ev.aNil, Ev.aCons, Ev.bTest, Ev.bAnd, Ev.bOr, Ev.bNot, Ev.bTru, Ev.vAnd, Ev.vOr, Ev.vNot, Ev.eIf, Ev.bYes, Ev.eM, Ev.eSl, Ev.oNone, Ev.oSome, Ev.dnewW, Ev.startE, Ev.wipeE, List.map_cons, List.map_nil, List.length_cons, List.length_nil, List.replicate, List.cons_append, List.nil_append, Nat.reduceAdd, Nat.reduceSub, List.set_cons_zero, List.set_cons_succ, if_true, if_false, Ev.ifF, true_and, and_true, Bool.false_eq_true, Bool.not_true, Bool.not_false, reduceIte, Nat.zero_add, Ev.addW_ii, Ev.addW_tt, Ev.subW_ii, Ev.mulW_ii, Ev.modW_ii, Ev.fdivW_ii, Ev.powW_ii, Ev.negW_i, Ev.cmpI_ii, Ev.isW_n, Ev.isnW_n, Ev.isNon_n, Ev.isNon_b, Ev.isNon_i, Ev.isNon_s, Ev.isNon_t, Ev.isNon_l, Ev.max2W_ii, Ev.min2W_ii, Ev.intW_i, Ev.intW_b, Ev.lenW_t, Ev.lenW_r, Ev.wpR_ixT, Ev.wpR_ixR, Ev.wpR_ixS, Ev.listW_t, Ev.tupleW_t, Ev.truW_b, Ev.truW_n, Ev.truW_i, Ev.truW_t, Ev.eqW_ii, Ev.neW_ii, Ev.eqW_ss, Ev.neW_ss, Ev.eqW_bb, Ev.ixN_0, Ev.ixN_1, Ev.ixN_2, Ev.ixN_3, Ev.getE_set_self, Ev.wpR_rng1, Ev.wpR_seq, Ev.wpR_zip, Ev.isi_bb, Ev.isi_bs, Ev.isi_bi, Ev.isi_bt, Ev.isi_bl, Ev.isi_ib, Ev.isi_is, Ev.isi_ii, Ev.isi_it, Ev.isi_il, Ev.isi_sb, Ev.isi_ss, Ev.isi_si, Ev.isi_st, Ev.isi_sl, Ev.isi_tb, Ev.isi_ts, Ev.isi_ti, Ev.isi_tt, Ev.isi_tl, Ev.isi_nb, Ev.isi_ns, Ev.isi_ni, Ev.isi_nt, Ev.isi_nl, Ev.atI_0, Ev.atI_1, Ev.atI_2, Ev.atI_3, Ev.atI_4, Ev.tyOk_s, Ev.slW_to, Ev.slW_from, Ev.addW_SS, Int.toNat_natCast, Ev.tupW, Ev.lstW, Option.some.injEq, exists_eq_left', List.set_set, Option.map_some, W.int.injEq, W.str.injEq, W.loc.injEq, Nat.reduceLeDiff, and_self, Int.reduceLT, Int.reduceLE, Int.reduceNeg, Int.reduceToNat, Int.reduceAdd, Int.reduceMul, Int.reduceSub, decide_eq_true_eq, lenW_l e1, List.length_map, alphaU_eq]
  refine ⟨cmul_l (by decide) (by decide), ?_⟩
  refine words_ok (by omega) st2 rfl alphaU_nd (by omega) (by decide) (.inr (by omega)) fun p2 tgs S2 x2 l2 st3 e2' hl2 nd2 wo2 => ?_
  have e1' : S2[p1]? = some (.lst (nms.map tx)) := x2.get e1 (by simp; omega)
  have hp12 : p1 < p2 := by have := lt_at e1; omega
  have hl2' : tgs.length = 4 * nms.length := by omega
  have hnl : 1 ≤ nms.length ∧ (nms.length : Int) ≤ most := by omega
  have x2' := x1'.trans x2
  have hp2 := lt_at e2'
  clear x2 l2 e1 st2 x1'
  try simp (maxSteps := 500000) (implicitDefEqProofs := false) (disch := omega) only [Ev.wpR_ok, Ev.wpR_no, Ev.wpR_bind, Ev.wpR_ite, Ev.wpS_nx, Ev.wpS_rt, Ev.Kn_nx, Ev.Kn_rt, Ev.Kn_bk, Ev.Kn_ct, Ev.wpS_seq, Ev.wpS_ret, Ev.wpS_expr, Ev.wpS_set, Ev.wpS_ite, Ev.wpS_if, Ev.wpS_nil, Ev.wpS_cnt, Ev.wpS_brk, Ev.wpS_retN, Ev.wpS_asg, Ev.wpS_put, Ev.wpR_run, Ev.onRet_nx, Ev.onRet_rt, Ev.onNx_nx, Ev.onNx_ct, Ev.onNx_bk, Ev.onNx_rt, Ev.var_0, Ev.var_S, Ev.wpR_lc, Ev.wpS_for, Ev.e1, Ev.e2, Ev.eL, Ev.eC, Ev.aNil, Ev.aCons, Ev.bTest, Ev.bAnd, Ev.bOr, Ev.bNot, Ev.bTru, Ev.vAnd, Ev.vOr, Ev.vNot, Ev.eIf, Ev.bYes, Ev.eM, Ev.eSl, Ev.oNone, Ev.oSome, Ev.dnewW, Ev.startE, Ev.wipeE, List.map_cons, List.map_nil, List.length_cons, List.length_nil, List.replicate, List.cons_append, List.nil_append, Nat.reduceAdd, Nat.reduceSub, List.set_cons_zero, List.set_cons_succ, if_true, if_false, Ev.ifF, true_and, and_true, Bool.false_eq_true, Bool.not_true, Bool.not_false, reduceIte, Nat.zero_add, Ev.addW_ii, Ev.addW_tt, Ev.subW_ii, Ev.mulW_ii, Ev.modW_ii, Ev.fdivW_ii, Ev.powW_ii, Ev.negW_i, Ev.cmpI_ii, Ev.isW_n, Ev.isnW_n, Ev.isNon_n, Ev.isNon_b, Ev.isNon_i, Ev.isNon_s, Ev.isNon_t, Ev.isNon_l, Ev.max2W_ii, Ev.min2W_ii, Ev.intW_i, Ev.intW_b, Ev.lenW_t, Ev.lenW_r, Ev.wpR_ixT, Ev.wpR_ixR, Ev.wpR_ixS, Ev.listW_t, Ev.tupleW_t, Ev.truW_b, Ev.truW_n, Ev.truW_i, Ev.truW_t, Ev.eqW_ii, Ev.neW_ii, Ev.eqW_ss, Ev.neW_ss, Ev.eqW_bb, Ev.ixN_0, Ev.ixN_1, Ev.ixN_2, Ev.ixN_3, Ev.getE_set_self, Ev.wpR_rng1, Ev.wpR_seq, Ev.wpR_zip, Ev.isi_bb, Ev.isi_bs, Ev.isi_bi, Ev.isi_bt, Ev.isi_bl, Ev.isi_ib, Ev.isi_is, Ev.isi_ii, Ev.isi_it, Ev.isi_il, Ev.isi_sb, Ev.isi_ss, Ev.isi_si, Ev.isi_st, Ev.isi_sl, Ev.isi_tb, Ev.isi_ts, Ev.isi_ti, Ev.isi_tt, Ev.isi_tl, Ev.isi_nb, Ev.isi_ns, Ev.isi_ni, Ev.isi_nt, Ev.isi_nl, Ev.atI_0, Ev.atI_1, Ev.atI_2, Ev.atI_3, Ev.atI_4, Ev.tyOk_s, Ev.slW_to, Ev.slW_from, Ev.addW_SS, Int.toNat_natCast, Ev.tupW, Ev.lstW, Option.some.injEq, exists_eq_left', List.set_set, Option.map_some, W.int.injEq, W.str.injEq, W.loc.injEq, Nat.reduceLeDiff, and_self, Int.reduceLT, Int.reduceLE, Int.reduceNeg, Int.reduceToNat, Int.reduceAdd, Int.reduceMul, Int.reduceSub, decide_eq_true_eq, lenW_l (at_app (at_app (at_app e1'))), List.length_map]
  refine ⟨by omega, ?_⟩
  have ap : Ap S i p1 p2 S2.length (S2.length + 1) (S2.length + 2) := by
    have := x2'.len
    constructor <;> omega
  refine wp_loopN nms.length (fun k s S5 => ∃ x8 x9 x10 ks, s = [some (W.loc i), some (W.int most), some (W.int top), some (W.loc p1), some (W.loc p2), some (W.loc S2.length), some (W.loc (S2.length + 1)), some (W.loc (S2.length + 2)), x8, x9, x10] ∧ ks.length = k ∧ KI S i p1 p2 S2.length (S2.length + 1) (S2.length + 2) top nms tgs ks S5) (by omega) ?_ ?_ ?_
  · refine ⟨none, none, none, [], by simp, rfl, ?_⟩
    exact ⟨((x2'.appI).appI).appI, ((st3.app).app).app, at_app (at_app (at_app e1')), at_app (at_app (at_app e2')), at_app (at_app at_new'), at_app (by simp), by simp, .nil, rfl, fun k h => by cases h⟩
  · generalize S2.length = p3 at *
    rintro k s S5 hk ⟨x8, x9, x10, ks, rfl, hks, I⟩
    refine ⟨_, _, rng0_lt hk, rfl, ?_⟩
    have hcnt := I.ok.cnt
    have nd := I.ok.nd
    have hnk : nms[k]? = some nms[k] := List.getElem?_eq_getElem hk
    have hnew : nms[k] ∉ ks.map Kd.nm := by
      rw [I.nm, hks]
      intro hm
      obtain ⟨j, hj, e⟩ := List.mem_take_iff_getElem.mp hm
      have := (List.getElem_inj nd1).mp e
      omega
    have hwd := wo1 _ (List.getElem_mem hk)
    rw [wpS_seq, wpS_set]
    simp only [eC, wpR_ok, Kn_nx, List.set_cons_succ, List.set_cons_zero]
    rw [wpS_seq]
    refine wpS_mono (Q := fun r => ∃ w9 x10 S6, r = .nx [some (W.loc i), some (W.int most), some (W.int top), some (W.loc p1), some (W.loc p2), some (W.loc p3), some (W.loc (p3 + 1)), some (W.loc (p3 + 2)), some (.int k), some w9, x10] S6 ∧ KI S i p1 p2 p3 (p3 + 1) (p3 + 2) top nms tgs ks S6 ∧ NewSh top ks w9) ?_ ?_
    · by_cases k0 : k = 0
      · subst k0
        try simp (maxSteps := 500000) (implicitDefEqProofs := false) (disch := omega) only [Ev.wpR_ok, Ev.wpR_no, Ev.wpR_bind, Ev.wpR_ite, Ev.wpS_nx, Ev.wpS_rt, Ev.Kn_nx, Ev.Kn_rt, Ev.Kn_bk, Ev.Kn_ct, Ev.wpS_seq, Ev.wpS_ret, Ev.wpS_expr, Ev.wpS_set, Ev.wpS_ite, Ev.wpS_if, Ev.wpS_nil, Ev.wpS_cnt, Ev.wpS_brk, Ev.wpS_retN, Ev.wpS_asg, Ev.wpS_put, Ev.wpR_run, Ev.onRet_nx, Ev.onRet_rt, Ev.onNx_nx, Ev.onNx_ct, Ev.onNx_bk, Ev.onNx_rt, Ev.var_0, Ev.var_S, Ev.wpR_lc, Ev.wpS_for, Ev.e1, Ev.e2, Ev.eL, Ev.eC, Ev.aNil, Ev.aCons, Ev.bTest, Ev.bAnd, Ev.bOr, Ev.bNot, Ev.bTru, Ev.vAnd, Ev.vOr, Ev.vNot, Ev.eIf, Ev.bYes, Ev.eM, Ev.eSl, Ev.oNone, Ev.oSome, Ev.dnewW, Ev.startE, Ev.wipeE, List.map_cons, List.map_nil, List.length_cons, List.length_nil, List.replicate, List.cons_append, List.nil_append, Nat.reduceAdd, Nat.reduceSub, List.set_cons_zero, List.set_cons_succ, if_true, if_false, Ev.ifF, true_and, and_true, Bool.false_eq_true, Bool.not_true, Bool.not_false, reduceIte, Nat.zero_add, Ev.addW_ii, Ev.addW_tt, Ev.subW_ii, Ev.mulW_ii, Ev.modW_ii, Ev.fdivW_ii, Ev.powW_ii, Ev.negW_i, Ev.cmpI_ii, Ev.isW_n, Ev.isnW_n, Ev.isNon_n, Ev.isNon_b, Ev.isNon_i, Ev.isNon_s, Ev.isNon_t, Ev.isNon_l, Ev.max2W_ii, Ev.min2W_ii, Ev.intW_i, Ev.intW_b, Ev.lenW_t, Ev.lenW_r, Ev.wpR_ixT, Ev.wpR_ixR, Ev.wpR_ixS, Ev.listW_t, Ev.tupleW_t, Ev.truW_b, Ev.truW_n, Ev.truW_i, Ev.truW_t, Ev.eqW_ii, Ev.neW_ii, Ev.eqW_ss, Ev.neW_ss, Ev.eqW_bb, Ev.ixN_0, Ev.ixN_1, Ev.ixN_2, Ev.ixN_3, Ev.getE_set_self, Ev.wpR_rng1, Ev.wpR_seq, Ev.wpR_zip, Ev.isi_bb, Ev.isi_bs, Ev.isi_bi, Ev.isi_bt, Ev.isi_bl, Ev.isi_ib, Ev.isi_is, Ev.isi_ii, Ev.isi_it, Ev.isi_il, Ev.isi_sb, Ev.isi_ss, Ev.isi_si, Ev.isi_st, Ev.isi_sl, Ev.isi_tb, Ev.isi_ts, Ev.isi_ti, Ev.isi_tt, Ev.isi_tl, Ev.isi_nb, Ev.isi_ns, Ev.isi_ni, Ev.isi_nt, Ev.isi_nl, Ev.atI_0, Ev.atI_1, Ev.atI_2, Ev.atI_3, Ev.atI_4, Ev.tyOk_s, Ev.slW_to, Ev.slW_from, Ev.addW_SS, Int.toNat_natCast, Ev.tupW, Ev.lstW, Option.some.injEq, exists_eq_left', List.set_set, Option.map_some, W.int.injEq, W.str.injEq, W.loc.injEq, Nat.reduceLeDiff, and_self, Int.reduceLT, Int.reduceLE, Int.reduceNeg, Int.reduceToNat, Int.reduceAdd, Int.reduceMul, Int.reduceSub, decide_eq_true_eq]
        rw [if_neg (by decide)]
        exact ⟨_, _, _, rfl, I, .inl rfl⟩
      · try simp (maxSteps := 500000) (implicitDefEqProofs := false) (disch := omega) only [Ev.wpR_ok, Ev.wpR_no, Ev.wpR_bind, Ev.wpR_ite, Ev.wpS_nx, Ev.wpS_rt, Ev.Kn_nx, Ev.Kn_rt, Ev.Kn_bk, Ev.Kn_ct, Ev.wpS_seq, Ev.wpS_ret, Ev.wpS_expr, Ev.wpS_set, Ev.wpS_ite, Ev.wpS_if, Ev.wpS_nil, Ev.wpS_cnt, Ev.wpS_brk, Ev.wpS_retN, Ev.wpS_asg, Ev.wpS_put, Ev.wpR_run, Ev.onRet_nx, Ev.onRet_rt, Ev.onNx_nx, Ev.onNx_ct, Ev.onNx_bk, Ev.onNx_rt, Ev.var_0, Ev.var_S, Ev.wpR_lc, Ev.wpS_for, Ev.e1, Ev.e2, Ev.eL, Ev.eC, Ev.aNil, Ev.aCons, Ev.bTest, Ev.bAnd, Ev.bOr, Ev.bNot, Ev.bTru, Ev.vAnd, Ev.vOr, Ev.vNot, Ev.eIf, Ev.bYes, Ev.eM, Ev.eSl, Ev.oNone, Ev.oSome, Ev.dnewW, Ev.startE, Ev.wipeE, List.map_cons, List.map_nil, List.length_cons, List.length_nil, List.replicate, List.cons_append, List.nil_append, Nat.reduceAdd, Nat.reduceSub, List.set_cons_zero, List.set_cons_succ, if_true, if_false, Ev.ifF, true_and, and_true, Bool.false_eq_true, Bool.not_true, Bool.not_false, reduceIte, Nat.zero_add, Ev.addW_ii, Ev.addW_tt, Ev.subW_ii, Ev.mulW_ii, Ev.modW_ii, Ev.fdivW_ii, Ev.powW_ii, Ev.negW_i, Ev.cmpI_ii, Ev.isW_n, Ev.isnW_n, Ev.isNon_n, Ev.isNon_b, Ev.isNon_i, Ev.isNon_s, Ev.isNon_t, Ev.isNon_l, Ev.max2W_ii, Ev.min2W_ii, Ev.intW_i, Ev.intW_b, Ev.lenW_t, Ev.lenW_r, Ev.wpR_ixT, Ev.wpR_ixR, Ev.wpR_ixS, Ev.listW_t, Ev.tupleW_t, Ev.truW_b, Ev.truW_n, Ev.truW_i, Ev.truW_t, Ev.eqW_ii, Ev.neW_ii, Ev.eqW_ss, Ev.neW_ss, Ev.eqW_bb, Ev.ixN_0, Ev.ixN_1, Ev.ixN_2, Ev.ixN_3, Ev.getE_set_self, Ev.wpR_rng1, Ev.wpR_seq, Ev.wpR_zip, Ev.isi_bb, Ev.isi_bs, Ev.isi_bi, Ev.isi_bt, Ev.isi_bl, Ev.isi_ib, Ev.isi_is, Ev.isi_ii, Ev.isi_it, Ev.isi_il, Ev.isi_sb, Ev.isi_ss, Ev.isi_si, Ev.isi_st, Ev.isi_sl, Ev.isi_tb, Ev.isi_ts, Ev.isi_ti, Ev.isi_tt, Ev.isi_tl, Ev.isi_nb, Ev.isi_ns, Ev.isi_ni, Ev.isi_nt, Ev.isi_nl, Ev.atI_0, Ev.atI_1, Ev.atI_2, Ev.atI_3, Ev.atI_4, Ev.tyOk_s, Ev.slW_to, Ev.slW_from, Ev.addW_SS, Int.toNat_natCast, Ev.tupW, Ev.lstW, Option.some.injEq, exists_eq_left', List.set_set, Option.map_some, W.int.injEq, W.str.injEq, W.loc.injEq, Nat.reduceLeDiff, and_self, Int.reduceLT, Int.reduceLE, Int.reduceNeg, Int.reduceToNat, Int.reduceAdd, Int.reduceMul, Int.reduceSub, decide_eq_true_eq]
        rw [if_pos (by omega)]
        try simp (maxSteps := 500000) (implicitDefEqProofs := false) (disch := omega) only [Ev.wpR_ok, Ev.wpR_no, Ev.wpR_bind, Ev.wpR_ite, Ev.wpS_nx, Ev.wpS_rt, Ev.Kn_nx, Ev.Kn_rt, Ev.Kn_bk, Ev.Kn_ct, Ev.wpS_seq, Ev.wpS_ret, Ev.wpS_expr, Ev.wpS_set, Ev.wpS_ite, Ev.wpS_if, Ev.wpS_nil, Ev.wpS_cnt, Ev.wpS_brk, Ev.wpS_retN, Ev.wpS_asg, Ev.wpS_put, Ev.wpR_run, Ev.onRet_nx, Ev.onRet_rt, Ev.onNx_nx, Ev.onNx_ct, Ev.onNx_bk, Ev.onNx_rt, Ev.var_0, Ev.var_S, Ev.wpR_lc, Ev.wpS_for, Ev.e1, Ev.e2, Ev.eL, Ev.eC, Ev.aNil, Ev.aCons, Ev.bTest, Ev.bAnd, Ev.bOr, Ev.bNot, Ev.bTru, Ev.vAnd, Ev.vOr, Ev.vNot, Ev.eIf, Ev.bYes, Ev.eM, Ev.eSl, Ev.oNone, Ev.oSome, Ev.dnewW, Ev.startE, Ev.wipeE, List.map_cons, List.map_nil, List.length_cons, List.length_nil, List.replicate, List.cons_append, List.nil_append, Nat.reduceAdd, Nat.reduceSub, List.set_cons_zero, List.set_cons_succ, if_true, if_false, Ev.ifF, true_and, and_true, Bool.false_eq_true, Bool.not_true, Bool.not_false, reduceIte, Nat.zero_add, Ev.addW_ii, Ev.addW_tt, Ev.subW_ii, Ev.mulW_ii, Ev.modW_ii, Ev.fdivW_ii, Ev.powW_ii, Ev.negW_i, Ev.cmpI_ii, Ev.isW_n, Ev.isnW_n, Ev.isNon_n, Ev.isNon_b, Ev.isNon_i, Ev.isNon_s, Ev.isNon_t, Ev.isNon_l, Ev.max2W_ii, Ev.min2W_ii, Ev.intW_i, Ev.intW_b, Ev.lenW_t, Ev.lenW_r, Ev.wpR_ixT, Ev.wpR_ixR, Ev.wpR_ixS, Ev.listW_t, Ev.tupleW_t, Ev.truW_b, Ev.truW_n, Ev.truW_i, Ev.truW_t, Ev.eqW_ii, Ev.neW_ii, Ev.eqW_ss, Ev.neW_ss, Ev.eqW_bb, Ev.ixN_0, Ev.ixN_1, Ev.ixN_2, Ev.ixN_3, Ev.getE_set_self, Ev.wpR_rng1, Ev.wpR_seq, Ev.wpR_zip, Ev.isi_bb, Ev.isi_bs, Ev.isi_bi, Ev.isi_bt, Ev.isi_bl, Ev.isi_ib, Ev.isi_is, Ev.isi_ii, Ev.isi_it, Ev.isi_il, Ev.isi_sb, Ev.isi_ss, Ev.isi_si, Ev.isi_st, Ev.isi_sl, Ev.isi_tb, Ev.isi_ts, Ev.isi_ti, Ev.isi_tt, Ev.isi_tl, Ev.isi_nb, Ev.isi_ns, Ev.isi_ni, Ev.isi_nt, Ev.isi_nl, Ev.atI_0, Ev.atI_1, Ev.atI_2, Ev.atI_3, Ev.atI_4, Ev.tyOk_s, Ev.slW_to, Ev.slW_from, Ev.addW_SS, Int.toNat_natCast, Ev.tupW, Ev.lstW, Option.some.injEq, exists_eq_left', List.set_set, Option.map_some, W.int.injEq, W.str.injEq, W.loc.injEq, Nat.reduceLeDiff, and_self, Int.reduceLT, Int.reduceLE, Int.reduceNeg, Int.reduceToNat, Int.reduceAdd, Int.reduceMul, Int.reduceSub, decide_eq_true_eq]
        refine take_ok (by omega) I.st (by decide) fun z o h1 h2 st4 => ?_
        have I2 := I.strm ap (Xt.set (by simp)) st4
        generalize S5.set i o = S6 at *
        try simp (maxSteps := 500000) (implicitDefEqProofs := false) (disch := omega) only [Ev.wpR_ok, Ev.wpR_no, Ev.wpR_bind, Ev.wpR_ite, Ev.wpS_nx, Ev.wpS_rt, Ev.Kn_nx, Ev.Kn_rt, Ev.Kn_bk, Ev.Kn_ct, Ev.wpS_seq, Ev.wpS_ret, Ev.wpS_expr, Ev.wpS_set, Ev.wpS_ite, Ev.wpS_if, Ev.wpS_nil, Ev.wpS_cnt, Ev.wpS_brk, Ev.wpS_retN, Ev.wpS_asg, Ev.wpS_put, Ev.wpR_run, Ev.onRet_nx, Ev.onRet_rt, Ev.onNx_nx, Ev.onNx_ct, Ev.onNx_bk, Ev.onNx_rt, Ev.var_0, Ev.var_S, Ev.wpR_lc, Ev.wpS_for, Ev.e1, Ev.e2, Ev.eL, Ev.eC, Ev.aNil, Ev.aCons, Ev.bTest, Ev.bAnd, Ev.bOr, Ev.bNot, Ev.bTru, Ev.vAnd, Ev.vOr, Ev.vNot, Ev.eIf, Ev.bYes, Ev.eM, Ev.eSl, Ev.oNone, Ev.oSome, Ev.dnewW, Ev.startE, Ev.wipeE, List.map_cons, List.map_nil, List.length_cons, List.length_nil, List.replicate, List.cons_append, List.nil_append, Nat.reduceAdd, Nat.reduceSub, List.set_cons_zero, List.set_cons_succ, if_true, if_false, Ev.ifF, true_and, and_true, Bool.false_eq_true, Bool.not_true, Bool.not_false, reduceIte, Nat.zero_add, Ev.addW_ii, Ev.addW_tt, Ev.subW_ii, Ev.mulW_ii, Ev.modW_ii, Ev.fdivW_ii, Ev.powW_ii, Ev.negW_i, Ev.cmpI_ii, Ev.isW_n, Ev.isnW_n, Ev.isNon_n, Ev.isNon_b, Ev.isNon_i, Ev.isNon_s, Ev.isNon_t, Ev.isNon_l, Ev.max2W_ii, Ev.min2W_ii, Ev.intW_i, Ev.intW_b, Ev.lenW_t, Ev.lenW_r, Ev.wpR_ixT, Ev.wpR_ixR, Ev.wpR_ixS, Ev.listW_t, Ev.tupleW_t, Ev.truW_b, Ev.truW_n, Ev.truW_i, Ev.truW_t, Ev.eqW_ii, Ev.neW_ii, Ev.eqW_ss, Ev.neW_ss, Ev.eqW_bb, Ev.ixN_0, Ev.ixN_1, Ev.ixN_2, Ev.ixN_3, Ev.getE_set_self, Ev.wpR_rng1, Ev.wpR_seq, Ev.wpR_zip, Ev.isi_bb, Ev.isi_bs, Ev.isi_bi, Ev.isi_bt, Ev.isi_bl, Ev.isi_ib, Ev.isi_is, Ev.isi_ii, Ev.isi_it, Ev.isi_il, Ev.isi_sb, Ev.isi_ss, Ev.isi_si, Ev.isi_st, Ev.isi_sl, Ev.isi_tb, Ev.isi_ts, Ev.isi_ti, Ev.isi_tt, Ev.isi_tl, Ev.isi_nb, Ev.isi_ns, Ev.isi_ni, Ev.isi_nt, Ev.isi_nl, Ev.atI_0, Ev.atI_1, Ev.atI_2, Ev.atI_3, Ev.atI_4, Ev.tyOk_s, Ev.slW_to, Ev.slW_from, Ev.addW_SS, Int.toNat_natCast, Ev.tupW, Ev.lstW, Option.some.injEq, exists_eq_left', List.set_set, Option.map_some, W.int.injEq, W.str.injEq, W.loc.injEq, Nat.reduceLeDiff, and_self, Int.reduceLT, Int.reduceLE, Int.reduceNeg, Int.reduceToNat, Int.reduceAdd, Int.reduceMul, Int.reduceSub, decide_eq_true_eq]
        split
        · rename_i hz
          have e9 : cutW (nms.map tx) none (some (k : Int)) = (ks.map Kd.nm).map tx := by rw [cutW_to, ← List.map_take, I.nm, hks]
          try simp (maxSteps := 500000) (implicitDefEqProofs := false) (disch := omega) only [Ev.wpR_ok, Ev.wpR_no, Ev.wpR_bind, Ev.wpR_ite, Ev.wpS_nx, Ev.wpS_rt, Ev.Kn_nx, Ev.Kn_rt, Ev.Kn_bk, Ev.Kn_ct, Ev.wpS_seq, Ev.wpS_ret, Ev.wpS_expr, Ev.wpS_set, Ev.wpS_ite, Ev.wpS_if, Ev.wpS_nil, Ev.wpS_cnt, Ev.wpS_brk, Ev.wpS_retN, Ev.wpS_asg, Ev.wpS_put, Ev.wpR_run, Ev.onRet_nx, Ev.onRet_rt, Ev.onNx_nx, Ev.onNx_ct, Ev.onNx_bk, Ev.onNx_rt, Ev.var_0, Ev.var_S, Ev.wpR_lc, Ev.wpS_for, Ev.e1, Ev.e2, Ev.eL, Ev.eC, Ev.aNil, Ev.aCons, Ev.bTest, Ev.bAnd, Ev.bOr, Ev.bNot, Ev.bTru, Ev.vAnd, Ev.vOr, Ev.vNot, Ev.eIf, Ev.bYes, Ev.eM, Ev.eSl, Ev.oNone, Ev.oSome, Ev.dnewW, Ev.startE, Ev.wipeE, List.map_cons, List.map_nil, List.length_cons, List.length_nil, List.replicate, List.cons_append, List.nil_append, Nat.reduceAdd, Nat.reduceSub, List.set_cons_zero, List.set_cons_succ, if_true, if_false, Ev.ifF, true_and, and_true, Bool.false_eq_true, Bool.not_true, Bool.not_false, reduceIte, Nat.zero_add, Ev.addW_ii, Ev.addW_tt, Ev.subW_ii, Ev.mulW_ii, Ev.modW_ii, Ev.fdivW_ii, Ev.powW_ii, Ev.negW_i, Ev.cmpI_ii, Ev.isW_n, Ev.isnW_n, Ev.isNon_n, Ev.isNon_b, Ev.isNon_i, Ev.isNon_s, Ev.isNon_t, Ev.isNon_l, Ev.max2W_ii, Ev.min2W_ii, Ev.intW_i, Ev.intW_b, Ev.lenW_t, Ev.lenW_r, Ev.wpR_ixT, Ev.wpR_ixR, Ev.wpR_ixS, Ev.listW_t, Ev.tupleW_t, Ev.truW_b, Ev.truW_n, Ev.truW_i, Ev.truW_t, Ev.eqW_ii, Ev.neW_ii, Ev.eqW_ss, Ev.neW_ss, Ev.eqW_bb, Ev.ixN_0, Ev.ixN_1, Ev.ixN_2, Ev.ixN_3, Ev.getE_set_self, Ev.wpR_rng1, Ev.wpR_seq, Ev.wpR_zip, Ev.isi_bb, Ev.isi_bs, Ev.isi_bi, Ev.isi_bt, Ev.isi_bl, Ev.isi_ib, Ev.isi_is, Ev.isi_ii, Ev.isi_it, Ev.isi_il, Ev.isi_sb, Ev.isi_ss, Ev.isi_si, Ev.isi_st, Ev.isi_sl, Ev.isi_tb, Ev.isi_ts, Ev.isi_ti, Ev.isi_tt, Ev.isi_tl, Ev.isi_nb, Ev.isi_ns, Ev.isi_ni, Ev.isi_nt, Ev.isi_nl, Ev.atI_0, Ev.atI_1, Ev.atI_2, Ev.atI_3, Ev.atI_4, Ev.tyOk_s, Ev.slW_to, Ev.slW_from, Ev.addW_SS, Int.toNat_natCast, Ev.tupW, Ev.lstW, Option.some.injEq, exists_eq_left', List.set_set, Option.map_some, W.int.injEq, W.str.injEq, W.loc.injEq, Nat.reduceLeDiff, and_self, Int.reduceLT, Int.reduceLE, Int.reduceNeg, Int.reduceToNat, Int.reduceAdd, Int.reduceMul, Int.reduceSub, decide_eq_true_eq, slW_l I2.a1, e9]
          have a5 : (S6 ++ [O.lst ((ks.map Kd.nm).map tx)])[p3 + 2]? = some (.lst (ks.map Kd.w)) := at_app I2.a5
          refine ⟨_, seqLen_l a5, ?_⟩
          refine wp_lc_pure (fun w => match w with | .tup [_, b] => b | _ => .non) (fun i => seqIt_l a5) (by rw [List.length_map]; omega) ?_ ?_
          · intro w hw
            obtain ⟨kd, hkd, rfl⟩ := List.mem_map.mp hw
            refine ⟨_, rfl, rfl, ?_⟩
            rfl
          · have es : (List.map (fun w => match w with | W.tup [_, b] => b | _ => W.non) (List.map Kd.w ks)) = (ks.map Kd.sh).map Sh.w := by
              rw [List.map_map, List.map_map]; rfl
            rw [es]
            have bnd := I2.ok.cnt
            refine pair_ok (nms := ks.map Kd.nm) (shs := ks.map Kd.sh) (cf := fun a => (kdAt ks a).cnt) (df := fun a => (kdAt ks a).dep) (by omega) (I2.st.app.app) (at_app at_new') ?_ (by rw [List.length_map]; omega) (at_app (at_app I2.a3)) (at_app (at_app I2.a4)) ?_ ?_ ?_ ?_ ap.i3 ap.i4 ?_ ?_ ?_
            · intro e
              have : ks.length = 0 := by rw [← List.length_map, e]; rfl
              omega
            · simp
            · intro a ha
              obtain ⟨kd, hkd, rfl⟩ := List.mem_map.mp ha
              rw [kdAt_of nd hkd]
              have := hcnt kd hkd
              exact ⟨cnt_at nd hkd, by omega, by omega⟩
            · intro a ha
              obtain ⟨kd, hkd, rfl⟩ := List.mem_map.mp ha
              rw [kdAt_of nd hkd]
              exact dep_at nd hkd
            · have := I2.st.lt; simp; omega
            · have := I2.st.lt; simp; omega
            · intro S7 x7 _ st7
              exact ⟨_, _, _, rfl, I2.strm ap ((Xt.app.appI).trans x7) st7, .inl rfl⟩
            · intro a b S7 x7 _ st7 ha hb hd hc hf
              obtain ⟨ka, hka, rfl⟩ := List.mem_map.mp ha
              obtain ⟨kb, hkb, rfl⟩ := List.mem_map.mp hb
              rw [kdAt_of nd hka, kdAt_of nd hkb] at hd hc
              exact ⟨_, _, _, rfl, I2.strm ap ((Xt.app.appI).trans x7) st7, .inr ⟨ka, kb, hka, hkb, hd, hc, fun k hk => hf _ (List.mem_map_of_mem hk), rfl⟩⟩
        · exact ⟨_, _, _, rfl, I2, .inl rfl⟩
    · rintro r ⟨w9, x10', S6, rfl, I6, hw9⟩
      have e0 : atI (nms.map tx) (k : Int) = some (tx nms[k]) := Ev.atI_nat (by rw [List.getElem?_map, hnk]; rfl)
      have hnk' : nms[ks.length]? = some nms[k] := by rw [hks]; exact hnk
      have lk : ks.length < 1000000 := by omega
      rcases hw9 with rfl | ⟨ka, kb, hka, hkb, hd, hc, hf, rfl⟩
      · try simp (maxSteps := 500000) (implicitDefEqProofs := false) (disch := omega) only [Ev.wpR_ok, Ev.wpR_no, Ev.wpR_bind, Ev.wpR_ite, Ev.wpS_nx, Ev.wpS_rt, Ev.Kn_nx, Ev.Kn_rt, Ev.Kn_bk, Ev.Kn_ct, Ev.wpS_seq, Ev.wpS_ret, Ev.wpS_expr, Ev.wpS_set, Ev.wpS_ite, Ev.wpS_if, Ev.wpS_nil, Ev.wpS_cnt, Ev.wpS_brk, Ev.wpS_retN, Ev.wpS_asg, Ev.wpS_put, Ev.wpR_run, Ev.onRet_nx, Ev.onRet_rt, Ev.onNx_nx, Ev.onNx_ct, Ev.onNx_bk, Ev.onNx_rt, Ev.var_0, Ev.var_S, Ev.wpR_lc, Ev.wpS_for, Ev.e1, Ev.e2, Ev.eL, Ev.eC, Ev.aNil, Ev.aCons, Ev.bTest, Ev.bAnd, Ev.bOr, Ev.bNot, Ev.bTru, Ev.vAnd, Ev.vOr, Ev.vNot, Ev.eIf, Ev.bYes, Ev.eM, Ev.eSl, Ev.oNone, Ev.oSome, Ev.dnewW, Ev.startE, Ev.wipeE, List.map_cons, List.map_nil, List.length_cons, List.length_nil, List.replicate, List.cons_append, List.nil_append, Nat.reduceAdd, Nat.reduceSub, List.set_cons_zero, List.set_cons_succ, if_true, if_false, Ev.ifF, true_and, and_true, Bool.false_eq_true, Bool.not_true, Bool.not_false, reduceIte, Nat.zero_add, Ev.addW_ii, Ev.addW_tt, Ev.subW_ii, Ev.mulW_ii, Ev.modW_ii, Ev.fdivW_ii, Ev.powW_ii, Ev.negW_i, Ev.cmpI_ii, Ev.isW_n, Ev.isnW_n, Ev.isNon_n, Ev.isNon_b, Ev.isNon_i, Ev.isNon_s, Ev.isNon_t, Ev.isNon_l, Ev.max2W_ii, Ev.min2W_ii, Ev.intW_i, Ev.intW_b, Ev.lenW_t, Ev.lenW_r, Ev.wpR_ixT, Ev.wpR_ixR, Ev.wpR_ixS, Ev.listW_t, Ev.tupleW_t, Ev.truW_b, Ev.truW_n, Ev.truW_i, Ev.truW_t, Ev.eqW_ii, Ev.neW_ii, Ev.eqW_ss, Ev.neW_ss, Ev.eqW_bb, Ev.ixN_0, Ev.ixN_1, Ev.ixN_2, Ev.ixN_3, Ev.getE_set_self, Ev.wpR_rng1, Ev.wpR_seq, Ev.wpR_zip, Ev.isi_bb, Ev.isi_bs, Ev.isi_bi, Ev.isi_bt, Ev.isi_bl, Ev.isi_ib, Ev.isi_is, Ev.isi_ii, Ev.isi_it, Ev.isi_il, Ev.isi_sb, Ev.isi_ss, Ev.isi_si, Ev.isi_st, Ev.isi_sl, Ev.isi_tb, Ev.isi_ts, Ev.isi_ti, Ev.isi_tt, Ev.isi_tl, Ev.isi_nb, Ev.isi_ns, Ev.isi_ni, Ev.isi_nt, Ev.isi_nl, Ev.atI_0, Ev.atI_1, Ev.atI_2, Ev.atI_3, Ev.atI_4, Ev.tyOk_s, Ev.slW_to, Ev.slW_from, Ev.addW_SS, Int.toNat_natCast, Ev.tupW, Ev.lstW, Option.some.injEq, exists_eq_left', List.set_set, Option.map_some, W.int.injEq, W.str.injEq, W.loc.injEq, Nat.reduceLeDiff, and_self, Int.reduceLT, Int.reduceLE, Int.reduceNeg, Int.reduceToNat, Int.reduceAdd, Int.reduceMul, Int.reduceSub, decide_eq_true_eq]
        refine ⟨cmul_l (by decide) (by decide), cmul_l (by decide) (by decide), ?_⟩
        refine take_ok (by omega) I6.st (by decide) fun z o h1 h2 st7 => ?_
        have I7 := I6.strm ap (Xt.set (by simp)) st7
        generalize S6.set i o = S7 at *
        obtain ⟨z, rfl⟩ : ∃ a : Nat, z = a := ⟨z.toNat, by omega⟩
        have ez : (4 : Int) * k + 1 + z = ((4 * k + 1 + z : Nat) : Int) := by omega
        have ek : (4 : Int) * k = ((4 * k : Nat) : Int) := by omega
        try simp (maxSteps := 500000) (implicitDefEqProofs := false) (disch := omega) only [Ev.wpR_ok, Ev.wpR_no, Ev.wpR_bind, Ev.wpR_ite, Ev.wpS_nx, Ev.wpS_rt, Ev.Kn_nx, Ev.Kn_rt, Ev.Kn_bk, Ev.Kn_ct, Ev.wpS_seq, Ev.wpS_ret, Ev.wpS_expr, Ev.wpS_set, Ev.wpS_ite, Ev.wpS_if, Ev.wpS_nil, Ev.wpS_cnt, Ev.wpS_brk, Ev.wpS_retN, Ev.wpS_asg, Ev.wpS_put, Ev.wpR_run, Ev.onRet_nx, Ev.onRet_rt, Ev.onNx_nx, Ev.onNx_ct, Ev.onNx_bk, Ev.onNx_rt, Ev.var_0, Ev.var_S, Ev.wpR_lc, Ev.wpS_for, Ev.e1, Ev.e2, Ev.eL, Ev.eC, Ev.aNil, Ev.aCons, Ev.bTest, Ev.bAnd, Ev.bOr, Ev.bNot, Ev.bTru, Ev.vAnd, Ev.vOr, Ev.vNot, Ev.eIf, Ev.bYes, Ev.eM, Ev.eSl, Ev.oNone, Ev.oSome, Ev.dnewW, Ev.startE, Ev.wipeE, List.map_cons, List.map_nil, List.length_cons, List.length_nil, List.replicate, List.cons_append, List.nil_append, Nat.reduceAdd, Nat.reduceSub, List.set_cons_zero, List.set_cons_succ, if_true, if_false, Ev.ifF, true_and, and_true, Bool.false_eq_true, Bool.not_true, Bool.not_false, reduceIte, Nat.zero_add, Ev.addW_ii, Ev.addW_tt, Ev.subW_ii, Ev.mulW_ii, Ev.modW_ii, Ev.fdivW_ii, Ev.powW_ii, Ev.negW_i, Ev.cmpI_ii, Ev.isW_n, Ev.isnW_n, Ev.isNon_n, Ev.isNon_b, Ev.isNon_i, Ev.isNon_s, Ev.isNon_t, Ev.isNon_l, Ev.max2W_ii, Ev.min2W_ii, Ev.intW_i, Ev.intW_b, Ev.lenW_t, Ev.lenW_r, Ev.wpR_ixT, Ev.wpR_ixR, Ev.wpR_ixS, Ev.listW_t, Ev.tupleW_t, Ev.truW_b, Ev.truW_n, Ev.truW_i, Ev.truW_t, Ev.eqW_ii, Ev.neW_ii, Ev.eqW_ss, Ev.neW_ss, Ev.eqW_bb, Ev.ixN_0, Ev.ixN_1, Ev.ixN_2, Ev.ixN_3, Ev.getE_set_self, Ev.wpR_rng1, Ev.wpR_seq, Ev.wpR_zip, Ev.isi_bb, Ev.isi_bs, Ev.isi_bi, Ev.isi_bt, Ev.isi_bl, Ev.isi_ib, Ev.isi_is, Ev.isi_ii, Ev.isi_it, Ev.isi_il, Ev.isi_sb, Ev.isi_ss, Ev.isi_si, Ev.isi_st, Ev.isi_sl, Ev.isi_tb, Ev.isi_ts, Ev.isi_ti, Ev.isi_tt, Ev.isi_tl, Ev.isi_nb, Ev.isi_ns, Ev.isi_ni, Ev.isi_nt, Ev.isi_nl, Ev.atI_0, Ev.atI_1, Ev.atI_2, Ev.atI_3, Ev.atI_4, Ev.tyOk_s, Ev.slW_to, Ev.slW_from, Ev.addW_SS, Int.toNat_natCast, Ev.tupW, Ev.lstW, Option.some.injEq, exists_eq_left', List.set_set, Option.map_some, W.int.injEq, W.str.injEq, W.loc.injEq, Nat.reduceLeDiff, and_self, Int.reduceLT, Int.reduceLE, Int.reduceNeg, Int.reduceToNat, Int.reduceAdd, Int.reduceMul, Int.reduceSub, decide_eq_true_eq]
        rw [ez, ek, slW_l I7.a2]
        have I8 := I7.strm ap (Xt.app (T := [O.lst (cutW (tgs.map tx) (some ((4 * k : Nat) : Int)) (some ((4 * k + 1 + z : Nat) : Int)))])) I7.st.app
        have e8 : (S7 ++ [O.lst (cutW (tgs.map tx) (some ((4 * k : Nat) : Int)) (some ((4 * k + 1 + z : Nat) : Int)))])[S7.length]? = some (.lst (((tgs.drop (4 * k)).take (z + 1)).map tx)) := by
          rw [at_new', cutW_mid, ← List.map_drop, ← List.map_take]
          congr 4; omega
        have lS7 : p3 + 2 < S7.length := lt_at I7.a5
        generalize S7 ++ [O.lst (cutW (tgs.map tx) (some ((4 * k : Nat) : Int)) (some ((4 * k + 1 + z : Nat) : Int)))] = S8 at *
        have tsd : ∃ ts, (tgs.drop (4 * k)).take (z + 1) = ts ∧ ts.length = z + 1 ∧ ts.Nodup ∧ (∀ t ∈ ts, t ∈ tgs) ∧ (∀ t ∈ ts, t ∉ tgs.take (4 * k)) ∧ ∀ t ∈ ts, t ∈ tgs.take (4 * (k + 1)) := by
          refine ⟨_, rfl, ?_, ?_, ?_, ?_, ?_⟩
          · rw [List.length_take, List.length_drop]; omega
          · exact ((List.take_sublist _ _).trans (List.drop_sublist _ _)).nodup nd2
          · exact fun t ht => List.mem_of_mem_drop (List.mem_of_mem_take ht)
          · intro t ht ht'
            have := List.nodup_append.mp (by rw [List.take_append_drop]; exact nd2 : (tgs.take (4 * k) ++ tgs.drop (4 * k)).Nodup)
            exact this.2.2 t ht' t (List.mem_of_mem_take ht) rfl
          · intro t ht
            obtain ⟨j, hj, e⟩ := List.mem_take_iff_getElem.mp ht
            rw [List.length_drop] at hj
            rw [List.getElem_drop] at e
            exact List.mem_take_iff_getElem.mpr ⟨4 * k + j, by omega, e⟩
        obtain ⟨ts, hts, lts, nts, mts, fts, its⟩ := tsd
        rw [hts] at e8
        clear hts
        rw [wpR_ok, tupleW_l e8]
        try simp (maxSteps := 500000) (implicitDefEqProofs := false) (disch := omega) only [Ev.wpR_ok, Ev.wpR_no, Ev.wpR_bind, Ev.wpR_ite, Ev.wpS_nx, Ev.wpS_rt, Ev.Kn_nx, Ev.Kn_rt, Ev.Kn_bk, Ev.Kn_ct, Ev.wpS_seq, Ev.wpS_ret, Ev.wpS_expr, Ev.wpS_set, Ev.wpS_ite, Ev.wpS_if, Ev.wpS_nil, Ev.wpS_cnt, Ev.wpS_brk, Ev.wpS_retN, Ev.wpS_asg, Ev.wpS_put, Ev.wpR_run, Ev.onRet_nx, Ev.onRet_rt, Ev.onNx_nx, Ev.onNx_ct, Ev.onNx_bk, Ev.onNx_rt, Ev.var_0, Ev.var_S, Ev.wpR_lc, Ev.wpS_for, Ev.e1, Ev.e2, Ev.eL, Ev.eC, Ev.aNil, Ev.aCons, Ev.bTest, Ev.bAnd, Ev.bOr, Ev.bNot, Ev.bTru, Ev.vAnd, Ev.vOr, Ev.vNot, Ev.eIf, Ev.bYes, Ev.eM, Ev.eSl, Ev.oNone, Ev.oSome, Ev.dnewW, Ev.startE, Ev.wipeE, List.map_cons, List.map_nil, List.length_cons, List.length_nil, List.replicate, List.cons_append, List.nil_append, Nat.reduceAdd, Nat.reduceSub, List.set_cons_zero, List.set_cons_succ, if_true, if_false, Ev.ifF, true_and, and_true, Bool.false_eq_true, Bool.not_true, Bool.not_false, reduceIte, Nat.zero_add, Ev.addW_ii, Ev.addW_tt, Ev.subW_ii, Ev.mulW_ii, Ev.modW_ii, Ev.fdivW_ii, Ev.powW_ii, Ev.negW_i, Ev.cmpI_ii, Ev.isW_n, Ev.isnW_n, Ev.isNon_n, Ev.isNon_b, Ev.isNon_i, Ev.isNon_s, Ev.isNon_t, Ev.isNon_l, Ev.max2W_ii, Ev.min2W_ii, Ev.intW_i, Ev.intW_b, Ev.lenW_t, Ev.lenW_r, Ev.wpR_ixT, Ev.wpR_ixR, Ev.wpR_ixS, Ev.listW_t, Ev.tupleW_t, Ev.truW_b, Ev.truW_n, Ev.truW_i, Ev.truW_t, Ev.eqW_ii, Ev.neW_ii, Ev.eqW_ss, Ev.neW_ss, Ev.eqW_bb, Ev.ixN_0, Ev.ixN_1, Ev.ixN_2, Ev.ixN_3, Ev.getE_set_self, Ev.wpR_rng1, Ev.wpR_seq, Ev.wpR_zip, Ev.isi_bb, Ev.isi_bs, Ev.isi_bi, Ev.isi_bt, Ev.isi_bl, Ev.isi_ib, Ev.isi_is, Ev.isi_ii, Ev.isi_it, Ev.isi_il, Ev.isi_sb, Ev.isi_ss, Ev.isi_si, Ev.isi_st, Ev.isi_sl, Ev.isi_tb, Ev.isi_ts, Ev.isi_ti, Ev.isi_tt, Ev.isi_tl, Ev.isi_nb, Ev.isi_ns, Ev.isi_ni, Ev.isi_nt, Ev.isi_nl, Ev.atI_0, Ev.atI_1, Ev.atI_2, Ev.atI_3, Ev.atI_4, Ev.tyOk_s, Ev.slW_to, Ev.slW_from, Ev.addW_SS, Int.toNat_natCast, Ev.tupW, Ev.lstW, Option.some.injEq, exists_eq_left', List.set_set, Option.map_some, W.int.injEq, W.str.injEq, W.loc.injEq, Nat.reduceLeDiff, and_self, Int.reduceLT, Int.reduceLE, Int.reduceNeg, Int.reduceToNat, Int.reduceAdd, Int.reduceMul, Int.reduceSub, decide_eq_true_eq, wpR_ixL I8.a1, e0, List.length_map]
        rw [setO_d I8.a3 key_str (by rw [List.length_map]; omega), put_cnt hnew]
        try simp (maxSteps := 500000) (implicitDefEqProofs := false) (disch := omega) only [Ev.wpR_ok, Ev.wpR_no, Ev.wpR_bind, Ev.wpR_ite, Ev.wpS_nx, Ev.wpS_rt, Ev.Kn_nx, Ev.Kn_rt, Ev.Kn_bk, Ev.Kn_ct, Ev.wpS_seq, Ev.wpS_ret, Ev.wpS_expr, Ev.wpS_set, Ev.wpS_ite, Ev.wpS_if, Ev.wpS_nil, Ev.wpS_cnt, Ev.wpS_brk, Ev.wpS_retN, Ev.wpS_asg, Ev.wpS_put, Ev.wpR_run, Ev.onRet_nx, Ev.onRet_rt, Ev.onNx_nx, Ev.onNx_ct, Ev.onNx_bk, Ev.onNx_rt, Ev.var_0, Ev.var_S, Ev.wpR_lc, Ev.wpS_for, Ev.e1, Ev.e2, Ev.eL, Ev.eC, Ev.aNil, Ev.aCons, Ev.bTest, Ev.bAnd, Ev.bOr, Ev.bNot, Ev.bTru, Ev.vAnd, Ev.vOr, Ev.vNot, Ev.eIf, Ev.bYes, Ev.eM, Ev.eSl, Ev.oNone, Ev.oSome, Ev.dnewW, Ev.startE, Ev.wipeE, List.map_cons, List.map_nil, List.length_cons, List.length_nil, List.replicate, List.cons_append, List.nil_append, Nat.reduceAdd, Nat.reduceSub, List.set_cons_zero, List.set_cons_succ, if_true, if_false, Ev.ifF, true_and, and_true, Bool.false_eq_true, Bool.not_true, Bool.not_false, reduceIte, Nat.zero_add, Ev.addW_ii, Ev.addW_tt, Ev.subW_ii, Ev.mulW_ii, Ev.modW_ii, Ev.fdivW_ii, Ev.powW_ii, Ev.negW_i, Ev.cmpI_ii, Ev.isW_n, Ev.isnW_n, Ev.isNon_n, Ev.isNon_b, Ev.isNon_i, Ev.isNon_s, Ev.isNon_t, Ev.isNon_l, Ev.max2W_ii, Ev.min2W_ii, Ev.intW_i, Ev.intW_b, Ev.lenW_t, Ev.lenW_r, Ev.wpR_ixT, Ev.wpR_ixR, Ev.wpR_ixS, Ev.listW_t, Ev.tupleW_t, Ev.truW_b, Ev.truW_n, Ev.truW_i, Ev.truW_t, Ev.eqW_ii, Ev.neW_ii, Ev.eqW_ss, Ev.neW_ss, Ev.eqW_bb, Ev.ixN_0, Ev.ixN_1, Ev.ixN_2, Ev.ixN_3, Ev.getE_set_self, Ev.wpR_rng1, Ev.wpR_seq, Ev.wpR_zip, Ev.isi_bb, Ev.isi_bs, Ev.isi_bi, Ev.isi_bt, Ev.isi_bl, Ev.isi_ib, Ev.isi_is, Ev.isi_ii, Ev.isi_it, Ev.isi_il, Ev.isi_sb, Ev.isi_ss, Ev.isi_si, Ev.isi_st, Ev.isi_sl, Ev.isi_tb, Ev.isi_ts, Ev.isi_ti, Ev.isi_tt, Ev.isi_tl, Ev.isi_nb, Ev.isi_ns, Ev.isi_ni, Ev.isi_nt, Ev.isi_nl, Ev.atI_0, Ev.atI_1, Ev.atI_2, Ev.atI_3, Ev.atI_4, Ev.tyOk_s, Ev.slW_to, Ev.slW_from, Ev.addW_SS, Int.toNat_natCast, Ev.tupW, Ev.lstW, Option.some.injEq, exists_eq_left', List.set_set, Option.map_some, W.int.injEq, W.str.injEq, W.loc.injEq, Nat.reduceLeDiff, and_self, Int.reduceLT, Int.reduceLE, Int.reduceNeg, Int.reduceToNat, Int.reduceAdd, Int.reduceMul, Int.reduceSub, decide_eq_true_eq]
        rw [wpR_ixL (at_ne I8.a1 ap.j13.symm)]
        refine ⟨_, e0, ?_⟩
        rw [setO_d (at_ne I8.a4 ap.j34) key_str (by rw [List.length_map]; omega), put_dep hnew]
        try simp (maxSteps := 500000) (implicitDefEqProofs := false) (disch := omega) only [Ev.wpR_ok, Ev.wpR_no, Ev.wpR_bind, Ev.wpR_ite, Ev.wpS_nx, Ev.wpS_rt, Ev.Kn_nx, Ev.Kn_rt, Ev.Kn_bk, Ev.Kn_ct, Ev.wpS_seq, Ev.wpS_ret, Ev.wpS_expr, Ev.wpS_set, Ev.wpS_ite, Ev.wpS_if, Ev.wpS_nil, Ev.wpS_cnt, Ev.wpS_brk, Ev.wpS_retN, Ev.wpS_asg, Ev.wpS_put, Ev.wpR_run, Ev.onRet_nx, Ev.onRet_rt, Ev.onNx_nx, Ev.onNx_ct, Ev.onNx_bk, Ev.onNx_rt, Ev.var_0, Ev.var_S, Ev.wpR_lc, Ev.wpS_for, Ev.e1, Ev.e2, Ev.eL, Ev.eC, Ev.aNil, Ev.aCons, Ev.bTest, Ev.bAnd, Ev.bOr, Ev.bNot, Ev.bTru, Ev.vAnd, Ev.vOr, Ev.vNot, Ev.eIf, Ev.bYes, Ev.eM, Ev.eSl, Ev.oNone, Ev.oSome, Ev.dnewW, Ev.startE, Ev.wipeE, List.map_cons, List.map_nil, List.length_cons, List.length_nil, List.replicate, List.cons_append, List.nil_append, Nat.reduceAdd, Nat.reduceSub, List.set_cons_zero, List.set_cons_succ, if_true, if_false, Ev.ifF, true_and, and_true, Bool.false_eq_true, Bool.not_true, Bool.not_false, reduceIte, Nat.zero_add, Ev.addW_ii, Ev.addW_tt, Ev.subW_ii, Ev.mulW_ii, Ev.modW_ii, Ev.fdivW_ii, Ev.powW_ii, Ev.negW_i, Ev.cmpI_ii, Ev.isW_n, Ev.isnW_n, Ev.isNon_n, Ev.isNon_b, Ev.isNon_i, Ev.isNon_s, Ev.isNon_t, Ev.isNon_l, Ev.max2W_ii, Ev.min2W_ii, Ev.intW_i, Ev.intW_b, Ev.lenW_t, Ev.lenW_r, Ev.wpR_ixT, Ev.wpR_ixR, Ev.wpR_ixS, Ev.listW_t, Ev.tupleW_t, Ev.truW_b, Ev.truW_n, Ev.truW_i, Ev.truW_t, Ev.eqW_ii, Ev.neW_ii, Ev.eqW_ss, Ev.neW_ss, Ev.eqW_bb, Ev.ixN_0, Ev.ixN_1, Ev.ixN_2, Ev.ixN_3, Ev.getE_set_self, Ev.wpR_rng1, Ev.wpR_seq, Ev.wpR_zip, Ev.isi_bb, Ev.isi_bs, Ev.isi_bi, Ev.isi_bt, Ev.isi_bl, Ev.isi_ib, Ev.isi_is, Ev.isi_ii, Ev.isi_it, Ev.isi_il, Ev.isi_sb, Ev.isi_ss, Ev.isi_si, Ev.isi_st, Ev.isi_sl, Ev.isi_tb, Ev.isi_ts, Ev.isi_ti, Ev.isi_tt, Ev.isi_tl, Ev.isi_nb, Ev.isi_ns, Ev.isi_ni, Ev.isi_nt, Ev.isi_nl, Ev.atI_0, Ev.atI_1, Ev.atI_2, Ev.atI_3, Ev.atI_4, Ev.tyOk_s, Ev.slW_to, Ev.slW_from, Ev.addW_SS, Int.toNat_natCast, Ev.tupW, Ev.lstW, Option.some.injEq, exists_eq_left', List.set_set, Option.map_some, W.int.injEq, W.str.injEq, W.loc.injEq, Nat.reduceLeDiff, and_self, Int.reduceLT, Int.reduceLE, Int.reduceNeg, Int.reduceToNat, Int.reduceAdd, Int.reduceMul, Int.reduceSub, decide_eq_true_eq]
        rw [wpR_ixL (at_ne (at_ne I8.a1 ap.j13.symm) ap.j14.symm)]
        refine ⟨tyOk_l (at_ne (at_ne I8.a5 ap.j35) ap.j45), _, e0, ?_⟩
        try simp (maxSteps := 500000) (implicitDefEqProofs := false) (disch := omega) only [Ev.wpR_ok, Ev.wpR_no, Ev.wpR_bind, Ev.wpR_ite, Ev.wpS_nx, Ev.wpS_rt, Ev.Kn_nx, Ev.Kn_rt, Ev.Kn_bk, Ev.Kn_ct, Ev.wpS_seq, Ev.wpS_ret, Ev.wpS_expr, Ev.wpS_set, Ev.wpS_ite, Ev.wpS_if, Ev.wpS_nil, Ev.wpS_cnt, Ev.wpS_brk, Ev.wpS_retN, Ev.wpS_asg, Ev.wpS_put, Ev.wpR_run, Ev.onRet_nx, Ev.onRet_rt, Ev.onNx_nx, Ev.onNx_ct, Ev.onNx_bk, Ev.onNx_rt, Ev.var_0, Ev.var_S, Ev.wpR_lc, Ev.wpS_for, Ev.e1, Ev.e2, Ev.eL, Ev.eC, Ev.aNil, Ev.aCons, Ev.bTest, Ev.bAnd, Ev.bOr, Ev.bNot, Ev.bTru, Ev.vAnd, Ev.vOr, Ev.vNot, Ev.eIf, Ev.bYes, Ev.eM, Ev.eSl, Ev.oNone, Ev.oSome, Ev.dnewW, Ev.startE, Ev.wipeE, List.map_cons, List.map_nil, List.length_cons, List.length_nil, List.replicate, List.cons_append, List.nil_append, Nat.reduceAdd, Nat.reduceSub, List.set_cons_zero, List.set_cons_succ, if_true, if_false, Ev.ifF, true_and, and_true, Bool.false_eq_true, Bool.not_true, Bool.not_false, reduceIte, Nat.zero_add, Ev.addW_ii, Ev.addW_tt, Ev.subW_ii, Ev.mulW_ii, Ev.modW_ii, Ev.fdivW_ii, Ev.powW_ii, Ev.negW_i, Ev.cmpI_ii, Ev.isW_n, Ev.isnW_n, Ev.isNon_n, Ev.isNon_b, Ev.isNon_i, Ev.isNon_s, Ev.isNon_t, Ev.isNon_l, Ev.max2W_ii, Ev.min2W_ii, Ev.intW_i, Ev.intW_b, Ev.lenW_t, Ev.lenW_r, Ev.wpR_ixT, Ev.wpR_ixR, Ev.wpR_ixS, Ev.listW_t, Ev.tupleW_t, Ev.truW_b, Ev.truW_n, Ev.truW_i, Ev.truW_t, Ev.eqW_ii, Ev.neW_ii, Ev.eqW_ss, Ev.neW_ss, Ev.eqW_bb, Ev.ixN_0, Ev.ixN_1, Ev.ixN_2, Ev.ixN_3, Ev.getE_set_self, Ev.wpR_rng1, Ev.wpR_seq, Ev.wpR_zip, Ev.isi_bb, Ev.isi_bs, Ev.isi_bi, Ev.isi_bt, Ev.isi_bl, Ev.isi_ib, Ev.isi_is, Ev.isi_ii, Ev.isi_it, Ev.isi_il, Ev.isi_sb, Ev.isi_ss, Ev.isi_si, Ev.isi_st, Ev.isi_sl, Ev.isi_tb, Ev.isi_ts, Ev.isi_ti, Ev.isi_tt, Ev.isi_tl, Ev.isi_nb, Ev.isi_ns, Ev.isi_ni, Ev.isi_nt, Ev.isi_nl, Ev.atI_0, Ev.atI_1, Ev.atI_2, Ev.atI_3, Ev.atI_4, Ev.tyOk_s, Ev.slW_to, Ev.slW_from, Ev.addW_SS, Int.toNat_natCast, Ev.tupW, Ev.lstW, Option.some.injEq, exists_eq_left', List.set_set, Option.map_some, W.int.injEq, W.str.injEq, W.loc.injEq, Nat.reduceLeDiff, and_self, Int.reduceLT, Int.reduceLE, Int.reduceNeg, Int.reduceToNat, Int.reduceAdd, Int.reduceMul, Int.reduceSub, decide_eq_true_eq, appendW_l (at_ne (at_ne I8.a5 ap.j35) ap.j45) (show (ks.map Kd.w).length < 1000000 by rw [List.length_map]; exact lk)]
        refine ⟨_, _, _, ks ++ [⟨nms[k], .tags ts, 1 + (ts.length : Int), 0⟩], rfl, by simp [hks], ?_⟩
        refine I8.push ap (k := ⟨nms[k], .tags ts, 1 + (ts.length : Int), 0⟩) hnk' (.tags I8.ok hwd hnew (by omega) (by omega) nts (fun t ht => wo2 t (mts t ht)) fun kd hkd t ht h' => fts t h' (by rw [← hks]; exact I8.tg kd hkd t ht)) ?_
        rw [hks]; exact its
      · have I8 := I6
        try simp (maxSteps := 500000) (implicitDefEqProofs := false) (disch := omega) only [Ev.wpR_ok, Ev.wpR_no, Ev.wpR_bind, Ev.wpR_ite, Ev.wpS_nx, Ev.wpS_rt, Ev.Kn_nx, Ev.Kn_rt, Ev.Kn_bk, Ev.Kn_ct, Ev.wpS_seq, Ev.wpS_ret, Ev.wpS_expr, Ev.wpS_set, Ev.wpS_ite, Ev.wpS_if, Ev.wpS_nil, Ev.wpS_cnt, Ev.wpS_brk, Ev.wpS_retN, Ev.wpS_asg, Ev.wpS_put, Ev.wpR_run, Ev.onRet_nx, Ev.onRet_rt, Ev.onNx_nx, Ev.onNx_ct, Ev.onNx_bk, Ev.onNx_rt, Ev.var_0, Ev.var_S, Ev.wpR_lc, Ev.wpS_for, Ev.e1, Ev.e2, Ev.eL, Ev.eC, Ev.aNil, Ev.aCons, Ev.bTest, Ev.bAnd, Ev.bOr, Ev.bNot, Ev.bTru, Ev.vAnd, Ev.vOr, Ev.vNot, Ev.eIf, Ev.bYes, Ev.eM, Ev.eSl, Ev.oNone, Ev.oSome, Ev.dnewW, Ev.startE, Ev.wipeE, List.map_cons, List.map_nil, List.length_cons, List.length_nil, List.replicate, List.cons_append, List.nil_append, Nat.reduceAdd, Nat.reduceSub, List.set_cons_zero, List.set_cons_succ, if_true, if_false, Ev.ifF, true_and, and_true, Bool.false_eq_true, Bool.not_true, Bool.not_false, reduceIte, Nat.zero_add, Ev.addW_ii, Ev.addW_tt, Ev.subW_ii, Ev.mulW_ii, Ev.modW_ii, Ev.fdivW_ii, Ev.powW_ii, Ev.negW_i, Ev.cmpI_ii, Ev.isW_n, Ev.isnW_n, Ev.isNon_n, Ev.isNon_b, Ev.isNon_i, Ev.isNon_s, Ev.isNon_t, Ev.isNon_l, Ev.max2W_ii, Ev.min2W_ii, Ev.intW_i, Ev.intW_b, Ev.lenW_t, Ev.lenW_r, Ev.wpR_ixT, Ev.wpR_ixR, Ev.wpR_ixS, Ev.listW_t, Ev.tupleW_t, Ev.truW_b, Ev.truW_n, Ev.truW_i, Ev.truW_t, Ev.eqW_ii, Ev.neW_ii, Ev.eqW_ss, Ev.neW_ss, Ev.eqW_bb, Ev.ixN_0, Ev.ixN_1, Ev.ixN_2, Ev.ixN_3, Ev.getE_set_self, Ev.wpR_rng1, Ev.wpR_seq, Ev.wpR_zip, Ev.isi_bb, Ev.isi_bs, Ev.isi_bi, Ev.isi_bt, Ev.isi_bl, Ev.isi_ib, Ev.isi_is, Ev.isi_ii, Ev.isi_it, Ev.isi_il, Ev.isi_sb, Ev.isi_ss, Ev.isi_si, Ev.isi_st, Ev.isi_sl, Ev.isi_tb, Ev.isi_ts, Ev.isi_ti, Ev.isi_tt, Ev.isi_tl, Ev.isi_nb, Ev.isi_ns, Ev.isi_ni, Ev.isi_nt, Ev.isi_nl, Ev.atI_0, Ev.atI_1, Ev.atI_2, Ev.atI_3, Ev.atI_4, Ev.tyOk_s, Ev.slW_to, Ev.slW_from, Ev.addW_SS, Int.toNat_natCast, Ev.tupW, Ev.lstW, Option.some.injEq, exists_eq_left', List.set_set, Option.map_some, W.int.injEq, W.str.injEq, W.loc.injEq, Nat.reduceLeDiff, and_self, Int.reduceLT, Int.reduceLE, Int.reduceNeg, Int.reduceToNat, Int.reduceAdd, Int.reduceMul, Int.reduceSub, decide_eq_true_eq, Sh.w, wpR_ixL I8.a1, e0, wpR_ixD I8.a3 key_str, cnt_at nd hka, cnt_at nd hkb]
        have ca := hcnt ka hka
        have cb := hcnt kb hkb
        refine ⟨cmul_l (by omega) (by omega), ?_⟩
        rw [setO_d I8.a3 key_str (by rw [List.length_map]; omega), put_cnt hnew]
        try simp (maxSteps := 500000) (implicitDefEqProofs := false) (disch := omega) only [Ev.wpR_ok, Ev.wpR_no, Ev.wpR_bind, Ev.wpR_ite, Ev.wpS_nx, Ev.wpS_rt, Ev.Kn_nx, Ev.Kn_rt, Ev.Kn_bk, Ev.Kn_ct, Ev.wpS_seq, Ev.wpS_ret, Ev.wpS_expr, Ev.wpS_set, Ev.wpS_ite, Ev.wpS_if, Ev.wpS_nil, Ev.wpS_cnt, Ev.wpS_brk, Ev.wpS_retN, Ev.wpS_asg, Ev.wpS_put, Ev.wpR_run, Ev.onRet_nx, Ev.onRet_rt, Ev.onNx_nx, Ev.onNx_ct, Ev.onNx_bk, Ev.onNx_rt, Ev.var_0, Ev.var_S, Ev.wpR_lc, Ev.wpS_for, Ev.e1, Ev.e2, Ev.eL, Ev.eC, Ev.aNil, Ev.aCons, Ev.bTest, Ev.bAnd, Ev.bOr, Ev.bNot, Ev.bTru, Ev.vAnd, Ev.vOr, Ev.vNot, Ev.eIf, Ev.bYes, Ev.eM, Ev.eSl, Ev.oNone, Ev.oSome, Ev.dnewW, Ev.startE, Ev.wipeE, List.map_cons, List.map_nil, List.length_cons, List.length_nil, List.replicate, List.cons_append, List.nil_append, Nat.reduceAdd, Nat.reduceSub, List.set_cons_zero, List.set_cons_succ, if_true, if_false, Ev.ifF, true_and, and_true, Bool.false_eq_true, Bool.not_true, Bool.not_false, reduceIte, Nat.zero_add, Ev.addW_ii, Ev.addW_tt, Ev.subW_ii, Ev.mulW_ii, Ev.modW_ii, Ev.fdivW_ii, Ev.powW_ii, Ev.negW_i, Ev.cmpI_ii, Ev.isW_n, Ev.isnW_n, Ev.isNon_n, Ev.isNon_b, Ev.isNon_i, Ev.isNon_s, Ev.isNon_t, Ev.isNon_l, Ev.max2W_ii, Ev.min2W_ii, Ev.intW_i, Ev.intW_b, Ev.lenW_t, Ev.lenW_r, Ev.wpR_ixT, Ev.wpR_ixR, Ev.wpR_ixS, Ev.listW_t, Ev.tupleW_t, Ev.truW_b, Ev.truW_n, Ev.truW_i, Ev.truW_t, Ev.eqW_ii, Ev.neW_ii, Ev.eqW_ss, Ev.neW_ss, Ev.eqW_bb, Ev.ixN_0, Ev.ixN_1, Ev.ixN_2, Ev.ixN_3, Ev.getE_set_self, Ev.wpR_rng1, Ev.wpR_seq, Ev.wpR_zip, Ev.isi_bb, Ev.isi_bs, Ev.isi_bi, Ev.isi_bt, Ev.isi_bl, Ev.isi_ib, Ev.isi_is, Ev.isi_ii, Ev.isi_it, Ev.isi_il, Ev.isi_sb, Ev.isi_ss, Ev.isi_si, Ev.isi_st, Ev.isi_sl, Ev.isi_tb, Ev.isi_ts, Ev.isi_ti, Ev.isi_tt, Ev.isi_tl, Ev.isi_nb, Ev.isi_ns, Ev.isi_ni, Ev.isi_nt, Ev.isi_nl, Ev.atI_0, Ev.atI_1, Ev.atI_2, Ev.atI_3, Ev.atI_4, Ev.tyOk_s, Ev.slW_to, Ev.slW_from, Ev.addW_SS, Int.toNat_natCast, Ev.tupW, Ev.lstW, Option.some.injEq, exists_eq_left', List.set_set, Option.map_some, W.int.injEq, W.str.injEq, W.loc.injEq, Nat.reduceLeDiff, and_self, Int.reduceLT, Int.reduceLE, Int.reduceNeg, Int.reduceToNat, Int.reduceAdd, Int.reduceMul, Int.reduceSub, decide_eq_true_eq]
        try simp (maxSteps := 500000) (implicitDefEqProofs := false) (disch := omega) only [Ev.wpR_ok, Ev.wpR_no, Ev.wpR_bind, Ev.wpR_ite, Ev.wpS_nx, Ev.wpS_rt, Ev.Kn_nx, Ev.Kn_rt, Ev.Kn_bk, Ev.Kn_ct, Ev.wpS_seq, Ev.wpS_ret, Ev.wpS_expr, Ev.wpS_set, Ev.wpS_ite, Ev.wpS_if, Ev.wpS_nil, Ev.wpS_cnt, Ev.wpS_brk, Ev.wpS_retN, Ev.wpS_asg, Ev.wpS_put, Ev.wpR_run, Ev.onRet_nx, Ev.onRet_rt, Ev.onNx_nx, Ev.onNx_ct, Ev.onNx_bk, Ev.onNx_rt, Ev.var_0, Ev.var_S, Ev.wpR_lc, Ev.wpS_for, Ev.e1, Ev.e2, Ev.eL, Ev.eC, Ev.aNil, Ev.aCons, Ev.bTest, Ev.bAnd, Ev.bOr, Ev.bNot, Ev.bTru, Ev.vAnd, Ev.vOr, Ev.vNot, Ev.eIf, Ev.bYes, Ev.eM, Ev.eSl, Ev.oNone, Ev.oSome, Ev.dnewW, Ev.startE, Ev.wipeE, List.map_cons, List.map_nil, List.length_cons, List.length_nil, List.replicate, List.cons_append, List.nil_append, Nat.reduceAdd, Nat.reduceSub, List.set_cons_zero, List.set_cons_succ, if_true, if_false, Ev.ifF, true_and, and_true, Bool.false_eq_true, Bool.not_true, Bool.not_false, reduceIte, Nat.zero_add, Ev.addW_ii, Ev.addW_tt, Ev.subW_ii, Ev.mulW_ii, Ev.modW_ii, Ev.fdivW_ii, Ev.powW_ii, Ev.negW_i, Ev.cmpI_ii, Ev.isW_n, Ev.isnW_n, Ev.isNon_n, Ev.isNon_b, Ev.isNon_i, Ev.isNon_s, Ev.isNon_t, Ev.isNon_l, Ev.max2W_ii, Ev.min2W_ii, Ev.intW_i, Ev.intW_b, Ev.lenW_t, Ev.lenW_r, Ev.wpR_ixT, Ev.wpR_ixR, Ev.wpR_ixS, Ev.listW_t, Ev.tupleW_t, Ev.truW_b, Ev.truW_n, Ev.truW_i, Ev.truW_t, Ev.eqW_ii, Ev.neW_ii, Ev.eqW_ss, Ev.neW_ss, Ev.eqW_bb, Ev.ixN_0, Ev.ixN_1, Ev.ixN_2, Ev.ixN_3, Ev.getE_set_self, Ev.wpR_rng1, Ev.wpR_seq, Ev.wpR_zip, Ev.isi_bb, Ev.isi_bs, Ev.isi_bi, Ev.isi_bt, Ev.isi_bl, Ev.isi_ib, Ev.isi_is, Ev.isi_ii, Ev.isi_it, Ev.isi_il, Ev.isi_sb, Ev.isi_ss, Ev.isi_si, Ev.isi_st, Ev.isi_sl, Ev.isi_tb, Ev.isi_ts, Ev.isi_ti, Ev.isi_tt, Ev.isi_tl, Ev.isi_nb, Ev.isi_ns, Ev.isi_ni, Ev.isi_nt, Ev.isi_nl, Ev.atI_0, Ev.atI_1, Ev.atI_2, Ev.atI_3, Ev.atI_4, Ev.tyOk_s, Ev.slW_to, Ev.slW_from, Ev.addW_SS, Int.toNat_natCast, Ev.tupW, Ev.lstW, Option.some.injEq, exists_eq_left', List.set_set, Option.map_some, W.int.injEq, W.str.injEq, W.loc.injEq, Nat.reduceLeDiff, and_self, Int.reduceLT, Int.reduceLE, Int.reduceNeg, Int.reduceToNat, Int.reduceAdd, Int.reduceMul, Int.reduceSub, decide_eq_true_eq, wpR_ixD (at_ne I8.a4 ap.j34) key_str, dep_at nd hka, dep_at nd hkb]
        rw [wpR_ixL (at_ne I8.a1 ap.j13.symm)]
        refine ⟨_, e0, ?_⟩
        rw [setO_d (at_ne I8.a4 ap.j34) key_str (by rw [List.length_map]; omega), put_dep hnew]
        try simp (maxSteps := 500000) (implicitDefEqProofs := false) (disch := omega) only [Ev.wpR_ok, Ev.wpR_no, Ev.wpR_bind, Ev.wpR_ite, Ev.wpS_nx, Ev.wpS_rt, Ev.Kn_nx, Ev.Kn_rt, Ev.Kn_bk, Ev.Kn_ct, Ev.wpS_seq, Ev.wpS_ret, Ev.wpS_expr, Ev.wpS_set, Ev.wpS_ite, Ev.wpS_if, Ev.wpS_nil, Ev.wpS_cnt, Ev.wpS_brk, Ev.wpS_retN, Ev.wpS_asg, Ev.wpS_put, Ev.wpR_run, Ev.onRet_nx, Ev.onRet_rt, Ev.onNx_nx, Ev.onNx_ct, Ev.onNx_bk, Ev.onNx_rt, Ev.var_0, Ev.var_S, Ev.wpR_lc, Ev.wpS_for, Ev.e1, Ev.e2, Ev.eL, Ev.eC, Ev.aNil, Ev.aCons, Ev.bTest, Ev.bAnd, Ev.bOr, Ev.bNot, Ev.bTru, Ev.vAnd, Ev.vOr, Ev.vNot, Ev.eIf, Ev.bYes, Ev.eM, Ev.eSl, Ev.oNone, Ev.oSome, Ev.dnewW, Ev.startE, Ev.wipeE, List.map_cons, List.map_nil, List.length_cons, List.length_nil, List.replicate, List.cons_append, List.nil_append, Nat.reduceAdd, Nat.reduceSub, List.set_cons_zero, List.set_cons_succ, if_true, if_false, Ev.ifF, true_and, and_true, Bool.false_eq_true, Bool.not_true, Bool.not_false, reduceIte, Nat.zero_add, Ev.addW_ii, Ev.addW_tt, Ev.subW_ii, Ev.mulW_ii, Ev.modW_ii, Ev.fdivW_ii, Ev.powW_ii, Ev.negW_i, Ev.cmpI_ii, Ev.isW_n, Ev.isnW_n, Ev.isNon_n, Ev.isNon_b, Ev.isNon_i, Ev.isNon_s, Ev.isNon_t, Ev.isNon_l, Ev.max2W_ii, Ev.min2W_ii, Ev.intW_i, Ev.intW_b, Ev.lenW_t, Ev.lenW_r, Ev.wpR_ixT, Ev.wpR_ixR, Ev.wpR_ixS, Ev.listW_t, Ev.tupleW_t, Ev.truW_b, Ev.truW_n, Ev.truW_i, Ev.truW_t, Ev.eqW_ii, Ev.neW_ii, Ev.eqW_ss, Ev.neW_ss, Ev.eqW_bb, Ev.ixN_0, Ev.ixN_1, Ev.ixN_2, Ev.ixN_3, Ev.getE_set_self, Ev.wpR_rng1, Ev.wpR_seq, Ev.wpR_zip, Ev.isi_bb, Ev.isi_bs, Ev.isi_bi, Ev.isi_bt, Ev.isi_bl, Ev.isi_ib, Ev.isi_is, Ev.isi_ii, Ev.isi_it, Ev.isi_il, Ev.isi_sb, Ev.isi_ss, Ev.isi_si, Ev.isi_st, Ev.isi_sl, Ev.isi_tb, Ev.isi_ts, Ev.isi_ti, Ev.isi_tt, Ev.isi_tl, Ev.isi_nb, Ev.isi_ns, Ev.isi_ni, Ev.isi_nt, Ev.isi_nl, Ev.atI_0, Ev.atI_1, Ev.atI_2, Ev.atI_3, Ev.atI_4, Ev.tyOk_s, Ev.slW_to, Ev.slW_from, Ev.addW_SS, Int.toNat_natCast, Ev.tupW, Ev.lstW, Option.some.injEq, exists_eq_left', List.set_set, Option.map_some, W.int.injEq, W.str.injEq, W.loc.injEq, Nat.reduceLeDiff, and_self, Int.reduceLT, Int.reduceLE, Int.reduceNeg, Int.reduceToNat, Int.reduceAdd, Int.reduceMul, Int.reduceSub, decide_eq_true_eq]
        rw [wpR_ixL (at_ne (at_ne I8.a1 ap.j13.symm) ap.j14.symm)]
        refine ⟨tyOk_l (at_ne (at_ne I8.a5 ap.j35) ap.j45), _, e0, ?_⟩
        try simp (maxSteps := 500000) (implicitDefEqProofs := false) (disch := omega) only [Ev.wpR_ok, Ev.wpR_no, Ev.wpR_bind, Ev.wpR_ite, Ev.wpS_nx, Ev.wpS_rt, Ev.Kn_nx, Ev.Kn_rt, Ev.Kn_bk, Ev.Kn_ct, Ev.wpS_seq, Ev.wpS_ret, Ev.wpS_expr, Ev.wpS_set, Ev.wpS_ite, Ev.wpS_if, Ev.wpS_nil, Ev.wpS_cnt, Ev.wpS_brk, Ev.wpS_retN, Ev.wpS_asg, Ev.wpS_put, Ev.wpR_run, Ev.onRet_nx, Ev.onRet_rt, Ev.onNx_nx, Ev.onNx_ct, Ev.onNx_bk, Ev.onNx_rt, Ev.var_0, Ev.var_S, Ev.wpR_lc, Ev.wpS_for, Ev.e1, Ev.e2, Ev.eL, Ev.eC, Ev.aNil, Ev.aCons, Ev.bTest, Ev.bAnd, Ev.bOr, Ev.bNot, Ev.bTru, Ev.vAnd, Ev.vOr, Ev.vNot, Ev.eIf, Ev.bYes, Ev.eM, Ev.eSl, Ev.oNone, Ev.oSome, Ev.dnewW, Ev.startE, Ev.wipeE, List.map_cons, List.map_nil, List.length_cons, List.length_nil, List.replicate, List.cons_append, List.nil_append, Nat.reduceAdd, Nat.reduceSub, List.set_cons_zero, List.set_cons_succ, if_true, if_false, Ev.ifF, true_and, and_true, Bool.false_eq_true, Bool.not_true, Bool.not_false, reduceIte, Nat.zero_add, Ev.addW_ii, Ev.addW_tt, Ev.subW_ii, Ev.mulW_ii, Ev.modW_ii, Ev.fdivW_ii, Ev.powW_ii, Ev.negW_i, Ev.cmpI_ii, Ev.isW_n, Ev.isnW_n, Ev.isNon_n, Ev.isNon_b, Ev.isNon_i, Ev.isNon_s, Ev.isNon_t, Ev.isNon_l, Ev.max2W_ii, Ev.min2W_ii, Ev.intW_i, Ev.intW_b, Ev.lenW_t, Ev.lenW_r, Ev.wpR_ixT, Ev.wpR_ixR, Ev.wpR_ixS, Ev.listW_t, Ev.tupleW_t, Ev.truW_b, Ev.truW_n, Ev.truW_i, Ev.truW_t, Ev.eqW_ii, Ev.neW_ii, Ev.eqW_ss, Ev.neW_ss, Ev.eqW_bb, Ev.ixN_0, Ev.ixN_1, Ev.ixN_2, Ev.ixN_3, Ev.getE_set_self, Ev.wpR_rng1, Ev.wpR_seq, Ev.wpR_zip, Ev.isi_bb, Ev.isi_bs, Ev.isi_bi, Ev.isi_bt, Ev.isi_bl, Ev.isi_ib, Ev.isi_is, Ev.isi_ii, Ev.isi_it, Ev.isi_il, Ev.isi_sb, Ev.isi_ss, Ev.isi_si, Ev.isi_st, Ev.isi_sl, Ev.isi_tb, Ev.isi_ts, Ev.isi_ti, Ev.isi_tt, Ev.isi_tl, Ev.isi_nb, Ev.isi_ns, Ev.isi_ni, Ev.isi_nt, Ev.isi_nl, Ev.atI_0, Ev.atI_1, Ev.atI_2, Ev.atI_3, Ev.atI_4, Ev.tyOk_s, Ev.slW_to, Ev.slW_from, Ev.addW_SS, Int.toNat_natCast, Ev.tupW, Ev.lstW, Option.some.injEq, exists_eq_left', List.set_set, Option.map_some, W.int.injEq, W.str.injEq, W.loc.injEq, Nat.reduceLeDiff, and_self, Int.reduceLT, Int.reduceLE, Int.reduceNeg, Int.reduceToNat, Int.reduceAdd, Int.reduceMul, Int.reduceSub, decide_eq_true_eq, appendW_l (at_ne (at_ne I8.a5 ap.j35) ap.j45) (show (ks.map Kd.w).length < 1000000 by rw [List.length_map]; exact lk)]
        refine ⟨_, _, _, ks ++ [⟨nms[k], .pair ka.nm kb.nm, 1 + ka.cnt * kb.cnt, 1 + (if kb.dep > ka.dep then kb.dep else ka.dep)⟩], rfl, by simp [hks], ?_⟩
        exact I8.push ap (k := ⟨nms[k], .pair ka.nm kb.nm, 1 + ka.cnt * kb.cnt, 1 + (if kb.dep > ka.dep then kb.dep else ka.dep)⟩) hnk' (.pair I8.ok hwd hnew hka hkb hd hc hf) fun t ht => by cases ht
  · rintro s S5 ⟨x8, x9, x10, ks, rfl, hks, I⟩
    refine ⟨rng_end, ?_⟩
    try simp (maxSteps := 500000) (implicitDefEqProofs := false) (disch := omega) only [Ev.wpR_ok, Ev.wpR_no, Ev.wpR_bind, Ev.wpR_ite, Ev.wpS_nx, Ev.wpS_rt, Ev.Kn_nx, Ev.Kn_rt, Ev.Kn_bk, Ev.Kn_ct, Ev.wpS_seq, Ev.wpS_ret, Ev.wpS_expr, Ev.wpS_set, Ev.wpS_ite, Ev.wpS_if, Ev.wpS_nil, Ev.wpS_cnt, Ev.wpS_brk, Ev.wpS_retN, Ev.wpS_asg, Ev.wpS_put, Ev.wpR_run, Ev.onRet_nx, Ev.onRet_rt, Ev.onNx_nx, Ev.onNx_ct, Ev.onNx_bk, Ev.onNx_rt, Ev.var_0, Ev.var_S, Ev.wpR_lc, Ev.wpS_for, Ev.e1, Ev.e2, Ev.eL, Ev.eC, Ev.aNil, Ev.aCons, Ev.bTest, Ev.bAnd, Ev.bOr, Ev.bNot, Ev.bTru, Ev.vAnd, Ev.vOr, Ev.vNot, Ev.eIf, Ev.bYes, Ev.eM, Ev.eSl, Ev.oNone, Ev.oSome, Ev.dnewW, Ev.startE, Ev.wipeE, List.map_cons, List.map_nil, List.length_cons, List.length_nil, List.replicate, List.cons_append, List.nil_append, Nat.reduceAdd, Nat.reduceSub, List.set_cons_zero, List.set_cons_succ, if_true, if_false, Ev.ifF, true_and, and_true, Bool.false_eq_true, Bool.not_true, Bool.not_false, reduceIte, Nat.zero_add, Ev.addW_ii, Ev.addW_tt, Ev.subW_ii, Ev.mulW_ii, Ev.modW_ii, Ev.fdivW_ii, Ev.powW_ii, Ev.negW_i, Ev.cmpI_ii, Ev.isW_n, Ev.isnW_n, Ev.isNon_n, Ev.isNon_b, Ev.isNon_i, Ev.isNon_s, Ev.isNon_t, Ev.isNon_l, Ev.max2W_ii, Ev.min2W_ii, Ev.intW_i, Ev.intW_b, Ev.lenW_t, Ev.lenW_r, Ev.wpR_ixT, Ev.wpR_ixR, Ev.wpR_ixS, Ev.listW_t, Ev.tupleW_t, Ev.truW_b, Ev.truW_n, Ev.truW_i, Ev.truW_t, Ev.eqW_ii, Ev.neW_ii, Ev.eqW_ss, Ev.neW_ss, Ev.eqW_bb, Ev.ixN_0, Ev.ixN_1, Ev.ixN_2, Ev.ixN_3, Ev.getE_set_self, Ev.wpR_rng1, Ev.wpR_seq, Ev.wpR_zip, Ev.isi_bb, Ev.isi_bs, Ev.isi_bi, Ev.isi_bt, Ev.isi_bl, Ev.isi_ib, Ev.isi_is, Ev.isi_ii, Ev.isi_it, Ev.isi_il, Ev.isi_sb, Ev.isi_ss, Ev.isi_si, Ev.isi_st, Ev.isi_sl, Ev.isi_tb, Ev.isi_ts, Ev.isi_ti, Ev.isi_tt, Ev.isi_tl, Ev.isi_nb, Ev.isi_ns, Ev.isi_ni, Ev.isi_nt, Ev.isi_nl, Ev.atI_0, Ev.atI_1, Ev.atI_2, Ev.atI_3, Ev.atI_4, Ev.tyOk_s, Ev.slW_to, Ev.slW_from, Ev.addW_SS, Int.toNat_natCast, Ev.tupW, Ev.lstW, Option.some.injEq, exists_eq_left', List.set_set, Option.map_some, W.int.injEq, W.str.injEq, W.loc.injEq, Nat.reduceLeDiff, and_self, Int.reduceLT, Int.reduceLE, Int.reduceNeg, Int.reduceToNat, Int.reduceAdd, Int.reduceMul, Int.reduceSub, decide_eq_true_eq]
    have := x2'.len
    refine h ks S5 _ _ I.x I.st (by omega) (by omega) ?_ (by omega) I.ok I.a5 I.a3
    rintro rfl
    simp at hks; omega
end Lw

set_option linter.all false
set_option maxRecDepth 100000
namespace Lw
open PySem L2 Ev
variable {EE : Exc}
/-! ### worths -/
inductive Wo where
  | no | tag (t : List Nat) | pr (a b : Wo)
deriving DecidableEq
def Wo.w : Wo → W
  | .no => .non
  | .tag t => tx t
  | .pr a b => .tup [a.w, b.w]
def woL (ks : List Kd) : Nat → List Nat → List Wo
  | 0, _ => []
  | n + 1, nm => match (kdAt ks nm).sh with
    | .tags ts => .no :: ts.map .tag
    | .pair a b => .no :: (woL ks n a).flatMap fun x => (woL ks n b).map (.pr x)
/-- what a kind rests on -/
theorem KOk.sub {L1 L2 : List Nat} {top : Int} {ks : List Kd} (h : KOk L1 L2 top ks) : ∀ k ∈ ks, 0 ≤ k.dep ∧ k.dep ≤ 2 ∧ match k.sh with
    | .tags ts => k.cnt = 1 + (ts.length : Int) ∧ 1 ≤ ts.length ∧ ts.length ≤ 4
    | .pair a b => ∃ x ∈ ks, ∃ y ∈ ks, x.nm = a ∧ y.nm = b ∧ 0 ≤ x.dep ∧ x.dep < k.dep ∧ 0 ≤ y.dep ∧ y.dep < k.dep ∧ k.cnt = 1 + x.cnt * y.cnt := by
  induction h with
  | nil => intro k hk; cases hk
  | @tags ks nm ts h hw hn h1 h4 hd ht hf ih =>
    intro k hk
    rcases List.mem_append.mp hk with hk | hk
    · obtain ⟨a1, a2, a3⟩ := ih k hk
      refine ⟨a1, a2, ?_⟩
      cases e : k.sh with
      | tags ts => rw [e] at a3; exact a3
      | pair a b =>
        rw [e] at a3
        obtain ⟨x, hx, y, hy, r⟩ := a3
        exact ⟨x, List.mem_append_left _ hx, y, List.mem_append_left _ hy, r⟩
    · obtain rfl := List.mem_singleton.mp hk
      exact ⟨Int.le_refl _, (by decide : (0 : Int) ≤ 2), rfl, h1, h4⟩
  | @pair ks nm a b h hw hn ha hb h2 ht hf ih =>
    intro k hk
    rcases List.mem_append.mp hk with hk | hk
    · obtain ⟨a1, a2, a3⟩ := ih k hk
      refine ⟨a1, a2, ?_⟩
      cases e : k.sh with
      | tags ts => rw [e] at a3; exact a3
      | pair a b =>
        rw [e] at a3
        obtain ⟨x, hx, y, hy, r⟩ := a3
        exact ⟨x, List.mem_append_left _ hx, y, List.mem_append_left _ hy, r⟩
    · obtain rfl := List.mem_singleton.mp hk
      have d1 := (ih a ha).1
      have d2 := (ih b hb).1
      refine ⟨?_, h2, a, List.mem_append_left _ ha, b, List.mem_append_left _ hb, rfl, rfl, d1, ?_, d2, ?_, rfl⟩
      · show (0 : Int) ≤ 1 + (if b.dep > a.dep then b.dep else a.dep)
        split <;> omega
      · show a.dep < 1 + (if b.dep > a.dep then b.dep else a.dep)
        split <;> omega
      · show b.dep < 1 + (if b.dep > a.dep then b.dep else a.dep)
        split <;> omega
theorem flatMap_len {A B C : Type} {f : A → B → C} {l : List A} {m : List B} : (l.flatMap fun x => m.map (f x)).length = l.length * m.length := by
  induction l with
  | nil => simp
  | cons a l ih => rw [List.flatMap_cons, List.length_append, ih, List.length_map, List.length_cons, Nat.add_mul, Nat.one_mul, Nat.add_comm]
theorem woL_len {L1 L2 : List Nat} {top : Int} {ks : List Kd} (h : KOk L1 L2 top ks) : ∀ (n : Nat) (k : Kd), k ∈ ks → k.dep < n → ((woL ks n k.nm).length : Int) = k.cnt
  | 0, k, hk, hd => by have := (h.sub k hk).1; omega
  | n + 1, k, hk, hd => by
    have s := (h.sub k hk).2.2
    unfold woL
    rw [kdAt_of h.nd hk]
    cases e : k.sh with
    | tags ts =>
      rw [e] at s
      dsimp only
      rw [List.length_cons, List.length_map, s.1]; omega
    | pair a b =>
      rw [e] at s
      obtain ⟨x, hx, y, hy, rfl, rfl, _, h1, _, h2, hc⟩ := s
      dsimp only
      rw [List.length_cons, flatMap_len]
      have e1 := woL_len h n x hx (by omega)
      have e2 := woL_len h n y hy (by omega)
      rw [hc, ← e1, ← e2]
      push_cast; omega
abbrev shD (ks : List Kd) : List (W × W) := ks.map fun k => (.str (SX.S k.nm), k.sh.w)
theorem sh_at {ks : List Kd} {k : Kd} (hn : (ks.map Kd.nm).Nodup) (h : k ∈ ks) : dlook (shD ks) (.inr (SX.S k.nm)) = some k.sh.w := dlook_some (f := fun k : Kd => SX.S k.nm) (g := fun k => k.sh.w) h (nmS_nd hn)
theorem woL_w (ks : List Kd) (ts : List (List Nat)) : (Wo.no :: ts.map Wo.tag).map Wo.w = .non :: ts.map tx := by
  rw [List.map_cons, List.map_map]; rfl
end Lw

set_option linter.all false
set_option maxRecDepth 100000
namespace Lw
open PySem L2 Ev
set_option maxHeartbeats 2000000 in
theorem same_ok0 : ∀ (n : Nat) {x y : W} {d : PyData} {S : Sto} {Q : W → Sto → Prop}, Dat S n d x → Dat S n d y → (∀ S', Xt [] S S' → Q (.bl true) S') → wpR (call n .f_law_same [x, y] S) Q
  | 0, _, _, _, _, _, h, _, _ => h.elim
  | n + 1, x, y, d, S, Q, hx, hy, hq => by
    rw [call_s, body]
    cases d with
    | none =>
      obtain rfl : x = .non := hx
      obtain rfl : y = .non := hy
      try simp (maxSteps := 500000) (implicitDefEqProofs := false) (disch := omega) only [↓pa0, ↓pa1, ↓pa2, ↓pa3, ↓pa4, ↓pa5, ↓pa6, pb0, pb1, pb2, pb3, pb4, pb5, pb6, List.map_cons, List.map_nil, List.length_cons, List.length_nil, List.replicate, List.cons_append, List.nil_append, Nat.reduceAdd, Nat.reduceSub, List.set_cons_zero, List.set_cons_succ, if_true, if_false, true_and, and_true, Bool.false_eq_true, Bool.not_true, Bool.not_false, ↓reduceIte, ifF, Nat.zero_add, startE, wipeE, Option.bind_some, Int.toNat_natCast, Option.some.injEq, List.set_set, Option.map_some, W.int.injEq, W.str.injEq, W.loc.injEq, Nat.reduceLeDiff, and_self, Int.reduceLT, Int.reduceLE, Int.reduceNeg, Int.reduceToNat, Int.reduceAdd, Int.reduceMul, Int.reduceSub, decide_eq_true_eq, m_f_law_same]
      exact hq _ .refl
    | bool b =>
      obtain rfl : x = .bl b := hx
      obtain rfl : y = .bl b := hy
      try simp (maxSteps := 500000) (implicitDefEqProofs := false) (disch := omega) only [↓pa0, ↓pa1, ↓pa2, ↓pa3, ↓pa4, ↓pa5, ↓pa6, pb0, pb1, pb2, pb3, pb4, pb5, pb6, List.map_cons, List.map_nil, List.length_cons, List.length_nil, List.replicate, List.cons_append, List.nil_append, Nat.reduceAdd, Nat.reduceSub, List.set_cons_zero, List.set_cons_succ, if_true, if_false, true_and, and_true, Bool.false_eq_true, Bool.not_true, Bool.not_false, ↓reduceIte, ifF, Nat.zero_add, startE, wipeE, Option.bind_some, Int.toNat_natCast, Option.some.injEq, List.set_set, Option.map_some, W.int.injEq, W.str.injEq, W.loc.injEq, Nat.reduceLeDiff, and_self, Int.reduceLT, Int.reduceLE, Int.reduceNeg, Int.reduceToNat, Int.reduceAdd, Int.reduceMul, Int.reduceSub, decide_eq_true_eq, m_f_law_same, beq_self_eq_true]
      exact hq _ .refl
    | int b =>
      obtain rfl : x = .int b := hx
      obtain rfl : y = .int b := hy
      try simp (maxSteps := 500000) (implicitDefEqProofs := false) (disch := omega) only [↓pa0, ↓pa1, ↓pa2, ↓pa3, ↓pa4, ↓pa5, ↓pa6, pb0, pb1, pb2, pb3, pb4, pb5, pb6, List.map_cons, List.map_nil, List.length_cons, List.length_nil, List.replicate, List.cons_append, List.nil_append, Nat.reduceAdd, Nat.reduceSub, List.set_cons_zero, List.set_cons_succ, if_true, if_false, true_and, and_true, Bool.false_eq_true, Bool.not_true, Bool.not_false, ↓reduceIte, ifF, Nat.zero_add, startE, wipeE, Option.bind_some, Int.toNat_natCast, Option.some.injEq, List.set_set, Option.map_some, W.int.injEq, W.str.injEq, W.loc.injEq, Nat.reduceLeDiff, and_self, Int.reduceLT, Int.reduceLE, Int.reduceNeg, Int.reduceToNat, Int.reduceAdd, Int.reduceMul, Int.reduceSub, decide_eq_true_eq, m_f_law_same, beq_self_eq_true]
      exact hq _ .refl
    | str b =>
      obtain rfl : x = .str b := hx
      obtain rfl : y = .str b := hy
      try simp (maxSteps := 500000) (implicitDefEqProofs := false) (disch := omega) only [↓pa0, ↓pa1, ↓pa2, ↓pa3, ↓pa4, ↓pa5, ↓pa6, pb0, pb1, pb2, pb3, pb4, pb5, pb6, List.map_cons, List.map_nil, List.length_cons, List.length_nil, List.replicate, List.cons_append, List.nil_append, Nat.reduceAdd, Nat.reduceSub, List.set_cons_zero, List.set_cons_succ, if_true, if_false, true_and, and_true, Bool.false_eq_true, Bool.not_true, Bool.not_false, ↓reduceIte, ifF, Nat.zero_add, startE, wipeE, Option.bind_some, Int.toNat_natCast, Option.some.injEq, List.set_set, Option.map_some, W.int.injEq, W.str.injEq, W.loc.injEq, Nat.reduceLeDiff, and_self, Int.reduceLT, Int.reduceLE, Int.reduceNeg, Int.reduceToNat, Int.reduceAdd, Int.reduceMul, Int.reduceSub, decide_eq_true_eq, m_f_law_same, beq_self_eq_true]
      exact hq _ .refl
    | tuple ds =>
      obtain ⟨ws, rfl, lw, lb, hw⟩ := (show ∃ ws, _ from hx)
      obtain ⟨us, rfl, lu, _, hu⟩ := (show ∃ ws, _ from hy)
      simp (maxSteps := 500000) (implicitDefEqProofs := false) (disch := omega) only [↓pa0, ↓pa1, ↓pa2, ↓pa3, ↓pa4, ↓pa5, ↓pa6, pb0, pb1, pb2, pb3, pb4, pb5, pb6, List.map_cons, List.map_nil, List.length_cons, List.length_nil, List.replicate, List.cons_append, List.nil_append, Nat.reduceAdd, Nat.reduceSub, List.set_cons_zero, List.set_cons_succ, if_true, if_false, true_and, and_true, Bool.false_eq_true, Bool.not_true, Bool.not_false, ↓reduceIte, ifF, Nat.zero_add, startE, wipeE, Option.bind_some, Int.toNat_natCast, Option.some.injEq, List.set_set, Option.map_some, W.int.injEq, W.str.injEq, W.loc.injEq, Nat.reduceLeDiff, and_self, Int.reduceLT, Int.reduceLE, Int.reduceNeg, Int.reduceToNat, Int.reduceAdd, Int.reduceMul, Int.reduceSub, decide_eq_true_eq, m_f_law_same, lw, lu, beq_self_eq_true]
      refine ⟨both_t, ?_⟩
      refine wp_lclN ds.length (fun j acc S' => Xt [] S S' ∧ acc = (List.replicate j true).map W.bl) (by omega) ⟨.refl, rfl⟩ ?_ ?_
      · rintro j acc S' hj ⟨x', rfl⟩
        refine ⟨.tup [ws[j], us[j]], _, ?_, rfl, ?_⟩
        · rw [zip_at (ws := ws) (us := us) seqIt_t seqIt_t (by omega), List.getElem?_eq_getElem (by rw [List.length_zip]; omega)]
          simp
        · try simp (maxSteps := 500000) (implicitDefEqProofs := false) (disch := omega) only [↓pa0, ↓pa1, ↓pa2, ↓pa3, ↓pa4, ↓pa5, ↓pa6, pb0, pb1, pb2, pb3, pb4, pb5, pb6, List.map_cons, List.map_nil, List.length_cons, List.length_nil, List.replicate, List.cons_append, List.nil_append, Nat.reduceAdd, Nat.reduceSub, List.set_cons_zero, List.set_cons_succ, if_true, if_false, true_and, and_true, Bool.false_eq_true, Bool.not_true, Bool.not_false, ↓reduceIte, ifF, Nat.zero_add, startE, wipeE, Option.bind_some, Int.toNat_natCast, Option.some.injEq, List.set_set, Option.map_some, W.int.injEq, W.str.injEq, W.loc.injEq, Nat.reduceLeDiff, and_self, Int.reduceLT, Int.reduceLE, Int.reduceNeg, Int.reduceToNat, Int.reduceAdd, Int.reduceMul, Int.reduceSub, decide_eq_true_eq]
          refine same_ok0 n ((hw (ds[j], ws[j]) ?_).xt x') ((hu (ds[j], us[j]) ?_).xt x') fun S3 x3 => ?_
          · exact List.mem_iff_getElem.mpr ⟨j, by rw [List.length_zip]; omega, by simp⟩
          · exact List.mem_iff_getElem.mpr ⟨j, by rw [List.length_zip]; omega, by simp⟩
          · refine ⟨by simp; omega, x'.trans x3, ?_⟩
            show _ = List.map W.bl (List.replicate (j + 1) true)
            rw [List.replicate_succ', List.map_append]; rfl
      · rintro acc S' ⟨x', rfl⟩
        refine ⟨by rw [zip_at (ws := ws) (us := us) seqIt_t seqIt_t (by omega), List.getElem?_eq_none (by rw [List.length_zip]; omega)]; rfl, ?_⟩
        simp (maxSteps := 500000) (implicitDefEqProofs := false) (disch := omega) only [↓pa0, ↓pa1, ↓pa2, ↓pa3, ↓pa4, ↓pa5, ↓pa6, pb0, pb1, pb2, pb3, pb4, pb5, pb6, List.map_cons, List.map_nil, List.length_cons, List.length_nil, List.replicate, List.cons_append, List.nil_append, Nat.reduceAdd, Nat.reduceSub, List.set_cons_zero, List.set_cons_succ, if_true, if_false, true_and, and_true, Bool.false_eq_true, Bool.not_true, Bool.not_false, ↓reduceIte, ifF, Nat.zero_add, startE, wipeE, Option.bind_some, Int.toNat_natCast, Option.some.injEq, List.set_set, Option.map_some, W.int.injEq, W.str.injEq, W.loc.injEq, Nat.reduceLeDiff, and_self, Int.reduceLT, Int.reduceLE, Int.reduceNeg, Int.reduceToNat, Int.reduceAdd, Int.reduceMul, Int.reduceSub, decide_eq_true_eq, allW_l at_new', all_rep]
        exact hq _ x'.appI
    | list ds =>
      obtain ⟨p, ws, rfl, ep, lw, lb, hw⟩ := (show ∃ k ws, _ from hx)
      obtain ⟨q, us, rfl, eq', lu, _, hu⟩ := (show ∃ k ws, _ from hy)
      simp (maxSteps := 500000) (implicitDefEqProofs := false) (disch := omega) only [↓pa0, ↓pa1, ↓pa2, ↓pa3, ↓pa4, ↓pa5, ↓pa6, pb0, pb1, pb2, pb3, pb4, pb5, pb6, List.map_cons, List.map_nil, List.length_cons, List.length_nil, List.replicate, List.cons_append, List.nil_append, Nat.reduceAdd, Nat.reduceSub, List.set_cons_zero, List.set_cons_succ, if_true, if_false, true_and, and_true, Bool.false_eq_true, Bool.not_true, Bool.not_false, ↓reduceIte, ifF, Nat.zero_add, startE, wipeE, Option.bind_some, Int.toNat_natCast, Option.some.injEq, List.set_set, Option.map_some, W.int.injEq, W.str.injEq, W.loc.injEq, Nat.reduceLeDiff, and_self, Int.reduceLT, Int.reduceLE, Int.reduceNeg, Int.reduceToNat, Int.reduceAdd, Int.reduceMul, Int.reduceSub, decide_eq_true_eq, m_f_law_same, lenW_l ep, lenW_l eq', isi_Lb ep, isi_Lb eq', isi_Ls ep, isi_Ls eq', isi_Li ep, isi_Li eq', isi_Lt ep, isi_Lt eq', isi_Ll ep, isi_Ll eq', isNon_l, lw, lu, beq_self_eq_true]
      refine ⟨both_l ep eq', wo_ex (seqLen_l ep) ?_⟩
      refine wp_lclN ds.length (fun j acc S' => Xt [] S S' ∧ acc = (List.replicate j true).map W.bl) (by omega) ⟨.refl, rfl⟩ ?_ ?_
      · rintro j acc S' hj ⟨x', rfl⟩
        refine ⟨.tup [ws[j], us[j]], _, ?_, rfl, ?_⟩
        · rw [zip_at (ws := ws) (us := us) (seqIt_l (x'.get0 ep)) (seqIt_l (x'.get0 eq')) (by omega), List.getElem?_eq_getElem (by rw [List.length_zip]; omega)]
          simp
        · try simp (maxSteps := 500000) (implicitDefEqProofs := false) (disch := omega) only [↓pa0, ↓pa1, ↓pa2, ↓pa3, ↓pa4, ↓pa5, ↓pa6, pb0, pb1, pb2, pb3, pb4, pb5, pb6, List.map_cons, List.map_nil, List.length_cons, List.length_nil, List.replicate, List.cons_append, List.nil_append, Nat.reduceAdd, Nat.reduceSub, List.set_cons_zero, List.set_cons_succ, if_true, if_false, true_and, and_true, Bool.false_eq_true, Bool.not_true, Bool.not_false, ↓reduceIte, ifF, Nat.zero_add, startE, wipeE, Option.bind_some, Int.toNat_natCast, Option.some.injEq, List.set_set, Option.map_some, W.int.injEq, W.str.injEq, W.loc.injEq, Nat.reduceLeDiff, and_self, Int.reduceLT, Int.reduceLE, Int.reduceNeg, Int.reduceToNat, Int.reduceAdd, Int.reduceMul, Int.reduceSub, decide_eq_true_eq]
          refine same_ok0 n ((hw (ds[j], ws[j]) ?_).xt x') ((hu (ds[j], us[j]) ?_).xt x') fun S3 x3 => ?_
          · exact List.mem_iff_getElem.mpr ⟨j, by rw [List.length_zip]; omega, by simp⟩
          · exact List.mem_iff_getElem.mpr ⟨j, by rw [List.length_zip]; omega, by simp⟩
          · refine ⟨by simp; omega, x'.trans x3, ?_⟩
            show _ = List.map W.bl (List.replicate (j + 1) true)
            rw [List.replicate_succ', List.map_append]; rfl
      · rintro acc S' ⟨x', rfl⟩
        refine ⟨by rw [zip_at (ws := ws) (us := us) (seqIt_l (x'.get0 ep)) (seqIt_l (x'.get0 eq')) (by omega), List.getElem?_eq_none (by rw [List.length_zip]; omega)]; rfl, ?_⟩
        simp (maxSteps := 500000) (implicitDefEqProofs := false) (disch := omega) only [↓pa0, ↓pa1, ↓pa2, ↓pa3, ↓pa4, ↓pa5, ↓pa6, pb0, pb1, pb2, pb3, pb4, pb5, pb6, List.map_cons, List.map_nil, List.length_cons, List.length_nil, List.replicate, List.cons_append, List.nil_append, Nat.reduceAdd, Nat.reduceSub, List.set_cons_zero, List.set_cons_succ, if_true, if_false, true_and, and_true, Bool.false_eq_true, Bool.not_true, Bool.not_false, ↓reduceIte, ifF, Nat.zero_add, startE, wipeE, Option.bind_some, Int.toNat_natCast, Option.some.injEq, List.set_set, Option.map_some, W.int.injEq, W.str.injEq, W.loc.injEq, Nat.reduceLeDiff, and_self, Int.reduceLT, Int.reduceLE, Int.reduceNeg, Int.reduceToNat, Int.reduceAdd, Int.reduceMul, Int.reduceSub, decide_eq_true_eq, allW_l at_new', all_rep]
        exact hq _ x'.appI
    | _ => exact hx.elim
theorem same_ok {EE : Exc} (n : Nat) {x y : W} {d : PyData} {S : Sto} {Q : W → Sto → Prop} (hx : Dat S n d x) (hy : Dat S n d y) (hq : ∀ S', Xt [] S S' → Q (.bl true) S') : wpR (call n .f_law_same [x, y] S) Q := wpR_up (same_ok0 n hx hy hq)
end Lw

set_option linter.all false
set_option maxRecDepth 100000
namespace Lw
open PySem L2 Ev
variable {EE : Exc}
theorem cell_ok {n : Nat} {ns : List Int} {k : Int} {S : Sto} {Q : W → Sto → Prop} (hn : 1 ≤ n) (hk : 0 ≤ k) (h : ∀ c, Q (.int c) S) : wpR (call n .f_law_cell [.rol (ns.map W.int), .int k] S) Q := by
  obtain ⟨n, rfl⟩ : ∃ m, n = m + 1 := ⟨n - 1, by omega⟩
  rw [call_s, body]
  try simp (maxSteps := 500000) (implicitDefEqProofs := false) (disch := omega) only [↓Ev.wq_aCons, ↓Ev.wq_aNil, ↓Ev.wq_and, ↓Ev.wq_bind, ↓Ev.wq_c, ↓Ev.wq_dnew, ↓Ev.wq_e1, ↓Ev.wq_e2, ↓Ev.wq_eIf, ↓Ev.wq_eL, ↓Ev.wq_eM, ↓Ev.wq_eSl, ↓Ev.wq_in, ↓Ev.wq_ite, ↓Ev.wq_ixR, ↓Ev.wq_ixS, ↓Ev.wq_ixT, ↓Ev.wq_lc, ↓Ev.wq_lst, ↓Ev.wq_no, ↓Ev.wq_not, ↓Ev.wq_oNone, ↓Ev.wq_oSome, ↓Ev.wq_ok, ↓Ev.wq_or, ↓Ev.wq_rng1, ↓Ev.wq_rng2, ↓Ev.wq_run, ↓Ev.wq_seq, ↓Ev.wq_test, ↓Ev.wq_tru, ↓Ev.wq_tup, ↓Ev.wq_vAnd, ↓Ev.wq_vNot, ↓Ev.wq_vOr, ↓Ev.wq_var0, ↓Ev.wq_varS, ↓Ev.wq_yes, ↓Ev.wq_zip, ↓Ev.ws_asg, ↓Ev.ws_brk, ↓Ev.ws_cnt, ↓Ev.ws_expr, ↓Ev.ws_for, ↓Ev.ws_if, ↓Ev.ws_in, ↓Ev.ws_kn, ↓Ev.ws_nil, ↓Ev.ws_nx, ↓Ev.ws_put, ↓Ev.ws_ret, ↓Ev.ws_retN, ↓Ev.ws_rt, ↓Ev.ws_seq, ↓Ev.ws_while, ↓Ev.ws_set, ↓Ev.wo_some, ↓Ev.onB_b, ↓Ev.onI_i, ↓Ev.Kn_rt, ↓Ev.Kn_bk, ↓Ev.Kn_ct, ↓Ev.onRet_nx, ↓Ev.onRet_rt, ↓Ev.onNx_nx, ↓Ev.onNx_ct, ↓Ev.onNx_bk, ↓Ev.onNx_rt, List.map_cons, List.map_nil, List.length_cons, List.length_nil, List.replicate, List.cons_append, List.nil_append, Nat.reduceAdd, Nat.reduceSub, List.set_cons_zero, List.set_cons_succ, if_true, if_false, true_and, and_true, Bool.false_eq_true, Bool.not_true, Bool.not_false, ↓reduceIte, Ev.ifF, Nat.zero_add, Ev.startE, Ev.wipeE, Ev.put_nm, Ev.put_tp, Ev.puts_nil, Ev.puts_cons, Option.bind_some, Ev.seqLen_t, Ev.seqLen_r, Ev.addW_ii, Ev.addW_tt, Ev.subW_ii, Ev.mulW_ii, Ev.modW_ii, Ev.fdivW_ii, Ev.powW_ii, Ev.negW_i, Ev.cmpI_ii, Ev.isW_n, Ev.isnW_n, Ev.isNon_n, Ev.isNon_b, Ev.isNon_i, Ev.isNon_s, Ev.isNon_t, Ev.isNon_l, Ev.max2W_ii, Ev.min2W_ii, Ev.intW_i, Ev.intW_b, Ev.lenW_t, Ev.lenW_r, Ev.listW_t, Ev.tupleW_t, Ev.truW_b, Ev.truW_n, Ev.truW_i, Ev.truW_t, Ev.eqW_ii, Ev.neW_ii, Ev.eqW_ss, Ev.neW_ss, Ev.eqW_bb, Ev.ixN_0, Ev.ixN_1, Ev.ixN_2, Ev.ixN_3, Ev.isi_bb, Ev.isi_bs, Ev.isi_bi, Ev.isi_bt, Ev.isi_bl, Ev.isi_ib, Ev.isi_is, Ev.isi_ii, Ev.isi_it, Ev.isi_il, Ev.isi_sb, Ev.isi_ss, Ev.isi_si, Ev.isi_st, Ev.isi_sl, Ev.isi_tb, Ev.isi_ts, Ev.isi_ti, Ev.isi_tt, Ev.isi_tl, Ev.isi_nb, Ev.isi_ns, Ev.isi_ni, Ev.isi_nt, Ev.isi_nl, Ev.atI_0, Ev.atI_1, Ev.atI_2, Ev.atI_3, Ev.atI_4, Ev.tyOk_s, Ev.slW_to, Ev.slW_from, Ev.addW_SS, Int.toNat_natCast, Option.some.injEq, List.set_set, Option.map_some, W.int.injEq, W.str.injEq, W.loc.injEq, Nat.reduceLeDiff, and_self, Int.reduceLT, Int.reduceLE, Int.reduceNeg, Int.reduceToNat, Int.reduceAdd, Int.reduceMul, Int.reduceSub, decide_eq_true_eq, m_f_law_cell, List.length_map]
  split
  · rename_i hlt
    have hl : k.toNat < ns.length := by omega
    exact wo_ex (Ev.atI_of hk (by rw [List.getElem?_map, List.getElem?_eq_getElem hl]; rfl)) (h _)
  · exact h _
/-- the first cell and some behind -/
theorem cells_ok {n : Nat} {ns : List Int} {k : Int} {a b : Nat} {s : En} {S : Sto} {Q : W → Sto → Prop} {hQ : Ph Q} (hn : 1 ≤ n) (hk : 0 ≤ k) (hb : b - a ≤ 1000)
    (h : ∀ (q : Nat) (cs : List Int) (S' : Sto), Xt [] S S' → S'[q]? = some (.lst (cs.map W.int)) → cs.length ≤ b - a + 1 → Q (.loc q) S') :
    wq (e2 addW (eL lstW (aCons (eL (call n .f_law_cell) (aCons (eVar 0) (aCons (eC (.int k)) aNil))) aNil)) (eSl slW (eVar 0) (oSome (eC (.int (a : Nat)))) (oSome (eC (.int (b : Nat))))) (some (.rol (ns.map W.int)) :: s) S) Q hQ := by
  simp (maxSteps := 500000) (implicitDefEqProofs := false) (disch := omega) only [↓Ev.wq_aCons, ↓Ev.wq_aNil, ↓Ev.wq_and, ↓Ev.wq_bind, ↓Ev.wq_c, ↓Ev.wq_dnew, ↓Ev.wq_e1, ↓Ev.wq_e2, ↓Ev.wq_eIf, ↓Ev.wq_eL, ↓Ev.wq_eM, ↓Ev.wq_eSl, ↓Ev.wq_in, ↓Ev.wq_ite, ↓Ev.wq_ixR, ↓Ev.wq_ixS, ↓Ev.wq_ixT, ↓Ev.wq_lc, ↓Ev.wq_lst, ↓Ev.wq_no, ↓Ev.wq_not, ↓Ev.wq_oNone, ↓Ev.wq_oSome, ↓Ev.wq_ok, ↓Ev.wq_or, ↓Ev.wq_rng1, ↓Ev.wq_rng2, ↓Ev.wq_run, ↓Ev.wq_seq, ↓Ev.wq_test, ↓Ev.wq_tru, ↓Ev.wq_tup, ↓Ev.wq_vAnd, ↓Ev.wq_vNot, ↓Ev.wq_vOr, ↓Ev.wq_var0, ↓Ev.wq_varS, ↓Ev.wq_yes, ↓Ev.wq_zip, ↓Ev.ws_asg, ↓Ev.ws_brk, ↓Ev.ws_cnt, ↓Ev.ws_expr, ↓Ev.ws_for, ↓Ev.ws_if, ↓Ev.ws_in, ↓Ev.ws_kn, ↓Ev.ws_nil, ↓Ev.ws_nx, ↓Ev.ws_put, ↓Ev.ws_ret, ↓Ev.ws_retN, ↓Ev.ws_rt, ↓Ev.ws_seq, ↓Ev.ws_while, ↓Ev.ws_set, ↓Ev.wo_some, ↓Ev.onB_b, ↓Ev.onI_i, ↓Ev.Kn_rt, ↓Ev.Kn_bk, ↓Ev.Kn_ct, ↓Ev.onRet_nx, ↓Ev.onRet_rt, ↓Ev.onNx_nx, ↓Ev.onNx_ct, ↓Ev.onNx_bk, ↓Ev.onNx_rt, List.map_cons, List.map_nil, List.length_cons, List.length_nil, List.replicate, List.cons_append, List.nil_append, Nat.reduceAdd, Nat.reduceSub, List.set_cons_zero, List.set_cons_succ, if_true, if_false, true_and, and_true, Bool.false_eq_true, Bool.not_true, Bool.not_false, ↓reduceIte, Ev.ifF, Nat.zero_add, Ev.startE, Ev.wipeE, Ev.put_nm, Ev.put_tp, Ev.puts_nil, Ev.puts_cons, Option.bind_some, Ev.seqLen_t, Ev.seqLen_r, Ev.addW_ii, Ev.addW_tt, Ev.subW_ii, Ev.mulW_ii, Ev.modW_ii, Ev.fdivW_ii, Ev.powW_ii, Ev.negW_i, Ev.cmpI_ii, Ev.isW_n, Ev.isnW_n, Ev.isNon_n, Ev.isNon_b, Ev.isNon_i, Ev.isNon_s, Ev.isNon_t, Ev.isNon_l, Ev.max2W_ii, Ev.min2W_ii, Ev.intW_i, Ev.intW_b, Ev.lenW_t, Ev.lenW_r, Ev.listW_t, Ev.tupleW_t, Ev.truW_b, Ev.truW_n, Ev.truW_i, Ev.truW_t, Ev.eqW_ii, Ev.neW_ii, Ev.eqW_ss, Ev.neW_ss, Ev.eqW_bb, Ev.ixN_0, Ev.ixN_1, Ev.ixN_2, Ev.ixN_3, Ev.isi_bb, Ev.isi_bs, Ev.isi_bi, Ev.isi_bt, Ev.isi_bl, Ev.isi_ib, Ev.isi_is, Ev.isi_ii, Ev.isi_it, Ev.isi_il, Ev.isi_sb, Ev.isi_ss, Ev.isi_si, Ev.isi_st, Ev.isi_sl, Ev.isi_tb, Ev.isi_ts, Ev.isi_ti, Ev.isi_tt, Ev.isi_tl, Ev.isi_nb, Ev.isi_ns, Ev.isi_ni, Ev.isi_nt, Ev.isi_nl, Ev.atI_0, Ev.atI_1, Ev.atI_2, Ev.atI_3, Ev.atI_4, Ev.tyOk_s, Ev.slW_to, Ev.slW_from, Ev.addW_SS, Int.toNat_natCast, Option.some.injEq, List.set_set, Option.map_some, W.int.injEq, W.str.injEq, W.loc.injEq, Nat.reduceLeDiff, and_self, Int.reduceLT, Int.reduceLE, Int.reduceNeg, Int.reduceToNat, Int.reduceAdd, Int.reduceMul, Int.reduceSub, decide_eq_true_eq]
  refine cell_ok hn hk fun c => ?_
  simp (maxSteps := 500000) (implicitDefEqProofs := false) (disch := omega) only [↓Ev.wq_aCons, ↓Ev.wq_aNil, ↓Ev.wq_and, ↓Ev.wq_bind, ↓Ev.wq_c, ↓Ev.wq_dnew, ↓Ev.wq_e1, ↓Ev.wq_e2, ↓Ev.wq_eIf, ↓Ev.wq_eL, ↓Ev.wq_eM, ↓Ev.wq_eSl, ↓Ev.wq_in, ↓Ev.wq_ite, ↓Ev.wq_ixR, ↓Ev.wq_ixS, ↓Ev.wq_ixT, ↓Ev.wq_lc, ↓Ev.wq_lst, ↓Ev.wq_no, ↓Ev.wq_not, ↓Ev.wq_oNone, ↓Ev.wq_oSome, ↓Ev.wq_ok, ↓Ev.wq_or, ↓Ev.wq_rng1, ↓Ev.wq_rng2, ↓Ev.wq_run, ↓Ev.wq_seq, ↓Ev.wq_test, ↓Ev.wq_tru, ↓Ev.wq_tup, ↓Ev.wq_vAnd, ↓Ev.wq_vNot, ↓Ev.wq_vOr, ↓Ev.wq_var0, ↓Ev.wq_varS, ↓Ev.wq_yes, ↓Ev.wq_zip, ↓Ev.ws_asg, ↓Ev.ws_brk, ↓Ev.ws_cnt, ↓Ev.ws_expr, ↓Ev.ws_for, ↓Ev.ws_if, ↓Ev.ws_in, ↓Ev.ws_kn, ↓Ev.ws_nil, ↓Ev.ws_nx, ↓Ev.ws_put, ↓Ev.ws_ret, ↓Ev.ws_retN, ↓Ev.ws_rt, ↓Ev.ws_seq, ↓Ev.ws_while, ↓Ev.ws_set, ↓Ev.wo_some, ↓Ev.onB_b, ↓Ev.onI_i, ↓Ev.Kn_rt, ↓Ev.Kn_bk, ↓Ev.Kn_ct, ↓Ev.onRet_nx, ↓Ev.onRet_rt, ↓Ev.onNx_nx, ↓Ev.onNx_ct, ↓Ev.onNx_bk, ↓Ev.onNx_rt, List.map_cons, List.map_nil, List.length_cons, List.length_nil, List.replicate, List.cons_append, List.nil_append, Nat.reduceAdd, Nat.reduceSub, List.set_cons_zero, List.set_cons_succ, if_true, if_false, true_and, and_true, Bool.false_eq_true, Bool.not_true, Bool.not_false, ↓reduceIte, Ev.ifF, Nat.zero_add, Ev.startE, Ev.wipeE, Ev.put_nm, Ev.put_tp, Ev.puts_nil, Ev.puts_cons, Option.bind_some, Ev.seqLen_t, Ev.seqLen_r, Ev.addW_ii, Ev.addW_tt, Ev.subW_ii, Ev.mulW_ii, Ev.modW_ii, Ev.fdivW_ii, Ev.powW_ii, Ev.negW_i, Ev.cmpI_ii, Ev.isW_n, Ev.isnW_n, Ev.isNon_n, Ev.isNon_b, Ev.isNon_i, Ev.isNon_s, Ev.isNon_t, Ev.isNon_l, Ev.max2W_ii, Ev.min2W_ii, Ev.intW_i, Ev.intW_b, Ev.lenW_t, Ev.lenW_r, Ev.listW_t, Ev.tupleW_t, Ev.truW_b, Ev.truW_n, Ev.truW_i, Ev.truW_t, Ev.eqW_ii, Ev.neW_ii, Ev.eqW_ss, Ev.neW_ss, Ev.eqW_bb, Ev.ixN_0, Ev.ixN_1, Ev.ixN_2, Ev.ixN_3, Ev.isi_bb, Ev.isi_bs, Ev.isi_bi, Ev.isi_bt, Ev.isi_bl, Ev.isi_ib, Ev.isi_is, Ev.isi_ii, Ev.isi_it, Ev.isi_il, Ev.isi_sb, Ev.isi_ss, Ev.isi_si, Ev.isi_st, Ev.isi_sl, Ev.isi_tb, Ev.isi_ts, Ev.isi_ti, Ev.isi_tt, Ev.isi_tl, Ev.isi_nb, Ev.isi_ns, Ev.isi_ni, Ev.isi_nt, Ev.isi_nl, Ev.atI_0, Ev.atI_1, Ev.atI_2, Ev.atI_3, Ev.atI_4, Ev.tyOk_s, Ev.slW_to, Ev.slW_from, Ev.addW_SS, Int.toNat_natCast, Option.some.injEq, List.set_set, Option.map_some, W.int.injEq, W.str.injEq, W.loc.injEq, Nat.reduceLeDiff, and_self, Int.reduceLT, Int.reduceLE, Int.reduceNeg, Int.reduceToNat, Int.reduceAdd, Int.reduceMul, Int.reduceSub, decide_eq_true_eq, slW_r]
  have e1 : ((S ++ [O.lst [W.int c]]) ++ [O.lst (cutW (ns.map W.int) (some (a : Nat)) (some (b : Nat)))])[S.length]? = some (.lst [W.int c]) := at_app at_new'
  have e2 : ((S ++ [O.lst [W.int c]]) ++ [O.lst (cutW (ns.map W.int) (some (a : Nat)) (some (b : Nat)))])[(S ++ [O.lst [W.int c]]).length]? = some (.lst (((ns.drop a).take (b - a)).map W.int)) := by
    rw [at_new', cutW_mid, List.map_take, List.map_drop]
  have hcl : ((ns.drop a).take (b - a)).length ≤ b - a := List.length_take_le ..
  rw [addW_l e1 e2 (by rw [List.length_map, List.length_singleton]; omega), wq_ok]
  refine h _ (c :: (ns.drop a).take (b - a)) _ (.appI (.appI .app)) ?_ (by rw [List.length_cons]; omega)
  rw [at_new']; rfl
end Lw

set_option linter.all false
set_option maxRecDepth 100000
namespace Lw
open PySem L2 Ev
variable {EE : Exc}
/-- a definition's head -/
structure Hd where
  nm : List Nat
  ps : List (List Nat × List Nat)
  kd : List Nat
abbrev pnW (p : List Nat × List Nat) : W := .tup [tx p.1, tx p.2]
abbrev psW (ps : List (List Nat × List Nat)) : W := .ptp (ps.map pnW)
def Hd.w (h : Hd) : W := .tup [psW h.ps, tx h.kd]
def prodC (ks : List Kd) (ps : List (List Nat × List Nat)) : Int := ps.foldl (fun a p => a * (kdAt ks p.2).cnt) 1
theorem prodC_snoc {ks : List Kd} {ps : List (List Nat × List Nat)} {p : List Nat × List Nat} : prodC ks (ps ++ [p]) = prodC ks ps * (kdAt ks p.2).cnt := by
  unfold prodC; rw [List.foldl_append]; rfl
structure HdOk (ks : List Kd) (top : Int) (h : Hd) : Prop where
  wd : WordOf alphaL h.nm
  len : h.ps.length ≤ 3
  nd : (h.ps.map Prod.fst).Nodup
  pw : ∀ p ∈ h.ps, WordOf alphaL p.1
  pk : ∀ p ∈ h.ps, p.2 ∈ ks.map Kd.nm
  kd : h.kd ∈ ks.map Kd.nm
  rows : prodC ks h.ps ≤ top
structure HOk (ks : List Kd) (top : Int) (hs : List Hd) : Prop where
  nd : (hs.map Hd.nm).Nodup
  ok : ∀ h ∈ hs, HdOk ks top h
abbrev hdD (hs : List Hd) : List (W × W) := hs.map fun h => (.str (SX.S h.nm), h.w)
/-- the parameters, as they come -/
structure PI (ks : List Kd) (top : Int) (wds : List (List Nat)) (k : Nat) (rows : Int) (ps : List (List Nat × List Nat)) : Prop where
  len : ps.length ≤ k
  sub : (ps.map Prod.fst).Sublist (wds.take k)
  pk : ∀ p ∈ ps, p.2 ∈ ks.map Kd.nm
  rowE : rows = prodC ks ps
  pos : 1 ≤ rows
  top : rows ≤ top
theorem sub_snoc {A : Type} {l w : List A} {k : Nat} {a : A} (h : l.Sublist (w.take k)) (e : w[k]? = some a) : (l ++ [a]).Sublist (w.take (k + 1)) := by
  rw [List.take_succ, e]
  exact List.Sublist.append h (List.Sublist.refl _)
theorem sub_next {A : Type} {l w : List A} {k : Nat} (h : l.Sublist (w.take k)) : l.Sublist (w.take (k + 1)) := h.trans (List.take_sublist_take_left (by omega))
theorem kname {ks : List Kd} {z : Int} (h0 : 0 ≤ z) (h1 : z < ks.length) : ∃ k ∈ ks, atI (ks.map Kd.w) z = some k.w := by
  obtain ⟨j, rfl⟩ : ∃ j : Nat, z = j := ⟨z.toNat, by omega⟩
  have hj : j < ks.length := by omega
  exact ⟨ks[j], List.getElem_mem hj, Ev.atI_nat (by rw [List.getElem?_map, List.getElem?_eq_getElem hj]; rfl)⟩
theorem hnmS_not {hs : List Hd} {nm : List Nat} (h : nm ∉ hs.map Hd.nm) : SX.S nm ∉ hs.map fun k => SX.S k.nm := by
  intro hm
  obtain ⟨k, hk, e⟩ := List.mem_map.mp hm
  exact h (List.mem_map.mpr ⟨k, hk, SX.S_inj e⟩)
theorem put_hd {hs : List Hd} {nm : List Nat} {w : W} (h : nm ∉ hs.map Hd.nm) : dput (hdD hs) (tx nm) (.inr (SX.S nm)) w = hdD hs ++ [(tx nm, w)] := dput_none (dlook_none (f := fun k : Hd => SX.S k.nm) (g := fun k => k.w) (hnmS_not h))
theorem heads_ok {n i pk pc : Nat} {most top tp : Int} {ks : List Kd} {S : Sto} {Q : W → Sto → Prop} (hn : 5 ≤ n) (hs : Strm S i) (hm : 1 ≤ most ∧ most ≤ 8) (ht : 1 ≤ top ∧ top ≤ 1000) (htp : tp ≤ 1000) (hk : KOk alphaL alphaU tp ks) (hne : ks ≠ []) (hl : ks.length ≤ 6)
    (e1 : S[pk]? = some (.lst (ks.map Kd.w))) (e2 : S[pc]? = some (.dct (cntD ks))) (n1 : i ≠ pk) (n2 : i ≠ pc)
    (h : ∀ (hs : List Hd) (S' : Sto) (p : Nat), Xt [i] S S' → Strm S' i → S.length ≤ p → hs ≠ [] → (hs.length : Int) ≤ most → HOk ks top hs → S'[p]? = some (.dct (hdD hs)) → Q (.loc p) S') :
    wpR (call n .f_law_heads [.loc i, .loc pk, .loc pc, .int most, .int top] S) Q := by
  obtain ⟨n, rfl⟩ : ∃ m, n = m + 1 := ⟨n - 1, by omega⟩
  have hiS := hs.lt
  have hpos : 0 < ks.length := List.length_pos_iff.mpr hne
  have lpk := lt_at e1
  have lpc := lt_at e2
  rw [call_s, body]
  simp (maxSteps := 500000) (implicitDefEqProofs := false) (disch := omega) only [↓pa0, ↓pa1, ↓pa2, ↓pa3, ↓pa4, ↓pa5, ↓pa6, pb0, pb1, pb2, pb3, pb4, pb5, pb6, List.map_cons, List.map_nil, List.length_cons, List.length_nil, List.replicate, List.cons_append, List.nil_append, Nat.reduceAdd, Nat.reduceSub, List.set_cons_zero, List.set_cons_succ, if_true, if_false, true_and, and_true, Bool.false_eq_true, Bool.not_true, Bool.not_false, ↓reduceIte, ifF, Nat.zero_add, startE, wipeE, Option.bind_some, Int.toNat_natCast, Option.some.injEq, List.set_set, Option.map_some, W.int.injEq, W.str.injEq, W.loc.injEq, Nat.reduceLeDiff, and_self, Int.reduceLT, Int.reduceLE, Int.reduceNeg, Int.reduceToNat, Int.reduceAdd, Int.reduceMul, Int.reduceSub, decide_eq_true_eq, m_f_law_heads]
  refine take_ok (by omega) hs (by omega) fun z o h1 h2 st1 => ?_
  try simp (maxSteps := 500000) (implicitDefEqProofs := false) (disch := omega) only [↓pa0, ↓pa1, ↓pa2, ↓pa3, ↓pa4, ↓pa5, ↓pa6, pb0, pb1, pb2, pb3, pb4, pb5, pb6, List.map_cons, List.map_nil, List.length_cons, List.length_nil, List.replicate, List.cons_append, List.nil_append, Nat.reduceAdd, Nat.reduceSub, List.set_cons_zero, List.set_cons_succ, if_true, if_false, true_and, and_true, Bool.false_eq_true, Bool.not_true, Bool.not_false, ↓reduceIte, ifF, Nat.zero_add, startE, wipeE, Option.bind_some, Int.toNat_natCast, Option.some.injEq, List.set_set, Option.map_some, W.int.injEq, W.str.injEq, W.loc.injEq, Nat.reduceLeDiff, and_self, Int.reduceLT, Int.reduceLE, Int.reduceNeg, Int.reduceToNat, Int.reduceAdd, Int.reduceMul, Int.reduceSub, decide_eq_true_eq]
  refine small_ok (by omega) st1 (by omega) fun p1 nms S1 x1 l1 st2 en hl1 nd1 wo1 => ?_
  have x1' : Xt [i] S S1 := (Xt.set (by simp)).trans x1
  have l1' : S.length ≤ p1 := by simpa using l1
  clear x1 l1 st1
  try simp (maxSteps := 500000) (implicitDefEqProofs := false) (disch := omega) only [↓pa0, ↓pa1, ↓pa2, ↓pa3, ↓pa4, ↓pa5, ↓pa6, pb0, pb1, pb2, pb3, pb4, pb5, pb6, List.map_cons, List.map_nil, List.length_cons, List.length_nil, List.replicate, List.cons_append, List.nil_append, Nat.reduceAdd, Nat.reduceSub, List.set_cons_zero, List.set_cons_succ, if_true, if_false, true_and, and_true, Bool.false_eq_true, Bool.not_true, Bool.not_false, ↓reduceIte, ifF, Nat.zero_add, startE, wipeE, Option.bind_some, Int.toNat_natCast, Option.some.injEq, List.set_set, Option.map_some, W.int.injEq, W.str.injEq, W.loc.injEq, Nat.reduceLeDiff, and_self, Int.reduceLT, Int.reduceLE, Int.reduceNeg, Int.reduceToNat, Int.reduceAdd, Int.reduceMul, Int.reduceSub, decide_eq_true_eq]
  have hnl : 1 ≤ nms.length ∧ (nms.length : Int) ≤ most := by omega
  refine wo_ex (seqLen_l (at_app en)) ?_
  rw [List.length_map]
  have x2 : Xt [i] S (S1 ++ [O.dct []]) := x1'.appI
  have en2 : (S1 ++ [O.dct []])[p1]? = some (.lst (nms.map tx)) := at_app en
  have st3 : Strm (S1 ++ [O.dct []]) i := st2.app
  have e6 : (S1 ++ [O.dct []])[S1.length]? = some (.dct (hdD [])) := at_new'
  have l6 : S.length ≤ S1.length := x1'.len
  have l61 : p1 < S1.length := lt_at en
  generalize S1 ++ [O.dct []] = S2 at *
  generalize S1.length = p6 at *
  refine wp_loopN nms.length (fun k s S5 => ∃ x7 x8 x9 x10 x11 x12 hs', s = [some (W.loc i), some (W.loc pk), some (W.loc pc), some (W.int most), some (W.int top), some (W.loc p1), some (W.loc p6), x7, x8, x9, x10, x11, x12] ∧ hs'.length = k ∧ Xt [i] S S5 ∧ Strm S5 i ∧ S5[p1]? = some (.lst (nms.map tx)) ∧ S5[p6]? = some (.dct (hdD hs')) ∧ hs'.map Hd.nm = nms.take k ∧ ∀ h ∈ hs', HdOk ks top h) (by omega) ?_ ?_ ?_
  · exact ⟨_, _, _, _, _, _, [], rfl, rfl, x2, st3, en2, e6, rfl, fun h hh => by cases hh⟩
  · rintro k s S5 hk' ⟨x7, x8, x9, x10, x11, x12, hs', rfl, hlen, x5, st5, en5, e65, hnm, hok⟩
    refine ⟨tx nms[k], _, by rw [seqIt_l en5, List.getElem?_map, List.getElem?_eq_getElem hk']; rfl, rfl, ?_⟩
    have hnk : nms[k]? = some nms[k] := List.getElem?_eq_getElem hk'
    have hwd := wo1 _ (List.getElem_mem hk')
    have hnew : nms[k] ∉ hs'.map Hd.nm := by
      rw [hnm]
      intro hm
      obtain ⟨j, hj, e⟩ := List.mem_take_iff_getElem.mp hm
      have := (List.getElem_inj nd1).mp e
      omega
    generalize nms[k] = nm at *
    simp (maxSteps := 500000) (implicitDefEqProofs := false) (disch := omega) only [↓pa0, ↓pa1, ↓pa2, ↓pa3, ↓pa4, ↓pa5, ↓pa6, pb0, pb1, pb2, pb3, pb4, pb5, pb6, List.map_cons, List.map_nil, List.length_cons, List.length_nil, List.replicate, List.cons_append, List.nil_append, Nat.reduceAdd, Nat.reduceSub, List.set_cons_zero, List.set_cons_succ, if_true, if_false, true_and, and_true, Bool.false_eq_true, Bool.not_true, Bool.not_false, ↓reduceIte, ifF, Nat.zero_add, startE, wipeE, Option.bind_some, Int.toNat_natCast, Option.some.injEq, List.set_set, Option.map_some, W.int.injEq, W.str.injEq, W.loc.injEq, Nat.reduceLeDiff, and_self, Int.reduceLT, Int.reduceLE, Int.reduceNeg, Int.reduceToNat, Int.reduceAdd, Int.reduceMul, Int.reduceSub, decide_eq_true_eq]
    refine small_ok (by omega) st5 (by decide) fun p8 wds S6 X6 l8 st6 e8 hl8 nd8 wo8 => ?_
    try simp (maxSteps := 500000) (implicitDefEqProofs := false) (disch := omega) only [↓pa0, ↓pa1, ↓pa2, ↓pa3, ↓pa4, ↓pa5, ↓pa6, pb0, pb1, pb2, pb3, pb4, pb5, pb6, List.map_cons, List.map_nil, List.length_cons, List.length_nil, List.replicate, List.cons_append, List.nil_append, Nat.reduceAdd, Nat.reduceSub, List.set_cons_zero, List.set_cons_succ, if_true, if_false, true_and, and_true, Bool.false_eq_true, Bool.not_true, Bool.not_false, ↓reduceIte, ifF, Nat.zero_add, startE, wipeE, Option.bind_some, Int.toNat_natCast, Option.some.injEq, List.set_set, Option.map_some, W.int.injEq, W.str.injEq, W.loc.injEq, Nat.reduceLeDiff, and_self, Int.reduceLT, Int.reduceLE, Int.reduceNeg, Int.reduceToNat, Int.reduceAdd, Int.reduceMul, Int.reduceSub, decide_eq_true_eq]
    have x6 := x5.trans X6
    have en6 := X6.get en5 (by simp; omega)
    have e66 := X6.get e65 (by simp; omega)
    have e16 := x6.get e1 (by simp; omega)
    have e26 := x6.get e2 (by simp; omega)
    have l8' := x5.len
    have l8S := lt_at e8
    have l6S := lt_at e66
    have l65 := lt_at e65
    have l15 := lt_at en5
    refine take_ok (by omega) st6.app.app (by decide) fun z6 o6 h61 h62 st7 => ?_
    obtain ⟨j6, rfl⟩ : ∃ a : Nat, z6 = a := ⟨z6.toNat, by omega⟩
    have l7i : i < S6.length := st6.lt
    have x7' : Xt [i] S6 ((S6 ++ [O.lst []] ++ [O.lst [W.int 0, .int 1, .int 1, .int 2, .int 2, .int 3]]).set i o6) := (Xt.refl.appI.appI).setI (by simp)
    have en7 := x7'.get en6 (by simp; omega)
    have e67 := x7'.get e66 (by simp; omega)
    have e17 := x7'.get e16 (by simp; omega)
    have e27 := x7'.get e26 (by simp; omega)
    have e87 := x7'.get e8 (by simp; omega)
    have e107 : ((S6 ++ [O.lst []] ++ [O.lst [W.int 0, .int 1, .int 1, .int 2, .int 2, .int 3]]).set i o6)[S6.length]? = some (.lst []) := at_ne (by simp) (by omega)
    have eC7 : ((S6 ++ [O.lst []] ++ [O.lst [W.int 0, .int 1, .int 1, .int 2, .int 2, .int 3]]).set i o6)[S6.length + 1]? = some (.lst [W.int 0, .int 1, .int 1, .int 2, .int 2, .int 3]) := at_ne (by simp) (by omega)
    have x7 := x6.trans x7'
    have l67 := lt_at e107
    generalize (S6 ++ [O.lst []] ++ [O.lst [W.int 0, .int 1, .int 1, .int 2, .int 2, .int 3]]).set i o6 = S7 at *
    have hc : ∃ c : Nat, c ≤ 3 ∧ atI [W.int 0, .int 1, .int 1, .int 2, .int 2, .int 3] (j6 : Int) = some (.int (c : Int)) := by
      have : j6 = 0 ∨ j6 = 1 ∨ j6 = 2 ∨ j6 = 3 ∨ j6 = 4 ∨ j6 = 5 := by omega
      rcases this with rfl | rfl | rfl | rfl | rfl | rfl
      · exact ⟨0, by omega, Ev.atI_nat rfl⟩
      · exact ⟨1, by omega, Ev.atI_nat rfl⟩
      · exact ⟨1, by omega, Ev.atI_nat rfl⟩
      · exact ⟨2, by omega, Ev.atI_nat rfl⟩
      · exact ⟨2, by omega, Ev.atI_nat rfl⟩
      · exact ⟨3, by omega, Ev.atI_nat rfl⟩
    obtain ⟨c, hc3, ec⟩ := hc
    try simp (maxSteps := 500000) (implicitDefEqProofs := false) (disch := omega) only [↓pa0, ↓pa1, ↓pa2, ↓pa3, ↓pa4, ↓pa5, ↓pa6, pb0, pb1, pb2, pb3, pb4, pb5, pb6, List.map_cons, List.map_nil, List.length_cons, List.length_nil, List.replicate, List.cons_append, List.nil_append, Nat.reduceAdd, Nat.reduceSub, List.set_cons_zero, List.set_cons_succ, if_true, if_false, true_and, and_true, Bool.false_eq_true, Bool.not_true, Bool.not_false, ↓reduceIte, ifF, Nat.zero_add, startE, wipeE, Option.bind_some, Int.toNat_natCast, Option.some.injEq, List.set_set, Option.map_some, W.int.injEq, W.str.injEq, W.loc.injEq, Nat.reduceLeDiff, and_self, Int.reduceLT, Int.reduceLE, Int.reduceNeg, Int.reduceToNat, Int.reduceAdd, Int.reduceMul, Int.reduceSub, decide_eq_true_eq, List.length_append, wq_ixL eC7, ec]
    refine ⟨by omega, ?_⟩
    generalize S6.length = p10 at *
    refine wp_loopN c (fun k' s S8 => ∃ x11 x12 rows ps, s = [some (W.loc i), some (W.loc pk), some (W.loc pc), some (W.int most), some (W.int top), some (W.loc p1), some (W.loc p6), some (tx nm), some (W.loc p8), some (W.int rows), some (W.loc p10), x11, x12] ∧ PI ks top wds k' rows ps ∧ Xt [i] S S8 ∧ Strm S8 i ∧ S8[p1]? = some (.lst (nms.map tx)) ∧ S8[p6]? = some (.dct (hdD hs')) ∧ S8[p8]? = some (.lst (wds.map tx)) ∧ S8[p10]? = some (.lst (ps.map pnW))) (by omega) ?_ ?_ ?_
    · exact ⟨_, _, 1, [], rfl, ⟨by simp, by simp, fun p hp => (by cases hp), rfl, by decide, ht.1⟩, x7, st7, en7, e67, e87, e107⟩
    · rintro k' s S8 hk2 ⟨x11, x12, rows, ps, rfl, pi, X8, st8, en8, e68, e88, e108⟩
      refine ⟨_, _, rng0_lt hk2, rfl, ?_⟩
      have e18 := X8.get e1 (by simp; omega)
      have e28 := X8.get e2 (by simp; omega)
      have l108 := lt_at e108
      simp (maxSteps := 500000) (implicitDefEqProofs := false) (disch := omega) only [↓pa0, ↓pa1, ↓pa2, ↓pa3, ↓pa4, ↓pa5, ↓pa6, pb0, pb1, pb2, pb3, pb4, pb5, pb6, List.map_cons, List.map_nil, List.length_cons, List.length_nil, List.replicate, List.cons_append, List.nil_append, Nat.reduceAdd, Nat.reduceSub, List.set_cons_zero, List.set_cons_succ, if_true, if_false, true_and, and_true, Bool.false_eq_true, Bool.not_true, Bool.not_false, ↓reduceIte, ifF, Nat.zero_add, startE, wipeE, Option.bind_some, Int.toNat_natCast, Option.some.injEq, List.set_set, Option.map_some, W.int.injEq, W.str.injEq, W.loc.injEq, Nat.reduceLeDiff, and_self, Int.reduceLT, Int.reduceLE, Int.reduceNeg, Int.reduceToNat, Int.reduceAdd, Int.reduceMul, Int.reduceSub, decide_eq_true_eq, lenW_l e18, List.length_map]
      refine take_ok (by omega) st8 (by omega) fun z8 o8 h81 h82 st9 => ?_
      obtain ⟨kd, hkd, ekd⟩ := kname h81 h82
      have X9 : Xt [i] S (S8.set i o8) := X8.setI (by simp)
      have e19 := X9.get e1 (by simp; omega)
      have e29 := X9.get e2 (by simp; omega)
      have en9 : (S8.set i o8)[p1]? = some (.lst (nms.map tx)) := at_ne en8 (by omega)
      have e69 : (S8.set i o8)[p6]? = some (.dct (hdD hs')) := at_ne e68 (by omega)
      have e89 : (S8.set i o8)[p8]? = some (.lst (wds.map tx)) := at_ne e88 (by omega)
      have e109 : (S8.set i o8)[p10]? = some (.lst (ps.map pnW)) := at_ne e108 (by omega)
      generalize S8.set i o8 = S9 at *
      have cn := hk.cnt kd hkd
      have hdl : dlook (cntD ks) (.inr (SX.S kd.nm)) = some (.int kd.cnt) := cnt_at hk.nd hkd
      have pr := pi.pos
      have pt := pi.top
      have c1 : CMul rows kd.cnt := cmul_l (by omega) (by omega)
      try simp (maxSteps := 500000) (implicitDefEqProofs := false) (disch := omega) only [↓pa0, ↓pa1, ↓pa2, ↓pa3, ↓pa4, ↓pa5, ↓pa6, pb0, pb1, pb2, pb3, pb4, pb5, pb6, List.map_cons, List.map_nil, List.length_cons, List.length_nil, List.replicate, List.cons_append, List.nil_append, Nat.reduceAdd, Nat.reduceSub, List.set_cons_zero, List.set_cons_succ, if_true, if_false, true_and, and_true, Bool.false_eq_true, Bool.not_true, Bool.not_false, ↓reduceIte, ifF, Nat.zero_add, startE, wipeE, Option.bind_some, Int.toNat_natCast, Option.some.injEq, List.set_set, Option.map_some, W.int.injEq, W.str.injEq, W.loc.injEq, Nat.reduceLeDiff, and_self, Int.reduceLT, Int.reduceLE, Int.reduceNeg, Int.reduceToNat, Int.reduceAdd, Int.reduceMul, Int.reduceSub, decide_eq_true_eq, wq_ixL e19, ekd, Kd.w, wq_ixDs e29, hdl, and_iff_right c1]
      split
      · rename_i hle
        have hw8 : k' < wds.length := by omega
        try simp (maxSteps := 500000) (implicitDefEqProofs := false) (disch := omega) only [↓pa0, ↓pa1, ↓pa2, ↓pa3, ↓pa4, ↓pa5, ↓pa6, pb0, pb1, pb2, pb3, pb4, pb5, pb6, List.map_cons, List.map_nil, List.length_cons, List.length_nil, List.replicate, List.cons_append, List.nil_append, Nat.reduceAdd, Nat.reduceSub, List.set_cons_zero, List.set_cons_succ, if_true, if_false, true_and, and_true, Bool.false_eq_true, Bool.not_true, Bool.not_false, ↓reduceIte, ifF, Nat.zero_add, startE, wipeE, Option.bind_some, Int.toNat_natCast, Option.some.injEq, List.set_set, Option.map_some, W.int.injEq, W.str.injEq, W.loc.injEq, Nat.reduceLeDiff, and_self, Int.reduceLT, Int.reduceLE, Int.reduceNeg, Int.reduceToNat, Int.reduceAdd, Int.reduceMul, Int.reduceSub, decide_eq_true_eq, wq_ixDs e29, hdl, and_iff_right c1, wq_ixL e89, show atI (wds.map tx) (k' : Int) = some (tx wds[k']) from Ev.atI_nat (by rw [List.getElem?_map, List.getElem?_eq_getElem hw8]; rfl), tyOk_l e109]
        have hpl := pi.len
        try simp (maxSteps := 500000) (implicitDefEqProofs := false) (disch := omega) only [↓pa0, ↓pa1, ↓pa2, ↓pa3, ↓pa4, ↓pa5, ↓pa6, pb0, pb1, pb2, pb3, pb4, pb5, pb6, List.map_cons, List.map_nil, List.length_cons, List.length_nil, List.replicate, List.cons_append, List.nil_append, Nat.reduceAdd, Nat.reduceSub, List.set_cons_zero, List.set_cons_succ, if_true, if_false, true_and, and_true, Bool.false_eq_true, Bool.not_true, Bool.not_false, ↓reduceIte, ifF, Nat.zero_add, startE, wipeE, Option.bind_some, Int.toNat_natCast, Option.some.injEq, List.set_set, Option.map_some, W.int.injEq, W.str.injEq, W.loc.injEq, Nat.reduceLeDiff, and_self, Int.reduceLT, Int.reduceLE, Int.reduceNeg, Int.reduceToNat, Int.reduceAdd, Int.reduceMul, Int.reduceSub, decide_eq_true_eq, appendW_l e109 (show (ps.map pnW).length < 1000000 by rw [List.length_map]; omega)]
        refine ⟨_, _, _, ps ++ [(wds[k'], kd.nm)], rfl, ⟨by simp; omega, ?_, ?_, ?_, ?_, hle⟩, X9.setN (by omega), st9.ne (by omega), at_ne en9 (by omega), at_ne e69 (by omega), at_ne e89 (by omega), ?_⟩
        · rw [List.map_append]
          exact sub_snoc pi.sub (List.getElem?_eq_getElem hw8)
        · intro p hp
          rcases List.mem_append.mp hp with hp | hp
          · exact pi.pk p hp
          · rw [List.mem_singleton.mp hp]; exact List.mem_map_of_mem hkd
        · rw [prodC_snoc, ← pi.rowE, kdAt_of hk.nd hkd]
        · have : 1 * 1 ≤ rows * kd.cnt := Int.mul_le_mul pi.pos (by omega) (by decide) (by omega)
          omega
        · rw [at_set' e109]; simp
      · exact ⟨_, _, rows, ps, rfl, ⟨by have := pi.len; omega, sub_next pi.sub, pi.pk, pi.rowE, pi.pos, pi.top⟩, X9, st9, en9, e69, e89, e109⟩
    · rintro s S8 ⟨x11, x12, rows, ps, rfl, pi, X8, st8, en8, e68, e88, e108⟩
      refine ⟨rng_end, ?_⟩
      have e18 := X8.get e1 (by simp; omega)
      simp (maxSteps := 500000) (implicitDefEqProofs := false) (disch := omega) only [↓pa0, ↓pa1, ↓pa2, ↓pa3, ↓pa4, ↓pa5, ↓pa6, pb0, pb1, pb2, pb3, pb4, pb5, pb6, List.map_cons, List.map_nil, List.length_cons, List.length_nil, List.replicate, List.cons_append, List.nil_append, Nat.reduceAdd, Nat.reduceSub, List.set_cons_zero, List.set_cons_succ, if_true, if_false, true_and, and_true, Bool.false_eq_true, Bool.not_true, Bool.not_false, ↓reduceIte, ifF, Nat.zero_add, startE, wipeE, Option.bind_some, Int.toNat_natCast, Option.some.injEq, List.set_set, Option.map_some, W.int.injEq, W.str.injEq, W.loc.injEq, Nat.reduceLeDiff, and_self, Int.reduceLT, Int.reduceLE, Int.reduceNeg, Int.reduceToNat, Int.reduceAdd, Int.reduceMul, Int.reduceSub, decide_eq_true_eq, tuplePW_l e108, lenW_l e18, List.length_map]
      refine take_ok (by omega) st8 (by omega) fun z8 o8 h81 h82 st9 => ?_
      obtain ⟨kd, hkd, ekd⟩ := kname h81 h82
      have X9 : Xt [i] S (S8.set i o8) := X8.setI (by simp)
      have e19 := X9.get e1 (by simp; omega)
      have en9 : (S8.set i o8)[p1]? = some (.lst (nms.map tx)) := at_ne en8 (by omega)
      have e69 : (S8.set i o8)[p6]? = some (.dct (hdD hs')) := at_ne e68 (by omega)
      generalize S8.set i o8 = S9 at *
      try simp (maxSteps := 500000) (implicitDefEqProofs := false) (disch := omega) only [↓pa0, ↓pa1, ↓pa2, ↓pa3, ↓pa4, ↓pa5, ↓pa6, pb0, pb1, pb2, pb3, pb4, pb5, pb6, List.map_cons, List.map_nil, List.length_cons, List.length_nil, List.replicate, List.cons_append, List.nil_append, Nat.reduceAdd, Nat.reduceSub, List.set_cons_zero, List.set_cons_succ, if_true, if_false, true_and, and_true, Bool.false_eq_true, Bool.not_true, Bool.not_false, ↓reduceIte, ifF, Nat.zero_add, startE, wipeE, Option.bind_some, Int.toNat_natCast, Option.some.injEq, List.set_set, Option.map_some, W.int.injEq, W.str.injEq, W.loc.injEq, Nat.reduceLeDiff, and_self, Int.reduceLT, Int.reduceLE, Int.reduceNeg, Int.reduceToNat, Int.reduceAdd, Int.reduceMul, Int.reduceSub, decide_eq_true_eq, wq_ixL e19, ekd, Kd.w, setO_d e69 key_str (show (hdD hs').length < 1000000 by rw [List.length_map]; omega)]
      rw [put_hd hnew]
      refine ⟨_, _, _, _, _, _, hs' ++ [⟨nm, ps, kd.nm⟩], rfl, by simp [hlen], X9.setN (by omega), st9.ne (by omega), at_ne en9 (by omega), ?_, ?_, ?_⟩
      · rw [at_set' e69]; simp [Hd.w]
      · rw [List.map_append, hnm, List.take_succ, hnk]; rfl
      · intro h hh
        rcases List.mem_append.mp hh with hh | hh
        · exact hok h hh
        · obtain rfl := List.mem_singleton.mp hh
          have hpl := pi.len
          exact ⟨hwd, by show ps.length ≤ 3; omega, (pi.sub.trans (List.take_sublist _ _)).nodup nd8, fun p hp => wo8 _ ((pi.sub.trans (List.take_sublist _ _)).subset (List.mem_map_of_mem hp)), pi.pk, List.mem_map_of_mem hkd, by rw [← pi.rowE]; exact pi.top⟩
  · rintro s S5 ⟨x7, x8, x9, x10, x11, x12, hs', rfl, hlen, x5, st5, en5, e65, hnm, hok⟩
    refine ⟨by rw [seqIt_l en5, List.getElem?_eq_none (by simp)], ?_⟩
    simp (maxSteps := 500000) (implicitDefEqProofs := false) (disch := omega) only [↓pa0, ↓pa1, ↓pa2, ↓pa3, ↓pa4, ↓pa5, ↓pa6, pb0, pb1, pb2, pb3, pb4, pb5, pb6, List.map_cons, List.map_nil, List.length_cons, List.length_nil, List.replicate, List.cons_append, List.nil_append, Nat.reduceAdd, Nat.reduceSub, List.set_cons_zero, List.set_cons_succ, if_true, if_false, true_and, and_true, Bool.false_eq_true, Bool.not_true, Bool.not_false, ↓reduceIte, ifF, Nat.zero_add, startE, wipeE, Option.bind_some, Int.toNat_natCast, Option.some.injEq, List.set_set, Option.map_some, W.int.injEq, W.str.injEq, W.loc.injEq, Nat.reduceLeDiff, and_self, Int.reduceLT, Int.reduceLE, Int.reduceNeg, Int.reduceToNat, Int.reduceAdd, Int.reduceMul, Int.reduceSub, decide_eq_true_eq]
    refine h hs' S5 p6 x5 st5 l6 ?_ (by omega) ⟨?_, hok⟩ e65
    · rintro rfl
      simp at hlen; omega
    · rw [hnm]
      exact (List.take_sublist _ _).nodup nd1
end Lw

set_option linter.all false
set_option maxRecDepth 100000
namespace Lw
open PySem L2 Ev
/-- what stands at a body, but for its parts -/
inductive Sg where
  | tag (t : List Nat) | nam (x : List Nat) | pair | one | oth | cho (ts : List (List Nat)) | ask (f : List Nat) | lt (x k : List Nat)
inductive Bd where
  | nd (g : Sg) (ps : List Bd)
instance : Inhabited Bd := ⟨.nd (.tag []) []⟩
abbrev sW (x : String) : W := .str (Str.ofString x)
def brW (ts : List (List Nat)) (ws : List W) : List W := (ts.zip ws).map fun p => .tup [tx p.1, p.2]
def Sg.mk : Sg → List W → List W
  | .tag t, _ => [sW "tag", tx t]
  | .nam x, _ => [sW "name", tx x]
  | .pair, ws => sW "pair" :: ws
  | .one, ws => sW "one" :: ws
  | .oth, ws => sW "other" :: ws
  | .cho ts, ws => [sW "choose", ws.headD .non, .tup (brW ts ws.tail)]
  | .ask f, ws => [sW "ask", tx f, .tup ws]
  | .lt x k, ws => sW "let" :: tx x :: tx k :: ws
def Sg.ar : Sg → Nat → Prop
  | .tag _, n => n = 0
  | .nam _, n => n = 0
  | .pair, n => n = 2
  | .one, n => n = 1
  | .oth, n => n = 1
  | .cho ts, n => n = ts.length + 1 ∧ ts.length ≤ 40
  | .ask _, n => n ≤ 40
  | .lt _ _, n => n = 2
theorem Sg.ar_le {g : Sg} {n : Nat} (h : g.ar n) : n ≤ 41 := by
  cases g <;> first | (have h : n = 0 := h; omega) | (have h : n = 1 := h; omega) | (have h : n = 2 := h; omega) | (have h : n ≤ 40 := h; omega) | (obtain ⟨h1, h2⟩ := h; omega)
mutual
def Bd.w : Bd → W
  | .nd g ps => .tup (g.mk (Bd.wl ps))
def Bd.wl : List Bd → List W
  | [] => []
  | p :: ps => p.w :: Bd.wl ps
end
mutual
def Bd.sz : Bd → Nat
  | .nd _ ps => 1 + Bd.szl ps
def Bd.szl : List Bd → Nat
  | [] => 0
  | p :: ps => p.sz + Bd.szl ps
end
mutual
def Bd.dp : Bd → Nat
  | .nd _ ps => 1 + Bd.dpl ps
def Bd.dpl : List Bd → Nat
  | [] => 0
  | p :: ps => max p.dp (Bd.dpl ps)
end
mutual
def Bd.ok : Bd → Prop
  | .nd g ps => g.ar ps.length ∧ Bd.okl ps
def Bd.okl : List Bd → Prop
  | [] => True
  | p :: ps => p.ok ∧ Bd.okl ps
end
theorem wl_map : ∀ ps : List Bd, Bd.wl ps = ps.map Bd.w
  | [] => rfl
  | p :: ps => by rw [Bd.wl, wl_map ps, List.map_cons]
theorem szl_sum : ∀ ps : List Bd, Bd.szl ps = (ps.map Bd.sz).sum
  | [] => rfl
  | p :: ps => by rw [Bd.szl, szl_sum ps, List.map_cons, List.sum_cons]
theorem okl_all : ∀ ps : List Bd, Bd.okl ps ↔ ∀ p ∈ ps, p.ok
  | [] => by simp [Bd.okl]
  | p :: ps => by rw [Bd.okl, okl_all ps]; simp
theorem dpl_le : ∀ {ps : List Bd} {n : Nat}, Bd.dpl ps ≤ n ↔ ∀ p ∈ ps, p.dp ≤ n
  | [], n => by simp [Bd.dpl]
  | p :: ps, n => by rw [Bd.dpl, Nat.max_le, dpl_le (ps := ps)]; simp
theorem Bd.sz_nd (g : Sg) (ps : List Bd) : (Bd.nd g ps).sz = 1 + (ps.map Bd.sz).sum := by rw [Bd.sz, szl_sum]
theorem Bd.dp_nd {g : Sg} {ps : List Bd} {n : Nat} : (Bd.nd g ps).dp ≤ n + 1 ↔ ∀ p ∈ ps, p.dp ≤ n := by
  rw [Bd.dp, ← dpl_le]; omega
theorem Bd.ok_nd {g : Sg} {ps : List Bd} : (Bd.nd g ps).ok ↔ g.ar ps.length ∧ ∀ p ∈ ps, p.ok := by rw [Bd.ok, okl_all]
theorem Bd.w_nd (g : Sg) (ps : List Bd) : (Bd.nd g ps).w = .tup (g.mk (ps.map Bd.w)) := by rw [Bd.w, wl_map]
theorem sz_pos (b : Bd) : 1 ≤ b.sz := by
  cases b; rw [Bd.sz]; omega
theorem mem_sum {A : Type} {f : A → Nat} : ∀ {l : List A} {a : A}, a ∈ l → f a ≤ (l.map f).sum
  | b :: l, a, h => by
    rw [List.map_cons, List.sum_cons]
    rcases List.mem_cons.mp h with rfl | h
    · omega
    · have := mem_sum (f := f) h; omega
theorem len_sum {A : Type} {f : A → Nat} (h1 : ∀ a, 1 ≤ f a) : ∀ (l : List A), l.length ≤ (l.map f).sum
  | [] => by simp
  | b :: l => by
    rw [List.map_cons, List.sum_cons, List.length_cons]
    have := len_sum h1 l; have := h1 b; omega
theorem Bd.dp_sz : ∀ (n : Nat) (b : Bd), b.sz ≤ n → b.dp ≤ n
  | 0, b, h => by have := sz_pos b; omega
  | n + 1, .nd g ps, h => by
    rw [Bd.sz_nd] at h
    rw [Bd.dp_nd]
    intro p hp
    have := mem_sum (f := Bd.sz) hp
    exact Bd.dp_sz n p (by omega)
/-- a kind of a body, by the names around -/
inductive Ty (ks : List Kd) (hs : List Hd) : List (List Nat × List Nat) → Bd → List Nat → Prop
  | tag {ar : List (List Nat × List Nat)} {k : Kd} {ts : List (List Nat)} {t : List Nat} (hk : k ∈ ks) (e : k.sh = .tags ts) (ht : t ∈ ts) : Ty ks hs ar (.nd (.tag t) []) k.nm
  | nam {ar : List (List Nat × List Nat)} {x k : List Nat} (h : (x, k) ∈ ar) : Ty ks hs ar (.nd (.nam x) []) k
  | pair {ar : List (List Nat × List Nat)} {k : Kd} {a b : List Nat} {A B : Bd} (hk : k ∈ ks) (e : k.sh = .pair a b) (hA : Ty ks hs ar A a) (hB : Ty ks hs ar B b) : Ty ks hs ar (.nd .pair [A, B]) k.nm
  | one {ar : List (List Nat × List Nat)} {k : Kd} {a b : List Nat} {A : Bd} (hk : k ∈ ks) (e : k.sh = .pair a b) (hA : Ty ks hs ar A k.nm) : Ty ks hs ar (.nd .one [A]) a
  | oth {ar : List (List Nat × List Nat)} {k : Kd} {a b : List Nat} {A : Bd} (hk : k ∈ ks) (e : k.sh = .pair a b) (hA : Ty ks hs ar A k.nm) : Ty ks hs ar (.nd .oth [A]) b
  | cho {ar : List (List Nat × List Nat)} {k : Kd} {ts : List (List Nat)} {kd : List Nat} {A : Bd} {Bs : List Bd} (hk : k ∈ ks) (e : k.sh = .tags ts) (hA : Ty ks hs ar A k.nm) (hl : Bs.length = ts.length) (hB : ∀ B ∈ Bs, Ty ks hs ar B kd) : Ty ks hs ar (.nd (.cho ts) (A :: Bs)) kd
  | ask {ar : List (List Nat × List Nat)} {h : Hd} {As : List Bd} (hh : h ∈ hs) (hl : As.length = h.ps.length) (hA : ∀ p ∈ h.ps.zip As, Ty ks hs ar p.2 p.1.2) : Ty ks hs ar (.nd (.ask h.nm) As) h.kd
  | lt {ar : List (List Nat × List Nat)} {x : List Nat} {k : Kd} {kd : List Nat} {A B : Bd} (hx : x ∉ ar.map Prod.fst) (hk : k ∈ ks) (hA : Ty ks hs (ar ++ [(x, k.nm)]) A k.nm) (hB : Ty ks hs (ar ++ [(x, k.nm)]) B kd) : Ty ks hs ar (.nd (.lt x k.nm) [A, B]) kd
/-- a definition -/
structure Df where
  hd : Hd
  bd : Bd
def Df.w (d : Df) : W := .tup [tx d.hd.nm, psW d.hd.ps, tx d.hd.kd, d.bd.w]
end Lw

set_option linter.all false
set_option maxRecDepth 100000
namespace Lw
open PySem L2 Ev
variable {EE : Exc}
abbrev Ar := List (List Nat × List Nat)
abbrev arD (ar : Ar) : List (W × W) := ar.map fun p => (.str (SX.S p.1), tx p.2)
theorem eqSx {a b : List Nat} : (SX.S a == SX.S b) = decide (a = b) := by
  by_cases h : a = b
  · subst h; simp
  · have : SX.S a ≠ SX.S b := fun e => h (SX.S_inj e)
    simp [h, this]
theorem arS_nd {ar : Ar} (h : (ar.map Prod.fst).Nodup) : (ar.map fun p => SX.S p.1).Nodup := by
  have := List.Pairwise.map (R := (· ≠ ·)) (S := (· ≠ ·)) SX.S (fun a b hab e => hab (SX.S_inj e)) h
  rw [List.map_map] at this
  exact this
theorem ar_at {ar : Ar} {p : List Nat × List Nat} (hn : (ar.map Prod.fst).Nodup) (h : p ∈ ar) : dlook (arD ar) (.inr (SX.S p.1)) = some (tx p.2) := dlook_some (f := fun p : List Nat × List Nat => SX.S p.1) (g := fun p => tx p.2) h (arS_nd hn)
/-- the names around of a kind -/
def arN (ar : Ar) (k : List Nat) : List (List Nat) := (ar.filter fun p => decide (p.2 = k)).map Prod.fst
def wdD (psh ph pl : Nat) (left : Int) : List (W × W) := [(sW "shapes", .loc psh), (sW "heads", .loc ph), (sW "lets", .loc pl), (sW "left", .int left)]
section
variable {psh ph pl : Nat} {left : Int}
theorem wd1 : dlook (wdD psh ph pl left) (.inr (Str.ofString "shapes")) = some (.loc psh) := rfl
theorem wd2 : dlook (wdD psh ph pl left) (.inr (Str.ofString "heads")) = some (.loc ph) := rfl
theorem wd3 : dlook (wdD psh ph pl left) (.inr (Str.ofString "lets")) = some (.loc pl) := rfl
theorem wd4 : dlook (wdD psh ph pl left) (.inr (Str.ofString "left")) = some (.int left) := rfl
theorem wdP3 {q : Nat} : dput (wdD psh ph pl left) (sW "lets") (.inr (Str.ofString "lets")) (.loc q) = wdD psh ph q left := rfl
theorem wdP4 {q : Int} : dput (wdD psh ph pl left) (sW "left") (.inr (Str.ofString "left")) (.int q) = wdD psh ph pl q := rfl
end
/-- the world of a body -/
structure WI (S : Sto) (i pw psh ph pl : Nat) (ks : List Kd) (hs : List Hd) : Prop where
  st : Strm S i
  w : ∃ (lets : List (List Nat)) (left : Int), S[pw]? = some (.dct (wdD psh ph pl left)) ∧ S[pl]? = some (.lst (lets.map tx)) ∧ lets.length ≤ 3 ∧ (∀ l ∈ lets, WordOf alphaL l) ∧ i ≠ pl ∧ pw ≠ pl
  sh : S[psh]? = some (.dct (shD ks))
  hd : S[ph]? = some (.fdc (hdD hs))
structure Sep (i pw psh ph : Nat) : Prop where
  a : i ≠ pw
  b : i ≠ psh
  c : i ≠ ph
  d : pw ≠ psh
  e : pw ≠ ph
theorem WI.mono {S S' : Sto} {i pw psh ph pl : Nat} {ks : List Kd} {hs : List Hd} (h : WI S i pw psh ph pl ks hs) (sp : Sep i pw psh ph) (x : Xt [i] S S') (st : Strm S' i) : WI S' i pw psh ph pl ks hs := by
  obtain ⟨lets, left, a, b, c, d, e, f⟩ := h.w
  have := sp.a; have := sp.b; have := sp.c
  exact ⟨st, ⟨lets, left, x.get a (by simp; omega), x.get b (by simp; omega), c, d, e, f⟩, x.get h.sh (by simp; omega), x.get h.hd (by simp; omega)⟩
theorem WI.mono0 {S S' : Sto} {i pw psh ph pl : Nat} {ks : List Kd} {hs : List Hd} (h : WI S i pw psh ph pl ks hs) (sp : Sep i pw psh ph) (x : Xt [] S S') : WI S' i pw psh ph pl ks hs := h.mono sp x.nil (h.st.mono x (by simp))
theorem WI.set {S : Sto} {i pw psh ph pl p : Nat} {o : O} {ks : List Kd} {hs : List Hd} (h : WI S i pw psh ph pl ks hs) (a1 : p ≠ i) (a2 : p ≠ pw) (a3 : p ≠ psh) (a4 : p ≠ ph) (a5 : p ≠ pl) : WI (S.set p o) i pw psh ph pl ks hs := by
  obtain ⟨lets, left, a, b, c, d, e, f⟩ := h.w
  exact ⟨h.st.ne a1, ⟨lets, left, at_ne a a2, at_ne b a5, c, d, e, f⟩, at_ne h.sh a3, at_ne h.hd a4⟩
/-- a name of the kinds around -/
theorem plain_ok {L1 L2 : List Nat} {top : Int} {ks : List Kd} {hs : List Hd} {ar : Ar} {i pw psh ph pa : Nat} (hk : KOk L1 L2 top ks) (hnd : (ar.map Prod.fst).Nodup) (hal : ar.length ≤ 1000) : ∀ (e n : Nat) (k : Kd) (S : Sto) (Q : W → Sto → Prop), k ∈ ks → k.dep < e → e + 2 ≤ n → Strm S i → i ≠ pa → i ≠ pw → i ≠ psh → pw ≠ pa → psh ≠ pa →
    (∃ pl left, S[pw]? = some (.dct (wdD psh ph pl left))) → S[psh]? = some (.dct (shD ks)) → S[pa]? = some (.dct (arD ar)) →
    (∀ S' (b : Bd), Xt [i] S S' → Strm S' i → Ty ks hs ar b k.nm → b.dp ≤ e → b.sz < 2 ^ e → Q b.w S') → wpR (call n .f_law_plain [.loc i, .loc pw, .loc pa, tx k.nm] S) Q
  | 0, n, k, S, Q, hm, hd, _, _, _, _, _, _, _, _, _, _, _ => by have := (hk.sub k hm).1; omega
  | e + 1, n, k, S, Q, hm, hd, hn, st, n1, n2, n3, n4, n5, ew, es, ea, hq => by
    obtain ⟨n, rfl⟩ : ∃ m, n = m + 1 := ⟨n - 1, by omega⟩
    obtain ⟨pl, left, ew⟩ := ew
    have s := (hk.sub k hm).2.2
    have la := lt_at ea
    have li := st.lt
    rw [call_s, body]
    simp (maxSteps := 500000) (implicitDefEqProofs := false) (disch := omega) only [↓pa0, ↓pa1, ↓pa2, ↓pa3, ↓pa4, ↓pa5, ↓pa6, pb0, pb1, pb2, pb3, pb4, pb5, pb6, List.map_cons, List.map_nil, List.length_cons, List.length_nil, List.replicate, List.cons_append, List.nil_append, Nat.reduceAdd, Nat.reduceSub, List.set_cons_zero, List.set_cons_succ, if_true, if_false, true_and, and_true, Bool.false_eq_true, Bool.not_true, Bool.not_false, ↓reduceIte, ifF, Nat.zero_add, startE, wipeE, Option.bind_some, Int.toNat_natCast, Option.some.injEq, List.set_set, Option.map_some, W.int.injEq, W.str.injEq, W.loc.injEq, Nat.reduceLeDiff, and_self, Int.reduceLT, Int.reduceLE, Int.reduceNeg, Int.reduceToNat, Int.reduceAdd, Int.reduceMul, Int.reduceSub, decide_eq_true_eq, m_f_law_plain]
    refine wp_lock (n := pa) rfl ea ?_
    have ea1 : (S.set pa (.fdc (arD ar)))[pa]? = some (.fdc (arD ar)) := at_set' ea
    simp (maxSteps := 500000) (implicitDefEqProofs := false) (disch := omega) only [↓pa0, ↓pa1, ↓pa2, ↓pa3, ↓pa4, ↓pa5, ↓pa6, pb0, pb1, pb2, pb3, pb4, pb5, pb6, List.map_cons, List.map_nil, List.length_cons, List.length_nil, List.replicate, List.cons_append, List.nil_append, Nat.reduceAdd, Nat.reduceSub, List.set_cons_zero, List.set_cons_succ, if_true, if_false, true_and, and_true, Bool.false_eq_true, Bool.not_true, Bool.not_false, ↓reduceIte, ifF, Nat.zero_add, startE, wipeE, Option.bind_some, Int.toNat_natCast, Option.some.injEq, List.set_set, Option.map_some, W.int.injEq, W.str.injEq, W.loc.injEq, Nat.reduceLeDiff, and_self, Int.reduceLT, Int.reduceLE, Int.reduceNeg, Int.reduceToNat, Int.reduceAdd, Int.reduceMul, Int.reduceSub, decide_eq_true_eq, wq_key]
    refine wo_ex (keyLen_f ea1) ?_
    rw [List.length_map]
    refine wp_filt (fun p : List Nat × List Nat => tx p.1) (fun p => tx p.1) (fun p => decide (p.2 = k.nm)) (fun j => by rw [keyIt_f ea1, List.getElem?_map]; cases ar[j]? <;> rfl) (by omega) ?_ ?_
    · intro p hp
      refine ⟨_, rfl, ?_, fun _ => ?_⟩
      · simp (maxSteps := 500000) (implicitDefEqProofs := false) (disch := omega) only [↓pa0, ↓pa1, ↓pa2, ↓pa3, ↓pa4, ↓pa5, ↓pa6, pb0, pb1, pb2, pb3, pb4, pb5, pb6, List.map_cons, List.map_nil, List.length_cons, List.length_nil, List.replicate, List.cons_append, List.nil_append, Nat.reduceAdd, Nat.reduceSub, List.set_cons_zero, List.set_cons_succ, if_true, if_false, true_and, and_true, Bool.false_eq_true, Bool.not_true, Bool.not_false, ↓reduceIte, ifF, Nat.zero_add, startE, wipeE, Option.bind_some, Int.toNat_natCast, Option.some.injEq, List.set_set, Option.map_some, W.int.injEq, W.str.injEq, W.loc.injEq, Nat.reduceLeDiff, and_self, Int.reduceLT, Int.reduceLE, Int.reduceNeg, Int.reduceToNat, Int.reduceAdd, Int.reduceMul, Int.reduceSub, decide_eq_true_eq, wq_ixFs ea1, ar_at hnd hp, eqSx]
      · simp (maxSteps := 500000) (implicitDefEqProofs := false) (disch := omega) only [↓pa0, ↓pa1, ↓pa2, ↓pa3, ↓pa4, ↓pa5, ↓pa6, pb0, pb1, pb2, pb3, pb4, pb5, pb6, List.map_cons, List.map_nil, List.length_cons, List.length_nil, List.replicate, List.cons_append, List.nil_append, Nat.reduceAdd, Nat.reduceSub, List.set_cons_zero, List.set_cons_succ, if_true, if_false, true_and, and_true, Bool.false_eq_true, Bool.not_true, Bool.not_false, ↓reduceIte, ifF, Nat.zero_add, startE, wipeE, Option.bind_some, Int.toNat_natCast, Option.some.injEq, List.set_set, Option.map_some, W.int.injEq, W.str.injEq, W.loc.injEq, Nat.reduceLeDiff, and_self, Int.reduceLT, Int.reduceLE, Int.reduceNeg, Int.reduceToNat, Int.reduceAdd, Int.reduceMul, Int.reduceSub, decide_eq_true_eq]
    have en : (ar.filter fun p => decide (p.2 = k.nm)).map (fun p => tx p.1) = (arN ar k.nm).map tx := by unfold arN; rw [List.map_map]; rfl
    rw [en]
    have X1 : Xt [] S (((S.set pa (.fdc (arD ar))) ++ [O.lst ((arN ar k.nm).map tx)]).set pa (.dct (arD ar))) := Xt.unlock ea Xt.app
    have e1 : (((S.set pa (.fdc (arD ar))) ++ [O.lst ((arN ar k.nm).map tx)]).set pa (.dct (arD ar)))[(S.set pa (.fdc (arD ar))).length]? = some (.lst ((arN ar k.nm).map tx)) := at_ne at_new' (by rw [List.length_set]; omega)
    have hN : ∀ x ∈ arN ar k.nm, (x, k.nm) ∈ ar := fun x hx => by
      obtain ⟨p, hp, rfl⟩ := List.mem_map.mp hx
      obtain ⟨h1, h2⟩ := List.mem_filter.mp hp
      have := of_decide_eq_true h2
      rw [← this]; exact h1
    have lN : (arN ar k.nm).length ≤ 1000 := by unfold arN; rw [List.length_map]; have := List.length_filter_le (fun p : List Nat × List Nat => decide (p.2 = k.nm)) ar; omega
    generalize hp4 : (S.set pa (.fdc (arD ar))).length = p4 at *
    rw [List.length_set] at hp4
    rw [onUnl_nx]
    generalize ((S.set pa (.fdc (arD ar))) ++ [O.lst ((arN ar k.nm).map tx)]).set pa (.dct (arD ar)) = S1 at *
    have st1 : Strm S1 i := st.mono X1 (by simp)
    have li1 := st1.lt
    refine wp_cutIf (fun S' => Xt [i] S S' ∧ Strm S' i) ?_ ?_
    · simp (maxSteps := 500000) (implicitDefEqProofs := false) (disch := omega) only [↓pa0, ↓pa1, ↓pa2, ↓pa3, ↓pa4, ↓pa5, ↓pa6, pb0, pb1, pb2, pb3, pb4, pb5, pb6, List.map_cons, List.map_nil, List.length_cons, List.length_nil, List.replicate, List.cons_append, List.nil_append, Nat.reduceAdd, Nat.reduceSub, List.set_cons_zero, List.set_cons_succ, if_true, if_false, true_and, and_true, Bool.false_eq_true, Bool.not_true, Bool.not_false, ↓reduceIte, ifF, Nat.zero_add, startE, wipeE, Option.bind_some, Int.toNat_natCast, Option.some.injEq, List.set_set, Option.map_some, W.int.injEq, W.str.injEq, W.loc.injEq, Nat.reduceLeDiff, and_self, Int.reduceLT, Int.reduceLE, Int.reduceNeg, Int.reduceToNat, Int.reduceAdd, Int.reduceMul, Int.reduceSub, decide_eq_true_eq, neW_nil (at_app e1) (pd_strs (n := 62) _) at_new']
      have X2 : Xt [i] S (S1 ++ [O.lst []]) := X1.nil.appI
      have e2 : (S1 ++ [O.lst []])[p4]? = some (.lst ((arN ar k.nm).map tx)) := at_app e1
      have st2 : Strm (S1 ++ [O.lst []]) i := st1.app
      generalize S1 ++ [O.lst []] = S2 at *
      split
      · rename_i hne
        refine take_ok (by omega) st2 (by decide) fun z o h1 h2 st3 => ?_
        have X3 : Xt [i] S (S2.set i o) := X2.setI (by simp)
        have e3 : (S2.set i o)[p4]? = some (.lst ((arN ar k.nm).map tx)) := at_ne e2 (by omega)
        generalize S2.set i o = S3 at *
        simp (maxSteps := 500000) (implicitDefEqProofs := false) (disch := omega) only [↓pa0, ↓pa1, ↓pa2, ↓pa3, ↓pa4, ↓pa5, ↓pa6, pb0, pb1, pb2, pb3, pb4, pb5, pb6, List.map_cons, List.map_nil, List.length_cons, List.length_nil, List.replicate, List.cons_append, List.nil_append, Nat.reduceAdd, Nat.reduceSub, List.set_cons_zero, List.set_cons_succ, if_true, if_false, true_and, and_true, Bool.false_eq_true, Bool.not_true, Bool.not_false, ↓reduceIte, ifF, Nat.zero_add, startE, wipeE, Option.bind_some, Int.toNat_natCast, Option.some.injEq, List.set_set, Option.map_some, W.int.injEq, W.str.injEq, W.loc.injEq, Nat.reduceLeDiff, and_self, Int.reduceLT, Int.reduceLE, Int.reduceNeg, Int.reduceToNat, Int.reduceAdd, Int.reduceMul, Int.reduceSub, decide_eq_true_eq]
        split
        · simp (maxSteps := 500000) (implicitDefEqProofs := false) (disch := omega) only [↓pa0, ↓pa1, ↓pa2, ↓pa3, ↓pa4, ↓pa5, ↓pa6, pb0, pb1, pb2, pb3, pb4, pb5, pb6, List.map_cons, List.map_nil, List.length_cons, List.length_nil, List.replicate, List.cons_append, List.nil_append, Nat.reduceAdd, Nat.reduceSub, List.set_cons_zero, List.set_cons_succ, if_true, if_false, true_and, and_true, Bool.false_eq_true, Bool.not_true, Bool.not_false, ↓reduceIte, ifF, Nat.zero_add, startE, wipeE, Option.bind_some, Int.toNat_natCast, Option.some.injEq, List.set_set, Option.map_some, W.int.injEq, W.str.injEq, W.loc.injEq, Nat.reduceLeDiff, and_self, Int.reduceLT, Int.reduceLE, Int.reduceNeg, Int.reduceToNat, Int.reduceAdd, Int.reduceMul, Int.reduceSub, decide_eq_true_eq, lenW_l e3, List.length_map]
          have hpos : 0 < (arN ar k.nm).length := by
            rcases h : arN ar k.nm with _ | ⟨x, r⟩
            · rw [h] at hne; simp at hne
            · simp
          refine take_ok (by omega) st3 (by omega) fun z4 o4 h41 h42 st4 => ?_
          have X4 : Xt [i] S (S3.set i o4) := X3.setI (by simp)
          have e4 : (S3.set i o4)[p4]? = some (.lst ((arN ar k.nm).map tx)) := at_ne e3 (by omega)
          generalize S3.set i o4 = S4 at *
          obtain ⟨j, rfl⟩ : ∃ a : Nat, z4 = a := ⟨z4.toNat, by omega⟩
          have hj : j < (arN ar k.nm).length := by omega
          simp (maxSteps := 500000) (implicitDefEqProofs := false) (disch := omega) only [↓pa0, ↓pa1, ↓pa2, ↓pa3, ↓pa4, ↓pa5, ↓pa6, pb0, pb1, pb2, pb3, pb4, pb5, pb6, List.map_cons, List.map_nil, List.length_cons, List.length_nil, List.replicate, List.cons_append, List.nil_append, Nat.reduceAdd, Nat.reduceSub, List.set_cons_zero, List.set_cons_succ, if_true, if_false, true_and, and_true, Bool.false_eq_true, Bool.not_true, Bool.not_false, ↓reduceIte, ifF, Nat.zero_add, startE, wipeE, Option.bind_some, Int.toNat_natCast, Option.some.injEq, List.set_set, Option.map_some, W.int.injEq, W.str.injEq, W.loc.injEq, Nat.reduceLeDiff, and_self, Int.reduceLT, Int.reduceLE, Int.reduceNeg, Int.reduceToNat, Int.reduceAdd, Int.reduceMul, Int.reduceSub, decide_eq_true_eq, wq_ixL e4, show atI ((arN ar k.nm).map tx) (j : Int) = some (tx (arN ar k.nm)[j]) from Ev.atI_nat (by rw [List.getElem?_map, List.getElem?_eq_getElem hj]; rfl)]
          exact hq S4 (.nd (.nam (arN ar k.nm)[j]) []) X4 st4 (.nam (hN _ (List.getElem_mem hj))) (Bd.dp_nd.mpr fun p hp => by cases hp) (by rw [Bd.sz_nd]; have := Nat.one_lt_two_pow (n := e + 1) (by omega); simpa using this)
        · exact ⟨X3, st3⟩
      · exact ⟨X2, st2⟩
    · rintro S5 ⟨X5, st5⟩
      have ew5 := X5.get ew (by simp; omega)
      have es5 := X5.get es (by simp; omega)
      have ea5 := X5.get ea (by simp; omega)
      have nd := hk.nd
      simp (maxSteps := 500000) (implicitDefEqProofs := false) (disch := omega) only [↓pa0, ↓pa1, ↓pa2, ↓pa3, ↓pa4, ↓pa5, ↓pa6, pb0, pb1, pb2, pb3, pb4, pb5, pb6, List.map_cons, List.map_nil, List.length_cons, List.length_nil, List.replicate, List.cons_append, List.nil_append, Nat.reduceAdd, Nat.reduceSub, List.set_cons_zero, List.set_cons_succ, if_true, if_false, true_and, and_true, Bool.false_eq_true, Bool.not_true, Bool.not_false, ↓reduceIte, ifF, Nat.zero_add, startE, wipeE, Option.bind_some, Int.toNat_natCast, Option.some.injEq, List.set_set, Option.map_some, W.int.injEq, W.str.injEq, W.loc.injEq, Nat.reduceLeDiff, and_self, Int.reduceLT, Int.reduceLE, Int.reduceNeg, Int.reduceToNat, Int.reduceAdd, Int.reduceMul, Int.reduceSub, decide_eq_true_eq, wq_ixDs ew5, wd1, wq_ixDs es5, sh_at nd hm]
      have sz1 : (Bd.nd (.tag []) []).sz < 2 ^ (e + 1) := by rw [Bd.sz_nd]; have := Nat.one_lt_two_pow (n := e + 1) (by omega); simpa using this
      cases ek : k.sh with
      | tags ts =>
        rw [ek] at s
        simp (maxSteps := 500000) (implicitDefEqProofs := false) (disch := omega) only [↓pa0, ↓pa1, ↓pa2, ↓pa3, ↓pa4, ↓pa5, ↓pa6, pb0, pb1, pb2, pb3, pb4, pb5, pb6, List.map_cons, List.map_nil, List.length_cons, List.length_nil, List.replicate, List.cons_append, List.nil_append, Nat.reduceAdd, Nat.reduceSub, List.set_cons_zero, List.set_cons_succ, if_true, if_false, true_and, and_true, Bool.false_eq_true, Bool.not_true, Bool.not_false, ↓reduceIte, ifF, Nat.zero_add, startE, wipeE, Option.bind_some, Int.toNat_natCast, Option.some.injEq, List.set_set, Option.map_some, W.int.injEq, W.str.injEq, W.loc.injEq, Nat.reduceLeDiff, and_self, Int.reduceLT, Int.reduceLE, Int.reduceNeg, Int.reduceToNat, Int.reduceAdd, Int.reduceMul, Int.reduceSub, decide_eq_true_eq, Sh.w, show ((Str.ofString "tags" == Str.ofString "tags") = true) from by decide]
        refine take_ok (by omega) st5 (by simp; omega) fun z6 o6 h61 h62 st6 => ?_
        rw [List.length_map] at h62
        have X6 : Xt [i] S (S5.set i o6) := X5.setI (by simp)
        generalize S5.set i o6 = S6 at *
        obtain ⟨j, rfl⟩ : ∃ a : Nat, z6 = a := ⟨z6.toNat, by omega⟩
        have hj : j < ts.length := by omega
        try simp (maxSteps := 500000) (implicitDefEqProofs := false) (disch := omega) only [↓pa0, ↓pa1, ↓pa2, ↓pa3, ↓pa4, ↓pa5, ↓pa6, pb0, pb1, pb2, pb3, pb4, pb5, pb6, List.map_cons, List.map_nil, List.length_cons, List.length_nil, List.replicate, List.cons_append, List.nil_append, Nat.reduceAdd, Nat.reduceSub, List.set_cons_zero, List.set_cons_succ, if_true, if_false, true_and, and_true, Bool.false_eq_true, Bool.not_true, Bool.not_false, ↓reduceIte, ifF, Nat.zero_add, startE, wipeE, Option.bind_some, Int.toNat_natCast, Option.some.injEq, List.set_set, Option.map_some, W.int.injEq, W.str.injEq, W.loc.injEq, Nat.reduceLeDiff, and_self, Int.reduceLT, Int.reduceLE, Int.reduceNeg, Int.reduceToNat, Int.reduceAdd, Int.reduceMul, Int.reduceSub, decide_eq_true_eq, show atI (ts.map tx) (j : Int) = some (tx ts[j]) from Ev.atI_nat (by rw [List.getElem?_map, List.getElem?_eq_getElem hj]; rfl)]
        exact hq S6 (.nd (.tag ts[j]) []) X6 st6 (.tag hm ek (List.getElem_mem hj)) (Bd.dp_nd.mpr fun p hp => by cases hp) (by rw [Bd.sz_nd] at sz1 ⊢; exact sz1)
      | pair a b =>
        rw [ek] at s
        obtain ⟨x, hx, y, hy, rfl, rfl, hx0, hxd, hy0, hyd, hc⟩ := s
        simp (maxSteps := 500000) (implicitDefEqProofs := false) (disch := omega) only [↓pa0, ↓pa1, ↓pa2, ↓pa3, ↓pa4, ↓pa5, ↓pa6, pb0, pb1, pb2, pb3, pb4, pb5, pb6, List.map_cons, List.map_nil, List.length_cons, List.length_nil, List.replicate, List.cons_append, List.nil_append, Nat.reduceAdd, Nat.reduceSub, List.set_cons_zero, List.set_cons_succ, if_true, if_false, true_and, and_true, Bool.false_eq_true, Bool.not_true, Bool.not_false, ↓reduceIte, ifF, Nat.zero_add, startE, wipeE, Option.bind_some, Int.toNat_natCast, Option.some.injEq, List.set_set, Option.map_some, W.int.injEq, W.str.injEq, W.loc.injEq, Nat.reduceLeDiff, and_self, Int.reduceLT, Int.reduceLE, Int.reduceNeg, Int.reduceToNat, Int.reduceAdd, Int.reduceMul, Int.reduceSub, decide_eq_true_eq, Sh.w, show ((Str.ofString "pair" == Str.ofString "tags") = false) from by decide]
        refine plain_ok (hs := hs) hk hnd hal e n x S5 _ hx (by omega) (by omega) st5 n1 n2 n3 n4 n5 ⟨pl, left, ew5⟩ es5 ea5 fun S6 A X6 st6 tA dA zA => ?_
        simp (maxSteps := 500000) (implicitDefEqProofs := false) (disch := omega) only [↓pa0, ↓pa1, ↓pa2, ↓pa3, ↓pa4, ↓pa5, ↓pa6, pb0, pb1, pb2, pb3, pb4, pb5, pb6, List.map_cons, List.map_nil, List.length_cons, List.length_nil, List.replicate, List.cons_append, List.nil_append, Nat.reduceAdd, Nat.reduceSub, List.set_cons_zero, List.set_cons_succ, if_true, if_false, true_and, and_true, Bool.false_eq_true, Bool.not_true, Bool.not_false, ↓reduceIte, ifF, Nat.zero_add, startE, wipeE, Option.bind_some, Int.toNat_natCast, Option.some.injEq, List.set_set, Option.map_some, W.int.injEq, W.str.injEq, W.loc.injEq, Nat.reduceLeDiff, and_self, Int.reduceLT, Int.reduceLE, Int.reduceNeg, Int.reduceToNat, Int.reduceAdd, Int.reduceMul, Int.reduceSub, decide_eq_true_eq]
        refine plain_ok (hs := hs) hk hnd hal e n y S6 _ hy (by omega) (by omega) st6 n1 n2 n3 n4 n5 ⟨pl, left, X6.get ew5 (by simp; omega)⟩ (X6.get es5 (by simp; omega)) (X6.get ea5 (by simp; omega)) fun S7 B X7 st7 tB dB zB => ?_
        try simp (maxSteps := 500000) (implicitDefEqProofs := false) (disch := omega) only [↓pa0, ↓pa1, ↓pa2, ↓pa3, ↓pa4, ↓pa5, ↓pa6, pb0, pb1, pb2, pb3, pb4, pb5, pb6, List.map_cons, List.map_nil, List.length_cons, List.length_nil, List.replicate, List.cons_append, List.nil_append, Nat.reduceAdd, Nat.reduceSub, List.set_cons_zero, List.set_cons_succ, if_true, if_false, true_and, and_true, Bool.false_eq_true, Bool.not_true, Bool.not_false, ↓reduceIte, ifF, Nat.zero_add, startE, wipeE, Option.bind_some, Int.toNat_natCast, Option.some.injEq, List.set_set, Option.map_some, W.int.injEq, W.str.injEq, W.loc.injEq, Nat.reduceLeDiff, and_self, Int.reduceLT, Int.reduceLE, Int.reduceNeg, Int.reduceToNat, Int.reduceAdd, Int.reduceMul, Int.reduceSub, decide_eq_true_eq]
        have e7 := hq S7 (.nd .pair [A, B]) ((X5.trans X6).trans X7) st7 (.pair hm ek tA tB) (Bd.dp_nd.mpr fun p hp => by
          rcases List.mem_cons.mp hp with rfl | hp
          · exact dA
          · rw [List.mem_singleton.mp hp]; exact dB) (by rw [Bd.sz_nd, Nat.pow_succ]; simp; omega)
        rw [Bd.w_nd] at e7
        exact e7
end Lw

set_option linter.all false
set_option maxRecDepth 100000
set_option maxHeartbeats 4000000
namespace Lw
open PySem L2 Ev
variable {EE : Exc}
/-- what _law_body does at a depth -/
def BodyAt [EE : Exc] (f : Fn) (ks : List Kd) (hs : List Hd) (i pw psh ph : Nat) (m d dd : Nat) : Prop := ∀ (n : Nat) (ar : Ar) (pa pl : Nat) (k : Kd) (S : Sto) (Q : W → Sto → Prop), m ≤ n → k ∈ ks → (ar.map Prod.fst).Nodup → ar.length + d ≤ 100 → i ≠ pa → pw ≠ pa → psh ≠ pa → ph ≠ pa →
  S[pa]? = some (.dct (arD ar)) → WI S i pw psh ph pl ks hs → (∀ S' b pl', Xt [i, pw] S S' → WI S' i pw psh ph pl' ks hs → (pl' = pl ∨ S.length ≤ pl') → Ty ks hs ar b k.nm → b.dp ≤ dd → Q b.w S') → wpR (call n f [.loc i, .loc pw, .loc pa, tx k.nm, .int (d : Int)] S) Q
section
variable {L1 L2 : List Nat} {top : Int} {ks : List Kd} {hs : List Hd} {i pw psh ph : Nat}
theorem x2_1 {S S' : Sto} (x : Xt [i] S S') : Xt [i, pw] S S' := x.mono (by simp)
/-- plain, in the world -/
theorem plainW (hk : KOk L1 L2 top ks) (sp : Sep i pw psh ph) {n : Nat} {ar : Ar} {pa pl : Nat} {k : Kd} {S : Sto} {Q : W → Sto → Prop} (hn : 5 ≤ n) (hm : k ∈ ks) (hnd : (ar.map Prod.fst).Nodup) (hal : ar.length ≤ 1000) (n1 : i ≠ pa) (n2 : pw ≠ pa) (n3 : psh ≠ pa) (ea : S[pa]? = some (.dct (arD ar))) (wi : WI S i pw psh ph pl ks hs)
    (hq : ∀ S' b, Xt [i] S S' → WI S' i pw psh ph pl ks hs → Ty ks hs ar b k.nm → b.dp ≤ 3 → b.sz < 8 → Q b.w S') : wpR (call n .f_law_plain [.loc i, .loc pw, .loc pa, tx k.nm] S) Q := by
  obtain ⟨lets, left, h1, _⟩ := wi.w
  have := (hk.sub k hm).2.1
  exact plain_ok (hs := hs) hk hnd hal 3 n k S Q hm (by omega) (by omega) wi.st n1 sp.a sp.b n2 n3 ⟨pl, left, h1⟩ wi.sh ea fun S' b x st t d z => hq S' b x (wi.mono sp x st) t d z
theorem some_ok (hk : KOk L1 L2 top ks) (sp : Sep i pw psh ph) {m d : Nat} (hm : 5 ≤ m) (ih : BodyAt .f_law_body ks hs i pw psh ph m d (d + 3)) : BodyAt .f_law_some ks hs i pw psh ph (m + 1) d (d + 3) := by
  intro n ar pa pl k S Q hn hkm hnd hal n1 n2 n3 n4 ea wi hq
  obtain ⟨n, rfl⟩ : ∃ m, n = m + 1 := ⟨n - 1, by omega⟩
  have := sp.a
  rw [call_s, body]
  simp (maxSteps := 500000) (implicitDefEqProofs := false) (disch := omega) only [↓pa0, ↓pa1, ↓pa2, ↓pa3, ↓pa4, ↓pa5, ↓pa6, pb0, pb1, pb2, pb3, pb4, pb5, pb6, List.map_cons, List.map_nil, List.length_cons, List.length_nil, List.replicate, List.cons_append, List.nil_append, Nat.reduceAdd, Nat.reduceSub, List.set_cons_zero, List.set_cons_succ, if_true, if_false, true_and, and_true, Bool.false_eq_true, Bool.not_true, Bool.not_false, ↓reduceIte, ifF, Nat.zero_add, startE, wipeE, Option.bind_some, Int.toNat_natCast, Option.some.injEq, List.set_set, Option.map_some, W.int.injEq, W.str.injEq, W.loc.injEq, Nat.reduceLeDiff, and_self, Int.reduceLT, Int.reduceLE, Int.reduceNeg, Int.reduceToNat, Int.reduceAdd, Int.reduceMul, Int.reduceSub, decide_eq_true_eq, m_f_law_some]
  refine take_ok (by omega) wi.st (by decide) fun z o h1 h2 st1 => ?_
  have X1 : Xt [i] S (S.set i o) := Xt.set (by simp)
  have ea1 : (S.set i o)[pa]? = some (.dct (arD ar)) := at_ne ea n1
  have wi1 := wi.mono sp X1 st1
  generalize S.set i o = S1 at *
  simp (maxSteps := 500000) (implicitDefEqProofs := false) (disch := omega) only [↓pa0, ↓pa1, ↓pa2, ↓pa3, ↓pa4, ↓pa5, ↓pa6, pb0, pb1, pb2, pb3, pb4, pb5, pb6, List.map_cons, List.map_nil, List.length_cons, List.length_nil, List.replicate, List.cons_append, List.nil_append, Nat.reduceAdd, Nat.reduceSub, List.set_cons_zero, List.set_cons_succ, if_true, if_false, true_and, and_true, Bool.false_eq_true, Bool.not_true, Bool.not_false, ↓reduceIte, ifF, Nat.zero_add, startE, wipeE, Option.bind_some, Int.toNat_natCast, Option.some.injEq, List.set_set, Option.map_some, W.int.injEq, W.str.injEq, W.loc.injEq, Nat.reduceLeDiff, and_self, Int.reduceLT, Int.reduceLE, Int.reduceNeg, Int.reduceToNat, Int.reduceAdd, Int.reduceMul, Int.reduceSub, decide_eq_true_eq]
  split
  · exact plainW hk sp (by omega) hkm hnd (by omega) n1 n2 n3 ea1 wi1 fun S' b x w t d _ => hq S' b pl (x2_1 (X1.trans x)) w (.inl rfl) t (by omega)
  · exact ih n ar pa pl k S1 _ (by omega) hkm hnd hal n1 n2 n3 n4 ea1 wi1 fun S' b pl' x w hp t d => hq S' b pl' ((x2_1 X1).trans x) w (hp.imp_right fun z => Nat.le_trans X1.len z) t d
def isTg : Sh → Bool
  | .tags _ => true
  | _ => false
theorem KOk.first {ks : List Kd} (hk : KOk L1 L2 top ks) (hne : ks ≠ []) : 0 < (ks.filter fun k => isTg k.sh).length := by
  induction hk with
  | nil => exact absurd rfl hne
  | tags h _ _ _ _ _ _ _ ih => rw [List.filter_append]; simp [isTg]
  | @pair ks nm a b h _ _ ha hb _ _ _ ih =>
    rw [List.filter_append, List.length_append]
    have := ih (List.ne_nil_of_mem ha)
    omega
theorem tagK_w {k : Kd} : (match k.sh.w with | .tup (x :: _) => eqW x (sW "tags") ([] : Sto) | _ => .no) = .ok (.bl (isTg k.sh)) [] := by
  cases k.sh <;> rfl
theorem zip_snoc {A B : Type} : ∀ (l : List A) (m : List B) (b : B) (h : m.length < l.length), l.zip (m ++ [b]) = l.zip m ++ [(l[m.length], b)]
  | a :: l, [], b, h => by simp
  | a :: l, x :: m, b, h => by
    have := zip_snoc l m b (by simpa using h)
    simp [this]
theorem brW_snoc {ts : List (List Nat)} {ws : List W} {w : W} (h : ws.length < ts.length) : brW ts (ws ++ [w]) = brW ts ws ++ [.tup [tx ts[ws.length], w]] := by
  unfold brW
  rw [zip_snoc _ _ _ h, List.map_append]; rfl
theorem ne_new {S : Sto} {p q : Nat} (h : q < S.length) (hp : S.length ≤ p) : p ≠ q := Nat.ne_of_gt (Nat.lt_of_lt_of_le h hp)
theorem choose_ok (hk : KOk alphaL alphaU top ks) (hne : ks ≠ []) (hl : ks.length ≤ 6) (sp : Sep i pw psh ph) {m d : Nat} (hm : 5 ≤ m) (ih : BodyAt .f_law_body ks hs i pw psh ph m d (d + 3)) (is : BodyAt .f_law_some ks hs i pw psh ph (m + 1) d (d + 3)) : BodyAt .f_law_choose ks hs i pw psh ph (m + 2) (d + 1) (d + 4) := by
  intro n ar pa pl k S Q hn hkm hnd hal n1 n2 n3 n4 ea wi hq
  obtain ⟨n, rfl⟩ : ∃ m, n = m + 1 := ⟨n - 1, by omega⟩
  have sa := sp.a; have sb := sp.b; have sc := sp.c; have sd := sp.d; have se := sp.e
  obtain ⟨lets, left, w1, w2, w3, w4, w5, w6⟩ := wi.w
  have esh := wi.sh
  have lsh := lt_at esh
  have nd := hk.nd
  rw [call_s, body]
  simp (maxSteps := 500000) (implicitDefEqProofs := false) (disch := omega) only [↓pa0, ↓pa1, ↓pa2, ↓pa3, ↓pa4, ↓pa5, ↓pa6, pb0, pb1, pb2, pb3, pb4, pb5, pb6, List.map_cons, List.map_nil, List.length_cons, List.length_nil, List.replicate, List.cons_append, List.nil_append, Nat.reduceAdd, Nat.reduceSub, List.set_cons_zero, List.set_cons_succ, if_true, if_false, true_and, and_true, Bool.false_eq_true, Bool.not_true, Bool.not_false, ↓reduceIte, ifF, Nat.zero_add, startE, wipeE, Option.bind_some, Int.toNat_natCast, Option.some.injEq, List.set_set, Option.map_some, W.int.injEq, W.str.injEq, W.loc.injEq, Nat.reduceLeDiff, and_self, Int.reduceLT, Int.reduceLE, Int.reduceNeg, Int.reduceToNat, Int.reduceAdd, Int.reduceMul, Int.reduceSub, decide_eq_true_eq, m_f_law_choose]
  refine wp_lockW (n := psh) (kvs := shD ks) (by simp (maxSteps := 500000) (implicitDefEqProofs := false) (disch := omega) only [↓pa0, ↓pa1, ↓pa2, ↓pa3, ↓pa4, ↓pa5, ↓pa6, pb0, pb1, pb2, pb3, pb4, pb5, pb6, List.map_cons, List.map_nil, List.length_cons, List.length_nil, List.replicate, List.cons_append, List.nil_append, Nat.reduceAdd, Nat.reduceSub, List.set_cons_zero, List.set_cons_succ, if_true, if_false, true_and, and_true, Bool.false_eq_true, Bool.not_true, Bool.not_false, ↓reduceIte, ifF, Nat.zero_add, startE, wipeE, Option.bind_some, Int.toNat_natCast, Option.some.injEq, List.set_set, Option.map_some, W.int.injEq, W.str.injEq, W.loc.injEq, Nat.reduceLeDiff, and_self, Int.reduceLT, Int.reduceLE, Int.reduceNeg, Int.reduceToNat, Int.reduceAdd, Int.reduceMul, Int.reduceSub, decide_eq_true_eq, wq_ixDs w1, wd1]) esh ?_
  have esh1 : (S.set psh (.fdc (shD ks)))[psh]? = some (.fdc (shD ks)) := at_set' esh
  have w11 : (S.set psh (.fdc (shD ks)))[pw]? = some (.dct (wdD psh ph pl left)) := at_ne w1 (by omega)
  simp (maxSteps := 500000) (implicitDefEqProofs := false) (disch := omega) only [↓pa0, ↓pa1, ↓pa2, ↓pa3, ↓pa4, ↓pa5, ↓pa6, pb0, pb1, pb2, pb3, pb4, pb5, pb6, List.map_cons, List.map_nil, List.length_cons, List.length_nil, List.replicate, List.cons_append, List.nil_append, Nat.reduceAdd, Nat.reduceSub, List.set_cons_zero, List.set_cons_succ, if_true, if_false, true_and, and_true, Bool.false_eq_true, Bool.not_true, Bool.not_false, ↓reduceIte, ifF, Nat.zero_add, startE, wipeE, Option.bind_some, Int.toNat_natCast, Option.some.injEq, List.set_set, Option.map_some, W.int.injEq, W.str.injEq, W.loc.injEq, Nat.reduceLeDiff, and_self, Int.reduceLT, Int.reduceLE, Int.reduceNeg, Int.reduceToNat, Int.reduceAdd, Int.reduceMul, Int.reduceSub, decide_eq_true_eq, wq_key, wq_ixDs w11, wd1]
  refine wo_ex (keyLen_f esh1) ?_
  rw [List.length_map]
  refine wp_filt (fun k : Kd => tx k.nm) (fun k => tx k.nm) (fun k => isTg k.sh) (fun j => by rw [keyIt_f esh1, List.getElem?_map]; cases ks[j]? <;> rfl) (by omega) ?_ ?_
  · intro kd hkd
    refine ⟨_, rfl, ?_, fun _ => ?_⟩
    · simp (maxSteps := 500000) (implicitDefEqProofs := false) (disch := omega) only [↓pa0, ↓pa1, ↓pa2, ↓pa3, ↓pa4, ↓pa5, ↓pa6, pb0, pb1, pb2, pb3, pb4, pb5, pb6, List.map_cons, List.map_nil, List.length_cons, List.length_nil, List.replicate, List.cons_append, List.nil_append, Nat.reduceAdd, Nat.reduceSub, List.set_cons_zero, List.set_cons_succ, if_true, if_false, true_and, and_true, Bool.false_eq_true, Bool.not_true, Bool.not_false, ↓reduceIte, ifF, Nat.zero_add, startE, wipeE, Option.bind_some, Int.toNat_natCast, Option.some.injEq, List.set_set, Option.map_some, W.int.injEq, W.str.injEq, W.loc.injEq, Nat.reduceLeDiff, and_self, Int.reduceLT, Int.reduceLE, Int.reduceNeg, Int.reduceToNat, Int.reduceAdd, Int.reduceMul, Int.reduceSub, decide_eq_true_eq, wq_ixDs w11, wd1, wq_ixFs esh1, sh_at nd hkd]
      cases kd.sh with
      | tags ts => simp (maxSteps := 500000) (implicitDefEqProofs := false) (disch := omega) only [↓pa0, ↓pa1, ↓pa2, ↓pa3, ↓pa4, ↓pa5, ↓pa6, pb0, pb1, pb2, pb3, pb4, pb5, pb6, List.map_cons, List.map_nil, List.length_cons, List.length_nil, List.replicate, List.cons_append, List.nil_append, Nat.reduceAdd, Nat.reduceSub, List.set_cons_zero, List.set_cons_succ, if_true, if_false, true_and, and_true, Bool.false_eq_true, Bool.not_true, Bool.not_false, ↓reduceIte, ifF, Nat.zero_add, startE, wipeE, Option.bind_some, Int.toNat_natCast, Option.some.injEq, List.set_set, Option.map_some, W.int.injEq, W.str.injEq, W.loc.injEq, Nat.reduceLeDiff, and_self, Int.reduceLT, Int.reduceLE, Int.reduceNeg, Int.reduceToNat, Int.reduceAdd, Int.reduceMul, Int.reduceSub, decide_eq_true_eq, Sh.w, isTg, show ((Str.ofString "tags" == Str.ofString "tags") = true) from by decide]
      | pair a b => simp (maxSteps := 500000) (implicitDefEqProofs := false) (disch := omega) only [↓pa0, ↓pa1, ↓pa2, ↓pa3, ↓pa4, ↓pa5, ↓pa6, pb0, pb1, pb2, pb3, pb4, pb5, pb6, List.map_cons, List.map_nil, List.length_cons, List.length_nil, List.replicate, List.cons_append, List.nil_append, Nat.reduceAdd, Nat.reduceSub, List.set_cons_zero, List.set_cons_succ, if_true, if_false, true_and, and_true, Bool.false_eq_true, Bool.not_true, Bool.not_false, ↓reduceIte, ifF, Nat.zero_add, startE, wipeE, Option.bind_some, Int.toNat_natCast, Option.some.injEq, List.set_set, Option.map_some, W.int.injEq, W.str.injEq, W.loc.injEq, Nat.reduceLeDiff, and_self, Int.reduceLT, Int.reduceLE, Int.reduceNeg, Int.reduceToNat, Int.reduceAdd, Int.reduceMul, Int.reduceSub, decide_eq_true_eq, Sh.w, isTg, show ((Str.ofString "pair" == Str.ofString "tags") = false) from by decide]
    · simp (maxSteps := 500000) (implicitDefEqProofs := false) (disch := omega) only [↓pa0, ↓pa1, ↓pa2, ↓pa3, ↓pa4, ↓pa5, ↓pa6, pb0, pb1, pb2, pb3, pb4, pb5, pb6, List.map_cons, List.map_nil, List.length_cons, List.length_nil, List.replicate, List.cons_append, List.nil_append, Nat.reduceAdd, Nat.reduceSub, List.set_cons_zero, List.set_cons_succ, if_true, if_false, true_and, and_true, Bool.false_eq_true, Bool.not_true, Bool.not_false, ↓reduceIte, ifF, Nat.zero_add, startE, wipeE, Option.bind_some, Int.toNat_natCast, Option.some.injEq, List.set_set, Option.map_some, W.int.injEq, W.str.injEq, W.loc.injEq, Nat.reduceLeDiff, and_self, Int.reduceLT, Int.reduceLE, Int.reduceNeg, Int.reduceToNat, Int.reduceAdd, Int.reduceMul, Int.reduceSub, decide_eq_true_eq]
  have X1 : Xt [] S (((S.set psh (.fdc (shD ks))) ++ [O.lst ((ks.filter fun k => isTg k.sh).map fun k => tx k.nm)]).set psh (.dct (shD ks))) := Xt.unlock esh Xt.app
  have e1 : (((S.set psh (.fdc (shD ks))) ++ [O.lst ((ks.filter fun k => isTg k.sh).map fun k => tx k.nm)]).set psh (.dct (shD ks)))[(S.set psh (.fdc (shD ks))).length]? = some (.lst ((ks.filter fun k => isTg k.sh).map fun k => tx k.nm)) := at_ne at_new' (by rw [List.length_set]; omega)
  generalize hp5 : (S.set psh (.fdc (shD ks))).length = p5 at *
  rw [List.length_set] at hp5
  rw [onUnl_nx]
  generalize ((S.set psh (.fdc (shD ks))) ++ [O.lst ((ks.filter fun k => isTg k.sh).map fun k => tx k.nm)]).set psh (.dct (shD ks)) = S1 at *
  have wi1 := wi.mono0 sp X1
  have ea1 := X1.get0 ea
  have hf := hk.first hne
  have hfl := List.length_filter_le (fun k : Kd => isTg k.sh) ks
  have hfm : ∀ k ∈ ks.filter fun k => isTg k.sh, k ∈ ks ∧ ∃ ts, k.sh = .tags ts := fun k hk => by
    obtain ⟨h1, h2⟩ := List.mem_filter.mp hk
    refine ⟨h1, ?_⟩
    cases e : k.sh with
    | tags ts => exact ⟨ts, rfl⟩
    | pair a b => rw [e] at h2; cases h2
  generalize (ks.filter fun k => isTg k.sh) = fl at *
  have li := wi1.st.lt
  simp (maxSteps := 500000) (implicitDefEqProofs := false) (disch := omega) only [↓pa0, ↓pa1, ↓pa2, ↓pa3, ↓pa4, ↓pa5, ↓pa6, pb0, pb1, pb2, pb3, pb4, pb5, pb6, List.map_cons, List.map_nil, List.length_cons, List.length_nil, List.replicate, List.cons_append, List.nil_append, Nat.reduceAdd, Nat.reduceSub, List.set_cons_zero, List.set_cons_succ, if_true, if_false, true_and, and_true, Bool.false_eq_true, Bool.not_true, Bool.not_false, ↓reduceIte, ifF, Nat.zero_add, startE, wipeE, Option.bind_some, Int.toNat_natCast, Option.some.injEq, List.set_set, Option.map_some, W.int.injEq, W.str.injEq, W.loc.injEq, Nat.reduceLeDiff, and_self, Int.reduceLT, Int.reduceLE, Int.reduceNeg, Int.reduceToNat, Int.reduceAdd, Int.reduceMul, Int.reduceSub, decide_eq_true_eq, lenW_l e1, List.length_map]
  refine take_ok (by omega) wi1.st (by omega) fun z o h1 h2 st2 => ?_
  have X2 : Xt [i] S1 (S1.set i o) := Xt.set (by simp)
  have wi2 := wi1.mono sp X2 st2
  have ea2 : (S1.set i o)[pa]? = some (.dct (arD ar)) := at_ne ea1 n1
  have l1 := wi.st.lt
  have e2' : (S1.set i o)[p5]? = some (.lst (fl.map fun k => tx k.nm)) := at_ne e1 (by omega)
  have X02 : Xt [i] S (S1.set i o) := X1.nil.trans X2
  generalize S1.set i o = S2 at *
  obtain ⟨j, rfl⟩ : ∃ a : Nat, z = a := ⟨z.toNat, by omega⟩
  have hj : j < fl.length := by omega
  obtain ⟨hkd, ts, ets⟩ := hfm _ (List.getElem_mem hj)
  have eat : atI (fl.map fun k => tx k.nm) (j : Int) = some (tx (fl[j]).nm) := Ev.atI_nat (by rw [List.getElem?_map, List.getElem?_eq_getElem hj]; rfl)
  generalize fl[j] = kd at *
  have ed : ((d + 1 : Nat) : Int) - 1 = (d : Int) := by omega
  simp (maxSteps := 500000) (implicitDefEqProofs := false) (disch := omega) only [↓pa0, ↓pa1, ↓pa2, ↓pa3, ↓pa4, ↓pa5, ↓pa6, pb0, pb1, pb2, pb3, pb4, pb5, pb6, List.map_cons, List.map_nil, List.length_cons, List.length_nil, List.replicate, List.cons_append, List.nil_append, Nat.reduceAdd, Nat.reduceSub, List.set_cons_zero, List.set_cons_succ, if_true, if_false, true_and, and_true, Bool.false_eq_true, Bool.not_true, Bool.not_false, ↓reduceIte, ifF, Nat.zero_add, startE, wipeE, Option.bind_some, Int.toNat_natCast, Option.some.injEq, List.set_set, Option.map_some, W.int.injEq, W.str.injEq, W.loc.injEq, Nat.reduceLeDiff, and_self, Int.reduceLT, Int.reduceLE, Int.reduceNeg, Int.reduceToNat, Int.reduceAdd, Int.reduceMul, Int.reduceSub, decide_eq_true_eq, wq_ixL e2', eat, ed]
  refine is n ar pa pl kd S2 _ (by omega) hkd hnd (by omega) n1 n2 n3 n4 ea2 wi2 fun S3 A pl3 X3 wi3 hp3 tA dA => ?_
  have ea3 := X3.get ea2 (by simp; omega)
  simp (maxSteps := 500000) (implicitDefEqProofs := false) (disch := omega) only [↓pa0, ↓pa1, ↓pa2, ↓pa3, ↓pa4, ↓pa5, ↓pa6, pb0, pb1, pb2, pb3, pb4, pb5, pb6, List.map_cons, List.map_nil, List.length_cons, List.length_nil, List.replicate, List.cons_append, List.nil_append, Nat.reduceAdd, Nat.reduceSub, List.set_cons_zero, List.set_cons_succ, if_true, if_false, true_and, and_true, Bool.false_eq_true, Bool.not_true, Bool.not_false, ↓reduceIte, ifF, Nat.zero_add, startE, wipeE, Option.bind_some, Int.toNat_natCast, Option.some.injEq, List.set_set, Option.map_some, W.int.injEq, W.str.injEq, W.loc.injEq, Nat.reduceLeDiff, and_self, Int.reduceLT, Int.reduceLE, Int.reduceNeg, Int.reduceToNat, Int.reduceAdd, Int.reduceMul, Int.reduceSub, decide_eq_true_eq]
  have X4 : Xt [i, pw] S (S3 ++ [O.lst []]) := ((x2_1 X02).trans X3).appI
  have wi4 := wi3.mono0 sp (Xt.app (T := [O.lst []]))
  have ea4 : (S3 ++ [O.lst []])[pa]? = some (.dct (arD ar)) := at_app ea3
  have e84 : (S3 ++ [O.lst []])[S3.length]? = some (.lst []) := at_new'
  have l34 : S.length ≤ S3.length := ((x2_1 X02).trans X3).len
  have l3a := lt_at ea
  have l3w := lt_at w1
  have l3h := lt_at wi.hd
  have l3p := lt_at wi.sh
  obtain ⟨_, _, _, w32, _⟩ := wi3.w
  have l3l := lt_at w32
  have X02l := X02.len
  have hpl0 : pl3 = pl ∨ S.length ≤ pl3 := hp3.imp_right fun z => Nat.le_trans X02l z
  clear w32 hp3
  generalize S3 ++ [O.lst []] = S4 at *
  generalize S3.length = p8 at *
  obtain ⟨lets4, left4, w41, _⟩ := wi4.w
  simp (maxSteps := 500000) (implicitDefEqProofs := false) (disch := omega) only [↓pa0, ↓pa1, ↓pa2, ↓pa3, ↓pa4, ↓pa5, ↓pa6, pb0, pb1, pb2, pb3, pb4, pb5, pb6, List.map_cons, List.map_nil, List.length_cons, List.length_nil, List.replicate, List.cons_append, List.nil_append, Nat.reduceAdd, Nat.reduceSub, List.set_cons_zero, List.set_cons_succ, if_true, if_false, true_and, and_true, Bool.false_eq_true, Bool.not_true, Bool.not_false, ↓reduceIte, ifF, Nat.zero_add, startE, wipeE, Option.bind_some, Int.toNat_natCast, Option.some.injEq, List.set_set, Option.map_some, W.int.injEq, W.str.injEq, W.loc.injEq, Nat.reduceLeDiff, and_self, Int.reduceLT, Int.reduceLE, Int.reduceNeg, Int.reduceToNat, Int.reduceAdd, Int.reduceMul, Int.reduceSub, decide_eq_true_eq, wq_ixDs w41, wd1, wq_ixDs wi4.sh, sh_at nd hkd, ets, Sh.w]
  have hts := (hk.sub kd hkd).2.2
  rw [ets] at hts
  rw [List.length_map]
  refine wp_loopN ts.length (fun j s S5 => ∃ x9 pl5, ∃ Bs : List Bd, s = [some (W.loc i), some (.loc pw), some (.loc pa), some (tx k.nm), some (.int ((d + 1 : Nat) : Int)), some (.loc p5), some (tx kd.nm), some A.w, some (.loc p8), x9, none] ∧ Xt [i, pw] S S5 ∧ WI S5 i pw psh ph pl5 ks hs ∧ p8 ≠ pl5 ∧ (pl5 = pl ∨ S.length ≤ pl5) ∧ S5[pa]? = some (.dct (arD ar)) ∧ Bs.length = j ∧ (∀ B ∈ Bs, Ty ks hs ar B k.nm ∧ B.dp ≤ d + 3) ∧ S5[p8]? = some (.lst (brW ts (Bs.map Bd.w)))) (by omega) ?_ ?_ ?_
  · exact ⟨_, _, [], rfl, X4, wi4, Nat.ne_of_gt l3l, hpl0, ea4, rfl, fun B hB => (by cases hB), by rw [e84]; simp [brW]⟩
  · rintro j' s S5 hj' ⟨x9, pl5, Bs, rfl, X5, wi5, np5, hp5', ea5, lB, tB, e85⟩
    refine ⟨tx ts[j'], _, by rw [seqIt_t, List.getElem?_map, List.getElem?_eq_getElem hj']; rfl, rfl, ?_⟩
    simp (maxSteps := 500000) (implicitDefEqProofs := false) (disch := omega) only [↓pa0, ↓pa1, ↓pa2, ↓pa3, ↓pa4, ↓pa5, ↓pa6, pb0, pb1, pb2, pb3, pb4, pb5, pb6, List.map_cons, List.map_nil, List.length_cons, List.length_nil, List.replicate, List.cons_append, List.nil_append, Nat.reduceAdd, Nat.reduceSub, List.set_cons_zero, List.set_cons_succ, if_true, if_false, true_and, and_true, Bool.false_eq_true, Bool.not_true, Bool.not_false, ↓reduceIte, ifF, Nat.zero_add, startE, wipeE, Option.bind_some, Int.toNat_natCast, Option.some.injEq, List.set_set, Option.map_some, W.int.injEq, W.str.injEq, W.loc.injEq, Nat.reduceLeDiff, and_self, Int.reduceLT, Int.reduceLE, Int.reduceNeg, Int.reduceToNat, Int.reduceAdd, Int.reduceMul, Int.reduceSub, decide_eq_true_eq, tyOk_l e85, ed]
    refine ih n ar pa pl5 k S5 _ (by omega) hkm hnd (by omega) n1 n2 n3 n4 ea5 wi5 fun S6 B pl6 X6 wi6 hp6 tB6 dB6 => ?_
    have e86 := X6.get e85 (by simp; omega)
    have l5 := lt_at e85
    have lX5 := X5.len
    have n6 : p8 ≠ pl6 := hp6.elim (fun e => e ▸ np5) (fun h => Nat.ne_of_lt (Nat.lt_of_lt_of_le l5 h))
    have lbr : (brW ts (Bs.map Bd.w)).length < 1000000 := by unfold brW; rw [List.length_map, List.length_zip]; omega
    simp (maxSteps := 500000) (implicitDefEqProofs := false) (disch := omega) only [↓pa0, ↓pa1, ↓pa2, ↓pa3, ↓pa4, ↓pa5, ↓pa6, pb0, pb1, pb2, pb3, pb4, pb5, pb6, List.map_cons, List.map_nil, List.length_cons, List.length_nil, List.replicate, List.cons_append, List.nil_append, Nat.reduceAdd, Nat.reduceSub, List.set_cons_zero, List.set_cons_succ, if_true, if_false, true_and, and_true, Bool.false_eq_true, Bool.not_true, Bool.not_false, ↓reduceIte, ifF, Nat.zero_add, startE, wipeE, Option.bind_some, Int.toNat_natCast, Option.some.injEq, List.set_set, Option.map_some, W.int.injEq, W.str.injEq, W.loc.injEq, Nat.reduceLeDiff, and_self, Int.reduceLT, Int.reduceLE, Int.reduceNeg, Int.reduceToNat, Int.reduceAdd, Int.reduceMul, Int.reduceSub, decide_eq_true_eq, appendW_l e86 lbr]
    refine ⟨_, pl6, Bs ++ [B], rfl, (X5.trans X6).setN l34, wi6.set (ne_new wi.st.lt l34) (ne_new l3w l34) (ne_new l3p l34) (ne_new l3h l34) n6, n6, hp6.elim (fun e => e ▸ hp5') (fun h => .inr (Nat.le_trans lX5 h)), at_ne (X6.get ea5 (by simp; exact ⟨n1.symm, n2.symm⟩)) (ne_new l3a l34), by simp [lB], ?_, ?_⟩
    · intro B' hB'
      rcases List.mem_append.mp hB' with h | h
      · exact tB B' h
      · rw [List.mem_singleton.mp h]; exact ⟨tB6, dB6⟩
    · rw [at_set' e86, List.map_append, List.map_singleton, brW_snoc (by rw [List.length_map, lB]; exact hj')]
      simp only [List.length_map, lB]
  · rintro s S5 ⟨x9, pl5, Bs, rfl, X5, wi5, np5, hp5', ea5, lB, tB, e85⟩
    refine ⟨by rw [seqIt_t, List.getElem?_eq_none (by rw [List.length_map]; exact Nat.le_refl _)], ?_⟩
    simp (maxSteps := 500000) (implicitDefEqProofs := false) (disch := omega) only [↓pa0, ↓pa1, ↓pa2, ↓pa3, ↓pa4, ↓pa5, ↓pa6, pb0, pb1, pb2, pb3, pb4, pb5, pb6, List.map_cons, List.map_nil, List.length_cons, List.length_nil, List.replicate, List.cons_append, List.nil_append, Nat.reduceAdd, Nat.reduceSub, List.set_cons_zero, List.set_cons_succ, if_true, if_false, true_and, and_true, Bool.false_eq_true, Bool.not_true, Bool.not_false, ↓reduceIte, ifF, Nat.zero_add, startE, wipeE, Option.bind_some, Int.toNat_natCast, Option.some.injEq, List.set_set, Option.map_some, W.int.injEq, W.str.injEq, W.loc.injEq, Nat.reduceLeDiff, and_self, Int.reduceLT, Int.reduceLE, Int.reduceNeg, Int.reduceToNat, Int.reduceAdd, Int.reduceMul, Int.reduceSub, decide_eq_true_eq, tupleW_l e85]
    have e9 := hq S5 (.nd (.cho ts) (A :: Bs)) pl5 X5 wi5 hp5' (.cho hkd ets tA lB fun B hB => (tB B hB).1) (Bd.dp_nd.mpr fun p hp => by
      rcases List.mem_cons.mp hp with rfl | hp
      · omega
      · have := (tB p hp).2; omega)
    rw [Bd.w_nd] at e9
    exact e9
end
end Lw

set_option linter.all false
set_option maxRecDepth 100000
set_option maxHeartbeats 4000000
namespace Lw
open PySem L2 Ev
variable {EE : Exc}
section
variable {L1 L2 : List Nat} {top tp : Int} {ks : List Kd} {hs : List Hd} {i pw psh ph : Nat}
theorem hnmS_nd {hs : List Hd} (h : (hs.map Hd.nm).Nodup) : (hs.map fun k => SX.S k.nm).Nodup := by
  have := List.Pairwise.map (R := (· ≠ ·)) (S := (· ≠ ·)) SX.S (fun a b hab e => hab (SX.S_inj e)) h
  rw [List.map_map] at this
  exact this
theorem hd_at {hs : List Hd} {h : Hd} (hn : (hs.map Hd.nm).Nodup) (hm : h ∈ hs) : dlook (hdD hs) (.inr (SX.S h.nm)) = some h.w := dlook_some (f := fun k : Hd => SX.S k.nm) (g := fun k => k.w) hm (hnmS_nd hn)
theorem pd_txs {A : Type} {S : Sto} {n : Nat} (f : A → List Nat) (l : List A) : (l.map fun a => tx (f a)).mapM (W.pd S (n + 1)) = some (l.map fun a => .str (SX.S (f a))) := mapM_map fun _ _ => rfl
theorem isE_not {A : Type} {l : List A} (h : ¬ l.isEmpty = true) : 0 < l.length := by
  cases l with
  | nil => exact absurd rfl h
  | cons a l => simp
theorem ask_ok (hk : KOk alphaL alphaU top ks) (hh : HOk ks tp hs) (hhl : hs.length ≤ 100) (sp : Sep i pw psh ph) {m d : Nat} (hm : 5 ≤ m) (is : BodyAt .f_law_some ks hs i pw psh ph (m + 1) d (d + 3)) : BodyAt .f_law_ask ks hs i pw psh ph (m + 2) (d + 1) (d + 4) := by
  intro n ar pa pl k S Q hn hkm hnd hal n1 n2 n3 n4 ea wi hq
  obtain ⟨n, rfl⟩ : ∃ m, n = m + 1 := ⟨n - 1, by omega⟩
  have sa := sp.a
  obtain ⟨lets, left, w1, w2, w3, w4, w5, w6⟩ := wi.w
  have eh := wi.hd
  have l3a := lt_at ea
  have l3w := lt_at w1
  have l3h := lt_at wi.hd
  have l3p := lt_at wi.sh
  have ndh := hh.nd
  rw [call_s, body]
  simp (maxSteps := 500000) (implicitDefEqProofs := false) (disch := omega) only [↓pa0, ↓pa1, ↓pa2, ↓pa3, ↓pa4, ↓pa5, ↓pa6, pb0, pb1, pb2, pb3, pb4, pb5, pb6, List.map_cons, List.map_nil, List.length_cons, List.length_nil, List.replicate, List.cons_append, List.nil_append, Nat.reduceAdd, Nat.reduceSub, List.set_cons_zero, List.set_cons_succ, if_true, if_false, true_and, and_true, Bool.false_eq_true, Bool.not_true, Bool.not_false, ↓reduceIte, ifF, Nat.zero_add, startE, wipeE, Option.bind_some, Int.toNat_natCast, Option.some.injEq, List.set_set, Option.map_some, W.int.injEq, W.str.injEq, W.loc.injEq, Nat.reduceLeDiff, and_self, Int.reduceLT, Int.reduceLE, Int.reduceNeg, Int.reduceToNat, Int.reduceAdd, Int.reduceMul, Int.reduceSub, decide_eq_true_eq, m_f_law_ask]
  refine wp_lockFW (n := ph) (kvs := hdD hs) (by simp (maxSteps := 500000) (implicitDefEqProofs := false) (disch := omega) only [↓pa0, ↓pa1, ↓pa2, ↓pa3, ↓pa4, ↓pa5, ↓pa6, pb0, pb1, pb2, pb3, pb4, pb5, pb6, List.map_cons, List.map_nil, List.length_cons, List.length_nil, List.replicate, List.cons_append, List.nil_append, Nat.reduceAdd, Nat.reduceSub, List.set_cons_zero, List.set_cons_succ, if_true, if_false, true_and, and_true, Bool.false_eq_true, Bool.not_true, Bool.not_false, ↓reduceIte, ifF, Nat.zero_add, startE, wipeE, Option.bind_some, Int.toNat_natCast, Option.some.injEq, List.set_set, Option.map_some, W.int.injEq, W.str.injEq, W.loc.injEq, Nat.reduceLeDiff, and_self, Int.reduceLT, Int.reduceLE, Int.reduceNeg, Int.reduceToNat, Int.reduceAdd, Int.reduceMul, Int.reduceSub, decide_eq_true_eq, wq_ixDs w1, wd2]) eh ?_
  simp (maxSteps := 500000) (implicitDefEqProofs := false) (disch := omega) only [↓pa0, ↓pa1, ↓pa2, ↓pa3, ↓pa4, ↓pa5, ↓pa6, pb0, pb1, pb2, pb3, pb4, pb5, pb6, List.map_cons, List.map_nil, List.length_cons, List.length_nil, List.replicate, List.cons_append, List.nil_append, Nat.reduceAdd, Nat.reduceSub, List.set_cons_zero, List.set_cons_succ, if_true, if_false, true_and, and_true, Bool.false_eq_true, Bool.not_true, Bool.not_false, ↓reduceIte, ifF, Nat.zero_add, startE, wipeE, Option.bind_some, Int.toNat_natCast, Option.some.injEq, List.set_set, Option.map_some, W.int.injEq, W.str.injEq, W.loc.injEq, Nat.reduceLeDiff, and_self, Int.reduceLT, Int.reduceLE, Int.reduceNeg, Int.reduceToNat, Int.reduceAdd, Int.reduceMul, Int.reduceSub, decide_eq_true_eq, wq_key, wq_ixDs w1, wd2]
  refine wo_ex (keyLen_f eh) ?_
  rw [List.length_map]
  refine wp_filt (fun h : Hd => tx h.nm) (fun h => tx h.nm) (fun h => decide (h.kd = k.nm)) (fun j => by rw [keyIt_f eh, List.getElem?_map]; cases hs[j]? <;> rfl) (by omega) ?_ ?_
  · intro h hm
    refine ⟨_, rfl, ?_, fun _ => ?_⟩
    · simp (maxSteps := 500000) (implicitDefEqProofs := false) (disch := omega) only [↓pa0, ↓pa1, ↓pa2, ↓pa3, ↓pa4, ↓pa5, ↓pa6, pb0, pb1, pb2, pb3, pb4, pb5, pb6, List.map_cons, List.map_nil, List.length_cons, List.length_nil, List.replicate, List.cons_append, List.nil_append, Nat.reduceAdd, Nat.reduceSub, List.set_cons_zero, List.set_cons_succ, if_true, if_false, true_and, and_true, Bool.false_eq_true, Bool.not_true, Bool.not_false, ↓reduceIte, ifF, Nat.zero_add, startE, wipeE, Option.bind_some, Int.toNat_natCast, Option.some.injEq, List.set_set, Option.map_some, W.int.injEq, W.str.injEq, W.loc.injEq, Nat.reduceLeDiff, and_self, Int.reduceLT, Int.reduceLE, Int.reduceNeg, Int.reduceToNat, Int.reduceAdd, Int.reduceMul, Int.reduceSub, decide_eq_true_eq, wq_ixDs w1, wd2, wq_ixFs eh, hd_at ndh hm, Hd.w, eqSx]
    · simp (maxSteps := 500000) (implicitDefEqProofs := false) (disch := omega) only [↓pa0, ↓pa1, ↓pa2, ↓pa3, ↓pa4, ↓pa5, ↓pa6, pb0, pb1, pb2, pb3, pb4, pb5, pb6, List.map_cons, List.map_nil, List.length_cons, List.length_nil, List.replicate, List.cons_append, List.nil_append, Nat.reduceAdd, Nat.reduceSub, List.set_cons_zero, List.set_cons_succ, if_true, if_false, true_and, and_true, Bool.false_eq_true, Bool.not_true, Bool.not_false, ↓reduceIte, ifF, Nat.zero_add, startE, wipeE, Option.bind_some, Int.toNat_natCast, Option.some.injEq, List.set_set, Option.map_some, W.int.injEq, W.str.injEq, W.loc.injEq, Nat.reduceLeDiff, and_self, Int.reduceLT, Int.reduceLE, Int.reduceNeg, Int.reduceToNat, Int.reduceAdd, Int.reduceMul, Int.reduceSub, decide_eq_true_eq]
  have hfl := List.length_filter_le (fun h : Hd => decide (h.kd = k.nm)) hs
  have hfm : ∀ h ∈ hs.filter fun h => decide (h.kd = k.nm), h ∈ hs ∧ h.kd = k.nm := fun h hm => by
    obtain ⟨h1, h2⟩ := List.mem_filter.mp hm
    exact ⟨h1, of_decide_eq_true h2⟩
  generalize (hs.filter fun h => decide (h.kd = k.nm)) = fl at *
  simp (maxSteps := 500000) (implicitDefEqProofs := false) (disch := omega) only [↓pa0, ↓pa1, ↓pa2, ↓pa3, ↓pa4, ↓pa5, ↓pa6, pb0, pb1, pb2, pb3, pb4, pb5, pb6, List.map_cons, List.map_nil, List.length_cons, List.length_nil, List.replicate, List.cons_append, List.nil_append, Nat.reduceAdd, Nat.reduceSub, List.set_cons_zero, List.set_cons_succ, if_true, if_false, true_and, and_true, Bool.false_eq_true, Bool.not_true, Bool.not_false, ↓reduceIte, ifF, Nat.zero_add, startE, wipeE, Option.bind_some, Int.toNat_natCast, Option.some.injEq, List.set_set, Option.map_some, W.int.injEq, W.str.injEq, W.loc.injEq, Nat.reduceLeDiff, and_self, Int.reduceLT, Int.reduceLE, Int.reduceNeg, Int.reduceToNat, Int.reduceAdd, Int.reduceMul, Int.reduceSub, decide_eq_true_eq, List.length_append]
  have X2 : Xt [i] S (S ++ [O.lst (fl.map fun h => tx h.nm)] ++ [O.lst []]) := Xt.refl.appI.appI
  have wi2 := wi.mono0 sp (Xt.app (T := [O.lst (fl.map fun h => tx h.nm)])) |>.mono0 sp (Xt.app (T := [O.lst []]))
  have ea2 : (S ++ [O.lst (fl.map fun h => tx h.nm)] ++ [O.lst []])[pa]? = some (.dct (arD ar)) := at_app (at_app ea)
  have e2 : (S ++ [O.lst (fl.map fun h => tx h.nm)] ++ [O.lst []])[S.length]? = some (.lst (fl.map fun h => tx h.nm)) := at_app at_new'
  have e2q : (S ++ [O.lst (fl.map fun h => tx h.nm)] ++ [O.lst []])[S.length + 1]? = some (.lst []) := by simp
  generalize (S ++ [O.lst (fl.map fun h => tx h.nm)] ++ [O.lst []]) = S2 at *
  simp (maxSteps := 500000) (implicitDefEqProofs := false) (disch := omega) only [↓pa0, ↓pa1, ↓pa2, ↓pa3, ↓pa4, ↓pa5, ↓pa6, pb0, pb1, pb2, pb3, pb4, pb5, pb6, List.map_cons, List.map_nil, List.length_cons, List.length_nil, List.replicate, List.cons_append, List.nil_append, Nat.reduceAdd, Nat.reduceSub, List.set_cons_zero, List.set_cons_succ, if_true, if_false, true_and, and_true, Bool.false_eq_true, Bool.not_true, Bool.not_false, ↓reduceIte, ifF, Nat.zero_add, startE, wipeE, Option.bind_some, Int.toNat_natCast, Option.some.injEq, List.set_set, Option.map_some, W.int.injEq, W.str.injEq, W.loc.injEq, Nat.reduceLeDiff, and_self, Int.reduceLT, Int.reduceLE, Int.reduceNeg, Int.reduceToNat, Int.reduceAdd, Int.reduceMul, Int.reduceSub, decide_eq_true_eq, eqW_nil e2 (pd_txs (n := 62) Hd.nm fl) e2q]
  split
  · exact plainW hk sp (by omega) hkm hnd (by omega) n1 n2 n3 ea2 wi2 fun S' b x w t d _ => hq S' b pl (x2_1 (X2.trans x)) w (.inl rfl) t (by omega)
  · rename_i hemp
    have hpos := isE_not hemp
    rw [List.length_map] at hpos
    simp (maxSteps := 500000) (implicitDefEqProofs := false) (disch := omega) only [↓pa0, ↓pa1, ↓pa2, ↓pa3, ↓pa4, ↓pa5, ↓pa6, pb0, pb1, pb2, pb3, pb4, pb5, pb6, List.map_cons, List.map_nil, List.length_cons, List.length_nil, List.replicate, List.cons_append, List.nil_append, Nat.reduceAdd, Nat.reduceSub, List.set_cons_zero, List.set_cons_succ, if_true, if_false, true_and, and_true, Bool.false_eq_true, Bool.not_true, Bool.not_false, ↓reduceIte, ifF, Nat.zero_add, startE, wipeE, Option.bind_some, Int.toNat_natCast, Option.some.injEq, List.set_set, Option.map_some, W.int.injEq, W.str.injEq, W.loc.injEq, Nat.reduceLeDiff, and_self, Int.reduceLT, Int.reduceLE, Int.reduceNeg, Int.reduceToNat, Int.reduceAdd, Int.reduceMul, Int.reduceSub, decide_eq_true_eq, lenW_l e2, List.length_map]
    refine take_ok (by omega) wi2.st (by omega) fun z o h1 h2 st3 => ?_
    have X3 : Xt [i] S (S2.set i o) := X2.setI (by simp)
    have wi3 := wi2.mono sp (Xt.set (by simp)) st3
    have ea3 : (S2.set i o)[pa]? = some (.dct (arD ar)) := at_ne ea2 n1
    have e3 : (S2.set i o)[S.length]? = some (.lst (fl.map fun h => tx h.nm)) := at_ne e2 (Nat.ne_of_lt wi.st.lt)
    generalize S2.set i o = S3 at *
    obtain ⟨j, rfl⟩ : ∃ a : Nat, z = a := ⟨z.toNat, by omega⟩
    have hj : j < fl.length := by omega
    obtain ⟨hhm, hkk⟩ := hfm _ (List.getElem_mem hj)
    have eat : atI (fl.map fun h => tx h.nm) (j : Int) = some (tx (fl[j]).nm) := Ev.atI_nat (by rw [List.getElem?_map, List.getElem?_eq_getElem hj]; rfl)
    generalize fl[j] = h at *
    obtain ⟨lets3, left3, w31, w32, _⟩ := wi3.w
    have l3l := lt_at w32
    simp (maxSteps := 500000) (implicitDefEqProofs := false) (disch := omega) only [↓pa0, ↓pa1, ↓pa2, ↓pa3, ↓pa4, ↓pa5, ↓pa6, pb0, pb1, pb2, pb3, pb4, pb5, pb6, List.map_cons, List.map_nil, List.length_cons, List.length_nil, List.replicate, List.cons_append, List.nil_append, Nat.reduceAdd, Nat.reduceSub, List.set_cons_zero, List.set_cons_succ, if_true, if_false, true_and, and_true, Bool.false_eq_true, Bool.not_true, Bool.not_false, ↓reduceIte, ifF, Nat.zero_add, startE, wipeE, Option.bind_some, Int.toNat_natCast, Option.some.injEq, List.set_set, Option.map_some, W.int.injEq, W.str.injEq, W.loc.injEq, Nat.reduceLeDiff, and_self, Int.reduceLT, Int.reduceLE, Int.reduceNeg, Int.reduceToNat, Int.reduceAdd, Int.reduceMul, Int.reduceSub, decide_eq_true_eq, wq_ixL e3, eat]
    have X4 : Xt [i, pw] S (S3 ++ [O.lst []]) := (x2_1 X3).appI
    have wi4 := wi3.mono0 sp (Xt.app (T := [O.lst []]))
    have ea4 : (S3 ++ [O.lst []])[pa]? = some (.dct (arD ar)) := at_app ea3
    have e74 : (S3 ++ [O.lst []])[S3.length]? = some (.lst []) := at_new'
    have l34 : S.length ≤ S3.length := X3.len
    have w41 : (S3 ++ [O.lst []])[pw]? = some (.dct (wdD psh ph pl left3)) := at_app w31
    generalize S3 ++ [O.lst []] = S4 at *
    generalize S3.length = p7 at *
    simp (maxSteps := 500000) (implicitDefEqProofs := false) (disch := omega) only [↓pa0, ↓pa1, ↓pa2, ↓pa3, ↓pa4, ↓pa5, ↓pa6, pb0, pb1, pb2, pb3, pb4, pb5, pb6, List.map_cons, List.map_nil, List.length_cons, List.length_nil, List.replicate, List.cons_append, List.nil_append, Nat.reduceAdd, Nat.reduceSub, List.set_cons_zero, List.set_cons_succ, if_true, if_false, true_and, and_true, Bool.false_eq_true, Bool.not_true, Bool.not_false, ↓reduceIte, ifF, Nat.zero_add, startE, wipeE, Option.bind_some, Int.toNat_natCast, Option.some.injEq, List.set_set, Option.map_some, W.int.injEq, W.str.injEq, W.loc.injEq, Nat.reduceLeDiff, and_self, Int.reduceLT, Int.reduceLE, Int.reduceNeg, Int.reduceToNat, Int.reduceAdd, Int.reduceMul, Int.reduceSub, decide_eq_true_eq, wq_ixDs w41, wd2, wq_ixFs wi4.hd, hd_at ndh hhm, Hd.w]
    have hok := hh.ok h hhm
    have hl3 := hok.len
    rw [List.length_map]
    have ed : ((d + 1 : Nat) : Int) - 1 = (d : Int) := by omega
    refine wp_loopN h.ps.length (fun j s S5 => ∃ x8 x9 pl5, ∃ As : List Bd, s = [some (W.loc i), some (.loc pw), some (.loc pa), some (tx k.nm), some (.int ((d + 1 : Nat) : Int)), some (.loc S.length), some (tx h.nm), some (.loc p7), x8, x9] ∧ Xt [i, pw] S S5 ∧ WI S5 i pw psh ph pl5 ks hs ∧ p7 ≠ pl5 ∧ (pl5 = pl ∨ S.length ≤ pl5) ∧ S5[pa]? = some (.dct (arD ar)) ∧ As.length = j ∧ (∀ p ∈ h.ps.zip As, Ty ks hs ar p.2 p.1.2) ∧ (∀ A ∈ As, A.dp ≤ d + 3) ∧ S5[p7]? = some (.lst (As.map Bd.w))) (by omega) ?_ ?_ ?_
    · exact ⟨_, _, _, [], rfl, X4, wi4, Nat.ne_of_gt l3l, .inl rfl, ea4, rfl, fun p hp => (by rw [List.zip_nil_right] at hp; cases hp), fun A hA => (by cases hA), e74⟩
    · rintro j' s S5 hj' ⟨x8, x9, pl5, As, rfl, X5, wi5, np5, hp5, ea5, lA, tA, dA, e75⟩
      obtain ⟨kd, hkd, ekd⟩ := List.mem_map.mp (hok.pk _ (List.getElem_mem hj'))
      have esq : seqIt (.ptp (h.ps.map pnW)) S5 j' = some (some (pnW h.ps[j'])) := by rw [seqIt_p, List.getElem?_map, List.getElem?_eq_getElem hj']; rfl
      refine ⟨pnW h.ps[j'], _, esq, (by simp (maxSteps := 500000) (implicitDefEqProofs := false) (disch := omega) only [↓pa0, ↓pa1, ↓pa2, ↓pa3, ↓pa4, ↓pa5, ↓pa6, pb0, pb1, pb2, pb3, pb4, pb5, pb6, List.map_cons, List.map_nil, List.length_cons, List.length_nil, List.replicate, List.cons_append, List.nil_append, Nat.reduceAdd, Nat.reduceSub, List.set_cons_zero, List.set_cons_succ, if_true, if_false, true_and, and_true, Bool.false_eq_true, Bool.not_true, Bool.not_false, ↓reduceIte, ifF, Nat.zero_add, startE, wipeE, Option.bind_some, Int.toNat_natCast, Option.some.injEq, List.set_set, Option.map_some, W.int.injEq, W.str.injEq, W.loc.injEq, Nat.reduceLeDiff, and_self, Int.reduceLT, Int.reduceLE, Int.reduceNeg, Int.reduceToNat, Int.reduceAdd, Int.reduceMul, Int.reduceSub, decide_eq_true_eq, pnW]; rfl), ?_⟩
      rw [← ekd]
      simp (maxSteps := 500000) (implicitDefEqProofs := false) (disch := omega) only [↓pa0, ↓pa1, ↓pa2, ↓pa3, ↓pa4, ↓pa5, ↓pa6, pb0, pb1, pb2, pb3, pb4, pb5, pb6, List.map_cons, List.map_nil, List.length_cons, List.length_nil, List.replicate, List.cons_append, List.nil_append, Nat.reduceAdd, Nat.reduceSub, List.set_cons_zero, List.set_cons_succ, if_true, if_false, true_and, and_true, Bool.false_eq_true, Bool.not_true, Bool.not_false, ↓reduceIte, ifF, Nat.zero_add, startE, wipeE, Option.bind_some, Int.toNat_natCast, Option.some.injEq, List.set_set, Option.map_some, W.int.injEq, W.str.injEq, W.loc.injEq, Nat.reduceLeDiff, and_self, Int.reduceLT, Int.reduceLE, Int.reduceNeg, Int.reduceToNat, Int.reduceAdd, Int.reduceMul, Int.reduceSub, decide_eq_true_eq, tyOk_l e75, ed]
      refine is n ar pa pl5 kd S5 _ (by omega) hkd hnd (by omega) n1 n2 n3 n4 ea5 wi5 fun S6 B pl6 X6 wi6 hp6 tB dB => ?_
      have l5 := lt_at e75
      have e76 := X6.get e75 (by simp; exact ⟨Nat.ne_of_gt (Nat.lt_of_lt_of_le wi.st.lt l34), ne_new l3w l34⟩)
      have n6 : p7 ≠ pl6 := hp6.elim (fun e => e ▸ np5) (fun h => Nat.ne_of_lt (Nat.lt_of_lt_of_le l5 h))
      have lX5 := X5.len
      simp (maxSteps := 500000) (implicitDefEqProofs := false) (disch := omega) only [↓pa0, ↓pa1, ↓pa2, ↓pa3, ↓pa4, ↓pa5, ↓pa6, pb0, pb1, pb2, pb3, pb4, pb5, pb6, List.map_cons, List.map_nil, List.length_cons, List.length_nil, List.replicate, List.cons_append, List.nil_append, Nat.reduceAdd, Nat.reduceSub, List.set_cons_zero, List.set_cons_succ, if_true, if_false, true_and, and_true, Bool.false_eq_true, Bool.not_true, Bool.not_false, ↓reduceIte, ifF, Nat.zero_add, startE, wipeE, Option.bind_some, Int.toNat_natCast, Option.some.injEq, List.set_set, Option.map_some, W.int.injEq, W.str.injEq, W.loc.injEq, Nat.reduceLeDiff, and_self, Int.reduceLT, Int.reduceLE, Int.reduceNeg, Int.reduceToNat, Int.reduceAdd, Int.reduceMul, Int.reduceSub, decide_eq_true_eq, appendW_l e76 (show (As.map Bd.w).length < 1000000 by rw [List.length_map, lA]; omega)]
      refine ⟨_, _, pl6, As ++ [B], rfl, (X5.trans X6).setN l34, wi6.set (ne_new wi.st.lt l34) (ne_new l3w l34) (ne_new l3p l34) (ne_new l3h l34) n6, n6, hp6.elim (fun e => e ▸ hp5) (fun h => .inr (Nat.le_trans lX5 h)), at_ne (X6.get ea5 (by simp; exact ⟨n1.symm, n2.symm⟩)) (ne_new l3a l34), by simp [lA], ?_, ?_, ?_⟩
      · rw [zip_snoc _ _ _ (by rw [lA]; exact hj')]
        intro p hp
        rcases List.mem_append.mp hp with hp | hp
        · exact tA p hp
        · rw [List.mem_singleton.mp hp]
          show Ty ks hs ar B (h.ps[As.length]).2
          simp only [lA]
          rw [← ekd]; exact tB
      · intro A hA
        rcases List.mem_append.mp hA with hA | hA
        · exact dA A hA
        · rw [List.mem_singleton.mp hA]; exact dB
      · rw [at_set' e76]; simp
    · rintro s S5 ⟨x8, x9, pl5, As, rfl, X5, wi5, np5, hp5, ea5, lA, tA, dA, e75⟩
      refine ⟨by rw [seqIt_p, List.getElem?_eq_none (by rw [List.length_map]; exact Nat.le_refl _)], ?_⟩
      simp (maxSteps := 500000) (implicitDefEqProofs := false) (disch := omega) only [↓pa0, ↓pa1, ↓pa2, ↓pa3, ↓pa4, ↓pa5, ↓pa6, pb0, pb1, pb2, pb3, pb4, pb5, pb6, List.map_cons, List.map_nil, List.length_cons, List.length_nil, List.replicate, List.cons_append, List.nil_append, Nat.reduceAdd, Nat.reduceSub, List.set_cons_zero, List.set_cons_succ, if_true, if_false, true_and, and_true, Bool.false_eq_true, Bool.not_true, Bool.not_false, ↓reduceIte, ifF, Nat.zero_add, startE, wipeE, Option.bind_some, Int.toNat_natCast, Option.some.injEq, List.set_set, Option.map_some, W.int.injEq, W.str.injEq, W.loc.injEq, Nat.reduceLeDiff, and_self, Int.reduceLT, Int.reduceLE, Int.reduceNeg, Int.reduceToNat, Int.reduceAdd, Int.reduceMul, Int.reduceSub, decide_eq_true_eq, tupleW_l e75]
      have e9 := hq S5 (.nd (.ask h.nm) As) pl5 X5 wi5 hp5 (hkk ▸ .ask hhm lA tA) (Bd.dp_nd.mpr dA)
      rw [Bd.w_nd] at e9
      exact e9
end
end Lw

set_option linter.all false
set_option maxRecDepth 100000
set_option maxHeartbeats 4000000
namespace Lw
open PySem L2 Ev
variable {EE : Exc}
section
variable {L1 L2 : List Nat} {top tp : Int} {ks : List Kd} {hs : List Hd} {i pw psh ph : Nat}
/-- a part that has a kind -/
def ptW (p : Bool × Kd) : W := .tup [if p.1 then sW "one" else sW "other", tx p.2.nm]
def PtOk (ks : List Kd) (k : Kd) (p : Bool × Kd) : Prop := p.2 ∈ ks ∧ ∃ a b, p.2.sh = .pair a b ∧ (if p.1 then a else b) = k.nm
def ptD (p : Bool × Kd) : PyData := .tuple [if p.1 then .str (Str.ofString "one") else .str (Str.ofString "other"), .str (SX.S p.2.nm)]
theorem pt_pd {S : Sto} {n : Nat} (l : List (Bool × Kd)) : (l.map ptW).mapM (W.pd S (n + 2)) = some (l.map ptD) := mapM_map fun p _ => by
  obtain ⟨b, k⟩ := p
  cases b <;> rfl
theorem part_ok (hk : KOk alphaL alphaU top ks) (hl : ks.length ≤ 6) (sp : Sep i pw psh ph) {m d : Nat} (hm : 5 ≤ m) (ih : BodyAt .f_law_body ks hs i pw psh ph m d (d + 3)) (ic : BodyAt .f_law_choose ks hs i pw psh ph (m + 2) (d + 1) (d + 4)) : BodyAt .f_law_part ks hs i pw psh ph (m + 3) (d + 1) (d + 4) := by
  intro n ar pa pl k S Q hn hkm hnd hal n1 n2 n3 n4 ea wi hq
  obtain ⟨n, rfl⟩ : ∃ m, n = m + 1 := ⟨n - 1, by omega⟩
  have sa := sp.a; have sb := sp.b; have sc := sp.c; have sd := sp.d; have se := sp.e
  obtain ⟨lets, left, w1, w2, w3, w4, w5, w6⟩ := wi.w
  have esh := wi.sh
  have lsh := lt_at esh
  have nd := hk.nd
  have l3a := lt_at ea
  have l3w := lt_at w1
  have l3h := lt_at wi.hd
  rw [call_s, body]
  simp (maxSteps := 500000) (implicitDefEqProofs := false) (disch := omega) only [↓pa0, ↓pa1, ↓pa2, ↓pa3, ↓pa4, ↓pa5, ↓pa6, pb0, pb1, pb2, pb3, pb4, pb5, pb6, List.map_cons, List.map_nil, List.length_cons, List.length_nil, List.replicate, List.cons_append, List.nil_append, Nat.reduceAdd, Nat.reduceSub, List.set_cons_zero, List.set_cons_succ, if_true, if_false, true_and, and_true, Bool.false_eq_true, Bool.not_true, Bool.not_false, ↓reduceIte, ifF, Nat.zero_add, startE, wipeE, Option.bind_some, Int.toNat_natCast, Option.some.injEq, List.set_set, Option.map_some, W.int.injEq, W.str.injEq, W.loc.injEq, Nat.reduceLeDiff, and_self, Int.reduceLT, Int.reduceLE, Int.reduceNeg, Int.reduceToNat, Int.reduceAdd, Int.reduceMul, Int.reduceSub, decide_eq_true_eq, m_f_law_part]
  have Xa : Xt [] S (S ++ [O.lst []]) := Xt.app
  have wia := wi.mono0 sp Xa
  have eaa := Xa.get0 ea
  have e5 : (S ++ [O.lst []])[S.length]? = some (.lst []) := at_new'
  generalize S ++ [O.lst []] = Sa at *
  obtain ⟨letsa, lefta, w1a, _⟩ := wia.w
  have esha := wia.sh
  have l5 := lt_at e5
  refine wp_lockW (n := psh) (kvs := shD ks) (by simp (maxSteps := 500000) (implicitDefEqProofs := false) (disch := omega) only [↓pa0, ↓pa1, ↓pa2, ↓pa3, ↓pa4, ↓pa5, ↓pa6, pb0, pb1, pb2, pb3, pb4, pb5, pb6, List.map_cons, List.map_nil, List.length_cons, List.length_nil, List.replicate, List.cons_append, List.nil_append, Nat.reduceAdd, Nat.reduceSub, List.set_cons_zero, List.set_cons_succ, if_true, if_false, true_and, and_true, Bool.false_eq_true, Bool.not_true, Bool.not_false, ↓reduceIte, ifF, Nat.zero_add, startE, wipeE, Option.bind_some, Int.toNat_natCast, Option.some.injEq, List.set_set, Option.map_some, W.int.injEq, W.str.injEq, W.loc.injEq, Nat.reduceLeDiff, and_self, Int.reduceLT, Int.reduceLE, Int.reduceNeg, Int.reduceToNat, Int.reduceAdd, Int.reduceMul, Int.reduceSub, decide_eq_true_eq, wq_ixDs w1a, wd1]) esha ?_
  have esh1 : (Sa.set psh (.fdc (shD ks)))[psh]? = some (.fdc (shD ks)) := at_set' esha
  have w11 : (Sa.set psh (.fdc (shD ks)))[pw]? = some (.dct (wdD psh ph pl lefta)) := at_ne w1a sd.symm
  have e51 : (Sa.set psh (.fdc (shD ks)))[S.length]? = some (.lst []) := at_ne e5 (Nat.ne_of_lt lsh)
  simp (maxSteps := 500000) (implicitDefEqProofs := false) (disch := omega) only [↓pa0, ↓pa1, ↓pa2, ↓pa3, ↓pa4, ↓pa5, ↓pa6, pb0, pb1, pb2, pb3, pb4, pb5, pb6, List.map_cons, List.map_nil, List.length_cons, List.length_nil, List.replicate, List.cons_append, List.nil_append, Nat.reduceAdd, Nat.reduceSub, List.set_cons_zero, List.set_cons_succ, if_true, if_false, true_and, and_true, Bool.false_eq_true, Bool.not_true, Bool.not_false, ↓reduceIte, ifF, Nat.zero_add, startE, wipeE, Option.bind_some, Int.toNat_natCast, Option.some.injEq, List.set_set, Option.map_some, W.int.injEq, W.str.injEq, W.loc.injEq, Nat.reduceLeDiff, and_self, Int.reduceLT, Int.reduceLE, Int.reduceNeg, Int.reduceToNat, Int.reduceAdd, Int.reduceMul, Int.reduceSub, decide_eq_true_eq, wq_ixDs w11, wd1, wq_key]
  refine wo_ex (keyLen_f esh1) ?_
  rw [List.length_map]
  generalize hS1 : Sa.set psh (.fdc (shD ks)) = S1 at *
  refine @wp_loopN noExc _ _ _ _ ks.length (fun j s S2 => ∃ x6 x7, ∃ l : List (Bool × Kd), s = [some (W.loc i), some (.loc pw), some (.loc pa), some (tx k.nm), some (.int ((d + 1 : Nat) : Int)), some (.loc S.length), x6, x7, none, none] ∧ Xt [S.length] S1 S2 ∧ S2.length = S1.length ∧ S2[S.length]? = some (.lst (l.map ptW)) ∧ l.length ≤ 2 * j ∧ ∀ p ∈ l, PtOk ks k p) _ _ _ (by omega) ?_ ?_ ?_
  · exact ⟨_, _, [], rfl, .refl, rfl, e51, by simp, fun p hp => by cases hp⟩
  · rintro j s S2 hj ⟨x6, x7, l, rfl, X2, L2', e52, hll, hlo⟩
    have esh2 := X2.get esh1 (by simp; omega)
    have w12 := X2.get w11 (by simp; omega)
    have hkd := List.getElem_mem hj
    refine ⟨tx ks[j].nm, _, by rw [keyIt_f esh2, List.getElem?_map, List.getElem?_eq_getElem hj]; rfl, rfl, ?_⟩
    generalize ks[j] = kd at *
    simp (maxSteps := 500000) (implicitDefEqProofs := false) (disch := omega) only [↓pa0, ↓pa1, ↓pa2, ↓pa3, ↓pa4, ↓pa5, ↓pa6, pb0, pb1, pb2, pb3, pb4, pb5, pb6, List.map_cons, List.map_nil, List.length_cons, List.length_nil, List.replicate, List.cons_append, List.nil_append, Nat.reduceAdd, Nat.reduceSub, List.set_cons_zero, List.set_cons_succ, if_true, if_false, true_and, and_true, Bool.false_eq_true, Bool.not_true, Bool.not_false, ↓reduceIte, ifF, Nat.zero_add, startE, wipeE, Option.bind_some, Int.toNat_natCast, Option.some.injEq, List.set_set, Option.map_some, W.int.injEq, W.str.injEq, W.loc.injEq, Nat.reduceLeDiff, and_self, Int.reduceLT, Int.reduceLE, Int.reduceNeg, Int.reduceToNat, Int.reduceAdd, Int.reduceMul, Int.reduceSub, decide_eq_true_eq, wq_ixDs w12, wd1, wq_ixFs esh2, sh_at nd hkd]
    cases esk : kd.sh with
    | tags ts =>
      simp (maxSteps := 500000) (implicitDefEqProofs := false) (disch := omega) only [↓pa0, ↓pa1, ↓pa2, ↓pa3, ↓pa4, ↓pa5, ↓pa6, pb0, pb1, pb2, pb3, pb4, pb5, pb6, List.map_cons, List.map_nil, List.length_cons, List.length_nil, List.replicate, List.cons_append, List.nil_append, Nat.reduceAdd, Nat.reduceSub, List.set_cons_zero, List.set_cons_succ, if_true, if_false, true_and, and_true, Bool.false_eq_true, Bool.not_true, Bool.not_false, ↓reduceIte, ifF, Nat.zero_add, startE, wipeE, Option.bind_some, Int.toNat_natCast, Option.some.injEq, List.set_set, Option.map_some, W.int.injEq, W.str.injEq, W.loc.injEq, Nat.reduceLeDiff, and_self, Int.reduceLT, Int.reduceLE, Int.reduceNeg, Int.reduceToNat, Int.reduceAdd, Int.reduceMul, Int.reduceSub, decide_eq_true_eq, Sh.w, show ((Str.ofString "tags" == Str.ofString "pair") = false) from by decide]
      exact ⟨_, _, l, rfl, X2, L2', e52, by omega, hlo⟩
    | pair a b =>
      simp (maxSteps := 500000) (implicitDefEqProofs := false) (disch := omega) only [↓pa0, ↓pa1, ↓pa2, ↓pa3, ↓pa4, ↓pa5, ↓pa6, pb0, pb1, pb2, pb3, pb4, pb5, pb6, List.map_cons, List.map_nil, List.length_cons, List.length_nil, List.replicate, List.cons_append, List.nil_append, Nat.reduceAdd, Nat.reduceSub, List.set_cons_zero, List.set_cons_succ, if_true, if_false, true_and, and_true, Bool.false_eq_true, Bool.not_true, Bool.not_false, ↓reduceIte, ifF, Nat.zero_add, startE, wipeE, Option.bind_some, Int.toNat_natCast, Option.some.injEq, List.set_set, Option.map_some, W.int.injEq, W.str.injEq, W.loc.injEq, Nat.reduceLeDiff, and_self, Int.reduceLT, Int.reduceLE, Int.reduceNeg, Int.reduceToNat, Int.reduceAdd, Int.reduceMul, Int.reduceSub, decide_eq_true_eq, Sh.w, show ((Str.ofString "pair" == Str.ofString "pair") = true) from by decide, eqSx]
      have ll : (l.map ptW).length < 1000000 := by rw [List.length_map]; omega
      have s1 : ∀ c : Bool, (∃ a b, kd.sh = .pair a b ∧ (if c then a else b) = k.nm) → ∀ p ∈ l ++ [(c, kd)], PtOk ks k p := fun c hc p hp => by
        rcases List.mem_append.mp hp with hp | hp
        · exact hlo p hp
        · rw [List.mem_singleton.mp hp]; exact ⟨hkd, hc⟩
      split
      · rename_i ha
        simp (maxSteps := 500000) (implicitDefEqProofs := false) (disch := omega) only [↓pa0, ↓pa1, ↓pa2, ↓pa3, ↓pa4, ↓pa5, ↓pa6, pb0, pb1, pb2, pb3, pb4, pb5, pb6, List.map_cons, List.map_nil, List.length_cons, List.length_nil, List.replicate, List.cons_append, List.nil_append, Nat.reduceAdd, Nat.reduceSub, List.set_cons_zero, List.set_cons_succ, if_true, if_false, true_and, and_true, Bool.false_eq_true, Bool.not_true, Bool.not_false, ↓reduceIte, ifF, Nat.zero_add, startE, wipeE, Option.bind_some, Int.toNat_natCast, Option.some.injEq, List.set_set, Option.map_some, W.int.injEq, W.str.injEq, W.loc.injEq, Nat.reduceLeDiff, and_self, Int.reduceLT, Int.reduceLE, Int.reduceNeg, Int.reduceToNat, Int.reduceAdd, Int.reduceMul, Int.reduceSub, decide_eq_true_eq, tyOk_l e52, appendW_l e52 ll, show ((Str.ofString "pair" == Str.ofString "pair") = true) from by decide, eqSx]
        have e53 : (S2.set S.length (.lst (l.map ptW ++ [.tup [sW "one", tx kd.nm]])))[S.length]? = some (.lst ((l ++ [(true, kd)]).map ptW)) := by rw [at_set' e52, List.map_append]; rfl
        have w13 : (S2.set S.length (.lst (l.map ptW ++ [.tup [sW "one", tx kd.nm]])))[pw]? = some (.dct (wdD psh ph pl lefta)) := at_ne w12 (Nat.ne_of_gt l3w)
        have X3 : Xt [S.length] S1 (S2.set S.length (.lst (l.map ptW ++ [.tup [sW "one", tx kd.nm]]))) := X2.setI (by simp)
        have L3' : (S2.set S.length (.lst (l.map ptW ++ [.tup [sW "one", tx kd.nm]]))).length = S1.length := by rw [List.length_set]; exact L2'
        generalize S2.set S.length (.lst (l.map ptW ++ [.tup [sW "one", tx kd.nm]])) = S3 at *
        have hl1 := s1 true ⟨a, b, esk, ha⟩
        have ll3 : ((l ++ [(true, kd)]).map ptW).length < 1000000 := by simp; omega
        split
        · rename_i hb
          simp (maxSteps := 500000) (implicitDefEqProofs := false) (disch := omega) only [↓pa0, ↓pa1, ↓pa2, ↓pa3, ↓pa4, ↓pa5, ↓pa6, pb0, pb1, pb2, pb3, pb4, pb5, pb6, List.map_cons, List.map_nil, List.length_cons, List.length_nil, List.replicate, List.cons_append, List.nil_append, Nat.reduceAdd, Nat.reduceSub, List.set_cons_zero, List.set_cons_succ, if_true, if_false, true_and, and_true, Bool.false_eq_true, Bool.not_true, Bool.not_false, ↓reduceIte, ifF, Nat.zero_add, startE, wipeE, Option.bind_some, Int.toNat_natCast, Option.some.injEq, List.set_set, Option.map_some, W.int.injEq, W.str.injEq, W.loc.injEq, Nat.reduceLeDiff, and_self, Int.reduceLT, Int.reduceLE, Int.reduceNeg, Int.reduceToNat, Int.reduceAdd, Int.reduceMul, Int.reduceSub, decide_eq_true_eq, tyOk_l e53, appendW_l e53 ll3]
          refine ⟨_, _, l ++ [(true, kd)] ++ [(false, kd)], rfl, X3.setI (by simp), by rw [List.length_set]; exact L3', by rw [at_set' e53, List.map_append (l₁ := l ++ [(true, kd)])]; rfl, by simp; omega, ?_⟩
          intro p hp
          rcases List.mem_append.mp hp with hp | hp
          · exact hl1 p hp
          · rw [List.mem_singleton.mp hp]; exact ⟨hkd, a, b, esk, hb⟩
        · exact ⟨_, _, l ++ [(true, kd)], rfl, X3, L3', e53, by simp; omega, hl1⟩
      · split
        · rename_i ha hb
          simp (maxSteps := 500000) (implicitDefEqProofs := false) (disch := omega) only [↓pa0, ↓pa1, ↓pa2, ↓pa3, ↓pa4, ↓pa5, ↓pa6, pb0, pb1, pb2, pb3, pb4, pb5, pb6, List.map_cons, List.map_nil, List.length_cons, List.length_nil, List.replicate, List.cons_append, List.nil_append, Nat.reduceAdd, Nat.reduceSub, List.set_cons_zero, List.set_cons_succ, if_true, if_false, true_and, and_true, Bool.false_eq_true, Bool.not_true, Bool.not_false, ↓reduceIte, ifF, Nat.zero_add, startE, wipeE, Option.bind_some, Int.toNat_natCast, Option.some.injEq, List.set_set, Option.map_some, W.int.injEq, W.str.injEq, W.loc.injEq, Nat.reduceLeDiff, and_self, Int.reduceLT, Int.reduceLE, Int.reduceNeg, Int.reduceToNat, Int.reduceAdd, Int.reduceMul, Int.reduceSub, decide_eq_true_eq, tyOk_l e52, appendW_l e52 ll]
          exact ⟨_, _, l ++ [(false, kd)], rfl, X2.setI (by simp), by rw [List.length_set]; exact L2', by rw [at_set' e52, List.map_append]; rfl, by simp; omega, s1 false ⟨a, b, esk, hb⟩⟩
        · exact ⟨_, _, l, rfl, X2, L2', e52, by omega, hlo⟩
  · rintro s S2 ⟨x6, x7, l, rfl, X2, L2', e52, hll, hlo⟩
    refine ⟨by rw [keyIt_f (X2.get esh1 (by simp; omega)), List.getElem?_eq_none (by rw [List.length_map]; exact Nat.le_refl _)]; rfl, ?_⟩
    have X03 : Xt [S.length] Sa (S2.set psh (.dct (shD ks))) := Xt.unlock esha (hS1 ▸ X2)
    have X3 : Xt [] S (S2.set psh (.dct (shD ks))) := (Xa.nil.trans X03).drop fun k hk hl => by have := List.mem_singleton.mp hk; omega
    have e53 : (S2.set psh (.dct (shD ks)))[S.length]? = some (.lst (l.map ptW)) := at_ne e52 (Nat.ne_of_lt lsh)
    rw [onUnl_nx]
    have wi3 := wi.mono0 sp X3
    have ea3 := X3.get0 ea
    generalize S2.set psh (.dct (shD ks)) = S3 at *
    clear hS1 X2 X03 esh1 w11 e51 e52 L2'
    have l53 := lt_at e53
    have l3i := wi.st.lt
    simp (maxSteps := 500000) (implicitDefEqProofs := false) (disch := omega) only [↓pa0, ↓pa1, ↓pa2, ↓pa3, ↓pa4, ↓pa5, ↓pa6, pb0, pb1, pb2, pb3, pb4, pb5, pb6, List.map_cons, List.map_nil, List.length_cons, List.length_nil, List.replicate, List.cons_append, List.nil_append, Nat.reduceAdd, Nat.reduceSub, List.set_cons_zero, List.set_cons_succ, if_true, if_false, true_and, and_true, Bool.false_eq_true, Bool.not_true, Bool.not_false, ↓reduceIte, ifF, Nat.zero_add, startE, wipeE, Option.bind_some, Int.toNat_natCast, Option.some.injEq, List.set_set, Option.map_some, W.int.injEq, W.str.injEq, W.loc.injEq, Nat.reduceLeDiff, and_self, Int.reduceLT, Int.reduceLE, Int.reduceNeg, Int.reduceToNat, Int.reduceAdd, Int.reduceMul, Int.reduceSub, decide_eq_true_eq]
    have X4 : Xt [] S (S3 ++ [O.lst []]) := X3.appI
    have wi4 := wi.mono0 sp X4
    have ea4 := X4.get0 ea
    have e54 : (S3 ++ [O.lst []])[S.length]? = some (.lst (l.map ptW)) := at_app e53
    have eq4 : (S3 ++ [O.lst []])[S3.length]? = some (.lst []) := at_new'
    generalize S3 ++ [O.lst []] = S4 at *
    simp (maxSteps := 500000) (implicitDefEqProofs := false) (disch := omega) only [↓pa0, ↓pa1, ↓pa2, ↓pa3, ↓pa4, ↓pa5, ↓pa6, pb0, pb1, pb2, pb3, pb4, pb5, pb6, List.map_cons, List.map_nil, List.length_cons, List.length_nil, List.replicate, List.cons_append, List.nil_append, Nat.reduceAdd, Nat.reduceSub, List.set_cons_zero, List.set_cons_succ, if_true, if_false, true_and, and_true, Bool.false_eq_true, Bool.not_true, Bool.not_false, ↓reduceIte, ifF, Nat.zero_add, startE, wipeE, Option.bind_some, Int.toNat_natCast, Option.some.injEq, List.set_set, Option.map_some, W.int.injEq, W.str.injEq, W.loc.injEq, Nat.reduceLeDiff, and_self, Int.reduceLT, Int.reduceLE, Int.reduceNeg, Int.reduceToNat, Int.reduceAdd, Int.reduceMul, Int.reduceSub, decide_eq_true_eq, eqW_nil e54 (pt_pd (n := 61) l) eq4]
    split
    · exact ic n ar pa pl k S4 _ (by omega) hkm hnd (by omega) n1 n2 n3 n4 ea4 wi4 fun S' b pl' x w hp t d => hq S' b pl' (X4.nil.trans x) w (hp.imp_right fun z => Nat.le_trans X4.len z) t d
    · rename_i hemp
      have hpos := isE_not hemp
      rw [List.length_map] at hpos
      simp (maxSteps := 500000) (implicitDefEqProofs := false) (disch := omega) only [↓pa0, ↓pa1, ↓pa2, ↓pa3, ↓pa4, ↓pa5, ↓pa6, pb0, pb1, pb2, pb3, pb4, pb5, pb6, List.map_cons, List.map_nil, List.length_cons, List.length_nil, List.replicate, List.cons_append, List.nil_append, Nat.reduceAdd, Nat.reduceSub, List.set_cons_zero, List.set_cons_succ, if_true, if_false, true_and, and_true, Bool.false_eq_true, Bool.not_true, Bool.not_false, ↓reduceIte, ifF, Nat.zero_add, startE, wipeE, Option.bind_some, Int.toNat_natCast, Option.some.injEq, List.set_set, Option.map_some, W.int.injEq, W.str.injEq, W.loc.injEq, Nat.reduceLeDiff, and_self, Int.reduceLT, Int.reduceLE, Int.reduceNeg, Int.reduceToNat, Int.reduceAdd, Int.reduceMul, Int.reduceSub, decide_eq_true_eq, lenW_l e54, List.length_map]
      refine take_ok (by omega) wi4.st (by omega) fun z o h1 h2 st5 => ?_
      have X5 : Xt [i] S (S4.set i o) := X4.nil.setI (by simp)
      have wi5 := wi4.mono sp (Xt.set (by simp)) st5
      have ea5 : (S4.set i o)[pa]? = some (.dct (arD ar)) := at_ne ea4 n1
      have e55 : (S4.set i o)[S.length]? = some (.lst (l.map ptW)) := at_ne e54 (Nat.ne_of_lt l3i)
      generalize S4.set i o = S5 at *
      obtain ⟨j, rfl⟩ : ∃ a : Nat, z = a := ⟨z.toNat, by omega⟩
      have hj : j < l.length := by omega
      obtain ⟨hkd, a, b, esk, hab⟩ := hlo _ (List.getElem_mem hj)
      have eat : atI (l.map ptW) (j : Int) = some (ptW l[j]) := Ev.atI_nat (by rw [List.getElem?_map, List.getElem?_eq_getElem hj]; rfl)
      generalize l[j] = p at *
      obtain ⟨c, kd⟩ := p
      have ed : ((d + 1 : Nat) : Int) - 1 = (d : Int) := by omega
      simp (maxSteps := 500000) (implicitDefEqProofs := false) (disch := omega) only [↓pa0, ↓pa1, ↓pa2, ↓pa3, ↓pa4, ↓pa5, ↓pa6, pb0, pb1, pb2, pb3, pb4, pb5, pb6, List.map_cons, List.map_nil, List.length_cons, List.length_nil, List.replicate, List.cons_append, List.nil_append, Nat.reduceAdd, Nat.reduceSub, List.set_cons_zero, List.set_cons_succ, if_true, if_false, true_and, and_true, Bool.false_eq_true, Bool.not_true, Bool.not_false, ↓reduceIte, ifF, Nat.zero_add, startE, wipeE, Option.bind_some, Int.toNat_natCast, Option.some.injEq, List.set_set, Option.map_some, W.int.injEq, W.str.injEq, W.loc.injEq, Nat.reduceLeDiff, and_self, Int.reduceLT, Int.reduceLE, Int.reduceNeg, Int.reduceToNat, Int.reduceAdd, Int.reduceMul, Int.reduceSub, decide_eq_true_eq, wq_ixL e55, eat, ptW, ed]
      refine ih n ar pa pl kd S5 _ (by omega) hkd hnd (by omega) n1 n2 n3 n4 ea5 wi5 fun S6 A pl6 X6 wi6 hp6 tA dA => ?_
      have hpl : pl6 = pl ∨ S.length ≤ pl6 := hp6.imp_right fun z => Nat.le_trans X5.len z
      simp (maxSteps := 500000) (implicitDefEqProofs := false) (disch := omega) only [↓pa0, ↓pa1, ↓pa2, ↓pa3, ↓pa4, ↓pa5, ↓pa6, pb0, pb1, pb2, pb3, pb4, pb5, pb6, List.map_cons, List.map_nil, List.length_cons, List.length_nil, List.replicate, List.cons_append, List.nil_append, Nat.reduceAdd, Nat.reduceSub, List.set_cons_zero, List.set_cons_succ, if_true, if_false, true_and, and_true, Bool.false_eq_true, Bool.not_true, Bool.not_false, ↓reduceIte, ifF, Nat.zero_add, startE, wipeE, Option.bind_some, Int.toNat_natCast, Option.some.injEq, List.set_set, Option.map_some, W.int.injEq, W.str.injEq, W.loc.injEq, Nat.reduceLeDiff, and_self, Int.reduceLT, Int.reduceLE, Int.reduceNeg, Int.reduceToNat, Int.reduceAdd, Int.reduceMul, Int.reduceSub, decide_eq_true_eq]
      cases c with
      | true =>
        have e9 := hq S6 (.nd .one [A]) pl6 ((x2_1 X5).trans X6) wi6 hpl (by have hab : a = k.nm := hab; rw [← hab]; exact .one hkd esk tA) (Bd.dp_nd.mpr fun p hp => by rw [List.mem_singleton.mp hp]; exact dA)
        rw [Bd.w_nd] at e9
        exact e9
      | false =>
        have e9 := hq S6 (.nd .oth [A]) pl6 ((x2_1 X5).trans X6) wi6 hpl (by have hab : b = k.nm := hab; rw [← hab]; exact .oth hkd esk tA) (Bd.dp_nd.mpr fun p hp => by rw [List.mem_singleton.mp hp]; exact dA)
        rw [Bd.w_nd] at e9
        exact e9
end
end Lw

set_option linter.all false
set_option maxRecDepth 100000
set_option maxHeartbeats 4000000
namespace Lw
open PySem L2 Ev
variable {EE : Exc}
section
variable {L1 L2 : List Nat} {top tp : Int} {ks : List Kd} {hs : List Hd} {i pw psh ph : Nat}
theorem arS_not {ar : Ar} {x : List Nat} (h : x ∉ ar.map Prod.fst) : SX.S x ∉ ar.map fun p => SX.S p.1 := by
  intro hm
  obtain ⟨k, hk, e⟩ := List.mem_map.mp hm
  exact h (List.mem_map.mpr ⟨k, hk, SX.S_inj e⟩)
theorem ar_look {ar : Ar} {x : List Nat} (hn : (ar.map Prod.fst).Nodup) : (dlook (arD ar) (.inr (SX.S x))).isSome = decide (x ∈ ar.map Prod.fst) := by
  by_cases h : x ∈ ar.map Prod.fst
  · obtain ⟨p, hp, rfl⟩ := List.mem_map.mp h
    rw [ar_at hn hp]; simp [h]
  · rw [dlook_none (f := fun p : List Nat × List Nat => SX.S p.1) (g := fun p => tx p.2) (arS_not h)]; simp [h]
theorem put_ar {ar : Ar} {x k : List Nat} (h : x ∉ ar.map Prod.fst) : dput (arD ar) (tx x) (.inr (SX.S x)) (tx k) = arD (ar ++ [(x, k)]) := by
  rw [dput_none (dlook_none (f := fun p : List Nat × List Nat => SX.S p.1) (g := fun p => tx p.2) (arS_not h))]
  simp [arD]
theorem nd_snoc {ar : Ar} {x k : List Nat} (hn : (ar.map Prod.fst).Nodup) (h : x ∉ ar.map Prod.fst) : ((ar ++ [(x, k)]).map Prod.fst).Nodup := by
  rw [List.map_append]
  exact List.nodup_append.mpr ⟨hn, by simp, fun a ha b hb e => by subst e; rw [List.map_singleton, List.mem_singleton] at hb; subst hb; exact h ha⟩
theorem let_ok (hk : KOk alphaL alphaU top ks) (hne : ks ≠ []) (hl : ks.length ≤ 6) (sp : Sep i pw psh ph) {m d : Nat} (hm : 5 ≤ m) (ih : BodyAt .f_law_body ks hs i pw psh ph m d (d + 3)) (ic : BodyAt .f_law_choose ks hs i pw psh ph (m + 2) (d + 1) (d + 4)) : BodyAt .f_law_let ks hs i pw psh ph (m + 3) (d + 1) (d + 4) := by
  intro n ar pa pl k S Q hn hkm hnd hal n1 n2 n3 n4 ea wi hq
  obtain ⟨n, rfl⟩ : ∃ m, n = m + 1 := ⟨n - 1, by omega⟩
  have sa := sp.a; have sb := sp.b; have sc := sp.c; have sd := sp.d; have se := sp.e
  obtain ⟨lets, left, w1, w2, w3, w4, w5, w6⟩ := wi.w
  have esh := wi.sh
  have l3i := wi.st.lt
  have l3a := lt_at ea
  have l3w := lt_at w1
  have l3h := lt_at wi.hd
  have l3p := lt_at wi.sh
  rw [call_s, body]
  simp (maxSteps := 500000) (implicitDefEqProofs := false) (disch := omega) only [↓pa0, ↓pa1, ↓pa2, ↓pa3, ↓pa4, ↓pa5, ↓pa6, pb0, pb1, pb2, pb3, pb4, pb5, pb6, List.map_cons, List.map_nil, List.length_cons, List.length_nil, List.replicate, List.cons_append, List.nil_append, Nat.reduceAdd, Nat.reduceSub, List.set_cons_zero, List.set_cons_succ, if_true, if_false, true_and, and_true, Bool.false_eq_true, Bool.not_true, Bool.not_false, ↓reduceIte, ifF, Nat.zero_add, startE, wipeE, Option.bind_some, Int.toNat_natCast, Option.some.injEq, List.set_set, Option.map_some, W.int.injEq, W.str.injEq, W.loc.injEq, Nat.reduceLeDiff, and_self, Int.reduceLT, Int.reduceLE, Int.reduceNeg, Int.reduceToNat, Int.reduceAdd, Int.reduceMul, Int.reduceSub, decide_eq_true_eq, m_f_law_let, wq_ixDs w1, wd3]
  refine wo_ex (seqLen_l w2) ?_
  rw [List.length_map]
  refine wp_filt tx tx (fun x => decide (x ∉ ar.map Prod.fst)) (fun j => by rw [seqIt_l w2, List.getElem?_map]) (by omega) ?_ ?_
  · intro x hx
    refine ⟨_, rfl, ?_, fun _ => ?_⟩
    · simp (maxSteps := 500000) (implicitDefEqProofs := false) (disch := omega) only [↓pa0, ↓pa1, ↓pa2, ↓pa3, ↓pa4, ↓pa5, ↓pa6, pb0, pb1, pb2, pb3, pb4, pb5, pb6, List.map_cons, List.map_nil, List.length_cons, List.length_nil, List.replicate, List.cons_append, List.nil_append, Nat.reduceAdd, Nat.reduceSub, List.set_cons_zero, List.set_cons_succ, if_true, if_false, true_and, and_true, Bool.false_eq_true, Bool.not_true, Bool.not_false, ↓reduceIte, ifF, Nat.zero_add, startE, wipeE, Option.bind_some, Int.toNat_natCast, Option.some.injEq, List.set_set, Option.map_some, W.int.injEq, W.str.injEq, W.loc.injEq, Nat.reduceLeDiff, and_self, Int.reduceLT, Int.reduceLE, Int.reduceNeg, Int.reduceToNat, Int.reduceAdd, Int.reduceMul, Int.reduceSub, decide_eq_true_eq, ninW_d ea, ar_look hnd]
      simp
    · simp (maxSteps := 500000) (implicitDefEqProofs := false) (disch := omega) only [↓pa0, ↓pa1, ↓pa2, ↓pa3, ↓pa4, ↓pa5, ↓pa6, pb0, pb1, pb2, pb3, pb4, pb5, pb6, List.map_cons, List.map_nil, List.length_cons, List.length_nil, List.replicate, List.cons_append, List.nil_append, Nat.reduceAdd, Nat.reduceSub, List.set_cons_zero, List.set_cons_succ, if_true, if_false, true_and, and_true, Bool.false_eq_true, Bool.not_true, Bool.not_false, ↓reduceIte, ifF, Nat.zero_add, startE, wipeE, Option.bind_some, Int.toNat_natCast, Option.some.injEq, List.set_set, Option.map_some, W.int.injEq, W.str.injEq, W.loc.injEq, Nat.reduceLeDiff, and_self, Int.reduceLT, Int.reduceLE, Int.reduceNeg, Int.reduceToNat, Int.reduceAdd, Int.reduceMul, Int.reduceSub, decide_eq_true_eq]
  have hnl := List.length_filter_le (fun x => decide (x ∉ ar.map Prod.fst)) lets
  have hnm : ∀ x ∈ lets.filter fun x => decide (x ∉ ar.map Prod.fst), x ∈ lets ∧ x ∉ ar.map Prod.fst := fun x hx => by
    obtain ⟨h1, h2⟩ := List.mem_filter.mp hx
    exact ⟨h1, of_decide_eq_true h2⟩
  generalize (lets.filter fun x => decide (x ∉ ar.map Prod.fst)) = fl at *
  simp (maxSteps := 500000) (implicitDefEqProofs := false) (disch := omega) only [↓pa0, ↓pa1, ↓pa2, ↓pa3, ↓pa4, ↓pa5, ↓pa6, pb0, pb1, pb2, pb3, pb4, pb5, pb6, List.map_cons, List.map_nil, List.length_cons, List.length_nil, List.replicate, List.cons_append, List.nil_append, Nat.reduceAdd, Nat.reduceSub, List.set_cons_zero, List.set_cons_succ, if_true, if_false, true_and, and_true, Bool.false_eq_true, Bool.not_true, Bool.not_false, ↓reduceIte, ifF, Nat.zero_add, startE, wipeE, Option.bind_some, Int.toNat_natCast, Option.some.injEq, List.set_set, Option.map_some, W.int.injEq, W.str.injEq, W.loc.injEq, Nat.reduceLeDiff, and_self, Int.reduceLT, Int.reduceLE, Int.reduceNeg, Int.reduceToNat, Int.reduceAdd, Int.reduceMul, Int.reduceSub, decide_eq_true_eq, List.length_append]
  have X2 : Xt [] S (S ++ [O.lst (fl.map tx)] ++ [O.lst []]) := Xt.refl.appI.appI
  have wi2 := wi.mono0 sp X2
  have ea2 := X2.get0 ea
  have e2 : (S ++ [O.lst (fl.map tx)] ++ [O.lst []])[S.length]? = some (.lst (fl.map tx)) := at_app at_new'
  have e2q : (S ++ [O.lst (fl.map tx)] ++ [O.lst []])[S.length + 1]? = some (.lst []) := by simp
  have w12 := X2.get0 w1
  have w22 := X2.get0 w2
  generalize (S ++ [O.lst (fl.map tx)] ++ [O.lst []]) = S2 at *
  simp (maxSteps := 500000) (implicitDefEqProofs := false) (disch := omega) only [↓pa0, ↓pa1, ↓pa2, ↓pa3, ↓pa4, ↓pa5, ↓pa6, pb0, pb1, pb2, pb3, pb4, pb5, pb6, List.map_cons, List.map_nil, List.length_cons, List.length_nil, List.replicate, List.cons_append, List.nil_append, Nat.reduceAdd, Nat.reduceSub, List.set_cons_zero, List.set_cons_succ, if_true, if_false, true_and, and_true, Bool.false_eq_true, Bool.not_true, Bool.not_false, ↓reduceIte, ifF, Nat.zero_add, startE, wipeE, Option.bind_some, Int.toNat_natCast, Option.some.injEq, List.set_set, Option.map_some, W.int.injEq, W.str.injEq, W.loc.injEq, Nat.reduceLeDiff, and_self, Int.reduceLT, Int.reduceLE, Int.reduceNeg, Int.reduceToNat, Int.reduceAdd, Int.reduceMul, Int.reduceSub, decide_eq_true_eq, eqW_nil e2 (pd_strs (n := 62) fl) e2q]
  split
  · exact ic n ar pa pl k S2 _ (by omega) hkm hnd (by omega) n1 n2 n3 n4 ea2 wi2 fun S' b pl' x w hp t d => hq S' b pl' (X2.nil.trans x) w (hp.imp_right fun z => Nat.le_trans X2.len z) t d
  · rename_i hemp
    have hpos := isE_not hemp
    rw [List.length_map] at hpos
    simp (maxSteps := 500000) (implicitDefEqProofs := false) (disch := omega) only [↓pa0, ↓pa1, ↓pa2, ↓pa3, ↓pa4, ↓pa5, ↓pa6, pb0, pb1, pb2, pb3, pb4, pb5, pb6, List.map_cons, List.map_nil, List.length_cons, List.length_nil, List.replicate, List.cons_append, List.nil_append, Nat.reduceAdd, Nat.reduceSub, List.set_cons_zero, List.set_cons_succ, if_true, if_false, true_and, and_true, Bool.false_eq_true, Bool.not_true, Bool.not_false, ↓reduceIte, ifF, Nat.zero_add, startE, wipeE, Option.bind_some, Int.toNat_natCast, Option.some.injEq, List.set_set, Option.map_some, W.int.injEq, W.str.injEq, W.loc.injEq, Nat.reduceLeDiff, and_self, Int.reduceLT, Int.reduceLE, Int.reduceNeg, Int.reduceToNat, Int.reduceAdd, Int.reduceMul, Int.reduceSub, decide_eq_true_eq, lenW_l e2, List.length_map]
    refine take_ok (by omega) wi2.st (by omega) fun z o h1 h2 st3 => ?_
    have X3 : Xt [i] S (S2.set i o) := X2.nil.setI (by simp)
    have wi3 := wi2.mono sp (Xt.set (by simp)) st3
    have ea3 : (S2.set i o)[pa]? = some (.dct (arD ar)) := at_ne ea2 n1
    have e3 : (S2.set i o)[S.length]? = some (.lst (fl.map tx)) := at_ne e2 (Nat.ne_of_lt l3i)
    have w13 : (S2.set i o)[pw]? = some (.dct (wdD psh ph pl left)) := at_ne w12 sa
    have w23 : (S2.set i o)[pl]? = some (.lst (lets.map tx)) := at_ne w22 w5
    generalize S2.set i o = S3 at *
    obtain ⟨j, rfl⟩ : ∃ a : Nat, z = a := ⟨z.toNat, by omega⟩
    have hj : j < fl.length := by omega
    obtain ⟨hxl, hxa⟩ := hnm _ (List.getElem_mem hj)
    have eat : atI (fl.map tx) (j : Int) = some (tx fl[j]) := Ev.atI_nat (by rw [List.getElem?_map, List.getElem?_eq_getElem hj]; rfl)
    generalize fl[j] = x at *
    simp (maxSteps := 500000) (implicitDefEqProofs := false) (disch := omega) only [↓pa0, ↓pa1, ↓pa2, ↓pa3, ↓pa4, ↓pa5, ↓pa6, pb0, pb1, pb2, pb3, pb4, pb5, pb6, List.map_cons, List.map_nil, List.length_cons, List.length_nil, List.replicate, List.cons_append, List.nil_append, Nat.reduceAdd, Nat.reduceSub, List.set_cons_zero, List.set_cons_succ, if_true, if_false, true_and, and_true, Bool.false_eq_true, Bool.not_true, Bool.not_false, ↓reduceIte, ifF, Nat.zero_add, startE, wipeE, Option.bind_some, Int.toNat_natCast, Option.some.injEq, List.set_set, Option.map_some, W.int.injEq, W.str.injEq, W.loc.injEq, Nat.reduceLeDiff, and_self, Int.reduceLT, Int.reduceLE, Int.reduceNeg, Int.reduceToNat, Int.reduceAdd, Int.reduceMul, Int.reduceSub, decide_eq_true_eq, wq_ixL e3, eat, wq_ixDs w13, wd3, listW_l w23]
    have X4 : Xt [i] S (S3 ++ [O.lst (lets.map tx)]) := X3.appI
    have wi4 := wi3.mono0 sp (Xt.app (T := [O.lst (lets.map tx)]))
    have ea4 : (S3 ++ [O.lst (lets.map tx)])[pa]? = some (.dct (arD ar)) := at_app ea3
    have w14 : (S3 ++ [O.lst (lets.map tx)])[pw]? = some (.dct (wdD psh ph pl left)) := at_app w13
    have e44 : (S3 ++ [O.lst (lets.map tx)])[S3.length]? = some (.lst (lets.map tx)) := at_new'
    have l03 : S.length ≤ S3.length := X3.len
    generalize S3 ++ [O.lst (lets.map tx)] = S4 at *
    have l34 : S3.length < S4.length := lt_at e44
    generalize S3.length = p7 at *
    obtain ⟨jr, erm⟩ := removeW_t e44 hxl
    have ewl : (lets.eraseIdx jr).length ≤ lets.length := by rw [List.length_eraseIdx]; split <;> omega
    have ewm : ∀ l ∈ lets.eraseIdx jr, WordOf alphaL l := fun l hl => w4 l (List.mem_of_mem_eraseIdx hl)
    generalize lets.eraseIdx jr = lets' at *
    simp (maxSteps := 500000) (implicitDefEqProofs := false) (disch := omega) only [↓pa0, ↓pa1, ↓pa2, ↓pa3, ↓pa4, ↓pa5, ↓pa6, pb0, pb1, pb2, pb3, pb4, pb5, pb6, List.map_cons, List.map_nil, List.length_cons, List.length_nil, List.replicate, List.cons_append, List.nil_append, Nat.reduceAdd, Nat.reduceSub, List.set_cons_zero, List.set_cons_succ, if_true, if_false, true_and, and_true, Bool.false_eq_true, Bool.not_true, Bool.not_false, ↓reduceIte, ifF, Nat.zero_add, startE, wipeE, Option.bind_some, Int.toNat_natCast, Option.some.injEq, List.set_set, Option.map_some, W.int.injEq, W.str.injEq, W.loc.injEq, Nat.reduceLeDiff, and_self, Int.reduceLT, Int.reduceLE, Int.reduceNeg, Int.reduceToNat, Int.reduceAdd, Int.reduceMul, Int.reduceSub, decide_eq_true_eq, tyOk_l e44, erm]
    have w15 : (S4.set p7 (.lst (lets'.map tx)))[pw]? = some (.dct (wdD psh ph pl left)) := at_ne w14 (ne_new l3w l03)
    rw [setO_d w15 key_str (by show 4 < 1000000; decide), wdP3]
    have X5 : Xt [i, pw] S ((S4.set p7 (.lst (lets'.map tx))).set pw (.dct (wdD psh ph p7 left))) := ((x2_1 X4).setN l03).setI (by simp)
    have wi5 : WI ((S4.set p7 (.lst (lets'.map tx))).set pw (.dct (wdD psh ph p7 left))) i pw psh ph p7 ks hs := by
      refine ⟨(wi4.st.ne (ne_new l3i l03)).ne sa.symm, ⟨lets', left, at_set' w15, at_ne (at_set' e44) (ne_new l3w l03).symm, by omega, ewm, (ne_new l3i l03).symm, (ne_new l3w l03).symm⟩, at_ne (at_ne wi4.sh (ne_new l3p l03)) sd, at_ne (at_ne wi4.hd (ne_new l3h l03)) se⟩
    have ea5 : ((S4.set p7 (.lst (lets'.map tx))).set pw (.dct (wdD psh ph p7 left)))[pa]? = some (.dct (arD ar)) := at_ne (at_ne ea4 (ne_new l3a l03)) n2
    have w16 : ((S4.set p7 (.lst (lets'.map tx))).set pw (.dct (wdD psh ph p7 left)))[pw]? = some (.dct (wdD psh ph p7 left)) := at_set' w15
    generalize (S4.set p7 (.lst (lets'.map tx))).set pw (.dct (wdD psh ph p7 left)) = S5 at *
    have l5 := X5.len
    simp (maxSteps := 500000) (implicitDefEqProofs := false) (disch := omega) only [↓pa0, ↓pa1, ↓pa2, ↓pa3, ↓pa4, ↓pa5, ↓pa6, pb0, pb1, pb2, pb3, pb4, pb5, pb6, List.map_cons, List.map_nil, List.length_cons, List.length_nil, List.replicate, List.cons_append, List.nil_append, Nat.reduceAdd, Nat.reduceSub, List.set_cons_zero, List.set_cons_succ, if_true, if_false, true_and, and_true, Bool.false_eq_true, Bool.not_true, Bool.not_false, ↓reduceIte, ifF, Nat.zero_add, startE, wipeE, Option.bind_some, Int.toNat_natCast, Option.some.injEq, List.set_set, Option.map_some, W.int.injEq, W.str.injEq, W.loc.injEq, Nat.reduceLeDiff, and_self, Int.reduceLT, Int.reduceLE, Int.reduceNeg, Int.reduceToNat, Int.reduceAdd, Int.reduceMul, Int.reduceSub, decide_eq_true_eq, wq_ixDs w16, wd1, listW_d wi5.sh]
    have X6 : Xt [i, pw] S (S5 ++ [O.lst ((shD ks).map Prod.fst)]) := X5.appI
    have e6 : (S5 ++ [O.lst ((shD ks).map Prod.fst)])[S5.length]? = some (.lst ((shD ks).map Prod.fst)) := at_new'
    have wi6 := wi5.mono0 sp (Xt.app (T := [O.lst ((shD ks).map Prod.fst)]))
    have ea6 : (S5 ++ [O.lst ((shD ks).map Prod.fst)])[pa]? = some (.dct (arD ar)) := at_app ea5
    have w17 : (S5 ++ [O.lst ((shD ks).map Prod.fst)])[pw]? = some (.dct (wdD psh ph p7 left)) := at_app w16
    generalize S5 ++ [O.lst ((shD ks).map Prod.fst)] = S6 at *
    have l56 : S5.length < S6.length := lt_at e6
    generalize S5.length = p8 at *
    have hkp : 0 < ks.length := List.length_pos_iff.mpr hne
    simp (maxSteps := 500000) (implicitDefEqProofs := false) (disch := omega) only [↓pa0, ↓pa1, ↓pa2, ↓pa3, ↓pa4, ↓pa5, ↓pa6, pb0, pb1, pb2, pb3, pb4, pb5, pb6, List.map_cons, List.map_nil, List.length_cons, List.length_nil, List.replicate, List.cons_append, List.nil_append, Nat.reduceAdd, Nat.reduceSub, List.set_cons_zero, List.set_cons_succ, if_true, if_false, true_and, and_true, Bool.false_eq_true, Bool.not_true, Bool.not_false, ↓reduceIte, ifF, Nat.zero_add, startE, wipeE, Option.bind_some, Int.toNat_natCast, Option.some.injEq, List.set_set, Option.map_some, W.int.injEq, W.str.injEq, W.loc.injEq, Nat.reduceLeDiff, and_self, Int.reduceLT, Int.reduceLE, Int.reduceNeg, Int.reduceToNat, Int.reduceAdd, Int.reduceMul, Int.reduceSub, decide_eq_true_eq, wq_ixDs w17, wd1, lenW_d wi6.sh, List.length_map]
    refine take_ok (by omega) wi6.st (by omega) fun z o h1 h2 st7 => ?_
    have X7 : Xt [i, pw] S (S6.set i o) := X6.setI (by simp)
    have wi7 := wi6.mono sp (Xt.set (by simp)) st7
    have ea7 : (S6.set i o)[pa]? = some (.dct (arD ar)) := at_ne ea6 n1
    have e7 : (S6.set i o)[p8]? = some (.lst ((shD ks).map Prod.fst)) := at_ne e6 (ne_new l3i l5).symm
    generalize S6.set i o = S7 at *
    obtain ⟨j8, rfl⟩ : ∃ a : Nat, z = a := ⟨z.toNat, by omega⟩
    have hj8 : j8 < ks.length := by omega
    have hkd := List.getElem_mem hj8
    have eat8 : atI ((shD ks).map Prod.fst) (j8 : Int) = some (tx (ks[j8]).nm) := Ev.atI_nat (by rw [List.getElem?_map, List.getElem?_map, List.getElem?_eq_getElem hj8]; rfl)
    generalize ks[j8] = kd at *
    simp (maxSteps := 500000) (implicitDefEqProofs := false) (disch := omega) only [↓pa0, ↓pa1, ↓pa2, ↓pa3, ↓pa4, ↓pa5, ↓pa6, pb0, pb1, pb2, pb3, pb4, pb5, pb6, List.map_cons, List.map_nil, List.length_cons, List.length_nil, List.replicate, List.cons_append, List.nil_append, Nat.reduceAdd, Nat.reduceSub, List.set_cons_zero, List.set_cons_succ, if_true, if_false, true_and, and_true, Bool.false_eq_true, Bool.not_true, Bool.not_false, ↓reduceIte, ifF, Nat.zero_add, startE, wipeE, Option.bind_some, Int.toNat_natCast, Option.some.injEq, List.set_set, Option.map_some, W.int.injEq, W.str.injEq, W.loc.injEq, Nat.reduceLeDiff, and_self, Int.reduceLT, Int.reduceLE, Int.reduceNeg, Int.reduceToNat, Int.reduceAdd, Int.reduceMul, Int.reduceSub, decide_eq_true_eq, wq_ixL e7, eat8, dictW_d ea7]
    have X8 : Xt [i, pw] S (S7 ++ [O.dct (arD ar)]) := X7.appI
    have wi8 := wi7.mono0 sp (Xt.app (T := [O.dct (arD ar)]))
    have e8 : (S7 ++ [O.dct (arD ar)])[S7.length]? = some (.dct (arD ar)) := at_new'
    have l07 : S.length ≤ S7.length := X7.len
    obtain ⟨lets7, left7, w177, w277, _⟩ := wi7.w
    have l77 := lt_at w277
    have hp7 : p7 = pl ∨ S.length ≤ p7 := .inr l03
    generalize S7 ++ [O.dct (arD ar)] = S8 at *
    generalize S7.length = p9 at *
    rw [setO_d e8 key_str (show (arD ar).length < 1000000 by rw [List.length_map]; omega), put_ar hxa]
    have X9 : Xt [i, pw] S (S8.set p9 (.dct (arD (ar ++ [(x, kd.nm)])))) := X8.setN l07
    have wi9 : WI (S8.set p9 (.dct (arD (ar ++ [(x, kd.nm)])))) i pw psh ph p7 ks hs := wi8.set (ne_new l3i l07) (ne_new l3w l07) (ne_new l3p l07) (ne_new l3h l07) (Nat.ne_of_gt l77)
    have e9 : (S8.set p9 (.dct (arD (ar ++ [(x, kd.nm)]))))[p9]? = some (.dct (arD (ar ++ [(x, kd.nm)]))) := at_set' e8
    generalize S8.set p9 (.dct (arD (ar ++ [(x, kd.nm)]))) = S9 at *
    have ed : ((d + 1 : Nat) : Int) - 1 = (d : Int) := by omega
    have nda := nd_snoc (k := kd.nm) hnd hxa
    have la : (ar ++ [(x, kd.nm)]).length + d ≤ 100 := by simp; omega
    have p91 := (ne_new l3i l07).symm
    have p92 := (ne_new l3w l07).symm
    have p93 := (ne_new l3p l07).symm
    have p94 := (ne_new l3h l07).symm
    simp (maxSteps := 500000) (implicitDefEqProofs := false) (disch := omega) only [↓pa0, ↓pa1, ↓pa2, ↓pa3, ↓pa4, ↓pa5, ↓pa6, pb0, pb1, pb2, pb3, pb4, pb5, pb6, List.map_cons, List.map_nil, List.length_cons, List.length_nil, List.replicate, List.cons_append, List.nil_append, Nat.reduceAdd, Nat.reduceSub, List.set_cons_zero, List.set_cons_succ, if_true, if_false, true_and, and_true, Bool.false_eq_true, Bool.not_true, Bool.not_false, ↓reduceIte, ifF, Nat.zero_add, startE, wipeE, Option.bind_some, Int.toNat_natCast, Option.some.injEq, List.set_set, Option.map_some, W.int.injEq, W.str.injEq, W.loc.injEq, Nat.reduceLeDiff, and_self, Int.reduceLT, Int.reduceLE, Int.reduceNeg, Int.reduceToNat, Int.reduceAdd, Int.reduceMul, Int.reduceSub, decide_eq_true_eq, ed]
    refine ih n (ar ++ [(x, kd.nm)]) p9 p7 kd S9 _ (by omega) hkd nda la p91 p92 p93 p94 e9 wi9 fun S10 A pl10 X10 wi10 hp10 tA dA => ?_
    have e10 := X10.get e9 (by simp; exact ⟨p91.symm, p92.symm⟩)
    have l09 := X9.len
    simp (maxSteps := 500000) (implicitDefEqProofs := false) (disch := omega) only [↓pa0, ↓pa1, ↓pa2, ↓pa3, ↓pa4, ↓pa5, ↓pa6, pb0, pb1, pb2, pb3, pb4, pb5, pb6, List.map_cons, List.map_nil, List.length_cons, List.length_nil, List.replicate, List.cons_append, List.nil_append, Nat.reduceAdd, Nat.reduceSub, List.set_cons_zero, List.set_cons_succ, if_true, if_false, true_and, and_true, Bool.false_eq_true, Bool.not_true, Bool.not_false, ↓reduceIte, ifF, Nat.zero_add, startE, wipeE, Option.bind_some, Int.toNat_natCast, Option.some.injEq, List.set_set, Option.map_some, W.int.injEq, W.str.injEq, W.loc.injEq, Nat.reduceLeDiff, and_self, Int.reduceLT, Int.reduceLE, Int.reduceNeg, Int.reduceToNat, Int.reduceAdd, Int.reduceMul, Int.reduceSub, decide_eq_true_eq, ed]
    refine ih n (ar ++ [(x, kd.nm)]) p9 pl10 k S10 _ (by omega) hkm nda la p91 p92 p93 p94 e10 wi10 fun S11 B pl11 X11 wi11 hp11 tB dB => ?_
    have l010 := X10.len
    simp (maxSteps := 500000) (implicitDefEqProofs := false) (disch := omega) only [↓pa0, ↓pa1, ↓pa2, ↓pa3, ↓pa4, ↓pa5, ↓pa6, pb0, pb1, pb2, pb3, pb4, pb5, pb6, List.map_cons, List.map_nil, List.length_cons, List.length_nil, List.replicate, List.cons_append, List.nil_append, Nat.reduceAdd, Nat.reduceSub, List.set_cons_zero, List.set_cons_succ, if_true, if_false, true_and, and_true, Bool.false_eq_true, Bool.not_true, Bool.not_false, ↓reduceIte, ifF, Nat.zero_add, startE, wipeE, Option.bind_some, Int.toNat_natCast, Option.some.injEq, List.set_set, Option.map_some, W.int.injEq, W.str.injEq, W.loc.injEq, Nat.reduceLeDiff, and_self, Int.reduceLT, Int.reduceLE, Int.reduceNeg, Int.reduceToNat, Int.reduceAdd, Int.reduceMul, Int.reduceSub, decide_eq_true_eq]
    have q10 : pl10 = pl ∨ S.length ≤ pl10 := hp10.elim (fun e => e ▸ .inr l03) (fun h => .inr (Nat.le_trans l09 h))
    have q11 : pl11 = pl ∨ S.length ≤ pl11 := hp11.elim (fun e => e ▸ q10) (fun h => .inr (Nat.le_trans l09 (Nat.le_trans l010 h)))
    have e12 := hq S11 (.nd (.lt x kd.nm) [A, B]) pl11 ((X9.trans X10).trans X11) wi11 q11 (.lt hxa hkd tA tB) (Bd.dp_nd.mpr fun p hp => by
      rcases List.mem_cons.mp hp with rfl | hp
      · exact dA
      · rw [List.mem_singleton.mp hp]; exact dB)
    rw [Bd.w_nd] at e12
    exact e12
theorem body_ok (hk : KOk alphaL alphaU top ks) (hne : ks ≠ []) (hl : ks.length ≤ 6) (hh : HOk ks tp hs) (hhl : hs.length ≤ 100) (sp : Sep i pw psh ph) : ∀ d : Nat, BodyAt .f_law_body ks hs i pw psh ph (4 * d + 6) d (d + 3)
  | d => by
    intro n ar pa pl k S Q hn hkm hnd hal n1 n2 n3 n4 ea wi hq
    obtain ⟨n, rfl⟩ : ∃ m, n = m + 1 := ⟨n - 1, by omega⟩
    have sa := sp.a; have sb := sp.b; have sc := sp.c; have sd := sp.d; have se := sp.e
    obtain ⟨lets, left, w1, w2, w3, w4, w5, w6⟩ := wi.w
    rw [call_s, body]
    simp (maxSteps := 500000) (implicitDefEqProofs := false) (disch := omega) only [↓pa0, ↓pa1, ↓pa2, ↓pa3, ↓pa4, ↓pa5, ↓pa6, pb0, pb1, pb2, pb3, pb4, pb5, pb6, List.map_cons, List.map_nil, List.length_cons, List.length_nil, List.replicate, List.cons_append, List.nil_append, Nat.reduceAdd, Nat.reduceSub, List.set_cons_zero, List.set_cons_succ, if_true, if_false, true_and, and_true, Bool.false_eq_true, Bool.not_true, Bool.not_false, ↓reduceIte, ifF, Nat.zero_add, startE, wipeE, Option.bind_some, Int.toNat_natCast, Option.some.injEq, List.set_set, Option.map_some, W.int.injEq, W.str.injEq, W.loc.injEq, Nat.reduceLeDiff, and_self, Int.reduceLT, Int.reduceLE, Int.reduceNeg, Int.reduceToNat, Int.reduceAdd, Int.reduceMul, Int.reduceSub, decide_eq_true_eq, m_f_law_body, wq_ixDs w1, wd4]
    rw [setO_d w1 key_str (by show 4 < 1000000; decide), wdP4]
    have X1 : Xt [i, pw] S (S.set pw (.dct (wdD psh ph pl (left - 1)))) := Xt.set (by simp)
    have wi1 : WI (S.set pw (.dct (wdD psh ph pl (left - 1)))) i pw psh ph pl ks hs := ⟨wi.st.ne sa.symm, ⟨lets, left - 1, at_set' w1, at_ne w2 w6, w3, w4, w5, w6⟩, at_ne wi.sh sd, at_ne wi.hd se⟩
    have ea1 : (S.set pw (.dct (wdD psh ph pl (left - 1))))[pa]? = some (.dct (arD ar)) := at_ne ea n2
    have w11 : (S.set pw (.dct (wdD psh ph pl (left - 1))))[pw]? = some (.dct (wdD psh ph pl (left - 1))) := at_set' w1
    generalize S.set pw (.dct (wdD psh ph pl (left - 1))) = S1 at *
    have hpl : wpR (call n .f_law_plain [.loc i, .loc pw, .loc pa, tx k.nm] S1) Q := plainW hk sp (by omega) hkm hnd (by omega) n1 n2 n3 ea1 wi1 fun S' b x w t d _ => hq S' b pl (X1.trans (x2_1 x)) w (.inl rfl) t (by omega)
    simp (maxSteps := 500000) (implicitDefEqProofs := false) (disch := omega) only [↓pa0, ↓pa1, ↓pa2, ↓pa3, ↓pa4, ↓pa5, ↓pa6, pb0, pb1, pb2, pb3, pb4, pb5, pb6, List.map_cons, List.map_nil, List.length_cons, List.length_nil, List.replicate, List.cons_append, List.nil_append, Nat.reduceAdd, Nat.reduceSub, List.set_cons_zero, List.set_cons_succ, if_true, if_false, true_and, and_true, Bool.false_eq_true, Bool.not_true, Bool.not_false, ↓reduceIte, ifF, Nat.zero_add, startE, wipeE, Option.bind_some, Int.toNat_natCast, Option.some.injEq, List.set_set, Option.map_some, W.int.injEq, W.str.injEq, W.loc.injEq, Nat.reduceLeDiff, and_self, Int.reduceLT, Int.reduceLE, Int.reduceNeg, Int.reduceToNat, Int.reduceAdd, Int.reduceMul, Int.reduceSub, decide_eq_true_eq, wq_ixDs w11, wd4]
    by_cases hd0 : d = 0
    · subst hd0
      rw [if_pos (by rfl)]
      exact hpl
    obtain ⟨e, rfl⟩ : ∃ e, d = e + 1 := ⟨d - 1, by omega⟩
    have ih := body_ok hk hne hl hh hhl sp e
    have is := some_ok hk sp (m := 4 * e + 6) (by omega) ih
    have ic := choose_ok hk hne hl sp (m := 4 * e + 6) (by omega) ih is
    rw [if_neg (by simp; omega)]
    split
    · exact hpl
    refine take_ok (by omega) wi1.st (by decide) fun z o h1 h2 st2 => ?_
    have X2 : Xt [i, pw] S (S1.set i o) := X1.setI (by simp)
    have wi2 := wi1.mono sp (Xt.set (by simp)) st2
    have ea2 : (S1.set i o)[pa]? = some (.dct (arD ar)) := at_ne ea1 n1
    have hq2 : ∀ S' b pl', Xt [i, pw] (S1.set i o) S' → WI S' i pw psh ph pl' ks hs → (pl' = pl ∨ (S1.set i o).length ≤ pl') → Ty ks hs ar b k.nm → b.dp ≤ e + 4 → Q b.w S' := fun S' b pl' x w hp t hb => hq S' b pl' (X2.trans x) w (hp.imp_right fun h => Nat.le_trans X2.len h) t (by omega)
    generalize S1.set i o = S2 at *
    obtain ⟨lets2, left2, w12, _⟩ := wi2.w
    have hpl : wpR (call n .f_law_plain [.loc i, .loc pw, .loc pa, tx k.nm] S2) Q := plainW hk sp (by omega) hkm hnd (by omega) n1 n2 n3 ea2 wi2 fun S' b x w t d _ => hq2 S' b pl (x2_1 x) w (.inl rfl) t (by omega)
    simp (maxSteps := 500000) (implicitDefEqProofs := false) (disch := omega) only [↓pa0, ↓pa1, ↓pa2, ↓pa3, ↓pa4, ↓pa5, ↓pa6, pb0, pb1, pb2, pb3, pb4, pb5, pb6, List.map_cons, List.map_nil, List.length_cons, List.length_nil, List.replicate, List.cons_append, List.nil_append, Nat.reduceAdd, Nat.reduceSub, List.set_cons_zero, List.set_cons_succ, if_true, if_false, true_and, and_true, Bool.false_eq_true, Bool.not_true, Bool.not_false, ↓reduceIte, ifF, Nat.zero_add, startE, wipeE, Option.bind_some, Int.toNat_natCast, Option.some.injEq, List.set_set, Option.map_some, W.int.injEq, W.str.injEq, W.loc.injEq, Nat.reduceLeDiff, and_self, Int.reduceLT, Int.reduceLE, Int.reduceNeg, Int.reduceToNat, Int.reduceAdd, Int.reduceMul, Int.reduceSub, decide_eq_true_eq]
    split
    · exact hpl
    split
    · exact ic n ar pa pl k S2 _ (by omega) hkm hnd hal n1 n2 n3 n4 ea2 wi2 hq2
    split
    · exact part_ok hk hl sp (m := 4 * e + 6) (by omega) ih ic n ar pa pl k S2 _ (by omega) hkm hnd hal n1 n2 n3 n4 ea2 wi2 hq2
    split
    · exact let_ok hk hne hl sp (m := 4 * e + 6) (by omega) ih ic n ar pa pl k S2 _ (by omega) hkm hnd hal n1 n2 n3 n4 ea2 wi2 hq2
    have hask := ask_ok hk hh hhl sp (m := 4 * e + 6) (by omega) is n ar pa pl k S2 _ (by omega) hkm hnd hal n1 n2 n3 n4 ea2 wi2 hq2
    simp (maxSteps := 500000) (implicitDefEqProofs := false) (disch := omega) only [↓pa0, ↓pa1, ↓pa2, ↓pa3, ↓pa4, ↓pa5, ↓pa6, pb0, pb1, pb2, pb3, pb4, pb5, pb6, List.map_cons, List.map_nil, List.length_cons, List.length_nil, List.replicate, List.cons_append, List.nil_append, Nat.reduceAdd, Nat.reduceSub, List.set_cons_zero, List.set_cons_succ, if_true, if_false, true_and, and_true, Bool.false_eq_true, Bool.not_true, Bool.not_false, ↓reduceIte, ifF, Nat.zero_add, startE, wipeE, Option.bind_some, Int.toNat_natCast, Option.some.injEq, List.set_set, Option.map_some, W.int.injEq, W.str.injEq, W.loc.injEq, Nat.reduceLeDiff, and_self, Int.reduceLT, Int.reduceLE, Int.reduceNeg, Int.reduceToNat, Int.reduceAdd, Int.reduceMul, Int.reduceSub, decide_eq_true_eq, wq_ixDs w12, wd1, wq_ixDs wi2.sh, sh_at hk.nd hkm]
    cases ek : k.sh with
    | tags ts =>
      simp (maxSteps := 500000) (implicitDefEqProofs := false) (disch := omega) only [↓pa0, ↓pa1, ↓pa2, ↓pa3, ↓pa4, ↓pa5, ↓pa6, pb0, pb1, pb2, pb3, pb4, pb5, pb6, List.map_cons, List.map_nil, List.length_cons, List.length_nil, List.replicate, List.cons_append, List.nil_append, Nat.reduceAdd, Nat.reduceSub, List.set_cons_zero, List.set_cons_succ, if_true, if_false, true_and, and_true, Bool.false_eq_true, Bool.not_true, Bool.not_false, ↓reduceIte, ifF, Nat.zero_add, startE, wipeE, Option.bind_some, Int.toNat_natCast, Option.some.injEq, List.set_set, Option.map_some, W.int.injEq, W.str.injEq, W.loc.injEq, Nat.reduceLeDiff, and_self, Int.reduceLT, Int.reduceLE, Int.reduceNeg, Int.reduceToNat, Int.reduceAdd, Int.reduceMul, Int.reduceSub, decide_eq_true_eq, Sh.w, show ((Str.ofString "tags" == Str.ofString "pair") = false) from by decide]
      exact hask
    | pair a b =>
      have s := (hk.sub k hkm).2.2
      rw [ek] at s
      obtain ⟨x, hx, y, hy, rfl, rfl, hx0, hxd, hy0, hyd, hc⟩ := s
      have ed : ((e + 1 : Nat) : Int) - 1 = (e : Int) := by omega
      simp (maxSteps := 500000) (implicitDefEqProofs := false) (disch := omega) only [↓pa0, ↓pa1, ↓pa2, ↓pa3, ↓pa4, ↓pa5, ↓pa6, pb0, pb1, pb2, pb3, pb4, pb5, pb6, List.map_cons, List.map_nil, List.length_cons, List.length_nil, List.replicate, List.cons_append, List.nil_append, Nat.reduceAdd, Nat.reduceSub, List.set_cons_zero, List.set_cons_succ, if_true, if_false, true_and, and_true, Bool.false_eq_true, Bool.not_true, Bool.not_false, ↓reduceIte, ifF, Nat.zero_add, startE, wipeE, Option.bind_some, Int.toNat_natCast, Option.some.injEq, List.set_set, Option.map_some, W.int.injEq, W.str.injEq, W.loc.injEq, Nat.reduceLeDiff, and_self, Int.reduceLT, Int.reduceLE, Int.reduceNeg, Int.reduceToNat, Int.reduceAdd, Int.reduceMul, Int.reduceSub, decide_eq_true_eq, Sh.w, show ((Str.ofString "pair" == Str.ofString "pair") = true) from by decide, ed]
      split
      · refine ih n ar pa pl x S2 _ (by omega) hx hnd (by omega) n1 n2 n3 n4 ea2 wi2 fun S3 A pl3 X3 wi3 hp3 tA dA => ?_
        simp (maxSteps := 500000) (implicitDefEqProofs := false) (disch := omega) only [↓pa0, ↓pa1, ↓pa2, ↓pa3, ↓pa4, ↓pa5, ↓pa6, pb0, pb1, pb2, pb3, pb4, pb5, pb6, List.map_cons, List.map_nil, List.length_cons, List.length_nil, List.replicate, List.cons_append, List.nil_append, Nat.reduceAdd, Nat.reduceSub, List.set_cons_zero, List.set_cons_succ, if_true, if_false, true_and, and_true, Bool.false_eq_true, Bool.not_true, Bool.not_false, ↓reduceIte, ifF, Nat.zero_add, startE, wipeE, Option.bind_some, Int.toNat_natCast, Option.some.injEq, List.set_set, Option.map_some, W.int.injEq, W.str.injEq, W.loc.injEq, Nat.reduceLeDiff, and_self, Int.reduceLT, Int.reduceLE, Int.reduceNeg, Int.reduceToNat, Int.reduceAdd, Int.reduceMul, Int.reduceSub, decide_eq_true_eq, ed]
        refine ih n ar pa pl3 y S3 _ (by omega) hy hnd (by omega) n1 n2 n3 n4 (X3.get ea2 (by simp; exact ⟨n1.symm, n2.symm⟩)) wi3 fun S4 B pl4 X4 wi4 hp4 tB dB => ?_
        simp (maxSteps := 500000) (implicitDefEqProofs := false) (disch := omega) only [↓pa0, ↓pa1, ↓pa2, ↓pa3, ↓pa4, ↓pa5, ↓pa6, pb0, pb1, pb2, pb3, pb4, pb5, pb6, List.map_cons, List.map_nil, List.length_cons, List.length_nil, List.replicate, List.cons_append, List.nil_append, Nat.reduceAdd, Nat.reduceSub, List.set_cons_zero, List.set_cons_succ, if_true, if_false, true_and, and_true, Bool.false_eq_true, Bool.not_true, Bool.not_false, ↓reduceIte, ifF, Nat.zero_add, startE, wipeE, Option.bind_some, Int.toNat_natCast, Option.some.injEq, List.set_set, Option.map_some, W.int.injEq, W.str.injEq, W.loc.injEq, Nat.reduceLeDiff, and_self, Int.reduceLT, Int.reduceLE, Int.reduceNeg, Int.reduceToNat, Int.reduceAdd, Int.reduceMul, Int.reduceSub, decide_eq_true_eq]
        have e9 := hq2 S4 (.nd .pair [A, B]) pl4 (X3.trans X4) wi4 (hp4.elim (fun e => e ▸ hp3) (fun h => .inr (Nat.le_trans X3.len h))) (.pair hkm ek tA tB) (Bd.dp_nd.mpr fun p hp => by
          rcases List.mem_cons.mp hp with rfl | hp
          · exact dA
          · rw [List.mem_singleton.mp hp]; exact dB)
        rw [Bd.w_nd] at e9
        exact e9
      · exact hask
end
end Lw

set_option linter.all false
set_option maxRecDepth 100000
set_option maxHeartbeats 4000000
namespace Lw
open PySem L2 Ev
variable {EE : Exc}
theorem KOk.ts4 {L1 L2 : List Nat} {top : Int} {ks : List Kd} (h : KOk L1 L2 top ks) : ∀ k ∈ ks, k.sh.ts.length ≤ 4 := fun k hk => by
  have s := (h.sub k hk).2.2
  cases e : k.sh with
  | tags ts => rw [e] at s; exact s.2.2
  | pair a b => exact Nat.zero_le _
theorem ints_of {A : Type} (f : A → Int) : ∀ l : List A, intsOf (l.map fun a => W.int (f a)) = some (l.map f)
  | [] => rfl
  | a :: l => by rw [List.map_cons]; unfold intsOf; rw [ints_of f l]; rfl
theorem brW_snd (ts : List (List Nat)) (ws : List W) (h : ws.length ≤ ts.length) : (brW ts ws).length = ws.length := by
  unfold brW; rw [List.length_map, List.length_zip]; omega
theorem bd_tup (b : Bd) : ∃ l, b.w = .tup l := by
  cases b with
  | nd g ps => exact ⟨_, Bd.w_nd g ps⟩
def isT : W → Bool
  | .tup _ => true
  | _ => false
theorem cut1 {w : W} {ws : List W} : cutW (w :: ws) (some 1) none = ws := by
  rw [show (some 1 : Option Int) = some ((1 : Nat) : Int) from rfl, cutW_from]; rfl
theorem filt_bd (ps : List Bd) : (ps.map Bd.w).filter isT = ps.map Bd.w := List.filter_eq_self.mpr fun w hw => by
  obtain ⟨b, _, rfl⟩ := List.mem_map.mp hw
  obtain ⟨l, e⟩ := bd_tup b
  rw [e]; rfl
theorem brL_map {S : Sto} {Q : List W → Sto → Prop} {ts : List (List Nat)} {ws : List W} {w0 : W} (hl : ws.length = ts.length) (h1 : ws.length ≤ 1000) (q : Q ws S) :
    wpR (lcLoop (seqIt (.tup (brW ts ws))) (.nm 1) bYes (e2 ixW (eVar 1) (eC (.int 1))) [some w0, none, none] (ws.length + 1) 0 [] S) Q := by
  have : ws.length = (brW ts ws).length := by rw [brW_snd _ _ (by omega)]
  rw [this]
  have e : (brW ts ws).map (fun w => match w with | .tup [_, b] => b | _ => W.non) = ws := by
    unfold brW
    rw [List.map_map]
    exact (List.map_congr_left (g := Prod.snd) fun p _ => rfl).trans (List.map_snd_zip (by omega))
  refine wp_lc_pure (fun w => match w with | .tup [_, b] => b | _ => W.non) (fun i => seqIt_t) (by rw [← this]; omega) ?_ (by rw [e]; exact q)
  intro w hw
  unfold brW at hw
  obtain ⟨p, _, rfl⟩ := List.mem_map.mp hw
  exact ⟨_, rfl, rfl, rfl⟩
theorem law_parts_ok {n : Nat} {g : Sg} {ps : List Bd} {S : Sto} {Q : W → Sto → Prop} (hn : 1 ≤ n) (har : g.ar ps.length) (hq : ∀ S' q, Xt [] S S' → S.length ≤ q → S'[q]? = some (.lst (ps.map Bd.w)) → Q (.loc q) S') : wpR (call n .f_law_parts [(Bd.nd g ps).w] S) Q := by
  obtain ⟨n, rfl⟩ : ∃ m, n = m + 1 := ⟨n - 1, by omega⟩
  rw [call_s, body, Bd.w_nd]
  have hl := Sg.ar_le har
  have q1 : ∀ ws, ws = ps.map Bd.w → Q (.loc S.length) (S ++ [.lst ws]) := fun ws h => hq _ _ Xt.app (Nat.le_refl _) (h ▸ at_new')
  have key : ∀ (w0 : W) (l : List W), (∀ w ∈ l, (∃ x, w = .str x) ∨ (∃ u, w = .tup u)) → l.length ≤ 2000 → l.filter isT = ps.map Bd.w →
      wpR (lcLoop (seqIt (.tup l)) (.nm 2) (bTru (eL isiW (aCons (eVar 2) (aCons (eC (.ty "tuple")) aNil)))) (eVar 2) [some w0, none, none] (l.length + 1) 0 [] S) (fun acc S => onRet Q (.rt (.loc S.length) (S ++ [O.lst acc]))) := by
    intro w0 l h1 h2 h3
    refine wp_filt (A := W) id id isT (fun j => by rw [seqIt_t]; cases l[j]? <;> rfl) (by omega) ?_ (by rw [List.map_id, h3]; exact q1 _ rfl)
    intro w hw
    refine ⟨_, rfl, ?_, fun _ => ?_⟩
    · rcases h1 w hw with ⟨x, rfl⟩ | ⟨u, rfl⟩
      · simp (maxSteps := 500000) (implicitDefEqProofs := false) (disch := omega) only [↓pa0, ↓pa1, ↓pa2, ↓pa3, ↓pa4, ↓pa5, ↓pa6, pb0, pb1, pb2, pb3, pb4, pb5, pb6, List.map_cons, List.map_nil, List.length_cons, List.length_nil, List.replicate, List.cons_append, List.nil_append, Nat.reduceAdd, Nat.reduceSub, List.set_cons_zero, List.set_cons_succ, if_true, if_false, true_and, and_true, Bool.false_eq_true, Bool.not_true, Bool.not_false, ↓reduceIte, ifF, Nat.zero_add, startE, wipeE, Option.bind_some, Int.toNat_natCast, Option.some.injEq, List.set_set, Option.map_some, W.int.injEq, W.str.injEq, W.loc.injEq, Nat.reduceLeDiff, and_self, Int.reduceLT, Int.reduceLE, Int.reduceNeg, Int.reduceToNat, Int.reduceAdd, Int.reduceMul, Int.reduceSub, decide_eq_true_eq, id_eq, isT]
      · simp (maxSteps := 500000) (implicitDefEqProofs := false) (disch := omega) only [↓pa0, ↓pa1, ↓pa2, ↓pa3, ↓pa4, ↓pa5, ↓pa6, pb0, pb1, pb2, pb3, pb4, pb5, pb6, List.map_cons, List.map_nil, List.length_cons, List.length_nil, List.replicate, List.cons_append, List.nil_append, Nat.reduceAdd, Nat.reduceSub, List.set_cons_zero, List.set_cons_succ, if_true, if_false, true_and, and_true, Bool.false_eq_true, Bool.not_true, Bool.not_false, ↓reduceIte, ifF, Nat.zero_add, startE, wipeE, Option.bind_some, Int.toNat_natCast, Option.some.injEq, List.set_set, Option.map_some, W.int.injEq, W.str.injEq, W.loc.injEq, Nat.reduceLeDiff, and_self, Int.reduceLT, Int.reduceLE, Int.reduceNeg, Int.reduceToNat, Int.reduceAdd, Int.reduceMul, Int.reduceSub, decide_eq_true_eq, id_eq, isT]
    · simp (maxSteps := 500000) (implicitDefEqProofs := false) (disch := omega) only [↓pa0, ↓pa1, ↓pa2, ↓pa3, ↓pa4, ↓pa5, ↓pa6, pb0, pb1, pb2, pb3, pb4, pb5, pb6, List.map_cons, List.map_nil, List.length_cons, List.length_nil, List.replicate, List.cons_append, List.nil_append, Nat.reduceAdd, Nat.reduceSub, List.set_cons_zero, List.set_cons_succ, if_true, if_false, true_and, and_true, Bool.false_eq_true, Bool.not_true, Bool.not_false, ↓reduceIte, ifF, Nat.zero_add, startE, wipeE, Option.bind_some, Int.toNat_natCast, Option.some.injEq, List.set_set, Option.map_some, W.int.injEq, W.str.injEq, W.loc.injEq, Nat.reduceLeDiff, and_self, Int.reduceLT, Int.reduceLE, Int.reduceNeg, Int.reduceToNat, Int.reduceAdd, Int.reduceMul, Int.reduceSub, decide_eq_true_eq, id_eq]
  have bdm : ∀ w ∈ ps.map Bd.w, (∃ x, w = .str x) ∨ (∃ u, w = .tup u) := fun w hw => by
    obtain ⟨b, _, rfl⟩ := List.mem_map.mp hw
    exact .inr (bd_tup b)
  have fb := filt_bd ps
  cases g with
  | tag t =>
    obtain rfl := List.length_eq_zero_iff.mp har
    simp (maxSteps := 500000) (implicitDefEqProofs := false) (disch := omega) only [↓pa0, ↓pa1, ↓pa2, ↓pa3, ↓pa4, ↓pa5, ↓pa6, pb0, pb1, pb2, pb3, pb4, pb5, pb6, List.map_cons, List.map_nil, List.length_cons, List.length_nil, List.replicate, List.cons_append, List.nil_append, Nat.reduceAdd, Nat.reduceSub, List.set_cons_zero, List.set_cons_succ, if_true, if_false, true_and, and_true, Bool.false_eq_true, Bool.not_true, Bool.not_false, ↓reduceIte, ifF, Nat.zero_add, startE, wipeE, Option.bind_some, Int.toNat_natCast, Option.some.injEq, List.set_set, Option.map_some, W.int.injEq, W.str.injEq, W.loc.injEq, Nat.reduceLeDiff, and_self, Int.reduceLT, Int.reduceLE, Int.reduceNeg, Int.reduceToNat, Int.reduceAdd, Int.reduceMul, Int.reduceSub, decide_eq_true_eq, m_f_law_parts, Sg.mk, show ((Str.ofString "tag" == Str.ofString "choose") = false) from by decide, show ((Str.ofString "tag" == Str.ofString "ask") = false) from by decide, slW_t, show cutW [sW "tag", tx t] (some 1) none = [tx t] from rfl]
    exact key _ [tx t] (fun w hw => .inl ⟨_, List.mem_singleton.mp hw⟩) (by simp) rfl
  | nam t =>
    obtain rfl := List.length_eq_zero_iff.mp har
    simp (maxSteps := 500000) (implicitDefEqProofs := false) (disch := omega) only [↓pa0, ↓pa1, ↓pa2, ↓pa3, ↓pa4, ↓pa5, ↓pa6, pb0, pb1, pb2, pb3, pb4, pb5, pb6, List.map_cons, List.map_nil, List.length_cons, List.length_nil, List.replicate, List.cons_append, List.nil_append, Nat.reduceAdd, Nat.reduceSub, List.set_cons_zero, List.set_cons_succ, if_true, if_false, true_and, and_true, Bool.false_eq_true, Bool.not_true, Bool.not_false, ↓reduceIte, ifF, Nat.zero_add, startE, wipeE, Option.bind_some, Int.toNat_natCast, Option.some.injEq, List.set_set, Option.map_some, W.int.injEq, W.str.injEq, W.loc.injEq, Nat.reduceLeDiff, and_self, Int.reduceLT, Int.reduceLE, Int.reduceNeg, Int.reduceToNat, Int.reduceAdd, Int.reduceMul, Int.reduceSub, decide_eq_true_eq, m_f_law_parts, Sg.mk, show ((Str.ofString "name" == Str.ofString "choose") = false) from by decide, show ((Str.ofString "name" == Str.ofString "ask") = false) from by decide, slW_t, show cutW [sW "name", tx t] (some 1) none = [tx t] from rfl]
    exact key _ [tx t] (fun w hw => .inl ⟨_, List.mem_singleton.mp hw⟩) (by simp) rfl
  | pair =>
    have e : cutW (sW "pair" :: ps.map Bd.w) (some 1) none = ps.map Bd.w := cut1
    simp (maxSteps := 500000) (implicitDefEqProofs := false) (disch := omega) only [↓pa0, ↓pa1, ↓pa2, ↓pa3, ↓pa4, ↓pa5, ↓pa6, pb0, pb1, pb2, pb3, pb4, pb5, pb6, List.map_cons, List.map_nil, List.length_cons, List.length_nil, List.replicate, List.cons_append, List.nil_append, Nat.reduceAdd, Nat.reduceSub, List.set_cons_zero, List.set_cons_succ, if_true, if_false, true_and, and_true, Bool.false_eq_true, Bool.not_true, Bool.not_false, ↓reduceIte, ifF, Nat.zero_add, startE, wipeE, Option.bind_some, Int.toNat_natCast, Option.some.injEq, List.set_set, Option.map_some, W.int.injEq, W.str.injEq, W.loc.injEq, Nat.reduceLeDiff, and_self, Int.reduceLT, Int.reduceLE, Int.reduceNeg, Int.reduceToNat, Int.reduceAdd, Int.reduceMul, Int.reduceSub, decide_eq_true_eq, m_f_law_parts, Sg.mk, show ((Str.ofString "pair" == Str.ofString "choose") = false) from by decide, show ((Str.ofString "pair" == Str.ofString "ask") = false) from by decide, slW_t, e]
    exact key _ _ bdm (by rw [List.length_map]; omega) fb
  | one =>
    have e : cutW (sW "one" :: ps.map Bd.w) (some 1) none = ps.map Bd.w := cut1
    simp (maxSteps := 500000) (implicitDefEqProofs := false) (disch := omega) only [↓pa0, ↓pa1, ↓pa2, ↓pa3, ↓pa4, ↓pa5, ↓pa6, pb0, pb1, pb2, pb3, pb4, pb5, pb6, List.map_cons, List.map_nil, List.length_cons, List.length_nil, List.replicate, List.cons_append, List.nil_append, Nat.reduceAdd, Nat.reduceSub, List.set_cons_zero, List.set_cons_succ, if_true, if_false, true_and, and_true, Bool.false_eq_true, Bool.not_true, Bool.not_false, ↓reduceIte, ifF, Nat.zero_add, startE, wipeE, Option.bind_some, Int.toNat_natCast, Option.some.injEq, List.set_set, Option.map_some, W.int.injEq, W.str.injEq, W.loc.injEq, Nat.reduceLeDiff, and_self, Int.reduceLT, Int.reduceLE, Int.reduceNeg, Int.reduceToNat, Int.reduceAdd, Int.reduceMul, Int.reduceSub, decide_eq_true_eq, m_f_law_parts, Sg.mk, show ((Str.ofString "one" == Str.ofString "choose") = false) from by decide, show ((Str.ofString "one" == Str.ofString "ask") = false) from by decide, slW_t, e]
    exact key _ _ bdm (by rw [List.length_map]; omega) fb
  | oth =>
    have e : cutW (sW "other" :: ps.map Bd.w) (some 1) none = ps.map Bd.w := cut1
    simp (maxSteps := 500000) (implicitDefEqProofs := false) (disch := omega) only [↓pa0, ↓pa1, ↓pa2, ↓pa3, ↓pa4, ↓pa5, ↓pa6, pb0, pb1, pb2, pb3, pb4, pb5, pb6, List.map_cons, List.map_nil, List.length_cons, List.length_nil, List.replicate, List.cons_append, List.nil_append, Nat.reduceAdd, Nat.reduceSub, List.set_cons_zero, List.set_cons_succ, if_true, if_false, true_and, and_true, Bool.false_eq_true, Bool.not_true, Bool.not_false, ↓reduceIte, ifF, Nat.zero_add, startE, wipeE, Option.bind_some, Int.toNat_natCast, Option.some.injEq, List.set_set, Option.map_some, W.int.injEq, W.str.injEq, W.loc.injEq, Nat.reduceLeDiff, and_self, Int.reduceLT, Int.reduceLE, Int.reduceNeg, Int.reduceToNat, Int.reduceAdd, Int.reduceMul, Int.reduceSub, decide_eq_true_eq, m_f_law_parts, Sg.mk, show ((Str.ofString "other" == Str.ofString "choose") = false) from by decide, show ((Str.ofString "other" == Str.ofString "ask") = false) from by decide, slW_t, e]
    exact key _ _ bdm (by rw [List.length_map]; omega) fb
  | cho ts =>
    cases ps with
    | nil => cases har.1
    | cons p ps =>
      have hts : (ps.map Bd.w).length = ts.length := by rw [List.length_map]; have := har.1; simpa using this
      rw [List.length_cons] at hl
      simp (maxSteps := 500000) (implicitDefEqProofs := false) (disch := omega) only [↓pa0, ↓pa1, ↓pa2, ↓pa3, ↓pa4, ↓pa5, ↓pa6, pb0, pb1, pb2, pb3, pb4, pb5, pb6, List.map_cons, List.map_nil, List.length_cons, List.length_nil, List.replicate, List.cons_append, List.nil_append, Nat.reduceAdd, Nat.reduceSub, List.set_cons_zero, List.set_cons_succ, if_true, if_false, true_and, and_true, Bool.false_eq_true, Bool.not_true, Bool.not_false, ↓reduceIte, ifF, Nat.zero_add, startE, wipeE, Option.bind_some, Int.toNat_natCast, Option.some.injEq, List.set_set, Option.map_some, W.int.injEq, W.str.injEq, W.loc.injEq, Nat.reduceLeDiff, and_self, Int.reduceLT, Int.reduceLE, Int.reduceNeg, Int.reduceToNat, Int.reduceAdd, Int.reduceMul, Int.reduceSub, decide_eq_true_eq, m_f_law_parts, Sg.mk, show ((Str.ofString "choose" == Str.ofString "choose") = true) from by decide, List.headD_cons, List.tail_cons]
      rw [brW_snd _ _ (by omega)]
      refine brL_map hts (by rw [List.length_map]; omega) ?_
      have e1 : (S ++ [O.lst [p.w]] ++ [O.lst (ps.map Bd.w)])[S.length]? = some (.lst [p.w]) := at_app at_new'
      have e2 : (S ++ [O.lst [p.w]] ++ [O.lst (ps.map Bd.w)])[(S ++ [O.lst [p.w]]).length]? = some (.lst (ps.map Bd.w)) := at_new'
      simp (maxSteps := 500000) (implicitDefEqProofs := false) (disch := omega) only [↓pa0, ↓pa1, ↓pa2, ↓pa3, ↓pa4, ↓pa5, ↓pa6, pb0, pb1, pb2, pb3, pb4, pb5, pb6, List.map_cons, List.map_nil, List.length_cons, List.length_nil, List.replicate, List.cons_append, List.nil_append, Nat.reduceAdd, Nat.reduceSub, List.set_cons_zero, List.set_cons_succ, if_true, if_false, true_and, and_true, Bool.false_eq_true, Bool.not_true, Bool.not_false, ↓reduceIte, ifF, Nat.zero_add, startE, wipeE, Option.bind_some, Int.toNat_natCast, Option.some.injEq, List.set_set, Option.map_some, W.int.injEq, W.str.injEq, W.loc.injEq, Nat.reduceLeDiff, and_self, Int.reduceLT, Int.reduceLE, Int.reduceNeg, Int.reduceToNat, Int.reduceAdd, Int.reduceMul, Int.reduceSub, decide_eq_true_eq, addW_l e1 e2 (by rw [List.length_map, List.length_singleton]; omega)]
      exact hq _ _ Xt.refl.appI.appI.appI (by simp) at_new'
  | ask f =>
    simp (maxSteps := 500000) (implicitDefEqProofs := false) (disch := omega) only [↓pa0, ↓pa1, ↓pa2, ↓pa3, ↓pa4, ↓pa5, ↓pa6, pb0, pb1, pb2, pb3, pb4, pb5, pb6, List.map_cons, List.map_nil, List.length_cons, List.length_nil, List.replicate, List.cons_append, List.nil_append, Nat.reduceAdd, Nat.reduceSub, List.set_cons_zero, List.set_cons_succ, if_true, if_false, true_and, and_true, Bool.false_eq_true, Bool.not_true, Bool.not_false, ↓reduceIte, ifF, Nat.zero_add, startE, wipeE, Option.bind_some, Int.toNat_natCast, Option.some.injEq, List.set_set, Option.map_some, W.int.injEq, W.str.injEq, W.loc.injEq, Nat.reduceLeDiff, and_self, Int.reduceLT, Int.reduceLE, Int.reduceNeg, Int.reduceToNat, Int.reduceAdd, Int.reduceMul, Int.reduceSub, decide_eq_true_eq, m_f_law_parts, Sg.mk, show ((Str.ofString "ask" == Str.ofString "choose") = false) from by decide, show ((Str.ofString "ask" == Str.ofString "ask") = true) from by decide]
    exact q1 _ rfl
  | lt x k =>
    have e : cutW (sW "let" :: tx x :: tx k :: ps.map Bd.w) (some 1) none = tx x :: tx k :: ps.map Bd.w := cut1
    simp (maxSteps := 500000) (implicitDefEqProofs := false) (disch := omega) only [↓pa0, ↓pa1, ↓pa2, ↓pa3, ↓pa4, ↓pa5, ↓pa6, pb0, pb1, pb2, pb3, pb4, pb5, pb6, List.map_cons, List.map_nil, List.length_cons, List.length_nil, List.replicate, List.cons_append, List.nil_append, Nat.reduceAdd, Nat.reduceSub, List.set_cons_zero, List.set_cons_succ, if_true, if_false, true_and, and_true, Bool.false_eq_true, Bool.not_true, Bool.not_false, ↓reduceIte, ifF, Nat.zero_add, startE, wipeE, Option.bind_some, Int.toNat_natCast, Option.some.injEq, List.set_set, Option.map_some, W.int.injEq, W.str.injEq, W.loc.injEq, Nat.reduceLeDiff, and_self, Int.reduceLT, Int.reduceLE, Int.reduceNeg, Int.reduceToNat, Int.reduceAdd, Int.reduceMul, Int.reduceSub, decide_eq_true_eq, m_f_law_parts, Sg.mk, show ((Str.ofString "let" == Str.ofString "choose") = false) from by decide, show ((Str.ofString "let" == Str.ofString "ask") = false) from by decide, slW_t, e]
    refine key _ (tx x :: tx k :: ps.map Bd.w) (fun w hw => ?_) (by simp; omega) (by rw [List.filter_cons, List.filter_cons]; exact fb)
    rcases List.mem_cons.mp hw with rfl | hw
    · exact .inl ⟨_, rfl⟩
    rcases List.mem_cons.mp hw with rfl | hw
    · exact .inl ⟨_, rfl⟩
    exact bdm w hw
theorem sumW_l {A : Type} {S : Sto} {q : Nat} {l : List A} {f : A → Int} (h : S[q]? = some (.lst (l.map fun a => W.int (f a)))) : sumW [.loc q] S = .ok (.int (l.map f).sum) S := by
  unfold sumW getL; dsimp only; rw [h]; dsimp only; rw [ints_of]
theorem cast_sum {A : Type} (f : A → Nat) (l : List A) : (l.map fun a => (f a : Int)).sum = (((l.map f).sum : Nat) : Int) := by
  induction l with
  | nil => rfl
  | cons a l ih => rw [List.map_cons, List.sum_cons, ih, List.map_cons, List.sum_cons]; omega
theorem Bd.len_sz (g : Sg) (ps : List Bd) : ps.length < (Bd.nd g ps).sz := by
  rw [Bd.sz_nd]; have := len_sum sz_pos ps; omega
theorem size_ok0 : ∀ (d n : Nat) (b : Bd) (S : Sto) (Q : W → Sto → Prop), b.dp ≤ d → d + 1 ≤ n → b.ok → (∀ S', Xt [] S S' → Q (.int b.sz) S') → @wpR _ noExc (call n .f_law_size [b.w] S) Q
  | 0, n, .nd g ps, S, Q, hd, _, _, _ => by rw [Bd.dp] at hd; omega
  | d + 1, n, .nd g ps, S, Q, hd, hn, ho, hq => by
    obtain ⟨n, rfl⟩ : ∃ m, n = m + 1 := ⟨n - 1, by omega⟩
    obtain ⟨h1, h2⟩ := Bd.ok_nd.mp ho
    have hl := Sg.ar_le h1
    rw [call_s, body]
    simp (maxSteps := 500000) (implicitDefEqProofs := false) (disch := omega) only [↓pa0, ↓pa1, ↓pa2, ↓pa3, ↓pa4, ↓pa5, ↓pa6, pb0, pb1, pb2, pb3, pb4, pb5, pb6, List.map_cons, List.map_nil, List.length_cons, List.length_nil, List.replicate, List.cons_append, List.nil_append, Nat.reduceAdd, Nat.reduceSub, List.set_cons_zero, List.set_cons_succ, if_true, if_false, true_and, and_true, Bool.false_eq_true, Bool.not_true, Bool.not_false, ↓reduceIte, ifF, Nat.zero_add, startE, wipeE, Option.bind_some, Int.toNat_natCast, Option.some.injEq, List.set_set, Option.map_some, W.int.injEq, W.str.injEq, W.loc.injEq, Nat.reduceLeDiff, and_self, Int.reduceLT, Int.reduceLE, Int.reduceNeg, Int.reduceToNat, Int.reduceAdd, Int.reduceMul, Int.reduceSub, decide_eq_true_eq, m_f_law_size]
    refine @law_parts_ok noExc n g ps S _ (by omega) h1 fun S1 q1 X1 l1 e1 => ?_
    refine wo_ex (seqLen_l e1) ?_
    rw [List.length_map]
    refine @wp_lclN noExc _ _ _ _ _ _ ps.length (fun j acc S' => Xt [] S1 S' ∧ acc = (ps.take j).map fun p => W.int (p.sz : Int)) _ _ (by omega) ⟨.refl, rfl⟩ ?_ ?_
    · rintro j acc S2 hj ⟨X2, rfl⟩
      have hm := List.getElem_mem hj
      refine ⟨(ps[j]).w, _, by rw [seqIt_l (X2.get0 e1), List.getElem?_map, List.getElem?_eq_getElem hj]; rfl, rfl, ?_⟩
      simp (maxSteps := 500000) (implicitDefEqProofs := false) (disch := omega) only [↓pa0, ↓pa1, ↓pa2, ↓pa3, ↓pa4, ↓pa5, ↓pa6, pb0, pb1, pb2, pb3, pb4, pb5, pb6, List.map_cons, List.map_nil, List.length_cons, List.length_nil, List.replicate, List.cons_append, List.nil_append, Nat.reduceAdd, Nat.reduceSub, List.set_cons_zero, List.set_cons_succ, if_true, if_false, true_and, and_true, Bool.false_eq_true, Bool.not_true, Bool.not_false, ↓reduceIte, ifF, Nat.zero_add, startE, wipeE, Option.bind_some, Int.toNat_natCast, Option.some.injEq, List.set_set, Option.map_some, W.int.injEq, W.str.injEq, W.loc.injEq, Nat.reduceLeDiff, and_self, Int.reduceLT, Int.reduceLE, Int.reduceNeg, Int.reduceToNat, Int.reduceAdd, Int.reduceMul, Int.reduceSub, decide_eq_true_eq]
      refine size_ok0 d n ps[j] S2 _ (Bd.dp_nd.mp hd _ hm) (by omega) (h2 _ hm) fun S3 X3 => ?_
      refine ⟨by rw [List.length_map, List.length_take]; omega, X2.trans X3, ?_⟩
      rw [List.take_succ, List.getElem?_eq_getElem hj, List.map_append]; rfl
    · rintro acc S2 ⟨X2, rfl⟩
      refine ⟨by rw [seqIt_l (X2.get0 e1), List.getElem?_eq_none (by rw [List.length_map]; exact Nat.le_refl _)], ?_⟩
      rw [List.take_length]
      have e3 : (S2 ++ [O.lst (ps.map fun p => W.int (p.sz : Int))])[S2.length]? = some (.lst (ps.map fun p => W.int (p.sz : Int))) := at_new'
      simp (maxSteps := 500000) (implicitDefEqProofs := false) (disch := omega) only [↓pa0, ↓pa1, ↓pa2, ↓pa3, ↓pa4, ↓pa5, ↓pa6, pb0, pb1, pb2, pb3, pb4, pb5, pb6, List.map_cons, List.map_nil, List.length_cons, List.length_nil, List.replicate, List.cons_append, List.nil_append, Nat.reduceAdd, Nat.reduceSub, List.set_cons_zero, List.set_cons_succ, if_true, if_false, true_and, and_true, Bool.false_eq_true, Bool.not_true, Bool.not_false, ↓reduceIte, ifF, Nat.zero_add, startE, wipeE, Option.bind_some, Int.toNat_natCast, Option.some.injEq, List.set_set, Option.map_some, W.int.injEq, W.str.injEq, W.loc.injEq, Nat.reduceLeDiff, and_self, Int.reduceLT, Int.reduceLE, Int.reduceNeg, Int.reduceToNat, Int.reduceAdd, Int.reduceMul, Int.reduceSub, decide_eq_true_eq, sumW_l e3, cast_sum]
      have := hq (S2 ++ [O.lst (ps.map fun p => W.int (p.sz : Int))]) ((X1.trans X2).appI)
      rw [Bd.sz_nd] at this
      rw [show (1 : Int) + (((ps.map Bd.sz).sum : Nat) : Int) = ((1 + (ps.map Bd.sz).sum : Nat) : Int) by omega]
      exact this
theorem size_ok {d n : Nat} {b : Bd} {S : Sto} {Q : W → Sto → Prop} (hd : b.dp ≤ d) (hn : d + 1 ≤ n) (ho : b.ok) (hq : ∀ S', Xt [] S S' → Q (.int b.sz) S') : wpR (call n .f_law_size [b.w] S) Q := wpR_up (size_ok0 d n b S Q hd hn ho hq)
theorem Ty.ok {ks : List Kd} {hs : List Hd} (hk : ∀ k ∈ ks, k.sh.ts.length ≤ 4) (hh : ∀ h ∈ hs, h.ps.length ≤ 3) {ar : List (List Nat × List Nat)} {b : Bd} {k : List Nat} (h : Ty ks hs ar b k) : b.ok := by
  induction h with
  | tag => exact Bd.ok_nd.mpr ⟨rfl, fun p hp => by cases hp⟩
  | nam => exact Bd.ok_nd.mpr ⟨rfl, fun p hp => by cases hp⟩
  | pair _ _ _ _ iA iB => exact Bd.ok_nd.mpr ⟨rfl, fun p hp => by
      rcases List.mem_cons.mp hp with rfl | hp
      · exact iA
      · rw [List.mem_singleton.mp hp]; exact iB⟩
  | one _ _ _ iA => exact Bd.ok_nd.mpr ⟨rfl, fun p hp => by rw [List.mem_singleton.mp hp]; exact iA⟩
  | oth _ _ _ iA => exact Bd.ok_nd.mpr ⟨rfl, fun p hp => by rw [List.mem_singleton.mp hp]; exact iA⟩
  | cho hm e _ hl _ iA iB => exact Bd.ok_nd.mpr ⟨⟨by rw [List.length_cons, hl], by have := hk _ hm; rw [e] at this; exact Nat.le_trans this (by decide)⟩, fun p hp => by
      rcases List.mem_cons.mp hp with rfl | hp
      · exact iA
      · exact iB p hp⟩
  | @ask ar h As hm hl _ iA => exact Bd.ok_nd.mpr ⟨show As.length ≤ 40 by have := hh h hm; omega, fun p hp => by
      obtain ⟨j, hj, rfl⟩ := List.mem_iff_getElem.mp hp
      exact iA (h.ps[j]'(by omega), As[j]) (List.mem_iff_getElem.mpr ⟨j, by rw [List.length_zip]; omega, by rw [List.getElem_zip]⟩)⟩
  | lt _ _ _ _ iA iB => exact Bd.ok_nd.mpr ⟨rfl, fun p hp => by
      rcases List.mem_cons.mp hp with rfl | hp
      · exact iA
      · rw [List.mem_singleton.mp hp]; exact iB⟩
end Lw

set_option linter.all false
set_option maxRecDepth 100000
set_option maxHeartbeats 4000000
namespace Lw
open PySem L2 Ev
variable {EE : Exc}
/-- definitions as they are drawn -/
structure BkOk (ks : List Kd) (top : Int) (ds : List Df) : Prop where
  hh : HOk ks top (ds.map Df.hd)
  ty : ∀ d ∈ ds, Ty ks (ds.map Df.hd) d.hd.ps d.bd d.hd.kd
  sz : ∀ d ∈ ds, d.bd.sz ≤ 40
  dp : ∀ d ∈ ds, d.bd.dp ≤ 12
theorem wd_disp {a b c : Nat} {l : Int} : dmerge [] (dpairs [Str.ofString "shapes", Str.ofString "heads", Str.ofString "lets", Str.ofString "left"] [.loc a, .loc b, .loc c, .int l]) = wdD a b c l := rfl
theorem book_ok {n : Nat} {c most many top left : Int} {S : Sto} {Q : W → Sto → Prop} (hn : 50 ≤ n) (hm : 1 ≤ most ∧ most ≤ 6) (hmy : 1 ≤ many ∧ many ≤ 8) (ht : 1 ≤ top ∧ top ≤ 1000)
    (h : ∀ (ks : List Kd) (ds : List Df) (S' : Sto) (p q : Nat), Xt [] S S' → ks ≠ [] → (ks.length : Int) ≤ most → KOk alphaL alphaU (if 30 < top then 30 else top) ks → ds ≠ [] → (ds.length : Int) ≤ many → BkOk ks top ds → S.length ≤ p → S.length ≤ q → S'[p]? = some (.lst (ks.map Kd.w)) → S'[q]? = some (.lst (ds.map Df.w)) → p ≠ q → Q (.tup [.loc p, .loc q]) S') :
    wpR (call n .f_law_book [.int c, .int most, .int many, .int top, .int left] S) Q := by
  obtain ⟨n, rfl⟩ : ∃ m, n = m + 1 := ⟨n - 1, by omega⟩
  rw [call_s, body]
  simp (maxSteps := 500000) (implicitDefEqProofs := false) (disch := omega) only [↓pa0, ↓pa1, ↓pa2, ↓pa3, ↓pa4, ↓pa5, ↓pa6, pb0, pb1, pb2, pb3, pb4, pb5, pb6, List.map_cons, List.map_nil, List.length_cons, List.length_nil, List.replicate, List.cons_append, List.nil_append, Nat.reduceAdd, Nat.reduceSub, List.set_cons_zero, List.set_cons_succ, if_true, if_false, true_and, and_true, Bool.false_eq_true, Bool.not_true, Bool.not_false, ↓reduceIte, ifF, Nat.zero_add, startE, wipeE, Option.bind_some, Int.toNat_natCast, Option.some.injEq, List.set_set, Option.map_some, W.int.injEq, W.str.injEq, W.loc.injEq, Nat.reduceLeDiff, and_self, Int.reduceLT, Int.reduceLE, Int.reduceNeg, Int.reduceToNat, Int.reduceAdd, Int.reduceMul, Int.reduceSub, decide_eq_true_eq, m_f_law_book]
  refine stream_ok (by omega) fun S1 X1 l1 st1 => ?_
  simp (maxSteps := 500000) (implicitDefEqProofs := false) (disch := omega) only [↓pa0, ↓pa1, ↓pa2, ↓pa3, ↓pa4, ↓pa5, ↓pa6, pb0, pb1, pb2, pb3, pb4, pb5, pb6, List.map_cons, List.map_nil, List.length_cons, List.length_nil, List.replicate, List.cons_append, List.nil_append, Nat.reduceAdd, Nat.reduceSub, List.set_cons_zero, List.set_cons_succ, if_true, if_false, true_and, and_true, Bool.false_eq_true, Bool.not_true, Bool.not_false, ↓reduceIte, ifF, Nat.zero_add, startE, wipeE, Option.bind_some, Int.toNat_natCast, Option.some.injEq, List.set_set, Option.map_some, W.int.injEq, W.str.injEq, W.loc.injEq, Nat.reduceLeDiff, and_self, Int.reduceLT, Int.reduceLE, Int.reduceNeg, Int.reduceToNat, Int.reduceAdd, Int.reduceMul, Int.reduceSub, decide_eq_true_eq]
  have htp : (if (30 : Int) < top then 30 else top) ≤ 1000 := by split <;> omega
  refine kinds_ok (by omega) st1 hm htp fun ks S2 p6 p7 X2 st2 l6 l7 hne hkl hk e6 e7 => ?_
  have hl6 : ks.length ≤ 6 := by omega
  have ni6 : S.length ≠ p6 := by omega
  have ni7 : S.length ≠ p7 := by omega
  simp (maxSteps := 500000) (implicitDefEqProofs := false) (disch := omega) only [↓pa0, ↓pa1, ↓pa2, ↓pa3, ↓pa4, ↓pa5, ↓pa6, pb0, pb1, pb2, pb3, pb4, pb5, pb6, List.map_cons, List.map_nil, List.length_cons, List.length_nil, List.replicate, List.cons_append, List.nil_append, Nat.reduceAdd, Nat.reduceSub, List.set_cons_zero, List.set_cons_succ, if_true, if_false, true_and, and_true, Bool.false_eq_true, Bool.not_true, Bool.not_false, ↓reduceIte, ifF, Nat.zero_add, startE, wipeE, Option.bind_some, Int.toNat_natCast, Option.some.injEq, List.set_set, Option.map_some, W.int.injEq, W.str.injEq, W.loc.injEq, Nat.reduceLeDiff, and_self, Int.reduceLT, Int.reduceLE, Int.reduceNeg, Int.reduceToNat, Int.reduceAdd, Int.reduceMul, Int.reduceSub, decide_eq_true_eq]
  refine heads_ok (by omega) st2 hmy ht htp hk hne hl6 e6 e7 ni6 ni7 fun hs S3 p8 X3 st3 l8 hhne hhl hh e8 => ?_
  have e63 := X3.get e6 (by simp; omega)
  simp (maxSteps := 500000) (implicitDefEqProofs := false) (disch := omega) only [↓pa0, ↓pa1, ↓pa2, ↓pa3, ↓pa4, ↓pa5, ↓pa6, pb0, pb1, pb2, pb3, pb4, pb5, pb6, List.map_cons, List.map_nil, List.length_cons, List.length_nil, List.replicate, List.cons_append, List.nil_append, Nat.reduceAdd, Nat.reduceSub, List.set_cons_zero, List.set_cons_succ, if_true, if_false, true_and, and_true, Bool.false_eq_true, Bool.not_true, Bool.not_false, ↓reduceIte, ifF, Nat.zero_add, startE, wipeE, Option.bind_some, Int.toNat_natCast, Option.some.injEq, List.set_set, Option.map_some, W.int.injEq, W.str.injEq, W.loc.injEq, Nat.reduceLeDiff, and_self, Int.reduceLT, Int.reduceLE, Int.reduceNeg, Int.reduceToNat, Int.reduceAdd, Int.reduceMul, Int.reduceSub, decide_eq_true_eq]
  refine small_ok (by omega) st3 (by decide) fun p9 nms S4 X4 l9 st4 e9 hl9 nd9 wo9 => ?_
  have e64 := X4.get e63 (by simp; omega)
  have l8i := st3.lt
  have l68 := lt_at e8
  have l24 := X2.len; have l34 := X3.len
  have ni8 : p8 ≠ S.length := by omega
  have e84 := X4.get e8 (by simp; omega)
  have X04 : Xt [S.length] S S4 := ((X1.nil.trans X2).trans X3).trans X4
  have lS4 : S.length < S4.length := st4.lt
  simp (maxSteps := 500000) (implicitDefEqProofs := false) (disch := omega) only [↓pa0, ↓pa1, ↓pa2, ↓pa3, ↓pa4, ↓pa5, ↓pa6, pb0, pb1, pb2, pb3, pb4, pb5, pb6, List.map_cons, List.map_nil, List.length_cons, List.length_nil, List.replicate, List.cons_append, List.nil_append, Nat.reduceAdd, Nat.reduceSub, List.set_cons_zero, List.set_cons_succ, if_true, if_false, true_and, and_true, Bool.false_eq_true, Bool.not_true, Bool.not_false, ↓reduceIte, ifF, Nat.zero_add, startE, wipeE, Option.bind_some, Int.toNat_natCast, Option.some.injEq, List.set_set, Option.map_some, W.int.injEq, W.str.injEq, W.loc.injEq, Nat.reduceLeDiff, and_self, Int.reduceLT, Int.reduceLE, Int.reduceNeg, Int.reduceToNat, Int.reduceAdd, Int.reduceMul, Int.reduceSub, decide_eq_true_eq]
  have st5 : Strm (S4 ++ [O.lst [W.int 0, .int 2]]) S.length := st4.app
  refine take_ok (by omega) st5 (by decide) fun z o h1 h2 st6 => ?_
  have hz : ∃ j : Nat, j < 3 ∧ atI [W.int 0, .int 2] z = some (.int (j : Int)) := by
    have : z = 0 ∨ z = 1 := by omega
    rcases this with rfl | rfl
    · exact ⟨0, by decide, rfl⟩
    · exact ⟨2, by decide, rfl⟩
  obtain ⟨j0, hj0, ej0⟩ := hz
  have e96 : ((S4 ++ [O.lst [W.int 0, .int 2]]).set S.length o)[p9]? = some (.lst (nms.map tx)) := at_ne (at_app e9) (by omega)
  have eC6 : ((S4 ++ [O.lst [W.int 0, .int 2]]).set S.length o)[S4.length]? = some (.lst [W.int 0, .int 2]) := at_ne at_new' (by omega)
  have e66 : ((S4 ++ [O.lst [W.int 0, .int 2]]).set S.length o)[p6]? = some (.lst (ks.map Kd.w)) := at_ne (at_app e64) ni6
  have e86 : ((S4 ++ [O.lst [W.int 0, .int 2]]).set S.length o)[p8]? = some (.dct (hdD hs)) := at_ne (at_app e84) ni8.symm
  have X06 : Xt [S.length] S ((S4 ++ [O.lst [W.int 0, .int 2]]).set S.length o) := X04.appI.setI (by simp)
  generalize (S4 ++ [O.lst [W.int 0, .int 2]]).set S.length o = S6 at *
  have l9n : nms.length = 3 := hl9
  have hj0' : j0 < nms.length := by omega
  have eat0 : atI (nms.map tx) (j0 : Int) = some (tx nms[j0]) := Ev.atI_nat (by rw [List.getElem?_map, List.getElem?_eq_getElem hj0']; rfl)
  have hw0 := wo9 _ (List.getElem_mem hj0')
  generalize nms[j0] = wd0 at *
  simp (maxSteps := 500000) (implicitDefEqProofs := false) (disch := omega) only [↓pa0, ↓pa1, ↓pa2, ↓pa3, ↓pa4, ↓pa5, ↓pa6, pb0, pb1, pb2, pb3, pb4, pb5, pb6, List.map_cons, List.map_nil, List.length_cons, List.length_nil, List.replicate, List.cons_append, List.nil_append, Nat.reduceAdd, Nat.reduceSub, List.set_cons_zero, List.set_cons_succ, if_true, if_false, true_and, and_true, Bool.false_eq_true, Bool.not_true, Bool.not_false, ↓reduceIte, ifF, Nat.zero_add, startE, wipeE, Option.bind_some, Int.toNat_natCast, Option.some.injEq, List.set_set, Option.map_some, W.int.injEq, W.str.injEq, W.loc.injEq, Nat.reduceLeDiff, and_self, Int.reduceLT, Int.reduceLE, Int.reduceNeg, Int.reduceToNat, Int.reduceAdd, Int.reduceMul, Int.reduceSub, decide_eq_true_eq, wq_ixL eC6, ej0, wq_ixL e96, eat0, setO_L e96, List.length_map, l9n, Option.map_some]
  have elt : (nms.map tx).set 2 (tx wd0) = (nms.set 2 wd0).map tx := by rw [List.map_set]
  rw [elt]
  have wo9' : ∀ l ∈ nms.set 2 wd0, WordOf alphaL l := fun l hl => by
    rcases List.mem_or_eq_of_mem_set hl with h | rfl
    · exact wo9 l h
    · exact hw0
  have l9' : (nms.set 2 wd0).length = 3 := by rw [List.length_set]; exact l9n
  generalize nms.set 2 wd0 = lets at *
  have e97 : (S6.set p9 (.lst (lets.map tx)) ++ [O.lst []])[p9]? = some (.lst (lets.map tx)) := at_app (at_set' e96)
  have e67 : (S6.set p9 (.lst (lets.map tx)) ++ [O.lst []])[p6]? = some (.lst (ks.map Kd.w)) := at_app (at_ne e66 (by have := lt_at e63; omega))
  have e87 : (S6.set p9 (.lst (lets.map tx)) ++ [O.lst []])[p8]? = some (.dct (hdD hs)) := at_app (at_ne e86 (by omega))
  have e107 : (S6.set p9 (.lst (lets.map tx)) ++ [O.lst []])[(S6.set p9 (.lst (lets.map tx))).length]? = some (.lst []) := at_new'
  have st7 : Strm (S6.set p9 (.lst (lets.map tx)) ++ [O.lst []]) S.length := (st6.ne (by omega)).app
  have X07 : Xt [S.length] S (S6.set p9 (.lst (lets.map tx)) ++ [O.lst []]) := (X06.setN (by omega)).appI
  simp (maxSteps := 500000) (implicitDefEqProofs := false) (disch := omega) only [↓pa0, ↓pa1, ↓pa2, ↓pa3, ↓pa4, ↓pa5, ↓pa6, pb0, pb1, pb2, pb3, pb4, pb5, pb6, List.map_cons, List.map_nil, List.length_cons, List.length_nil, List.replicate, List.cons_append, List.nil_append, Nat.reduceAdd, Nat.reduceSub, List.set_cons_zero, List.set_cons_succ, if_true, if_false, true_and, and_true, Bool.false_eq_true, Bool.not_true, Bool.not_false, ↓reduceIte, ifF, Nat.zero_add, startE, wipeE, Option.bind_some, Int.toNat_natCast, Option.some.injEq, List.set_set, Option.map_some, W.int.injEq, W.str.injEq, W.loc.injEq, Nat.reduceLeDiff, and_self, Int.reduceLT, Int.reduceLE, Int.reduceNeg, Int.reduceToNat, Int.reduceAdd, Int.reduceMul, Int.reduceSub, decide_eq_true_eq, List.length_set]
  rw [List.length_set] at e107
  have l9S := lt_at e96
  have l6S := lt_at e66
  have l8S := lt_at e86
  generalize S6.set p9 (.lst (lets.map tx)) ++ [O.lst []] = S7 at *
  generalize S6.length = p10 at *
  have l7S := lt_at e107
  refine wp_lockW (n := p8) (kvs := hdD hs) (by simp (maxSteps := 500000) (implicitDefEqProofs := false) (disch := omega) only [↓pa0, ↓pa1, ↓pa2, ↓pa3, ↓pa4, ↓pa5, ↓pa6, pb0, pb1, pb2, pb3, pb4, pb5, pb6, List.map_cons, List.map_nil, List.length_cons, List.length_nil, List.replicate, List.cons_append, List.nil_append, Nat.reduceAdd, Nat.reduceSub, List.set_cons_zero, List.set_cons_succ, if_true, if_false, true_and, and_true, Bool.false_eq_true, Bool.not_true, Bool.not_false, ↓reduceIte, ifF, Nat.zero_add, startE, wipeE, Option.bind_some, Int.toNat_natCast, Option.some.injEq, List.set_set, Option.map_some, W.int.injEq, W.str.injEq, W.loc.injEq, Nat.reduceLeDiff, and_self, Int.reduceLT, Int.reduceLE, Int.reduceNeg, Int.reduceToNat, Int.reduceAdd, Int.reduceMul, Int.reduceSub, decide_eq_true_eq]) e87 ?_
  have e88 : (S7.set p8 (.fdc (hdD hs)))[p8]? = some (.fdc (hdD hs)) := at_set' e87
  have e98 : (S7.set p8 (.fdc (hdD hs)))[p9]? = some (.lst (lets.map tx)) := at_ne e97 (by omega)
  have e68 : (S7.set p8 (.fdc (hdD hs)))[p6]? = some (.lst (ks.map Kd.w)) := at_ne e67 (by have := lt_at e63; have := lt_at e6; omega)
  have e108 : (S7.set p8 (.fdc (hdD hs)))[p10]? = some (.lst []) := at_ne e107 (by omega)
  have st8 : Strm (S7.set p8 (.fdc (hdD hs))) S.length := st7.ne ni8
  generalize hS8 : S7.set p8 (.fdc (hdD hs)) = S8 at *
  have l78 : S7.length = S8.length := by rw [← hS8, List.length_set]
  simp (maxSteps := 500000) (implicitDefEqProofs := false) (disch := omega) only [↓pa0, ↓pa1, ↓pa2, ↓pa3, ↓pa4, ↓pa5, ↓pa6, pb0, pb1, pb2, pb3, pb4, pb5, pb6, List.map_cons, List.map_nil, List.length_cons, List.length_nil, List.replicate, List.cons_append, List.nil_append, Nat.reduceAdd, Nat.reduceSub, List.set_cons_zero, List.set_cons_succ, if_true, if_false, true_and, and_true, Bool.false_eq_true, Bool.not_true, Bool.not_false, ↓reduceIte, ifF, Nat.zero_add, startE, wipeE, Option.bind_some, Int.toNat_natCast, Option.some.injEq, List.set_set, Option.map_some, W.int.injEq, W.str.injEq, W.loc.injEq, Nat.reduceLeDiff, and_self, Int.reduceLT, Int.reduceLE, Int.reduceNeg, Int.reduceToNat, Int.reduceAdd, Int.reduceMul, Int.reduceSub, decide_eq_true_eq, wq_key]
  refine wo_ex (keyLen_f e88) ?_
  rw [List.length_map]
  have hhl8 : hs.length ≤ 8 := by omega
  have ndk := hk.nd
  have ni9 : S.length ≠ p9 := by omega
  have ni10 : S.length ≠ p10 := by omega
  refine @wp_loopN noExc _ _ _ _ hs.length (fun j s S9 => ∃ x11 x12 x13 x14, ∃ ds : List Df, s = [some (.int c), some (.int most), some (.int many), some (.int top), some (.int left), some (W.loc S.length), some (.loc p6), some (.loc p7), some (.loc p8), some (.loc p9), some (.loc p10), x11, x12, x13, x14] ∧ ds.map Df.hd = hs.take j ∧ Xt [S.length, p10] S8 S9 ∧ Strm S9 S.length ∧ S9[p10]? = some (.lst (ds.map Df.w)) ∧ ∀ d ∈ ds, Ty ks hs d.hd.ps d.bd d.hd.kd ∧ d.bd.sz ≤ 40 ∧ d.bd.dp ≤ 12) _ _ _ (by omega) ?_ ?_ ?_
  · exact ⟨_, _, _, _, [], rfl, rfl, .refl, st8, e108, fun d hd => by cases hd⟩
  · rintro j s S9 hj ⟨x11, x12, x13, x14, ds, rfl, hds, X9, st9, e109, hdo⟩
    have e89 := X9.get e88 (by simp; omega)
    have e99 := X9.get e98 (by simp; omega)
    have e69 := X9.get e68 (by simp; omega)
    have hhm := List.getElem_mem hj
    have hjt : hs.take (j + 1) = hs.take j ++ [hs[j]] := by rw [List.take_succ, List.getElem?_eq_getElem hj]; rfl
    have ldj : ds.length = j := by have := congrArg List.length hds; simpa [Nat.min_eq_left (Nat.le_of_lt hj)] using this
    refine ⟨tx hs[j].nm, _, by rw [keyIt_f e89, List.getElem?_map, List.getElem?_eq_getElem hj]; rfl, rfl, ?_⟩
    generalize hs[j] = hd at *
    have hok := hh.ok hd hhm
    obtain ⟨kd, hkd, ekd⟩ := List.mem_map.mp hok.kd
    have hpl := hok.len
    simp (maxSteps := 500000) (implicitDefEqProofs := false) (disch := omega) only [↓pa0, ↓pa1, ↓pa2, ↓pa3, ↓pa4, ↓pa5, ↓pa6, pb0, pb1, pb2, pb3, pb4, pb5, pb6, List.map_cons, List.map_nil, List.length_cons, List.length_nil, List.replicate, List.cons_append, List.nil_append, Nat.reduceAdd, Nat.reduceSub, List.set_cons_zero, List.set_cons_succ, if_true, if_false, true_and, and_true, Bool.false_eq_true, Bool.not_true, Bool.not_false, ↓reduceIte, ifF, Nat.zero_add, startE, wipeE, Option.bind_some, Int.toNat_natCast, Option.some.injEq, List.set_set, Option.map_some, W.int.injEq, W.str.injEq, W.loc.injEq, Nat.reduceLeDiff, and_self, Int.reduceLT, Int.reduceLE, Int.reduceNeg, Int.reduceToNat, Int.reduceAdd, Int.reduceMul, Int.reduceSub, decide_eq_true_eq, wq_ixFs e89, hd_at hh.nd hhm, Hd.w, dict2W_p (f := fun p : List Nat × List Nat => SX.S p.1) (g := fun p => tx p.2) (arS_nd hok.nd)]
    have ea : (S9 ++ [O.dct (arD hd.ps)])[S9.length]? = some (.dct (arD hd.ps)) := at_new'
    have X10 : Xt [S.length, p10] S8 (S9 ++ [O.dct (arD hd.ps)]) := X9.appI
    have Y10 : Xt [] S9 (S9 ++ [O.dct (arD hd.ps)]) := Xt.app
    have l910 := lt_at ea
    generalize S9 ++ [O.dct (arD hd.ps)] = S10 at *
    have e6A := (Y10.get0 e69)
    have Y11 : Xt [] S9 (S10 ++ [O.dct []]) := Y10.appI
    have eD : (S10 ++ [O.dct []])[S10.length]? = some (.dct []) := at_new'
    have ea1 : (S10 ++ [O.dct []])[S9.length]? = some (.dct (arD hd.ps)) := at_app ea
    have e6B := at_app (T := [O.dct []]) e6A
    generalize hp11 : S10.length = p11 at *
    simp (maxSteps := 500000) (implicitDefEqProofs := false) (disch := omega) only [↓pa0, ↓pa1, ↓pa2, ↓pa3, ↓pa4, ↓pa5, ↓pa6, pb0, pb1, pb2, pb3, pb4, pb5, pb6, List.map_cons, List.map_nil, List.length_cons, List.length_nil, List.replicate, List.cons_append, List.nil_append, Nat.reduceAdd, Nat.reduceSub, List.set_cons_zero, List.set_cons_succ, if_true, if_false, true_and, and_true, Bool.false_eq_true, Bool.not_true, Bool.not_false, ↓reduceIte, ifF, Nat.zero_add, startE, wipeE, Option.bind_some, Int.toNat_natCast, Option.some.injEq, List.set_set, Option.map_some, W.int.injEq, W.str.injEq, W.loc.injEq, Nat.reduceLeDiff, and_self, Int.reduceLT, Int.reduceLE, Int.reduceNeg, Int.reduceToNat, Int.reduceAdd, Int.reduceMul, Int.reduceSub, decide_eq_true_eq, dictW_l (f := fun k : Kd => SX.S k.nm) (g := fun k => k.sh.w) e6B (nmS_nd ndk)]
    have l1011 := lt_at eD
    generalize S10 ++ [O.dct []] = S11 at *
    have eD2 : (S11 ++ [O.dct (shD ks)])[p11]? = some (.dct []) := at_app eD
    refine ⟨eD2, ?_⟩
    rw [wd_disp]
    have Y12 : Xt [] S9 ((S11 ++ [O.dct (shD ks)]).set p11 (.dct (wdD S11.length p8 p9 left))) := (Y11.appI).setN (by omega)
    have esh : ((S11 ++ [O.dct (shD ks)]).set p11 (.dct (wdD S11.length p8 p9 left)))[S11.length]? = some (.dct (shD ks)) := at_ne at_new' (by omega)
    have ewd : ((S11 ++ [O.dct (shD ks)]).set p11 (.dct (wdD S11.length p8 p9 left)))[p11]? = some (.dct (wdD S11.length p8 p9 left)) := at_set' eD2
    have ea2 : ((S11 ++ [O.dct (shD ks)]).set p11 (.dct (wdD S11.length p8 p9 left)))[S9.length]? = some (.dct (arD hd.ps)) := at_ne (at_app ea1) (by omega)
    generalize (S11 ++ [O.dct (shD ks)]).set p11 (.dct (wdD S11.length p8 p9 left)) = S12 at *
    generalize hp12 : S11.length = p12 at *
    have st12 : Strm S12 S.length := st9.mono Y12 (by simp)
    have l9i := st9.lt
    have l98 := lt_at e89
    have l99 := lt_at e99
    have l9a := lt_at e109
    have sp : Sep S.length p11 p12 p8 := ⟨by omega, by omega, by omega, by omega, by omega⟩
    have wi : WI S12 S.length p11 p12 p8 p9 ks hs := ⟨st12, ⟨lets, left, ewd, Y12.get0 e99, by omega, wo9', ni9, by omega⟩, esh, Y12.get0 e89⟩
    have e812 := Y12.get0 e89
    simp (maxSteps := 500000) (implicitDefEqProofs := false) (disch := omega) only [↓pa0, ↓pa1, ↓pa2, ↓pa3, ↓pa4, ↓pa5, ↓pa6, pb0, pb1, pb2, pb3, pb4, pb5, pb6, List.map_cons, List.map_nil, List.length_cons, List.length_nil, List.replicate, List.cons_append, List.nil_append, Nat.reduceAdd, Nat.reduceSub, List.set_cons_zero, List.set_cons_succ, if_true, if_false, true_and, and_true, Bool.false_eq_true, Bool.not_true, Bool.not_false, ↓reduceIte, ifF, Nat.zero_add, startE, wipeE, Option.bind_some, Int.toNat_natCast, Option.some.injEq, List.set_set, Option.map_some, W.int.injEq, W.str.injEq, W.loc.injEq, Nat.reduceLeDiff, and_self, Int.reduceLT, Int.reduceLE, Int.reduceNeg, Int.reduceToNat, Int.reduceAdd, Int.reduceMul, Int.reduceSub, decide_eq_true_eq, wq_ixFs e812, hd_at hh.nd hhm, Hd.w]
    rw [← ekd]
    have s1 : S.length ≠ S9.length := by omega
    have s2 : p11 ≠ S9.length := by omega
    have s3 : p12 ≠ S9.length := by omega
    have s4 : p8 ≠ S9.length := by omega
    rw [show (9 : Int) = ((9 : Nat) : Int) from rfl]
    refine body_ok hk hne hl6 hh (by omega) sp 9 n hd.ps S9.length p9 kd S12 _ (by omega) hkd hok.nd (by omega) s1 s2 s3 s4 ea2 wi fun S13 b pl' X13 wi13 hp13 tb db => ?_
    have bok := tb.ok (fun k hk' => hk.ts4 k hk') (fun h hm => (hh.ok h hm).len)
    have l912 := Y12.len
    have Y13 : Xt [S.length] S9 S13 := (Y12.nil.trans X13).drop fun k hk' hl' => by
      rcases List.mem_cons.mp hk' with rfl | hk'
      · simp
      · have := List.mem_singleton.mp hk'; omega
    have ea3 := X13.get ea2 (by simp; exact ⟨s1.symm, s2.symm⟩)
    refine wp_cut (fun r => ∃ S14 b', r = .nx [some (.int c), some (.int most), some (.int many), some (.int top), some (.int left), some (W.loc S.length), some (.loc p6), some (.loc p7), some (.loc p8), some (.loc p9), some (.loc p10), some (tx hd.nm), some (.loc S9.length), some (.loc p11), some b'.w] S14 ∧ Xt [S.length] S9 S14 ∧ Strm S14 S.length ∧ Ty ks hs hd.ps b' hd.kd ∧ b'.sz ≤ 40 ∧ b'.dp ≤ 12) ?_ ?_
    · simp (maxSteps := 500000) (implicitDefEqProofs := false) (disch := omega) only [↓pa0, ↓pa1, ↓pa2, ↓pa3, ↓pa4, ↓pa5, ↓pa6, pb0, pb1, pb2, pb3, pb4, pb5, pb6, List.map_cons, List.map_nil, List.length_cons, List.length_nil, List.replicate, List.cons_append, List.nil_append, Nat.reduceAdd, Nat.reduceSub, List.set_cons_zero, List.set_cons_succ, if_true, if_false, true_and, and_true, Bool.false_eq_true, Bool.not_true, Bool.not_false, ↓reduceIte, ifF, Nat.zero_add, startE, wipeE, Option.bind_some, Int.toNat_natCast, Option.some.injEq, List.set_set, Option.map_some, W.int.injEq, W.str.injEq, W.loc.injEq, Nat.reduceLeDiff, and_self, Int.reduceLT, Int.reduceLE, Int.reduceNeg, Int.reduceToNat, Int.reduceAdd, Int.reduceMul, Int.reduceSub, decide_eq_true_eq]
      refine size_ok (d := 12) (by omega) (by omega) bok fun S14 X14 => ?_
      have wi14 := wi13.mono0 sp X14
      have Y14 : Xt [S.length] S9 S14 := Y13.trans X14.nil
      simp (maxSteps := 500000) (implicitDefEqProofs := false) (disch := omega) only [↓pa0, ↓pa1, ↓pa2, ↓pa3, ↓pa4, ↓pa5, ↓pa6, pb0, pb1, pb2, pb3, pb4, pb5, pb6, List.map_cons, List.map_nil, List.length_cons, List.length_nil, List.replicate, List.cons_append, List.nil_append, Nat.reduceAdd, Nat.reduceSub, List.set_cons_zero, List.set_cons_succ, if_true, if_false, true_and, and_true, Bool.false_eq_true, Bool.not_true, Bool.not_false, ↓reduceIte, ifF, Nat.zero_add, startE, wipeE, Option.bind_some, Int.toNat_natCast, Option.some.injEq, List.set_set, Option.map_some, W.int.injEq, W.str.injEq, W.loc.injEq, Nat.reduceLeDiff, and_self, Int.reduceLT, Int.reduceLE, Int.reduceNeg, Int.reduceToNat, Int.reduceAdd, Int.reduceMul, Int.reduceSub, decide_eq_true_eq]
      split
      · have e814 := Y14.get e89 (by simp; exact ni8)
        simp (maxSteps := 500000) (implicitDefEqProofs := false) (disch := omega) only [↓pa0, ↓pa1, ↓pa2, ↓pa3, ↓pa4, ↓pa5, ↓pa6, pb0, pb1, pb2, pb3, pb4, pb5, pb6, List.map_cons, List.map_nil, List.length_cons, List.length_nil, List.replicate, List.cons_append, List.nil_append, Nat.reduceAdd, Nat.reduceSub, List.set_cons_zero, List.set_cons_succ, if_true, if_false, true_and, and_true, Bool.false_eq_true, Bool.not_true, Bool.not_false, ↓reduceIte, ifF, Nat.zero_add, startE, wipeE, Option.bind_some, Int.toNat_natCast, Option.some.injEq, List.set_set, Option.map_some, W.int.injEq, W.str.injEq, W.loc.injEq, Nat.reduceLeDiff, and_self, Int.reduceLT, Int.reduceLE, Int.reduceNeg, Int.reduceToNat, Int.reduceAdd, Int.reduceMul, Int.reduceSub, decide_eq_true_eq, wq_ixFs e814, hd_at hh.nd hhm, Hd.w]
        rw [← ekd]
        refine plainW hk sp (by omega) hkd hok.nd (by omega) s1 s2 s3 (X14.get0 ea3) wi14 fun S15 b' X15 wi15 tb' db' zb' => ?_
        exact ⟨S15, b', rfl, Y14.trans X15, wi15.st, ekd ▸ tb', by omega, by omega⟩
      · rename_i hz
        exact ⟨S14, b, rfl, Y14, wi14.st, ekd ▸ tb, by omega, by omega⟩
    · rintro r ⟨S14, b', rfl, Y14, st14, tb', zb', db'⟩
      have e814 := Y14.get e89 (by simp; exact ni8)
      have e1014 := Y14.get e109 (by simp; exact ni10.symm)
      simp (maxSteps := 500000) (implicitDefEqProofs := false) (disch := omega) only [↓pa0, ↓pa1, ↓pa2, ↓pa3, ↓pa4, ↓pa5, ↓pa6, pb0, pb1, pb2, pb3, pb4, pb5, pb6, List.map_cons, List.map_nil, List.length_cons, List.length_nil, List.replicate, List.cons_append, List.nil_append, Nat.reduceAdd, Nat.reduceSub, List.set_cons_zero, List.set_cons_succ, if_true, if_false, true_and, and_true, Bool.false_eq_true, Bool.not_true, Bool.not_false, ↓reduceIte, ifF, Nat.zero_add, startE, wipeE, Option.bind_some, Int.toNat_natCast, Option.some.injEq, List.set_set, Option.map_some, W.int.injEq, W.str.injEq, W.loc.injEq, Nat.reduceLeDiff, and_self, Int.reduceLT, Int.reduceLE, Int.reduceNeg, Int.reduceToNat, Int.reduceAdd, Int.reduceMul, Int.reduceSub, decide_eq_true_eq, wq_ixFs e814, hd_at hh.nd hhm, Hd.w, tyOk_l e1014, appendW_l e1014 (show (ds.map Df.w).length < 1000000 by rw [List.length_map]; omega)]
      refine ⟨_, _, _, _, ds ++ [⟨hd, b'⟩], rfl, by rw [List.map_append, hds, hjt]; rfl, (X9.trans (Y14.mono (by simp))).setI (by simp), st14.ne ni10.symm, ?_, ?_⟩
      · rw [at_set' e1014, List.map_append]; rfl
      · intro d hd'
        rcases List.mem_append.mp hd' with h | h
        · exact hdo d h
        · rw [List.mem_singleton.mp h]; exact ⟨tb', zb', db'⟩
  · rintro s S9 ⟨x11, x12, x13, x14, ds, rfl, hds, X9, st9, e109, hdo⟩
    have e89 := X9.get e88 (by simp; omega)
    refine ⟨by rw [keyIt_f e89, List.getElem?_eq_none (by rw [List.length_map]; exact Nat.le_refl _)]; rfl, ?_⟩
    rw [List.take_length] at hds
    have X08 : Xt [S.length, p10] S (S9.set p8 (.dct (hdD hs))) := (X07.mono (by simp)).trans (Xt.unlock e87 (hS8 ▸ X9))
    simp (maxSteps := 500000) (implicitDefEqProofs := false) (disch := omega) only [↓pa0, ↓pa1, ↓pa2, ↓pa3, ↓pa4, ↓pa5, ↓pa6, pb0, pb1, pb2, pb3, pb4, pb5, pb6, List.map_cons, List.map_nil, List.length_cons, List.length_nil, List.replicate, List.cons_append, List.nil_append, Nat.reduceAdd, Nat.reduceSub, List.set_cons_zero, List.set_cons_succ, if_true, if_false, true_and, and_true, Bool.false_eq_true, Bool.not_true, Bool.not_false, ↓reduceIte, ifF, Nat.zero_add, startE, wipeE, Option.bind_some, Int.toNat_natCast, Option.some.injEq, List.set_set, Option.map_some, W.int.injEq, W.str.injEq, W.loc.injEq, Nat.reduceLeDiff, and_self, Int.reduceLT, Int.reduceLE, Int.reduceNeg, Int.reduceToNat, Int.reduceAdd, Int.reduceMul, Int.reduceSub, decide_eq_true_eq]
    have hdn : ds ≠ [] := by
      rintro rfl
      exact hhne hds.symm
    have hdl : ds.length = hs.length := by rw [← hds, List.length_map]
    have e610 : p6 ≠ p10 := by have := lt_at e6; omega
    have e69 := X9.get e68 (by simp; exact ⟨ni6.symm, e610⟩)
    have e86' : p8 ≠ p6 := by have := lt_at e6; omega
    have X08' : Xt [] S (S9.set p8 (.dct (hdD hs))) := X08.drop fun k hk' hl' => by
      rcases List.mem_cons.mp hk' with rfl | hk'
      · omega
      · have := List.mem_singleton.mp hk'; omega
    exact h ks ds _ p6 p10 X08' hne hkl hk hdn (by omega) ⟨hds ▸ hh, fun d hd => hds ▸ (hdo d hd).1, fun d hd => (hdo d hd).2.1, fun d hd => (hdo d hd).2.2⟩ (by omega) (by omega) (at_ne e69 e86') (at_ne e109 (by omega)) e610
end Lw

set_option linter.all false
set_option maxRecDepth 100000
set_option maxHeartbeats 4000000
namespace Lw
open PySem L2 Ev
variable {EE : Exc}
theorem extendW_l {S : Sto} {p q : Nat} {ws us : List W} (h : S[p]? = some (.lst ws)) (h' : S[q]? = some (.lst us)) (hl : ws.length + us.length ≤ 1000000) : extendW (.loc p) [.loc q] S = .ok .non (S.set p (.lst (ws ++ us))) := by
  unfold extendW; dsimp only; rw [h, h']; dsimp only; rw [if_pos hl]
theorem cut1' {w : W} {ws : List W} : cutW (w :: ws) (some 1) none = ws := cut1
theorem cut3 {a b c : W} {ws : List W} : cutW (a :: b :: c :: ws) (some 3) none = ws := by
  rw [show (some 3 : Option Int) = some ((3 : Nat) : Int) from rfl, cutW_from]; rfl
theorem cutTo3 {a b c : W} {ws : List W} : cutW (a :: b :: c :: ws) none (some 3) = [a, b, c] := by
  rw [show (some 3 : Option Int) = some ((3 : Nat) : Int) from rfl, cutW_to]; rfl
theorem sDe {x y : String} (h : (Str.ofString x == Str.ofString y) = false) : (Str.ofString x == Str.ofString y) = false := h
/-- parts -/
theorem parts_ok {n : Nat} {g : Sg} {ps : List Bd} {S : Sto} {Q : W → Sto → Prop} (hn : 1 ≤ n) (har : g.ar ps.length) (hq : ∀ S', Xt [] S S' → Q (.tup (ps.map Bd.w)) S') : wpR (call n .f_parts [(Bd.nd g ps).w] S) Q := by
  obtain ⟨n, rfl⟩ : ∃ m, n = m + 1 := ⟨n - 1, by omega⟩
  rw [call_s, body, Bd.w_nd]
  have hl := Sg.ar_le har
  have q0 := hq S .refl
  cases g with
  | tag t =>
    obtain rfl := List.length_eq_zero_iff.mp har
    simp (maxSteps := 500000) (implicitDefEqProofs := false) (disch := omega) only [↓pa0, ↓pa1, ↓pa2, ↓pa3, ↓pa4, ↓pa5, ↓pa6, pb0, pb1, pb2, pb3, pb4, pb5, pb6, List.map_cons, List.map_nil, List.length_cons, List.length_nil, List.replicate, List.cons_append, List.nil_append, Nat.reduceAdd, Nat.reduceSub, List.set_cons_zero, List.set_cons_succ, if_true, if_false, true_and, and_true, Bool.false_eq_true, Bool.not_true, Bool.not_false, ↓reduceIte, ifF, Nat.zero_add, startE, wipeE, Option.bind_some, Int.toNat_natCast, Option.some.injEq, List.set_set, Option.map_some, W.int.injEq, W.str.injEq, W.loc.injEq, Nat.reduceLeDiff, and_self, Int.reduceLT, Int.reduceLE, Int.reduceNeg, Int.reduceToNat, Int.reduceAdd, Int.reduceMul, Int.reduceSub, decide_eq_true_eq, m_f_parts, Sg.mk, show ((Str.ofString "tag" == Str.ofString "tag") = true) from by decide]
    exact q0
  | nam t =>
    obtain rfl := List.length_eq_zero_iff.mp har
    simp (maxSteps := 500000) (implicitDefEqProofs := false) (disch := omega) only [↓pa0, ↓pa1, ↓pa2, ↓pa3, ↓pa4, ↓pa5, ↓pa6, pb0, pb1, pb2, pb3, pb4, pb5, pb6, List.map_cons, List.map_nil, List.length_cons, List.length_nil, List.replicate, List.cons_append, List.nil_append, Nat.reduceAdd, Nat.reduceSub, List.set_cons_zero, List.set_cons_succ, if_true, if_false, true_and, and_true, Bool.false_eq_true, Bool.not_true, Bool.not_false, ↓reduceIte, ifF, Nat.zero_add, startE, wipeE, Option.bind_some, Int.toNat_natCast, Option.some.injEq, List.set_set, Option.map_some, W.int.injEq, W.str.injEq, W.loc.injEq, Nat.reduceLeDiff, and_self, Int.reduceLT, Int.reduceLE, Int.reduceNeg, Int.reduceToNat, Int.reduceAdd, Int.reduceMul, Int.reduceSub, decide_eq_true_eq, m_f_parts, Sg.mk, show ((Str.ofString "name" == Str.ofString "tag") = false) from by decide, show ((Str.ofString "name" == Str.ofString "name") = true) from by decide]
    exact q0
  | pair =>
    simp (maxSteps := 500000) (implicitDefEqProofs := false) (disch := omega) only [↓pa0, ↓pa1, ↓pa2, ↓pa3, ↓pa4, ↓pa5, ↓pa6, pb0, pb1, pb2, pb3, pb4, pb5, pb6, List.map_cons, List.map_nil, List.length_cons, List.length_nil, List.replicate, List.cons_append, List.nil_append, Nat.reduceAdd, Nat.reduceSub, List.set_cons_zero, List.set_cons_succ, if_true, if_false, true_and, and_true, Bool.false_eq_true, Bool.not_true, Bool.not_false, ↓reduceIte, ifF, Nat.zero_add, startE, wipeE, Option.bind_some, Int.toNat_natCast, Option.some.injEq, List.set_set, Option.map_some, W.int.injEq, W.str.injEq, W.loc.injEq, Nat.reduceLeDiff, and_self, Int.reduceLT, Int.reduceLE, Int.reduceNeg, Int.reduceToNat, Int.reduceAdd, Int.reduceMul, Int.reduceSub, decide_eq_true_eq, m_f_parts, Sg.mk, show ((Str.ofString "pair" == Str.ofString "tag") = false) from by decide, show ((Str.ofString "pair" == Str.ofString "name") = false) from by decide, show ((Str.ofString "pair" == Str.ofString "choose") = false) from by decide, show ((Str.ofString "pair" == Str.ofString "ask") = false) from by decide, show ((Str.ofString "pair" == Str.ofString "let") = false) from by decide, slW_t, cut1']
    exact q0
  | one =>
    simp (maxSteps := 500000) (implicitDefEqProofs := false) (disch := omega) only [↓pa0, ↓pa1, ↓pa2, ↓pa3, ↓pa4, ↓pa5, ↓pa6, pb0, pb1, pb2, pb3, pb4, pb5, pb6, List.map_cons, List.map_nil, List.length_cons, List.length_nil, List.replicate, List.cons_append, List.nil_append, Nat.reduceAdd, Nat.reduceSub, List.set_cons_zero, List.set_cons_succ, if_true, if_false, true_and, and_true, Bool.false_eq_true, Bool.not_true, Bool.not_false, ↓reduceIte, ifF, Nat.zero_add, startE, wipeE, Option.bind_some, Int.toNat_natCast, Option.some.injEq, List.set_set, Option.map_some, W.int.injEq, W.str.injEq, W.loc.injEq, Nat.reduceLeDiff, and_self, Int.reduceLT, Int.reduceLE, Int.reduceNeg, Int.reduceToNat, Int.reduceAdd, Int.reduceMul, Int.reduceSub, decide_eq_true_eq, m_f_parts, Sg.mk, show ((Str.ofString "one" == Str.ofString "tag") = false) from by decide, show ((Str.ofString "one" == Str.ofString "name") = false) from by decide, show ((Str.ofString "one" == Str.ofString "choose") = false) from by decide, show ((Str.ofString "one" == Str.ofString "ask") = false) from by decide, show ((Str.ofString "one" == Str.ofString "let") = false) from by decide, slW_t, cut1']
    exact q0
  | oth =>
    simp (maxSteps := 500000) (implicitDefEqProofs := false) (disch := omega) only [↓pa0, ↓pa1, ↓pa2, ↓pa3, ↓pa4, ↓pa5, ↓pa6, pb0, pb1, pb2, pb3, pb4, pb5, pb6, List.map_cons, List.map_nil, List.length_cons, List.length_nil, List.replicate, List.cons_append, List.nil_append, Nat.reduceAdd, Nat.reduceSub, List.set_cons_zero, List.set_cons_succ, if_true, if_false, true_and, and_true, Bool.false_eq_true, Bool.not_true, Bool.not_false, ↓reduceIte, ifF, Nat.zero_add, startE, wipeE, Option.bind_some, Int.toNat_natCast, Option.some.injEq, List.set_set, Option.map_some, W.int.injEq, W.str.injEq, W.loc.injEq, Nat.reduceLeDiff, and_self, Int.reduceLT, Int.reduceLE, Int.reduceNeg, Int.reduceToNat, Int.reduceAdd, Int.reduceMul, Int.reduceSub, decide_eq_true_eq, m_f_parts, Sg.mk, show ((Str.ofString "other" == Str.ofString "tag") = false) from by decide, show ((Str.ofString "other" == Str.ofString "name") = false) from by decide, show ((Str.ofString "other" == Str.ofString "choose") = false) from by decide, show ((Str.ofString "other" == Str.ofString "ask") = false) from by decide, show ((Str.ofString "other" == Str.ofString "let") = false) from by decide, slW_t, cut1']
    exact q0
  | cho ts =>
    cases ps with
    | nil => cases har.1
    | cons p ps =>
      have hts : (ps.map Bd.w).length = ts.length := by rw [List.length_map]; have := har.1; simpa using this
      rw [List.length_cons] at hl
      simp (maxSteps := 500000) (implicitDefEqProofs := false) (disch := omega) only [↓pa0, ↓pa1, ↓pa2, ↓pa3, ↓pa4, ↓pa5, ↓pa6, pb0, pb1, pb2, pb3, pb4, pb5, pb6, List.map_cons, List.map_nil, List.length_cons, List.length_nil, List.replicate, List.cons_append, List.nil_append, Nat.reduceAdd, Nat.reduceSub, List.set_cons_zero, List.set_cons_succ, if_true, if_false, true_and, and_true, Bool.false_eq_true, Bool.not_true, Bool.not_false, ↓reduceIte, ifF, Nat.zero_add, startE, wipeE, Option.bind_some, Int.toNat_natCast, Option.some.injEq, List.set_set, Option.map_some, W.int.injEq, W.str.injEq, W.loc.injEq, Nat.reduceLeDiff, and_self, Int.reduceLT, Int.reduceLE, Int.reduceNeg, Int.reduceToNat, Int.reduceAdd, Int.reduceMul, Int.reduceSub, decide_eq_true_eq, m_f_parts, Sg.mk, show ((Str.ofString "choose" == Str.ofString "tag") = false) from by decide, show ((Str.ofString "choose" == Str.ofString "name") = false) from by decide, show ((Str.ofString "choose" == Str.ofString "choose") = true) from by decide, List.headD_cons, List.tail_cons]
      have lb : (brW ts (ps.map Bd.w)).length = (ps.map Bd.w).length := brW_snd _ _ (by omega)
      unfold brW
      rw [List.length_map]
      refine wp_filt (A := List Nat × W) (ws := ts.zip (ps.map Bd.w)) (fun p => .tup [tx p.1, p.2]) (fun p => p.2) (fun _ => true) (fun j => by rw [seqIt_t, List.getElem?_map]) (by rw [List.length_zip, List.length_map]; omega) ?_ ?_
      · intro w hw
        exact ⟨_, by simp (maxSteps := 500000) (implicitDefEqProofs := false) (disch := omega) only [↓pa0, ↓pa1, ↓pa2, ↓pa3, ↓pa4, ↓pa5, ↓pa6, pb0, pb1, pb2, pb3, pb4, pb5, pb6, List.map_cons, List.map_nil, List.length_cons, List.length_nil, List.replicate, List.cons_append, List.nil_append, Nat.reduceAdd, Nat.reduceSub, List.set_cons_zero, List.set_cons_succ, if_true, if_false, true_and, and_true, Bool.false_eq_true, Bool.not_true, Bool.not_false, ↓reduceIte, ifF, Nat.zero_add, startE, wipeE, Option.bind_some, Int.toNat_natCast, Option.some.injEq, List.set_set, Option.map_some, W.int.injEq, W.str.injEq, W.loc.injEq, Nat.reduceLeDiff, and_self, Int.reduceLT, Int.reduceLE, Int.reduceNeg, Int.reduceToNat, Int.reduceAdd, Int.reduceMul, Int.reduceSub, decide_eq_true_eq]; rfl, by simp (maxSteps := 500000) (implicitDefEqProofs := false) (disch := omega) only [↓pa0, ↓pa1, ↓pa2, ↓pa3, ↓pa4, ↓pa5, ↓pa6, pb0, pb1, pb2, pb3, pb4, pb5, pb6, List.map_cons, List.map_nil, List.length_cons, List.length_nil, List.replicate, List.cons_append, List.nil_append, Nat.reduceAdd, Nat.reduceSub, List.set_cons_zero, List.set_cons_succ, if_true, if_false, true_and, and_true, Bool.false_eq_true, Bool.not_true, Bool.not_false, ↓reduceIte, ifF, Nat.zero_add, startE, wipeE, Option.bind_some, Int.toNat_natCast, Option.some.injEq, List.set_set, Option.map_some, W.int.injEq, W.str.injEq, W.loc.injEq, Nat.reduceLeDiff, and_self, Int.reduceLT, Int.reduceLE, Int.reduceNeg, Int.reduceToNat, Int.reduceAdd, Int.reduceMul, Int.reduceSub, decide_eq_true_eq], fun _ => by simp (maxSteps := 500000) (implicitDefEqProofs := false) (disch := omega) only [↓pa0, ↓pa1, ↓pa2, ↓pa3, ↓pa4, ↓pa5, ↓pa6, pb0, pb1, pb2, pb3, pb4, pb5, pb6, List.map_cons, List.map_nil, List.length_cons, List.length_nil, List.replicate, List.cons_append, List.nil_append, Nat.reduceAdd, Nat.reduceSub, List.set_cons_zero, List.set_cons_succ, if_true, if_false, true_and, and_true, Bool.false_eq_true, Bool.not_true, Bool.not_false, ↓reduceIte, ifF, Nat.zero_add, startE, wipeE, Option.bind_some, Int.toNat_natCast, Option.some.injEq, List.set_set, Option.map_some, W.int.injEq, W.str.injEq, W.loc.injEq, Nat.reduceLeDiff, and_self, Int.reduceLT, Int.reduceLE, Int.reduceNeg, Int.reduceToNat, Int.reduceAdd, Int.reduceMul, Int.reduceSub, decide_eq_true_eq]⟩
      · rw [List.filter_eq_self.mpr fun _ _ => rfl, List.map_snd_zip (by omega)]
        have e2 : (S ++ [O.lst (ps.map Bd.w)])[S.length]? = some (.lst (ps.map Bd.w)) := at_new'
        simp (maxSteps := 500000) (implicitDefEqProofs := false) (disch := omega) only [↓pa0, ↓pa1, ↓pa2, ↓pa3, ↓pa4, ↓pa5, ↓pa6, pb0, pb1, pb2, pb3, pb4, pb5, pb6, List.map_cons, List.map_nil, List.length_cons, List.length_nil, List.replicate, List.cons_append, List.nil_append, Nat.reduceAdd, Nat.reduceSub, List.set_cons_zero, List.set_cons_succ, if_true, if_false, true_and, and_true, Bool.false_eq_true, Bool.not_true, Bool.not_false, ↓reduceIte, ifF, Nat.zero_add, startE, wipeE, Option.bind_some, Int.toNat_natCast, Option.some.injEq, List.set_set, Option.map_some, W.int.injEq, W.str.injEq, W.loc.injEq, Nat.reduceLeDiff, and_self, Int.reduceLT, Int.reduceLE, Int.reduceNeg, Int.reduceToNat, Int.reduceAdd, Int.reduceMul, Int.reduceSub, decide_eq_true_eq, tupleW_l e2, List.length_map]
        exact ⟨by omega, hq _ Xt.app⟩
  | ask f =>
    simp (maxSteps := 500000) (implicitDefEqProofs := false) (disch := omega) only [↓pa0, ↓pa1, ↓pa2, ↓pa3, ↓pa4, ↓pa5, ↓pa6, pb0, pb1, pb2, pb3, pb4, pb5, pb6, List.map_cons, List.map_nil, List.length_cons, List.length_nil, List.replicate, List.cons_append, List.nil_append, Nat.reduceAdd, Nat.reduceSub, List.set_cons_zero, List.set_cons_succ, if_true, if_false, true_and, and_true, Bool.false_eq_true, Bool.not_true, Bool.not_false, ↓reduceIte, ifF, Nat.zero_add, startE, wipeE, Option.bind_some, Int.toNat_natCast, Option.some.injEq, List.set_set, Option.map_some, W.int.injEq, W.str.injEq, W.loc.injEq, Nat.reduceLeDiff, and_self, Int.reduceLT, Int.reduceLE, Int.reduceNeg, Int.reduceToNat, Int.reduceAdd, Int.reduceMul, Int.reduceSub, decide_eq_true_eq, m_f_parts, Sg.mk, show ((Str.ofString "ask" == Str.ofString "tag") = false) from by decide, show ((Str.ofString "ask" == Str.ofString "name") = false) from by decide, show ((Str.ofString "ask" == Str.ofString "choose") = false) from by decide, show ((Str.ofString "ask" == Str.ofString "ask") = true) from by decide]
    exact q0
  | lt x k =>
    simp (maxSteps := 500000) (implicitDefEqProofs := false) (disch := omega) only [↓pa0, ↓pa1, ↓pa2, ↓pa3, ↓pa4, ↓pa5, ↓pa6, pb0, pb1, pb2, pb3, pb4, pb5, pb6, List.map_cons, List.map_nil, List.length_cons, List.length_nil, List.replicate, List.cons_append, List.nil_append, Nat.reduceAdd, Nat.reduceSub, List.set_cons_zero, List.set_cons_succ, if_true, if_false, true_and, and_true, Bool.false_eq_true, Bool.not_true, Bool.not_false, ↓reduceIte, ifF, Nat.zero_add, startE, wipeE, Option.bind_some, Int.toNat_natCast, Option.some.injEq, List.set_set, Option.map_some, W.int.injEq, W.str.injEq, W.loc.injEq, Nat.reduceLeDiff, and_self, Int.reduceLT, Int.reduceLE, Int.reduceNeg, Int.reduceToNat, Int.reduceAdd, Int.reduceMul, Int.reduceSub, decide_eq_true_eq, m_f_parts, Sg.mk, show ((Str.ofString "let" == Str.ofString "tag") = false) from by decide, show ((Str.ofString "let" == Str.ofString "name") = false) from by decide, show ((Str.ofString "let" == Str.ofString "choose") = false) from by decide, show ((Str.ofString "let" == Str.ofString "ask") = false) from by decide, show ((Str.ofString "let" == Str.ofString "let") = true) from by decide, slW_t, cut3]
    exact q0
theorem brW_zip (ts : List (List Nat)) (us ws : List W) (h1 : us.length = ts.length) (h2 : ws.length = us.length) : (brW ts us).zip ws = (ts.zip (us.zip ws)).map fun p => (W.tup [tx p.1, p.2.1], p.2.2) := by
  unfold brW
  refine List.ext_getElem (by simp only [List.length_zip, List.length_map]; omega) fun j a b => by simp only [List.getElem_zip, List.getElem_map]
theorem brW_zip2 (ts : List (List Nat)) (us ws : List W) (h1 : us.length = ts.length) (h2 : ws.length = us.length) : (ts.zip (us.zip ws)).map (fun p => W.tup [tx p.1, p.2.2]) = brW ts ws := by
  unfold brW
  refine List.ext_getElem (by simp only [List.length_zip, List.length_map]; omega) fun j a b => by simp only [List.getElem_zip, List.getElem_map]
/-- with_parts -/
theorem with_parts_ok {n : Nat} {g : Sg} {ps : List Bd} {ws : List W} {S : Sto} {Q : W → Sto → Prop} (hn : 1 ≤ n) (har : g.ar ps.length) (hw : ws.length = ps.length) (hq : ∀ S', Xt [] S S' → Q (.tup (g.mk ws)) S') : wpR (call n .f_with_parts [(Bd.nd g ps).w, .tup ws] S) Q := by
  obtain ⟨n, rfl⟩ : ∃ m, n = m + 1 := ⟨n - 1, by omega⟩
  rw [call_s, body, Bd.w_nd]
  have hl := Sg.ar_le har
  have q0 := hq S .refl
  cases g with
  | tag t =>
    simp (maxSteps := 500000) (implicitDefEqProofs := false) (disch := omega) only [↓pa0, ↓pa1, ↓pa2, ↓pa3, ↓pa4, ↓pa5, ↓pa6, pb0, pb1, pb2, pb3, pb4, pb5, pb6, List.map_cons, List.map_nil, List.length_cons, List.length_nil, List.replicate, List.cons_append, List.nil_append, Nat.reduceAdd, Nat.reduceSub, List.set_cons_zero, List.set_cons_succ, if_true, if_false, true_and, and_true, Bool.false_eq_true, Bool.not_true, Bool.not_false, ↓reduceIte, ifF, Nat.zero_add, startE, wipeE, Option.bind_some, Int.toNat_natCast, Option.some.injEq, List.set_set, Option.map_some, W.int.injEq, W.str.injEq, W.loc.injEq, Nat.reduceLeDiff, and_self, Int.reduceLT, Int.reduceLE, Int.reduceNeg, Int.reduceToNat, Int.reduceAdd, Int.reduceMul, Int.reduceSub, decide_eq_true_eq, m_f_with_parts, Sg.mk, show ((Str.ofString "tag" == Str.ofString "tag") = true) from by decide]
    exact q0
  | nam t =>
    simp (maxSteps := 500000) (implicitDefEqProofs := false) (disch := omega) only [↓pa0, ↓pa1, ↓pa2, ↓pa3, ↓pa4, ↓pa5, ↓pa6, pb0, pb1, pb2, pb3, pb4, pb5, pb6, List.map_cons, List.map_nil, List.length_cons, List.length_nil, List.replicate, List.cons_append, List.nil_append, Nat.reduceAdd, Nat.reduceSub, List.set_cons_zero, List.set_cons_succ, if_true, if_false, true_and, and_true, Bool.false_eq_true, Bool.not_true, Bool.not_false, ↓reduceIte, ifF, Nat.zero_add, startE, wipeE, Option.bind_some, Int.toNat_natCast, Option.some.injEq, List.set_set, Option.map_some, W.int.injEq, W.str.injEq, W.loc.injEq, Nat.reduceLeDiff, and_self, Int.reduceLT, Int.reduceLE, Int.reduceNeg, Int.reduceToNat, Int.reduceAdd, Int.reduceMul, Int.reduceSub, decide_eq_true_eq, m_f_with_parts, Sg.mk, show ((Str.ofString "name" == Str.ofString "tag") = false) from by decide, show ((Str.ofString "name" == Str.ofString "name") = true) from by decide]
    exact q0
  | pair =>
    simp (maxSteps := 500000) (implicitDefEqProofs := false) (disch := omega) only [↓pa0, ↓pa1, ↓pa2, ↓pa3, ↓pa4, ↓pa5, ↓pa6, pb0, pb1, pb2, pb3, pb4, pb5, pb6, List.map_cons, List.map_nil, List.length_cons, List.length_nil, List.replicate, List.cons_append, List.nil_append, Nat.reduceAdd, Nat.reduceSub, List.set_cons_zero, List.set_cons_succ, if_true, if_false, true_and, and_true, Bool.false_eq_true, Bool.not_true, Bool.not_false, ↓reduceIte, ifF, Nat.zero_add, startE, wipeE, Option.bind_some, Int.toNat_natCast, Option.some.injEq, List.set_set, Option.map_some, W.int.injEq, W.str.injEq, W.loc.injEq, Nat.reduceLeDiff, and_self, Int.reduceLT, Int.reduceLE, Int.reduceNeg, Int.reduceToNat, Int.reduceAdd, Int.reduceMul, Int.reduceSub, decide_eq_true_eq, m_f_with_parts, Sg.mk, show ((Str.ofString "pair" == Str.ofString "tag") = false) from by decide, show ((Str.ofString "pair" == Str.ofString "name") = false) from by decide, show ((Str.ofString "pair" == Str.ofString "choose") = false) from by decide, show ((Str.ofString "pair" == Str.ofString "ask") = false) from by decide, show ((Str.ofString "pair" == Str.ofString "let") = false) from by decide]
    exact ⟨by omega, q0⟩
  | one =>
    simp (maxSteps := 500000) (implicitDefEqProofs := false) (disch := omega) only [↓pa0, ↓pa1, ↓pa2, ↓pa3, ↓pa4, ↓pa5, ↓pa6, pb0, pb1, pb2, pb3, pb4, pb5, pb6, List.map_cons, List.map_nil, List.length_cons, List.length_nil, List.replicate, List.cons_append, List.nil_append, Nat.reduceAdd, Nat.reduceSub, List.set_cons_zero, List.set_cons_succ, if_true, if_false, true_and, and_true, Bool.false_eq_true, Bool.not_true, Bool.not_false, ↓reduceIte, ifF, Nat.zero_add, startE, wipeE, Option.bind_some, Int.toNat_natCast, Option.some.injEq, List.set_set, Option.map_some, W.int.injEq, W.str.injEq, W.loc.injEq, Nat.reduceLeDiff, and_self, Int.reduceLT, Int.reduceLE, Int.reduceNeg, Int.reduceToNat, Int.reduceAdd, Int.reduceMul, Int.reduceSub, decide_eq_true_eq, m_f_with_parts, Sg.mk, show ((Str.ofString "one" == Str.ofString "tag") = false) from by decide, show ((Str.ofString "one" == Str.ofString "name") = false) from by decide, show ((Str.ofString "one" == Str.ofString "choose") = false) from by decide, show ((Str.ofString "one" == Str.ofString "ask") = false) from by decide, show ((Str.ofString "one" == Str.ofString "let") = false) from by decide]
    exact ⟨by omega, q0⟩
  | oth =>
    simp (maxSteps := 500000) (implicitDefEqProofs := false) (disch := omega) only [↓pa0, ↓pa1, ↓pa2, ↓pa3, ↓pa4, ↓pa5, ↓pa6, pb0, pb1, pb2, pb3, pb4, pb5, pb6, List.map_cons, List.map_nil, List.length_cons, List.length_nil, List.replicate, List.cons_append, List.nil_append, Nat.reduceAdd, Nat.reduceSub, List.set_cons_zero, List.set_cons_succ, if_true, if_false, true_and, and_true, Bool.false_eq_true, Bool.not_true, Bool.not_false, ↓reduceIte, ifF, Nat.zero_add, startE, wipeE, Option.bind_some, Int.toNat_natCast, Option.some.injEq, List.set_set, Option.map_some, W.int.injEq, W.str.injEq, W.loc.injEq, Nat.reduceLeDiff, and_self, Int.reduceLT, Int.reduceLE, Int.reduceNeg, Int.reduceToNat, Int.reduceAdd, Int.reduceMul, Int.reduceSub, decide_eq_true_eq, m_f_with_parts, Sg.mk, show ((Str.ofString "other" == Str.ofString "tag") = false) from by decide, show ((Str.ofString "other" == Str.ofString "name") = false) from by decide, show ((Str.ofString "other" == Str.ofString "choose") = false) from by decide, show ((Str.ofString "other" == Str.ofString "ask") = false) from by decide, show ((Str.ofString "other" == Str.ofString "let") = false) from by decide]
    exact ⟨by omega, q0⟩
  | cho ts =>
    cases ps with
    | nil => cases har.1
    | cons p ps =>
      cases ws with
      | nil => cases hw
      | cons w ws =>
        have hts : ps.length = ts.length := by have := har.1; simpa using this
        have hws : ws.length = ps.length := by simpa using hw
        rw [List.length_cons] at hl
        have lb : (brW ts (ps.map Bd.w)).length = ts.length := by rw [brW_snd _ _ (by rw [List.length_map]; omega), List.length_map, hts]
        simp (maxSteps := 500000) (implicitDefEqProofs := false) (disch := omega) only [↓pa0, ↓pa1, ↓pa2, ↓pa3, ↓pa4, ↓pa5, ↓pa6, pb0, pb1, pb2, pb3, pb4, pb5, pb6, List.map_cons, List.map_nil, List.length_cons, List.length_nil, List.replicate, List.cons_append, List.nil_append, Nat.reduceAdd, Nat.reduceSub, List.set_cons_zero, List.set_cons_succ, if_true, if_false, true_and, and_true, Bool.false_eq_true, Bool.not_true, Bool.not_false, ↓reduceIte, ifF, Nat.zero_add, startE, wipeE, Option.bind_some, Int.toNat_natCast, Option.some.injEq, List.set_set, Option.map_some, W.int.injEq, W.str.injEq, W.loc.injEq, Nat.reduceLeDiff, and_self, Int.reduceLT, Int.reduceLE, Int.reduceNeg, Int.reduceToNat, Int.reduceAdd, Int.reduceMul, Int.reduceSub, decide_eq_true_eq, m_f_with_parts, Sg.mk, show ((Str.ofString "choose" == Str.ofString "tag") = false) from by decide, show ((Str.ofString "choose" == Str.ofString "name") = false) from by decide, show ((Str.ofString "choose" == Str.ofString "choose") = true) from by decide, List.headD_cons, List.tail_cons, slW_t, cut1']
        have lz : (ts.zip ((ps.map Bd.w).zip ws)).length = ts.length := by rw [List.length_zip, List.length_zip, List.length_map]; omega
        rw [lb, ← lz]
        refine wp_mapB (A := List Nat × W × W) (ws := ts.zip ((ps.map Bd.w).zip ws)) (fun p => .tup [.tup [tx p.1, p.2.1], p.2.2]) (fun p => .tup [tx p.1, p.2.2]) (fun j hj => ?_) (by omega) ?_ ?_
        · rw [zip2_any (ws := brW ts (ps.map Bd.w)) (us := ws) getQ_t getQ_t (by omega) (by omega)]
          rw [brW_zip ts (ps.map Bd.w) ws (by rw [List.length_map]; omega) (by rw [List.length_map]; omega), List.getElem?_map, Option.map_map]; rfl
        · intro w hw
          exact ⟨_, by simp (maxSteps := 500000) (implicitDefEqProofs := false) (disch := omega) only [↓pa0, ↓pa1, ↓pa2, ↓pa3, ↓pa4, ↓pa5, ↓pa6, pb0, pb1, pb2, pb3, pb4, pb5, pb6, List.map_cons, List.map_nil, List.length_cons, List.length_nil, List.replicate, List.cons_append, List.nil_append, Nat.reduceAdd, Nat.reduceSub, List.set_cons_zero, List.set_cons_succ, if_true, if_false, true_and, and_true, Bool.false_eq_true, Bool.not_true, Bool.not_false, ↓reduceIte, ifF, Nat.zero_add, startE, wipeE, Option.bind_some, Int.toNat_natCast, Option.some.injEq, List.set_set, Option.map_some, W.int.injEq, W.str.injEq, W.loc.injEq, Nat.reduceLeDiff, and_self, Int.reduceLT, Int.reduceLE, Int.reduceNeg, Int.reduceToNat, Int.reduceAdd, Int.reduceMul, Int.reduceSub, decide_eq_true_eq]; rfl, by simp (maxSteps := 500000) (implicitDefEqProofs := false) (disch := omega) only [↓pa0, ↓pa1, ↓pa2, ↓pa3, ↓pa4, ↓pa5, ↓pa6, pb0, pb1, pb2, pb3, pb4, pb5, pb6, List.map_cons, List.map_nil, List.length_cons, List.length_nil, List.replicate, List.cons_append, List.nil_append, Nat.reduceAdd, Nat.reduceSub, List.set_cons_zero, List.set_cons_succ, if_true, if_false, true_and, and_true, Bool.false_eq_true, Bool.not_true, Bool.not_false, ↓reduceIte, ifF, Nat.zero_add, startE, wipeE, Option.bind_some, Int.toNat_natCast, Option.some.injEq, List.set_set, Option.map_some, W.int.injEq, W.str.injEq, W.loc.injEq, Nat.reduceLeDiff, and_self, Int.reduceLT, Int.reduceLE, Int.reduceNeg, Int.reduceToNat, Int.reduceAdd, Int.reduceMul, Int.reduceSub, decide_eq_true_eq], by simp (maxSteps := 500000) (implicitDefEqProofs := false) (disch := omega) only [↓pa0, ↓pa1, ↓pa2, ↓pa3, ↓pa4, ↓pa5, ↓pa6, pb0, pb1, pb2, pb3, pb4, pb5, pb6, List.map_cons, List.map_nil, List.length_cons, List.length_nil, List.replicate, List.cons_append, List.nil_append, Nat.reduceAdd, Nat.reduceSub, List.set_cons_zero, List.set_cons_succ, if_true, if_false, true_and, and_true, Bool.false_eq_true, Bool.not_true, Bool.not_false, ↓reduceIte, ifF, Nat.zero_add, startE, wipeE, Option.bind_some, Int.toNat_natCast, Option.some.injEq, List.set_set, Option.map_some, W.int.injEq, W.str.injEq, W.loc.injEq, Nat.reduceLeDiff, and_self, Int.reduceLT, Int.reduceLE, Int.reduceNeg, Int.reduceToNat, Int.reduceAdd, Int.reduceMul, Int.reduceSub, decide_eq_true_eq]⟩
        · rw [brW_zip2 ts (ps.map Bd.w) ws (by rw [List.length_map]; omega) (by rw [List.length_map]; omega)]
          have e2 : (S ++ [O.lst (brW ts ws)])[S.length]? = some (.lst (brW ts ws)) := at_new'
          simp (maxSteps := 500000) (implicitDefEqProofs := false) (disch := omega) only [↓pa0, ↓pa1, ↓pa2, ↓pa3, ↓pa4, ↓pa5, ↓pa6, pb0, pb1, pb2, pb3, pb4, pb5, pb6, List.map_cons, List.map_nil, List.length_cons, List.length_nil, List.replicate, List.cons_append, List.nil_append, Nat.reduceAdd, Nat.reduceSub, List.set_cons_zero, List.set_cons_succ, if_true, if_false, true_and, and_true, Bool.false_eq_true, Bool.not_true, Bool.not_false, ↓reduceIte, ifF, Nat.zero_add, startE, wipeE, Option.bind_some, Int.toNat_natCast, Option.some.injEq, List.set_set, Option.map_some, W.int.injEq, W.str.injEq, W.loc.injEq, Nat.reduceLeDiff, and_self, Int.reduceLT, Int.reduceLE, Int.reduceNeg, Int.reduceToNat, Int.reduceAdd, Int.reduceMul, Int.reduceSub, decide_eq_true_eq, tupleW_l e2]
          exact hq _ Xt.app
  | ask f =>
    simp (maxSteps := 500000) (implicitDefEqProofs := false) (disch := omega) only [↓pa0, ↓pa1, ↓pa2, ↓pa3, ↓pa4, ↓pa5, ↓pa6, pb0, pb1, pb2, pb3, pb4, pb5, pb6, List.map_cons, List.map_nil, List.length_cons, List.length_nil, List.replicate, List.cons_append, List.nil_append, Nat.reduceAdd, Nat.reduceSub, List.set_cons_zero, List.set_cons_succ, if_true, if_false, true_and, and_true, Bool.false_eq_true, Bool.not_true, Bool.not_false, ↓reduceIte, ifF, Nat.zero_add, startE, wipeE, Option.bind_some, Int.toNat_natCast, Option.some.injEq, List.set_set, Option.map_some, W.int.injEq, W.str.injEq, W.loc.injEq, Nat.reduceLeDiff, and_self, Int.reduceLT, Int.reduceLE, Int.reduceNeg, Int.reduceToNat, Int.reduceAdd, Int.reduceMul, Int.reduceSub, decide_eq_true_eq, m_f_with_parts, Sg.mk, show ((Str.ofString "ask" == Str.ofString "tag") = false) from by decide, show ((Str.ofString "ask" == Str.ofString "name") = false) from by decide, show ((Str.ofString "ask" == Str.ofString "choose") = false) from by decide, show ((Str.ofString "ask" == Str.ofString "ask") = true) from by decide]
    exact q0
  | lt x k =>
    simp (maxSteps := 500000) (implicitDefEqProofs := false) (disch := omega) only [↓pa0, ↓pa1, ↓pa2, ↓pa3, ↓pa4, ↓pa5, ↓pa6, pb0, pb1, pb2, pb3, pb4, pb5, pb6, List.map_cons, List.map_nil, List.length_cons, List.length_nil, List.replicate, List.cons_append, List.nil_append, Nat.reduceAdd, Nat.reduceSub, List.set_cons_zero, List.set_cons_succ, if_true, if_false, true_and, and_true, Bool.false_eq_true, Bool.not_true, Bool.not_false, ↓reduceIte, ifF, Nat.zero_add, startE, wipeE, Option.bind_some, Int.toNat_natCast, Option.some.injEq, List.set_set, Option.map_some, W.int.injEq, W.str.injEq, W.loc.injEq, Nat.reduceLeDiff, and_self, Int.reduceLT, Int.reduceLE, Int.reduceNeg, Int.reduceToNat, Int.reduceAdd, Int.reduceMul, Int.reduceSub, decide_eq_true_eq, m_f_with_parts, Sg.mk, show ((Str.ofString "let" == Str.ofString "tag") = false) from by decide, show ((Str.ofString "let" == Str.ofString "name") = false) from by decide, show ((Str.ofString "let" == Str.ofString "choose") = false) from by decide, show ((Str.ofString "let" == Str.ofString "ask") = false) from by decide, show ((Str.ofString "let" == Str.ofString "let") = true) from by decide, slW_t, cutTo3]
    exact ⟨by omega, q0⟩
mutual
def Bd.pl : Bd → List (List Int)
  | .nd _ ps => [] :: Bd.pll 0 ps
def Bd.pll : Nat → List Bd → List (List Int)
  | _, [] => []
  | k, p :: ps => p.pl.map ((k : Int) :: ·) ++ Bd.pll (k + 1) ps
end
theorem pll_snoc : ∀ (ps : List Bd) (k : Nat) (p : Bd), Bd.pll k (ps ++ [p]) = Bd.pll k ps ++ p.pl.map (((k + ps.length : Nat) : Int) :: ·)
  | [], k, p => by simp [Bd.pll]
  | q :: ps, k, p => by
    rw [List.cons_append, Bd.pll, pll_snoc ps (k + 1) p, Bd.pll, List.append_assoc, List.length_cons, show k + 1 + ps.length = k + (ps.length + 1) by omega]
theorem Bd.pl_nd (g : Sg) (ps : List Bd) : (Bd.nd g ps).pl = [] :: Bd.pll 0 ps := by rw [Bd.pl]
mutual
theorem pl_len : ∀ b : Bd, b.pl.length = b.sz
  | .nd g ps => by rw [Bd.pl, Bd.sz, List.length_cons, pll_len 0 ps]; omega
theorem pll_len : ∀ (k : Nat) (ps : List Bd), (Bd.pll k ps).length = Bd.szl ps
  | _, [] => by rw [Bd.pll, Bd.szl]; rfl
  | k, p :: ps => by rw [Bd.pll, Bd.szl, List.length_append, List.length_map, pl_len p, pll_len (k + 1) ps]
end
mutual
theorem pl_xl : ∀ (b : Bd) (x : List Int), x ∈ b.pl → x.length < b.dp
  | .nd g ps, x, h => by
    rw [Bd.pl] at h
    rw [Bd.dp]
    rcases List.mem_cons.mp h with rfl | h
    · simp; omega
    · have := pll_xl 0 ps x h; omega
theorem pll_xl : ∀ (k : Nat) (ps : List Bd) (x : List Int), x ∈ Bd.pll k ps → x.length ≤ Bd.dpl ps
  | _, [], x, h => by rw [Bd.pll] at h; cases h
  | k, p :: ps, x, h => by
    rw [Bd.pll] at h
    rw [Bd.dpl]
    rcases List.mem_append.mp h with h | h
    · obtain ⟨y, hy, rfl⟩ := List.mem_map.mp h
      have := pl_xl p y hy
      rw [List.length_cons]; omega
    · have := pll_xl (k + 1) ps x h; omega
end
theorem places_ok0 : ∀ (d n : Nat) (b : Bd) (S : Sto) (Q : W → Sto → Prop), b.dp ≤ d → d + 1 ≤ n → b.ok → b.sz ≤ 1000 → (∀ S' q, Xt [] S S' → S.length ≤ q → S'[q]? = some (.lst (b.pl.map rowW)) → Q (.loc q) S') → wpR (call n .f_places [b.w] S) Q
  | 0, n, .nd g ps, S, Q, hd, _, _, _, _ => by rw [Bd.dp] at hd; omega
  | d + 1, n, .nd g ps, S, Q, hd, hn, ho, hz, hq => by
    obtain ⟨n, rfl⟩ : ∃ m, n = m + 1 := ⟨n - 1, by omega⟩
    obtain ⟨h1, h2⟩ := Bd.ok_nd.mp ho
    have hl := Sg.ar_le h1
    rw [Bd.sz_nd] at hz
    rw [call_s, body]
    simp (maxSteps := 500000) (implicitDefEqProofs := false) (disch := omega) only [↓pa0, ↓pa1, ↓pa2, ↓pa3, ↓pa4, ↓pa5, ↓pa6, pb0, pb1, pb2, pb3, pb4, pb5, pb6, List.map_cons, List.map_nil, List.length_cons, List.length_nil, List.replicate, List.cons_append, List.nil_append, Nat.reduceAdd, Nat.reduceSub, List.set_cons_zero, List.set_cons_succ, if_true, if_false, true_and, and_true, Bool.false_eq_true, Bool.not_true, Bool.not_false, ↓reduceIte, ifF, Nat.zero_add, startE, wipeE, Option.bind_some, Int.toNat_natCast, Option.some.injEq, List.set_set, Option.map_some, W.int.injEq, W.str.injEq, W.loc.injEq, Nat.reduceLeDiff, and_self, Int.reduceLT, Int.reduceLE, Int.reduceNeg, Int.reduceToNat, Int.reduceAdd, Int.reduceMul, Int.reduceSub, decide_eq_true_eq, m_f_places]
    have e0 : (S ++ [O.lst [W.tup []]])[S.length]? = some (.lst (([] :: Bd.pll 0 []).map rowW)) := at_new'
    have X0 : Xt [] S (S ++ [O.lst [W.tup []]]) := Xt.app
    generalize S ++ [O.lst [W.tup []]] = S0 at *
    refine parts_ok (by omega) h1 fun S1 X1 => ?_
    refine wo_ex getQ_t ?_
    rw [List.length_map]
    have X01 : Xt [] S S1 := X0.trans X1
    have e1 := X1.get0 e0
    refine wp_loopN ps.length (fun j s S2 => ∃ x2 x3 x4, s = [some (Bd.nd g ps).w, some (.loc S.length), x2, x3, x4] ∧ Xt [] S S2 ∧ S2[S.length]? = some (.lst (([] :: Bd.pll 0 (ps.take j)).map rowW))) (by omega) ?_ ?_ ?_
    · exact ⟨_, _, _, rfl, X01, e1⟩
    · rintro j s S2 hj ⟨x2, x3, x4, rfl, X2, e2⟩
      have hm := List.getElem_mem hj
      have esq : enIt (.tup (ps.map Bd.w)) S2 j = some (some (.tup [.int (j : Nat), (ps[j]).w])) := by
        rw [enIt_at (ws := ps.map Bd.w) getQ_t (by rw [List.length_map]; exact hj), List.getElem_map]
      refine ⟨_, _, esq, by simp (maxSteps := 500000) (implicitDefEqProofs := false) (disch := omega) only [↓pa0, ↓pa1, ↓pa2, ↓pa3, ↓pa4, ↓pa5, ↓pa6, pb0, pb1, pb2, pb3, pb4, pb5, pb6, List.map_cons, List.map_nil, List.length_cons, List.length_nil, List.replicate, List.cons_append, List.nil_append, Nat.reduceAdd, Nat.reduceSub, List.set_cons_zero, List.set_cons_succ, if_true, if_false, true_and, and_true, Bool.false_eq_true, Bool.not_true, Bool.not_false, ↓reduceIte, ifF, Nat.zero_add, startE, wipeE, Option.bind_some, Int.toNat_natCast, Option.some.injEq, List.set_set, Option.map_some, W.int.injEq, W.str.injEq, W.loc.injEq, Nat.reduceLeDiff, and_self, Int.reduceLT, Int.reduceLE, Int.reduceNeg, Int.reduceToNat, Int.reduceAdd, Int.reduceMul, Int.reduceSub, decide_eq_true_eq]; rfl, ?_⟩
      simp (maxSteps := 500000) (implicitDefEqProofs := false) (disch := omega) only [↓pa0, ↓pa1, ↓pa2, ↓pa3, ↓pa4, ↓pa5, ↓pa6, pb0, pb1, pb2, pb3, pb4, pb5, pb6, List.map_cons, List.map_nil, List.length_cons, List.length_nil, List.replicate, List.cons_append, List.nil_append, Nat.reduceAdd, Nat.reduceSub, List.set_cons_zero, List.set_cons_succ, if_true, if_false, true_and, and_true, Bool.false_eq_true, Bool.not_true, Bool.not_false, ↓reduceIte, ifF, Nat.zero_add, startE, wipeE, Option.bind_some, Int.toNat_natCast, Option.some.injEq, List.set_set, Option.map_some, W.int.injEq, W.str.injEq, W.loc.injEq, Nat.reduceLeDiff, and_self, Int.reduceLT, Int.reduceLE, Int.reduceNeg, Int.reduceToNat, Int.reduceAdd, Int.reduceMul, Int.reduceSub, decide_eq_true_eq, tyOk_l e2]
      have hz2 := mem_sum (f := Bd.sz) hm
      refine places_ok0 d n ps[j] S2 _ (Bd.dp_nd.mp hd _ hm) (by omega) (h2 _ hm) (by omega) fun S3 q X3 lq e3 => ?_
      refine wo_ex (seqLen_l e3) ?_
      rw [List.length_map]
      have e23 := X3.get0 e2
      refine wp_filt (A := List Int) rowW (fun x => rowW ((j : Int) :: x)) (fun _ => true) (fun i => by rw [seqIt_l e3, List.getElem?_map]) (by rw [pl_len]; omega) ?_ ?_
      · intro x hx
        have hxl := pl_xl _ x hx
        have := Bd.dp_sz _ _ (Nat.le_refl (ps[j]).sz)
        exact ⟨_, rfl, by simp (maxSteps := 500000) (implicitDefEqProofs := false) (disch := omega) only [↓pa0, ↓pa1, ↓pa2, ↓pa3, ↓pa4, ↓pa5, ↓pa6, pb0, pb1, pb2, pb3, pb4, pb5, pb6, List.map_cons, List.map_nil, List.length_cons, List.length_nil, List.replicate, List.cons_append, List.nil_append, Nat.reduceAdd, Nat.reduceSub, List.set_cons_zero, List.set_cons_succ, if_true, if_false, true_and, and_true, Bool.false_eq_true, Bool.not_true, Bool.not_false, ↓reduceIte, ifF, Nat.zero_add, startE, wipeE, Option.bind_some, Int.toNat_natCast, Option.some.injEq, List.set_set, Option.map_some, W.int.injEq, W.str.injEq, W.loc.injEq, Nat.reduceLeDiff, and_self, Int.reduceLT, Int.reduceLE, Int.reduceNeg, Int.reduceToNat, Int.reduceAdd, Int.reduceMul, Int.reduceSub, decide_eq_true_eq], fun _ => by simp (maxSteps := 500000) (implicitDefEqProofs := false) (disch := omega) only [↓pa0, ↓pa1, ↓pa2, ↓pa3, ↓pa4, ↓pa5, ↓pa6, pb0, pb1, pb2, pb3, pb4, pb5, pb6, List.map_cons, List.map_nil, List.length_cons, List.length_nil, List.replicate, List.cons_append, List.nil_append, Nat.reduceAdd, Nat.reduceSub, List.set_cons_zero, List.set_cons_succ, if_true, if_false, true_and, and_true, Bool.false_eq_true, Bool.not_true, Bool.not_false, ↓reduceIte, ifF, Nat.zero_add, startE, wipeE, Option.bind_some, Int.toNat_natCast, Option.some.injEq, List.set_set, Option.map_some, W.int.injEq, W.str.injEq, W.loc.injEq, Nat.reduceLeDiff, and_self, Int.reduceLT, Int.reduceLE, Int.reduceNeg, Int.reduceToNat, Int.reduceAdd, Int.reduceMul, Int.reduceSub, decide_eq_true_eq, rowW, List.length_map]; omega⟩
      · rw [List.filter_eq_self.mpr fun _ _ => rfl]
        have e4 : (S3 ++ [O.lst ((ps[j]).pl.map fun x => rowW ((j : Int) :: x))])[S3.length]? = some (.lst ((ps[j]).pl.map fun x => rowW ((j : Int) :: x))) := at_new'
        have lj : ([] :: Bd.pll 0 (ps.take j)).length ≤ 1000 := by
          rw [List.length_cons, pll_len, szl_sum]
          have : ((ps.take j).map Bd.sz).sum ≤ (ps.map Bd.sz).sum := by
            have := List.take_append_drop j ps
            rw [← this, List.map_append, List.sum_append]; simp
          omega
        simp (maxSteps := 500000) (implicitDefEqProofs := false) (disch := omega) only [↓pa0, ↓pa1, ↓pa2, ↓pa3, ↓pa4, ↓pa5, ↓pa6, pb0, pb1, pb2, pb3, pb4, pb5, pb6, List.map_cons, List.map_nil, List.length_cons, List.length_nil, List.replicate, List.cons_append, List.nil_append, Nat.reduceAdd, Nat.reduceSub, List.set_cons_zero, List.set_cons_succ, if_true, if_false, true_and, and_true, Bool.false_eq_true, Bool.not_true, Bool.not_false, ↓reduceIte, ifF, Nat.zero_add, startE, wipeE, Option.bind_some, Int.toNat_natCast, Option.some.injEq, List.set_set, Option.map_some, W.int.injEq, W.str.injEq, W.loc.injEq, Nat.reduceLeDiff, and_self, Int.reduceLT, Int.reduceLE, Int.reduceNeg, Int.reduceToNat, Int.reduceAdd, Int.reduceMul, Int.reduceSub, decide_eq_true_eq, extendW_l (at_app e23) e4 (by rw [List.length_map, List.length_map, pl_len]; omega)]
        refine ⟨_, _, _, rfl, ((X2.trans X3).appI).setN (Nat.le_refl _), ?_⟩
        rw [at_set' (at_app e23), List.take_succ, List.getElem?_eq_getElem hj]
        show _ = some (O.lst (List.map rowW ([] :: Bd.pll 0 (List.take j ps ++ [ps[j]]))))
        rw [pll_snoc, List.length_take, Nat.min_eq_left (Nat.le_of_lt hj), Nat.zero_add]
        simp [List.map_append, List.map_map, Function.comp_def]
    · rintro s S2 ⟨x2, x3, x4, rfl, X2, e2⟩
      refine ⟨by rw [← show (ps.map Bd.w).length = ps.length from List.length_map _, enIt_end (ws := ps.map Bd.w) getQ_t], ?_⟩
      simp (maxSteps := 500000) (implicitDefEqProofs := false) (disch := omega) only [↓pa0, ↓pa1, ↓pa2, ↓pa3, ↓pa4, ↓pa5, ↓pa6, pb0, pb1, pb2, pb3, pb4, pb5, pb6, List.map_cons, List.map_nil, List.length_cons, List.length_nil, List.replicate, List.cons_append, List.nil_append, Nat.reduceAdd, Nat.reduceSub, List.set_cons_zero, List.set_cons_succ, if_true, if_false, true_and, and_true, Bool.false_eq_true, Bool.not_true, Bool.not_false, ↓reduceIte, ifF, Nat.zero_add, startE, wipeE, Option.bind_some, Int.toNat_natCast, Option.some.injEq, List.set_set, Option.map_some, W.int.injEq, W.str.injEq, W.loc.injEq, Nat.reduceLeDiff, and_self, Int.reduceLT, Int.reduceLE, Int.reduceNeg, Int.reduceToNat, Int.reduceAdd, Int.reduceMul, Int.reduceSub, decide_eq_true_eq]
      rw [List.take_length, ← Bd.pl_nd g ps] at e2
      exact hq S2 _ X2 (Nat.le_refl _) e2
end Lw

set_option linter.all false
set_option maxRecDepth 100000
set_option maxHeartbeats 4000000
namespace Lw
open PySem L2 Ev
variable {EE : Exc}
def Bd.kid (b : Bd) (i : Int) : Option Bd := match b with
  | .nd _ ps => if 0 ≤ i then ps[i.toNat]? else none
def Bd.at : Bd → List Int → Option Bd
  | b, [] => some b
  | b, i :: r => (b.kid i).bind fun c => c.at r
theorem at_append : ∀ (b : Bd) (x y : List Int), b.at (x ++ y) = (b.at x).bind fun c => c.at y
  | b, [], y => rfl
  | b, i :: r, y => by
    show (b.kid i).bind (fun c => c.at (r ++ y)) = ((b.kid i).bind fun c => c.at r).bind fun c => c.at y
    cases b.kid i with
    | none => rfl
    | some c => exact at_append c r y
theorem kid_mem {b c : Bd} {i : Int} {g : Sg} {ps : List Bd} (hb : b = .nd g ps) (h : b.kid i = some c) : c ∈ ps ∧ 0 ≤ i ∧ ps[i.toNat]? = some c := by
  subst hb
  unfold Bd.kid at h
  dsimp only at h
  split at h
  · rename_i h0
    exact ⟨List.mem_of_getElem? h, h0, h⟩
  · cases h
theorem kid_ok {b c : Bd} {i : Int} (hb : b.ok) (h : b.kid i = some c) : c.ok := by
  cases b with
  | nd g ps => exact (Bd.ok_nd.mp hb).2 c (kid_mem rfl h).1
theorem kid_dp {b c : Bd} {i : Int} (h : b.kid i = some c) : c.dp < b.dp := by
  cases b with
  | nd g ps =>
    have hm := (kid_mem rfl h).1
    rw [Bd.dp]
    have := dpl_le.mp (Nat.le_refl (Bd.dpl ps)) c hm
    omega
theorem at_ok : ∀ {b c : Bd} {x : List Int}, b.ok → b.at x = some c → c.ok
  | b, c, [], h, e => by cases e; exact h
  | b, c, i :: r, h, e => by
    cases hk : b.kid i with
    | none => rw [Bd.at, hk] at e; cases e
    | some d => rw [Bd.at, hk] at e; exact at_ok (kid_ok h hk) e
theorem at_dp : ∀ {b c : Bd} {x : List Int}, b.at x = some c → c.dp + x.length ≤ b.dp
  | b, c, [], e => by cases e; simp
  | b, c, i :: r, e => by
    cases hk : b.kid i with
    | none => rw [Bd.at, hk] at e; cases e
    | some d =>
      rw [Bd.at, hk] at e
      have := at_dp (b := d) e
      have := kid_dp hk
      rw [List.length_cons]; omega
theorem part_at_ok {n : Nat} {b c : Bd} {x : List Int} {S : Sto} {Q : W → Sto → Prop} (hn : 2 ≤ n) (hb : b.ok) (h : b.at x = some c) (hq : ∀ S', Xt [] S S' → Q c.w S') : wpR (call n .f_part_at [b.w, rowW x] S) Q := by
  obtain ⟨n, rfl⟩ : ∃ m, n = m + 1 := ⟨n - 1, by omega⟩
  rw [call_s, body]
  simp (maxSteps := 500000) (implicitDefEqProofs := false) (disch := omega) only [↓pa0, ↓pa1, ↓pa2, ↓pa3, ↓pa4, ↓pa5, ↓pa6, pb0, pb1, pb2, pb3, pb4, pb5, pb6, List.map_cons, List.map_nil, List.length_cons, List.length_nil, List.replicate, List.cons_append, List.nil_append, Nat.reduceAdd, Nat.reduceSub, List.set_cons_zero, List.set_cons_succ, if_true, if_false, true_and, and_true, Bool.false_eq_true, Bool.not_true, Bool.not_false, ↓reduceIte, ifF, Nat.zero_add, startE, wipeE, Option.bind_some, Int.toNat_natCast, Option.some.injEq, List.set_set, Option.map_some, W.int.injEq, W.str.injEq, W.loc.injEq, Nat.reduceLeDiff, and_self, Int.reduceLT, Int.reduceLE, Int.reduceNeg, Int.reduceToNat, Int.reduceAdd, Int.reduceMul, Int.reduceSub, decide_eq_true_eq, m_f_part_at, rowW, List.length_map]
  refine wp_loopN x.length (fun j s S2 => ∃ x2 cur, s = [some (Bd.w cur), some (rowW x), x2] ∧ Xt [] S S2 ∧ b.at (x.take j) = some cur) (by omega) ⟨_, b, rfl, .refl, rfl⟩ ?_ ?_
  · rintro j s S2 hj ⟨x2, cur, rfl, X2, e2⟩
    refine ⟨.int x[j], _, by rw [seqIt_t, List.getElem?_map, List.getElem?_eq_getElem hj]; rfl, rfl, ?_⟩
    have hx : x = x.take j ++ x[j] :: x.drop (j + 1) := by
      rw [← List.drop_eq_getElem_cons hj, List.take_append_drop]
    have h' := h
    rw [hx, at_append, e2] at h'
    have h'' : (cur.kid x[j]).bind (fun c => c.at (x.drop (j + 1))) = some c := h'
    have hcur := at_ok hb e2
    cases hk : cur.kid x[j] with
    | none => rw [hk] at h''; cases h''
    | some d =>
      have ed : b.at (x.take (j + 1)) = some d := by
        rw [List.take_succ, List.getElem?_eq_getElem hj, at_append, e2]
        show (cur.kid x[j]).bind _ = _
        rw [hk]; rfl
      cases cur with
      | nd g ps =>
        obtain ⟨h1, h2, h3⟩ := kid_mem rfl hk
        simp (maxSteps := 500000) (implicitDefEqProofs := false) (disch := omega) only [↓pa0, ↓pa1, ↓pa2, ↓pa3, ↓pa4, ↓pa5, ↓pa6, pb0, pb1, pb2, pb3, pb4, pb5, pb6, List.map_cons, List.map_nil, List.length_cons, List.length_nil, List.replicate, List.cons_append, List.nil_append, Nat.reduceAdd, Nat.reduceSub, List.set_cons_zero, List.set_cons_succ, if_true, if_false, true_and, and_true, Bool.false_eq_true, Bool.not_true, Bool.not_false, ↓reduceIte, ifF, Nat.zero_add, startE, wipeE, Option.bind_some, Int.toNat_natCast, Option.some.injEq, List.set_set, Option.map_some, W.int.injEq, W.str.injEq, W.loc.injEq, Nat.reduceLeDiff, and_self, Int.reduceLT, Int.reduceLE, Int.reduceNeg, Int.reduceToNat, Int.reduceAdd, Int.reduceMul, Int.reduceSub, decide_eq_true_eq]
        refine parts_ok (by omega) (Bd.ok_nd.mp hcur).1 fun S3 X3 => ?_
        simp (maxSteps := 500000) (implicitDefEqProofs := false) (disch := omega) only [↓pa0, ↓pa1, ↓pa2, ↓pa3, ↓pa4, ↓pa5, ↓pa6, pb0, pb1, pb2, pb3, pb4, pb5, pb6, List.map_cons, List.map_nil, List.length_cons, List.length_nil, List.replicate, List.cons_append, List.nil_append, Nat.reduceAdd, Nat.reduceSub, List.set_cons_zero, List.set_cons_succ, if_true, if_false, true_and, and_true, Bool.false_eq_true, Bool.not_true, Bool.not_false, ↓reduceIte, ifF, Nat.zero_add, startE, wipeE, Option.bind_some, Int.toNat_natCast, Option.some.injEq, List.set_set, Option.map_some, W.int.injEq, W.str.injEq, W.loc.injEq, Nat.reduceLeDiff, and_self, Int.reduceLT, Int.reduceLE, Int.reduceNeg, Int.reduceToNat, Int.reduceAdd, Int.reduceMul, Int.reduceSub, decide_eq_true_eq, Ev.atI_of (l := ps.map Bd.w) h2 (by rw [List.getElem?_map, h3]; rfl)]
        exact ⟨_, d, rfl, X2.trans X3, ed⟩
  · rintro s S2 ⟨x2, cur, rfl, X2, e2⟩
    refine ⟨by rw [seqIt_t, List.getElem?_eq_none (by rw [List.length_map]; exact Nat.le_refl _)], ?_⟩
    rw [List.take_length, h] at e2
    cases e2
    simp (maxSteps := 500000) (implicitDefEqProofs := false) (disch := omega) only [↓pa0, ↓pa1, ↓pa2, ↓pa3, ↓pa4, ↓pa5, ↓pa6, pb0, pb1, pb2, pb3, pb4, pb5, pb6, List.map_cons, List.map_nil, List.length_cons, List.length_nil, List.replicate, List.cons_append, List.nil_append, Nat.reduceAdd, Nat.reduceSub, List.set_cons_zero, List.set_cons_succ, if_true, if_false, true_and, and_true, Bool.false_eq_true, Bool.not_true, Bool.not_false, ↓reduceIte, ifF, Nat.zero_add, startE, wipeE, Option.bind_some, Int.toNat_natCast, Option.some.injEq, List.set_set, Option.map_some, W.int.injEq, W.str.injEq, W.loc.injEq, Nat.reduceLeDiff, and_self, Int.reduceLT, Int.reduceLE, Int.reduceNeg, Int.reduceToNat, Int.reduceAdd, Int.reduceMul, Int.reduceSub, decide_eq_true_eq]
    exact hq S2 X2
theorem kid_nat {g : Sg} {ps : List Bd} {j : Nat} : (Bd.nd g ps).kid (j : Int) = ps[j]? := by
  unfold Bd.kid
  dsimp only
  rw [if_pos (by omega)]; simp
theorem pll_mem : ∀ (k : Nat) (ps : List Bd) (x : List Int), x ∈ Bd.pll k ps → ∃ (j : Nat) (p : Bd) (y : List Int), ps[j]? = some p ∧ x = ((k + j : Nat) : Int) :: y ∧ y ∈ p.pl
  | _, [], x, h => by rw [Bd.pll] at h; cases h
  | k, p :: ps, x, h => by
    rw [Bd.pll] at h
    rcases List.mem_append.mp h with h | h
    · obtain ⟨y, hy, rfl⟩ := List.mem_map.mp h
      exact ⟨0, p, y, rfl, rfl, hy⟩
    · obtain ⟨j, q, y, h1, rfl, h3⟩ := pll_mem (k + 1) ps x h
      exact ⟨j + 1, q, y, by rw [List.getElem?_cons_succ]; exact h1, by rw [show k + 1 + j = k + (j + 1) by omega], h3⟩
theorem pl_at : ∀ (d : Nat) (b : Bd) (x : List Int), b.dp ≤ d → x ∈ b.pl → ∃ c, b.at x = some c
  | 0, .nd g ps, x, hd, _ => by rw [Bd.dp] at hd; omega
  | d + 1, .nd g ps, x, hd, h => by
    rw [Bd.pl] at h
    rcases List.mem_cons.mp h with rfl | h
    · exact ⟨_, rfl⟩
    · obtain ⟨j, p, y, h1, rfl, h3⟩ := pll_mem 0 ps x h
      obtain ⟨c, hc⟩ := pl_at d p y (Bd.dp_nd.mp hd p (List.mem_of_getElem? h1)) h3
      refine ⟨c, ?_⟩
      rw [Nat.zero_add, Bd.at, kid_nat, h1]
      exact hc
mutual
theorem pl_lt : ∀ b : Bd, b.pl.Pairwise (· < ·)
  | .nd g ps => by
    rw [Bd.pl, List.pairwise_cons]
    refine ⟨fun x hx => ?_, pll_lt 0 ps⟩
    obtain ⟨j, p, y, h1, rfl, h3⟩ := pll_mem 0 ps x hx
    exact List.nil_lt_cons _ _
theorem pll_lt : ∀ (k : Nat) (ps : List Bd), (Bd.pll k ps).Pairwise (· < ·)
  | _, [] => by rw [Bd.pll]; exact List.Pairwise.nil
  | k, p :: ps => by
    rw [Bd.pll, List.pairwise_append]
    refine ⟨?_, pll_lt (k + 1) ps, ?_⟩
    · rw [List.pairwise_map]
      exact (pl_lt p).imp fun h => List.cons_lt_cons_iff.mpr (.inr ⟨rfl, h⟩)
    · intro x hx y hy
      obtain ⟨x', _, rfl⟩ := List.mem_map.mp hx
      obtain ⟨j, q, y', _, rfl, _⟩ := pll_mem (k + 1) ps y hy
      exact List.cons_lt_cons_iff.mpr (.inl (by omega))
end
/-- data of bodies -/
def brPD (ts : List (List Nat)) (ws : List PyData) : List PyData := (ts.zip ws).map fun p => .tuple [.str (SX.S p.1), p.2]
abbrev sD (x : String) : PyData := .str (Str.ofString x)
abbrev txD (x : List Nat) : PyData := .str (SX.S x)
def Sg.md : Sg → List PyData → List PyData
  | .tag t, _ => [sD "tag", txD t]
  | .nam x, _ => [sD "name", txD x]
  | .pair, ws => sD "pair" :: ws
  | .one, ws => sD "one" :: ws
  | .oth, ws => sD "other" :: ws
  | .cho ts, ws => [sD "choose", ws.headD .none, .tuple (brPD ts ws.tail)]
  | .ask f, ws => [sD "ask", txD f, .tuple ws]
  | .lt x k, ws => sD "let" :: txD x :: txD k :: ws
mutual
def Bd.d : Bd → PyData
  | .nd g ps => .tuple (g.md (Bd.dl ps))
def Bd.dl : List Bd → List PyData
  | [] => []
  | p :: ps => p.d :: Bd.dl ps
end
theorem dl_map : ∀ ps : List Bd, Bd.dl ps = ps.map Bd.d
  | [] => rfl
  | p :: ps => by rw [Bd.dl, dl_map ps, List.map_cons]
def DatL (S : Sto) (n : Nat) (ds : List PyData) (ws : List W) : Prop := ws.length = ds.length ∧ ∀ p ∈ ds.zip ws, Dat S n p.1 p.2
theorem DatL.nil {S : Sto} {n : Nat} : DatL S n [] [] := ⟨rfl, fun p hp => by cases hp⟩
theorem DatL.cons {S : Sto} {n : Nat} {d : PyData} {w : W} {ds : List PyData} {ws : List W} (h : Dat S n d w) (r : DatL S n ds ws) : DatL S n (d :: ds) (w :: ws) := ⟨by rw [List.length_cons, List.length_cons, r.1], fun p hp => by
  rcases List.mem_cons.mp (show p ∈ (d, w) :: ds.zip ws from hp) with rfl | hp
  · exact h
  · exact r.2 p hp⟩
theorem DatL.map {A : Type} {S : Sto} {n : Nat} {f : A → PyData} {g : A → W} : ∀ {l : List A}, (∀ a ∈ l, Dat S n (f a) (g a)) → DatL S n (l.map f) (l.map g)
  | [], _ => .nil
  | a :: l, h => .cons (h a (List.mem_cons_self ..)) (DatL.map fun a ha => h a (List.mem_cons_of_mem _ ha))
theorem DatL.tup {S : Sto} {n : Nat} {ds : List PyData} {ws : List W} (h : DatL S n ds ws) (hl : ds.length ≤ 100000) : Dat S (n + 1) (.tuple ds) (.tup ws) := (show ∃ us, _ from ⟨ws, rfl, h.1, hl, h.2⟩)
theorem DatL.up {S : Sto} {n m : Nat} {ds : List PyData} {ws : List W} (h : DatL S n ds ws) (hm : n ≤ m) : DatL S m ds ws := ⟨h.1, fun p hp => (h.2 p hp).up hm⟩
theorem dat_s {S : Sto} {n : Nat} {x : Str} : Dat S (n + 1) (.str x) (.str x) := rfl
theorem Bd.dat {S : Sto} : ∀ (d : Nat) (b : Bd), b.dp ≤ d → b.ok → Dat S (3 * d + 2) b.d b.w
  | 0, .nd g ps, hd, _ => by rw [Bd.dp] at hd; omega
  | d + 1, .nd g ps, hd, ho => by
    obtain ⟨h1, h2⟩ := Bd.ok_nd.mp ho
    have ih : DatL S (3 * d + 2) (ps.map Bd.d) (ps.map Bd.w) := DatL.map fun p hp => Bd.dat d p (Bd.dp_nd.mp hd p hp) (h2 p hp)
    have hl := Sg.ar_le h1
    rw [Bd.d, dl_map, Bd.w_nd]
    have len : (g.md (ps.map Bd.d)).length ≤ 100000 := by
      cases g <;> simp [Sg.md] <;> omega
    refine DatL.tup (n := 3 * d + 4) ?_ len
    have up := ih.up (m := 3 * d + 4) (by omega)
    cases g with
    | tag t => exact .cons dat_s (.cons dat_s .nil)
    | nam t => exact .cons dat_s (.cons dat_s .nil)
    | pair => exact .cons dat_s up
    | one => exact .cons dat_s up
    | oth => exact .cons dat_s up
    | cho ts =>
      cases ps with
      | nil => cases h1.1
      | cons p ps =>
        refine .cons dat_s (.cons (up.2 (p.d, p.w) (List.mem_cons_self ..)) (.cons ?_ .nil))
        have hts : ps.length = ts.length := by have := h1.1; simpa using this
        rw [List.length_cons] at hl
        show Dat S (3 * d + 4) (.tuple (brPD ts (ps.map Bd.d))) (.tup (brW ts (ps.map Bd.w)))
        have e1 : brPD ts (ps.map Bd.d) = (ts.zip ps).map fun p => .tuple [.str (SX.S p.1), p.2.d] := by
          unfold brPD; rw [List.zip_map_right, List.map_map]; rfl
        have e2 : brW ts (ps.map Bd.w) = (ts.zip ps).map fun p => .tup [tx p.1, p.2.w] := by
          unfold brW; rw [List.zip_map_right, List.map_map]; rfl
        rw [e1, e2]
        refine DatL.tup (n := 3 * d + 3) (DatL.map fun q hq => ?_) (by rw [List.length_map, List.length_zip]; omega)
        have hq2 := (List.of_mem_zip hq).2
        exact DatL.tup (n := 3 * d + 2) (.cons dat_s (.cons (Bd.dat d q.2 (Bd.dp_nd.mp hd _ (List.mem_cons_of_mem _ hq2)) (h2 _ (List.mem_cons_of_mem _ hq2))) .nil)) (by simp)
    | ask f => exact .cons dat_s (.cons dat_s (.cons ((ih.up (m := 3 * d + 3) (by omega)).tup (by rw [List.length_map]; omega)) .nil))
    | lt x k => exact .cons dat_s (.cons dat_s (.cons dat_s up))
end Lw

set_option linter.all false
set_option maxRecDepth 100000
set_option maxHeartbeats 4000000
namespace Lw
open PySem L2 Ev
variable {EE : Exc}
theorem law_places_ok : ∀ (d n : Nat) (b : Bd) (S : Sto) (Q : W → Sto → Prop), b.dp ≤ d → d + 1 ≤ n → b.ok → b.sz ≤ 1000 → (∀ S' q, Xt [] S S' → S.length ≤ q → S'[q]? = some (.lst (b.pl.map rowW)) → Q (.loc q) S') → wpR (call n .f_law_places [b.w] S) Q
  | 0, n, .nd g ps, S, Q, hd, _, _, _, _ => by rw [Bd.dp] at hd; omega
  | d + 1, n, .nd g ps, S, Q, hd, hn, ho, hz, hq => by
    obtain ⟨n, rfl⟩ : ∃ m, n = m + 1 := ⟨n - 1, by omega⟩
    obtain ⟨h1, h2⟩ := Bd.ok_nd.mp ho
    have hl := Sg.ar_le h1
    rw [Bd.sz_nd] at hz
    rw [call_s, body]
    simp (maxSteps := 500000) (implicitDefEqProofs := false) (disch := omega) only [↓pa0, ↓pa1, ↓pa2, ↓pa3, ↓pa4, ↓pa5, ↓pa6, pb0, pb1, pb2, pb3, pb4, pb5, pb6, List.map_cons, List.map_nil, List.length_cons, List.length_nil, List.replicate, List.cons_append, List.nil_append, Nat.reduceAdd, Nat.reduceSub, List.set_cons_zero, List.set_cons_succ, if_true, if_false, true_and, and_true, Bool.false_eq_true, Bool.not_true, Bool.not_false, ↓reduceIte, ifF, Nat.zero_add, startE, wipeE, Option.bind_some, Int.toNat_natCast, Option.some.injEq, List.set_set, Option.map_some, W.int.injEq, W.str.injEq, W.loc.injEq, Nat.reduceLeDiff, and_self, Int.reduceLT, Int.reduceLE, Int.reduceNeg, Int.reduceToNat, Int.reduceAdd, Int.reduceMul, Int.reduceSub, decide_eq_true_eq, m_f_law_places]
    have e0 : (S ++ [O.lst [W.tup []]])[S.length]? = some (.lst (([] :: Bd.pll 0 []).map rowW)) := at_new'
    have X0 : Xt [] S (S ++ [O.lst [W.tup []]]) := Xt.app
    generalize S ++ [O.lst [W.tup []]] = S0 at *
    refine law_parts_ok (by omega) h1 fun S1 q1 X1 lq1 eq1 => ?_
    refine wo_ex (getQ_l eq1) ?_
    rw [List.length_map]
    have X01 : Xt [] S S1 := X0.trans X1
    have e1 := X1.get0 e0
    refine wp_loopN ps.length (fun j s S2 => ∃ x2 x3 x4 q, s = [some (Bd.nd g ps).w, some (.loc q), x2, x3, x4] ∧ Xt [] S1 S2 ∧ S.length ≤ q ∧ S2[q]? = some (.lst (([] :: Bd.pll 0 (ps.take j)).map rowW))) (by omega) ?_ ?_ ?_
    · exact ⟨_, _, _, _, rfl, .refl, Nat.le_refl _, e1⟩
    · rintro j s S2 hj ⟨x2, x3, x4, q, rfl, X2, lq, e2⟩
      have hm := List.getElem_mem hj
      have esq : enIt (.loc q1) S2 j = some (some (.tup [.int (j : Nat), (ps[j]).w])) := by
        rw [enIt_at (ws := ps.map Bd.w) (getQ_l (X2.get0 eq1)) (by rw [List.length_map]; exact hj), List.getElem_map]
      refine ⟨_, _, esq, by simp (maxSteps := 500000) (implicitDefEqProofs := false) (disch := omega) only [↓pa0, ↓pa1, ↓pa2, ↓pa3, ↓pa4, ↓pa5, ↓pa6, pb0, pb1, pb2, pb3, pb4, pb5, pb6, List.map_cons, List.map_nil, List.length_cons, List.length_nil, List.replicate, List.cons_append, List.nil_append, Nat.reduceAdd, Nat.reduceSub, List.set_cons_zero, List.set_cons_succ, if_true, if_false, true_and, and_true, Bool.false_eq_true, Bool.not_true, Bool.not_false, ↓reduceIte, ifF, Nat.zero_add, startE, wipeE, Option.bind_some, Int.toNat_natCast, Option.some.injEq, List.set_set, Option.map_some, W.int.injEq, W.str.injEq, W.loc.injEq, Nat.reduceLeDiff, and_self, Int.reduceLT, Int.reduceLE, Int.reduceNeg, Int.reduceToNat, Int.reduceAdd, Int.reduceMul, Int.reduceSub, decide_eq_true_eq]; rfl, ?_⟩
      simp (maxSteps := 500000) (implicitDefEqProofs := false) (disch := omega) only [↓pa0, ↓pa1, ↓pa2, ↓pa3, ↓pa4, ↓pa5, ↓pa6, pb0, pb1, pb2, pb3, pb4, pb5, pb6, List.map_cons, List.map_nil, List.length_cons, List.length_nil, List.replicate, List.cons_append, List.nil_append, Nat.reduceAdd, Nat.reduceSub, List.set_cons_zero, List.set_cons_succ, if_true, if_false, true_and, and_true, Bool.false_eq_true, Bool.not_true, Bool.not_false, ↓reduceIte, ifF, Nat.zero_add, startE, wipeE, Option.bind_some, Int.toNat_natCast, Option.some.injEq, List.set_set, Option.map_some, W.int.injEq, W.str.injEq, W.loc.injEq, Nat.reduceLeDiff, and_self, Int.reduceLT, Int.reduceLE, Int.reduceNeg, Int.reduceToNat, Int.reduceAdd, Int.reduceMul, Int.reduceSub, decide_eq_true_eq]
      have hz2 := mem_sum (f := Bd.sz) hm
      refine law_places_ok d n ps[j] S2 _ (Bd.dp_nd.mp hd _ hm) (by omega) (h2 _ hm) (by omega) fun S3 q3 X3 lq3 e3 => ?_
      refine wo_ex (seqLen_l e3) ?_
      rw [List.length_map]
      have e23 := X3.get0 e2
      refine wp_mapB (A := List Int) rowW (fun x => rowW ((j : Int) :: x)) (fun i _ => by rw [seqIt_l e3, List.getElem?_map]) (by rw [pl_len]; omega) ?_ ?_
      · intro x hx
        have hxl := pl_xl _ x hx
        have := Bd.dp_sz _ _ (Nat.le_refl (ps[j]).sz)
        exact ⟨_, rfl, by simp (maxSteps := 500000) (implicitDefEqProofs := false) (disch := omega) only [↓pa0, ↓pa1, ↓pa2, ↓pa3, ↓pa4, ↓pa5, ↓pa6, pb0, pb1, pb2, pb3, pb4, pb5, pb6, List.map_cons, List.map_nil, List.length_cons, List.length_nil, List.replicate, List.cons_append, List.nil_append, Nat.reduceAdd, Nat.reduceSub, List.set_cons_zero, List.set_cons_succ, if_true, if_false, true_and, and_true, Bool.false_eq_true, Bool.not_true, Bool.not_false, ↓reduceIte, ifF, Nat.zero_add, startE, wipeE, Option.bind_some, Int.toNat_natCast, Option.some.injEq, List.set_set, Option.map_some, W.int.injEq, W.str.injEq, W.loc.injEq, Nat.reduceLeDiff, and_self, Int.reduceLT, Int.reduceLE, Int.reduceNeg, Int.reduceToNat, Int.reduceAdd, Int.reduceMul, Int.reduceSub, decide_eq_true_eq], by simp (maxSteps := 500000) (implicitDefEqProofs := false) (disch := omega) only [↓pa0, ↓pa1, ↓pa2, ↓pa3, ↓pa4, ↓pa5, ↓pa6, pb0, pb1, pb2, pb3, pb4, pb5, pb6, List.map_cons, List.map_nil, List.length_cons, List.length_nil, List.replicate, List.cons_append, List.nil_append, Nat.reduceAdd, Nat.reduceSub, List.set_cons_zero, List.set_cons_succ, if_true, if_false, true_and, and_true, Bool.false_eq_true, Bool.not_true, Bool.not_false, ↓reduceIte, ifF, Nat.zero_add, startE, wipeE, Option.bind_some, Int.toNat_natCast, Option.some.injEq, List.set_set, Option.map_some, W.int.injEq, W.str.injEq, W.loc.injEq, Nat.reduceLeDiff, and_self, Int.reduceLT, Int.reduceLE, Int.reduceNeg, Int.reduceToNat, Int.reduceAdd, Int.reduceMul, Int.reduceSub, decide_eq_true_eq, rowW, List.length_map]; omega⟩
      · have e4 : (S3 ++ [O.lst ((ps[j]).pl.map fun x => rowW ((j : Int) :: x))])[S3.length]? = some (.lst ((ps[j]).pl.map fun x => rowW ((j : Int) :: x))) := at_new'
        have lj : ([] :: Bd.pll 0 (ps.take j)).length ≤ 1000 := by
          rw [List.length_cons, pll_len, szl_sum]
          have : ((ps.take j).map Bd.sz).sum ≤ (ps.map Bd.sz).sum := by
            have := List.take_append_drop j ps
            rw [← this, List.map_append, List.sum_append]; simp
          omega
        simp (maxSteps := 500000) (implicitDefEqProofs := false) (disch := omega) only [↓pa0, ↓pa1, ↓pa2, ↓pa3, ↓pa4, ↓pa5, ↓pa6, pb0, pb1, pb2, pb3, pb4, pb5, pb6, List.map_cons, List.map_nil, List.length_cons, List.length_nil, List.replicate, List.cons_append, List.nil_append, Nat.reduceAdd, Nat.reduceSub, List.set_cons_zero, List.set_cons_succ, if_true, if_false, true_and, and_true, Bool.false_eq_true, Bool.not_true, Bool.not_false, ↓reduceIte, ifF, Nat.zero_add, startE, wipeE, Option.bind_some, Int.toNat_natCast, Option.some.injEq, List.set_set, Option.map_some, W.int.injEq, W.str.injEq, W.loc.injEq, Nat.reduceLeDiff, and_self, Int.reduceLT, Int.reduceLE, Int.reduceNeg, Int.reduceToNat, Int.reduceAdd, Int.reduceMul, Int.reduceSub, decide_eq_true_eq, addW_l (at_app e23) e4 (by rw [List.length_map, List.length_map, pl_len]; omega)]
        refine ⟨_, _, _, _, rfl, (X2.trans X3).appI.appI, ?_, ?_⟩
        · have := X3.len; have := X2.len; have := X01.len; simp; omega
        · rw [at_new', List.take_succ, List.getElem?_eq_getElem hj]
          show _ = some (O.lst (List.map rowW ([] :: Bd.pll 0 (List.take j ps ++ [ps[j]]))))
          rw [pll_snoc, List.length_take, Nat.min_eq_left (Nat.le_of_lt hj), Nat.zero_add]
          simp [List.map_append, List.map_map, Function.comp_def]
    · rintro s S2 ⟨x2, x3, x4, q, rfl, X2, lq, e2⟩
      refine ⟨by rw [← show (ps.map Bd.w).length = ps.length from List.length_map _, enIt_end (ws := ps.map Bd.w) (getQ_l (X2.get0 eq1))], ?_⟩
      simp (maxSteps := 500000) (implicitDefEqProofs := false) (disch := omega) only [↓pa0, ↓pa1, ↓pa2, ↓pa3, ↓pa4, ↓pa5, ↓pa6, pb0, pb1, pb2, pb3, pb4, pb5, pb6, List.map_cons, List.map_nil, List.length_cons, List.length_nil, List.replicate, List.cons_append, List.nil_append, Nat.reduceAdd, Nat.reduceSub, List.set_cons_zero, List.set_cons_succ, if_true, if_false, true_and, and_true, Bool.false_eq_true, Bool.not_true, Bool.not_false, ↓reduceIte, ifF, Nat.zero_add, startE, wipeE, Option.bind_some, Int.toNat_natCast, Option.some.injEq, List.set_set, Option.map_some, W.int.injEq, W.str.injEq, W.loc.injEq, Nat.reduceLeDiff, and_self, Int.reduceLT, Int.reduceLE, Int.reduceNeg, Int.reduceToNat, Int.reduceAdd, Int.reduceMul, Int.reduceSub, decide_eq_true_eq]
      rw [List.take_length, ← Bd.pl_nd g ps] at e2
      exact hq S2 _ (X01.trans X2) lq e2
/-- another body at a place -/
def Bd.ex : Bd → List Int → Bd → Bd
  | _, [], o => o
  | .nd g ps, i :: r, o => .nd g (ps.modify i.toNat fun p => p.ex r o)
theorem eqW_row {S : Sto} (x : List Int) : eqW (rowW x) (.tup []) S = .ok (.bl x.isEmpty) S := by
  rw [eqW_d (d := rowD x) (e := .tuple []) (pd_row (n := 62) x) rfl]
  cases x <;> simp [rowD, PyData.eqv, PyData.eqvAll]
theorem exchanged_ok : ∀ (x : List Int) (n : Nat) (b c o : Bd) (S : Sto) (Q : W → Sto → Prop), x.length + 2 ≤ n → b.ok → b.at x = some c → (∀ S', Xt [] S S' → Q (b.ex x o).w S') → wpR (call n .f_law_exchanged [b.w, rowW x, o.w] S) Q
  | [], n, b, c, o, S, Q, hn, hb, he, hq => by
    obtain ⟨n, rfl⟩ : ∃ m, n = m + 1 := ⟨n - 1, by omega⟩
    rw [call_s, body]
    simp (maxSteps := 500000) (implicitDefEqProofs := false) (disch := omega) only [↓pa0, ↓pa1, ↓pa2, ↓pa3, ↓pa4, ↓pa5, ↓pa6, pb0, pb1, pb2, pb3, pb4, pb5, pb6, List.map_cons, List.map_nil, List.length_cons, List.length_nil, List.replicate, List.cons_append, List.nil_append, Nat.reduceAdd, Nat.reduceSub, List.set_cons_zero, List.set_cons_succ, if_true, if_false, true_and, and_true, Bool.false_eq_true, Bool.not_true, Bool.not_false, ↓reduceIte, ifF, Nat.zero_add, startE, wipeE, Option.bind_some, Int.toNat_natCast, Option.some.injEq, List.set_set, Option.map_some, W.int.injEq, W.str.injEq, W.loc.injEq, Nat.reduceLeDiff, and_self, Int.reduceLT, Int.reduceLE, Int.reduceNeg, Int.reduceToNat, Int.reduceAdd, Int.reduceMul, Int.reduceSub, decide_eq_true_eq, m_f_law_exchanged, eqW_row, List.isEmpty_nil]
    have := hq S .refl
    rw [Bd.ex] at this
    exact this
  | i :: r, n, .nd g ps, c, o, S, Q, hn, hb, he, hq => by
    obtain ⟨n, rfl⟩ : ∃ m, n = m + 1 := ⟨n - 1, by omega⟩
    rw [List.length_cons] at hn
    cases hk : (Bd.nd g ps).kid i with
    | none => rw [Bd.at, hk] at he; cases he
    | some d =>
      rw [Bd.at, hk] at he
      obtain ⟨k1, k2, k3⟩ := kid_mem rfl hk
      obtain ⟨h1, h2⟩ := Bd.ok_nd.mp hb
      obtain ⟨j, rfl⟩ : ∃ j : Nat, i = j := ⟨i.toNat, by omega⟩
      have k3 : ps[j]? = some d := by simpa using k3
      have hj := (List.getElem?_eq_some_iff.mp k3).1
      have hl := Sg.ar_le h1
      rw [call_s, body]
      simp (maxSteps := 500000) (implicitDefEqProofs := false) (disch := omega) only [↓pa0, ↓pa1, ↓pa2, ↓pa3, ↓pa4, ↓pa5, ↓pa6, pb0, pb1, pb2, pb3, pb4, pb5, pb6, List.map_cons, List.map_nil, List.length_cons, List.length_nil, List.replicate, List.cons_append, List.nil_append, Nat.reduceAdd, Nat.reduceSub, List.set_cons_zero, List.set_cons_succ, if_true, if_false, true_and, and_true, Bool.false_eq_true, Bool.not_true, Bool.not_false, ↓reduceIte, ifF, Nat.zero_add, startE, wipeE, Option.bind_some, Int.toNat_natCast, Option.some.injEq, List.set_set, Option.map_some, W.int.injEq, W.str.injEq, W.loc.injEq, Nat.reduceLeDiff, and_self, Int.reduceLT, Int.reduceLE, Int.reduceNeg, Int.reduceToNat, Int.reduceAdd, Int.reduceMul, Int.reduceSub, decide_eq_true_eq, m_f_law_exchanged, eqW_row, List.isEmpty_cons]
      refine law_parts_ok (by omega) h1 fun S1 q1 X1 lq1 e1 => ?_
      have er : rowW ((j : Int) :: r) = .tup (.int j :: r.map W.int) := rfl
      have e0 : atI (W.int (j : Int) :: r.map W.int) 0 = some (.int j) := atI_0
      have ej : atI (ps.map Bd.w) (j : Int) = some d.w := Ev.atI_nat (by rw [List.getElem?_map, k3]; rfl)
      have ec : cutW (W.int (j : Int) :: r.map W.int) (some 1) none = r.map W.int := cut1
      simp (maxSteps := 500000) (implicitDefEqProofs := false) (disch := omega) only [↓pa0, ↓pa1, ↓pa2, ↓pa3, ↓pa4, ↓pa5, ↓pa6, pb0, pb1, pb2, pb3, pb4, pb5, pb6, List.map_cons, List.map_nil, List.length_cons, List.length_nil, List.replicate, List.cons_append, List.nil_append, Nat.reduceAdd, Nat.reduceSub, List.set_cons_zero, List.set_cons_succ, if_true, if_false, true_and, and_true, Bool.false_eq_true, Bool.not_true, Bool.not_false, ↓reduceIte, ifF, Nat.zero_add, startE, wipeE, Option.bind_some, Int.toNat_natCast, Option.some.injEq, List.set_set, Option.map_some, W.int.injEq, W.str.injEq, W.loc.injEq, Nat.reduceLeDiff, and_self, Int.reduceLT, Int.reduceLE, Int.reduceNeg, Int.reduceToNat, Int.reduceAdd, Int.reduceMul, Int.reduceSub, decide_eq_true_eq, er, e0, wq_ixL e1, ej, slW_t, ec]
      refine exchanged_ok r n d c o S1 _ (by omega) (h2 _ k1) he fun S2 X2 => ?_
      have e2 := X2.get0 e1
      simp (maxSteps := 500000) (implicitDefEqProofs := false) (disch := omega) only [↓pa0, ↓pa1, ↓pa2, ↓pa3, ↓pa4, ↓pa5, ↓pa6, pb0, pb1, pb2, pb3, pb4, pb5, pb6, List.map_cons, List.map_nil, List.length_cons, List.length_nil, List.replicate, List.cons_append, List.nil_append, Nat.reduceAdd, Nat.reduceSub, List.set_cons_zero, List.set_cons_succ, if_true, if_false, true_and, and_true, Bool.false_eq_true, Bool.not_true, Bool.not_false, ↓reduceIte, ifF, Nat.zero_add, startE, wipeE, Option.bind_some, Int.toNat_natCast, Option.some.injEq, List.set_set, Option.map_some, W.int.injEq, W.str.injEq, W.loc.injEq, Nat.reduceLeDiff, and_self, Int.reduceLT, Int.reduceLE, Int.reduceNeg, Int.reduceToNat, Int.reduceAdd, Int.reduceMul, Int.reduceSub, decide_eq_true_eq, er, e0, setO_L e2, List.length_map, ixN_nat hj, Option.map_some]
      have em : (ps.map Bd.w).set j (d.ex r o).w = (ps.modify j fun p => p.ex r o).map Bd.w := by
        rw [List.modify_eq_set, k3]
        show _ = (ps.set j (d.ex r o)).map Bd.w
        rw [List.map_set]
      rw [em]
      have lm : (ps.modify j fun p => p.ex r o).length = ps.length := List.length_modify ..
      have hq' := hq
      rw [Bd.ex, show ((j : Int)).toNat = j by simp] at hq'
      generalize (ps.modify j fun p => p.ex r o) = qs at *
      have e3 : (S2.set q1 (.lst (qs.map Bd.w)))[q1]? = some (.lst (qs.map Bd.w)) := at_set' e2
      have X3 : Xt [] S (S2.set q1 (.lst (qs.map Bd.w))) := (X1.trans X2).setN lq1
      generalize S2.set q1 (.lst (qs.map Bd.w)) = S3 at *
      have q3 := hq' S3 X3
      rw [Bd.w_nd] at q3
      have ww : (Bd.nd g ps).w = .tup (g.mk (ps.map Bd.w)) := Bd.w_nd g ps
      rw [ww]
      cases g with
      | tag t => have := List.length_eq_zero_iff.mp h1; subst this; simp at hj
      | nam t => have := List.length_eq_zero_iff.mp h1; subst this; simp at hj
      | pair =>
        simp (maxSteps := 500000) (implicitDefEqProofs := false) (disch := omega) only [↓pa0, ↓pa1, ↓pa2, ↓pa3, ↓pa4, ↓pa5, ↓pa6, pb0, pb1, pb2, pb3, pb4, pb5, pb6, List.map_cons, List.map_nil, List.length_cons, List.length_nil, List.replicate, List.cons_append, List.nil_append, Nat.reduceAdd, Nat.reduceSub, List.set_cons_zero, List.set_cons_succ, if_true, if_false, true_and, and_true, Bool.false_eq_true, Bool.not_true, Bool.not_false, ↓reduceIte, ifF, Nat.zero_add, startE, wipeE, Option.bind_some, Int.toNat_natCast, Option.some.injEq, List.set_set, Option.map_some, W.int.injEq, W.str.injEq, W.loc.injEq, Nat.reduceLeDiff, and_self, Int.reduceLT, Int.reduceLE, Int.reduceNeg, Int.reduceToNat, Int.reduceAdd, Int.reduceMul, Int.reduceSub, decide_eq_true_eq, Sg.mk, show ((Str.ofString "pair" == Str.ofString "choose") = false) from by decide, show ((Str.ofString "pair" == Str.ofString "ask") = false) from by decide, show ((Str.ofString "pair" == Str.ofString "let") = false) from by decide, tupleW_l e3, List.length_map]
        exact ⟨by omega, q3⟩
      | one =>
        simp (maxSteps := 500000) (implicitDefEqProofs := false) (disch := omega) only [↓pa0, ↓pa1, ↓pa2, ↓pa3, ↓pa4, ↓pa5, ↓pa6, pb0, pb1, pb2, pb3, pb4, pb5, pb6, List.map_cons, List.map_nil, List.length_cons, List.length_nil, List.replicate, List.cons_append, List.nil_append, Nat.reduceAdd, Nat.reduceSub, List.set_cons_zero, List.set_cons_succ, if_true, if_false, true_and, and_true, Bool.false_eq_true, Bool.not_true, Bool.not_false, ↓reduceIte, ifF, Nat.zero_add, startE, wipeE, Option.bind_some, Int.toNat_natCast, Option.some.injEq, List.set_set, Option.map_some, W.int.injEq, W.str.injEq, W.loc.injEq, Nat.reduceLeDiff, and_self, Int.reduceLT, Int.reduceLE, Int.reduceNeg, Int.reduceToNat, Int.reduceAdd, Int.reduceMul, Int.reduceSub, decide_eq_true_eq, Sg.mk, show ((Str.ofString "one" == Str.ofString "choose") = false) from by decide, show ((Str.ofString "one" == Str.ofString "ask") = false) from by decide, show ((Str.ofString "one" == Str.ofString "let") = false) from by decide, tupleW_l e3, List.length_map]
        exact ⟨by omega, q3⟩
      | oth =>
        simp (maxSteps := 500000) (implicitDefEqProofs := false) (disch := omega) only [↓pa0, ↓pa1, ↓pa2, ↓pa3, ↓pa4, ↓pa5, ↓pa6, pb0, pb1, pb2, pb3, pb4, pb5, pb6, List.map_cons, List.map_nil, List.length_cons, List.length_nil, List.replicate, List.cons_append, List.nil_append, Nat.reduceAdd, Nat.reduceSub, List.set_cons_zero, List.set_cons_succ, if_true, if_false, true_and, and_true, Bool.false_eq_true, Bool.not_true, Bool.not_false, ↓reduceIte, ifF, Nat.zero_add, startE, wipeE, Option.bind_some, Int.toNat_natCast, Option.some.injEq, List.set_set, Option.map_some, W.int.injEq, W.str.injEq, W.loc.injEq, Nat.reduceLeDiff, and_self, Int.reduceLT, Int.reduceLE, Int.reduceNeg, Int.reduceToNat, Int.reduceAdd, Int.reduceMul, Int.reduceSub, decide_eq_true_eq, Sg.mk, show ((Str.ofString "other" == Str.ofString "choose") = false) from by decide, show ((Str.ofString "other" == Str.ofString "ask") = false) from by decide, show ((Str.ofString "other" == Str.ofString "let") = false) from by decide, tupleW_l e3, List.length_map]
        exact ⟨by omega, q3⟩
      | cho ts =>
        cases ps with
        | nil => simp at hj
        | cons p ps =>
          cases qs with
          | nil => cases lm
          | cons q qs =>
            have hts : ps.length = ts.length := by have := h1.1; simpa using this
            have hqs : qs.length = ps.length := by simpa using lm
            rw [List.length_cons] at hl
            rw [List.map_cons] at e3
            have eq0 : atI (q.w :: qs.map Bd.w) 0 = some q.w := atI_0
            simp (maxSteps := 500000) (implicitDefEqProofs := false) (disch := omega) only [↓pa0, ↓pa1, ↓pa2, ↓pa3, ↓pa4, ↓pa5, ↓pa6, pb0, pb1, pb2, pb3, pb4, pb5, pb6, List.map_cons, List.map_nil, List.length_cons, List.length_nil, List.replicate, List.cons_append, List.nil_append, Nat.reduceAdd, Nat.reduceSub, List.set_cons_zero, List.set_cons_succ, if_true, if_false, true_and, and_true, Bool.false_eq_true, Bool.not_true, Bool.not_false, ↓reduceIte, ifF, Nat.zero_add, startE, wipeE, Option.bind_some, Int.toNat_natCast, Option.some.injEq, List.set_set, Option.map_some, W.int.injEq, W.str.injEq, W.loc.injEq, Nat.reduceLeDiff, and_self, Int.reduceLT, Int.reduceLE, Int.reduceNeg, Int.reduceToNat, Int.reduceAdd, Int.reduceMul, Int.reduceSub, decide_eq_true_eq, Sg.mk, show ((Str.ofString "choose" == Str.ofString "choose") = true) from by decide, List.headD_cons, List.tail_cons, wq_ixL e3, eq0, slW_l e3, cut1']
            have e4 : (S3 ++ [O.lst (qs.map Bd.w)])[S3.length]? = some (.lst (qs.map Bd.w)) := at_new'
            have X4 : Xt [] S (S3 ++ [O.lst (qs.map Bd.w)]) := X3.appI
            generalize S3 ++ [O.lst (qs.map Bd.w)] = S4 at *
            refine wo_ex (getQ_l e4) ?_
            have lb : (brW ts (ps.map Bd.w)).length = ts.length := by rw [brW_snd _ _ (by rw [List.length_map]; omega), List.length_map, hts]
            have lz : (ts.zip ((ps.map Bd.w).zip (qs.map Bd.w))).length = ts.length := by rw [List.length_zip, List.length_zip, List.length_map, List.length_map]; omega
            rw [lb, ← lz]
            refine wp_mapB (A := List Nat × W × W) (ws := ts.zip ((ps.map Bd.w).zip (qs.map Bd.w))) (fun p => .tup [.tup [tx p.1, p.2.1], p.2.2]) (fun p => .tup [tx p.1, p.2.2]) (fun j hj => ?_) (by omega) ?_ ?_
            · rw [zip2_any (ws := brW ts (ps.map Bd.w)) (us := qs.map Bd.w) getQ_t (getQ_l e4) (by rw [List.length_map]; omega) (by omega)]
              rw [brW_zip ts (ps.map Bd.w) (qs.map Bd.w) (by rw [List.length_map]; omega) (by rw [List.length_map, List.length_map]; omega), List.getElem?_map, Option.map_map]; rfl
            · intro w hw
              exact ⟨_, by simp (maxSteps := 500000) (implicitDefEqProofs := false) (disch := omega) only [↓pa0, ↓pa1, ↓pa2, ↓pa3, ↓pa4, ↓pa5, ↓pa6, pb0, pb1, pb2, pb3, pb4, pb5, pb6, List.map_cons, List.map_nil, List.length_cons, List.length_nil, List.replicate, List.cons_append, List.nil_append, Nat.reduceAdd, Nat.reduceSub, List.set_cons_zero, List.set_cons_succ, if_true, if_false, true_and, and_true, Bool.false_eq_true, Bool.not_true, Bool.not_false, ↓reduceIte, ifF, Nat.zero_add, startE, wipeE, Option.bind_some, Int.toNat_natCast, Option.some.injEq, List.set_set, Option.map_some, W.int.injEq, W.str.injEq, W.loc.injEq, Nat.reduceLeDiff, and_self, Int.reduceLT, Int.reduceLE, Int.reduceNeg, Int.reduceToNat, Int.reduceAdd, Int.reduceMul, Int.reduceSub, decide_eq_true_eq]; rfl, by simp (maxSteps := 500000) (implicitDefEqProofs := false) (disch := omega) only [↓pa0, ↓pa1, ↓pa2, ↓pa3, ↓pa4, ↓pa5, ↓pa6, pb0, pb1, pb2, pb3, pb4, pb5, pb6, List.map_cons, List.map_nil, List.length_cons, List.length_nil, List.replicate, List.cons_append, List.nil_append, Nat.reduceAdd, Nat.reduceSub, List.set_cons_zero, List.set_cons_succ, if_true, if_false, true_and, and_true, Bool.false_eq_true, Bool.not_true, Bool.not_false, ↓reduceIte, ifF, Nat.zero_add, startE, wipeE, Option.bind_some, Int.toNat_natCast, Option.some.injEq, List.set_set, Option.map_some, W.int.injEq, W.str.injEq, W.loc.injEq, Nat.reduceLeDiff, and_self, Int.reduceLT, Int.reduceLE, Int.reduceNeg, Int.reduceToNat, Int.reduceAdd, Int.reduceMul, Int.reduceSub, decide_eq_true_eq], by simp (maxSteps := 500000) (implicitDefEqProofs := false) (disch := omega) only [↓pa0, ↓pa1, ↓pa2, ↓pa3, ↓pa4, ↓pa5, ↓pa6, pb0, pb1, pb2, pb3, pb4, pb5, pb6, List.map_cons, List.map_nil, List.length_cons, List.length_nil, List.replicate, List.cons_append, List.nil_append, Nat.reduceAdd, Nat.reduceSub, List.set_cons_zero, List.set_cons_succ, if_true, if_false, true_and, and_true, Bool.false_eq_true, Bool.not_true, Bool.not_false, ↓reduceIte, ifF, Nat.zero_add, startE, wipeE, Option.bind_some, Int.toNat_natCast, Option.some.injEq, List.set_set, Option.map_some, W.int.injEq, W.str.injEq, W.loc.injEq, Nat.reduceLeDiff, and_self, Int.reduceLT, Int.reduceLE, Int.reduceNeg, Int.reduceToNat, Int.reduceAdd, Int.reduceMul, Int.reduceSub, decide_eq_true_eq]⟩
            · rw [brW_zip2 ts (ps.map Bd.w) (qs.map Bd.w) (by rw [List.length_map]; omega) (by rw [List.length_map, List.length_map]; omega)]
              have e5 : (S4 ++ [O.lst (brW ts (qs.map Bd.w))])[S4.length]? = some (.lst (brW ts (qs.map Bd.w))) := at_new'
              simp (maxSteps := 500000) (implicitDefEqProofs := false) (disch := omega) only [↓pa0, ↓pa1, ↓pa2, ↓pa3, ↓pa4, ↓pa5, ↓pa6, pb0, pb1, pb2, pb3, pb4, pb5, pb6, List.map_cons, List.map_nil, List.length_cons, List.length_nil, List.replicate, List.cons_append, List.nil_append, Nat.reduceAdd, Nat.reduceSub, List.set_cons_zero, List.set_cons_succ, if_true, if_false, true_and, and_true, Bool.false_eq_true, Bool.not_true, Bool.not_false, ↓reduceIte, ifF, Nat.zero_add, startE, wipeE, Option.bind_some, Int.toNat_natCast, Option.some.injEq, List.set_set, Option.map_some, W.int.injEq, W.str.injEq, W.loc.injEq, Nat.reduceLeDiff, and_self, Int.reduceLT, Int.reduceLE, Int.reduceNeg, Int.reduceToNat, Int.reduceAdd, Int.reduceMul, Int.reduceSub, decide_eq_true_eq, tupleW_l e5]
              have q5 := hq' _ (X4.appI (T := [O.lst (brW ts (qs.map Bd.w))]))
              rw [Bd.w_nd] at q5
              exact q5
      | ask f =>
        simp (maxSteps := 500000) (implicitDefEqProofs := false) (disch := omega) only [↓pa0, ↓pa1, ↓pa2, ↓pa3, ↓pa4, ↓pa5, ↓pa6, pb0, pb1, pb2, pb3, pb4, pb5, pb6, List.map_cons, List.map_nil, List.length_cons, List.length_nil, List.replicate, List.cons_append, List.nil_append, Nat.reduceAdd, Nat.reduceSub, List.set_cons_zero, List.set_cons_succ, if_true, if_false, true_and, and_true, Bool.false_eq_true, Bool.not_true, Bool.not_false, ↓reduceIte, ifF, Nat.zero_add, startE, wipeE, Option.bind_some, Int.toNat_natCast, Option.some.injEq, List.set_set, Option.map_some, W.int.injEq, W.str.injEq, W.loc.injEq, Nat.reduceLeDiff, and_self, Int.reduceLT, Int.reduceLE, Int.reduceNeg, Int.reduceToNat, Int.reduceAdd, Int.reduceMul, Int.reduceSub, decide_eq_true_eq, Sg.mk, show ((Str.ofString "ask" == Str.ofString "choose") = false) from by decide, show ((Str.ofString "ask" == Str.ofString "ask") = true) from by decide, tupleW_l e3]
        exact q3
      | lt x k =>
        have h2l : qs.length = 2 := by rw [lm]; exact h1
        obtain ⟨u, v, rfl⟩ : ∃ u v, qs = [u, v] := by
          match qs, h2l with
          | [u, v], _ => exact ⟨u, v, rfl⟩
        simp (maxSteps := 500000) (implicitDefEqProofs := false) (disch := omega) only [↓pa0, ↓pa1, ↓pa2, ↓pa3, ↓pa4, ↓pa5, ↓pa6, pb0, pb1, pb2, pb3, pb4, pb5, pb6, List.map_cons, List.map_nil, List.length_cons, List.length_nil, List.replicate, List.cons_append, List.nil_append, Nat.reduceAdd, Nat.reduceSub, List.set_cons_zero, List.set_cons_succ, if_true, if_false, true_and, and_true, Bool.false_eq_true, Bool.not_true, Bool.not_false, ↓reduceIte, ifF, Nat.zero_add, startE, wipeE, Option.bind_some, Int.toNat_natCast, Option.some.injEq, List.set_set, Option.map_some, W.int.injEq, W.str.injEq, W.loc.injEq, Nat.reduceLeDiff, and_self, Int.reduceLT, Int.reduceLE, Int.reduceNeg, Int.reduceToNat, Int.reduceAdd, Int.reduceMul, Int.reduceSub, decide_eq_true_eq, Sg.mk, show ((Str.ofString "let" == Str.ofString "choose") = false) from by decide, show ((Str.ofString "let" == Str.ofString "ask") = false) from by decide, show ((Str.ofString "let" == Str.ofString "let") = true) from by decide, wq_ixL e3]
        exact q3
theorem ex_split : ∀ (x : List Int) (b : Bd) (m : Nat) (c : Bd), b.at (x.take m) = some c → True := fun _ _ _ _ _ => trivial
theorem ex_step {g : Sg} {ps : List Bd} {j : Nat} {x : List Int} {o d : Bd} (hx : ps[j]? = some d) : (Bd.nd g ps).ex ((j : Int) :: x) o = .nd g (ps.set j (d.ex x o)) := by
  rw [Bd.ex, show ((j : Int)).toNat = j by simp, List.modify_eq_set, hx]; rfl
theorem cutW_row {x : List Int} {m : Nat} : cutW (x.map W.int) none (some (m : Int)) = (x.take m).map W.int := by rw [cutW_to, List.map_take]
theorem law_put_ok {n : Nat} {b c o : Bd} {x : List Int} {S : Sto} {Q : W → Sto → Prop} (hn : 3 ≤ n) (hb : b.ok) (hx : b.at x = some c) (hl : x.length ≤ 1000) (hq : ∀ S', Xt [] S S' → Q (b.ex x o).w S') : wpR (call n .f_law_put [b.w, rowW x, o.w] S) Q := by
  obtain ⟨n, rfl⟩ : ∃ m, n = m + 1 := ⟨n - 1, by omega⟩
  rw [call_s, body]
  simp (maxSteps := 500000) (implicitDefEqProofs := false) (disch := omega) only [↓pa0, ↓pa1, ↓pa2, ↓pa3, ↓pa4, ↓pa5, ↓pa6, pb0, pb1, pb2, pb3, pb4, pb5, pb6, List.map_cons, List.map_nil, List.length_cons, List.length_nil, List.replicate, List.cons_append, List.nil_append, Nat.reduceAdd, Nat.reduceSub, List.set_cons_zero, List.set_cons_succ, if_true, if_false, true_and, and_true, Bool.false_eq_true, Bool.not_true, Bool.not_false, ↓reduceIte, ifF, Nat.zero_add, startE, wipeE, Option.bind_some, Int.toNat_natCast, Option.some.injEq, List.set_set, Option.map_some, W.int.injEq, W.str.injEq, W.loc.injEq, Nat.reduceLeDiff, and_self, Int.reduceLT, Int.reduceLE, Int.reduceNeg, Int.reduceToNat, Int.reduceAdd, Int.reduceMul, Int.reduceSub, decide_eq_true_eq, m_f_law_put, rowW, List.length_map]
  refine ⟨by omega, ?_⟩
  refine wp_loopN x.length (fun k s S2 => ∃ x3 x4 x5 x6 cur, s = [some b.w, some (rowW x), some (cur.ex (x.drop (x.length - k)) o).w, x3, x4, x5, x6] ∧ Xt [] S S2 ∧ b.at (x.take (x.length - k)) = some cur) (by omega) ⟨_, _, _, _, c, by rw [Nat.sub_zero, List.drop_length, Bd.ex]; rfl, .refl, by rw [Nat.sub_zero, List.take_length]; exact hx⟩ ?_ ?_
  · rintro k s S2 hk ⟨x3, x4, x5, x6, cur, rfl, X2, e2⟩
    refine ⟨_, _, rng0_lt hk, rfl, ?_⟩
    have hm : x.length - k = (x.length - 1 - k) + 1 := by omega
    have hml : x.length - 1 - k < x.length := by omega
    have em : ((x.length : Int) - 1 - (k : Int)) = ((x.length - 1 - k : Nat) : Int) := by omega
    generalize hmm : x.length - 1 - k = m at *
    rw [hm] at e2 ⊢
    rw [List.take_succ, List.getElem?_eq_getElem hml, at_append] at e2
    cases hc : b.at (x.take m) with
    | none => rw [hc] at e2; cases e2
    | some cu =>
      rw [hc] at e2
      have e2' : (cu.kid x[m]).bind (fun c => some c) = some cur := e2
      have hk2 : cu.kid x[m] = some cur := by simpa using e2'
      have hcu := at_ok hb hc
      cases cu with
      | nd g ps =>
        obtain ⟨h1, h2, h3⟩ := kid_mem rfl hk2
        have har := (Bd.ok_nd.mp hcu).1
        have hlar := Sg.ar_le har
        simp (maxSteps := 500000) (implicitDefEqProofs := false) (disch := omega) only [↓pa0, ↓pa1, ↓pa2, ↓pa3, ↓pa4, ↓pa5, ↓pa6, pb0, pb1, pb2, pb3, pb4, pb5, pb6, List.map_cons, List.map_nil, List.length_cons, List.length_nil, List.replicate, List.cons_append, List.nil_append, Nat.reduceAdd, Nat.reduceSub, List.set_cons_zero, List.set_cons_succ, if_true, if_false, true_and, and_true, Bool.false_eq_true, Bool.not_true, Bool.not_false, ↓reduceIte, ifF, Nat.zero_add, startE, wipeE, Option.bind_some, Int.toNat_natCast, Option.some.injEq, List.set_set, Option.map_some, W.int.injEq, W.str.injEq, W.loc.injEq, Nat.reduceLeDiff, and_self, Int.reduceLT, Int.reduceLE, Int.reduceNeg, Int.reduceToNat, Int.reduceAdd, Int.reduceMul, Int.reduceSub, decide_eq_true_eq, rowW, List.length_map, slW_t, em]
        rw [cutW_row]
        refine part_at_ok (x := x.take m) (by omega) hb hc fun S3 X3 => ?_
        simp (maxSteps := 500000) (implicitDefEqProofs := false) (disch := omega) only [↓pa0, ↓pa1, ↓pa2, ↓pa3, ↓pa4, ↓pa5, ↓pa6, pb0, pb1, pb2, pb3, pb4, pb5, pb6, List.map_cons, List.map_nil, List.length_cons, List.length_nil, List.replicate, List.cons_append, List.nil_append, Nat.reduceAdd, Nat.reduceSub, List.set_cons_zero, List.set_cons_succ, if_true, if_false, true_and, and_true, Bool.false_eq_true, Bool.not_true, Bool.not_false, ↓reduceIte, ifF, Nat.zero_add, startE, wipeE, Option.bind_some, Int.toNat_natCast, Option.some.injEq, List.set_set, Option.map_some, W.int.injEq, W.str.injEq, W.loc.injEq, Nat.reduceLeDiff, and_self, Int.reduceLT, Int.reduceLE, Int.reduceNeg, Int.reduceToNat, Int.reduceAdd, Int.reduceMul, Int.reduceSub, decide_eq_true_eq]
        refine parts_ok (by omega) har fun S4 X4 => ?_
        have e5 : (S4 ++ [O.lst (ps.map Bd.w)])[S4.length]? = some (.lst (ps.map Bd.w)) := at_new'
        have lt : (x.take m).length = m := by rw [List.length_take]; omega
        have exm : atI (x.map W.int) (m : Int) = some (.int x[m]) := Ev.atI_nat (by rw [List.getElem?_map, List.getElem?_eq_getElem hml]; rfl)
        have hj : x[m].toNat < ps.length := (List.getElem?_eq_some_iff.mp h3).1
        obtain ⟨j, ej⟩ : ∃ j : Nat, x[m] = j := ⟨x[m].toNat, by omega⟩
        have hj' : j < ps.length := by omega
        have h3' : ps[j]? = some cur := by rw [ej] at h3; simpa using h3
        simp (maxSteps := 500000) (implicitDefEqProofs := false) (disch := omega) only [↓pa0, ↓pa1, ↓pa2, ↓pa3, ↓pa4, ↓pa5, ↓pa6, pb0, pb1, pb2, pb3, pb4, pb5, pb6, List.map_cons, List.map_nil, List.length_cons, List.length_nil, List.replicate, List.cons_append, List.nil_append, Nat.reduceAdd, Nat.reduceSub, List.set_cons_zero, List.set_cons_succ, if_true, if_false, true_and, and_true, Bool.false_eq_true, Bool.not_true, Bool.not_false, ↓reduceIte, ifF, Nat.zero_add, startE, wipeE, Option.bind_some, Int.toNat_natCast, Option.some.injEq, List.set_set, Option.map_some, W.int.injEq, W.str.injEq, W.loc.injEq, Nat.reduceLeDiff, and_self, Int.reduceLT, Int.reduceLE, Int.reduceNeg, Int.reduceToNat, Int.reduceAdd, Int.reduceMul, Int.reduceSub, decide_eq_true_eq, List.length_map, lt, exm, ej, setO_L e5, ixN_nat hj', Option.map_some]
        have es : (ps.map Bd.w).set j (cur.ex (x.drop (m + 1)) o).w = (ps.set j (cur.ex (x.drop (m + 1)) o)).map Bd.w := by rw [List.map_set]
        rw [es]
        have e6 : ((S4 ++ [O.lst (ps.map Bd.w)]).set S4.length (.lst ((ps.set j (cur.ex (x.drop (m + 1)) o)).map Bd.w)))[S4.length]? = some (.lst ((ps.set j (cur.ex (x.drop (m + 1)) o)).map Bd.w)) := at_set' e5
        have X6 : Xt [] S ((S4 ++ [O.lst (ps.map Bd.w)]).set S4.length (.lst ((ps.set j (cur.ex (x.drop (m + 1)) o)).map Bd.w))) := (((X2.trans X3).trans X4).appI).setN (((X2.trans X3).trans X4).len)
        generalize (S4 ++ [O.lst (ps.map Bd.w)]).set S4.length (.lst ((ps.set j (cur.ex (x.drop (m + 1)) o)).map Bd.w)) = S6 at *
        simp (maxSteps := 500000) (implicitDefEqProofs := false) (disch := omega) only [↓pa0, ↓pa1, ↓pa2, ↓pa3, ↓pa4, ↓pa5, ↓pa6, pb0, pb1, pb2, pb3, pb4, pb5, pb6, List.map_cons, List.map_nil, List.length_cons, List.length_nil, List.replicate, List.cons_append, List.nil_append, Nat.reduceAdd, Nat.reduceSub, List.set_cons_zero, List.set_cons_succ, if_true, if_false, true_and, and_true, Bool.false_eq_true, Bool.not_true, Bool.not_false, ↓reduceIte, ifF, Nat.zero_add, startE, wipeE, Option.bind_some, Int.toNat_natCast, Option.some.injEq, List.set_set, Option.map_some, W.int.injEq, W.str.injEq, W.loc.injEq, Nat.reduceLeDiff, and_self, Int.reduceLT, Int.reduceLE, Int.reduceNeg, Int.reduceToNat, Int.reduceAdd, Int.reduceMul, Int.reduceSub, decide_eq_true_eq, tupleW_l e6]
        refine with_parts_ok (by omega) har (by rw [List.length_map, List.length_set]) fun S7 X7 => ?_
        simp (maxSteps := 500000) (implicitDefEqProofs := false) (disch := omega) only [↓pa0, ↓pa1, ↓pa2, ↓pa3, ↓pa4, ↓pa5, ↓pa6, pb0, pb1, pb2, pb3, pb4, pb5, pb6, List.map_cons, List.map_nil, List.length_cons, List.length_nil, List.replicate, List.cons_append, List.nil_append, Nat.reduceAdd, Nat.reduceSub, List.set_cons_zero, List.set_cons_succ, if_true, if_false, true_and, and_true, Bool.false_eq_true, Bool.not_true, Bool.not_false, ↓reduceIte, ifF, Nat.zero_add, startE, wipeE, Option.bind_some, Int.toNat_natCast, Option.some.injEq, List.set_set, Option.map_some, W.int.injEq, W.str.injEq, W.loc.injEq, Nat.reduceLeDiff, and_self, Int.reduceLT, Int.reduceLE, Int.reduceNeg, Int.reduceToNat, Int.reduceAdd, Int.reduceMul, Int.reduceSub, decide_eq_true_eq]
        have ek : x.length - (k + 1) = m := by omega
        refine ⟨some (.int k), some (rowW (x.take m)), some (Bd.nd g ps).w, some (.loc S4.length), .nd g ps, ?_, X6.trans X7, by rw [ek]; exact hc⟩
        rw [ek, List.drop_eq_getElem_cons hml, ej, ex_step h3', Bd.w_nd g (ps.set j _)]; rfl
  · rintro s S2 ⟨x3, x4, x5, x6, cur, rfl, X2, e2⟩
    refine ⟨rng_end, ?_⟩
    rw [Nat.sub_self, List.take_zero] at e2
    cases e2
    simp (maxSteps := 500000) (implicitDefEqProofs := false) (disch := omega) only [↓pa0, ↓pa1, ↓pa2, ↓pa3, ↓pa4, ↓pa5, ↓pa6, pb0, pb1, pb2, pb3, pb4, pb5, pb6, List.map_cons, List.map_nil, List.length_cons, List.length_nil, List.replicate, List.cons_append, List.nil_append, Nat.reduceAdd, Nat.reduceSub, List.set_cons_zero, List.set_cons_succ, if_true, if_false, true_and, and_true, Bool.false_eq_true, Bool.not_true, Bool.not_false, ↓reduceIte, ifF, Nat.zero_add, startE, wipeE, Option.bind_some, Int.toNat_natCast, Option.some.injEq, List.set_set, Option.map_some, W.int.injEq, W.str.injEq, W.loc.injEq, Nat.reduceLeDiff, and_self, Int.reduceLT, Int.reduceLE, Int.reduceNeg, Int.reduceToNat, Int.reduceAdd, Int.reduceMul, Int.reduceSub, decide_eq_true_eq]
    rw [Nat.sub_self, List.drop_zero]
    exact hq S2 X2
end Lw

set_option linter.all false
set_option maxRecDepth 100000
set_option maxHeartbeats 4000000
namespace Lw
open PySem L2 Ev
variable {EE : Exc}
theorem eqvA_refl : ∀ {ds : List PyData}, (∀ d ∈ ds, PyData.eqv d d = true) → PyData.eqvAll ds ds = true
  | [], _ => by simp [PyData.eqvAll]
  | d :: ds, h => by
    rw [PyData.eqvAll, h d (List.mem_cons_self ..), eqvA_refl fun e he => h e (List.mem_cons_of_mem _ he)]; rfl
theorem eqv_rows (l : List (List Int)) : PyData.eqv (.list (l.map rowD)) (.list (l.map rowD)) = true := by
  rw [PyData.eqv]
  refine eqvA_refl fun d hd => ?_
  obtain ⟨x, _, rfl⟩ := List.mem_map.mp hd
  unfold rowD
  rw [PyData.eqv]
  refine eqvA_refl fun d hd => ?_
  obtain ⟨i, _, rfl⟩ := List.mem_map.mp hd
  simp [PyData.eqv]
theorem pd_rows {S : Sto} {n q : Nat} {l : List (List Int)} (h : S[q]? = some (.lst (l.map rowW))) : W.pd S (n + 3) (.loc q) = some (.list (l.map rowD)) := by
  unfold W.pd; dsimp only; rw [h]; dsimp only; rw [mapM_map (k := rowD) (fun x _ => pd_row x)]; rfl
theorem neW_rows {S : Sto} {p q : Nat} {l : List (List Int)} (h : S[p]? = some (.lst (l.map rowW))) (h' : S[q]? = some (.lst (l.map rowW))) : neW (.loc p) (.loc q) S = .ok (.bl false) S := by
  rw [neW_d (pd_rows (n := 61) h) (pd_rows (n := 61) h'), eqv_rows]; rfl
theorem ex_ok : ∀ (x : List Int) (b c o : Bd), b.ok → o.ok → b.at x = some c → (b.ex x o).ok
  | [], b, c, o, hb, ho, h => by cases b; rw [Bd.ex]; exact ho
  | i :: r, .nd g ps, c, o, hb, ho, h => by
    cases hk : (Bd.nd g ps).kid i with
    | none => rw [Bd.at, hk] at h; cases h
    | some d =>
      rw [Bd.at, hk] at h
      obtain ⟨k1, k2, k3⟩ := kid_mem rfl hk
      obtain ⟨h1, h2⟩ := Bd.ok_nd.mp hb
      rw [Bd.ex]
      refine Bd.ok_nd.mpr ⟨by rw [List.length_modify]; exact h1, fun p hp => ?_⟩
      rw [List.modify_eq_set, k3] at hp
      rcases List.mem_or_eq_of_mem_set hp with hp | rfl
      · exact h2 p hp
      · exact ex_ok r d c o (h2 _ k1) ho h
theorem ex_dp : ∀ (x : List Int) (b c o : Bd) (m : Nat), b.at x = some c → b.dp ≤ m → x.length + o.dp ≤ m → (b.ex x o).dp ≤ m
  | [], b, c, o, m, h, h1, h2 => by cases b; rw [Bd.ex]; simpa using h2
  | i :: r, .nd g ps, c, o, m, h, h1, h2 => by
    cases hk : (Bd.nd g ps).kid i with
    | none => rw [Bd.at, hk] at h; cases h
    | some d =>
      rw [Bd.at, hk] at h
      obtain ⟨k1, k2, k3⟩ := kid_mem rfl hk
      rw [List.length_cons] at h2
      obtain ⟨m, rfl⟩ : ∃ k, m = k + 1 := ⟨m - 1, by omega⟩
      rw [Bd.ex]
      refine Bd.dp_nd.mpr fun p hp => ?_
      rw [List.modify_eq_set, k3] at hp
      rcases List.mem_or_eq_of_mem_set hp with hp | rfl
      · exact Bd.dp_nd.mp h1 p hp
      · have := kid_dp hk
        exact ex_dp r d c o m h (by omega) (by omega)
theorem dat_rows {S : Sto} {n q : Nat} {l : List (List Int)} (hn : 3 ≤ n) (h : S[q]? = some (.lst (l.map rowW))) (hl : l.length ≤ 1000) (hx : ∀ x ∈ l, x.length ≤ 1000) : Dat S n (.list (l.map rowD)) (.loc q) :=
  (Dat.lstM (n := 2) h (by omega) fun x hm => .row (by have := hx x hm; omega)).up hn
theorem dat_ps {S : Sto} {n : Nat} {g : Sg} {ps : List Bd} (hd : (Bd.nd g ps).dp ≤ 14) (ho : (Bd.nd g ps).ok) (hn : 60 ≤ n) : Dat S n (.tuple (ps.map Bd.d)) (.tup (ps.map Bd.w)) := by
  have hl := Sg.ar_le (Bd.ok_nd.mp ho).1
  exact ((DatL.map (n := 44) fun p hp => (Bd.dat p.dp p (Nat.le_refl _) ((Bd.ok_nd.mp ho).2 p hp)).up (by have := (Bd.dp_nd (n := 13)).mp hd p hp; omega)).tup (by rw [List.length_map]; omega)).up (by omega)
theorem dat_b {S : Sto} {n : Nat} {b : Bd} (hd : b.dp ≤ 16) (ho : b.ok) (hn : 50 ≤ n) : Dat S n b.d b.w := (Bd.dat b.dp b (Nat.le_refl _) ho).up (by omega)
theorem right_ok {n : Nat} {b o : Bd} {x : List Int} {S : Sto} {Q : W → Sto → Prop} (hn : 62 ≤ n) (hb : b.ok) (hd : b.dp ≤ 13) (hz : b.sz ≤ 1000) (ho : o.ok) (hod : o.dp ≤ 3) (hx : x ∈ b.pl) (hq : ∀ S', Xt [] S S' → Q (.bl true) S') : wpR (call n .f_law_right [b.w, rowW x, o.w] S) Q := by
  obtain ⟨n, rfl⟩ : ∃ m, n = m + 1 := ⟨n - 1, by omega⟩
  obtain ⟨c, hc⟩ := pl_at _ b x (Nat.le_refl _) hx
  have hxl := pl_xl b x hx
  have hlen : b.pl.length ≤ 1000 := by rw [pl_len]; exact hz
  have hxs : ∀ y ∈ b.pl, y.length ≤ 1000 := fun y hy => by have := pl_xl b y hy; omega
  rw [call_s, body]
  simp (maxSteps := 500000) (implicitDefEqProofs := false) (disch := omega) only [↓pa0, ↓pa1, ↓pa2, ↓pa3, ↓pa4, ↓pa5, ↓pa6, pb0, pb1, pb2, pb3, pb4, pb5, pb6, List.map_cons, List.map_nil, List.length_cons, List.length_nil, List.replicate, List.cons_append, List.nil_append, Nat.reduceAdd, Nat.reduceSub, List.set_cons_zero, List.set_cons_succ, if_true, if_false, true_and, and_true, Bool.false_eq_true, Bool.not_true, Bool.not_false, ↓reduceIte, ifF, Nat.zero_add, startE, wipeE, Option.bind_some, Int.toNat_natCast, Option.some.injEq, List.set_set, Option.map_some, W.int.injEq, W.str.injEq, W.loc.injEq, Nat.reduceLeDiff, and_self, Int.reduceLT, Int.reduceLE, Int.reduceNeg, Int.reduceToNat, Int.reduceAdd, Int.reduceMul, Int.reduceSub, decide_eq_true_eq, m_f_law_right]
  refine law_places_ok b.dp n b S _ (Nat.le_refl _) (by omega) hb hz fun S1 p X1 lp e1 => ?_
  try simp (maxSteps := 500000) (implicitDefEqProofs := false) (disch := omega) only [↓pa0, ↓pa1, ↓pa2, ↓pa3, ↓pa4, ↓pa5, ↓pa6, pb0, pb1, pb2, pb3, pb4, pb5, pb6, List.map_cons, List.map_nil, List.length_cons, List.length_nil, List.replicate, List.cons_append, List.nil_append, Nat.reduceAdd, Nat.reduceSub, List.set_cons_zero, List.set_cons_succ, if_true, if_false, true_and, and_true, Bool.false_eq_true, Bool.not_true, Bool.not_false, ↓reduceIte, ifF, Nat.zero_add, startE, wipeE, Option.bind_some, Int.toNat_natCast, Option.some.injEq, List.set_set, Option.map_some, W.int.injEq, W.str.injEq, W.loc.injEq, Nat.reduceLeDiff, and_self, Int.reduceLT, Int.reduceLE, Int.reduceNeg, Int.reduceToNat, Int.reduceAdd, Int.reduceMul, Int.reduceSub, decide_eq_true_eq]
  refine wpR_up (places_ok0 b.dp n b S1 _ (Nat.le_refl _) (by omega) hb hz fun S2 q X2 lq e2 => ?_)
  have e12 := X2.get0 e1
  try simp (maxSteps := 500000) (implicitDefEqProofs := false) (disch := omega) only [↓pa0, ↓pa1, ↓pa2, ↓pa3, ↓pa4, ↓pa5, ↓pa6, pb0, pb1, pb2, pb3, pb4, pb5, pb6, List.map_cons, List.map_nil, List.length_cons, List.length_nil, List.replicate, List.cons_append, List.nil_append, Nat.reduceAdd, Nat.reduceSub, List.set_cons_zero, List.set_cons_succ, if_true, if_false, true_and, and_true, Bool.false_eq_true, Bool.not_true, Bool.not_false, ↓reduceIte, ifF, Nat.zero_add, startE, wipeE, Option.bind_some, Int.toNat_natCast, Option.some.injEq, List.set_set, Option.map_some, W.int.injEq, W.str.injEq, W.loc.injEq, Nat.reduceLeDiff, and_self, Int.reduceLT, Int.reduceLE, Int.reduceNeg, Int.reduceToNat, Int.reduceAdd, Int.reduceMul, Int.reduceSub, decide_eq_true_eq]
  refine same_ok n (dat_rows (by omega) e2 hlen hxs) (dat_rows (by omega) e12 hlen hxs) fun S3 X3 => ?_
  have e13 := X3.get0 e12
  have hnil : ∃ r, b.pl = [] :: r := by cases b; rw [Bd.pl_nd]; exact ⟨_, rfl⟩
  simp (maxSteps := 500000) (implicitDefEqProofs := false) (disch := omega) only [↓pa0, ↓pa1, ↓pa2, ↓pa3, ↓pa4, ↓pa5, ↓pa6, pb0, pb1, pb2, pb3, pb4, pb5, pb6, List.map_cons, List.map_nil, List.length_cons, List.length_nil, List.replicate, List.cons_append, List.nil_append, Nat.reduceAdd, Nat.reduceSub, List.set_cons_zero, List.set_cons_succ, if_true, if_false, true_and, and_true, Bool.false_eq_true, Bool.not_true, Bool.not_false, ↓reduceIte, ifF, Nat.zero_add, startE, wipeE, Option.bind_some, Int.toNat_natCast, Option.some.injEq, List.set_set, Option.map_some, W.int.injEq, W.str.injEq, W.loc.injEq, Nat.reduceLeDiff, and_self, Int.reduceLT, Int.reduceLE, Int.reduceNeg, Int.reduceToNat, Int.reduceAdd, Int.reduceMul, Int.reduceSub, decide_eq_true_eq, sortW_rows e13 (.refl _) (pl_lt b) (by omega) (.inr (.inr hnil)), neW_rows (at_app (T := [O.lst (b.pl.map rowW)]) e13) (at_new' (S := S3) (o := O.lst (b.pl.map rowW)))]
  obtain ⟨g, ps, rfl⟩ : ∃ g ps, b = .nd g ps := by cases b; exact ⟨_, _, rfl⟩
  have har := (Bd.ok_nd.mp hb).1
  have hl := Sg.ar_le har
  refine parts_ok (by omega) har fun S4 X4 => ?_
  try simp (maxSteps := 500000) (implicitDefEqProofs := false) (disch := omega) only [↓pa0, ↓pa1, ↓pa2, ↓pa3, ↓pa4, ↓pa5, ↓pa6, pb0, pb1, pb2, pb3, pb4, pb5, pb6, List.map_cons, List.map_nil, List.length_cons, List.length_nil, List.replicate, List.cons_append, List.nil_append, Nat.reduceAdd, Nat.reduceSub, List.set_cons_zero, List.set_cons_succ, if_true, if_false, true_and, and_true, Bool.false_eq_true, Bool.not_true, Bool.not_false, ↓reduceIte, ifF, Nat.zero_add, startE, wipeE, Option.bind_some, Int.toNat_natCast, Option.some.injEq, List.set_set, Option.map_some, W.int.injEq, W.str.injEq, W.loc.injEq, Nat.reduceLeDiff, and_self, Int.reduceLT, Int.reduceLE, Int.reduceNeg, Int.reduceToNat, Int.reduceAdd, Int.reduceMul, Int.reduceSub, decide_eq_true_eq]
  refine law_parts_ok (by omega) har fun S5 q5 X5 lq5 e5 => ?_
  simp (maxSteps := 500000) (implicitDefEqProofs := false) (disch := omega) only [↓pa0, ↓pa1, ↓pa2, ↓pa3, ↓pa4, ↓pa5, ↓pa6, pb0, pb1, pb2, pb3, pb4, pb5, pb6, List.map_cons, List.map_nil, List.length_cons, List.length_nil, List.replicate, List.cons_append, List.nil_append, Nat.reduceAdd, Nat.reduceSub, List.set_cons_zero, List.set_cons_succ, if_true, if_false, true_and, and_true, Bool.false_eq_true, Bool.not_true, Bool.not_false, ↓reduceIte, ifF, Nat.zero_add, startE, wipeE, Option.bind_some, Int.toNat_natCast, Option.some.injEq, List.set_set, Option.map_some, W.int.injEq, W.str.injEq, W.loc.injEq, Nat.reduceLeDiff, and_self, Int.reduceLT, Int.reduceLE, Int.reduceNeg, Int.reduceToNat, Int.reduceAdd, Int.reduceMul, Int.reduceSub, decide_eq_true_eq, tupleW_l e5]
  refine same_ok n (dat_ps (by omega) hb (by omega)) (dat_ps (by omega) hb (by omega)) fun S6 X6 => ?_
  have X36 : Xt [] S2 S6 := ((X3.appI (T := [O.lst ((Bd.nd g ps).pl.map rowW)])).trans X4).trans (X5.trans X6)
  have e16 := X36.get0 e12
  have e26 := X36.get0 e2
  have lq2 : p < S1.length := lt_at e1
  have hpos : 0 < (Bd.nd g ps).pl.length := by rw [pl_len]; exact sz_pos _
  simp (maxSteps := 500000) (implicitDefEqProofs := false) (disch := omega) only [↓pa0, ↓pa1, ↓pa2, ↓pa3, ↓pa4, ↓pa5, ↓pa6, pb0, pb1, pb2, pb3, pb4, pb5, pb6, List.map_cons, List.map_nil, List.length_cons, List.length_nil, List.replicate, List.cons_append, List.nil_append, Nat.reduceAdd, Nat.reduceSub, List.set_cons_zero, List.set_cons_succ, if_true, if_false, true_and, and_true, Bool.false_eq_true, Bool.not_true, Bool.not_false, ↓reduceIte, ifF, Nat.zero_add, startE, wipeE, Option.bind_some, Int.toNat_natCast, Option.some.injEq, List.set_set, Option.map_some, W.int.injEq, W.str.injEq, W.loc.injEq, Nat.reduceLeDiff, and_self, Int.reduceLT, Int.reduceLE, Int.reduceNeg, Int.reduceToNat, Int.reduceAdd, Int.reduceMul, Int.reduceSub, decide_eq_true_eq, setO_L e26, List.length_map, show ixN (Bd.nd g ps).pl.length 0 = some 0 from ixN_nat hpos, Option.map_some]
  have X06 : Xt [] S (S6.set q (.lst (((Bd.nd g ps).pl.map rowW).set 0 (.tup [.int 9])))) := ((X1.trans X2).trans X36).setN (by have := X1.len; omega)
  have e17 : (S6.set q (.lst (((Bd.nd g ps).pl.map rowW).set 0 (.tup [.int 9]))))[p]? = some (.lst ((Bd.nd g ps).pl.map rowW)) := at_ne e16 (by omega)
  generalize S6.set q (.lst (((Bd.nd g ps).pl.map rowW).set 0 (.tup [.int 9]))) = S7 at *
  have ww : (Bd.nd g ps).w = .tup (g.mk (ps.map Bd.w)) := Bd.w_nd g ps
  refine wo_ex (seqLen_l e17) ?_
  rw [List.length_map]
  refine wp_loopN (Bd.nd g ps).pl.length (fun j s S8 => ∃ x5 x6 x7, s = [some (Bd.nd g ps).w, some (rowW x), some o.w, some (.loc p), some (.loc q), x5, x6, x7] ∧ Xt [] S7 S8) (by omega) ⟨_, _, _, rfl, .refl⟩ ?_ ?_
  · rintro j s S8 hj ⟨x5, x6, x7, rfl, X8⟩
    have hym := List.getElem_mem hj
    refine ⟨rowW (Bd.nd g ps).pl[j], _, by rw [seqIt_l (X8.get0 e17), List.getElem?_map, List.getElem?_eq_getElem hj]; rfl, rfl, ?_⟩
    generalize (Bd.nd g ps).pl[j] = y at *
    obtain ⟨cy, hcy⟩ := pl_at _ _ y (Nat.le_refl _) hym
    have hyl := pl_xl _ y hym
    simp (maxSteps := 500000) (implicitDefEqProofs := false) (disch := omega) only [↓pa0, ↓pa1, ↓pa2, ↓pa3, ↓pa4, ↓pa5, ↓pa6, pb0, pb1, pb2, pb3, pb4, pb5, pb6, List.map_cons, List.map_nil, List.length_cons, List.length_nil, List.replicate, List.cons_append, List.nil_append, Nat.reduceAdd, Nat.reduceSub, List.set_cons_zero, List.set_cons_succ, if_true, if_false, true_and, and_true, Bool.false_eq_true, Bool.not_true, Bool.not_false, ↓reduceIte, ifF, Nat.zero_add, startE, wipeE, Option.bind_some, Int.toNat_natCast, Option.some.injEq, List.set_set, Option.map_some, W.int.injEq, W.str.injEq, W.loc.injEq, Nat.reduceLeDiff, and_self, Int.reduceLT, Int.reduceLE, Int.reduceNeg, Int.reduceToNat, Int.reduceAdd, Int.reduceMul, Int.reduceSub, decide_eq_true_eq, rowW, List.length_map]
    refine wp_loopN y.length (fun i s S9 => ∃ cur x7, s = [some (Bd.nd g ps).w, some (.tup (x.map W.int)), some o.w, some (.loc p), some (.loc q), some (.tup (y.map W.int)), some (Bd.w cur), x7] ∧ Xt [] S8 S9 ∧ (Bd.nd g ps).at (y.take i) = some cur) (by omega) ⟨Bd.nd g ps, _, rfl, .refl, rfl⟩ ?_ ?_
    · rintro i s S9 hi ⟨cur, x7, rfl, X9, e9⟩
      refine ⟨.int y[i], _, by rw [seqIt_t, List.getElem?_map, List.getElem?_eq_getElem hi]; rfl, rfl, ?_⟩
      have hsp : y = y.take i ++ y[i] :: y.drop (i + 1) := by
        rw [← List.drop_eq_getElem_cons hi, List.take_append_drop]
      have h' := hcy
      rw [hsp, at_append, e9] at h'
      have h'' : (cur.kid y[i]).bind (fun c => c.at (y.drop (i + 1))) = some cy := h'
      have hcur := at_ok hb e9
      cases hkd : cur.kid y[i] with
      | none => rw [hkd] at h''; cases h''
      | some d =>
        have ed : (Bd.nd g ps).at (y.take (i + 1)) = some d := by
          rw [List.take_succ, List.getElem?_eq_getElem hi, at_append, e9]
          show (cur.kid y[i]).bind _ = _
          rw [hkd]; rfl
        obtain ⟨g', ps', rfl⟩ : ∃ g' ps', cur = .nd g' ps' := by cases cur; exact ⟨_, _, rfl⟩
        obtain ⟨k1, k2, k3⟩ := kid_mem rfl hkd
        simp (maxSteps := 500000) (implicitDefEqProofs := false) (disch := omega) only [↓pa0, ↓pa1, ↓pa2, ↓pa3, ↓pa4, ↓pa5, ↓pa6, pb0, pb1, pb2, pb3, pb4, pb5, pb6, List.map_cons, List.map_nil, List.length_cons, List.length_nil, List.replicate, List.cons_append, List.nil_append, Nat.reduceAdd, Nat.reduceSub, List.set_cons_zero, List.set_cons_succ, if_true, if_false, true_and, and_true, Bool.false_eq_true, Bool.not_true, Bool.not_false, ↓reduceIte, ifF, Nat.zero_add, startE, wipeE, Option.bind_some, Int.toNat_natCast, Option.some.injEq, List.set_set, Option.map_some, W.int.injEq, W.str.injEq, W.loc.injEq, Nat.reduceLeDiff, and_self, Int.reduceLT, Int.reduceLE, Int.reduceNeg, Int.reduceToNat, Int.reduceAdd, Int.reduceMul, Int.reduceSub, decide_eq_true_eq]
        refine law_parts_ok (by omega) (Bd.ok_nd.mp hcur).1 fun S10 q10 X10 lq10 e10 => ?_
        simp (maxSteps := 500000) (implicitDefEqProofs := false) (disch := omega) only [↓pa0, ↓pa1, ↓pa2, ↓pa3, ↓pa4, ↓pa5, ↓pa6, pb0, pb1, pb2, pb3, pb4, pb5, pb6, List.map_cons, List.map_nil, List.length_cons, List.length_nil, List.replicate, List.cons_append, List.nil_append, Nat.reduceAdd, Nat.reduceSub, List.set_cons_zero, List.set_cons_succ, if_true, if_false, true_and, and_true, Bool.false_eq_true, Bool.not_true, Bool.not_false, ↓reduceIte, ifF, Nat.zero_add, startE, wipeE, Option.bind_some, Int.toNat_natCast, Option.some.injEq, List.set_set, Option.map_some, W.int.injEq, W.str.injEq, W.loc.injEq, Nat.reduceLeDiff, and_self, Int.reduceLT, Int.reduceLE, Int.reduceNeg, Int.reduceToNat, Int.reduceAdd, Int.reduceMul, Int.reduceSub, decide_eq_true_eq, wq_ixL e10, Ev.atI_of (l := ps'.map Bd.w) k2 (by rw [List.getElem?_map, k3]; rfl)]
        exact ⟨d, _, rfl, X9.trans X10, ed⟩
    · rintro s S9 ⟨cur, x7, rfl, X9, e9⟩
      refine ⟨by rw [seqIt_t, List.getElem?_eq_none (by rw [List.length_map]; exact Nat.le_refl _)], ?_⟩
      rw [List.take_length] at e9
      simp (maxSteps := 500000) (implicitDefEqProofs := false) (disch := omega) only [↓pa0, ↓pa1, ↓pa2, ↓pa3, ↓pa4, ↓pa5, ↓pa6, pb0, pb1, pb2, pb3, pb4, pb5, pb6, List.map_cons, List.map_nil, List.length_cons, List.length_nil, List.replicate, List.cons_append, List.nil_append, Nat.reduceAdd, Nat.reduceSub, List.set_cons_zero, List.set_cons_succ, if_true, if_false, true_and, and_true, Bool.false_eq_true, Bool.not_true, Bool.not_false, ↓reduceIte, ifF, Nat.zero_add, startE, wipeE, Option.bind_some, Int.toNat_natCast, Option.some.injEq, List.set_set, Option.map_some, W.int.injEq, W.str.injEq, W.loc.injEq, Nat.reduceLeDiff, and_self, Int.reduceLT, Int.reduceLE, Int.reduceNeg, Int.reduceToNat, Int.reduceAdd, Int.reduceMul, Int.reduceSub, decide_eq_true_eq]
      refine part_at_ok (x := y) (by omega) hb e9 fun S10 X10 => ?_
      simp (maxSteps := 500000) (implicitDefEqProofs := false) (disch := omega) only [↓pa0, ↓pa1, ↓pa2, ↓pa3, ↓pa4, ↓pa5, ↓pa6, pb0, pb1, pb2, pb3, pb4, pb5, pb6, List.map_cons, List.map_nil, List.length_cons, List.length_nil, List.replicate, List.cons_append, List.nil_append, Nat.reduceAdd, Nat.reduceSub, List.set_cons_zero, List.set_cons_succ, if_true, if_false, true_and, and_true, Bool.false_eq_true, Bool.not_true, Bool.not_false, ↓reduceIte, ifF, Nat.zero_add, startE, wipeE, Option.bind_some, Int.toNat_natCast, Option.some.injEq, List.set_set, Option.map_some, W.int.injEq, W.str.injEq, W.loc.injEq, Nat.reduceLeDiff, and_self, Int.reduceLT, Int.reduceLE, Int.reduceNeg, Int.reduceToNat, Int.reduceAdd, Int.reduceMul, Int.reduceSub, decide_eq_true_eq]
      have dcy := at_dp e9
      have ocy := at_ok hb e9
      refine same_ok n (dat_b (by omega) ocy (by omega)) (dat_b (by omega) ocy (by omega)) fun S11 X11 => ?_
      simp (maxSteps := 500000) (implicitDefEqProofs := false) (disch := omega) only [↓pa0, ↓pa1, ↓pa2, ↓pa3, ↓pa4, ↓pa5, ↓pa6, pb0, pb1, pb2, pb3, pb4, pb5, pb6, List.map_cons, List.map_nil, List.length_cons, List.length_nil, List.replicate, List.cons_append, List.nil_append, Nat.reduceAdd, Nat.reduceSub, List.set_cons_zero, List.set_cons_succ, if_true, if_false, true_and, and_true, Bool.false_eq_true, Bool.not_true, Bool.not_false, ↓reduceIte, ifF, Nat.zero_add, startE, wipeE, Option.bind_some, Int.toNat_natCast, Option.some.injEq, List.set_set, Option.map_some, W.int.injEq, W.str.injEq, W.loc.injEq, Nat.reduceLeDiff, and_self, Int.reduceLT, Int.reduceLE, Int.reduceNeg, Int.reduceToNat, Int.reduceAdd, Int.reduceMul, Int.reduceSub, decide_eq_true_eq]
      exact ⟨_, _, _, rfl, ((X8.trans X9).trans X10).trans X11⟩
  · rintro s S8 ⟨x5, x6, x7, rfl, X8⟩
    refine ⟨by rw [seqIt_l (X8.get0 e17), List.getElem?_eq_none (by rw [List.length_map]; exact Nat.le_refl _)], ?_⟩
    simp (maxSteps := 500000) (implicitDefEqProofs := false) (disch := omega) only [↓pa0, ↓pa1, ↓pa2, ↓pa3, ↓pa4, ↓pa5, ↓pa6, pb0, pb1, pb2, pb3, pb4, pb5, pb6, List.map_cons, List.map_nil, List.length_cons, List.length_nil, List.replicate, List.cons_append, List.nil_append, Nat.reduceAdd, Nat.reduceSub, List.set_cons_zero, List.set_cons_succ, if_true, if_false, true_and, and_true, Bool.false_eq_true, Bool.not_true, Bool.not_false, ↓reduceIte, ifF, Nat.zero_add, startE, wipeE, Option.bind_some, Int.toNat_natCast, Option.some.injEq, List.set_set, Option.map_some, W.int.injEq, W.str.injEq, W.loc.injEq, Nat.reduceLeDiff, and_self, Int.reduceLT, Int.reduceLE, Int.reduceNeg, Int.reduceToNat, Int.reduceAdd, Int.reduceMul, Int.reduceSub, decide_eq_true_eq]
    refine wpR_up (places_ok0 _ n (Bd.nd g ps) S8 _ (Nat.le_refl _) (by omega) hb hz fun S9 q9 X9 lq9 e9 => ?_)
    simp (maxSteps := 500000) (implicitDefEqProofs := false) (disch := omega) only [↓pa0, ↓pa1, ↓pa2, ↓pa3, ↓pa4, ↓pa5, ↓pa6, pb0, pb1, pb2, pb3, pb4, pb5, pb6, List.map_cons, List.map_nil, List.length_cons, List.length_nil, List.replicate, List.cons_append, List.nil_append, Nat.reduceAdd, Nat.reduceSub, List.set_cons_zero, List.set_cons_succ, if_true, if_false, true_and, and_true, Bool.false_eq_true, Bool.not_true, Bool.not_false, ↓reduceIte, ifF, Nat.zero_add, startE, wipeE, Option.bind_some, Int.toNat_natCast, Option.some.injEq, List.set_set, Option.map_some, W.int.injEq, W.str.injEq, W.loc.injEq, Nat.reduceLeDiff, and_self, Int.reduceLT, Int.reduceLE, Int.reduceNeg, Int.reduceToNat, Int.reduceAdd, Int.reduceMul, Int.reduceSub, decide_eq_true_eq]
    refine same_ok n (dat_rows (by omega) e9 hlen hxs) (dat_rows (by omega) ((X8.trans X9).get0 e17) hlen hxs) fun S10 X10 => ?_
    simp (maxSteps := 500000) (implicitDefEqProofs := false) (disch := omega) only [↓pa0, ↓pa1, ↓pa2, ↓pa3, ↓pa4, ↓pa5, ↓pa6, pb0, pb1, pb2, pb3, pb4, pb5, pb6, List.map_cons, List.map_nil, List.length_cons, List.length_nil, List.replicate, List.cons_append, List.nil_append, Nat.reduceAdd, Nat.reduceSub, List.set_cons_zero, List.set_cons_succ, if_true, if_false, true_and, and_true, Bool.false_eq_true, Bool.not_true, Bool.not_false, ↓reduceIte, ifF, Nat.zero_add, startE, wipeE, Option.bind_some, Int.toNat_natCast, Option.some.injEq, List.set_set, Option.map_some, W.int.injEq, W.str.injEq, W.loc.injEq, Nat.reduceLeDiff, and_self, Int.reduceLT, Int.reduceLE, Int.reduceNeg, Int.reduceToNat, Int.reduceAdd, Int.reduceMul, Int.reduceSub, decide_eq_true_eq]
    refine parts_ok (by omega) har fun S11 X11 => ?_
    simp (maxSteps := 500000) (implicitDefEqProofs := false) (disch := omega) only [↓pa0, ↓pa1, ↓pa2, ↓pa3, ↓pa4, ↓pa5, ↓pa6, pb0, pb1, pb2, pb3, pb4, pb5, pb6, List.map_cons, List.map_nil, List.length_cons, List.length_nil, List.replicate, List.cons_append, List.nil_append, Nat.reduceAdd, Nat.reduceSub, List.set_cons_zero, List.set_cons_succ, if_true, if_false, true_and, and_true, Bool.false_eq_true, Bool.not_true, Bool.not_false, ↓reduceIte, ifF, Nat.zero_add, startE, wipeE, Option.bind_some, Int.toNat_natCast, Option.some.injEq, List.set_set, Option.map_some, W.int.injEq, W.str.injEq, W.loc.injEq, Nat.reduceLeDiff, and_self, Int.reduceLT, Int.reduceLE, Int.reduceNeg, Int.reduceToNat, Int.reduceAdd, Int.reduceMul, Int.reduceSub, decide_eq_true_eq]
    refine with_parts_ok (by omega) har (by rw [List.length_map]) fun S12 X12 => ?_
    rw [← ww]
    simp (maxSteps := 500000) (implicitDefEqProofs := false) (disch := omega) only [↓pa0, ↓pa1, ↓pa2, ↓pa3, ↓pa4, ↓pa5, ↓pa6, pb0, pb1, pb2, pb3, pb4, pb5, pb6, List.map_cons, List.map_nil, List.length_cons, List.length_nil, List.replicate, List.cons_append, List.nil_append, Nat.reduceAdd, Nat.reduceSub, List.set_cons_zero, List.set_cons_succ, if_true, if_false, true_and, and_true, Bool.false_eq_true, Bool.not_true, Bool.not_false, ↓reduceIte, ifF, Nat.zero_add, startE, wipeE, Option.bind_some, Int.toNat_natCast, Option.some.injEq, List.set_set, Option.map_some, W.int.injEq, W.str.injEq, W.loc.injEq, Nat.reduceLeDiff, and_self, Int.reduceLT, Int.reduceLE, Int.reduceNeg, Int.reduceToNat, Int.reduceAdd, Int.reduceMul, Int.reduceSub, decide_eq_true_eq]
    refine same_ok n (dat_b (by omega) hb (by omega)) (dat_b (by omega) hb (by omega)) fun S13 X13 => ?_
    simp (maxSteps := 500000) (implicitDefEqProofs := false) (disch := omega) only [↓pa0, ↓pa1, ↓pa2, ↓pa3, ↓pa4, ↓pa5, ↓pa6, pb0, pb1, pb2, pb3, pb4, pb5, pb6, List.map_cons, List.map_nil, List.length_cons, List.length_nil, List.replicate, List.cons_append, List.nil_append, Nat.reduceAdd, Nat.reduceSub, List.set_cons_zero, List.set_cons_succ, if_true, if_false, true_and, and_true, Bool.false_eq_true, Bool.not_true, Bool.not_false, ↓reduceIte, ifF, Nat.zero_add, startE, wipeE, Option.bind_some, Int.toNat_natCast, Option.some.injEq, List.set_set, Option.map_some, W.int.injEq, W.str.injEq, W.loc.injEq, Nat.reduceLeDiff, and_self, Int.reduceLT, Int.reduceLE, Int.reduceNeg, Int.reduceToNat, Int.reduceAdd, Int.reduceMul, Int.reduceSub, decide_eq_true_eq]
    refine law_put_ok (by omega) hb hc (by omega) fun S14 X14 => ?_
    simp (maxSteps := 500000) (implicitDefEqProofs := false) (disch := omega) only [↓pa0, ↓pa1, ↓pa2, ↓pa3, ↓pa4, ↓pa5, ↓pa6, pb0, pb1, pb2, pb3, pb4, pb5, pb6, List.map_cons, List.map_nil, List.length_cons, List.length_nil, List.replicate, List.cons_append, List.nil_append, Nat.reduceAdd, Nat.reduceSub, List.set_cons_zero, List.set_cons_succ, if_true, if_false, true_and, and_true, Bool.false_eq_true, Bool.not_true, Bool.not_false, ↓reduceIte, ifF, Nat.zero_add, startE, wipeE, Option.bind_some, Int.toNat_natCast, Option.some.injEq, List.set_set, Option.map_some, W.int.injEq, W.str.injEq, W.loc.injEq, Nat.reduceLeDiff, and_self, Int.reduceLT, Int.reduceLE, Int.reduceNeg, Int.reduceToNat, Int.reduceAdd, Int.reduceMul, Int.reduceSub, decide_eq_true_eq]
    refine exchanged_ok x n _ c o S14 _ (by omega) hb hc fun S15 X15 => ?_
    have oex := ex_ok x _ c o hb ho hc
    have dex := ex_dp x _ c o 16 hc (by omega) (by omega)
    refine same_ok n (dat_b dex oex (by omega)) (dat_b dex oex (by omega)) fun S16 X16 => ?_
    simp (maxSteps := 500000) (implicitDefEqProofs := false) (disch := omega) only [↓pa0, ↓pa1, ↓pa2, ↓pa3, ↓pa4, ↓pa5, ↓pa6, pb0, pb1, pb2, pb3, pb4, pb5, pb6, List.map_cons, List.map_nil, List.length_cons, List.length_nil, List.replicate, List.cons_append, List.nil_append, Nat.reduceAdd, Nat.reduceSub, List.set_cons_zero, List.set_cons_succ, if_true, if_false, true_and, and_true, Bool.false_eq_true, Bool.not_true, Bool.not_false, ↓reduceIte, ifF, Nat.zero_add, startE, wipeE, Option.bind_some, Int.toNat_natCast, Option.some.injEq, List.set_set, Option.map_some, W.int.injEq, W.str.injEq, W.loc.injEq, Nat.reduceLeDiff, and_self, Int.reduceLT, Int.reduceLE, Int.reduceNeg, Int.reduceToNat, Int.reduceAdd, Int.reduceMul, Int.reduceSub, decide_eq_true_eq]
    exact hq S16 ((((((((X06.trans X8).trans X9).trans X10).trans X11).trans X12).trans X13).trans X14).trans (X15.trans X16))
end Lw

set_option linter.all false
set_option maxRecDepth 100000
set_option maxHeartbeats 4000000
namespace Lw
open PySem L2 Ev
theorem df_w (d : Df) : d.w = .tup [tx d.hd.nm, psW d.hd.ps, tx d.hd.kd, d.bd.w] := rfl
def oths : List Bd := [.nd (.tag [81]) [], .nd (.nam [113]) [], .nd .one [.nd (.nam [113]) []], .nd .pair [.nd (.nam [113]) [], .nd (.tag [81]) []]]
theorem oth_eq : [W.tup [W.str (Str.ofString "tag"), W.str (Str.ofString "Q")], W.tup [W.str (Str.ofString "name"), W.str (Str.ofString "q")], W.tup [W.str (Str.ofString "one"), W.tup [W.str (Str.ofString "name"), W.str (Str.ofString "q")]], W.tup [W.str (Str.ofString "pair"), W.tup [W.str (Str.ofString "name"), W.str (Str.ofString "q")], W.tup [W.str (Str.ofString "tag"), W.str (Str.ofString "Q")]]] = oths.map Bd.w := by
  simp [oths, Bd.w_nd, Sg.mk, Bd.w, Bd.wl]
  decide
theorem tagQ : W.tup [W.str (Str.ofString "tag"), W.str (Str.ofString "Q")] = (Bd.nd (.tag [81]) []).w := by
  simp [Bd.w, Bd.wl, Sg.mk]
  decide
theorem law_true (ns : List Int) (hl : ns.length ≤ 63) (hb : ∀ z ∈ ns, Builtin.Int.intBits z ≤ 1048576) : ∃ S, call (LV + 1) .f_law [.rol (ns.map W.int)] [] = .ok (.bl true) S := by
  suffices h : wpR (call (LV + 1) .f_law [.rol (ns.map W.int)] []) (fun w _ => w = .bl true) by
    obtain ⟨a, S, e, rfl⟩ := wpR_ex h
    exact ⟨S, e⟩
  rw [call_s, body]
  simp (maxSteps := 500000) (implicitDefEqProofs := false) (disch := omega) only [↓pa0, ↓pa1, ↓pa2, ↓pa3, ↓pa4, ↓pa5, ↓pa6, pb0, pb1, pb2, pb3, pb4, pb5, pb6, List.map_cons, List.map_nil, List.length_cons, List.length_nil, List.replicate, List.cons_append, List.nil_append, Nat.reduceAdd, Nat.reduceSub, List.set_cons_zero, List.set_cons_succ, if_true, if_false, true_and, and_true, Bool.false_eq_true, Bool.not_true, Bool.not_false, ↓reduceIte, ifF, Nat.zero_add, startE, wipeE, Option.bind_some, Int.toNat_natCast, Option.some.injEq, List.set_set, Option.map_some, W.int.injEq, W.str.injEq, W.loc.injEq, Nat.reduceLeDiff, and_self, Int.reduceLT, Int.reduceLE, Int.reduceNeg, Int.reduceToNat, Int.reduceAdd, Int.reduceMul, Int.reduceSub, decide_eq_true_eq, m_f_law, List.length_map]
  obtain ⟨m, hm4, em⟩ : ∃ m : Nat, m ≤ 4 ∧ (if (if 8 < (ns.length : Int) then (8 : Int) else ns.length) / 2 > 1 then (if 8 < (ns.length : Int) then (8 : Int) else ns.length) / 2 else 1) = (m : Int) := by
    have h8 : (0 : Int) ≤ (if 8 < (ns.length : Int) then (8 : Int) else ns.length) ∧ (if 8 < (ns.length : Int) then (8 : Int) else ns.length) ≤ 8 := by split <;> omega
    generalize (if 8 < (ns.length : Int) then (8 : Int) else ns.length) = v at *
    refine ⟨(if v / 2 > 1 then v / 2 else 1).toNat, ?_, ?_⟩ <;> split <;> omega
  rw [em]
  refine ⟨by omega, ?_⟩
  rw [Int.toNat_natCast]
  refine wp_loopN m (fun j s S2 => ∃ x1 x2 x3 x4 x5 x6 x7 x8 x9 x10 x11, s = [some (.rol (ns.map W.int)), x1, x2, x3, x4, x5, x6, x7, x8, x9, x10, x11]) (by omega) ⟨_, _, _, _, _, _, _, _, _, _, _, rfl⟩ ?_ ?_
  · rintro j s S2 hj ⟨x1, x2, x3, x4, x5, x6, x7, x8, x9, x10, x11, rfl⟩
    refine ⟨_, _, rng0_lt hj, rfl, ?_⟩
    simp (maxSteps := 500000) (implicitDefEqProofs := false) (disch := omega) only [↓pa0, ↓pa1, ↓pa2, ↓pa3, ↓pa4, ↓pa5, ↓pa6, pb0, pb1, pb2, pb3, pb4, pb5, pb6, List.map_cons, List.map_nil, List.length_cons, List.length_nil, List.replicate, List.cons_append, List.nil_append, Nat.reduceAdd, Nat.reduceSub, List.set_cons_zero, List.set_cons_succ, if_true, if_false, true_and, and_true, Bool.false_eq_true, Bool.not_true, Bool.not_false, ↓reduceIte, ifF, Nat.zero_add, startE, wipeE, Option.bind_some, Int.toNat_natCast, Option.some.injEq, List.set_set, Option.map_some, W.int.injEq, W.str.injEq, W.loc.injEq, Nat.reduceLeDiff, and_self, Int.reduceLT, Int.reduceLE, Int.reduceNeg, Int.reduceToNat, Int.reduceAdd, Int.reduceMul, Int.reduceSub, decide_eq_true_eq]
    refine ⟨cmul_l (by decide) (by decide), ?_⟩
    refine cell_ok (by decide) (by omega) fun c => ?_
    simp (maxSteps := 500000) (implicitDefEqProofs := false) (disch := omega) only [↓pa0, ↓pa1, ↓pa2, ↓pa3, ↓pa4, ↓pa5, ↓pa6, pb0, pb1, pb2, pb3, pb4, pb5, pb6, List.map_cons, List.map_nil, List.length_cons, List.length_nil, List.replicate, List.cons_append, List.nil_append, Nat.reduceAdd, Nat.reduceSub, List.set_cons_zero, List.set_cons_succ, if_true, if_false, true_and, and_true, Bool.false_eq_true, Bool.not_true, Bool.not_false, ↓reduceIte, ifF, Nat.zero_add, startE, wipeE, Option.bind_some, Int.toNat_natCast, Option.some.injEq, List.set_set, Option.map_some, W.int.injEq, W.str.injEq, W.loc.injEq, Nat.reduceLeDiff, and_self, Int.reduceLT, Int.reduceLE, Int.reduceNeg, Int.reduceToNat, Int.reduceAdd, Int.reduceMul, Int.reduceSub, decide_eq_true_eq]
    refine book_ok (by decide) (by decide) (by decide) (by decide) fun ks ds S3 p q X3 hne hkl hk hdne hdl hbk lp lq ep eq hpq => ?_
    simp (maxSteps := 500000) (implicitDefEqProofs := false) (disch := omega) only [↓pa0, ↓pa1, ↓pa2, ↓pa3, ↓pa4, ↓pa5, ↓pa6, pb0, pb1, pb2, pb3, pb4, pb5, pb6, List.map_cons, List.map_nil, List.length_cons, List.length_nil, List.replicate, List.cons_append, List.nil_append, Nat.reduceAdd, Nat.reduceSub, List.set_cons_zero, List.set_cons_succ, if_true, if_false, true_and, and_true, Bool.false_eq_true, Bool.not_true, Bool.not_false, ↓reduceIte, ifF, Nat.zero_add, startE, wipeE, Option.bind_some, Int.toNat_natCast, Option.some.injEq, List.set_set, Option.map_some, W.int.injEq, W.str.injEq, W.loc.injEq, Nat.reduceLeDiff, and_self, Int.reduceLT, Int.reduceLE, Int.reduceNeg, Int.reduceToNat, Int.reduceAdd, Int.reduceMul, Int.reduceSub, decide_eq_true_eq]
    refine ⟨cmul_l (by decide) (by decide), ?_⟩
    refine cell_ok (by decide) (by omega) fun c' => ?_
    simp (maxSteps := 500000) (implicitDefEqProofs := false) (disch := omega) only [↓pa0, ↓pa1, ↓pa2, ↓pa3, ↓pa4, ↓pa5, ↓pa6, pb0, pb1, pb2, pb3, pb4, pb5, pb6, List.map_cons, List.map_nil, List.length_cons, List.length_nil, List.replicate, List.cons_append, List.nil_append, Nat.reduceAdd, Nat.reduceSub, List.set_cons_zero, List.set_cons_succ, if_true, if_false, true_and, and_true, Bool.false_eq_true, Bool.not_true, Bool.not_false, ↓reduceIte, ifF, Nat.zero_add, startE, wipeE, Option.bind_some, Int.toNat_natCast, Option.some.injEq, List.set_set, Option.map_some, W.int.injEq, W.str.injEq, W.loc.injEq, Nat.reduceLeDiff, and_self, Int.reduceLT, Int.reduceLE, Int.reduceNeg, Int.reduceToNat, Int.reduceAdd, Int.reduceMul, Int.reduceSub, decide_eq_true_eq]
    refine stream_ok (by decide) fun S4 X4 l4 st4 => ?_
    have eq4 := X4.get0 eq
    simp (maxSteps := 500000) (implicitDefEqProofs := false) (disch := omega) only [↓pa0, ↓pa1, ↓pa2, ↓pa3, ↓pa4, ↓pa5, ↓pa6, pb0, pb1, pb2, pb3, pb4, pb5, pb6, List.map_cons, List.map_nil, List.length_cons, List.length_nil, List.replicate, List.cons_append, List.nil_append, Nat.reduceAdd, Nat.reduceSub, List.set_cons_zero, List.set_cons_succ, if_true, if_false, true_and, and_true, Bool.false_eq_true, Bool.not_true, Bool.not_false, ↓reduceIte, ifF, Nat.zero_add, startE, wipeE, Option.bind_some, Int.toNat_natCast, Option.some.injEq, List.set_set, Option.map_some, W.int.injEq, W.str.injEq, W.loc.injEq, Nat.reduceLeDiff, and_self, Int.reduceLT, Int.reduceLE, Int.reduceNeg, Int.reduceToNat, Int.reduceAdd, Int.reduceMul, Int.reduceSub, decide_eq_true_eq]
    have hds : ds.length ≤ 4 := by omega
    refine wo_ex (seqLen_l eq4) ?_
    rw [List.length_map]
    have nqi : q ≠ S3.length := by have := lt_at eq; omega
    refine wp_loopN ds.length (fun i s S5 => ∃ x5 x6 x7 x8 x9 x10 x11, s = [some (.rol (ns.map W.int)), some (.int j), some (.loc p), some (.loc q), some (.loc S3.length), x5, x6, x7, x8, x9, x10, x11] ∧ Strm S5 S3.length ∧ S5[q]? = some (.lst (ds.map Df.w))) (by omega) ⟨_, _, _, _, _, _, _, rfl, st4, eq4⟩ ?_ ?_
    · rintro i s S5 hi ⟨x5, x6, x7, x8, x9, x10, x11, rfl, st5, eq5⟩
      have hdm := List.getElem_mem hi
      have hok : (ds[i]).bd.ok := (hbk.ty _ hdm).ok (fun k hk' => hk.ts4 k hk') (fun h hh => (hbk.hh.ok h hh).len)
      have hsz := hbk.sz _ hdm
      have hdp := hbk.dp _ hdm
      refine ⟨(ds[i]).w, _, by rw [seqIt_l eq5, List.getElem?_map, List.getElem?_eq_getElem hi]; rfl, rfl, ?_⟩
      generalize ds[i] = d at *
      simp (maxSteps := 500000) (implicitDefEqProofs := false) (disch := omega) only [↓pa0, ↓pa1, ↓pa2, ↓pa3, ↓pa4, ↓pa5, ↓pa6, pb0, pb1, pb2, pb3, pb4, pb5, pb6, List.map_cons, List.map_nil, List.length_cons, List.length_nil, List.replicate, List.cons_append, List.nil_append, Nat.reduceAdd, Nat.reduceSub, List.set_cons_zero, List.set_cons_succ, if_true, if_false, true_and, and_true, Bool.false_eq_true, Bool.not_true, Bool.not_false, ↓reduceIte, ifF, Nat.zero_add, startE, wipeE, Option.bind_some, Int.toNat_natCast, Option.some.injEq, List.set_set, Option.map_some, W.int.injEq, W.str.injEq, W.loc.injEq, Nat.reduceLeDiff, and_self, Int.reduceLT, Int.reduceLE, Int.reduceNeg, Int.reduceToNat, Int.reduceAdd, Int.reduceMul, Int.reduceSub, decide_eq_true_eq]
      refine law_places_ok _ LV d.bd S5 _ (Nat.le_refl _) (by have : LV = 64 := rfl; omega) hok (by omega) fun S6 q6 X6 lq6 e6 => ?_
      have st6 := st5.mono X6 (by simp)
      have eq6 := X6.get0 eq5
      have hpl : d.bd.pl.length = d.bd.sz := pl_len _
      have hsp := sz_pos d.bd
      have li5 := st5.lt
      simp (maxSteps := 500000) (implicitDefEqProofs := false) (disch := omega) only [↓pa0, ↓pa1, ↓pa2, ↓pa3, ↓pa4, ↓pa5, ↓pa6, pb0, pb1, pb2, pb3, pb4, pb5, pb6, List.map_cons, List.map_nil, List.length_cons, List.length_nil, List.replicate, List.cons_append, List.nil_append, Nat.reduceAdd, Nat.reduceSub, List.set_cons_zero, List.set_cons_succ, if_true, if_false, true_and, and_true, Bool.false_eq_true, Bool.not_true, Bool.not_false, ↓reduceIte, ifF, Nat.zero_add, startE, wipeE, Option.bind_some, Int.toNat_natCast, Option.some.injEq, List.set_set, Option.map_some, W.int.injEq, W.str.injEq, W.loc.injEq, Nat.reduceLeDiff, and_self, Int.reduceLT, Int.reduceLE, Int.reduceNeg, Int.reduceToNat, Int.reduceAdd, Int.reduceMul, Int.reduceSub, decide_eq_true_eq, lenW_l e6, List.length_map]
      refine take_ok (by decide) st6 (by omega) fun z o h1 h2 st7 => ?_
      obtain ⟨z, rfl⟩ : ∃ a : Nat, z = a := ⟨z.toNat, by omega⟩
      have hz : z < d.bd.pl.length := by omega
      have e7 : (S6.set S3.length o)[q6]? = some (.lst (d.bd.pl.map rowW)) := at_ne e6 (by omega)
      have eq7 : (S6.set S3.length o)[q]? = some (.lst (ds.map Df.w)) := at_ne eq6 nqi.symm
      generalize S6.set S3.length o = S7 at *
      have hxm := List.getElem_mem hz
      have exz : atI (d.bd.pl.map rowW) (z : Int) = some (rowW d.bd.pl[z]) := Ev.atI_nat (by rw [List.getElem?_map, List.getElem?_eq_getElem hz]; rfl)
      generalize d.bd.pl[z] = x at *
      simp (maxSteps := 500000) (implicitDefEqProofs := false) (disch := omega) only [↓pa0, ↓pa1, ↓pa2, ↓pa3, ↓pa4, ↓pa5, ↓pa6, pb0, pb1, pb2, pb3, pb4, pb5, pb6, List.map_cons, List.map_nil, List.length_cons, List.length_nil, List.replicate, List.cons_append, List.nil_append, Nat.reduceAdd, Nat.reduceSub, List.set_cons_zero, List.set_cons_succ, if_true, if_false, true_and, and_true, Bool.false_eq_true, Bool.not_true, Bool.not_false, ↓reduceIte, ifF, Nat.zero_add, startE, wipeE, Option.bind_some, Int.toNat_natCast, Option.some.injEq, List.set_set, Option.map_some, W.int.injEq, W.str.injEq, W.loc.injEq, Nat.reduceLeDiff, and_self, Int.reduceLT, Int.reduceLE, Int.reduceNeg, Int.reduceToNat, Int.reduceAdd, Int.reduceMul, Int.reduceSub, decide_eq_true_eq, wq_ixL e7, exz]
      rw [oth_eq]
      have st8 : Strm (S7 ++ [O.lst (oths.map Bd.w)]) S3.length := st7.app
      have e8 : (S7 ++ [O.lst (oths.map Bd.w)])[S7.length]? = some (.lst (oths.map Bd.w)) := at_new'
      have eq8 : (S7 ++ [O.lst (oths.map Bd.w)])[q]? = some (.lst (ds.map Df.w)) := at_app eq7
      have lst7 := st7.lt
      refine take_ok (by decide) st8 (by decide) fun z' o' h3 h4 st9 => ?_
      obtain ⟨z', rfl⟩ : ∃ a : Nat, z' = a := ⟨z'.toNat, by omega⟩
      have hz' : z' < oths.length := by show z' < 4; omega
      have e9 : ((S7 ++ [O.lst (oths.map Bd.w)]).set S3.length o')[S7.length]? = some (.lst (oths.map Bd.w)) := at_ne e8 (by omega)
      have eq9 : ((S7 ++ [O.lst (oths.map Bd.w)]).set S3.length o')[q]? = some (.lst (ds.map Df.w)) := at_ne eq8 nqi.symm
      generalize (S7 ++ [O.lst (oths.map Bd.w)]).set S3.length o' = S9 at *
      have exz' : atI (oths.map Bd.w) (z' : Int) = some (oths[z']).w := Ev.atI_nat (by rw [List.getElem?_map, List.getElem?_eq_getElem hz']; rfl)
      have hom := List.getElem_mem hz'
      generalize oths[z'] = ob at *
      have hoo : ob.ok ∧ ob.dp ≤ 3 := by
        have ht : ∀ b ∈ oths, b.ok ∧ b.dp ≤ 3 := by
          intro b hb
          simp only [oths, List.mem_cons, List.not_mem_nil, or_false] at hb
          rcases hb with rfl | rfl | rfl | rfl <;> exact ⟨by simp [Bd.ok, Bd.okl, Sg.ar], by decide⟩
        exact ht _ hom
      simp (maxSteps := 500000) (implicitDefEqProofs := false) (disch := omega) only [↓pa0, ↓pa1, ↓pa2, ↓pa3, ↓pa4, ↓pa5, ↓pa6, pb0, pb1, pb2, pb3, pb4, pb5, pb6, List.map_cons, List.map_nil, List.length_cons, List.length_nil, List.replicate, List.cons_append, List.nil_append, Nat.reduceAdd, Nat.reduceSub, List.set_cons_zero, List.set_cons_succ, if_true, if_false, true_and, and_true, Bool.false_eq_true, Bool.not_true, Bool.not_false, ↓reduceIte, ifF, Nat.zero_add, startE, wipeE, Option.bind_some, Int.toNat_natCast, Option.some.injEq, List.set_set, Option.map_some, W.int.injEq, W.str.injEq, W.loc.injEq, Nat.reduceLeDiff, and_self, Int.reduceLT, Int.reduceLE, Int.reduceNeg, Int.reduceToNat, Int.reduceAdd, Int.reduceMul, Int.reduceSub, decide_eq_true_eq, wq_ixL e9, exz', rowW, List.length_map]
      split
      · rw [tagQ]
        refine right_ok (x := x) (by decide) hok (by omega) (by omega) (by simp [Bd.ok, Bd.okl, Sg.ar]) (by decide) hxm fun S10 X10 => ?_
        simp (maxSteps := 500000) (implicitDefEqProofs := false) (disch := omega) only [↓pa0, ↓pa1, ↓pa2, ↓pa3, ↓pa4, ↓pa5, ↓pa6, pb0, pb1, pb2, pb3, pb4, pb5, pb6, List.map_cons, List.map_nil, List.length_cons, List.length_nil, List.replicate, List.cons_append, List.nil_append, Nat.reduceAdd, Nat.reduceSub, List.set_cons_zero, List.set_cons_succ, if_true, if_false, true_and, and_true, Bool.false_eq_true, Bool.not_true, Bool.not_false, ↓reduceIte, ifF, Nat.zero_add, startE, wipeE, Option.bind_some, Int.toNat_natCast, Option.some.injEq, List.set_set, Option.map_some, W.int.injEq, W.str.injEq, W.loc.injEq, Nat.reduceLeDiff, and_self, Int.reduceLT, Int.reduceLE, Int.reduceNeg, Int.reduceToNat, Int.reduceAdd, Int.reduceMul, Int.reduceSub, decide_eq_true_eq]
        exact ⟨_, _, _, _, _, _, _, rfl, st9.mono X10 (by simp), X10.get0 eq9⟩
      · refine size_ok (d := 12) (by omega) (by decide) hok fun S10 X10 => ?_
        have st10 := st9.mono X10 (by simp)
        have eq10 := X10.get0 eq9
        simp (maxSteps := 500000) (implicitDefEqProofs := false) (disch := omega) only [↓pa0, ↓pa1, ↓pa2, ↓pa3, ↓pa4, ↓pa5, ↓pa6, pb0, pb1, pb2, pb3, pb4, pb5, pb6, List.map_cons, List.map_nil, List.length_cons, List.length_nil, List.replicate, List.cons_append, List.nil_append, Nat.reduceAdd, Nat.reduceSub, List.set_cons_zero, List.set_cons_succ, if_true, if_false, true_and, and_true, Bool.false_eq_true, Bool.not_true, Bool.not_false, ↓reduceIte, ifF, Nat.zero_add, startE, wipeE, Option.bind_some, Int.toNat_natCast, Option.some.injEq, List.set_set, Option.map_some, W.int.injEq, W.str.injEq, W.loc.injEq, Nat.reduceLeDiff, and_self, Int.reduceLT, Int.reduceLE, Int.reduceNeg, Int.reduceToNat, Int.reduceAdd, Int.reduceMul, Int.reduceSub, decide_eq_true_eq]
        split
        · rw [tagQ]
          refine right_ok (x := x) (by decide) hok (by omega) (by omega) (by simp [Bd.ok, Bd.okl, Sg.ar]) (by decide) hxm fun S11 X11 => ?_
          simp (maxSteps := 500000) (implicitDefEqProofs := false) (disch := omega) only [↓pa0, ↓pa1, ↓pa2, ↓pa3, ↓pa4, ↓pa5, ↓pa6, pb0, pb1, pb2, pb3, pb4, pb5, pb6, List.map_cons, List.map_nil, List.length_cons, List.length_nil, List.replicate, List.cons_append, List.nil_append, Nat.reduceAdd, Nat.reduceSub, List.set_cons_zero, List.set_cons_succ, if_true, if_false, true_and, and_true, Bool.false_eq_true, Bool.not_true, Bool.not_false, ↓reduceIte, ifF, Nat.zero_add, startE, wipeE, Option.bind_some, Int.toNat_natCast, Option.some.injEq, List.set_set, Option.map_some, W.int.injEq, W.str.injEq, W.loc.injEq, Nat.reduceLeDiff, and_self, Int.reduceLT, Int.reduceLE, Int.reduceNeg, Int.reduceToNat, Int.reduceAdd, Int.reduceMul, Int.reduceSub, decide_eq_true_eq]
          exact ⟨_, _, _, _, _, _, _, rfl, st10.mono X11 (by simp), X11.get0 eq10⟩
        · refine right_ok (x := x) (by decide) hok (by omega) (by omega) hoo.1 hoo.2 hxm fun S11 X11 => ?_
          simp (maxSteps := 500000) (implicitDefEqProofs := false) (disch := omega) only [↓pa0, ↓pa1, ↓pa2, ↓pa3, ↓pa4, ↓pa5, ↓pa6, pb0, pb1, pb2, pb3, pb4, pb5, pb6, List.map_cons, List.map_nil, List.length_cons, List.length_nil, List.replicate, List.cons_append, List.nil_append, Nat.reduceAdd, Nat.reduceSub, List.set_cons_zero, List.set_cons_succ, if_true, if_false, true_and, and_true, Bool.false_eq_true, Bool.not_true, Bool.not_false, ↓reduceIte, ifF, Nat.zero_add, startE, wipeE, Option.bind_some, Int.toNat_natCast, Option.some.injEq, List.set_set, Option.map_some, W.int.injEq, W.str.injEq, W.loc.injEq, Nat.reduceLeDiff, and_self, Int.reduceLT, Int.reduceLE, Int.reduceNeg, Int.reduceToNat, Int.reduceAdd, Int.reduceMul, Int.reduceSub, decide_eq_true_eq]
          exact ⟨_, _, _, _, _, _, _, rfl, st10.mono X11 (by simp), X11.get0 eq10⟩
    · rintro s S5 ⟨x5, x6, x7, x8, x9, x10, x11, rfl, st5, eq5⟩
      refine ⟨by rw [seqIt_l eq5, List.getElem?_eq_none (by rw [List.length_map]; exact Nat.le_refl _)], ?_⟩
      simp (maxSteps := 500000) (implicitDefEqProofs := false) (disch := omega) only [↓pa0, ↓pa1, ↓pa2, ↓pa3, ↓pa4, ↓pa5, ↓pa6, pb0, pb1, pb2, pb3, pb4, pb5, pb6, List.map_cons, List.map_nil, List.length_cons, List.length_nil, List.replicate, List.cons_append, List.nil_append, Nat.reduceAdd, Nat.reduceSub, List.set_cons_zero, List.set_cons_succ, if_true, if_false, true_and, and_true, Bool.false_eq_true, Bool.not_true, Bool.not_false, ↓reduceIte, ifF, Nat.zero_add, startE, wipeE, Option.bind_some, Int.toNat_natCast, Option.some.injEq, List.set_set, Option.map_some, W.int.injEq, W.str.injEq, W.loc.injEq, Nat.reduceLeDiff, and_self, Int.reduceLT, Int.reduceLE, Int.reduceNeg, Int.reduceToNat, Int.reduceAdd, Int.reduceMul, Int.reduceSub, decide_eq_true_eq]
      exact ⟨_, _, _, _, _, _, _, _, _, _, _, rfl⟩
  · rintro s S2 ⟨x1, x2, x3, x4, x5, x6, x7, x8, x9, x10, x11, rfl⟩
    refine ⟨rng_end, ?_⟩
    simp (maxSteps := 500000) (implicitDefEqProofs := false) (disch := omega) only [↓pa0, ↓pa1, ↓pa2, ↓pa3, ↓pa4, ↓pa5, ↓pa6, pb0, pb1, pb2, pb3, pb4, pb5, pb6, List.map_cons, List.map_nil, List.length_cons, List.length_nil, List.replicate, List.cons_append, List.nil_append, Nat.reduceAdd, Nat.reduceSub, List.set_cons_zero, List.set_cons_succ, if_true, if_false, true_and, and_true, Bool.false_eq_true, Bool.not_true, Bool.not_false, ↓reduceIte, ifF, Nat.zero_add, startE, wipeE, Option.bind_some, Int.toNat_natCast, Option.some.injEq, List.set_set, Option.map_some, W.int.injEq, W.str.injEq, W.loc.injEq, Nat.reduceLeDiff, and_self, Int.reduceLT, Int.reduceLE, Int.reduceNeg, Int.reduceToNat, Int.reduceAdd, Int.reduceMul, Int.reduceSub, decide_eq_true_eq]
end Lw

set_option Elab.async false
set_option linter.all false
set_option maxRecDepth 100000
namespace Lw
open PySem L2 Ev
theorem walk {l : PySem.W.OpenLaw} {q : Program} {loose : List Str} {XP : (Str → Option Value) → Heap → Prop} {YP : World → Heap → Prop} {d : DefRec} {K : Params → PySem.W.Frag} (hn : l.most = some 63) (hdf : d.params.defaults = []) (hd : d.name = "law")
    (hY : ∀ (w : World) (h : Heap), YP w h → (K w.params).In h)
    (F : ∀ (w : World) (mg : Str → Option Value) (h : Heap), (K w.params).In h → h.Ns mainGlobals mg → Txt (K w.params) mg) :
    PySem.W.WalkO q loose XP YP l.row.toRowW d [] (fun f vs => PySem.call f vs) :=
  L2.walk_ofB (n := 63) (k := LV + 1) (x := "script") (CX := fun w => L2.CX l.prog w) (sp := fun w => fun vs H Q E => ∃ (a : Addr) (ns : List Int), vs = [.ref a] ∧ ns.length ≤ 63 ∧ (∀ z ∈ ns, Builtin.Int.intBits z ≤ 1048576) ∧ Only H ∧ SqL (K w.params) H a (ns.map V.int) ∧ Q = (fun v _ => v = .bl true) ∧ E = fun _ _ _ => False) hn (by decide) hdf ⟨rfl, by decide, by decide⟩ hY
    (fun w mg fa h KX G hm => by
      have T := F w mg h KX G
      obtain ⟨f, fd, FF, A⟩ := T.t_f_law
      obtain rfl : f = fa := by
        have e := A.mgx
        rw [← hd, hm] at e
        cases e; rfl
      refine ⟨fd, fun s u => ?_, fun base Kb Gb => ?_⟩
      · obtain ⟨oc, od, kV, doc, pm, an, cdv, ct, osl, rfl, _, _⟩ := FF.ex
        exact .of_eq rfl
      · refine (fn_f_law (P := l.prog) (w := w) (base := base) (n := LV) T (all_ok T LV) FF).imp ?_
        rintro vs H Q E ⟨a, ns, rfl, hl, hb, hO, hS, rfl, rfl⟩
        exact law_end hO hS (law_true ns hl hb))
    (fun w H a ns hl hb hO hS => ⟨a, ns, rfl, hl, hb, hO, hS, rfl, rfl⟩) (fun w H s e s' z => cx_end z)
end Lw
open PySem PySem.W PyProof.Rows
set_option maxRecDepth 100000 in
set_option maxHeartbeats 0 in
theorem PySem.Challenge.cw_wantway_k05_bodies_and_places_holds : PySem.Challenge.rw_wantway_k05_bodies_and_places.Holds := by
  w_on; o_law; k_head; (case hw => w_witness2)
  k_fill
  refine Lw.walk (l := PySem.Challenge.rw_wantway_k05_bodies_and_places) rfl rfl rfl (fun w h Y => PySem.W.kIn_of Y) ?F
  case F =>
    intro w mg h KX G
    refine' Lw.all_mk KX G ?a0 ?l0 ?c0 ?k0 ?a1 ?l1 ?c1 ?k1 ?a2 ?l2 ?c2 ?k2 ?a3 ?l3 ?c3 ?k3 ?a4 ?l4 ?c4 ?k4 ?a5 ?l5 ?c5 ?k5 ?a6 ?l6 ?c6 ?k6 ?a7 ?l7 ?c7 ?k7 ?a8 ?l8 ?c8 ?k8 ?a9 ?l9 ?c9 ?k9 ?a10 ?l10 ?c10 ?k10 ?a11 ?l11 ?c11 ?k11 ?a12 ?l12 ?c12 ?k12 ?a13 ?l13 ?c13 ?k13 ?a14 ?l14 ?c14 ?k14 ?a15 ?l15 ?c15 ?k15 ?a16 ?l16 ?c16 ?k16 ?a17 ?l17 ?c17 ?k17 ?a18 ?l18 ?c18 ?k18 ?a19 ?l19 ?c19 ?k19 ?a20 ?l20 ?c20 ?k20 ?a21 ?l21 ?c21 ?k21 ?a22 ?l22 ?c22 ?k22 ?a23 ?l23 ?c23 ?k23 ?a24 ?l24 ?c24 ?k24 ?a25 ?l25 ?c25 ?k25 ?a26 ?l26 ?c26 ?k26 ?a27 ?l27 ?c27 ?k27 ?a28 ?l28 ?c28 ?k28 ?z_all ?z_bool ?z_dict ?z_enumerate ?z_int ?z_isinstance ?z_len ?z_list ?z_max ?z_min ?z_range ?z_sorted ?z_str ?z_sum ?z_tuple ?z_zip
    case a0 => k_is
    case l0 => k_is
    case c0 => k_is
    case k0 => k_is
    case a1 => k_is
    case l1 => k_is
    case c1 => k_is
    case k1 => k_is
    case a2 => k_is
    case l2 => k_is
    case c2 => k_is
    case k2 => k_is
    case a3 => k_is
    case l3 => k_is
    case c3 => k_is
    case k3 => k_is
    case a4 => k_is
    case l4 => k_is
    case c4 => k_is
    case k4 => k_is
    case a5 => k_is
    case l5 => k_is
    case c5 => k_is
    case k5 => k_is
    case a6 => k_is
    case l6 => k_is
    case c6 => k_is
    case k6 => k_is
    case a7 => k_is
    case l7 => k_is
    case c7 => k_is
    case k7 => k_is
    case a8 => k_is
    case l8 => k_is
    case c8 => k_is
    case k8 => k_is
    case a9 => k_is
    case l9 => k_is
    case c9 => k_is
    case k9 => k_is
    case a10 => k_is
    case l10 => k_is
    case c10 => k_is
    case k10 => k_is
    case a11 => k_is
    case l11 => k_is
    case c11 => k_is
    case k11 => k_is
    case a12 => k_is
    case l12 => k_is
    case c12 => k_is
    case k12 => k_is
    case a13 => k_is
    case l13 => k_is
    case c13 => k_is
    case k13 => k_is
    case a14 => k_is
    case l14 => k_is
    case c14 => k_is
    case k14 => k_is
    case a15 => k_is
    case l15 => k_is
    case c15 => k_is
    case k15 => k_is
    case a16 => k_is
    case l16 => k_is
    case c16 => k_is
    case k16 => k_is
    case a17 => k_is
    case l17 => k_is
    case c17 => k_is
    case k17 => k_is
    case a18 => k_is
    case l18 => k_is
    case c18 => k_is
    case k18 => k_is
    case a19 => k_is
    case l19 => k_is
    case c19 => k_is
    case k19 => k_is
    case a20 => k_is
    case l20 => k_is
    case c20 => k_is
    case k20 => k_is
    case a21 => k_is
    case l21 => k_is
    case c21 => k_is
    case k21 => k_is
    case a22 => k_is
    case l22 => k_is
    case c22 => k_is
    case k22 => k_is
    case a23 => k_is
    case l23 => k_is
    case c23 => k_is
    case k23 => k_is
    case a24 => k_is
    case l24 => k_is
    case c24 => k_is
    case k24 => k_is
    case a25 => k_is
    case l25 => k_is
    case c25 => k_is
    case k25 => k_is
    case a26 => k_is
    case l26 => k_is
    case c26 => k_is
    case k26 => k_is
    case a27 => k_is
    case l27 => k_is
    case c27 => k_is
    case k27 => k_is
    case a28 => k_is
    case l28 => k_is
    case c28 => k_is
    case k28 => k_is
    case z_all => k_is
    case z_bool => k_is
    case z_dict => k_is
    case z_enumerate => k_is
    case z_int => k_is
    case z_isinstance => k_is
    case z_len => k_is
    case z_list => k_is
    case z_max => k_is
    case z_min => k_is
    case z_range => k_is
    case z_sorted => k_is
    case z_str => k_is
    case z_sum => k_is
    case z_tuple => k_is
    case z_zip => k_is

