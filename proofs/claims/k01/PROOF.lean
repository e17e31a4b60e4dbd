import PyProof.Rows.All
import Wide.All
import OpenK.AllK
import Wide.FinOn
import HandS.ForMost
import HandS.Exc
import HandS.ExcOwn
import HandS.Wide
import HandS.WideBits
import HandS.TupAny
import HandS.IsInst
import HandS.Style
import HandS.Conv
import HandS.Defaults
import HandS.CallSlots
import HandS.Codes
import HandS.WordsDict
import HandS.TupLen
import HandS.Iter
import HandS.WordsExc
import HandS.Words
import HandS.Head0
import HandS.Head1
import HandS.Head2
import HandS.HeadEnd
import HandS.HeadHook1
import HandS.HeadHook2
import HandS.HeadHook3
import HandS.HeadHook4
import PySem.Challenge.RW_asatthatmoment_k01_names_values_and_colu
set_option Elab.async false
set_option linter.all false
set_option maxRecDepth 100000
set_option maxHeartbeats 0
/-! Fa -/
namespace Zs
open PySem PySem.Spec L2
open PyProof.Rows hiding St

/-! ## values, open objects, results -/
/-- the built-in types that a program names -/
inductive Ty where
  | none | bool | int | str | tuple | list | dict
  deriving DecidableEq
def Ty.name : Ty → String
  | .none => "NoneType" | .bool => "bool" | .int => "int" | .str => "str" | .tuple => "tuple" | .list => "list" | .dict => "dict"
/-- a value: lst, dct: a list, a dict that nobody writes any more; scr: a list that is only read (the script, a list of the module); ref: an open object; cls: a class of the program; exc: an error of one -/
inductive D where
  | non | bl (b : Bool) | int (i : Int) | str (s : List Nat)
  | tup (xs : List D) | lst (xs : List D) | scr (xs : List D) | dct (kvs : List (D × D)) | ref (i : Nat)
  | ty (t : Ty) | cls (k : Nat) | exc (c : Nat) (v : D) | fn (k : Nat)
instance : Inhabited D := ⟨.non⟩

inductive O where
  | lst (xs : List D) | dct (kvs : List (D × D)) | ins (c : Nat) (fs : List (Str × D))

abbrev HP := List (Option O)

inductive R (α : Type) where
  | ok (a : α) (h : HP) | exc (c : Nat) (v : D) (h : HP) | bad

abbrev M (α : Type) := HP → R α
abbrev Env' := List (Option D)
abbrev EM := Env' → M D
abbrev AM := Env' → M (List D)
abbrev TM := Env' → M Bool
inductive Fl where
  | nx (ρ : Env') | ret (v : D) | brk (ρ : Env') | exc (c : Nat) (v : D) (ρ : Env')
abbrev SM := Env' → M Fl
abbrev FSem := List D → M D

@[inline] def R.bnd {α β : Type} (r : R α) (f : α → HP → R β) : R β :=
  match r with
  | .ok a h => f a h
  | .exc c v h => .exc c v h
  | .bad => .bad

/-! ## values in the heap -/
def strV (s : List Nat) : Str := ⟨s.toArray⟩
/-- a key of a dict -/
inductive KeyR : D → Key → Prop where
  | int (i : Int) : KeyR (.int i) (.inl i)
  | str (s : List Nat) : KeyR (.str s) (.inr (strV s))
inductive KeysR : List D → List Key → Prop where
  | nil : KeysR [] []
  | cons {d k ds ks} : KeyR d k → KeysR ds ks → KeysR (d :: ds) (k :: ks)

section
variable (K : PySem.W.Frag) (F : Hp) (μ : List Addr)
mutual
inductive Rep : D → V → Prop where
  | non : Rep .non .non
  | bl (b : Bool) : Rep (.bl b) (.bl b)
  | int (i : Int) : Rep (.int i) (.int i)
  | str (s : List Nat) : s.length ≤ sizeLine → Rep (.str s) (.str (strV s))
  | tup {ds a vs} : SqT K F a vs → vs.length ≤ sizeLine → Reps ds vs → Rep (.tup ds) (.ref a)
  | lst {ds a vs} : F a = some (.lst vs) → vs.length ≤ sizeLine → Reps ds vs → Rep (.lst ds) (.ref a)
  | scr {ds a vs} : SqL K F a vs → vs.length ≤ sizeLine → Reps ds vs → Rep (.scr ds) (.ref a)
  | ty (t : Ty) : Rep (.ty t) (.ty t.name)
  | dctK {ds a kvs} : F a = some (.dK kvs) → RepK ds kvs → Rep (.dct ds) (.ref a)
  | dctT {ds a kvs} : F a = some (.dT kvs) → RepT ds kvs → Rep (.dct ds) (.ref a)
  | ref {i a} : μ[i]? = some a → Rep (.ref i) (.ref a)
inductive Reps : List D → List V → Prop where
  | nil : Reps [] []
  | cons {d v ds vs} : Rep d v → Reps ds vs → Reps (d :: ds) (v :: vs)
inductive RepK : List (D × D) → List (Key × V) → Prop where
  | nil : RepK [] []
  | cons {d k e v ds kvs} : KeyR d k → Rep e v → RepK ds kvs → RepK ((d, e) :: ds) ((k, v) :: kvs)
inductive RepT : List (D × D) → List (List Key × V) → Prop where
  | nil : RepT [] []
  | cons {d k e v ds kvs} : KeysR d k → Rep e v → RepT ds kvs → RepT ((.tup d, e) :: ds) ((k, v) :: kvs)
end
/-- an open object as it stands -/
inductive RepO : O → HO → Prop where
  | lst {ds vs} : vs.length ≤ sizeLine → Reps K F μ ds vs → RepO (.lst ds) (.lst vs)
  | dctK {ds kvs} : RepK K F μ ds kvs → RepO (.dct ds) (.dK kvs)
  | dctT {ds kvs} : RepT K F μ ds kvs → RepO (.dct ds) (.dT kvs)
end

/-- the later knows more -/
structure Ext (F : Hp) (μ : List Addr) (F' : Hp) (μ' : List Addr) : Prop where
  f : ∀ a o, F a = some o → F' a = some o
  m : μ <+: μ'
theorem Ext.refl (F : Hp) (μ : List Addr) : Ext F μ F μ := ⟨fun _ _ h => h, List.prefix_refl μ⟩
theorem Ext.trans {F F1 F2 : Hp} {μ μ1 μ2 : List Addr} (a : Ext F μ F1 μ1) (b : Ext F1 μ1 F2 μ2) : Ext F μ F2 μ2 := ⟨fun x o h => b.f x o (a.f x o h), a.m.trans b.m⟩

theorem sqL_mono {K : PySem.W.Frag} {F F' : Hp} (e : ∀ a o, F a = some o → F' a = some o) {a : Addr} {xs : List V} (h : SqL K F a xs) : SqL K F' a xs := by
  rcases h with (h | ⟨o, h⟩) | h
  · exact .inl (.inl (e _ _ h))
  · exact .inl (.inr ⟨o, e _ _ h⟩)
  · exact .inr h
theorem sqT_mono {K : PySem.W.Frag} {F F' : Hp} (e : ∀ a o, F a = some o → F' a = some o) {a : Addr} {xs : List V} (h : SqT K F a xs) : SqT K F' a xs := by
  rcases h with (h | ⟨o, h⟩) | h
  · exact .inl (.inl (e _ _ h))
  · exact .inl (.inr ⟨o, e _ _ h⟩)
  · exact .inr h

section
variable {K : PySem.W.Frag} {F F' : Hp} {μ μ' : List Addr}
theorem pre_get {μ μ' : List Addr} (h : μ <+: μ') {i : Nat} {a : Addr} (e : μ[i]? = some a) : μ'[i]? = some a := by
  obtain ⟨t, rfl⟩ := h
  rw [List.getElem?_append_left (List.getElem?_eq_some_iff.mp e).1]
  exact e
mutual
theorem Rep.mono (x : Ext F μ F' μ') : ∀ {d v}, Rep K F μ d v → Rep K F' μ' d v
  | _, _, .non => .non
  | _, _, .bl b => .bl b
  | _, _, .int i => .int i
  | _, _, .str s z => .str s z
  | _, _, .tup h z r => .tup (sqT_mono x.f h) z (Reps.mono x r)
  | _, _, .lst h z r => .lst (x.f _ _ h) z (Reps.mono x r)
  | _, _, .scr h z r => .scr (sqL_mono x.f h) z (Reps.mono x r)
  | _, _, .ty t => .ty t
  | _, _, .dctK h r => .dctK (x.f _ _ h) (RepK.mono x r)
  | _, _, .dctT h r => .dctT (x.f _ _ h) (RepT.mono x r)
  | _, _, .ref h => .ref (pre_get x.m h)
theorem Reps.mono (x : Ext F μ F' μ') : ∀ {d v}, Reps K F μ d v → Reps K F' μ' d v
  | _, _, .nil => .nil
  | _, _, .cons a b => .cons (Rep.mono x a) (Reps.mono x b)
theorem RepK.mono (x : Ext F μ F' μ') : ∀ {d v}, RepK K F μ d v → RepK K F' μ' d v
  | _, _, .nil => .nil
  | _, _, .cons k a b => .cons k (Rep.mono x a) (RepK.mono x b)
theorem RepT.mono (x : Ext F μ F' μ') : ∀ {d v}, RepT K F μ d v → RepT K F' μ' d v
  | _, _, .nil => .nil
  | _, _, .cons k a b => .cons k (Rep.mono x a) (RepT.mono x b)
end
theorem RepO.mono (x : Ext F μ F' μ') {o u} (h : RepO K F μ o u) : RepO K F' μ' o u := by
  cases h with
  | lst z r => exact .lst z (r.mono x)
  | dctK r => exact .dctK (r.mono x)
  | dctT r => exact .dctT (r.mono x)

theorem Reps.length : ∀ {ds vs}, Reps K F μ ds vs → ds.length = vs.length
  | _, _, .nil => rfl
  | _, _, .cons _ t => by rw [List.length_cons, List.length_cons, Reps.length t]
theorem Reps.get : ∀ {ds vs} {i : Nat} {d : D}, Reps K F μ ds vs → ds[i]? = some d → ∃ v, vs[i]? = some v ∧ Rep K F μ d v
  | _, _, _, _, .nil, e => by simp at e
  | _, _, 0, _, .cons r _, e => by simp at e; subst e; exact ⟨_, rfl, r⟩
  | _, _, i + 1, d, .cons _ t, e => by
    obtain ⟨v, h1, h2⟩ := Reps.get (i := i) (d := d) t (by simpa using e)
    exact ⟨v, by simpa using h1, h2⟩
theorem Reps.append : ∀ {ds vs es us}, Reps K F μ ds vs → Reps K F μ es us → Reps K F μ (ds ++ es) (vs ++ us)
  | _, _, _, _, .nil, s => s
  | _, _, _, _, .cons r t, s => .cons r (Reps.append t s)
theorem Reps.take : ∀ {ds vs} (n : Nat), Reps K F μ ds vs → Reps K F μ (ds.take n) (vs.take n)
  | _, _, 0, _ => by simp; exact .nil
  | _, _, _ + 1, .nil => by simp; exact .nil
  | _, _, n + 1, .cons r t => by simp; exact .cons r (Reps.take n t)
theorem Reps.drop : ∀ {ds vs} (n : Nat), Reps K F μ ds vs → Reps K F μ (ds.drop n) (vs.drop n)
  | _, _, 0, r => r
  | _, _, _ + 1, .nil => by simp; exact .nil
  | _, _, n + 1, .cons _ t => by simp; exact Reps.drop n t
theorem Reps.set {d v} (r : Rep K F μ d v) : ∀ {ds vs} (i : Nat), Reps K F μ ds vs → Reps K F μ (ds.set i d) (vs.set i v)
  | _, _, _, .nil => .nil
  | _, _, 0, .cons _ t => .cons r t
  | _, _, i + 1, .cons q t => .cons q (Reps.set r i t)
end

/-! ## the state -/
/-- F: what is known and never written; h: the open objects, by μ's addresses; G: what others hold -/
structure SRel (K : PySem.W.Frag) (F : Hp) (μ : List Addr) (h : HP) (G : Hp) (H : Hp) : Prop where
  sub : ∀ a o, F a = some o → H a = some o
  len : μ.length = h.length
  live : ∀ (i : Nat) (o : O), h[i]? = some (some o) → ∃ a u, μ[i]? = some a ∧ H a = some u ∧ F a = none ∧ G a = none ∧ RepO K F μ o u
  inj : ∀ (i j : Nat) (o o' : O) (a : Addr), h[i]? = some (some o) → h[j]? = some (some o') → μ[i]? = some a → μ[j]? = some a → i = j
  fr : ∀ a o, G a = some o → H a = some o ∧ F a = none

section
variable {K : PySem.W.Frag} {F : Hp} {μ : List Addr} {h : HP} {G H : Hp}
theorem SRel.free (s : SRel K F μ h G H) {p : Addr} (n : H p = none) : F p = none ∧ G p = none := by
  refine ⟨?_, ?_⟩
  · cases e : F p with
    | none => rfl
    | some o => rw [s.sub p o e] at n; cases n
  · cases e : G p with
    | none => rfl
    | some o => rw [(s.fr p o e).1] at n; cases n
/-- a new thing that is never written -/
theorem SRel.know (s : SRel K F μ h G H) {p : Addr} {o : HO} (n : H p = none) : SRel K (upd F p o) μ h G (upd H p o) ∧ Ext F μ (upd F p o) μ := by
  obtain ⟨nF, nG⟩ := s.free n
  have x : Ext F μ (upd F p o) μ := ⟨fun a u e => by rw [upd_ne (ne_of_none e nF)]; exact e, List.prefix_refl μ⟩
  refine ⟨⟨fun a u e => ?_, s.len, fun i u e => ?_, s.inj, fun a u e => ?_⟩, x⟩
  · by_cases z : a = p
    · subst z; rw [upd_same] at e ⊢; exact e
    · rw [upd_ne z] at e ⊢; exact s.sub a u e
  · obtain ⟨a, w, h1, h2, h3, h4, h5⟩ := s.live i u e
    have z := ne_of_none h2 n
    exact ⟨a, w, h1, by rw [upd_ne z]; exact h2, by rw [upd_ne z]; exact h3, h4, h5.mono x⟩
  · obtain ⟨h1, h2⟩ := s.fr a u e
    have z := ne_of_none h1 n
    exact ⟨by rw [upd_ne z]; exact h1, by rw [upd_ne z]; exact h2⟩
/-- a new open object -/
theorem SRel.open_ (s : SRel K F μ h G H) {p : Addr} {o : O} {u : HO} (n : H p = none) (r : RepO K F μ o u) : SRel K F (μ ++ [p]) (h ++ [some o]) G (upd H p u) ∧ Ext F μ F (μ ++ [p]) := by
  obtain ⟨nF, nG⟩ := s.free n
  have x : Ext F μ F (μ ++ [p]) := ⟨fun _ _ e => e, List.prefix_append μ [p]⟩
  have old : ∀ {i : Nat} {w : O}, (h ++ [some o])[i]? = some (some w) → i < h.length → h[i]? = some (some w) := fun {i w} e hi => by
    rw [List.getElem?_append_left hi] at e; exact e
  have lst : ∀ {i : Nat} {w : O}, (h ++ [some o])[i]? = some (some w) → ¬ i < h.length → i = h.length ∧ w = o := fun {i w} e hi => by
    have hl := (List.getElem?_eq_some_iff.mp e).1
    rw [List.length_append, List.length_singleton] at hl
    have e1 : i = h.length := by omega
    subst e1
    rw [List.getElem?_append_right (Nat.le_refl _)] at e
    simp at e
    exact ⟨rfl, e.symm⟩
  have atL : (μ ++ [p])[h.length]? = some p := by rw [← s.len]; simp
  refine ⟨⟨fun a w e => ?_, by simp [s.len], fun i w e => ?_, fun i j w w' a e e' m m' => ?_, fun a w e => ?_⟩, x⟩
  · rw [upd_ne (ne_of_none e nF)]; exact s.sub a w e
  · by_cases hi : i < h.length
    · obtain ⟨a, w', h1, h2, h3, h4, h5⟩ := s.live i w (old e hi)
      have z := ne_of_none h2 n
      exact ⟨a, w', pre_get x.m h1, by rw [upd_ne z]; exact h2, h3, h4, h5.mono x⟩
    · obtain ⟨rfl, rfl⟩ := lst e hi
      exact ⟨p, u, atL, upd_same, nF, nG, r.mono x⟩
  · have key : ∀ {k : Nat} {v : O}, (h ++ [some o])[k]? = some (some v) → k < h.length → (μ ++ [p])[k]? = some p → False := fun {k v} e hk m => by
      obtain ⟨a, w', h1, h2, _⟩ := s.live k v (old e hk)
      have := pre_get x.m h1
      rw [m] at this; cases this
      rw [n] at h2; cases h2
    by_cases hi : i < h.length
    · by_cases hj : j < h.length
      · have mi : μ[i]? = some a := by
          rw [List.getElem?_append_left (by rw [s.len]; exact hi)] at m; exact m
        have mj : μ[j]? = some a := by
          rw [List.getElem?_append_left (by rw [s.len]; exact hj)] at m'; exact m'
        exact s.inj i j w w' a (old e hi) (old e' hj) mi mj
      · obtain ⟨rfl, rfl⟩ := lst e' hj
        rw [atL] at m'; cases m'
        exact (key e hi m).elim
    · obtain ⟨rfl, rfl⟩ := lst e hi
      rw [atL] at m; cases m
      by_cases hj : j < h.length
      · exact (key e' hj m').elim
      · exact (lst e' hj).1.symm
  · obtain ⟨h1, h2⟩ := s.fr a w e
    exact ⟨by rw [upd_ne (ne_of_none h1 n)]; exact h1, h2⟩
/-- an open object is written -/
theorem SRel.write (s : SRel K F μ h G H) {i : Nat} {o o' : O} {a : Addr} {u : HO} (e : h[i]? = some (some o)) (m : μ[i]? = some a) (r : RepO K F μ o' u) : SRel K F μ (h.set i (some o')) G (upd H a u) := by
  obtain ⟨a', u', m', h2, h3, h4, h5⟩ := s.live i o e
  rw [m] at m'; cases m'
  have hi := (List.getElem?_eq_some_iff.mp e).1
  have old : ∀ {j : Nat} {w : O}, (h.set i (some o'))[j]? = some (some w) → j ≠ i → h[j]? = some (some w) := fun {j w} q hj => by
    rw [List.getElem?_set_ne (Ne.symm hj)] at q; exact q
  refine ⟨fun b w q => ?_, by rw [List.length_set]; exact s.len, fun j w q => ?_, fun j k w w' b q q' mj mk => ?_, fun b w q => ?_⟩
  · rw [upd_ne (ne_of_none q h3)]; exact s.sub b w q
  · by_cases hj : j = i
    · subst hj
      rw [List.getElem?_set_self hi] at q
      cases q
      exact ⟨a, u, m, upd_same, h3, h4, r⟩
    · have q0 := old q hj
      obtain ⟨b, w', g1, g2, g3, g4, g5⟩ := s.live j w q0
      have z : b ≠ a := fun z => by subst z; exact hj (s.inj j i w o b q0 e g1 m)
      exact ⟨b, w', g1, by rw [upd_ne z]; exact g2, g3, g4, g5⟩
  · have any : ∀ {j : Nat} {w : O}, (h.set i (some o'))[j]? = some (some w) → ∃ w0, h[j]? = some (some w0) := fun {j w} q => by
      by_cases hj : j = i
      · subst hj; exact ⟨o, e⟩
      · exact ⟨w, old q hj⟩
    obtain ⟨w1, q1⟩ := any q
    obtain ⟨w2, q2⟩ := any q'
    exact s.inj j k w1 w2 b q1 q2 mj mk
  · obtain ⟨g1, g2⟩ := s.fr b w q
    exact ⟨by rw [upd_ne (ne_of_none q h4)]; exact g1, g2⟩
/-- the younger open objects are forgotten -/
theorem SRel.take {n : Nat} (s : SRel K F μ h G H) (hn : n ≤ h.length) (old : ∀ (i : Nat) (o : O), i < n → h[i]? = some (some o) → ∀ u, RepO K F μ o u → RepO K F (μ.take n) o u) : SRel K F (μ.take n) (h.take n) G H := by
  have hl := s.len
  have at' : ∀ {i : Nat} {o : O}, (h.take n)[i]? = some (some o) → i < n ∧ h[i]? = some (some o) := fun {i o} e => by
    have hi := (List.getElem?_eq_some_iff.mp e).1
    rw [List.length_take] at hi
    have hi2 : i < n := by omega
    rw [List.getElem?_take_of_lt hi2] at e
    exact ⟨hi2, e⟩
  refine ⟨s.sub, by rw [List.length_take, List.length_take, hl], fun i o e => ?_, fun i j o o' a e e' m m' => ?_, s.fr⟩
  · obtain ⟨hi, e0⟩ := at' e
    obtain ⟨a, u, h1, h2, h3, h4, h5⟩ := s.live i o e0
    exact ⟨a, u, by rw [List.getElem?_take_of_lt hi]; exact h1, h2, h3, h4, old i o hi e0 u h5⟩
  · obtain ⟨hi, e0⟩ := at' e
    obtain ⟨hj, e0'⟩ := at' e'
    rw [List.getElem?_take_of_lt hi] at m
    rw [List.getElem?_take_of_lt hj] at m'
    exact s.inj i j o o' a e0 e0' m m'
end
end Zs

/-! Fb -/
namespace Zs
open PySem PySem.Spec L2
open PyProof.Rows hiding St

/-! ## what is wanted behind a computation -/
structure Gm where
  K : PySem.W.Frag
  cA : Nat → Addr

structure REnv (K : PySem.W.Frag) (F : Hp) (μ : List Addr) (ρ : Env') (σ : St) : Prop where
  len : ρ.length = σ.length
  at_ : ∀ (i : Nat) (d : D), ρ[i]? = some (some d) → ∃ v, σ[i]? = some (some v) ∧ Rep K F μ d v
theorem REnv.mono {K : PySem.W.Frag} {F F' : Hp} {μ μ' : List Addr} {ρ : Env'} {σ : St} (e : REnv K F μ ρ σ) (x : Ext F μ F' μ') : REnv K F' μ' ρ σ :=
  ⟨e.len, fun i d h => let ⟨v, a, b⟩ := e.at_ i d h; ⟨v, a, b.mono x⟩⟩
theorem REnv.set {K : PySem.W.Frag} {F : Hp} {μ : List Addr} {ρ : Env'} {σ : St} (e : REnv K F μ ρ σ) {d : D} {v : V} (r : Rep K F μ d v) (i : Nat) : REnv K F μ (ρ.set i (some d)) (σ.set i (some v)) := by
  refine ⟨by simp [e.len], fun j d' h => ?_⟩
  by_cases hj : i = j
  · subst hj
    have hi := (List.getElem?_eq_some_iff.mp h).1
    rw [List.length_set] at hi
    rw [List.getElem?_set_self hi] at h
    cases h
    exact ⟨v, by rw [List.getElem?_set_self (by rw [← e.len]; exact hi)], r⟩
  · rw [List.getElem?_set_ne hj] at h
    rw [List.getElem?_set_ne hj]
    exact e.at_ j d' h
theorem REnv.unset {K : PySem.W.Frag} {F : Hp} {μ : List Addr} {ρ : Env'} {σ : St} (e : REnv K F μ ρ σ) (i : Nat) : REnv K F μ (ρ.set i none) (σ.set i none) := by
  refine ⟨by simp [e.len], fun j d' h => ?_⟩
  by_cases hj : i = j
  · subst hj
    by_cases hi : i < ρ.length
    · rw [List.getElem?_set_self hi] at h; cases h
    · rw [List.getElem?_eq_none (by simpa using hi)] at h; cases h
  · rw [List.getElem?_set_ne hj] at h
    rw [List.getElem?_set_ne hj]
    exact e.at_ j d' h
/-- the own slots of a block forgotten -/
def wipeE (ρ : Env') : List Nat → Env'
  | [] => ρ
  | v :: vs => (wipeE ρ vs).set v none
theorem REnv.wipe {K : PySem.W.Frag} {F : Hp} {μ : List Addr} {ρ : Env'} {σ : St} (e : REnv K F μ ρ σ) : ∀ vs, REnv K F μ (wipeE ρ vs) (wipe σ vs)
  | [] => e
  | v :: vs => (REnv.wipe e vs).unset v

section
variable (g : Gm)
/-- what an exception asks -/
def excP (W : WX) (F : Hp) (μ : List Addr) (G : Hp) (σ : St) (c : Nat) (x : D) (h' : HP) : Prop :=
  ∀ F' μ' H' dd v, Ext F μ F' μ' → SRel g.K F' μ' h' G H' → Rep g.K F' μ' x v → F' dd = some (.xd [("value", v)]) → W (.ref (g.cA c)) (some dd) σ H'
def post {α β : Type} (rel : Hp → List Addr → α → β → Prop) (W : WX) (F : Hp) (μ : List Addr) (G : Hp) (σ : St) (Q : β → Hp → Prop) : R α → Prop
  | .ok d h' => ∀ F' μ' H' v, Ext F μ F' μ' → SRel g.K F' μ' h' G H' → rel F' μ' d v → Q v H'
  | .exc c x h' => excP g W F μ G σ c x h'
  | .bad => False
abbrev relD : Hp → List Addr → D → V → Prop := fun F μ d v => Rep g.K F μ d v
abbrev relA : Hp → List Addr → List D → List V → Prop := fun F μ d v => Reps g.K F μ d v
abbrev relB : Hp → List Addr → Bool → Bool → Prop := fun _ _ a b => a = b

def tE (W : WX) (m : EM) : TE := fun σ H Q => ∃ F μ h G ρ, SRel g.K F μ h G H ∧ REnv g.K F μ ρ σ ∧ post g (relD g) W F μ G σ Q (m ρ h)
def tA (W : WX) (m : AM) : TA := fun σ H Q => ∃ F μ h G ρ, SRel g.K F μ h G H ∧ REnv g.K F μ ρ σ ∧ post g (relA g) W F μ G σ Q (m ρ h)
def tT (W : WX) (m : TM) : TT := fun σ H Q => ∃ F μ h G ρ, SRel g.K F μ h G H ∧ REnv g.K F μ ρ σ ∧ post g (relB) W F μ G σ Q (m ρ h)
end
section
variable {g : Gm} {W : WX} {F F1 : Hp} {μ μ1 : List Addr} {G H : Hp} {σ : St} {h : HP} {ρ : Env'}
theorem excP.mono {c x h'} (e : excP g W F μ G σ c x h') (y : Ext F μ F1 μ1) : excP g W F1 μ1 G σ c x h' :=
  fun F' μ' H' dd v z => e F' μ' H' dd v (y.trans z)
theorem post.mono {α β : Type} {rel : Hp → List Addr → α → β → Prop} {Q : β → Hp → Prop} {r : R α} (e : post g rel W F μ G σ Q r) (y : Ext F μ F1 μ1) : post g rel W F1 μ1 G σ Q r := by
  cases r with
  | ok d h' => exact fun F' μ' H' v z => e F' μ' H' v (y.trans z)
  | exc c x h' => exact excP.mono e y
  | bad => exact e
/-- the first computation, then what hangs on it -/
theorem post_bnd {α β γ δ : Type} {rel : Hp → List Addr → α → β → Prop} {rel' : Hp → List Addr → γ → δ → Prop} {Q : δ → Hp → Prop} {C : β → Hp → Prop} {r : R α} {f : α → HP → R γ}
    (e : post g rel' W F μ G σ Q (r.bnd f))
    (k : ∀ F1 μ1 h1 H1 d v, Ext F μ F1 μ1 → SRel g.K F1 μ1 h1 G H1 → rel F1 μ1 d v → post g rel' W F1 μ1 G σ Q (f d h1) → C v H1) : post g rel W F μ G σ C r := by
  cases r with
  | ok d h' => exact fun F' μ' H' v x s q => k F' μ' h' H' d v x s q (post.mono e x)
  | exc c x h' => exact e
  | bad => exact e
theorem post_ok {α β : Type} {rel : Hp → List Addr → α → β → Prop} {Q : β → Hp → Prop} {d : α} (e : post g rel W F μ G σ Q (.ok d h)) (s : SRel g.K F μ h G H) {v : β} (q : rel F μ d v) : Q v H :=
  e F μ H v (Ext.refl F μ) s q
/-- a new known thing -/
theorem post_know {α : Type} {rel : Hp → List Addr → α → V → Prop} {Q : VK} {d : α} (e : post g rel W F μ G σ Q (.ok d h)) (s : SRel g.K F μ h G H) {o : HO} (q : ∀ p F', Ext F μ F' μ → F' p = some o → rel F' μ d (.ref p)) :
    ∀ p, H p = none → Q (.ref p) (upd H p o) := fun p n => by
  obtain ⟨s', x⟩ := s.know (o := o) n
  exact e _ _ _ _ x s' (q p _ x upd_same)
end

/-- weaker wishes -/
theorem _root_.L2.PE.imp {X : Cx} {e : Expr} {t t' : TE} (p : PE X e t) (h : ∀ σ H Q, t' σ H Q → t σ H Q) : PE X e t' := ⟨fun pins s σ H Q I hw => p.run pins s σ H Q I (h _ _ _ hw)⟩
theorem _root_.L2.PT.imp {X : Cx} {e : Expr} {t t' : TT} (p : PT X e t) (h : ∀ σ H Q, t' σ H Q → t σ H Q) : PT X e t' := ⟨fun pins s σ H Q I hw => p.run pins s σ H Q I (h _ _ _ hw)⟩
theorem _root_.L2.PW.imp {X : Cx} {e : Expr} {t t' : TT} (p : PW X e t) (h : ∀ σ H Q, t' σ H Q → t σ H Q) : PW X e t' := ⟨fun wh pins s σ H Q I hw => p.run wh pins s σ H Q I (h _ _ _ hw)⟩
theorem _root_.L2.PA.imp {X : Cx} {e : List Expr} {t t' : TA} (p : PA X e t) (h : ∀ σ H Q, t' σ H Q → t σ H Q) : PA X e t' := ⟨fun pos pins s σ H Q I hw => p.run pos pins s σ H Q I (h _ _ _ hw)⟩
theorem _root_.L2.PS.imp {X : Cx} {e : Stmt} {t t' : TS} (p : PS X e t) (h : ∀ D σ H, t' D σ H → t D σ H) : PS X e t' := ⟨fun pins s σ H D I hw => p.run pins s σ H D I (h _ _ _ hw)⟩
theorem _root_.L2.PSs.imp {X : Cx} {e : List Stmt} {t t' : TS} (p : PSs X e t) (h : ∀ D σ H, t' D σ H → t D σ H) : PSs X e t' := ⟨fun pins s σ H D I hw => p.run pins s σ H D I (h _ _ _ hw)⟩

/-! ## the words: expressions -/
def eC (d : D) : EM := fun _ h => .ok d h
def eV (i : Nat) : EM := fun ρ h => match ρ[i]? with
  | some (some d) => .ok d h
  | _ => .bad
/-- one operand, two -/
def e1 (f : D → HP → R D) (a : EM) : EM := fun ρ h => (a ρ h).bnd f
def e2 (f : D → D → HP → R D) (a b : EM) : EM := fun ρ h => (a ρ h).bnd fun x h1 => (b ρ h1).bnd fun y h2 => f x y h2
def aN : AM := fun _ h => .ok [] h
def aC (a : EM) (r : AM) : AM := fun ρ h => (a ρ h).bnd fun x h1 => (r ρ h1).bnd fun xs h2 => .ok (x :: xs) h2
def eA (f : List D → HP → R D) (a : AM) : EM := fun ρ h => (a ρ h).bnd f
/-- and, or, not, if of truth values -/
def asB (x : D) (h : HP) : R Bool := match x with
  | .bl b => .ok b h
  | _ => .bad
def tV (a : EM) : TM := fun ρ h => (a ρ h).bnd asB
def tN (a : TM) : TM := fun ρ h => (a ρ h).bnd fun b h1 => .ok (!b) h1
def tAn (a b : TM) : TM := fun ρ h => (a ρ h).bnd fun c h1 => bif c then b ρ h1 else .ok false h1
def tOr' (a b : TM) : TM := fun ρ h => (a ρ h).bnd fun c h1 => bif c then .ok true h1 else b ρ h1
def eIf (t : TM) (a b : EM) : EM := fun ρ h => (t ρ h).bnd fun c h1 => bif c then a ρ h1 else b ρ h1
def eAn (a b : EM) : EM := fun ρ h => (a ρ h).bnd fun x h1 => (asB x h1).bnd fun c h2 => bif c then b ρ h2 else .ok (.bl false) h2
def eOr (a b : EM) : EM := fun ρ h => (a ρ h).bnd fun x h1 => (asB x h1).bnd fun c h2 => bif c then .ok (.bl true) h2 else b ρ h2
def eNo (a : EM) : EM := fun ρ h => (a ρ h).bnd fun x h1 => (asB x h1).bnd fun c h2 => .ok (.bl (!c)) h2
/-- a < b < c -/
def e2c (f f' : D → D → HP → R D) (a b c : EM) : EM := fun ρ h => (a ρ h).bnd fun x h1 => (b ρ h1).bnd fun y h2 => (f x y h2).bnd fun z h3 => (asB z h3).bnd fun k h4 =>
  bif k then (c ρ h4).bnd fun w h5 => f' y w h5 else .ok (.bl false) h4

section
variable {X : Cx} {g : Gm} {W : WX} {pos : Pos}
theorem asB_post {α β : Type} {rel : Hp → List Addr → α → β → Prop} {F : Hp} {μ : List Addr} {G : Hp} {σ : St} {Q : β → Hp → Prop} {x : D} {h : HP} {v : V} {f : Bool → HP → R α} (r : Rep g.K F μ x v) (e : post g rel W F μ G σ Q ((asB x h).bnd f)) :
    ∃ c, v = .bl c ∧ post g rel W F μ G σ Q (f c h) := by
  cases x with
  | bl b => cases r; exact ⟨b, rfl, e⟩
  | _ => exact e.elim
theorem se_c {e : Expr} {d : D} {v : V} (p : PE X e (tC v)) (r : ∀ F μ, Rep g.K F μ d v) : PE X e (tE g W (eC d)) :=
  p.imp fun σ H Q ⟨F, μ, h, G, ρ, s, en, q⟩ => post_ok (g := g) (rel := relD g) q s (r F μ)
theorem se_v {i : Nat} {e : Expr} (p : PE X e (tVar i)) : PE X e (tE g W (eV i)) := p.imp fun σ H Q ⟨F, μ, h, G, ρ, s, en, q⟩ => by
  unfold eV at q
  split at q
  · rename_i d hd
    obtain ⟨v, h1, h2⟩ := en.at_ i d hd
    exact ⟨v, h1, post_ok (g := g) (rel := relD g) q s h2⟩
  · exact q.elim
/-- what a one-place operation f is, over the layer's rule r -/
def U1 (g : Gm) (W : WX) (f : D → HP → R D) (r : V → Hp → VK → Prop) : Prop :=
  ∀ F μ h G H σ x v Q, SRel g.K F μ h G H → Rep g.K F μ x v → post g (relD g) W F μ G σ Q (f x h) → r v H Q
def U2 (g : Gm) (W : WX) (f : D → D → HP → R D) (r : R2) : Prop :=
  ∀ F μ h G H σ x v y u Q, SRel g.K F μ h G H → Rep g.K F μ x v → Rep g.K F μ y u → post g (relD g) W F μ G σ Q (f x y h) → r v u H Q
def UA (g : Gm) (W : WX) (f : List D → HP → R D) (r : List V → Hp → VK → Prop) : Prop :=
  ∀ F μ h G H σ x v Q, SRel g.K F μ h G H → Reps g.K F μ x v → post g (relD g) W F μ G σ Q (f x h) → r v H Q
theorem t1_of {f : D → HP → R D} {r : V → Hp → VK → Prop} (u : U1 g W f r) {a : EM} : ∀ σ H Q, tE g W (e1 f a) σ H Q → tE g W a σ H fun x H1 => r x H1 Q := fun σ H Q ⟨F, μ, h, G, ρ, s, en, q⟩ =>
  ⟨F, μ, h, G, ρ, s, en, post_bnd (g := g) q fun F1 μ1 h1 H1 d v x s1 rv q1 => u F1 μ1 h1 G H1 σ d v Q s1 rv q1⟩
theorem t2_of {f : D → D → HP → R D} {r : R2} (u : U2 g W f r) {a b : EM} : ∀ σ H Q, tE g W (e2 f a b) σ H Q → tE g W a σ H fun x H1 => tE g W b σ H1 fun y H2 => r x y H2 Q := fun σ H Q ⟨F, μ, h, G, ρ, s, en, q⟩ =>
  ⟨F, μ, h, G, ρ, s, en, post_bnd (g := g) q fun F1 μ1 h1 H1 d v x s1 rv q1 =>
    ⟨F1, μ1, h1, G, ρ, s1, en.mono x, post_bnd (g := g) q1 fun F2 μ2 h2 H2 d2 v2 x2 s2 rv2 q2 => u F2 μ2 h2 G H2 σ d v d2 v2 Q s2 (rv.mono x2) rv2 q2⟩⟩
theorem tA_of {f : List D → HP → R D} {r : List V → Hp → VK → Prop} (u : UA g W f r) {a : AM} : ∀ σ H Q, tE g W (eA f a) σ H Q → tA g W a σ H fun x H1 => r x H1 Q := fun σ H Q ⟨F, μ, h, G, ρ, s, en, q⟩ =>
  ⟨F, μ, h, G, ρ, s, en, post_bnd (g := g) q fun F1 μ1 h1 H1 d v x s1 rv q1 => u F1 μ1 h1 G H1 σ d v Q s1 rv q1⟩
theorem sa_n : PA X [] (tA g W aN) := pa_nil.imp fun σ H Q ⟨F, μ, h, G, ρ, s, en, q⟩ => post_ok (g := g) (rel := relA g) q s .nil
theorem sa_c {e : Expr} {es : List Expr} {a : EM} {r : AM} (ha : PE X e (tE g W a)) (hr : PA X es (tA g W r)) (hs : starEach (e :: es) X.env = (false, eval e X.env) :: starEach es X.env) : PA X (e :: es) (tA g W (aC a r)) :=
  (pa_cons ha hr hs).imp fun σ H Q ⟨F, μ, h, G, ρ, s, en, q⟩ =>
    ⟨F, μ, h, G, ρ, s, en, post_bnd (g := g) q fun F1 μ1 h1 H1 d v x s1 rv q1 =>
      ⟨F1, μ1, h1, G, ρ, s1, en.mono x, post_bnd (g := g) q1 fun F2 μ2 h2 H2 d2 v2 x2 s2 rv2 q2 => post_ok (g := g) (rel := relA g) q2 s2 (.cons (rv.mono x2) rv2)⟩⟩
/-- tests -/
theorem st_v {e : Expr} {a : EM} (ha : PE X e (tE g W a)) (he : ∀ whole, isTrue e X.env whole = (do let v ← whole; standAt e.pos; holding [v] (truthy v))) : PT X e (tT g W (tV a)) :=
  (pt_val ha he).imp fun σ H Q ⟨F, μ, h, G, ρ, s, en, q⟩ => ⟨F, μ, h, G, ρ, s, en, post_bnd (g := g) q fun F1 μ1 h1 H1 d v x s1 rv q1 => by
    cases d with
    | bl b => cases rv; exact ⟨b, rfl, post_ok (g := g) (rel := relB) q1 s1 rfl⟩
    | _ => exact q1.elim⟩
theorem st_n {e : Expr} {a : TM} (ha : PT X e (tT g W a)) : PT X (.UnaryOp .Not e pos) (tT g W (tN a)) :=
  (pt_not ha).imp fun σ H Q ⟨F, μ, h, G, ρ, s, en, q⟩ => ⟨F, μ, h, G, ρ, s, en, post_bnd (g := g) q fun F1 μ1 h1 H1 d v x s1 rv q1 => by
    cases rv; exact post_ok (g := g) (rel := relB) q1 s1 rfl⟩
theorem tTan {a b : TM} : ∀ σ H Q, tT g W (tAn a b) σ H Q → tAnd (tT g W a) (tT g W b) σ H Q := fun σ H Q ⟨F, μ, h, G, ρ, s, en, q⟩ =>
  ⟨F, μ, h, G, ρ, s, en, post_bnd (g := g) q fun F1 μ1 h1 H1 d v x s1 rv q1 => by
    cases rv
    cases d with
    | true => exact ⟨F1, μ1, h1, G, ρ, s1, en.mono x, q1⟩
    | false => exact post_ok (g := g) (rel := relB) q1 s1 rfl⟩
theorem tTor {a b : TM} : ∀ σ H Q, tT g W (tOr' a b) σ H Q → tOr (tT g W a) (tT g W b) σ H Q := fun σ H Q ⟨F, μ, h, G, ρ, s, en, q⟩ =>
  ⟨F, μ, h, G, ρ, s, en, post_bnd (g := g) q fun F1 μ1 h1 H1 d v x s1 rv q1 => by
    cases rv
    cases d with
    | true => exact post_ok (g := g) (rel := relB) q1 s1 rfl
    | false => exact ⟨F1, μ1, h1, G, ρ, s1, en.mono x, q1⟩⟩
theorem se_if {c a b : Expr} {t : TM} {ma mb : EM} (hc : PT X c (tT g W t)) (ha : PE X a (tE g W ma)) (hb : PE X b (tE g W mb)) : PE X (.IfExp c a b pos) (tE g W (eIf t ma mb)) :=
  (pe_ifExp hc ha hb).imp fun σ H Q ⟨F, μ, h, G, ρ, s, en, q⟩ => ⟨F, μ, h, G, ρ, s, en, post_bnd (g := g) q fun F1 μ1 h1 H1 d v x s1 rv q1 => by
    cases rv
    cases d with
    | true => exact ⟨F1, μ1, h1, G, ρ, s1, en.mono x, q1⟩
    | false => exact ⟨F1, μ1, h1, G, ρ, s1, en.mono x, q1⟩⟩
theorem se_an {a b : Expr} {rest : List Expr} {ma mb : EM} (ha : PE X a (tE g W ma)) (hb : PE X (.BoolOp .And (b :: rest) pos) (tE g W mb)) : PE X (.BoolOp .And (a :: b :: rest) pos) (tE g W (eAn ma mb)) :=
  (pe_and ha hb).imp fun σ H Q ⟨F, μ, h, G, ρ, s, en, q⟩ => ⟨F, μ, h, G, ρ, s, en, post_bnd (g := g) q fun F1 μ1 h1 H1 d v x s1 rv q1 => by
    obtain ⟨c, rfl, q2⟩ := asB_post rv q1
    refine ⟨c, rfl, ?_⟩
    cases c with
    | true => exact ⟨F1, μ1, h1, G, ρ, s1, en.mono x, q2⟩
    | false => exact post_ok (g := g) (rel := relD g) q2 s1 (.bl false)⟩
theorem se_or {a b : Expr} {rest : List Expr} {ma mb : EM} (ha : PE X a (tE g W ma)) (hb : PE X (.BoolOp .Or (b :: rest) pos) (tE g W mb)) : PE X (.BoolOp .Or (a :: b :: rest) pos) (tE g W (eOr ma mb)) :=
  (pe_or ha hb).imp fun σ H Q ⟨F, μ, h, G, ρ, s, en, q⟩ => ⟨F, μ, h, G, ρ, s, en, post_bnd (g := g) q fun F1 μ1 h1 H1 d v x s1 rv q1 => by
    obtain ⟨c, rfl, q2⟩ := asB_post rv q1
    refine ⟨c, rfl, ?_⟩
    cases c with
    | true => exact post_ok (g := g) (rel := relD g) q2 s1 (.bl true)
    | false => exact ⟨F1, μ1, h1, G, ρ, s1, en.mono x, q2⟩⟩
theorem se_no {a : Expr} {ma : EM} (ha : PE X a (tE g W ma)) : PE X (.UnaryOp .Not a pos) (tE g W (eNo ma)) :=
  (pe_not ha).imp fun σ H Q ⟨F, μ, h, G, ρ, s, en, q⟩ => ⟨F, μ, h, G, ρ, s, en, post_bnd (g := g) q fun F1 μ1 h1 H1 d v x s1 rv q1 => by
    obtain ⟨c, rfl, q2⟩ := asB_post rv q1
    exact ⟨c, rfl, post_ok (g := g) (rel := relD g) q2 s1 (.bl _)⟩⟩
/-- operators -/
theorem se_bin {a b : Expr} {op : Operator} {ma mb : EM} {f : D → D → HP → R D} {r : R2} (ho : OpR X (binaryOp op) r) (u : U2 g W f r) (ha : PE X a (tE g W ma)) (hb : PE X b (tE g W mb)) : PE X (.BinOp a op b pos) (tE g W (e2 f ma mb)) :=
  (pe_op ho ha hb).imp (t2_of u)
theorem se_un {a : Expr} {op : UnaryOp} {ma : EM} {f : D → HP → R D} {r : V → Hp → VK → Prop} (ho : UnR X (unaryOp op) r) (u : U1 g W f r) (ha : PE X a (tE g W ma)) : PE X (.UnaryOp op a pos) (tE g W (e1 f ma)) :=
  (pe_un ho ha).imp (t1_of u)
theorem se_cmp {a b : Expr} {op : CmpOp} {ma mb : EM} {f : D → D → HP → R D} {r : R2} (ho : OpR X (compareOp op) r) (u : U2 g W f r) (ha : PE X a (tE g W ma)) (hb : PE X b (tE g W mb)) (hm : behindInMarks op b = false) : PE X (.Compare a [op] [b] pos) (tE g W (e2 f ma mb)) :=
  (pe_cmpR ho ha hb hm).imp (t2_of u)
/-- a comparison as a test -/
theorem st_cmp {a b : Expr} {op : CmpOp} {ma mb : EM} {f : D → D → HP → R D} {r : R2} (ho : OpR X (compareOp op) r) (u : U2 g W f r) (ha : PE X a (tE g W ma)) (hb : PE X b (tE g W mb)) (hm : behindInMarks op b = false) : PT X (.Compare a [op] [b] pos) (tT g W (tV (e2 f ma mb))) :=
  (pt_cmpR ho ha hb hm).imp fun σ H Q ⟨F, μ, h, G, ρ, s, en, q⟩ => by
    have q' : tE g W (e2 f ma mb) σ H fun x H' => ∃ k, x = .bl k ∧ Q k H' := ⟨F, μ, h, G, ρ, s, en, post_bnd (g := g) q fun F1 μ1 h1 H1 d v x s1 rv q1 => by
      cases d with
      | bl b => cases rv; exact ⟨b, rfl, post_ok (g := g) (rel := relB) q1 s1 rfl⟩
      | _ => exact q1.elim⟩
    exact t2_of u σ H _ q'
theorem tch {f f' : D → D → HP → R D} {r r' : R2} (u : U2 g W f r) (u' : U2 g W f' r') {a b c : EM} : ∀ σ H Q, tE g W (e2c f f' a b c) σ H Q → tChain r r' (tE g W a) (tE g W b) (tE g W c) σ H Q := fun σ H Q ⟨F, μ, h, G, ρ, s, en, q⟩ =>
  ⟨F, μ, h, G, ρ, s, en, post_bnd (g := g) q fun F1 μ1 h1 H1 d v x s1 rv q1 =>
    ⟨F1, μ1, h1, G, ρ, s1, en.mono x, post_bnd (g := g) q1 fun F2 μ2 h2 H2 d2 v2 x2 s2 rv2 q2 => by
      refine u F2 μ2 h2 G H2 σ d v d2 v2 _ s2 (rv.mono x2) rv2 (post_bnd (g := g) q2 fun F3 μ3 h3 H3 d3 v3 x3 s3 rv3 q3 => ?_)
      obtain ⟨k, rfl, q4⟩ := asB_post rv3 q3
      refine ⟨k, rfl, ?_⟩
      cases k with
      | true => exact ⟨F3, μ3, h3, G, ρ, s3, en.mono (x.trans (x2.trans x3)), post_bnd (g := g) q4 fun F4 μ4 h4 H4 d4 v4 x4 s4 rv4 q5 => u' F4 μ4 h4 G H4 σ d2 v2 d4 v4 Q s4 (rv2.mono (x3.trans x4)) rv4 q5⟩
      | false => exact post_ok (g := g) (rel := relD g) q4 s3 (.bl false)⟩⟩
theorem se_ch {a b c : Expr} {op op' : CmpOp} {ma mb mc : EM} {f f' : D → D → HP → R D} {r r' : R2} (ho : OpR X (compareOp op) r) (ho' : OpR X (compareOp op') r') (u : U2 g W f r) (u' : U2 g W f' r') (ha : PE X a (tE g W ma)) (hb : PE X b (tE g W mb)) (hc : PE X c (tE g W mc))
    (hm : lastMarks [op, op'] [b, c] = false) : PE X (.Compare a [op, op'] [b, c] pos) (tE g W (e2c f f' ma mb mc)) :=
  (pe_chain ho ho' ha hb hc hm).imp (tch u u')
theorem st_ch {a b c : Expr} {op op' : CmpOp} {ma mb mc : EM} {f f' : D → D → HP → R D} {r r' : R2} (ho : OpR X (compareOp op) r) (ho' : OpR X (compareOp op') r') (u : U2 g W f r) (u' : U2 g W f' r') (ha : PE X a (tE g W ma)) (hb : PE X b (tE g W mb)) (hc : PE X c (tE g W mc))
    (hm : lastMarks [op, op'] [b, c] = false) : PT X (.Compare a [op, op'] [b, c] pos) (tT g W (tV (e2c f f' ma mb mc))) :=
  (pt_chain ho ho' ha hb hc hm).imp fun σ H Q ⟨F, μ, h, G, ρ, s, en, q⟩ => by
    have q' : tE g W (e2c f f' ma mb mc) σ H fun x H' => ∃ k, x = .bl k ∧ Q k H' := ⟨F, μ, h, G, ρ, s, en, post_bnd (g := g) q fun F1 μ1 h1 H1 d v x s1 rv q1 => by
      cases d with
      | bl b => cases rv; exact ⟨b, rfl, post_ok (g := g) (rel := relB) q1 s1 rfl⟩
      | _ => exact q1.elim⟩
    exact tch u u' σ H _ q'
end
end Zs

/-! Fc -/
noncomputable section
namespace Zs
open PySem PySem.Spec L2
open PyProof.Rows hiding St
open Classical

section
variable {g : Gm} {W : WX} {K : PySem.W.Frag} {F : Hp} {μ : List Addr} {G H : Hp} {σ : L2.St} {h : HP}

theorem strV_len (s : List Nat) : (strV s).length = s.length := by simp [strV, Str.length]
theorem strV_list (s : List Nat) : (strV s).cps.toList = s := by simp [strV]
theorem strV_inj {s t : List Nat} (e : strV s = strV t) : s = t := by
  have := congrArg (fun z : Str => z.cps.toList) e
  simpa [strV] using this
theorem strV_iff {s t : List Nat} : strV s = strV t ↔ s = t := ⟨strV_inj, fun z => by rw [z]⟩
theorem strV_app (s t : List Nat) : strV s ++ strV t = strV (s ++ t) := by
  show Str.append _ _ = _
  unfold Str.append strV
  simp

/-! ### reading lists, tuples -/
/-- a list: frozen or open -/
def lsOf (x : D) (h : HP) : Option (List D) := match x with
  | .lst xs => some xs
  | .ref i => (match h[i]? with
    | some (some (.lst xs)) => some xs
    | _ => none)
  | _ => none
/-- a list or a tuple that is read -/
def sqOf (x : D) (h : HP) : Option (List D) := match x with
  | .lst xs => some xs
  | .tup xs => some xs
  | .scr xs => some xs
  | .ref i => (match h[i]? with
    | some (some (.lst xs)) => some xs
    | _ => none)
  | _ => none
theorem ls_at (s : SRel K F μ h G H) {x : D} {v : V} (r : Rep K F μ x v) {ds : List D} (e : lsOf x h = some ds) : ∃ a vs, v = .ref a ∧ H a = some (.lst vs) ∧ vs.length ≤ sizeLine ∧ Reps K F μ ds vs := by
  cases r with
  | lst f z q => cases e; exact ⟨_, _, rfl, s.sub _ _ f, z, q⟩
  | @ref i a m =>
    have e' : (match h[i]? with
      | some (some (.lst xs)) => some xs
      | _ => none) = some ds := e
    split at e'
    · rename_i xs hi
      cases e'
      obtain ⟨b, u, m', hH, _, _, ro⟩ := s.live i _ hi
      rw [m] at m'; cases m'
      cases ro with
      | lst z q => exact ⟨a, _, rfl, hH, z, q⟩
    · cases e'
  | _ => cases e
theorem sqL_at (s : SRel K F μ h G H) {a : Addr} {vs : List V} (f : SqL K F a vs) : SqL K H a vs := sqL_mono s.sub f
theorem sqT_at (s : SRel K F μ h G H) {a : Addr} {vs : List V} (f : SqT K F a vs) : SqT K H a vs := sqT_mono s.sub f
theorem sq_at (s : SRel K F μ h G H) {x : D} {v : V} (r : Rep K F μ x v) {ds : List D} (e : sqOf x h = some ds) : ∃ a vs, v = .ref a ∧ (SqL K H a vs ∨ SqT K H a vs) ∧ vs.length ≤ sizeLine ∧ Reps K F μ ds vs := by
  cases r with
  | lst f z q => cases e; exact ⟨_, _, rfl, .inl (SqL.of (s.sub _ _ f)), z, q⟩
  | tup f z q => cases e; exact ⟨_, _, rfl, .inr (sqT_at s f), z, q⟩
  | scr f z q => cases e; exact ⟨_, _, rfl, .inl (sqL_at s f), z, q⟩
  | @ref i a m =>
    have e' : (match h[i]? with
      | some (some (.lst xs)) => some xs
      | _ => none) = some ds := e
    split at e'
    · rename_i xs hi
      cases e'
      obtain ⟨b, u, m', hH, _, _, ro⟩ := s.live i _ hi
      rw [m] at m'; cases m'
      cases ro with
      | lst z q => exact ⟨a, _, rfl, .inl (SqL.of hH), z, q⟩
    · cases e'
  | _ => cases e
theorem Reps.atI {ds : List D} {vs : List V} (r : Reps K F μ ds vs) {i : Int} {d : D} (e : L2.atI ds i = some d) : ∃ v, L2.atI vs i = some v ∧ Rep K F μ d v := by
  unfold L2.atI at e ⊢
  rw [← r.length]
  cases q : ixN ds.length i with
  | none => rw [q] at e; cases e
  | some j =>
    rw [q] at e
    exact r.get e

/-! ### arithmetic -/
/-- a new list: frozen, or open -/
def mkL (o : Bool) (xs : List D) (h : HP) : R D := match o with
  | false => .ok (.lst xs) h
  | true => .ok (.ref h.length) (h ++ [some (.lst xs)])
theorem post_mkL {o : Bool} {ds : List D} {vs : List V} {Q : VK} (s : SRel g.K F μ h G H) (p : post g (relD g) W F μ G σ Q (mkL o ds h)) (z : vs.length ≤ sizeLine) (r : Reps g.K F μ ds vs) :
    ∀ p, H p = none → Q (.ref p) (upd H p (.lst vs)) := by
  cases o with
  | false => exact post_know (g := g) (rel := relD g) p s fun p' F' x' f' => .lst f' z (r.mono x')
  | true =>
    intro a n
    obtain ⟨s', x⟩ := s.open_ n (.lst z r)
    exact p _ _ _ _ x s' (.ref (by rw [← s.len]; simp))
def bAdd (o : Bool) (x y : D) (h : HP) : R D := match x, y with
  | .int i, .int j => .ok (.int (i + j)) h
  | .str s, .str t => if s.length + t.length ≤ sizeLine then .ok (.str (s ++ t)) h else .bad
  | .tup s, .tup t => if s.length + t.length ≤ sizeLine then .ok (.tup (s ++ t)) h else .bad
  | x, y => match lsOf x h, lsOf y h with
    | some s, some t => if s.length + t.length ≤ sizeLine then mkL o (s ++ t) h else .bad
    | _, _ => .bad
def rAdd' (K : PySem.W.Frag) : R2 := fun x y H Q => (rI0 fun i j => .int (i + j)) x y H Q ∨ (∃ i j, x = .str i ∧ y = .str j ∧ i.length + j.length ≤ sizeLine ∧ Q (.str (i ++ j)) H) ∨ rCatA K x y H Q ∨ rCat x y H Q
theorem o_add {X : Cx} : OpR X (binaryOp .Add) (rAdd' X.K) := op_add.or (op_add_str.or (op_catA.or op_cat))
/-- two lists -/
theorem cat_ls {o : Bool} {s t : List D} {x y : D} {v u : V} {Q : VK} (sr : SRel g.K F μ h G H) (r : Rep g.K F μ x v) (q : Rep g.K F μ y u) (ex : lsOf x h = some s) (ey : lsOf y h = some t)
    (p : post g (relD g) W F μ G σ Q (if s.length + t.length ≤ sizeLine then mkL o (s ++ t) h else .bad)) : rCat v u H Q := by
  obtain ⟨a, vs, rfl, ha, za, ra⟩ := ls_at sr r ex
  obtain ⟨b, us, rfl, hb, zb, rb⟩ := ls_at sr q ey
  split at p
  · rename_i z
    have z' : vs.length + us.length ≤ sizeLine := by rw [← ra.length, ← rb.length]; exact z
    exact ⟨a, b, vs, us, rfl, rfl, ha, hb, z', post_mkL sr p (by rw [List.length_append]; exact z') (ra.append rb)⟩
  · exact p.elim
theorem u_add {o : Bool} : U2 g W (bAdd o) (rAdd' g.K) := by
  intro F μ h G H σ x v y u Q s r q p
  unfold bAdd at p
  split at p
  · cases r; cases q
    exact .inl ⟨_, _, rfl, rfl, post_ok (g := g) (rel := relD g) p s (.int _)⟩
  · cases r; cases q
    split at p
    · rename_i z
      refine .inr (.inl ⟨_, _, rfl, rfl, by rw [strV_len, strV_len]; exact z, ?_⟩)
      rw [strV_app]
      exact post_ok (g := g) (rel := relD g) p s (.str _ (by rw [List.length_append]; exact z))
    · exact p.elim
  · cases r with
    | tup f1 z1 r1 =>
      cases q with
      | tup f2 z2 r2 =>
        rename_i xs ys a vs b us
        split at p
        · rename_i z
          have z' : vs.length + us.length ≤ sizeLine := by rw [← r1.length, ← r2.length]; exact z
          refine .inr (.inr (.inl ⟨a, b, vs, us, rfl, rfl, sqT_at s f1, sqT_at s f2, z', fun e => ?_, fun e e' => ?_, fun e e' => ?_⟩))
          · subst e
            cases r1
            exact post_ok (g := g) (rel := relD g) p s (.tup f2 z2 (by simpa using r2))
          · subst e'
            cases r2
            exact post_ok (g := g) (rel := relD g) p s (.tup f1 z1 (by simpa using r1))
          · exact post_know (g := g) (rel := relD g) p s fun p' F' x' f' => .tup (SqT.of f') (by rw [List.length_append]; exact z') ((r1.append r2).mono x')
        · exact p.elim
  · split at p
    · rename_i e1 e2
      exact .inr (.inr (.inr (cat_ls s r q e1 e2 p)))
    · exact p.elim

def bInt (C : Int → Int → Prop) (f : Int → Int → Int) (x y : D) (h : HP) : R D := match x, y with
  | .int i, .int j => if C i j then .ok (.int (f i j)) h else .bad
  | _, _ => .bad
theorem u_int {C : Int → Int → Prop} {f : Int → Int → Int} : U2 g W (bInt C f) (rI C fun i j => .int (f i j)) := by
  intro F μ h G H σ x v y u Q s r q p
  unfold bInt at p
  split at p
  · cases r; cases q
    split at p
    · rename_i z
      exact ⟨_, _, rfl, rfl, z, post_ok (g := g) (rel := relD g) p s (.int _)⟩
    · exact p.elim
  · exact p.elim
def CTrue (_ _ : Int) : Prop := True
def CNz (_ j : Int) : Prop := j ≠ 0
def CFd (_ j : Int) : Prop := j ≠ 0 ∧ j.natAbs.log2 < 9000
def CPw (i j : Int) : Prop := 0 ≤ j ∧ (Builtin.Int.intBits i : Int) * j ≤ 2 ^ 27
def bSub : D → D → HP → R D := bInt CTrue fun i j => i - j
def bMul : D → D → HP → R D := bInt IntMulOk fun i j => i * j
def bFd : D → D → HP → R D := bInt CFd Int.fdiv
def bMod : D → D → HP → R D := bInt CNz Int.fmod
def bPow : D → D → HP → R D := bInt CPw fun i j => i ^ j.toNat
section
variable {X : Cx}
theorem o_sub : OpR X (binaryOp .Sub) (rI CTrue fun i j => .int (i - j)) := opI fun _ _ _ _ _ _ _ _ q => sub_int q
theorem o_mul : OpR X (binaryOp .Mult) (rI IntMulOk fun i j => .int (i * j)) := opI fun _ _ _ _ _ _ _ hc q => mul_int q hc
theorem o_fd : OpR X (binaryOp .FloorDiv) (rI CFd fun i j => .int (i.fdiv j)) := opI fun _ _ _ _ _ _ _ hc q => floordiv_int hc.1 q (.inl (PyProof.noPylong_of_log2 hc.2))
theorem o_mod : OpR X (binaryOp .Mod) (rI CNz fun i j => .int (i.fmod j)) := opI fun _ _ _ _ _ _ _ hc q => mod_int' hc q
theorem o_pow : OpR X (binaryOp .Pow) (rI CPw fun i j => .int (i ^ j.toNat)) := opI fun _ _ _ _ _ _ _ hc q => pow_int hc.1 hc.2 q
end
def uNeg (x : D) (h : HP) : R D := match x with
  | .int i => .ok (.int (-i)) h
  | _ => .bad
theorem u_neg : U1 g W uNeg (rU fun i => .int (-i)) := by
  intro F μ h G H σ x v Q s r p
  unfold uNeg at p
  split at p
  · cases r
    exact ⟨_, rfl, post_ok (g := g) (rel := relD g) p s (.int _)⟩
  · exact p.elim

/-! ### comparisons -/
def bCmp (f : Int → Int → Bool) (x y : D) (h : HP) : R D := match x, y with
  | .int i, .int j => .ok (.bl (f i j)) h
  | _, _ => .bad
theorem u_cmp {f : Int → Int → Bool} : U2 g W (bCmp f) (rI0 fun i j => .bl (f i j)) := by
  intro F μ h G H σ x v y u Q s r q p
  unfold bCmp at p
  split at p
  · cases r; cases q
    exact ⟨_, _, rfl, rfl, post_ok (g := g) (rel := relD g) p s (.bl _)⟩
  · exact p.elim
def bLt : D → D → HP → R D := bCmp fun i j => decide (i < j)
def bLe : D → D → HP → R D := bCmp fun i j => decide (i ≤ j)
def bGt : D → D → HP → R D := bCmp fun i j => decide (j < i)
def bGe : D → D → HP → R D := bCmp fun i j => decide (j ≤ i)
/-- == of flat values (True and 1 aside) -/
def eqS : D → D → Option Bool
  | .non, .non => some true
  | .non, .int _ => some false
  | .int _, .non => some false
  | .non, .bl _ => some false
  | .bl _, .non => some false
  | .non, .str _ => some false
  | .str _, .non => some false
  | .int i, .int j => some (decide (i = j))
  | .bl i, .bl j => some (decide (i = j))
  | .str i, .str j => some (decide (i = j))
  | .int _, .str _ => some false
  | .str _, .int _ => some false
  | .bl _, .str _ => some false
  | .str _, .bl _ => some false
  | _, _ => none
theorem eqS_V {x y : D} {v u : V} {b : Bool} (r : Rep K F μ x v) (q : Rep K F μ y u) (e : eqS x y = some b) : scal v u = true ∧ decide (v = u) = b := by
  cases r <;> cases q <;> first
    | (cases e; done)
    | (cases e; refine ⟨rfl, ?_⟩; simp [strV_iff]; done)
def bEq (x y : D) (h : HP) : R D := match eqS x y with
  | some b => .ok (.bl b) h
  | none => .bad
def bNe (x y : D) (h : HP) : R D := match eqS x y with
  | some b => .ok (.bl (!b)) h
  | none => .bad
theorem u_eq : U2 g W bEq rEq := by
  intro F μ h G H σ x v y u Q s r q p
  unfold bEq at p
  split at p
  · rename_i b e
    obtain ⟨h1, h2⟩ := eqS_V r q e
    exact ⟨h1, by rw [h2]; exact post_ok (g := g) (rel := relD g) p s (.bl _)⟩
  · exact p.elim
theorem u_ne : U2 g W bNe rNe := by
  intro F μ h G H σ x v y u Q s r q p
  unfold bNe at p
  split at p
  · rename_i b e
    obtain ⟨h1, h2⟩ := eqS_V r q e
    exact ⟨h1, by rw [h2]; exact post_ok (g := g) (rel := relD g) p s (.bl _)⟩
  · exact p.elim
/-- is None, is True -/
def isNon : D → Bool
  | .non => true
  | _ => false
def bIs (neg : Bool) (x y : D) (h : HP) : R D := match y with
  | .non => .ok (.bl (xor neg (isNon x))) h
  | .bl b => (match x with
    | .bl a => .ok (.bl (xor neg (decide (a = b)))) h
    | _ => .bad)
  | _ => .bad
def rIs' (neg : Bool) : R2 := fun x y H Q => (y = .non ∧ Q (.bl (xor neg (decide (x = .non)))) H) ∨ ∃ a b : Bool, x = .bl a ∧ y = .bl b ∧ Q (.bl (xor neg (decide (a = b)))) H
theorem o_is {X : Cx} : OpR X (compareOp .Is) (rIs' false) := by
  intro pins s σ H x y v u Q I rx ry h
  rcases h with ⟨e, q⟩ | ⟨a, b, e1, e2, q⟩
  · exact op_isN pins s σ H x y v u Q I rx ry ⟨e, by simpa using q⟩
  · exact op_isBl pins s σ H x y v u Q I rx ry ⟨a, b, e1, e2, by simpa using q⟩
theorem o_isNot {X : Cx} : OpR X (compareOp .IsNot) (rIs' true) := by
  intro pins s σ H x y v u Q I rx ry h
  rcases h with ⟨e, q⟩ | ⟨a, b, e1, e2, q⟩
  · exact op_notN pins s σ H x y v u Q I rx ry ⟨e, by simpa using q⟩
  · exact op_notBl pins s σ H x y v u Q I rx ry ⟨a, b, e1, e2, by simpa using q⟩
theorem isNon_V {x : D} {v : V} (r : Rep K F μ x v) : decide (v = .non) = isNon x := by
  cases r <;> simp [isNon]
theorem u_is {neg : Bool} : U2 g W (bIs neg) (rIs' neg) := by
  intro F μ h G H σ x v y u Q s r q p
  unfold bIs at p
  split at p
  · cases q
    exact .inl ⟨rfl, by rw [isNon_V r]; exact post_ok (g := g) (rel := relD g) p s (.bl _)⟩
  · cases q
    split at p
    · cases r
      exact .inr ⟨_, _, rfl, rfl, post_ok (g := g) (rel := relD g) p s (.bl _)⟩
    · exact p.elim
  · exact p.elim
/-- in: a sign of a text, a flat thing of a list or tuple -/
def flatD : D → Bool
  | .non => true | .bl _ => true | .int _ => true | .str _ => true | _ => false
def eqF : D → D → Bool
  | .non, .non => true
  | .bl a, .bl b => a == b
  | .bl a, .int b => (if a then 1 else 0) == b
  | .int a, .bl b => a == (if b then 1 else 0)
  | .int a, .int b => a == b
  | .str a, .str b => decide (a = b)
  | _, _ => false
def bIn (neg : Bool) (x y : D) (h : HP) : R D := match y with
  | .str s => (match x with
    | .str [c] => .ok (.bl (xor neg (decide (c ∈ s)))) h
    | _ => .bad)
  | y => match sqOf y h with
    | some ys => if flatD x = true ∧ ys.all flatD = true then .ok (.bl (xor neg (ys.any fun z => eqF z x))) h else .bad
    | none => .bad
def rIn' (K : PySem.W.Frag) (neg : Bool) : R2 := fun x y H Q => (∃ (c : Nat) (z : Str), x = .str ⟨#[c]⟩ ∧ y = .str z ∧ Q (.bl (xor neg (decide (c ∈ z.cps.toList)))) H) ∨ rIn K neg x y H Q
theorem o_in {X : Cx} : OpR X (compareOp .In) (rIn' X.K false) := by
  intro pins s σ H x y v u Q I rx ry h
  rcases h with ⟨c, z, e1, e2, q⟩ | q
  · exact op_in_sign pins s σ H x y v u Q I rx ry ⟨c, z, e1, e2, by simpa using q⟩
  · exact op_in_seq pins s σ H x y v u Q I rx ry q
theorem o_notIn {X : Cx} : OpR X (compareOp .NotIn) (rIn' X.K true) := by
  intro pins s σ H x y v u Q I rx ry h
  rcases h with ⟨c, z, e1, e2, q⟩ | q
  · exact op_notIn_sign pins s σ H x y v u Q I rx ry ⟨c, z, e1, e2, by simpa using q⟩
  · exact op_notIn_seq pins s σ H x y v u Q I rx ry q
theorem flat_V {x : D} {v : V} (r : Rep K F μ x v) (e : flatD x = true) : flatV v = true := by
  cases r <;> first | rfl | (cases e; done)
theorem eqF_V {x y : D} {v u : V} (r : Rep K F μ x v) (q : Rep K F μ y u) (f1 : flatD x = true) (f2 : flatD y = true) : eqV v u = eqF x y := by
  cases r <;> first | (cases f1; done) | (cases q <;> first | (cases f2; done) | rfl | (rename_i s hs t ht; show (strV s == strV t) = decide (s = t); rw [Bool.eq_iff_iff, beq_iff_eq, decide_eq_true_eq]; exact ⟨strV_inj, fun z => by rw [z]⟩))
theorem flats_V : ∀ {xs : List D} {vs : List V}, Reps K F μ xs vs → xs.all flatD = true → vs.all flatV = true
  | _, _, .nil, _ => rfl
  | _, _, .cons r t, e => by
    rw [List.all_cons, Bool.and_eq_true] at e ⊢
    exact ⟨flat_V r e.1, flats_V t e.2⟩
theorem inV_D {x : D} {v : V} (r : Rep K F μ x v) (f : flatD x = true) : ∀ {xs : List D} {vs : List V}, Reps K F μ xs vs → xs.all flatD = true → inV v vs = xs.any fun z => eqF z x
  | _, _, .nil, _ => rfl
  | _, _, .cons q t, e => by
    rw [List.all_cons, Bool.and_eq_true] at e
    show (eqV _ v || inV v _) = _
    rw [List.any_cons, eqF_V q r e.1 f, inV_D r f t e.2]
theorem u_in {neg : Bool} : U2 g W (bIn neg) (rIn' g.K neg) := by
  intro F μ h G H σ x v y u Q s r q p
  unfold bIn at p
  split at p
  · cases q with
    | str _ hz =>
      split at p
      · cases r
        refine .inl ⟨_, _, rfl, rfl, ?_⟩
        rw [strV_list]
        exact post_ok (g := g) (rel := relD g) p s (.bl _)
      · exact p.elim
  · split at p
    · rename_i ys e
      split at p
      · rename_i z
        obtain ⟨a, vs, rfl, hs, hz, rs⟩ := sq_at s q e
        refine .inr ⟨a, vs, rfl, hs, flat_V r z.1, flats_V rs z.2, ?_⟩
        rw [inV_D r z.1 rs z.2]
        have e2 : (if neg = true then !(ys.any fun z => eqF z x) else ys.any fun z => eqF z x) = xor neg (ys.any fun z => eqF z x) := by cases neg <;> simp
        rw [e2]
        exact post_ok (g := g) (rel := relD g) p s (.bl _)
      · exact p.elim
    · exact p.elim
end
end Zs
end

/-! Fd -/
noncomputable section
namespace Zs
open PySem PySem.Spec L2
open PyProof.Rows hiding St
open Classical

section
variable {g : Gm} {W : WX} {K : PySem.W.Frag} {F : Hp} {μ : List Addr} {G H : Hp} {σ : L2.St} {h : HP}

/-! ### subscripts -/
def bIx (x y : D) (h : HP) : R D := match y with
  | .int i => (match x with
    | .str s => (match L2.atI s i with
      | some c => .ok (.str [c]) h
      | none => .bad)
    | x => (match sqOf x h with
      | some xs => (match L2.atI xs i with
        | some d => .ok d h
        | none => .bad)
      | none => .bad))
  | _ => .bad
theorem sLine_pos : 1 ≤ sizeLine := by rw [sizeLine_eq]; omega
theorem strV_one (c : Nat) : strV [c] = ⟨#[c]⟩ := rfl
theorem u_ix : U2 g W bIx (rIx g.K) := by
  intro F μ h G H σ x v y u Q s r q p
  unfold bIx at p
  split at p
  · cases q
    rename_i i
    split at p
    · cases r with
      | str _ hz =>
        split at p
        · rename_i c e
          exact .inr (.inr ⟨_, _, c, rfl, rfl, by rw [strV_len]; exact hz, by rw [strV_list]; exact e, post_ok (g := g) (rel := relD g) p s (.str [c] sLine_pos)⟩)
        · exact p.elim
    · split at p
      · rename_i xs e
        obtain ⟨a, vs, rfl, hs, hz, rs⟩ := sq_at s r e
        split at p
        · rename_i d e2
          obtain ⟨w, e3, rw'⟩ := rs.atI e2
          rcases hs with hs | hs
          · exact .inl ⟨a, vs, i, w, rfl, rfl, hs, e3, post_ok (g := g) (rel := relD g) p s rw'⟩
          · exact .inr (.inl ⟨a, vs, i, w, rfl, rfl, hs, e3, post_ok (g := g) (rel := relD g) p s rw'⟩)
        · exact p.elim
      · exact p.elim
  · exact p.elim

/-! ### slices -/
abbrev OM := Env' → M (Option Int)
def oN : OM := fun _ h => .ok none h
def oS (a : EM) : OM := fun ρ h => (a ρ h).bnd fun x h1 => match x with
  | .int i => .ok (some i) h1
  | _ => .bad
abbrev relO : Hp → List Addr → Option Int → Option Int → Prop := fun _ _ a b => a = b
def tO (g : Gm) (W : WX) (m : OM) : TO := fun σ H Q => ∃ F μ h G ρ, SRel g.K F μ h G H ∧ REnv g.K F μ ρ σ ∧ post g (relO) W F μ G σ Q (m ρ h)
theorem _root_.L2.PO.imp {X : Cx} {e : Option Expr} {t t' : TO} (p : PO X e t) (h : ∀ σ H Q, t' σ H Q → t σ H Q) : PO X e t' := ⟨fun pins s σ H Q I hw => p.run pins s σ H Q I (h _ _ _ hw)⟩
theorem so_n {X : Cx} : PO X none (tO g W oN) := po_none.imp fun σ H Q ⟨F, μ, h, G, ρ, s, en, q⟩ => post_ok (g := g) (rel := relO) q s rfl
theorem so_s {X : Cx} {e : Expr} {a : EM} (ha : PE X e (tE g W a)) : PO X (some e) (tO g W (oS a)) := (po_some ha).imp fun σ H Q ⟨F, μ, h, G, ρ, s, en, q⟩ =>
  ⟨F, μ, h, G, ρ, s, en, post_bnd (g := g) q fun F1 μ1 h1 H1 d v x s1 rv q1 => by
    cases d with
    | int i => cases rv; exact ⟨i, rfl, post_ok (g := g) (rel := relO) q1 s1 rfl⟩
    | _ => exact q1.elim⟩
def cutL {α : Type} (xs : List α) (lo hi : Option Int) : List α := (xs.drop (HT.sIx xs.length 0 lo)).take (HT.sIx xs.length xs.length hi - HT.sIx xs.length 0 lo)
def fSl (o : Bool) (x : D) (lo hi : Option Int) (h : HP) : R D := match x with
  | .str s => .ok (.str (cutL s lo hi)) h
  | .tup xs => .ok (.tup (cutL xs lo hi)) h
  | .scr xs => mkL o (cutL xs lo hi) h
  | x => match lsOf x h with
    | some xs => mkL o (cutL xs lo hi) h
    | none => .bad
def eSl (o : Bool) (a : EM) (lo hi : OM) : EM := fun ρ h => (a ρ h).bnd fun x h1 => (lo ρ h1).bnd fun l h2 => (hi ρ h2).bnd fun u h3 => fSl o x l u h3
def rSl' (K : PySem.W.Frag) : V → Option Int → Option Int → Hp → VK → Prop := fun x lo hi H Q => rSlL K x lo hi H Q ∨ rSlA K x lo hi H Q ∨ rSlS x lo hi H Q
theorem o_sl {X : Cx} : SlR X (rSl' X.K) := sl_list.or (sl_tupA.or sl_str)
theorem Reps.cut {ds : List D} {vs : List V} (r : Reps K F μ ds vs) (lo hi : Option Int) : Reps K F μ (cutL ds lo hi) (cutV vs lo hi) := by
  unfold cutL cutV
  rw [r.length]
  exact (r.drop _).take _
theorem cutL_len {α : Type} (xs : List α) (lo hi : Option Int) : (cutL xs lo hi).length ≤ xs.length := by
  unfold cutL
  rw [List.length_take, List.length_drop]
  omega
theorem cutS_strV (s : List Nat) (lo hi : Option Int) : cutS (strV s) lo hi = strV (cutL s lo hi) := by
  unfold cutS cutL
  rw [strV_len, strV_list]
  rfl
theorem cut_all {vs : List V} {lo hi : Option Int} (e : HT.sIx vs.length 0 lo = 0 ∧ HT.sIx vs.length vs.length hi = vs.length) : cutV vs lo hi = vs := by
  unfold cutV
  rw [e.1, e.2]
  simp
theorem u_sl {o : Bool} {x : D} {v : V} {lo hi : Option Int} {Q : VK} (s : SRel g.K F μ h G H) (r : Rep g.K F μ x v) (p : post g (relD g) W F μ G σ Q (fSl o x lo hi h)) : rSl' g.K v lo hi H Q := by
  unfold fSl at p
  split at p
  · cases r with
    | str _ hz =>
      refine .inr (.inr ⟨_, rfl, by rw [strV_len]; exact hz, ?_⟩)
      rw [cutS_strV]
      exact post_ok (g := g) (rel := relD g) p s (.str _ (Nat.le_trans (cutL_len _ _ _) hz))
  · cases r with
    | @tup _ a vs f z rs =>
      refine .inr (.inl ⟨a, vs, rfl, sqT_at s f, fun e => ?_, fun e => ?_⟩)
      · refine post_ok (g := g) (rel := relD g) p s (.tup f z ?_)
        have := rs.cut lo hi
        rw [cut_all e] at this
        exact this
      · exact post_know (g := g) (rel := relD g) p s fun p' F' x' f' => .tup (SqT.of f') (Nat.le_trans (cutV_length _ _ _) z) ((rs.cut lo hi).mono x')
  · cases r with
    | @scr _ a vs f z rs =>
      exact .inl ⟨a, vs, rfl, sqL_at s f, post_mkL s p (Nat.le_trans (cutV_length _ _ _) z) (rs.cut lo hi)⟩
  · split at p
    · rename_i xs e
      obtain ⟨a, vs, rfl, ha, z, rs⟩ := ls_at s r e
      exact .inl ⟨a, vs, rfl, SqL.of ha, post_mkL s p (Nat.le_trans (cutV_length _ _ _) z) (rs.cut lo hi)⟩
    · exact p.elim
theorem se_sl {o : Bool} {X : Cx} {e : Expr} {lo hi : Option Expr} {a : EM} {ml mh : OM} {p2 pos : Pos} (hK : X.K = g.K) (he : PE X e (tE g W a)) (hl : PO X lo (tO g W ml)) (hh : PO X hi (tO g W mh)) :
    PE X (.Subscript e (.Slice lo hi none p2) pos) (tE g W (eSl o a ml mh)) := by
  refine (pe_slice o_sl he hl hh).imp ?_
  rw [hK]
  exact fun σ H Q ⟨F, μ, h, G, ρ, s, en, q⟩ => ⟨F, μ, h, G, ρ, s, en, post_bnd (g := g) q fun F1 μ1 h1 H1 d v x s1 rv q1 =>
    ⟨F1, μ1, h1, G, ρ, s1, en.mono x, post_bnd (g := g) q1 fun F2 μ2 h2 H2 l l' x2 s2 e2 q2 => by
      cases e2
      exact ⟨F2, μ2, h2, G, ρ, s2, en.mono (x.trans x2), post_bnd (g := g) q2 fun F3 μ3 h3 H3 l l' x3 s3 e3 q3 => by
        cases e3
        exact u_sl s3 (rv.mono (x2.trans x3)) q3⟩⟩⟩

/-! ### displays -/
def fTup (xs : List D) (h : HP) : R D := if xs.length ≤ sizeLine then .ok (.tup xs) h else .bad
def fLst (o : Bool) (xs : List D) (h : HP) : R D := if xs.length ≤ sizeLine then mkL o xs h else .bad
theorem u_tup : UA g W fTup (fun xs H Q => xs.length ≤ sizeLine ∧ ∀ p, H p = none → Q (.ref p) (upd H p (.tup xs))) := by
  intro F μ h G H σ x v Q s r p
  unfold fTup at p
  split at p
  · rename_i z
    have z' : v.length ≤ sizeLine := by rw [← r.length]; exact z
    exact ⟨z', post_know (g := g) (rel := relD g) p s fun p' F' x' f' => .tup (SqT.of f') z' (r.mono x')⟩
  · exact p.elim
theorem u_lst {o : Bool} : UA g W (fLst o) (fun xs H Q => xs.length ≤ sizeLine ∧ ∀ p, H p = none → Q (.ref p) (upd H p (.lst xs))) := by
  intro F μ h G H σ x v Q s r p
  unfold fLst at p
  split at p
  · rename_i z
    have z' : v.length ≤ sizeLine := by rw [← r.length]; exact z
    exact ⟨z', post_mkL s p z' r⟩
  · exact p.elim
theorem se_tup {X : Cx} {es : List Expr} {a : AM} {i : Nat} {pos : Pos} (ha : PA X es (tA g W a)) : PE X (.Tuple es i pos) (tE g W (eA fTup a)) := (pe_tup ha).imp (tA_of u_tup)
theorem se_lst {o : Bool} {X : Cx} {es : List Expr} {a : AM} {pos : Pos} (ha : PA X es (tA g W a)) : PE X (.List es pos) (tE g W (eA (fLst o) a)) := (pe_lst ha).imp (tA_of u_lst)
end
end Zs
end

/-! Fe -/
noncomputable section
namespace Zs
open PySem PySem.Spec L2
open PyProof.Rows hiding St
open Classical

section
variable {g : Gm} {W : WX} {K : PySem.W.Frag} {F : Hp} {μ : List Addr} {G H : Hp} {σ : L2.St} {h : HP}

/-! ### lists of one kind -/
def intsOf : List D → Option (List Int)
  | [] => some []
  | .int i :: r => (intsOf r).map (i :: ·)
  | _ :: _ => none
def blsOf : List D → Option (List Bool)
  | [] => some []
  | .bl i :: r => (blsOf r).map (i :: ·)
  | _ :: _ => none
def strsOf : List D → Option (List (List Nat))
  | [] => some []
  | .str i :: r => (strsOf r).map (i :: ·)
  | _ :: _ => none
theorem ints_V : ∀ {ds : List D} {vs : List V} {ns : List Int}, Reps K F μ ds vs → intsOf ds = some ns → vs = ns.map V.int
  | _, _, _, .nil, e => by cases e; rfl
  | d :: ds, v :: vs, ns, .cons r t, e => by
    cases d with
    | int i =>
      have e' : (intsOf ds).map (i :: ·) = some ns := e
      cases q : intsOf ds with
      | none => rw [q] at e'; cases e'
      | some ms => rw [q] at e'; cases e'; cases r; rw [ints_V t q]; rfl
    | _ => cases e
theorem bls_V : ∀ {ds : List D} {vs : List V} {ns : List Bool}, Reps K F μ ds vs → blsOf ds = some ns → vs = ns.map V.bl
  | _, _, _, .nil, e => by cases e; rfl
  | d :: ds, v :: vs, ns, .cons r t, e => by
    cases d with
    | bl i =>
      have e' : (blsOf ds).map (i :: ·) = some ns := e
      cases q : blsOf ds with
      | none => rw [q] at e'; cases e'
      | some ms => rw [q] at e'; cases e'; cases r; rw [bls_V t q]; rfl
    | _ => cases e
theorem strs_V : ∀ {ds : List D} {vs : List V} {ns : List (List Nat)}, Reps K F μ ds vs → strsOf ds = some ns → vs = (ns.map strV).map V.str
  | _, _, _, .nil, e => by cases e; rfl
  | d :: ds, v :: vs, ns, .cons r t, e => by
    cases d with
    | str i =>
      have e' : (strsOf ds).map (i :: ·) = some ns := e
      cases q : strsOf ds with
      | none => rw [q] at e'; cases e'
      | some ms => rw [q] at e'; cases e'; cases r; rw [strs_V t q]; rfl
    | _ => cases e
/-- a list (not a tuple), read -/
def lrOf (x : D) (h : HP) : Option (List D) := match x with
  | .scr xs => some xs
  | x => lsOf x h
theorem lr_at (s : SRel K F μ h G H) {x : D} {v : V} (r : Rep K F μ x v) {ds : List D} (e : lrOf x h = some ds) : ∃ a vs, v = .ref a ∧ SqL K H a vs ∧ vs.length ≤ sizeLine ∧ Reps K F μ ds vs := by
  unfold lrOf at e
  split at e
  · cases e; cases r with
    | scr f z q => exact ⟨_, _, rfl, sqL_at s f, z, q⟩
  · obtain ⟨a, vs, rfl, ha, z, q⟩ := ls_at s r e
    exact ⟨a, vs, rfl, SqL.of ha, z, q⟩
/-- a dict: frozen or open -/
def dcOf (x : D) (h : HP) : Option (List (D × D)) := match x with
  | .dct xs => some xs
  | .ref i => (match h[i]? with
    | some (some (.dct xs)) => some xs
    | _ => none)
  | _ => none
theorem dc_at (s : SRel K F μ h G H) {x : D} {v : V} (r : Rep K F μ x v) {ds : List (D × D)} (e : dcOf x h = some ds) : ∃ a, v = .ref a ∧ ((∃ kvs, H a = some (.dK kvs) ∧ RepK K F μ ds kvs) ∨ ∃ kvs, H a = some (.dT kvs) ∧ RepT K F μ ds kvs) := by
  cases r with
  | dctK f q => cases e; exact ⟨_, rfl, .inl ⟨_, s.sub _ _ f, q⟩⟩
  | dctT f q => cases e; exact ⟨_, rfl, .inr ⟨_, s.sub _ _ f, q⟩⟩
  | @ref i a m =>
    have e' : (match h[i]? with
      | some (some (.dct xs)) => some xs
      | _ => none) = some ds := e
    split at e'
    · rename_i xs hi
      cases e'
      obtain ⟨b, u, m', hH, _, _, ro⟩ := s.live i _ hi
      rw [m] at m'; cases m'
      cases ro with
      | dctK q => exact ⟨a, rfl, .inl ⟨_, hH, q⟩⟩
      | dctT q => exact ⟨a, rfl, .inr ⟨_, hH, q⟩⟩
    · cases e'
  | _ => cases e
theorem RepK.length : ∀ {ds kvs}, RepK K F μ ds kvs → ds.length = kvs.length
  | _, _, .nil => rfl
  | _, _, .cons _ _ t => by rw [List.length_cons, List.length_cons, RepK.length t]
theorem RepT.length : ∀ {ds kvs}, RepT K F μ ds kvs → ds.length = kvs.length
  | _, _, .nil => rfl
  | _, _, .cons _ _ t => by rw [List.length_cons, List.length_cons, RepT.length t]

/-! ### built-in functions -/
def fLen (xs : List D) (h : HP) : R D := match xs with
  | [.str s] => .ok (.int s.length) h
  | [x] => (match sqOf x h with
    | some ys => .ok (.int ys.length) h
    | none => (match dcOf x h with
      | some ys => .ok (.int ys.length) h
      | none => .bad))
  | _ => .bad
def rLen' (K : PySem.W.Frag) : List V → Hp → VK → Prop := fun xs H Q => (∃ z, xs = [.str z] ∧ z.length ≤ sizeLine ∧ Q (.int z.length) H) ∨ (∃ p ys, xs = [.ref p] ∧ (SqL K H p ys ∨ SqT K H p ys) ∧ Q (.int ys.length) H) ∨
  (∃ a kvs, xs = [V.ref a] ∧ H a = some (.dK kvs) ∧ Q (.int kvs.length) H) ∨ rLenT xs H Q
theorem c_len {X : Cx} : CallR X (.builtin "len") (rLen' X.K) := call_len_str.or (call_len_seq.or (call_lenD.or call_len_dT))
theorem reps1 {x : D} {vs : List V} (r : Reps K F μ [x] vs) : ∃ v, vs = [v] ∧ Rep K F μ x v := by
  cases r with
  | cons r t => cases t; exact ⟨_, rfl, r⟩
theorem reps2 {x y : D} {vs : List V} (r : Reps K F μ [x, y] vs) : ∃ v u, vs = [v, u] ∧ Rep K F μ x v ∧ Rep K F μ y u := by
  cases r with
  | cons r t =>
    obtain ⟨u, rfl, q⟩ := reps1 t
    exact ⟨_, u, rfl, r, q⟩
theorem u_len : UA g W fLen (rLen' g.K) := by
  intro F μ h G H σ x v Q s r p
  unfold fLen at p
  split at p
  · obtain ⟨v1, rfl, r1⟩ := reps1 r
    cases r1 with
    | str z hz => exact .inl ⟨_, rfl, by rw [strV_len]; exact hz, by rw [strV_len]; exact post_ok (g := g) (rel := relD g) p s (.int _)⟩
  · obtain ⟨v1, rfl, r1⟩ := reps1 r
    split at p
    · rename_i ys e
      obtain ⟨a, vs, rfl, hs, hz, rs⟩ := sq_at s r1 e
      exact .inr (.inl ⟨a, vs, rfl, hs, by rw [← rs.length]; exact post_ok (g := g) (rel := relD g) p s (.int _)⟩)
    · split at p
      · rename_i ys e
        obtain ⟨a, rfl, ⟨kvs, hH, rk⟩ | ⟨kvs, hH, rk⟩⟩ := dc_at s r1 e
        · exact .inr (.inr (.inl ⟨a, kvs, rfl, hH, by rw [← rk.length]; exact post_ok (g := g) (rel := relD g) p s (.int _)⟩))
        · exact .inr (.inr (.inr ⟨a, kvs, rfl, hH, by rw [← rk.length]; exact post_ok (g := g) (rel := relD g) p s (.int _)⟩))
      · exact p.elim
  · exact p.elim

def fAbs (xs : List D) (h : HP) : R D := match xs with
  | [.int i] => .ok (.int (if i < 0 then -i else i)) h
  | _ => .bad
theorem u_abs : UA g W fAbs (fun xs H Q => ∃ i, xs = [.int i] ∧ Q (.int (if i < 0 then -i else i)) H) := by
  intro F μ h G H σ x v Q s r p
  unfold fAbs at p
  split at p
  · obtain ⟨v1, rfl, r1⟩ := reps1 r
    cases r1
    exact ⟨_, rfl, post_ok (g := g) (rel := relD g) p s (.int _)⟩
  · exact p.elim
def fInt (xs : List D) (h : HP) : R D := match xs with
  | [.int i] => .ok (.int i) h
  | [.bl k] => .ok (.int (if k then 1 else 0)) h
  | _ => .bad
theorem u_int1 : UA g W fInt (fun xs H Q => (∃ i, xs = [.int i] ∧ Q (.int i) H) ∨ ∃ k, xs = [.bl k] ∧ Q (.int (if k then 1 else 0)) H) := by
  intro F μ h G H σ x v Q s r p
  unfold fInt at p
  split at p
  · obtain ⟨v1, rfl, r1⟩ := reps1 r
    cases r1
    exact .inl ⟨_, rfl, post_ok (g := g) (rel := relD g) p s (.int _)⟩
  · obtain ⟨v1, rfl, r1⟩ := reps1 r
    cases r1
    exact .inr ⟨_, rfl, post_ok (g := g) (rel := relD g) p s (.int _)⟩
  · exact p.elim
def fSum (xs : List D) (h : HP) : R D := match xs with
  | [x] => (match lrOf x h with
    | some ys => (match intsOf ys with
      | some ns => .ok (.int ns.sum) h
      | none => .bad)
    | none => .bad)
  | _ => .bad
theorem u_sum : UA g W fSum (rSum g.K) := by
  intro F μ h G H σ x v Q s r p
  unfold fSum at p
  split at p
  · obtain ⟨v1, rfl, r1⟩ := reps1 r
    split at p
    · rename_i ys e
      obtain ⟨a, vs, rfl, hs, hz, rs⟩ := lr_at s r1 e
      split at p
      · rename_i ns e2
        have := ints_V rs e2
        subst this
        exact ⟨a, ns, rfl, hs, post_ok (g := g) (rel := relD g) p s (.int _)⟩
      · exact p.elim
    · exact p.elim
  · exact p.elim
def fMax (xs : List D) (h : HP) : R D := match xs with
  | [.int i, .int j] => .ok (.int (if j > i then j else i)) h
  | _ => .bad
def fMin (xs : List D) (h : HP) : R D := match xs with
  | [.int i, .int j] => .ok (.int (if j < i then j else i)) h
  | _ => .bad
theorem u_max2 : UA g W fMax (fun xs H Q => ∃ i j, xs = [.int i, .int j] ∧ Q (.int (if j > i then j else i)) H) := by
  intro F μ h G H σ x v Q s r p
  unfold fMax at p
  split at p
  · obtain ⟨v1, u1, rfl, r1, q1⟩ := reps2 r
    cases r1; cases q1
    exact ⟨_, _, rfl, post_ok (g := g) (rel := relD g) p s (.int _)⟩
  · exact p.elim
theorem u_min2 : UA g W fMin (fun xs H Q => ∃ i j, xs = [.int i, .int j] ∧ Q (.int (if j < i then j else i)) H) := by
  intro F μ h G H σ x v Q s r p
  unfold fMin at p
  split at p
  · obtain ⟨v1, u1, rfl, r1, q1⟩ := reps2 r
    cases r1; cases q1
    exact ⟨_, _, rfl, post_ok (g := g) (rel := relD g) p s (.int _)⟩
  · exact p.elim
def fAny (xs : List D) (h : HP) : R D := match xs with
  | [x] => (match lrOf x h with
    | some ys => (match blsOf ys with
      | some ns => .ok (.bl (ns.any id)) h
      | none => .bad)
    | none => .bad)
  | _ => .bad
def fAll (xs : List D) (h : HP) : R D := match xs with
  | [x] => (match lrOf x h with
    | some ys => (match blsOf ys with
      | some ns => .ok (.bl (ns.all id)) h
      | none => .bad)
    | none => .bad)
  | _ => .bad
theorem u_any : UA g W fAny (rAny g.K) := by
  intro F μ h G H σ x v Q s r p
  unfold fAny at p
  split at p
  · obtain ⟨v1, rfl, r1⟩ := reps1 r
    split at p
    · rename_i ys e
      obtain ⟨a, vs, rfl, hs, hz, rs⟩ := lr_at s r1 e
      split at p
      · rename_i ns e2
        have := bls_V rs e2
        subst this
        exact ⟨a, ns, rfl, hs, post_ok (g := g) (rel := relD g) p s (.bl _)⟩
      · exact p.elim
    · exact p.elim
  · exact p.elim
theorem u_all : UA g W fAll (rAll g.K) := by
  intro F μ h G H σ x v Q s r p
  unfold fAll at p
  split at p
  · obtain ⟨v1, rfl, r1⟩ := reps1 r
    split at p
    · rename_i ys e
      obtain ⟨a, vs, rfl, hs, hz, rs⟩ := lr_at s r1 e
      split at p
      · rename_i ns e2
        have := bls_V rs e2
        subst this
        exact ⟨a, ns, rfl, hs, post_ok (g := g) (rel := relD g) p s (.bl _)⟩
      · exact p.elim
    · exact p.elim
  · exact p.elim
def fList (o : Bool) (xs : List D) (h : HP) : R D := match xs with
  | [x] => (match sqOf x h with
    | some ys => mkL o ys h
    | none => .bad)
  | _ => .bad
theorem u_list {o : Bool} : UA g W (fList o) (fun xs H Q => ∃ p ys, xs = [.ref p] ∧ (SqL g.K H p ys ∨ SqT g.K H p ys) ∧ ∀ l, H l = none → Q (.ref l) (upd H l (.lst ys))) := by
  intro F μ h G H σ x v Q s r p
  unfold fList at p
  split at p
  · obtain ⟨v1, rfl, r1⟩ := reps1 r
    split at p
    · rename_i ys e
      obtain ⟨a, vs, rfl, hs, hz, rs⟩ := sq_at s r1 e
      exact ⟨a, vs, rfl, hs, post_mkL s p hz rs⟩
    · exact p.elim
  · exact p.elim
def fTuple (xs : List D) (h : HP) : R D := match xs with
  | [.tup ys] => .ok (.tup ys) h
  | [x] => (match lrOf x h with
    | some ys => .ok (.tup ys) h
    | none => .bad)
  | _ => .bad
theorem u_tuple : UA g W fTuple (fun xs H Q => ∃ p ys, xs = [.ref p] ∧ ((SqL g.K H p ys ∧ ∀ l, H l = none → Q (.ref l) (upd H l (.tup ys))) ∨ (SqT g.K H p ys ∧ Q (.ref p) H))) := by
  intro F μ h G H σ x v Q s r p
  unfold fTuple at p
  split at p
  · obtain ⟨v1, rfl, r1⟩ := reps1 r
    cases r1 with
    | @tup _ a vs f z q => exact ⟨a, vs, rfl, .inr ⟨sqT_at s f, post_ok (g := g) (rel := relD g) p s (.tup f z q)⟩⟩
  · obtain ⟨v1, rfl, r1⟩ := reps1 r
    split at p
    · rename_i ys e
      obtain ⟨a, vs, rfl, hs, hz, rs⟩ := lr_at s r1 e
      exact ⟨a, vs, rfl, .inl ⟨hs, post_know (g := g) (rel := relD g) p s fun p' F' x' f' => .tup (SqT.of f') hz (rs.mono x')⟩⟩
    · exact p.elim
  · exact p.elim

/-! ### dicts of pairs -/
/-- a new dict -/
def mkD (o : Bool) (xs : List (D × D)) (h : HP) : R D := match o with
  | false => .ok (.dct xs) h
  | true => .ok (.ref h.length) (h ++ [some (.dct xs)])
theorem post_mkD {o : Bool} {ds : List (D × D)} {vs : List (Key × V)} {Q : VK} (s : SRel g.K F μ h G H) (p : post g (relD g) W F μ G σ Q (mkD o ds h)) (r : RepK g.K F μ ds vs) :
    ∀ p, H p = none → Q (.ref p) (upd H p (.dK vs)) := by
  cases o with
  | false => exact post_know (g := g) (rel := relD g) p s fun p' F' x' f' => .dctK f' (r.mono x')
  | true =>
    intro a n
    obtain ⟨s', x⟩ := s.open_ n (.dctK r)
    exact p _ _ _ _ x s' (.ref (by rw [← s.len]; simp))
/-- keys: ints, texts -/
inductive Ky where
  | int (i : Int) | str (s : List Nat)
  deriving DecidableEq
def kyOf : D → Option Ky
  | .int i => some (.int i)
  | .str s => some (.str s)
  | _ => none
def keyV : Ky → Key
  | .int i => .inl i
  | .str s => .inr (strV s)
theorem keyV_inj {a b : Ky} (e : keyV a = keyV b) : a = b := by
  cases a <;> cases b <;> simp [keyV] at e
  · rw [e]
  · rw [strV_inj e]
theorem ky_R {d : D} {k : Ky} (e : kyOf d = some k) : KeyR d (keyV k) := by
  cases d <;> first | (cases e; done) | (cases e; constructor)
theorem R_ky {d : D} {k : Key} (r : KeyR d k) : ∃ y, kyOf d = some y ∧ keyV y = k := by
  cases r
  · exact ⟨.int _, rfl, rfl⟩
  · exact ⟨.str _, rfl, rfl⟩
def kyIs (d : D) (k : Ky) : Bool := decide (kyOf d = some k)
/-- in its place, or at the end -/
def putD (ds : List (D × D)) (k v : D) (y : Ky) : List (D × D) := if (ds.any fun e => kyIs e.1 y) = true then ds.map (fun e => if kyIs e.1 y = true then (e.1, v) else e) else ds ++ [(k, v)]
def getD' (ds : List (D × D)) (y : Ky) : Option D := (ds.find? fun e => kyIs e.1 y).map (·.2)
theorem kyIs_R {d : D} {k : Key} (r : KeyR d k) (y : Ky) : kyIs d y = decide (k = keyV y) := by
  obtain ⟨z, e, rfl⟩ := R_ky r
  unfold kyIs
  rw [e, Bool.eq_iff_iff, decide_eq_true_eq, decide_eq_true_eq]
  exact ⟨fun q => by cases q; rfl, fun q => by rw [keyV_inj q]⟩
theorem RepK.any (y : Ky) : ∀ {ds kvs}, RepK K F μ ds kvs → (ds.any fun e => kyIs e.1 y) = kvs.any fun kv => decide (kv.1 = keyV y)
  | _, _, .nil => rfl
  | _, _, .cons r _ t => by rw [List.any_cons, List.any_cons, RepK.any y t]; dsimp only; rw [kyIs_R r y]
theorem RepK.put {v : D} {u : V} (rv : Rep K F μ v u) (y : Ky) : ∀ {ds kvs}, RepK K F μ ds kvs → RepK K F μ (ds.map fun e => if kyIs e.1 y = true then (e.1, v) else e) (kvs.map fun kv => if kv.1 = keyV y then (kv.1, u) else kv)
  | _, _, .nil => .nil
  | _, _, .cons (d := d) (k := k) (e := e) r q t => by
    rw [List.map_cons, List.map_cons]
    have h1 := kyIs_R r y
    by_cases z : k = keyV y
    · rw [decide_eq_true z] at h1
      dsimp only
      rw [if_pos h1, if_pos z]
      exact .cons r rv (RepK.put rv y t)
    · rw [decide_eq_false z] at h1
      dsimp only
      rw [if_neg (by rw [h1]; exact Bool.noConfusion), if_neg z]
      exact .cons r q (RepK.put rv y t)
theorem RepK.append : ∀ {ds vs es us}, RepK K F μ ds vs → RepK K F μ es us → RepK K F μ (ds ++ es) (vs ++ us)
  | _, _, _, _, .nil, s => s
  | _, _, _, _, .cons r q t, s => .cons r q (RepK.append t s)
theorem RepK.putK {ds kvs} {k v : D} {y : Ky} {u : V} (r : RepK K F μ ds kvs) (e : kyOf k = some y) (rv : Rep K F μ v u) : RepK K F μ (putD ds k v y) (L2.putK kvs (keyV y) u) := by
  unfold putD L2.putK
  rw [r.any y]
  split
  · exact r.put rv y
  · exact r.append (.cons (ky_R e) rv .nil)
theorem RepK.get (y : Ky) : ∀ {ds kvs}, RepK K F μ ds kvs → (∃ d v, getD' ds y = some d ∧ valV kvs (keyV y) = some v ∧ Rep K F μ d v) ∨ (getD' ds y = none ∧ valV kvs (keyV y) = none)
  | _, _, .nil => .inr ⟨rfl, rfl⟩
  | _, _, .cons (d := d) (k := k) (e := e) (v := v) (ds := ds) (kvs := kvs) r q t => by
    have h1 := kyIs_R r y
    by_cases z : k = keyV y
    · rw [decide_eq_true z] at h1
      exact .inl ⟨e, v, by simp [getD', List.find?_cons, h1], valV_pos (p := (k, v)) z, q⟩
    · rw [decide_eq_false z] at h1
      rw [valV_neg (p := (k, v)) z]
      have e3 : getD' ((d, e) :: ds) y = getD' ds y := by simp [getD', List.find?_cons, h1]
      rw [e3]
      exact RepK.get y t
/-- pairs put one behind the other -/
def putAll (ds : List (D × D)) : List (D × D) → Option (List (D × D))
  | [] => some ds
  | (k, v) :: r => match kyOf k with
    | some y => putAll (putD ds k v y) r
    | none => none
def pairsOf : List D → Option (List (D × D))
  | [] => some []
  | .tup [k, v] :: r => (pairsOf r).map ((k, v) :: ·)
  | _ :: _ => none
theorem putAll_R : ∀ {ps : List (D × D)} {kvs more : List (Key × V)} {ds out : List (D × D)}, RepK K F μ ds kvs → RepK K F μ ps more → putAll ds ps = some out → RepK K F μ out (mergeK kvs more)
  | _, _, _, _, _, r, .nil, e => by cases e; exact r
  | _, _, _, ds, out, r, .cons (d := d) (k := k) (e := e2) (ds := ps) rk rv t, e => by
    have e' : (match kyOf d with
      | some y => putAll (putD ds d e2 y) ps
      | none => none) = some out := e
    obtain ⟨y, h1, h2⟩ := R_ky rk
    rw [h1] at e'
    have r2 := r.putK h1 rv
    rw [h2] at r2
    have r3 := putAll_R r2 t e'
    exact r3
def fDictP (o : Bool) (xs : List D) (h : HP) : R D := match xs with
  | [] => mkD o [] h
  | [x] => (match lrOf x h with
    | some ys => (match pairsOf ys with
      | some ps => (match putAll [] ps with
        | some ds => mkD o ds h
        | none => .bad)
      | none => .bad)
    | none => .bad)
  | _ => .bad
/-- every key is one -/
def keysOk : List (D × D) → Bool
  | [] => true
  | (k, _) :: r => (kyOf k).isSome && keysOk r
theorem putAll_keys : ∀ {ps ds out : List (D × D)}, putAll ds ps = some out → keysOk ps = true
  | [], _, _, _ => rfl
  | (k, v) :: r, ds, out, e => by
    have e' : (match kyOf k with
      | some y => putAll (putD ds k v y) r
      | none => none) = some out := e
    cases q : kyOf k with
    | none => rw [q] at e'; cases e'
    | some y =>
      rw [q] at e'
      show ((kyOf k).isSome && keysOk r) = true
      rw [q, putAll_keys e']
      rfl
theorem pairs_V {H : Hp} (s : SRel K F μ h G H) : ∀ {ds : List D} {vs : List V} {ps : List (D × D)}, Reps K F μ ds vs → pairsOf ds = some ps → keysOk ps = true → ∃ (as : List Addr) (kvs : List (Key × V)), vs = as.map V.ref ∧ Paired (fun p kv => SqT K H p [kV kv.1, kv.2]) as kvs ∧ RepK K F μ ps kvs
  | _, _, _, .nil, e, _ => by cases e; exact ⟨[], [], rfl, .nil, .nil⟩
  | d :: ds, v :: vs, ps, .cons r t, e, ko => by
    have step : ∀ k x, d = .tup [k, x] → ∃ (as : List Addr) (kvs : List (Key × V)), v :: vs = as.map V.ref ∧ Paired (fun p kv => SqT K H p [kV kv.1, kv.2]) as kvs ∧ RepK K F μ ps kvs := by
      intro k x ed
      subst ed
      have e' : (pairsOf ds).map ((k, x) :: ·) = some ps := e
      cases q : pairsOf ds with
      | none => rw [q] at e'; cases e'
      | some ms =>
        rw [q] at e'
        cases e'
        have ko' : ((kyOf k).isSome && keysOk ms) = true := ko
        rw [Bool.and_eq_true] at ko'
        obtain ⟨as, kvs, e1, pr, rk⟩ := pairs_V s t q ko'.2
        obtain ⟨y, hy⟩ := Option.isSome_iff_exists.mp ko'.1
        cases r with
        | @tup _ a ws f z rs =>
          obtain ⟨w1, w2, rfl, r1, r2⟩ := reps2 rs
          have ek : w1 = kV (keyV y) := by
            cases k <;> first | (cases hy; done) | (cases hy; cases r1; rfl)
          refine ⟨a :: as, (keyV y, w2) :: kvs, by rw [e1]; rfl, .cons ?_ pr, .cons (ky_R hy) r2 rk⟩
          rw [← ek]
          exact sqT_at s f
    cases d with
    | tup zs =>
      match zs, e, step with
      | [k, x], _, st => exact st k x rfl
      | [], e, _ => cases e
      | [_], e, _ => cases e
      | _ :: _ :: _ :: _, e, _ => cases e
    | _ => cases e
theorem u_dictP {o : Bool} : UA g W (fun xs h => match xs with | [_] => fDictP o xs h | _ => .bad) (fun xs H Q => ∃ (a : Addr) (ps : List Addr) (kvs : List (Key × V)), xs = [.ref a] ∧ SqL g.K H a (ps.map V.ref) ∧ Paired (fun p kv => SqT g.K H p [kV kv.1, kv.2]) ps kvs ∧
    ∀ p, H p = none → Q (.ref p) (upd H p (.dK (mergeK [] kvs)))) := by
  intro F μ h G H σ x v Q s r p
  match x, r, p with
  | [x], r, p =>
    obtain ⟨v1, rfl, r1⟩ := reps1 r
    have p' : post g (relD g) W F μ G σ Q (fDictP o [x] h) := p
    unfold fDictP at p'
    dsimp only at p'
    split at p'
    · rename_i ys e
      obtain ⟨a, vs, rfl, hs, hz, rs⟩ := lr_at s r1 e
      split at p'
      · rename_i ps e2
        split at p'
        · rename_i ds e3
          obtain ⟨as, kvs, rfl, pr, rk⟩ := pairs_V s rs e2 (putAll_keys e3)
          exact ⟨a, as, kvs, rfl, hs, pr, post_mkD s p' (putAll_R .nil rk e3)⟩
        · exact p'.elim
      · exact p'.elim
    · exact p'.elim
  | [], _, p => exact p.elim
  | _ :: _ :: _, _, p => exact p.elim

/-! ### isinstance -/
def tyOfD (x : D) (h : HP) : Option Ty := match x with
  | .non => some .none
  | .bl _ => some .bool
  | .int _ => some .int
  | .str _ => some .str
  | .tup _ => some .tuple
  | .lst _ => some .list
  | .scr _ => some .list
  | .dct _ => some .dict
  | .ref i => (match h[i]? with
    | some (some (.lst _)) => some .list
    | some (some (.dct _)) => some .dict
    | _ => none)
  | _ => none
theorem tyV_tup {a : Addr} {vs : List V} {H : Hp} (f : SqT K H a vs) : TyX K H (.ref a) (.type "tuple") := by
  rcases f with (f | ⟨o, f⟩) | ⟨o, its, n, f, hc, _⟩
  · exact .base (.tup f)
  · exact .fTuple f
  · exact .kTuple f hc
theorem tyV_lst {a : Addr} {vs : List V} {H : Hp} (f : SqL K H a vs) : TyX K H (.ref a) (.type "list") := by
  rcases f with (f | ⟨o, f⟩) | ⟨o, its, n, f, hc, _⟩
  · exact .base (.lst f)
  · exact .base (.frz f)
  · exact .kList f hc
theorem tyV_D (s : SRel K F μ h G H) {x : D} {v : V} (r : Rep K F μ x v) {t : Ty} (e : tyOfD x h = some t) : TyX K H v (.type t.name) := by
  cases r with
  | non => cases e; exact .base .non
  | bl => cases e; exact .base (.bl _)
  | int => cases e; exact .base (.int _)
  | str => cases e; exact .base (.str _)
  | tup f z q => cases e; exact tyV_tup (sqT_at s f)
  | lst f z q => cases e; exact .base (.lst (s.sub _ _ f))
  | scr f z q => cases e; exact tyV_lst (sqL_at s f)
  | dctK f q => cases e; exact .base (.dK (s.sub _ _ f))
  | dctT f q => cases e; exact .base (.dT (s.sub _ _ f))
  | ty t => cases e
  | @ref i a m =>
    have e' : (match h[i]? with
      | some (some (.lst _)) => some Ty.list
      | some (some (.dct _)) => some .dict
      | _ => none) = some t := e
    split at e'
    · rename_i hi
      cases e'
      obtain ⟨b, u, m', hH, _, _, ro⟩ := s.live i _ hi
      rw [m] at m'; cases m'
      cases ro; exact .base (.lst hH)
    · rename_i hi
      cases e'
      obtain ⟨b, u, m', hH, _, _, ro⟩ := s.live i _ hi
      rw [m] at m'; cases m'
      cases ro
      · exact .base (.dK hH)
      · exact .base (.dT hH)
    · cases e'
/-- a type's answer: bool is an int -/
def isiT (a b : Ty) : Bool := match a, b with
  | .bool, .int => true
  | a, b => decide (a = b)
theorem kit_isi {K : PySem.W.Frag} (a b : Ty) : PySem.W.kitOne K (.type a.name) (.type b.name) = some (isiT a b) := by
  cases a <;> cases b <;> exact kit_ty (by decide +kernel)
def fIsi (xs : List D) (h : HP) : R D := match xs with
  | [x, .ty b] => (match tyOfD x h with
    | some a => .ok (.bl (isiT a b)) h
    | none => .bad)
  | _ => .bad
theorem u_isi : UA g W fIsi (rIsi g.K) := by
  intro F μ h G H σ x v Q s r p
  unfold fIsi at p
  split at p
  · obtain ⟨v1, u1, rfl, r1, q1⟩ := reps2 r
    cases q1
    split at p
    · rename_i a e
      exact ⟨_, _, _, _, _, rfl, .ty _, tyV_D s r1 e, kit_isi _ _, post_ok (g := g) (rel := relD g) p s (.bl _)⟩
    · exact p.elim
  · exact p.elim
end
end Zs
end

/-! Ff -/
noncomputable section
namespace Zs
open PySem PySem.Spec L2
open PyProof.Rows hiding St
open Classical

section
variable {g : Gm} {W : WX} {K : PySem.W.Frag} {F : Hp} {μ : List Addr} {G H : Hp} {σ : L2.St} {h : HP}

/-! ### methods -/
def UM (g : Gm) (W : WX) (f : D → List D → HP → R D) (r : V → List V → Hp → VK → Prop) : Prop :=
  ∀ F μ h G H σ x v xs vs Q, SRel g.K F μ h G H → Rep g.K F μ x v → Reps g.K F μ xs vs → post g (relD g) W F μ G σ Q (f x xs h) → r v vs H Q
/-- of that type -/
def isStrD (x : D) (_ : HP) : Bool := match x with
  | .str _ => true
  | _ => false
def isLstD (x : D) (h : HP) : Bool := (lrOf x h).isSome
def isDctD (x : D) (h : HP) : Bool := (dcOf x h).isSome
def ChkT (K : PySem.W.Frag) (T : String) (c : D → HP → Bool) : Prop := ∀ F μ h G H x v, SRel K F μ h G H → Rep K F μ x v → c x h = true → tyV K T v H
theorem chk_str : ChkT K "str" isStrD := fun F μ h G H x v s r e => by
  cases x with
  | str z => cases r; rfl
  | _ => cases e
theorem chk_lst : ChkT K "list" isLstD := fun F μ h G H x v s r e => by
  obtain ⟨ds, e⟩ := Option.isSome_iff_exists.mp e
  obtain ⟨a, vs, rfl, hs, _⟩ := lr_at s r e
  exact .inl ⟨rfl, vs, hs⟩
theorem chk_dct : ChkT K "dict" isDctD := fun F μ h G H x v s r e => by
  obtain ⟨ds, e⟩ := Option.isSome_iff_exists.mp e
  obtain ⟨a, rfl, ⟨kvs, hH, rk⟩ | ⟨kvs, hH, rk⟩⟩ := dc_at s r e
  · exact .inr (.inr (.inl ⟨rfl, .inl ⟨kvs, hH⟩⟩))
  · exact .inr (.inr (.inl ⟨rfl, .inr ⟨kvs, hH⟩⟩))
def eMt (c : D → HP → Bool) (f : D → List D → HP → R D) (a : EM) (r : AM) : EM := fun ρ h => (a ρ h).bnd fun x h1 => bif c x h1 then (r ρ h1).bnd fun xs h2 => f x xs h2 else .bad
theorem tBM_of {T : String} {c : D → HP → Bool} {f : D → List D → HP → R D} {r : V → List V → Hp → VK → Prop} (hc : ChkT g.K T c) (u : UM g W f r) {a : EM} {ar : AM} : ∀ σ H Q, tE g W (eMt c f a ar) σ H Q → tBM g.K T r (tE g W a) (tA g W ar) σ H Q :=
  fun σ H Q ⟨F, μ, h, G, ρ, s, en, q⟩ => ⟨F, μ, h, G, ρ, s, en, post_bnd (g := g) q fun F1 μ1 h1 H1 d v x s1 rv q1 => by
    cases e : c d h1 with
    | false => rw [e] at q1; exact q1.elim
    | true =>
      rw [e] at q1
      exact ⟨hc _ _ _ _ _ _ _ s1 rv e, F1, μ1, h1, G, ρ, s1, en.mono x, post_bnd (g := g) q1 fun F2 μ2 h2 H2 d2 v2 x2 s2 rv2 q2 => u F2 μ2 h2 G H2 σ d v d2 v2 Q s2 (rv.mono x2) rv2 q2⟩⟩
theorem tBM0_of {T : String} {c : D → HP → Bool} {f : D → List D → HP → R D} {r : V → List V → Hp → VK → Prop} (hc : ChkT g.K T c) (u : UM g W f r) {a : EM} : ∀ σ H Q, tE g W (eMt c f a aN) σ H Q → tBM0 g.K T r (tE g W a) σ H Q :=
  fun σ H Q ⟨F, μ, h, G, ρ, s, en, q⟩ => ⟨F, μ, h, G, ρ, s, en, post_bnd (g := g) q fun F1 μ1 h1 H1 d v x s1 rv q1 => by
    cases e : c d h1 with
    | false => rw [e] at q1; exact q1.elim
    | true =>
      rw [e] at q1
      exact ⟨hc _ _ _ _ _ _ _ s1 rv e, u F1 μ1 h1 G H1 σ d v [] [] Q s1 rv .nil q1⟩⟩
/-- an open list -/
def opL (x : D) (h : HP) : Option (Nat × List D) := match x with
  | .ref i => (match h[i]? with
    | some (some (.lst xs)) => some (i, xs)
    | _ => none)
  | _ => none
theorem opL_at (s : SRel K F μ h G H) {x : D} {v : V} (r : Rep K F μ x v) {i : Nat} {ds : List D} (e : opL x h = some (i, ds)) : ∃ a vs, v = .ref a ∧ h[i]? = some (some (.lst ds)) ∧ μ[i]? = some a ∧ H a = some (.lst vs) ∧ vs.length ≤ sizeLine ∧ Reps K F μ ds vs := by
  cases r with
  | @ref j a m =>
    have e' : (match h[j]? with
      | some (some (.lst xs)) => some (j, xs)
      | _ => none) = some (i, ds) := e
    split at e'
    · rename_i xs hi
      cases e'
      obtain ⟨b, u, m', hH, _, _, ro⟩ := s.live _ _ hi
      rw [m] at m'; cases m'
      cases ro with
      | lst z q => exact ⟨a, _, rfl, hi, m, hH, z, q⟩
    · cases e'
  | _ => cases e
def mApp (x : D) (xs : List D) (h : HP) : R D := match opL x h, xs with
  | some (i, ys), [y] => if ys.length < sizeLine then .ok .non (h.set i (some (.lst (ys ++ [y])))) else .bad
  | _, _ => .bad
/-- a write, then Q -/
theorem post_write {α : Type} {rel : Hp → List Addr → α → V → Prop} {Q : VK} {d : α} {v : V} {i : Nat} {o o' : O} {a : Addr} {u : HO} (s : SRel g.K F μ h G H) (e : h[i]? = some (some o)) (m : μ[i]? = some a) (r : RepO g.K F μ o' u)
    (p : post g rel W F μ G σ Q (.ok d (h.set i (some o')))) (q : rel F μ d v) : Q v (upd H a u) := p F μ _ v (Ext.refl F μ) (s.write e m r) q
theorem u_app : UM g W mApp rAppend := by
  intro F μ h G H σ x v xs vs Q s r rs p
  unfold mApp at p
  split at p
  · rename_i i ys y e
    obtain ⟨a, ws, rfl, hi, m, hH, z, q⟩ := opL_at s r e
    obtain ⟨w, rfl, rw1⟩ := reps1 rs
    split at p
    · rename_i z2
      have z3 : ws.length < sizeLine := by rw [← q.length]; exact z2
      exact ⟨a, ws, w, rfl, rfl, hH, z3, post_write (rel := relD g) s hi m (.lst (by rw [List.length_append, List.length_singleton]; omega) (q.append (.cons rw1 .nil))) p .non⟩
    · exact p.elim
  · exact p.elim
def mExt (x : D) (xs : List D) (h : HP) : R D := match opL x h, xs with
  | some (i, ys), [y] => (match lsOf y h with
    | some zs => if ys.length + zs.length ≤ sizeLine then .ok .non (h.set i (some (.lst (ys ++ zs)))) else .bad
    | none => .bad)
  | _, _ => .bad
theorem u_ext : UM g W mExt rExtend := by
  intro F μ h G H σ x v xs vs Q s r rs p
  unfold mExt at p
  split at p
  · rename_i i ys y e
    obtain ⟨a, ws, rfl, hi, m, hH, z, q⟩ := opL_at s r e
    obtain ⟨w, rfl, rw1⟩ := reps1 rs
    split at p
    · rename_i zs e2
      obtain ⟨b, us, rfl, hb, zb, qb⟩ := ls_at s rw1 e2
      split at p
      · rename_i z2
        have z3 : ws.length + us.length ≤ sizeLine := by rw [← q.length, ← qb.length]; exact z2
        exact ⟨a, b, ws, us, rfl, rfl, hH, hb, z3, post_write (rel := relD g) s hi m (.lst (by rw [List.length_append]; omega) (q.append qb)) p .non⟩
      · exact p.elim
    · exact p.elim
  · exact p.elim
def mPop (x : D) (xs : List D) (h : HP) : R D := match opL x h, xs with
  | some (i, ys), [] => (match ys[ys.length - 1]? with
    | some y => .ok y (h.set i (some (.lst ys.dropLast)))
    | none => .bad)
  | _, _ => .bad
theorem u_pop : UM g W mPop rPop := by
  intro F μ h G H σ x v xs vs Q s r rs p
  unfold mPop at p
  split at p
  · rename_i i ys e
    obtain ⟨a, ws, rfl, hi, m, hH, z, q⟩ := opL_at s r e
    cases rs
    split at p
    · rename_i y e2
      obtain ⟨w, e3, rw1⟩ := q.get e2
      have hd : Reps g.K F μ ys.dropLast ws.dropLast := by
        rw [List.dropLast_eq_take, List.dropLast_eq_take, q.length]
        exact q.take _
      exact ⟨a, ws, w, rfl, rfl, hH, by rw [← q.length]; exact e3, post_write (rel := relD g) s hi m (.lst (by rw [List.length_dropLast]; omega) hd) p rw1⟩
    · exact p.elim
  · exact p.elim
/-- texts -/
def mJoin (x : D) (xs : List D) (h : HP) : R D := match x, xs with
  | .str a, [y] => (match sqOf y h with
    | some zs => (match strsOf zs with
      | some ts => if (ts.map (·.length)).sum + ts.length * a.length ≤ sizeLine then .ok (.str (TL.joinL a ts)) h else .bad
      | none => .bad)
    | none => .bad)
  | _, _ => .bad
theorem joinL_len (a : List Nat) : ∀ ts : List (List Nat), (TL.joinL a ts).length ≤ (ts.map (·.length)).sum + ts.length * a.length
  | [] => by simp [TL.joinL]
  | [p] => by simp [TL.joinL]
  | p :: q :: r => by
    have ih := joinL_len a (q :: r)
    show (p ++ (a ++ TL.joinL a (q :: r))).length ≤ _
    rw [List.length_append, List.length_append, List.map_cons, List.sum_cons, List.length_cons (a := p), Nat.add_mul]
    omega
def rJoin (K : PySem.W.Frag) : V → List V → Hp → VK → Prop := fun x xs H Q => ∃ a p, ∃ ys : List Str, x = .str a ∧ xs = [.ref p] ∧ (SqL K H p (ys.map V.str) ∨ SqT K H p (ys.map V.str)) ∧
    (ys.map (·.length)).sum + ys.length * a.length ≤ 16777216 ∧ Q (.str (Txt.join a ys)) H
theorem strV_lens (ts : List (List Nat)) : (ts.map strV).map (·.length) = ts.map (·.length) := by
  rw [List.map_map]
  exact List.map_congr_left fun t _ => strV_len t
theorem u_join : UM g W mJoin (rJoin g.K) := by
  intro F μ h G H σ x v xs vs Q s r rs p
  unfold mJoin at p
  split at p
  · rename_i a y
    obtain ⟨w, rfl, rw1⟩ := reps1 rs
    cases r
    split at p
    · rename_i zs e
      obtain ⟨b, us, rfl, hb, zb, qb⟩ := sq_at s rw1 e
      split at p
      · rename_i ts e2
        have e3 := strs_V qb e2
        subst e3
        split at p
        · rename_i z
          have z' : ((ts.map strV).map (·.length)).sum + (ts.map strV).length * (strV a).length ≤ 16777216 := by
            rw [strV_lens, List.length_map, strV_len, ← sizeLine_eq]; exact z
          refine ⟨_, b, ts.map strV, rfl, rfl, hb, z', ?_⟩
          have ej : Txt.join (strV a) (ts.map strV) = strV (TL.joinL a ts) := SX.join_S a ts
          rw [ej]
          exact post_ok (g := g) (rel := relD g) p s (.str _ (Nat.le_trans (joinL_len a ts) z))
        · exact p.elim
      · exact p.elim
    · exact p.elim
  · exact p.elim
def mSplit (o : Bool) (x : D) (xs : List D) (h : HP) : R D := match x, xs with
  | .str a, [.str b] => if b ≠ [] ∧ b.all (· < 256) = true ∧ a.length + 2 ≤ sizeLine then mkL o ((TL.spl b 0 [] a).map D.str) h else .bad
  | _, _ => .bad
def rSplit : V → List V → Hp → VK → Prop := fun x xs H Q => ∃ a b, x = .str a ∧ xs = [.str b] ∧ (b.length == 0) = false ∧ a.length + 2 ≤ sizeLine ∧ rNewStrs (Txt.split a b) H Q
end
end Zs
end

/-! Fg -/
noncomputable section
namespace Zs
open PySem PySem.Spec L2
open PyProof.Rows hiding St
open Classical

section
variable {g : Gm} {W : WX} {K : PySem.W.Frag} {F : Hp} {μ : List Addr} {G H : Hp} {σ : L2.St} {h : HP}
theorem spl_count (S : List Nat) : ∀ (r : List Nat) (k : Nat) (acc : List Nat), (TL.spl S k acc r).length ≤ r.length + 1
  | [], k, acc => by rw [TL.spl_nil]; simp
  | c :: r, 0, acc => by
    show (if TL.pre S (c :: r) = true then acc :: TL.spl S (S.length - 1) [] r else TL.spl S 0 (acc ++ [c]) r).length ≤ _
    have h1 := spl_count S r (S.length - 1) []
    have h2 := spl_count S r 0 (acc ++ [c])
    split
    · rw [List.length_cons, List.length_cons]; omega
    · rw [List.length_cons]; omega
  | c :: r, k + 1, acc => by
    have h1 := spl_count S r k acc
    show (TL.spl S k acc r).length ≤ _
    rw [List.length_cons]; omega
theorem spl_part_len (S : List Nat) : ∀ (r : List Nat) (k : Nat) (acc : List Nat), ∀ p ∈ TL.spl S k acc r, p.length ≤ acc.length + r.length
  | [], k, acc => by rw [TL.spl_nil]; intro p hp; rw [List.mem_singleton] at hp; subst hp; simp
  | c :: r, 0, acc => by
    show ∀ p ∈ (if TL.pre S (c :: r) = true then acc :: TL.spl S (S.length - 1) [] r else TL.spl S 0 (acc ++ [c]) r), _
    intro p hp
    split at hp
    · rcases List.mem_cons.mp hp with e | hp
      · subst e; omega
      · have := spl_part_len S r (S.length - 1) [] p hp
        simp at this ⊢; omega
    · have := spl_part_len S r 0 (acc ++ [c]) p hp
      simp at this ⊢; omega
  | c :: r, k + 1, acc => by
    intro p hp
    have := spl_part_len S r k acc p hp
    simp; omega
theorem reps_strs {F : Hp} {μ : List Addr} : ∀ (ts : List (List Nat)), (∀ t ∈ ts, t.length ≤ sizeLine) → Reps K F μ (ts.map D.str) ((ts.map strV).map V.str)
  | [], _ => .nil
  | t :: ts, h => .cons (.str t (h t List.mem_cons_self)) (reps_strs ts fun t' ht => h t' (List.mem_cons_of_mem _ ht))
theorem u_split {o : Bool} : UM g W (mSplit o) rSplit := by
  intro F μ h G H σ x v xs vs Q s r rs p
  unfold mSplit at p
  split at p
  · rename_i a b
    obtain ⟨w, rfl, rw1⟩ := reps1 rs
    cases r; cases rw1
    split at p
    · rename_i z
      obtain ⟨z1, z2, z3⟩ := z
      have eb : ((strV b).length == 0) = false := by
        rw [strV_len]
        cases b with
        | nil => exact absurd rfl z1
        | cons c b => rfl
      refine ⟨_, _, rfl, rfl, eb, by rw [strV_len]; exact z3, ?_⟩
      have es : Txt.split (strV a) (strV b) = (TL.spl b 0 [] a).map strV := SX.split_S z1 z2
      rw [es]
      have hc := spl_count b a 0 []
      have hp : Reps g.K F μ ((TL.spl b 0 [] a).map D.str) (((TL.spl b 0 [] a).map strV).map V.str) := reps_strs _ fun t ht => by
        have := spl_part_len b a 0 [] t ht
        simp at this
        omega
      exact post_mkL s p (by rw [List.length_map, List.length_map]; omega) hp
    · exact p.elim
  · exact p.elim

/-! ### calls of the program's functions -/
abbrev WXK (E : XK) : WX := fun c d _ H => E c d H
/-- a function's promise -/
def spOf (g : Gm) (n : Nat) (f : FSem) : Sp := fun vs H Q E => vs.length = n ∧ ∃ F μ h G ds, SRel g.K F μ h G H ∧ Reps g.K F μ ds vs ∧ post g (relD g) (WXK E) F μ G [] Q (f ds h)
/-- how a call binds: ix names, for each parameter, its place among the arguments -/
def pickL {α : Type} (ix : List Nat) (l : List α) : List α := ix.filterMap fun i => l[i]?
structure KB (K : PySem.W.Frag) (fd : FuncData) (ps ks : List Str) (n : Nat) (ix : List Nat) : Prop where
  to : ∀ (s : Shared) (us ws : List Value), us.length = n → ws.length = ks.length → BindsTo s fd ⟨us, ks.zip ws⟩ (ps.zip (pickL ix (us ++ ws)))
theorem vals_get : ∀ {vs : List V} {us : List Value}, Vals vs us → ∀ i : Nat, (vs[i]? = none ∧ us[i]? = none) ∨ ∃ v u, vs[i]? = some v ∧ us[i]? = some u ∧ RelV v u
  | _, _, .nil, i => .inl ⟨by simp, by simp⟩
  | _, _, .cons r t, 0 => .inr ⟨_, _, rfl, rfl, r⟩
  | _, _, .cons r t, i + 1 => by
    rcases vals_get t i with ⟨a, b⟩ | ⟨v, u, a, b, c⟩
    · exact .inl ⟨by simpa using a, by simpa using b⟩
    · exact .inr ⟨v, u, by simpa using a, by simpa using b, c⟩
theorem vals_pick {vs : List V} {us : List Value} (r : Vals vs us) : ∀ ix : List Nat, Vals (pickL ix vs) (pickL ix us)
  | [] => .nil
  | i :: ix => by
    unfold pickL
    rcases vals_get r i with ⟨a, b⟩ | ⟨v, u, a, b, c⟩
    · rw [List.filterMap_cons_none a, List.filterMap_cons_none b]
      exact vals_pick r ix
    · rw [List.filterMap_cons_some a, List.filterMap_cons_some b]
      exact .cons c (vals_pick r ix)
theorem reps_get : ∀ {ds : List D} {vs : List V}, Reps K F μ ds vs → ∀ i : Nat, (ds[i]? = none ∧ vs[i]? = none) ∨ ∃ d v, ds[i]? = some d ∧ vs[i]? = some v ∧ Rep K F μ d v
  | _, _, .nil, i => .inl ⟨by simp, by simp⟩
  | _, _, .cons r t, 0 => .inr ⟨_, _, rfl, rfl, r⟩
  | _, _, .cons r t, i + 1 => by
    rcases reps_get t i with ⟨a, b⟩ | ⟨v, u, a, b, c⟩
    · exact .inl ⟨by simpa using a, by simpa using b⟩
    · exact .inr ⟨v, u, by simpa using a, by simpa using b, c⟩
theorem reps_pick {ds : List D} {vs : List V} (r : Reps K F μ ds vs) : ∀ ix : List Nat, Reps K F μ (pickL ix ds) (pickL ix vs)
  | [] => .nil
  | i :: ix => by
    unfold pickL
    rcases reps_get r i with ⟨a, b⟩ | ⟨v, u, a, b, c⟩
    · rw [List.filterMap_cons_none a, List.filterMap_cons_none b]
      exact reps_pick r ix
    · rw [List.filterMap_cons_some a, List.filterMap_cons_some b]
      exact .cons c (reps_pick r ix)
/-- f(a, .., k = b, ..) -/
def eCl (f : FSem) (np : Nat) (n m : Nat) (ix : List Nat) (a b : AM) : EM := fun ρ h => (a ρ h).bnd fun xs h1 => (b ρ h1).bnd fun zs h2 =>
  if xs.length = n ∧ zs.length = m ∧ (pickL ix (xs ++ zs)).length = np then f (pickL ix (xs ++ zs)) h2 else .bad
def tClX (sp : Sp) (n m : Nat) (ix : List Nat) (W : WX) (t tk : TA) : TE := fun σ H Q => t σ H fun vs H1 => tk σ H1 fun zs H2 => vs.length = n ∧ zs.length = m ∧ sp (pickL ix (vs ++ zs)) H2 Q (WE W σ)
theorem tCl_of {f : FSem} {np n m : Nat} {ix : List Nat} {a b : AM} : ∀ σ H Q, tE g W (eCl f np n m ix a b) σ H Q → tClX (spOf g np f) n m ix W (tA g W a) (tA g W b) σ H Q := fun σ H Q ⟨F, μ, h, G, ρ, s, en, q⟩ =>
  ⟨F, μ, h, G, ρ, s, en, post_bnd (g := g) q fun F1 μ1 h1 H1 ds vs x s1 rv q1 => ⟨F1, μ1, h1, G, ρ, s1, en.mono x, post_bnd (g := g) q1 fun F2 μ2 h2 H2 es us x2 s2 rv2 q2 => by
    split at q2
    · rename_i z
      obtain ⟨z1, z2, z3⟩ := z
      have rr := reps_pick ((rv.mono x2).append rv2) ix
      refine ⟨by rw [← rv.length]; exact z1, by rw [← rv2.length]; exact z2, by rw [← rr.length]; exact z3, F2, μ2, h2, G, _, s2, rr, ?_⟩
      cases e : f (pickL ix (ds ++ es)) h2 with
      | ok d h' => rw [e] at q2; exact q2
      | exc c d h' => rw [e] at q2; exact q2
      | bad => rw [e] at q2; exact q2
    · exact q2.elim⟩⟩
/-- no star -/
def noStar : Expr → Bool
  | .Starred _ _ => false
  | _ => true
theorem starEach_no (env : Env) {e : Expr} (h : noStar e = true) (es : List Expr) : starEach (e :: es) env = (false, eval e env) :: starEach es env := by
  cases e <;> first | rfl | (cases h; done)
theorem plain_no (env : Env) (pos : Pos) : ∀ {es : List Expr}, es.all noStar = true → (backTo pos (starEach es env)).any (·.1) = false
  | [], _ => rfl
  | e :: es, h => by
    rw [List.all_cons, Bool.and_eq_true] at h
    rw [starEach_no env h.1]
    show (false || (backTo pos (starEach es env)).any (·.1)) = false
    rw [plain_no env pos h.2]
    rfl
/-- the keywords' names -/
def kwsOk : List Keyword → List Str → Bool
  | [], [] => true
  | ⟨some x, _, _⟩ :: r, y :: ys => decide (x = y) && kwsOk r ys
  | _, _ => false
theorem kws_all (env : Env) (pos : Pos) : ∀ {kws : List Keyword} {ks : List Str}, kwsOk kws ks = true → (backToKw pos (keywordEach kws env)).all (·.1.isSome) = true ∧ (backToKw pos (keywordEach kws env)).filterMap (·.1) = ks ∧ (backToKw pos (keywordEach kws env)).any (·.1.isNone) = false
  | [], [], _ => ⟨rfl, rfl, rfl⟩
  | ⟨some x, v, p⟩ :: r, y :: ys, h => by
    have h' : (decide (x = y) && kwsOk r ys) = true := h
    rw [Bool.and_eq_true, decide_eq_true_eq] at h'
    obtain ⟨e, h2⟩ := h'
    subst e
    obtain ⟨a, b, c⟩ := kws_all env pos h2
    refine ⟨?_, ?_, ?_⟩
    · show (true && (backToKw pos (keywordEach r env)).all (·.1.isSome)) = true
      rw [a]; rfl
    · show x :: (backToKw pos (keywordEach r env)).filterMap (·.1) = x :: ys
      rw [b]
    · show (false || (backToKw pos (keywordEach r env)).any (·.1.isNone)) = false
      rw [c]; rfl
  | [], _ :: _, h => nomatch h
  | ⟨none, _, _⟩ :: _, _, h => by cases h
  | ⟨some _, _, _⟩ :: _, [], h => by cases h
section
variable {X : Cx} {k : Nat} {f : Addr} {fd : FuncData} {ps ks : List Str} {sp : Sp} {x : Str} {p pos : Pos} {es : List Expr} {kws : List Keyword} {t tk : TA} {n : Nat} {ix : List Nat}
theorem run_clX {pins : List (Addr × Obj)} {σ : L2.St} {H : Hp} {s : Shared} {Q : VK} {us ws : List Value} {vs zs : List V} (Fk : FnOk X.prog X.w X.K X.mg X.base (L2.CX X.prog X.w) k f fd ps sp) (hr : Room k X.A) (hb : KB X.K fd ps ks n ix) (tk : Takes X W)
    (I : Inv X pins σ H s) (r : Vals vs us) (rz : Vals zs ws) (l1 : vs.length = n) (l2 : zs.length = ks.length) (h : sp (pickL ix (vs ++ zs)) H Q (WE W σ)) : wpAny (model X.prog X.w) X.A (call (.ref f) us (ks.zip ws)) (EP X pins σ Q) X.xe s := by
  refine wpAny_call (codeAny_mono (Fk.run X.A X.stack s H ⟨us, ks.zip ws⟩ (pickL ix (us ++ ws)) (pickL ix (vs ++ zs)) Q (WE W σ) hr I.env0 (hb.to s us ws (r.length.symm.trans l1) (rz.length.symm.trans l2)) (vals_pick (r.append rz) ix) h) fun r s' hq => ?_)
  cases r with
  | error e => exact passAt tk σ pins H s e s' I hq
  | ok fl =>
    cases fl with
    | ret u => exact I.after hq
    | next => exact False.elim hq
    | brk => exact False.elim hq
    | cont => exact False.elim hq
theorem tA_nil {C : List V → Hp → Prop} {σ : L2.St} {H : Hp} (h : tA g W aN σ H C) : C [] H := by
  obtain ⟨F, μ, h', G, ρ, s, en, q⟩ := h
  exact post_ok (g := g) (rel := relA g) q s .nil
theorem se_cl {m : FSem} {a b : AM} (hK : X.K = g.K) (Fk : FnOk X.prog X.w X.K X.mg X.base (L2.CX X.prog X.w) k f fd ps (spOf g ps.length m)) (hr : Room k X.A) (hg : Gl X x) (hm : X.mg x = some (.ref f)) (hk : PySem.W.keepIn X.K (.ref f) = true) (hb : KB X.K fd ps ks n ix) (tk1 : Takes X W)
    (ha : PA X es (tA g W a)) (hnil : es = [] → a = aN) (hkw : PK X kws (tA g W b)) (hn : es.all noStar = true) (hkk : kwsOk kws ks = true) (hdb : (x == ("__debug__" : Str)) = false) : PE X (.Call (.Name x p) es kws pos) (tE g W (eCl m ps.length n ks.length ix a b)) := by
  obtain ⟨k1, k2, k3⟩ := kws_all X.env pos hkk
  refine ⟨fun pins s σ H Q I h0 => ?_⟩
  have h := tCl_of σ H Q h0
  refine wpAny_Call_Name_kw (ld_glob I hg hm ?_ hdb)
  cases es with
  | nil =>
    have ea := hnil rfl
    subst ea
    have h2 := tA_nil h
    refine PySem.W.callWith_KW0 (h₀ := X.base) I.ok.mod.kin hk k1 (thn (hkw.run pos pins s σ H _ I h2) fun ws s2 ⟨zs, H2, I2, rz, l1, l2, q2⟩ => ⟨I2.kIn, ?_⟩) (by rw [k3]; rfl)
    rw [k2]
    exact run_clX Fk hr hb tk1 I2 .nil rz l1 l2 q2
  | cons e es =>
    rw [List.all_cons, Bool.and_eq_true] at hn
    have hst := starEach_no X.env hn.1 es
    refine PySem.W.callWith_KW (h₀ := X.base) I.ok.mod.kin hk k1 (thn (ha.run pos pins s σ H _ I h) fun us s1 ⟨vs, H1, I1, r, q⟩ => ?_) (by rw [hst, k3, Bool.or_false]; exact plain_no X.env pos hn.2) hst
    refine thn (hkw.run pos pins s1 σ H1 _ I1 q) fun ws s2 ⟨zs, H2, I2, rz, l1, l2, q2⟩ => ⟨I2.kIn, ?_⟩
    rw [k2]
    exact run_clX Fk hr hb tk1 I2 r rz l1 l2 q2
theorem sk_n : PK X [] (tA g W aN) := ⟨fun pos pins s σ H Q I h => pk_nil.run pos pins s σ H Q I (tA_nil h)⟩
theorem _root_.L2.PK.imp {X : Cx} {e : List Keyword} {t t' : TA} (p : PK X e t) (h : ∀ σ H Q, t' σ H Q → t σ H Q) : PK X e t' := ⟨fun pos pins s σ H Q I hw => p.run pos pins s σ H Q I (h _ _ _ hw)⟩
theorem sk_c {e : Expr} {a : EM} {r : AM} {nm : Option Str} {kpos : Pos} (ha : PE X e (tE g W a)) (hr : PK X kws (tA g W r)) : PK X (⟨nm, e, kpos⟩ :: kws) (tA g W (aC a r)) :=
  (pk_cons ha hr).imp fun σ H Q ⟨F, μ, h, G, ρ, s, en, q⟩ =>
    ⟨F, μ, h, G, ρ, s, en, post_bnd (g := g) q fun F1 μ1 h1 H1 d v x s1 rv q1 =>
      ⟨F1, μ1, h1, G, ρ, s1, en.mono x, post_bnd (g := g) q1 fun F2 μ2 h2 H2 d2 v2 x2 s2 rv2 q2 => post_ok (g := g) (rel := relA g) q2 s2 (.cons (rv.mono x2) rv2)⟩⟩
end

/-! ### calls of built-in functions, methods -/
section
variable {X : Cx} {o e : Expr} {es : List Expr} {a : EM} {r : AM} {x name : Str} {p pos apos cpos : Pos} {id T : String}
theorem se_bf {f : List D → HP → R D} {rr : List V → Hp → VK → Prop} (hc : CallR X (.builtin id) rr) (u : UA g W f rr) (hg : Gl X x) (hm : X.mg x = none) (hv : bootBuiltins x = some (.builtin id)) (ha : PA X (e :: es) (tA g W r)) (hns : (e :: es).all noStar = true) (hn : x ≠ "__name__") (hdb : (x == ("__debug__" : Str)) = false) :
    PE X (.Call (.Name x p) (e :: es) [] pos) (tE g W (eA f r)) := by
  rw [List.all_cons, Bool.and_eq_true] at hns
  exact (pe_callB hc hg hm hv ha hn hdb (starEach_no X.env hns.1 es) (plain_no X.env pos hns.2)).imp (tA_of u)
theorem se_ty {f : List D → HP → R D} {rr : List V → Hp → VK → Prop} (hc : CallR X (.type T) rr) (u : UA g W f rr) (hg : Gl X x) (hm : X.mg x = none) (hv : bootBuiltins x = some (.type T)) (ha : PA X (e :: es) (tA g W r)) (hns : (e :: es).all noStar = true) (hn : x ≠ "__name__") (hdb : (x == ("__debug__" : Str)) = false) :
    PE X (.Call (.Name x p) (e :: es) [] pos) (tE g W (eA f r)) := by
  rw [List.all_cons, Bool.and_eq_true] at hns
  exact (pe_callTy hc hg hm hv ha hn hdb (starEach_no X.env hns.1 es) (plain_no X.env pos hns.2)).imp (tA_of u)
/-- the receiver is no call of super -/
def baseOk : Expr → Bool
  | .Call (.Name _ _) [] [] _ => false
  | _ => true
theorem base_no (env : Env) (attr : Str) (whole : Sem Value) {o : Expr} (h : baseOk o = true) : attributeBase o attr env whole = whole := by
  unfold attributeBase
  split
  · cases h
  · rfl
theorem se_mt {c : D → HP → Bool} {f : D → List D → HP → R D} {rr : V → List V → Hp → VK → Prop} (hK : X.K = g.K) (hct : ChkT g.K T c) (u : UM g W f rr) (pa : PlainAttrs T) (slot : Slot T name id) (hty : typeOf (.builtin id) = pure (.type "method_descriptor")) (hm : MtR X id rr) (ho : PE X o (tE g W a)) (ha : PA X (e :: es) (tA g W r))
    (hb : baseOk o = true) (hl : (apos.endLine == cpos.line) = true) (hns : (e :: es).all noStar = true) (hlen : decide ((e :: es).length < 30) = true) : PE X (.Call (.Attribute o name apos) (e :: es) [] cpos) (tE g W (eMt c f a r)) := by
  have h3 := plain_no X.env cpos hns
  rw [List.all_cons, Bool.and_eq_true] at hns
  have hst := starEach_no X.env hns.1 es
  refine (pe_bm pa slot hty hm ho ha (base_no _ _ _ hb) ?_ hl hst (plain_no X.env cpos hns.2)).imp ?_
  · rw [Bool.and_eq_true, Bool.and_eq_true]
    refine ⟨⟨?_, rfl⟩, ?_⟩
    · rw [List.all_eq_true]
      rw [List.any_eq_false] at h3
      exact fun y hy => by have := h3 y hy; cases h : y.1 <;> simp_all
    · have : (e :: es).length < 30 := of_decide_eq_true hlen
      exact decide_eq_true (by simpa using this)
  · rw [hK]
    exact tBM_of hct u
theorem se_mt0 {c : D → HP → Bool} {f : D → List D → HP → R D} {rr : V → List V → Hp → VK → Prop} (hK : X.K = g.K) (hct : ChkT g.K T c) (u : UM g W f rr) (pa : PlainAttrs T) (slot : Slot T name id) (hty : typeOf (.builtin id) = pure (.type "method_descriptor")) (hm : MtR X id rr) (ho : PE X o (tE g W a))
    (hb : baseOk o = true) (hl : (apos.endLine == cpos.line) = true) : PE X (.Call (.Attribute o name apos) [] [] cpos) (tE g W (eMt c f a aN)) := by
  refine (pe_bm0 pa slot hty hm ho (base_no _ _ _ hb) hl).imp ?_
  rw [hK]
  exact tBM0_of hct u
end

/-! ### list(range(..)) -/
def rgD (a b : Int) : List D := (List.range (b - a).toNat).map fun i => D.int (a + (i : Nat))
theorem rg_R {F : Hp} {μ : List Addr} (a b : Int) : Reps K F μ (rgD a b) (rgV a b) := by
  unfold rgD rgV
  generalize (List.range (b - a).toNat) = l
  induction l with
  | nil => exact .nil
  | cons i l ih => exact .cons (.int _) ih
def fRgL (o : Bool) (a b : D) (h : HP) : R D := match a, b with
  | .int a, .int b => if RgOk a b then mkL o (rgD a b) h else .bad
  | _, _ => .bad
def eRgL (o : Bool) (a b : EM) : EM := e2 (fRgL o) a b
def eRgL1 (o : Bool) (a : EM) : EM := e1 (fRgL o (.int 0)) a
section
variable {X : Cx} {a b : Expr} {ma mb : EM} {p q pos pos2 : Pos}
theorem u_rgL {o : Bool} {x y : D} {i j : Int} {Q : VK} (s : SRel g.K F μ h G H) (r1 : Rep g.K F μ x (.int i)) (r2 : Rep g.K F μ y (.int j)) (pp : post g (relD g) W F μ G σ Q (fRgL o x y h)) : RgOk i j ∧ ∀ q, H q = none → Q (.ref q) (upd H q (.lst (rgV i j))) := by
  cases r1; cases r2
  unfold fRgL at pp
  dsimp only at pp
  split at pp
  · rename_i z
    refine ⟨z, post_mkL s pp ?_ (rg_R _ _)⟩
    rw [rgV_length, sizeLine_eq]
    have := z.2.2.2.2
    omega
  · exact pp.elim
theorem se_rgL2 {o : Bool} (hc : X.calm = true) (hg : Gl X "list") (hm : X.mg "list" = none) (hg2 : Gl X "range") (hm2 : X.mg "range" = none) (ha : PE X a (tE g W ma)) (hb : PE X b (tE g W mb)) (na : noStar a = true) (nb : noStar b = true) :
    PE X (.Call (.Name "list" p) [.Call (.Name "range" q) [a, b] [] pos2] [] pos) (tE g W (eRgL o ma mb)) := by
  refine (pe_listRg hc hg hm (prg_2 hg2 hm2 ha hb (starEach_no _ na _) (starEach_no _ nb _) (by rw [starEach_no _ nb _]; rfl))).imp ?_
  exact fun σ H Q ⟨F, μ, h, G, ρ, s, en, q⟩ => ⟨F, μ, h, G, ρ, s, en, post_bnd (g := g) q fun F1 μ1 h1 H1 d v x s1 rv q1 => ⟨F1, μ1, h1, G, ρ, s1, en.mono x, post_bnd (g := g) q1 fun F2 μ2 h2 H2 d2 v2 x2 s2 rv2 q2 => by
    have : ∃ i j, d = .int i ∧ d2 = .int j := by
      cases d <;> first | exact q2.elim | (cases d2 <;> first | exact q2.elim | exact ⟨_, _, rfl, rfl⟩)
    obtain ⟨i, j, rfl, rfl⟩ := this
    cases rv; cases rv2
    exact ⟨i, j, rfl, rfl, u_rgL s2 (.int i) (.int j) q2⟩⟩⟩
theorem se_rgL1 {o : Bool} (hc : X.calm = true) (hg : Gl X "list") (hm : X.mg "list" = none) (hg2 : Gl X "range") (hm2 : X.mg "range" = none) (ha : PE X a (tE g W ma)) (na : noStar a = true) :
    PE X (.Call (.Name "list" p) [.Call (.Name "range" q) [a] [] pos2] [] pos) (tE g W (eRgL1 o ma)) := by
  refine (pe_listRg hc hg hm (prg_1 hg2 hm2 ha (starEach_no _ na _))).imp ?_
  exact fun σ H Q ⟨F, μ, h, G, ρ, s, en, q⟩ => ⟨F, μ, h, G, ρ, s, en, post_bnd (g := g) q fun F1 μ1 h1 H1 d v x s1 rv q1 => by
    have : ∃ i, d = .int i := by
      cases d <;> first | exact q1.elim | exact ⟨_, rfl⟩
    obtain ⟨i, rfl⟩ := this
    cases rv
    exact ⟨i, rfl, u_rgL s1 (.int 0) (.int i) q1⟩⟩
end
end
end Zs
end

/-! Fh -/
noncomputable section
namespace Zs
open PySem PySem.Spec L2
open PyProof.Rows hiding St
open Classical

/-! ### what is walked over -/
structure Itm where
  xs : List D
  chk : HP → Prop
abbrev IM := Env' → M Itm
section
variable {g : Gm} {W : WX} {K : PySem.W.Frag} {F : Hp} {μ : List Addr} {G H : Hp} {σ : L2.St} {h : HP}
/-- J goes over itm -/
def JOk (g : Gm) (F : Hp) (μ : List Addr) (m : Itm) (J : It) : Prop :=
  ∀ F1 μ1 h1 G1 H1 (i : Nat), Ext F μ F1 μ1 → SRel g.K F1 μ1 h1 G1 H1 → m.chk h1 →
    (m.xs.length ≤ i → J.stop i H1) ∧ ∀ d, m.xs[i]? = some d → J.go i H1 ∧ ∀ x H', J.yld i H1 x H' → ∃ F2, Ext F1 μ1 F2 μ1 ∧ SRel g.K F2 μ1 h1 G1 H' ∧ Rep g.K F2 μ1 d x
theorem JOk.mono {m : Itm} {J : It} {F1 : Hp} {μ1 : List Addr} (j : JOk g F μ m J) (x : Ext F μ F1 μ1) : JOk g F1 μ1 m J := fun F2 μ2 h1 G1 H1 i y => j F2 μ2 h1 G1 H1 i (x.trans y)
abbrev relJ (g : Gm) : Hp → List Addr → Itm → It → Prop := fun F μ m J => JOk g F μ m J
def tI (g : Gm) (W : WX) (m : IM) : TI := fun σ H R => ∃ F μ h G ρ, SRel g.K F μ h G H ∧ REnv g.K F μ ρ σ ∧ post g (relJ g) W F μ G σ R (m ρ h)
theorem _root_.L2.PI.imp {X : Cx} {tg e : Expr} {t t' : TI} (p : PI X tg e t) (h : ∀ σ H Q, t' σ H Q → t σ H Q) : PI X tg e t' := ⟨fun pins s σ H Q I hw => p.run pins s σ H Q I (h _ _ _ hw)⟩
/-- a list, a tuple, a text -/
def iL (a : EM) : IM := fun ρ h => (a ρ h).bnd fun x h1 => match lrOf x h1 with
  | some xs => .ok ⟨xs, fun h' => lrOf x h' = some xs⟩ h1
  | none => .bad
def iT (a : EM) : IM := fun ρ h => (a ρ h).bnd fun x h1 => match x with
  | .tup xs => .ok ⟨xs, fun _ => True⟩ h1
  | _ => .bad
def iS (a : EM) : IM := fun ρ h => (a ρ h).bnd fun x h1 => match x with
  | .str xs => .ok ⟨xs.map fun c => .str [c], fun _ => True⟩ h1
  | _ => .bad
/-- whichever it is -/
def iAk (x : D) (h1 : HP) : R Itm := match x with
  | .tup xs => .ok ⟨xs, fun _ => True⟩ h1
  | .str xs => .ok ⟨xs.map fun c => .str [c], fun _ => True⟩ h1
  | x => (match lrOf x h1 with
    | some xs => .ok ⟨xs, fun h' => lrOf x h' = some xs⟩ h1
    | none => .bad)
def iA (a : EM) : IM := fun ρ h => (a ρ h).bnd iAk
theorem jok_list {x : D} {v : V} {xs : List D} (r : Rep g.K F μ x v) {a : Addr} (ea : v = .ref a) : JOk g F μ ⟨xs, fun h' => lrOf x h' = some xs⟩ (Itl g.K a) := fun F1 μ1 h1 G1 H1 i e s c => by
  obtain ⟨b, vs, e1, hs, hz, rs⟩ := lr_at s (r.mono e) c
  rw [ea] at e1; cases e1
  refine ⟨fun hi => ⟨vs, hs, by rw [← rs.length]; exact hi⟩, fun d hd => ?_⟩
  obtain ⟨w, hw, rw1⟩ := rs.get hd
  refine ⟨⟨vs, w, hs, hw⟩, fun x H' hy => ?_⟩
  obtain ⟨rfl, q⟩ := hy
  have := q vs hs
  rw [hw] at this; cases this
  exact ⟨F1, Ext.refl _ _, s, rw1⟩
theorem jok_tup {vs : List V} {xs : List D} {a : Addr} (f : SqT g.K F a vs) (r : Reps g.K F μ xs vs) : JOk g F μ ⟨xs, fun _ => True⟩ (Itt g.K a) := fun F1 μ1 h1 G1 H1 i e s c => by
  have hs := sqT_at s (sqT_mono e.f f)
  have rs := r.mono e
  refine ⟨fun hi => ⟨vs, hs, by rw [← rs.length]; exact hi⟩, fun d hd => ?_⟩
  obtain ⟨w, hw, rw1⟩ := rs.get hd
  refine ⟨⟨vs, w, hs, hw⟩, fun x H' hy => ?_⟩
  obtain ⟨rfl, q⟩ := hy
  have := q vs hs
  rw [hw] at this; cases this
  exact ⟨F1, Ext.refl _ _, s, rw1⟩
theorem jok_str {xs : List Nat} : JOk g F μ ⟨xs.map fun c => .str [c], fun _ => True⟩ (Its (strV xs)) := fun F1 μ1 h1 G1 H1 i e s c => by
  refine ⟨fun hi => ?_, fun d hd => ?_⟩
  · show xs.toArray.size ≤ i
    rw [List.length_map] at hi
    simpa using hi
  · rw [List.getElem?_map] at hd
    cases q : xs[i]? with
    | none => rw [q] at hd; cases hd
    | some c =>
      rw [q] at hd
      cases hd
      refine ⟨?_, fun x H' hy => ?_⟩
      · show i < xs.toArray.size
        simpa using (List.getElem?_eq_some_iff.mp q).1
      · obtain ⟨rfl, c', hc, rfl⟩ := hy
        have : xs.toArray[i]? = some c' := hc
        rw [List.getElem?_toArray, q] at this
        cases this
        exact ⟨F1, Ext.refl _ _, s, .str [c] sLine_pos⟩
theorem _root_.L2.PI.or {X : Cx} {tg e : Expr} {t t' : TI} (p : PI X tg e t) (p' : PI X tg e t') : PI X tg e (fun σ H R => t σ H R ∨ t' σ H R) := ⟨fun pins s σ H R I h => h.elim (p.run pins s σ H R I) (p'.run pins s σ H R I)⟩
theorem _root_.L2.PE.or {X : Cx} {e : Expr} {t t' : TE} (p : PE X e t) (p' : PE X e t') : PE X e (fun σ H R => t σ H R ∨ t' σ H R) := ⟨fun pins s σ H R I h => h.elim (p.run pins s σ H R I) (p'.run pins s σ H R I)⟩
theorem _root_.L2.PS.or {X : Cx} {e : Stmt} {t t' : TS} (p : PS X e t) (p' : PS X e t') : PS X e (fun σ H R => t σ H R ∨ t' σ H R) := ⟨fun pins s σ H R I h => h.elim (p.run pins s σ H R I) (p'.run pins s σ H R I)⟩
section
variable {X : Cx} {tg e : Expr} {a : EM}
theorem si_a (hK : X.K = g.K) (ha : PE X e (tE g W a)) : PI X tg e (tI g W (iA a)) := by
  refine ((pi_list (tg := tg) ha).or ((pi_tup (tg := tg) ha).or (pi_str (tg := tg) ha))).imp ?_
  rw [hK]
  intro σ H R ⟨F, μ, h, G, ρ, s, en, q⟩
  unfold iA at q
  cases e1 : a ρ h with
  | bad => rw [e1] at q; exact q.elim
  | exc c x h' =>
    rw [e1] at q
    exact .inl ⟨F, μ, h, G, ρ, s, en, by rw [e1]; exact q⟩
  | ok x h1 =>
    rw [e1] at q
    have q : post g (relJ g) W F μ G σ R (iAk x h1) := q
    unfold iAk at q
    have ctn : ∀ C : VK, (∀ F1 μ1 H1 v, Ext F μ F1 μ1 → SRel g.K F1 μ1 h1 G H1 → Rep g.K F1 μ1 x v → C v H1) → tE g W a σ H C := fun C k => ⟨F, μ, h, G, ρ, s, en, by rw [e1]; exact k⟩
    split at q
    · refine .inr (.inl (ctn _ fun F1 μ1 H1 v y s1 rv => ?_))
      cases rv with
      | @tup _ b vs f z rs => exact ⟨b, rfl, ⟨vs, sqT_at s1 f⟩, post_ok (g := g) (rel := relJ g) (post.mono q y) s1 (jok_tup f rs)⟩
    · refine .inr (.inr (ctn _ fun F1 μ1 H1 v y s1 rv => ?_))
      cases rv with
      | str xs z => exact ⟨_, rfl, post_ok (g := g) (rel := relJ g) (post.mono q y) s1 jok_str⟩
    · split at q
      · rename_i xs e2
        refine .inl (ctn _ fun F1 μ1 H1 v y s1 rv => ?_)
        obtain ⟨b, vs, rfl, hs, hz, rs⟩ := lr_at s1 rv e2
        exact ⟨b, rfl, ⟨vs, hs⟩, post_ok (g := g) (rel := relJ g) (post.mono q y) s1 (jok_list rv rfl)⟩
      · exact q.elim
/-- range -/
theorem jok_rng {lo : Int} {n : Nat} : JOk g F μ ⟨(List.range n).map fun i => D.int (lo + (i : Nat)), fun _ => True⟩ (Itr lo n) := fun F1 μ1 h1 G1 H1 i e s c => by
  refine ⟨fun hi => (by simpa using hi : n ≤ i), fun d hd => ?_⟩
  rw [List.getElem?_map] at hd
  cases q : (List.range n)[i]? with
  | none => rw [q] at hd; cases hd
  | some j =>
    rw [q] at hd
    cases hd
    have hl := (List.getElem?_eq_some_iff.mp q).1
    rw [List.length_range] at hl
    have ej : j = i := by rw [List.getElem?_range hl] at q; cases q; rfl
    subst ej
    refine ⟨hl, fun x H' hy => ?_⟩
    obtain ⟨rfl, rfl⟩ := hy
    exact ⟨F1, Ext.refl _ _, s, .int _⟩
def R62 (i : Int) : Prop := -(2 ^ 62) ≤ i ∧ i < 2 ^ 62
def iRk (x : List D) (h1 : HP) : R Itm := match x with
  | [.int j] => if R62 j then .ok ⟨(List.range j.toNat).map fun i => D.int (0 + (i : Nat)), fun _ => True⟩ h1 else .bad
  | [.int i, .int j] => if R62 i ∧ R62 j then .ok ⟨(List.range (j - i).toNat).map fun k => D.int (i + (k : Nat)), fun _ => True⟩ h1 else .bad
  | _ => .bad
def iR (xs : AM) : IM := fun ρ h => (xs ρ h).bnd iRk
theorem si_r1 {e : Expr} {m : AM} {p pos : Pos} (hg : Gl X "range") (hm : X.mg "range" = none) (ha : PA X [e] (tA g W m)) (n1 : noStar e = true) (one : ∀ ρ h xs h', m ρ h = .ok xs h' → xs.length = 1) : PI X tg (.Call (.Name "range" p) [e] [] pos) (tI g W (iR m)) := by
  refine (pi_range1 hg hm ha (by rw [starEach_no _ n1]; rfl)).imp ?_
  intro σ H R ⟨F, μ, h, G, ρ, s, en, q⟩
  have hl := one ρ h
  refine ⟨F, μ, h, G, ρ, s, en, ?_⟩
  unfold iR at q
  cases e1 : m ρ h with
  | bad => rw [e1] at q; exact q
  | exc c x h' => rw [e1] at q; exact q
  | ok x h1 =>
    rw [e1] at q
    have hl := hl x h1 e1
    intro F1 μ1 H1 vs y s1 rv
    have q := post.mono (show post g (relJ g) W F μ G σ R (iRk x h1) from q) y
    unfold iRk at q
    split at q
    · obtain ⟨v, rfl, r1⟩ := reps1 rv
      cases r1
      split at q
      · rename_i z
        exact ⟨_, rfl, z.1, z.2, post_ok (g := g) (rel := relJ g) q s1 jok_rng⟩
      · exact q.elim
    · simp at hl
    · exact q.elim
theorem si_r2 {e e2 : Expr} {m : AM} {p pos : Pos} (hg : Gl X "range") (hm : X.mg "range" = none) (ha : PA X [e, e2] (tA g W m)) (n1 : noStar e = true) (n2 : noStar e2 = true) (two : ∀ ρ h xs h', m ρ h = .ok xs h' → xs.length = 2) : PI X tg (.Call (.Name "range" p) [e, e2] [] pos) (tI g W (iR m)) := by
  refine (pi_range2 hg hm ha (by rw [starEach_no _ n1, starEach_no _ n2]; rfl) (by rw [starEach_no _ n2]; rfl)).imp ?_
  intro σ H R ⟨F, μ, h, G, ρ, s, en, q⟩
  have hl := two ρ h
  refine ⟨F, μ, h, G, ρ, s, en, ?_⟩
  unfold iR at q
  cases e1 : m ρ h with
  | bad => rw [e1] at q; exact q
  | exc c x h' => rw [e1] at q; exact q
  | ok x h1 =>
    rw [e1] at q
    have hl := hl x h1 e1
    intro F1 μ1 H1 vs y s1 rv
    have q := post.mono (show post g (relJ g) W F μ G σ R (iRk x h1) from q) y
    unfold iRk at q
    split at q
    · simp at hl
    · obtain ⟨v, u, rfl, r1, r2⟩ := reps2 rv
      cases r1; cases r2
      split at q
      · rename_i z
        exact ⟨_, _, rfl, ⟨z.1.1, z.1.2, z.2.1, z.2.2⟩, post_ok (g := g) (rel := relJ g) q s1 jok_rng⟩
      · exact q.elim
    · exact q.elim
theorem aC_len {a : EM} {r : AM} {n : Nat} (hr : ∀ ρ h xs h', r ρ h = .ok xs h' → xs.length = n) : ∀ ρ h xs h', aC a r ρ h = .ok xs h' → xs.length = n + 1 := fun ρ h xs h' e => by
  unfold aC at e
  cases e1 : a ρ h with
  | ok x h1 =>
    rw [e1] at e
    have e : ((r ρ h1).bnd fun xs h2 => R.ok (x :: xs) h2) = .ok xs h' := e
    cases e2 : r ρ h1 with
    | ok ys h2 =>
      rw [e2] at e
      cases e
      rw [List.length_cons, hr _ _ _ _ e2]
    | exc c v h2 => rw [e2] at e; cases e
    | bad => rw [e2] at e; cases e
  | exc c v h2 => rw [e1] at e; cases e
  | bad => rw [e1] at e; cases e
theorem aN_len : ∀ ρ h xs h', aN ρ h = .ok xs h' → xs.length = 0 := fun ρ h xs h' e => by cases e; rfl
end

/-! ### targets -/
abbrev GM := D → Env' → HP → R Env'
/-- the slots outside sl stay -/
def Out (sl : List Nat) (σ σ' : L2.St) : Prop := σ'.length = σ.length ∧ ∀ i, i ∉ sl → σ'[i]? = σ[i]?
def postG (g : Gm) (sl : List Nat) (σ : L2.St) (F : Hp) (μ : List Addr) (G : Hp) (Q : L2.St → Hp → Prop) : R Env' → Prop
  | .ok ρ' h' => ∀ F' μ' H' σ', Ext F μ F' μ' → SRel g.K F' μ' h' G H' → REnv g.K F' μ' ρ' σ' → Out sl σ σ' → Q σ' H'
  | _ => False
def tG (g : Gm) (sl : List Nat) (m : GM) : TG := fun x σ H Q => ∃ F μ h G ρ d, SRel g.K F μ h G H ∧ REnv g.K F μ ρ σ ∧ Rep g.K F μ d x ∧ postG g sl σ F μ G Q (m d ρ h)
abbrev GMs := List D → Env' → HP → R Env'
def tGs (g : Gm) (sl : List Nat) (m : GMs) : TGs := fun xs σ H Q => ∃ F μ h G ρ ds, SRel g.K F μ h G H ∧ REnv g.K F μ ρ σ ∧ Reps g.K F μ ds xs ∧ postG g sl σ F μ G Q (m ds ρ h)
theorem postG.mono {sl : List Nat} {Q : L2.St → Hp → Prop} {r : R Env'} {F1 : Hp} {μ1 : List Addr} (e : postG g sl σ F μ G Q r) (y : Ext F μ F1 μ1) : postG g sl σ F1 μ1 G Q r := by
  cases r with
  | ok d h' => exact fun F' μ' H' v z => e F' μ' H' v (y.trans z)
  | _ => exact e
theorem _root_.L2.PG.imp {X : Cx} {e : Expr} {t t' : TG} (p : PG X e t) (h : ∀ x σ H Q, t' x σ H Q → t x σ H Q) : PG X e t' := ⟨fun pins s σ H v u Q I r hw => p.run pins s σ H v u Q I r (h _ _ _ _ hw)⟩
theorem _root_.L2.PGs.imp {X : Cx} {e : List Expr} {t t' : TGs} (p : PGs X e t) (h : ∀ x σ H Q, t' x σ H Q → t x σ H Q) : PGs X e t' := ⟨fun pins s σ H v u Q I r hw => p.run pins s σ H v u Q I r (h _ _ _ _ hw)⟩
def gN (i : Nat) : GM := fun d ρ h => .ok (ρ.set i (some d)) h
def gsN : GMs := fun ds ρ h => match ds with
  | [] => .ok ρ h
  | _ => .bad
def gsC (a : GM) (b : GMs) : GMs := fun ds ρ h => match ds with
  | d :: r => (match a d ρ h with
    | .ok ρ1 h1 => b r ρ1 h1
    | _ => .bad)
  | [] => .bad
def gT (n : Nat) (b : GMs) : GM := fun d ρ h => match d with
  | .tup ds => if ds.length = n then b ds ρ h else .bad
  | _ => .bad
section
variable {X : Cx} {pos : Pos}
theorem out_refl {sl : List Nat} : Out sl σ σ := ⟨rfl, fun _ _ => rfl⟩
theorem Out.trans {sl : List Nat} {σ1 σ2 : L2.St} (a : Out sl σ σ1) (b : Out sl σ1 σ2) : Out sl σ σ2 := ⟨b.1.trans a.1, fun i h => (b.2 i h).trans (a.2 i h)⟩
theorem Out.sub {sl sl' : List Nat} {σ1 : L2.St} (a : Out sl σ σ1) (h : ∀ i ∈ sl, i ∈ sl') : Out sl' σ σ1 := ⟨a.1, fun i q => a.2 i fun z => q (h i z)⟩
theorem sg_n {i : Nat} {x : Str} (hN : X.N.Nodup) (hi : X.N[i]? = some x) (hx : Loc X.env.scope x) (hf : X.fn x = true ∨ X.env.scope.names.lookup x = some .local) : PG X (.Name x pos) (tG g [i] (gN i)) :=
  (pg_name hN hi hx hf).imp fun x σ H Q ⟨F, μ, h, G, ρ, d, s, en, r, q⟩ => q F μ H _ (Ext.refl F μ) s (en.set r i) ⟨by rw [List.length_set], fun j hj => by
    rw [List.getElem?_set_ne]; intro e; subst e; exact hj (by simp)⟩
theorem sgs_n : PGs X [] (tGs g [] gsN) := pgs_nil.imp fun x σ H Q ⟨F, μ, h, G, ρ, ds, s, en, r, q⟩ => by
  cases r with
  | nil => exact ⟨rfl, q F μ H _ (Ext.refl F μ) s en out_refl⟩
  | cons _ _ => exact q.elim
theorem sgs_c {e : Expr} {es : List Expr} {a : GM} {b : GMs} {sl sl' : List Nat} (ha : PG X e (tG g sl a)) (hb : PGs X es (tGs g sl' b)) (hst : (assignEach (e :: es) X.env).map (·.2) = assign e X.env :: (assignEach es X.env).map (·.2)) : PGs X (e :: es) (tGs g (sl ++ sl') (gsC a b)) :=
  (pgs_cons ha hb hst).imp fun x σ H Q ⟨F, μ, h, G, ρ, ds, s, en, r, q⟩ => by
    cases r with
    | nil => exact q.elim
    | @cons d v ds vs r1 rr =>
      refine ⟨v, vs, rfl, F, μ, h, G, ρ, d, s, en, r1, ?_⟩
      have q : postG g (sl ++ sl') σ F μ G Q (match a d ρ h with
        | .ok ρ1 h1 => b ds ρ1 h1
        | _ => .bad) := q
      cases e1 : a d ρ h with
      | ok ρ1 h1 =>
        rw [e1] at q
        intro F1 μ1 H1 σ1 x1 s1 en1 o1
        refine ⟨F1, μ1, h1, G, ρ1, ds, s1, en1, rr.mono x1, ?_⟩
        have q2 := postG.mono q x1
        cases e2 : b ds ρ1 h1 with
        | ok ρ2 h2 =>
          have q3 : postG g (sl ++ sl') σ F1 μ1 G Q (b ds ρ1 h1) := q2
          rw [e2] at q3
          exact fun F2 μ2 H2 σ2 x2 s2 en2 o2 => q3 F2 μ2 H2 σ2 x2 s2 en2 ((o1.sub fun i hi => List.mem_append_left _ hi).trans (o2.sub fun i hi => List.mem_append_right _ hi))
        | exc c v' h' => have q3 : postG g (sl ++ sl') σ F1 μ1 G Q (b ds ρ1 h1) := q2; rw [e2] at q3; exact q3.elim
        | bad => have q3 : postG g (sl ++ sl') σ F1 μ1 G Q (b ds ρ1 h1) := q2; rw [e2] at q3; exact q3.elim
      | exc c v' h' => rw [e1] at q; exact q.elim
      | bad => rw [e1] at q; exact q.elim
theorem sg_t {es : List Expr} {k n : Nat} {b : GMs} {sl : List Nat} (hK : X.K = g.K) (hc : X.calm = true) (hb : PGs X es (tGs g sl b)) (hn : (assignEach es X.env).length = n) (hst : (assignEach es X.env).findIdx? (·.1) = none) : PG X (.Tuple es k pos) (tG g sl (gT n b)) := by
  refine (pg_tup hc hb hn hst).imp ?_
  rw [hK]
  intro x σ H Q ⟨F, μ, h, G, ρ, d, s, en, r, q⟩
  unfold gT at q
  split at q
  · split at q
    · rename_i z
      cases r with
      | tup f zz rs => exact ⟨_, _, rfl, sqT_at s f, by rw [← rs.length]; exact z, F, μ, h, G, ρ, _, s, en, rs, q⟩
    · exact q.elim
  · exact q.elim
/-- xs[i] = .. -/
def setAt (o : D) (i : D) (d : D) (h : HP) : Option HP := match opL o h, i with
  | some (k, xs), .int j => (match ixN xs.length j with
    | some n => some (h.set k (some (.lst (xs.set n d))))
    | none => none)
  | _, _ => none
def gS (a b : EM) : GM := fun d ρ h => match a ρ h with
  | .ok x h1 => (match b ρ h1 with
    | .ok i h2 => (match setAt x i d h2 with
      | some h3 => .ok ρ h3
      | none => .bad)
    | _ => .bad)
  | _ => .bad
theorem post_of_ok {α β : Type} {rel : Hp → List Addr → α → β → Prop} {Q : β → Hp → Prop} {r : R α} {d : α} {h' : HP} (e : r = .ok d h') (k : ∀ F' μ' H' v, Ext F μ F' μ' → SRel g.K F' μ' h' G H' → rel F' μ' d v → Q v H') : post g rel W F μ G σ Q r := by
  rw [e]; exact k
theorem sg_s {o i : Expr} {a b : EM} (ho : PE X o (tE g W a)) (hi : PE X i (tE g W b))
    (ha : ∀ v, assign (.Subscript o i pos) X.env v = (do
      let ov ← holding [v] (eval o X.env)
      let iv ← holding [v, ov] (eval i X.env)
      standAt pos
      holding [v, ov, iv] (setItem ov iv v)
      release [v, ov, iv] [])) : PG X (.Subscript o i pos) (tG g [] (gS a b)) :=
  (pg_sub ho hi set_list ha).imp fun x σ H Q ⟨F, μ, h, G, ρ, d, s, en, r, q⟩ => by
    unfold gS at q
    cases e1 : a ρ h with
    | ok x1 h1 =>
      rw [e1] at q
      dsimp only at q
      cases e2 : b ρ h1 with
      | ok i2 h2 =>
        rw [e2] at q
        dsimp only at q
        cases e3 : setAt x1 i2 d h2 with
        | some h3 =>
          rw [e3] at q
          refine ⟨F, μ, h, G, ρ, s, en, post_of_ok e1 fun F1 μ1 H1 v1 y1 s1 r1 => ⟨F1, μ1, h1, G, ρ, s1, en.mono y1, post_of_ok e2 fun F2 μ2 H2 v2 y2 s2 r2 => ?_⟩⟩
          unfold setAt at e3
          split at e3
          · rename_i k xs j eo
            obtain ⟨ad, ws, ev, hi, m, hH, z, rs⟩ := opL_at s2 (r1.mono y2) eo
            subst ev
            cases r2
            split at e3
            · rename_i n en2
              cases e3
              have rd := (r.mono y1).mono y2
              refine ⟨ad, ws, j, n, rfl, rfl, hH, by rw [← rs.length]; exact en2, q F2 μ2 _ σ (y1.trans y2) (s2.write hi m (.lst (by rw [List.length_set]; exact z) (rs.set rd n))) ((en.mono y1).mono y2) out_refl⟩
            · cases e3
          · cases e3
        | none => rw [e3] at q; exact q.elim
      | exc c v h' => rw [e2] at q; exact q.elim
      | bad => rw [e2] at q; exact q.elim
    | exc c v h' => rw [e1] at q; exact q.elim
    | bad => rw [e1] at q; exact q.elim
end
end
end Zs
end

/-! Fi -/
noncomputable section
namespace Zs
open PySem PySem.Spec L2
open PyProof.Rows hiding St
open Classical

section
variable {g : Gm} {W : WX} {K : PySem.W.Frag} {F : Hp} {μ : List Addr} {G H : Hp} {σ : L2.St} {h : HP}

/-! ### the frame that others hold -/
theorem SRel.hold (s : SRel K F μ h G H) {p : Addr} {o : HO} (n : H p = none) : SRel K F μ h (upd G p o) (upd H p o) := by
  obtain ⟨nF, nG⟩ := s.free n
  refine ⟨fun a u e => ?_, s.len, fun i u e => ?_, s.inj, fun a u e => ?_⟩
  · rw [upd_ne (ne_of_none e nF)]; exact s.sub a u e
  · obtain ⟨a, w, h1, h2, h3, h4, h5⟩ := s.live i u e
    have z := ne_of_none h2 n
    exact ⟨a, w, h1, by rw [upd_ne z]; exact h2, h3, by rw [upd_ne z]; exact h4, h5⟩
  · by_cases z : a = p
    · subst z; rw [upd_same] at e ⊢; exact ⟨e, nF⟩
    · rw [upd_ne z] at e ⊢; exact s.fr a u e
theorem SRel.heldAt {p : Addr} {o : HO} (s : SRel K F μ h (upd G p o) H) : H p = some o ∧ F p = none := s.fr p o upd_same
theorem upd_upd {H : Hp} {p : Addr} {o o' : HO} : upd (upd H p o) p o' = upd H p o' := by
  funext a
  by_cases z : a = p
  · subst z; rw [upd_same, upd_same]
  · rw [upd_ne z, upd_ne z, upd_ne z]
theorem SRel.wrG {p : Addr} {o o' : HO} (s : SRel K F μ h (upd G p o) H) : SRel K F μ h (upd G p o') (upd H p o') := by
  obtain ⟨hp, nF⟩ := s.heldAt
  refine ⟨fun a u e => ?_, s.len, fun i u e => ?_, s.inj, fun a u e => ?_⟩
  · rw [upd_ne (ne_of_none e nF)]; exact s.sub a u e
  · obtain ⟨a, w, h1, h2, h3, h4, h5⟩ := s.live i u e
    have z : a ≠ p := fun z => by subst z; rw [upd_same] at h4; cases h4
    exact ⟨a, w, h1, by rw [upd_ne z]; exact h2, h3, by rw [upd_ne z] at h4 ⊢; exact h4, h5⟩
  · by_cases z : a = p
    · subst z; rw [upd_same] at e ⊢; exact ⟨e, nF⟩
    · rw [upd_ne z] at e ⊢; exact s.fr a u (by rw [upd_ne z]; exact e)
/-- what was held is known from now on -/
theorem SRel.relF {p : Addr} {o : HO} (s : SRel K F μ h (upd G p o) H) (nG : G p = none) : SRel K (upd F p o) μ h G H ∧ Ext F μ (upd F p o) μ := by
  obtain ⟨hp, nF⟩ := s.heldAt
  have x : Ext F μ (upd F p o) μ := ⟨fun a u e => by rw [upd_ne (ne_of_none e nF)]; exact e, List.prefix_refl μ⟩
  refine ⟨⟨fun a u e => ?_, s.len, fun i u e => ?_, s.inj, fun a u e => ?_⟩, x⟩
  · by_cases z : a = p
    · subst z; rw [upd_same] at e; cases e; exact hp
    · rw [upd_ne z] at e; exact s.sub a u e
  · obtain ⟨a, w, h1, h2, h3, h4, h5⟩ := s.live i u e
    have z : a ≠ p := fun z => by subst z; rw [upd_same] at h4; cases h4
    exact ⟨a, w, h1, h2, by rw [upd_ne z]; exact h3, by rw [upd_ne z] at h4; exact h4, h5.mono x⟩
  · have z : a ≠ p := ne_of_none e nG
    obtain ⟨h1, h2⟩ := s.fr a u (by rw [upd_ne z]; exact e)
    exact ⟨h1, by rw [upd_ne z]; exact h2⟩
/-- what was held is an open object from now on -/
theorem SRel.relO {p : Addr} {o : O} {u : HO} (s : SRel K F μ h (upd G p u) H) (nG : G p = none) (r : RepO K F μ o u) : SRel K F (μ ++ [p]) (h ++ [some o]) G H ∧ Ext F μ F (μ ++ [p]) := by
  obtain ⟨hp, nF⟩ := s.heldAt
  have x : Ext F μ F (μ ++ [p]) := ⟨fun _ _ e => e, List.prefix_append μ [p]⟩
  have old : ∀ {i : Nat} {w : O}, (h ++ [some o])[i]? = some (some w) → i < h.length → h[i]? = some (some w) := fun {i w} e hi => by
    rw [List.getElem?_append_left hi] at e; exact e
  have lst : ∀ {i : Nat} {w : O}, (h ++ [some o])[i]? = some (some w) → ¬ i < h.length → i = h.length ∧ w = o := fun {i w} e hi => by
    have hl := (List.getElem?_eq_some_iff.mp e).1
    rw [List.length_append, List.length_singleton] at hl
    have e1 : i = h.length := by omega
    subst e1
    rw [List.getElem?_append_right (Nat.le_refl _)] at e
    simp at e
    exact ⟨rfl, e.symm⟩
  have atL : (μ ++ [p])[h.length]? = some p := by rw [← s.len]; simp
  have key : ∀ {k : Nat} {v : O}, h[k]? = some (some v) → (μ ++ [p])[k]? = some p → False := fun {k v} e m => by
    obtain ⟨a, w', h1, h2, h3, h4, _⟩ := s.live k v e
    have := pre_get x.m h1
    rw [m] at this; cases this
    rw [upd_same] at h4; cases h4
  refine ⟨⟨fun a w e => s.sub a w e, by simp [s.len], fun i w e => ?_, fun i j w w' a e e' m m' => ?_, fun a w e => ?_⟩, x⟩
  · by_cases hi : i < h.length
    · obtain ⟨a, w', h1, h2, h3, h4, h5⟩ := s.live i w (old e hi)
      have z : a ≠ p := fun z => by subst z; rw [upd_same] at h4; cases h4
      exact ⟨a, w', pre_get x.m h1, h2, h3, by rw [upd_ne z] at h4; exact h4, h5.mono x⟩
    · obtain ⟨rfl, rfl⟩ := lst e hi
      exact ⟨p, u, atL, hp, nF, nG, r.mono x⟩
  · by_cases hi : i < h.length
    · by_cases hj : j < h.length
      · have mi : μ[i]? = some a := by
          rw [List.getElem?_append_left (by rw [s.len]; exact hi)] at m; exact m
        have mj : μ[j]? = some a := by
          rw [List.getElem?_append_left (by rw [s.len]; exact hj)] at m'; exact m'
        exact s.inj i j w w' a (old e hi) (old e' hj) mi mj
      · obtain ⟨rfl, rfl⟩ := lst e' hj
        rw [atL] at m'; cases m'
        exact (key (old e hi) m).elim
    · obtain ⟨rfl, rfl⟩ := lst e hi
      rw [atL] at m; cases m
      by_cases hj : j < h.length
      · exact (key (old e' hj) m').elim
      · exact (lst e' hj).1.symm
  · have z : a ≠ p := ne_of_none e nG
    exact s.fr a w (by rw [upd_ne z]; exact e)

/-! ### the block's own slots -/
theorem wipe_get (σ : L2.St) (i : Nat) : ∀ vs : List Nat, (wipe σ vs)[i]? = if i ∈ vs ∧ i < σ.length then some none else σ[i]?
  | [] => by simp [wipe]
  | v :: vs => by
    show ((wipe σ vs).set v none)[i]? = _
    have ih := wipe_get σ i vs
    by_cases e : v = i
    · subst e
      by_cases hl : v < σ.length
      · rw [List.getElem?_set_self (by rw [wipe_length]; exact hl), if_pos ⟨List.mem_cons_self, hl⟩]
      · rw [List.getElem?_eq_none (by rw [List.length_set, wipe_length]; omega), if_neg (fun z => hl z.2), List.getElem?_eq_none (by omega)]
    · rw [List.getElem?_set_ne e, ih]
      by_cases hm : i ∈ vs
      · by_cases hl : i < σ.length
        · rw [if_pos ⟨hm, hl⟩, if_pos ⟨List.mem_cons_of_mem _ hm, hl⟩]
        · rw [if_neg (fun z => hl z.2), if_neg (fun z => hl z.2)]
      · rw [if_neg (fun z => hm z.1), if_neg (fun z => (List.mem_cons.mp z.1).elim (fun q => e q.symm) hm)]
theorem wipe_out {vs sl : List Nat} {σ2 : L2.St} (o : Out sl (wipe σ vs) σ2) (hs : ∀ i ∈ sl, i ∈ vs) : wipe σ2 vs = wipe σ vs := by
  have o := o.sub hs
  have hl : σ2.length = σ.length := by rw [o.1, wipe_length]
  apply List.ext_getElem?
  intro i
  rw [wipe_get, wipe_get, hl]
  by_cases hm : i ∈ vs
  · by_cases h2 : i < σ.length
    · rw [if_pos ⟨hm, h2⟩, if_pos ⟨hm, h2⟩]
    · rw [if_neg (fun z => h2 z.2), if_neg (fun z => h2 z.2), List.getElem?_eq_none (by omega), List.getElem?_eq_none (by omega)]
  · rw [if_neg (fun z => hm z.1), if_neg (fun z => hm z.1), o.2 i hm, wipe_get, if_neg (fun z => hm z.1)]

/-! ### [e for t in it if c] -/
def tYe : TM := fun _ h => .ok true h
def lcM (t : GM) (c : TM) (e : EM) (chk : HP → Prop) (ρ : Env') : List D → List D → HP → R (List D)
  | [], acc, h => if chk h then .ok acc h else .bad
  | d :: r, acc, h => if chk h then (match t d ρ h with
    | .ok ρ1 h1 => (match c ρ1 h1 with
      | .ok true h2 => (match e ρ1 h2 with
        | .ok y h3 => if acc.length < sizeLine then lcM t c e chk ρ r (acc ++ [y]) h3 else .bad
        | _ => .bad)
      | .ok false h2 => lcM t c e chk ρ r acc h2
      | _ => .bad)
    | _ => .bad) else .bad
def eLc (o : Bool) (it : IM) (t : GM) (c : TM) (e : EM) (vs : List Nat) : EM := fun ρ h => (it ρ h).bnd fun m h1 => (lcM t c e m.chk (wipeE ρ vs) m.xs [] h1).bnd (mkL o)
abbrev WF : WX := fun _ _ _ _ => False
theorem tLc_of {o : Bool} {it : IM} {t : GM} {c : TM} {e : EM} {vs sl : List Nat} (hsl : ∀ i ∈ sl, i ∈ vs) : ∀ σ H Q, tE g W (eLc o it t c e vs) σ H Q → tLc (tI g W it) (tG g sl t) (tT g WF c) (tE g WF e) vs σ H Q := fun σ H Q ⟨F, μ, h, G, ρ, s, en, q⟩ =>
  ⟨F, μ, h, G, ρ, s, en, post_bnd (g := g) q fun F1 μ1 h1 H1 m J x1 s1 jok q1 => by
    intro p np
    obtain ⟨nF, nG⟩ := s1.free np
    refine ⟨fun i n H => ∃ F2 μ2 h2 ds acc, Ext F1 μ1 F2 μ2 ∧ SRel g.K F2 μ2 h2 (upd G p (.lst acc)) H ∧ Reps g.K F2 μ2 ds acc ∧ acc.length ≤ sizeLine ∧ n = (m.xs.drop i).length ∧
      post g (relD g) W F2 μ2 G σ Q ((lcM t c e m.chk (wipeE ρ vs) (m.xs.drop i) ds h2).bnd (mkL o)), ⟨m.xs.length, F1, μ1, h1, [], [], Ext.refl _ _, s1.hold np, .nil, Nat.zero_le _, by simp, by simpa using q1⟩, ?_⟩
    rintro i n H2 ⟨F2, μ2, h2, ds, acc, y2, s2, racc, zacc, rfl, q2⟩
    cases hr : m.xs.drop i with
    | nil =>
      rw [hr] at q2
      left
      have q3 : post g (relD g) W F2 μ2 G σ Q ((if m.chk h2 then R.ok ds h2 else .bad).bnd (mkL o)) := q2
      by_cases hc : m.chk h2
      · rw [if_pos hc] at q3
        have hlen : m.xs.length ≤ i := by
          have := congrArg List.length hr
          simp at this; omega
        refine ⟨(jok F2 μ2 h2 _ H2 i y2 s2 hc).1 hlen, ?_⟩
        have q4 : post g (relD g) W F2 μ2 G σ Q (mkL o ds h2) := q3
        cases o with
        | false =>
          obtain ⟨s3, x3⟩ := s2.relF nG
          exact q4 _ _ _ _ x3 s3 (.lst upd_same zacc (racc.mono x3))
        | true =>
          obtain ⟨s3, x3⟩ := s2.relO nG (.lst zacc racc)
          exact q4 _ _ _ _ x3 s3 (.ref (by rw [← s2.len]; simp))
      · rw [if_neg hc] at q3
        exact q3.elim
    | cons d r =>
      rw [hr] at q2
      right
      have hd : m.xs[i]? = some d := by
        have := congrArg (fun l : List D => l[0]?) hr
        simpa [List.getElem?_drop] using this
      have hdr : m.xs.drop (i + 1) = r := by
        have := congrArg (fun l : List D => l.drop 1) hr
        simpa [List.drop_drop] using this
      by_cases hc : m.chk h2
      · obtain ⟨jgo, jy⟩ := (jok F2 μ2 h2 _ H2 i y2 s2 hc).2 d hd
        refine ⟨jgo, fun H' => ∃ F3 μ3 h3 es ac, Ext F1 μ1 F3 μ3 ∧ SRel g.K F3 μ3 h3 (upd G p (.lst ac)) H' ∧ Reps g.K F3 μ3 es ac ∧ ac.length ≤ sizeLine ∧ post g (relD g) W F3 μ3 G σ Q ((lcM t c e m.chk (wipeE ρ vs) r es h3).bnd (mkL o)),
          fun H' ⟨F3, μ3, h3, es, ac, y3, s3, r3, z3, q3⟩ => ⟨r.length, by simp, F3, μ3, h3, es, ac, y3, s3, r3, z3, by rw [hdr], by rw [hdr]; exact q3⟩, fun x H3 hy => ?_⟩
        obtain ⟨F3, y3, s3, rd⟩ := jy x H3 hy
        have q3 : post g (relD g) W F2 μ2 G σ Q ((match t d (wipeE ρ vs) h2 with
          | .ok ρ1 h1 => (match c ρ1 h1 with
            | .ok true h2 => (match e ρ1 h2 with
              | .ok y h3 => if ds.length < sizeLine then lcM t c e m.chk (wipeE ρ vs) r (ds ++ [y]) h3 else .bad
              | _ => .bad)
            | .ok false h2 => lcM t c e m.chk (wipeE ρ vs) r ds h2
            | _ => .bad)
          | _ => (.bad : R (List D))).bnd (mkL o)) := by
            have q2' : post g (relD g) W F2 μ2 G σ Q ((lcM t c e m.chk (wipeE ρ vs) (d :: r) ds h2).bnd (mkL o)) := q2
            unfold lcM at q2'
            rw [if_pos hc] at q2'
            exact q2'
        refine ⟨F3, μ2, h2, _, wipeE ρ vs, d, s3, ((en.mono x1).mono (y2.trans y3)).wipe vs, rd, ?_⟩
        cases et : t d (wipeE ρ vs) h2 with
        | bad => rw [et] at q3; exact q3.elim
        | exc _ _ _ => rw [et] at q3; exact q3.elim
        | ok ρ3 h3 =>
          rw [et] at q3
          intro F4 μ4 H4 σ4 y4 s4 en4 o4
          refine ⟨wipe_out o4 hsl, F4, μ4, h3, _, ρ3, s4, en4, ?_⟩
          dsimp only at q3
          cases ec : c ρ3 h3 with
          | bad => rw [ec] at q3; exact q3.elim
          | exc _ _ _ => rw [ec] at q3; exact q3.elim
          | ok b h5 =>
            rw [ec] at q3
            intro F5 μ5 H5 b' y5 s5 eb
            cases eb
            cases b with
            | false =>
              show ∃ F3 μ3 h3 es ac, _
              exact ⟨F5, μ5, h5, ds, acc, y2.trans (y3.trans (y4.trans y5)), s5, racc.mono (y3.trans (y4.trans y5)), zacc, post.mono (show post g (relD g) W F2 μ2 G σ Q ((lcM t c e m.chk (wipeE ρ vs) r ds h5).bnd (mkL o)) from q3) (y3.trans (y4.trans y5))⟩
            | true =>
              show tE g WF e σ4 H5 _
              refine ⟨F5, μ5, h5, _, ρ3, s5, en4.mono y5, ?_⟩
              dsimp only at q3
              cases ee : e ρ3 h5 with
              | bad => rw [ee] at q3; exact q3.elim
              | exc _ _ _ => rw [ee] at q3; exact q3.elim
              | ok z h6 =>
                rw [ee] at q3
                intro F6 μ6 H6 w y6 s6 rw6
                dsimp only at q3
                by_cases hz : ds.length < sizeLine
                · rw [if_pos hz] at q3
                  have hz' : acc.length < sizeLine := by rw [← racc.length]; exact hz
                  have yy := y3.trans (y4.trans (y5.trans y6))
                  exact ⟨acc, s6.heldAt.1, hz', F6, μ6, h6, ds ++ [z], acc ++ [w], y2.trans yy, s6.wrG, (racc.mono yy).append (.cons rw6 .nil), by rw [List.length_append, List.length_singleton]; omega, post.mono q3 yy⟩
                · rw [if_neg hz] at q3; exact q3.elim
      · have q3 : post g (relD g) W F2 μ2 G σ Q ((lcM t c e m.chk (wipeE ρ vs) (d :: r) ds h2).bnd (mkL o)) := q2
        unfold lcM at q3
        rw [if_neg hc] at q3
        exact q3.elim⟩
theorem tYe_of {σ : L2.St} {H : Hp} {Q : Bool → Hp → Prop} (q : tT g WF tYe σ H Q) : tYes σ H Q := by
  obtain ⟨F, μ, h, G, ρ, s, en, q⟩ := q
  exact post_ok (g := g) (rel := relB) q s rfl
theorem _root_.L2.PTs.imp {X : Cx} {e : List Expr} {t t' : TT} (p : PTs X e t) (h : ∀ σ H Q, t' σ H Q → t σ H Q) : PTs X e t' := ⟨fun pins s σ H Q I hw => p.run pins s σ H Q I (h _ _ _ hw)⟩
theorem sts_n {X : Cx} : PTs X [] (tT g WF tYe) := pts_nil.imp fun σ H Q q => tYe_of q
end
end Zs
end

/-! Fj -/
noncomputable section
namespace Zs
open PySem PySem.Spec L2
open PyProof.Rows hiding St
open Classical

section
variable {g : Gm} {W : WX} {K : PySem.W.Frag} {F : Hp} {μ : List Addr} {G H : Hp} {σ : L2.St} {h : HP}

/-! ### statements -/
def postS (g : Gm) (W : WX) (F : Hp) (μ : List Addr) (G : Hp) (D : Ends) : R Fl → Prop
  | .ok (.nx ρ') h' => ∀ F' μ' H' σ', Ext F μ F' μ' → SRel g.K F' μ' h' G H' → REnv g.K F' μ' ρ' σ' → D.nx σ' H'
  | .ok (.brk ρ') h' => ∀ F' μ' H' σ', Ext F μ F' μ' → SRel g.K F' μ' h' G H' → REnv g.K F' μ' ρ' σ' → D.bk σ' H'
  | .ok (.ret d) h' => ∀ F' μ' H' v, Ext F μ F' μ' → SRel g.K F' μ' h' G H' → Rep g.K F' μ' d v → D.rt v H'
  | .ok (.exc c x ρ') h' => ∀ F' μ' σ', Ext F μ F' μ' → REnv g.K F' μ' ρ' σ' → excP g W F' μ' G σ' c x h'
  | _ => False
def tS (g : Gm) (W : WX) (m : SM) : TS := fun D σ H => ∃ F μ h G ρ, SRel g.K F μ h G H ∧ REnv g.K F μ ρ σ ∧ postS g W F μ G D (m ρ h)
theorem postS.mono {D : Ends} {r : R Fl} {F1 : Hp} {μ1 : List Addr} (e : postS g W F μ G D r) (y : Ext F μ F1 μ1) : postS g W F1 μ1 G D r := by
  cases r with
  | ok f h' => cases f with
    | nx ρ' => exact fun F' μ' H' v z => e F' μ' H' v (y.trans z)
    | brk ρ' => exact fun F' μ' H' v z => e F' μ' H' v (y.trans z)
    | ret d => exact fun F' μ' H' v z => e F' μ' H' v (y.trans z)
    | exc c x ρ' => exact fun F' μ' v z => e F' μ' v (y.trans z)
  | _ => exact e
/-- an expression, then k -/
def lift {α : Type} (ρ : Env') (r : R α) (k : α → HP → R Fl) : R Fl := match r with
  | .ok a h => k a h
  | .exc c v h => .ok (.exc c v ρ) h
  | .bad => .bad
theorem post_lift {α β : Type} {rel : Hp → List Addr → α → β → Prop} {D : Ends} {C : β → Hp → Prop} {r : R α} {ρ : Env'} {f : α → HP → R Fl} (en : REnv g.K F μ ρ σ)
    (e : postS g W F μ G D (lift ρ r f))
    (k : ∀ F1 μ1 h1 H1 d v, Ext F μ F1 μ1 → SRel g.K F1 μ1 h1 G H1 → rel F1 μ1 d v → postS g W F1 μ1 G D (f d h1) → C v H1) : post g rel W F μ G σ C r := by
  cases r with
  | ok d h' => exact fun F' μ' H' v x s q => k F' μ' h' H' d v x s q (postS.mono e x)
  | exc c x h' =>
    have e : ∀ F' μ' σ', Ext F μ F' μ' → REnv g.K F' μ' ρ σ' → excP g W F' μ' G σ' c x h' := e
    exact fun F' μ' H' dd v z s r q => e F' μ' σ z (en.mono z) F' μ' H' dd v (Ext.refl _ _) s r q
  | bad => exact e
def sNx : SM := fun ρ h => .ok (.nx ρ) h
def sSq (a b : SM) : SM := fun ρ h => match a ρ h with
  | .ok (.nx ρ1) h1 => b ρ1 h1
  | r => r
def sEx (a : EM) : SM := fun ρ h => lift ρ (a ρ h) fun _ h1 => .ok (.nx ρ) h1
def sRe (a : EM) : SM := fun ρ h => lift ρ (a ρ h) fun d h1 => .ok (.ret d) h1
def sIf (t : TM) (a b : SM) : SM := fun ρ h => lift ρ (t ρ h) fun c h1 => bif c then a ρ h1 else b ρ h1
def sAs (a : EM) (t : GM) : SM := fun ρ h => lift ρ (a ρ h) fun d h1 => match t d ρ h1 with
  | .ok ρ1 h2 => .ok (.nx ρ1) h2
  | _ => .bad
def sBr : SM := fun ρ h => .ok (.brk ρ) h
def forM (t : GM) (b : SM) (chk : HP → Prop) : List D → SM
  | [], ρ, h => if chk h then .ok (.nx ρ) h else .bad
  | d :: r, ρ, h => if chk h then (match t d ρ h with
    | .ok ρ1 h1 => (match b ρ1 h1 with
      | .ok (.nx ρ2) h2 => forM t b chk r ρ2 h2
      | .ok (.brk ρ2) h2 => .ok (.nx ρ2) h2
      | x => x)
    | _ => .bad) else .bad
def sFo (it : IM) (t : GM) (b : SM) : SM := fun ρ h => lift ρ (it ρ h) fun m h1 => forM t b m.chk m.xs ρ h1
section
variable {X : Cx} {pos : Pos} {e : Expr} {a : EM} {ma mb : SM}
theorem ss_nil : PSs X [] (tS g W sNx) := pss_nil.imp fun D σ H ⟨F, μ, h, G, ρ, s, en, q⟩ => q F μ H σ (Ext.refl _ _) s en
theorem ss_cons {st : Stmt} {rest : List Stmt} (ha : PS X st (tS g W ma)) (hb : PSs X rest (tS g W mb)) : PSs X (st :: rest) (tS g W (sSq ma mb)) :=
  (pss_cons ha hb).imp fun D σ H ⟨F, μ, h, G, ρ, s, en, q⟩ => ⟨F, μ, h, G, ρ, s, en, by
    have q : postS g W F μ G D (match ma ρ h with
      | .ok (.nx ρ1) h1 => mb ρ1 h1
      | r => r) := q
    cases e1 : ma ρ h with
    | ok f h1 =>
      rw [e1] at q
      cases f with
      | nx ρ1 => exact fun F' μ' H' σ' x s1 en1 => ⟨F', μ', h1, G, ρ1, s1, en1, postS.mono (show postS g W F μ G D (mb ρ1 h1) from q) x⟩
      | brk ρ1 => exact q
      | ret d => exact q
      | exc c x ρ1 => exact q
    | exc c x h1 => rw [e1] at q; exact q
    | bad => rw [e1] at q; exact q⟩
theorem ss_ex (ha : PE X e (tE g W a)) (hs : swapsWith e none pos.line X.env = pure false) : PS X (.Expr e pos) (tS g W (sEx a)) :=
  (ps_expr ha hs).imp fun D σ H ⟨F, μ, h, G, ρ, s, en, q⟩ => ⟨F, μ, h, G, ρ, s, en, post_lift en q fun F1 μ1 h1 H1 d v x s1 rv q1 => q1 F1 μ1 H1 σ (Ext.refl _ _) s1 (en.mono x)⟩
theorem ss_re (ha : PE X e (tE g W a)) : PS X (.Return (some e) pos) (tS g W (sRe a)) :=
  (ps_ret ha).imp fun D σ H ⟨F, μ, h, G, ρ, s, en, q⟩ => ⟨F, μ, h, G, ρ, s, en, post_lift en q fun F1 μ1 h1 H1 d v x s1 rv q1 => q1 F1 μ1 H1 v (Ext.refl _ _) s1 rv⟩
theorem ss_re0 : PS X (.Return none pos) (tS g W (sRe (eC .non))) :=
  ps_retN.imp fun D σ H ⟨F, μ, h, G, ρ, s, en, q⟩ => q F μ H .non (Ext.refl _ _) s .non
theorem ss_pass : PS X (.Pass pos) (tS g W sNx) := ps_pass.imp fun D σ H ⟨F, μ, h, G, ρ, s, en, q⟩ => q F μ H σ (Ext.refl _ _) s en
theorem ss_brk : PS X (.Break pos) (tS g W sBr) := ps_break.imp fun D σ H ⟨F, μ, h, G, ρ, s, en, q⟩ => q F μ H σ (Ext.refl _ _) s en
theorem ss_if {p q : List Stmt} {t : TM} (hc : PT X e (tT g W t)) (ha : PSs X p (tS g W ma)) (hb : PSs X q (tS g W mb)) : PS X (.If e p q pos) (tS g W (sIf t ma mb)) :=
  (ps_if hc ha hb).imp fun D σ H ⟨F, μ, h, G, ρ, s, en, q⟩ => ⟨F, μ, h, G, ρ, s, en, post_lift en q fun F1 μ1 h1 H1 d v x s1 rv q1 => by
    cases rv
    cases d with
    | true => exact ⟨F1, μ1, h1, G, ρ, s1, en.mono x, q1⟩
    | false => exact ⟨F1, μ1, h1, G, ρ, s1, en.mono x, q1⟩⟩
theorem tAs_of {t : GM} {sl : List Nat} {te : TE} {tg : TG} (h1 : ∀ σ H Q, tE g W a σ H Q → te σ H Q) (h2 : ∀ x σ H Q, tG g sl t x σ H Q → tg x σ H Q) : ∀ D σ H, tS g W (sAs a t) D σ H → tAsg te tg D σ H := fun D σ H ⟨F, μ, h, G, ρ, s, en, q⟩ =>
  h1 σ H _ ⟨F, μ, h, G, ρ, s, en, post_lift en q fun F1 μ1 h1' H1 d v x s1 rv q1 => h2 _ _ _ _ ⟨F1, μ1, h1', G, ρ, d, s1, en.mono x, rv, by
    have q1 : postS g W F1 μ1 G D (match t d ρ h1' with
      | .ok ρ1 h2 => .ok (.nx ρ1) h2
      | _ => .bad) := q1
    cases et : t d ρ h1' with
    | ok ρ1 h2 => rw [et] at q1; exact fun F2 μ2 H2 σ2 x2 s2 en2 _ => q1 F2 μ2 H2 σ2 x2 s2 en2
    | exc c v' h' => rw [et] at q1; exact q1.elim
    | bad => rw [et] at q1; exact q1.elim⟩⟩
theorem gName_of {i : Nat} : ∀ x σ H Q, tG g [i] (gN i) x σ H Q → gName i x σ H Q := fun x σ H Q ⟨F, μ, h, G, ρ, d, s, en, r, q⟩ => q F μ H _ (Ext.refl F μ) s (en.set r i) ⟨by rw [List.length_set], fun j hj => by
    rw [List.getElem?_set_ne]; intro e; subst e; exact hj (by simp)⟩
theorem ss_set {i : Nat} {x : Str} {p : Pos} (hN : X.N.Nodup) (hi : X.N[i]? = some x) (hx : Loc X.env.scope x) (ha : PE X e (tE g W a)) (hs : swapsWith e (some (.Name x p)) pos.line X.env = pure false) (hf : X.fn x = true ∨ X.env.scope.names.lookup x = some .local) : PS X (.Assign [.Name x p] e pos) (tS g W (sAs a (gN i))) :=
  (ps_set hN hi hx ha hs hf).imp (tAs_of (fun _ _ _ z => z) gName_of)
theorem ss_asg {tg : Expr} {t : GM} {sl : List Nat} (ha : PE X e (tE g W a)) (hg : PG X tg (tG g sl t)) (hs : swapsWithSole [tg] e pos.line X.env = pure false) (hw : swappedStores [tg] e X.env = pure none) (h1 : (assignEach [tg] X.env).map (·.2) = [assign tg X.env]) : PS X (.Assign [tg] e pos) (tS g W (sAs a t)) :=
  (ps_asg ha hg hs hw h1).imp (tAs_of (fun _ _ _ z => z) fun _ _ _ _ z => z)
theorem ss_for {tg it : Expr} {body : List Stmt} {m : IM} {t : GM} {sl : List Nat} {b : SM} (hp : PassesOwn (model X.prog X.w) X.A X.env X.xe) (hc : X.calm = true) (hi : PI X tg it (tI g W m)) (hg : PG X tg (tG g sl t)) (hb : PSs X body (tS g W b))
    (hs : ∀ x, foldedSetIterable it X.env x = pure x) : PS X (.For tg it body [] pos) (tS g W (sFo m t b)) :=
  (ps_for hp hc hi hg hb hs).imp fun D σ H ⟨F, μ, h, G, ρ, s, en, q⟩ => ⟨F, μ, h, G, ρ, s, en, post_lift en q fun F1 μ1 h1 H1 m J x1 s1 jok q1 => by
    refine ⟨fun i n σ H => ∃ F2 μ2 h2 ρ2, Ext F1 μ1 F2 μ2 ∧ SRel g.K F2 μ2 h2 G H ∧ REnv g.K F2 μ2 ρ2 σ ∧ n = (m.xs.drop i).length ∧ postS g W F2 μ2 G D (forM t b m.chk (m.xs.drop i) ρ2 h2), ⟨m.xs.length, F1, μ1, h1, ρ, Ext.refl _ _, s1, en.mono x1, by simp, by simpa using q1⟩, ?_⟩
    rintro i n σ2 H2 ⟨F2, μ2, h2, ρ2, y2, s2, en2, rfl, q2⟩
    cases hr : m.xs.drop i with
    | nil =>
      rw [hr] at q2
      left
      have q3 : postS g W F2 μ2 G D (if m.chk h2 then R.ok (.nx ρ2) h2 else .bad) := q2
      by_cases hc : m.chk h2
      · rw [if_pos hc] at q3
        have hlen : m.xs.length ≤ i := by
          have := congrArg List.length hr
          simp at this; omega
        exact ⟨(jok F2 μ2 h2 _ H2 i y2 s2 hc).1 hlen, q3 F2 μ2 H2 σ2 (Ext.refl _ _) s2 en2⟩
      · rw [if_neg hc] at q3; exact q3.elim
    | cons d r =>
      rw [hr] at q2
      right
      have hd : m.xs[i]? = some d := by
        have := congrArg (fun l : List Zs.D => l[0]?) hr
        simpa [List.getElem?_drop] using this
      have hdr : m.xs.drop (i + 1) = r := by
        have := congrArg (fun l : List Zs.D => l.drop 1) hr
        simpa [List.drop_drop] using this
      by_cases hc : m.chk h2
      · obtain ⟨jgo, jy⟩ := (jok F2 μ2 h2 _ H2 i y2 s2 hc).2 d hd
        refine ⟨jgo, fun σ' H' => ∃ F3 μ3 h3 ρ3, Ext F1 μ1 F3 μ3 ∧ SRel g.K F3 μ3 h3 G H' ∧ REnv g.K F3 μ3 ρ3 σ' ∧ postS g W F3 μ3 G D (forM t b m.chk r ρ3 h3),
          fun σ' H' ⟨F3, μ3, h3, ρ3, y3, s3, en3, q3⟩ => ⟨r.length, by simp, F3, μ3, h3, ρ3, y3, s3, en3, by rw [hdr], by rw [hdr]; exact q3⟩, fun x H3 hy => ?_⟩
        obtain ⟨F3, y3, s3, rd⟩ := jy x H3 hy
        have q3 : postS g W F2 μ2 G D (match t d ρ2 h2 with
          | .ok ρ1 h1 => (match b ρ1 h1 with
            | .ok (.nx ρ2) h2 => forM t b m.chk r ρ2 h2
            | .ok (.brk ρ2) h2 => .ok (.nx ρ2) h2
            | x => x)
          | _ => .bad) := by
            have q2' : postS g W F2 μ2 G D (forM t b m.chk (d :: r) ρ2 h2) := q2
            unfold forM at q2'
            rw [if_pos hc] at q2'
            exact q2'
        refine ⟨F3, μ2, h2, G, ρ2, d, s3, en2.mono y3, rd, ?_⟩
        cases et : t d ρ2 h2 with
        | bad => rw [et] at q3; exact q3.elim
        | exc _ _ _ => rw [et] at q3; exact q3.elim
        | ok ρ3 h3 =>
          rw [et] at q3
          intro F4 μ4 H4 σ4 y4 s4 en4 o4
          refine ⟨F4, μ4, h3, G, ρ3, s4, en4, ?_⟩
          dsimp only at q3
          have yy := y3.trans y4
          cases eb : b ρ3 h3 with
          | bad => rw [eb] at q3; exact q3.elim
          | exc _ _ _ => rw [eb] at q3; exact q3.elim
          | ok f h5 =>
            rw [eb] at q3
            cases f with
            | nx ρ5 => exact fun F5 μ5 H5 σ5 y5 s5 en5 => ⟨F5, μ5, h5, ρ5, y2.trans (yy.trans y5), s5, en5, postS.mono (show postS g W F2 μ2 G D (forM t b m.chk r ρ5 h5) from q3) (yy.trans y5)⟩
            | brk ρ5 => exact fun F5 μ5 H5 σ5 y5 s5 en5 => q3 F5 μ5 H5 σ5 (yy.trans y5) s5 en5
            | ret d5 => exact fun F5 μ5 H5 v5 y5 s5 r5 => q3 F5 μ5 H5 v5 (yy.trans y5) s5 r5
            | exc c x ρ5 => exact fun F5 μ5 σ5 y5 => q3 F5 μ5 σ5 (yy.trans y5)
      · unfold forM at q2
        rw [if_neg hc] at q2
        exact q2.elim⟩
end
end
end Zs
end

/-! Fk -/
noncomputable section
namespace Zs
open PySem PySem.Spec L2
open PyProof.Rows hiding St

/-! ## the reader: from a text to its meaning, with the proof -/
structure Shp where
  ks : List Str
  n : Nat
  ix : List Nat
  deriving DecidableEq
inductive GE where
  | con (d : D)
  | fn (i : Nat) (np : Nat) (sh : List Shp)
  | bi
structure Cc where
  g : Gm
  run : Nat → FSem
  n : Nat
  N : List Str
  sc : Scope
  fnc : Str → Bool
  tb : List (Str × GE)
  opn : List Str
  ret : Bool
def GeOk (c : Cc) (X : Cx) (x : Str) : GE → Prop
  | .con d => ∃ v u, X.mg x = some u ∧ RelV v u ∧ ∀ F μ, Rep c.g.K F μ d v
  | .fn i np sh => ∃ f fd ps, X.mg x = some (.ref f) ∧ PySem.W.keepIn X.K (.ref f) = true ∧ ps.length = np ∧ FnOk X.prog X.w X.K X.mg X.base (L2.CX X.prog X.w) c.n f fd ps (spOf c.g ps.length (c.run i)) ∧ ∀ s ∈ sh, KB X.K fd ps s.ks s.n s.ix
  | .bi => X.mg x = none
structure XOk (c : Cc) (X : Cx) (W : WX) : Prop where
  K : X.K = c.g.K
  N : X.N = c.N
  nd : X.N.Nodup
  sc : X.env.scope = c.sc
  fn : X.fn = c.fnc
  calm : X.calm = true
  tk : Takes X W
  po : PassesOwn (model X.prog X.w) X.A X.env X.xe
  room : Room c.n X.A
  glo : ∀ x e, c.tb.lookup x = some e → GeOk c X x e
structure CE (c : Cc) (e : Expr) where
  m : EM
  ok : ∀ X W, XOk c X W → PE X e (tE c.g W m)
structure CT (c : Cc) (e : Expr) where
  m : TM
  ok : ∀ X W, XOk c X W → PT X e (tT c.g W m)
structure CW (c : Cc) (op : BoolOp) (l : List Expr) where
  m : TM
  ok : ∀ X W pos, XOk c X W → PW X (.BoolOp op l pos) (tT c.g W m)
structure CB (c : Cc) (op : BoolOp) (l : List Expr) where
  m : EM
  ok : ∀ X W pos, XOk c X W → PE X (.BoolOp op l pos) (tE c.g W m)
structure CA (c : Cc) (l : List Expr) where
  m : AM
  ns : l.all noStar = true
  nil : l = [] → m = aN
  len : ∀ ρ h xs h', m ρ h = .ok xs h' → xs.length = l.length
  ok : ∀ X W, XOk c X W → PA X l (tA c.g W m)
structure CK (c : Cc) (l : List Keyword) where
  m : AM
  ok : ∀ X W, XOk c X W → PK X l (tA c.g W m)
structure CO (c : Cc) (l : Option Expr) where
  m : OM
  ok : ∀ X W, XOk c X W → PO X l (tO c.g W m)
structure CI (c : Cc) (tg : Expr) (e : Expr) where
  m : IM
  ok : ∀ X W, XOk c X W → PI X tg e (tI c.g W m)
structure CG (c : Cc) (e : Expr) where
  m : GM
  sl : List Nat
  ok : ∀ X W, XOk c X W → PG X e (tG c.g sl m)
  nst : ∀ (env : Env) es, assignEach (e :: es) env = (false, assign e env) :: assignEach es env
structure CGs (c : Cc) (l : List Expr) where
  m : GMs
  sl : List Nat
  ok : ∀ X W, XOk c X W → PGs X l (tGs c.g sl m)
  len : ∀ env : Env, (assignEach l env).length = l.length
  nst : ∀ env : Env, (assignEach l env).findIdx? (·.1) = none
structure CS (c : Cc) (s : Stmt) where
  m : SM
  ok : ∀ X W, XOk c X W → PS X s (tS c.g W m)
structure CSs (c : Cc) (s : List Stmt) where
  m : SM
  ok : ∀ X W, XOk c X W → PSs X s (tS c.g W m)
structure Sm where
  e : (o : Bool) → (c : Cc) → (x : Expr) → Option (CE c x)
  t : (c : Cc) → (x : Expr) → Option (CT c x)
  s : (c : Cc) → (x : Stmt) → Option (CS c x)

/-! ### names -/
theorem XOk.vis {c : Cc} {X : Cx} {W : WX} (k : XOk c X W) {x : Str} (h : c.sc.names.lookup x = some .local ∨ c.sc.names.lookup x = some .cell ∨ c.sc.names.lookup x = some .free) : Vis X.env.scope x := by
  unfold Vis; rw [k.sc]; exact h
theorem XOk.gl {c : Cc} {X : Cx} {W : WX} (k : XOk c X W) {x : Str} (h : c.sc.names.lookup x = some .globalImplicit) : Gl X x := by
  show X.env.scope.names.lookup x = _
  rw [k.sc]; exact h
def isVis : Option NameKind → Bool
  | some .local => true
  | some .cell => true
  | some .free => true
  | _ => false
theorem isVis_of {k : Option NameKind} (h : isVis k = true) : k = some .local ∨ k = some .cell ∨ k = some .free := by
  cases k with
  | none => cases h
  | some k => cases k <;> first | exact .inl rfl | exact .inr (.inl rfl) | exact .inr (.inr rfl) | cases h
def isLoc : Option NameKind → Bool
  | some .local => true
  | some .cell => true
  | _ => false
theorem isLoc_of {k : Option NameKind} (h : isLoc k = true) : k = some .local ∨ k = some .cell := by
  cases k with
  | none => cases h
  | some k => cases k <;> first | exact .inl rfl | exact .inr rfl | cases h
def isLocal : Option NameKind → Bool
  | some .local => true
  | _ => false
theorem isLocal_of {k : Option NameKind} (h : isLocal k = true) : k = some .local := by
  cases k with
  | none => cases h
  | some k => cases k <;> first | rfl | cases h
def isGlob : Option NameKind → Bool
  | some .globalImplicit => true
  | _ => false
theorem isGlob_of {k : Option NameKind} (h : isGlob k = true) : k = some .globalImplicit := by
  cases k with
  | none => cases h
  | some k => cases k <;> first | rfl | cases h
def slotOf (N : List Str) (x : Str) : Nat := N.findIdx (fun y => decide (y = x))
def nDbg (x : Str) : Bool := (x == ("__debug__" : Str)) || (x == ("__classdict__" : Str)) || decide (x = "__name__")
theorem nDbg_of {x : Str} (h : nDbg x = false) : (x == ("__debug__" : Str)) = false ∧ (x == ("__classdict__" : Str)) = false ∧ x ≠ "__name__" := by
  unfold nDbg at h
  rw [Bool.or_eq_false_iff, Bool.or_eq_false_iff, decide_eq_false_iff_not] at h
  exact ⟨h.1.1, h.1.2, h.2⟩
/-- a type's name -/
def tyName (x : Str) : Option Ty := if x = "int" then some .int else if x = "str" then some .str else if x = "bool" then some .bool else if x = "tuple" then some .tuple else if x = "list" then some .list else if x = "dict" then some .dict else none
theorem boot_boolT : bootBuiltins "bool" = some (.type "bool") := by decide +kernel
theorem tyName_of {x : Str} {t : Ty} (h : tyName x = some t) : bootBuiltins x = some (.type t.name) := by
  unfold tyName at h
  split at h
  · cases h; subst x; exact boot_int
  · split at h
    · cases h; subst x; exact boot_str
    · split at h
      · cases h; subst x; exact boot_boolT
      · split at h
        · cases h; subst x; exact boot_tuple
        · split at h
          · cases h; subst x; exact boot_list
          · split at h
            · cases h; subst x; exact boot_dict
            · cases h
def cName (c : Cc) (x : Str) (pos : Pos) : Option (CE c (.Name x pos)) :=
  if hd : nDbg x = false then
    if hv : isVis (c.sc.names.lookup x) = true then
      (if hi : c.N[slotOf c.N x]? = some x then some ⟨eV (slotOf c.N x), fun X W k => se_v (pe_var (by rw [k.N]; exact hi) (k.vis (isVis_of hv)) (nDbg_of hd).1 (nDbg_of hd).2.1)⟩ else none)
    else if hg : isGlob (c.sc.names.lookup x) = true then
      (match ht : c.tb.lookup x with
      | some (.con d) => some ⟨eC d, fun X W k => by
          obtain ⟨v, u, h1, h2, h3⟩ := k.glo x _ ht
          exact se_c (pe_glob (k.gl (isGlob_of hg)) h1 h2 (nDbg_of hd).1) h3⟩
      | some .bi => (match hy : tyName x with
        | some t => some ⟨eC (.ty t), fun X W k => se_c (pe_bltn (v := .ty t.name) (k.gl (isGlob_of hg)) (k.glo x _ ht) (tyName_of hy) rfl (nDbg_of hd).2.2 (nDbg_of hd).1) fun F μ => .ty t⟩
        | none => none)
      | _ => none)
    else none
  else none
/-! ### written values -/
theorem strV_mk (x : Str) : strV x.cps.toList = x := by
  unfold strV
  rw [Array.toArray_toList]
theorem small_line {n : Nat} (h : n < 100000) : n ≤ sizeLine := by rw [sizeLine_eq]; omega
def cConst (c : Cc) (k : Nat) (pos : Pos) : (v : Const) → Option (CE c (.Constant v k pos))
  | .int i => some ⟨eC (.int i), fun X W k => se_c pe_int fun F μ => .int i⟩
  | .bool b => some ⟨eC (.bl b), fun X W k => se_c pe_bl fun F μ => .bl b⟩
  | .none => some ⟨eC .non, fun X W k => se_c pe_non fun F μ => .non⟩
  | .str x => if hx : x.cps.toList.length < 100000 then some ⟨eC (.str x.cps.toList), fun X W k => se_c pe_str fun F μ => by
      have := Rep.str (K := c.g.K) (F := F) (μ := μ) x.cps.toList (small_line hx)
      rw [strV_mk] at this
      exact this⟩ else none
  | _ => none

/-! ### operators -/
structure COp (g : Gm) (op : Operator) where
  f : D → D → HP → R D
  r : PySem.W.Frag → R2
  ho : ∀ X : Cx, OpR X (binaryOp op) (r X.K)
  u : ∀ W, U2 g W f (r g.K)
def cOp (g : Gm) (o : Bool) : (op : Operator) → Option (COp g op)
  | .Add => some ⟨bAdd o, rAdd', fun X => o_add, fun W => u_add⟩
  | .Sub => some ⟨bSub, fun _ => _, fun X => o_sub, fun W => u_int⟩
  | .Mult => some ⟨bMul, fun _ => _, fun X => o_mul, fun W => u_int⟩
  | .FloorDiv => some ⟨bFd, fun _ => _, fun X => o_fd, fun W => u_int⟩
  | .Mod => some ⟨bMod, fun _ => _, fun X => o_mod, fun W => u_int⟩
  | .Pow => some ⟨bPow, fun _ => _, fun X => o_pow, fun W => u_int⟩
  | _ => none
structure CCm (g : Gm) (op : CmpOp) where
  f : D → D → HP → R D
  r : PySem.W.Frag → R2
  ho : ∀ X : Cx, OpR X (compareOp op) (r X.K)
  u : ∀ W, U2 g W f (r g.K)
def cCm (g : Gm) : (op : CmpOp) → Option (CCm g op)
  | .Lt => some ⟨bLt, fun _ => _, fun X => op_lt, fun W => u_cmp⟩
  | .LtE => some ⟨bLe, fun _ => _, fun X => op_le, fun W => u_cmp⟩
  | .Gt => some ⟨bGt, fun _ => _, fun X => op_gt, fun W => u_cmp⟩
  | .GtE => some ⟨bGe, fun _ => _, fun X => op_ge, fun W => u_cmp⟩
  | .Eq => some ⟨bEq, fun _ => _, fun X => op_eq, fun W => u_eq⟩
  | .NotEq => some ⟨bNe, fun _ => _, fun X => op_ne, fun W => u_ne⟩
  | .Is => some ⟨bIs false, fun _ => _, fun X => o_is, fun W => u_is⟩
  | .IsNot => some ⟨bIs true, fun _ => _, fun X => o_isNot, fun W => u_is⟩
  | .In => some ⟨bIn false, fun K => rIn' K false, fun X => o_in, fun W => u_in⟩
  | .NotIn => some ⟨bIn true, fun K => rIn' K true, fun X => o_notIn, fun W => u_in⟩
/-! ### built-in functions -/
structure CBf (g : Gm) (x : Str) where
  f : List D → HP → R D
  v : Value
  r : PySem.W.Frag → List V → Hp → VK → Prop
  hv : bootBuiltins x = some v
  kd : (∃ id, v = .builtin id) ∨ ∃ T, v = .type T
  hc : ∀ X : Cx, X.calm = true → CallR X v (r X.K)
  u : ∀ W, UA g W f (r g.K)
def fDict1 (o : Bool) : List D → HP → R D := fun xs h => match xs with | [_] => fDictP o xs h | _ => .bad
def cBf (g : Gm) (o : Bool) (x : Str) : Option (CBf g x) :=
  if h : x = "len" then some ⟨fLen, .builtin "len", rLen', by subst h; exact PySem.boot_len, .inl ⟨_, rfl⟩, fun X _ => c_len, fun W => u_len⟩
  else if h : x = "isinstance" then some ⟨fIsi, .builtin "isinstance", rIsi, by subst h; exact PyProof.Rows.boot_isinstance, .inl ⟨_, rfl⟩, fun X _ => call_isi, fun W => u_isi⟩
  else if h : x = "all" then some ⟨fAll, .builtin "all", rAll, by subst h; exact boot_all, .inl ⟨_, rfl⟩, fun X hc => cr_all hc, fun W => u_all⟩
  else if h : x = "any" then some ⟨fAny, .builtin "any", rAny, by subst h; exact boot_any, .inl ⟨_, rfl⟩, fun X hc => cr_any hc, fun W => u_any⟩
  else if h : x = "int" then some ⟨fInt, .type "int", fun _ => _, by subst h; exact boot_int, .inr ⟨_, rfl⟩, fun X _ => call_int1, fun W => u_int1⟩
  else if h : x = "abs" then some ⟨fAbs, .builtin "abs", fun _ => _, by subst h; exact PyProof.Rows.boot_abs, .inl ⟨_, rfl⟩, fun X _ => call_abs, fun W => u_abs⟩
  else if h : x = "sum" then some ⟨fSum, .builtin "sum", rSum, by subst h; exact boot_sum, .inl ⟨_, rfl⟩, fun X hc => cr_sum hc, fun W => u_sum⟩
  else if h : x = "max" then some ⟨fMax, .builtin "max", fun _ => _, by subst h; exact boot_max, .inl ⟨_, rfl⟩, fun X hc => call_max2 hc, fun W => u_max2⟩
  else if h : x = "min" then some ⟨fMin, .builtin "min", fun _ => _, by subst h; exact boot_min, .inl ⟨_, rfl⟩, fun X hc => call_min2 hc, fun W => u_min2⟩
  else if h : x = "list" then some ⟨fList o, .type "list", fun K xs H Q => ∃ p ys, xs = [.ref p] ∧ (SqL K H p ys ∨ SqT K H p ys) ∧ ∀ l, H l = none → Q (.ref l) (upd H l (.lst ys)), by subst h; exact boot_list, .inr ⟨_, rfl⟩, fun X _ => call_list_of, fun W => u_list⟩
  else if h : x = "tuple" then some ⟨fTuple, .type "tuple", fun K xs H Q => ∃ p ys, xs = [.ref p] ∧ ((SqL K H p ys ∧ ∀ l, H l = none → Q (.ref l) (upd H l (.tup ys))) ∨ (SqT K H p ys ∧ Q (.ref p) H)), by subst h; exact boot_tuple, .inr ⟨_, rfl⟩, fun X _ => call_tuple_of, fun W => u_tuple⟩
  else if h : x = "dict" then some ⟨fDict1 o, .type "dict", fun K xs H Q => ∃ (a : Addr) (ps : List Addr) (kvs : List (Key × V)), xs = [.ref a] ∧ SqL K H a (ps.map V.ref) ∧ Paired (fun p kv => SqT K H p [kV kv.1, kv.2]) ps kvs ∧ ∀ p, H p = none → Q (.ref p) (upd H p (.dK (mergeK [] kvs))), by subst h; exact boot_dict, .inr ⟨_, rfl⟩, fun X hc => call_dictP hc, fun W => u_dictP⟩
  else none
/-! ### methods -/
structure CMt (g : Gm) (x : Str) where
  c : D → HP → Bool
  f : D → List D → HP → R D
  T : String
  id : String
  r : PySem.W.Frag → V → List V → Hp → VK → Prop
  hc : ChkT g.K T c
  u : ∀ W, UM g W f (r g.K)
  pa : PlainAttrs T
  slot : Slot T x id
  ty : typeOf (.builtin id) = pure (.type "method_descriptor")
  hm : ∀ X : Cx, MtR X id (r X.K)
def cMt (g : Gm) (o : Bool) (x : Str) : Option (CMt g x) :=
  if h : x = "append" then some ⟨isLstD, mApp, "list", "list.append", fun _ => rAppend, chk_lst, fun W => u_app, PySem.F.plainAttrs_list, by subst h; exact PySem.F.slot_list_append, PySem.F.type_list_append, fun X => mt_append⟩
  else if h : x = "extend" then some ⟨isLstD, mExt, "list", "list.extend", fun _ => rExtend, chk_lst, fun W => u_ext, PySem.F.plainAttrs_list, by subst h; exact PySem.F.slot_list_extend, PySem.F.type_list_extend, fun X => mt_extend⟩
  else if h : x = "pop" then some ⟨isLstD, mPop, "list", "list.pop", fun _ => rPop, chk_lst, fun W => u_pop, PySem.F.plainAttrs_list, by subst h; exact PySem.F.slot_list_pop, PySem.F.type_list_pop, fun X => mt_pop⟩
  else if h : x = "join" then some ⟨isStrD, mJoin, "str", "str.join", rJoin, chk_str, fun W => u_join, PySem.F.plainAttrs_str, by subst h; exact PySem.F.slot_str_join, PySem.F.type_str_join, fun X => mt_join⟩
  else if h : x = "split" then some ⟨isStrD, mSplit o, "str", "str.split", fun _ => rSplit, chk_str, fun W => u_split, PySem.F.plainAttrs_str, by subst h; exact PySem.F.slot_str_split, PySem.F.type_str_split, fun X => mt_split⟩
  else none
end Zs
end

/-! Fl -/
noncomputable section
namespace Zs
open PySem PySem.Spec L2
open PyProof.Rows hiding St

/-! ### dict displays -/
def evP : List (EM × EM) → Env' → M (List (D × D))
  | [], _, h => .ok [] h
  | (a, b) :: r, ρ, h => (a ρ h).bnd fun x h1 => (b ρ h1).bnd fun y h2 => (evP r ρ h2).bnd fun ps h3 => .ok ((x, y) :: ps) h3
def fDisp (o : Bool) (ps : List (D × D)) (h : HP) : R D := match putAll [] ps with
  | some ds => mkD o ds h
  | none => .bad
def eDi (o : Bool) (l : List (EM × EM)) : EM := fun ρ h => (evP l ρ h).bnd (fDisp o)
def eD0 (o : Bool) : EM := fun _ h => mkD o [] h
section
variable {g : Gm} {W : WX} {K : PySem.W.Frag} {F : Hp} {μ : List Addr} {G H : Hp} {σ : L2.St} {h : HP}
inductive RepPs (K : PySem.W.Frag) (F : Hp) (μ : List Addr) : List (D × D) → List (V × V) → Prop where
  | nil : RepPs K F μ [] []
  | cons {d v e u ds vs} : Rep K F μ d v → Rep K F μ e u → RepPs K F μ ds vs → RepPs K F μ ((d, e) :: ds) ((v, u) :: vs)
abbrev relP (g : Gm) : Hp → List Addr → List (D × D) → List (V × V) → Prop := fun F μ a b => RepPs g.K F μ a b
theorem RepPs.mono {F' : Hp} {μ' : List Addr} (x : Ext F μ F' μ') : ∀ {a b}, RepPs K F μ a b → RepPs K F' μ' a b
  | _, _, .nil => .nil
  | _, _, .cons r q t => .cons (r.mono x) (q.mono x) (t.mono x)
theorem tPairs_of : ∀ (l : List (EM × EM)) {F : Hp} {μ : List Addr} {h : HP} {H : Hp} {ρ : Env'} {C : List (V × V) → Hp → Prop}, SRel g.K F μ h G H → REnv g.K F μ ρ σ → post g (relP g) W F μ G σ C (evP l ρ h) → tPairs (l.map fun p => (tE g W p.1, tE g W p.2)) σ H C
  | [], F, μ, h, H, ρ, C, s, en, q => post_ok (g := g) (rel := relP g) q s .nil
  | (a, b) :: r, F, μ, h, H, ρ, C, s, en, q => ⟨F, μ, h, G, ρ, s, en, post_bnd (g := g) q fun F1 μ1 h1 H1 d v x s1 rv q1 => ⟨F1, μ1, h1, G, ρ, s1, en.mono x, post_bnd (g := g) q1 fun F2 μ2 h2 H2 d2 v2 x2 s2 rv2 q2 =>
      tPairs_of r s2 (en.mono (x.trans x2)) (post_bnd (g := g) (rel := relP g) q2 fun F3 μ3 h3 H3 ps vs x3 s3 rp q3 => post_ok (g := g) (rel := relP g) q3 s3 (.cons (rv.mono (x2.trans x3)) (rv2.mono x3) rp))⟩⟩
theorem RepPs.keys : ∀ {a b}, RepPs K F μ a b → keysOk a = true → ∃ kvs : List (Key × V), b = kvs.map (fun kv => (kV kv.1, kv.2)) ∧ RepK K F μ a kvs
  | _, _, .nil, _ => ⟨[], rfl, .nil⟩
  | _, _, .cons (d := d) (e := e) (u := u) (ds := ds) r q t, h => by
    have h' : ((kyOf d).isSome && keysOk ds) = true := h
    rw [Bool.and_eq_true] at h'
    obtain ⟨kvs, e1, rk⟩ := t.keys h'.2
    obtain ⟨y, hy⟩ := Option.isSome_iff_exists.mp h'.1
    refine ⟨(keyV y, u) :: kvs, ?_, .cons (ky_R hy) q rk⟩
    rw [List.map_cons, ← e1]
    cases d <;> first | (cases hy; done) | (cases hy; cases r; rfl)
theorem RepPs.len : ∀ {a b}, RepPs K F μ a b → a.length = b.length
  | _, _, .nil => rfl
  | _, _, .cons _ _ t => by rw [List.length_cons, List.length_cons, t.len]
theorem post_mkD_held {o : Bool} {ds : List (D × D)} {vs : List (Key × V)} {p : Addr} {u : HO} {Q : VK} (s : SRel g.K F μ h (upd G p u) H) (nG : G p = none) (q : post g (relD g) W F μ G σ Q (mkD o ds h)) (r : RepK g.K F μ ds vs) : Q (.ref p) (upd H p (.dK vs)) := by
  have s1 := s.wrG (o' := .dK vs)
  cases o with
  | false =>
    obtain ⟨s2, x⟩ := s1.relF nG
    exact q _ _ _ _ x s2 (.dctK upd_same (r.mono x))
  | true =>
    obtain ⟨s2, x⟩ := s1.relO nG (.dctK r)
    exact q _ _ _ _ x s2 (.ref (by rw [← s.len]; simp))
theorem SRel.less {G' : Hp} (s : SRel K F μ h G' H) (l : ∀ a o, G a = some o → G' a = some o) : SRel K F μ h G H := by
  refine ⟨s.sub, s.len, fun i o e => ?_, s.inj, fun a o e => s.fr a o (l a o e)⟩
  obtain ⟨a, u, h1, h2, h3, h4, h5⟩ := s.live i o e
  refine ⟨a, u, h1, h2, h3, ?_, h5⟩
  cases q : G a with
  | none => rfl
  | some w => rw [l a w q] at h4; cases h4
theorem post_bndG {α β γ δ : Type} {rel : Hp → List Addr → α → β → Prop} {rel' : Hp → List Addr → γ → δ → Prop} {Q : δ → Hp → Prop} {C : β → Hp → Prop} {r : R α} {f : α → HP → R γ} {G' : Hp}
    (e : post g rel' W F μ G σ Q (r.bnd f)) (l : ∀ a o, G a = some o → G' a = some o)
    (k : ∀ F1 μ1 h1 H1 d v, r = .ok d h1 → Ext F μ F1 μ1 → SRel g.K F1 μ1 h1 G' H1 → rel F1 μ1 d v → post g rel' W F1 μ1 G σ Q (f d h1) → C v H1) : post g rel W F μ G' σ C r := by
  cases r with
  | ok d h' => exact fun F' μ' H' v x s q => k F' μ' h' H' d v rfl x s q (post.mono e x)
  | exc c x h' => exact fun F' μ' H' dd v z s r1 r2 => (show excP g W F μ G σ c x h' from e) F' μ' H' dd v z (s.less l) r1 r2
  | bad => exact e
theorem evP_len : ∀ (l : List (EM × EM)) {ρ : Env'} {h : HP} {ps : List (D × D)} {h' : HP}, evP l ρ h = .ok ps h' → ps.length = l.length
  | [], ρ, h, ps, h', e => by cases e; rfl
  | (a, b) :: r, ρ, h, ps, h', e => by
    have e : ((a ρ h).bnd fun x h1 => (b ρ h1).bnd fun y h2 => (evP r ρ h2).bnd fun ps h3 => .ok ((x, y) :: ps) h3) = .ok ps h' := e
    cases e1 : a ρ h with
    | ok x h1 =>
      rw [e1] at e
      have e : ((b ρ h1).bnd fun y h2 => (evP r ρ h2).bnd fun ps h3 => .ok ((x, y) :: ps) h3) = .ok ps h' := e
      cases e2 : b ρ h1 with
      | ok y h2 =>
        rw [e2] at e
        have e : ((evP r ρ h2).bnd fun ps h3 => .ok ((x, y) :: ps) h3) = .ok ps h' := e
        cases e3 : evP r ρ h2 with
        | ok qs h3 => rw [e3] at e; cases e; rw [List.length_cons, List.length_cons, evP_len r e3]
        | exc c v h3 => rw [e3] at e; cases e
        | bad => rw [e3] at e; cases e
      | exc c v h3 => rw [e2] at e; cases e
      | bad => rw [e2] at e; cases e
    | exc c v h3 => rw [e1] at e; cases e
    | bad => rw [e1] at e; cases e
theorem eDi_of {o : Bool} {l : List (EM × EM)} (h15 : l.length ≤ 15) : ∀ σ H Q, tE g W (eDi o l) σ H Q → tDisp (l.map fun p => (tE g W p.1, tE g W p.2)) σ H Q := fun σ H Q ⟨F, μ, h, G, ρ, s, en, q⟩ p np => by
  obtain ⟨nF, nG⟩ := s.free np
  refine tPairs_of l (s.hold (o := .dK []) np) en (post_bndG (rel := relP g) q (fun a o e => by rw [upd_ne (ne_of_none e nG)]; exact e) fun F1 μ1 h1 H1 ps vs er x s1 rp q1 => ⟨s1.heldAt.1, ?_⟩)
  unfold fDisp at q1
  split at q1
  · rename_i ds e
    obtain ⟨kvs, e1, rk⟩ := rp.keys (putAll_keys e)
    refine ⟨kvs, e1, ?_, post_mkD_held s1 nG q1 (putAll_R .nil rk e)⟩
    rw [← rk.length, evP_len l er]; exact h15
  · exact q1.elim
theorem se_d0 {X : Cx} {o : Bool} {pos : Pos} : PE X (.Dict [] [] pos) (tE g W (eD0 o)) := pe_dnewK.imp fun σ H Q ⟨F, μ, h, G, ρ, s, en, q⟩ => post_mkD s q .nil
structure CP (c : Cc) (pos : Pos) (ks : List (Option Expr)) (vs : List Expr) where
  l : List (EM × EM)
  ok : ∀ X W, XOk c X W → PPs X pos ks vs (l.map fun p => (tE c.g W p.1, tE c.g W p.2))
  all : ks.all (·.isSome) = true
  len : ks.length = vs.length
  ll : l.length = ks.length
def cPs (S : Sm) (c : Cc) (pos : Pos) : (ks : List (Option Expr)) → (vs : List Expr) → Option (CP c pos ks vs)
  | [], [] => some ⟨[], fun X W k => pps_nil, rfl, rfl, rfl⟩
  | some a :: ks, b :: vs => (match S.e false c a, S.e false c b, cPs S c pos ks vs with
    | some ma, some mb, some r => some ⟨(ma.m, mb.m) :: r.l, fun X W k => pps_cons (ma.ok X W k) (mb.ok X W k) (r.ok X W k), by rw [List.all_cons, r.all]; rfl, by rw [List.length_cons, List.length_cons, r.len], by rw [List.length_cons, List.length_cons, r.ll]⟩
    | _, _, _ => none)
  | _, _ => none
end

/-! ### lists of parts -/
def cAs (S : Sm) (c : Cc) : (l : List Expr) → Option (CA c l)
  | [] => some ⟨aN, rfl, fun _ => rfl, aN_len, fun X W k => sa_n⟩
  | e :: es => (match S.e false c e, cAs S c es with
    | some a, some r => if hs : noStar e = true then some ⟨aC a.m r.m, by rw [List.all_cons, hs, r.ns]; rfl, fun z => (List.cons_ne_nil _ _ z).elim, aC_len r.len, fun X W k => sa_c (a.ok X W k) (r.ok X W k) (starEach_no X.env hs es)⟩ else none
    | _, _ => none)
def cKs (S : Sm) (c : Cc) : (l : List Keyword) → Option (CK c l)
  | [] => some ⟨aN, fun X W k => sk_n⟩
  | ⟨nm, e, kp⟩ :: es => (match S.e false c e, cKs S c es with
    | some a, some r => some ⟨aC a.m r.m, fun X W k => sk_c (a.ok X W k) (r.ok X W k)⟩
    | _, _ => none)
def cWs (S : Sm) (c : Cc) (op : BoolOp) : (l : List Expr) → Option (CW c op l)
  | [] => none
  | [a] => (match S.t c a with
    | some t => some ⟨t.m, fun X W pos k => (match op with
      | .And => pw_and1 (t.ok X W k)
      | .Or => pw_or1 (t.ok X W k))⟩
    | none => none)
  | a :: b :: r => (match S.t c a, cWs S c op (b :: r) with
    | some t, some u => (match op, u with
      | .And, u => some ⟨tAn t.m u.m, fun X W pos k => (pw_and (t.ok X W k) (u.ok X W pos k)).imp tTan⟩
      | .Or, u => some ⟨tOr' t.m u.m, fun X W pos k => (pw_or (t.ok X W k) (u.ok X W pos k)).imp tTor⟩)
    | _, _ => none)
def cBs (S : Sm) (o : Bool) (c : Cc) (op : BoolOp) : (l : List Expr) → Option (CB c op l)
  | [] => none
  | [a] => (match S.e o c a with
    | some t => some ⟨t.m, fun X W pos k => pe_one (t.ok X W k)⟩
    | none => none)
  | a :: b :: r => (match S.e o c a, cBs S o c op (b :: r) with
    | some t, some u => (match op, u with
      | .And, u => some ⟨eAn t.m u.m, fun X W pos k => se_an (t.ok X W k) (u.ok X W pos k)⟩
      | .Or, u => some ⟨eOr t.m u.m, fun X W pos k => se_or (t.ok X W k) (u.ok X W pos k)⟩)
    | _, _ => none)
def cOs (S : Sm) (c : Cc) : (l : Option Expr) → Option (CO c l)
  | none => some ⟨oN, fun X W k => so_n⟩
  | some e => (match S.e false c e with
    | some a => some ⟨oS a.m, fun X W k => so_s (a.ok X W k)⟩
    | none => none)
/-- a plain subscript -/
def plainIx : Expr → Bool
  | .Slice _ _ _ _ => false
  | _ => true
theorem plainIx_of {b : Expr} (h : plainIx b = true) : PlainIx b := fun o i => by
  cases b <;> first | rfl | (cases h; done)

/-! ### targets -/
def cTg1 (S : Sm) (c : Cc) : (e : Expr) → Option (CG c e)
  | .Name x pos => if hi : c.N[slotOf c.N x]? = some x then (if hl : isLoc (c.sc.names.lookup x) = true then (if hf : c.fnc x = true ∨ isLocal (c.sc.names.lookup x) = true then
      some ⟨gN (slotOf c.N x), [slotOf c.N x], fun X W k => sg_n k.nd (by rw [k.N]; exact hi) (by unfold L2.Loc; rw [k.sc]; exact isLoc_of hl) (by
        rw [k.fn, k.sc]
        exact hf.imp id isLocal_of), fun _ _ => rfl⟩ else none) else none) else none
  | .Subscript o i pos => if hp : plainIx i = true then (match S.e false c o, S.e false c i with
      | some a, some b => some ⟨gS a.m b.m, [], fun X W k => sg_s (a.ok X W k) (b.ok X W k) fun v => (by cases i <;> first | rfl | (cases hp; done)), fun _ _ => rfl⟩
      | _, _ => none) else none
  | _ => none
def cTgs (S : Sm) (c : Cc) : (l : List Expr) → Option (CGs c l)
  | [] => some ⟨gsN, [], fun X W k => sgs_n, fun _ => rfl, fun _ => rfl⟩
  | e :: es => (match cTg1 S c e, cTgs S c es with
    | some a, some r => some ⟨gsC a.m r.m, a.sl ++ r.sl, fun X W k => sgs_c (a.ok X W k) (r.ok X W k) (by rw [a.nst]; rfl), fun env => by rw [a.nst, List.length_cons, List.length_cons, r.len], fun env => by
      rw [a.nst, List.findIdx?_cons, r.nst]; rfl⟩
    | _, _ => none)
def cTg (S : Sm) (c : Cc) : (e : Expr) → Option (CG c e)
  | .Tuple es k pos => (match cTgs S c es with
    | some r => some ⟨gT es.length r.m, r.sl, fun X W k => sg_t k.K k.calm (r.ok X W k) (r.len _) (r.nst _), fun _ _ => rfl⟩
    | none => none)
  | e => cTg1 S c e

/-! ### what is walked over -/
def isRng (x : Str) : Bool := decide (x = "range")
def cItA (S : Sm) (c : Cc) (tg : Expr) (e : Expr) : Option (CI c tg e) := match S.e false c e with
  | some a => some ⟨iA a.m, fun X W k => si_a k.K (a.ok X W k)⟩
  | none => none
def isBi : Option GE → Bool
  | some .bi => true
  | _ => false
theorem isBi_of {o : Option GE} (h : isBi o = true) : o = some .bi := by
  cases o with
  | none => cases h
  | some e => cases e <;> first | rfl | cases h
/-- a built-in's name, not hidden -/
def biN (c : Cc) (x : Str) : Bool := isGlob (c.sc.names.lookup x) && isBi (c.tb.lookup x)
theorem biN_gl {c : Cc} {x : Str} (h : biN c x = true) {X : Cx} {W : WX} (k : XOk c X W) : Gl X x ∧ X.mg x = none := by
  unfold biN at h
  rw [Bool.and_eq_true] at h
  exact ⟨k.gl (isGlob_of h.1), k.glo x _ (isBi_of h.2)⟩
def cIt (S : Sm) (c : Cc) (tg : Expr) : (e : Expr) → Option (CI c tg e)
  | .Call (.Name x p) [a] [] pos => if hx : x = "range" ∧ biN c "range" = true then (match S.e false c a with
      | some m => if hn : noStar a = true then some ⟨iR (aC m.m aN), fun X W k => by
          obtain ⟨rfl, hb⟩ := hx
          exact si_r1 (biN_gl hb k).1 (biN_gl hb k).2 (sa_c (m.ok X W k) sa_n (starEach_no X.env hn [])) hn (aC_len aN_len)⟩ else none
      | none => none) else cItA S c tg (.Call (.Name x p) [a] [] pos)
  | .Call (.Name x p) [a, b] [] pos => if hx : x = "range" ∧ biN c "range" = true then (match S.e false c a, S.e false c b with
      | some m, some m2 => if hn : noStar a = true ∧ noStar b = true then some ⟨iR (aC m.m (aC m2.m aN)), fun X W k => by
          obtain ⟨rfl, hb⟩ := hx
          exact si_r2 (biN_gl hb k).1 (biN_gl hb k).2 (sa_c (m.ok X W k) (sa_c (m2.ok X W k) sa_n (starEach_no X.env hn.2 [])) (starEach_no X.env hn.1 [b])) hn.1 hn.2 (aC_len (aC_len aN_len))⟩ else none
      | _, _ => none) else cItA S c tg (.Call (.Name x p) [a, b] [] pos)
  | e => cItA S c tg e
def notSet : Expr → Bool
  | .Set _ _ _ => false
  | _ => true
theorem folded_no (env : Env) {e : Expr} (h : notSet e = true) (x : Value) : foldedSetIterable e env x = pure x := by
  cases e <;> first | rfl | (cases h; done)
end Zs
end

/-! Fm -/
noncomputable section
namespace Zs
open PySem PySem.Spec L2
open PyProof.Rows hiding St

/-! ### comprehensions -/
def ownFrom (sc : Scope) : List Str → Nat → List (Str × Nat)
  | [], _ => []
  | x :: r, i => if isLoc (sc.names.lookup x) = true then (x, i) :: ownFrom sc r (i + 1) else ownFrom sc r (i + 1)
def ownOf (N : List Str) (sc : Scope) : List (Str × Nat) := ownFrom sc N 0
def blkCc (c : Cc) (sc : Scope) : Cc := { c with sc := relS sc c.sc, fnc := fun x => sc.names.lookup x == some .cell }
theorem XOk.blk {c : Cc} {X : Cx} {W : WX} (k : XOk c X W) (scope : Scope) (s : Shared) (H : Hp) (C : Addr) (cl : List (Str × Addr)) (fp : List Addr) : XOk (blkCc c scope) (X.blk s H scope (compEnvC scope cl C X.env) fp) WF where
  K := k.K
  N := k.N
  nd := k.nd
  sc := by
    show relabel scope X.env = relS scope c.sc
    rw [← k.sc]
    rfl
  fn := rfl
  calm := k.calm
  tk := takes0
  po := PassesOwn.never
  room := k.room
  glo := fun x e h => by
    have := k.glo x e h
    cases e with
    | con d => exact this
    | fn i np sh => exact this
    | bi => exact this
structure CL (c : Cc) (elt tg iter : Expr) (ifs : List Expr) (scope : Scope) where
  it : CI c tg iter
  g : CG (blkCc c scope) tg
  t : TM
  tok : ∀ X, XOk (blkCc c scope) X WF → PTs X ifs (tT c.g WF t)
  e : CE (blkCc c scope) elt
  blk : blkC c.N c.sc scope (ownOf c.N scope) = true
  sl : g.sl.all (fun i => decide (i ∈ (ownOf c.N scope).map (·.2))) = true
  set : notSet iter = true
def CL.m {c : Cc} {elt tg iter : Expr} {ifs : List Expr} {scope : Scope} (o : Bool) (l : CL c elt tg iter ifs scope) : EM := eLc o l.it.m l.g.m l.t l.e.m ((ownOf c.N scope).map (·.2))
def cLc (S : Sm) (c : Cc) (elt tg iter : Expr) (ifs : List Expr) (scope : Scope) : Option (CL c elt tg iter ifs scope) :=
  match cIt S c tg iter, cTg S (blkCc c scope) tg, S.e false (blkCc c scope) elt with
  | some it, some g, some e =>
    if hb : blkC c.N c.sc scope (ownOf c.N scope) = true then
      if hs : g.sl.all (fun i => decide (i ∈ (ownOf c.N scope).map (·.2))) = true then
        if hn : notSet iter = true then
          (match ifs with
          | [] => some ⟨it, g, tYe, fun X k => sts_n, e, hb, hs, hn⟩
          | [t] => (match S.t (blkCc c scope) t with
            | some tt => some ⟨it, g, tt.m, fun X k => pts_one (tt.ok X WF k), e, hb, hs, hn⟩
            | none => none)
          | _ => none)
        else none
      else none
    else none
  | _, _, _ => none
theorem CL.tl {c : Cc} {elt tg iter : Expr} {ifs : List Expr} {scope : Scope} {o : Bool} {W : WX} (l : CL c elt tg iter ifs scope) : ∀ σ H Q, tE c.g W (l.m o) σ H Q → tLc (tI c.g W l.it.m) (tG c.g l.g.sl l.g.m) (tT c.g WF l.t) (tE c.g WF l.e.m) ((ownOf c.N scope).map (·.2)) σ H Q :=
  tLc_of fun i hi => of_decide_eq_true (List.all_eq_true.mp l.sl i hi)
theorem CL.pe {c : Cc} {elt tg iter : Expr} {ifs : List Expr} {scope : Scope} {o : Bool} {X : Cx} {W : WX} {pos : Pos} (l : CL c elt tg iter ifs scope) (k : XOk c X W) : PE X (.ListComp elt [⟨tg, iter, ifs, 0⟩] scope pos) (tE c.g W (l.m o)) :=
  (pe_lc k.calm k.nd (l.it.ok X W k) (by rw [k.N, k.sc]; exact blkOk_by l.blk) (fun s H C cl fp => l.g.ok _ _ (k.blk scope s H C cl fp)) (fun s H C cl fp => l.tok _ (k.blk scope s H C cl fp)) (fun s H C cl fp => l.e.ok _ _ (k.blk scope s H C cl fp)) (folded_no _ l.set)).imp l.tl
/-! ### calls -/
theorem find_mem {α : Type} {p : α → Bool} {l : List α} {x : α} (h : l.find? p = some x) : x ∈ l ∧ p x = true := ⟨List.mem_of_find?_eq_some h, List.find?_some h⟩
def cFn (S : Sm) (c : Cc) (x : Str) (p : Pos) (es : List Expr) (kws : List Keyword) (pos : Pos) : Option (CE c (.Call (.Name x p) es kws pos)) :=
  if hg : isGlob (c.sc.names.lookup x) = true then
    if hd : nDbg x = false then
      (match ht : c.tb.lookup x with
      | some (.fn i np sh) => (match hf : sh.find? (fun s => kwsOk kws s.ks && decide (s.n = es.length)) with
        | some s => (match cAs S c es, cKs S c kws with
          | some a, some b => some ⟨eCl (c.run i) np s.n s.ks.length s.ix a.m b.m, fun X W k => by
              obtain ⟨f, fd, ps, h1, h2, h3, h4, h5⟩ := k.glo x _ ht
              obtain ⟨m1, m2⟩ := find_mem hf
              rw [Bool.and_eq_true] at m2
              subst h3
              exact se_cl k.K h4 k.room (k.gl (isGlob_of hg)) h1 h2 (h5 s m1) k.tk (a.ok X W k) a.nil (b.ok X W k) a.ns m2.1 (nDbg_of hd).1⟩
          | _, _ => none)
        | none => none)
      | _ => none)
    else none
  else none
def cBfn (S : Sm) (o : Bool) (c : Cc) (x : Str) (p : Pos) (pos : Pos) : (es : List Expr) → Option (CE c (.Call (.Name x p) es [] pos))
  | [] => none
  | e :: es => if hb : biN c x = true then (if hd : nDbg x = false then (match cBf c.g o x, cAs S c (e :: es) with
    | some b, some a => some ⟨eA b.f a.m, fun X W k => by
        obtain ⟨f, v, r, hv, kd, hc, u⟩ := b
        rcases kd with ⟨id, rfl⟩ | ⟨T, rfl⟩
        · refine se_bf (rr := r X.K) (hc X k.calm) ?_ (biN_gl hb k).1 (biN_gl hb k).2 hv (a.ok X W k) a.ns (nDbg_of hd).2.2 (nDbg_of hd).1
          rw [k.K]; exact u W
        · refine se_ty (rr := r X.K) (hc X k.calm) ?_ (biN_gl hb k).1 (biN_gl hb k).2 hv (a.ok X W k) a.ns (nDbg_of hd).2.2 (nDbg_of hd).1
          rw [k.K]; exact u W⟩
    | _, _ => none) else none) else none
def cCallN (S : Sm) (o : Bool) (c : Cc) (x : Str) (p : Pos) (es : List Expr) (kws : List Keyword) (pos : Pos) : Option (CE c (.Call (.Name x p) es kws pos)) := match kws with
  | [] => if biN c x = true then cBfn S o c x p pos es else cFn S c x p es [] pos
  | k :: ks => cFn S c x p es (k :: ks) pos
def cRgL (S : Sm) (o : Bool) (c : Cc) (x : Str) (p : Pos) (y : Str) (q pos2 pos : Pos) : (es : List Expr) → Option (CE c (.Call (.Name x p) [.Call (.Name y q) es [] pos2] [] pos))
  | [a] => if h : x = "list" ∧ y = "range" ∧ biN c "list" = true ∧ biN c "range" = true ∧ noStar a = true then (match S.e false c a with
    | some m => some ⟨eRgL1 o m.m, fun X W k => by
        obtain ⟨rfl, rfl, h1, h2, h3⟩ := h
        exact se_rgL1 k.calm (biN_gl h1 k).1 (biN_gl h1 k).2 (biN_gl h2 k).1 (biN_gl h2 k).2 (m.ok X W k) h3⟩
    | none => none) else cCallN S o c x p [.Call (.Name y q) [a] [] pos2] [] pos
  | [a, b] => if h : x = "list" ∧ y = "range" ∧ biN c "list" = true ∧ biN c "range" = true ∧ noStar a = true ∧ noStar b = true then (match S.e false c a, S.e false c b with
    | some m, some m2 => some ⟨eRgL o m.m m2.m, fun X W k => by
        obtain ⟨rfl, rfl, h1, h2, h3, h4⟩ := h
        exact se_rgL2 k.calm (biN_gl h1 k).1 (biN_gl h1 k).2 (biN_gl h2 k).1 (biN_gl h2 k).2 (m.ok X W k) (m2.ok X W k) h3 h4⟩
    | _, _ => none) else cCallN S o c x p [.Call (.Name y q) [a, b] [] pos2] [] pos
  | es => cCallN S o c x p [.Call (.Name y q) es [] pos2] [] pos
def cMth (S : Sm) (o : Bool) (c : Cc) (b : Expr) (nm : Str) (apos cpos : Pos) : (es : List Expr) → Option (CE c (.Call (.Attribute b nm apos) es [] cpos))
  | [] => if h : baseOk b = true ∧ (apos.endLine == cpos.line) = true then (match cMt c.g o nm, S.e false c b with
    | some mt, some a => some ⟨eMt mt.c mt.f a.m aN, fun X W k => se_mt0 (rr := mt.r X.K) k.K mt.hc (by rw [k.K]; exact mt.u W) mt.pa mt.slot mt.ty (mt.hm X) (a.ok X W k) h.1 h.2⟩
    | _, _ => none) else none
  | e :: es => if h : baseOk b = true ∧ (apos.endLine == cpos.line) = true ∧ decide ((e :: es).length < 30) = true then (match cMt c.g o nm, S.e false c b, cAs S c (e :: es) with
    | some mt, some a, some r => some ⟨eMt mt.c mt.f a.m r.m, fun X W k => se_mt (rr := mt.r X.K) k.K mt.hc (by rw [k.K]; exact mt.u W) mt.pa mt.slot mt.ty (mt.hm X) (a.ok X W k) (r.ok X W k) h.1 h.2.1 r.ns h.2.2⟩
    | _, _, _ => none) else none
/-! ### expressions -/
def stE (S : Sm) (o : Bool) (c : Cc) : (e : Expr) → Option (CE c e)
  | .Name x pos => cName c x pos
  | .Constant v k pos => cConst c k pos v
  | .BinOp a op b pos => (match cOp c.g o op, S.e false c a, S.e false c b with
    | some f, some x, some y => some ⟨e2 f.f x.m y.m, fun X W k => se_bin (f.ho X) (by rw [k.K]; exact f.u W) (x.ok X W k) (y.ok X W k)⟩
    | _, _, _ => none)
  | .UnaryOp .Not a pos => (match S.e false c a with
    | some x => some ⟨eNo x.m, fun X W k => se_no (x.ok X W k)⟩
    | none => none)
  | .UnaryOp .USub a pos => (match S.e false c a with
    | some x => some ⟨e1 uNeg x.m, fun X W k => se_un un_neg u_neg (x.ok X W k)⟩
    | none => none)
  | .Compare a [op] [b] pos => (match cCm c.g op, S.e false c a, S.e false c b with
    | some f, some x, some y => if hm : behindInMarks op b = false then some ⟨e2 f.f x.m y.m, fun X W k => se_cmp (f.ho X) (by rw [k.K]; exact f.u W) (x.ok X W k) (y.ok X W k) hm⟩ else none
    | _, _, _ => none)
  | .Compare a [op, op2] [b, d] pos => (match cCm c.g op, cCm c.g op2, S.e false c a, S.e false c b, S.e false c d with
    | some f, some f2, some x, some y, some z => if hm : lastMarks [op, op2] [b, d] = false then some ⟨e2c f.f f2.f x.m y.m z.m, fun X W k => se_ch (f.ho X) (f2.ho X) (by rw [k.K]; exact f.u W) (by rw [k.K]; exact f2.u W) (x.ok X W k) (y.ok X W k) (z.ok X W k) hm⟩ else none
    | _, _, _, _, _ => none)
  | .BoolOp op l pos => (match cBs S o c op l with
    | some x => some ⟨x.m, fun X W k => x.ok X W pos k⟩
    | none => none)
  | .IfExp t a b pos => (match S.t c t, S.e o c a, S.e o c b with
    | some t, some x, some y => some ⟨eIf t.m x.m y.m, fun X W k => se_if (t.ok X W k) (x.ok X W k) (y.ok X W k)⟩
    | _, _, _ => none)
  | .Subscript a (.Slice lo hi none p2) pos => (match S.e false c a, cOs S c lo, cOs S c hi with
    | some x, some l, some u => some ⟨eSl o x.m l.m u.m, fun X W k => se_sl k.K (x.ok X W k) (l.ok X W k) (u.ok X W k)⟩
    | _, _, _ => none)
  | .Subscript a b pos => (match S.e false c a, S.e false c b with
    | some x, some y => if hp : plainIx b = true then some ⟨e2 bIx x.m y.m, fun X W k => (pe_ix ix_seq (x.ok X W k) (y.ok X W k) (plainIx_of hp)).imp (by rw [k.K]; exact t2_of u_ix)⟩ else none
    | _, _ => none)
  | .Tuple es k pos => (match cAs S c es with
    | some a => some ⟨eA fTup a.m, fun X W k => se_tup (a.ok X W k)⟩
    | none => none)
  | .List es pos => (match cAs S c es with
    | some a => some ⟨eA (fLst o) a.m, fun X W k => se_lst (a.ok X W k)⟩
    | none => none)
  | .Dict [] [] pos => some ⟨eD0 o, fun X W k => se_d0⟩
  | .Dict (x :: ks) vs pos => (match cPs S c pos (x :: ks) vs with
    | some r => if h15 : (x :: ks).length ≤ 15 then some ⟨eDi o r.l, fun X W k => (pe_disp (r.ok X W k) r.all r.len (List.cons_ne_nil _ _) h15).imp (eDi_of (by rw [r.ll]; exact h15))⟩ else none
    | none => none)
  | .ListComp elt [⟨tg, iter, ifs, 0⟩] scope pos => (match cLc S c elt tg iter ifs scope with
    | some l => some ⟨l.m o, fun X W k => l.pe k⟩
    | none => none)
  | .Call (.Name x p) [.Call (.Name y q) es [] pos2] [] pos => cRgL S o c x p y q pos2 pos es
  | .Call (.Name x p) es kws pos => cCallN S o c x p es kws pos
  | .Call (.Attribute b nm apos) es [] cpos => cMth S o c b nm apos cpos es
  | _ => none
/-! ### tests -/
def cTv (S : Sm) (c : Cc) (e : Expr) (he : ∀ env whole, isTrue e env whole = (do let v ← whole; standAt e.pos; holding [v] (truthy v))) : Option (CT c e) := match S.e false c e with
  | some a => some ⟨tV a.m, fun X W k => st_v (a.ok X W k) (he X.env)⟩
  | none => none
def stT (S : Sm) (c : Cc) : (e : Expr) → Option (CT c e)
  | .UnaryOp .Not a pos => (match S.t c a with
    | some t => some ⟨tN t.m, fun X W k => st_n (t.ok X W k)⟩
    | none => none)
  | .BoolOp op l pos => (match cWs S c op l with
    | some t => some ⟨t.m, fun X W k => (t.ok X W pos k).pt⟩
    | none => none)
  | .Compare a [op] [b] pos => (match cCm c.g op, S.e false c a, S.e false c b with
    | some f, some x, some y => if hm : behindInMarks op b = false then some ⟨tV (e2 f.f x.m y.m), fun X W k => st_cmp (f.ho X) (by rw [k.K]; exact f.u W) (x.ok X W k) (y.ok X W k) hm⟩ else none
    | _, _, _ => none)
  | .Compare a [op, op2] [b, d] pos => (match cCm c.g op, cCm c.g op2, S.e false c a, S.e false c b, S.e false c d with
    | some f, some f2, some x, some y, some z => if hm : lastMarks [op, op2] [b, d] = false then some ⟨tV (e2c f.f f2.f x.m y.m z.m), fun X W k => st_ch (f.ho X) (f2.ho X) (by rw [k.K]; exact f.u W) (by rw [k.K]; exact f2.u W) (x.ok X W k) (y.ok X W k) (z.ok X W k) hm⟩ else none
    | _, _, _, _, _ => none)
  | .Name x p => cTv S c (.Name x p) fun _ _ => rfl
  | .Call f es ks p => cTv S c (.Call f es ks p) fun _ _ => rfl
  | .Constant v k p => cTv S c (.Constant v k p) fun _ _ => rfl
  | .Subscript a b p => cTv S c (.Subscript a b p) fun _ _ => rfl
  | .Attribute a b p => cTv S c (.Attribute a b p) fun _ _ => rfl
  | _ => none
/-! ### statements -/
def isCmp : Expr → Bool
  | .ListComp _ _ _ _ => true
  | .SetComp _ _ _ _ => true
  | .DictComp _ _ _ _ _ => true
  | _ => false
theorem swaps_no {e : Expr} (h : isCmp e = false) (t : Option Expr) (n : Nat) (env : Env) : swapsWith e t n env = pure false := by
  cases e <;> first | rfl | (cases h; done)
def isTup : Expr → Bool
  | .Tuple _ _ _ => true
  | _ => false
theorem swst_no {e tg : Expr} (h : (isTup e) = false) (env : Env) : swappedStores [tg] e env = pure none := by
  cases e <;> first | (cases h; done) | (cases tg <;> rfl)
def cSs (S : Sm) (c : Cc) : (l : List Stmt) → Option (CSs c l)
  | [] => some ⟨sNx, fun X W k => ss_nil⟩
  | s :: r => (match S.s c s, cSs S c r with
    | some a, some b => some ⟨sSq a.m b.m, fun X W k => ss_cons (a.ok X W k) (b.ok X W k)⟩
    | _, _ => none)
def inOpn (c : Cc) (x : Str) : Bool := c.opn.any fun y => decide (y = x)
def cSet (S : Sm) (c : Cc) (x : Str) (p : Pos) (e : Expr) (pos : Pos) : Option (CS c (.Assign [.Name x p] e pos)) :=
  if hi : c.N[slotOf c.N x]? = some x then
    if hl : isLoc (c.sc.names.lookup x) = true then
      if hf : c.fnc x = true ∨ isLocal (c.sc.names.lookup x) = true then
        if hc : isCmp e = false then
          (match S.e (inOpn c x) c e with
          | some a => some ⟨sAs a.m (gN (slotOf c.N x)), fun X W k => ss_set k.nd (by rw [k.N]; exact hi) (by unfold L2.Loc; rw [k.sc]; exact isLoc_of hl) (a.ok X W k) (swaps_no hc _ _ _) (by
              rw [k.fn, k.sc]
              exact hf.imp id isLocal_of)⟩
          | none => none)
        else none
      else none
    else none
  else none
def cSetC (S : Sm) (c : Cc) (y : Str) (py : Pos) (elt tg iter : Expr) (ifs : List Expr) (scope : Scope) (pos spos : Pos) : Option (CS c (.Assign [.Name y py] (.ListComp elt [⟨tg, iter, ifs, 0⟩] scope pos) spos)) :=
  if hi : c.N[slotOf c.N y]? = some y then
    if hk : decide (c.sc.kind = .function) = true then
      if hl : isLocal (c.sc.names.lookup y) = true then
        if hs : (py.line == pos.line) = true ∧ (scope.names.any fun (n, k) => n == y && (k == .local || k == .cell)) = false then
          (match cLc S c elt tg iter ifs scope with
          | some l => some ⟨sAs (l.m (inOpn c y)) (gN (slotOf c.N y)), fun X W k =>
              (ps_setLc k.calm k.nd (by rw [k.N]; exact hi) (by rw [k.sc]; exact isLocal_of hl) (sw_true (by rw [k.sc]; exact of_decide_eq_true hk) (by rw [k.sc]; exact isLocal_of hl) hs.1 hs.2) (l.it.ok X W k) (by rw [k.N, k.sc]; exact blkOk_by l.blk) (fun s H C cl fp => l.g.ok _ _ (k.blk scope s H C cl fp)) (fun s H C cl fp => l.tok _ (k.blk scope s H C cl fp)) (fun s H C cl fp => l.e.ok _ _ (k.blk scope s H C cl fp)) (folded_no _ l.set)).imp (tAs_of l.tl gName_of)⟩
          | none => none)
        else none
      else none
    else none
  else none
def stS (S : Sm) (c : Cc) : (s : Stmt) → Option (CS c s)
  | .Expr e pos => if hc : isCmp e = false then (match S.e false c e with
    | some a => some ⟨sEx a.m, fun X W k => ss_ex (a.ok X W k) (swaps_no hc _ _ _)⟩
    | none => none) else none
  | .Return (some e) pos => (match S.e c.ret c e with
    | some a => some ⟨sRe a.m, fun X W k => ss_re (a.ok X W k)⟩
    | none => none)
  | .Return none pos => some ⟨sRe (eC .non), fun X W k => ss_re0⟩
  | .If t a b pos => (match S.t c t, cSs S c a, cSs S c b with
    | some t, some x, some y => some ⟨sIf t.m x.m y.m, fun X W k => ss_if (t.ok X W k) (x.ok X W k) (y.ok X W k)⟩
    | _, _, _ => none)
  | .Pass pos => some ⟨sNx, fun X W k => ss_pass⟩
  | .Break pos => some ⟨sBr, fun X W k => ss_brk⟩
  | .Assign [.Name y py] (.ListComp elt [⟨tg, iter, ifs, 0⟩] scope pos) spos => cSetC S c y py elt tg iter ifs scope pos spos
  | .Assign [.Name x p] e pos => cSet S c x p e pos
  | .Assign [tg] e pos => if hc : isCmp e = false ∧ isTup e = false then (match S.e false c e, cTg S c tg with
    | some a, some g => some ⟨sAs a.m g.m, fun X W k => ss_asg (a.ok X W k) (g.ok X W k) (swaps_no hc.1 _ _ _) (swst_no hc.2 _) (by rw [g.nst]; rfl)⟩
    | _, _ => none) else none
  | .For tg it body [] pos => if hn : notSet it = true then (match cIt S c tg it, cTg S c tg, cSs S c body with
    | some i, some g, some b => some ⟨sFo i.m g.m b.m, fun X W k => ss_for k.po k.calm (i.ok X W k) (g.ok X W k) (b.ok X W k) (folded_no _ hn)⟩
    | _, _, _ => none) else none
  | _ => none
def sems : Nat → Sm
  | 0 => ⟨fun _ _ _ => none, fun _ _ => none, fun _ _ => none⟩
  | n + 1 => ⟨stE (sems n), stT (sems n), stS (sems n)⟩
def cBody (n : Nat) (c : Cc) (l : List Stmt) : Option (CSs c l) := cSs (sems n) c l
end Zs
end

/-! Fn -/
noncomputable section
namespace Zs
open PySem PySem.Spec L2
open PyProof.Rows hiding St
open Classical

/-! ## a def as a whole: what it leaves open is shut -/
mutual
/-- no open object from n on is named -/
def nn (n : Nat) : D → Bool
  | .non => true
  | .bl _ => true
  | .int _ => true
  | .str _ => true
  | .tup xs => nnL n xs
  | .lst xs => nnL n xs
  | .scr xs => nnL n xs
  | .dct xs => nnP n xs
  | .ref i => decide (i < n)
  | .ty _ => true
  | .cls _ => true
  | .exc _ v => nn n v
  | .fn _ => true
def nnL (n : Nat) : List D → Bool
  | [] => true
  | x :: r => nn n x && nnL n r
def nnQ (n : Nat) : D × D → Bool
  | (a, b) => nn n a && nn n b
def nnP (n : Nat) : List (D × D) → Bool
  | [] => true
  | x :: r => nnQ n x && nnP n r
end
def nnF (n : Nat) : List (Str × D) → Bool
  | [] => true
  | (_, v) :: r => nn n v && nnF n r
def nnO (n : Nat) : O → Bool
  | .lst xs => nnL n xs
  | .dct xs => nnP n xs
  | .ins _ fs => nnF n fs
section
variable {K : PySem.W.Frag} {F : Hp} {μ : List Addr}
mutual
theorem Rep.nn : ∀ {d v}, Rep K F μ d v → Zs.nn μ.length d = true
  | _, _, .non => rfl
  | _, _, .bl b => rfl
  | _, _, .int i => rfl
  | _, _, .str s z => rfl
  | _, _, .tup h z r => r.nn
  | _, _, .lst h z r => r.nn
  | _, _, .scr h z r => r.nn
  | _, _, .ty t => rfl
  | _, _, .dctK h r => r.nn
  | _, _, .dctT h r => r.nn
  | _, _, .ref h => decide_eq_true (List.getElem?_eq_some_iff.mp h).1
theorem Reps.nn : ∀ {d v}, Reps K F μ d v → Zs.nnL μ.length d = true
  | _, _, .nil => rfl
  | _, _, .cons a b => Bool.and_eq_true_iff.mpr ⟨a.nn, b.nn⟩
theorem RepK.nn : ∀ {d v}, RepK K F μ d v → Zs.nnP μ.length d = true
  | _, _, .nil => rfl
  | _, _, .cons k a b => Bool.and_eq_true_iff.mpr ⟨Bool.and_eq_true_iff.mpr ⟨by cases k <;> rfl, a.nn⟩, b.nn⟩
theorem RepT.nn : ∀ {d v}, RepT K F μ d v → Zs.nnP μ.length d = true
  | _, _, .nil => rfl
  | _, _, .cons k a b => Bool.and_eq_true_iff.mpr ⟨Bool.and_eq_true_iff.mpr ⟨keysR_nn k, a.nn⟩, b.nn⟩
theorem keysR_nn : ∀ {ds ks}, KeysR ds ks → Zs.nnL μ.length ds = true
  | _, _, .nil => rfl
  | _, _, .cons k b => Bool.and_eq_true_iff.mpr ⟨by cases k <;> rfl, keysR_nn b⟩
end
theorem RepO.nn {o u} (h : RepO K F μ o u) : nnO μ.length o = true := by
  cases h with
  | lst z r => exact r.nn
  | dctK r => exact r.nn
  | dctT r => exact r.nn
mutual
theorem Rep.cutN {n : Nat} : ∀ {d v}, Rep K F μ d v → Zs.nn n d = true → Rep K F (μ.take n) d v
  | _, _, .non, _ => .non
  | _, _, .bl b, _ => .bl b
  | _, _, .int i, _ => .int i
  | _, _, .str s z, _ => .str s z
  | _, _, .tup h z r, e => .tup h z (r.cutN e)
  | _, _, .lst h z r, e => .lst h z (r.cutN e)
  | _, _, .scr h z r, e => .scr h z (r.cutN e)
  | _, _, .ty t, _ => .ty t
  | _, _, .dctK h r, e => .dctK h (r.cutN e)
  | _, _, .dctT h r, e => .dctT h (r.cutN e)
  | _, _, .ref h, e => .ref (by
    have e' : decide _ = true := e
    rw [List.getElem?_take_of_lt (of_decide_eq_true e')]; exact h)
theorem Reps.cutN {n : Nat} : ∀ {d v}, Reps K F μ d v → Zs.nnL n d = true → Reps K F (μ.take n) d v
  | _, _, .nil, _ => .nil
  | _, _, .cons a b, e => .cons (a.cutN (Bool.and_eq_true_iff.mp e).1) (b.cutN (Bool.and_eq_true_iff.mp e).2)
theorem RepK.cutN {n : Nat} : ∀ {d v}, RepK K F μ d v → Zs.nnP n d = true → RepK K F (μ.take n) d v
  | _, _, .nil, _ => .nil
  | _, _, .cons k a b, e => .cons k (a.cutN (Bool.and_eq_true_iff.mp (Bool.and_eq_true_iff.mp e).1).2) (b.cutN (Bool.and_eq_true_iff.mp e).2)
theorem RepT.cutN {n : Nat} : ∀ {d v}, RepT K F μ d v → Zs.nnP n d = true → RepT K F (μ.take n) d v
  | _, _, .nil, _ => .nil
  | _, _, .cons k a b, e => .cons k (a.cutN (Bool.and_eq_true_iff.mp (Bool.and_eq_true_iff.mp e).1).2) (b.cutN (Bool.and_eq_true_iff.mp e).2)
end
theorem RepO.cutN {n : Nat} {o u} (h : RepO K F μ o u) (e : nnO n o = true) : RepO K F (μ.take n) o u := by
  cases h with
  | lst z r => exact .lst z (r.cutN e)
  | dctK r => exact .dctK (r.cutN e)
  | dctT r => exact .dctT (r.cutN e)
end
/-- the old open objects name no young ones -/
def okOld (h h' : HP) : Prop := h.length ≤ h'.length ∧ ∀ (i : Nat) (o : O), i < h.length → h'[i]? = some (some o) → h[i]? = some (some o) ∨ nnO h.length o = true
/-- shut -/
def mapO {α β : Type} (f : α → Option β) : List α → Option (List β)
  | [] => some []
  | x :: r => match f x with
    | some y => (match mapO f r with
      | some ys => some (y :: ys)
      | none => none)
    | none => none
def frz (n : Nat) (h : HP) : Nat → D → Option D
  | 0, d => if nn n d = true then some d else none
  | k + 1, d => if nn n d = true then some d else match d with
    | .ref i => (match h[i]? with
      | some (some (.lst xs)) => (match mapO (frz n h k) xs with
        | some ys => some (.lst ys)
        | none => none)
      | some (some (.dct xs)) => (match mapO (fun p => match frz n h k p.2 with
          | some y => some (p.1, y)
          | none => none) xs with
        | some ys => some (.dct ys)
        | none => none)
      | _ => none)
    | .tup xs => (match mapO (frz n h k) xs with
      | some ys => some (.tup ys)
      | none => none)
    | .lst xs => (match mapO (frz n h k) xs with
      | some ys => some (.lst ys)
      | none => none)
    | _ => none
/-- what is known behind the shutting -/
def shutF (F : Hp) (μ : List Addr) (h : HP) (n : Nat) (H : Hp) : Hp := fun a => match F a with
  | some o => some o
  | none => if ∃ i o, n ≤ i ∧ h[i]? = some (some o) ∧ μ[i]? = some a then H a else none
section
variable {K : PySem.W.Frag} {F : Hp} {μ : List Addr} {G H : Hp} {h : HP} {n : Nat}
theorem shut_sub (s : SRel K F μ h G H) {a : Addr} {o : HO} (e : shutF F μ h n H a = some o) : H a = some o := by
  unfold shutF at e
  split at e
  · rename_i u hu
    cases e
    exact s.sub a _ hu
  · split at e
    · exact e
    · cases e
theorem shut_ext : Ext F μ (shutF F μ h n H) μ := ⟨fun a o e => by unfold shutF; rw [e], List.prefix_refl μ⟩
theorem shut_at (s : SRel K F μ h G H) {i : Nat} {o : O} {a : Addr} (hi : n ≤ i) (e : h[i]? = some (some o)) (m : μ[i]? = some a) : shutF F μ h n H a = H a := by
  obtain ⟨a', u, m', hH, hF, _⟩ := s.live i o e
  rw [m] at m'; cases m'
  unfold shutF
  rw [hF]
  exact if_pos ⟨i, o, hi, e, m⟩
theorem shut_none (s : SRel K F μ h G H) {a : Addr} (hF : F a = none) (hn : ∀ i o, n ≤ i → h[i]? = some (some o) → μ[i]? = some a → False) : shutF F μ h n H a = none := by
  unfold shutF
  rw [hF]
  exact if_neg fun ⟨i, o, a1, a2, a3⟩ => hn i o a1 a2 a3
theorem SRel.shut (s : SRel K F μ h G H) (hn : n ≤ h.length) (old : ∀ (i : Nat) (o : O), i < n → h[i]? = some (some o) → nnO n o = true) : SRel K (shutF F μ h n H) (μ.take n) (h.take n) G H := by
  have hl := s.len
  have at' : ∀ {i : Nat} {o : O}, (h.take n)[i]? = some (some o) → i < n ∧ h[i]? = some (some o) := fun {i o} e => by
    have hi := (List.getElem?_eq_some_iff.mp e).1
    rw [List.length_take] at hi
    have hi2 : i < n := by omega
    rw [List.getElem?_take_of_lt hi2] at e
    exact ⟨hi2, e⟩
  refine ⟨fun a o e => shut_sub s e, by rw [List.length_take, List.length_take, hl], fun i o e => ?_, fun i j o o' a e e' m m' => ?_, fun a o e => ?_⟩
  · obtain ⟨hi, e0⟩ := at' e
    obtain ⟨a, u, h1, h2, h3, h4, h5⟩ := s.live i o e0
    refine ⟨a, u, by rw [List.getElem?_take_of_lt hi]; exact h1, h2, shut_none s h3 fun j o' hj e1 m1 => ?_, h4, (h5.mono shut_ext).cutN (old i o hi e0)⟩
    have := s.inj j i o' o a e1 e0 m1 h1
    omega
  · obtain ⟨hi, e0⟩ := at' e
    obtain ⟨hj, e0'⟩ := at' e'
    rw [List.getElem?_take_of_lt hi] at m
    rw [List.getElem?_take_of_lt hj] at m'
    exact s.inj i j o o' a e0 e0' m m'
  · obtain ⟨h1, h2⟩ := s.fr a o e
    refine ⟨h1, shut_none s h2 fun j o' hj e1 m1 => ?_⟩
    obtain ⟨a', u, m', _, _, hG, _⟩ := s.live j o' e1
    rw [m1] at m'; cases m'
    rw [e] at hG; cases hG
theorem mapO_R {F1 F2 : Hp} {μ1 μ2 : List Addr} {f : D → Option D} (hf : ∀ d d' v, f d = some d' → Rep K F1 μ1 d v → Rep K F2 μ2 d' v) : ∀ {ds ds' : List D} {vs : List V}, mapO f ds = some ds' → Reps K F1 μ1 ds vs → Reps K F2 μ2 ds' vs
  | _, _, _, e, .nil => by cases e; exact .nil
  | d :: ds, ds', _, e, .cons r t => by
    unfold mapO at e
    cases e1 : f d with
    | none => rw [e1] at e; cases e
    | some y =>
      rw [e1] at e
      cases e2 : mapO f ds with
      | none => rw [e2] at e; cases e
      | some ys => rw [e2] at e; cases e; exact .cons (hf d y _ e1 r) (mapO_R hf e2 t)
theorem mapO_K {F1 F2 : Hp} {μ1 μ2 : List Addr} {f : D → Option D} (hf : ∀ d d' v, f d = some d' → Rep K F1 μ1 d v → Rep K F2 μ2 d' v) : ∀ {ds ds' : List (D × D)} {vs : List (Key × V)}, mapO (fun p => match f p.2 with | some y => some (p.1, y) | none => none) ds = some ds' → RepK K F1 μ1 ds vs → RepK K F2 μ2 ds' vs
  | _, _, _, e, .nil => by cases e; exact .nil
  | (k, d) :: ds, ds', _, e, .cons rk r t => by
    unfold mapO at e
    dsimp only at e
    cases e1 : f d with
    | none => rw [e1] at e; cases e
    | some y =>
      rw [e1] at e
      cases e2 : mapO (fun p : D × D => match f p.2 with | some y => some (p.1, y) | none => none) ds with
      | none => rw [e2] at e; cases e
      | some ys => rw [e2] at e; cases e; exact .cons rk (hf d y _ e1 r) (mapO_K hf e2 t)
theorem mapO_T {F1 F2 : Hp} {μ1 μ2 : List Addr} {f : D → Option D} (hf : ∀ d d' v, f d = some d' → Rep K F1 μ1 d v → Rep K F2 μ2 d' v) : ∀ {ds ds' : List (D × D)} {vs : List (List Key × V)}, mapO (fun p => match f p.2 with | some y => some (p.1, y) | none => none) ds = some ds' → RepT K F1 μ1 ds vs → RepT K F2 μ2 ds' vs
  | _, _, _, e, .nil => by cases e; exact .nil
  | (.tup k, d) :: ds, ds', _, e, .cons rk r t => by
    unfold mapO at e
    dsimp only at e
    cases e1 : f d with
    | none => rw [e1] at e; cases e
    | some y =>
      rw [e1] at e
      cases e2 : mapO (fun p : D × D => match f p.2 with | some y => some (p.1, y) | none => none) ds with
      | none => rw [e2] at e; cases e
      | some ys => rw [e2] at e; cases e; exact .cons rk (hf d y _ e1 r) (mapO_T hf e2 t)
theorem frz_R (s : SRel K F μ h G H) : ∀ (k : Nat) (d d' : D) (v : V), frz n h k d = some d' → Rep K F μ d v → Rep K (shutF F μ h n H) (μ.take n) d' v
  | 0, d, d', v, e, r => by
    unfold frz at e
    split at e
    · rename_i z
      cases e
      exact (r.mono shut_ext).cutN z
    · cases e
  | k + 1, d, d', v, e, r => by
    unfold frz at e
    split at e
    · rename_i z
      cases e
      exact (r.mono shut_ext).cutN z
    · rename_i z
      split at e
      · rename_i i
        cases r with
        | ref m =>
          have hi : n ≤ i := by
            have : ¬ (decide (i < n) = true) := z
            rw [decide_eq_true_eq] at this
            omega
          split at e
          · rename_i xs hx
            split at e
            · rename_i ys hy
              cases e
              obtain ⟨a, u, m', hH, _, _, ro⟩ := s.live i _ hx
              rw [m] at m'; cases m'
              cases ro with
              | lst zz q => exact .lst (by rw [shut_at s hi hx m]; exact hH) zz (mapO_R (frz_R s k) hy q)
            · cases e
          · rename_i xs hx
            split at e
            · rename_i ys hy
              cases e
              obtain ⟨a, u, m', hH, _, _, ro⟩ := s.live i _ hx
              rw [m] at m'; cases m'
              cases ro with
              | dctK q => exact .dctK (by rw [shut_at s hi hx m]; exact hH) (mapO_K (frz_R s k) hy q)
              | dctT q => exact .dctT (by rw [shut_at s hi hx m]; exact hH) (mapO_T (frz_R s k) hy q)
            · cases e
          · cases e
      · split at e
        · rename_i xs ys hy
          cases e
          cases r with
          | tup f zz q => exact .tup (sqT_mono (shut_ext (μ := μ)).f f) zz (mapO_R (frz_R s k) hy q)
        · cases e
      · split at e
        · rename_i xs ys hy
          cases e
          cases r with
          | lst f zz q => exact .lst ((shut_ext (μ := μ)).f _ _ f) zz (mapO_R (frz_R s k) hy q)
        · cases e
      · cases e
end
/-- how a def ends: its value shut (k deep), or as it is (keep) -/
def fin (keep : Bool) (k : Nat) (h : HP) (d : D) (h' : HP) : R D := match keep with
  | true => .ok d h'
  | false => if okOld h h' then (match frz h.length h' k d with
    | some d' => .ok d' (h'.take h.length)
    | none => .bad) else .bad
def finX (k : Nat) (h : HP) (c : Nat) (d : D) (h' : HP) : R D := if okOld h h' then (match frz h.length h' k d with
  | some d' => .exc c d' (h'.take h.length)
  | none => .bad) else .bad
def startE (n : Nat) (ds : List D) : Env' := ds.map some ++ List.replicate (n - ds.length) none
def runD (keep : Bool) (k : Nat) (n : Nat) (m : SM) : FSem := fun ds h => match m (startE n ds) h with
  | .ok (.ret d) h' => fin keep k h d h'
  | .ok (.nx _) h' => fin keep k h .non h'
  | .ok (.exc c d _) h' => finX k h c d h'
  | _ => .bad
section
variable {g : Gm} {F : Hp} {μ : List Addr} {G H : Hp} {h : HP}
theorem start_env {n : Nat} {ds : List D} {vs : List V} {N : List Str} (e : N.length = n) (r : Reps g.K F μ ds vs) : REnv g.K F μ (startE n ds) (L2.start N vs) := by
  unfold startE L2.start
  rw [e, ← r.length]
  refine ⟨by simp [r.length], fun i d hi => ?_⟩
  by_cases hl : i < ds.length
  · rw [List.getElem?_append_left (by simpa using hl), List.getElem?_map] at hi
    cases q : ds[i]? with
    | none => rw [q] at hi; cases hi
    | some d' =>
      rw [q] at hi
      cases hi
      obtain ⟨v, h1, h2⟩ := r.get q
      exact ⟨v, by rw [List.getElem?_append_left (by rw [List.length_map, ← r.length]; exact hl), List.getElem?_map, h1]; rfl, h2⟩
  · rw [List.getElem?_append_right (by simpa using hl)] at hi
    have := List.getElem?_eq_some_iff.mp hi
    obtain ⟨h1, h2⟩ := this
    rw [List.getElem_replicate] at h2
    cases h2
theorem take_pre {μ μ' : List Addr} (x : μ <+: μ') : μ'.take μ.length = μ := by
  obtain ⟨t, rfl⟩ := x
  simp
/-- the state behind the shutting, from the entry's -/
theorem shut_all {F' : Hp} {μ' : List Addr} {h' : HP} {H' : Hp} (s : SRel g.K F μ h G H) (x : Ext F μ F' μ') (s' : SRel g.K F' μ' h' G H') (ok : okOld h h') : SRel g.K (shutF F' μ' h' h.length H') μ (h'.take h.length) G H' ∧ Ext F μ (shutF F' μ' h' h.length H') μ := by
  have hl : μ'.take h.length = μ := by rw [← s.len]; exact take_pre x.m
  have s2 := s'.shut ok.1 fun i o hi e => by
    rcases ok.2 i o hi e with e2 | e2
    · obtain ⟨a, u, _, _, _, _, ro⟩ := s.live i o e2
      have := ro.nn
      rw [s.len] at this
      exact this
    · exact e2
  rw [hl] at s2
  exact ⟨s2, ⟨fun a o e => (shut_ext (μ := μ')).f a o (x.f a o e), List.prefix_refl μ⟩⟩
theorem fin_ok {keep : Bool} {k : Nat} {d : D} {v : V} {F' : Hp} {μ' : List Addr} {h' : HP} {H' : Hp} {W : WX} {Q : VK} (s : SRel g.K F μ h G H) (x : Ext F μ F' μ') (s' : SRel g.K F' μ' h' G H') (r : Rep g.K F' μ' d v) (p : post g (relD g) W F μ G [] Q (fin keep k h d h')) : Q v H' := by
  cases keep with
  | true => exact p F' μ' H' v x s' r
  | false =>
    have p : post g (relD g) W F μ G [] Q (if okOld h h' then (match frz h.length h' k d with
      | some d' => .ok d' (h'.take h.length)
      | none => .bad) else .bad) := p
    by_cases ok : okOld h h'
    · rw [if_pos ok] at p
      cases e : frz h.length h' k d with
      | none => rw [e] at p; exact p.elim
      | some d' =>
        rw [e] at p
        obtain ⟨s2, x2⟩ := shut_all s x s' ok
        have r2 := frz_R s' k d d' v e r
        have hl : μ'.take h.length = μ := by rw [← s.len]; exact take_pre x.m
        rw [hl] at r2
        exact p _ _ H' v x2 s2 r2
    · rw [if_neg ok] at p; exact p.elim
theorem finX_ok {k : Nat} {c : Nat} {d : D} {F' : Hp} {μ' : List Addr} {h' : HP} {W : WX} {Q : VK} {σ : L2.St} (s : SRel g.K F μ h G H) (x : Ext F μ F' μ') (hW : ∀ c d σ σ' H, W c d σ H → W c d σ' H) (p : post g (relD g) W F μ G [] Q (finX k h c d h')) : excP g W F' μ' G σ c d h' := by
  unfold finX at p
  intro F2 μ2 H2 dd v y s2 r e2
  by_cases ok : okOld h h'
  · rw [if_pos ok] at p
    cases e : frz h.length h' k d with
    | none => rw [e] at p; exact p.elim
    | some d' =>
      rw [e] at p
      obtain ⟨s3, x3⟩ := shut_all s (x.trans y) s2 ok
      have r3 := frz_R s2 k d d' v e r
      have hl : μ2.take h.length = μ := by rw [← s.len]; exact take_pre (x.trans y).m
      rw [hl] at r3
      have p : excP g W F μ G [] c d' (h'.take h.length) := p
      exact hW _ _ _ _ _ (p _ _ H2 dd v x3 s3 r3 ((shut_ext (μ := μ2)).f _ _ e2))
  · rw [if_neg ok] at p; exact p.elim
theorem runD_of {keep : Bool} {k : Nat} {N : List Str} {m : SM} {ds : List D} {vs : List V} {Q : VK} {E : XK} (s : SRel g.K F μ h G H) (r : Reps g.K F μ ds vs) (p : post g (relD g) (WXK E) F μ G [] Q (runD keep k N.length m ds h)) : tS g (WXK E) m { nx := fun _ H' => Q .non H', rt := Q } (L2.start N vs) H := by
  refine ⟨F, μ, h, G, startE N.length ds, s, start_env rfl r, ?_⟩
  unfold runD at p
  cases e : m (startE N.length ds) h with
  | bad => rw [e] at p; exact p.elim
  | exc c x h' => rw [e] at p; exact p.elim
  | ok f h' =>
    rw [e] at p
    cases f with
    | nx ρ => exact fun F' μ' H' σ' x s' en => fin_ok s x s' .non p
    | ret d => exact fun F' μ' H' v x s' rv => fin_ok s x s' rv p
    | brk ρ => exact p.elim
    | exc c d ρ => exact fun F' μ' σ' x en => finX_ok s x (fun _ _ _ _ _ z => z) p
end
/-! ## the program -/
structure DI where
  x : Str
  params : Arguments
  body : List Stmt
  sc : Scope
  N : List Str
  ps : List Str
  k : Nat
  keep : Bool
  opn : List Str
  ret : Bool
  sh : List Shp
structure Pgm where
  defs : List DI
  tb : List (Str × GE)
def ctxP (g : Gm) (P : Pgm) (run : Nat → FSem) (n : Nat) (d : DI) : Cc := ⟨g, run, n, d.N, d.sc, fun _ => true, P.tb, d.opn, d.ret⟩
def runS (g : Gm) (P : Pgm) (n : Nat) (r : Nat → FSem) : Nat → FSem := fun i => match P.defs[i]? with
  | none => fun _ _ => .bad
  | some d => (match cBody 400 (ctxP g P r n d) d.body with
    | none => fun _ _ => .bad
    | some m => runD d.keep d.k d.N.length m.m)
def runP (g : Gm) (P : Pgm) : Nat → (Nat → FSem)
  | 0 => fun _ _ _ => .bad
  | n + 1 => runS g P n (runP g P n)
/-- what the machine must hold -/
structure POk (g : Gm) (P : Pgm) (Pr : Program) (w : World) (mg : Str → Option Value) (base : Heap) (fA : Nat → Addr) (fD : Nat → FuncData) : Prop where
  fn : ∀ (i : Nat) (d : DI), P.defs[i]? = some d → FunD g.K d.x d.x d.params d.body d.sc [] [] (fA i) (fD i)
  sc : ∀ (i : Nat) (d : DI), P.defs[i]? = some d → FnScope d.N d.ps d.sc
  glo : ∀ x e, P.tb.lookup x = some e → (match e with
    | .con d => ∃ v u, mg x = some u ∧ RelV v u ∧ ∀ F μ, Rep g.K F μ d v
    | .bi => mg x = none
    | .fn i np sh => mg x = some (.ref (fA i)) ∧ ∃ d, P.defs[i]? = some d ∧ d.ps.length = np ∧ ∀ s ∈ sh, KB g.K (fD i) d.ps s.ks s.n s.ix)
theorem fn_all {g : Gm} {P : Pgm} {Pr : Program} {w : World} {mg : Str → Option Value} {base : Heap} {fA : Nat → Addr} {fD : Nat → FuncData} (ok : POk g P Pr w mg base fA fD) : ∀ (n i : Nat) (d : DI), P.defs[i]? = some d → FnOk Pr w g.K mg base (L2.CX Pr w) n (fA i) (fD i) d.ps (spOf g d.ps.length (runP g P n i))
  | 0, i, d, hd => ⟨fun vs H Q E h => h.1, fun A outer s H args us vs Q E _ _ _ _ h => by
      obtain ⟨_, F, μ, h', G, ds, _, _, q⟩ := h
      exact q.elim⟩
  | n + 1, i, d, hd => by
    have FD := ok.fn i d hd
    have S := ok.sc i d hd
    refine FD.ok S (fun vs H Q E h => h.1) fun cdv A outer s H vs Q E hr h => ?_
    obtain ⟨hl, F, μ, h', G, ds, s1, r, q⟩ := h
    have q : post g (relD g) (WXK E) F μ G [] Q (runS g P n (runP g P n) i ds h') := q
    unfold runS at q
    rw [hd] at q
    dsimp only at q
    cases e : cBody 400 (ctxP g P (runP g P n) n d) d.body with
    | none =>
      rw [e] at q
      exact q.elim
    | some m =>
      rw [e] at q
      dsimp only at q
      refine ⟨_, m.ok _ (WXK E) ⟨rfl, rfl, S.nd, rfl, rfl, rfl, takes_of rfl rfl rfl rfl, passes_of rfl, hr, fun x e he => ?_⟩, runD_of s1 r q⟩
      have := ok.glo x e he
      cases e with
      | con d => exact this
      | bi => exact this
      | fn j np sh =>
        obtain ⟨h1, d2, h2, h3, h4⟩ := this
        have FD2 := ok.fn j d2 h2
        exact ⟨fA j, fD j, d2.ps, h1, FD2.kp, h3, fn_all ok n j d2 h2, h4⟩
end Zs
end

/-! Fo -/
noncomputable section
namespace Zs
open PySem PySem.Spec L2
open PyProof.Rows hiding St

/-! ## the machine's own things -/
def all2 {α β : Type} (f : α → β → Bool) : List α → List β → Bool
  | [], [] => true
  | a :: r, b :: s => f a b && all2 f r s
  | _, _ => false
def repB (K : PySem.W.Frag) : Nat → D → Value → Bool
  | _, .non, .none => true
  | _, .bl b, .bool c => b == c
  | _, .int i, .int j _ => decide (i = j)
  | _, .str s, .str y _ => decide (strV s = y) && decide (s.length < 100000)
  | _, .ty t, .type m => decide (t.name = m)
  | n + 1, .tup ds, .ref a => (match K.lookup a with
    | some ⟨.type c, _, .seq its _, _⟩ => decide (c = "tuple") && decide (its.size ≤ sizeLine) && all2 (repB K n) ds its.toList
    | _ => false)
  | n + 1, .scr ds, .ref a => (match K.lookup a with
    | some ⟨.type c, none, .seq its _, _⟩ => decide (c = "list") && decide (its.size ≤ sizeLine) && all2 (repB K n) ds its.toList
    | _ => false)
  | _, _, _ => false
theorem all2_ok {K : PySem.W.Frag} {f : D → Value → Bool} (hf : ∀ d u, f d u = true → ∃ v, RelV v u ∧ ∀ F μ, Rep K F μ d v) : ∀ {ds : List D} {us : List Value}, all2 f ds us = true → ∃ vs, Vals vs us ∧ ∀ F μ, Reps K F μ ds vs
  | [], [], _ => ⟨[], .nil, fun _ _ => .nil⟩
  | [], _ :: _, h => by cases h
  | _ :: _, [], h => by cases h
  | d :: ds, u :: us, h => by
    have h' : (f d u && all2 f ds us) = true := h
    rw [Bool.and_eq_true] at h'
    obtain ⟨v, h1, h2⟩ := hf d u h'.1
    obtain ⟨vs, h3, h4⟩ := all2_ok hf h'.2
    exact ⟨v :: vs, .cons h1 h3, fun F μ => .cons (h2 F μ) (h4 F μ)⟩
theorem repB_ok {K : PySem.W.Frag} : ∀ (n : Nat) (d : D) (u : Value), repB K n d u = true → ∃ v, RelV v u ∧ ∀ F μ, Rep K F μ d v := by
  intro n
  induction n with
  | zero =>
    intro d u h
    unfold repB at h
    split at h
    · exact ⟨.non, rfl, fun _ _ => .non⟩
    · cases (eq_of_beq h); exact ⟨.bl _, rfl, fun _ _ => .bl _⟩
    · have := of_decide_eq_true h; subst this; exact ⟨.int _, ⟨_, rfl⟩, fun _ _ => .int _⟩
    · rw [Bool.and_eq_true, decide_eq_true_eq, decide_eq_true_eq] at h
      obtain ⟨rfl, h2⟩ := h
      exact ⟨.str _, ⟨_, rfl⟩, fun _ _ => .str _ (small_line h2)⟩
    · have := of_decide_eq_true h; subst this; exact ⟨.ty _, rfl, fun _ _ => .ty _⟩
    · rename_i e; exact absurd e (by omega)
    · rename_i e; exact absurd e (by omega)
    · cases h
  | succ n ih =>
    intro d u h
    unfold repB at h
    split at h
    · exact ⟨.non, rfl, fun _ _ => .non⟩
    · cases (eq_of_beq h); exact ⟨.bl _, rfl, fun _ _ => .bl _⟩
    · have := of_decide_eq_true h; subst this; exact ⟨.int _, ⟨_, rfl⟩, fun _ _ => .int _⟩
    · rw [Bool.and_eq_true, decide_eq_true_eq, decide_eq_true_eq] at h
      obtain ⟨rfl, h2⟩ := h
      exact ⟨.str _, ⟨_, rfl⟩, fun _ _ => .str _ (small_line h2)⟩
    · have := of_decide_eq_true h; subst this; exact ⟨.ty _, rfl, fun _ _ => .ty _⟩
    · rename_i e
      cases e
      split at h
      · rename_i hk
        rw [Bool.and_eq_true, Bool.and_eq_true, decide_eq_true_eq, decide_eq_true_eq] at h
        obtain ⟨⟨h1, h2⟩, h3⟩ := h
        obtain ⟨vs, hv, hr⟩ := all2_ok (fun d u => ih d u) h3
        refine ⟨.ref _, rfl, fun F μ => .tup (.inr ⟨_, _, _, hk, by rw [h1], rfl, h2, hv⟩) ?_ (hr F μ)⟩
        rw [hv.length, Array.length_toList]; exact h2
      · cases h
    · rename_i e
      cases e
      split at h
      · rename_i hk
        rw [Bool.and_eq_true, Bool.and_eq_true, decide_eq_true_eq, decide_eq_true_eq] at h
        obtain ⟨⟨h1, h2⟩, h3⟩ := h
        obtain ⟨vs, hv, hr⟩ := all2_ok (fun d u => ih d u) h3
        refine ⟨.ref _, rfl, fun F μ => .scr (.inr ⟨_, _, _, hk, by rw [h1], rfl, rfl, h2, hv⟩) ?_ (hr F μ)⟩
        rw [hv.length, Array.length_toList]; exact h2
      · cases h
    · cases h
/-- the table's names as the machine has them -/
def geB (K : PySem.W.Frag) (x : Str) : GE → Bool
  | .bi => He.eqO (PySem.W.nsIn K mainGlobals x) (some none)
  | .con d => (match PySem.W.nsIn K mainGlobals x with
    | some (some u) => repB K 20 d u
    | _ => false)
  | .fn _ _ _ => He.eqO (PySem.W.nsIn K mainGlobals x) (some (some (.ref (He.ga K x))))
def tbB (tb : List (Str × GE)) (K : PySem.W.Frag) : Bool := tb.all fun p => geB K p.1 p.2
/-- .. as the defs have them -/
def geS (ds : List DI) (x : Str) : GE → Bool
  | .fn i np sh => (match ds[i]? with
    | some d => decide (d.x = x) && decide (d.ps.length = np) && decide (sh = d.sh)
    | none => false)
  | _ => true
def tbS (P : Pgm) : Bool := P.tb.all fun p => geS P.defs p.1 p.2
def scB (d : DI) : Bool := decide (d.sc.kind = .function) && (!d.sc.isCoroutine) && (!d.sc.isGenerator) && decide d.N.Nodup && decide (d.N.take d.ps.length = d.ps) && d.ps.all (fun x => isLoc (d.sc.names.lookup x)) && d.sc.names.all (fun y => !decide (y.2 = .free))
theorem scB_ok {d : DI} (h : scB d = true) : FnScope d.N d.ps d.sc := by
  unfold scB at h
  simp only [Bool.and_eq_true, decide_eq_true_eq, Bool.not_eq_true', List.all_eq_true] at h
  obtain ⟨⟨⟨⟨⟨⟨h1, h2⟩, h3⟩, h4⟩, h5⟩, h6⟩, h7⟩ := h
  exact ⟨h1, h2, h3, h4, h5, fun x hx => isLoc_of (h6 x hx), fun y hy => by have := h7 y hy; simpa using this⟩
def DI.dd (d : DI) : He.DefD := ⟨(d.x, none), d.x, d.x, d.params, d.body, d.sc, [], []⟩
/-- how the calls bind -/
def KbOk (d : DI) : Prop := ∀ (K : PySem.W.Frag) (f : Addr) (fd : FuncData), FunD K d.x d.x d.params d.body d.sc [] [] f fd → ∀ s ∈ d.sh, KB K fd d.ps s.ks s.n s.ix
theorem kb_of {d : DI} (h : ∀ s ∈ d.sh, ∀ (kV doc pm : Value) (an : Option Addr) (cdv ct : Value) (us ws : List Value), us.length = s.n → ws.length = s.ks.length →
    bindArgs (PySem.W.fnOf d.x d.x d.params d.body d.sc .none kV doc pm an cdv ct) ⟨us, s.ks.zip ws⟩ = pure (d.ps.zip (pickL s.ix (us ++ ws)))) : KbOk d := fun K f fd F s hs => ⟨fun s' us ws h1 h2 => by
  obtain ⟨oc, od, dV, kV, doc, pm, an, cdv, ct, osl, rfl, lk, hcd, hD, hK⟩ := F.ex
  rcases hD with ⟨_, rfl⟩ | ⟨e, _⟩
  · exact .of_eq (h s hs kV doc pm an cdv ct us ws h1 h2)
  · exact absurd rfl e⟩
theorem lookup_memT {x : Str} {e : GE} : ∀ {l : List (Str × GE)}, l.lookup x = some e → (x, e) ∈ l
  | [], h => by cases h
  | (b, u) :: r, h => by
    have h2 : (match x == b with | true => some u | false => r.lookup x) = some e := h
    cases q : (x == b) with
    | true =>
      rw [q] at h2
      have e' : u = e := Option.some.inj h2
      rw [beq_iff_eq.mp q, e']
      exact List.mem_cons_self
    | false =>
      rw [q] at h2
      exact List.mem_cons_of_mem _ (lookup_memT h2)
def fAt (P : Pgm) (K : PySem.W.Frag) (i : Nat) : Addr := match P.defs[i]? with
  | some d => He.fAd K (d.x, none)
  | none => 0
theorem fAt_eq {P : Pgm} {K : PySem.W.Frag} {i : Nat} {d : DI} (h : P.defs[i]? = some d) : fAt P K i = He.fAd K (d.x, none) := by
  unfold fAt; rw [h]
theorem pok_of {P : Pgm} {Pr : Program} {w : World} {K : PySem.W.Frag} {h base : Heap} {mg : Str → Option Value} (KX : K.In h) (G : h.Ns mainGlobals mg) (c : He.SaysD [] (P.defs.map DI.dd) K) (t : tbB P.tb K = true) (s1 : tbS P = true) (s2 : P.defs.all scB = true) (s3 : ∀ d ∈ P.defs, KbOk d) (cA : Nat → Addr) :
    ∃ fD : Nat → FuncData, POk ⟨K, cA⟩ P Pr w mg base (fAt P K) fD := by
  have hf : ∀ (i : Nat) (d : DI), P.defs[i]? = some d → ∃ fd, FunD K d.x d.x d.params d.body d.sc [] [] (He.fAd K (d.x, none)) fd := fun i d hd => by
    have hd' : (P.defs.map DI.dd)[i]? = some d.dd := by rw [List.getElem?_map, hd]; rfl
    exact c.def_ i hd'
  have hex : ∀ i : Nat, ∃ fd, ∀ d : DI, P.defs[i]? = some d → FunD K d.x d.x d.params d.body d.sc [] [] (He.fAd K (d.x, none)) fd := fun i => by
    cases q : P.defs[i]? with
    | none => exact ⟨default, fun d hd => by cases hd⟩
    | some d =>
      obtain ⟨fd, F⟩ := hf i d q
      exact ⟨fd, fun d' hd => by cases hd; exact F⟩
  obtain ⟨fD, hfD⟩ : ∃ fD : Nat → FuncData, ∀ (i : Nat) (d : DI), P.defs[i]? = some d → FunD K d.x d.x d.params d.body d.sc [] [] (He.fAd K (d.x, none)) (fD i) := ⟨fun i => Classical.choose (hex i), fun i => Classical.choose_spec (hex i)⟩
  refine ⟨fD, fun i d hd => ?_, fun i d hd => scB_ok (List.all_eq_true.mp s2 d (List.mem_of_getElem? hd)), fun x e he => ?_⟩
  · rw [fAt_eq hd]
    exact hfD i d hd
  · have hm := lookup_memT he
    have ht := List.all_eq_true.mp t _ hm
    have hs := List.all_eq_true.mp s1 _ hm
    cases e with
    | bi => exact PySem.W.mg_none_of KX G (He.eqO_ok ht)
    | con d =>
      have ht : (match PySem.W.nsIn K mainGlobals x with
        | some (some u) => repB K 20 d u
        | _ => false) = true := ht
      cases q : PySem.W.nsIn K mainGlobals x with
      | none => rw [q] at ht; cases ht
      | some o =>
        rw [q] at ht
        cases o with
        | none => cases ht
        | some u =>
          obtain ⟨v, h1, h2⟩ := repB_ok _ _ _ ht
          exact ⟨v, u, PySem.W.mg_of KX G q, h1, h2⟩
    | fn i np sh =>
      have hs : (match P.defs[i]? with
        | some d => decide (d.x = x) && decide (d.ps.length = np) && decide (sh = d.sh)
        | none => false) = true := hs
      cases q : P.defs[i]? with
      | none => rw [q] at hs; cases hs
      | some d =>
        rw [q] at hs
        simp only [Bool.and_eq_true, decide_eq_true_eq] at hs
        obtain ⟨⟨rfl, h2⟩, rfl⟩ := hs
        refine ⟨?_, d, q, h2, s3 d (List.mem_of_getElem? q) K _ _ (hfD i d q)⟩
        rw [fAt_eq q]
        exact PySem.W.mg_of KX G (He.eqO_ok ht)
/-- some exception that was wished for -/
def CXE : CXT := fun _ _ _ E _ _ => ∃ c d H, E c d H
theorem fn_cxe {P : Program} {w : World} {K : PySem.W.Frag} {mg : Str → Option Value} {base : Heap} {k : Nat} {f : Addr} {fd : FuncData} {ps : List Str} {sp : Sp} (F : FnOk P w K mg base (L2.CX P w) k f fd ps sp) : FnOk P w K mg base CXE k f fd ps sp :=
  ⟨F.len, fun A outer s H args us vs Q E hr he hb hv hs => codeAny_mono (F.run A outer s H args us vs Q E hr he hb hv hs) fun r s' h => by
    cases r with
    | error e =>
      obtain ⟨_, _, H', c, d, _, _, _, _, _, _, _, z⟩ := h
      exact ⟨c, d, H', z⟩
    | ok fl => cases fl <;> exact h⟩
/-- the law's def, at its entry -/
theorem law_start {g : Gm} {f : FSem} {H : Hp} {a : Addr} {ns : List Int} (hz : ns.length ≤ sizeLine) (hS : SqL g.K H a (ns.map V.int)) (e : ∃ h', f [.scr (ns.map D.int)] [] = .ok (.bl true) h') : spOf g 1 f [.ref a] H (fun v _ => v = .bl true) fun _ _ _ => False := by
  obtain ⟨h', e⟩ := e
  refine ⟨rfl, H, [], [], (fun _ => none), [.scr (ns.map D.int)], ⟨fun _ _ h => h, rfl, fun i o h => by simp at h, fun i j o o' a h => by simp at h, fun _ _ h => by cases h⟩, .cons (.scr hS (by rw [List.length_map]; exact hz) ?_) .nil, ?_⟩
  · clear hS e hz
    induction ns with
    | nil => exact .nil
    | cons n ns ih => exact .cons (.int n) ih
  · rw [e]
    intro F' μ' H' v x s rv
    cases rv
    rfl
end Zs
end

/-! Fp -/
noncomputable section
namespace Zs
open PySem PySem.Spec L2
open PyProof.Rows hiding St
open Classical

/-! ## running by hand -/
/-- it ends with a value, of which Q -/
def Wp {α : Type} (r : R α) (Q : α → HP → Prop) : Prop := match r with
  | .ok a h => Q a h
  | _ => False
theorem wp_ok {α : Type} {a : α} {h : HP} {Q : α → HP → Prop} : Wp (.ok a h) Q ↔ Q a h := Iff.rfl
theorem wp_bad {α : Type} {Q : α → HP → Prop} : Wp (.bad : R α) Q ↔ False := Iff.rfl
theorem wp_bnd {α β : Type} {r : R α} {f : α → HP → R β} {Q : β → HP → Prop} : Wp (r.bnd f) Q ↔ Wp r fun a h => Wp (f a h) Q := by cases r <;> exact Iff.rfl
theorem Wp.imp {α : Type} {r : R α} {Q Q' : α → HP → Prop} (h : Wp r Q) (i : ∀ a h', Q a h' → Q' a h') : Wp r Q' := by
  cases r with
  | ok a h' => exact i a h' h
  | _ => exact h
theorem Wp.ex {α : Type} {r : R α} {Q : α → HP → Prop} (h : Wp r Q) : ∃ a h', r = .ok a h' ∧ Q a h' := by
  cases r with
  | ok a h' => exact ⟨a, h', rfl, h⟩
  | _ => exact h.elim
theorem Wp.of {α : Type} {r : R α} {Q : α → HP → Prop} {a : α} {h : HP} (e : r = .ok a h) (q : Q a h) : Wp r Q := by rw [e]; exact q
/-- expressions -/
theorem wp_lift {α : Type} {ρ : Env'} {r : R α} {f : α → HP → R Fl} {Q : Fl → HP → Prop} (h : Wp r fun a h => Wp (f a h) Q) : Wp (lift ρ r f) Q := by
  cases r with
  | ok a h' => exact h
  | _ => exact h.elim
theorem lift_ok {α : Type} {ρ : Env'} {a : α} {h : HP} {f : α → HP → R Fl} : lift ρ (.ok a h) f = f a h := rfl
theorem bnd_ok {α β : Type} {a : α} {h : HP} {f : α → HP → R β} : (R.ok a h).bnd f = f a h := rfl
theorem wp_seq {a b : SM} {ρ : Env'} {h : HP} {Q : Fl → HP → Prop} (w : Wp (a ρ h) fun f h1 => match f with
    | .nx ρ1 => Wp (b ρ1 h1) Q
    | f => Q f h1) : Wp (sSq a b ρ h) Q := by
  show Wp (match a ρ h with
    | .ok (.nx ρ1) h1 => b ρ1 h1
    | r => r) Q
  cases e : a ρ h with
  | ok f h1 =>
    rw [e] at w
    cases f with
    | nx ρ1 => exact w
    | brk ρ1 => exact w
    | ret d => exact w
    | exc c v ρ1 => exact w
  | exc c v h1 => rw [e] at w; exact w.elim
  | bad => rw [e] at w; exact w.elim
theorem seq_ok {a b : SM} {ρ ρ1 : Env'} {h h1 : HP} (e : a ρ h = .ok (.nx ρ1) h1) : sSq a b ρ h = b ρ1 h1 := by
  unfold sSq; rw [e]
theorem seq_ret {a b : SM} {ρ : Env'} {d : D} {h h1 : HP} (e : a ρ h = .ok (.ret d) h1) : sSq a b ρ h = .ok (.ret d) h1 := by
  unfold sSq; rw [e]
/-! ### ends -/
theorem okOld_refl {h : HP} : okOld h h := ⟨Nat.le_refl _, fun _ _ _ e => .inl e⟩
theorem frz_flat {n k : Nat} {h : HP} {d : D} (e : nn n d = true) : frz n h k d = some d := by
  cases k <;> (unfold frz; rw [if_pos e])
theorem fin_flat {h h' : HP} {d : D} {k : Nat} (o : okOld h h') (e : nn h.length d = true) : fin false k h d h' = .ok d (h'.take h.length) := by
  show (if okOld h h' then (match frz h.length h' k d with
    | some d' => R.ok d' (h'.take h.length)
    | none => .bad) else .bad) = _
  rw [if_pos o, frz_flat e]
theorem fin_same {h : HP} {d : D} {k : Nat} (e : nn h.length d = true) : fin false k h d h = .ok d h := by
  rw [fin_flat okOld_refl e, List.take_length]
theorem runD_ret {k n : Nat} {m : SM} {ds : List D} {h h' : HP} {d : D} (e : m (startE n ds) h = .ok (.ret d) h') (o : okOld h h') (f : nn h.length d = true) : runD false k n m ds h = .ok d (h'.take h.length) := by
  unfold runD; rw [e]; exact fin_flat o f
theorem runD_same {k n : Nat} {m : SM} {ds : List D} {h : HP} {d : D} (e : m (startE n ds) h = .ok (.ret d) h) (f : nn h.length d = true) : runD false k n m ds h = .ok d h := by
  unfold runD; rw [e]; exact fin_same f
theorem startE_at {n : Nat} {ds : List D} {i : Nat} {d : D} (e : ds[i]? = some d) : (startE n ds)[i]? = some (some d) := by
  unfold startE
  rw [List.getElem?_append_left (by simpa using (List.getElem?_eq_some_iff.mp e).1), List.getElem?_map, e]; rfl
theorem eV_at {ρ : Env'} {i : Nat} {d : D} {h : HP} (e : ρ[i]? = some (some d)) : eV i ρ h = .ok d h := by
  unfold eV; rw [e]
/-! ### [e for x in xs] -/
theorem lcM_map {t : GM} {c : TM} {e : EM} {chk : HP → Prop} {ρ : Env'} {h : HP} (p : D → Bool) (f : D → D) (hc : chk h) : ∀ (xs acc : List D), (∀ d ∈ xs, ∃ ρ1, t d ρ h = .ok ρ1 h ∧ c ρ1 h = .ok (p d) h ∧ (p d = true → e ρ1 h = .ok (f d) h)) → acc.length + xs.length ≤ sizeLine →
    lcM t c e chk ρ xs acc h = .ok (acc ++ (xs.filter p).map f) h
  | [], acc, _, _ => by
    unfold lcM; rw [if_pos hc]; simp
  | d :: r, acc, hx, hz => by
    obtain ⟨ρ1, h1, h2, h3⟩ := hx d List.mem_cons_self
    have hr : ∀ d' ∈ r, ∃ ρ1, t d' ρ h = .ok ρ1 h ∧ c ρ1 h = .ok (p d') h ∧ (p d' = true → e ρ1 h = .ok (f d') h) := fun d' hd => hx d' (List.mem_cons_of_mem _ hd)
    rw [List.length_cons] at hz
    unfold lcM
    rw [if_pos hc, h1]
    try dsimp only
    rw [h2]
    try dsimp only
    cases q : p d with
    | true =>
      simp only []
      rw [h3 q]
      try dsimp only
      rw [if_pos (by omega), lcM_map p f hc r (acc ++ [f d]) hr (by rw [List.length_append, List.length_singleton]; omega), List.filter_cons_of_pos q, List.map_cons, List.append_assoc]
      rfl
    | false =>
      simp only []
      rw [lcM_map p f hc r acc hr (by omega), List.filter_cons_of_neg (by rw [q]; exact Bool.noConfusion)]
/-- the same without a test, of a list that nobody writes -/
theorem eLc_map {it : IM} {t : GM} {e : EM} {vs : List Nat} {ρ : Env'} {h : HP} {m : Itm} (f : D → D) (hi : it ρ h = .ok m h) (hc : m.chk h) (hx : ∀ d ∈ m.xs, ∃ ρ1, t d (wipeE ρ vs) h = .ok ρ1 h ∧ e ρ1 h = .ok (f d) h) (hz : m.xs.length ≤ sizeLine) :
    eLc false it t tYe e vs ρ h = .ok (.lst (m.xs.map f)) h := by
  unfold eLc
  rw [hi, bnd_ok, lcM_map (fun _ => true) f hc m.xs [] (fun d hd => by
    obtain ⟨ρ1, h1, h2⟩ := hx d hd
    exact ⟨ρ1, h1, rfl, fun _ => h2⟩) (by simpa using hz), bnd_ok, List.filter_eq_self.mpr fun _ _ => rfl]
  rfl
/-- with what changes in the heap: each turn keeps I -/
theorem lcM_inv {t : GM} {e : EM} {chk : HP → Prop} {ρ : Env'} (I : Nat → HP → Prop) (P : D → Prop) (hc : ∀ k h, I k h → chk h) (M : Nat) : ∀ (xs acc : List D) (k : Nat) (h : HP), k + xs.length ≤ M → I k h → (∀ d ∈ xs, ∀ k h, k < M → I k h → Wp (t d ρ h) fun ρ1 h1 => Wp (e ρ1 h1) fun y h2 => P y ∧ I (k + 1) h2) → (∀ y ∈ acc, P y) → acc.length + xs.length ≤ sizeLine →
    Wp (lcM t tYe e chk ρ xs acc h) fun ys h' => ys.length = acc.length + xs.length ∧ (∀ y ∈ ys, P y) ∧ I (k + xs.length) h'
  | [], acc, k, h, _, i, _, ha, _ => by
    unfold lcM; rw [if_pos (hc k h i)]; exact ⟨rfl, ha, i⟩
  | d :: r, acc, k, h, hM, i, hx, ha, hz => by
    rw [List.length_cons] at hz hM
    unfold lcM
    rw [if_pos (hc k h i)]
    obtain ⟨ρ1, h1, e1, w1⟩ := (hx d List.mem_cons_self k h (by omega) i).ex
    obtain ⟨y, h2, e2, py, i2⟩ := w1.ex
    rw [e1]
    dsimp only
    show Wp (match e ρ1 h1 with
      | .ok y h3 => if acc.length < sizeLine then lcM t tYe e chk ρ r (acc ++ [y]) h3 else .bad
      | _ => .bad) _
    rw [e2]
    dsimp only
    rw [if_pos (by omega)]
    refine (lcM_inv I P hc M r (acc ++ [y]) (k + 1) h2 (by omega) i2 (fun d hd => hx d (List.mem_cons_of_mem _ hd)) (fun z hz => (List.mem_append.mp hz).elim (ha z) fun q => by rw [List.mem_singleton] at q; rw [q]; exact py) (by rw [List.length_append, List.length_singleton]; omega)).imp fun ys h' ⟨q1, q2, q3⟩ => ⟨by rw [q1, List.length_append, List.length_singleton, List.length_cons]; omega, q2, ?_⟩
    rw [List.length_cons]
    have ek : k + 1 + r.length = k + (r.length + 1) := by omega
    rw [← ek]; exact q3
/-- a for, each turn keeping I -/
theorem forM_inv {t : GM} {b : SM} {chk : HP → Prop} (I : Nat → Env' → HP → Prop) (Q : Fl → HP → Prop) (hc : ∀ k ρ h, I k ρ h → chk h) (M : Nat) : ∀ (xs : List D) (k : Nat) (ρ : Env') (h : HP), k + xs.length ≤ M → I k ρ h → (∀ d ∈ xs, ∀ k ρ h, k < M → I k ρ h → Wp (t d ρ h) fun ρ1 h1 => Wp (b ρ1 h1) fun f h2 => match f with
      | .nx ρ2 => I (k + 1) ρ2 h2
      | .brk ρ2 => Q (.nx ρ2) h2
      | f => Q f h2) → (∀ ρ h, I (k + xs.length) ρ h → Q (.nx ρ) h) → Wp (forM t b chk xs ρ h) Q
  | [], k, ρ, h, _, i, _, hq => by
    unfold forM; rw [if_pos (hc k ρ h i)]; exact hq ρ h i
  | d :: r, k, ρ, h, hM, i, hx, hq => by
    rw [List.length_cons] at hM
    unfold forM
    rw [if_pos (hc k ρ h i)]
    obtain ⟨ρ1, h1, e1, w1⟩ := (hx d List.mem_cons_self k ρ h (by omega) i).ex
    obtain ⟨f, h2, e2, w2⟩ := w1.ex
    rw [e1]
    dsimp only
    rw [e2]
    cases f with
    | nx ρ2 => exact forM_inv I Q hc M r (k + 1) ρ2 h2 (by omega) w2 (fun d hd => hx d (List.mem_cons_of_mem _ hd)) fun ρ h q => hq ρ h (by
        have ek : k + 1 + r.length = k + (d :: r).length := by rw [List.length_cons]; omega
        rw [← ek]; exact q)
    | brk ρ2 => exact w2
    | ret v => exact w2
    | exc c v ρ2 => exact w2
/-! ### pots -/
/-- the pot at j: at most c taken -/
def Pot (j c : Nat) (h : HP) : Prop := ∃ own mix cnt : Int, h[j]? = some (some (.lst [.int own, .int mix, .int cnt])) ∧ 0 ≤ own ∧ own < 10 ^ 300 ∧ 0 ≤ mix ∧ mix < 2 ^ 61 ∧ 0 ≤ cnt ∧ cnt ≤ c
/-- all but j as before -/
def But (j : Nat) (h h' : HP) : Prop := h'.length = h.length ∧ ∀ i, i ≠ j → h'[i]? = h[i]?
theorem But.refl {j : Nat} {h : HP} : But j h h := ⟨rfl, fun _ _ => rfl⟩
theorem But.trans {j : Nat} {h h1 h2 : HP} (a : But j h h1) (b : But j h1 h2) : But j h h2 := ⟨b.1.trans a.1, fun i z => (b.2 i z).trans (a.2 i z)⟩
theorem But.set {j : Nat} {h : HP} {o : Option O} : But j h (h.set j o) := ⟨by simp, fun i z => by rw [List.getElem?_set_ne (Ne.symm z)]⟩
theorem Pot.mono {j c c' : Nat} {h : HP} (p : Pot j c h) (l : c ≤ c') : Pot j c' h := by
  obtain ⟨own, mix, cnt, h1, h2, h3, h4, h5, h6, h7⟩ := p
  exact ⟨own, mix, cnt, h1, h2, h3, h4, h5, h6, by omega⟩
theorem Pot.at_ {j c : Nat} {h h' : HP} (p : Pot j c h) (e : h'[j]? = h[j]?) : Pot j c h' := by
  obtain ⟨own, mix, cnt, h1, h2⟩ := p
  exact ⟨own, mix, cnt, e.trans h1, h2⟩
theorem Pot.lt {j c : Nat} {h : HP} (p : Pot j c h) : j < h.length := by
  obtain ⟨own, mix, cnt, h1, h2⟩ := p
  exact (List.getElem?_eq_some_iff.mp h1).1
/-- the young forgotten, the pot moved -/
theorem But.old {j c : Nat} {h h' : HP} (b : But j h h') (p : Pot j c h') : okOld h h' := ⟨by rw [b.1]; exact Nat.le_refl _, fun i o hi e => by
  by_cases z : i = j
  · subst z
    obtain ⟨own, mix, cnt, h1, _⟩ := p
    rw [h1] at e; cases e
    exact .inr rfl
  · rw [b.2 i z] at e; exact .inl e⟩
theorem But.take {j : Nat} {h h' : HP} (b : But j h h') : h'.take h.length = h' := by rw [← b.1, List.take_length]
/-! ### the words, as simp reads them -/
section
variable {ρ : Env'} {h : HP}
@[simp] theorem w_ok {α β : Type} {a : α} {f : α → HP → R β} : (R.ok a h).bnd f = f a h := rfl
@[simp] theorem w_bad {α β : Type} {f : α → HP → R β} : (R.bad : R α).bnd f = .bad := rfl
@[simp] theorem w_lift {α : Type} {a : α} {f : α → HP → R Fl} : lift ρ (.ok a h) f = f a h := rfl
@[simp] theorem w_eC {d : D} : eC d ρ h = .ok d h := rfl
@[simp] theorem w_eV {i : Nat} : eV i ρ h = match ρ[i]? with
  | some (some d) => .ok d h
  | _ => .bad := rfl
@[simp] theorem w_e1 {f : D → HP → R D} {a : EM} : e1 f a ρ h = (a ρ h).bnd f := rfl
@[simp] theorem w_e2 {f : D → D → HP → R D} {a b : EM} : e2 f a b ρ h = (a ρ h).bnd fun x h1 => (b ρ h1).bnd fun y h2 => f x y h2 := rfl
@[simp] theorem w_aN : aN ρ h = .ok [] h := rfl
@[simp] theorem w_aC {a : EM} {r : AM} : aC a r ρ h = (a ρ h).bnd fun x h1 => (r ρ h1).bnd fun xs h2 => .ok (x :: xs) h2 := rfl
@[simp] theorem w_eA {f : List D → HP → R D} {a : AM} : eA f a ρ h = (a ρ h).bnd f := rfl
@[simp] theorem w_asB {b : Bool} : asB (.bl b) h = .ok b h := rfl
@[simp] theorem w_tV {a : EM} : tV a ρ h = (a ρ h).bnd asB := rfl
@[simp] theorem w_tN {a : TM} : tN a ρ h = (a ρ h).bnd fun b h1 => .ok (!b) h1 := rfl
@[simp] theorem w_tAn {a b : TM} : tAn a b ρ h = (a ρ h).bnd fun c h1 => bif c then b ρ h1 else .ok false h1 := rfl
@[simp] theorem w_tOr {a b : TM} : tOr' a b ρ h = (a ρ h).bnd fun c h1 => bif c then .ok true h1 else b ρ h1 := rfl
@[simp] theorem w_eIf {t : TM} {a b : EM} : eIf t a b ρ h = (t ρ h).bnd fun c h1 => bif c then a ρ h1 else b ρ h1 := rfl
@[simp] theorem w_eAn {a b : EM} : eAn a b ρ h = (a ρ h).bnd fun x h1 => (asB x h1).bnd fun c h2 => bif c then b ρ h2 else .ok (.bl false) h2 := rfl
@[simp] theorem w_eOr {a b : EM} : eOr a b ρ h = (a ρ h).bnd fun x h1 => (asB x h1).bnd fun c h2 => bif c then .ok (.bl true) h2 else b ρ h2 := rfl
@[simp] theorem w_eNo {a : EM} : eNo a ρ h = (a ρ h).bnd fun x h1 => (asB x h1).bnd fun c h2 => .ok (.bl (!c)) h2 := rfl
@[simp] theorem w_e2c {f f' : D → D → HP → R D} {a b c : EM} : e2c f f' a b c ρ h = (a ρ h).bnd fun x h1 => (b ρ h1).bnd fun y h2 => (f x y h2).bnd fun z h3 => (asB z h3).bnd fun k h4 =>
  bif k then (c ρ h4).bnd fun w h5 => f' y w h5 else .ok (.bl false) h4 := rfl
@[simp] theorem w_eCl {f : FSem} {np n m : Nat} {ix : List Nat} {a b : AM} : eCl f np n m ix a b ρ h = (a ρ h).bnd fun xs h1 => (b ρ h1).bnd fun zs h2 =>
  if xs.length = n ∧ zs.length = m ∧ (pickL ix (xs ++ zs)).length = np then f (pickL ix (xs ++ zs)) h2 else .bad := rfl
@[simp] theorem w_sNx : sNx ρ h = .ok (.nx ρ) h := rfl
@[simp] theorem w_sSq {a b : SM} : sSq a b ρ h = match a ρ h with
  | .ok (.nx ρ1) h1 => b ρ1 h1
  | r => r := rfl
@[simp] theorem w_sEx {a : EM} : sEx a ρ h = lift ρ (a ρ h) fun _ h1 => .ok (.nx ρ) h1 := rfl
@[simp] theorem w_sRe {a : EM} : sRe a ρ h = lift ρ (a ρ h) fun d h1 => .ok (.ret d) h1 := rfl
@[simp] theorem w_sIf {t : TM} {a b : SM} : sIf t a b ρ h = lift ρ (t ρ h) fun c h1 => bif c then a ρ h1 else b ρ h1 := rfl
@[simp] theorem w_sAs {a : EM} {t : GM} : sAs a t ρ h = lift ρ (a ρ h) fun d h1 => match t d ρ h1 with
  | .ok ρ1 h2 => .ok (.nx ρ1) h2
  | _ => .bad := rfl
@[simp] theorem w_gN {i : Nat} {d : D} : gN i d ρ h = .ok (ρ.set i (some d)) h := rfl
@[simp] theorem w_tYe : tYe ρ h = .ok true h := rfl
@[simp] theorem w_pick0 {α : Type} {l : List α} : pickL [] l = [] := rfl
@[simp] theorem w_pickC {α : Type} {i : Nat} {ix : List Nat} {l : List α} : pickL (i :: ix) l = match l[i]? with
  | some x => x :: pickL ix l
  | none => pickL ix l := by
  unfold pickL
  rw [List.filterMap_cons]
  cases l[i]? <;> rfl
@[simp] theorem w_lt {i j : Int} : bLt (.int i) (.int j) h = .ok (.bl (decide (i < j))) h := rfl
@[simp] theorem w_le {i j : Int} : bLe (.int i) (.int j) h = .ok (.bl (decide (i ≤ j))) h := rfl
@[simp] theorem w_gt {i j : Int} : bGt (.int i) (.int j) h = .ok (.bl (decide (j < i))) h := rfl
@[simp] theorem w_ge {i j : Int} : bGe (.int i) (.int j) h = .ok (.bl (decide (j ≤ i))) h := rfl
@[simp] theorem w_addI {o : Bool} {i j : Int} : bAdd o (.int i) (.int j) h = .ok (.int (i + j)) h := rfl
@[simp] theorem w_bif {α : Type} {b : Bool} {x y : α} : (bif b then R.ok x h else R.ok y h) = .ok (bif b then x else y) h := by cases b <;> rfl
@[simp] theorem w_bifD {b x y : Bool} : (bif b then D.bl x else D.bl y) = .bl (bif b then x else y) := by cases b <;> rfl
@[simp] theorem w_bifI {b : Bool} {x y : Int} : (bif b then D.int x else D.int y) = .int (bif b then x else y) := by cases b <;> rfl
@[simp] theorem w_inS {neg : Bool} {c : Nat} {s : List Nat} : bIn neg (.str [c]) (.str s) h = .ok (.bl (xor neg (decide (c ∈ s)))) h := rfl
@[simp] theorem w_lenS {s : List Nat} : fLen [.str s] h = .ok (.int s.length) h := rfl
@[simp] theorem w_lenT {s : List D} : fLen [.tup s] h = .ok (.int s.length) h := rfl
@[simp] theorem w_lenL {s : List D} : fLen [.lst s] h = .ok (.int s.length) h := rfl
@[simp] theorem w_subI {i j : Int} : bSub (.int i) (.int j) h = .ok (.int (i - j)) h := by
  show (if CTrue i j then R.ok (D.int (i - j)) h else .bad) = _
  rw [if_pos (show CTrue i j from trivial)]
@[simp] theorem w_eqS {i j : List Nat} : bEq (.str i) (.str j) h = .ok (.bl (decide (i = j))) h := rfl
@[simp] theorem w_neS {i j : List Nat} : bNe (.str i) (.str j) h = .ok (.bl (!decide (i = j))) h := rfl
@[simp] theorem w_eqI {i j : Int} : bEq (.int i) (.int j) h = .ok (.bl (decide (i = j))) h := rfl
@[simp] theorem w_neI {i j : Int} : bNe (.int i) (.int j) h = .ok (.bl (!decide (i = j))) h := rfl
@[simp] theorem w_eqB {i j : Bool} : bEq (.bl i) (.bl j) h = .ok (.bl (decide (i = j))) h := rfl
@[simp] theorem w_neB {i j : Bool} : bNe (.bl i) (.bl j) h = .ok (.bl (!decide (i = j))) h := rfl
@[simp] theorem w_isN {neg : Bool} {x : D} : bIs neg x .non h = .ok (.bl (xor neg (isNon x))) h := rfl
@[simp] theorem w_isB {neg a b : Bool} : bIs neg (.bl a) (.bl b) h = .ok (.bl (xor neg (decide (a = b)))) h := rfl
@[simp] theorem w_isi {x : D} {b : Ty} : fIsi [x, .ty b] h = match tyOfD x h with
  | some a => .ok (.bl (isiT a b)) h
  | none => .bad := rfl
end
/-- a value that names no open object, whose type is told -/
def okV : D → Bool
  | .ref _ => false
  | .ty _ => false
  | .cls _ => false
  | .exc _ _ => false
  | .fn _ => false
  | d => nn 0 d
mutual
theorem nn_mono {n m : Nat} (l : n ≤ m) : ∀ d, nn n d = true → nn m d = true
  | .non, _ => rfl
  | .bl _, _ => rfl
  | .int _, _ => rfl
  | .str _, _ => rfl
  | .tup xs, e => nnL_mono l xs e
  | .lst xs, e => nnL_mono l xs e
  | .scr xs, e => nnL_mono l xs e
  | .dct xs, e => nnP_mono l xs e
  | .ref i, e => decide_eq_true (Nat.lt_of_lt_of_le (of_decide_eq_true e) l)
  | .ty _, _ => rfl
  | .cls _, _ => rfl
  | .exc _ v, e => nn_mono l v e
  | .fn _, _ => rfl
theorem nnL_mono {n m : Nat} (l : n ≤ m) : ∀ d, nnL n d = true → nnL m d = true
  | [], _ => rfl
  | x :: r, e => Bool.and_eq_true_iff.mpr ⟨nn_mono l x (Bool.and_eq_true_iff.mp e).1, nnL_mono l r (Bool.and_eq_true_iff.mp e).2⟩
theorem nnQ_mono {n m : Nat} (l : n ≤ m) : ∀ d, nnQ n d = true → nnQ m d = true
  | (a, b), e => Bool.and_eq_true_iff.mpr ⟨nn_mono l a (Bool.and_eq_true_iff.mp e).1, nn_mono l b (Bool.and_eq_true_iff.mp e).2⟩
theorem nnP_mono {n m : Nat} (l : n ≤ m) : ∀ d, nnP n d = true → nnP m d = true
  | [], _ => rfl
  | x :: r, e => Bool.and_eq_true_iff.mpr ⟨nnQ_mono l x (Bool.and_eq_true_iff.mp e).1, nnP_mono l r (Bool.and_eq_true_iff.mp e).2⟩
end
theorem okV_nn {d : D} (e : okV d = true) (n : Nat) : nn n d = true := by
  refine nn_mono (Nat.zero_le n) d ?_
  cases d <;> first | exact e | cases e
theorem nnL_all {n : Nat} : ∀ {xs : List D}, nnL n xs = true ↔ ∀ x ∈ xs, nn n x = true
  | [] => ⟨fun _ x hx => absurd hx (by simp), fun _ => rfl⟩
  | x :: r => by
    show (nn n x && nnL n r) = true ↔ _
    rw [Bool.and_eq_true, nnL_all (xs := r), List.forall_mem_cons]
/-- all([f(x) for x in xs]) -/
theorem all_map {α : Type} {it : IM} {t : GM} {e : EM} {vs : List Nat} {ρ : Env'} {h : HP} {s : List α} {m : Itm} (em : α → D) (f : α → Bool) (hi : it ρ h = .ok m h) (hm : m.xs = s.map em) (hc : m.chk h) (hz : s.length ≤ sizeLine) (hx : ∀ c ∈ s, ∃ ρ1, t (em c) (wipeE ρ vs) h = .ok ρ1 h ∧ e ρ1 h = .ok (.bl (f c)) h) :
    ∃ ys, eLc false it t tYe e vs ρ h = .ok (.lst ys) h ∧ (∀ h', fAll [.lst ys] h' = .ok (.bl (s.all f)) h') ∧ ∀ h', fAny [.lst ys] h' = .ok (.bl (s.any f)) h' := by
  have key : ∀ (xs : List α) (acc : List D), (∀ c ∈ xs, c ∈ s) → acc.length + xs.length ≤ sizeLine → lcM t tYe e m.chk (wipeE ρ vs) (xs.map em) acc h = .ok (acc ++ xs.map fun c => D.bl (f c)) h := by
    intro xs
    induction xs with
    | nil =>
      intro acc _ _
      show (if m.chk h then _ else _) = _
      rw [if_pos hc]; simp
    | cons c xs ih =>
      intro acc hs hz
      obtain ⟨ρ1, h1, h2⟩ := hx c (hs c List.mem_cons_self)
      rw [List.length_cons] at hz
      rw [List.map_cons]
      unfold lcM
      rw [if_pos hc, h1]
      simp only [w_tYe]
      rw [h2]
      simp only []
      rw [if_pos (by omega), ih _ (fun d hd => hs d (List.mem_cons_of_mem _ hd)) (by rw [List.length_append, List.length_singleton]; omega)]
      simp
  have eb : ∀ xs : List α, blsOf (xs.map fun c => D.bl (f c)) = some (xs.map f) := by
    intro xs
    induction xs with
    | nil => rfl
    | cons c xs ih =>
      show (blsOf _).map (f c :: ·) = _
      rw [ih]; rfl
  refine ⟨s.map fun c => D.bl (f c), ?_, fun h' => ?_, fun h' => ?_⟩
  · unfold eLc
    rw [hi, bnd_ok, hm, key s [] (fun _ z => z) (by simpa using hz)]
    rfl
  · simp only [fAll, lrOf, lsOf, eb, List.all_map]; rfl
  · simp only [fAny, lrOf, lsOf, eb, List.any_map]; rfl
end Zs
end

/-! Fq -/
set_option exponentiation.threshold 9000
noncomputable section
namespace Zs
open PySem PySem.Spec L2
open PyProof.Rows hiding St
open Classical

/-! ## the draws, alike in every law -/
def takeS (c1 c2 c3 c4 c5 : Int) : SM := (sSq (sIf (tV (e2 bGt (e2 bIx (eV 0) (eC (.int (0)))) (eC (.int (0))))) (sSq (sAs (e2 bMod (eA fInt (aC (e2 bIx (eV 0) (eC (.int (0)))) aN)) (eV 1)) (gN 2))
  (sSq (sAs (e2 bFd (e2 bIx (eV 0) (eC (.int (0)))) (eV 1)) (gS (eV 0) (eC (.int (0)))))
  (sSq (sRe (eV 2))
  sNx))) sNx)
  (sSq (sAs (e2 (bAdd false) (e2 bIx (eV 0) (eC (.int (2)))) (eC (.int (1)))) (gS (eV 0) (eC (.int (2)))))
  (sSq (sAs (e2 bIx (eA (fLst false) (aC (eC (.int (2147483647))) (aC (eC (.int (2147483629))) (aC (eC (.int (2147483587))) (aC (eC (.int (2147483579))) (aC (eC (.int (2147483563))) aN)))))) (e2 bMod (eA fInt (aC (e2 bIx (eV 0) (eC (.int (2)))) aN)) (eC (.int (5))))) (gN 3))
  (sSq (sAs (e2 bMod (eA fInt (aC (e2 bPow (eA fInt (aC (e2 (bAdd false) (e2 (bAdd false) (e2 bIx (eV 0) (eC (.int (1)))) (e2 bMul (e2 bMul (eC (.int (c1))) (e2 bIx (eV 0) (eC (.int (2))))) (e2 bIx (eV 0) (eC (.int (2)))))) (eC (.int (c2)))) aN)) (eC (.int (3)))) aN)) (eV 3)) (gN 4))
  (sSq (sAs (e2 bMod (eA fInt (aC (e2 bMul (eV 4) (e2 (bAdd false) (e2 bMod (eA fInt (aC (eV 4) aN)) (eC (.int (c3)))) (e2 bMul (eC (.int (c4))) (e2 bIx (eV 0) (eC (.int (2))))))) aN)) (eC (.int (2305843009213693907)))) (gN 4))
  (sSq (sRe (e2 bMod (eA fInt (aC (e2 bFd (eV 4) (eC (.int (c5)))) aN)) (eV 1)))
  sNx))))))
section
variable {h : HP} {ρ : Env'}
theorem pot_ix {j : Nat} {a b c : D} {h : HP} (e : h[j]? = some (some (.lst [a, b, c]))) : bIx (.ref j) (.int 0) h = .ok a h ∧ bIx (.ref j) (.int 1) h = .ok b h ∧ bIx (.ref j) (.int 2) h = .ok c h := by
  have es : sqOf (.ref j) h = some [a, b, c] := by
    show (match h[j]? with
      | some (some (.lst xs)) => some xs
      | _ => none) = _
    rw [e]
  refine ⟨?_, ?_, ?_⟩ <;> (unfold bIx; simp only [es]; rfl)
theorem pot_set {j : Nat} {a b c d : D} {h : HP} (e : h[j]? = some (some (.lst [a, b, c]))) : setAt (.ref j) (.int 0) d h = some (h.set j (some (.lst [d, b, c]))) ∧ setAt (.ref j) (.int 2) d h = some (h.set j (some (.lst [a, b, d]))) := by
  have eo : opL (.ref j) h = some (j, [a, b, c]) := by
    show (match h[j]? with
      | some (some (.lst xs)) => some (j, xs)
      | _ => none) = _
    rw [e]
  constructor <;> (unfold setAt; simp only [eo]; rfl)
theorem m_mod {i j : Int} (z : j ≠ 0) : bMod (.int i) (.int j) h = .ok (.int (i.fmod j)) h := by
  show (if CNz i j then R.ok (D.int (i.fmod j)) h else .bad) = _
  rw [if_pos (show CNz i j from z)]
theorem m_fd {i j : Int} (z : j ≠ 0) (l : j.natAbs < 2 ^ 8000) : bFd (.int i) (.int j) h = .ok (.int (i.fdiv j)) h := by
  show (if CFd i j then R.ok (D.int (i.fdiv j)) h else .bad) = _
  rw [if_pos (show CFd i j from ⟨z, Nat.lt_of_lt_of_le (PySem.Flt.log2_lt_of (by decide) l) (by decide)⟩)]
theorem m_mul {i j : Int} (z : IntMulOk i j) : bMul (.int i) (.int j) h = .ok (.int (i * j)) h := by
  show (if IntMulOk i j then R.ok (D.int (i * j)) h else .bad) = _
  rw [if_pos z]
theorem mul_l {i j : Int} (h1 : -(2 ^ 64) < i) (h2 : i < 2 ^ 64) : IntMulOk i j := IntMulOk.of_left (intBits_le_64 h1 h2)
theorem mul_r {i j : Int} (h1 : -(2 ^ 64) < j) (h2 : j < 2 ^ 64) : IntMulOk i j := IntMulOk.of_right (intBits_le_64 h1 h2)
theorem m_pow {i : Int} {n k : Nat} (l : i.natAbs < 2 ^ k) (z : k * n ≤ 2 ^ 27) : bPow (.int i) (.int (n : Int)) h = .ok (.int (i ^ n)) h := by
  have hb := intBits_le l
  have hc : CPw i (n : Int) := ⟨Int.natCast_nonneg n, by
    have : Builtin.Int.intBits i * n ≤ 2 ^ 27 := Nat.le_trans (Nat.mul_le_mul_right n hb) z
    have h2 : ((Builtin.Int.intBits i * n : Nat) : Int) ≤ ((2 ^ 27 : Nat) : Int) := Int.ofNat_le.mpr this
    simpa using h2⟩
  show (if CPw i n then R.ok (D.int (i ^ (n : Int).toNat)) h else .bad) = _
  rw [if_pos hc]
  rfl
theorem int1 {i : Int} : fInt [.int i] h = .ok (.int i) h := rfl
theorem fmod_lt {a b : Int} (h : 0 < b) : 0 ≤ a.fmod b ∧ a.fmod b < b := ⟨Int.fmod_nonneg_of_pos a h, Int.fmod_lt_of_pos a h⟩
theorem natAbs_lt {a : Int} {n : Nat} (h0 : 0 ≤ a) (h1 : a < ((n : Nat) : Int)) : a.natAbs < n := by omega
theorem line5 : 5 ≤ sizeLine := by rw [sizeLine_eq]; omega
theorem take_run {c1 c2 c3 c4 c5 : Int} (k1 : 0 ≤ c1 ∧ c1 < 2 ^ 20) (k2 : 0 ≤ c2 ∧ c2 < 2 ^ 20) (k3 : 0 < c3 ∧ c3 < 2 ^ 20) (k4 : 0 ≤ c4 ∧ c4 < 2 ^ 20) (k5 : 0 < c5 ∧ c5 < 2 ^ 20) {j c : Nat} {u : Int} (hc : c < 2 ^ 40) (hu : 0 < u) (hu2 : u < 2 ^ 60) (p : Pot j c h) :
    ∃ (i : Int) (h' : HP) (ρ' : Env'), takeS c1 c2 c3 c4 c5 [some (.ref j), some (.int u), none, none, none] h = .ok (.ret (.int i)) h' ∧ 0 ≤ i ∧ i < u ∧ Pot j (c + 1) h' ∧ But j h h' := by
  obtain ⟨own, mix, cnt, e, o1, o2, m1, m2, n1, n2⟩ := p
  obtain ⟨x0, x1, x2⟩ := pot_ix e
  have hj : j < h.length := (List.getElem?_eq_some_iff.mp e).1
  have hcnt : cnt < 2 ^ 40 := by
    have : ((c : Nat) : Int) < ((2 ^ 40 : Nat) : Int) := Int.ofNat_lt.mpr hc
    simp at this; omega
  unfold takeS
  by_cases hp : 0 < own
  · have hu8 : u.natAbs < 2 ^ 8000 := Nat.lt_of_lt_of_le (natAbs_lt (n := 2 ^ 60) (by omega) (by simpa using hu2)) (Nat.pow_le_pow_right (by decide) (by decide))
    obtain ⟨s0, _⟩ := pot_set (d := .int (own.fdiv u)) e
    refine ⟨own.fmod u, h.set j (some (.lst [.int (own.fdiv u), .int mix, .int cnt])), [], ?_, (fmod_lt hu).1, (fmod_lt hu).2, ⟨own.fdiv u, mix, cnt, by rw [List.getElem?_set_self hj], ?_, ?_, m1, m2, n1, by omega⟩, But.set⟩
    · simp [x0, hp, m_mod (show u ≠ 0 by omega), m_fd (show u ≠ 0 by omega) hu8, gS, s0, int1]
    · exact Int.fdiv_nonneg o1 (by omega)
    · exact Int.lt_of_le_of_lt (by
        rw [Int.fdiv_eq_ediv_of_nonneg _ (by omega)]
        exact Int.ediv_le_self _ o1) o2
  · have hc0 : 0 ≤ cnt + 1 := by omega
    have hc1 : cnt + 1 < 2 ^ 41 := by omega
    obtain ⟨_, s2⟩ := pot_set (d := .int (cnt + 1)) e
    have e' : (h.set j (some (.lst [.int own, .int mix, .int (cnt + 1)])))[j]? = some (some (.lst [.int own, .int mix, .int (cnt + 1)])) := List.getElem?_set_self hj
    obtain ⟨y0, y1, y2⟩ := pot_ix e'
    generalize hh : h.set j (some (.lst [.int own, .int mix, .int (cnt + 1)])) = h' at *
    have hb : But j h h' := by rw [← hh]; exact But.set
    obtain ⟨r0, r1⟩ := fmod_lt (a := cnt + 1) (b := 5) (by decide)
    obtain ⟨q, q0, q1, q2⟩ : ∃ q : Int, bIx (.lst [.int 2147483647, .int 2147483629, .int 2147483587, .int 2147483579, .int 2147483563]) (.int ((cnt + 1).fmod 5)) h' = .ok (.int q) h' ∧ 0 < q ∧ q < 2 ^ 31 := by
      have : (cnt + 1).fmod 5 = 0 ∨ (cnt + 1).fmod 5 = 1 ∨ (cnt + 1).fmod 5 = 2 ∨ (cnt + 1).fmod 5 = 3 ∨ (cnt + 1).fmod 5 = 4 := by omega
      rcases this with z | z | z | z | z <;> rw [z] <;> exact ⟨_, rfl, by decide, by decide⟩
    have w1 : 0 ≤ c1 * (cnt + 1) := Int.mul_nonneg k1.1 hc0
    have w2 : c1 * (cnt + 1) ≤ 2 ^ 20 * 2 ^ 41 := Int.mul_le_mul (by omega) (by omega) hc0 (by decide)
    have w3 : 0 ≤ c1 * (cnt + 1) * (cnt + 1) := Int.mul_nonneg w1 hc0
    have w4 : c1 * (cnt + 1) * (cnt + 1) ≤ 2 ^ 20 * 2 ^ 41 * 2 ^ 41 := Int.mul_le_mul w2 (by omega) hc0 (by decide)
    have w5 : (mix + c1 * (cnt + 1) * (cnt + 1) + c2).natAbs < 2 ^ 110 := natAbs_lt (by omega) (by omega)
    obtain ⟨b0, b1⟩ := fmod_lt (a := (mix + c1 * (cnt + 1) * (cnt + 1) + c2) ^ 3) q1
    generalize hB : ((mix + c1 * (cnt + 1) * (cnt + 1) + c2) ^ 3).fmod q = B at b0 b1
    have p1 : bPow (.int (mix + c1 * (cnt + 1) * (cnt + 1) + c2)) (.int 3) h' = .ok (.int ((mix + c1 * (cnt + 1) * (cnt + 1) + c2) ^ 3)) h' := m_pow (n := 3) w5 (by decide)
    have hB2 : B.fmod c3 + c4 * (cnt + 1) = B.fmod c3 + c4 * (cnt + 1) := rfl
    generalize hC : (B * (B.fmod c3 + c4 * (cnt + 1))).fmod 2305843009213693907 = C
    have hc5 : c5.natAbs < 2 ^ 8000 := Nat.lt_of_lt_of_le (natAbs_lt (n := 2 ^ 20) (by omega) (by simpa using k5.2)) (Nat.pow_le_pow_right (by decide) (by decide))
    refine ⟨(C.fdiv c5).fmod u, h', [], ?_, (fmod_lt hu).1, (fmod_lt hu).2, ⟨own, mix, cnt + 1, e', o1, o2, m1, m2, by omega, by omega⟩, hb⟩
    simp [x0, x2, hp, gS, s2, y1, y2, int1, m_mod (show (5 : Int) ≠ 0 by decide), fLst, mkL, line5, q0, m_mul (mul_l (j := cnt + 1) (show -(2 ^ 64) < c1 by omega) (show c1 < 2 ^ 64 by omega)), m_mul (mul_r (i := c1 * (cnt + 1)) (show -(2 ^ 64) < cnt + 1 by omega) (show cnt + 1 < 2 ^ 64 by omega)), p1, m_mod (show q ≠ 0 by omega), hB, m_mod (show c3 ≠ 0 by omega),
      m_mul (mul_l (j := cnt + 1) (show -(2 ^ 64) < c4 by omega) (show c4 < 2 ^ 64 by omega)), m_mul (mul_l (j := B.fmod c3 + c4 * (cnt + 1)) (show -(2 ^ 64) < B by omega) (show B < 2 ^ 64 by omega)), m_mod (show (2305843009213693907 : Int) ≠ 0 by decide), hC, m_fd (show c5 ≠ 0 by omega) hc5, m_mod (show u ≠ 0 by omega)]
/-- the promises of the draws -/
def TakeOk (f : FSem) : Prop := ∀ (j c : Nat) (h : HP) (u : Int), Pot j c h → c < 2 ^ 40 → 0 < u → u < 2 ^ 60 → Wp (f [.ref j, .int u] h) fun d h' => ∃ i : Int, d = .int i ∧ 0 ≤ i ∧ i < u ∧ Pot j (c + 1) h' ∧ But j h h'
theorem take_ok {c1 c2 c3 c4 c5 : Int} (k1 : 0 ≤ c1 ∧ c1 < 2 ^ 20) (k2 : 0 ≤ c2 ∧ c2 < 2 ^ 20) (k3 : 0 < c3 ∧ c3 < 2 ^ 20) (k4 : 0 ≤ c4 ∧ c4 < 2 ^ 20) (k5 : 0 < c5 ∧ c5 < 2 ^ 20) {k : Nat} : TakeOk (runD false k 5 (takeS c1 c2 c3 c4 c5)) := fun j c h u p hc hu hu2 => by
  obtain ⟨i, h', ρ', e, i0, i1, p', b⟩ := take_run k1 k2 k3 k4 k5 hc hu hu2 p
  refine Wp.of (a := .int i) (h := h') ?_ ⟨i, rfl, i0, i1, p', b⟩
  rw [runD_ret e (b.old p') rfl, b.take]
def ofS (f : FSem) : SM := (sSq (sRe (e2 bIx (eV 1) (eCl f 2 2 0 [0, 1] (aC (eV 0) (aC (eA fLen (aC (eV 1) aN)) aN)) aN)))
  sNx)
def OfOk (f : FSem) : Prop := ∀ (j c : Nat) (h : HP) (s : D) (xs : List D), Pot j c h → c < 2 ^ 40 → sqOf s h = some xs → s ≠ .ref j → xs ≠ [] → xs.length < 2 ^ 60 → (∀ x ∈ xs, nn h.length x = true) → Wp (f [.ref j, s] h) fun d h' => d ∈ xs ∧ Pot j (c + 1) h' ∧ But j h h'
theorem sqOf_but {j : Nat} {h h' : HP} {s : D} (b : But j h h') (n : s ≠ .ref j) : sqOf s h' = sqOf s h := by
  cases s with
  | ref i =>
    have hi : i ≠ j := fun z => n (by rw [z])
    show (match h'[i]? with
      | some (some (.lst xs)) => some xs
      | _ => none) = _
    rw [b.2 i hi]; rfl
  | _ => rfl
theorem atI_nat {α : Type} {xs : List α} {i : Int} (h0 : 0 ≤ i) (h1 : i < xs.length) : ∃ x, L2.atI xs i = some x ∧ x ∈ xs := by
  have hl : i.toNat < xs.length := by omega
  refine ⟨xs[i.toNat], ?_, List.getElem_mem hl⟩
  unfold L2.atI ixN
  rw [if_pos h0, if_pos h1]
  simp [hl]
theorem bIx_sq {s : D} {xs : List D} {i : Int} {d : D} (e : sqOf s h = some xs) (a : L2.atI xs i = some d) : bIx s (.int i) h = .ok d h := by
  unfold bIx
  cases s <;> first | (cases e; done) | (simp only [e, a])
theorem fLen_sq {s : D} {xs : List D} (e : sqOf s h = some xs) : fLen [s] h = .ok (.int xs.length) h := by
  unfold fLen
  cases s <;> first | (cases e; done) | (simp only [e])
theorem of_ok {f : FSem} (t : TakeOk f) {k : Nat} : OfOk (runD false k 2 (ofS f)) := fun j c h s xs p hc es n ne hl hx => by
  have hpos : 0 < xs.length := List.length_pos_iff.mpr ne
  obtain ⟨d, h', e, i, rfl, i0, i1, p', b⟩ := (t j c h xs.length p hc (by omega) (by
    have : ((xs.length : Nat) : Int) < ((2 ^ 60 : Nat) : Int) := Int.ofNat_lt.mpr hl
    simpa using this)).ex
  obtain ⟨x, a, hm⟩ := atI_nat i0 i1
  have es' : sqOf s h' = some xs := by rw [sqOf_but b n, es]
  refine Wp.of (a := x) (h := h') ?_ ⟨hm, p', b⟩
  have e2 : ofS f [some (.ref j), some s] h = .ok (.ret x) h' := by
    unfold ofS
    simp [fLen_sq es, e, bIx_sq es' a]
  have e3 : runD false k 2 (ofS f) [.ref j, s] h = .ok x (h'.take h.length) := runD_ret (n := 2) e2 (b.old p') (hx x hm)
  rw [e3, b.take]
/-- a new pot -/
def potS (fb : EM) (c1 c2 c3 : Int) : SM := (sSq (sAs (eIf (tV (e2 bLt (eV 1) (eA fLen (aC (eV 0) aN)))) (e2 bIx (eV 0) (eV 1)) fb) (gN 2))
  (sSq (sAs (e2 bMul (e2 bMod (eA fInt (aC (eA fAbs (aC (eV 2) aN)) aN)) (e2 bPow (e2 bPow (eC (.int (10))) (eC (.int (60)))) (eC (.int (5))))) (eA fInt (aC (e2 bGe (eA fAbs (aC (eV 2) aN)) (e2 bPow (eC (.int (10))) (eC (.int (18))))) aN))) (gN 3))
  (sSq (sAs (e2 bMod (eA fInt (aC (eV 2) aN)) (eC (.int (2305843009213693951)))) (gN 4))
  (sSq (sRe (eA (fLst true) (aC (eV 3) (aC (e2 bMod (eA fInt (aC (e2 (bAdd false) (e2 (bAdd false) (e2 bMul (eV 4) (eC (.int (c1)))) (e2 bMul (e2 bMul (eC (.int (c2))) (eV 1)) (eV 1))) (eC (.int (c3)))) aN)) (eC (.int (2305843009213693921)))) (aC (eC (.int (0))) aN)))))
  sNx))))
def fbA (a b c : Int) : EM := (e2 (bAdd false) (e2 (bAdd false) (e2 bMod (eA fSum (aC (eSl false (eV 0) oN (oS (eC (.int (1))))) aN)) (eC (.int (a)))) (e2 bMul (eC (.int (b))) (eV 1))) (eC (.int (c))))
def fbB (b c : Int) : EM := (e2 (bAdd false) (e2 bMul (eC (.int (b))) (eV 1)) (eC (.int (c))))
theorem intsOf_map : ∀ ns : List Int, intsOf (ns.map D.int) = some ns
  | [] => rfl
  | n :: ns => by
    show (intsOf (ns.map D.int)).map (n :: ·) = _
    rw [intsOf_map ns]; rfl
theorem fbA_ok {a b c p : Int} {ns : List Int} (ha : a ≠ 0) (hb : -(2 ^ 64) < b ∧ b < 2 ^ 64) : ∃ x : Int, fbA a b c [some (.scr (ns.map D.int)), some (.int p), none, none, none] h = .ok (.int x) h := by
  have e1 : fSl false (.scr (ns.map D.int)) none (some 1) h = .ok (.lst ((cutL ns none (some 1)).map D.int)) h := by
    show mkL false (cutL (ns.map D.int) none (some 1)) h = _
    unfold cutL mkL
    simp [List.map_take, List.map_drop]
  have e2 : fSum [.lst ((cutL ns none (some 1)).map D.int)] h = .ok (.int (cutL ns none (some 1)).sum) h := by
    simp only [fSum, lrOf, lsOf, intsOf_map]
  refine ⟨(cutL ns none (some 1)).sum.fmod a + b * p + c, ?_⟩
  unfold fbA
  simp [eSl, oN, oS, e1, e2, m_mod ha, m_mul (mul_l (j := p) hb.1 hb.2)]
theorem fbB_ok {b c p : Int} {ns : List Int} (hb : -(2 ^ 64) < b ∧ b < 2 ^ 64) : ∃ x : Int, fbB b c [some (.scr (ns.map D.int)), some (.int p), none, none, none] h = .ok (.int x) h := by
  refine ⟨b * p + c, ?_⟩
  unfold fbB
  simp [m_mul (mul_l (j := p) hb.1 hb.2)]
theorem three : 3 ≤ sizeLine := by rw [sizeLine_eq]; omega
theorem pot_run {fb : EM} {c1 c2 c3 p : Int} {ns : List Int} (hfb : ∃ x : Int, fb [some (.scr (ns.map D.int)), some (.int p), none, none, none] h = .ok (.int x) h) (k1 : 0 ≤ c1 ∧ c1 < 2 ^ 20) (k2 : 0 ≤ c2 ∧ c2 < 2 ^ 20) (hp : 0 ≤ p) (hp2 : p < 2 ^ 40) :
    ∃ o : Option O, potS fb c1 c2 c3 [some (.scr (ns.map D.int)), some (.int p), none, none, none] h = .ok (.ret (.ref h.length)) (h ++ [o]) ∧ Pot h.length 0 (h ++ [o]) := by
  obtain ⟨x, hx⟩ : ∃ x : Int, (eIf (tV (e2 bLt (eV 1) (eA fLen (aC (eV 0) aN)))) (e2 bIx (eV 0) (eV 1)) fb) [some (.scr (ns.map D.int)), some (.int p), none, none, none] h = .ok (.int x) h := by
    by_cases z : p < (ns.length : Int)
    · obtain ⟨d, h1, h2⟩ := atI_nat (xs := ns.map D.int) hp (by simpa using z)
      obtain ⟨i, _, rfl⟩ := List.mem_map.mp h2
      have e1 : bIx (.scr (ns.map D.int)) (.int p) h = .ok (.int i) h := bIx_sq rfl h1
      exact ⟨i, by simp [fLen, sqOf, z, e1]⟩
    · obtain ⟨y, hy⟩ := hfb
      exact ⟨y, by simp [fLen, sqOf, z, hy]⟩
  have q1 : bPow (.int 10) (.int 60) h = .ok (.int (10 ^ 60)) h := m_pow (n := 60) (k := 4) (by decide) (by decide)
  have q2 : bPow (.int (10 ^ 60)) (.int 5) h = .ok (.int ((10 ^ 60) ^ 5)) h := m_pow (n := 5) (k := 200) (by decide) (by decide)
  have q3 : bPow (.int 10) (.int 18) h = .ok (.int (10 ^ 18)) h := m_pow (n := 18) (k := 4) (by decide) (by decide)
  generalize hA : (if x < 0 then -x else x) = A
  have hA' : fAbs [.int x] h = .ok (.int A) h := by rw [← hA]; rfl
  have hN : ((10 : Int) ^ 60) ^ 5 = 10 ^ 300 := by decide
  obtain ⟨a0, a1⟩ := fmod_lt (a := A) (b := 10 ^ 300) (by decide)
  obtain ⟨s0, s1⟩ := fmod_lt (a := x) (b := 2305843009213693951) (by decide)
  have hz : (10 : Int) ^ 300 ≠ 0 := by decide
  generalize hS : x.fmod 2305843009213693951 = S at s0 s1
  generalize hM : (S * c1 + c2 * p * p + c3).fmod 2305843009213693921 = M
  have m0 : 0 ≤ M ∧ M < 2305843009213693921 := by rw [← hM]; exact fmod_lt (by decide)
  obtain ⟨own, o0, o1, ho⟩ : ∃ own : Int, 0 ≤ own ∧ own < 10 ^ 300 ∧ bMul (.int (A.fmod (10 ^ 300))) (.int (if decide ((10 : Int) ^ 18 ≤ A) = true then 1 else 0)) h = .ok (.int own) h := by
    by_cases z : (10 : Int) ^ 18 ≤ A
    · rw [if_pos (decide_eq_true z)]
      exact ⟨_, by omega, by omega, m_mul (mul_r (by decide) (by decide))⟩
    · rw [if_neg (by simpa using z)]
      exact ⟨_, by omega, by omega, m_mul (mul_r (by decide) (by decide))⟩
  refine ⟨some (.lst [.int own, .int M, .int 0]), ?_, ⟨own, M, 0, by simp, o0, o1, m0.1, by omega, by omega, by omega⟩⟩
  have fb1 : fInt [.bl (decide ((10 : Int) ^ 18 ≤ A))] h = .ok (.int (if decide ((10 : Int) ^ 18 ≤ A) = true then 1 else 0)) h := rfl
  have r1 : bMod (.int A) (.int ((10 ^ 60) ^ 5)) h = .ok (.int (A.fmod (10 ^ 300))) h := by rw [hN]; exact m_mod hz
  have g1 : bGe (.int A) (.int (10 ^ 18)) h = .ok (.bl (decide ((10 : Int) ^ 18 ≤ A))) h := rfl
  have i1 : fInt [.int A] h = .ok (.int A) h := rfl
  have i2 : fInt [.int x] h = .ok (.int x) h := rfl
  have l1 := m_mul (h := h) (mul_l (i := S) (j := c1) (by omega) (by omega))
  have l2 := m_mul (h := h) (mul_l (i := c2) (j := p) (by omega) (by omega))
  have l3 := m_mul (h := h) (mul_r (i := c2 * p) (j := p) (by omega) (by omega))
  have md := m_mod (h := h) (i := S * c1 + c2 * p * p + c3) (show (2305843009213693921 : Int) ≠ 0 by decide)
  have mx := m_mod (h := h) (i := x) (show (2305843009213693951 : Int) ≠ 0 by decide)
  rw [hM] at md
  rw [hS] at mx
  have st1 : sAs (eIf (tV (e2 bLt (eV 1) (eA fLen (aC (eV 0) aN)))) (e2 bIx (eV 0) (eV 1)) fb) (gN 2) [some (.scr (ns.map D.int)), some (.int p), none, none, none] h = .ok (.nx [some (.scr (ns.map D.int)), some (.int p), some (.int x), none, none]) h := by
    rw [w_sAs, hx]; rfl
  unfold potS
  rw [seq_ok st1]
  have st2 : sAs (e2 bMul (e2 bMod (eA fInt (aC (eA fAbs (aC (eV 2) aN)) aN)) (e2 bPow (e2 bPow (eC (.int (10))) (eC (.int (60)))) (eC (.int (5))))) (eA fInt (aC (e2 bGe (eA fAbs (aC (eV 2) aN)) (e2 bPow (eC (.int (10))) (eC (.int (18))))) aN))) (gN 3) [some (.scr (ns.map D.int)), some (.int p), some (.int x), none, none] h = .ok (.nx [some (.scr (ns.map D.int)), some (.int p), some (.int x), some (.int own), none]) h := by
    simp only [w_sAs, w_e2, w_eA, w_aC, w_aN, w_eC, w_eV, List.getElem?_cons_succ, List.getElem?_cons_zero, w_ok, hA', i1, q1, q2, q3, r1, g1, fb1, ho, w_lift, w_gN]
    rfl
  rw [seq_ok st2]
  have st3 : sAs (e2 bMod (eA fInt (aC (eV 2) aN)) (eC (.int (2305843009213693951)))) (gN 4) [some (.scr (ns.map D.int)), some (.int p), some (.int x), some (.int own), none] h = .ok (.nx [some (.scr (ns.map D.int)), some (.int p), some (.int x), some (.int own), some (.int S)]) h := by
    simp only [w_sAs, w_e2, w_eA, w_aC, w_aN, w_eC, w_eV, List.getElem?_cons_succ, List.getElem?_cons_zero, w_ok, i2, mx, w_lift, w_gN]
    rfl
  rw [seq_ok st3]
  refine seq_ret ?_
  have i3 : fInt [.int (S * c1 + c2 * p * p + c3)] h = .ok (.int (S * c1 + c2 * p * p + c3)) h := rfl
  simp only [w_sRe, w_e2, w_eA, w_aC, w_aN, w_eC, w_eV, List.getElem?_cons_succ, List.getElem?_cons_zero, w_ok, l1, l2, l3, w_addI, i3, md, w_lift, fLst, List.length_cons, List.length_nil]
  rw [if_pos three]
  rfl
/-- the places -/
def cellsS : SM := (sSq (sRe (eRgL1 false (eA fMax (aC (eC (.int (1))) (aC (eA fMin (aC (eV 1) (aC (eA fLen (aC (eV 0) aN)) aN))) aN)))))
  sNx)
theorem nnL_rg {n : Nat} {a b : Int} : nnL n (rgD a b) = true := nnL_all.mpr fun x hx => by
  obtain ⟨i, _, rfl⟩ := List.mem_map.mp hx
  rfl
theorem cells_ok {ns : List Int} {m : Int} (hn : ns.length ≤ 63) (hm : 1 ≤ m) (hm2 : m ≤ 63) {k : Nat} : ∃ t : Int, 1 ≤ t ∧ t ≤ 63 ∧ runD false k 2 cellsS [.scr (ns.map D.int), .int m] h = .ok (.lst (rgD 0 t)) h := by
  obtain ⟨t, t1, t2, ht⟩ : ∃ t : Int, 1 ≤ t ∧ t ≤ 63 ∧ ((if (if ((ns.length : Nat) : Int) < m then ((ns.length : Nat) : Int) else m) > 1 then (if ((ns.length : Nat) : Int) < m then ((ns.length : Nat) : Int) else m) else 1) : Int) = t := ⟨_, by split <;> omega, by split <;> split <;> omega, rfl⟩
  refine ⟨t, t1, t2, runD_same (n := 2) ?_ (by show nnL _ _ = true; exact nnL_rg)⟩
  have e1 : fMin [.int m, .int ((ns.length : Nat) : Int)] h = .ok (.int (if ((ns.length : Nat) : Int) < m then ((ns.length : Nat) : Int) else m)) h := rfl
  have e2 : fMax [.int 1, .int (if ((ns.length : Nat) : Int) < m then ((ns.length : Nat) : Int) else m)] h = .ok (.int t) h := by rw [← ht]; rfl
  have e3 : fRgL false (.int 0) (.int t) h = .ok (.lst (rgD 0 t)) h := by
    show (if RgOk 0 t then mkL false (rgD 0 t) h else .bad) = _
    rw [if_pos (RgOk.of_le (by decide) (by omega) (by decide) (by omega))]
    rfl
  have e4 : fLen [.scr (ns.map D.int)] h = .ok (.int ((ns.length : Nat) : Int)) h := by
    have := fLen_sq (h := h) (s := .scr (ns.map D.int)) rfl
    simpa using this
  show cellsS [some (.scr (ns.map D.int)), some (.int m)] h = _
  unfold cellsS eRgL1
  simp only [w_sSq, w_sRe, w_e1, w_eA, w_aC, w_aN, w_eC, w_eV, List.getElem?_cons_succ, List.getElem?_cons_zero, w_ok, e4, e1, e2, e3, w_lift]
/-! ### more words -/
def strsD (l : List (List Nat)) : List D := l.map D.str
theorem flat_strs : ∀ l : List (List Nat), (strsD l).all flatD = true
  | [] => rfl
  | x :: l => by
    show (flatD (.str x) && (strsD l).all flatD) = true
    rw [flat_strs l]; rfl
theorem any_strs (s : List Nat) : ∀ l : List (List Nat), ((strsD l).any fun z => eqF z (.str s)) = decide (s ∈ l)
  | [] => rfl
  | x :: l => by
    show (eqF (.str x) (.str s) || (strsD l).any fun z => eqF z (.str s)) = _
    rw [any_strs s l]
    show (decide (x = s) || decide (s ∈ l)) = decide (s ∈ x :: l)
    rw [Bool.eq_iff_iff, Bool.or_eq_true, decide_eq_true_eq, decide_eq_true_eq, decide_eq_true_eq, List.mem_cons]
    exact ⟨fun z => z.imp Eq.symm id, fun z => z.imp Eq.symm id⟩
theorem w_inStrs {neg : Bool} {s : List Nat} {y : D} {l : List (List Nat)} (e : sqOf y h = some (strsD l)) : bIn neg (.str s) y h = .ok (.bl (xor neg (decide (s ∈ l)))) h := by
  unfold bIn
  cases y <;> first | (cases e; done) | (simp only [e, flat_strs, any_strs]; rfl)
@[simp] theorem w_ix0 {c : Nat} {s : List Nat} : bIx (.str (c :: s)) (.int 0) h = .ok (.str [c]) h := by
  unfold bIx
  have : L2.atI (c :: s) 0 = some c := by
    obtain ⟨x, e, _⟩ := atI_nat (xs := c :: s) (i := 0) (by decide) (by simp)
    rw [e]
    unfold L2.atI ixN at e
    simp at e
    rw [e]
  simp only [this]
theorem add_str {o : Bool} {s t : List Nat} (l : s.length + t.length ≤ sizeLine) : bAdd o (.str s) (.str t) h = .ok (.str (s ++ t)) h := by
  unfold bAdd
  simp only
  rw [if_pos l]
theorem split_str {o : Bool} {a b : List Nat} (l : b ≠ [] ∧ b.all (· < 256) = true ∧ a.length + 2 ≤ sizeLine) : mSplit o (.str a) [.str b] h = mkL o ((TL.spl b 0 [] a).map D.str) h := by
  unfold mSplit
  simp only
  rw [if_pos l]
theorem succ_of {n c : Nat} (h : c + 1 ≤ n) : ∃ m, n = m + 1 ∧ c ≤ m := ⟨n - 1, by omega, by omega⟩
end
end Zs
end

/-! Fr -/
noncomputable section
namespace Zs
open PySem PySem.Spec L2
open PyProof.Rows hiding St
open Classical

/-! ## running with draws -/
section
variable {ρ : Env'} {h : HP}
@[simp] theorem w_mkF {xs : List D} : mkL false xs h = .ok (.lst xs) h := rfl
@[simp] theorem w_mkT {xs : List D} : mkL true xs h = .ok (.ref h.length) (h ++ [some (.lst xs)]) := rfl
theorem line1000 {n : Nat} (l : n ≤ 1000) : n ≤ sizeLine := by rw [sizeLine_eq]; omega
@[simp] theorem w_fLst {o : Bool} {xs : List D} (l : xs.length ≤ 1000) : fLst o xs h = mkL o xs h := by
  unfold fLst; rw [if_pos (line1000 l)]
@[simp] theorem w_fTup {xs : List D} (l : xs.length ≤ 1000) : fTup xs h = .ok (.tup xs) h := by
  unfold fTup; rw [if_pos (line1000 l)]
@[simp] theorem w_eMt {c : D → HP → Bool} {f : D → List D → HP → R D} {a : EM} {r : AM} : eMt c f a r ρ h = (a ρ h).bnd fun x h1 => bif c x h1 then (r ρ h1).bnd fun xs h2 => f x xs h2 else .bad := rfl
@[simp] theorem w_iA {a : EM} : iA a ρ h = (a ρ h).bnd iAk := rfl
@[simp] theorem w_iR {a : AM} : iR a ρ h = (a ρ h).bnd iRk := rfl
@[simp] theorem w_sFo {it : IM} {t : GM} {b : SM} : sFo it t b ρ h = lift ρ (it ρ h) fun m h1 => forM t b m.chk m.xs ρ h1 := rfl
theorem iRk1 {j : Int} (h0 : 0 ≤ j) (h1 : j < 2 ^ 60) : iRk [.int j] h = .ok ⟨(List.range j.toNat).map fun i => D.int (0 + (i : Nat)), fun _ => True⟩ h := by
  show (if R62 j then _ else _) = _
  rw [if_pos (show R62 j from ⟨by omega, by omega⟩)]
end
/-- all before stays, but for j; more may have come -/
def ButL (j : Nat) (h h' : HP) : Prop := h.length ≤ h'.length ∧ ∀ i, i < h.length → i ≠ j → h'[i]? = h[i]?
theorem ButL.refl {j : Nat} {h : HP} : ButL j h h := ⟨Nat.le_refl _, fun _ _ _ => rfl⟩
theorem ButL.trans {j : Nat} {h h1 h2 : HP} (a : ButL j h h1) (b : ButL j h1 h2) : ButL j h h2 := ⟨Nat.le_trans a.1 b.1, fun i l z => (b.2 i (Nat.lt_of_lt_of_le l a.1) z).trans (a.2 i l z)⟩
theorem But.l {j : Nat} {h h' : HP} (b : But j h h') : ButL j h h' := ⟨by rw [b.1]; exact Nat.le_refl _, fun i _ z => b.2 i z⟩
theorem ButL.app {j : Nat} {h t : HP} : ButL j h (h ++ t) := ⟨by simp, fun i l _ => List.getElem?_append_left l⟩
theorem ButL.set {j i : Nat} {h0 h : HP} {o : Option O} (b : ButL j h0 h) (hi : h0.length ≤ i) : ButL j h0 (h.set i o) := ⟨by rw [List.length_set]; exact b.1, fun k l z => by
  rw [List.getElem?_set_ne (by omega)]; exact b.2 k l z⟩
theorem ButL.old {j c : Nat} {h h' : HP} (b : ButL j h h') (p : Pot j c h') : okOld h h' := ⟨b.1, fun i o hi e => by
  by_cases z : i = j
  · subst z
    obtain ⟨own, mix, cnt, h1, _⟩ := p
    rw [h1] at e; cases e
    exact .inr rfl
  · rw [b.2 i hi z] at e; exact .inl e⟩
theorem ButL.take {j : Nat} {h h' : HP} (b : ButL j h h') : But j h (h'.take h.length) := ⟨by rw [List.length_take]; have := b.1; omega, fun i z => by
  by_cases l : i < h.length
  · rw [List.getElem?_take_of_lt l]; exact b.2 i l z
  · rw [List.getElem?_eq_none (by rw [List.length_take]; omega), List.getElem?_eq_none (by omega)]⟩
theorem Pot.take {j c n : Nat} {h : HP} (p : Pot j c h) (l : j < n) : Pot j c (h.take n) := p.at_ (List.getElem?_take_of_lt l)
/-- a def that draws, and ends with a return -/
theorem runD_wp {k n : Nat} {m : SM} {ds : List D} {h : HP} {j c : Nat} {Q : D → Prop} (hj : j < h.length) (w : Wp (m (startE n ds) h) fun f h' => ∃ d, f = .ret d ∧ nn h.length d = true ∧ Pot j c h' ∧ ButL j h h' ∧ Q d) : Wp (runD false k n m ds h) fun d h' => Q d ∧ Pot j c h' ∧ But j h h' := by
  obtain ⟨f, h', e, d, rfl, n1, p, b, q⟩ := w.ex
  refine Wp.of (a := d) (h := h'.take h.length) (runD_ret e (b.old p) n1) ⟨q, p.take hj, b.take⟩
/-- as a chain of statements: the first, then the rest -/
theorem wp_cons {a b : SM} {ρ : Env'} {h : HP} {Q : Fl → HP → Prop} {ρ1 : Env'} {h1 : HP} (e : a ρ h = .ok (.nx ρ1) h1) (w : Wp (b ρ1 h1) Q) : Wp (sSq a b ρ h) Q := by
  rw [seq_ok e]; exact w
theorem wp_consW {a b : SM} {ρ : Env'} {h : HP} {Q : Fl → HP → Prop} (w : Wp (a ρ h) fun f h1 => ∃ ρ1, f = .nx ρ1 ∧ Wp (b ρ1 h1) Q) : Wp (sSq a b ρ h) Q := by
  obtain ⟨f, h1, e, ρ1, rfl, w1⟩ := w.ex
  rw [seq_ok e]; exact w1
theorem wp_as {a : EM} {t : GM} {ρ : Env'} {h : HP} {Q : Fl → HP → Prop} (w : Wp (a ρ h) fun d h1 => Wp (t d ρ h1) fun ρ1 h2 => Q (.nx ρ1) h2) : Wp (sAs a t ρ h) Q := by
  obtain ⟨d, h1, e, w1⟩ := w.ex
  obtain ⟨ρ1, h2, e2, q⟩ := w1.ex
  rw [w_sAs, e]
  show Wp (match t d ρ h1 with
    | .ok ρ1 h2 => .ok (.nx ρ1) h2
    | _ => .bad) Q
  rw [e2]; exact q
theorem wp_ex {a : EM} {ρ : Env'} {h : HP} {Q : Fl → HP → Prop} (w : Wp (a ρ h) fun _ h1 => Q (.nx ρ) h1) : Wp (sEx a ρ h) Q := by
  obtain ⟨d, h1, e, q⟩ := w.ex
  rw [w_sEx, e]; exact q
theorem wp_re {a : EM} {ρ : Env'} {h : HP} {Q : Fl → HP → Prop} (w : Wp (a ρ h) fun d h1 => Q (.ret d) h1) : Wp (sRe a ρ h) Q := by
  obtain ⟨d, h1, e, q⟩ := w.ex
  rw [w_sRe, e]; exact q
theorem wp_ret {a : EM} {ρ : Env'} {h : HP} {Q : Fl → HP → Prop} {b : SM} (w : Wp (a ρ h) fun d h1 => Q (.ret d) h1) : Wp (sSq (sRe a) b ρ h) Q := by
  obtain ⟨d, h1, e, q⟩ := w.ex
  have : sRe a ρ h = .ok (.ret d) h1 := by rw [w_sRe, e]; rfl
  rw [seq_ret this]; exact q
/-- comprehensions that draw -/
theorem eLc_inv {o : Bool} {it : IM} {t : GM} {e : EM} {vs : List Nat} {ρ : Env'} {h h1 : HP} {m : Itm} (I : Nat → HP → Prop) (P : D → Prop) (hi : it ρ h = .ok m h1) (hc : ∀ k h, I k h → m.chk h) (i0 : I 0 h1) (hx : ∀ d ∈ m.xs, ∀ k h, k < m.xs.length → I k h → Wp (t d (wipeE ρ vs) h) fun ρ1 h1 => Wp (e ρ1 h1) fun y h2 => P y ∧ I (k + 1) h2) (hz : m.xs.length ≤ 1000) :
    Wp (eLc o it t tYe e vs ρ h) fun d h' => ∃ ys h2, mkL o ys h2 = .ok d h' ∧ ys.length = m.xs.length ∧ (∀ y ∈ ys, P y) ∧ I m.xs.length h2 := by
  have w := lcM_inv (t := t) (e := e) (ρ := wipeE ρ vs) I P hc m.xs.length m.xs [] 0 h1 (by omega) i0 hx (fun _ z => by simp at z) (by simpa using line1000 hz)
  obtain ⟨ys, h2, e2, q1, q2, q3⟩ := w.ex
  unfold eLc
  rw [hi, bnd_ok, e2, bnd_ok]
  rw [List.length_nil, Nat.zero_add] at q1
  rw [Nat.zero_add] at q3
  cases o with
  | false => exact ⟨ys, h2, rfl, q1, q2, q3⟩
  | true => exact ⟨ys, h2, rfl, q1, q2, q3⟩
/-- texts of at most B signs -/
def txt (B : Nat) (d : D) : Prop := ∃ s, d = .str s ∧ s.length ≤ B
theorem strs_all {B : Nat} : ∀ {ys : List D}, (∀ y ∈ ys, txt B y) → ∃ ts, strsOf ys = some ts ∧ ts.length = ys.length ∧ (ts.map (·.length)).sum ≤ ys.length * B
  | [], _ => ⟨[], rfl, rfl, by simp⟩
  | y :: ys, h => by
    obtain ⟨s, rfl, hs⟩ := h y List.mem_cons_self
    obtain ⟨ts, e, l, b⟩ := strs_all (ys := ys) fun z hz => h z (List.mem_cons_of_mem _ hz)
    refine ⟨s :: ts, ?_, by simp [l], ?_⟩
    · show (strsOf ys).map (s :: ·) = _
      rw [e]; rfl
    · rw [List.map_cons, List.sum_cons, List.length_cons, Nat.add_mul, Nat.one_mul]; omega
theorem join0 {B n : Nat} {ys : List D} {h : HP} (hy : ∀ y ∈ ys, txt B y) (hn : ys.length ≤ n) (hb : n * B ≤ 1000) : ∃ s, mJoin (.str []) [.lst ys] h = .ok (.str s) h ∧ s.length ≤ n * B := by
  obtain ⟨ts, e, l, b⟩ := strs_all hy
  have hb2 : ys.length * B ≤ n * B := Nat.mul_le_mul_right B hn
  have hz : (ts.map (·.length)).sum + ts.length * ([] : List Nat).length ≤ sizeLine := by
    rw [List.length_nil, Nat.mul_zero]; exact line1000 (by omega)
  refine ⟨TL.joinL [] ts, ?_, ?_⟩
  · have es : sqOf (.lst ys) h = some ys := rfl
    unfold mJoin
    simp only [es, e]
    rw [if_pos hz]
  · have := joinL_len [] ts
    rw [List.length_nil, Nat.mul_zero] at this
    omega
theorem app_at {h : HP} {i : Nat} {ys : List D} {y : D} (e : h[i]? = some (some (.lst ys))) (l : ys.length < 1000) : mApp (.ref i) [y] h = .ok .non (h.set i (some (.lst (ys ++ [y])))) ∧ isLstD (.ref i) h = true := by
  have eo : opL (.ref i) h = some (i, ys) := by
    show (match h[i]? with
      | some (some (.lst xs)) => some (i, xs)
      | _ => none) = _
    rw [e]
  have el : lrOf (.ref i) h = some ys := by
    show (match h[i]? with
      | some (some (.lst xs)) => some xs
      | _ => none) = _
    rw [e]
  refine ⟨?_, by unfold isLstD; rw [el]; rfl⟩
  unfold mApp
  simp only [eo]
  rw [if_pos (Nat.lt_of_lt_of_le l (line1000 (Nat.le_refl _)))]
theorem ext_at {h : HP} {i : Nat} {ys zs : List D} {y : D} (e : h[i]? = some (some (.lst ys))) (ey : lsOf y h = some zs) (l : ys.length + zs.length ≤ 1000) : mExt (.ref i) [y] h = .ok .non (h.set i (some (.lst (ys ++ zs)))) ∧ isLstD (.ref i) h = true := by
  have eo : opL (.ref i) h = some (i, ys) := by
    show (match h[i]? with
      | some (some (.lst xs)) => some (i, xs)
      | _ => none) = _
    rw [e]
  have el : lrOf (.ref i) h = some ys := by
    show (match h[i]? with
      | some (some (.lst xs)) => some xs
      | _ => none) = _
    rw [e]
  refine ⟨?_, by unfold isLstD; rw [el]; rfl⟩
  unfold mExt
  simp only [eo, ey]
  rw [if_pos (line1000 l)]
theorem add_at {o : Bool} {h : HP} {i : Nat} {ys zs : List D} {y : D} (e : h[i]? = some (some (.lst ys))) (ey : lsOf y h = some zs) (l : ys.length + zs.length ≤ 1000) : bAdd o (.ref i) y h = mkL o (ys ++ zs) h := by
  have el : lsOf (.ref i) h = some ys := by
    show (match h[i]? with
      | some (some (.lst xs)) => some xs
      | _ => none) = _
    rw [e]
  unfold bAdd
  cases y <;> first | (cases ey; done) | (simp only [el, ey]; rw [if_pos (line1000 l)])
end Zs
end

/-! the tables -/
noncomputable section
namespace Zk
open PySem PySem.Spec L2 Zs
open PyProof.Rows hiding St
abbrev pw : Program := PySem.Challenge.pw_asatthatmoment_k01_names_values_and_colu
abbrev top (i : Nat) : Stmt := pw.main.body.getD i (.Pass ⟨0, 0, 0, 0⟩)
def t0 : List Nat := [97,98,99,100,101,102,103,104,105,106,107,108,109,110,111,112,113,114,115,116,117,118,119,120,121,122]
def t1 : List Nat := [97,98,99,100,101,102,103,104,105,106,107,108,109,110,111,112,113,114,115,116,117,118,119,120,121,122,48,49,50,51,52,53,54,55,56,57]
def t2 : List Nat := [32,112,97,115,115,32,102,97,108,108,32,114,105,115,101,32,97,115,107,32,105,110,116,32,119,111,114,100,32,97,116]
def t3 : List Nat := [32,108,101,97,115,116,32,109,111,115,116,32,108,101,116,116,101,114]
def t4 : List Nat := [32,116,105,109,101,115,32,110,111,119,32,116,114,117,101,32,115,97,109,101,32,98,101,108,111,119,32,110,111,116,32,98,111,116,104,32,101,105,116,104,101,114,32,111,102,32,107,101,101,112,32,111,110,108,121,32,106,111,105,110,32,111,110,99,101,32,103,114,111,117,112,32,115,112,114,101,97,100,32,99,111,117,110,116,32,115,117,109]
def t5 : List Nat := [115,111,117,114,99,101,32,104,111,117,115,101,32,112,101,114,115,111,110,32,118,105,101,119,32,103,114,97,110,116,32,115,117,109,115,32,112,117,116,32,116,97,107,101,32,103,114,111,119,32,99,108,111,99,107,32,110,101,119,32,97,100,100,32,100,114,111,112,32,110,97,109,101,32,102,105,114,115,116,32,99,111,108,32,118,97,108,32,112,108,117,115,32,108,101,115,115]
def c_FIGURES : D := (.str [48,49,50,51,52,53,54,55,56,57])
def c_SMALL : D := (.str t0)
def c_MOST_NAME : D := (.int (8))
def c_MOST_WORD : D := (.int (12))
def c_RESERVED : D := (.tup [(.str [115,111,117,114,99,101]), (.str [104,111,117,115,101]), (.str [112,101,114,115,111,110]), (.str [118,105,101,119]), (.str [103,114,97,110,116]), (.str [115,117,109,115]), (.str [112,117,116]), (.str [116,97,107,101]), (.str [103,114,111,119]), (.str [99,108,111,99,107]), (.str [110,101,119]), (.str [97,100,100]), (.str [100,114,111,112]), (.str [110,97,109,101]), (.str [102,105,114,115,116]), (.str [99,111,108]), (.str [118,97,108]), (.str [112,108,117,115]), (.str [108,101,115,115]), (.str [116,105,109,101,115]), (.str [110,111,119]), (.str [116,114,117,101]), (.str [115,97,109,101]), (.str [98,101,108,111,119]), (.str [110,111,116]), (.str [98,111,116,104]), (.str [101,105,116,104,101,114]), (.str [111,102]), (.str [107,101,101,112]), (.str [111,110,108,121]), (.str [106,111,105,110]), (.str [111,110,99,101]), (.str [103,114,111,117,112]), (.str [115,112,114,101,97,100]), (.str [99,111,117,110,116]), (.str [115,117,109]), (.str [108,101,97,115,116]), (.str [109,111,115,116]), (.str [108,101,116,116,101,114]), (.str [112,97,115,115]), (.str [102,97,108,108]), (.str [114,105,115,101]), (.str [97,115,107]), (.str [105,110,116]), (.str [119,111,114,100]), (.str [97,116])])
def c_INT : D := (.str [105,110,116])
def c_WORD : D := (.str [119,111,114,100])
def c_KINDS : D := (.tup [(.str [105,110,116]), (.str [119,111,114,100])])
def c_MOST_VALUE : D := (.int (1000000000000))
def c_MOST_COLUMNS : D := (.int (8))
def d_is_integer : DI := ⟨"is_integer", defArgs (top 6), defBody (top 6), defScope (top 6), ["value"], ["value"], 0, false, [], false, [⟨[], 1, [0]⟩]⟩
def d_is_between : DI := ⟨"is_between", defArgs (top 7), defBody (top 7), defScope (top 7), ["value", "least", "most"], ["value", "least", "most"], 0, false, [], false, [⟨[], 3, [0, 1, 2]⟩]⟩
def d_is_of_signs : DI := ⟨"is_of_signs", defArgs (top 8), defBody (top 8), defScope (top 8), ["value", "most", "sign"], ["value", "most"], 0, false, [], false, [⟨[], 2, [0, 1]⟩]⟩
def d_is_name : DI := ⟨"is_name", defArgs (top 9), defBody (top 9), defScope (top 9), ["value"], ["value"], 0, false, [], false, [⟨[], 1, [0]⟩, ⟨["value"], 0, [0]⟩]⟩
def d_is_word : DI := ⟨"is_word", defArgs (top 10), defBody (top 10), defScope (top 10), ["value"], ["value"], 0, false, [], false, [⟨[], 1, [0]⟩]⟩
def d_are_unlike : DI := ⟨"are_unlike", defArgs (top 11), defBody (top 11), defScope (top 11), ["some", "one"], ["some"], 0, false, [], false, [⟨[], 1, [0]⟩]⟩
def d_is_kind : DI := ⟨"is_kind", defArgs (top 17), defBody (top 17), defScope (top 17), ["value"], ["value"], 0, false, [], false, [⟨[], 1, [0]⟩]⟩
def d_is_kind_of : DI := ⟨"is_kind_of", defArgs (top 18), defBody (top 18), defScope (top 18), ["kind", "value"], ["kind", "value"], 0, false, [], false, [⟨["kind", "value"], 0, [0, 1]⟩, ⟨[], 2, [0, 1]⟩]⟩
def d_kind_of : DI := ⟨"kind_of", defArgs (top 19), defBody (top 19), defScope (top 19), ["value"], ["value"], 0, false, [], false, [⟨[], 1, [0]⟩, ⟨["value"], 0, [0]⟩]⟩
def d_is_value : DI := ⟨"is_value", defArgs (top 20), defBody (top 20), defScope (top 20), ["value"], ["value"], 0, false, [], false, [⟨["value"], 0, [0]⟩]⟩
def d_is_column : DI := ⟨"is_column", defArgs (top 23), defBody (top 23), defScope (top 23), ["value"], ["value"], 0, false, [], false, [⟨[], 1, [0]⟩]⟩
def d_is_shape : DI := ⟨"is_shape", defArgs (top 24), defBody (top 24), defScope (top 24), ["value", "column"], ["value"], 0, false, [], false, [⟨[], 1, [0]⟩, ⟨["value"], 0, [0]⟩]⟩
def d_names_in : DI := ⟨"names_in", defArgs (top 25), defBody (top 25), defScope (top 25), ["shape", "column"], ["shape"], 0, false, [], false, [⟨[], 1, [0]⟩]⟩
def d__law_pot : DI := ⟨"_law_pot", defArgs (top 27), defBody (top 27), defScope (top 27), ["script", "place", "cell", "own", "small"], ["script", "place"], 0, true, [], true, [⟨[], 2, [0, 1]⟩]⟩
def d__law_take : DI := ⟨"_law_take", defArgs (top 28), defBody (top 28), defScope (top 28), ["pot", "upto", "digit", "prime", "blend"], ["pot", "upto"], 0, false, [], false, [⟨[], 2, [0, 1]⟩]⟩
def d__law_of : DI := ⟨"_law_of", defArgs (top 29), defBody (top 29), defScope (top 29), ["pot", "some"], ["pot", "some"], 0, false, [], false, [⟨[], 2, [0, 1]⟩]⟩
def d__law_cells : DI := ⟨"_law_cells", defArgs (top 30), defBody (top 30), defScope (top 30), ["script", "most"], ["script", "most"], 0, false, [], false, [⟨[], 2, [0, 1]⟩]⟩
def d__law_odd : DI := ⟨"_law_odd", defArgs (top 31), defBody (top 31), defScope (top 31), ["pot", "some", "value", "lap"], ["pot"], 0, false, ["some"], false, [⟨[], 1, [0]⟩]⟩
def d__law_own_kind : DI := ⟨"_law_own_kind", defArgs (top 32), defBody (top 32), defScope (top 32), ["value", "sign"], ["value"], 0, false, [], false, [⟨[], 1, [0]⟩]⟩
def d__law_own_name : DI := ⟨"_law_own_name", defArgs (top 33), defBody (top 33), defScope (top 33), ["value", "words", "sign"], ["value"], 0, false, [], false, [⟨[], 1, [0]⟩]⟩
def d__law_sign : DI := ⟨"_law_sign", defArgs (top 34), defBody (top 34), defScope (top 34), ["pot"], ["pot"], 0, false, [], false, [⟨[], 1, [0]⟩]⟩
def d__law_values : DI := ⟨"_law_values", defArgs (top 35), defBody (top 35), defScope (top 35), ["pot", "words", "edge", "some", "lap"], ["pot"], 0, false, ["words", "some"], false, [⟨[], 1, [0]⟩]⟩
def d__law_right : DI := ⟨"_law_right", defArgs (top 36), defBody (top 36), defScope (top 36), ["pot", "value", "kind", "is_great", "its", "shape", "due"], ["pot"], 0, false, [], false, [⟨[], 1, [0]⟩]⟩
def d_law : DI := ⟨"law", defArgs (top 37), defBody (top 37), defScope (top 37), ["script", "place", "pot", "lap"], ["script"], 0, false, [], false, [⟨[], 1, [0]⟩]⟩
def tb0 : List (Str × GE) := [⟨"FIGURES", .con c_FIGURES⟩,
  ⟨"SMALL", .con c_SMALL⟩,
  ⟨"MOST_NAME", .con c_MOST_NAME⟩,
  ⟨"MOST_WORD", .con c_MOST_WORD⟩,
  ⟨"RESERVED", .con c_RESERVED⟩,
  ⟨"INT", .con c_INT⟩,
  ⟨"WORD", .con c_WORD⟩,
  ⟨"KINDS", .con c_KINDS⟩,
  ⟨"MOST_VALUE", .con c_MOST_VALUE⟩,
  ⟨"MOST_COLUMNS", .con c_MOST_COLUMNS⟩,
  ⟨"is_integer", .fn 0 1 d_is_integer.sh⟩,
  ⟨"is_between", .fn 1 3 d_is_between.sh⟩,
  ⟨"is_of_signs", .fn 2 2 d_is_of_signs.sh⟩,
  ⟨"is_name", .fn 3 1 d_is_name.sh⟩,
  ⟨"is_word", .fn 4 1 d_is_word.sh⟩,
  ⟨"are_unlike", .fn 5 1 d_are_unlike.sh⟩,
  ⟨"is_kind", .fn 6 1 d_is_kind.sh⟩,
  ⟨"is_kind_of", .fn 7 2 d_is_kind_of.sh⟩,
  ⟨"kind_of", .fn 8 1 d_kind_of.sh⟩,
  ⟨"is_value", .fn 9 1 d_is_value.sh⟩,
  ⟨"is_column", .fn 10 1 d_is_column.sh⟩,
  ⟨"is_shape", .fn 11 1 d_is_shape.sh⟩,
  ⟨"names_in", .fn 12 1 d_names_in.sh⟩,
  ⟨"_law_pot", .fn 13 2 d__law_pot.sh⟩,
  ⟨"_law_take", .fn 14 2 d__law_take.sh⟩,
  ⟨"_law_of", .fn 15 2 d__law_of.sh⟩,
  ⟨"_law_cells", .fn 16 2 d__law_cells.sh⟩,
  ⟨"_law_odd", .fn 17 1 d__law_odd.sh⟩,
  ⟨"_law_own_kind", .fn 18 1 d__law_own_kind.sh⟩,
  ⟨"_law_own_name", .fn 19 1 d__law_own_name.sh⟩]
def tb1 : List (Str × GE) := [⟨"_law_sign", .fn 20 1 d__law_sign.sh⟩,
  ⟨"_law_values", .fn 21 1 d__law_values.sh⟩,
  ⟨"_law_right", .fn 22 1 d__law_right.sh⟩,
  ⟨"law", .fn 23 1 d_law.sh⟩,
  ⟨"abs", .bi⟩,
  ⟨"all", .bi⟩,
  ⟨"bool", .bi⟩,
  ⟨"dict", .bi⟩,
  ⟨"int", .bi⟩,
  ⟨"isinstance", .bi⟩,
  ⟨"len", .bi⟩,
  ⟨"list", .bi⟩,
  ⟨"max", .bi⟩,
  ⟨"min", .bi⟩,
  ⟨"range", .bi⟩,
  ⟨"str", .bi⟩,
  ⟨"sum", .bi⟩,
  ⟨"tuple", .bi⟩]
def tb : List (Str × GE) := tb0 ++ tb1
def ds0 : List DI := [d_is_integer,
  d_is_between,
  d_is_of_signs,
  d_is_name,
  d_is_word,
  d_are_unlike,
  d_is_kind,
  d_is_kind_of,
  d_kind_of,
  d_is_value,
  d_is_column,
  d_is_shape,
  d_names_in,
  d__law_pot,
  d__law_take,
  d__law_of,
  d__law_cells,
  d__law_odd,
  d__law_own_kind,
  d__law_own_name,
  d__law_sign,
  d__law_values,
  d__law_right,
  d_law]
def ds : List DI := ds0
def P : Pgm := ⟨ds, tb⟩
/-- is_integer(0 value) -/
def m_is_integer (r : Nat → FSem) : SM := (sSq (sRe (eAn (eA fIsi (aC (eV 0) (aC (eC (.ty .int)) aN))) (eNo (eA fIsi (aC (eV 0) (aC (eC (.ty .bool)) aN))))))
  sNx)
/-- is_between(0 value, 1 least, 2 most) -/
def m_is_between (r : Nat → FSem) : SM := (sSq (sRe (eAn (eCl (r 0) 1 1 0 [0] (aC (eV 0) aN) aN) (e2c bLe bLe (eV 1) (eV 0) (eV 2))))
  sNx)
/-- is_of_signs(0 value, 1 most, 2 sign) -/
def m_is_of_signs (r : Nat → FSem) : SM := (sSq (sIf (tOr' (tN (tV (eA fIsi (aC (eV 0) (aC (eC (.ty .str)) aN))))) (tN (tV (e2c bLe bLe (eC (.int (1))) (eA fLen (aC (eV 0) aN)) (eV 1))))) (sSq (sRe (eC (.bl false)))
  sNx) sNx)
  (sSq (sRe (eA fAll (aC (eLc false (iA (eV 0)) (gN 2) tYe (eOr (e2 (bIn false) (eV 2) (eC c_SMALL)) (e2 (bIn false) (eV 2) (eC c_FIGURES))) [2]) aN)))
  sNx))
/-- is_name(0 value) -/
def m_is_name (r : Nat → FSem) : SM := (sSq (sRe (eAn (eCl (r 2) 2 2 0 [0, 1] (aC (eV 0) (aC (eC c_MOST_NAME) aN)) aN) (eAn (e2 (bIn false) (e2 bIx (eV 0) (eC (.int (0)))) (eC c_SMALL)) (e2 (bIn true) (eV 0) (eC c_RESERVED)))))
  sNx)
/-- is_word(0 value) -/
def m_is_word (r : Nat → FSem) : SM := (sSq (sRe (eCl (r 2) 2 2 0 [0, 1] (aC (eV 0) (aC (eC c_MOST_WORD) aN)) aN))
  sNx)
/-- are_unlike(0 some, 1 one) -/
def m_are_unlike (r : Nat → FSem) : SM := (sSq (sRe (e2 bEq (eA fLen (aC (eA (fDict1 false) (aC (eLc false (iA (eV 0)) (gN 1) tYe (eA fTup (aC (eV 1) (aC (eC (.bl true)) aN))) [1]) aN)) aN)) (eA fLen (aC (eV 0) aN))))
  sNx)
/-- is_kind(0 value) -/
def m_is_kind (r : Nat → FSem) : SM := (sSq (sRe (eAn (eA fIsi (aC (eV 0) (aC (eC (.ty .str)) aN))) (e2 (bIn false) (eV 0) (eC c_KINDS))))
  sNx)
/-- is_kind_of(0 kind, 1 value) -/
def m_is_kind_of (r : Nat → FSem) : SM := (sSq (sRe (eIf (tV (e2 bEq (eV 0) (eC c_INT))) (eCl (r 0) 1 1 0 [0] (aC (eV 1) aN) aN) (eCl (r 4) 1 1 0 [0] (aC (eV 1) aN) aN)))
  sNx)
/-- kind_of(0 value) -/
def m_kind_of (r : Nat → FSem) : SM := (sSq (sIf (tV (eCl (r 1) 3 3 0 [0, 1, 2] (aC (eV 0) (aC (e2 bSub (eC (.int (0))) (eC c_MOST_VALUE)) (aC (eC c_MOST_VALUE) aN))) aN)) (sSq (sRe (eC c_INT))
  sNx) sNx)
  (sSq (sRe (eIf (tV (eCl (r 4) 1 1 0 [0] (aC (eV 0) aN) aN)) (eC c_WORD) (eC .non)))
  sNx))
/-- is_value(0 value) -/
def m_is_value (r : Nat → FSem) : SM := (sSq (sRe (e2 (bIs true) (eCl (r 8) 1 1 0 [0] (aC (eV 0) aN) aN) (eC .non)))
  sNx)
/-- is_column(0 value) -/
def m_is_column (r : Nat → FSem) : SM := (sSq (sIf (tOr' (tN (tV (eA fIsi (aC (eV 0) (aC (eC (.ty .tuple)) aN))))) (tOr' (tV (e2 bNe (eA fLen (aC (eV 0) aN)) (eC (.int (3))))) (tN (tV (eCl (r 3) 1 1 0 [0] (aC (e2 bIx (eV 0) (eC (.int (0)))) aN) aN))))) (sSq (sRe (eC (.bl false)))
  sNx) sNx)
  (sSq (sRe (eAn (eCl (r 6) 1 1 0 [0] (aC (e2 bIx (eV 0) (eC (.int (1)))) aN) aN) (e2 bEq (eCl (r 8) 1 1 0 [0] (aC (e2 bIx (eV 0) (eC (.int (2)))) aN) aN) (e2 bIx (eV 0) (eC (.int (1)))))))
  sNx))
/-- is_shape(0 value, 1 column) -/
def m_is_shape (r : Nat → FSem) : SM := (sSq (sIf (tOr' (tN (tV (eA fIsi (aC (eV 0) (aC (eC (.ty .tuple)) aN))))) (tN (tV (e2c bLe bLe (eC (.int (1))) (eA fLen (aC (eV 0) aN)) (eC c_MOST_COLUMNS))))) (sSq (sRe (eC (.bl false)))
  sNx) sNx)
  (sSq (sRe (eAn (eA fAll (aC (eLc false (iA (eV 0)) (gN 1) tYe (eCl (r 10) 1 1 0 [0] (aC (eV 1) aN) aN) [1]) aN)) (eCl (r 5) 1 1 0 [0] (aC (eCl (r 12) 1 1 0 [0] (aC (eV 0) aN) aN) aN) aN)))
  sNx))
/-- names_in(0 shape, 1 column) -/
def m_names_in (r : Nat → FSem) : SM := (sSq (sRe (eLc false (iA (eV 0)) (gN 1) tYe (e2 bIx (eV 1) (eC (.int (0)))) [1]))
  sNx)
/-- _law_pot(0 script, 1 place, 2 cell, 3 own, 4 small) -/
def m__law_pot (r : Nat → FSem) : SM := (sSq (sAs (eIf (tV (e2 bLt (eV 1) (eA fLen (aC (eV 0) aN)))) (e2 bIx (eV 0) (eV 1)) (e2 (bAdd false) (e2 (bAdd false) (e2 bMod (eA fSum (aC (eSl false (eV 0) oN (oS (eC (.int (1))))) aN)) (eC (.int (1000003)))) (e2 bMul (eC (.int (41099))) (eV 1))) (eC (.int (12017))))) (gN 2))
  (sSq (sAs (e2 bMul (e2 bMod (eA fInt (aC (eA fAbs (aC (eV 2) aN)) aN)) (e2 bPow (e2 bPow (eC (.int (10))) (eC (.int (60)))) (eC (.int (5))))) (eA fInt (aC (e2 bGe (eA fAbs (aC (eV 2) aN)) (e2 bPow (eC (.int (10))) (eC (.int (18))))) aN))) (gN 3))
  (sSq (sAs (e2 bMod (eA fInt (aC (eV 2) aN)) (eC (.int (2305843009213693951)))) (gN 4))
  (sSq (sRe (eA (fLst true) (aC (eV 3) (aC (e2 bMod (eA fInt (aC (e2 (bAdd false) (e2 (bAdd false) (e2 bMul (eV 4) (eC (.int (133121)))) (e2 bMul (e2 bMul (eC (.int (30035))) (eV 1)) (eV 1))) (eC (.int (15051)))) aN)) (eC (.int (2305843009213693921)))) (aC (eC (.int (0))) aN)))))
  sNx))))
/-- _law_take(0 pot, 1 upto, 2 digit, 3 prime, 4 blend) -/
def m__law_take (r : Nat → FSem) : SM := (sSq (sIf (tV (e2 bGt (e2 bIx (eV 0) (eC (.int (0)))) (eC (.int (0))))) (sSq (sAs (e2 bMod (eA fInt (aC (e2 bIx (eV 0) (eC (.int (0)))) aN)) (eV 1)) (gN 2))
  (sSq (sAs (e2 bFd (e2 bIx (eV 0) (eC (.int (0)))) (eV 1)) (gS (eV 0) (eC (.int (0)))))
  (sSq (sRe (eV 2))
  sNx))) sNx)
  (sSq (sAs (e2 (bAdd false) (e2 bIx (eV 0) (eC (.int (2)))) (eC (.int (1)))) (gS (eV 0) (eC (.int (2)))))
  (sSq (sAs (e2 bIx (eA (fLst false) (aC (eC (.int (2147483647))) (aC (eC (.int (2147483629))) (aC (eC (.int (2147483587))) (aC (eC (.int (2147483579))) (aC (eC (.int (2147483563))) aN)))))) (e2 bMod (eA fInt (aC (e2 bIx (eV 0) (eC (.int (2)))) aN)) (eC (.int (5))))) (gN 3))
  (sSq (sAs (e2 bMod (eA fInt (aC (e2 bPow (eA fInt (aC (e2 (bAdd false) (e2 (bAdd false) (e2 bIx (eV 0) (eC (.int (1)))) (e2 bMul (e2 bMul (eC (.int (128825))) (e2 bIx (eV 0) (eC (.int (2))))) (e2 bIx (eV 0) (eC (.int (2)))))) (eC (.int (7773)))) aN)) (eC (.int (3)))) aN)) (eV 3)) (gN 4))
  (sSq (sAs (e2 bMod (eA fInt (aC (e2 bMul (eV 4) (e2 (bAdd false) (e2 bMod (eA fInt (aC (eV 4) aN)) (eC (.int (35755)))) (e2 bMul (eC (.int (4347))) (e2 bIx (eV 0) (eC (.int (2))))))) aN)) (eC (.int (2305843009213693907)))) (gN 4))
  (sSq (sRe (e2 bMod (eA fInt (aC (e2 bFd (eV 4) (eC (.int (11617)))) aN)) (eV 1)))
  sNx))))))
/-- _law_of(0 pot, 1 some) -/
def m__law_of (r : Nat → FSem) : SM := (sSq (sRe (e2 bIx (eV 1) (eCl (r 14) 2 2 0 [0, 1] (aC (eV 0) (aC (eA fLen (aC (eV 1) aN)) aN)) aN)))
  sNx)
/-- _law_cells(0 script, 1 most) -/
def m__law_cells (r : Nat → FSem) : SM := (sSq (sRe (eRgL1 false (eA fMax (aC (eC (.int (1))) (aC (eA fMin (aC (eV 1) (aC (eA fLen (aC (eV 0) aN)) aN))) aN)))))
  sNx)
/-- _law_odd(0 pot, 1 some, 2 value, 3 lap) -/
def m__law_odd (r : Nat → FSem) : SM := (sSq (sAs (eA (fLst true) (aC (eC .non) (aC (eC (.bl true)) (aC (eC (.bl false)) (aC (eC (.int (0))) (aC (e1 uNeg (eC (.int (1)))) (aC (eC (.int (7))) (aC (e2 bPow (eC (.int (10))) (eC (.int (9)))) (aC (eC (.str [])) (aC (eC (.str [97])) (aC (eC (.str [112])) aN))))))))))) (gN 1))
  (sSq (sEx (eMt isLstD mExt (eV 1) (aC (eA (fLst false) (aC (eC (.str [104,111,108,100,115])) (aC (eA fTup aN) (aC (eA (fLst false) aN) (aC (eD0 false) (aC (eA fTup (aC (eC (.str [97])) aN)) (aC (eA (fLst false) (aC (eC (.str [97])) aN)) (aC (eA fTup (aC (eC (.int (1))) (aC (eC (.int (2))) aN))) (aC (eA fTup (aC (eC .non) (aC (eA fTup aN) aN))) aN))))))))) aN)))
  (sSq (sAs (eCl (r 15) 2 2 0 [0, 1] (aC (eV 0) (aC (eV 1) aN)) aN) (gN 2))
  (sSq (sFo (iR (aC (eCl (r 14) 2 2 0 [0, 1] (aC (eV 0) (aC (eC (.int (3))) aN)) aN) aN)) (gN 3) (sSq (sAs (eCl (r 15) 2 2 0 [0, 1] (aC (eV 0) (aC (eA (fLst false) (aC (eA fTup (aC (eV 2) aN)) (aC (eA (fLst false) (aC (eV 2) aN)) (aC (eDi false [((eC (.str [107])), (eV 2))]) (aC (eA fTup (aC (eV 2) (aC (eV 2) aN))) (aC (eA fTup (aC (eC (.str [97,116])) (aC (eV 2) aN))) aN)))))) aN)) aN) (gN 2))
  sNx))
  (sSq (sRe (eV 2))
  sNx)))))
/-- _law_own_kind(0 value, 1 sign) -/
def m__law_own_kind (r : Nat → FSem) : SM := (sSq (sIf (tAn (tV (eA fIsi (aC (eV 0) (aC (eC (.ty .int)) aN)))) (tN (tV (eA fIsi (aC (eV 0) (aC (eC (.ty .bool)) aN)))))) (sSq (sRe (eIf (tV (e2 bLe (eA fAbs (aC (eV 0) aN)) (e2 bPow (eC (.int (10))) (eC (.int (12)))))) (eC (.str [105,110,116])) (eC .non)))
  sNx) sNx)
  (sSq (sIf (tOr' (tN (tV (eA fIsi (aC (eV 0) (aC (eC (.ty .str)) aN))))) (tN (tV (e2c bLe bLe (eC (.int (1))) (eA fLen (aC (eV 0) aN)) (eC (.int (12))))))) (sSq (sRe (eC .non))
  sNx) sNx)
  (sSq (sRe (eIf (tV (eA fAll (aC (eLc false (iA (eV 0)) (gN 1) tYe (e2 (bIn false) (eV 1) (eC (.str t1))) [1]) aN))) (eC (.str [119,111,114,100])) (eC .non)))
  sNx)))
/-- _law_own_name(0 value, 1 words, 2 sign) -/
def m__law_own_name (r : Nat → FSem) : SM := (sSq (sAs (eC (.str t5)) (gN 1))
  (sSq (sAs (e2 (bAdd false) (eV 1) (eC (.str t4))) (gN 1))
  (sSq (sAs (e2 (bAdd false) (eV 1) (eC (.str t3))) (gN 1))
  (sSq (sAs (eMt isStrD (mSplit false) (e2 (bAdd false) (eV 1) (eC (.str t2))) (aC (eC (.str [32])) aN)) (gN 1))
  (sSq (sIf (tOr' (tN (tV (eA fIsi (aC (eV 0) (aC (eC (.ty .str)) aN))))) (tOr' (tN (tV (e2c bLe bLe (eC (.int (1))) (eA fLen (aC (eV 0) aN)) (eC (.int (8)))))) (tOr' (tV (e2 (bIn false) (eV 0) (eV 1))) (tV (e2 (bIn false) (e2 bIx (eV 0) (eC (.int (0)))) (eC (.str [48,49,50,51,52,53,54,55,56,57]))))))) (sSq (sRe (eC (.bl false)))
  sNx) sNx)
  (sSq (sRe (eA fAll (aC (eLc false (iA (eV 0)) (gN 2) tYe (e2 (bIn false) (eV 2) (eC (.str t1))) [2]) aN)))
  sNx))))))
/-- _law_sign(0 pot) -/
def m__law_sign (r : Nat → FSem) : SM := (sSq (sRe (eCl (r 15) 2 2 0 [0, 1] (aC (eV 0) (aC (eA (fLst false) (aC (eC (.str [97])) (aC (eC (.str [122])) (aC (eC (.str [113])) (aC (eC (.str [48])) (aC (eC (.str [57])) (aC (eC (.str [109])) (aC (eC (.str [116])) (aC (eC (.str [101])) (aC (eC (.str [65])) (aC (eC (.str [95])) (aC (eC (.str [32])) (aC (eC (.str [45])) (aC (eC (.str [46])) (aC (eC (.str [])) aN))))))))))))))) aN)) aN))
  sNx)
/-- _law_values(0 pot, 1 words, 2 edge, 3 some, 4 lap) -/
def m__law_values (r : Nat → FSem) : SM := (sSq (sAs (eA (fLst true) (aC (eC (.str [115,111,117,114,99,101])) (aC (eC (.str [97,116])) (aC (eC (.str [97,116,120])) (aC (eC (.str [110,111,119])) (aC (eC (.str [116,114,117,101])) (aC (eC (.str [105,110,116])) (aC (eC (.str [105,110,116,115])) (aC (eC (.str [115,112,114,101,97,100])) (aC (eC (.str [115,112,114,101,97,100,115,49])) (aC (eC (.str [97,98,99,100,101,102,103,104])) aN))))))))))) (gN 1))
  (sSq (sEx (eMt isLstD mExt (eV 1) (aC (eA (fLst false) (aC (eC (.str [97,98,99,100,101,102,103,104,105])) (aC (eC (.str [112,49])) (aC (eC (.str [49,112])) aN)))) aN)))
  (sSq (sAs (e2 bPow (eC (.int (10))) (eC (.int (12)))) (gN 2))
  (sSq (sAs (eLc true (iR (aC (eC (.int (8))) aN)) (gN 4) tYe (eMt isStrD mJoin (eC (.str [])) (aC (eLc false (iR (aC (e2 (bAdd false) (eC (.int (1))) (eCl (r 14) 2 2 0 [0, 1] (aC (eV 0) (aC (eC (.int (13))) aN)) aN)) aN)) (gN 4) tYe (eCl (r 20) 1 1 0 [0] (aC (eV 0) aN) aN) [4]) aN)) [4]) (gN 3))
  (sSq (sFo (iR (aC (eC (.int (4))) aN)) (gN 4) (sSq (sEx (eMt isLstD mApp (eV 3) (aC (eMt isStrD mJoin (eC (.str [])) (aC (eLc false (iR (aC (e2 (bAdd false) (eC (.int (7))) (eCl (r 14) 2 2 0 [0, 1] (aC (eV 0) (aC (eC (.int (7))) aN)) aN)) aN)) (gN 4) tYe (eCl (r 15) 2 2 0 [0, 1] (aC (eV 0) (aC (eA (fLst false) (aC (eC (.str [97])) (aC (eC (.str [98])) (aC (eC (.str [55])) aN)))) aN)) aN) [4]) aN)) aN)))
  sNx))
  (sSq (sEx (eMt isLstD mExt (eV 3) (aC (eLc false (iR (aC (eC (.int (5))) aN)) (gN 4) tYe (eCl (r 15) 2 2 0 [0, 1] (aC (eV 0) (aC (eV 1) aN)) aN) [4]) aN)))
  (sSq (sRe (e2 (bAdd false) (eV 3) (eA (fLst false) (aC (eV 2) (aC (e2 (bAdd false) (eV 2) (eC (.int (1)))) (aC (e1 uNeg (eV 2)) (aC (e2 bSub (e1 uNeg (eV 2)) (eC (.int (1)))) (aC (eC (.bl true)) (aC (eC .non) (aC (eCl (r 17) 1 1 0 [0] (aC (eV 0) aN) aN) (aC (eC (.int (0))) aN)))))))))))
  sNx)))))))
/-- _law_right(0 pot, 1 value, 2 kind, 3 is_great, 4 its, 5 shape, 6 due) -/
def m__law_right (r : Nat → FSem) : SM := (sSq (sFo (iA (eCl (r 21) 1 1 0 [0] (aC (eV 0) aN) aN)) (gN 1) (sSq (sAs (eCl (r 18) 1 1 0 [0] (aC (eV 1) aN) aN) (gN 2))
  (sSq (sIf (tOr' (tV (e2 bNe (eCl (r 8) 1 0 1 [0] aN (aC (eV 1) aN)) (eV 2))) (tV (e2 bNe (eCl (r 9) 1 0 1 [0] aN (aC (eV 1) aN)) (e2 (bIs true) (eV 2) (eC .non))))) (sSq (sRe (eC (.bl false)))
  sNx) sNx)
  (sSq (sIf (tV (e2 bNe (eCl (r 3) 1 0 1 [0] aN (aC (eV 1) aN)) (eCl (r 19) 1 1 0 [0] (aC (eV 1) aN) aN))) (sSq (sRe (eC (.bl false)))
  sNx) sNx)
  (sSq (sAs (eAn (eA fIsi (aC (eV 1) (aC (eC (.ty .int)) aN))) (eNo (eA fIsi (aC (eV 1) (aC (eC (.ty .bool)) aN))))) (gN 3))
  (sSq (sIf (tOr' (tV (e2 bNe (eCl (r 7) 2 0 2 [0, 1] aN (aC (eC (.str [105,110,116])) (aC (eV 1) aN))) (eV 3))) (tV (e2 bNe (eCl (r 7) 2 2 0 [0, 1] (aC (eC (.str [119,111,114,100])) (aC (eV 1) aN)) aN) (e2 bEq (eV 2) (eC (.str [119,111,114,100])))))) (sSq (sRe (eC (.bl false)))
  sNx) sNx)
  (sSq (sFo (iA (eA fTup (aC (eC (.str [105,110,116])) (aC (eC (.str [119,111,114,100])) aN)))) (gN 4) (sSq (sAs (eA fTup (aC (eA fTup (aC (eV 1) (aC (eC (.str [105,110,116])) (aC (eC (.int (3))) aN)))) (aC (eA fTup (aC (eC (.str [122,122])) (aC (eV 4) (aC (eV 1) aN)))) aN))) (gN 5))
  (sSq (sAs (eAn (eCl (r 19) 1 1 0 [0] (aC (eV 1) aN) aN) (eAn (e2 bEq (eV 2) (eV 4)) (e2 bNe (eV 1) (eC (.str [122,122]))))) (gN 6))
  (sSq (sIf (tOr' (tV (e2 bNe (eCl (r 11) 1 0 1 [0] aN (aC (eSl false (eV 5) oN (oS (eC (.int (1))))) aN)) (eCl (r 19) 1 1 0 [0] (aC (eV 1) aN) aN))) (tV (e2 bNe (eCl (r 11) 1 1 0 [0] (aC (eSl false (eV 5) (oS (eC (.int (1)))) oN) aN) aN) (e2 bEq (eV 2) (eV 4))))) (sSq (sRe (eC (.bl false)))
  sNx) sNx)
  (sSq (sIf (tV (e2 bNe (eCl (r 11) 1 0 1 [0] aN (aC (eV 5) aN)) (eV 6))) (sSq (sRe (eC (.bl false)))
  sNx) sNx)
  sNx)))))
  sNx)))))))
  (sSq (sRe (eAn (e2 (bIs false) (eCl (r 11) 1 1 0 [0] (aC (eA fTup aN) aN) aN) (eC (.bl false))) (e2 (bIs false) (eCl (r 11) 1 0 1 [0] aN (aC (eC .non) aN)) (eC (.bl false)))))
  sNx))
/-- law(0 script, 1 place, 2 pot, 3 lap) -/
def m_law (r : Nat → FSem) : SM := (sSq (sFo (iA (eCl (r 16) 2 2 0 [0, 1] (aC (eV 0) (aC (eC (.int (3))) aN)) aN)) (gN 1) (sSq (sAs (eCl (r 13) 2 2 0 [0, 1] (aC (eV 0) (aC (eV 1) aN)) aN) (gN 2))
  (sSq (sIf (tN (tV (eA fAll (aC (eLc false (iR (aC (eC (.int (3))) aN)) (gN 3) tYe (eCl (r 22) 1 1 0 [0] (aC (eV 2) aN) aN) [3]) aN)))) (sSq (sRe (eC (.bl false)))
  sNx) sNx)
  sNx)))
  (sSq (sRe (eC (.bl true)))
  sNx))
theorem e_is_integer (g : Gm) (n : Nat) : runP g P (n + 1) 0 = runD false 0 1 (m_is_integer (runP g P n)) := by kernel_rfl
theorem e_is_between (g : Gm) (n : Nat) : runP g P (n + 1) 1 = runD false 0 3 (m_is_between (runP g P n)) := by kernel_rfl
theorem e_is_of_signs (g : Gm) (n : Nat) : runP g P (n + 1) 2 = runD false 0 3 (m_is_of_signs (runP g P n)) := by kernel_rfl
theorem e_is_name (g : Gm) (n : Nat) : runP g P (n + 1) 3 = runD false 0 1 (m_is_name (runP g P n)) := by kernel_rfl
theorem e_is_word (g : Gm) (n : Nat) : runP g P (n + 1) 4 = runD false 0 1 (m_is_word (runP g P n)) := by kernel_rfl
theorem e_are_unlike (g : Gm) (n : Nat) : runP g P (n + 1) 5 = runD false 0 2 (m_are_unlike (runP g P n)) := by kernel_rfl
theorem e_is_kind (g : Gm) (n : Nat) : runP g P (n + 1) 6 = runD false 0 1 (m_is_kind (runP g P n)) := by kernel_rfl
theorem e_is_kind_of (g : Gm) (n : Nat) : runP g P (n + 1) 7 = runD false 0 2 (m_is_kind_of (runP g P n)) := by kernel_rfl
theorem e_kind_of (g : Gm) (n : Nat) : runP g P (n + 1) 8 = runD false 0 1 (m_kind_of (runP g P n)) := by kernel_rfl
theorem e_is_value (g : Gm) (n : Nat) : runP g P (n + 1) 9 = runD false 0 1 (m_is_value (runP g P n)) := by kernel_rfl
theorem e_is_column (g : Gm) (n : Nat) : runP g P (n + 1) 10 = runD false 0 1 (m_is_column (runP g P n)) := by kernel_rfl
theorem e_is_shape (g : Gm) (n : Nat) : runP g P (n + 1) 11 = runD false 0 2 (m_is_shape (runP g P n)) := by kernel_rfl
theorem e_names_in (g : Gm) (n : Nat) : runP g P (n + 1) 12 = runD false 0 2 (m_names_in (runP g P n)) := by kernel_rfl
theorem e__law_pot (g : Gm) (n : Nat) : runP g P (n + 1) 13 = runD true 0 5 (m__law_pot (runP g P n)) := by kernel_rfl
theorem e__law_take (g : Gm) (n : Nat) : runP g P (n + 1) 14 = runD false 0 5 (m__law_take (runP g P n)) := by kernel_rfl
theorem e__law_of (g : Gm) (n : Nat) : runP g P (n + 1) 15 = runD false 0 2 (m__law_of (runP g P n)) := by kernel_rfl
theorem e__law_cells (g : Gm) (n : Nat) : runP g P (n + 1) 16 = runD false 0 2 (m__law_cells (runP g P n)) := by kernel_rfl
theorem e__law_odd (g : Gm) (n : Nat) : runP g P (n + 1) 17 = runD false 0 4 (m__law_odd (runP g P n)) := by kernel_rfl
theorem e__law_own_kind (g : Gm) (n : Nat) : runP g P (n + 1) 18 = runD false 0 2 (m__law_own_kind (runP g P n)) := by kernel_rfl
theorem e__law_own_name (g : Gm) (n : Nat) : runP g P (n + 1) 19 = runD false 0 3 (m__law_own_name (runP g P n)) := by kernel_rfl
theorem e__law_sign (g : Gm) (n : Nat) : runP g P (n + 1) 20 = runD false 0 1 (m__law_sign (runP g P n)) := by kernel_rfl
theorem e__law_values (g : Gm) (n : Nat) : runP g P (n + 1) 21 = runD false 0 5 (m__law_values (runP g P n)) := by kernel_rfl
theorem e__law_right (g : Gm) (n : Nat) : runP g P (n + 1) 22 = runD false 0 7 (m__law_right (runP g P n)) := by kernel_rfl
theorem e_law (g : Gm) (n : Nat) : runP g P (n + 1) 23 = runD false 0 4 (m_law (runP g P n)) := by kernel_rfl

end Zk
end

/-! M1 -/
noncomputable section
namespace Zk
open PySem PySem.Spec L2 Zs
open PyProof.Rows hiding St
open Classical
variable (g : Gm)
theorem two : 2 ≤ sizeLine := by rw [sizeLine_eq]; omega
def isIntD : D → Bool
  | .int _ => true
  | _ => false
theorem s_is_integer {n : Nat} (hn : 1 ≤ n) {d : D} {h : HP} (v : okV d = true) : runP g P n 0 [d] h = .ok (.bl (isIntD d)) h := by
  obtain ⟨m, rfl, _⟩ := succ_of hn
  rw [e_is_integer]
  refine runD_same ?_ rfl
  show m_is_integer _ [some d] h = _
  unfold m_is_integer
  cases d <;> first | (cases v; done) | simp [tyOfD, isiT, isIntD]
def betw (a b : Int) : D → Bool
  | .int i => decide (a ≤ i) && decide (i ≤ b)
  | _ => false
theorem s_is_between {n : Nat} (hn : 2 ≤ n) {d : D} {h : HP} {a b : Int} (v : okV d = true) : runP g P n 1 [d, .int a, .int b] h = .ok (.bl (betw a b d)) h := by
  obtain ⟨m, rfl, hm⟩ := succ_of hn
  rw [e_is_between]
  refine runD_same ?_ rfl
  show m_is_between _ [some d, some (.int a), some (.int b)] h = _
  unfold m_is_between
  have e := s_is_integer g hm (h := h) v
  cases d <;> first | (cases v; done) | simp [e, isIntD, betw]
def smallL : List Nat := [97,98,99,100,101,102,103,104,105,106,107,108,109,110,111,112,113,114,115,116,117,118,119,120,121,122]
def figL : List Nat := [48,49,50,51,52,53,54,55,56,57]
theorem c_small : c_SMALL = .str smallL := rfl
theorem c_fig : c_FIGURES = .str figL := rfl
def sign (c : Nat) : Bool := decide (c ∈ smallL) || decide (c ∈ figL)
def signs (m : Int) : D → Bool
  | .str s => decide (1 ≤ (s.length : Int)) && decide ((s.length : Int) ≤ m) && s.all sign
  | _ => false
theorem s_is_of_signs {n : Nat} (hn : 1 ≤ n) {d : D} {h : HP} {k : Int} (v : okV d = true) (hz : ∀ s, d = .str s → s.length ≤ sizeLine) : runP g P n 2 [d, .int k] h = .ok (.bl (signs k d)) h := by
  obtain ⟨m, rfl, _⟩ := succ_of hn
  rw [e_is_of_signs]
  refine runD_same ?_ rfl
  show m_is_of_signs _ [some d, some (.int k), none] h = _
  unfold m_is_of_signs
  cases d with
  | str s =>
    obtain ⟨ys, e1, e2, _⟩ := all_map (ρ := [some (.str s), some (.int k), none]) (h := h) (it := iA (eV 0)) (t := gN 2) (e := eOr (e2 (bIn false) (eV 2) (eC c_SMALL)) (e2 (bIn false) (eV 2) (eC c_FIGURES))) (vs := [2]) (fun c => .str [c]) sign rfl rfl trivial (hz s rfl)
      fun c _ => ⟨[some (.str s), some (.int k), some (.str [c])], rfl, by simp [c_small, c_fig, sign]⟩
    simp [tyOfD, isiT, signs]
    by_cases h1 : 1 ≤ (s.length : Int) <;> by_cases h2 : (s.length : Int) ≤ k <;> simp [h1, h2, e1, e2]
  | _ => first | (cases v; done) | simp [tyOfD, isiT, signs]
def resL : List (List Nat) := [[115,111,117,114,99,101],[104,111,117,115,101],[112,101,114,115,111,110],[118,105,101,119],[103,114,97,110,116],[115,117,109,115],[112,117,116],[116,97,107,101],[103,114,111,119],[99,108,111,99,107],[110,101,119],[97,100,100],[100,114,111,112],[110,97,109,101],[102,105,114,115,116],[99,111,108],[118,97,108],[112,108,117,115],[108,101,115,115],[116,105,109,101,115],[110,111,119],[116,114,117,101],[115,97,109,101],[98,101,108,111,119],[110,111,116],[98,111,116,104],[101,105,116,104,101,114],[111,102],[107,101,101,112],[111,110,108,121],[106,111,105,110],[111,110,99,101],[103,114,111,117,112],[115,112,114,101,97,100],[99,111,117,110,116],[115,117,109],[108,101,97,115,116],[109,111,115,116],[108,101,116,116,101,114],[112,97,115,115],[102,97,108,108],[114,105,115,101],[97,115,107],[105,110,116],[119,111,114,100],[97,116]]
theorem c_res : c_RESERVED = .tup (strsD resL) := rfl
/-- what may be given -/
def good (d : D) : Prop := okV d = true ∧ ∀ s, d = .str s → s.length ≤ sizeLine
def nameB : D → Bool
  | .str s => signs 8 (.str s) && ((match s with | c :: _ => decide (c ∈ smallL) | [] => false) && !decide (s ∈ resL))
  | _ => false
theorem s_is_name {n : Nat} (hn : 2 ≤ n) {d : D} {h : HP} (v : good d) : runP g P n 3 [d] h = .ok (.bl (nameB d)) h := by
  obtain ⟨m, rfl, hm⟩ := succ_of hn
  rw [e_is_name]
  refine runD_same ?_ rfl
  show m_is_name _ [some d] h = _
  unfold m_is_name
  have e : runP g P m 2 [d, c_MOST_NAME] h = _ := s_is_of_signs g hm (h := h) (k := 8) v.1 v.2
  cases hs : signs 8 d with
  | false =>
    rw [hs] at e
    have : nameB d = false := by
      cases d <;> first | rfl | simp [nameB, hs]
    simp [e, this]
  | true =>
    cases d with
    | str s =>
      cases s with
      | nil => cases hs
      | cons c s =>
        rw [hs] at e
        have e2 : bIn true (.str (c :: s)) c_RESERVED h = _ := w_inStrs (h := h) (neg := true) (s := c :: s) (y := c_RESERVED) (l := resL) rfl
        simp [e, c_small, e2, nameB, hs]
    | _ => cases hs
theorem s_is_word {n : Nat} (hn : 2 ≤ n) {d : D} {h : HP} (v : good d) : runP g P n 4 [d] h = .ok (.bl (signs 12 d)) h := by
  obtain ⟨m, rfl, hm⟩ := succ_of hn
  rw [e_is_word]
  refine runD_same ?_ rfl
  show m_is_word _ [some d] h = _
  unfold m_is_word
  have e : runP g P m 2 [d, c_MOST_WORD] h = _ := s_is_of_signs g hm (h := h) (k := 12) v.1 v.2
  simp [e]
def tInt : List Nat := [105,110,116]
def tWord : List Nat := [119,111,114,100]
/-- a value's kind: int, word, none -/
def kd (d : D) : Option Bool := if betw (-1000000000000) 1000000000000 d = true then some true else if signs 12 d = true then some false else none
def kV : Option Bool → D
  | some true => .str tInt
  | some false => .str tWord
  | none => .non
theorem s_kind_of {n : Nat} (hn : 3 ≤ n) {d : D} {h : HP} (v : good d) : runP g P n 8 [d] h = .ok (kV (kd d)) h := by
  obtain ⟨m, rfl, hm⟩ := succ_of hn
  rw [e_kind_of]
  refine runD_same ?_ (by cases kd d with | none => rfl | some b => cases b <;> rfl)
  show m_kind_of _ [some d] h = _
  unfold m_kind_of
  have e1 : runP g P m 1 [d, .int (0 - 1000000000000), .int 1000000000000] h = _ := s_is_between g hm (h := h) (a := 0 - 1000000000000) (b := 1000000000000) v.1
  have e2 := s_is_word g hm (h := h) v
  have c1 : c_MOST_VALUE = .int 1000000000000 := rfl
  have c2 : c_INT = .str tInt := rfl
  have c3 : c_WORD = .str tWord := rfl
  have z : (0 - 1000000000000 : Int) = -1000000000000 := by decide
  rw [z] at e1
  simp only [w_sSq, w_sIf, w_tV, w_eCl, w_aC, w_aN, w_eV, w_eC, w_e2, List.getElem?_cons_zero, w_ok, c1, w_subI, z, w_sRe, w_eIf, c2, c3]
  simp [e1, e2, kd]
  cases h1 : betw (-1000000000000) 1000000000000 d <;> cases h2 : signs 12 d <;> simp [kV, e2, h2]
theorem s_is_value {n : Nat} (hn : 4 ≤ n) {d : D} {h : HP} (v : good d) : runP g P n 9 [d] h = .ok (.bl (kd d).isSome) h := by
  obtain ⟨m, rfl, hm⟩ := succ_of hn
  rw [e_is_value]
  refine runD_same ?_ rfl
  show m_is_value _ [some d] h = _
  unfold m_is_value
  have e := s_kind_of g hm (h := h) v
  simp [e]
  cases kd d with
  | none => rfl
  | some b => cases b <;> rfl
theorem s_is_kind {n : Nat} (hn : 1 ≤ n) {b : Bool} {h : HP} : runP g P n 6 [kV (some b)] h = .ok (.bl true) h := by
  obtain ⟨m, rfl, hm⟩ := succ_of hn
  rw [e_is_kind]
  refine runD_same ?_ rfl
  show m_is_kind _ [some (kV (some b))] h = _
  unfold m_is_kind
  have e1 : bIn false (.str tInt) c_KINDS h = _ := w_inStrs (h := h) (neg := false) (s := tInt) (y := c_KINDS) (l := [tInt, tWord]) rfl
  have e2 : bIn false (.str tWord) c_KINDS h = _ := w_inStrs (h := h) (neg := false) (s := tWord) (y := c_KINDS) (l := [tInt, tWord]) rfl
  cases b <;> simp [kV, e1, e2, tyOfD, isiT]
theorem s_is_kind_of {n : Nat} (hn : 3 ≤ n) {d : D} {h : HP} (v : good d) : runP g P n 7 [.str tInt, d] h = .ok (.bl (isIntD d)) h ∧ runP g P n 7 [.str tWord, d] h = .ok (.bl (signs 12 d)) h := by
  obtain ⟨m, rfl, hm⟩ := succ_of hn
  have e1 := s_is_integer g (n := m) (by omega) (h := h) v.1
  have e2 := s_is_word g (n := m) (by omega) (h := h) v
  have c2 : c_INT = .str tInt := rfl
  have z : ¬ (tWord = tInt) := by decide
  constructor
  · rw [e_is_kind_of]
    refine runD_same ?_ rfl
    show m_is_kind_of _ [some (.str tInt), some d] h = _
    unfold m_is_kind_of
    simp [e1, c2]
  · rw [e_is_kind_of]
    refine runD_same ?_ rfl
    show m_is_kind_of _ [some (.str tWord), some d] h = _
    unfold m_is_kind_of
    simp [e2, c2, z]
theorem ix3 {a b c : D} {h : HP} : bIx (.tup [a, b, c]) (.int 0) h = .ok a h ∧ bIx (.tup [a, b, c]) (.int 1) h = .ok b h ∧ bIx (.tup [a, b, c]) (.int 2) h = .ok c h := ⟨rfl, rfl, rfl⟩
theorem eq_kV {k : Option Bool} {b : Bool} {h : HP} : bEq (kV k) (kV (some b)) h = .ok (.bl (decide (k = some b))) h := by
  cases k with
  | none => cases b <;> rfl
  | some a => cases a <;> cases b <;> rfl
def colB (a c : D) (b : Bool) : Bool := nameB a && decide (kd c = some b)
theorem s_is_column {n : Nat} (hn : 4 ≤ n) {a c : D} {b : Bool} {h : HP} (va : good a) (vc : good c) : runP g P n 10 [.tup [a, kV (some b), c]] h = .ok (.bl (colB a c b)) h := by
  obtain ⟨m, rfl, hm⟩ := succ_of hn
  rw [e_is_column]
  refine runD_same ?_ rfl
  show m_is_column _ [some (.tup [a, kV (some b), c])] h = _
  unfold m_is_column
  have e1 := s_is_name g (n := m) (by omega) (h := h) va
  have e2 := s_is_kind g (n := m) (by omega) (h := h) (b := b)
  have e3 := s_kind_of g (n := m) (by omega) (h := h) vc
  obtain ⟨x0, x1, x2⟩ := ix3 (a := a) (b := kV (some b)) (c := c) (h := h)
  have e4 := eq_kV (k := kd c) (b := b) (h := h)
  cases hb : nameB a <;> rw [hb] at e1 <;> simp [x0, x1, x2, e1, e2, e3, e4, tyOfD, isiT, colB, hb]
/-! ### shapes -/
abbrev Col := D × Bool × D
def colD (c : Col) : D := .tup [c.1, kV (some c.2.1), c.2.2]
def colsB (c : Col) : Bool := colB c.1 c.2.2 c.2.1
theorem s_names_in {n : Nat} (hn : 1 ≤ n) {cs : List Col} {h : HP} (hz : cs.length ≤ 8) (v : ∀ c ∈ cs, nn 0 c.1 = true) : runP g P n 12 [.tup (cs.map colD)] h = .ok (.lst (cs.map (·.1))) h := by
  obtain ⟨m, rfl, hm⟩ := succ_of hn
  rw [e_names_in]
  refine runD_same ?_ (by
    show nnL _ _ = true
    exact nnL_all.mpr fun x hx => by
      obtain ⟨c, hc, rfl⟩ := List.mem_map.mp hx
      exact nn_mono (Nat.zero_le _) _ (v c hc))
  show m_names_in _ [some (.tup (cs.map colD)), none] h = _
  have e := eLc_map (ρ := [some (.tup (cs.map colD)), none]) (h := h) (it := iA (eV 0)) (t := gN 1) (e := e2 bIx (eV 1) (eC (.int 0))) (vs := [1]) (m := ⟨cs.map colD, fun _ => True⟩) (fun d => match d with
    | .tup (a :: _) => a
    | _ => .non) rfl trivial (fun d hd => by
      obtain ⟨c, hc, rfl⟩ := List.mem_map.mp hd
      exact ⟨[some (.tup (cs.map colD)), some (colD c)], rfl, rfl⟩) (by rw [List.length_map, sizeLine_eq]; omega)
  unfold m_names_in
  simp only [w_sSq, w_sRe, e, w_lift]
  simp only [List.map_map]
  rfl
theorem eq_lens {i j : Nat} {h : HP} : bEq (.int (i : Int)) (.int (j : Int)) h = .ok (.bl (decide (i = j))) h := by
  rw [w_eqI]
  have : ((i : Int) = (j : Int)) = (i = j) := propext ⟨fun z => by omega, fun z => by rw [z]⟩
  simp only [this]
theorem s_unlike1 {n : Nat} (hn : 1 ≤ n) {a : List Nat} {h : HP} : runP g P n 5 [.lst [.str a]] h = .ok (.bl true) h := by
  obtain ⟨m, rfl, hm⟩ := succ_of hn
  rw [e_are_unlike]
  exact runD_same (n := 2) (show m_are_unlike _ [some (.lst [.str a]), none] h = _ by
    have e := eLc_map (ρ := [some (.lst [.str a]), none]) (h := h) (it := iA (eV 0)) (t := gN 1) (e := eA fTup (aC (eV 1) (aC (eC (.bl true)) aN))) (vs := [1]) (m := ⟨[.str a], fun h' => lrOf (.lst [.str a]) h' = some [.str a]⟩) (fun d => .tup [d, .bl true]) rfl rfl (fun d hd => ⟨[some (.lst [.str a]), some d], rfl, by
      simp [fTup, two]⟩) (by show 1 ≤ sizeLine; rw [sizeLine_eq]; omega)
    unfold m_are_unlike
    simp only [w_sSq, w_sRe, w_e2, w_eA, w_aC, w_aN, e, w_ok, w_eV, List.getElem?_cons_zero, w_lift]
    rfl) rfl
theorem s_unlike2 {n : Nat} (hn : 1 ≤ n) {a b : List Nat} {h : HP} : runP g P n 5 [.lst [.str a, .str b]] h = .ok (.bl (decide (a ≠ b))) h := by
  obtain ⟨m, rfl, hm⟩ := succ_of hn
  rw [e_are_unlike]
  exact runD_same (n := 2) (show m_are_unlike _ [some (.lst [.str a, .str b]), none] h = _ by
    have e := eLc_map (ρ := [some (.lst [.str a, .str b]), none]) (h := h) (it := iA (eV 0)) (t := gN 1) (e := eA fTup (aC (eV 1) (aC (eC (.bl true)) aN))) (vs := [1]) (m := ⟨[.str a, .str b], fun h' => lrOf (.lst [.str a, .str b]) h' = some [.str a, .str b]⟩) (fun d => .tup [d, .bl true]) rfl rfl (fun d hd => ⟨[some (.lst [.str a, .str b]), some d], rfl, by
      simp [fTup, two]⟩) (by show 2 ≤ sizeLine; rw [sizeLine_eq]; omega)
    have ed : fDict1 false [.lst [.tup [.str a, .bl true], .tup [.str b, .bl true]]] h = .ok (.dct (if a = b then [(.str a, .bl true)] else [(.str a, .bl true), (.str b, .bl true)])) h := by
      show (match Zs.putAll [] [(.str a, .bl true), (.str b, .bl true)] with
        | some ds => mkD false ds h
        | none => .bad) = _
      by_cases z : a = b
      · subst z
        simp [Zs.putAll, kyOf, putD, kyIs, mkD]
      · have z2 : ¬ (Ky.str a = Ky.str b) := fun q => z (by injection q)
        simp [Zs.putAll, kyOf, putD, kyIs, mkD, z, z2]
    unfold m_are_unlike
    simp only [w_sSq, w_sRe, w_e2, w_eA, w_aC, w_aN, e, w_ok, w_eV, List.getElem?_cons_zero, w_lift, List.map_cons, List.map_nil, ed]
    by_cases z : a = b
    · simp [z, fLen, sqOf, dcOf]
    · simp [z, fLen, sqOf, dcOf]) rfl
theorem nameB_str {d : D} (h : nameB d = true) : ∃ s, d = .str s := by
  cases d <;> first | (cases h; done) | exact ⟨_, rfl⟩
def unl : List Col → Bool
  | [x, y] => (match x.1, y.1 with
    | .str a, .str b => decide (a ≠ b)
    | _, _ => false)
  | _ => true
theorem s_is_shape {n : Nat} (hn : 5 ≤ n) {cs : List Col} {h : HP} (h1 : cs = [] ∨ (∃ x, cs = [x]) ∨ ∃ x y, cs = [x, y]) (v : ∀ c ∈ cs, good c.1 ∧ good c.2.2) : runP g P n 11 [.tup (cs.map colD)] h = .ok (.bl (!cs.isEmpty && (cs.all colsB && unl cs))) h := by
  obtain ⟨m, rfl, hm⟩ := succ_of hn
  have hl : cs.length ≤ 2 := by rcases h1 with rfl | ⟨x, rfl⟩ | ⟨x, y, rfl⟩ <;> simp
  rw [e_is_shape]
  refine runD_same ?_ rfl
  show m_is_shape _ [some (.tup (cs.map colD)), none] h = _
  obtain ⟨ys, e1, e2, _⟩ := all_map (ρ := [some (.tup (cs.map colD)), none]) (h := h) (it := iA (eV 0)) (t := gN 1) (e := eCl (runP g P m 10) 1 1 0 [0] (aC (eV 1) aN) aN) (vs := [1]) (m := ⟨cs.map colD, fun _ => True⟩) colD colsB rfl rfl trivial (by rw [sizeLine_eq]; omega)
    fun c hc => ⟨[some (.tup (cs.map colD)), some (colD c)], rfl, by
      have := s_is_column g (n := m) (by omega) (h := h) (b := c.2.1) (v c hc).1 (v c hc).2
      simp [colD, colsB, this]⟩
  have en := s_names_in g (n := m) (by omega) (cs := cs) (h := h) (by omega) (fun c hc => okV_nn (v c hc).1.1 0)
  have lenT : fLen [.tup (cs.map colD)] h = .ok (.int cs.length) h := by simp
  have cm : c_MOST_COLUMNS = .int 8 := rfl
  have s2 : ((cs.length : Nat) : Int) ≤ 8 := by omega
  unfold m_is_shape
  rcases h1 with rfl | ⟨x, rfl⟩ | ⟨x, y, rfl⟩
  · simp [tyOfD, isiT, cm]
  · cases hb : colsB x with
    | false =>
      simp only [List.map_cons, List.map_nil] at e1
      simp [tyOfD, isiT, cm, e1, e2, hb]
    | true =>
      have hn1 : nameB x.1 = true := by
        have : (nameB x.1 && _) = true := hb
        exact (Bool.and_eq_true_iff.mp this).1
      obtain ⟨a, ha⟩ := nameB_str hn1
      have eu := s_unlike1 g (n := m) (by omega) (a := a) (h := h)
      simp only [List.map_cons, List.map_nil] at e1 en
      rw [ha] at en
      simp [tyOfD, isiT, cm, e1, e2, hb, en, eu, unl]
  · cases hb : [x, y].all colsB with
    | false => simp only [List.map_cons, List.map_nil] at e1; simp only [hb] at e2; simp [tyOfD, isiT, cm, e1, e2]
    | true =>
      have hb' : colsB x = true ∧ colsB y = true := by simpa using hb
      have hn1 : nameB x.1 = true := by
        have : (nameB x.1 && _) = true := hb'.1
        exact (Bool.and_eq_true_iff.mp this).1
      have hn2 : nameB y.1 = true := by
        have : (nameB y.1 && _) = true := hb'.2
        exact (Bool.and_eq_true_iff.mp this).1
      obtain ⟨a, ha⟩ := nameB_str hn1
      obtain ⟨b, hb2⟩ := nameB_str hn2
      have eu := s_unlike2 g (n := m) (by omega) (a := a) (b := b) (h := h)
      simp only [List.map_cons, List.map_nil] at e1 en
      rw [ha, hb2] at en
      simp only [hb] at e2
      simp [tyOfD, isiT, cm, e1, e2, hb'.1, hb'.2, en, eu, unl, ha, hb2]
theorem s_shape_non {n : Nat} (hn : 1 ≤ n) {h : HP} : runP g P n 11 [.non] h = .ok (.bl false) h := by
  obtain ⟨m, rfl, hm⟩ := succ_of hn
  rw [e_is_shape]
  refine runD_same ?_ rfl
  show m_is_shape _ [some .non, none] h = _
  unfold m_is_shape
  simp [tyOfD, isiT]
/-! ### the law's own -/
theorem all_sign (c : Nat) : decide (c ∈ t1) = sign c := by
  have : t1 = smallL ++ figL := rfl
  rw [this]
  unfold sign
  rw [Bool.eq_iff_iff, Bool.or_eq_true, decide_eq_true_eq, decide_eq_true_eq, decide_eq_true_eq, List.mem_append]
theorem s_own_kind {n : Nat} (hn : 1 ≤ n) {d : D} {h : HP} (v : good d) : runP g P n 18 [d] h = .ok (kV (kd d)) h := by
  obtain ⟨m, rfl, hm⟩ := succ_of hn
  rw [e__law_own_kind]
  refine runD_same ?_ (by cases kd d with | none => rfl | some b => cases b <;> rfl)
  show m__law_own_kind _ [some d, none] h = _
  unfold m__law_own_kind
  have k1 : D.str [105, 110, 116] = .str tInt := rfl
  have k2 : D.str [119, 111, 114, 100] = .str tWord := rfl
  have q : bPow (.int 10) (.int 12) h = .ok (.int 1000000000000) h := m_pow (n := 12) (k := 4) (by decide) (by decide)
  cases d with
  | int i =>
    have a1 : fAbs [.int i] h = .ok (.int (if i < 0 then -i else i)) h := rfl
    have a2 : decide ((if i < 0 then -i else i) ≤ 1000000000000) = betw (-1000000000000) 1000000000000 (.int i) := by
      unfold betw
      rw [Bool.eq_iff_iff, Bool.and_eq_true, decide_eq_true_eq, decide_eq_true_eq, decide_eq_true_eq]
      split <;> omega
    simp [tyOfD, isiT, a1, q, a2, k1, kd]
    have s0 : signs 12 (.int i) = false := rfl
    cases h1 : betw (-1000000000000) 1000000000000 (.int i) <;> simp [kV, s0]
  | str s =>
    obtain ⟨ys, e1, e2, _⟩ := all_map (ρ := [some (.str s), none]) (h := h) (it := iA (eV 0)) (t := gN 1) (e := e2 (bIn false) (eV 1) (eC (.str t1))) (vs := [1]) (fun c => .str [c]) sign rfl rfl trivial (v.2 s rfl)
      fun c _ => ⟨[some (.str s), some (.str [c])], rfl, by simp [all_sign]⟩
    have b0 : betw (-1000000000000) 1000000000000 (.str s) = false := rfl
    by_cases h1 : 1 ≤ (s.length : Int) <;> by_cases h2 : (s.length : Int) ≤ 12 <;> cases h3 : s.all sign <;> rw [h3] at e2 <;> simp [tyOfD, isiT, h1, h2, e1, e2, kd, b0, signs, h3, kV, k2]
  | _ => first | (cases v.1; done) | simp [tyOfD, isiT, kd, betw, signs, kV]
def wB : List Nat := t5 ++ t4
def wA : List Nat := wB ++ t3
theorem split_words {h : HP} {ρ : Env'} (hl : ρ[1]? = some (some (.str wA))) : (eMt isStrD (mSplit false) (e2 (bAdd false) (eV 1) (eC (.str t2))) (aC (eC (.str [32])) aN)) ρ h = .ok (.lst (strsD resL)) h := by
  have e1 : bAdd false (.str wA) (.str t2) h = .ok (.str (wA ++ t2)) h := add_str (by rw [sizeLine_eq]; decide +kernel)
  have e2 : mSplit false (.str (wA ++ t2)) [.str [32]] h = .ok (.lst (strsD resL)) h := by
    have : TL.spl [32] 0 [] (wA ++ t2) = resL := by decide +kernel
    rw [split_str ⟨by decide, by decide, by rw [sizeLine_eq]; decide +kernel⟩, this]
    rfl
  simp [eMt, hl, e1, e2, isStrD]
theorem fig_small {c : Nat} (h : sign c = true) : decide (c ∈ smallL) = !decide (c ∈ figL) := by
  unfold sign at h
  rw [Bool.or_eq_true, decide_eq_true_eq, decide_eq_true_eq] at h
  have key : ∀ c ∈ smallL, c ∉ figL := by decide
  by_cases z : c ∈ smallL
  · simp [z, key c z]
  · have := h.resolve_left z
    simp [z, this]
theorem s_own_name {n : Nat} (hn : 1 ≤ n) {d : D} {h : HP} (v : good d) : runP g P n 19 [d] h = .ok (.bl (nameB d)) h := by
  obtain ⟨m, rfl, hm⟩ := succ_of hn
  rw [e__law_own_name]
  refine runD_same ?_ rfl
  show m__law_own_name _ [some d, none, none] h = _
  unfold m__law_own_name
  have x1 : bAdd false (.str t5) (.str t4) h = .ok (.str wB) h := add_str (by rw [sizeLine_eq]; decide +kernel)
  have x2 : bAdd false (.str wB) (.str t3) h = .ok (.str wA) h := add_str (by rw [sizeLine_eq]; decide +kernel)
  have x3 := split_words (h := h) (ρ := [some d, some (.str wA), none]) rfl
  have k1 : D.str [48, 49, 50, 51, 52, 53, 54, 55, 56, 57] = .str figL := rfl
  rw [seq_ok (ρ1 := [some d, some (.str t5), none]) (h1 := h) (by simp)]
  rw [seq_ok (ρ1 := [some d, some (.str wB), none]) (h1 := h) (by simp [x1])]
  rw [seq_ok (ρ1 := [some d, some (.str wA), none]) (h1 := h) (by simp [x2])]
  rw [seq_ok (ρ1 := [some d, some (.lst (strsD resL)), none]) (h1 := h) (by rw [w_sAs, x3]; rfl)]
  rw [k1]
  cases d with
  | str s =>
    have e3 : bIn false (.str s) (.lst (strsD resL)) h = _ := w_inStrs (h := h) (neg := false) (s := s) (y := .lst (strsD resL)) (l := resL) rfl
    obtain ⟨ys, e1, e2, _⟩ := all_map (ρ := [some (.str s), some (.lst (strsD resL)), none]) (h := h) (it := iA (eV 0)) (t := gN 2) (e := e2 (bIn false) (eV 2) (eC (.str t1))) (vs := [2]) (fun c => .str [c]) sign rfl rfl trivial (v.2 s rfl)
      fun c _ => ⟨[some (.str s), some (.lst (strsD resL)), some (.str [c])], rfl, by simp [all_sign]⟩
    cases s with
    | nil => simp [tyOfD, isiT, nameB, signs]
    | cons c s =>
      have l1 : 1 ≤ (((c :: s).length : Nat) : Int) := by rw [List.length_cons]; omega
      generalize hL : (((c :: s).length : Nat) : Int) = L at l1
      have lenS : fLen [.str (c :: s)] h = .ok (.int L) h := by rw [← hL]; rfl
      have sg : signs 8 (.str (c :: s)) = (decide (1 ≤ L) && decide (L ≤ 8) && (c :: s).all sign) := by rw [← hL]; rfl
      have nb : nameB (.str (c :: s)) = (signs 8 (.str (c :: s)) && (decide (c ∈ smallL) && !decide ((c :: s) ∈ resL))) := rfl
      rw [nb, sg]
      generalize hR : decide ((c :: s) ∈ resL) = rr at e3
      generalize hA : (c :: s).all sign = aa at e2
      have cs : aa = true → decide (c ∈ smallL) = !decide (c ∈ figL) := fun z => by
        rw [← hA, List.all_cons, Bool.and_eq_true] at z
        exact fig_small z.1
      rw [decide_eq_true l1]
      cases h2 : decide (L ≤ 8) with
      | false => simp [tyOfD, isiT, -w_lenS, lenS, h2, l1]
      | true =>
        cases rr with
        | true => simp [tyOfD, isiT, -w_lenS, lenS, h2, l1, e3]
        | false =>
          cases hf : decide (c ∈ figL) with
          | true =>
            cases aa with
            | false => simp [tyOfD, isiT, -w_lenS, lenS, h2, l1, e3, hf, e1, e2]
            | true =>
              have := cs rfl
              rw [hf] at this
              simp [tyOfD, isiT, -w_lenS, lenS, h2, l1, e3, hf, e1, e2, this]
          | false =>
            cases aa with
            | false => simp [tyOfD, isiT, -w_lenS, lenS, h2, l1, e3, hf, e1, e2]
            | true =>
              have := cs rfl
              rw [hf] at this
              simp [tyOfD, isiT, -w_lenS, lenS, h2, l1, e3, hf, e1, e2, this]
  | _ => first | (cases v.1; done) | simp [tyOfD, isiT, nameB]
end Zk
end

/-! M2 -/
noncomputable section
namespace Zk
open PySem PySem.Spec L2 Zs
open PyProof.Rows hiding St
open Classical
variable (g : Gm)
theorem t_take {n : Nat} (hn : 1 ≤ n) : TakeOk (runP g P n 14) := by
  obtain ⟨m, rfl, hm⟩ := succ_of hn
  rw [e__law_take]
  exact take_ok (c1 := 128825) (c2 := 7773) (c3 := 35755) (c4 := 4347) (c5 := 11617) (by decide) (by decide) (by decide) (by decide) (by decide)
theorem t_of {n : Nat} (hn : 2 ≤ n) : OfOk (runP g P n 15) := by
  obtain ⟨m, rfl, hm⟩ := succ_of hn
  rw [e__law_of]
  exact of_ok (t_take g hm)
/-- one of a written list -/
theorem of_lst {n : Nat} (hn : 2 ≤ n) {j c : Nat} {h : HP} {xs : List D} (p : Pot j c h) (hc : c < 2 ^ 40) (ne : xs ≠ []) (l : xs.length < 2 ^ 60) (hx : ∀ x ∈ xs, nn 0 x = true) : Wp (runP g P n 15 [.ref j, .lst xs] h) fun d h' => d ∈ xs ∧ Pot j (c + 1) h' ∧ But j h h' :=
  t_of g hn j c h (.lst xs) xs p hc rfl (by intro z; cases z) ne l fun x hx' => nn_mono (Nat.zero_le _) x (hx x hx')
def signsL : List D := [.str [97], .str [122], .str [113], .str [48], .str [57], .str [109], .str [116], .str [101], .str [65], .str [95], .str [32], .str [45], .str [46], .str []]
theorem s_sign {n : Nat} (hn : 3 ≤ n) {j c : Nat} {h : HP} (p : Pot j c h) (hc : c < 2 ^ 40) : Wp (runP g P n 20 [.ref j] h) fun d h' => txt 1 d ∧ Pot j (c + 1) h' ∧ But j h h' := by
  obtain ⟨m, rfl, hm⟩ := succ_of hn
  rw [e__law_sign]
  refine runD_wp p.lt ?_
  show Wp (m__law_sign _ [some (.ref j)] h) _
  unfold m__law_sign
  have e := of_lst g (n := m) (by omega) p hc (xs := signsL) (by decide) (by decide) (by decide)
  have e : Wp (runP g P m 15 [.ref j, .lst [.str [97], .str [122], .str [113], .str [48], .str [57], .str [109], .str [116], .str [101], .str [65], .str [95], .str [32], .str [45], .str [46], .str []]] h) _ := e
  refine wp_ret ?_
  simp only [w_eCl, w_aC, w_aN, w_eV, w_eC, w_eA, w_ok, List.getElem?_cons_zero, w_pick0, w_pickC]
  rw [w_fLst (by decide)]
  simp only [w_mkF, w_ok, List.getElem?_cons_zero, List.getElem?_cons_succ, List.length_cons, List.length_nil, List.cons_append, List.nil_append, w_pickC, w_pick0]
  rw [if_pos (by decide)]
  refine e.imp fun d h' ⟨hd, p', b⟩ => ⟨d, rfl, ?_, p', b.l, ?_⟩
  · have : ∀ d ∈ signsL, nn 0 d = true := by decide
    exact nn_mono (Nat.zero_le _) d (this d hd)
  · have hd : d ∈ signsL := hd
    simp only [signsL, List.mem_cons, List.not_mem_nil, or_false] at hd
    rcases hd with rfl | rfl | rfl | rfl | rfl | rfl | rfl | rfl | rfl | rfl | rfl | rfl | rfl | rfl <;> exact ⟨_, rfl, by decide⟩
/-- [.. for lap in range(..)], a draw each time -/
theorem lc_draws {o : Bool} {e : EM} {v j c B n : Nat} {ρ : Env'} {h h1 : HP} {ra : EM} (P : D → Prop) (hr : ra ρ h = .ok (.int (n : Int)) h1) (hn : n ≤ 1000) (hB : c + B * n < 2 ^ 40) (p : Pot j c h1)
    (he : ∀ d c' h, Pot j c' h → c' + B ≤ c + B * n → But j h1 h → Wp (e ((wipeE ρ [v]).set v (some d)) h) fun y h2 => P y ∧ Pot j (c' + B) h2 ∧ But j h h2) :
    Wp (eLc o (iR (aC ra aN)) (gN v) tYe e [v] ρ h) fun d h' => ∃ ys h2, mkL o ys h2 = .ok d h' ∧ ys.length = n ∧ (∀ y ∈ ys, P y) ∧ Pot j (c + B * n) h2 ∧ But j h1 h2 := by
  have hi : iR (aC ra aN) ρ h = .ok ⟨(List.range (n : Int).toNat).map fun i => D.int (0 + (i : Nat)), fun _ => True⟩ h1 := by
    rw [w_iR, w_aC, hr]
    simp only [w_ok, w_aN]
    exact iRk1 (by omega) (by omega)
  have hlen : ((List.range (n : Int).toNat).map fun i => D.int (0 + (i : Nat))).length = n := by simp
  refine (eLc_inv (o := o) (fun k h => Pot j (c + B * k) h ∧ But j h1 h) P hi (fun _ _ _ => trivial) ⟨by simpa using p, But.refl⟩ (fun d hd k h hk i => ?_) (by rw [hlen]; exact hn)).imp fun d h' ⟨ys, h2, q1, q2, q3, q4, q5⟩ => ⟨ys, h2, q1, q2.trans hlen, q3, by rw [← hlen]; exact q4, q5⟩
  rw [hlen] at hk
  rw [w_gN, wp_ok]
  have hm : B * (k + 1) ≤ B * n := Nat.mul_le_mul_left B hk
  rw [Nat.mul_add, Nat.mul_one] at hm
  refine (he d (c + B * k) h i.1 (by omega) i.2).imp fun y h3 ⟨a1, a2, a3⟩ => ⟨a1, ?_, i.2.trans a3⟩
  rw [Nat.mul_add, Nat.mul_one, ← Nat.add_assoc]; exact a2
/-- ''.join([.. for lap in range(a + a draw)]) -/
theorem join_wp {n : Nat} (hn : 1 ≤ n) {e : EM} {a u : Nat} {v j c : Nat} {ρ : Env'} {h : HP} (h0 : ρ[0]? = some (some (.ref j))) (hu : 0 < u) (hau : a + u ≤ 20) (hc : c + 30 < 2 ^ 40) (p : Pot j c h)
    (he : ∀ d c' h1 h, Pot j c' h → c' < 2 ^ 40 → But j h1 h → Wp (e ((wipeE ρ [v]).set v (some d)) h) fun y h2 => txt 1 y ∧ Pot j (c' + 1) h2 ∧ But j h h2) :
    Wp ((eMt isStrD mJoin (eC (.str [])) (aC (eLc false (iR (aC (e2 (bAdd false) (eC (.int (a : Int))) (eCl (runP g P n 14) 2 2 0 [0, 1] (aC (eV 0) (aC (eC (.int (u : Int))) aN)) aN)) aN)) (gN v) tYe e [v]) aN)) ρ h) fun d h' => txt 20 d ∧ Pot j (c + 30) h' ∧ But j h h' := by
  obtain ⟨d, h1, et, i, rfl, i0, i1, p1, b1⟩ := (t_take g hn j c h (u : Int) p (by omega) (by omega) (by omega)).ex
  have hr : (e2 (bAdd false) (eC (.int (a : Int))) (eCl (runP g P n 14) 2 2 0 [0, 1] (aC (eV 0) (aC (eC (.int (u : Int))) aN)) aN)) ρ h = .ok (.int ((a + i.toNat : Nat) : Int)) h1 := by
    have : ((a + i.toNat : Nat) : Int) = (a : Int) + i := by omega
    rw [this]
    simp [h0, et]
  have w := lc_draws (o := false) (e := e) (v := v) (ρ := ρ) (h := h) (c := c + 1) (B := 1) (txt 1) hr (by omega) (by omega) p1 (fun d c' h q hq b => he d c' h1 h q (by omega) b)
  obtain ⟨d, h2, e2, ys, h3, e3, l, hy, p2, b2⟩ := w.ex
  have e3 : R.ok (D.lst ys) h3 = .ok d h2 := e3
  injection e3 with ea eb
  subst ea eb
  obtain ⟨s, es, ls⟩ := join0 (h := h3) (B := 1) (n := 20) hy (by rw [l]; omega) (by decide)
  refine Wp.of (a := .str s) (h := h3) ?_ ⟨⟨s, rfl, by omega⟩, p2.mono (by omega), b1.trans b2⟩
  rw [w_eMt, w_eC, w_ok]
  show ((aC _ aN ρ h).bnd fun xs h2 => mJoin (.str []) xs h2) = _
  rw [w_aC, e2]
  exact es
/-! ### odd values -/
theorem okV_all : ∀ {xs : List D}, (∀ x ∈ xs, okV x = true) → nnL 0 xs = true := fun {xs} h => nnL_all.mpr fun x hx => okV_nn (h x hx) 0
def odd0 : List D := [.non, .bl true, .bl false, .int 0, .int (-1), .int 7, .int 1000000000, .str [], .str [97], .str [112]]
def odd1 : List D := [.str [104,111,108,100,115], .tup [], .lst [], .dct [], .tup [.str [97]], .lst [.str [97]], .tup [.int 1, .int 2], .tup [.non, .tup []]]
theorem odd_ok : ∀ d ∈ odd0 ++ odd1, good d := by
  intro d hd
  have h1 : ∀ d ∈ odd0 ++ odd1, okV d = true := by decide
  refine ⟨h1 d hd, fun s e => ?_⟩
  subst e
  have h2 : ∀ d ∈ odd0 ++ odd1, (match d with | .str s => decide (s.length ≤ 5) | _ => true) = true := by decide
  have := of_decide_eq_true (h2 _ hd)
  exact line1000 (by omega)
theorem good_tup {d : D} (h : good d) (xs : List D) (hx : ∀ x ∈ xs, x = d ∨ x = .str [97, 116]) : good (.tup xs) ∧ good (.lst xs) := by
  have : nnL 0 xs = true := nnL_all.mpr fun x hx' => by
    rcases hx x hx' with rfl | rfl
    · exact okV_nn h.1 0
    · rfl
  exact ⟨⟨this, fun s z => by cases z⟩, ⟨this, fun s z => by cases z⟩⟩
theorem s_odd {n : Nat} (hn : 3 ≤ n) {j c : Nat} {h : HP} (p : Pot j c h) (hc : c + 10 < 2 ^ 40) : Wp (runP g P n 17 [.ref j] h) fun d h' => good d ∧ Pot j (c + 10) h' ∧ But j h h' := by
  obtain ⟨m, rfl, hm⟩ := succ_of hn
  rw [e__law_odd]
  have hj := p.lt
  refine runD_wp hj ?_
  show Wp (m__law_odd _ [some (.ref j), none, none, none] h) _
  unfold m__law_odd
  have q9 : bPow (.int 10) (.int 9) h = .ok (.int 1000000000) h := m_pow (n := 9) (k := 4) (by decide) (by decide)
  have un : uNeg (.int 1) h = .ok (.int (-1)) h := rfl
  refine wp_cons (ρ1 := [some (.ref j), some (.ref h.length), none, none]) (h1 := h ++ [some (.lst odd0)]) (by simp [q9, un, odd0]) ?_
  have x1 := ext_at (h := h ++ [some (.lst odd0)]) (i := h.length) (ys := odd0) (zs := odd1) (y := .lst odd1) (by simp) rfl (by decide)
  have s2 : (h ++ [some (O.lst odd0)]).set h.length (some (.lst (odd0 ++ odd1))) = h ++ [some (.lst (odd0 ++ odd1))] := by
    rw [List.set_append_right _ _ (Nat.le_refl _)]; simp
  rw [s2] at x1
  refine wp_cons (ρ1 := [some (.ref j), some (.ref h.length), none, none]) (h1 := h ++ [some (.lst (odd0 ++ odd1))]) ?_ ?_
  · have x2 : mExt (.ref h.length) [.lst odd1] (h ++ [some (.lst odd0)]) = _ := x1.1
    simp only [odd1] at x2
    simp [x1.2, fLst, fTup, eD0, mkD, line1000, x2, odd1]
  have p2 : Pot j c (h ++ [some (.lst (odd0 ++ odd1))]) := p.at_ (List.getElem?_append_left hj)
  have w1 := t_of g (n := m) hm j c _ (.ref h.length) (odd0 ++ odd1) p2 (by omega) (by simp [sqOf]) (by intro z; cases z; omega) (by decide) (by decide) (fun x hx => okV_nn (odd_ok x hx).1 _)
  refine wp_consW (wp_as ?_)
  simp only [w_eCl, w_aC, w_aN, w_eV, w_ok, List.getElem?_cons_zero, List.getElem?_cons_succ, w_pick0, w_pickC, List.length_cons, List.length_nil, List.cons_append, List.nil_append]
  rw [if_pos (by decide)]
  refine w1.imp fun d h3 ⟨hd, p3, b3⟩ => ?_
  rw [w_gN, wp_ok]
  refine ⟨_, rfl, ?_⟩
  have gd := odd_ok d hd
  have b03 : ButL j h h3 := (ButL.app (t := [some (.lst (odd0 ++ odd1))])).trans b3.l
  -- the loop
  obtain ⟨dn, h4, et, i, rfl, i0, i1, p4, b4⟩ := (t_take g (n := m) (by omega) j (c + 1) h3 3 p3 (by omega) (by decide) (by decide)).ex
  refine wp_consW ?_
  show Wp (sFo _ _ _ [some (.ref j), some (.ref h.length), some d, none] h3) _
  have ei : iR (aC (eCl (runP g P m 14) 2 2 0 [0, 1] (aC (eV 0) (aC (eC (.int 3)) aN)) aN) aN) [some (.ref j), some (.ref h.length), some d, none] h3 = .ok ⟨(List.range i.toNat).map fun i => D.int (0 + (i : Nat)), fun _ => True⟩ h4 := by
    rw [w_iR, w_aC]
    simpa [et] using iRk1 (h := h4) i0 (by omega)
  rw [w_sFo, ei]
  have hl2 : (Itm.xs ⟨(List.range i.toNat).map fun i => D.int (0 + (i : Nat)), fun _ => True⟩).length ≤ 2 := by simp; omega
  refine forM_inv (fun k ρ h' => (∃ x v, ρ = [some (.ref j), some (.ref h.length), some v, x] ∧ good v) ∧ Pot j (c + 2 + k) h' ∧ ButL j h h') _ (fun _ _ _ _ => trivial) 2 _ 0 _ h4 (by rw [Nat.zero_add]; exact hl2) ⟨⟨none, d, rfl, gd⟩, p4, b03.trans b4.l⟩ (fun x _ k ρ h5 hk i5 => ?_) fun ρ h5 i5 => ?_
  · obtain ⟨⟨y, v, rfl, gv⟩, p5, b5⟩ := i5
    rw [w_gN, wp_ok]
    show Wp (sSq (sAs _ (gN 2)) sNx [some (.ref j), some (.ref h.length), some v, some x] h5) _
    refine wp_consW (wp_as ?_)
    have gl : ∀ z ∈ [D.tup [v], .lst [v], .dct [(.str [107], v)], .tup [v, v], .tup [.str [97,116], v]], good z := by
      intro z hz
      simp only [List.mem_cons, List.not_mem_nil, or_false] at hz
      rcases hz with rfl | rfl | rfl | rfl | rfl
      · exact (good_tup gv [v] (by simp)).1
      · exact (good_tup gv [v] (by simp)).2
      · refine ⟨?_, fun s z => by cases z⟩
        show ((true && nn 0 v) && true) = true
        rw [okV_nn gv.1 0]; rfl
      · exact (good_tup gv [v, v] (by simp)).1
      · exact (good_tup gv [.str [97, 116], v] (by simp)).1
    have w5 := of_lst g (n := m) hm p5 (by omega) (xs := [D.tup [v], .lst [v], .dct [(.str [107], v)], .tup [v, v], .tup [.str [97,116], v]]) (by simp) (by simp) (fun z hz => okV_nn (gl z hz).1 0)
    have ed : eDi false [((eC (.str [107])), (eV 2))] [some (.ref j), some (.ref h.length), some v, some x] h5 = .ok (.dct [(.str [107], v)]) h5 := rfl
    have el : (eA (fLst false) (aC (eA fTup (aC (eV 2) aN)) (aC (eA (fLst false) (aC (eV 2) aN)) (aC (eDi false [((eC (.str [107])), (eV 2))]) (aC (eA fTup (aC (eV 2) (aC (eV 2) aN))) (aC (eA fTup (aC (eC (.str [97,116])) (aC (eV 2) aN))) aN)))))) [some (.ref j), some (.ref h.length), some v, some x] h5 = .ok (.lst [D.tup [v], .lst [v], .dct [(.str [107], v)], .tup [v, v], .tup [.str [97,116], v]]) h5 := by simp [ed]
    simp only [w_eCl, w_aC, el, w_aN, w_eV, w_ok, List.getElem?_cons_zero, List.getElem?_cons_succ, w_pick0, w_pickC, List.length_cons, List.length_nil, List.cons_append, List.nil_append]
    rw [if_pos (by decide)]
    refine w5.imp fun v2 h6 ⟨hv, p6, b6⟩ => ?_
    rw [w_gN, wp_ok]
    exact ⟨_, rfl, ⟨some x, v2, rfl, gl v2 hv⟩, by rw [← Nat.add_assoc]; exact p6, b5.trans b6.l⟩
  · obtain ⟨⟨y, v, rfl, gv⟩, p5, b5⟩ := i5
    refine ⟨_, rfl, ?_⟩
    refine wp_ret ?_
    simp only [w_eV, List.getElem?_cons_zero, List.getElem?_cons_succ]
    exact ⟨v, rfl, okV_nn gv.1 _, p5.mono (by omega), b5, gv⟩
/-! ### the values -/
def w0 : List D := [.str [115,111,117,114,99,101], .str [97,116], .str [97,116,120], .str [110,111,119], .str [116,114,117,101], .str [105,110,116], .str [105,110,116,115], .str [115,112,114,101,97,100], .str [115,112,114,101,97,100,115,49], .str [97,98,99,100,101,102,103,104]]
def w1 : List D := [.str [97,98,99,100,101,102,103,104,105], .str [112,49], .str [49,112]]
theorem txt_good {d : D} (h : txt 20 d) : good d := by
  obtain ⟨s, rfl, hs⟩ := h
  exact ⟨rfl, fun t e => by cases e; exact line1000 (by omega)⟩
theorem w_txt : ∀ d ∈ w0 ++ w1, txt 20 d := by
  intro d hd
  have h2 : ∀ d ∈ w0 ++ w1, (match d with | .str s => decide (s.length ≤ 20) | _ => false) = true := by decide
  have := h2 d hd
  cases d <;> first | (cases this; done) | exact ⟨_, rfl, of_decide_eq_true this⟩
theorem _root_.Zs.But.at_ {j i : Nat} {h h' : HP} (b : But j h h') (n : i ≠ j) {o : Option O} (e : h[i]? = some o) : h'[i]? = some o := (b.2 i n).trans e
theorem rest_good {d : D} (gd : good d) : ∀ x ∈ [D.int 1000000000000, .int (1000000000000 + 1), .int (-1000000000000), .int (-1000000000000 - 1), .bl true, .non, d, .int 0], good x := by
  intro x hx
  simp only [List.mem_cons, List.not_mem_nil, or_false] at hx
  rcases hx with rfl | rfl | rfl | rfl | rfl | rfl | rfl | rfl <;> first | exact gd | exact ⟨rfl, fun s z => by cases z⟩
theorem s_values {n : Nat} (hn : 4 ≤ n) {j c : Nat} {h : HP} (p : Pot j c h) (hc : c + 400 < 2 ^ 40) : Wp (runP g P n 21 [.ref j] h) fun d h' => (∃ xs, d = .lst xs ∧ ∀ x ∈ xs, good x) ∧ Pot j (c + 400) h' ∧ But j h h' := by
  obtain ⟨m, rfl, hm⟩ := succ_of hn
  rw [e__law_values]
  have hj := p.lt
  refine runD_wp hj ?_
  show Wp (m__law_values _ [some (.ref j), none, none, none, none] h) _
  unfold m__law_values
  refine wp_cons (ρ1 := [some (.ref j), some (.ref h.length), none, none, none]) (h1 := h ++ [some (.lst w0)]) (by simp [w0]) ?_
  have x1 := ext_at (h := h ++ [some (.lst w0)]) (i := h.length) (ys := w0) (zs := w1) (y := .lst w1) (by simp) rfl (by decide)
  have s2 : (h ++ [some (O.lst w0)]).set h.length (some (.lst (w0 ++ w1))) = h ++ [some (.lst (w0 ++ w1))] := by
    rw [List.set_append_right _ _ (Nat.le_refl _)]; simp
  rw [s2] at x1
  generalize hh1 : h ++ [some (O.lst (w0 ++ w1))] = h1 at x1
  refine wp_cons (ρ1 := [some (.ref j), some (.ref h.length), none, none, none]) (h1 := h1) ?_ ?_
  · have x2 : mExt (.ref h.length) [.lst w1] (h ++ [some (.lst w0)]) = _ := x1.1
    simp only [w1] at x2
    simp [x1.2, x2, w1]
  have p1 : Pot j c h1 := by rw [← hh1]; exact p.at_ (List.getElem?_append_left hj)
  have b1 : ButL j h h1 := by rw [← hh1]; exact ButL.app
  have l1 : h1.length = h.length + 1 := by rw [← hh1]; simp
  have at1 : h1[h.length]? = some (some (.lst (w0 ++ w1))) := by rw [← hh1]; simp
  have nj : h.length ≠ j := by omega
  have q12 : bPow (.int 10) (.int 12) h1 = .ok (.int 1000000000000) h1 := m_pow (n := 12) (k := 4) (by decide) (by decide)
  refine wp_cons (ρ1 := [some (.ref j), some (.ref h.length), some (.int 1000000000000), none, none]) (h1 := h1) (by simp [q12]) ?_
  -- eight texts
  have ej : ∀ (d : D) (c' : Nat) (h1 h2 : HP) (x2 x3 : Option D), Pot j c' h2 → c' < 2 ^ 40 → But j h1 h2 → Wp ((eCl (runP g P m 20) 1 1 0 [0] (aC (eV 0) aN) aN) ((wipeE [some (.ref j), some (.ref h.length), x2, x3, none] [4]).set 4 (some d)) h2) fun y h3 => txt 1 y ∧ Pot j (c' + 1) h3 ∧ But j h2 h3 := fun d c' h1 h2 x2 x3 q hq b => by
    have := s_sign g (n := m) hm q hq
    simpa [wipeE] using this
  have ej2 : ∀ (d : D) (c' : Nat) (h2 : HP) (x2 x3 : Option D), Pot j c' h2 → c' + 30 < 2 ^ 40 → Wp ((eMt isStrD mJoin (eC (.str [])) (aC (eLc false (iR (aC (e2 (bAdd false) (eC (.int ((1 : Nat) : Int))) (eCl (runP g P m 14) 2 2 0 [0, 1] (aC (eV 0) (aC (eC (.int ((13 : Nat) : Int))) aN)) aN)) aN)) (gN 4) tYe (eCl (runP g P m 20) 1 1 0 [0] (aC (eV 0) aN) aN) [4]) aN)) [some (.ref j), some (.ref h.length), x2, x3, some d] h2) fun y h3 => txt 20 y ∧ Pot j (c' + 30) h3 ∧ But j h2 h3 := fun d c' h2 x2 x3 q hq =>
    join_wp g (n := m) (by omega) (a := 1) (u := 13) (v := 4) rfl (by decide) (by decide) hq q fun d' c'' h4 h5 q5 hq5 b5 => ej d' c'' h4 h5 x2 x3 q5 hq5 b5
  refine wp_consW (wp_as ?_)
  refine Wp.imp (lc_draws (o := true) (n := 8) (B := 30) (c := c) (h1 := h1) (txt 20) rfl (by decide) (by omega) p1 (fun d c' h2 q hq b => ej2 d c' h2 (some (.int 1000000000000)) none q (by omega))) fun d h' ⟨ys, h2, e2, ly, hy, p2, b2⟩ => ?_
  have e2 : R.ok (D.ref h2.length) (h2 ++ [some (.lst ys)]) = .ok d h' := e2
  injection e2 with ea eb
  subst ea eb
  have l2 : h2.length = h.length + 1 := by rw [b2.1, l1]
  rw [w_gN, wp_ok]
  refine ⟨_, rfl, ?_⟩
  have b03 : ButL j h (h2 ++ [some (O.lst ys)]) := b1.trans (b2.l.trans ButL.app)
  have p3 : Pot j (c + 30 * 8) (h2 ++ [some (O.lst ys)]) := p2.at_ (List.getElem?_append_left p2.lt)
  have a3 : (h2 ++ [some (O.lst ys)])[h.length]? = some (some (.lst (w0 ++ w1))) := by
    rw [List.getElem?_append_left (by omega), b2.2 _ nj]; exact at1
  have c3 : (h2 ++ [some (O.lst ys)])[h.length + 1]? = some (some (.lst ys)) := by
    rw [← l2]; simp
  have l3 : (h2 ++ [some (O.lst ys)]).length = h.length + 2 := by simp [l2]
  rw [l2]
  generalize h2 ++ [some (O.lst ys)] = h3 at b03 p3 a3 c3 l3
  -- four more
  refine wp_consW ?_
  show Wp (sFo _ _ _ [some (.ref j), some (.ref h.length), some (.int 1000000000000), some (.ref (h.length + 1)), none] h3) _
  rw [w_sFo, show iR (aC (eC (.int 4)) aN) [some (.ref j), some (.ref h.length), some (.int 1000000000000), some (.ref (h.length + 1)), none] h3 = .ok ⟨(List.range 4).map fun i => D.int (0 + (i : Nat)), fun _ => True⟩ h3 from iRk1 (j := 4) (by decide) (by decide), w_lift]
  refine forM_inv (fun k ρ h' => (∃ x, ρ = [some (.ref j), some (.ref h.length), some (.int 1000000000000), some (.ref (h.length + 1)), x]) ∧ Pot j (c + 240 + 30 * k) h' ∧ ButL j h h' ∧ h'.length = h.length + 2 ∧ h'[h.length]? = some (some (.lst (w0 ++ w1))) ∧ ∃ ys, h'[h.length + 1]? = some (some (.lst ys)) ∧ ys.length = 8 + k ∧ ∀ y ∈ ys, txt 20 y) _ (fun _ _ _ _ => trivial) 4 _ 0 _ h3 (by simp) ⟨⟨none, rfl⟩, p3, b03, l3, a3, ys, c3, ly, hy⟩ (fun x _ k ρ h5 hk i5 => ?_) fun ρ h5 i5 => ?_
  · obtain ⟨⟨y, rfl⟩, p5, b5, l5, a5, zs, c5, lz, hz⟩ := i5
    rw [w_gN, wp_ok]
    show Wp (sSq (sEx _) sNx [some (.ref j), some (.ref h.length), some (.int 1000000000000), some (.ref (h.length + 1)), some x] h5) _
    refine wp_consW (wp_ex ?_)
    rw [w_eMt, w_eV]
    show Wp (bif isLstD (.ref (h.length + 1)) h5 then _ else _) _
    rw [(app_at (y := .non) c5 (by omega)).2]
    show Wp ((aC _ aN _ h5).bnd _) _
    rw [wp_bnd, w_aC, wp_bnd]
    refine (join_wp g (n := m) (by omega) (a := 7) (u := 7) (v := 4) (c := c + 240 + 30 * k) rfl (by decide) (by decide) (by omega) p5 fun d' c'' h4 h6 q6 hq6 b6 => ?_).imp fun d h6 ⟨td, p6, b6⟩ => ?_
    · have w6 := of_lst g (n := m) (by omega) q6 hq6 (xs := [.str [97], .str [98], .str [55]]) (by decide) (by decide) (by decide)
      have : Wp (eCl (runP g P m 15) 2 2 0 [0, 1] (aC (eV 0) (aC (eA (fLst false) (aC (eC (.str [97])) (aC (eC (.str [98])) (aC (eC (.str [55])) aN)))) aN)) aN ([some (.ref j), some (.ref h.length), some (.int 1000000000000), some (.ref (h.length + 1)), some d']) h6) fun y h7 => y ∈ [D.str [97], .str [98], .str [55]] ∧ Pot j (c'' + 1) h7 ∧ But j h6 h7 := by simpa using w6
      refine this.imp fun y h7 ⟨q1, q2, q3⟩ => ⟨?_, q2, q3⟩
      simp only [List.mem_cons, List.not_mem_nil, or_false] at q1
      rcases q1 with rfl | rfl | rfl <;> exact ⟨_, rfl, by decide⟩
    · rw [w_aN, w_ok, wp_ok]
      have c6 := b6.at_ (i := h.length + 1) (by omega) c5
      rw [(app_at (y := d) c6 (by omega)).1]
      refine ⟨_, rfl, ⟨some x, rfl⟩, ?_, (b5.trans b6.l).set (by omega), by rw [List.length_set, b6.1, l5], by rw [List.getElem?_set_ne (by omega)]; exact b6.at_ (by omega) a5, zs ++ [d], by rw [List.getElem?_set_self (by rw [b6.1, l5]; omega)], by rw [List.length_append, List.length_singleton]; omega, fun z hz' => ?_⟩
      · have := p6.at_ (h' := h6.set (h.length + 1) (some (.lst (zs ++ [d])))) (by rw [List.getElem?_set_ne (by omega)])
        exact this.mono (by omega)
      · rcases List.mem_append.mp hz' with q | q
        · exact hz z q
        · rw [List.mem_singleton] at q; rw [q]; exact td
  · obtain ⟨⟨y, rfl⟩, p5, b5, l5, a5, zs, c5, lz, hz⟩ := i5
    refine ⟨_, rfl, ?_⟩
    -- five of the words
    refine wp_consW (wp_ex ?_)
    rw [w_eMt, w_eV]
    show Wp (bif isLstD (.ref (h.length + 1)) h5 then _ else _) _
    have lz2 : zs.length = 12 := lz
    rw [(app_at (y := .non) c5 (by omega)).2]
    show Wp ((aC _ aN _ h5).bnd _) _
    rw [wp_bnd, w_aC, wp_bnd]
    refine (lc_draws (o := false) (n := 5) (B := 1) (c := c + 360) (h1 := h5) (txt 20) rfl (by decide) (by omega) p5 (fun d c' h6 q6 hq6 b6 => ?_)).imp fun d h6 ⟨us, h7, e7, lu, hu, p7, b7⟩ => ?_
    · have w6 := t_of g (n := m) (by omega) j c' h6 (.ref h.length) (w0 ++ w1) q6 (by omega) (by simp [sqOf, b6.2 _ nj, a5]) (by intro z; cases z; omega) (by decide) (by decide) (fun x hx => okV_nn (txt_good (w_txt x hx)).1 _)
      have : Wp (eCl (runP g P m 15) 2 2 0 [0, 1] (aC (eV 0) (aC (eV 1) aN)) aN ([some (.ref j), some (.ref h.length), some (.int 1000000000000), some (.ref (h.length + 1)), some d]) h6) fun y h7 => y ∈ w0 ++ w1 ∧ Pot j (c' + 1) h7 ∧ But j h6 h7 := by simpa using w6
      exact this.imp fun y h7 ⟨q1, q2, q3⟩ => ⟨w_txt y q1, q2, q3⟩
    · have e7 : R.ok (D.lst us) h7 = .ok d h6 := e7
      injection e7 with ea eb
      subst ea eb
      rw [w_aN, w_ok, wp_ok]
      have c6 := b7.at_ (i := h.length + 1) (by omega) c5
      rw [(ext_at (y := .lst us) (zs := us) c6 rfl (by omega)).1]
      refine ⟨_, rfl, ?_⟩
      have l7 : h7.length = h.length + 2 := by rw [b7.1, l5]
      have c7 : (h7.set (h.length + 1) (some (.lst (zs ++ us))))[h.length + 1]? = some (some (.lst (zs ++ us))) := List.getElem?_set_self (by omega)
      have p8 : Pot j (c + 365) (h7.set (h.length + 1) (some (.lst (zs ++ us)))) := (p7.at_ (by rw [List.getElem?_set_ne (by omega)])).mono (by omega)
      have b8 : ButL j h (h7.set (h.length + 1) (some (.lst (zs ++ us)))) := (b5.trans b7.l).set (by omega)
      have l8 : (h7.set (h.length + 1) (some (O.lst (zs ++ us)))).length = h.length + 2 := by rw [List.length_set]; exact l7
      generalize h7.set (h.length + 1) (some (O.lst (zs ++ us))) = h8 at c7 p8 b8 l8
      refine wp_ret ?_
      rw [w_e2, w_eV]
      show Wp ((eA (fLst false) _ _ h8).bnd _) _
      rw [wp_bnd, w_eA, wp_bnd]
      have w9 := s_odd g (n := m) hm p8 (by omega)
      obtain ⟨od, h9, e9, god, p9, b9⟩ := w9.ex
      have un : uNeg (.int 1000000000000) h8 = .ok (.int (-1000000000000)) h8 := rfl
      have ea : (aC (eV 2) (aC (Zs.e2 (bAdd false) (eV 2) (eC (.int (1)))) (aC (Zs.e1 uNeg (eV 2)) (aC (Zs.e2 bSub (Zs.e1 uNeg (eV 2)) (eC (.int (1)))) (aC (eC (.bl true)) (aC (eC .non) (aC (eCl (runP g P m 17) 1 1 0 [0] (aC (eV 0) aN) aN) (aC (eC (.int (0))) aN)))))))) [some (.ref j), some (.ref h.length), some (.int 1000000000000), some (.ref (h.length + 1)), y] h8 = .ok [D.int 1000000000000, .int (1000000000000 + 1), .int (-1000000000000), .int (-1000000000000 - 1), .bl true, .non, od, .int 0] h9 := by
        simp [un, e9]
      rw [ea, wp_ok, w_fLst (by simp), w_mkF, wp_ok]
      have c9 := b9.at_ (i := h.length + 1) (by omega) c7
      rw [add_at (y := .lst _) c9 rfl (by simp; omega), w_mkF, wp_ok]
      have hall : ∀ x ∈ (zs ++ us) ++ [D.int 1000000000000, .int (1000000000000 + 1), .int (-1000000000000), .int (-1000000000000 - 1), .bl true, .non, od, .int 0], good x := fun x hx => by
        rcases List.mem_append.mp hx with q | q
        · rcases List.mem_append.mp q with q | q
          · exact txt_good (hz x q)
          · exact txt_good (hu x q)
        · exact rest_good god x q
      refine ⟨_, rfl, ?_, p9.mono (by omega), b8.trans b9.l, _, rfl, hall⟩
      show nnL _ _ = true
      exact nnL_all.mpr fun x hx => okV_nn (hall x hx).1 _
end Zk
end

/-! M3 -/
noncomputable section
namespace Zk
open PySem PySem.Spec L2 Zs
open PyProof.Rows hiding St
open Classical
variable (g : Gm)
theorem if_no {t : TM} {a : SM} {ρ : Env'} {h h1 : HP} (e : t ρ h = .ok false h1) : sIf t a sNx ρ h = .ok (.nx ρ) h1 := by
  rw [w_sIf, e]; rfl
theorem ne_kV {k : Option Bool} {h : HP} : bNe (kV k) (kV k) h = .ok (.bl false) h := by
  cases k with
  | none => rfl
  | some b => cases b <;> rfl
theorem kd_word {v : D} : decide (kd v = some false) = signs 12 v := by
  unfold kd
  cases v with
  | str s =>
    have : betw (-1000000000000) 1000000000000 (.str s) = false := rfl
    rw [this]
    cases signs 12 (.str s) <;> rfl
  | int i =>
    have : signs 12 (.int i) = false := rfl
    rw [this]
    cases betw (-1000000000000) 1000000000000 (.int i) <;> rfl
  | _ => rfl
theorem isN_kV {k : Option Bool} : isNon (kV k) = k.isNone := by
  cases k with
  | none => rfl
  | some b => cases b <;> rfl
def zz : List Nat := [122, 122]
theorem s_right {n : Nat} (hn : 6 ≤ n) {j c : Nat} {h : HP} (p : Pot j c h) (hc : c + 400 < 2 ^ 40) : Wp (runP g P n 22 [.ref j] h) fun d h' => d = .bl true ∧ Pot j (c + 400) h' ∧ But j h h' := by
  obtain ⟨m, rfl, hm⟩ := succ_of hn
  rw [e__law_right]
  refine runD_wp p.lt ?_
  show Wp (m__law_right _ [some (.ref j), none, none, none, none, none, none] h) _
  unfold m__law_right
  obtain ⟨d, h1, e1, ⟨xs, rfl, hx⟩, p1, b1⟩ := (s_values g (n := m) (by omega) p hc).ex
  refine wp_consW ?_
  have ei : iA (eCl (runP g P m 21) 1 1 0 [0] (aC (eV 0) aN) aN) [some (.ref j), none, none, none, none, none, none] h = .ok ⟨xs, fun h' => lrOf (.lst xs) h' = some xs⟩ h1 := by
    simp [e1]; rfl
  rw [w_sFo, ei, w_lift]
  refine forM_inv (fun k ρ hh => (∃ x1 x2 x3 x4 x5 x6, ρ = [some (.ref j), x1, x2, x3, x4, x5, x6]) ∧ hh = h1) _ (fun _ _ _ _ => rfl) xs.length xs 0 _ h1 (by omega) ⟨⟨_, _, _, _, _, _, rfl⟩, rfl⟩ (fun v hv k ρ h2 hk i2 => ?_) fun ρ h2 i2 => ?_
  · obtain ⟨⟨x1, x2, x3, x4, x5, x6, rfl⟩, rfl⟩ := i2
    have gv := hx v hv
    rw [w_gN, wp_ok]
    show Wp (sSq _ _ [some (.ref j), some v, x2, x3, x4, x5, x6] h2) _
    have k1 := s_own_kind g (n := m) (by omega) (h := h2) gv
    have k2 := s_kind_of g (n := m) (by omega) (h := h2) gv
    have k3 := s_is_value g (n := m) (by omega) (h := h2) gv
    have k4 := s_is_name g (n := m) (by omega) (h := h2) gv
    have k5 := s_own_name g (n := m) (by omega) (h := h2) gv
    obtain ⟨k6, k7⟩ := s_is_kind_of g (n := m) (by omega) (h := h2) gv
    have q1 : D.str [105, 110, 116] = .str tInt := rfl
    have q2 : D.str [119, 111, 114, 100] = .str tWord := rfl
    have z1 := ne_kV (k := kd v) (h := h2)
    have z2 := eq_kV (k := kd v) (b := false) (h := h2)
    have z3 := eq_kV (k := kd v) (b := true) (h := h2)
    have w1 := kd_word (v := v)
    have kF : kV (some false) = .str tWord := rfl
    have kT : kV (some true) = .str tInt := rfl
    rw [kF] at z2
    rw [kT] at z3
    refine wp_cons (ρ1 := [some (.ref j), some v, some (kV (kd v)), x3, x4, x5, x6]) (h1 := h2) (by simp [k1]) ?_
    refine wp_cons (ρ1 := [some (.ref j), some v, some (kV (kd v)), x3, x4, x5, x6]) (h1 := h2) (if_no ?_) ?_
    · simp [k2, z1, k3, isN_kV]
    refine wp_cons (ρ1 := [some (.ref j), some v, some (kV (kd v)), x3, x4, x5, x6]) (h1 := h2) (if_no ?_) ?_
    · simp [k4, k5]
    refine wp_cons (ρ1 := [some (.ref j), some v, some (kV (kd v)), some (.bl (isIntD v)), x4, x5, x6]) (h1 := h2) ?_ ?_
    · cases v <;> first | (cases gv.1; done) | simp [tyOfD, isiT, isIntD]
    refine wp_cons (ρ1 := [some (.ref j), some v, some (kV (kd v)), some (.bl (isIntD v)), x4, x5, x6]) (h1 := h2) (if_no ?_) ?_
    · simp [q1, q2, k6, k7, z2, w1]
    refine wp_consW ?_
    show Wp (sFo _ _ _ [some (.ref j), some v, some (kV (kd v)), some (.bl (isIntD v)), x4, x5, x6] h2) _
    have ei2 : iA (eA fTup (aC (eC (.str [105, 110, 116])) (aC (eC (.str [119, 111, 114, 100])) aN))) [some (.ref j), some v, some (kV (kd v)), some (.bl (isIntD v)), x4, x5, x6] h2 = .ok ⟨[kV (some true), kV (some false)], fun _ => True⟩ h2 := by
      simp; rfl
    rw [w_sFo, ei2, w_lift]
    refine forM_inv (fun k ρ hh => (∃ x4 x5 x6, ρ = [some (.ref j), some v, some (kV (kd v)), some (.bl (isIntD v)), x4, x5, x6]) ∧ hh = h2) _ (fun _ _ _ _ => trivial) 2 _ 0 _ h2 (by simp) ⟨⟨_, _, _, rfl⟩, rfl⟩ (fun it hit k' ρ h3 hk' i3 => ?_) fun ρ h3 i3 => ?_
    · obtain ⟨⟨y4, y5, y6, rfl⟩, rfl⟩ := i3
      obtain ⟨b, rfl⟩ : ∃ b, it = kV (some b) := by
        simp only [List.mem_cons, List.not_mem_nil, or_false] at hit
        rcases hit with rfl | rfl <;> exact ⟨_, rfl⟩
      rw [w_gN, wp_ok]
      show Wp (sSq _ _ [some (.ref j), some v, some (kV (kd v)), some (.bl (isIntD v)), some (kV (some b)), y5, y6] h3) _
      have gz : good (.str zz) := ⟨rfl, fun s e => by cases e; exact line1000 (by decide)⟩
      have g3 : good (.int 3) := ⟨rfl, fun s e => by cases e⟩
      have sh : D.tup [.tup [v, .str [105,110,116], .int 3], .tup [.str [122,122], kV (some b), v]] = .tup ([(v, true, .int 3), (.str zz, b, v)].map colD) := rfl
      have c1 := s_is_shape g (n := m) (by omega) (cs := [(v, true, .int 3)]) (h := h3) (.inr (.inl ⟨_, rfl⟩)) (fun c hc => by
        rw [List.mem_singleton] at hc; subst hc; exact ⟨gv, g3⟩)
      have c2 := s_is_shape g (n := m) (by omega) (cs := [(.str zz, b, v)]) (h := h3) (.inr (.inl ⟨_, rfl⟩)) (fun c hc => by
        rw [List.mem_singleton] at hc; subst hc; exact ⟨gz, gv⟩)
      have c3 := s_is_shape g (n := m) (by omega) (cs := [(v, true, .int 3), (.str zz, b, v)]) (h := h3) (.inr (.inr ⟨_, _, rfl⟩)) (fun c hc => by
        simp only [List.mem_cons, List.not_mem_nil, or_false] at hc
        rcases hc with rfl | rfl
        · exact ⟨gv, g3⟩
        · exact ⟨gz, gv⟩)
      have k33 : kd (.int 3) = some true := by decide
      have nzz : nameB (.str zz) = true := by decide
      have v1 : colsB (v, true, .int 3) = nameB v := by
        show (nameB v && decide (kd (.int 3) = some true)) = _
        rw [k33]; simp
      have v2 : colsB (.str zz, b, v) = decide (kd v = some b) := by
        show (nameB (.str zz) && decide (kd v = some b)) = _
        rw [nzz]; rfl
      refine wp_cons (ρ1 := [some (.ref j), some v, some (kV (kd v)), some (.bl (isIntD v)), some (kV (some b)), some (.tup [colD (v, true, .int 3), colD (.str zz, b, v)]), y6]) (h1 := h3) (by simp; exact ⟨rfl, rfl⟩) ?_
      have zb := eq_kV (k := kd v) (b := b) (h := h3)
      generalize hB : decide (kd v = some b) = kb at zb v2
      obtain ⟨due, hdue, ed⟩ : ∃ due : Bool, due = (nameB v && (kb && unl [(v, true, .int 3), (.str zz, b, v)])) ∧ (eAn (eCl (runP g P m 19) 1 1 0 [0] (aC (eV 1) aN) aN) (eAn (e2 bEq (eV 2) (eV 4)) (e2 bNe (eV 1) (eC (.str [122,122]))))) [some (.ref j), some v, some (kV (kd v)), some (.bl (isIntD v)), some (kV (some b)), some (.tup [colD (v, true, .int 3), colD (.str zz, b, v)]), y6] h3 = .ok (.bl due) h3 := by
        refine ⟨_, rfl, ?_⟩
        cases hn : nameB v with
        | false => rw [hn] at k5; simp [k5]
        | true =>
          obtain ⟨s, hs⟩ := nameB_str hn
          rw [hn] at k5
          subst hs
          cases kb with
          | false => simp [k5, zb]
          | true =>
            simp [k5, zb, unl]
            rfl
      refine wp_cons (ρ1 := [some (.ref j), some v, some (kV (kd v)), some (.bl (isIntD v)), some (kV (some b)), some (.tup [colD (v, true, .int 3), colD (.str zz, b, v)]), some (.bl due)]) (h1 := h3) (by rw [w_sAs, ed]; rfl) ?_
      refine wp_cons (ρ1 := [some (.ref j), some v, some (kV (kd v)), some (.bl (isIntD v)), some (kV (some b)), some (.tup [colD (v, true, .int 3), colD (.str zz, b, v)]), some (.bl due)]) (h1 := h3) (if_no ?_) ?_
      · have sl1 : eSl false (eV 5) oN (oS (eC (.int 1))) [some (.ref j), some v, some (kV (kd v)), some (.bl (isIntD v)), some (kV (some b)), some (.tup [colD (v, true, .int 3), colD (.str zz, b, v)]), some (.bl due)] h3 = .ok (.tup [colD (v, true, .int 3)]) h3 := rfl
        have sl2 : eSl false (eV 5) (oS (eC (.int 1))) oN [some (.ref j), some v, some (kV (kd v)), some (.bl (isIntD v)), some (kV (some b)), some (.tup [colD (v, true, .int 3), colD (.str zz, b, v)]), some (.bl due)] h3 = .ok (.tup [colD (.str zz, b, v)]) h3 := rfl
        have c1 : runP g P m 11 [.tup [colD (v, true, .int 3)]] h3 = .ok (.bl (nameB v)) h3 := by
          refine Eq.trans c1 ?_; simp [v1, unl]
        have c2 : runP g P m 11 [.tup [colD (.str zz, b, v)]] h3 = .ok (.bl kb) h3 := by
          refine Eq.trans c2 ?_; simp [v2, unl]
        simp only [w_tOr, w_tV, w_e2, w_eCl, w_aN, w_aC, w_ok, sl1, sl2, w_pickC, w_pick0, List.getElem?_cons_zero, List.getElem?_cons_succ, List.length_cons, List.length_nil, List.cons_append, List.nil_append, List.append_nil, c1, c2, k5, w_eV, zb]
        simp [c1, c2, k5, zb, sl1, sl2]
      refine wp_cons (ρ1 := [some (.ref j), some v, some (kV (kd v)), some (.bl (isIntD v)), some (kV (some b)), some (.tup [colD (v, true, .int 3), colD (.str zz, b, v)]), some (.bl due)]) (h1 := h3) (if_no ?_) ?_
      · have c3 : runP g P m 11 [.tup [colD (v, true, .int 3), colD (.str zz, b, v)]] h3 = .ok (.bl due) h3 := by
          refine Eq.trans c3 ?_; rw [hdue]; simp only [List.all_cons, List.all_nil, v1, v2, Bool.and_true, List.isEmpty_cons, Bool.not_false, Bool.true_and, Bool.and_assoc]
        simp only [w_tV, w_e2, w_eCl, w_aN, w_aC, w_ok, w_pickC, w_pick0, List.getElem?_cons_zero, List.getElem?_cons_succ, List.length_cons, List.length_nil, List.cons_append, List.nil_append, List.append_nil, c3, w_eV]
        simp [c3]
      exact ⟨⟨_, _, _, rfl⟩, rfl⟩
    · obtain ⟨⟨y4, y5, y6, rfl⟩, rfl⟩ := i3
      exact ⟨_, rfl, ⟨_, _, _, _, _, _, rfl⟩, rfl⟩
  · obtain ⟨⟨x1, x2, x3, x4, x5, x6, rfl⟩, rfl⟩ := i2
    refine ⟨_, rfl, ?_⟩
    refine wp_ret ?_
    have c1 : runP g P m 11 [.tup []] h2 = .ok (.bl false) h2 := s_is_shape g (n := m) (by omega) (cs := []) (h := h2) (.inl rfl) (fun c hc => by simp at hc)
    have c2 := s_shape_non g (n := m) (by omega) (h := h2)
    refine Wp.of (a := .bl true) (h := h2) (by simp [c1, c2]) ⟨_, rfl, rfl, p1, b1.l, rfl⟩
theorem t_pot {n : Nat} (hn : 1 ≤ n) {ns : List Int} {p : Int} {h : HP} (hp : 0 ≤ p) (hp2 : p < 2 ^ 40) : ∃ o : Option O, runP g P n 13 [.scr (ns.map D.int), .int p] h = .ok (.ref h.length) (h ++ [o]) ∧ Pot h.length 0 (h ++ [o]) := by
  obtain ⟨m, rfl, hm⟩ := succ_of hn
  rw [e__law_pot]
  obtain ⟨o, e, q⟩ := pot_run (h := h) (fb := fbA 1000003 41099 12017) (c1 := 133121) (c2 := 30035) (c3 := 15051) (p := p) (ns := ns) (fbA_ok (by decide) (by decide)) (by decide) (by decide) hp hp2
  refine ⟨o, ?_, q⟩
  have e' : m__law_pot (runP g P m) (startE 5 [.scr (ns.map D.int), .int p]) h = .ok (.ret (.ref h.length)) (h ++ [o]) := e
  show (match m__law_pot (runP g P m) (startE 5 [.scr (ns.map D.int), .int p]) h with
    | .ok (.ret d) h' => fin true 0 h d h'
    | .ok (.nx _) h' => fin true 0 h .non h'
    | .ok (.exc c d _) h' => finX 0 h c d h'
    | _ => .bad) = _
  rw [e']
  rfl
theorem law_true (g : Gm) (ns : List Int) (hl : ns.length ≤ 63) : ∃ h', runP g P 8 23 [.scr (ns.map D.int)] [] = .ok (.bl true) h' := by
  rw [e_law]
  suffices w : Wp (m_law (runP g P 7) [some (.scr (ns.map D.int)), none, none, none] []) fun f h' => f = .ret (.bl true) by
    obtain ⟨f, h', e, rfl⟩ := w.ex
    refine ⟨h'.take 0, ?_⟩
    have e2 : m_law (runP g P 7) (startE 4 [.scr (ns.map D.int)]) [] = .ok (.ret (.bl true)) h' := e
    exact runD_ret e2 ⟨Nat.zero_le _, fun i o hi _ => by simp at hi⟩ rfl
  unfold m_law
  obtain ⟨t, t1, t2, ec⟩ := cells_ok (h := []) (ns := ns) (m := 3) hl (by decide) (by decide) (k := 0)
  have ec : runP g P 7 16 [.scr (ns.map D.int), .int 3] [] = .ok (.lst (rgD 0 t)) [] := by
    rw [e__law_cells]; exact ec
  refine wp_consW ?_
  have ei : iA (eCl (runP g P 7 16) 2 2 0 [0, 1] (aC (eV 0) (aC (eC (.int (3))) aN)) aN) [some (.scr (ns.map D.int)), none, none, none] [] = .ok ⟨rgD 0 t, fun h' => lrOf (.lst (rgD 0 t)) h' = some (rgD 0 t)⟩ [] := by
    simp [ec]; rfl
  rw [w_sFo, ei, w_lift]
  refine forM_inv (fun k ρ hh => ∃ x1 x2 x3, ρ = [some (.scr (ns.map D.int)), x1, x2, x3]) _ (fun _ _ _ _ => rfl) (rgD 0 t).length (rgD 0 t) 0 _ [] (by omega) ⟨_, _, _, rfl⟩ (fun d hd k ρ h hk i => ?_) fun ρ h i => ?_
  · obtain ⟨x1, x2, x3, rfl⟩ := i
    obtain ⟨i, hi, rfl⟩ := List.mem_map.mp hd
    have hi2 : i < (t - 0).toNat := List.mem_range.mp hi
    rw [w_gN, wp_ok]
    show Wp (sSq _ _ [some (.scr (ns.map D.int)), some (.int (0 + (i : Nat))), x2, x3] h) _
    obtain ⟨o, ep, pp⟩ := t_pot g (n := 7) (by decide) (ns := ns) (p := 0 + (i : Nat)) (h := h) (by omega) (by omega)
    refine wp_cons (ρ1 := [some (.scr (ns.map D.int)), some (.int (0 + (i : Nat))), some (.ref h.length), x3]) (h1 := h ++ [o]) (by simp only [w_sAs, w_eCl, w_aC, w_aN, w_eV, w_ok, List.getElem?_cons_zero, List.getElem?_cons_succ, w_pickC, w_pick0, List.length_cons, List.length_nil, List.cons_append, List.nil_append, ep]; rfl) ?_
    have w := eLc_inv (o := false) (it := iR (aC (eC (.int 3)) aN)) (t := gN 3) (e := eCl (runP g P 7 22) 1 1 0 [0] (aC (eV 2) aN) aN) (vs := [3]) (ρ := [some (.scr (ns.map D.int)), some (.int (0 + (i : Nat))), some (.ref h.length), x3]) (h := h ++ [o]) (h1 := h ++ [o]) (fun k h' => Pot h.length (400 * k) h') (fun d => d = .bl true)
      (iRk1 (j := 3) (by decide) (by decide)) (fun _ _ _ => trivial) pp (fun d hd k h' hk p' => by
        rw [w_gN, wp_ok]
        have hk3 : k < 3 := by simpa using hk
        have := s_right g (n := 7) (by decide) p' (by omega)
        have : Wp ((eCl (runP g P 7 22) 1 1 0 [0] (aC (eV 2) aN) aN) [some (.scr (ns.map D.int)), some (.int (0 + (i : Nat))), some (.ref h.length), some d] h') fun d2 h2 => d2 = .bl true ∧ Pot h.length (400 * k + 400) h2 ∧ But h.length h' h2 := by simpa using this
        exact this.imp fun y h2 ⟨q1, q2, q3⟩ => ⟨q1, by rw [Nat.mul_add, Nat.mul_one]; exact q2⟩) (by simp)
    obtain ⟨ds, h2, e2, ys, h3, e3, ly, hy, p3⟩ := w.ex
    have e3 : R.ok (D.lst ys) h3 = .ok ds h2 := e3
    injection e3 with ea eb
    subst ea eb
    have ea : fAll [.lst ys] h3 = .ok (.bl true) h3 := by
      have : ∀ zs : List D, (∀ y ∈ zs, y = .bl true) → ∃ bs, blsOf zs = some bs ∧ bs.all id = true := by
        intro zs
        induction zs with
        | nil => exact fun _ => ⟨[], rfl, rfl⟩
        | cons z zs ih =>
          intro hz
          obtain ⟨bs, b1, b2⟩ := ih fun y hy => hz y (List.mem_cons_of_mem _ hy)
          have := hz z List.mem_cons_self
          subst this
          refine ⟨true :: bs, ?_, by simpa using b2⟩
          show (blsOf zs).map (true :: ·) = _
          rw [b1]; rfl
      obtain ⟨bs, b1, b2⟩ := this ys hy
      simp only [fAll, lrOf, lsOf, b1, b2]
    refine wp_cons (ρ1 := [some (.scr (ns.map D.int)), some (.int (0 + (i : Nat))), some (.ref h.length), x3]) (h1 := h3) (if_no ?_) ?_
    · simp only [w_tN, w_tV, w_eA, w_aC, w_aN, e2, w_ok, ea, w_asB]
      rfl
    exact ⟨_, _, _, rfl⟩
  · obtain ⟨x1, x2, x3, rfl⟩ := i
    exact ⟨_, rfl, wp_ret rfl⟩
end Zk
end

/-! the head -/
noncomputable section
namespace Zk
open PySem PySem.Spec L2 Zs
open PyProof.Rows hiding St
theorem kb_is_integer : KbOk d_is_integer := kb_of (List.forall_mem_cons.mpr ⟨(fun kV doc pm an cdv ct us ws (h1 : us.length = 1) (h2 : ws.length = 0) => match us, ws, h1, h2 with | [_], [], _, _ => rfl), (fun _ h => nomatch h)⟩)
theorem kb_is_between : KbOk d_is_between := kb_of (List.forall_mem_cons.mpr ⟨(fun kV doc pm an cdv ct us ws (h1 : us.length = 3) (h2 : ws.length = 0) => match us, ws, h1, h2 with | [_, _, _], [], _, _ => rfl), (fun _ h => nomatch h)⟩)
theorem kb_is_of_signs : KbOk d_is_of_signs := kb_of (List.forall_mem_cons.mpr ⟨(fun kV doc pm an cdv ct us ws (h1 : us.length = 2) (h2 : ws.length = 0) => match us, ws, h1, h2 with | [_, _], [], _, _ => rfl), (fun _ h => nomatch h)⟩)
theorem kb_is_name : KbOk d_is_name := kb_of (List.forall_mem_cons.mpr ⟨(fun kV doc pm an cdv ct us ws (h1 : us.length = 1) (h2 : ws.length = 0) => match us, ws, h1, h2 with | [_], [], _, _ => rfl), (List.forall_mem_cons.mpr ⟨(fun kV doc pm an cdv ct us ws (h1 : us.length = 0) (h2 : ws.length = 1) => match us, ws, h1, h2 with | [], [_], _, _ => rfl), (fun _ h => nomatch h)⟩)⟩)
theorem kb_is_word : KbOk d_is_word := kb_of (List.forall_mem_cons.mpr ⟨(fun kV doc pm an cdv ct us ws (h1 : us.length = 1) (h2 : ws.length = 0) => match us, ws, h1, h2 with | [_], [], _, _ => rfl), (fun _ h => nomatch h)⟩)
theorem kb_are_unlike : KbOk d_are_unlike := kb_of (List.forall_mem_cons.mpr ⟨(fun kV doc pm an cdv ct us ws (h1 : us.length = 1) (h2 : ws.length = 0) => match us, ws, h1, h2 with | [_], [], _, _ => rfl), (fun _ h => nomatch h)⟩)
theorem kb_is_kind : KbOk d_is_kind := kb_of (List.forall_mem_cons.mpr ⟨(fun kV doc pm an cdv ct us ws (h1 : us.length = 1) (h2 : ws.length = 0) => match us, ws, h1, h2 with | [_], [], _, _ => rfl), (fun _ h => nomatch h)⟩)
theorem kb_is_kind_of : KbOk d_is_kind_of := kb_of (List.forall_mem_cons.mpr ⟨(fun kV doc pm an cdv ct us ws (h1 : us.length = 0) (h2 : ws.length = 2) => match us, ws, h1, h2 with | [], [_, _], _, _ => rfl), (List.forall_mem_cons.mpr ⟨(fun kV doc pm an cdv ct us ws (h1 : us.length = 2) (h2 : ws.length = 0) => match us, ws, h1, h2 with | [_, _], [], _, _ => rfl), (fun _ h => nomatch h)⟩)⟩)
theorem kb_kind_of : KbOk d_kind_of := kb_of (List.forall_mem_cons.mpr ⟨(fun kV doc pm an cdv ct us ws (h1 : us.length = 1) (h2 : ws.length = 0) => match us, ws, h1, h2 with | [_], [], _, _ => rfl), (List.forall_mem_cons.mpr ⟨(fun kV doc pm an cdv ct us ws (h1 : us.length = 0) (h2 : ws.length = 1) => match us, ws, h1, h2 with | [], [_], _, _ => rfl), (fun _ h => nomatch h)⟩)⟩)
theorem kb_is_value : KbOk d_is_value := kb_of (List.forall_mem_cons.mpr ⟨(fun kV doc pm an cdv ct us ws (h1 : us.length = 0) (h2 : ws.length = 1) => match us, ws, h1, h2 with | [], [_], _, _ => rfl), (fun _ h => nomatch h)⟩)
theorem kb_is_column : KbOk d_is_column := kb_of (List.forall_mem_cons.mpr ⟨(fun kV doc pm an cdv ct us ws (h1 : us.length = 1) (h2 : ws.length = 0) => match us, ws, h1, h2 with | [_], [], _, _ => rfl), (fun _ h => nomatch h)⟩)
theorem kb_is_shape : KbOk d_is_shape := kb_of (List.forall_mem_cons.mpr ⟨(fun kV doc pm an cdv ct us ws (h1 : us.length = 1) (h2 : ws.length = 0) => match us, ws, h1, h2 with | [_], [], _, _ => rfl), (List.forall_mem_cons.mpr ⟨(fun kV doc pm an cdv ct us ws (h1 : us.length = 0) (h2 : ws.length = 1) => match us, ws, h1, h2 with | [], [_], _, _ => rfl), (fun _ h => nomatch h)⟩)⟩)
theorem kb_names_in : KbOk d_names_in := kb_of (List.forall_mem_cons.mpr ⟨(fun kV doc pm an cdv ct us ws (h1 : us.length = 1) (h2 : ws.length = 0) => match us, ws, h1, h2 with | [_], [], _, _ => rfl), (fun _ h => nomatch h)⟩)
theorem kb__law_pot : KbOk d__law_pot := kb_of (List.forall_mem_cons.mpr ⟨(fun kV doc pm an cdv ct us ws (h1 : us.length = 2) (h2 : ws.length = 0) => match us, ws, h1, h2 with | [_, _], [], _, _ => rfl), (fun _ h => nomatch h)⟩)
theorem kb__law_take : KbOk d__law_take := kb_of (List.forall_mem_cons.mpr ⟨(fun kV doc pm an cdv ct us ws (h1 : us.length = 2) (h2 : ws.length = 0) => match us, ws, h1, h2 with | [_, _], [], _, _ => rfl), (fun _ h => nomatch h)⟩)
theorem kb__law_of : KbOk d__law_of := kb_of (List.forall_mem_cons.mpr ⟨(fun kV doc pm an cdv ct us ws (h1 : us.length = 2) (h2 : ws.length = 0) => match us, ws, h1, h2 with | [_, _], [], _, _ => rfl), (fun _ h => nomatch h)⟩)
theorem kb__law_cells : KbOk d__law_cells := kb_of (List.forall_mem_cons.mpr ⟨(fun kV doc pm an cdv ct us ws (h1 : us.length = 2) (h2 : ws.length = 0) => match us, ws, h1, h2 with | [_, _], [], _, _ => rfl), (fun _ h => nomatch h)⟩)
theorem kb__law_odd : KbOk d__law_odd := kb_of (List.forall_mem_cons.mpr ⟨(fun kV doc pm an cdv ct us ws (h1 : us.length = 1) (h2 : ws.length = 0) => match us, ws, h1, h2 with | [_], [], _, _ => rfl), (fun _ h => nomatch h)⟩)
theorem kb__law_own_kind : KbOk d__law_own_kind := kb_of (List.forall_mem_cons.mpr ⟨(fun kV doc pm an cdv ct us ws (h1 : us.length = 1) (h2 : ws.length = 0) => match us, ws, h1, h2 with | [_], [], _, _ => rfl), (fun _ h => nomatch h)⟩)
theorem kb__law_own_name : KbOk d__law_own_name := kb_of (List.forall_mem_cons.mpr ⟨(fun kV doc pm an cdv ct us ws (h1 : us.length = 1) (h2 : ws.length = 0) => match us, ws, h1, h2 with | [_], [], _, _ => rfl), (fun _ h => nomatch h)⟩)
theorem kb__law_sign : KbOk d__law_sign := kb_of (List.forall_mem_cons.mpr ⟨(fun kV doc pm an cdv ct us ws (h1 : us.length = 1) (h2 : ws.length = 0) => match us, ws, h1, h2 with | [_], [], _, _ => rfl), (fun _ h => nomatch h)⟩)
theorem kb__law_values : KbOk d__law_values := kb_of (List.forall_mem_cons.mpr ⟨(fun kV doc pm an cdv ct us ws (h1 : us.length = 1) (h2 : ws.length = 0) => match us, ws, h1, h2 with | [_], [], _, _ => rfl), (fun _ h => nomatch h)⟩)
theorem kb__law_right : KbOk d__law_right := kb_of (List.forall_mem_cons.mpr ⟨(fun kV doc pm an cdv ct us ws (h1 : us.length = 1) (h2 : ws.length = 0) => match us, ws, h1, h2 with | [_], [], _, _ => rfl), (fun _ h => nomatch h)⟩)
theorem kb_law : KbOk d_law := kb_of (List.forall_mem_cons.mpr ⟨(fun kV doc pm an cdv ct us ws (h1 : us.length = 1) (h2 : ws.length = 0) => match us, ws, h1, h2 with | [_], [], _, _ => rfl), (fun _ h => nomatch h)⟩)
theorem kb_all : ∀ d ∈ P.defs, KbOk d := (List.forall_mem_cons.mpr ⟨kb_is_integer, (List.forall_mem_cons.mpr ⟨kb_is_between, (List.forall_mem_cons.mpr ⟨kb_is_of_signs, (List.forall_mem_cons.mpr ⟨kb_is_name, (List.forall_mem_cons.mpr ⟨kb_is_word, (List.forall_mem_cons.mpr ⟨kb_are_unlike, (List.forall_mem_cons.mpr ⟨kb_is_kind, (List.forall_mem_cons.mpr ⟨kb_is_kind_of, (List.forall_mem_cons.mpr ⟨kb_kind_of, (List.forall_mem_cons.mpr ⟨kb_is_value, (List.forall_mem_cons.mpr ⟨kb_is_column, (List.forall_mem_cons.mpr ⟨kb_is_shape, (List.forall_mem_cons.mpr ⟨kb_names_in, (List.forall_mem_cons.mpr ⟨kb__law_pot, (List.forall_mem_cons.mpr ⟨kb__law_take, (List.forall_mem_cons.mpr ⟨kb__law_of, (List.forall_mem_cons.mpr ⟨kb__law_cells, (List.forall_mem_cons.mpr ⟨kb__law_odd, (List.forall_mem_cons.mpr ⟨kb__law_own_kind, (List.forall_mem_cons.mpr ⟨kb__law_own_name, (List.forall_mem_cons.mpr ⟨kb__law_sign, (List.forall_mem_cons.mpr ⟨kb__law_values, (List.forall_mem_cons.mpr ⟨kb__law_right, (List.forall_mem_cons.mpr ⟨kb_law, (fun _ h => nomatch h)⟩)⟩)⟩)⟩)⟩)⟩)⟩)⟩)⟩)⟩)⟩)⟩)⟩)⟩)⟩)⟩)⟩)⟩)⟩)⟩)⟩)⟩)⟩)⟩)
theorem s1 : tbS P = true := by kernel_rfl
theorem s2 : P.defs.all scB = true := by kernel_rfl
def loose0 : List Str := ["FIGURES",
  "SMALL",
  "MOST_NAME",
  "MOST_WORD",
  "RESERVED",
  "is_integer",
  "is_between",
  "is_of_signs",
  "is_name",
  "is_word",
  "are_unlike",
  "INT",
  "WORD",
  "KINDS",
  "MOST_VALUE",
  "is_kind",
  "is_kind_of",
  "kind_of",
  "is_value",
  "MOST_COLUMNS",
  "is_column",
  "is_shape",
  "names_in",
  "_law_pot",
  "_law_take",
  "_law_of",
  "_law_cells",
  "_law_odd",
  "_law_own_kind",
  "_law_own_name"]
def loose1 : List Str := ["_law_sign",
  "_law_values",
  "_law_right"]
def loose : List Str := loose0 ++ loose1
def fnD : List He.DefD := P.defs.map DI.dd
abbrev R : PySem.W.OpenRow := PySem.W.OpenLaw.row PySem.Challenge.rw_asatthatmoment_k01_names_values_and_colu
abbrev hk : PySem.W.Hook := He.hookX 4 [] fnD [] [] (tbB P.tb)
def ob (s : PySem.W.SharedT) : He.AlX := He.obsX 4 [] fnD [] [] (tbB P.tb) (HandSHeadRun.getT s)
theorem ob_eq (s : PySem.W.SharedT) : ob s = hk.obs s.abs := He.obsX_eq (HandSHeadRun.getT_eq s)
theorem run (w : World) : HandSHeadRun.RunEq R (PySem.W.view R.prog [37]) hk ob 2000 loose w := by
  intro os
  kernel_rfl
theorem facts (hlaw : ∀ (g : Gm) (ns : List Int), ns.length ≤ 63 → ∃ h', runP g P 8 23 [.scr (ns.map D.int)] [] = .ok (.bl true) h') {Pr : Program} {w : World} {K : PySem.W.Frag} {h : Heap} {mg : Str → Option Value} {f : Addr} (X : K.In h) (G : h.Ns mainGlobals mg) (hfa : mg ("law" : Str) = some (.ref f)) (c : He.SaysX [] fnD [] [] (tbB P.tb) w h K) :
    ∃ (fd : FuncData) (sp : Sp), (∀ (s : Shared) (v : Value), BindsTo s fd ⟨[v], []⟩ [("script", v)]) ∧ (∀ (H : Hp) (a : Addr) (ns : List Int), ns.length ≤ 63 → SqL K H a (ns.map V.int) → sp [.ref a] H (fun v _ => v = .bl true) fun _ _ _ => False) ∧ ∀ base : Heap, FnOk Pr w K mg base CXE 8 f fd ["script"] sp := by
  obtain ⟨fD, hP⟩ := pok_of (P := P) (Pr := Pr) (w := w) (base := h) X G (congrArg (fun z : He.AlT => z.1) c.t) c.more s1 s2 kb_all fun _ => 0
  have hd : P.defs[23]? = some d_law := rfl
  have F := hP.fn _ _ hd
  have e := hP.glo "law" (.fn 23 1 d_law.sh) (by kernel_rfl)
  have e2 := hfa.symm.trans e.1
  cases e2
  refine ⟨fD 23, spOf ⟨K, fun _ => 0⟩ 1 (runP ⟨K, fun _ => 0⟩ P 8 23), fun s v => ?_, fun H a ns hl hS => law_start (Nat.le_trans hl (by decide)) hS (hlaw _ ns hl), fun base => ?_⟩
  · obtain ⟨oc, od, dV, kV, doc, pm, an, cdv, ct, osl, e, lk, hcd, hD, hK⟩ := F.ex
    rw [e]
    rcases hD with ⟨_, rfl⟩ | ⟨e, _⟩
    · exact .of_eq rfl
    · exact absurd rfl e
  · obtain ⟨fD2, hP2⟩ := pok_of (P := P) (Pr := Pr) (w := w) (base := base) X G (congrArg (fun z : He.AlT => z.1) c.t) c.more s1 s2 kb_all fun _ => 0
    have hP3 : POk ⟨K, fun _ => 0⟩ P Pr w mg base (fAt P K) fD := ⟨hP.fn, hP.sc, hP.glo⟩
    exact fn_cxe (fn_all hP3 8 23 _ hd)

end Zk
end

open PySem PySem.W PySem.Calls PyProof.Rows
theorem PySem.Challenge.cw_asatthatmoment_k01_names_values_and_colu_holds : PySem.Challenge.rw_asatthatmoment_k01_names_values_and_colu.Holds := by
  w_on; o_law
  refine HandSHeadRun.head_any (r := OpenLaw.row PySem.Challenge.rw_asatthatmoment_k01_names_values_and_colu) (q := view (OpenLaw.row PySem.Challenge.rw_asatthatmoment_k01_names_values_and_colu).prog [37]) (H := Zk.hk) (ob := Zk.ob) (M := 2000) (loose := Zk.loose) (d := HandSHeadRun.topDef (OpenLaw.row PySem.Challenge.rw_asatthatmoment_k01_names_values_and_colu).prog 37) (kwd := []) Zk.ob_eq
    (by kernel_rfl) (fun s => by kernel_rfl) Zk.run (by kernel_rfl) (by kernel_rfl) (by kernel_rfl) (by rfl) (by first | assumption | decide +kernel) (by decide +kernel) ⟨rfl, rfl, rfl, rfl, rfl, by decide +kernel⟩ ?hw ?hc
  case hw => w_witness2
  case hc =>
    refine L2.walk_ofE (l := PySem.Challenge.rw_asatthatmoment_k01_names_values_and_colu) (n := 63) (k := 8) (x := "script") (CX := Zs.CXE) rfl (by decide) (by kernel_rfl) ⟨rfl, by decide, by decide⟩ ?F (fun _ _ _ _ ⟨_, _, _, z⟩ => z)
    case F =>
      intro w mg fa h Y G hmg0
      obtain ⟨K, KX, c⟩ := Y
      have hmg : mg ("law" : PySem.Str) = some (.ref fa) := by
        have e : (HandSHeadRun.topDef (OpenLaw.row PySem.Challenge.rw_asatthatmoment_k01_names_values_and_colu).prog 37).name = ("law" : PySem.Str) := by kernel_rfl
        rw [← e]
        exact hmg0
      obtain ⟨fd, sp, hb, hsp, hF⟩ := Zk.facts Zk.law_true (Pr := (PySem.Challenge.rw_asatthatmoment_k01_names_values_and_colu).prog) (w := w) KX G hmg c
      exact ⟨K, fd, sp, KX, hb, fun H a ns hl _ hS => hsp H a ns hl hS, fun base _ _ => hF base⟩

