import PyProof.Rows.All
import Wide.All
import OpenK.AllK
import Wide.FinOn
import HandS.ForMost
import HandS.Exc
import HandS.ExcOwn
import HandS.Wide
import HandS.WideBits
import HandS.TupAny
import HandS.IsInst
import HandS.Style
import HandS.Conv
import HandS.Defaults
import HandS.CallSlots
import HandS.ExcInit
import HandS.ExcSuper
import HandS.ExcIs
import HandS.ExcField
import HandS.Lambda
import KE.KExcSuper
import HandS.Codes
import HandS.WordsDict
import HandS.TupLen
import HandS.Iter
import KE.SortData
import KE.DataCmp
import PyProof.ReprRoads
import PyProof.ReprBulk
import PyProof.CallFns
import KE.KDictPairs
import HandS.Small
import HandS.Text
import HandS.RaiseMore
import HandS.Star
import HandS.DictTup
import HandS.ListItems
import HandS.SortOrd
import HandS.Zip
import HandS.ExcValue
import KE.KExcIs
import HandS.WordsExc
import HandS.HeadHook1
import HandS.Words
import HandS.Head0
import HandS.Head1
import HandS.Head2
import HandS.HeadEnd
import HandS.HeadHook2
import HandS.HeadHook3
import HandS.HeadHook4
import HandS.EndTab
import KE.KIntText
import KE.IntTextText
import PyProof.StrLawsRepr
import PySem.Challenge.RW_asatthatmoment_k15_whole_texts_of_letter
set_option Elab.async false
set_option linter.all false
set_option maxRecDepth 100000
set_option maxHeartbeats 0
/-! Fa -/
namespace Zs
open PySem PySem.Spec L2
open PyProof.Rows hiding St

/-! ## values, open objects, results -/
/-- the built-in types that a program names -/
inductive Ty where
  | none | bool | int | str | tuple | list | dict
  deriving DecidableEq
def Ty.name : Ty → String
  | .none => "NoneType" | .bool => "bool" | .int => "int" | .str => "str" | .tuple => "tuple" | .list => "list" | .dict => "dict"
/-- a value: lst, dct: a list, a dict that nobody writes any more; scr: a list that is only read (the script, a list of the module); ref: an open object; cls: a class of the program; exc: an error of one -/
inductive D where
  | non | bl (b : Bool) | int (i : Int) | str (s : List Nat)
  | tup (xs : List D) | kt (xs : List D) | lst (xs : List D) | scr (xs : List D) | dct (kvs : List (D × D)) | ref (i : Nat)
  | ty (t : Ty) | cls (c : Str) | exc (c : Str) (v : D) | fn (n k : Nat)
instance : Inhabited D := ⟨.non⟩

inductive O where
  | lst (xs : List D) | dct (kvs : List (D × D)) | ins (c : Nat) (fs : List (Str × D))

abbrev HP := List (Option O)

inductive R (α : Type) where
  | ok (a : α) (h : HP) | exc (c : Str) (v : D) (h : HP) | bad

abbrev M (α : Type) := HP → R α
abbrev Env' := List (Option D)
abbrev EM := Env' → M D
abbrev AM := Env' → M (List D)
abbrev TM := Env' → M Bool
inductive Fl where
  | nx (ρ : Env') | ret (v : D) | brk (ρ : Env') | exc (c : Str) (v : D) (ρ : Env')
abbrev SM := Env' → M Fl
abbrev FSem := List D → M D

@[inline] def R.bnd {α β : Type} (r : R α) (f : α → HP → R β) : R β :=
  match r with
  | .ok a h => f a h
  | .exc c v h => .exc c v h
  | .bad => .bad

/-! ## values in the heap -/
def strV (s : List Nat) : Str := ⟨s.toArray⟩
/-- a key of a dict -/
inductive KeyR : D → Key → Prop where
  | int (i : Int) : KeyR (.int i) (.inl i)
  | str (s : List Nat) : KeyR (.str s) (.inr (strV s))
inductive KeysR : List D → List Key → Prop where
  | nil : KeysR [] []
  | cons {d k ds ks} : KeyR d k → KeysR ds ks → KeysR (d :: ds) (k :: ks)

/-- the class of that name -/
def cAd (K : PySem.W.Frag) (c : Str) : Addr := match PySem.W.nsIn K mainGlobals c with
  | some (some (.ref a)) => a
  | _ => 0
/-- a caught error at a, its dict at dd -/
def ExV (cls : Value) (dd a : Addr) : HO := .ext fun h => ∃ (oe : Obj) (vs : Array Value), h.get? a = some oe ∧ Zc cls (some dd) oe ∧ oe.data = .fields vs
theorem exV_ok {P : Program} {w : World} {H : Hp} {h : Heap} {a dd : Addr} {cls : Value} {oe : Obj} {vs : Array Value} (e : h.get? a = some oe) (z : Zc cls (some dd) oe) (d : oe.data = .fields vs) : ObjOk P w H h a (ExV cls dd a) :=
  ⟨⟨oe, vs, e, z, d⟩, ⟨oe, e⟩, fun _ _ ⟨o, v, q, r⟩ k => ⟨o, v, k o q, r⟩⟩
/-- a lambda as it is written -/
structure Lm where
  params : Arguments
  body : Expr
  scope : Scope
/-- the frame of a def that makes lambdas: its cells, its name, its lambdas -/
structure Ce where
  cells : List (Str × Addr)
  q : Str
  lams : List Lm
/-- what is fixed: the known part of the machine, the tables of code objects, the frames that make lambdas (by depth) -/
structure Gm where
  K : PySem.W.Frag
  T : List (Addr × Str)
  cl : Nat → Option Ce
instance : Coe Gm PySem.W.Frag := ⟨Gm.K⟩
/-- a lambda's object at f, its code object at c -/
def LamO (ce : Ce) (lm : Lm) (f c : Addr) : HO := .ext fun h => ∃ pm ctv : Value, h.get? f = some (PySem.W.kla_obj "<lambda>" (ce.q ++ "<lambda>") lm.params lm.body lm.scope (cloFrom ce.cells lm.scope.names []) pm c ctv)
section
variable (K : Gm) (F : Hp) (μ : List Addr)
mutual
inductive Rep : D → V → Prop where
  | non : Rep .non .non
  | bl (b : Bool) : Rep (.bl b) (.bl b)
  | int (i : Int) : Rep (.int i) (.int i)
  | str (s : List Nat) : s.length ≤ sizeLine → Rep (.str s) (.str (strV s))
  | tup {ds a vs} : F a = some (.tup vs) → vs.length ≤ sizeLine → Reps ds vs → Rep (.tup ds) (.ref a)
  | kt {ds a vs} : SqT K F a vs → vs.length ≤ sizeLine → Reps ds vs → Rep (.kt ds) (.ref a)
  | lst {ds a vs} : F a = some (.lst vs) → vs.length ≤ sizeLine → Reps ds vs → Rep (.lst ds) (.ref a)
  | scr {ds a vs} : SqL K F a vs → vs.length ≤ sizeLine → Reps ds vs → Rep (.scr ds) (.ref a)
  | ty (t : Ty) : Rep (.ty t) (.ty t.name)
  | dctK {ds a kvs} {ob : Obj} : F a = some (.frz ob (.dK kvs)) → RepK ds kvs → Rep (.dct ds) (.ref a)
  | dctT {ds a kvs} {ob : Obj} : F a = some (.frz ob (.dT kvs)) → RepT ds kvs → Rep (.dct ds) (.ref a)
  | ref {i a} : μ[i]? = some a → Rep (.ref i) (.ref a)
  | cls {c a} : cAd K c = a → Rep (.cls c) (.ref a)
  | exc {c v a dd u} : F a = some (ExV (.ref (cAd K c)) dd a) → F dd = some (.xd [("value", u)]) → Rep v u → Rep (.exc c v) (.ref a)
  | fn {n k ce lm f c} : K.cl n = some ce → ce.lams[k]? = some lm → F f = some (LamO ce lm f c) → F c = some (LamX.CodeO c (ce.q ++ "<lambda>")) → Rep (.fn n k) (.ref f)
inductive Reps : List D → List V → Prop where
  | nil : Reps [] []
  | cons {d v ds vs} : Rep d v → Reps ds vs → Reps (d :: ds) (v :: vs)
inductive RepK : List (D × D) → List (Key × V) → Prop where
  | nil : RepK [] []
  | cons {d k e v ds kvs} : KeyR d k → Rep e v → RepK ds kvs → RepK ((d, e) :: ds) ((k, v) :: kvs)
inductive RepT : List (D × D) → List (List Key × V) → Prop where
  | nil : RepT [] []
  | cons {d k e v ds kvs} : KeysR d k → Rep e v → RepT ds kvs → RepT ((.tup d, e) :: ds) ((k, v) :: kvs)
end
/-- an open object as it stands -/
inductive RepO : O → HO → Prop where
  | lst {ds vs} : vs.length ≤ sizeLine → Reps K F μ ds vs → RepO (.lst ds) (.lst vs)
  | dctK {ds kvs} : RepK K F μ ds kvs → RepO (.dct ds) (.dK kvs)
  | dctT {ds kvs} : RepT K F μ ds kvs → RepO (.dct ds) (.dT kvs)
end

/-- the later knows more -/
structure Ext (F : Hp) (μ : List Addr) (F' : Hp) (μ' : List Addr) : Prop where
  f : ∀ a o, F a = some o → F' a = some o
  m : μ <+: μ'
theorem Ext.refl (F : Hp) (μ : List Addr) : Ext F μ F μ := ⟨fun _ _ h => h, List.prefix_refl μ⟩
theorem Ext.trans {F F1 F2 : Hp} {μ μ1 μ2 : List Addr} (a : Ext F μ F1 μ1) (b : Ext F1 μ1 F2 μ2) : Ext F μ F2 μ2 := ⟨fun x o h => b.f x o (a.f x o h), a.m.trans b.m⟩

theorem sqL_mono {K : PySem.W.Frag} {F F' : Hp} (e : ∀ a o, F a = some o → F' a = some o) {a : Addr} {xs : List V} (h : SqL K F a xs) : SqL K F' a xs := by
  rcases h with (h | ⟨o, h⟩) | h
  · exact .inl (.inl (e _ _ h))
  · exact .inl (.inr ⟨o, e _ _ h⟩)
  · exact .inr h
theorem sqT_mono {K : PySem.W.Frag} {F F' : Hp} (e : ∀ a o, F a = some o → F' a = some o) {a : Addr} {xs : List V} (h : SqT K F a xs) : SqT K F' a xs := by
  rcases h with (h | ⟨o, h⟩) | h
  · exact .inl (.inl (e _ _ h))
  · exact .inl (.inr ⟨o, e _ _ h⟩)
  · exact .inr h

section
variable {K : Gm} {F F' : Hp} {μ μ' : List Addr}
theorem pre_get {μ μ' : List Addr} (h : μ <+: μ') {i : Nat} {a : Addr} (e : μ[i]? = some a) : μ'[i]? = some a := by
  obtain ⟨t, rfl⟩ := h
  rw [List.getElem?_append_left (List.getElem?_eq_some_iff.mp e).1]
  exact e
mutual
theorem Rep.mono (x : Ext F μ F' μ') : ∀ {d v}, Rep K F μ d v → Rep K F' μ' d v
  | _, _, .non => .non
  | _, _, .bl b => .bl b
  | _, _, .int i => .int i
  | _, _, .str s z => .str s z
  | _, _, .tup h z r => .tup (x.f _ _ h) z (Reps.mono x r)
  | _, _, .kt h z r => .kt (sqT_mono x.f h) z (Reps.mono x r)
  | _, _, .lst h z r => .lst (x.f _ _ h) z (Reps.mono x r)
  | _, _, .scr h z r => .scr (sqL_mono x.f h) z (Reps.mono x r)
  | _, _, .ty t => .ty t
  | _, _, .dctK h r => .dctK (x.f _ _ h) (RepK.mono x r)
  | _, _, .dctT h r => .dctT (x.f _ _ h) (RepT.mono x r)
  | _, _, .ref h => .ref (pre_get x.m h)
  | _, _, .cls h => .cls h
  | _, _, .exc h e r => .exc (x.f _ _ h) (x.f _ _ e) (Rep.mono x r)
  | _, _, .fn a b h e => .fn a b (x.f _ _ h) (x.f _ _ e)
theorem Reps.mono (x : Ext F μ F' μ') : ∀ {d v}, Reps K F μ d v → Reps K F' μ' d v
  | _, _, .nil => .nil
  | _, _, .cons a b => .cons (Rep.mono x a) (Reps.mono x b)
theorem RepK.mono (x : Ext F μ F' μ') : ∀ {d v}, RepK K F μ d v → RepK K F' μ' d v
  | _, _, .nil => .nil
  | _, _, .cons k a b => .cons k (Rep.mono x a) (RepK.mono x b)
theorem RepT.mono (x : Ext F μ F' μ') : ∀ {d v}, RepT K F μ d v → RepT K F' μ' d v
  | _, _, .nil => .nil
  | _, _, .cons k a b => .cons k (Rep.mono x a) (RepT.mono x b)
end
theorem RepO.mono (x : Ext F μ F' μ') {o u} (h : RepO K F μ o u) : RepO K F' μ' o u := by
  cases h with
  | lst z r => exact .lst z (r.mono x)
  | dctK r => exact .dctK (r.mono x)
  | dctT r => exact .dctT (r.mono x)

theorem Reps.length : ∀ {ds vs}, Reps K F μ ds vs → ds.length = vs.length
  | _, _, .nil => rfl
  | _, _, .cons _ t => by rw [List.length_cons, List.length_cons, Reps.length t]
theorem Reps.get : ∀ {ds vs} {i : Nat} {d : D}, Reps K F μ ds vs → ds[i]? = some d → ∃ v, vs[i]? = some v ∧ Rep K F μ d v
  | _, _, _, _, .nil, e => by simp at e
  | _, _, 0, _, .cons r _, e => by simp at e; subst e; exact ⟨_, rfl, r⟩
  | _, _, i + 1, d, .cons _ t, e => by
    obtain ⟨v, h1, h2⟩ := Reps.get (i := i) (d := d) t (by simpa using e)
    exact ⟨v, by simpa using h1, h2⟩
theorem Reps.append : ∀ {ds vs es us}, Reps K F μ ds vs → Reps K F μ es us → Reps K F μ (ds ++ es) (vs ++ us)
  | _, _, _, _, .nil, s => s
  | _, _, _, _, .cons r t, s => .cons r (Reps.append t s)
theorem Reps.take : ∀ {ds vs} (n : Nat), Reps K F μ ds vs → Reps K F μ (ds.take n) (vs.take n)
  | _, _, 0, _ => by simp; exact .nil
  | _, _, _ + 1, .nil => by simp; exact .nil
  | _, _, n + 1, .cons r t => by simp; exact .cons r (Reps.take n t)
theorem Reps.drop : ∀ {ds vs} (n : Nat), Reps K F μ ds vs → Reps K F μ (ds.drop n) (vs.drop n)
  | _, _, 0, r => r
  | _, _, _ + 1, .nil => by simp; exact .nil
  | _, _, n + 1, .cons _ t => by simp; exact Reps.drop n t
theorem Reps.set {d v} (r : Rep K F μ d v) : ∀ {ds vs} (i : Nat), Reps K F μ ds vs → Reps K F μ (ds.set i d) (vs.set i v)
  | _, _, _, .nil => .nil
  | _, _, 0, .cons _ t => .cons r t
  | _, _, i + 1, .cons q t => .cons q (Reps.set r i t)
end

/-! ## the state -/
/-- no code object, no tuple -/
def plG (u : HO) : Prop := (∀ c q, u ≠ LamX.CodeO c q) ∧ ∀ xs, u ≠ .tup xs
/-- F: what is known and never written; h: the open objects, by μ's addresses; G: what others hold -/
structure SRel (K : Gm) (F : Hp) (μ : List Addr) (h : HP) (G : Hp) (H : Hp) : Prop where
  sub : ∀ a o, F a = some o → H a = some o
  len : μ.length = h.length
  live : ∀ (i : Nat) (o : O), h[i]? = some (some o) → ∃ a u, μ[i]? = some a ∧ H a = some u ∧ F a = none ∧ G a = none ∧ RepO K F μ o u
  inj : ∀ (i j : Nat) (o o' : O) (a : Addr), h[i]? = some (some o) → h[j]? = some (some o') → μ[i]? = some a → μ[j]? = some a → i = j
  fr : ∀ a o, G a = some o → H a = some o ∧ F a = none
  tb : LamX.Tabs K.T H
  nt : ∀ a ps, F a ≠ some (.tbl ps) ∧ G a ≠ some (.tbl ps)
  nc : ∀ a u, G a = some u → plG u

section
variable {K : Gm} {F : Hp} {μ : List Addr} {h : HP} {G H : Hp}
/-- what is written is no table and no code object -/
def notT (u : HO) : Prop := (∀ ps, u ≠ .tbl ps) ∧ ∀ c q, u ≠ LamX.CodeO c q
theorem tabs_upd {T : List (Addr × Str)} {H : Hp} {a : Addr} {u : HO} (t : LamX.Tabs T H) (n : ∀ v, H a = some v → notT v) : LamX.Tabs T (upd H a u) := fun p hp => by
  obtain ⟨ps, h1, h2, h3⟩ := t p hp
  refine ⟨ps, by rw [upd_ne (fun z => (n _ (by rw [← z]; exact h1)).1 ps rfl)]; exact h1, h2, fun pos cv hc => ?_⟩
  obtain ⟨c, e1, e2⟩ := h3 pos cv hc
  exact ⟨c, e1, by rw [upd_ne (fun z => (n _ (by rw [← z]; exact e2)).2 _ _ rfl)]; exact e2⟩
theorem tabs_new {T : List (Addr × Str)} {H : Hp} {p : Addr} {u : HO} (t : LamX.Tabs T H) (n : H p = none) : LamX.Tabs T (upd H p u) := tabs_upd t fun v e => by rw [n] at e; cases e
theorem RepO.nT {o : O} {u : HO} (r : RepO K F μ o u) : notT u := by
  cases r <;> exact ⟨fun _ z => (nomatch z), fun _ _ z => by unfold LamX.CodeO at z; cases z⟩
theorem SRel.free (s : SRel K F μ h G H) {p : Addr} (n : H p = none) : F p = none ∧ G p = none := by
  refine ⟨?_, ?_⟩
  · cases e : F p with
    | none => rfl
    | some o => rw [s.sub p o e] at n; cases n
  · cases e : G p with
    | none => rfl
    | some o => rw [(s.fr p o e).1] at n; cases n
/-- a new thing that is never written -/
theorem SRel.know (s : SRel K F μ h G H) {p : Addr} {o : HO} (n : H p = none) (no : ∀ ps, o ≠ .tbl ps := by intro _ z; cases z) : SRel K (upd F p o) μ h G (upd H p o) ∧ Ext F μ (upd F p o) μ := by
  obtain ⟨nF, nG⟩ := s.free n
  have x : Ext F μ (upd F p o) μ := ⟨fun a u e => by rw [upd_ne (ne_of_none e nF)]; exact e, List.prefix_refl μ⟩
  refine ⟨⟨fun a u e => ?_, s.len, fun i u e => ?_, s.inj, fun a u e => ?_, tabs_new s.tb n, fun a ps => ⟨fun e => ?_, (s.nt a ps).2⟩, s.nc⟩, x⟩
  · by_cases z : a = p
    · subst z; rw [upd_same] at e ⊢; exact e
    · rw [upd_ne z] at e ⊢; exact s.sub a u e
  · obtain ⟨a, w, h1, h2, h3, h4, h5⟩ := s.live i u e
    have z := ne_of_none h2 n
    exact ⟨a, w, h1, by rw [upd_ne z]; exact h2, by rw [upd_ne z]; exact h3, h4, h5.mono x⟩
  · obtain ⟨h1, h2⟩ := s.fr a u e
    have z := ne_of_none h1 n
    exact ⟨by rw [upd_ne z]; exact h1, by rw [upd_ne z]; exact h2⟩
  · by_cases z : a = p
    · rw [z, upd_same] at e
      exact no ps (Option.some.inj e)
    · rw [upd_ne z] at e
      exact (s.nt a ps).1 e
/-- a new open object -/
theorem SRel.open_ (s : SRel K F μ h G H) {p : Addr} {o : O} {u : HO} (n : H p = none) (r : RepO K F μ o u) : SRel K F (μ ++ [p]) (h ++ [some o]) G (upd H p u) ∧ Ext F μ F (μ ++ [p]) := by
  obtain ⟨nF, nG⟩ := s.free n
  have x : Ext F μ F (μ ++ [p]) := ⟨fun _ _ e => e, List.prefix_append μ [p]⟩
  have old : ∀ {i : Nat} {w : O}, (h ++ [some o])[i]? = some (some w) → i < h.length → h[i]? = some (some w) := fun {i w} e hi => by
    rw [List.getElem?_append_left hi] at e; exact e
  have lst : ∀ {i : Nat} {w : O}, (h ++ [some o])[i]? = some (some w) → ¬ i < h.length → i = h.length ∧ w = o := fun {i w} e hi => by
    have hl := (List.getElem?_eq_some_iff.mp e).1
    rw [List.length_append, List.length_singleton] at hl
    have e1 : i = h.length := by omega
    subst e1
    rw [List.getElem?_append_right (Nat.le_refl _)] at e
    simp at e
    exact ⟨rfl, e.symm⟩
  have atL : (μ ++ [p])[h.length]? = some p := by rw [← s.len]; simp
  refine ⟨⟨fun a w e => ?_, by simp [s.len], fun i w e => ?_, fun i j w w' a e e' m m' => ?_, fun a w e => ?_, tabs_new s.tb n, s.nt, s.nc⟩, x⟩
  · rw [upd_ne (ne_of_none e nF)]; exact s.sub a w e
  · by_cases hi : i < h.length
    · obtain ⟨a, w', h1, h2, h3, h4, h5⟩ := s.live i w (old e hi)
      have z := ne_of_none h2 n
      exact ⟨a, w', pre_get x.m h1, by rw [upd_ne z]; exact h2, h3, h4, h5.mono x⟩
    · obtain ⟨rfl, rfl⟩ := lst e hi
      exact ⟨p, u, atL, upd_same, nF, nG, r.mono x⟩
  · have key : ∀ {k : Nat} {v : O}, (h ++ [some o])[k]? = some (some v) → k < h.length → (μ ++ [p])[k]? = some p → False := fun {k v} e hk m => by
      obtain ⟨a, w', h1, h2, _⟩ := s.live k v (old e hk)
      have := pre_get x.m h1
      rw [m] at this; cases this
      rw [n] at h2; cases h2
    by_cases hi : i < h.length
    · by_cases hj : j < h.length
      · have mi : μ[i]? = some a := by
          rw [List.getElem?_append_left (by rw [s.len]; exact hi)] at m; exact m
        have mj : μ[j]? = some a := by
          rw [List.getElem?_append_left (by rw [s.len]; exact hj)] at m'; exact m'
        exact s.inj i j w w' a (old e hi) (old e' hj) mi mj
      · obtain ⟨rfl, rfl⟩ := lst e' hj
        rw [atL] at m'; cases m'
        exact (key e hi m).elim
    · obtain ⟨rfl, rfl⟩ := lst e hi
      rw [atL] at m; cases m
      by_cases hj : j < h.length
      · exact (key e' hj m').elim
      · exact (lst e' hj).1.symm
  · obtain ⟨h1, h2⟩ := s.fr a w e
    exact ⟨by rw [upd_ne (ne_of_none h1 n)]; exact h1, h2⟩
/-- an open object is written -/
theorem SRel.write (s : SRel K F μ h G H) {i : Nat} {o o' : O} {a : Addr} {u : HO} (e : h[i]? = some (some o)) (m : μ[i]? = some a) (r : RepO K F μ o' u) : SRel K F μ (h.set i (some o')) G (upd H a u) := by
  obtain ⟨a', u', m', h2, h3, h4, h5⟩ := s.live i o e
  rw [m] at m'; cases m'
  have hi := (List.getElem?_eq_some_iff.mp e).1
  have old : ∀ {j : Nat} {w : O}, (h.set i (some o'))[j]? = some (some w) → j ≠ i → h[j]? = some (some w) := fun {j w} q hj => by
    rw [List.getElem?_set_ne (Ne.symm hj)] at q; exact q
  refine ⟨fun b w q => ?_, by rw [List.length_set]; exact s.len, fun j w q => ?_, fun j k w w' b q q' mj mk => ?_, fun b w q => ?_, tabs_upd s.tb fun v e => by rw [h2] at e; cases e; exact h5.nT, s.nt, s.nc⟩
  · rw [upd_ne (ne_of_none q h3)]; exact s.sub b w q
  · by_cases hj : j = i
    · subst hj
      rw [List.getElem?_set_self hi] at q
      cases q
      exact ⟨a, u, m, upd_same, h3, h4, r⟩
    · have q0 := old q hj
      obtain ⟨b, w', g1, g2, g3, g4, g5⟩ := s.live j w q0
      have z : b ≠ a := fun z => by subst z; exact hj (s.inj j i w o b q0 e g1 m)
      exact ⟨b, w', g1, by rw [upd_ne z]; exact g2, g3, g4, g5⟩
  · have any : ∀ {j : Nat} {w : O}, (h.set i (some o'))[j]? = some (some w) → ∃ w0, h[j]? = some (some w0) := fun {j w} q => by
      by_cases hj : j = i
      · subst hj; exact ⟨o, e⟩
      · exact ⟨w, old q hj⟩
    obtain ⟨w1, q1⟩ := any q
    obtain ⟨w2, q2⟩ := any q'
    exact s.inj j k w1 w2 b q1 q2 mj mk
  · obtain ⟨g1, g2⟩ := s.fr b w q
    exact ⟨by rw [upd_ne (ne_of_none q h4)]; exact g1, g2⟩
/-- the younger open objects are forgotten -/
theorem SRel.take {n : Nat} (s : SRel K F μ h G H) (hn : n ≤ h.length) (old : ∀ (i : Nat) (o : O), i < n → h[i]? = some (some o) → ∀ u, RepO K F μ o u → RepO K F (μ.take n) o u) : SRel K F (μ.take n) (h.take n) G H := by
  have hl := s.len
  have at' : ∀ {i : Nat} {o : O}, (h.take n)[i]? = some (some o) → i < n ∧ h[i]? = some (some o) := fun {i o} e => by
    have hi := (List.getElem?_eq_some_iff.mp e).1
    rw [List.length_take] at hi
    have hi2 : i < n := by omega
    rw [List.getElem?_take_of_lt hi2] at e
    exact ⟨hi2, e⟩
  refine ⟨s.sub, by rw [List.length_take, List.length_take, hl], fun i o e => ?_, fun i j o o' a e e' m m' => ?_, s.fr, s.tb, s.nt, s.nc⟩
  · obtain ⟨hi, e0⟩ := at' e
    obtain ⟨a, u, h1, h2, h3, h4, h5⟩ := s.live i o e0
    exact ⟨a, u, by rw [List.getElem?_take_of_lt hi]; exact h1, h2, h3, h4, old i o hi e0 u h5⟩
  · obtain ⟨hi, e0⟩ := at' e
    obtain ⟨hj, e0'⟩ := at' e'
    rw [List.getElem?_take_of_lt hi] at m
    rw [List.getElem?_take_of_lt hj] at m'
    exact s.inj i j o o' a e0 e0' m m'
end
end Zs

/-! Flk -/
noncomputable section
namespace Zs
open PySem PySem.Spec L2
open PyProof.Rows hiding St
open Classical

/-! ## dicts that nobody writes any more are locked: their objects are known -/
def lockO (o : Obj) : HO → HO
  | .dK kvs => .frz o (.dK kvs)
  | .dT kvs => .frz o (.dT kvs)
  | u => u
def lockS (S : Addr → Prop) (ob : Addr → Obj) (H : Hp) : Hp := fun a => match H a with
  | some u => if S a then some (lockO (ob a) u) else some u
  | none => none
theorem lockS_no {S : Addr → Prop} {ob : Addr → Obj} {H : Hp} {a : Addr} (n : ¬ S a) : lockS S ob H a = H a := by
  unfold lockS
  cases H a with
  | none => rfl
  | some u => exact if_neg n
theorem lockS_at {S : Addr → Prop} {ob : Addr → Obj} {H : Hp} {a : Addr} {u : HO} (e : H a = some u) (y : S a) : lockS S ob H a = some (lockO (ob a) u) := by
  unfold lockS
  rw [e]
  exact if_pos y
theorem lockS_same {S : Addr → Prop} {ob : Addr → Obj} {H : Hp} {a : Addr} {u : HO} (e : H a = some u) (k : ∀ o, lockO o u = u) : lockS S ob H a = some u := by
  unfold lockS
  rw [e]
  dsimp only
  rw [k]
  split <;> rfl
theorem lockS_none {S : Addr → Prop} {ob : Addr → Obj} {H : Hp} {a : Addr} (e : H a = none) : lockS S ob H a = none := by
  unfold lockS; rw [e]
theorem lockS_nobody (ob : Addr → Obj) (H : Hp) : lockS (fun _ => False) ob H = H := funext fun a => lockS_no id
theorem lockS_one {ob : Addr → Obj} {H : Hp} {a : Addr} {u : HO} (e : H a = some u) : lockS (fun b => b = a) ob H = upd H a (lockO (ob a) u) := funext fun b => by
  by_cases z : b = a
  · rw [z, upd_same]; exact lockS_at e rfl
  · rw [upd_ne z]; exact lockS_no z
theorem hok_lock {P : Program} {w : World} {H : Hp} {h : Heap} (S : Addr → Prop) (x : HOk P w H h) : HOk P w (lockS S (fun a => (h.get? a).getD default) H) h := fun a o e => by
  have stay : ∀ u, H a = some u → ObjOk P w (lockS S (fun a => (h.get? a).getD default) H) h a u := fun u e => (x a u e).stay (fun _ _ _ q => q) (fun b q => lockS_same q fun _ => rfl) (fun b ys q => lockS_same q fun _ => rfl)
  cases q : H a with
  | none => rw [lockS_none q] at e; cases e
  | some u =>
    by_cases y : S a
    · rw [lockS_at q y] at e
      cases e
      have k := stay u q
      cases u with
      | dK kvs =>
        obtain ⟨_, _, _, _, o, _, _, e, _⟩ := id k
        exact ⟨by rw [e]; rfl, k⟩
      | dT kvs =>
        obtain ⟨_, _, _, _, o, _, _, e, _⟩ := id k
        exact ⟨by rw [e]; rfl, k⟩
      | _ => exact k
    · rw [lockS_no y, q] at e
      cases e
      exact stay _ q
section
variable {X : Cx} {pins : List (Addr × Obj)} {σ : L2.St} {H : Hp} {s : Shared}
theorem inv_lock (S : Addr → Prop) (I : Inv X pins σ H s) : ∃ ob, Inv X pins σ (lockS S ob H) s := by
  refine ⟨fun a => (s.heap.get? a).getD default, I.ok, I.os, I.bare, ⟨I.base.keep, I.base.slot, fun b u e n q => lockS_none (I.base.free b u e n q), I.base.there, fun b xs e => lockS_same (I.base.tups b xs e) fun _ => rfl, fun b u xs e => lockS_same (I.base.frzs b u xs e) fun _ => rfl, fun b ps e => ?_⟩, I.loc, I.cell, lockS_none I.free, fun x c e => lockS_none (I.freeC x c e), fun p q => ?_, hok_lock S I.hok, I.len⟩
  · obtain ⟨m, q⟩ := I.base.tbls b ps e
    exact ⟨m, lockS_same q fun _ => rfl⟩
  · obtain ⟨e, n, r⟩ := I.pin p q
    exact ⟨e, lockS_none n, r⟩
/-- the value's dict is locked -/
def LkQ (Q : VK) : VK := fun v H => Q v H ∨ ∃ a u, v = .ref a ∧ H a = some u ∧ ∀ o, Q v (upd H a (lockO o u))
theorem ep_lk {Q : VK} {u : Value} {s : Shared} (h : EP X pins σ (LkQ Q) u s) : EP X pins σ Q u s := by
  obtain ⟨v, H', I, r, q⟩ := h
  rcases q with q | ⟨a, w, e1, e2, q⟩
  · exact ⟨v, H', I, r, q⟩
  · obtain ⟨ob, J⟩ := inv_lock (fun b => b = a) I
    rw [lockS_one e2] at J
    exact ⟨v, _, J, r, q _⟩
def tLk (t : TE) : TE := fun σ H Q => t σ H (LkQ Q)
theorem pe_lk {e : Expr} {t : TE} (p : PE X e t) : PE X e (tLk t) := ⟨fun pins s σ H Q I h => thn (p.run pins s σ H _ I h) fun u s1 q => ep_lk q⟩
theorem cr_lk {v : Value} {r : List V → Hp → VK → Prop} (c : CallR X v r) : CallR X v (fun xs H Q => r xs H (LkQ Q)) := fun pins s σ H xs us Q I rv h => thn (c pins s σ H xs us _ I rv h) fun u s1 q => ep_lk q
/-- a def's end: what is shut is locked -/
theorem pss_lk {body : List Stmt} {t : TS} (p : PSs X body t) : PSs X body (fun D σ H => t { D with rt := fun v H' => ∃ S : Addr → Prop, ∀ ob, D.rt v (lockS S ob H') } σ H) := by
  refine ⟨fun pins s σ H D I h => thn (p.run pins s σ H _ I h) fun fl s' q => ?_⟩
  cases fl with
  | ret u =>
    obtain ⟨v, σ', H', J, r, S, q⟩ := q
    obtain ⟨ob, J2⟩ := inv_lock S J
    exact ⟨v, σ', _, J2, r, q ob⟩
  | next => exact q
  | brk => exact q
  | cont => exact q
end
end Zs
end

/-! Fb -/
namespace Zs
open PySem PySem.Spec L2
open PyProof.Rows hiding St

/-! ## what is wanted behind a computation -/

structure REnv (K : Gm) (F : Hp) (μ : List Addr) (ρ : Env') (σ : St) : Prop where
  len : ρ.length = σ.length
  at_ : ∀ (i : Nat) (d : D), ρ[i]? = some (some d) → ∃ v, σ[i]? = some (some v) ∧ Rep K F μ d v
theorem REnv.mono {K : Gm} {F F' : Hp} {μ μ' : List Addr} {ρ : Env'} {σ : St} (e : REnv K F μ ρ σ) (x : Ext F μ F' μ') : REnv K F' μ' ρ σ :=
  ⟨e.len, fun i d h => let ⟨v, a, b⟩ := e.at_ i d h; ⟨v, a, b.mono x⟩⟩
theorem REnv.set {K : Gm} {F : Hp} {μ : List Addr} {ρ : Env'} {σ : St} (e : REnv K F μ ρ σ) {d : D} {v : V} (r : Rep K F μ d v) (i : Nat) : REnv K F μ (ρ.set i (some d)) (σ.set i (some v)) := by
  refine ⟨by simp [e.len], fun j d' h => ?_⟩
  by_cases hj : i = j
  · subst hj
    have hi := (List.getElem?_eq_some_iff.mp h).1
    rw [List.length_set] at hi
    rw [List.getElem?_set_self hi] at h
    cases h
    exact ⟨v, by rw [List.getElem?_set_self (by rw [← e.len]; exact hi)], r⟩
  · rw [List.getElem?_set_ne hj] at h
    rw [List.getElem?_set_ne hj]
    exact e.at_ j d' h
theorem REnv.unset {K : Gm} {F : Hp} {μ : List Addr} {ρ : Env'} {σ : St} (e : REnv K F μ ρ σ) (i : Nat) : REnv K F μ (ρ.set i none) (σ.set i none) := by
  refine ⟨by simp [e.len], fun j d' h => ?_⟩
  by_cases hj : i = j
  · subst hj
    by_cases hi : i < ρ.length
    · rw [List.getElem?_set_self hi] at h; cases h
    · rw [List.getElem?_eq_none (by simpa using hi)] at h; cases h
  · rw [List.getElem?_set_ne hj] at h
    rw [List.getElem?_set_ne hj]
    exact e.at_ j d' h
/-- the own slots of a block forgotten -/
def wipeE (ρ : Env') : List Nat → Env'
  | [] => ρ
  | v :: vs => (wipeE ρ vs).set v none
theorem REnv.wipe {K : Gm} {F : Hp} {μ : List Addr} {ρ : Env'} {σ : St} (e : REnv K F μ ρ σ) : ∀ vs, REnv K F μ (wipeE ρ vs) (wipe σ vs)
  | [] => e
  | v :: vs => (REnv.wipe e vs).unset v

section
variable (g : Gm)
/-- what an exception asks -/
def excP (W : WX) (F : Hp) (μ : List Addr) (G : Hp) (σ : St) (c : Str) (x : D) (h' : HP) : Prop :=
  ∀ F' μ' H' dd v, Ext F μ F' μ' → SRel g F' μ' h' G H' → Rep g F' μ' x v → F' dd = some (.xd [("value", v)]) → W (.ref (cAd g.K c)) (some dd) σ H'
def post {α β : Type} (rel : Hp → List Addr → α → β → Prop) (W : WX) (F : Hp) (μ : List Addr) (G : Hp) (σ : St) (Q : β → Hp → Prop) : R α → Prop
  | .ok d h' => ∀ F' μ' H' v, Ext F μ F' μ' → SRel g F' μ' h' G H' → rel F' μ' d v → Q v H'
  | .exc c x h' => excP g W F μ G σ c x h'
  | .bad => False
abbrev relD : Hp → List Addr → D → V → Prop := fun F μ d v => Rep g F μ d v
abbrev relA : Hp → List Addr → List D → List V → Prop := fun F μ d v => Reps g F μ d v
abbrev relB : Hp → List Addr → Bool → Bool → Prop := fun _ _ a b => a = b

def tE (W : WX) (m : EM) : TE := fun σ H Q => ∃ F μ h G ρ, SRel g F μ h G H ∧ REnv g F μ ρ σ ∧ post g (relD g) W F μ G σ Q (m ρ h)
def tA (W : WX) (m : AM) : TA := fun σ H Q => ∃ F μ h G ρ, SRel g F μ h G H ∧ REnv g F μ ρ σ ∧ post g (relA g) W F μ G σ Q (m ρ h)
def tT (W : WX) (m : TM) : TT := fun σ H Q => ∃ F μ h G ρ, SRel g F μ h G H ∧ REnv g F μ ρ σ ∧ post g (relB) W F μ G σ Q (m ρ h)
end
section
variable {g : Gm} {W : WX} {F F1 : Hp} {μ μ1 : List Addr} {G H : Hp} {σ : St} {h : HP} {ρ : Env'}
theorem excP.mono {c x h'} (e : excP g W F μ G σ c x h') (y : Ext F μ F1 μ1) : excP g W F1 μ1 G σ c x h' :=
  fun F' μ' H' dd v z => e F' μ' H' dd v (y.trans z)
theorem post.mono {α β : Type} {rel : Hp → List Addr → α → β → Prop} {Q : β → Hp → Prop} {r : R α} (e : post g rel W F μ G σ Q r) (y : Ext F μ F1 μ1) : post g rel W F1 μ1 G σ Q r := by
  cases r with
  | ok d h' => exact fun F' μ' H' v z => e F' μ' H' v (y.trans z)
  | exc c x h' => exact excP.mono e y
  | bad => exact e
/-- the first computation, then what hangs on it -/
theorem post_bnd {α β γ δ : Type} {rel : Hp → List Addr → α → β → Prop} {rel' : Hp → List Addr → γ → δ → Prop} {Q : δ → Hp → Prop} {C : β → Hp → Prop} {r : R α} {f : α → HP → R γ}
    (e : post g rel' W F μ G σ Q (r.bnd f))
    (k : ∀ F1 μ1 h1 H1 d v, Ext F μ F1 μ1 → SRel g F1 μ1 h1 G H1 → rel F1 μ1 d v → post g rel' W F1 μ1 G σ Q (f d h1) → C v H1) : post g rel W F μ G σ C r := by
  cases r with
  | ok d h' => exact fun F' μ' H' v x s q => k F' μ' h' H' d v x s q (post.mono e x)
  | exc c x h' => exact e
  | bad => exact e
theorem post_ok {α β : Type} {rel : Hp → List Addr → α → β → Prop} {Q : β → Hp → Prop} {d : α} (e : post g rel W F μ G σ Q (.ok d h)) (s : SRel g F μ h G H) {v : β} (q : rel F μ d v) : Q v H :=
  e F μ H v (Ext.refl F μ) s q
/-- a new known thing -/
theorem post_know {α : Type} {rel : Hp → List Addr → α → V → Prop} {Q : VK} {d : α} (e : post g rel W F μ G σ Q (.ok d h)) (s : SRel g F μ h G H) {o : HO} (q : ∀ p F', Ext F μ F' μ → F' p = some o → rel F' μ d (.ref p)) (no : ∀ ps, o ≠ .tbl ps := by intro _ z; cases z) :
    ∀ p, H p = none → Q (.ref p) (upd H p o) := fun p n => by
  obtain ⟨s', x⟩ := s.know (o := o) n no
  exact e _ _ _ _ x s' (q p _ x upd_same)
end

/-- weaker wishes -/
theorem _root_.L2.PE.imp {X : Cx} {e : Expr} {t t' : TE} (p : PE X e t) (h : ∀ σ H Q, t' σ H Q → t σ H Q) : PE X e t' := ⟨fun pins s σ H Q I hw => p.run pins s σ H Q I (h _ _ _ hw)⟩
theorem _root_.L2.PT.imp {X : Cx} {e : Expr} {t t' : TT} (p : PT X e t) (h : ∀ σ H Q, t' σ H Q → t σ H Q) : PT X e t' := ⟨fun pins s σ H Q I hw => p.run pins s σ H Q I (h _ _ _ hw)⟩
theorem _root_.L2.PW.imp {X : Cx} {e : Expr} {t t' : TT} (p : PW X e t) (h : ∀ σ H Q, t' σ H Q → t σ H Q) : PW X e t' := ⟨fun wh pins s σ H Q I hw => p.run wh pins s σ H Q I (h _ _ _ hw)⟩
theorem _root_.L2.PA.imp {X : Cx} {e : List Expr} {t t' : TA} (p : PA X e t) (h : ∀ σ H Q, t' σ H Q → t σ H Q) : PA X e t' := ⟨fun pos pins s σ H Q I hw => p.run pos pins s σ H Q I (h _ _ _ hw)⟩
theorem _root_.L2.PS.imp {X : Cx} {e : Stmt} {t t' : TS} (p : PS X e t) (h : ∀ D σ H, t' D σ H → t D σ H) : PS X e t' := ⟨fun pins s σ H D I hw => p.run pins s σ H D I (h _ _ _ hw)⟩
theorem _root_.L2.PSs.imp {X : Cx} {e : List Stmt} {t t' : TS} (p : PSs X e t) (h : ∀ D σ H, t' D σ H → t D σ H) : PSs X e t' := ⟨fun pins s σ H D I hw => p.run pins s σ H D I (h _ _ _ hw)⟩

/-! ## the words: expressions -/
def eC (d : D) : EM := fun _ h => .ok d h
def eV (i : Nat) : EM := fun ρ h => match ρ[i]? with
  | some (some d) => .ok d h
  | _ => .bad
/-- one operand, two -/
def e1 (f : D → HP → R D) (a : EM) : EM := fun ρ h => (a ρ h).bnd f
def e2 (f : D → D → HP → R D) (a b : EM) : EM := fun ρ h => (a ρ h).bnd fun x h1 => (b ρ h1).bnd fun y h2 => f x y h2
def aN : AM := fun _ h => .ok [] h
def aC (a : EM) (r : AM) : AM := fun ρ h => (a ρ h).bnd fun x h1 => (r ρ h1).bnd fun xs h2 => .ok (x :: xs) h2
def eA (f : List D → HP → R D) (a : AM) : EM := fun ρ h => (a ρ h).bnd f
/-- and, or, not, if of truth values -/
def asB (x : D) (h : HP) : R Bool := match x with
  | .bl b => .ok b h
  | _ => .bad
def tV (a : EM) : TM := fun ρ h => (a ρ h).bnd asB
def tN (a : TM) : TM := fun ρ h => (a ρ h).bnd fun b h1 => .ok (!b) h1
def tAn (a b : TM) : TM := fun ρ h => (a ρ h).bnd fun c h1 => bif c then b ρ h1 else .ok false h1
def tOr' (a b : TM) : TM := fun ρ h => (a ρ h).bnd fun c h1 => bif c then .ok true h1 else b ρ h1
def eIf (t : TM) (a b : EM) : EM := fun ρ h => (t ρ h).bnd fun c h1 => bif c then a ρ h1 else b ρ h1
def eAn (a b : EM) : EM := fun ρ h => (a ρ h).bnd fun x h1 => (asB x h1).bnd fun c h2 => bif c then b ρ h2 else .ok (.bl false) h2
def eOr (a b : EM) : EM := fun ρ h => (a ρ h).bnd fun x h1 => (asB x h1).bnd fun c h2 => bif c then .ok (.bl true) h2 else b ρ h2
def eNo (a : EM) : EM := fun ρ h => (a ρ h).bnd fun x h1 => (asB x h1).bnd fun c h2 => .ok (.bl (!c)) h2
/-- a < b < c -/
def e2c (f f' : D → D → HP → R D) (a b c : EM) : EM := fun ρ h => (a ρ h).bnd fun x h1 => (b ρ h1).bnd fun y h2 => (f x y h2).bnd fun z h3 => (asB z h3).bnd fun k h4 =>
  bif k then (c ρ h4).bnd fun w h5 => f' y w h5 else .ok (.bl false) h4

section
variable {X : Cx} {g : Gm} {W : WX} {pos : Pos}
theorem asB_post {α β : Type} {rel : Hp → List Addr → α → β → Prop} {F : Hp} {μ : List Addr} {G : Hp} {σ : St} {Q : β → Hp → Prop} {x : D} {h : HP} {v : V} {f : Bool → HP → R α} (r : Rep g F μ x v) (e : post g rel W F μ G σ Q ((asB x h).bnd f)) :
    ∃ c, v = .bl c ∧ post g rel W F μ G σ Q (f c h) := by
  cases x with
  | bl b => cases r; exact ⟨b, rfl, e⟩
  | _ => exact e.elim
theorem se_c {e : Expr} {d : D} {v : V} (p : PE X e (tC v)) (r : ∀ F μ, Rep g F μ d v) : PE X e (tE g W (eC d)) :=
  p.imp fun σ H Q ⟨F, μ, h, G, ρ, s, en, q⟩ => post_ok (g := g) (rel := relD g) q s (r F μ)
theorem se_v {i : Nat} {e : Expr} (p : PE X e (tVar i)) : PE X e (tE g W (eV i)) := p.imp fun σ H Q ⟨F, μ, h, G, ρ, s, en, q⟩ => by
  unfold eV at q
  split at q
  · rename_i d hd
    obtain ⟨v, h1, h2⟩ := en.at_ i d hd
    exact ⟨v, h1, post_ok (g := g) (rel := relD g) q s h2⟩
  · exact q.elim
/-- what a one-place operation f is, over the layer's rule r -/
def U1 (g : Gm) (W : WX) (f : D → HP → R D) (r : V → Hp → VK → Prop) : Prop :=
  ∀ F μ h G H σ x v Q, SRel g F μ h G H → Rep g F μ x v → post g (relD g) W F μ G σ Q (f x h) → r v H Q
def U2 (g : Gm) (W : WX) (f : D → D → HP → R D) (r : R2) : Prop :=
  ∀ F μ h G H σ x v y u Q, SRel g F μ h G H → Rep g F μ x v → Rep g F μ y u → post g (relD g) W F μ G σ Q (f x y h) → r v u H Q
def UA (g : Gm) (W : WX) (f : List D → HP → R D) (r : List V → Hp → VK → Prop) : Prop :=
  ∀ F μ h G H σ x v Q, SRel g F μ h G H → Reps g F μ x v → post g (relD g) W F μ G σ Q (f x h) → r v H Q
theorem t1_of {f : D → HP → R D} {r : V → Hp → VK → Prop} (u : U1 g W f r) {a : EM} : ∀ σ H Q, tE g W (e1 f a) σ H Q → tE g W a σ H fun x H1 => r x H1 Q := fun σ H Q ⟨F, μ, h, G, ρ, s, en, q⟩ =>
  ⟨F, μ, h, G, ρ, s, en, post_bnd (g := g) q fun F1 μ1 h1 H1 d v x s1 rv q1 => u F1 μ1 h1 G H1 σ d v Q s1 rv q1⟩
theorem t2_of {f : D → D → HP → R D} {r : R2} (u : U2 g W f r) {a b : EM} : ∀ σ H Q, tE g W (e2 f a b) σ H Q → tE g W a σ H fun x H1 => tE g W b σ H1 fun y H2 => r x y H2 Q := fun σ H Q ⟨F, μ, h, G, ρ, s, en, q⟩ =>
  ⟨F, μ, h, G, ρ, s, en, post_bnd (g := g) q fun F1 μ1 h1 H1 d v x s1 rv q1 =>
    ⟨F1, μ1, h1, G, ρ, s1, en.mono x, post_bnd (g := g) q1 fun F2 μ2 h2 H2 d2 v2 x2 s2 rv2 q2 => u F2 μ2 h2 G H2 σ d v d2 v2 Q s2 (rv.mono x2) rv2 q2⟩⟩
theorem tA_of {f : List D → HP → R D} {r : List V → Hp → VK → Prop} (u : UA g W f r) {a : AM} : ∀ σ H Q, tE g W (eA f a) σ H Q → tA g W a σ H fun x H1 => r x H1 Q := fun σ H Q ⟨F, μ, h, G, ρ, s, en, q⟩ =>
  ⟨F, μ, h, G, ρ, s, en, post_bnd (g := g) q fun F1 μ1 h1 H1 d v x s1 rv q1 => u F1 μ1 h1 G H1 σ d v Q s1 rv q1⟩
theorem sa_n : PA X [] (tA g W aN) := pa_nil.imp fun σ H Q ⟨F, μ, h, G, ρ, s, en, q⟩ => post_ok (g := g) (rel := relA g) q s .nil
theorem sa_c {e : Expr} {es : List Expr} {a : EM} {r : AM} (ha : PE X e (tE g W a)) (hr : PA X es (tA g W r)) (hs : starEach (e :: es) X.env = (false, eval e X.env) :: starEach es X.env) : PA X (e :: es) (tA g W (aC a r)) :=
  (pa_cons ha hr hs).imp fun σ H Q ⟨F, μ, h, G, ρ, s, en, q⟩ =>
    ⟨F, μ, h, G, ρ, s, en, post_bnd (g := g) q fun F1 μ1 h1 H1 d v x s1 rv q1 =>
      ⟨F1, μ1, h1, G, ρ, s1, en.mono x, post_bnd (g := g) q1 fun F2 μ2 h2 H2 d2 v2 x2 s2 rv2 q2 => post_ok (g := g) (rel := relA g) q2 s2 (.cons (rv.mono x2) rv2)⟩⟩
/-- tests -/
theorem st_v {e : Expr} {a : EM} (ha : PE X e (tE g W a)) (he : ∀ whole, isTrue e X.env whole = (do let v ← whole; standAt e.pos; holding [v] (truthy v))) : PT X e (tT g W (tV a)) :=
  (pt_val ha he).imp fun σ H Q ⟨F, μ, h, G, ρ, s, en, q⟩ => ⟨F, μ, h, G, ρ, s, en, post_bnd (g := g) q fun F1 μ1 h1 H1 d v x s1 rv q1 => by
    cases d with
    | bl b => cases rv; exact ⟨b, rfl, post_ok (g := g) (rel := relB) q1 s1 rfl⟩
    | _ => exact q1.elim⟩
theorem st_n {e : Expr} {a : TM} (ha : PT X e (tT g W a)) : PT X (.UnaryOp .Not e pos) (tT g W (tN a)) :=
  (pt_not ha).imp fun σ H Q ⟨F, μ, h, G, ρ, s, en, q⟩ => ⟨F, μ, h, G, ρ, s, en, post_bnd (g := g) q fun F1 μ1 h1 H1 d v x s1 rv q1 => by
    cases rv; exact post_ok (g := g) (rel := relB) q1 s1 rfl⟩
theorem tTan {a b : TM} : ∀ σ H Q, tT g W (tAn a b) σ H Q → tAnd (tT g W a) (tT g W b) σ H Q := fun σ H Q ⟨F, μ, h, G, ρ, s, en, q⟩ =>
  ⟨F, μ, h, G, ρ, s, en, post_bnd (g := g) q fun F1 μ1 h1 H1 d v x s1 rv q1 => by
    cases rv
    cases d with
    | true => exact ⟨F1, μ1, h1, G, ρ, s1, en.mono x, q1⟩
    | false => exact post_ok (g := g) (rel := relB) q1 s1 rfl⟩
theorem tTor {a b : TM} : ∀ σ H Q, tT g W (tOr' a b) σ H Q → tOr (tT g W a) (tT g W b) σ H Q := fun σ H Q ⟨F, μ, h, G, ρ, s, en, q⟩ =>
  ⟨F, μ, h, G, ρ, s, en, post_bnd (g := g) q fun F1 μ1 h1 H1 d v x s1 rv q1 => by
    cases rv
    cases d with
    | true => exact post_ok (g := g) (rel := relB) q1 s1 rfl
    | false => exact ⟨F1, μ1, h1, G, ρ, s1, en.mono x, q1⟩⟩
theorem se_if {c a b : Expr} {t : TM} {ma mb : EM} (hc : PT X c (tT g W t)) (ha : PE X a (tE g W ma)) (hb : PE X b (tE g W mb)) : PE X (.IfExp c a b pos) (tE g W (eIf t ma mb)) :=
  (pe_ifExp hc ha hb).imp fun σ H Q ⟨F, μ, h, G, ρ, s, en, q⟩ => ⟨F, μ, h, G, ρ, s, en, post_bnd (g := g) q fun F1 μ1 h1 H1 d v x s1 rv q1 => by
    cases rv
    cases d with
    | true => exact ⟨F1, μ1, h1, G, ρ, s1, en.mono x, q1⟩
    | false => exact ⟨F1, μ1, h1, G, ρ, s1, en.mono x, q1⟩⟩
theorem se_an {a b : Expr} {rest : List Expr} {ma mb : EM} (ha : PE X a (tE g W ma)) (hb : PE X (.BoolOp .And (b :: rest) pos) (tE g W mb)) : PE X (.BoolOp .And (a :: b :: rest) pos) (tE g W (eAn ma mb)) :=
  (pe_and ha hb).imp fun σ H Q ⟨F, μ, h, G, ρ, s, en, q⟩ => ⟨F, μ, h, G, ρ, s, en, post_bnd (g := g) q fun F1 μ1 h1 H1 d v x s1 rv q1 => by
    obtain ⟨c, rfl, q2⟩ := asB_post rv q1
    refine ⟨c, rfl, ?_⟩
    cases c with
    | true => exact ⟨F1, μ1, h1, G, ρ, s1, en.mono x, q2⟩
    | false => exact post_ok (g := g) (rel := relD g) q2 s1 (.bl false)⟩
theorem se_or {a b : Expr} {rest : List Expr} {ma mb : EM} (ha : PE X a (tE g W ma)) (hb : PE X (.BoolOp .Or (b :: rest) pos) (tE g W mb)) : PE X (.BoolOp .Or (a :: b :: rest) pos) (tE g W (eOr ma mb)) :=
  (pe_or ha hb).imp fun σ H Q ⟨F, μ, h, G, ρ, s, en, q⟩ => ⟨F, μ, h, G, ρ, s, en, post_bnd (g := g) q fun F1 μ1 h1 H1 d v x s1 rv q1 => by
    obtain ⟨c, rfl, q2⟩ := asB_post rv q1
    refine ⟨c, rfl, ?_⟩
    cases c with
    | true => exact post_ok (g := g) (rel := relD g) q2 s1 (.bl true)
    | false => exact ⟨F1, μ1, h1, G, ρ, s1, en.mono x, q2⟩⟩
theorem se_no {a : Expr} {ma : EM} (ha : PE X a (tE g W ma)) : PE X (.UnaryOp .Not a pos) (tE g W (eNo ma)) :=
  (pe_not ha).imp fun σ H Q ⟨F, μ, h, G, ρ, s, en, q⟩ => ⟨F, μ, h, G, ρ, s, en, post_bnd (g := g) q fun F1 μ1 h1 H1 d v x s1 rv q1 => by
    obtain ⟨c, rfl, q2⟩ := asB_post rv q1
    exact ⟨c, rfl, post_ok (g := g) (rel := relD g) q2 s1 (.bl _)⟩⟩
/-- operators -/
theorem se_bin {a b : Expr} {op : Operator} {ma mb : EM} {f : D → D → HP → R D} {r : R2} (ho : OpR X (binaryOp op) r) (u : U2 g W f r) (ha : PE X a (tE g W ma)) (hb : PE X b (tE g W mb)) : PE X (.BinOp a op b pos) (tE g W (e2 f ma mb)) :=
  (pe_op ho ha hb).imp (t2_of u)
theorem se_un {a : Expr} {op : UnaryOp} {ma : EM} {f : D → HP → R D} {r : V → Hp → VK → Prop} (ho : UnR X (unaryOp op) r) (u : U1 g W f r) (ha : PE X a (tE g W ma)) : PE X (.UnaryOp op a pos) (tE g W (e1 f ma)) :=
  (pe_un ho ha).imp (t1_of u)
theorem se_cmp {a b : Expr} {op : CmpOp} {ma mb : EM} {f : D → D → HP → R D} {r : R2} (ho : OpR X (compareOp op) r) (u : U2 g W f r) (ha : PE X a (tE g W ma)) (hb : PE X b (tE g W mb)) (hm : behindInMarks op b = false) : PE X (.Compare a [op] [b] pos) (tE g W (e2 f ma mb)) :=
  (pe_cmpR ho ha hb hm).imp (t2_of u)
/-- a comparison as a test -/
theorem st_cmp {a b : Expr} {op : CmpOp} {ma mb : EM} {f : D → D → HP → R D} {r : R2} (ho : OpR X (compareOp op) r) (u : U2 g W f r) (ha : PE X a (tE g W ma)) (hb : PE X b (tE g W mb)) (hm : behindInMarks op b = false) : PT X (.Compare a [op] [b] pos) (tT g W (tV (e2 f ma mb))) :=
  (pt_cmpR ho ha hb hm).imp fun σ H Q ⟨F, μ, h, G, ρ, s, en, q⟩ => by
    have q' : tE g W (e2 f ma mb) σ H fun x H' => ∃ k, x = .bl k ∧ Q k H' := ⟨F, μ, h, G, ρ, s, en, post_bnd (g := g) q fun F1 μ1 h1 H1 d v x s1 rv q1 => by
      cases d with
      | bl b => cases rv; exact ⟨b, rfl, post_ok (g := g) (rel := relB) q1 s1 rfl⟩
      | _ => exact q1.elim⟩
    exact t2_of u σ H _ q'
theorem tch {f f' : D → D → HP → R D} {r r' : R2} (u : U2 g W f r) (u' : U2 g W f' r') {a b c : EM} : ∀ σ H Q, tE g W (e2c f f' a b c) σ H Q → tChain r r' (tE g W a) (tE g W b) (tE g W c) σ H Q := fun σ H Q ⟨F, μ, h, G, ρ, s, en, q⟩ =>
  ⟨F, μ, h, G, ρ, s, en, post_bnd (g := g) q fun F1 μ1 h1 H1 d v x s1 rv q1 =>
    ⟨F1, μ1, h1, G, ρ, s1, en.mono x, post_bnd (g := g) q1 fun F2 μ2 h2 H2 d2 v2 x2 s2 rv2 q2 => by
      refine u F2 μ2 h2 G H2 σ d v d2 v2 _ s2 (rv.mono x2) rv2 (post_bnd (g := g) q2 fun F3 μ3 h3 H3 d3 v3 x3 s3 rv3 q3 => ?_)
      obtain ⟨k, rfl, q4⟩ := asB_post rv3 q3
      refine ⟨k, rfl, ?_⟩
      cases k with
      | true => exact ⟨F3, μ3, h3, G, ρ, s3, en.mono (x.trans (x2.trans x3)), post_bnd (g := g) q4 fun F4 μ4 h4 H4 d4 v4 x4 s4 rv4 q5 => u' F4 μ4 h4 G H4 σ d2 v2 d4 v4 Q s4 (rv2.mono (x3.trans x4)) rv4 q5⟩
      | false => exact post_ok (g := g) (rel := relD g) q4 s3 (.bl false)⟩⟩
theorem se_ch {a b c : Expr} {op op' : CmpOp} {ma mb mc : EM} {f f' : D → D → HP → R D} {r r' : R2} (ho : OpR X (compareOp op) r) (ho' : OpR X (compareOp op') r') (u : U2 g W f r) (u' : U2 g W f' r') (ha : PE X a (tE g W ma)) (hb : PE X b (tE g W mb)) (hc : PE X c (tE g W mc))
    (hm : lastMarks [op, op'] [b, c] = false) : PE X (.Compare a [op, op'] [b, c] pos) (tE g W (e2c f f' ma mb mc)) :=
  (pe_chain ho ho' ha hb hc hm).imp (tch u u')
theorem st_ch {a b c : Expr} {op op' : CmpOp} {ma mb mc : EM} {f f' : D → D → HP → R D} {r r' : R2} (ho : OpR X (compareOp op) r) (ho' : OpR X (compareOp op') r') (u : U2 g W f r) (u' : U2 g W f' r') (ha : PE X a (tE g W ma)) (hb : PE X b (tE g W mb)) (hc : PE X c (tE g W mc))
    (hm : lastMarks [op, op'] [b, c] = false) : PT X (.Compare a [op, op'] [b, c] pos) (tT g W (tV (e2c f f' ma mb mc))) :=
  (pt_chain ho ho' ha hb hc hm).imp fun σ H Q ⟨F, μ, h, G, ρ, s, en, q⟩ => by
    have q' : tE g W (e2c f f' ma mb mc) σ H fun x H' => ∃ k, x = .bl k ∧ Q k H' := ⟨F, μ, h, G, ρ, s, en, post_bnd (g := g) q fun F1 μ1 h1 H1 d v x s1 rv q1 => by
      cases d with
      | bl b => cases rv; exact ⟨b, rfl, post_ok (g := g) (rel := relB) q1 s1 rfl⟩
      | _ => exact q1.elim⟩
    exact tch u u' σ H _ q'
end
end Zs

/-! Fc -/
noncomputable section
namespace Zs
open PySem PySem.Spec L2
open PyProof.Rows hiding St
open Classical

section
variable {g : Gm} {W : WX} {K : Gm} {F : Hp} {μ : List Addr} {G H : Hp} {σ : L2.St} {h : HP}

theorem strV_len (s : List Nat) : (strV s).length = s.length := by simp [strV, Str.length]
theorem strV_list (s : List Nat) : (strV s).cps.toList = s := by simp [strV]
theorem strV_inj {s t : List Nat} (e : strV s = strV t) : s = t := by
  have := congrArg (fun z : Str => z.cps.toList) e
  simpa [strV] using this
theorem strV_iff {s t : List Nat} : strV s = strV t ↔ s = t := ⟨strV_inj, fun z => by rw [z]⟩
theorem strV_app (s t : List Nat) : strV s ++ strV t = strV (s ++ t) := by
  show Str.append _ _ = _
  unfold Str.append strV
  simp

/-! ### reading lists, tuples -/
/-- a list: frozen or open -/
def lsOf (x : D) (h : HP) : Option (List D) := match x with
  | .lst xs => some xs
  | .ref i => (match h[i]? with
    | some (some (.lst xs)) => some xs
    | _ => none)
  | _ => none
/-- a list or a tuple that is read -/
def sqOf (x : D) (h : HP) : Option (List D) := match x with
  | .lst xs => some xs
  | .tup xs => some xs
  | .kt xs => some xs
  | .scr xs => some xs
  | .ref i => (match h[i]? with
    | some (some (.lst xs)) => some xs
    | _ => none)
  | _ => none
theorem ls_at (s : SRel K F μ h G H) {x : D} {v : V} (r : Rep K F μ x v) {ds : List D} (e : lsOf x h = some ds) : ∃ a vs, v = .ref a ∧ H a = some (.lst vs) ∧ vs.length ≤ sizeLine ∧ Reps K F μ ds vs := by
  cases r with
  | lst f z q => cases e; exact ⟨_, _, rfl, s.sub _ _ f, z, q⟩
  | @ref i a m =>
    have e' : (match h[i]? with
      | some (some (.lst xs)) => some xs
      | _ => none) = some ds := e
    split at e'
    · rename_i xs hi
      cases e'
      obtain ⟨b, u, m', hH, _, _, ro⟩ := s.live i _ hi
      rw [m] at m'; cases m'
      cases ro with
      | lst z q => exact ⟨a, _, rfl, hH, z, q⟩
    · cases e'
  | _ => cases e
theorem sqL_at (s : SRel K F μ h G H) {a : Addr} {vs : List V} (f : SqL K F a vs) : SqL K H a vs := sqL_mono s.sub f
theorem sqT_at (s : SRel K F μ h G H) {a : Addr} {vs : List V} (f : SqT K F a vs) : SqT K H a vs := sqT_mono s.sub f
theorem sq_at (s : SRel K F μ h G H) {x : D} {v : V} (r : Rep K F μ x v) {ds : List D} (e : sqOf x h = some ds) : ∃ a vs, v = .ref a ∧ (SqL K H a vs ∨ SqT K H a vs) ∧ vs.length ≤ sizeLine ∧ Reps K F μ ds vs := by
  cases r with
  | lst f z q => cases e; exact ⟨_, _, rfl, .inl (SqL.of (s.sub _ _ f)), z, q⟩
  | tup f z q => cases e; exact ⟨_, _, rfl, .inr (sqT_at s (SqT.of f)), z, q⟩
  | kt f z q => cases e; exact ⟨_, _, rfl, .inr (sqT_at s f), z, q⟩
  | scr f z q => cases e; exact ⟨_, _, rfl, .inl (sqL_at s f), z, q⟩
  | @ref i a m =>
    have e' : (match h[i]? with
      | some (some (.lst xs)) => some xs
      | _ => none) = some ds := e
    split at e'
    · rename_i xs hi
      cases e'
      obtain ⟨b, u, m', hH, _, _, ro⟩ := s.live i _ hi
      rw [m] at m'; cases m'
      cases ro with
      | lst z q => exact ⟨a, _, rfl, .inl (SqL.of hH), z, q⟩
    · cases e'
  | _ => cases e
theorem Reps.atI {ds : List D} {vs : List V} (r : Reps K F μ ds vs) {i : Int} {d : D} (e : L2.atI ds i = some d) : ∃ v, L2.atI vs i = some v ∧ Rep K F μ d v := by
  unfold L2.atI at e ⊢
  rw [← r.length]
  cases q : ixN ds.length i with
  | none => rw [q] at e; cases e
  | some j =>
    rw [q] at e
    exact r.get e

/-! ### arithmetic -/
/-- a new list: frozen, or open -/
def mkL (o : Bool) (xs : List D) (h : HP) : R D := match o with
  | false => .ok (.lst xs) h
  | true => .ok (.ref h.length) (h ++ [some (.lst xs)])
theorem post_mkL {o : Bool} {ds : List D} {vs : List V} {Q : VK} (s : SRel g F μ h G H) (p : post g (relD g) W F μ G σ Q (mkL o ds h)) (z : vs.length ≤ sizeLine) (r : Reps g F μ ds vs) :
    ∀ p, H p = none → Q (.ref p) (upd H p (.lst vs)) := by
  cases o with
  | false => exact post_know (g := g) (rel := relD g) p s fun p' F' x' f' => .lst f' z (r.mono x')
  | true =>
    intro a n
    obtain ⟨s', x⟩ := s.open_ n (.lst z r)
    exact p _ _ _ _ x s' (.ref (by rw [← s.len]; simp))
def bAdd (o : Bool) (x y : D) (h : HP) : R D := match x, y with
  | .int i, .int j => .ok (.int (i + j)) h
  | .str s, .str t => if s.length + t.length ≤ sizeLine then .ok (.str (s ++ t)) h else .bad
  | .tup s, .tup t => if s.length + t.length ≤ sizeLine then .ok (.tup (s ++ t)) h else .bad
  | x, y => match lsOf x h, lsOf y h with
    | some s, some t => if s.length + t.length ≤ sizeLine then mkL o (s ++ t) h else .bad
    | _, _ => .bad
def rAdd' (K : PySem.W.Frag) : R2 := fun x y H Q => (rI0 fun i j => .int (i + j)) x y H Q ∨ (∃ i j, x = .str i ∧ y = .str j ∧ i.length + j.length ≤ sizeLine ∧ Q (.str (i ++ j)) H) ∨ rCatA K x y H Q ∨ rCat x y H Q
theorem o_add {X : Cx} : OpR X (binaryOp .Add) (rAdd' X.K) := op_add.or (op_add_str.or (op_catA.or op_cat))
/-- two lists -/
theorem cat_ls {o : Bool} {s t : List D} {x y : D} {v u : V} {Q : VK} (sr : SRel g F μ h G H) (r : Rep g F μ x v) (q : Rep g F μ y u) (ex : lsOf x h = some s) (ey : lsOf y h = some t)
    (p : post g (relD g) W F μ G σ Q (if s.length + t.length ≤ sizeLine then mkL o (s ++ t) h else .bad)) : rCat v u H Q := by
  obtain ⟨a, vs, rfl, ha, za, ra⟩ := ls_at sr r ex
  obtain ⟨b, us, rfl, hb, zb, rb⟩ := ls_at sr q ey
  split at p
  · rename_i z
    have z' : vs.length + us.length ≤ sizeLine := by rw [← ra.length, ← rb.length]; exact z
    exact ⟨a, b, vs, us, rfl, rfl, ha, hb, z', post_mkL sr p (by rw [List.length_append]; exact z') (ra.append rb)⟩
  · exact p.elim
theorem u_add {o : Bool} : U2 g W (bAdd o) (rAdd' g.K) := by
  intro F μ h G H σ x v y u Q s r q p
  unfold bAdd at p
  split at p
  · cases r; cases q
    exact .inl ⟨_, _, rfl, rfl, post_ok (g := g) (rel := relD g) p s (.int _)⟩
  · cases r; cases q
    split at p
    · rename_i z
      refine .inr (.inl ⟨_, _, rfl, rfl, by rw [strV_len, strV_len]; exact z, ?_⟩)
      rw [strV_app]
      exact post_ok (g := g) (rel := relD g) p s (.str _ (by rw [List.length_append]; exact z))
    · exact p.elim
  · cases r with
    | tup f1 z1 r1 =>
      cases q with
      | tup f2 z2 r2 =>
        rename_i xs ys a vs b us
        split at p
        · rename_i z
          have z' : vs.length + us.length ≤ sizeLine := by rw [← r1.length, ← r2.length]; exact z
          refine .inr (.inr (.inl ⟨a, b, vs, us, rfl, rfl, sqT_at s (SqT.of f1), sqT_at s (SqT.of f2), z', fun e => ?_, fun e e' => ?_, fun e e' => ?_⟩))
          · subst e
            cases r1
            exact post_ok (g := g) (rel := relD g) p s (.tup f2 z2 (by simpa using r2))
          · subst e'
            cases r2
            exact post_ok (g := g) (rel := relD g) p s (.tup f1 z1 (by simpa using r1))
          · exact post_know (g := g) (rel := relD g) p s fun p' F' x' f' => .tup f' (by rw [List.length_append]; exact z') ((r1.append r2).mono x')
        · exact p.elim
  · split at p
    · rename_i e1 e2
      exact .inr (.inr (.inr (cat_ls s r q e1 e2 p)))
    · exact p.elim

def bInt (C : Int → Int → Prop) (f : Int → Int → Int) (x y : D) (h : HP) : R D := match x, y with
  | .int i, .int j => if C i j then .ok (.int (f i j)) h else .bad
  | _, _ => .bad
theorem u_int {C : Int → Int → Prop} {f : Int → Int → Int} : U2 g W (bInt C f) (rI C fun i j => .int (f i j)) := by
  intro F μ h G H σ x v y u Q s r q p
  unfold bInt at p
  split at p
  · cases r; cases q
    split at p
    · rename_i z
      exact ⟨_, _, rfl, rfl, z, post_ok (g := g) (rel := relD g) p s (.int _)⟩
    · exact p.elim
  · exact p.elim
def CTrue (_ _ : Int) : Prop := True
def CNz (_ j : Int) : Prop := j ≠ 0
def CFd (_ j : Int) : Prop := j ≠ 0 ∧ j.natAbs.log2 < 9000
def CPw (i j : Int) : Prop := 0 ≤ j ∧ (Builtin.Int.intBits i : Int) * j ≤ 2 ^ 27
def bSub : D → D → HP → R D := bInt CTrue fun i j => i - j
def bMul : D → D → HP → R D := bInt IntMulOk fun i j => i * j
def bFd : D → D → HP → R D := bInt CFd Int.fdiv
def bMod : D → D → HP → R D := bInt CNz Int.fmod
def bPow : D → D → HP → R D := bInt CPw fun i j => i ^ j.toNat
section
variable {X : Cx}
theorem o_sub : OpR X (binaryOp .Sub) (rI CTrue fun i j => .int (i - j)) := opI fun _ _ _ _ _ _ _ _ q => sub_int q
theorem o_mul : OpR X (binaryOp .Mult) (rI IntMulOk fun i j => .int (i * j)) := opI fun _ _ _ _ _ _ _ hc q => mul_int q hc
theorem o_fd : OpR X (binaryOp .FloorDiv) (rI CFd fun i j => .int (i.fdiv j)) := opI fun _ _ _ _ _ _ _ hc q => floordiv_int hc.1 q (.inl (PyProof.noPylong_of_log2 hc.2))
theorem o_mod : OpR X (binaryOp .Mod) (rI CNz fun i j => .int (i.fmod j)) := opI fun _ _ _ _ _ _ _ hc q => mod_int' hc q
theorem o_pow : OpR X (binaryOp .Pow) (rI CPw fun i j => .int (i ^ j.toNat)) := opI fun _ _ _ _ _ _ _ hc q => pow_int hc.1 hc.2 q
end
def uNeg (x : D) (h : HP) : R D := match x with
  | .int i => .ok (.int (-i)) h
  | _ => .bad
theorem u_neg : U1 g W uNeg (rU fun i => .int (-i)) := by
  intro F μ h G H σ x v Q s r p
  unfold uNeg at p
  split at p
  · cases r
    exact ⟨_, rfl, post_ok (g := g) (rel := relD g) p s (.int _)⟩
  · exact p.elim

/-! ### comparisons -/
def bCmp (f : Int → Int → Bool) (x y : D) (h : HP) : R D := match x, y with
  | .int i, .int j => .ok (.bl (f i j)) h
  | _, _ => .bad
theorem u_cmp {f : Int → Int → Bool} : U2 g W (bCmp f) (rI0 fun i j => .bl (f i j)) := by
  intro F μ h G H σ x v y u Q s r q p
  unfold bCmp at p
  split at p
  · cases r; cases q
    exact ⟨_, _, rfl, rfl, post_ok (g := g) (rel := relD g) p s (.bl _)⟩
  · exact p.elim
def bLt : D → D → HP → R D := bCmp fun i j => decide (i < j)
def bLe : D → D → HP → R D := bCmp fun i j => decide (i ≤ j)
def bGt : D → D → HP → R D := bCmp fun i j => decide (j < i)
def bGe : D → D → HP → R D := bCmp fun i j => decide (j ≤ i)
/-- == of flat values (True and 1 aside) -/
def eqS : D → D → Option Bool
  | .non, .non => some true
  | .non, .int _ => some false
  | .int _, .non => some false
  | .non, .bl _ => some false
  | .bl _, .non => some false
  | .non, .str _ => some false
  | .str _, .non => some false
  | .int i, .int j => some (decide (i = j))
  | .bl i, .bl j => some (decide (i = j))
  | .str i, .str j => some (decide (i = j))
  | .int _, .str _ => some false
  | .str _, .int _ => some false
  | .bl _, .str _ => some false
  | .str _, .bl _ => some false
  | _, _ => none
theorem eqS_V {x y : D} {v u : V} {b : Bool} (r : Rep K F μ x v) (q : Rep K F μ y u) (e : eqS x y = some b) : scal v u = true ∧ decide (v = u) = b := by
  cases r <;> cases q <;> first
    | (cases e; done)
    | (cases e; refine ⟨rfl, ?_⟩; simp [strV_iff]; done)
def bEq (x y : D) (h : HP) : R D := match eqS x y with
  | some b => .ok (.bl b) h
  | none => .bad
def bNe (x y : D) (h : HP) : R D := match eqS x y with
  | some b => .ok (.bl (!b)) h
  | none => .bad
theorem u_eq : U2 g W bEq rEq := by
  intro F μ h G H σ x v y u Q s r q p
  unfold bEq at p
  split at p
  · rename_i b e
    obtain ⟨h1, h2⟩ := eqS_V r q e
    exact ⟨h1, by rw [h2]; exact post_ok (g := g) (rel := relD g) p s (.bl _)⟩
  · exact p.elim
theorem u_ne : U2 g W bNe rNe := by
  intro F μ h G H σ x v y u Q s r q p
  unfold bNe at p
  split at p
  · rename_i b e
    obtain ⟨h1, h2⟩ := eqS_V r q e
    exact ⟨h1, by rw [h2]; exact post_ok (g := g) (rel := relD g) p s (.bl _)⟩
  · exact p.elim
/-- is None, is True -/
def isNon : D → Bool
  | .non => true
  | _ => false
def bIs (neg : Bool) (x y : D) (h : HP) : R D := match y with
  | .non => .ok (.bl (xor neg (isNon x))) h
  | .bl b => (match x with
    | .bl a => .ok (.bl (xor neg (decide (a = b)))) h
    | _ => .bad)
  | _ => .bad
def rIs' (neg : Bool) : R2 := fun x y H Q => (y = .non ∧ Q (.bl (xor neg (decide (x = .non)))) H) ∨ ∃ a b : Bool, x = .bl a ∧ y = .bl b ∧ Q (.bl (xor neg (decide (a = b)))) H
theorem o_is {X : Cx} : OpR X (compareOp .Is) (rIs' false) := by
  intro pins s σ H x y v u Q I rx ry h
  rcases h with ⟨e, q⟩ | ⟨a, b, e1, e2, q⟩
  · exact op_isN pins s σ H x y v u Q I rx ry ⟨e, by simpa using q⟩
  · exact op_isBl pins s σ H x y v u Q I rx ry ⟨a, b, e1, e2, by simpa using q⟩
theorem o_isNot {X : Cx} : OpR X (compareOp .IsNot) (rIs' true) := by
  intro pins s σ H x y v u Q I rx ry h
  rcases h with ⟨e, q⟩ | ⟨a, b, e1, e2, q⟩
  · exact op_notN pins s σ H x y v u Q I rx ry ⟨e, by simpa using q⟩
  · exact op_notBl pins s σ H x y v u Q I rx ry ⟨a, b, e1, e2, by simpa using q⟩
theorem isNon_V {x : D} {v : V} (r : Rep K F μ x v) : decide (v = .non) = isNon x := by
  cases r <;> simp [isNon]
theorem u_is {neg : Bool} : U2 g W (bIs neg) (rIs' neg) := by
  intro F μ h G H σ x v y u Q s r q p
  unfold bIs at p
  split at p
  · cases q
    exact .inl ⟨rfl, by rw [isNon_V r]; exact post_ok (g := g) (rel := relD g) p s (.bl _)⟩
  · cases q
    split at p
    · cases r
      exact .inr ⟨_, _, rfl, rfl, post_ok (g := g) (rel := relD g) p s (.bl _)⟩
    · exact p.elim
  · exact p.elim
/-- in: a sign of a text, a flat thing of a list or tuple -/
def flatD : D → Bool
  | .non => true | .bl _ => true | .int _ => true | .str _ => true | _ => false
def eqF : D → D → Bool
  | .non, .non => true
  | .bl a, .bl b => a == b
  | .bl a, .int b => (if a then 1 else 0) == b
  | .int a, .bl b => a == (if b then 1 else 0)
  | .int a, .int b => a == b
  | .str a, .str b => decide (a = b)
  | _, _ => false
def bIn (neg : Bool) (x y : D) (h : HP) : R D := match y with
  | .str s => (match x with
    | .str [c] => .ok (.bl (xor neg (decide (c ∈ s)))) h
    | _ => .bad)
  | y => match sqOf y h with
    | some ys => if flatD x = true ∧ ys.all flatD = true then .ok (.bl (xor neg (ys.any fun z => eqF z x))) h else .bad
    | none => .bad
def rIn' (K : PySem.W.Frag) (neg : Bool) : R2 := fun x y H Q => (∃ (c : Nat) (z : Str), x = .str ⟨#[c]⟩ ∧ y = .str z ∧ Q (.bl (xor neg (decide (c ∈ z.cps.toList)))) H) ∨ rIn K neg x y H Q
theorem o_in {X : Cx} : OpR X (compareOp .In) (rIn' X.K false) := by
  intro pins s σ H x y v u Q I rx ry h
  rcases h with ⟨c, z, e1, e2, q⟩ | q
  · exact op_in_sign pins s σ H x y v u Q I rx ry ⟨c, z, e1, e2, by simpa using q⟩
  · exact op_in_seq pins s σ H x y v u Q I rx ry q
theorem o_notIn {X : Cx} : OpR X (compareOp .NotIn) (rIn' X.K true) := by
  intro pins s σ H x y v u Q I rx ry h
  rcases h with ⟨c, z, e1, e2, q⟩ | q
  · exact op_notIn_sign pins s σ H x y v u Q I rx ry ⟨c, z, e1, e2, by simpa using q⟩
  · exact op_notIn_seq pins s σ H x y v u Q I rx ry q
theorem flat_V {x : D} {v : V} (r : Rep K F μ x v) (e : flatD x = true) : flatV v = true := by
  cases r <;> first | rfl | (cases e; done)
theorem eqF_V {x y : D} {v u : V} (r : Rep K F μ x v) (q : Rep K F μ y u) (f1 : flatD x = true) (f2 : flatD y = true) : eqV v u = eqF x y := by
  cases r <;> first | (cases f1; done) | (cases q <;> first | (cases f2; done) | rfl | (rename_i s hs t ht; show (strV s == strV t) = decide (s = t); rw [Bool.eq_iff_iff, beq_iff_eq, decide_eq_true_eq]; exact ⟨strV_inj, fun z => by rw [z]⟩))
theorem flats_V : ∀ {xs : List D} {vs : List V}, Reps K F μ xs vs → xs.all flatD = true → vs.all flatV = true
  | _, _, .nil, _ => rfl
  | _, _, .cons r t, e => by
    rw [List.all_cons, Bool.and_eq_true] at e ⊢
    exact ⟨flat_V r e.1, flats_V t e.2⟩
theorem inV_D {x : D} {v : V} (r : Rep K F μ x v) (f : flatD x = true) : ∀ {xs : List D} {vs : List V}, Reps K F μ xs vs → xs.all flatD = true → inV v vs = xs.any fun z => eqF z x
  | _, _, .nil, _ => rfl
  | _, _, .cons q t, e => by
    rw [List.all_cons, Bool.and_eq_true] at e
    show (eqV _ v || inV v _) = _
    rw [List.any_cons, eqF_V q r e.1 f, inV_D r f t e.2]
theorem u_in {neg : Bool} : U2 g W (bIn neg) (rIn' g.K neg) := by
  intro F μ h G H σ x v y u Q s r q p
  unfold bIn at p
  split at p
  · cases q with
    | str _ hz =>
      split at p
      · cases r
        refine .inl ⟨_, _, rfl, rfl, ?_⟩
        rw [strV_list]
        exact post_ok (g := g) (rel := relD g) p s (.bl _)
      · exact p.elim
  · split at p
    · rename_i ys e
      split at p
      · rename_i z
        obtain ⟨a, vs, rfl, hs, hz, rs⟩ := sq_at s q e
        refine .inr ⟨a, vs, rfl, hs, flat_V r z.1, flats_V rs z.2, ?_⟩
        rw [inV_D r z.1 rs z.2]
        have e2 : (if neg = true then !(ys.any fun z => eqF z x) else ys.any fun z => eqF z x) = xor neg (ys.any fun z => eqF z x) := by cases neg <;> simp
        rw [e2]
        exact post_ok (g := g) (rel := relD g) p s (.bl _)
      · exact p.elim
    · exact p.elim
end
end Zs
end

/-! Fd -/
noncomputable section
namespace Zs
open PySem PySem.Spec L2
open PyProof.Rows hiding St
open Classical

section
variable {g : Gm} {W : WX} {K : Gm} {F : Hp} {μ : List Addr} {G H : Hp} {σ : L2.St} {h : HP}

/-! ### subscripts -/
def bIx (x y : D) (h : HP) : R D := match y with
  | .int i => (match x with
    | .str s => (match L2.atI s i with
      | some c => .ok (.str [c]) h
      | none => .bad)
    | x => (match sqOf x h with
      | some xs => (match L2.atI xs i with
        | some d => .ok d h
        | none => .bad)
      | none => .bad))
  | _ => .bad
theorem sLine_pos : 1 ≤ sizeLine := by rw [sizeLine_eq]; omega
theorem strV_one (c : Nat) : strV [c] = ⟨#[c]⟩ := rfl
theorem u_ix : U2 g W bIx (rIx g.K) := by
  intro F μ h G H σ x v y u Q s r q p
  unfold bIx at p
  split at p
  · cases q
    rename_i i
    split at p
    · cases r with
      | str _ hz =>
        split at p
        · rename_i c e
          exact .inr (.inr ⟨_, _, c, rfl, rfl, by rw [strV_len]; exact hz, by rw [strV_list]; exact e, post_ok (g := g) (rel := relD g) p s (.str [c] sLine_pos)⟩)
        · exact p.elim
    · split at p
      · rename_i xs e
        obtain ⟨a, vs, rfl, hs, hz, rs⟩ := sq_at s r e
        split at p
        · rename_i d e2
          obtain ⟨w, e3, rw'⟩ := rs.atI e2
          rcases hs with hs | hs
          · exact .inl ⟨a, vs, i, w, rfl, rfl, hs, e3, post_ok (g := g) (rel := relD g) p s rw'⟩
          · exact .inr (.inl ⟨a, vs, i, w, rfl, rfl, hs, e3, post_ok (g := g) (rel := relD g) p s rw'⟩)
        · exact p.elim
      · exact p.elim
  · exact p.elim

/-! ### slices -/
abbrev OM := Env' → M (Option Int)
def oN : OM := fun _ h => .ok none h
def oS (a : EM) : OM := fun ρ h => (a ρ h).bnd fun x h1 => match x with
  | .int i => .ok (some i) h1
  | _ => .bad
abbrev relO : Hp → List Addr → Option Int → Option Int → Prop := fun _ _ a b => a = b
def tO (g : Gm) (W : WX) (m : OM) : TO := fun σ H Q => ∃ F μ h G ρ, SRel g F μ h G H ∧ REnv g F μ ρ σ ∧ post g (relO) W F μ G σ Q (m ρ h)
theorem _root_.L2.PO.imp {X : Cx} {e : Option Expr} {t t' : TO} (p : PO X e t) (h : ∀ σ H Q, t' σ H Q → t σ H Q) : PO X e t' := ⟨fun pins s σ H Q I hw => p.run pins s σ H Q I (h _ _ _ hw)⟩
theorem so_n {X : Cx} : PO X none (tO g W oN) := po_none.imp fun σ H Q ⟨F, μ, h, G, ρ, s, en, q⟩ => post_ok (g := g) (rel := relO) q s rfl
theorem so_s {X : Cx} {e : Expr} {a : EM} (ha : PE X e (tE g W a)) : PO X (some e) (tO g W (oS a)) := (po_some ha).imp fun σ H Q ⟨F, μ, h, G, ρ, s, en, q⟩ =>
  ⟨F, μ, h, G, ρ, s, en, post_bnd (g := g) q fun F1 μ1 h1 H1 d v x s1 rv q1 => by
    cases d with
    | int i => cases rv; exact ⟨i, rfl, post_ok (g := g) (rel := relO) q1 s1 rfl⟩
    | _ => exact q1.elim⟩
def cutL {α : Type} (xs : List α) (lo hi : Option Int) : List α := (xs.drop (HT.sIx xs.length 0 lo)).take (HT.sIx xs.length xs.length hi - HT.sIx xs.length 0 lo)
def fSl (o : Bool) (x : D) (lo hi : Option Int) (h : HP) : R D := match x with
  | .str s => .ok (.str (cutL s lo hi)) h
  | .tup xs => .ok (.tup (cutL xs lo hi)) h
  | .scr xs => mkL o (cutL xs lo hi) h
  | x => match lsOf x h with
    | some xs => mkL o (cutL xs lo hi) h
    | none => .bad
def eSl (o : Bool) (a : EM) (lo hi : OM) : EM := fun ρ h => (a ρ h).bnd fun x h1 => (lo ρ h1).bnd fun l h2 => (hi ρ h2).bnd fun u h3 => fSl o x l u h3
def rSl' (K : PySem.W.Frag) : V → Option Int → Option Int → Hp → VK → Prop := fun x lo hi H Q => rSlL K x lo hi H Q ∨ rSlA K x lo hi H Q ∨ rSlS x lo hi H Q
theorem o_sl {X : Cx} : SlR X (rSl' X.K) := sl_list.or (sl_tupA.or sl_str)
theorem Reps.cut {ds : List D} {vs : List V} (r : Reps K F μ ds vs) (lo hi : Option Int) : Reps K F μ (cutL ds lo hi) (cutV vs lo hi) := by
  unfold cutL cutV
  rw [r.length]
  exact (r.drop _).take _
theorem cutL_len {α : Type} (xs : List α) (lo hi : Option Int) : (cutL xs lo hi).length ≤ xs.length := by
  unfold cutL
  rw [List.length_take, List.length_drop]
  omega
theorem cutS_strV (s : List Nat) (lo hi : Option Int) : cutS (strV s) lo hi = strV (cutL s lo hi) := by
  unfold cutS cutL
  rw [strV_len, strV_list]
  rfl
theorem cut_all {vs : List V} {lo hi : Option Int} (e : HT.sIx vs.length 0 lo = 0 ∧ HT.sIx vs.length vs.length hi = vs.length) : cutV vs lo hi = vs := by
  unfold cutV
  rw [e.1, e.2]
  simp
theorem u_sl {o : Bool} {x : D} {v : V} {lo hi : Option Int} {Q : VK} (s : SRel g F μ h G H) (r : Rep g F μ x v) (p : post g (relD g) W F μ G σ Q (fSl o x lo hi h)) : rSl' g.K v lo hi H Q := by
  unfold fSl at p
  split at p
  · cases r with
    | str _ hz =>
      refine .inr (.inr ⟨_, rfl, by rw [strV_len]; exact hz, ?_⟩)
      rw [cutS_strV]
      exact post_ok (g := g) (rel := relD g) p s (.str _ (Nat.le_trans (cutL_len _ _ _) hz))
  · cases r with
    | @tup _ a vs f z rs =>
      refine .inr (.inl ⟨a, vs, rfl, sqT_at s (SqT.of f), fun e => ?_, fun e => ?_⟩)
      · refine post_ok (g := g) (rel := relD g) p s (.tup f z ?_)
        have := rs.cut lo hi
        rw [cut_all e] at this
        exact this
      · exact post_know (g := g) (rel := relD g) p s fun p' F' x' f' => .tup f' (Nat.le_trans (cutV_length _ _ _) z) ((rs.cut lo hi).mono x')
  · cases r with
    | @scr _ a vs f z rs =>
      exact .inl ⟨a, vs, rfl, sqL_at s f, post_mkL s p (Nat.le_trans (cutV_length _ _ _) z) (rs.cut lo hi)⟩
  · split at p
    · rename_i xs e
      obtain ⟨a, vs, rfl, ha, z, rs⟩ := ls_at s r e
      exact .inl ⟨a, vs, rfl, SqL.of ha, post_mkL s p (Nat.le_trans (cutV_length _ _ _) z) (rs.cut lo hi)⟩
    · exact p.elim
theorem se_sl {o : Bool} {X : Cx} {e : Expr} {lo hi : Option Expr} {a : EM} {ml mh : OM} {p2 pos : Pos} (hK : X.K = g.K) (he : PE X e (tE g W a)) (hl : PO X lo (tO g W ml)) (hh : PO X hi (tO g W mh)) :
    PE X (.Subscript e (.Slice lo hi none p2) pos) (tE g W (eSl o a ml mh)) := by
  refine (pe_slice o_sl he hl hh).imp ?_
  rw [hK]
  exact fun σ H Q ⟨F, μ, h, G, ρ, s, en, q⟩ => ⟨F, μ, h, G, ρ, s, en, post_bnd (g := g) q fun F1 μ1 h1 H1 d v x s1 rv q1 =>
    ⟨F1, μ1, h1, G, ρ, s1, en.mono x, post_bnd (g := g) q1 fun F2 μ2 h2 H2 l l' x2 s2 e2 q2 => by
      cases e2
      exact ⟨F2, μ2, h2, G, ρ, s2, en.mono (x.trans x2), post_bnd (g := g) q2 fun F3 μ3 h3 H3 l l' x3 s3 e3 q3 => by
        cases e3
        exact u_sl s3 (rv.mono (x2.trans x3)) q3⟩⟩⟩

/-! ### displays -/
def fTup (xs : List D) (h : HP) : R D := if xs.length ≤ sizeLine then .ok (.tup xs) h else .bad
def fLst (o : Bool) (xs : List D) (h : HP) : R D := if xs.length ≤ sizeLine then mkL o xs h else .bad
theorem u_tup : UA g W fTup (fun xs H Q => xs.length ≤ sizeLine ∧ ∀ p, H p = none → Q (.ref p) (upd H p (.tup xs))) := by
  intro F μ h G H σ x v Q s r p
  unfold fTup at p
  split at p
  · rename_i z
    have z' : v.length ≤ sizeLine := by rw [← r.length]; exact z
    exact ⟨z', post_know (g := g) (rel := relD g) p s fun p' F' x' f' => .tup f' z' (r.mono x')⟩
  · exact p.elim
theorem u_lst {o : Bool} : UA g W (fLst o) (fun xs H Q => xs.length ≤ sizeLine ∧ ∀ p, H p = none → Q (.ref p) (upd H p (.lst xs))) := by
  intro F μ h G H σ x v Q s r p
  unfold fLst at p
  split at p
  · rename_i z
    have z' : v.length ≤ sizeLine := by rw [← r.length]; exact z
    exact ⟨z', post_mkL s p z' r⟩
  · exact p.elim
theorem se_tup {X : Cx} {es : List Expr} {a : AM} {i : Nat} {pos : Pos} (ha : PA X es (tA g W a)) : PE X (.Tuple es i pos) (tE g W (eA fTup a)) := (pe_tup ha).imp (tA_of u_tup)
theorem se_lst {o : Bool} {X : Cx} {es : List Expr} {a : AM} {pos : Pos} (ha : PA X es (tA g W a)) : PE X (.List es pos) (tE g W (eA (fLst o) a)) := (pe_lst ha).imp (tA_of u_lst)
end
end Zs
end

/-! Fe -/
noncomputable section
namespace Zs
open PySem PySem.Spec L2
open PyProof.Rows hiding St
open Classical

section
variable {g : Gm} {W : WX} {K : Gm} {F : Hp} {μ : List Addr} {G H : Hp} {σ : L2.St} {h : HP}

/-! ### lists of one kind -/
def intsOf : List D → Option (List Int)
  | [] => some []
  | .int i :: r => (intsOf r).map (i :: ·)
  | _ :: _ => none
def blsOf : List D → Option (List Bool)
  | [] => some []
  | .bl i :: r => (blsOf r).map (i :: ·)
  | _ :: _ => none
def strsOf : List D → Option (List (List Nat))
  | [] => some []
  | .str i :: r => (strsOf r).map (i :: ·)
  | _ :: _ => none
theorem ints_V : ∀ {ds : List D} {vs : List V} {ns : List Int}, Reps K F μ ds vs → intsOf ds = some ns → vs = ns.map V.int
  | _, _, _, .nil, e => by cases e; rfl
  | d :: ds, v :: vs, ns, .cons r t, e => by
    cases d with
    | int i =>
      have e' : (intsOf ds).map (i :: ·) = some ns := e
      cases q : intsOf ds with
      | none => rw [q] at e'; cases e'
      | some ms => rw [q] at e'; cases e'; cases r; rw [ints_V t q]; rfl
    | _ => cases e
theorem bls_V : ∀ {ds : List D} {vs : List V} {ns : List Bool}, Reps K F μ ds vs → blsOf ds = some ns → vs = ns.map V.bl
  | _, _, _, .nil, e => by cases e; rfl
  | d :: ds, v :: vs, ns, .cons r t, e => by
    cases d with
    | bl i =>
      have e' : (blsOf ds).map (i :: ·) = some ns := e
      cases q : blsOf ds with
      | none => rw [q] at e'; cases e'
      | some ms => rw [q] at e'; cases e'; cases r; rw [bls_V t q]; rfl
    | _ => cases e
theorem strs_V : ∀ {ds : List D} {vs : List V} {ns : List (List Nat)}, Reps K F μ ds vs → strsOf ds = some ns → vs = (ns.map strV).map V.str
  | _, _, _, .nil, e => by cases e; rfl
  | d :: ds, v :: vs, ns, .cons r t, e => by
    cases d with
    | str i =>
      have e' : (strsOf ds).map (i :: ·) = some ns := e
      cases q : strsOf ds with
      | none => rw [q] at e'; cases e'
      | some ms => rw [q] at e'; cases e'; cases r; rw [strs_V t q]; rfl
    | _ => cases e
/-- a list (not a tuple), read -/
def lrOf (x : D) (h : HP) : Option (List D) := match x with
  | .scr xs => some xs
  | x => lsOf x h
theorem lr_at (s : SRel K F μ h G H) {x : D} {v : V} (r : Rep K F μ x v) {ds : List D} (e : lrOf x h = some ds) : ∃ a vs, v = .ref a ∧ SqL K H a vs ∧ vs.length ≤ sizeLine ∧ Reps K F μ ds vs := by
  unfold lrOf at e
  split at e
  · cases e; cases r with
    | scr f z q => exact ⟨_, _, rfl, sqL_at s f, z, q⟩
  · obtain ⟨a, vs, rfl, ha, z, q⟩ := ls_at s r e
    exact ⟨a, vs, rfl, SqL.of ha, z, q⟩
/-- a dict: frozen or open -/
def dcOf (x : D) (h : HP) : Option (List (D × D)) := match x with
  | .dct xs => some xs
  | .ref i => (match h[i]? with
    | some (some (.dct xs)) => some xs
    | _ => none)
  | _ => none
theorem dc_at (s : SRel K F μ h G H) {x : D} {v : V} (r : Rep K F μ x v) {ds : List (D × D)} (e : dcOf x h = some ds) : ∃ a, v = .ref a ∧ ((∃ kvs, Rd H a (.dK kvs) ∧ RepK K F μ ds kvs) ∨ ∃ kvs, Rd H a (.dT kvs) ∧ RepT K F μ ds kvs) := by
  cases r with
  | dctK f q => cases e; exact ⟨_, rfl, .inl ⟨_, .inr ⟨_, s.sub _ _ f⟩, q⟩⟩
  | dctT f q => cases e; exact ⟨_, rfl, .inr ⟨_, .inr ⟨_, s.sub _ _ f⟩, q⟩⟩
  | @ref i a m =>
    have e' : (match h[i]? with
      | some (some (.dct xs)) => some xs
      | _ => none) = some ds := e
    split at e'
    · rename_i xs hi
      cases e'
      obtain ⟨b, u, m', hH, _, _, ro⟩ := s.live i _ hi
      rw [m] at m'; cases m'
      cases ro with
      | dctK q => exact ⟨a, rfl, .inl ⟨_, .inl hH, q⟩⟩
      | dctT q => exact ⟨a, rfl, .inr ⟨_, .inl hH, q⟩⟩
    · cases e'
  | _ => cases e
theorem RepK.length : ∀ {ds kvs}, RepK K F μ ds kvs → ds.length = kvs.length
  | _, _, .nil => rfl
  | _, _, .cons _ _ t => by rw [List.length_cons, List.length_cons, RepK.length t]
theorem RepT.length : ∀ {ds kvs}, RepT K F μ ds kvs → ds.length = kvs.length
  | _, _, .nil => rfl
  | _, _, .cons _ _ t => by rw [List.length_cons, List.length_cons, RepT.length t]

/-! ### built-in functions -/
def fLen (xs : List D) (h : HP) : R D := match xs with
  | [.str s] => .ok (.int s.length) h
  | [x] => (match sqOf x h with
    | some ys => .ok (.int ys.length) h
    | none => (match dcOf x h with
      | some ys => .ok (.int ys.length) h
      | none => .bad))
  | _ => .bad
def rLen' (K : PySem.W.Frag) : List V → Hp → VK → Prop := fun xs H Q => (∃ z, xs = [.str z] ∧ z.length ≤ sizeLine ∧ Q (.int z.length) H) ∨ (∃ p ys, xs = [.ref p] ∧ (SqL K H p ys ∨ SqT K H p ys) ∧ Q (.int ys.length) H) ∨
  (∃ a kvs, xs = [V.ref a] ∧ Rd H a (.dK kvs) ∧ Q (.int kvs.length) H) ∨ ∃ a kvs, xs = [V.ref a] ∧ Rd H a (.dT kvs) ∧ Q (.int kvs.length) H
theorem call_lenRK {X : Cx} : CallR X (.builtin "len") (fun xs H Q => ∃ a kvs, xs = [V.ref a] ∧ Rd H a (.dK kvs) ∧ Q (.int kvs.length) H) := by
  intro pins s σ H xs us Q I r ⟨a, kvs, e, ha, q⟩
  subst e
  obtain ⟨u, rfl, ru⟩ := vals1 r
  cases ru
  exact d_len I ha fun t s' I' => ⟨.int kvs.length, H, I', ⟨t, rfl⟩, q⟩
theorem call_lenRT {X : Cx} : CallR X (.builtin "len") (fun xs H Q => ∃ a kvs, xs = [V.ref a] ∧ Rd H a (.dT kvs) ∧ Q (.int kvs.length) H) := by
  intro pins s σ H xs us Q I r ⟨p, kvs, e, hp, q⟩
  subst e
  obtain ⟨u, rfl, rx⟩ := vals1 r
  cases rx
  obtain ⟨z, hd, ys, rel, dd⟩ := dt_rd I.hok hp
  have hl : kvs.length = ys.length := Paired.length rel
  refine call_len_dictH hd dd (by rw [← hl]; rw [sizeLine_eq] at z; omega) ?_
  rw [← hl]
  exact ⟨.int ((kvs.length : Nat) : Int), H, I.tok _, ⟨_, rfl⟩, q⟩
theorem c_len {X : Cx} : CallR X (.builtin "len") (rLen' X.K) := call_len_str.or (call_len_seq.or (call_lenRK.or call_lenRT))
theorem reps1 {x : D} {vs : List V} (r : Reps K F μ [x] vs) : ∃ v, vs = [v] ∧ Rep K F μ x v := by
  cases r with
  | cons r t => cases t; exact ⟨_, rfl, r⟩
theorem reps2 {x y : D} {vs : List V} (r : Reps K F μ [x, y] vs) : ∃ v u, vs = [v, u] ∧ Rep K F μ x v ∧ Rep K F μ y u := by
  cases r with
  | cons r t =>
    obtain ⟨u, rfl, q⟩ := reps1 t
    exact ⟨_, u, rfl, r, q⟩
theorem u_len : UA g W fLen (rLen' g.K) := by
  intro F μ h G H σ x v Q s r p
  unfold fLen at p
  split at p
  · obtain ⟨v1, rfl, r1⟩ := reps1 r
    cases r1 with
    | str z hz => exact .inl ⟨_, rfl, by rw [strV_len]; exact hz, by rw [strV_len]; exact post_ok (g := g) (rel := relD g) p s (.int _)⟩
  · obtain ⟨v1, rfl, r1⟩ := reps1 r
    split at p
    · rename_i ys e
      obtain ⟨a, vs, rfl, hs, hz, rs⟩ := sq_at s r1 e
      exact .inr (.inl ⟨a, vs, rfl, hs, by rw [← rs.length]; exact post_ok (g := g) (rel := relD g) p s (.int _)⟩)
    · split at p
      · rename_i ys e
        obtain ⟨a, rfl, ⟨kvs, hH, rk⟩ | ⟨kvs, hH, rk⟩⟩ := dc_at s r1 e
        · exact .inr (.inr (.inl ⟨a, kvs, rfl, hH, by rw [← rk.length]; exact post_ok (g := g) (rel := relD g) p s (.int _)⟩))
        · exact .inr (.inr (.inr ⟨a, kvs, rfl, hH, by rw [← rk.length]; exact post_ok (g := g) (rel := relD g) p s (.int _)⟩))
      · exact p.elim
  · exact p.elim

def fAbs (xs : List D) (h : HP) : R D := match xs with
  | [.int i] => .ok (.int (if i < 0 then -i else i)) h
  | _ => .bad
theorem u_abs : UA g W fAbs (fun xs H Q => ∃ i, xs = [.int i] ∧ Q (.int (if i < 0 then -i else i)) H) := by
  intro F μ h G H σ x v Q s r p
  unfold fAbs at p
  split at p
  · obtain ⟨v1, rfl, r1⟩ := reps1 r
    cases r1
    exact ⟨_, rfl, post_ok (g := g) (rel := relD g) p s (.int _)⟩
  · exact p.elim
def fInt (xs : List D) (h : HP) : R D := match xs with
  | [.int i] => .ok (.int i) h
  | [.bl k] => .ok (.int (if k then 1 else 0)) h
  | _ => .bad
theorem u_int1 : UA g W fInt (fun xs H Q => (∃ i, xs = [.int i] ∧ Q (.int i) H) ∨ ∃ k, xs = [.bl k] ∧ Q (.int (if k then 1 else 0)) H) := by
  intro F μ h G H σ x v Q s r p
  unfold fInt at p
  split at p
  · obtain ⟨v1, rfl, r1⟩ := reps1 r
    cases r1
    exact .inl ⟨_, rfl, post_ok (g := g) (rel := relD g) p s (.int _)⟩
  · obtain ⟨v1, rfl, r1⟩ := reps1 r
    cases r1
    exact .inr ⟨_, rfl, post_ok (g := g) (rel := relD g) p s (.int _)⟩
  · exact p.elim
def fSum (xs : List D) (h : HP) : R D := match xs with
  | [x] => (match lrOf x h with
    | some ys => (match intsOf ys with
      | some ns => .ok (.int ns.sum) h
      | none => .bad)
    | none => .bad)
  | _ => .bad
theorem u_sum : UA g W fSum (rSum g.K) := by
  intro F μ h G H σ x v Q s r p
  unfold fSum at p
  split at p
  · obtain ⟨v1, rfl, r1⟩ := reps1 r
    split at p
    · rename_i ys e
      obtain ⟨a, vs, rfl, hs, hz, rs⟩ := lr_at s r1 e
      split at p
      · rename_i ns e2
        have := ints_V rs e2
        subst this
        exact ⟨a, ns, rfl, hs, post_ok (g := g) (rel := relD g) p s (.int _)⟩
      · exact p.elim
    · exact p.elim
  · exact p.elim
def fMax (xs : List D) (h : HP) : R D := match xs with
  | [.int i, .int j] => .ok (.int (if j > i then j else i)) h
  | _ => .bad
def fMin (xs : List D) (h : HP) : R D := match xs with
  | [.int i, .int j] => .ok (.int (if j < i then j else i)) h
  | _ => .bad
theorem u_max2 : UA g W fMax (fun xs H Q => ∃ i j, xs = [.int i, .int j] ∧ Q (.int (if j > i then j else i)) H) := by
  intro F μ h G H σ x v Q s r p
  unfold fMax at p
  split at p
  · obtain ⟨v1, u1, rfl, r1, q1⟩ := reps2 r
    cases r1; cases q1
    exact ⟨_, _, rfl, post_ok (g := g) (rel := relD g) p s (.int _)⟩
  · exact p.elim
theorem u_min2 : UA g W fMin (fun xs H Q => ∃ i j, xs = [.int i, .int j] ∧ Q (.int (if j < i then j else i)) H) := by
  intro F μ h G H σ x v Q s r p
  unfold fMin at p
  split at p
  · obtain ⟨v1, u1, rfl, r1, q1⟩ := reps2 r
    cases r1; cases q1
    exact ⟨_, _, rfl, post_ok (g := g) (rel := relD g) p s (.int _)⟩
  · exact p.elim
def fAny (xs : List D) (h : HP) : R D := match xs with
  | [x] => (match lrOf x h with
    | some ys => (match blsOf ys with
      | some ns => .ok (.bl (ns.any id)) h
      | none => .bad)
    | none => .bad)
  | _ => .bad
def fAll (xs : List D) (h : HP) : R D := match xs with
  | [x] => (match lrOf x h with
    | some ys => (match blsOf ys with
      | some ns => .ok (.bl (ns.all id)) h
      | none => .bad)
    | none => .bad)
  | _ => .bad
theorem u_any : UA g W fAny (rAny g.K) := by
  intro F μ h G H σ x v Q s r p
  unfold fAny at p
  split at p
  · obtain ⟨v1, rfl, r1⟩ := reps1 r
    split at p
    · rename_i ys e
      obtain ⟨a, vs, rfl, hs, hz, rs⟩ := lr_at s r1 e
      split at p
      · rename_i ns e2
        have := bls_V rs e2
        subst this
        exact ⟨a, ns, rfl, hs, post_ok (g := g) (rel := relD g) p s (.bl _)⟩
      · exact p.elim
    · exact p.elim
  · exact p.elim
theorem u_all : UA g W fAll (rAll g.K) := by
  intro F μ h G H σ x v Q s r p
  unfold fAll at p
  split at p
  · obtain ⟨v1, rfl, r1⟩ := reps1 r
    split at p
    · rename_i ys e
      obtain ⟨a, vs, rfl, hs, hz, rs⟩ := lr_at s r1 e
      split at p
      · rename_i ns e2
        have := bls_V rs e2
        subst this
        exact ⟨a, ns, rfl, hs, post_ok (g := g) (rel := relD g) p s (.bl _)⟩
      · exact p.elim
    · exact p.elim
  · exact p.elim
def fList (o : Bool) (xs : List D) (h : HP) : R D := match xs with
  | [x] => (match sqOf x h with
    | some ys => mkL o ys h
    | none => .bad)
  | _ => .bad
theorem u_list {o : Bool} : UA g W (fList o) (fun xs H Q => ∃ p ys, xs = [.ref p] ∧ (SqL g.K H p ys ∨ SqT g.K H p ys) ∧ ∀ l, H l = none → Q (.ref l) (upd H l (.lst ys))) := by
  intro F μ h G H σ x v Q s r p
  unfold fList at p
  split at p
  · obtain ⟨v1, rfl, r1⟩ := reps1 r
    split at p
    · rename_i ys e
      obtain ⟨a, vs, rfl, hs, hz, rs⟩ := sq_at s r1 e
      exact ⟨a, vs, rfl, hs, post_mkL s p hz rs⟩
    · exact p.elim
  · exact p.elim
def fTuple (xs : List D) (h : HP) : R D := match xs with
  | [.tup ys] => .ok (.tup ys) h
  | [.kt ys] => .ok (.kt ys) h
  | [x] => (match lrOf x h with
    | some ys => .ok (.tup ys) h
    | none => .bad)
  | _ => .bad
theorem u_tuple : UA g W fTuple (fun xs H Q => ∃ p ys, xs = [.ref p] ∧ ((SqL g.K H p ys ∧ ∀ l, H l = none → Q (.ref l) (upd H l (.tup ys))) ∨ (SqT g.K H p ys ∧ Q (.ref p) H))) := by
  intro F μ h G H σ x v Q s r p
  unfold fTuple at p
  split at p
  · obtain ⟨v1, rfl, r1⟩ := reps1 r
    cases r1 with
    | @tup _ a vs f z q => exact ⟨a, vs, rfl, .inr ⟨sqT_at s (SqT.of f), post_ok (g := g) (rel := relD g) p s (.tup f z q)⟩⟩
  · obtain ⟨v1, rfl, r1⟩ := reps1 r
    cases r1 with
    | @kt _ a vs f z q => exact ⟨a, vs, rfl, .inr ⟨sqT_at s f, post_ok (g := g) (rel := relD g) p s (.kt f z q)⟩⟩
  · obtain ⟨v1, rfl, r1⟩ := reps1 r
    split at p
    · rename_i ys e
      obtain ⟨a, vs, rfl, hs, hz, rs⟩ := lr_at s r1 e
      exact ⟨a, vs, rfl, .inl ⟨hs, post_know (g := g) (rel := relD g) p s fun p' F' x' f' => .tup f' hz (rs.mono x')⟩⟩
    · exact p.elim
  · exact p.elim

/-! ### dicts of pairs -/
/-- a new dict -/
def mkD (o : Bool) (xs : List (D × D)) (h : HP) : R D := match o with
  | false => .ok (.dct xs) h
  | true => .ok (.ref h.length) (h ++ [some (.dct xs)])
theorem post_mkD {o : Bool} {ds : List (D × D)} {vs : List (Key × V)} {Q : VK} (s : SRel g F μ h G H) (p : post g (relD g) W F μ G σ Q (mkD o ds h)) (r : RepK g F μ ds vs) :
    ∀ p, H p = none → LkQ Q (.ref p) (upd H p (.dK vs)) := by
  cases o with
  | false =>
    intro a n
    refine .inr ⟨a, _, rfl, upd_same, fun ob => ?_⟩
    have e : upd (upd H a (.dK vs)) a (lockO ob (.dK vs)) = upd H a (.frz ob (.dK vs)) := funext fun b => by
      by_cases z : b = a
      · rw [z, upd_same, upd_same]; rfl
      · rw [upd_ne z, upd_ne z, upd_ne z]
    rw [e]
    exact post_know (g := g) (rel := relD g) p s (fun p' F' x' f' => .dctK f' (r.mono x')) (by intro _ z; cases z) a n
  | true =>
    intro a n
    obtain ⟨s', x⟩ := s.open_ n (.dctK r)
    exact .inl (p _ _ _ _ x s' (.ref (by rw [← s.len]; simp)))
/-- keys: ints, texts -/
inductive Ky where
  | int (i : Int) | str (s : List Nat)
  deriving DecidableEq
def kyOf : D → Option Ky
  | .int i => some (.int i)
  | .str s => some (.str s)
  | _ => none
def keyV : Ky → Key
  | .int i => .inl i
  | .str s => .inr (strV s)
theorem keyV_inj {a b : Ky} (e : keyV a = keyV b) : a = b := by
  cases a <;> cases b <;> simp [keyV] at e
  · rw [e]
  · rw [strV_inj e]
theorem ky_R {d : D} {k : Ky} (e : kyOf d = some k) : KeyR d (keyV k) := by
  cases d <;> first | (cases e; done) | (cases e; constructor)
theorem R_ky {d : D} {k : Key} (r : KeyR d k) : ∃ y, kyOf d = some y ∧ keyV y = k := by
  cases r
  · exact ⟨.int _, rfl, rfl⟩
  · exact ⟨.str _, rfl, rfl⟩
def kyIs (d : D) (k : Ky) : Bool := decide (kyOf d = some k)
/-- in its place, or at the end -/
def putD (ds : List (D × D)) (k v : D) (y : Ky) : List (D × D) := if (ds.any fun e => kyIs e.1 y) = true then ds.map (fun e => if kyIs e.1 y = true then (e.1, v) else e) else ds ++ [(k, v)]
def getD' (ds : List (D × D)) (y : Ky) : Option D := (ds.find? fun e => kyIs e.1 y).map (·.2)
theorem kyIs_R {d : D} {k : Key} (r : KeyR d k) (y : Ky) : kyIs d y = decide (k = keyV y) := by
  obtain ⟨z, e, rfl⟩ := R_ky r
  unfold kyIs
  rw [e, Bool.eq_iff_iff, decide_eq_true_eq, decide_eq_true_eq]
  exact ⟨fun q => by cases q; rfl, fun q => by rw [keyV_inj q]⟩
theorem RepK.any (y : Ky) : ∀ {ds kvs}, RepK K F μ ds kvs → (ds.any fun e => kyIs e.1 y) = kvs.any fun kv => decide (kv.1 = keyV y)
  | _, _, .nil => rfl
  | _, _, .cons r _ t => by rw [List.any_cons, List.any_cons, RepK.any y t]; dsimp only; rw [kyIs_R r y]
theorem RepK.put {v : D} {u : V} (rv : Rep K F μ v u) (y : Ky) : ∀ {ds kvs}, RepK K F μ ds kvs → RepK K F μ (ds.map fun e => if kyIs e.1 y = true then (e.1, v) else e) (kvs.map fun kv => if kv.1 = keyV y then (kv.1, u) else kv)
  | _, _, .nil => .nil
  | _, _, .cons (d := d) (k := k) (e := e) r q t => by
    rw [List.map_cons, List.map_cons]
    have h1 := kyIs_R r y
    by_cases z : k = keyV y
    · rw [decide_eq_true z] at h1
      dsimp only
      rw [if_pos h1, if_pos z]
      exact .cons r rv (RepK.put rv y t)
    · rw [decide_eq_false z] at h1
      dsimp only
      rw [if_neg (by rw [h1]; exact Bool.noConfusion), if_neg z]
      exact .cons r q (RepK.put rv y t)
theorem RepK.append : ∀ {ds vs es us}, RepK K F μ ds vs → RepK K F μ es us → RepK K F μ (ds ++ es) (vs ++ us)
  | _, _, _, _, .nil, s => s
  | _, _, _, _, .cons r q t, s => .cons r q (RepK.append t s)
theorem RepK.putK {ds kvs} {k v : D} {y : Ky} {u : V} (r : RepK K F μ ds kvs) (e : kyOf k = some y) (rv : Rep K F μ v u) : RepK K F μ (putD ds k v y) (L2.putK kvs (keyV y) u) := by
  unfold putD L2.putK
  rw [r.any y]
  split
  · exact r.put rv y
  · exact r.append (.cons (ky_R e) rv .nil)
theorem RepK.get (y : Ky) : ∀ {ds kvs}, RepK K F μ ds kvs → (∃ d v, getD' ds y = some d ∧ valV kvs (keyV y) = some v ∧ Rep K F μ d v) ∨ (getD' ds y = none ∧ valV kvs (keyV y) = none)
  | _, _, .nil => .inr ⟨rfl, rfl⟩
  | _, _, .cons (d := d) (k := k) (e := e) (v := v) (ds := ds) (kvs := kvs) r q t => by
    have h1 := kyIs_R r y
    by_cases z : k = keyV y
    · rw [decide_eq_true z] at h1
      exact .inl ⟨e, v, by simp [getD', List.find?_cons, h1], valV_pos (p := (k, v)) z, q⟩
    · rw [decide_eq_false z] at h1
      rw [valV_neg (p := (k, v)) z]
      have e3 : getD' ((d, e) :: ds) y = getD' ds y := by simp [getD', List.find?_cons, h1]
      rw [e3]
      exact RepK.get y t
/-- pairs put one behind the other -/
def putAll (ds : List (D × D)) : List (D × D) → Option (List (D × D))
  | [] => some ds
  | (k, v) :: r => match kyOf k with
    | some y => putAll (putD ds k v y) r
    | none => none
def pairsOf : List D → Option (List (D × D))
  | [] => some []
  | .tup [k, v] :: r => (pairsOf r).map ((k, v) :: ·)
  | _ :: _ => none
theorem putAll_R : ∀ {ps : List (D × D)} {kvs more : List (Key × V)} {ds out : List (D × D)}, RepK K F μ ds kvs → RepK K F μ ps more → putAll ds ps = some out → RepK K F μ out (mergeK kvs more)
  | _, _, _, _, _, r, .nil, e => by cases e; exact r
  | _, _, _, ds, out, r, .cons (d := d) (k := k) (e := e2) (ds := ps) rk rv t, e => by
    have e' : (match kyOf d with
      | some y => putAll (putD ds d e2 y) ps
      | none => none) = some out := e
    obtain ⟨y, h1, h2⟩ := R_ky rk
    rw [h1] at e'
    have r2 := r.putK h1 rv
    rw [h2] at r2
    have r3 := putAll_R r2 t e'
    exact r3
def fDictP (o : Bool) (xs : List D) (h : HP) : R D := match xs with
  | [] => mkD o [] h
  | [x] => (match lrOf x h with
    | some ys => (match pairsOf ys with
      | some ps => (match putAll [] ps with
        | some ds => mkD o ds h
        | none => .bad)
      | none => .bad)
    | none => .bad)
  | _ => .bad
/-- every key is one -/
def keysOk : List (D × D) → Bool
  | [] => true
  | (k, _) :: r => (kyOf k).isSome && keysOk r
theorem putAll_keys : ∀ {ps ds out : List (D × D)}, putAll ds ps = some out → keysOk ps = true
  | [], _, _, _ => rfl
  | (k, v) :: r, ds, out, e => by
    have e' : (match kyOf k with
      | some y => putAll (putD ds k v y) r
      | none => none) = some out := e
    cases q : kyOf k with
    | none => rw [q] at e'; cases e'
    | some y =>
      rw [q] at e'
      show ((kyOf k).isSome && keysOk r) = true
      rw [q, putAll_keys e']
      rfl
theorem pairs_V {H : Hp} (s : SRel K F μ h G H) : ∀ {ds : List D} {vs : List V} {ps : List (D × D)}, Reps K F μ ds vs → pairsOf ds = some ps → keysOk ps = true → ∃ (as : List Addr) (kvs : List (Key × V)), vs = as.map V.ref ∧ Paired (fun p kv => SqT K H p [kV kv.1, kv.2]) as kvs ∧ RepK K F μ ps kvs
  | _, _, _, .nil, e, _ => by cases e; exact ⟨[], [], rfl, .nil, .nil⟩
  | d :: ds, v :: vs, ps, .cons r t, e, ko => by
    have step : ∀ k x, d = .tup [k, x] → ∃ (as : List Addr) (kvs : List (Key × V)), v :: vs = as.map V.ref ∧ Paired (fun p kv => SqT K H p [kV kv.1, kv.2]) as kvs ∧ RepK K F μ ps kvs := by
      intro k x ed
      subst ed
      have e' : (pairsOf ds).map ((k, x) :: ·) = some ps := e
      cases q : pairsOf ds with
      | none => rw [q] at e'; cases e'
      | some ms =>
        rw [q] at e'
        cases e'
        have ko' : ((kyOf k).isSome && keysOk ms) = true := ko
        rw [Bool.and_eq_true] at ko'
        obtain ⟨as, kvs, e1, pr, rk⟩ := pairs_V s t q ko'.2
        obtain ⟨y, hy⟩ := Option.isSome_iff_exists.mp ko'.1
        cases r with
        | @tup _ a ws f z rs =>
          obtain ⟨w1, w2, rfl, r1, r2⟩ := reps2 rs
          have ek : w1 = kV (keyV y) := by
            cases k <;> first | (cases hy; done) | (cases hy; cases r1; rfl)
          refine ⟨a :: as, (keyV y, w2) :: kvs, by rw [e1]; rfl, .cons ?_ pr, .cons (ky_R hy) r2 rk⟩
          rw [← ek]
          exact sqT_at s (SqT.of f)
    cases d with
    | tup zs =>
      match zs, e, step with
      | [k, x], _, st => exact st k x rfl
      | [], e, _ => cases e
      | [_], e, _ => cases e
      | _ :: _ :: _ :: _, e, _ => cases e
    | _ => cases e
theorem u_dictP {o : Bool} : UA g W (fun xs h => match xs with | [_] => fDictP o xs h | _ => .bad) (fun xs H Q => ∃ (a : Addr) (ps : List Addr) (kvs : List (Key × V)), xs = [.ref a] ∧ SqL g.K H a (ps.map V.ref) ∧ Paired (fun p kv => SqT g.K H p [kV kv.1, kv.2]) ps kvs ∧
    ∀ p, H p = none → LkQ Q (.ref p) (upd H p (.dK (mergeK [] kvs)))) := by
  intro F μ h G H σ x v Q s r p
  match x, r, p with
  | [x], r, p =>
    obtain ⟨v1, rfl, r1⟩ := reps1 r
    have p' : post g (relD g) W F μ G σ Q (fDictP o [x] h) := p
    unfold fDictP at p'
    dsimp only at p'
    split at p'
    · rename_i ys e
      obtain ⟨a, vs, rfl, hs, hz, rs⟩ := lr_at s r1 e
      split at p'
      · rename_i ps e2
        split at p'
        · rename_i ds e3
          obtain ⟨as, kvs, rfl, pr, rk⟩ := pairs_V s rs e2 (putAll_keys e3)
          exact ⟨a, as, kvs, rfl, hs, pr, post_mkD s p' (putAll_R .nil rk e3)⟩
        · exact p'.elim
      · exact p'.elim
    · exact p'.elim
  | [], _, p => exact p.elim
  | _ :: _ :: _, _, p => exact p.elim

/-! ### isinstance -/
def tyOfD (x : D) (h : HP) : Option Ty := match x with
  | .non => some .none
  | .bl _ => some .bool
  | .int _ => some .int
  | .str _ => some .str
  | .tup _ => some .tuple
  | .kt _ => some .tuple
  | .lst _ => some .list
  | .scr _ => some .list
  | .dct _ => none
  | .ref i => (match h[i]? with
    | some (some (.lst _)) => some .list
    | some (some (.dct _)) => some .dict
    | _ => none)
  | _ => none
theorem tyV_tup {a : Addr} {vs : List V} {H : Hp} (f : SqT K H a vs) : TyX K H (.ref a) (.type "tuple") := by
  rcases f with (f | ⟨o, f⟩) | ⟨o, its, n, f, hc, _⟩
  · exact .base (.tup f)
  · exact .fTuple f
  · exact .kTuple f hc
theorem tyV_lst {a : Addr} {vs : List V} {H : Hp} (f : SqL K H a vs) : TyX K H (.ref a) (.type "list") := by
  rcases f with (f | ⟨o, f⟩) | ⟨o, its, n, f, hc, _⟩
  · exact .base (.lst f)
  · exact .base (.frz f)
  · exact .kList f hc
theorem tyV_D (s : SRel K F μ h G H) {x : D} {v : V} (r : Rep K F μ x v) {t : Ty} (e : tyOfD x h = some t) : TyX K H v (.type t.name) := by
  cases r with
  | non => cases e; exact .base .non
  | bl => cases e; exact .base (.bl _)
  | int => cases e; exact .base (.int _)
  | str => cases e; exact .base (.str _)
  | tup f z q => cases e; exact tyV_tup (sqT_at s (SqT.of f))
  | kt f z q => cases e; exact tyV_tup (sqT_at s f)
  | lst f z q => cases e; exact .base (.lst (s.sub _ _ f))
  | scr f z q => cases e; exact tyV_lst (sqL_at s f)
  | dctK f q => cases e
  | dctT f q => cases e
  | ty t => cases e
  | cls _ => cases e
  | exc _ _ _ => cases e
  | fn _ _ _ _ => cases e
  | @ref i a m =>
    have e' : (match h[i]? with
      | some (some (.lst _)) => some Ty.list
      | some (some (.dct _)) => some .dict
      | _ => none) = some t := e
    split at e'
    · rename_i hi
      cases e'
      obtain ⟨b, u, m', hH, _, _, ro⟩ := s.live i _ hi
      rw [m] at m'; cases m'
      cases ro; exact .base (.lst hH)
    · rename_i hi
      cases e'
      obtain ⟨b, u, m', hH, _, _, ro⟩ := s.live i _ hi
      rw [m] at m'; cases m'
      cases ro
      · exact .base (.dK hH)
      · exact .base (.dT hH)
    · cases e'
/-- a type's answer: bool is an int -/
def isiT (a b : Ty) : Bool := match a, b with
  | .bool, .int => true
  | a, b => decide (a = b)
theorem kit_isi {K : PySem.W.Frag} (a b : Ty) : PySem.W.kitOne K (.type a.name) (.type b.name) = some (isiT a b) := by
  cases a <;> cases b <;> exact kit_ty (by decide +kernel)
def fIsi (xs : List D) (h : HP) : R D := match xs with
  | [x, .ty b] => (match tyOfD x h with
    | some a => .ok (.bl (isiT a b)) h
    | none => .bad)
  | _ => .bad
theorem u_isi : UA g W fIsi (rIsi g.K) := by
  intro F μ h G H σ x v Q s r p
  unfold fIsi at p
  split at p
  · obtain ⟨v1, u1, rfl, r1, q1⟩ := reps2 r
    cases q1
    split at p
    · rename_i a e
      exact ⟨_, _, _, _, _, rfl, .ty _, tyV_D s r1 e, kit_isi _ _, post_ok (g := g) (rel := relD g) p s (.bl _)⟩
    · exact p.elim
  · exact p.elim
end
end Zs
end

/-! Ff -/
noncomputable section
namespace Zs
open PySem PySem.Spec L2
open PyProof.Rows hiding St
open Classical

section
variable {g : Gm} {W : WX} {K : Gm} {F : Hp} {μ : List Addr} {G H : Hp} {σ : L2.St} {h : HP}

/-! ### methods -/
def UM (g : Gm) (W : WX) (f : D → List D → HP → R D) (r : V → List V → Hp → VK → Prop) : Prop :=
  ∀ F μ h G H σ x v xs vs Q, SRel g F μ h G H → Rep g F μ x v → Reps g F μ xs vs → post g (relD g) W F μ G σ Q (f x xs h) → r v vs H Q
/-- of that type -/
def isStrD (x : D) (_ : HP) : Bool := match x with
  | .str _ => true
  | _ => false
def isLstD (x : D) (h : HP) : Bool := (lrOf x h).isSome
def isDctD (x : D) (h : HP) : Bool := (dcOf x h).isSome
/-- a value of that type; a dict may be locked -/
def tyW (K : PySem.W.Frag) (T : String) (x : V) (H : Hp) : Prop := tyV K T x H ∨ (T = "dict" ∧ ∃ a, x = .ref a ∧ IsD H a)
theorem tyW_is {X : Cx} {pins : List (Addr × Obj)} {σ : L2.St} {H : Hp} {s : Shared} {T : String} {x : V} {v : Value} (I : Inv X pins σ H s) (r : RelV x v) (ty : tyW X.K T x H) : s.TypeIs v T ∧ ∀ a, v = .ref a → ∃ ob, s.heap.get? a = some ob ∧ ob.dict = none := by
  rcases ty with ty | ⟨e, a, ex, d⟩
  · exact tyV_is I r ty
  · subst e
    subst ex
    cases r
    obtain ⟨h1, h2, _⟩ := isD_at I d
    exact ⟨h1, h2⟩
def tWM0 (K : PySem.W.Frag) (T : String) (r : V → List V → Hp → VK → Prop) (to : TE) : TE := fun σ H Q => to σ H fun x H1 => tyW K T x H1 ∧ r x [] H1 Q
def tWM (K : PySem.W.Frag) (T : String) (r : V → List V → Hp → VK → Prop) (to : TE) (t : TA) : TE := fun σ H Q => to σ H fun x H1 => tyW K T x H1 ∧ t σ H1 fun xs H2 => r x xs H2 Q
section
variable {X : Cx} {o e : Expr} {es : List Expr} {to : TE} {t : TA} {name : Str} {apos cpos : Pos} {T id : String} {r : V → List V → Hp → VK → Prop}
theorem pe_wm0 (pa : PlainAttrs T) (sl : Slot T name id) (ht : typeOf (.builtin id) = pure (.type "method_descriptor")) (hm : MtR X id r) (ho : PE X o to) (hb : attributeBase o name X.env (eval o X.env) = eval o X.env) (hl : (apos.endLine == cpos.line) = true) : PE X (.Call (.Attribute o name apos) [] [] cpos) (tWM0 X.K T r to) := by
  refine ⟨fun pins s σ H Q I h => wpAny_Call_method0_late hb hl (thn (ho.run pins s σ H _ I h) fun v s1 ⟨x, H1, I1, r1, ty, q1⟩ => ?_)⟩
  obtain ⟨a1, a2⟩ := tyW_is I1 r1 ty
  exact ⟨T, id, pa, sl, ht, a1, a2, Calls.callWith_builtin rfl (PySem.evalArgs_none (hm pins s1 σ H1 x [] v [] Q I1 r1 .nil q1))⟩
theorem pe_wm (pa : PlainAttrs T) (sl : Slot T name id) (ht : typeOf (.builtin id) = pure (.type "method_descriptor")) (hm : MtR X id r) (ho : PE X o to) (ha : PA X (e :: es) t) (hb : attributeBase o name X.env (eval o X.env) = eval o X.env)
    (few : ((backTo cpos (starEach (e :: es) X.env)).all (fun x => !x.1) && (backToKw cpos (keywordEach [] X.env)).all (fun x => x.1.isSome) && decide ((e :: es).length + ([] : List Keyword).length + (if ([] : List Keyword).isEmpty then 0 else 1) < 30)) = true)
    (hl : (apos.endLine == cpos.line) = true) (hs : starEach (e :: es) X.env = (false, eval e X.env) :: starEach es X.env) (pl : (backTo cpos (starEach es X.env)).any (·.1) = false) : PE X (.Call (.Attribute o name apos) (e :: es) [] cpos) (tWM X.K T r to t) := by
  refine ⟨fun pins s σ H Q I h => wpAny_Call_method_late hb few hl rfl (thn (ho.run pins s σ H _ I h) fun v s1 ⟨x, H1, I1, r1, ty, q1⟩ => ?_)⟩
  obtain ⟨a1, a2⟩ := tyW_is I1 r1 ty
  refine ⟨T, id, pa, sl, ht, a1, a2, ?_⟩
  have args := ha.run cpos pins s1 σ H1 _ I1 q1
  rw [hs] at args ⊢
  refine Calls.callWith_builtin (by show (false || (backTo cpos (starEach es X.env)).any (·.1)) = false; rw [pl] <;> rfl) (Calls.evalArgs_plain ?_)
  exact thn args fun us s2 ⟨vs, H2, I2, r2, q2⟩ => hm pins s2 σ H2 x vs v us Q I2 r1 r2 q2
end
def ChkT (K : Gm) (T : String) (c : D → HP → Bool) : Prop := ∀ F μ h G H x v, SRel K F μ h G H → Rep K F μ x v → c x h = true → tyW K T v H
theorem chk_str : ChkT K "str" isStrD := fun F μ h G H x v s r e => by
  cases x with
  | str z => cases r; exact .inl rfl
  | _ => cases e
theorem chk_lst : ChkT K "list" isLstD := fun F μ h G H x v s r e => by
  obtain ⟨ds, e⟩ := Option.isSome_iff_exists.mp e
  obtain ⟨a, vs, rfl, hs, _⟩ := lr_at s r e
  exact .inl (.inl ⟨rfl, vs, hs⟩)
theorem chk_dct : ChkT K "dict" isDctD := fun F μ h G H x v s r e => by
  obtain ⟨ds, e⟩ := Option.isSome_iff_exists.mp e
  obtain ⟨a, rfl, ⟨kvs, hH, rk⟩ | ⟨kvs, hH, rk⟩⟩ := dc_at s r e
  · exact .inr ⟨rfl, a, rfl, .inl ⟨kvs, hH⟩⟩
  · exact .inr ⟨rfl, a, rfl, .inr ⟨kvs, hH⟩⟩
def eMt (c : D → HP → Bool) (f : D → List D → HP → R D) (a : EM) (r : AM) : EM := fun ρ h => (a ρ h).bnd fun x h1 => bif c x h1 then (r ρ h1).bnd fun xs h2 => f x xs h2 else .bad
theorem tBM_of {T : String} {c : D → HP → Bool} {f : D → List D → HP → R D} {r : V → List V → Hp → VK → Prop} (hc : ChkT g T c) (u : UM g W f r) {a : EM} {ar : AM} : ∀ σ H Q, tE g W (eMt c f a ar) σ H Q → tWM g.K T r (tE g W a) (tA g W ar) σ H Q :=
  fun σ H Q ⟨F, μ, h, G, ρ, s, en, q⟩ => ⟨F, μ, h, G, ρ, s, en, post_bnd (g := g) q fun F1 μ1 h1 H1 d v x s1 rv q1 => by
    cases e : c d h1 with
    | false => rw [e] at q1; exact q1.elim
    | true =>
      rw [e] at q1
      exact ⟨hc _ _ _ _ _ _ _ s1 rv e, F1, μ1, h1, G, ρ, s1, en.mono x, post_bnd (g := g) q1 fun F2 μ2 h2 H2 d2 v2 x2 s2 rv2 q2 => u F2 μ2 h2 G H2 σ d v d2 v2 Q s2 (rv.mono x2) rv2 q2⟩⟩
theorem tBM0_of {T : String} {c : D → HP → Bool} {f : D → List D → HP → R D} {r : V → List V → Hp → VK → Prop} (hc : ChkT g T c) (u : UM g W f r) {a : EM} : ∀ σ H Q, tE g W (eMt c f a aN) σ H Q → tWM0 g.K T r (tE g W a) σ H Q :=
  fun σ H Q ⟨F, μ, h, G, ρ, s, en, q⟩ => ⟨F, μ, h, G, ρ, s, en, post_bnd (g := g) q fun F1 μ1 h1 H1 d v x s1 rv q1 => by
    cases e : c d h1 with
    | false => rw [e] at q1; exact q1.elim
    | true =>
      rw [e] at q1
      exact ⟨hc _ _ _ _ _ _ _ s1 rv e, u F1 μ1 h1 G H1 σ d v [] [] Q s1 rv .nil q1⟩⟩
/-- an open list -/
def opL (x : D) (h : HP) : Option (Nat × List D) := match x with
  | .ref i => (match h[i]? with
    | some (some (.lst xs)) => some (i, xs)
    | _ => none)
  | _ => none
theorem opL_at (s : SRel K F μ h G H) {x : D} {v : V} (r : Rep K F μ x v) {i : Nat} {ds : List D} (e : opL x h = some (i, ds)) : ∃ a vs, v = .ref a ∧ h[i]? = some (some (.lst ds)) ∧ μ[i]? = some a ∧ H a = some (.lst vs) ∧ vs.length ≤ sizeLine ∧ Reps K F μ ds vs := by
  cases r with
  | @ref j a m =>
    have e' : (match h[j]? with
      | some (some (.lst xs)) => some (j, xs)
      | _ => none) = some (i, ds) := e
    split at e'
    · rename_i xs hi
      cases e'
      obtain ⟨b, u, m', hH, _, _, ro⟩ := s.live _ _ hi
      rw [m] at m'; cases m'
      cases ro with
      | lst z q => exact ⟨a, _, rfl, hi, m, hH, z, q⟩
    · cases e'
  | _ => cases e
def mApp (x : D) (xs : List D) (h : HP) : R D := match opL x h, xs with
  | some (i, ys), [y] => if ys.length < sizeLine then .ok .non (h.set i (some (.lst (ys ++ [y])))) else .bad
  | _, _ => .bad
/-- a write, then Q -/
theorem post_write {α : Type} {rel : Hp → List Addr → α → V → Prop} {Q : VK} {d : α} {v : V} {i : Nat} {o o' : O} {a : Addr} {u : HO} (s : SRel g F μ h G H) (e : h[i]? = some (some o)) (m : μ[i]? = some a) (r : RepO g F μ o' u)
    (p : post g rel W F μ G σ Q (.ok d (h.set i (some o')))) (q : rel F μ d v) : Q v (upd H a u) := p F μ _ v (Ext.refl F μ) (s.write e m r) q
theorem u_app : UM g W mApp rAppend := by
  intro F μ h G H σ x v xs vs Q s r rs p
  unfold mApp at p
  split at p
  · rename_i i ys y e
    obtain ⟨a, ws, rfl, hi, m, hH, z, q⟩ := opL_at s r e
    obtain ⟨w, rfl, rw1⟩ := reps1 rs
    split at p
    · rename_i z2
      have z3 : ws.length < sizeLine := by rw [← q.length]; exact z2
      exact ⟨a, ws, w, rfl, rfl, hH, z3, post_write (rel := relD g) s hi m (.lst (by rw [List.length_append, List.length_singleton]; omega) (q.append (.cons rw1 .nil))) p .non⟩
    · exact p.elim
  · exact p.elim
def mExt (x : D) (xs : List D) (h : HP) : R D := match opL x h, xs with
  | some (i, ys), [y] => (match lsOf y h with
    | some zs => if ys.length + zs.length ≤ sizeLine then .ok .non (h.set i (some (.lst (ys ++ zs)))) else .bad
    | none => .bad)
  | _, _ => .bad
theorem u_ext : UM g W mExt rExtend := by
  intro F μ h G H σ x v xs vs Q s r rs p
  unfold mExt at p
  split at p
  · rename_i i ys y e
    obtain ⟨a, ws, rfl, hi, m, hH, z, q⟩ := opL_at s r e
    obtain ⟨w, rfl, rw1⟩ := reps1 rs
    split at p
    · rename_i zs e2
      obtain ⟨b, us, rfl, hb, zb, qb⟩ := ls_at s rw1 e2
      split at p
      · rename_i z2
        have z3 : ws.length + us.length ≤ sizeLine := by rw [← q.length, ← qb.length]; exact z2
        exact ⟨a, b, ws, us, rfl, rfl, hH, hb, z3, post_write (rel := relD g) s hi m (.lst (by rw [List.length_append]; omega) (q.append qb)) p .non⟩
      · exact p.elim
    · exact p.elim
  · exact p.elim
def mPop (x : D) (xs : List D) (h : HP) : R D := match opL x h, xs with
  | some (i, ys), [] => (match ys[ys.length - 1]? with
    | some y => .ok y (h.set i (some (.lst ys.dropLast)))
    | none => .bad)
  | _, _ => .bad
theorem u_pop : UM g W mPop rPop := by
  intro F μ h G H σ x v xs vs Q s r rs p
  unfold mPop at p
  split at p
  · rename_i i ys e
    obtain ⟨a, ws, rfl, hi, m, hH, z, q⟩ := opL_at s r e
    cases rs
    split at p
    · rename_i y e2
      obtain ⟨w, e3, rw1⟩ := q.get e2
      have hd : Reps g F μ ys.dropLast ws.dropLast := by
        rw [List.dropLast_eq_take, List.dropLast_eq_take, q.length]
        exact q.take _
      exact ⟨a, ws, w, rfl, rfl, hH, by rw [← q.length]; exact e3, post_write (rel := relD g) s hi m (.lst (by rw [List.length_dropLast]; omega) hd) p rw1⟩
    · exact p.elim
  · exact p.elim
/-- texts -/
def mJoin (x : D) (xs : List D) (h : HP) : R D := match x, xs with
  | .str a, [y] => (match sqOf y h with
    | some zs => (match strsOf zs with
      | some ts => if (ts.map (·.length)).sum + ts.length * a.length ≤ sizeLine then .ok (.str (TL.joinL a ts)) h else .bad
      | none => .bad)
    | none => .bad)
  | _, _ => .bad
theorem joinL_len (a : List Nat) : ∀ ts : List (List Nat), (TL.joinL a ts).length ≤ (ts.map (·.length)).sum + ts.length * a.length
  | [] => by simp [TL.joinL]
  | [p] => by simp [TL.joinL]
  | p :: q :: r => by
    have ih := joinL_len a (q :: r)
    show (p ++ (a ++ TL.joinL a (q :: r))).length ≤ _
    rw [List.length_append, List.length_append, List.map_cons, List.sum_cons, List.length_cons (a := p), Nat.add_mul]
    omega
def rJoin (K : PySem.W.Frag) : V → List V → Hp → VK → Prop := fun x xs H Q => ∃ a p, ∃ ys : List Str, x = .str a ∧ xs = [.ref p] ∧ (SqL K H p (ys.map V.str) ∨ SqT K H p (ys.map V.str)) ∧
    (ys.map (·.length)).sum + ys.length * a.length ≤ 16777216 ∧ Q (.str (Txt.join a ys)) H
theorem strV_lens (ts : List (List Nat)) : (ts.map strV).map (·.length) = ts.map (·.length) := by
  rw [List.map_map]
  exact List.map_congr_left fun t _ => strV_len t
theorem u_join : UM g W mJoin (rJoin g.K) := by
  intro F μ h G H σ x v xs vs Q s r rs p
  unfold mJoin at p
  split at p
  · rename_i a y
    obtain ⟨w, rfl, rw1⟩ := reps1 rs
    cases r
    split at p
    · rename_i zs e
      obtain ⟨b, us, rfl, hb, zb, qb⟩ := sq_at s rw1 e
      split at p
      · rename_i ts e2
        have e3 := strs_V qb e2
        subst e3
        split at p
        · rename_i z
          have z' : ((ts.map strV).map (·.length)).sum + (ts.map strV).length * (strV a).length ≤ 16777216 := by
            rw [strV_lens, List.length_map, strV_len, ← sizeLine_eq]; exact z
          refine ⟨_, b, ts.map strV, rfl, rfl, hb, z', ?_⟩
          have ej : Txt.join (strV a) (ts.map strV) = strV (TL.joinL a ts) := SX.join_S a ts
          rw [ej]
          exact post_ok (g := g) (rel := relD g) p s (.str _ (Nat.le_trans (joinL_len a ts) z))
        · exact p.elim
      · exact p.elim
    · exact p.elim
  · exact p.elim
def mSplit (o : Bool) (x : D) (xs : List D) (h : HP) : R D := match x, xs with
  | .str a, [.str b] => if b ≠ [] ∧ b.all (· < 256) = true ∧ a.length + 2 ≤ sizeLine then mkL o ((TL.spl b 0 [] a).map D.str) h else .bad
  | _, _ => .bad
def rSplit : V → List V → Hp → VK → Prop := fun x xs H Q => ∃ a b, x = .str a ∧ xs = [.str b] ∧ (b.length == 0) = false ∧ a.length + 2 ≤ sizeLine ∧ rNewStrs (Txt.split a b) H Q
end
end Zs
end

/-! Fg -/
noncomputable section
namespace Zs
open PySem PySem.Spec L2
open PyProof.Rows hiding St
open Classical

section
variable {g : Gm} {W : WX} {K : Gm} {F : Hp} {μ : List Addr} {G H : Hp} {σ : L2.St} {h : HP}
theorem spl_count (S : List Nat) : ∀ (r : List Nat) (k : Nat) (acc : List Nat), (TL.spl S k acc r).length ≤ r.length + 1
  | [], k, acc => by rw [TL.spl_nil]; simp
  | c :: r, 0, acc => by
    show (if TL.pre S (c :: r) = true then acc :: TL.spl S (S.length - 1) [] r else TL.spl S 0 (acc ++ [c]) r).length ≤ _
    have h1 := spl_count S r (S.length - 1) []
    have h2 := spl_count S r 0 (acc ++ [c])
    split
    · rw [List.length_cons, List.length_cons]; omega
    · rw [List.length_cons]; omega
  | c :: r, k + 1, acc => by
    have h1 := spl_count S r k acc
    show (TL.spl S k acc r).length ≤ _
    rw [List.length_cons]; omega
theorem spl_part_len (S : List Nat) : ∀ (r : List Nat) (k : Nat) (acc : List Nat), ∀ p ∈ TL.spl S k acc r, p.length ≤ acc.length + r.length
  | [], k, acc => by rw [TL.spl_nil]; intro p hp; rw [List.mem_singleton] at hp; subst hp; simp
  | c :: r, 0, acc => by
    show ∀ p ∈ (if TL.pre S (c :: r) = true then acc :: TL.spl S (S.length - 1) [] r else TL.spl S 0 (acc ++ [c]) r), _
    intro p hp
    split at hp
    · rcases List.mem_cons.mp hp with e | hp
      · subst e; omega
      · have := spl_part_len S r (S.length - 1) [] p hp
        simp at this ⊢; omega
    · have := spl_part_len S r 0 (acc ++ [c]) p hp
      simp at this ⊢; omega
  | c :: r, k + 1, acc => by
    intro p hp
    have := spl_part_len S r k acc p hp
    simp; omega
theorem reps_strs {F : Hp} {μ : List Addr} : ∀ (ts : List (List Nat)), (∀ t ∈ ts, t.length ≤ sizeLine) → Reps K F μ (ts.map D.str) ((ts.map strV).map V.str)
  | [], _ => .nil
  | t :: ts, h => .cons (.str t (h t List.mem_cons_self)) (reps_strs ts fun t' ht => h t' (List.mem_cons_of_mem _ ht))
theorem u_split {o : Bool} : UM g W (mSplit o) rSplit := by
  intro F μ h G H σ x v xs vs Q s r rs p
  unfold mSplit at p
  split at p
  · rename_i a b
    obtain ⟨w, rfl, rw1⟩ := reps1 rs
    cases r; cases rw1
    split at p
    · rename_i z
      obtain ⟨z1, z2, z3⟩ := z
      have eb : ((strV b).length == 0) = false := by
        rw [strV_len]
        cases b with
        | nil => exact absurd rfl z1
        | cons c b => rfl
      refine ⟨_, _, rfl, rfl, eb, by rw [strV_len]; exact z3, ?_⟩
      have es : Txt.split (strV a) (strV b) = (TL.spl b 0 [] a).map strV := SX.split_S z1 z2
      rw [es]
      have hc := spl_count b a 0 []
      have hp : Reps g F μ ((TL.spl b 0 [] a).map D.str) (((TL.spl b 0 [] a).map strV).map V.str) := reps_strs _ fun t ht => by
        have := spl_part_len b a 0 [] t ht
        simp at this
        omega
      exact post_mkL s p (by rw [List.length_map, List.length_map]; omega) hp
    · exact p.elim
  · exact p.elim

/-! ### calls of the program's functions -/
abbrev WXK (E : XK) : WX := fun c d _ H => E c d H
/-- a function's promise -/
def spOf (g : Gm) (n : Nat) (f : FSem) : Sp := fun vs H Q E => vs.length = n ∧ ∃ F μ h G ds, SRel g F μ h G H ∧ Reps g F μ ds vs ∧ post g (relD g) (WXK E) F μ G [] Q (f ds h)
/-- how a call binds: ix names, for each parameter, its place among the arguments -/
def pickL {α : Type} (ix : List Nat) (l : List α) : List α := ix.filterMap fun i => l[i]?
structure KB (K : PySem.W.Frag) (fd : FuncData) (ps ks : List Str) (n : Nat) (ix : List Nat) : Prop where
  to : ∀ (s : Shared) (us ws : List Value), us.length = n → ws.length = ks.length → BindsTo s fd ⟨us, ks.zip ws⟩ (ps.zip (pickL ix (us ++ ws)))
theorem vals_get : ∀ {vs : List V} {us : List Value}, Vals vs us → ∀ i : Nat, (vs[i]? = none ∧ us[i]? = none) ∨ ∃ v u, vs[i]? = some v ∧ us[i]? = some u ∧ RelV v u
  | _, _, .nil, i => .inl ⟨by simp, by simp⟩
  | _, _, .cons r t, 0 => .inr ⟨_, _, rfl, rfl, r⟩
  | _, _, .cons r t, i + 1 => by
    rcases vals_get t i with ⟨a, b⟩ | ⟨v, u, a, b, c⟩
    · exact .inl ⟨by simpa using a, by simpa using b⟩
    · exact .inr ⟨v, u, by simpa using a, by simpa using b, c⟩
theorem vals_pick {vs : List V} {us : List Value} (r : Vals vs us) : ∀ ix : List Nat, Vals (pickL ix vs) (pickL ix us)
  | [] => .nil
  | i :: ix => by
    unfold pickL
    rcases vals_get r i with ⟨a, b⟩ | ⟨v, u, a, b, c⟩
    · rw [List.filterMap_cons_none a, List.filterMap_cons_none b]
      exact vals_pick r ix
    · rw [List.filterMap_cons_some a, List.filterMap_cons_some b]
      exact .cons c (vals_pick r ix)
theorem reps_get : ∀ {ds : List D} {vs : List V}, Reps K F μ ds vs → ∀ i : Nat, (ds[i]? = none ∧ vs[i]? = none) ∨ ∃ d v, ds[i]? = some d ∧ vs[i]? = some v ∧ Rep K F μ d v
  | _, _, .nil, i => .inl ⟨by simp, by simp⟩
  | _, _, .cons r t, 0 => .inr ⟨_, _, rfl, rfl, r⟩
  | _, _, .cons r t, i + 1 => by
    rcases reps_get t i with ⟨a, b⟩ | ⟨v, u, a, b, c⟩
    · exact .inl ⟨by simpa using a, by simpa using b⟩
    · exact .inr ⟨v, u, by simpa using a, by simpa using b, c⟩
theorem reps_pick {ds : List D} {vs : List V} (r : Reps K F μ ds vs) : ∀ ix : List Nat, Reps K F μ (pickL ix ds) (pickL ix vs)
  | [] => .nil
  | i :: ix => by
    unfold pickL
    rcases reps_get r i with ⟨a, b⟩ | ⟨v, u, a, b, c⟩
    · rw [List.filterMap_cons_none a, List.filterMap_cons_none b]
      exact reps_pick r ix
    · rw [List.filterMap_cons_some a, List.filterMap_cons_some b]
      exact .cons c (reps_pick r ix)
/-- f(a, .., k = b, ..) -/
def eCl (f : FSem) (np : Nat) (n m : Nat) (ix : List Nat) (a b : AM) : EM := fun ρ h => (a ρ h).bnd fun xs h1 => (b ρ h1).bnd fun zs h2 =>
  if xs.length = n ∧ zs.length = m ∧ (pickL ix (xs ++ zs)).length = np then f (pickL ix (xs ++ zs)) h2 else .bad
def tClX (sp : Sp) (n m : Nat) (ix : List Nat) (W : WX) (t tk : TA) : TE := fun σ H Q => t σ H fun vs H1 => tk σ H1 fun zs H2 => vs.length = n ∧ zs.length = m ∧ sp (pickL ix (vs ++ zs)) H2 Q (WE W σ)
theorem tCl_of {f : FSem} {np n m : Nat} {ix : List Nat} {a b : AM} : ∀ σ H Q, tE g W (eCl f np n m ix a b) σ H Q → tClX (spOf g np f) n m ix W (tA g W a) (tA g W b) σ H Q := fun σ H Q ⟨F, μ, h, G, ρ, s, en, q⟩ =>
  ⟨F, μ, h, G, ρ, s, en, post_bnd (g := g) q fun F1 μ1 h1 H1 ds vs x s1 rv q1 => ⟨F1, μ1, h1, G, ρ, s1, en.mono x, post_bnd (g := g) q1 fun F2 μ2 h2 H2 es us x2 s2 rv2 q2 => by
    split at q2
    · rename_i z
      obtain ⟨z1, z2, z3⟩ := z
      have rr := reps_pick ((rv.mono x2).append rv2) ix
      refine ⟨by rw [← rv.length]; exact z1, by rw [← rv2.length]; exact z2, by rw [← rr.length]; exact z3, F2, μ2, h2, G, _, s2, rr, ?_⟩
      cases e : f (pickL ix (ds ++ es)) h2 with
      | ok d h' => rw [e] at q2; exact q2
      | exc c d h' => rw [e] at q2; exact q2
      | bad => rw [e] at q2; exact q2
    · exact q2.elim⟩⟩
/-- no star -/
def noStar : Expr → Bool
  | .Starred _ _ => false
  | _ => true
theorem starEach_no (env : Env) {e : Expr} (h : noStar e = true) (es : List Expr) : starEach (e :: es) env = (false, eval e env) :: starEach es env := by
  cases e <;> first | rfl | (cases h; done)
theorem plain_no (env : Env) (pos : Pos) : ∀ {es : List Expr}, es.all noStar = true → (backTo pos (starEach es env)).any (·.1) = false
  | [], _ => rfl
  | e :: es, h => by
    rw [List.all_cons, Bool.and_eq_true] at h
    rw [starEach_no env h.1]
    show (false || (backTo pos (starEach es env)).any (·.1)) = false
    rw [plain_no env pos h.2]
    rfl
/-- the keywords' names -/
def kwsOk : List Keyword → List Str → Bool
  | [], [] => true
  | ⟨some x, _, _⟩ :: r, y :: ys => decide (x = y) && kwsOk r ys
  | _, _ => false
theorem kws_all (env : Env) (pos : Pos) : ∀ {kws : List Keyword} {ks : List Str}, kwsOk kws ks = true → (backToKw pos (keywordEach kws env)).all (·.1.isSome) = true ∧ (backToKw pos (keywordEach kws env)).filterMap (·.1) = ks ∧ (backToKw pos (keywordEach kws env)).any (·.1.isNone) = false
  | [], [], _ => ⟨rfl, rfl, rfl⟩
  | ⟨some x, v, p⟩ :: r, y :: ys, h => by
    have h' : (decide (x = y) && kwsOk r ys) = true := h
    rw [Bool.and_eq_true, decide_eq_true_eq] at h'
    obtain ⟨e, h2⟩ := h'
    subst e
    obtain ⟨a, b, c⟩ := kws_all env pos h2
    refine ⟨?_, ?_, ?_⟩
    · show (true && (backToKw pos (keywordEach r env)).all (·.1.isSome)) = true
      rw [a]; rfl
    · show x :: (backToKw pos (keywordEach r env)).filterMap (·.1) = x :: ys
      rw [b]
    · show (false || (backToKw pos (keywordEach r env)).any (·.1.isNone)) = false
      rw [c]; rfl
  | [], _ :: _, h => nomatch h
  | ⟨none, _, _⟩ :: _, _, h => by cases h
  | ⟨some _, _, _⟩ :: _, [], h => by cases h
section
variable {X : Cx} {k : Nat} {f : Addr} {fd : FuncData} {ps ks : List Str} {sp : Sp} {x : Str} {p pos : Pos} {es : List Expr} {kws : List Keyword} {t tk : TA} {n : Nat} {ix : List Nat}
/-- a def's promise where no repr is under way -/
structure FnG (P : Program) (w : World) (K : PySem.W.Frag) (mg : Str → Option Value) (base : Heap) (k : Nat) (f : Addr) (fd : FuncData) (ps : List Str) (sp : Sp) : Prop where
  long : ∀ vs H Q E, sp vs H Q E → vs.length = ps.length
  go : ∀ (A : Around) (out : List Env) (s : Shared) (H : Hp) (ar : Args) (us : List Value) (vs : List V) (Q : VK) (E : XK), Room k A → A.guards = some [] → Env0 P w K mg base A out s H → BindsTo s fd ar (ps.zip us) → Vals vs us → sp vs H Q E →
    codeAny (model P w) A (.call (.ref f) ar) (CR (L2.CX P w) out P w H s Q E) s
theorem FnG.mono {P : Program} {w : World} {K : PySem.W.Frag} {mg : Str → Option Value} {base : Heap} {i j : Nat} {f : Addr} {fd : FuncData} {ps : List Str} {sp : Sp} (a : FnG P w K mg base i f fd ps sp) (h : i ≤ j) : FnG P w K mg base j f fd ps sp :=
  ⟨a.long, fun A out s H ar us vs Q E r => a.go A out s H ar us vs Q E (r.mono h)⟩
theorem run_clX {pins : List (Addr × Obj)} {σ : L2.St} {H : Hp} {s : Shared} {Q : VK} {us ws : List Value} {vs zs : List V} (Fk : FnG X.prog X.w X.K X.mg X.base k f fd ps sp) (hr : Room k X.A) (gd : X.A.guards = some []) (hb : KB X.K fd ps ks n ix) (tk : Takes X W)
    (I : Inv X pins σ H s) (r : Vals vs us) (rz : Vals zs ws) (l1 : vs.length = n) (l2 : zs.length = ks.length) (h : sp (pickL ix (vs ++ zs)) H Q (WE W σ)) : wpAny (model X.prog X.w) X.A (call (.ref f) us (ks.zip ws)) (EP X pins σ Q) X.xe s := by
  refine wpAny_call (codeAny_mono (Fk.go X.A X.stack s H ⟨us, ks.zip ws⟩ (pickL ix (us ++ ws)) (pickL ix (vs ++ zs)) Q (WE W σ) hr gd I.env0 (hb.to s us ws (r.length.symm.trans l1) (rz.length.symm.trans l2)) (vals_pick (r.append rz) ix) h) fun r s' hq => ?_)
  cases r with
  | error e => exact passAt tk σ pins H s e s' I hq
  | ok fl =>
    cases fl with
    | ret u => exact I.after hq
    | next => exact False.elim hq
    | brk => exact False.elim hq
    | cont => exact False.elim hq
theorem tA_nil {C : List V → Hp → Prop} {σ : L2.St} {H : Hp} (h : tA g W aN σ H C) : C [] H := by
  obtain ⟨F, μ, h', G, ρ, s, en, q⟩ := h
  exact post_ok (g := g) (rel := relA g) q s .nil
theorem se_cl {m : FSem} {a b : AM} (hK : X.K = g.K) (Fk : FnG X.prog X.w X.K X.mg X.base k f fd ps (spOf g ps.length m)) (hr : Room k X.A) (gd : X.A.guards = some []) (hg : Gl X x) (hm : X.mg x = some (.ref f)) (hk : PySem.W.keepIn X.K (.ref f) = true) (hb : KB X.K fd ps ks n ix) (tk1 : Takes X W)
    (ha : PA X es (tA g W a)) (hnil : es = [] → a = aN) (hkw : PK X kws (tA g W b)) (hn : es.all noStar = true) (hkk : kwsOk kws ks = true) (hdb : (x == ("__debug__" : Str)) = false) : PE X (.Call (.Name x p) es kws pos) (tE g W (eCl m ps.length n ks.length ix a b)) := by
  obtain ⟨k1, k2, k3⟩ := kws_all X.env pos hkk
  refine ⟨fun pins s σ H Q I h0 => ?_⟩
  have h := tCl_of σ H Q h0
  refine wpAny_Call_Name_kw (ld_glob I hg hm ?_ hdb)
  cases es with
  | nil =>
    have ea := hnil rfl
    subst ea
    have h2 := tA_nil h
    refine PySem.W.callWith_KW0 (h₀ := X.base) I.ok.mod.kin hk k1 (thn (hkw.run pos pins s σ H _ I h2) fun ws s2 ⟨zs, H2, I2, rz, l1, l2, q2⟩ => ⟨I2.kIn, ?_⟩) (by rw [k3]; rfl)
    rw [k2]
    exact run_clX Fk hr gd hb tk1 I2 .nil rz l1 l2 q2
  | cons e es =>
    rw [List.all_cons, Bool.and_eq_true] at hn
    have hst := starEach_no X.env hn.1 es
    refine PySem.W.callWith_KW (h₀ := X.base) I.ok.mod.kin hk k1 (thn (ha.run pos pins s σ H _ I h) fun us s1 ⟨vs, H1, I1, r, q⟩ => ?_) (by rw [hst, k3, Bool.or_false]; exact plain_no X.env pos hn.2) hst
    refine thn (hkw.run pos pins s1 σ H1 _ I1 q) fun ws s2 ⟨zs, H2, I2, rz, l1, l2, q2⟩ => ⟨I2.kIn, ?_⟩
    rw [k2]
    exact run_clX Fk hr gd hb tk1 I2 r rz l1 l2 q2
theorem sk_n : PK X [] (tA g W aN) := ⟨fun pos pins s σ H Q I h => pk_nil.run pos pins s σ H Q I (tA_nil h)⟩
theorem _root_.L2.PK.imp {X : Cx} {e : List Keyword} {t t' : TA} (p : PK X e t) (h : ∀ σ H Q, t' σ H Q → t σ H Q) : PK X e t' := ⟨fun pos pins s σ H Q I hw => p.run pos pins s σ H Q I (h _ _ _ hw)⟩
theorem sk_c {e : Expr} {a : EM} {r : AM} {nm : Option Str} {kpos : Pos} (ha : PE X e (tE g W a)) (hr : PK X kws (tA g W r)) : PK X (⟨nm, e, kpos⟩ :: kws) (tA g W (aC a r)) :=
  (pk_cons ha hr).imp fun σ H Q ⟨F, μ, h, G, ρ, s, en, q⟩ =>
    ⟨F, μ, h, G, ρ, s, en, post_bnd (g := g) q fun F1 μ1 h1 H1 d v x s1 rv q1 =>
      ⟨F1, μ1, h1, G, ρ, s1, en.mono x, post_bnd (g := g) q1 fun F2 μ2 h2 H2 d2 v2 x2 s2 rv2 q2 => post_ok (g := g) (rel := relA g) q2 s2 (.cons (rv.mono x2) rv2)⟩⟩
end

/-! ### calls of built-in functions, methods -/
section
variable {X : Cx} {o e : Expr} {es : List Expr} {a : EM} {r : AM} {x name : Str} {p pos apos cpos : Pos} {id T : String}
theorem se_bf {f : List D → HP → R D} {rr : List V → Hp → VK → Prop} (hc : CallR X (.builtin id) rr) (u : UA g W f rr) (hg : Gl X x) (hm : X.mg x = none) (hv : bootBuiltins x = some (.builtin id)) (ha : PA X (e :: es) (tA g W r)) (hns : (e :: es).all noStar = true) (hn : x ≠ "__name__") (hdb : (x == ("__debug__" : Str)) = false) :
    PE X (.Call (.Name x p) (e :: es) [] pos) (tE g W (eA f r)) := by
  rw [List.all_cons, Bool.and_eq_true] at hns
  exact (pe_callB hc hg hm hv ha hn hdb (starEach_no X.env hns.1 es) (plain_no X.env pos hns.2)).imp (tA_of u)
theorem se_ty {f : List D → HP → R D} {rr : List V → Hp → VK → Prop} (hc : CallR X (.type T) rr) (u : UA g W f rr) (hg : Gl X x) (hm : X.mg x = none) (hv : bootBuiltins x = some (.type T)) (ha : PA X (e :: es) (tA g W r)) (hns : (e :: es).all noStar = true) (hn : x ≠ "__name__") (hdb : (x == ("__debug__" : Str)) = false) :
    PE X (.Call (.Name x p) (e :: es) [] pos) (tE g W (eA f r)) := by
  rw [List.all_cons, Bool.and_eq_true] at hns
  exact (pe_callTy hc hg hm hv ha hn hdb (starEach_no X.env hns.1 es) (plain_no X.env pos hns.2)).imp (tA_of u)
/-- the receiver is no call of super -/
def baseOk : Expr → Bool
  | .Call (.Name _ _) [] [] _ => false
  | _ => true
theorem base_no (env : Env) (attr : Str) (whole : Sem Value) {o : Expr} (h : baseOk o = true) : attributeBase o attr env whole = whole := by
  unfold attributeBase
  split
  · cases h
  · rfl
theorem se_mt {c : D → HP → Bool} {f : D → List D → HP → R D} {rr : V → List V → Hp → VK → Prop} (hK : X.K = g.K) (hct : ChkT g T c) (u : UM g W f rr) (pa : PlainAttrs T) (slot : Slot T name id) (hty : typeOf (.builtin id) = pure (.type "method_descriptor")) (hm : MtR X id rr) (ho : PE X o (tE g W a)) (ha : PA X (e :: es) (tA g W r))
    (hb : baseOk o = true) (hl : (apos.endLine == cpos.line) = true) (hns : (e :: es).all noStar = true) (hlen : decide ((e :: es).length < 30) = true) : PE X (.Call (.Attribute o name apos) (e :: es) [] cpos) (tE g W (eMt c f a r)) := by
  have h3 := plain_no X.env cpos hns
  rw [List.all_cons, Bool.and_eq_true] at hns
  have hst := starEach_no X.env hns.1 es
  refine (pe_wm pa slot hty hm ho ha (base_no _ _ _ hb) ?_ hl hst (plain_no X.env cpos hns.2)).imp ?_
  · rw [Bool.and_eq_true, Bool.and_eq_true]
    refine ⟨⟨?_, rfl⟩, ?_⟩
    · rw [List.all_eq_true]
      rw [List.any_eq_false] at h3
      exact fun y hy => by have := h3 y hy; cases h : y.1 <;> simp_all
    · have : (e :: es).length < 30 := of_decide_eq_true hlen
      exact decide_eq_true (by simpa using this)
  · rw [hK]
    exact tBM_of hct u
theorem se_mt0 {c : D → HP → Bool} {f : D → List D → HP → R D} {rr : V → List V → Hp → VK → Prop} (hK : X.K = g.K) (hct : ChkT g T c) (u : UM g W f rr) (pa : PlainAttrs T) (slot : Slot T name id) (hty : typeOf (.builtin id) = pure (.type "method_descriptor")) (hm : MtR X id rr) (ho : PE X o (tE g W a))
    (hb : baseOk o = true) (hl : (apos.endLine == cpos.line) = true) : PE X (.Call (.Attribute o name apos) [] [] cpos) (tE g W (eMt c f a aN)) := by
  refine (pe_wm0 pa slot hty hm ho (base_no _ _ _ hb) hl).imp ?_
  rw [hK]
  exact tBM0_of hct u
end

/-! ### list(range(..)) -/
def rgD (a b : Int) : List D := (List.range (b - a).toNat).map fun i => D.int (a + (i : Nat))
theorem rg_R {F : Hp} {μ : List Addr} (a b : Int) : Reps K F μ (rgD a b) (rgV a b) := by
  unfold rgD rgV
  generalize (List.range (b - a).toNat) = l
  induction l with
  | nil => exact .nil
  | cons i l ih => exact .cons (.int _) ih
def fRgL (o : Bool) (a b : D) (h : HP) : R D := match a, b with
  | .int a, .int b => if RgOk a b then mkL o (rgD a b) h else .bad
  | _, _ => .bad
def eRgL (o : Bool) (a b : EM) : EM := e2 (fRgL o) a b
def eRgL1 (o : Bool) (a : EM) : EM := e1 (fRgL o (.int 0)) a
section
variable {X : Cx} {a b : Expr} {ma mb : EM} {p q pos pos2 : Pos}
theorem u_rgL {o : Bool} {x y : D} {i j : Int} {Q : VK} (s : SRel g F μ h G H) (r1 : Rep g F μ x (.int i)) (r2 : Rep g F μ y (.int j)) (pp : post g (relD g) W F μ G σ Q (fRgL o x y h)) : RgOk i j ∧ ∀ q, H q = none → Q (.ref q) (upd H q (.lst (rgV i j))) := by
  cases r1; cases r2
  unfold fRgL at pp
  dsimp only at pp
  split at pp
  · rename_i z
    refine ⟨z, post_mkL s pp ?_ (rg_R _ _)⟩
    rw [rgV_length, sizeLine_eq]
    have := z.2.2.2.2
    omega
  · exact pp.elim
theorem se_rgL2 {o : Bool} (hc : X.calm = true) (hg : Gl X "list") (hm : X.mg "list" = none) (hg2 : Gl X "range") (hm2 : X.mg "range" = none) (ha : PE X a (tE g W ma)) (hb : PE X b (tE g W mb)) (na : noStar a = true) (nb : noStar b = true) :
    PE X (.Call (.Name "list" p) [.Call (.Name "range" q) [a, b] [] pos2] [] pos) (tE g W (eRgL o ma mb)) := by
  refine (pe_listRg hc hg hm (prg_2 hg2 hm2 ha hb (starEach_no _ na _) (starEach_no _ nb _) (by rw [starEach_no _ nb _]; rfl))).imp ?_
  exact fun σ H Q ⟨F, μ, h, G, ρ, s, en, q⟩ => ⟨F, μ, h, G, ρ, s, en, post_bnd (g := g) q fun F1 μ1 h1 H1 d v x s1 rv q1 => ⟨F1, μ1, h1, G, ρ, s1, en.mono x, post_bnd (g := g) q1 fun F2 μ2 h2 H2 d2 v2 x2 s2 rv2 q2 => by
    have : ∃ i j, d = .int i ∧ d2 = .int j := by
      cases d <;> first | exact q2.elim | (cases d2 <;> first | exact q2.elim | exact ⟨_, _, rfl, rfl⟩)
    obtain ⟨i, j, rfl, rfl⟩ := this
    cases rv; cases rv2
    exact ⟨i, j, rfl, rfl, u_rgL s2 (.int i) (.int j) q2⟩⟩⟩
theorem se_rgL1 {o : Bool} (hc : X.calm = true) (hg : Gl X "list") (hm : X.mg "list" = none) (hg2 : Gl X "range") (hm2 : X.mg "range" = none) (ha : PE X a (tE g W ma)) (na : noStar a = true) :
    PE X (.Call (.Name "list" p) [.Call (.Name "range" q) [a] [] pos2] [] pos) (tE g W (eRgL1 o ma)) := by
  refine (pe_listRg hc hg hm (prg_1 hg2 hm2 ha (starEach_no _ na _))).imp ?_
  exact fun σ H Q ⟨F, μ, h, G, ρ, s, en, q⟩ => ⟨F, μ, h, G, ρ, s, en, post_bnd (g := g) q fun F1 μ1 h1 H1 d v x s1 rv q1 => by
    have : ∃ i, d = .int i := by
      cases d <;> first | exact q1.elim | exact ⟨_, rfl⟩
    obtain ⟨i, rfl⟩ := this
    cases rv
    exact ⟨i, rfl, u_rgL s1 (.int 0) (.int i) q1⟩⟩
end
end
end Zs
end

/-! Fda -/
noncomputable section
namespace Zs
open PySem PySem.Spec L2
open PyProof.Rows hiding St

/-! ## data: ==, <, repr, sorted of nested values -/
mutual
def toP : D → Option PyData
  | .non => some .none
  | .bl b => some (.bool b)
  | .int i => some (.int i)
  | .str s => some (.str (strV s))
  | .tup xs => (match toPs xs with
    | some ps => some (.tuple ps)
    | none => none)
  | .kt xs => (match toPs xs with
    | some ps => some (.tuple ps)
    | none => none)
  | .lst xs => (match toPs xs with
    | some ps => some (.list ps)
    | none => none)
  | .scr xs => (match toPs xs with
    | some ps => some (.list ps)
    | none => none)
  | .dct _ => none
  | .ref _ => none
  | .ty _ => none
  | .cls _ => none
  | .exc _ _ => none
  | .fn _ _ => none
def toPs : List D → Option (List PyData)
  | [] => some []
  | x :: r => (match toP x, toPs r with
    | some p, some ps => some (p :: ps)
    | _, _ => none)
end
section
variable {g : Gm} {W : WX} {K : Gm} {F : Hp} {μ : List Addr} {G H : Hp} {σ : L2.St} {h : HP}
mutual
theorem rep_dp (s : SRel K F μ h G H) : ∀ {d v p}, Rep K F μ d v → toP d = some p → Dp K.K H v p
  | _, _, _, .non, e => by simp only [toP] at e; cases e; exact .non
  | _, _, _, .bl b, e => by simp only [toP] at e; cases e; exact .bl b
  | _, _, _, .int i, e => by simp only [toP] at e; cases e; exact .int i
  | _, _, _, .str t z, e => by simp only [toP] at e; cases e; exact .str _
  | _, _, _, .tup f z r, e => by
    simp only [toP] at e
    split at e
    · rename_i ps hp; cases e; exact .tup (sqT_at s (SqT.of f)) (reps_dp s r hp)
    · cases e
  | _, _, _, .kt f z r, e => by
    simp only [toP] at e
    split at e
    · rename_i ps hp; cases e; exact .tup (sqT_at s f) (reps_dp s r hp)
    · cases e
  | _, _, _, .lst f z r, e => by
    simp only [toP] at e
    split at e
    · rename_i ps hp; cases e; exact .lst (SqL.of (s.sub _ _ f)) (reps_dp s r hp)
    · cases e
  | _, _, _, .scr f z r, e => by
    simp only [toP] at e
    split at e
    · rename_i ps hp; cases e; exact .lst (sqL_at s f) (reps_dp s r hp)
    · cases e
  | _, _, _, .ty t, e => by simp only [toP] at e; cases e
  | _, _, _, .dctK _ _, e => by simp only [toP] at e; cases e
  | _, _, _, .dctT _ _, e => by simp only [toP] at e; cases e
  | _, _, _, .ref _, e => by simp only [toP] at e; cases e
  | _, _, _, .cls _, e => by simp only [toP] at e; cases e
  | _, _, _, .exc _ _ _, e => by simp only [toP] at e; cases e
  | _, _, _, .fn _ _ _ _, e => by simp only [toP] at e; cases e
theorem reps_dp (s : SRel K F μ h G H) : ∀ {d v p}, Reps K F μ d v → toPs d = some p → DpAll K.K H v p
  | _, _, _, .nil, e => by simp only [toPs] at e; cases e; exact .nil
  | _, _, _, .cons r t, e => by
    simp only [toPs] at e
    split at e
    · rename_i p ps h1 h2; cases e; exact .cons (rep_dp s r h1) (reps_dp s t h2)
    · cases e
end
theorem an {a b : Bool} (h : (a && b) = true) : a = true ∧ b = true := Bool.and_eq_true_iff.mp h
def rEq2 (K : PySem.W.Frag) : R2 := fun x y H Q => rEq x y H Q ∨ rEqD K x y H Q
def rNe2 (K : PySem.W.Frag) : R2 := fun x y H Q => rNe x y H Q ∨ rNeD K x y H Q
theorem o_eq2 {X : Cx} (hu : X.A.units + 64 < cLine) : OpR X (compareOp .Eq) (rEq2 X.K) := op_eq.or (op_eqD hu)
theorem o_ne2 {X : Cx} (hu : X.A.units + 64 < cLine) : OpR X (compareOp .NotEq) (rNe2 X.K) := op_ne.or (op_neD hu)
/-- == of data -/
def eqP (x y : D) : Option Bool := match toP x, toP y with
  | some p, some q => if SeqAt.shaped p = true ∧ SeqAt.shaped q = true then some (PyData.eqv p q) else none
  | _, _ => none
def bEq2 (x y : D) (h : HP) : R D := match eqS x y with
  | some b => .ok (.bl b) h
  | none => (match eqP x y with
    | some b => .ok (.bl b) h
    | none => .bad)
def bNe2 (x y : D) (h : HP) : R D := match eqS x y with
  | some b => .ok (.bl (!b)) h
  | none => (match eqP x y with
    | some b => .ok (.bl (!b)) h
    | none => .bad)
theorem eqP_dp (s : SRel g F μ h G H) {x y : D} {v u : V} (r : Rep g F μ x v) (q : Rep g F μ y u) {b : Bool} (e : eqP x y = some b) : ∃ p p', Dp g.K H v p ∧ Dp g.K H u p' ∧ SeqAt.shaped p = true ∧ SeqAt.shaped p' = true ∧ PyData.eqv p p' = b := by
  unfold eqP at e
  split at e
  · rename_i p p' h1 h2
    split at e
    · rename_i z
      cases e
      exact ⟨p, p', rep_dp s r h1, rep_dp s q h2, z.1, z.2, rfl⟩
    · cases e
  · cases e
theorem u_eq2 : U2 g W bEq2 (rEq2 g.K) := by
  intro F μ h G H σ x v y u Q s r q p
  unfold bEq2 at p
  split at p
  · rename_i b e
    obtain ⟨h1, h2⟩ := eqS_V r q e
    exact .inl ⟨h1, by rw [h2]; exact post_ok (g := g) (rel := relD g) p s (.bl _)⟩
  · split at p
    · rename_i b e
      obtain ⟨a, c, h1, h2, h3, h4, h5⟩ := eqP_dp s r q e
      exact .inr ⟨a, c, h1, h2, h3, h4, by rw [h5]; exact post_ok (g := g) (rel := relD g) p s (.bl _)⟩
    · exact p.elim
theorem u_ne2 : U2 g W bNe2 (rNe2 g.K) := by
  intro F μ h G H σ x v y u Q s r q p
  unfold bNe2 at p
  split at p
  · rename_i b e
    obtain ⟨h1, h2⟩ := eqS_V r q e
    exact .inl ⟨h1, by rw [h2]; exact post_ok (g := g) (rel := relD g) p s (.bl _)⟩
  · split at p
    · rename_i b e
      obtain ⟨a, c, h1, h2, h3, h4, h5⟩ := eqP_dp s r q e
      exact .inr ⟨a, c, h1, h2, h3, h4, by rw [h5]; exact post_ok (g := g) (rel := relD g) p s (.bl _)⟩
    · exact p.elim
/-! ### < of data -/
def rLtD (K : PySem.W.Frag) : R2 := fun x y H Q => ∃ d e, Dp K H x d ∧ Dp K H y e ∧ PySem.W.alike d e = true ∧ d ≠ .none ∧ d.depth ≤ 60 ∧ Q (.bl (PySem.W.dataLt d e)) H
theorem op_ltD {X : Cx} (hu : X.A.units + 64 < cLine) : OpR X (compareOp .Lt) (rLtD X.K) := by
  intro pins s σ H x y v u Q I rx ry ⟨d, e, hd, he, al, nn, dp, q⟩
  obtain ⟨as, r1⟩ := Dp.reads I d x v hd rx
  obtain ⟨bs, r2⟩ := Dp.reads I e y u he ry
  exact PySem.W.lt_data r1 r2 al nn (by have := Nat.min_le_left d.depth e.depth; omega) ⟨.bl _, H, I, rfl, q⟩
def ltP (x y : D) : Option Bool := match toP x, toP y with
  | some p, some q => if PySem.W.alike p q = true ∧ (isNon x = false ∧ p.depth ≤ 60) then some (PySem.W.dataLt p q) else none
  | _, _ => none
def bLt2 (x y : D) (h : HP) : R D := match ltP x y with
  | some b => .ok (.bl b) h
  | none => .bad
theorem toP_non {x : D} {p : PyData} (e : toP x = some p) (n : isNon x = false) : p ≠ .none := by
  intro z
  subst z
  cases x <;> simp only [toP] at e <;> first | (cases n; done) | (cases e; done) | (split at e <;> cases e)
theorem u_lt2 : U2 g W bLt2 (rLtD g.K) := by
  intro F μ h G H σ x v y u Q s r q p
  unfold bLt2 at p
  split at p
  · rename_i b e
    unfold ltP at e
    split at e
    · rename_i d d' h1 h2
      split at e
      · rename_i z
        cases e
        exact ⟨d, d', rep_dp s r h1, rep_dp s q h2, z.1, toP_non h1 z.2.1, z.2.2, post_ok (g := g) (rel := relD g) p s (.bl _)⟩
      · cases e
    · cases e
  · exact p.elim
/-! ### repr -/
def rRepr (K : PySem.W.Frag) : List V → Hp → VK → Prop := fun xs H Q => ∃ v d, xs = [v] ∧ Dp K H v d ∧ PyData.showable d = true ∧ d.shown.length ≤ sizeLine ∧ d.depth ≤ 60 ∧ d.hasDict = false ∧ Q (.str d.shown) H
theorem c_repr {X : Cx} (hu : X.A.units + 64 < cLine) (hg : X.A.guards = some []) : CallR X (.builtin "repr") (rRepr X.K) := by
  intro pins s σ H xs us Q I r ⟨v, d, e, hd, sh, sz, dp, nd, q⟩
  subst e
  obtain ⟨u, rfl, ru⟩ := vals1 r
  obtain ⟨as, rr⟩ := Dp.reads I d v u hd ru
  cases rr with
  | none => exact PySem.P.repr_of_none ⟨.str _, H, I.tok _, ⟨_, rfl⟩, q⟩
  | bool b => exact PySem.P.repr_of_bool ⟨.str _, H, I.tok _, ⟨_, rfl⟩, q⟩
  | int i t => exact PySem.P.repr_of_int (by simpa [PyData.showable] using sh) ⟨.str _, H, I.tok _, ⟨_, rfl⟩, q⟩
  | str x t => exact PySem.P.repr_of_str ⟨.str _, H, I.tok _, ⟨_, rfl⟩, q⟩ sz
  | list h1 h2 h3 h4 => exact repr_of_reads' (h₀ := s.heap) (.list h1 h2 h3 h4) sh (fun z => by rw [nd] at z; cases z) hg (by omega) (fun _ _ e => e) (fun h' u tk k => ⟨.str _, H, I.kept k, ⟨_, rfl⟩, q⟩) sz
  | tuple h1 h2 h3 h4 => exact repr_of_reads' (h₀ := s.heap) (.tuple h1 h2 h3 h4) sh (fun z => by rw [nd] at z; cases z) hg (by omega) (fun _ _ e => e) (fun h' u tk k => ⟨.str _, H, I.kept k, ⟨_, rfl⟩, q⟩) sz
  | dict h1 h2 h3 h4 h5 => simp [PyData.hasDict] at nd
def reprP (x : D) : Option (List Nat) := match toP x with
  | some p => if PyData.showable p = true ∧ (p.shown.length ≤ sizeLine ∧ (p.depth ≤ 60 ∧ p.hasDict = false)) then some p.shown.cps.toList else none
  | none => none
def fRepr (xs : List D) (h : HP) : R D := match xs with
  | [x] => (match reprP x with
    | some t => .ok (.str t) h
    | none => .bad)
  | _ => .bad
theorem u_repr : UA g W fRepr (rRepr g.K) := by
  intro F μ h G H σ x v Q s r p
  unfold fRepr at p
  split at p
  · obtain ⟨v1, rfl, r1⟩ := reps1 r
    split at p
    · rename_i t e
      unfold reprP at e
      split at e
      · rename_i d hd
        split at e
        · rename_i z
          cases e
          refine ⟨v1, d, rfl, rep_dp s r1 hd, z.1, z.2.1, z.2.2.1, z.2.2.2, ?_⟩
          have hz : d.shown.cps.toList.length ≤ sizeLine := by rw [Array.length_toList]; exact z.2.1
          have := post_ok (g := g) (rel := relD g) p s (Rep.str (K := g) (F := F) (μ := μ) _ hz)
          unfold strV at this
          rw [Array.toArray_toList] at this
          exact this
        · cases e
      · cases e
    · exact p.elim
  · exact p.elim
/-! ### sorted -/
def rSortD (K : PySem.W.Frag) : List V → Hp → VK → Prop := fun xs H Q => ∃ (a : Addr) (bs : List (D × V)) (enc : D × V → PyData), xs = [.ref a] ∧ SqL K H a (bs.map (·.2)) ∧ (∀ b ∈ bs, Dp K H b.2 (enc b)) ∧ PySem.W.AllAlike (bs.map enc) ∧ PySem.W.Sortable (bs.map enc) ∧ (∀ b ∈ bs, (enc b).depth ≤ 60) ∧
  ∀ p, H p = none → Q (.ref p) (upd H p (.lst ((bs.mergeSort (PySem.W.dataLe false enc)).map (·.2))))
theorem each_in {X : Cx} {pins : List (Addr × Obj)} {σ : L2.St} {H : Hp} {s : Shared} (I : Inv X pins σ H s) {enc : D × V → PyData} : ∀ {bs : List (D × V)} {us : List Value}, Vals (bs.map (·.2)) us → (∀ b ∈ bs, Dp X.K H b.2 (enc b)) →
    PySem.W.EachIs (fun u (b : D × V) => RelV b.2 u) us bs ∧ PySem.W.EachIs (fun u (b : D × V) => ∃ as, Reads s.heap u (enc b) as) us bs
  | [], _, r, _ => by cases r; exact ⟨.nil, .nil⟩
  | b :: bs, _, r, k => by
    cases r with
    | cons r t =>
      obtain ⟨h1, h2⟩ := each_in I t fun z hz => k z (List.mem_cons_of_mem _ hz)
      exact ⟨.cons r h1, .cons (Dp.reads I _ _ _ (k b List.mem_cons_self) r) h2⟩
theorem vals_each : ∀ {bs : List (D × V)} {us : List Value}, PySem.W.EachIs (fun u (b : D × V) => RelV b.2 u) us bs → Vals (bs.map (·.2)) us
  | _, _, .nil => .nil
  | _, _, .cons r t => .cons r (vals_each t)
theorem c_sortD {X : Cx} (hu : X.A.units + 64 < cLine) : CallR X (.builtin "sorted") (rSortD X.K) := by
  intro pins s σ H xs us Q I r ⟨a, bs, enc, e, hs, hd, al, so, dp, q⟩
  subst e
  obtain ⟨u, rfl, ru⟩ := vals1 r
  obtain rfl : u = Value.ref a := ru
  obtain ⟨its, rv, hl, hz⟩ := I.list hs
  obtain ⟨e1, e2⟩ := each_in I rv hd
  have hlen : bs.length ≤ sizeLine := by rw [List.length_map] at hz; exact hz
  refine PySem.W.sorted_data hl.isList e1 e2 al so hlen (fun b hb => by have := dp b hb; omega) fun out ol eo => ?_
  obtain ⟨c, hc⟩ := sortedAll_at s.heap its out.toArray
  have vv := vals_each eo
  refine ⟨.ref (s.heap.objs.size + 1), upd H (s.heap.objs.size + 1) (.lst ((bs.mergeSort (PySem.W.dataLe false enc)).map (·.2))), I.laid (t' := s.toks) (fun b o e => sortedAll_old e) (Nat.le_succ _) ⟨?_, out, c, vv, hc⟩, rfl, q _ (I.hok.fresh (Nat.le_succ _))⟩
  rw [List.length_map, List.length_mergeSort]
  exact hlen
/-- the datum, where there is one -/
def pd (x : D) : PyData := (toP x).getD .none
def leD (x y : D) : Bool := !PySem.W.dataLt (pd y) (pd x)
def isTupC : PyData → Bool
  | .tuple (_ :: _) => true
  | _ => false
def notTN : PyData → Bool
  | .tuple _ => false
  | .none => false
  | _ => true
def sortOk (ps : List PyData) : Bool := (ps.all fun p => ps.all fun q => PySem.W.alike p q) && ((ps.all isTupC || ps.all notTN) && ps.all fun p => decide (p.depth ≤ 60))
theorem sortOk_of {ps : List PyData} (e : sortOk ps = true) : PySem.W.AllAlike ps ∧ PySem.W.Sortable ps ∧ ∀ p ∈ ps, p.depth ≤ 60 := by
  obtain ⟨a, b⟩ := an e
  obtain ⟨b, c⟩ := an b
  refine ⟨fun d hd d' hd' => List.all_eq_true.mp (List.all_eq_true.mp a d hd) d' hd', ?_, fun p hp => of_decide_eq_true (List.all_eq_true.mp c p hp)⟩
  rcases Bool.or_eq_true_iff.mp b with b | b
  · refine .inl fun d hd => ?_
    have := List.all_eq_true.mp b d hd
    unfold isTupC at this
    split at this
    · exact ⟨_, _, rfl⟩
    · cases this
  · refine .inr fun d hd => ?_
    have := List.all_eq_true.mp b d hd
    unfold notTN at this
    split at this
    · cases this
    · cases this
    · rename_i h1 h2
      exact ⟨h2, h1⟩
theorem toPs_map : ∀ {xs : List D} {ps : List PyData}, toPs xs = some ps → ps = xs.map pd ∧ ∀ x ∈ xs, toP x = some (pd x)
  | [], _, e => by simp only [toPs] at e; cases e; exact ⟨rfl, fun _ h => by cases h⟩
  | x :: r, ps, e => by
    simp only [toPs] at e
    split at e
    · rename_i p qs h1 h2
      cases e
      obtain ⟨h3, h4⟩ := toPs_map h2
      have h5 : pd x = p := by unfold pd; rw [h1]; rfl
      refine ⟨by rw [List.map_cons, h5, ← h3], fun y hy => ?_⟩
      rcases List.mem_cons.mp hy with e | hy
      · rw [e, h5]; exact h1
      · exact h4 y hy
    · cases e
theorem reps_zip : ∀ {xs : List D} {vs : List V}, Reps K F μ xs vs → ∃ bs : List (D × V), bs.map (·.1) = xs ∧ bs.map (·.2) = vs ∧ ∀ b ∈ bs, Rep K F μ b.1 b.2
  | _, _, .nil => ⟨[], rfl, rfl, fun _ h => by cases h⟩
  | _, _, .cons (d := d) (v := v) r t => by
    obtain ⟨bs, h1, h2, h3⟩ := reps_zip t
    refine ⟨(d, v) :: bs, by rw [List.map_cons, h1], by rw [List.map_cons, h2], fun b hb => ?_⟩
    rcases List.mem_cons.mp hb with e | hb
    · rw [e]; exact r
    · exact h3 b hb
theorem reps_unzip : ∀ {bs : List (D × V)}, (∀ b ∈ bs, Rep K F μ b.1 b.2) → Reps K F μ (bs.map (·.1)) (bs.map (·.2))
  | [], _ => .nil
  | b :: bs, k => .cons (k b List.mem_cons_self) (reps_unzip fun z hz => k z (List.mem_cons_of_mem _ hz))
/-- sorted of what stands in a list -/
def sortD (ys : List D) : Option (List D) := match toPs ys with
  | some ps => if sortOk ps = true then some (ys.mergeSort leD) else none
  | none => none
def fSort (o : Bool) (xs : List D) (h : HP) : R D := match xs with
  | [x] => (match lrOf x h with
    | some ys => (match sortD ys with
      | some zs => mkL o zs h
      | none => .bad)
    | none => .bad)
  | _ => .bad
theorem dataLe_pd {α : Type} (f : α → D) (a b : α) : PySem.W.dataLe false (fun z => pd (f z)) a b = leD (f a) (f b) := by rw [PySem.W.dataLe_eq]; rfl
theorem sort_rep (s : SRel g F μ h G H) {ys zs : List D} {vs : List V} (r : Reps g F μ ys vs) (e : sortD ys = some zs) : ∃ (bs : List (D × V)) (enc : D × V → PyData), bs.map (·.2) = vs ∧ (∀ b ∈ bs, Dp g.K H b.2 (enc b)) ∧ PySem.W.AllAlike (bs.map enc) ∧ PySem.W.Sortable (bs.map enc) ∧ (∀ b ∈ bs, (enc b).depth ≤ 60) ∧
    Reps g F μ zs ((bs.mergeSort (PySem.W.dataLe false enc)).map (·.2)) := by
  unfold sortD at e
  split at e
  · rename_i ps hp
    split at e
    · rename_i ok
      cases e
      obtain ⟨bs, b1, b2, b3⟩ := reps_zip r
      obtain ⟨p1, p2⟩ := toPs_map hp
      obtain ⟨o1, o2, o3⟩ := sortOk_of ok
      have pe : ps = bs.map fun b => pd b.1 := by rw [p1, ← b1, List.map_map]; rfl
      have mem : ∀ b ∈ bs, b.1 ∈ ys := fun b hb => by rw [← b1]; exact List.mem_map.mpr ⟨b, hb, rfl⟩
      refine ⟨bs, fun b => pd b.1, b2, fun b hb => rep_dp s (b3 b hb) (p2 _ (mem b hb)), by rw [← pe]; exact o1, by rw [← pe]; exact o2, fun b hb => o3 _ (by rw [pe]; exact List.mem_map.mpr ⟨b, hb, rfl⟩), ?_⟩
      have k := reps_unzip (K := g) (F := F) (μ := μ) (bs := bs.mergeSort (PySem.W.dataLe false fun b => pd b.1)) fun b hb => b3 b (List.mem_mergeSort.mp hb)
      have e2 : (bs.mergeSort (PySem.W.dataLe false fun b => pd b.1)).map (·.1) = ys.mergeSort leD := by
        rw [← b1]
        exact List.map_mergeSort fun a _ b _ => dataLe_pd (fun z : D × V => z.1) a b
      rw [e2] at k
      exact k
    · cases e
  · cases e
theorem u_sort {o : Bool} : UA g W (fSort o) (rSortD g.K) := by
  intro F μ h G H σ x v Q s r p
  unfold fSort at p
  split at p
  · obtain ⟨v1, rfl, r1⟩ := reps1 r
    split at p
    · rename_i ys e
      obtain ⟨a, vs, rfl, hs, hz, rs⟩ := lr_at s r1 e
      split at p
      · rename_i zs e2
        obtain ⟨bs, enc, h1, h2, h3, h4, h5, h6⟩ := sort_rep s rs e2
        refine ⟨a, bs, enc, rfl, by rw [h1]; exact hs, h2, h3, h4, h5, post_mkL s p ?_ h6⟩
        rw [List.length_map, List.length_mergeSort]
        have : bs.length = vs.length := by rw [← h1, List.length_map]
        rw [this]; exact hz
      · exact p.elim
    · exact p.elim
  · exact p.elim
end
end Zs
end

/-! Fdc -/
noncomputable section
namespace Zs
open PySem PySem.Spec L2
open PyProof.Rows hiding St

/-! ## dicts whose keys are ints, texts, or tuples of these -/
inductive KK where
  | one (y : Ky) | tup (ys : List Ky)
  deriving DecidableEq
def kysOf : List D → Option (List Ky)
  | [] => some []
  | x :: r => (match kyOf x, kysOf r with
    | some y, some ys => some (y :: ys)
    | _, _ => none)
def kkOf : D → Option KK
  | .tup xs => (match kysOf xs with
    | some ys => some (.tup ys)
    | none => none)
  | d => (match kyOf d with
    | some y => some (.one y)
    | none => none)
def kkIs (d : D) (k : KK) : Bool := decide (kkOf d = some k)
def getX (ds : List (D × D)) (k : KK) : Option D := (ds.find? fun e => kkIs e.1 k).map (·.2)
def putX (ds : List (D × D)) (kd v : D) (k : KK) : List (D × D) := if (ds.any fun e => kkIs e.1 k) = true then ds.map (fun e => if kkIs e.1 k = true then (e.1, v) else e) else ds ++ [(kd, v)]
def delX (ds : List (D × D)) (k : KK) : List (D × D) := ds.filter fun e => !kkIs e.1 k
/-- the keys there are of its kind -/
def likeK : D → KK → Bool
  | .tup _, .tup _ => true
  | .tup _, .one _ => false
  | _, .one _ => true
  | _, .tup _ => false
def kindOk (ds : List (D × D)) (k : KK) : Bool := ds.all fun e => likeK e.1 k
section
variable {g : Gm} {W : WX} {K : Gm} {F : Hp} {μ : List Addr} {G H : Hp} {σ : L2.St} {h : HP}
def f0 : Key → Ky
  | .inl i => .int i
  | .inr x => .str x.cps.toList
def keyOf : Ky → Key
  | .int i => .inl i
  | .str s => .inr (strV s)
theorem strV_tl (x : Str) : strV x.cps.toList = x := by
  unfold strV
  rw [Array.toArray_toList]
theorem keyOf_f0 (k : Key) : keyOf (f0 k) = k := by
  cases k with
  | inl i => rfl
  | inr x => show Sum.inr (strV x.cps.toList) = _; rw [strV_tl]
theorem f0_inj {a b : Key} (e : f0 a = f0 b) : a = b := by rw [← keyOf_f0 a, e, keyOf_f0]
theorem f0s_inj {a b : List Key} (e : a.map f0 = b.map f0) : a = b := List.map_inj_right (fun _ _ => f0_inj) |>.mp e
theorem key_ky {d : D} {k : Key} (r : KeyR d k) : kyOf d = some (f0 k) := by
  cases r with
  | int i => rfl
  | str s => show some (Ky.str s) = some (Ky.str (strV s).cps.toList); simp [strV]
theorem keys_ky : ∀ {ds : List D} {ks : List Key}, KeysR ds ks → kysOf ds = some (ks.map f0)
  | _, _, .nil => rfl
  | _, _, .cons r t => by
    simp only [kysOf, key_ky r, keys_ky t, List.map_cons]
/-- a dict over keys of one kind -/
inductive RepG (K : Gm) (F : Hp) (μ : List Addr) {κ : Type} (kr : D → κ → Prop) : List (D × D) → List (κ × V) → Prop where
  | nil : RepG K F μ kr [] []
  | cons {d k e v ds kvs} : kr d k → Rep K F μ e v → RepG K F μ kr ds kvs → RepG K F μ kr ((d, e) :: ds) ((k, v) :: kvs)
def krT (d : D) (ks : List Key) : Prop := ∃ ds, d = .tup ds ∧ KeysR ds ks
theorem RepK.toG : ∀ {ds kvs}, RepK K F μ ds kvs → RepG K F μ KeyR ds kvs
  | _, _, .nil => .nil
  | _, _, .cons k r t => .cons k r (RepK.toG t)
theorem RepG.k : ∀ {ds kvs}, RepG K F μ KeyR ds kvs → RepK K F μ ds kvs
  | _, _, .nil => .nil
  | _, _, .cons k r t => .cons k r (RepG.k t)
theorem RepT.toG : ∀ {ds kvs}, RepT K F μ ds kvs → RepG K F μ krT ds kvs
  | _, _, .nil => .nil
  | _, _, .cons k r t => .cons ⟨_, rfl, k⟩ r (RepT.toG t)
theorem RepG.t : ∀ {ds kvs}, RepG K F μ krT ds kvs → RepT K F μ ds kvs
  | _, _, .nil => .nil
  | _, _, .cons ⟨_, e, k⟩ r t => by subst e; exact .cons k r (RepG.t t)
/-- how the keys are told -/
structure KSpec {κ : Type} [DecidableEq κ] (kr : D → κ → Prop) (f : κ → KK) : Prop where
  ok : ∀ d k, kr d k → kkOf d = some (f k)
  inj : ∀ a b, f a = f b → a = b
theorem kk_one {d : D} {y : Ky} (e : kyOf d = some y) : kkOf d = some (.one y) := by
  cases d <;> first | (cases e; done) | (cases e; rfl)
theorem specK : KSpec KeyR fun k => KK.one (f0 k) := ⟨fun d k r => kk_one (key_ky r), fun a b e => by injection e with e; exact f0_inj e⟩
theorem specT : KSpec krT fun ks => KK.tup (ks.map f0) := ⟨fun d ks ⟨ds, e, r⟩ => by subst e; simp only [kkOf, keys_ky r], fun a b e => by injection e with e; exact f0s_inj e⟩
section
variable {κ : Type} [DecidableEq κ] {kr : D → κ → Prop} {f : κ → KK}
theorem RepG.mono {F' : Hp} {μ' : List Addr} (x : Ext F μ F' μ') : ∀ {ds kvs}, RepG K F μ kr ds kvs → RepG K F' μ' kr ds kvs
  | _, _, .nil => .nil
  | _, _, .cons k r t => .cons k (r.mono x) (RepG.mono x t)
theorem RepG.length : ∀ {ds} {kvs : List (κ × V)}, RepG K F μ kr ds kvs → ds.length = kvs.length
  | _, _, .nil => rfl
  | _, _, .cons _ _ t => by rw [List.length_cons, List.length_cons, RepG.length t]
theorem kkIs_of (sp : KSpec kr f) {d : D} {k : κ} (r : kr d k) (j : κ) : kkIs d (f j) = decide (k = j) := by
  unfold kkIs
  rw [sp.ok d k r, Bool.eq_iff_iff, decide_eq_true_eq, decide_eq_true_eq]
  exact ⟨fun e => sp.inj _ _ (Option.some.inj e), fun e => by rw [e]⟩
theorem RepG.any (sp : KSpec kr f) (j : κ) : ∀ {ds} {kvs : List (κ × V)}, RepG K F μ kr ds kvs → (ds.any fun e => kkIs e.1 (f j)) = kvs.any fun kv => decide (kv.1 = j)
  | _, _, .nil => rfl
  | _, _, .cons r _ t => by rw [List.any_cons, List.any_cons, RepG.any sp j t]; dsimp only; rw [kkIs_of sp r j]
theorem RepG.repl (sp : KSpec kr f) {v : D} {u : V} (rv : Rep K F μ v u) (j : κ) : ∀ {ds} {kvs : List (κ × V)}, RepG K F μ kr ds kvs → RepG K F μ kr (ds.map fun e => if kkIs e.1 (f j) = true then (e.1, v) else e) (kvs.map fun kv => if kv.1 = j then (kv.1, u) else kv)
  | _, _, .nil => .nil
  | _, _, .cons (d := d) (k := k) r q t => by
    rw [List.map_cons, List.map_cons]
    have h1 := kkIs_of sp r j
    by_cases z : k = j
    · rw [decide_eq_true z] at h1
      dsimp only
      rw [if_pos h1, if_pos z]
      exact .cons r rv (RepG.repl sp rv j t)
    · rw [decide_eq_false z] at h1
      dsimp only
      rw [if_neg (by rw [h1]; exact Bool.noConfusion), if_neg z]
      exact .cons r q (RepG.repl sp rv j t)
theorem RepG.snoc {k : D} {j : κ} {v : D} {u : V} (rk : kr k j) (rv : Rep K F μ v u) : ∀ {ds} {kvs : List (κ × V)}, RepG K F μ kr ds kvs → RepG K F μ kr (ds ++ [(k, v)]) (kvs ++ [(j, u)])
  | _, _, .nil => .cons rk rv .nil
  | _, _, .cons r q t => .cons r q (RepG.snoc rk rv t)
theorem RepG.put (sp : KSpec kr f) {ds} {kvs : List (κ × V)} {k v : D} {j : κ} {u : V} (r : RepG K F μ kr ds kvs) (rk : kr k j) (rv : Rep K F μ v u) : RepG K F μ kr (putX ds k v (f j)) (L2.putK kvs j u) := by
  unfold putX L2.putK
  rw [r.any sp j]
  split
  · exact r.repl sp rv j
  · exact r.snoc rk rv
theorem RepG.get (sp : KSpec kr f) (j : κ) : ∀ {ds} {kvs : List (κ × V)}, RepG K F μ kr ds kvs → (∃ d v, getX ds (f j) = some d ∧ valV kvs j = some v ∧ Rep K F μ d v) ∨ (getX ds (f j) = none ∧ valV kvs j = none)
  | _, _, .nil => .inr ⟨rfl, rfl⟩
  | _, _, .cons (d := d) (k := k) (e := e) (v := v) (ds := ds) (kvs := kvs) r q t => by
    have h1 := kkIs_of sp r j
    by_cases z : k = j
    · rw [decide_eq_true z] at h1
      exact .inl ⟨e, v, by simp [getX, List.find?_cons, h1], valV_pos (p := (k, v)) z, q⟩
    · rw [decide_eq_false z] at h1
      rw [valV_neg (p := (k, v)) z]
      have e3 : getX ((d, e) :: ds) (f j) = getX ds (f j) := by simp [getX, List.find?_cons, h1]
      rw [e3]
      exact RepG.get sp j t
theorem RepG.drop (sp : KSpec kr f) (j : κ) : ∀ {ds} {kvs : List (κ × V)}, RepG K F μ kr ds kvs → RepG K F μ kr (delX ds (f j)) (dropK kvs j)
  | _, _, .nil => .nil
  | _, _, .cons (d := d) (k := k) (e := e) (v := v) (ds := ds) (kvs := kvs) r q t => by
    have h1 := kkIs_of sp r j
    have ih := RepG.drop sp j t
    unfold delX dropK at ih ⊢
    by_cases z : k = j
    · rw [decide_eq_true z] at h1
      rw [List.filter_cons_of_neg (by simp [h1]), List.filter_cons_of_neg (by simp [z])]
      exact ih
    · rw [decide_eq_false z] at h1
      rw [List.filter_cons_of_pos (by simp [h1]), List.filter_cons_of_pos (by simp [z])]
      exact .cons r q ih
end
end
end Zs
end

/-! Fdd -/
noncomputable section
namespace Zs
open PySem PySem.Spec L2
open PyProof.Rows hiding St

/-! ### an empty dict takes keys of either kind -/
section
variable {P : Program} {w : World} {H : Hp} {h : Heap} {a : Addr}
theorem empty_data (ok : HOk P w H h) (e : Rd H a (.dK []) ∨ Rd H a (.dT [])) : (a == sysModules) = false ∧ ∃ o ep, h.get? a = some o ∧ o.ExactDict ∧ o.data = .dict #[] ep := by
  rcases e with e | e
  · obtain ⟨_, hd, vs, rel, o, es, ep, h1, h2, h3, h4, h5, _⟩ := dk_rd ok e
    have l1 : vs.length = 0 := rel.length.symm
    have l2 := h5.length
    have : es = #[] := by
      apply Array.toList_inj.mp
      have : es.toList.length = 0 := by rw [l2, l1]
      exact List.length_eq_zero_iff.mp this
    rw [this] at h3
    exact ⟨hd, o, ep, h1, h2, h3⟩
  · obtain ⟨_, hd, xs, rel, o, es, ep, h1, h2, h3, h4, _⟩ := dt_rd ok e
    have l1 : xs.length = 0 := (Paired.length rel).symm
    have : es = #[] := by
      apply Array.toList_inj.mp
      rw [h4, List.length_eq_zero_iff.mp l1]; rfl
    rw [this] at h3
    exact ⟨hd, o, ep, h1, h2, h3⟩
theorem empty_K (ok : HOk P w H h) (e : Rd H a (.dK []) ∨ Rd H a (.dT [])) : h.DictOf (mixKind P w) a [] := by
  obtain ⟨hd, o, ep, h1, h2, h3⟩ := empty_data ok e
  exact ⟨o, #[], ep, h1, h2, h3, (fun e he => by simp at he), .nil, List.nodup_nil⟩
theorem empty_T (ok : HOk P w H h) (e : Rd H a (.dK []) ∨ Rd H a (.dT [])) : h.DictOfH (tupleKind (mixKind P w)) a [] := by
  obtain ⟨hd, o, ep, h1, h2, h3⟩ := empty_data ok e
  exact ⟨o, #[], ep, h1, h2, h3, rfl, (fun e he => by simp at he), List.nodup_nil⟩
end
/-- what stands at the key y of the dict at a -/
def DGetE (H : Hp) (a : Addr) (y : V) (o : Option V) : Prop := DGet H a y o ∨ (o = none ∧ ((Rd H a (.dK []) ∧ ∃ (b : Addr) (k : List Key), y = .ref b ∧ H b = some (.tup (k.map kV))) ∨ (Rd H a (.dT []) ∧ ∃ k : Key, y = kV k)))
section
variable {X : Cx} {pins : List (Addr × Obj)} {σ : L2.St} {H : Hp} {s : Shared} {a : Addr} {y d : V} {u r : Value} {o : Option V}
theorem e_get2 {Q : Value → Shared → Prop} {A : Around} {E : Value → Shared → Prop} (hu : A.units + 1 < cLine) (I : Inv X pins σ H s) (g : DGetE H a y o) (ry : RelV y u) (rd : RelV d r) (k : ∀ w' s', Inv X pins σ H s' → RelV (o.getD d) w' → Q w' s') :
    wpAny (model X.prog X.w) A (call (.builtin "dict.get") [.ref a, u, r]) Q E s := by
  rcases g with g | ⟨rfl, ⟨e, b, ks, rfl, eb⟩ | ⟨e, ks, rfl⟩⟩
  · exact d_get2 hu I g ry rd k
  · cases ry
    have dd := empty_T I.hok (.inl e)
    exact call_meetsIn PySem.F.slot_dict_get dd.typeIs PySem.F.entry_dict_get (PySem.F.args_dict_get_3 _ _ _) (meetsH_dict_get_default (tupleKind (mixKind X.prog X.w)) a b (empty_data I.hok (.inl e)).1 r) ⟨tupleKind_room_in1 hu, ks, [], key_of I.hok eb, dd, k _ _ (I.tok _) rd⟩
  · have dd := empty_K I.hok (.inr e)
    exact call_meetsIn PySem.F.slot_dict_get dd.typeIs PySem.F.entry_dict_get (PySem.F.args_dict_get_3 _ _ _) (meets_dict_get_default (mixKind X.prog X.w) a (kV_is ry) (empty_data I.hok (.inr e)).1 r) ⟨_, dd.mapOf, k _ _ (I.tok _) rd⟩
theorem e_get1 {Q : Value → Shared → Prop} {A : Around} {E : Value → Shared → Prop} (hu : A.units + 1 < cLine) (I : Inv X pins σ H s) (g : DGetE H a y o) (ry : RelV y u) (k : ∀ w' s', Inv X pins σ H s' → RelV (o.getD .non) w' → Q w' s') :
    wpAny (model X.prog X.w) A (call (.builtin "dict.get") [.ref a, u]) Q E s := by
  rcases g with g | ⟨rfl, ⟨e, b, ks, rfl, eb⟩ | ⟨e, ks, rfl⟩⟩
  · exact d_get1 hu I g ry k
  · cases ry
    have dd := empty_T I.hok (.inl e)
    exact call_meetsIn PySem.F.slot_dict_get dd.typeIs PySem.F.entry_dict_get (PySem.F.args_dict_get_2 _ _) (meetsH_dict_get (tupleKind (mixKind X.prog X.w)) a b (empty_data I.hok (.inl e)).1) ⟨tupleKind_room_in1 hu, ks, [], key_of I.hok eb, dd, k _ _ (I.tok _) rfl⟩
  · have dd := empty_K I.hok (.inr e)
    exact call_meetsIn PySem.F.slot_dict_get dd.typeIs PySem.F.entry_dict_get (PySem.F.args_dict_get_2 _ _) (meets_dict_get (mixKind X.prog X.w) a (kV_is ry) (empty_data I.hok (.inr e)).1) ⟨_, dd.mapOf, k _ _ (I.tok _) rfl⟩
end
/-- d.get(k), d.get(k, x) -/
def rGetX : V → List V → Hp → VK → Prop := fun x xs H Q => ∃ a y o, x = .ref a ∧ DGetE H a y o ∧ ((xs = [y] ∧ Q (o.getD .non) H) ∨ ∃ d, xs = [y, d] ∧ Q (o.getD d) H)
theorem mt_getX {X : Cx} (hu : X.A.units + 64 < cLine) : MtR X "dict.get" rGetX := by
  intro pins s σ H x xs v us Q I rx rxs ⟨a, y, o, e, g, q⟩
  subst e
  cases rx
  rcases q with ⟨rfl, q⟩ | ⟨d, rfl, q⟩
  · obtain ⟨u, rfl, r⟩ := vals1 rxs
    exact e_get1 (by omega) I g r fun w' s' J rv => ⟨_, H, J, rv, q⟩
  · obtain ⟨u1, u2, rfl, r1, r2⟩ := vals2 rxs
    exact e_get2 (by omega) I g r1 r2 fun w' s' J rv => ⟨_, H, J, rv, q⟩
/-! ### the same, told of values -/
section
variable {g : Gm} {W : WX} {F : Hp} {μ : List Addr} {G H : Hp} {σ : L2.St} {h : HP}
/-- a key as the machine has it -/
inductive KeyAt (H : Hp) : KK → V → Prop where
  | one (k : Key) : KeyAt H (.one (f0 k)) (kV k)
  | tup (ks : List Key) {b : Addr} : H b = some (.tup (ks.map kV)) → KeyAt H (.tup (ks.map f0)) (.ref b)
theorem key_reps : ∀ {ds : List D} {vs : List V} {ys : List Ky}, Reps g F μ ds vs → kysOf ds = some ys → ∃ ks : List Key, KeysR ds ks ∧ vs = ks.map kV ∧ ys = ks.map f0
  | _, _, _, .nil, e => by simp only [kysOf] at e; cases e; exact ⟨[], .nil, rfl, rfl⟩
  | _, _, _, .cons (d := d) (v := v) r t, e => by
    simp only [kysOf] at e
    split at e
    · rename_i y ys h1 h2
      cases e
      obtain ⟨ks, k1, k2, k3⟩ := key_reps t h2
      have : ∃ k : Key, KeyR d k ∧ v = kV k ∧ y = f0 k := by
        cases d <;> first | (cases h1; done) | (cases h1; cases r; first | exact ⟨.inl _, .int _, rfl, rfl⟩ | exact ⟨.inr (strV _), .str _, rfl, by simp [f0, strV]⟩)
      obtain ⟨k, a1, a2, a3⟩ := this
      exact ⟨k :: ks, .cons a1 k1, by rw [k2, a2]; rfl, by rw [k3, a3]; rfl⟩
    · cases e
theorem key_at (s : SRel g F μ h G H) {d : D} {v : V} {κ : KK} (r : Rep g F μ d v) (e : kkOf d = some κ) : KeyAt H κ v ∧ ((∃ k, κ = .one (f0 k) ∧ KeyR d k) ∨ ∃ ks, κ = .tup (ks.map f0) ∧ krT d ks) := by
  cases r with
  | int i => cases e; exact ⟨.one (.inl i), .inl ⟨.inl i, rfl, .int i⟩⟩
  | str t z =>
    have e' : some (KK.one (.str t)) = some κ := e
    cases e'
    have : KK.one (Ky.str t) = .one (f0 (.inr (strV t))) := by simp [f0, strV]
    rw [this]
    exact ⟨.one (.inr (strV t)), .inl ⟨_, rfl, .str t⟩⟩
  | tup f z q =>
    simp only [kkOf] at e
    split at e
    · rename_i ys hy
      cases e
      obtain ⟨ks, k1, k2, k3⟩ := key_reps q hy
      rw [k3]
      exact ⟨.tup ks (by rw [← k2]; exact s.sub _ _ f), .inr ⟨ks, rfl, _, rfl, k1⟩⟩
    · cases e
  | _ => cases e
theorem like_K {ds : List (D × D)} {kvs : List (List Key × V)} {k : Key} (r : RepG g F μ krT ds kvs) (e : kindOk ds (.one (f0 k)) = true) : ds = [] ∧ kvs = [] := by
  cases r with
  | nil => exact ⟨rfl, rfl⟩
  | cons rk _ _ =>
    obtain ⟨zs, rfl, _⟩ := rk
    obtain ⟨h1, _⟩ := an (show (likeK (.tup zs) (.one (f0 k)) && _) = true from by unfold kindOk at e; rw [List.all_cons] at e; exact e)
    cases h1
theorem like_T {ds : List (D × D)} {kvs : List (Key × V)} {ks : List Key} (r : RepG g F μ KeyR ds kvs) (e : kindOk ds (.tup (ks.map f0)) = true) : ds = [] ∧ kvs = [] := by
  cases r with
  | nil => exact ⟨rfl, rfl⟩
  | @cons d k _ _ ds' _ rk _ _ =>
    unfold kindOk at e
    rw [List.all_cons] at e
    obtain ⟨h1, _⟩ := an e
    cases rk <;> cases h1
theorem dget_of (s : SRel g F μ h G H) {x kd : D} {v y : V} {ds : List (D × D)} {κ : KK} (r : Rep g F μ x v) (rk : Rep g F μ kd y) (e : dcOf x h = some ds) (ek : kkOf kd = some κ) (ok : kindOk ds κ = true) :
    ∃ a o, v = .ref a ∧ DGetE H a y o ∧ ((∃ d w, getX ds κ = some d ∧ o = some w ∧ Rep g F μ d w) ∨ (getX ds κ = none ∧ o = none)) := by
  obtain ⟨ka, kr⟩ := key_at s rk ek
  obtain ⟨a, rfl, ⟨kvs, hH, rd⟩ | ⟨kvs, hH, rd⟩⟩ := dc_at s r e
  · cases ka with
    | one k =>
      have := rd.toG.get specK k
      refine ⟨a, valV kvs k, rfl, .inl (.inl ⟨kvs, k, hH, rfl, rfl⟩), ?_⟩
      rcases this with ⟨d, w, h1, h2, h3⟩ | ⟨h1, h2⟩
      · exact .inl ⟨d, w, h1, h2, h3⟩
      · exact .inr ⟨h1, h2⟩
    | tup ks eb =>
      obtain ⟨rfl, rfl⟩ := like_T rd.toG ok
      exact ⟨a, none, rfl, .inr ⟨rfl, .inl ⟨hH, _, ks, rfl, eb⟩⟩, .inr ⟨rfl, rfl⟩⟩
  · cases ka with
    | one k =>
      obtain ⟨rfl, rfl⟩ := like_K rd.toG ok
      exact ⟨a, none, rfl, .inr ⟨rfl, .inr ⟨hH, k, rfl⟩⟩, .inr ⟨rfl, rfl⟩⟩
    | tup ks eb =>
      have := rd.toG.get specT ks
      refine ⟨a, valV kvs ks, rfl, .inl (.inr ⟨kvs, ks, _, hH, rfl, eb, rfl⟩), ?_⟩
      rcases this with ⟨d, w, h1, h2, h3⟩ | ⟨h1, h2⟩
      · exact .inl ⟨d, w, h1, h2, h3⟩
      · exact .inr ⟨h1, h2⟩
/-- d.get(k), d.get(k, x) -/
def mGet (x : D) (xs : List D) (h : HP) : R D := match dcOf x h, xs with
  | some ds, [k] => (match kkOf k with
    | some κ => if kindOk ds κ = true then .ok ((getX ds κ).getD .non) h else .bad
    | none => .bad)
  | some ds, [k, d] => (match kkOf k with
    | some κ => if kindOk ds κ = true then .ok ((getX ds κ).getD d) h else .bad
    | none => .bad)
  | _, _ => .bad
theorem u_get : UM g W mGet rGetX := by
  intro F μ h G H σ x v xs vs Q s r rs p
  unfold mGet at p
  split at p
  · rename_i ds k e
    split at p
    · rename_i κ ek
      split at p
      · rename_i ok
        obtain ⟨y, rfl, r1⟩ := reps1 rs
        obtain ⟨a, o, rfl, hg, c⟩ := dget_of s r r1 e ek ok
        refine ⟨a, y, o, rfl, hg, .inl ⟨rfl, ?_⟩⟩
        rcases c with ⟨d, w, h1, h2, h3⟩ | ⟨h1, h2⟩
        · rw [h1] at p; rw [h2]
          exact post_ok (g := g) (rel := relD g) p s h3
        · rw [h1] at p; rw [h2]
          exact post_ok (g := g) (rel := relD g) p s .non
      · exact p.elim
    · exact p.elim
  · rename_i ds k dd e
    split at p
    · rename_i κ ek
      split at p
      · rename_i ok
        obtain ⟨y, z, rfl, r1, r2⟩ := reps2 rs
        obtain ⟨a, o, rfl, hg, c⟩ := dget_of s r r1 e ek ok
        refine ⟨a, y, o, rfl, hg, .inr ⟨z, rfl, ?_⟩⟩
        rcases c with ⟨d, w, h1, h2, h3⟩ | ⟨h1, h2⟩
        · rw [h1] at p; rw [h2]
          exact post_ok (g := g) (rel := relD g) p s h3
        · rw [h1] at p; rw [h2]
          exact post_ok (g := g) (rel := relD g) p s r2
      · exact p.elim
    · exact p.elim
  · exact p.elim
end
end Zs
end

/-! Fh -/
noncomputable section
namespace Zs
open PySem PySem.Spec L2
open PyProof.Rows hiding St
open Classical

/-! ### what is walked over -/
structure Itm where
  xs : List D
  chk : HP → Prop
abbrev IM := Env' → M Itm
section
variable {g : Gm} {W : WX} {K : Gm} {F : Hp} {μ : List Addr} {G H : Hp} {σ : L2.St} {h : HP}
/-- J goes over itm -/
def JOk (g : Gm) (F : Hp) (μ : List Addr) (m : Itm) (J : It) : Prop :=
  ∀ F1 μ1 h1 G1 H1 (i : Nat), Ext F μ F1 μ1 → SRel g F1 μ1 h1 G1 H1 → m.chk h1 →
    (m.xs.length ≤ i → J.stop i H1) ∧ ∀ d, m.xs[i]? = some d → J.go i H1 ∧ ∀ x H', J.yld i H1 x H' → ∃ F2, Ext F1 μ1 F2 μ1 ∧ SRel g F2 μ1 h1 G1 H' ∧ Rep g F2 μ1 d x
theorem JOk.mono {m : Itm} {J : It} {F1 : Hp} {μ1 : List Addr} (j : JOk g F μ m J) (x : Ext F μ F1 μ1) : JOk g F1 μ1 m J := fun F2 μ2 h1 G1 H1 i y => j F2 μ2 h1 G1 H1 i (x.trans y)
abbrev relJ (g : Gm) : Hp → List Addr → Itm → It → Prop := fun F μ m J => JOk g F μ m J
def tI (g : Gm) (W : WX) (m : IM) : TI := fun σ H R => ∃ F μ h G ρ, SRel g F μ h G H ∧ REnv g F μ ρ σ ∧ post g (relJ g) W F μ G σ R (m ρ h)
theorem _root_.L2.PI.imp {X : Cx} {tg e : Expr} {t t' : TI} (p : PI X tg e t) (h : ∀ σ H Q, t' σ H Q → t σ H Q) : PI X tg e t' := ⟨fun pins s σ H Q I hw => p.run pins s σ H Q I (h _ _ _ hw)⟩
/-- a list, a tuple, a text -/
def iL (a : EM) : IM := fun ρ h => (a ρ h).bnd fun x h1 => match lrOf x h1 with
  | some xs => .ok ⟨xs, fun h' => lrOf x h' = some xs⟩ h1
  | none => .bad
def iT (a : EM) : IM := fun ρ h => (a ρ h).bnd fun x h1 => match x with
  | .tup xs => .ok ⟨xs, fun _ => True⟩ h1
  | .kt xs => .ok ⟨xs, fun _ => True⟩ h1
  | _ => .bad
def iS (a : EM) : IM := fun ρ h => (a ρ h).bnd fun x h1 => match x with
  | .str xs => .ok ⟨xs.map fun c => .str [c], fun _ => True⟩ h1
  | _ => .bad
/-- whichever it is -/
def iAk (x : D) (h1 : HP) : R Itm := match x with
  | .tup xs => .ok ⟨xs, fun _ => True⟩ h1
  | .kt xs => .ok ⟨xs, fun _ => True⟩ h1
  | .str xs => .ok ⟨xs.map fun c => .str [c], fun _ => True⟩ h1
  | x => (match lrOf x h1 with
    | some xs => .ok ⟨xs, fun h' => lrOf x h' = some xs⟩ h1
    | none => .bad)
def iA (a : EM) : IM := fun ρ h => (a ρ h).bnd iAk
theorem jok_list {x : D} {v : V} {xs : List D} (r : Rep g F μ x v) {a : Addr} (ea : v = .ref a) : JOk g F μ ⟨xs, fun h' => lrOf x h' = some xs⟩ (Itl g.K a) := fun F1 μ1 h1 G1 H1 i e s c => by
  obtain ⟨b, vs, e1, hs, hz, rs⟩ := lr_at s (r.mono e) c
  rw [ea] at e1; cases e1
  refine ⟨fun hi => ⟨vs, hs, by rw [← rs.length]; exact hi⟩, fun d hd => ?_⟩
  obtain ⟨w, hw, rw1⟩ := rs.get hd
  refine ⟨⟨vs, w, hs, hw⟩, fun x H' hy => ?_⟩
  obtain ⟨rfl, q⟩ := hy
  have := q vs hs
  rw [hw] at this; cases this
  exact ⟨F1, Ext.refl _ _, s, rw1⟩
theorem jok_tup {vs : List V} {xs : List D} {a : Addr} (f : SqT g.K F a vs) (r : Reps g F μ xs vs) : JOk g F μ ⟨xs, fun _ => True⟩ (Itt g.K a) := fun F1 μ1 h1 G1 H1 i e s c => by
  have hs := sqT_at s (sqT_mono e.f f)
  have rs := r.mono e
  refine ⟨fun hi => ⟨vs, hs, by rw [← rs.length]; exact hi⟩, fun d hd => ?_⟩
  obtain ⟨w, hw, rw1⟩ := rs.get hd
  refine ⟨⟨vs, w, hs, hw⟩, fun x H' hy => ?_⟩
  obtain ⟨rfl, q⟩ := hy
  have := q vs hs
  rw [hw] at this; cases this
  exact ⟨F1, Ext.refl _ _, s, rw1⟩
theorem jok_str {xs : List Nat} : JOk g F μ ⟨xs.map fun c => .str [c], fun _ => True⟩ (Its (strV xs)) := fun F1 μ1 h1 G1 H1 i e s c => by
  refine ⟨fun hi => ?_, fun d hd => ?_⟩
  · show xs.toArray.size ≤ i
    rw [List.length_map] at hi
    simpa using hi
  · rw [List.getElem?_map] at hd
    cases q : xs[i]? with
    | none => rw [q] at hd; cases hd
    | some c =>
      rw [q] at hd
      cases hd
      refine ⟨?_, fun x H' hy => ?_⟩
      · show i < xs.toArray.size
        simpa using (List.getElem?_eq_some_iff.mp q).1
      · obtain ⟨rfl, c', hc, rfl⟩ := hy
        have : xs.toArray[i]? = some c' := hc
        rw [List.getElem?_toArray, q] at this
        cases this
        exact ⟨F1, Ext.refl _ _, s, .str [c] sLine_pos⟩
theorem _root_.L2.PI.or {X : Cx} {tg e : Expr} {t t' : TI} (p : PI X tg e t) (p' : PI X tg e t') : PI X tg e (fun σ H R => t σ H R ∨ t' σ H R) := ⟨fun pins s σ H R I h => h.elim (p.run pins s σ H R I) (p'.run pins s σ H R I)⟩
theorem _root_.L2.PE.or {X : Cx} {e : Expr} {t t' : TE} (p : PE X e t) (p' : PE X e t') : PE X e (fun σ H R => t σ H R ∨ t' σ H R) := ⟨fun pins s σ H R I h => h.elim (p.run pins s σ H R I) (p'.run pins s σ H R I)⟩
theorem _root_.L2.PS.or {X : Cx} {e : Stmt} {t t' : TS} (p : PS X e t) (p' : PS X e t') : PS X e (fun σ H R => t σ H R ∨ t' σ H R) := ⟨fun pins s σ H R I h => h.elim (p.run pins s σ H R I) (p'.run pins s σ H R I)⟩
section
variable {X : Cx} {tg e : Expr} {a : EM}
theorem si_a (hK : X.K = g.K) (ha : PE X e (tE g W a)) : PI X tg e (tI g W (iA a)) := by
  refine ((pi_list (tg := tg) ha).or ((pi_tup (tg := tg) ha).or (pi_str (tg := tg) ha))).imp ?_
  rw [hK]
  intro σ H R ⟨F, μ, h, G, ρ, s, en, q⟩
  unfold iA at q
  cases e1 : a ρ h with
  | bad => rw [e1] at q; exact q.elim
  | exc c x h' =>
    rw [e1] at q
    exact .inl ⟨F, μ, h, G, ρ, s, en, by rw [e1]; exact q⟩
  | ok x h1 =>
    rw [e1] at q
    have q : post g (relJ g) W F μ G σ R (iAk x h1) := q
    unfold iAk at q
    have ctn : ∀ C : VK, (∀ F1 μ1 H1 v, Ext F μ F1 μ1 → SRel g F1 μ1 h1 G H1 → Rep g F1 μ1 x v → C v H1) → tE g W a σ H C := fun C k => ⟨F, μ, h, G, ρ, s, en, by rw [e1]; exact k⟩
    split at q
    · refine .inr (.inl (ctn _ fun F1 μ1 H1 v y s1 rv => ?_))
      cases rv with
      | @tup _ b vs f z rs => exact ⟨b, rfl, ⟨vs, sqT_at s1 (SqT.of f)⟩, post_ok (g := g) (rel := relJ g) (post.mono q y) s1 (jok_tup (SqT.of f) rs)⟩
    · refine .inr (.inl (ctn _ fun F1 μ1 H1 v y s1 rv => ?_))
      cases rv with
      | @kt _ b vs f z rs => exact ⟨b, rfl, ⟨vs, sqT_at s1 f⟩, post_ok (g := g) (rel := relJ g) (post.mono q y) s1 (jok_tup f rs)⟩
    · refine .inr (.inr (ctn _ fun F1 μ1 H1 v y s1 rv => ?_))
      cases rv with
      | str xs z => exact ⟨_, rfl, post_ok (g := g) (rel := relJ g) (post.mono q y) s1 jok_str⟩
    · split at q
      · rename_i xs e2
        refine .inl (ctn _ fun F1 μ1 H1 v y s1 rv => ?_)
        obtain ⟨b, vs, rfl, hs, hz, rs⟩ := lr_at s1 rv e2
        exact ⟨b, rfl, ⟨vs, hs⟩, post_ok (g := g) (rel := relJ g) (post.mono q y) s1 (jok_list rv rfl)⟩
      · exact q.elim
/-- range -/
theorem jok_rng {lo : Int} {n : Nat} : JOk g F μ ⟨(List.range n).map fun i => D.int (lo + (i : Nat)), fun _ => True⟩ (Itr lo n) := fun F1 μ1 h1 G1 H1 i e s c => by
  refine ⟨fun hi => (by simpa using hi : n ≤ i), fun d hd => ?_⟩
  rw [List.getElem?_map] at hd
  cases q : (List.range n)[i]? with
  | none => rw [q] at hd; cases hd
  | some j =>
    rw [q] at hd
    cases hd
    have hl := (List.getElem?_eq_some_iff.mp q).1
    rw [List.length_range] at hl
    have ej : j = i := by rw [List.getElem?_range hl] at q; cases q; rfl
    subst ej
    refine ⟨hl, fun x H' hy => ?_⟩
    obtain ⟨rfl, rfl⟩ := hy
    exact ⟨F1, Ext.refl _ _, s, .int _⟩
def R62 (i : Int) : Prop := -(2 ^ 62) ≤ i ∧ i < 2 ^ 62
def iRk (x : List D) (h1 : HP) : R Itm := match x with
  | [.int j] => if R62 j then .ok ⟨(List.range j.toNat).map fun i => D.int (0 + (i : Nat)), fun _ => True⟩ h1 else .bad
  | [.int i, .int j] => if R62 i ∧ R62 j then .ok ⟨(List.range (j - i).toNat).map fun k => D.int (i + (k : Nat)), fun _ => True⟩ h1 else .bad
  | _ => .bad
def iR (xs : AM) : IM := fun ρ h => (xs ρ h).bnd iRk
theorem si_r1 {e : Expr} {m : AM} {p pos : Pos} (hg : Gl X "range") (hm : X.mg "range" = none) (ha : PA X [e] (tA g W m)) (n1 : noStar e = true) (one : ∀ ρ h xs h', m ρ h = .ok xs h' → xs.length = 1) : PI X tg (.Call (.Name "range" p) [e] [] pos) (tI g W (iR m)) := by
  refine (pi_range1 hg hm ha (by rw [starEach_no _ n1]; rfl)).imp ?_
  intro σ H R ⟨F, μ, h, G, ρ, s, en, q⟩
  have hl := one ρ h
  refine ⟨F, μ, h, G, ρ, s, en, ?_⟩
  unfold iR at q
  cases e1 : m ρ h with
  | bad => rw [e1] at q; exact q
  | exc c x h' => rw [e1] at q; exact q
  | ok x h1 =>
    rw [e1] at q
    have hl := hl x h1 e1
    intro F1 μ1 H1 vs y s1 rv
    have q := post.mono (show post g (relJ g) W F μ G σ R (iRk x h1) from q) y
    unfold iRk at q
    split at q
    · obtain ⟨v, rfl, r1⟩ := reps1 rv
      cases r1
      split at q
      · rename_i z
        exact ⟨_, rfl, z.1, z.2, post_ok (g := g) (rel := relJ g) q s1 jok_rng⟩
      · exact q.elim
    · simp at hl
    · exact q.elim
theorem si_r2 {e e2 : Expr} {m : AM} {p pos : Pos} (hg : Gl X "range") (hm : X.mg "range" = none) (ha : PA X [e, e2] (tA g W m)) (n1 : noStar e = true) (n2 : noStar e2 = true) (two : ∀ ρ h xs h', m ρ h = .ok xs h' → xs.length = 2) : PI X tg (.Call (.Name "range" p) [e, e2] [] pos) (tI g W (iR m)) := by
  refine (pi_range2 hg hm ha (by rw [starEach_no _ n1, starEach_no _ n2]; rfl) (by rw [starEach_no _ n2]; rfl)).imp ?_
  intro σ H R ⟨F, μ, h, G, ρ, s, en, q⟩
  have hl := two ρ h
  refine ⟨F, μ, h, G, ρ, s, en, ?_⟩
  unfold iR at q
  cases e1 : m ρ h with
  | bad => rw [e1] at q; exact q
  | exc c x h' => rw [e1] at q; exact q
  | ok x h1 =>
    rw [e1] at q
    have hl := hl x h1 e1
    intro F1 μ1 H1 vs y s1 rv
    have q := post.mono (show post g (relJ g) W F μ G σ R (iRk x h1) from q) y
    unfold iRk at q
    split at q
    · simp at hl
    · obtain ⟨v, u, rfl, r1, r2⟩ := reps2 rv
      cases r1; cases r2
      split at q
      · rename_i z
        exact ⟨_, _, rfl, ⟨z.1.1, z.1.2, z.2.1, z.2.2⟩, post_ok (g := g) (rel := relJ g) q s1 jok_rng⟩
      · exact q.elim
    · exact q.elim
theorem aC_len {a : EM} {r : AM} {n : Nat} (hr : ∀ ρ h xs h', r ρ h = .ok xs h' → xs.length = n) : ∀ ρ h xs h', aC a r ρ h = .ok xs h' → xs.length = n + 1 := fun ρ h xs h' e => by
  unfold aC at e
  cases e1 : a ρ h with
  | ok x h1 =>
    rw [e1] at e
    have e : ((r ρ h1).bnd fun xs h2 => R.ok (x :: xs) h2) = .ok xs h' := e
    cases e2 : r ρ h1 with
    | ok ys h2 =>
      rw [e2] at e
      cases e
      rw [List.length_cons, hr _ _ _ _ e2]
    | exc c v h2 => rw [e2] at e; cases e
    | bad => rw [e2] at e; cases e
  | exc c v h2 => rw [e1] at e; cases e
  | bad => rw [e1] at e; cases e
theorem aN_len : ∀ ρ h xs h', aN ρ h = .ok xs h' → xs.length = 0 := fun ρ h xs h' e => by cases e; rfl
end

/-! ### targets -/
abbrev GM := D → Env' → HP → R Env'
/-- the slots outside sl stay -/
def Out (sl : List Nat) (σ σ' : L2.St) : Prop := σ'.length = σ.length ∧ ∀ i, i ∉ sl → σ'[i]? = σ[i]?
def postG (g : Gm) (sl : List Nat) (σ : L2.St) (F : Hp) (μ : List Addr) (G : Hp) (Q : L2.St → Hp → Prop) : R Env' → Prop
  | .ok ρ' h' => ∀ F' μ' H' σ', Ext F μ F' μ' → SRel g F' μ' h' G H' → REnv g F' μ' ρ' σ' → Out sl σ σ' → Q σ' H'
  | _ => False
def tG (g : Gm) (sl : List Nat) (m : GM) : TG := fun x σ H Q => ∃ F μ h G ρ d, SRel g F μ h G H ∧ REnv g F μ ρ σ ∧ Rep g F μ d x ∧ postG g sl σ F μ G Q (m d ρ h)
abbrev GMs := List D → Env' → HP → R Env'
def tGs (g : Gm) (sl : List Nat) (m : GMs) : TGs := fun xs σ H Q => ∃ F μ h G ρ ds, SRel g F μ h G H ∧ REnv g F μ ρ σ ∧ Reps g F μ ds xs ∧ postG g sl σ F μ G Q (m ds ρ h)
theorem postG.mono {sl : List Nat} {Q : L2.St → Hp → Prop} {r : R Env'} {F1 : Hp} {μ1 : List Addr} (e : postG g sl σ F μ G Q r) (y : Ext F μ F1 μ1) : postG g sl σ F1 μ1 G Q r := by
  cases r with
  | ok d h' => exact fun F' μ' H' v z => e F' μ' H' v (y.trans z)
  | _ => exact e
theorem _root_.L2.PG.imp {X : Cx} {e : Expr} {t t' : TG} (p : PG X e t) (h : ∀ x σ H Q, t' x σ H Q → t x σ H Q) : PG X e t' := ⟨fun pins s σ H v u Q I r hw => p.run pins s σ H v u Q I r (h _ _ _ _ hw)⟩
theorem _root_.L2.PGs.imp {X : Cx} {e : List Expr} {t t' : TGs} (p : PGs X e t) (h : ∀ x σ H Q, t' x σ H Q → t x σ H Q) : PGs X e t' := ⟨fun pins s σ H v u Q I r hw => p.run pins s σ H v u Q I r (h _ _ _ _ hw)⟩
def gN (i : Nat) : GM := fun d ρ h => .ok (ρ.set i (some d)) h
def gsN : GMs := fun ds ρ h => match ds with
  | [] => .ok ρ h
  | _ => .bad
def gsC (a : GM) (b : GMs) : GMs := fun ds ρ h => match ds with
  | d :: r => (match a d ρ h with
    | .ok ρ1 h1 => b r ρ1 h1
    | _ => .bad)
  | [] => .bad
def gT (n : Nat) (b : GMs) : GM := fun d ρ h => match d with
  | .tup ds => if ds.length = n then b ds ρ h else .bad
  | _ => .bad
section
variable {X : Cx} {pos : Pos}
theorem out_refl {sl : List Nat} : Out sl σ σ := ⟨rfl, fun _ _ => rfl⟩
theorem Out.trans {sl : List Nat} {σ1 σ2 : L2.St} (a : Out sl σ σ1) (b : Out sl σ1 σ2) : Out sl σ σ2 := ⟨b.1.trans a.1, fun i h => (b.2 i h).trans (a.2 i h)⟩
theorem Out.sub {sl sl' : List Nat} {σ1 : L2.St} (a : Out sl σ σ1) (h : ∀ i ∈ sl, i ∈ sl') : Out sl' σ σ1 := ⟨a.1, fun i q => a.2 i fun z => q (h i z)⟩
theorem sg_n {i : Nat} {x : Str} (hN : X.N.Nodup) (hi : X.N[i]? = some x) (hx : Loc X.env.scope x) (hf : X.fn x = true ∨ X.env.scope.names.lookup x = some .local) : PG X (.Name x pos) (tG g [i] (gN i)) :=
  (pg_name hN hi hx hf).imp fun x σ H Q ⟨F, μ, h, G, ρ, d, s, en, r, q⟩ => q F μ H _ (Ext.refl F μ) s (en.set r i) ⟨by rw [List.length_set], fun j hj => by
    rw [List.getElem?_set_ne]; intro e; subst e; exact hj (by simp)⟩
theorem sgs_n : PGs X [] (tGs g [] gsN) := pgs_nil.imp fun x σ H Q ⟨F, μ, h, G, ρ, ds, s, en, r, q⟩ => by
  cases r with
  | nil => exact ⟨rfl, q F μ H _ (Ext.refl F μ) s en out_refl⟩
  | cons _ _ => exact q.elim
theorem sgs_c {e : Expr} {es : List Expr} {a : GM} {b : GMs} {sl sl' : List Nat} (ha : PG X e (tG g sl a)) (hb : PGs X es (tGs g sl' b)) (hst : (assignEach (e :: es) X.env).map (·.2) = assign e X.env :: (assignEach es X.env).map (·.2)) : PGs X (e :: es) (tGs g (sl ++ sl') (gsC a b)) :=
  (pgs_cons ha hb hst).imp fun x σ H Q ⟨F, μ, h, G, ρ, ds, s, en, r, q⟩ => by
    cases r with
    | nil => exact q.elim
    | @cons d v ds vs r1 rr =>
      refine ⟨v, vs, rfl, F, μ, h, G, ρ, d, s, en, r1, ?_⟩
      have q : postG g (sl ++ sl') σ F μ G Q (match a d ρ h with
        | .ok ρ1 h1 => b ds ρ1 h1
        | _ => .bad) := q
      cases e1 : a d ρ h with
      | ok ρ1 h1 =>
        rw [e1] at q
        intro F1 μ1 H1 σ1 x1 s1 en1 o1
        refine ⟨F1, μ1, h1, G, ρ1, ds, s1, en1, rr.mono x1, ?_⟩
        have q2 := postG.mono q x1
        cases e2 : b ds ρ1 h1 with
        | ok ρ2 h2 =>
          have q3 : postG g (sl ++ sl') σ F1 μ1 G Q (b ds ρ1 h1) := q2
          rw [e2] at q3
          exact fun F2 μ2 H2 σ2 x2 s2 en2 o2 => q3 F2 μ2 H2 σ2 x2 s2 en2 ((o1.sub fun i hi => List.mem_append_left _ hi).trans (o2.sub fun i hi => List.mem_append_right _ hi))
        | exc c v' h' => have q3 : postG g (sl ++ sl') σ F1 μ1 G Q (b ds ρ1 h1) := q2; rw [e2] at q3; exact q3.elim
        | bad => have q3 : postG g (sl ++ sl') σ F1 μ1 G Q (b ds ρ1 h1) := q2; rw [e2] at q3; exact q3.elim
      | exc c v' h' => rw [e1] at q; exact q.elim
      | bad => rw [e1] at q; exact q.elim
theorem sg_t {es : List Expr} {k n : Nat} {b : GMs} {sl : List Nat} (hK : X.K = g.K) (hc : X.calm = true) (hb : PGs X es (tGs g sl b)) (hn : (assignEach es X.env).length = n) (hst : (assignEach es X.env).findIdx? (·.1) = none) : PG X (.Tuple es k pos) (tG g sl (gT n b)) := by
  refine (pg_tup hc hb hn hst).imp ?_
  rw [hK]
  intro x σ H Q ⟨F, μ, h, G, ρ, d, s, en, r, q⟩
  unfold gT at q
  split at q
  · split at q
    · rename_i z
      cases r with
      | tup f zz rs => exact ⟨_, _, rfl, sqT_at s (SqT.of f), by rw [← rs.length]; exact z, F, μ, h, G, ρ, _, s, en, rs, q⟩
    · exact q.elim
  · exact q.elim
/-- xs[i] = .. -/
def setAt (o : D) (i : D) (d : D) (h : HP) : Option HP := match opL o h, i with
  | some (k, xs), .int j => (match ixN xs.length j with
    | some n => some (h.set k (some (.lst (xs.set n d))))
    | none => none)
  | _, _ => none
def gS (a b : EM) : GM := fun d ρ h => match a ρ h with
  | .ok x h1 => (match b ρ h1 with
    | .ok i h2 => (match setAt x i d h2 with
      | some h3 => .ok ρ h3
      | none => .bad)
    | _ => .bad)
  | _ => .bad
theorem post_of_ok {α β : Type} {rel : Hp → List Addr → α → β → Prop} {Q : β → Hp → Prop} {r : R α} {d : α} {h' : HP} (e : r = .ok d h') (k : ∀ F' μ' H' v, Ext F μ F' μ' → SRel g F' μ' h' G H' → rel F' μ' d v → Q v H') : post g rel W F μ G σ Q r := by
  rw [e]; exact k
theorem sg_s {o i : Expr} {a b : EM} (ho : PE X o (tE g W a)) (hi : PE X i (tE g W b))
    (ha : ∀ v, assign (.Subscript o i pos) X.env v = (do
      let ov ← holding [v] (eval o X.env)
      let iv ← holding [v, ov] (eval i X.env)
      standAt pos
      holding [v, ov, iv] (setItem ov iv v)
      release [v, ov, iv] [])) : PG X (.Subscript o i pos) (tG g [] (gS a b)) :=
  (pg_sub ho hi set_list ha).imp fun x σ H Q ⟨F, μ, h, G, ρ, d, s, en, r, q⟩ => by
    unfold gS at q
    cases e1 : a ρ h with
    | ok x1 h1 =>
      rw [e1] at q
      dsimp only at q
      cases e2 : b ρ h1 with
      | ok i2 h2 =>
        rw [e2] at q
        dsimp only at q
        cases e3 : setAt x1 i2 d h2 with
        | some h3 =>
          rw [e3] at q
          refine ⟨F, μ, h, G, ρ, s, en, post_of_ok e1 fun F1 μ1 H1 v1 y1 s1 r1 => ⟨F1, μ1, h1, G, ρ, s1, en.mono y1, post_of_ok e2 fun F2 μ2 H2 v2 y2 s2 r2 => ?_⟩⟩
          unfold setAt at e3
          split at e3
          · rename_i k xs j eo
            obtain ⟨ad, ws, ev, hi, m, hH, z, rs⟩ := opL_at s2 (r1.mono y2) eo
            subst ev
            cases r2
            split at e3
            · rename_i n en2
              cases e3
              have rd := (r.mono y1).mono y2
              refine ⟨ad, ws, j, n, rfl, rfl, hH, by rw [← rs.length]; exact en2, q F2 μ2 _ σ (y1.trans y2) (s2.write hi m (.lst (by rw [List.length_set]; exact z) (rs.set rd n))) ((en.mono y1).mono y2) out_refl⟩
            · cases e3
          · cases e3
        | none => rw [e3] at q; exact q.elim
      | exc c v h' => rw [e2] at q; exact q.elim
      | bad => rw [e2] at q; exact q.elim
    | exc c v h' => rw [e1] at q; exact q.elim
    | bad => rw [e1] at q; exact q.elim
end
end
end Zs
end

/-! Fea -/
noncomputable section
namespace Zs
open PySem PySem.Spec L2
open PyProof.Rows hiding St

/-! ### d[k], k in d, d[k] = v -/
def rIxX : R2 := fun x y H Q => ∃ a v, x = .ref a ∧ DGet H a y (some v) ∧ Q v H
theorem ix_dic {X : Cx} (hu : X.A.units + 64 < cLine) : IxR X rIxX := by
  intro value slice pins s σ H x y v u Q I rx ry ⟨a, w, e, g, q⟩ hs
  subst e
  obtain rfl : v = Value.ref a := rx
  exact tail_any (dict_typeIs I g) PySem.F.slot_dict_getitem.lookup (d_getItem (by omega) I g ry fun w' s' J rv => ⟨w, H, J, rv, q⟩) hs
def rInX (neg : Bool) : R2 := fun x y H Q => ∃ a o, y = .ref a ∧ DGetE H a x o ∧ Q (.bl (xor neg o.isSome)) H
section
variable {X : Cx} {pins : List (Addr × Obj)} {σ : L2.St} {H : Hp} {s : Shared} {a : Addr} {y v : V} {u r : Value} {o : Option V}
theorem e_in {Q : Value → Shared → Prop} {A : Around} {E : Value → Shared → Prop} (hu : A.units + 1 < cLine) (I : Inv X pins σ H s) (g : DGetE H a y o) (ry : RelV y u) (k : ∀ s', Inv X pins σ H s' → Q (.bool o.isSome) s') :
    wpAny (model X.prog X.w) A (compareOp .In u (.ref a)) Q E s := by
  rcases g with g | ⟨rfl, ⟨e, b, ks, rfl, eb⟩ | ⟨e, ks, rfl⟩⟩
  · exact d_in hu I g ry k
  · cases ry
    exact wpAny_in_heap (tupleKind_room_in1 hu) (key_of I.hok eb) (empty_data I.hok (.inl e)).1 (empty_T I.hok (.inl e)) (k _ (I.tok _))
  · exact wpAny_in_of (kV_is ry) (empty_data I.hok (.inr e)).1 (empty_K I.hok (.inr e)).mapOf (k _ (I.tok _))
theorem e_notIn {Q : Value → Shared → Prop} {A : Around} {E : Value → Shared → Prop} (hu : A.units + 1 < cLine) (I : Inv X pins σ H s) (g : DGetE H a y o) (ry : RelV y u) (k : ∀ s', Inv X pins σ H s' → Q (.bool (!o.isSome)) s') :
    wpAny (model X.prog X.w) A (compareOp .NotIn u (.ref a)) Q E s := by
  rcases g with g | ⟨rfl, ⟨e, b, ks, rfl, eb⟩ | ⟨e, ks, rfl⟩⟩
  · exact d_notIn hu I g ry k
  · cases ry
    exact wpAny_notIn_heap (tupleKind_room_in1 hu) (key_of I.hok eb) (empty_data I.hok (.inl e)).1 (empty_T I.hok (.inl e)) (k _ (I.tok _))
  · exact wpAny_notIn_of (kV_is ry) (empty_data I.hok (.inr e)).1 (empty_K I.hok (.inr e)).mapOf (k _ (I.tok _))
end
def rIn2 (K : PySem.W.Frag) (neg : Bool) : R2 := fun x y H Q => rInX neg x y H Q ∨ rIn' K neg x y H Q
theorem o_inX {X : Cx} (hu : X.A.units + 64 < cLine) : OpR X (compareOp .In) (rInX false) := by
  intro pins s σ H x y v u Q I rx ry ⟨a, o, e, g, q⟩
  subst e
  obtain rfl : u = Value.ref a := ry
  exact e_in (by omega) I g rx fun s' J => ⟨.bl o.isSome, H, J, rfl, by simpa using q⟩
theorem o_notInX {X : Cx} (hu : X.A.units + 64 < cLine) : OpR X (compareOp .NotIn) (rInX true) := by
  intro pins s σ H x y v u Q I rx ry ⟨a, o, e, g, q⟩
  subst e
  obtain rfl : u = Value.ref a := ry
  exact e_notIn (by omega) I g rx fun s' J => ⟨.bl (!o.isSome), H, J, rfl, by simpa using q⟩
theorem o_in2 {X : Cx} (hu : X.A.units + 64 < cLine) : OpR X (compareOp .In) (rIn2 X.K false) := (o_inX hu).or o_in
theorem o_notIn2 {X : Cx} (hu : X.A.units + 64 < cLine) : OpR X (compareOp .NotIn) (rIn2 X.K true) := (o_notInX hu).or o_notIn
/-- the heap behind a[y] = v: an empty dict takes any key -/
def DPutE (H : Hp) (a : Addr) (y v : V) (H' : Hp) : Prop := DPut H a y v H' ∨
  (H a = some (.dK []) ∧ (∃ (b : Addr) (k : List Key), y = .ref b ∧ H b = some (.tup (k.map kV)) ∧ H' = upd H a (.dT [(k, v)]))) ∨
  (H a = some (.dT []) ∧ ∃ k : Key, y = kV k ∧ H' = upd H a (.dK [(k, v)]))
def rSetE : TSet := fun o i v H Q => ∃ a H', o = .ref a ∧ DPutE H a i v H' ∧ Q H'
theorem PSet.or {X : Cx} {t t' : TSet} (p : PSet X t) (p' : PSet X t') : PSet X fun o i v H Q => t o i v H Q ∨ t' o i v H Q := fun pins s σ H o i v ov iv u Q I ro ri rv h => h.elim (p pins s σ H o i v ov iv u Q I ro ri rv) (p' pins s σ H o i v ov iv u Q I ro ri rv)
theorem set_dictE {X : Cx} (hu : X.A.units + 64 < cLine) : PSet X rSetE := by
  intro pins s σ H o i v ov iv u Q I ro ri rv ⟨a, H', e, g, q⟩
  subst e
  cases (show ov = Value.ref a from ro)
  rcases g with g | ⟨e, b, k, rfl, eb, rfl⟩ | ⟨e, k, rfl, rfl⟩
  · exact d_setItem (by omega) I g ri rv fun s' I' => ⟨H', I', q⟩
  · cases (show iv = Value.ref b from ri)
    obtain ⟨z, hd, _⟩ := dk_of I.hok e
    refine wpAny_setItem_heap (hsz := Nat.zero_le _) (tupleKind_room_in1 (by omega)) (key_of I.hok eb) (empty_T I.hok (.inl (.inl e))) fun h' dd' hs => ⟨_, ?_, q⟩
    obtain ⟨q', es, ep, hq, h2, h3, h4, _, h5⟩ := dd'
    refine d_write I (by rw [e]; exact True.intro) hs ⟨q', hq⟩ ⟨?_, hd, _, (KT.put (Paired.nil : KT H [] []) k eb rv).keeps fun c ys ec => ?_, q', es, ep, hq, h2, h3, h4, h5⟩
    · show 1 ≤ sizeLine
      exact sLine_pos
    · rw [upd_ne (ne_of ec e (fun z => nomatch z))]
      exact ec
  · obtain ⟨z, hd, _⟩ := dt_of I.hok e
    refine wpAny_setItem_pairs (hsz := Nat.zero_le _) (kV_is ri) (empty_K I.hok (.inr (.inl e))) fun h' dd' hs => ⟨_, ?_, q⟩
    have he : ∃ q, h'.get? a = some q := let ⟨q, _, _, hq, _⟩ := dd'; ⟨q, hq⟩
    exact d_write I (by rw [e]; exact True.intro) hs he (dk_new (show 1 ≤ sizeLine from sLine_pos) hd (KV.put (Paired.nil : KV [] []) k rv) dd')
section
variable {g : Gm} {W : WX} {K : Gm} {F : Hp} {μ : List Addr} {G H : Hp} {σ : L2.St} {h : HP}
def bIx2 (x y : D) (h : HP) : R D := match dcOf x h with
  | some ds => (match kkOf y with
    | some κ => if kindOk ds κ = true then (match getX ds κ with
      | some d => .ok d h
      | none => .bad) else .bad
    | none => .bad)
  | none => bIx x y h
theorem u_ix2 : U2 g W bIx2 (fun x y H Q => rIx g.K x y H Q ∨ rIxX x y H Q) := by
  intro F μ h G H σ x v y u Q s r q p
  unfold bIx2 at p
  split at p
  · rename_i ds e
    split at p
    · rename_i κ ek
      split at p
      · rename_i ok
        split at p
        · rename_i d ed
          obtain ⟨a, o, rfl, hg, c⟩ := dget_of s r q e ek ok
          rcases c with ⟨d', w, h1, h2, h3⟩ | ⟨h1, _⟩
          · rw [ed] at h1; cases h1
            subst h2
            refine .inr ⟨a, w, rfl, ?_, post_ok (g := g) (rel := relD g) p s h3⟩
            rcases hg with hg | ⟨z, _⟩
            · exact hg
            · cases z
          · rw [ed] at h1; cases h1
        · exact p.elim
      · exact p.elim
    · exact p.elim
  · exact .inl (u_ix F μ h G H σ x v y u Q s r q p)
def bIn2 (neg : Bool) (x y : D) (h : HP) : R D := match dcOf y h with
  | some ds => (match kkOf x with
    | some κ => if kindOk ds κ = true then .ok (.bl (xor neg (getX ds κ).isSome)) h else .bad
    | none => .bad)
  | none => bIn neg x y h
theorem u_in2 {neg : Bool} : U2 g W (bIn2 neg) (rIn2 g.K neg) := by
  intro F μ h G H σ x v y u Q s r q p
  unfold bIn2 at p
  split at p
  · rename_i ds e
    split at p
    · rename_i κ ek
      split at p
      · rename_i ok
        obtain ⟨a, o, rfl, hg, c⟩ := dget_of s q r e ek ok
        refine .inl ⟨a, o, rfl, hg, ?_⟩
        rcases c with ⟨d, w, h1, h2, h3⟩ | ⟨h1, h2⟩
        · rw [h1] at p; rw [h2]
          exact post_ok (g := g) (rel := relD g) p s (.bl _)
        · rw [h1] at p; rw [h2]
          exact post_ok (g := g) (rel := relD g) p s (.bl _)
      · exact p.elim
    · exact p.elim
  · exact .inr (u_in F μ h G H σ x v y u Q s r q p)
/-- what stands in an open dict, to be written -/
def opD (x : D) (h : HP) : Option (Nat × List (D × D)) := match x with
  | .ref i => (match h[i]? with
    | some (some (.dct xs)) => some (i, xs)
    | _ => none)
  | _ => none
theorem opD_at (s : SRel K F μ h G H) {x : D} {v : V} (r : Rep K F μ x v) {i : Nat} {ds : List (D × D)} (e : opD x h = some (i, ds)) :
    ∃ a, v = .ref a ∧ h[i]? = some (some (.dct ds)) ∧ μ[i]? = some a ∧ ((∃ kvs, H a = some (.dK kvs) ∧ RepK K F μ ds kvs) ∨ ∃ kvs, H a = some (.dT kvs) ∧ RepT K F μ ds kvs) := by
  unfold opD at e
  split at e
  · split at e
    · rename_i n _ xs hi
      cases e
      cases r with
      | ref m =>
        obtain ⟨b, u, m', hH, _, _, ro⟩ := s.live _ _ hi
        rw [m] at m'; cases m'
        cases ro with
        | dctK q => exact ⟨_, rfl, hi, m, .inl ⟨_, hH, q⟩⟩
        | dctT q => exact ⟨_, rfl, hi, m, .inr ⟨_, hH, q⟩⟩
    · cases e
  · cases e
def setAt2 (o i d : D) (h : HP) : Option HP := match opD o h with
  | some (n, ds) => (match kkOf i with
    | some κ => if kindOk ds κ = true ∧ ds.length < 100000 then some (h.set n (some (.dct (putX ds i d κ)))) else none
    | none => none)
  | none => setAt o i d h
def gS2 (a b : EM) : GM := fun d ρ h => match a ρ h with
  | .ok x h1 => (match b ρ h1 with
    | .ok i h2 => (match setAt2 x i d h2 with
      | some h3 => .ok ρ h3
      | none => .bad)
    | _ => .bad)
  | _ => .bad
theorem put_at (s : SRel g F μ h G H) {o i d : D} {ov iv dv : V} (ro : Rep g F μ o ov) (ri : Rep g F μ i iv) (rd : Rep g F μ d dv) {n : Nat} {ds : List (D × D)} (e : opD o h = some (n, ds)) {κ : KK} (ek : kkOf i = some κ) (ok : kindOk ds κ = true) (lt : ds.length < 100000) :
    ∃ a H', ov = .ref a ∧ DPutE H a iv dv H' ∧ SRel g F μ (h.set n (some (.dct (putX ds i d κ)))) G H' := by
  obtain ⟨ka, kr⟩ := key_at s ri ek
  have lim : ∀ m : Nat, m = ds.length → m < sizeLine := fun m em => by rw [sizeLine_eq]; omega
  obtain ⟨a, rfl, hi, m, ⟨kvs, hH, rk⟩ | ⟨kvs, hH, rt⟩⟩ := opD_at s ro e
  · cases ka with
    | one k =>
      have kr' : KeyR i k := by
        rcases kr with ⟨k', z, kr⟩ | ⟨ks, z, _⟩
        · injection z with z
          rw [f0_inj z]; exact kr
        · cases z
      exact ⟨a, _, rfl, .inl (.inl ⟨kvs, k, hH, rfl, lim _ rk.length.symm, rfl⟩), s.write hi m (.dctK (rk.toG.put specK kr' rd).k)⟩
    | tup ks eb =>
      obtain ⟨rfl, rfl⟩ := like_T rk.toG ok
      have kr' : krT i ks := by
        rcases kr with ⟨k', z, _⟩ | ⟨ks', z, kr⟩
        · cases z
        · injection z with z
          rw [f0s_inj z]; exact kr
      exact ⟨a, _, rfl, .inr (.inl ⟨hH, _, ks, rfl, eb, rfl⟩), s.write hi m (.dctT (RepG.put (K := g) (F := F) (μ := μ) (kvs := []) specT .nil kr' rd).t)⟩
  · cases ka with
    | one k =>
      obtain ⟨rfl, rfl⟩ := like_K rt.toG ok
      have kr' : KeyR i k := by
        rcases kr with ⟨k', z, kr⟩ | ⟨ks, z, _⟩
        · injection z with z
          rw [f0_inj z]; exact kr
        · cases z
      exact ⟨a, _, rfl, .inr (.inr ⟨hH, k, rfl, rfl⟩), s.write hi m (.dctK (RepG.put (K := g) (F := F) (μ := μ) (kvs := []) specK .nil kr' rd).k)⟩
    | tup ks eb =>
      have kr' : krT i ks := by
        rcases kr with ⟨k', z, _⟩ | ⟨ks', z, kr⟩
        · cases z
        · injection z with z
          rw [f0s_inj z]; exact kr
      exact ⟨a, _, rfl, .inl (.inr ⟨kvs, ks, _, hH, rfl, eb, lim _ rt.length.symm, rfl⟩), s.write hi m (.dctT (rt.toG.put specT kr' rd).t)⟩
theorem sg_s2 {X : Cx} {pos : Pos} {o i : Expr} {a b : EM} (hu : X.A.units + 64 < cLine) (ho : PE X o (tE g W a)) (hi : PE X i (tE g W b))
    (ha : ∀ v, assign (.Subscript o i pos) X.env v = (do
      let ov ← holding [v] (eval o X.env)
      let iv ← holding [v, ov] (eval i X.env)
      standAt pos
      holding [v, ov, iv] (setItem ov iv v)
      release [v, ov, iv] [])) : PG X (.Subscript o i pos) (tG g [] (gS2 a b)) :=
  (pg_sub ho hi (PSet.or set_list (set_dictE hu)) ha).imp fun x σ H Q ⟨F, μ, h, G, ρ, d, s, en, r, q⟩ => by
    unfold gS2 at q
    cases e1 : a ρ h with
    | ok x1 h1 =>
      rw [e1] at q
      dsimp only at q
      cases e2 : b ρ h1 with
      | ok i2 h2 =>
        rw [e2] at q
        dsimp only at q
        cases e3 : setAt2 x1 i2 d h2 with
        | some h3 =>
          rw [e3] at q
          refine ⟨F, μ, h, G, ρ, s, en, post_of_ok e1 fun F1 μ1 H1 v1 y1 s1 r1 => ⟨F1, μ1, h1, G, ρ, s1, en.mono y1, post_of_ok e2 fun F2 μ2 H2 v2 y2 s2 r2 => ?_⟩⟩
          unfold setAt2 at e3
          split at e3
          · rename_i n ds eo
            split at e3
            · rename_i κ ek
              split at e3
              · rename_i ok
                cases e3
                obtain ⟨ad, H', ev, dp, s3⟩ := put_at s2 (r1.mono y2) r2 ((r.mono y1).mono y2) eo ek ok.1 ok.2
                exact .inr ⟨ad, H', ev, dp, q F2 μ2 _ σ (y1.trans y2) s3 ((en.mono y1).mono y2) out_refl⟩
              · cases e3
            · cases e3
          · unfold setAt at e3
            split at e3
            · rename_i k xs j eo
              obtain ⟨ad, ws, ev, hi, m, hH, z, rs⟩ := opL_at s2 (r1.mono y2) eo
              subst ev
              cases r2
              split at e3
              · rename_i n en2
                cases e3
                have rd := (r.mono y1).mono y2
                exact .inl ⟨ad, ws, j, n, rfl, rfl, hH, by rw [← rs.length]; exact en2, q F2 μ2 _ σ (y1.trans y2) (s2.write hi m (.lst (by rw [List.length_set]; exact z) (rs.set rd n))) ((en.mono y1).mono y2) out_refl⟩
              · cases e3
            · cases e3
        | none => rw [e3] at q; exact q.elim
      | exc c v h' => rw [e2] at q; exact q.elim
      | bad => rw [e2] at q; exact q.elim
    | exc c v h' => rw [e1] at q; exact q.elim
    | bad => rw [e1] at q; exact q.elim
end
end Zs
end

/-! Feb -/
noncomputable section
namespace Zs
open PySem PySem.Spec L2
open PyProof.Rows hiding St

/-! ### xs[::-1] of a tuple -/
section
variable {prog : Program} {w : World} {A : Around} {E : Value → Shared → Prop} {s : Shared}
theorem adjust_rev (n : Nat) : Builtin.Slice.sliceAdjust none none (-1) (n : Int) = ((n : Int) - 1, -1) := rfl
theorem places_rev (n : Nat) : Builtin.Slice.slicePlaces ((n : Int) - 1) (-1) (-1) = n := by
  unfold Builtin.Slice.slicePlaces
  rw [if_neg (by omega)]
  by_cases h : n = 0
  · subst h; rfl
  · rw [if_pos (by omega)]
    have : ((n : Int) - 1 - -1 - 1) / (- -1) + 1 = (n : Int) := by
      rw [show (- -1 : Int) = 1 from rfl, Int.ediv_one]; omega
    rw [this]; rfl
theorem fmap_eq {α β : Type} {f : α → Option β} {k : α → β} : ∀ {l : List α}, (∀ m ∈ l, f m = some (k m)) → l.filterMap f = l.map k
  | [], _ => rfl
  | m :: l, h => by
    rw [List.filterMap_cons, h m List.mem_cons_self, List.map_cons]
    dsimp only
    rw [fmap_eq fun x hx => h x (List.mem_cons_of_mem _ hx)]
theorem pick_rev (xs : Array Value) : ((List.range xs.size).filterMap fun (m : Nat) => xs[(((xs.size : Int) - 1) + (m : Int) * (-1)).toNat]?).toArray = xs.toList.reverse.toArray := by
  congr 1
  rw [fmap_eq (k := fun m => xs[xs.size - 1 - m]?.getD .none)]
  · apply List.ext_getElem
    · simp
    · intro i h1 h2
      have hi : i < xs.size := by simpa using h1
      simp
      rw [Array.getElem?_eq_getElem (by omega)]
      rfl
  · intro m hm
    rw [List.mem_range] at hm
    have : (((xs.size : Int) - 1) + (m : Int) * (-1)).toNat = xs.size - 1 - m := by omega
    rw [this, Array.getElem?_eq_getElem (by omega)]
    rfl
theorem sliceApplied_rev {sl : Addr} {n : Nat} {t : Tok} {Q : Int × Int × Nat → Shared → Prop} (hs : s.heap.IsSliceOf sl .none .none (.int (-1) t))
    (h : Q ((n : Int) - 1, -1, n) s) : wpAny (model prog w) A (Builtin.Slice.sliceApplied (.ref sl) (pure (n : Int))) Q E s := by
  obtain ⟨os, hos, hcs, hds⟩ := id hs
  unfold Builtin.Slice.sliceApplied Builtin.Slice.sliceFields
  refine wpAny_bind (wpAny_bind (wpAny_field hos hds (x := .none) rfl (wpAny_bind (wpAny_field hos hds (x := .none) rfl (wpAny_bind (wpAny_field hos hds (x := .int (-1) t) rfl (wpAny_pure ?_)))))))
  refine wpAny_bind (HT.slicePart_ (.int (-1) t) ?_)
  show wpAny _ _ (if ((-1 : Int) == 0) = true then _ else _) _ _ s
  rw [if_neg (by decide)]
  refine wpAny_bind (HT.slicePart_ .none (wpAny_bind (HT.slicePart_ .none (wpAny_bind (wpAny_pure ?_)))))
  show wpAny _ _ (match Builtin.Slice.sliceAdjust none none (-1) (n : Int) with | (lo, hi) => pure (lo, (-1 : Int), Builtin.Slice.slicePlaces lo hi (-1))) _ _ s
  rw [adjust_rev]
  show wpAny _ _ (pure ((n : Int) - 1, (-1 : Int), Builtin.Slice.slicePlaces ((n : Int) - 1) (-1) (-1))) _ _ s
  rw [places_rev]
  exact wpAny_pure h
theorem getItem_tuple_rev {t sl : Addr} {items : Array Value} {tk : Tok} {Q : Value → Shared → Prop} (ht : IsTup s.heap t items) (hs : s.heap.IsSliceOf sl .none .none (.int (-1) tk))
    (h : Q (.ref s.heap.objs.size) { s with heap := s.heap.push { cls := .type "tuple", data := .seq items.toList.reverse.toArray } })
    (hsz : items.size ≤ sizeLine) : wpAny (model prog w) A (getItem (.ref t) (.ref sl)) Q E s := by
  have htake : sizeOk (.seq items.toList.reverse.toArray) := by
    show items.toList.reverse.toArray.size ≤ sizeLine
    rw [List.size_toArray, List.length_reverse, Array.length_toList]
    exact hsz
  obtain ⟨os, hos, hcs, hds⟩ := id hs
  have hTs : s.TypeIs (.ref sl) "slice" := ⟨os, hos, hcs⟩
  unfold getItem
  try with_reducible refine wpAny_holding ?_
  first | refine wpAny_bind (wpAny_pure ?_) | skip
  refine wpAny_bind (wpAny_sequenceKey ht.typeIs (by decide) ?_)
  refine wpAny_bind (wpAny_callSpecial?_slot (name := Str.ofString "__getitem__") ht.typeIs PyProof.Rows.slot_tuple_getitem
    (wpAny_call_entry PyProof.Rows.slot_tuple_getitem ht.typeIs entry_tuple_getitem ?_ (args_tuple_getitem _ _)))
  show wpAny _ _ (Builtin.Tuple.tupleItemsOf (.ref t) >>= _) _ _ s
  refine wpAny_bind (tupleItemsOf_ ht ?_)
  refine wpAny_bind (wpAny_typeOf hTs ?_)
  rw [if_pos (by decide)]
  refine wpAny_bind (sliceApplied_rev hs ?_)
  have hno : ¬ ((((items.size : Int) - 1) == 0 && (-1 : Int) == 1 && items.size == items.size) = true) := by
    rw [show ((-1 : Int) == 1) = false from rfl, Bool.and_false]
    exact Bool.noConfusion
  show wpAny _ _ (if (((items.size : Int) - 1) == 0 && (-1 : Int) == 1 && items.size == items.size) = true then _ else _) _ _ s
  rw [if_neg hno, pick_rev]
  first
    | exact wpAny_bind (m := Builtin.Tuple.tupleExact _) (wpAny_newObj_type (wpAny_pure ⟨_, rfl, wpAny_pure h⟩) htake)
    | exact wpAny_bind (m := Builtin.Tuple.tupleExact _) (wpAny_newObj_type (wpAny_bind (wpAny_pure (wpAny_pure ⟨_, rfl, wpAny_pure h⟩))) htake)
    | exact wpAny_bind (wpAny_bind (m := Builtin.Tuple.tupleExact _) (wpAny_newObj_type (wpAny_pure (wpAny_pure ⟨_, rfl, wpAny_pure h⟩)) htake))
    | exact wpAny_bind (wpAny_bind (m := Builtin.Tuple.tupleExact _) (wpAny_newObj_type (wpAny_pure ⟨_, rfl, wpAny_pure h⟩) htake))
end
def tRevT (K : PySem.W.Frag) (te : TE) : TE := fun σ H Q => te σ H fun x H1 => ∃ a xs, x = .ref a ∧ SqT K H1 a xs ∧ ∀ p, H1 p = none → Q (.ref p) (upd H1 p (.tup xs.reverse))
theorem pe_revT {X : Cx} {e : Expr} {te : TE} {k : Nat} {p1 p2 p3 pos : Pos} (he : PE X e te) : PE X (.Subscript e (.Slice none none (some (.UnaryOp .USub (.Constant (.int 1) k p1) p2)) p3) pos) (tRevT X.K te) := by
  refine ⟨fun pins s σ H Q I h => ?_⟩
  refine Subscript_ (thn (he.run pins s σ H _ I h) fun v s1 ⟨x, H1, I1, r1, q1⟩ => ?_)
  obtain ⟨a, xs, ex, hx, q⟩ := q1
  subst ex
  cases r1
  have hst : PO X (some (.UnaryOp .USub (.Constant (.int 1) k p1) p2)) (tPart (tUn (rU fun i => .int (-i)) (tC (.int 1)))) := po_some (pe_un un_neg pe_int)
  refine wpAny_Slice (thn (po_none.run pins s1 σ H1 (fun o H2 => o = none ∧ H2 = H1) I1 ⟨rfl, rfl⟩) fun vl s2 ⟨l, H2, I2, pl, el, e2⟩ => ?_)
  subst el e2
  refine thn (po_none.run pins s2 σ H2 (fun o H3 => o = none ∧ H3 = H2) I2 ⟨rfl, rfl⟩) fun vu s3 ⟨u, H3, I3, pu, eu, e3⟩ => ?_
  subst eu e3
  refine thn (hst.run pins s3 σ H3 (fun o H4 => o = some (-1) ∧ H4 = H3) I3 ⟨1, rfl, -1, rfl, rfl, rfl⟩) fun vs s4 ⟨o, H4, I4, ps, eo, e4⟩ => ?_
  subst eo e4
  have I5 : Inv X pins σ H4 { s4 with heap := s4.heap.push { cls := .type "slice", data := .fields #[vl, vu, vs] } } := I4.kept (t' := s4.toks) fun b ob q => Heap.get?_push_of_some _ q
  obtain ⟨its, r, ht, hz⟩ := I5.tuple hx
  have hlen := r.length
  cases pl
  cases pu
  obtain ⟨t5, rfl⟩ : ∃ t5, vs = Value.int (-1) t5 := by cases ps; exact ⟨_, rfl⟩
  show wpAny (model X.prog X.w) X.A (subscriptTail e (.Slice none none (some (.UnaryOp .USub (.Constant (.int 1) k p1) p2)) p3) (.ref a) (.ref s4.heap.objs.size)) (EP X pins σ Q) X.xe { s4 with heap := s4.heap.push { cls := .type "slice", data := .fields #[.none, .none, .int (-1) t5] } }
  refine tail_any (ops := [.ref a, .ref s4.heap.objs.size]) ht.typeIs (PyProof.Rows.slot_tuple_getitem.lookup) ?_ (by with_unfolding_all rfl)
  refine getItem_tuple_rev ht (Heap.IsSliceOf.new _ .none .none (.int (-1) t5)) ?_ (by rw [List.size_toArray]; omega)
  refine ⟨.ref _, _, I5.laid (t' := s4.toks) (o := .tup xs.reverse) (fun b ob q => Heap.get?_push_of_some _ q) (Nat.le_refl _) ?_, rfl, q _ (I5.hok.fresh (Nat.le_refl _))⟩
  exact ⟨by rw [List.length_reverse]; exact hz, _, r.reverse, ⟨_, Heap.get?_push_size _ rfl, rfl, _, rfl⟩⟩
end Zs
end

/-! Fec -/
noncomputable section
namespace Zs
open PySem PySem.Spec L2
open PyProof.Rows hiding St

section
variable {g : Gm} {W : WX} {K : Gm} {F : Hp} {μ : List Addr} {G H : Hp} {σ : L2.St} {h : HP}
/-! ### xs[::-1] -/
def fRev (o : Bool) (x : D) (h : HP) : R D := match x with
  | .tup xs => .ok (.tup xs.reverse) h
  | x => (match lrOf x h with
    | some xs => mkL o xs.reverse h
    | none => .bad)
theorem Reps.rev : ∀ {ds : List D} {vs : List V}, Reps K F μ ds vs → Reps K F μ ds.reverse vs.reverse
  | _, _, .nil => .nil
  | _, _, .cons r t => by
    rw [List.reverse_cons, List.reverse_cons]
    exact t.rev.append (.cons r .nil)
theorem se_rev {X : Cx} {o : Bool} {e : Expr} {a : EM} {k : Nat} {p1 p2 p3 pos : Pos} (hK : X.K = g.K) (ha : PE X e (tE g W a)) : PE X (.Subscript e (.Slice none none (some (.UnaryOp .USub (.Constant (.int 1) k p1) p2)) p3) pos) (tE g W (e1 (fRev o) a)) := by
  refine ((pe_revT ha).or (pe_revL ha)).imp ?_
  rw [hK]
  intro σ H Q ⟨F, μ, h, G, ρ, s, en, q⟩
  unfold e1 at q
  cases e1 : a ρ h with
  | bad => rw [e1] at q; exact q.elim
  | exc c x h' =>
    rw [e1] at q
    exact .inl ⟨F, μ, h, G, ρ, s, en, by rw [e1]; exact q⟩
  | ok x h1 =>
    rw [e1] at q
    have q : post g (relD g) W F μ G σ Q (fRev o x h1) := q
    have ctn : ∀ C : VK, (∀ F1 μ1 H1 v, Ext F μ F1 μ1 → SRel g F1 μ1 h1 G H1 → Rep g F1 μ1 x v → C v H1) → tE g W a σ H C := fun C k => ⟨F, μ, h, G, ρ, s, en, by rw [e1]; exact k⟩
    unfold fRev at q
    split at q
    · refine .inl (ctn _ fun F1 μ1 H1 v y s1 rv => ?_)
      cases rv with
      | @tup _ b vs f z rs => exact ⟨b, vs, rfl, sqT_at s1 (SqT.of f), post_know (g := g) (rel := relD g) (post.mono q y) s1 fun p' F' x' f' => .tup f' (by rw [List.length_reverse]; exact z) (rs.rev.mono x')⟩
    · split at q
      · rename_i xs e2
        refine .inr (ctn _ fun F1 μ1 H1 v y s1 rv => ?_)
        obtain ⟨b, vs, rfl, hs, hz, rs⟩ := lr_at s1 rv e2
        exact ⟨b, vs, rfl, hs, post_mkL s1 (post.mono q y) (by rw [List.length_reverse]; exact hz) rs.rev⟩
      · exact q.elim
/-! ### str(i), str(s), int(s) -/
def intS (i : Int) : Str := toString i
def intT (i : Int) : List Nat := (intS i).cps.toList
def fStr (xs : List D) (h : HP) : R D := match xs with
  | [.int i] => if i.natAbs.log2 < 1920 ∧ (intT i).length < 100000 then .ok (.str (intT i)) h else .bad
  | [.str s] => .ok (.str s) h
  | _ => .bad
theorem post_str {x : Str} {Q : VK} (s : SRel g F μ h G H) (z : x.cps.toList.length < 100000) (p : post g (relD g) W F μ G σ Q (.ok (.str x.cps.toList) h)) : Q (.str x) H := by
  have := post_ok (g := g) (rel := relD g) p s (Rep.str (K := g) (F := F) (μ := μ) _ (small_line' z))
  rw [strV_tl] at this
  exact this
where small_line' {n : Nat} (h : n < 100000) : n ≤ sizeLine := by rw [sizeLine_eq]; omega
def rStr : List V → Hp → VK → Prop := fun xs H Q => (∃ i, xs = [.int i] ∧ i.natAbs.log2 < 1920 ∧ Q (.str (toString i)) H) ∨ ∃ a, xs = [.str a] ∧ Q (.str a) H
theorem c_str {X : Cx} : CallR X (.type "str") rStr := by
  intro pins s σ H xs us Q I r h
  rcases h with h | h
  · exact call_str_int pins s σ H xs us Q I r h
  · exact SkE.call_str_str pins s σ H xs us Q I r h
theorem u_str : UA g W fStr rStr := by
  intro F μ h G H σ x v Q s r p
  unfold fStr at p
  split at p
  · obtain ⟨v1, rfl, r1⟩ := reps1 r
    cases r1
    split at p
    · rename_i z
      exact .inl ⟨_, rfl, z.1, post_str (x := intS _) s z.2 p⟩
    · exact p.elim
  · obtain ⟨v1, rfl, r1⟩ := reps1 r
    cases r1 with
    | str _ z => exact .inr ⟨_, rfl, post_ok (g := g) (rel := relD g) p s (.str _ z)⟩
  · exact p.elim
def fInt2 (xs : List D) (h : HP) : R D := match xs with
  | [.str s] => (match PySem.intText? (strV s) with
    | some n => if s.length ≤ 640 then .ok (.int n) h else .bad
    | none => .bad)
  | xs => fInt xs h
def rInt2 : List V → Hp → VK → Prop := fun xs H Q => ((∃ i, xs = [.int i] ∧ Q (.int i) H) ∨ ∃ k, xs = [.bl k] ∧ Q (.int (if k then 1 else 0)) H) ∨ ∃ a n, xs = [.str a] ∧ PySem.intText? a = some n ∧ a.length ≤ 640 ∧ Q (.int n) H
theorem c_int2 {X : Cx} : CallR X (.type "int") rInt2 := by
  intro pins s σ H xs us Q I r h
  rcases h with h | h
  · exact call_int1 pins s σ H xs us Q I r h
  · exact call_int_str pins s σ H xs us Q I r h
theorem u_int2 : UA g W fInt2 rInt2 := by
  intro F μ h G H σ x v Q s r p
  unfold fInt2 at p
  split at p
  · obtain ⟨v1, rfl, r1⟩ := reps1 r
    cases r1
    split at p
    · rename_i n e
      split at p
      · rename_i z
        exact .inr ⟨_, n, rfl, e, by rw [strV_len]; exact z, post_ok (g := g) (rel := relD g) p s (.int _)⟩
      · exact p.elim
    · exact p.elim
  · exact .inl (u_int1 F μ h G H σ x v Q s r p)
/-! ### s.upper(), s * n -/
def mUp (x : D) (xs : List D) (h : HP) : R D := match x, xs with
  | .str s, [] => if s.length ≤ 100000 ∧ (Txt.upper (strV s)).cps.toList.length < 100000 then .ok (.str (Txt.upper (strV s)).cps.toList) h else .bad
  | _, _ => .bad
def rUp : V → List V → Hp → VK → Prop := fun x xs H Q => ∃ a, x = .str a ∧ xs = [] ∧ a.length ≤ 5592405 ∧ Q (.str (Txt.upper a)) H
theorem u_up : UM g W mUp rUp := by
  intro F μ h G H σ x v xs vs Q s r rs p
  unfold mUp at p
  split at p
  · cases r; cases rs
    split at p
    · rename_i z
      exact ⟨_, rfl, rfl, by rw [strV_len]; omega, post_str s z.2 p⟩
    · exact p.elim
  · exact p.elim
def repT (s : List Nat) (n : Nat) : List Nat := (List.replicate n s).flatten
theorem repT_small {s : List Nat} {n : Nat} (h1 : n ≤ 10000) (h2 : s.length ≤ 100) : (repT s n).length ≤ sizeLine := by
  have : (repT s n).length = n * s.length := by unfold repT; simp
  have mx : n * s.length ≤ 10000 * 100 := Nat.mul_le_mul h1 h2
  rw [this, sizeLine_eq]; omega
theorem repT_fold (s : List Nat) : ∀ (n : Nat) (acc : Array Nat), (List.replicate n s.toArray).foldl (· ++ ·) acc = acc ++ (repT s n).toArray
  | 0, acc => by simp [repT]
  | n + 1, acc => by
    rw [List.replicate_succ, List.foldl_cons, repT_fold s n]
    unfold repT
    rw [List.replicate_succ, List.flatten_cons]
    simp
def rMulS : R2 := fun x y H Q => ∃ (s : List Nat) (n : Int), x = .str (strV s) ∧ y = .int n ∧ 2 ≤ n ∧ n ≤ 10000 ∧ s ≠ [] ∧ s.length ≤ 100 ∧ Q (.str (strV (repT s n.toNat))) H
theorem op_mulS {X : Cx} : OpR X (binaryOp .Mult) rMulS := by
  intro pins s σ H x y v u Q I rx ry ⟨t, n, e1, e2, h1, h2, h3, h4, q⟩
  subst e1
  subst e2
  obtain ⟨tk, rfl⟩ := rx
  obtain ⟨tk2, rfl⟩ := ry
  have hl : (strV t).length = t.length := strV_len t
  have h0 : 0 < t.length := List.length_pos_iff.mpr h3
  have mx : t.length * n.toNat ≤ 100 * 10000 := Nat.mul_le_mul h4 (by omega)
  have hne : (n == 1 || (strV t).length == 0) = false := by
    rw [hl, Bool.or_eq_false_iff]
    exact ⟨by rw [beq_eq_false_iff_ne]; omega, by rw [beq_eq_false_iff_ne]; omega⟩
  refine PySem.P.mul_str ?_ (fun _ _ => ?_) (fun _ _ => ?_) ?_
  · rw [decide_eq_false (by omega), decide_eq_false (by omega)]; rfl
  · rw [hl]
    have h5 : (100 : Int) ≤ (2 ^ 63 - 1 : Int) / n := Int.le_ediv_of_mul_le (by omega) (by omega)
    omega
  · rw [hl]
    unfold Builtin.Str.tooLong
    rw [decide_eq_false]
    rw [sizeLine_eq]; omega
  · rw [if_neg (by omega), if_neg (by rw [hne]; exact Bool.noConfusion)]
    have e : (List.replicate n.toNat (strV t).cps).foldl (· ++ ·) #[] = (repT t n.toNat).toArray := by
      have := repT_fold t n.toNat #[]
      rw [show (strV t).cps = t.toArray from rfl, this]; simp
    rw [e]
    refine ⟨?_, .str (strV (repT t n.toNat)), H, I.tok _, ⟨_, rfl⟩, q⟩
    show (repT t n.toNat).toArray.size ≤ sizeLine
    have : (repT t n.toNat).length = n.toNat * t.length := by unfold repT; simp
    rw [List.size_toArray, this, sizeLine_eq, Nat.mul_comm]; omega
def bMul2 (x y : D) (h : HP) : R D := match x, y with
  | .str s, .int n => if 2 ≤ n ∧ n ≤ 10000 ∧ s ≠ [] ∧ s.length ≤ 100 then .ok (.str (repT s n.toNat)) h else .bad
  | x, y => bMul x y h
def rMul2 : R2 := fun x y H Q => (rI IntMulOk fun i j => .int (i * j)) x y H Q ∨ rMulS x y H Q
theorem o_mul2 {X : Cx} : OpR X (binaryOp .Mult) rMul2 := o_mul.or op_mulS
theorem u_mul2 : U2 g W bMul2 rMul2 := by
  intro F μ h G H σ x v y u Q s r q p
  unfold bMul2 at p
  split at p
  · cases r; cases q
    split at p
    · rename_i z
      refine .inr ⟨_, _, rfl, rfl, z.1, z.2.1, z.2.2.1, z.2.2.2, post_ok (g := g) (rel := relD g) p s (.str _ ?_)⟩
      exact repT_small (by omega) z.2.2.2
    · exact p.elim
  · exact .inl (u_int F μ h G H σ x v y u Q s r q p)
end
end Zs
end

/-! Fed -/
noncomputable section
namespace Zs
open PySem PySem.Spec L2
open PyProof.Rows hiding St

section
variable {g : Gm} {W : WX} {K : Gm} {F : Hp} {μ : List Addr} {G H : Hp} {σ : L2.St} {h : HP} {X : Cx} {tg : Expr}
/-! ### range(a, b, c) -/
theorem jok_rngC {lo c : Int} {n : Nat} : JOk g F μ ⟨(List.range n).map fun i => D.int (lo + (i : Nat) * c), fun _ => True⟩ (Itc lo c n) := fun F1 μ1 h1 G1 H1 i e s _ => by
  refine ⟨fun hi => (by simpa using hi : n ≤ i), fun d hd => ?_⟩
  rw [List.getElem?_map] at hd
  cases q : (List.range n)[i]? with
  | none => rw [q] at hd; cases hd
  | some j =>
    rw [q] at hd
    cases hd
    have hl := (List.getElem?_eq_some_iff.mp q).1
    rw [List.length_range] at hl
    have ej : j = i := by rw [List.getElem?_range hl] at q; cases q; rfl
    subst ej
    refine ⟨hl, fun x H' hy => ?_⟩
    obtain ⟨rfl, rfl⟩ := hy
    exact ⟨F1, Ext.refl _ _, s, .int _⟩
def iRk3 (x : List D) (h1 : HP) : R Itm := match x with
  | [.int i, .int j, .int c] => if c ≠ 0 ∧ c.natAbs < 1073741824 ∧ Builtin.Range.small i j c = true then .ok ⟨(List.range (Builtin.Range.rangeSize i j c).toNat).map fun k => D.int (i + (k : Nat) * c), fun _ => True⟩ h1 else .bad
  | _ => .bad
def iR3 (xs : AM) : IM := fun ρ h => (xs ρ h).bnd iRk3
theorem reps3 {ds : List D} {a b c : D} {vs : List V} (r : Reps K F μ [a, b, c] vs) : ∃ v u w, vs = [v, u, w] ∧ Rep K F μ a v ∧ Rep K F μ b u ∧ Rep K F μ c w := by
  cases r with
  | cons r1 t => cases t with
    | cons r2 t => cases t with
      | cons r3 t => cases t; exact ⟨_, _, _, rfl, r1, r2, r3⟩
theorem si_r3 {e e2 e3 : Expr} {m : AM} {p pos : Pos} (hg : Gl X "range") (hm : X.mg "range" = none) (ha : PA X [e, e2, e3] (tA g W m)) (n1 : noStar e = true) (n2 : noStar e2 = true) (n3 : noStar e3 = true) : PI X tg (.Call (.Name "range" p) [e, e2, e3] [] pos) (tI g W (iR3 m)) := by
  refine (pi_range3 hg hm ha (by rw [starEach_no _ n1]) (by rw [starEach_no _ n2, starEach_no _ n3]; rfl)).imp ?_
  intro σ H R ⟨F, μ, h, G, ρ, s, en, q⟩
  refine ⟨F, μ, h, G, ρ, s, en, ?_⟩
  unfold iR3 at q
  cases e1 : m ρ h with
  | bad => rw [e1] at q; exact q
  | exc c x h' => rw [e1] at q; exact q
  | ok x h1 =>
    rw [e1] at q
    intro F1 μ1 H1 vs y s1 rv
    have q := post.mono (show post g (relJ g) W F μ G σ R (iRk3 x h1) from q) y
    unfold iRk3 at q
    split at q
    · obtain ⟨v, u, w, rfl, r1, r2, r3⟩ := reps3 (ds := []) rv
      cases r1; cases r2; cases r3
      split at q
      · rename_i z
        exact ⟨_, _, _, _, rfl, ⟨z.1, z.2.1, z.2.2, PyProof.Rows.rangeSize_toNat _ _ _⟩, post_ok (g := g) (rel := relJ g) q s1 jok_rngC⟩
      · exact q.elim
    · exact q.elim
/-! ### [a, *b] -/
def aS (a : EM) (r : AM) : AM := fun ρ h => (a ρ h).bnd fun x h1 => match sqOf x h1 with
  | some xs => (r ρ h1).bnd fun ys h2 => .ok (xs ++ ys) h2
  | none => .bad
theorem sa_s (hK : X.K = g.K) {e : Expr} {es : List Expr} {p : Pos} {a : EM} {r : AM} (ha : PE X e (tE g W a)) (hr : PA X es (tA g W r)) : PA X (.Starred e p :: es) (tA g W (aS a r)) := by
  refine (StX.pa_star ha hr (by rfl)).imp ?_
  rw [hK]
  exact fun σ H Q ⟨F, μ, h, G, ρ, s, en, q⟩ =>
    ⟨F, μ, h, G, ρ, s, en, post_bnd (g := g) q fun F1 μ1 h1 H1 d v x s1 rv q1 => by
      split at q1
      · rename_i xs e
        obtain ⟨a, vs, rfl, hs, hz, rs⟩ := sq_at s1 rv e
        refine ⟨a, vs, rfl, hs.symm, F1, μ1, h1, G, ρ, s1, en.mono x, post_bnd (g := g) q1 fun F2 μ2 h2 H2 d2 v2 x2 s2 rv2 q2 => post_ok (g := g) (rel := relA g) q2 s2 ((rs.mono x2).append rv2)⟩
      · exact q1.elim⟩
end
end Zs
end

/-! Fee -/
noncomputable section
namespace Zs
open PySem PySem.Spec L2
open PyProof.Rows hiding St

/-! ### sorted(d.items()), the keys texts -/
def TxP (h : Heap) (v : Value) (k : Str) : Prop := ∃ (a : Addr) (t : Tok) (x : Value), v = .ref a ∧ IsTup h a #[.str k t, x]
def kx (h : Heap) (v : Value) : Str := DT.txOf (DT.seqAt0 h (DT.refOf (some v)))
theorem TxP.kx {h : Heap} {v : Value} {k : Str} (p : TxP h v k) : kx h v = k := by
  obtain ⟨a, t, x, rfl, hh⟩ := p
  show DT.txOf (DT.seqAt0 h a) = k
  rw [DT.seqAt0_of hh]; rfl
theorem TxP.keeps {h h' : Heap} {v : Value} {k : Str} (p : TxP h v k) (c : ∀ b o, h.get? b = some o → o.cls = .type "tuple" → h'.get? b = some o) : TxP h' v k := by
  obtain ⟨a, t, x, rfl, o, ho, hc, r⟩ := p
  exact ⟨a, t, x, rfl, o, c _ _ ho hc, hc, r⟩
def ltX (h : Heap) (v u : Value) : Bool := decide ((kx h v).cps.toList < (kx h u).cps.toList)
theorem swo_x (h : Heap) : SrtO.Swo (ltX h) := ⟨fun x y e => by
  unfold ltX at e ⊢
  rw [decide_eq_true_eq] at e
  rw [decide_eq_false_iff_not]
  exact List.lt_asymm e, fun x y z e1 e2 => by
  unfold ltX at e1 e2 ⊢
  rw [decide_eq_false_iff_not] at e1 e2 ⊢
  rw [List.not_lt] at e1 e2 ⊢
  exact List.le_trans e1 e2⟩
theorem firsts_x {h : Heap} : ∀ vs : List Value, (∀ v ∈ vs, ∃ k, TxP h v k) → ∃ fs : List Value, PySem.W.KatTups h vs fs ∧ fs.length = vs.length ∧ ∀ f ∈ fs, ∃ (k : Str) (t : Tok), f = .str k t
  | [], _ => ⟨[], PySem.W.KatTups.nil, rfl, fun f hf => by cases hf⟩
  | v :: vs, x => by
    obtain ⟨fs, k, hl, hi⟩ := firsts_x vs fun u hu => x u (List.mem_cons_of_mem _ hu)
    obtain ⟨y, a, t, b, rfl, ⟨o, ho, hc, n, hd⟩⟩ := x v List.mem_cons_self
    refine ⟨.str y t :: fs, PySem.W.KatTups.cons ho hc hd rfl k, by rw [List.length_cons, List.length_cons, hl], fun f hf => ?_⟩
    rcases List.mem_cons.mp hf with rfl | hf
    · exact ⟨y, t, rfl⟩
    · exact hi f hf
section
variable {prog : Program} {w : World} {A : Around} {E : Value → Shared → Prop} {s : Shared}
theorem cmp_x {h0 : Heap} {vs : List Value} (hp : ∀ v ∈ vs, ∃ k, TxP s.heap v k ∧ kx h0 v = k) (un : ∀ v ∈ vs, ∀ u ∈ vs, kx h0 v = kx h0 u → v = u) : SrtO.Cmp prog w A s (tuples' true) (fun p => p.1 ∈ vs) (SrtO.lt2 (ltX h0)) := by
  intro p q hm hm'
  obtain ⟨k1, h1, e1⟩ := hp _ hm
  obtain ⟨k2, h2, e2⟩ := hp _ hm'
  have unq := un _ hm _ hm'
  show wpAny (model prog w) A (keyLt' (tuples' true) p.1 q.1) (fun r s' => s' = s ∧ r = ltX h0 p.1 q.1) (fun _ _ => False) s
  unfold ltX
  rw [e1, e2] at unq ⊢
  obtain ⟨a, t, x, ea, o, ho, hc, n, hd⟩ := h1
  obtain ⟨b, t', y, eb, o', ho', hc', n', hd'⟩ := h2
  rw [ea, eb] at unq ⊢
  refine PySem.W.kat_lt ho hd ho' hd' ?_
  show PySem.W.KatLex prog w A true (decide (2 < 2)) _ [(.str k1 t, .str k2 t'), (x, y)] 0 s
  refine PySem.W.kat_cons (SeqAt.EqAt.str_str k1 t k2 t' prog w _ _ ?_)
  refine PySem.W.kat_go (fun z1 => ?_) (fun z1 => ?_)
  · have ex : k1 = k2 := by simpa using z1
    have er := unq ex
    cases er
    rw [ho] at ho'
    cases ho'
    rw [hd] at hd'
    have exy : x = y := by cases hd'; rfl
    subst exy
    subst ex
    refine PySem.W.kat_yes (PySem.W.kat_cons (SeqAt.EqAt.same x prog w _ _ ?_))
    refine PySem.W.kat_go (fun _ => ?_) (fun z2 => by cases z2)
    refine PySem.W.kat_yes (PySem.W.kat_nil ⟨rfl, ?_⟩)
    symm
    rw [decide_eq_false_iff_not.mpr (List.lt_irrefl _)]
    rfl
  · exact PySem.W.kat_no (oneLt_str ⟨rfl, rfl⟩)
theorem sortable_x {a : Addr} {vs : List Value} {h0 : Heap} (h0' : 0 < vs.length) (hp : ∀ v ∈ vs, ∃ k, TxP s.heap v k ∧ kx h0 v = k) (un : ∀ v ∈ vs, ∀ u ∈ vs, kx h0 v = kx h0 u → v = u) (ha : ∀ o, s.heap.get? a = some o → o.cls ≠ .type "tuple") : SrtO.SortableO prog w A s a vs (ltX h0) := by
  intro h' keep
  have hp' : ∀ v ∈ vs, ∃ k, TxP h' v k ∧ kx h0 v = k := fun v hm => by
    obtain ⟨k, h1, h2⟩ := hp v hm
    exact ⟨k, h1.keeps fun b o e c => keep b o (fun z => by subst z; exact ha o e c) e, h2⟩
  obtain ⟨fs, h1, h2, h3⟩ := firsts_x vs fun v hm => let ⟨k, h, _⟩ := hp' v hm; ⟨k, h⟩
  refine ⟨tuples' true, fun Q E hq => ?_, cmp_x hp' un⟩
  refine PySem.W.kat_kind (T := .type "str") h1 (by omega) (fun f hm => ?_) (by rfl) ?_
  · obtain ⟨x, t, rfl⟩ := h3 f hm
    exact PySem.W.Looks.now
  · have e : (Value.type "str" != Value.type "tuple") = true := by first | decide +kernel | rfl | decide
    rw [e]
    exact hq
/-- sorted of a view: the list stands at h'.size -/
theorem sorted_view {K : Type} [DecidableEq K] {knd : PySem.KeyKind prog w K} {r d : Addr} {kvs : List (K × Value)} {ep : Nat} {Q : Value → Shared → Prop} (hh : A.handled = none) (hv : s.heap.IsItemsView r d) (hm : s.heap.DictAt knd d kvs ep) (hn : kvs.length ≤ sizeLine)
    (tx : ∀ (j : Nat) (p : K × Value) (v : Value), kvs[j]? = some p → knd.is p.1 v = true → ∃ x t, v = Value.str x t) (inj : ∀ (i j : Nat) (p q : K × Value) (v u : Value) (x : Str) (t t' : Tok), kvs[i]? = some p → kvs[j]? = some q → knd.is p.1 (.str x t) = true → knd.is q.1 (.str x t') = true → i = j)
    (hQ : ∀ (h' : Heap) (tk : Nat) (as : List Addr) (p : Addr) (out : List Value) (h'' : Heap), (∀ b o, s.heap.get? b = some o → h'.get? b = some o) → as.length = kvs.length → PySem.W.KdxG knd kvs s.heap.objs.size h' as → p = h'.objs.size → (∀ b o, h'.get? b = some o → h''.get? b = some o) →
      SrtO.Srtd (ltX h') out → SrtO.Stb (ltX h') out (as.map Value.ref) → (∃ n, h''.get? p = some (seqObj "list" out.toArray n)) → Q (.ref p) { s with heap := h'', toks := tk }) :
    wpAny (model prog w) A (call (.builtin "sorted") [.ref r]) Q E s := by
  refine Calls.call_function_entry kind_sorted plain_sorted entry_sorted (args_sorted1 _) ?_
  unfold Builtin.«sorted»
  refine wpAny_bind (m := checkCount "sorted" 1 1 _) (wpAny_pure ?_)
  refine wpAny_bind (PySem.W.kdx_collect (A := A.in1) (knd := knd) (kvs := kvs) (ep := ep) hh hv hm hn fun h' tk as hk hl hG => ?_)
  have hz : (as.map Value.ref).length ≤ sizeLine := by rw [List.length_map, hl]; exact hn
  refine wpAny_bind (wpAny_newList ?_ hz)
  have hoL : (h'.push (seqObj "list" (as.map Value.ref).toArray 0)).get? h'.objs.size = some (seqObj "list" (as.map Value.ref).toArray 0) := Heap.get?_push_size _ rfl
  have txp : ∀ (j : Nat) (a : Addr), as[j]? = some a → ∃ (k : K) (x : Value) (y : Str) (t : Tok), kvs[j]? = some (k, x) ∧ knd.is k (.str y t) = true ∧ IsTup h' a #[.str y t, x] := fun j a e => by
    obtain ⟨key, k, x, f1, f2, f3⟩ := hG.pairs j a e
    obtain ⟨y, t, rfl⟩ := tx j (k, x) key f1 f2
    exact ⟨k, x, y, t, f1, f2, _, f3, rfl, _, rfl⟩
  have all : ∀ v ∈ as.map Value.ref, ∃ k, TxP h' v k ∧ kx h' v = k := fun v hm => by
    obtain ⟨a, ha, rfl⟩ := List.mem_map.mp hm
    obtain ⟨j, hj⟩ := List.mem_iff_getElem?.mp ha
    obtain ⟨k, x, y, t, _, _, f3⟩ := txp j a hj
    have : TxP h' (.ref a) y := ⟨a, t, x, rfl, f3⟩
    exact ⟨y, this, this.kx⟩
  have un : ∀ v ∈ as.map Value.ref, ∀ u ∈ as.map Value.ref, kx h' v = kx h' u → v = u := fun v hm u hm' e => by
    obtain ⟨a, ha, rfl⟩ := List.mem_map.mp hm
    obtain ⟨j, hj⟩ := List.mem_iff_getElem?.mp ha
    obtain ⟨b, hb, rfl⟩ := List.mem_map.mp hm'
    obtain ⟨i, hi⟩ := List.mem_iff_getElem?.mp hb
    obtain ⟨k, x, y, t, f1, f2, f3⟩ := txp j a hj
    obtain ⟨k', x', y', t', g1, g2, g3⟩ := txp i b hi
    have e1 : kx h' (.ref a) = y := TxP.kx ⟨a, t, x, rfl, f3⟩
    have e2 : kx h' (.ref b) = y' := TxP.kx ⟨b, t', x', rfl, g3⟩
    rw [e1, e2] at e
    subst e
    have := inj j i _ _ (.ref a) (.ref b) y t t' f1 g1 f2 g2
    subst this
    rw [hj] at hi
    cases hi
    rfl
  have keep : ∀ b o, h'.get? b = some o → b ≠ h'.objs.size ∧ (h'.push (seqObj "list" (as.map Value.ref).toArray 0)).get? b = some o := fun b o q => ⟨Nat.ne_of_lt (Heap.lt_size q), Heap.get?_push_of_some _ q⟩
  show wpAny _ _ _ _ _ { s with heap := h'.push (seqObj "list" (as.map Value.ref).toArray 0), toks := tk }
  refine wpAny_bind (wpAny_holding (wpAny_call_entry slot_list_sort ⟨_, hoL, rfl⟩ entry_list_sort (SrtO.list_sort_ord (swo_x h') hoL hz (fun h2 => ?_) fun out hs hb => ⟨_, rfl, ?_⟩) (args_list_sort _)))
  · refine sortable_x (by omega) (fun v hm => ?_) un fun o e => ?_
    · obtain ⟨k, h1, h2⟩ := all v hm
      exact ⟨k, h1.keeps fun b o e _ => (keep b o e).2, h2⟩
    · have e' : some o = some (seqObj "list" (as.map Value.ref).toArray 0) := e.symm.trans hoL
      cases e'
      intro c
      exact absurd (Value.type.inj c) (by decide)
  · obtain ⟨e, he⟩ := sortedHeap_at (out := out.toArray) hoL
    exact wpAny_pure ⟨_, rfl, hQ h' tk as _ out _ hk hl hG rfl (fun b o q => by rw [sortedHeap_old (keep b o q).1 (Heap.lt_size (keep b o q).2)]; exact (keep b o q).2) hs hb ⟨e, he⟩⟩
end
end Zs
end

/-! Fef -/
noncomputable section
namespace Zs
open PySem PySem.Spec L2
open PyProof.Rows hiding St

section
variable {X : Cx} {pins : List (Addr × Obj)} {σ : L2.St} {H : Hp} {s : Shared} {h2 : Heap} {tk : Nat} {kvs : List (Key × V)} {as outs : List Addr} {p : Addr}
/-- new pairs and a new list of them (in another sequence) are told -/
theorem rows_laid (I : Inv X pins σ H s) (hz : kvs.length ≤ sizeLine) (hk : ∀ b o, s.heap.get? b = some o → h2.get? b = some o) (ab : ∀ t ∈ as, s.heap.objs.size ≤ t) (abp : s.heap.objs.size ≤ p) (pn : p ∉ as) (nd : as.Nodup)
    (hl : as.length = kvs.length) (lo : outs.length = kvs.length) (hp : ∃ n, h2.get? p = some (seqObj "list" (outs.map Value.ref).toArray n))
    (ps : ∀ (j : Nat) (t : Addr), as[j]? = some t → ∃ (q : Key × V) (key x : Value), kvs[j]? = some q ∧ RelV (kV q.1) key ∧ RelV q.2 x ∧ h2.get? t = some { cls := .type "tuple", data := .seq #[key, x] }) :
    ∃ H' : Hp, (∀ b o, H b = some o → H' b = some o) ∧ H p = none ∧ (∀ t ∈ as, H t = none) ∧ H' p = some (.lst (outs.map V.ref)) ∧ Paired (fun (t : Addr) (q : Key × V) => H' t = some (.tup [kV q.1, q.2])) as kvs ∧ Inv X pins σ H' { s with heap := h2, toks := tk } := by
  have nw : ∀ t ∈ as, H t = none := fun t ht => I.hok.fresh (ab t ht)
  have nwp : H p = none := I.hok.fresh abp
  have pr := LiI.putT_at as kvs (upd H p (.lst (outs.map V.ref))) hl nd
  have off : ∀ b, b ∉ as → b ≠ p → LiI.putT (upd H p (.lst (outs.map V.ref))) as kvs b = H b := fun b z1 z2 => (LiI.putT_off as kvs _ z1).trans (upd_ne z2)
  have ltO : ∀ b o, s.heap.get? b = some o → b ∉ as ∧ b ≠ p := fun b o e => by
    have lt := Heap.lt_size e
    exact ⟨fun z => absurd lt (Nat.not_lt.mpr (ab b z)), fun z => absurd lt (Nat.not_lt.mpr (by rw [z]; exact abp))⟩
  have kp : ∀ b u, H b = some u → (LiI.putT (upd H p (.lst (outs.map V.ref))) as kvs) b = some u := fun b u e => by
    rw [off b (fun z => by rw [nw b z] at e; cases e) (fun z => by rw [z, nwp] at e; cases e)]
    exact e
  have eP : LiI.putT (upd H p (.lst (outs.map V.ref))) as kvs p = some (.lst (outs.map V.ref)) := (LiI.putT_off as kvs _ pn).trans upd_same
  refine ⟨LiI.putT (upd H p (.lst (outs.map V.ref))) as kvs, kp, nwp, nw, eP, pr, ?_⟩
  refine I.call' (ch := []) rfl ⟨fun b o q _ _ _ => hk b o q, fun b o q _ _ _ => ⟨o.slots, hk b o q⟩, fun b o q n _ => ?_, fun b o q _ => ⟨o, hk b o q⟩, fun b xs q => kp b _ q, fun b o u q => kp b _ q, fun b ps q => ⟨#[], by rw [kp b _ q]; simp⟩⟩ (fun b u q => ?_) I.bare fun b z => by cases z
  · rw [off b (ltO b o q).1 (ltO b o q).2]
    exact n
  · by_cases hb : b ∈ as
    · obtain ⟨j, pk, e1, e2, e3⟩ := LiI.paired_ix pr hb
      rw [e3] at q
      cases q
      obtain ⟨q2, key, x, f1, f2, f3, f4⟩ := ps j b e1
      rw [f1] at e2
      cases e2
      exact ⟨by show 2 ≤ sizeLine; decide, [key, x], .cons f2 (.cons f3 .nil), ⟨_, f4, rfl, _, rfl⟩⟩
    · by_cases hb2 : b = p
      · rw [hb2] at q ⊢
        rw [eP] at q
        cases q
        obtain ⟨n, hn⟩ := hp
        exact ⟨by rw [List.length_map]; omega, _, n, LiI.vals_refs outs, hn⟩
      · rw [off b hb hb2] at q
        exact (I.hok b u q).stay (fun d v _ y => hk d v y) (fun d y => kp d _ y) fun d xs y => kp d _ y
end
/-- a permutation of images comes from one of the list -/
theorem perm_lift {α β : Type} (f : α → β) : ∀ {l : List β} {bs : List α}, l.Perm (bs.map f) → ∃ bs' : List α, bs'.Perm bs ∧ bs'.map f = l
  | [], bs, h => by
    have : bs = [] := by
      have := h.length_eq
      rw [List.length_map, List.length_nil] at this
      exact List.length_eq_zero_iff.mp this.symm
    subst this
    exact ⟨[], .refl _, rfl⟩
  | x :: l, bs, h => by
    obtain ⟨b, hb, e⟩ := List.mem_map.mp (h.subset List.mem_cons_self)
    obtain ⟨s, t, est⟩ := List.append_of_mem hb
    subst est
    have p1 : (s ++ b :: t).Perm (b :: (s ++ t)) := List.perm_middle
    have h2 : (x :: l).Perm (x :: (s ++ t).map f) := by
      have := h.trans (p1.map f)
      rw [List.map_cons, e] at this
      exact this
    obtain ⟨bs', q1, q2⟩ := perm_lift f (bs := s ++ t) (List.perm_cons x |>.mp h2)
    exact ⟨b :: bs', (q1.cons b).trans p1.symm, by rw [List.map_cons, e, q2]⟩
/-- the text of a key -/
def txK : Key → Str
  | .inr x => x
  | .inl _ => ⟨#[]⟩
def isTx : Key → Bool
  | .inr _ => true
  | .inl _ => false
def ltE (a b : Key × V) : Prop := ¬ (txK b.1).cps.toList < (txK a.1).cps.toList
def tSortIt (te : TE) : TE := fun σ H Q => te σ H fun x H1 => ∃ (d : Addr) (kvs : List (Key × V)), x = .ref d ∧ (Rd H1 d (.dK kvs) ∨ (kvs = [] ∧ Rd H1 d (.dT []))) ∧ (∀ kv ∈ kvs, isTx kv.1 = true) ∧
  ∀ (ms : List (Key × V)) (H' : Hp) (p : Addr) (ts : List Addr), (kvs.map (·.1)).Nodup → ms.Perm kvs → ms.Pairwise ltE → kvs.length ≤ sizeLine → (∀ b o, H1 b = some o → H' b = some o) → H1 p = none → (∀ t ∈ ts, H1 t = none) → H' p = some (.lst (ts.map V.ref)) →
    Paired (fun (t : Addr) (q : Key × V) => H' t = some (.tup [kV q.1, q.2])) ts ms → Q (.ref p) H'
theorem paired_zip {α β : Type} {R : α → β → Prop} : ∀ {as : List α} {bs : List β}, Paired R as bs → ∀ z ∈ as.zip bs, R z.1 z.2
  | _, _, .nil, z, h => by cases h
  | _, _, .cons r t, z, h => by
    rw [List.zip_cons_cons] at h
    rcases List.mem_cons.mp h with e | h
    · subst e; exact r
    · exact paired_zip t z h
theorem paired_unzip {α β : Type} {R : α → β → Prop} : ∀ {zs : List (α × β)}, (∀ z ∈ zs, R z.1 z.2) → Paired R (zs.map (·.1)) (zs.map (·.2))
  | [], _ => .nil
  | z :: zs, h => .cons (h z List.mem_cons_self) (paired_unzip fun y hy => h y (List.mem_cons_of_mem _ hy))
theorem pe_sortIt {X : Cx} {e : Expr} {te : TE} {p apos cpos pos : Pos} (hc : X.calm = true) (he : PE X e te) (hg : Gl X "sorted") (hm : X.mg "sorted" = none) (hv : bootBuiltins "sorted" = some (.builtin "sorted")) (hbase : attributeBase e "items" X.env (eval e X.env) = eval e X.env) (hline : (apos.endLine == cpos.line) = true)
    (hs : starEach [.Call (.Attribute e "items" apos) [] [] cpos] X.env = (false, eval (.Call (.Attribute e "items" apos) [] [] cpos) X.env) :: starEach [] X.env) :
    PE X (.Call (.Name "sorted" p) [.Call (.Attribute e "items" apos) [] [] cpos] [] pos) (tSortIt te) := by
  refine ⟨fun pins s σ H Q I hq => ?_⟩
  refine wpAny_Call_Name_kw (ld_blt I hg hm hv ?_)
  refine PyProof.Rows.callWith_builtin1 ?_ hs rfl
  rw [hs]
  show wpAny _ _ (spliced ((false, eval (.Call (.Attribute e "items" apos) [] [] cpos) X.env) :: backTo pos (starEach [] X.env))) _ _ s
  refine Calls.spliced_cons ?_
  refine wpAny_Call_method (T := "dict") (id := "dict.items") hbase rfl hline F.plainAttrs_dict F.slot_dict_items F.type_dict_items (thn (he.run pins s σ H _ I hq) fun u s1 ⟨x, H1, I1, rx, d, kvs, ex, hd, htx, q⟩ => ?_)
  subst ex
  obtain rfl : u = Value.ref d := rx
  obtain ⟨hz, hs0, vs, kv, hdo⟩ : kvs.length ≤ sizeLine ∧ (d == sysModules) = false ∧ ∃ vs, KV kvs vs ∧ s1.heap.DictOf (mixKind X.prog X.w) d vs := by
    rcases hd with hd | ⟨rfl, hd⟩
    · exact dk_rd I1.hok hd
    · exact ⟨Nat.zero_le _, (empty_data I1.hok (.inr hd)).1, [], .nil, empty_K I1.hok (.inr hd)⟩
  obtain ⟨ep, hat⟩ := hdo.dictAt
  have ndk : (kvs.map (·.1)).Nodup := by
    rw [kv.keys]
    obtain ⟨_, _, _, _, _, _, _, _, z⟩ := hdo
    exact z
  have lk : kvs.length = vs.length := Paired.length kv
  have I2 : Inv X pins σ H1 { s1 with heap := s1.heap.push { cls := .type "dict_items", data := .fields #[.ref d] } } := I1.kept (t' := s1.toks) fun b ob q => Heap.get?_push_of_some _ q
  refine ⟨hdo.typeIs, hdo.mapOf.noDict, ?_⟩
  show wpAny _ _ (callWith cpos (.builtin "dict.items") [.ref d] [] []) _ X.xe s1
  refine method_meetsIn F.slot_dict_items F.entry_dict_items rfl (PySem.evalArgs_none ⟨rfl, hdo.typeIs, F.args_dict_items_1 _, _, meets_dict_items (mixKind X.prog X.w) d hs0, ⟨vs, hdo⟩, ?_⟩)
  refine Calls.spliced_nil ?_
  -- the keys, as they stand
  have keyAt : ∀ (j : Nat) (pq : Key × Value), vs[j]? = some pq → ∃ (q : Key × V), kvs[j]? = some q ∧ pq.1 = q.1 ∧ RelV q.2 pq.2 ∧ isTx q.1 = true := fun j pq e => by
    obtain ⟨y, h1, h2⟩ := DX.pget kv e
    exact ⟨y, h1, h2.1.symm, h2.2, htx y (List.mem_of_getElem? h1)⟩
  have isK : ∀ (k : Key) (v : Value), isTx k = true → (mixKind X.prog X.w).is k v = true → ∃ t, v = Value.str (txK k) t := fun k v hk h => by
    have rk : RelV (kV k) v := relV_key (show keyIs k v = true from h)
    cases k with
    | inl i => cases hk
    | inr x => exact rk
  refine sorted_view (knd := mixKind X.prog X.w) (kvs := vs) (ep := ep) (I1.ok.hd hc) ⟨_, Heap.get?_push_size _ rfl, rfl, rfl⟩ (hat.push _) (by omega) (fun j pq v e h => ?_) (fun i j pq pr v u x t t' e1 e2 h1 h2 => ?_) fun h' tk as pl out h2 hk hl hG epl hk2 hsr hst hL => ?_
  · obtain ⟨q0, a1, a2, a3, a4⟩ := keyAt j pq e
    rw [a2] at h
    obtain ⟨t, rfl⟩ := isK _ _ a4 h
    exact ⟨_, t, rfl⟩
  · obtain ⟨q1, a1, a2, a3, a4⟩ := keyAt i pq e1
    obtain ⟨q2, b1, b2, b3, b4⟩ := keyAt j pr e2
    rw [a2] at h1
    rw [b2] at h2
    obtain ⟨t1, z1⟩ := isK _ _ a4 h1
    obtain ⟨t2, z2⟩ := isK _ _ b4 h2
    have ek : q1.1 = q2.1 := by
      cases z1
      injection z2 with z2 _
      generalize q1.1 = k1 at *
      generalize q2.1 = k2 at *
      cases k1 with
      | inl _ => cases a4
      | inr x1 => cases k2 with
        | inl _ => cases b4
        | inr x2 => exact congrArg Sum.inr z2
    have li := (List.getElem?_eq_some_iff.mp a1).1
    have lj := (List.getElem?_eq_some_iff.mp b1).1
    have hi : (kvs.map (·.1))[i]? = some q1.1 := by rw [List.getElem?_map, a1]; rfl
    have hj : (kvs.map (·.1))[j]? = some q1.1 := by rw [List.getElem?_map, b1, ek]; rfl
    exact (List.getElem?_inj (by rw [List.length_map]; exact li) ndk).mp (hi.trans hj.symm)
  · have oP : out.Perm (as.map Value.ref) := hst.perm
    obtain ⟨outs, op1, op2⟩ := perm_lift Value.ref oP
    subst op2
    have nd : as.Nodup := List.Pairwise.imp (fun {a b} (h : a < b) => Nat.ne_of_lt h) hG.rise
    have hp2 : ∀ (j : Nat) (t : Addr), as[j]? = some t → ∃ (q : Key × V) (key x : Value), kvs[j]? = some q ∧ RelV (kV q.1) key ∧ RelV q.2 x ∧ h'.get? t = some { cls := .type "tuple", data := .seq #[key, x] } := fun j t e => by
      obtain ⟨key, k, x, f1, f2, f3⟩ := hG.pairs j t e
      obtain ⟨q1, a1, a2, a3, a4⟩ := keyAt j _ f1
      exact ⟨q1, key, x, a1, by rw [← a2]; exact relV_key (show keyIs k key = true from f2), a3, f3⟩
    have sz1 : s1.heap.objs.size < (s1.heap.push { cls := .type "dict_items", data := .fields #[.ref d] }).objs.size := by rw [Heap.size_push]; exact Nat.lt_succ_self _
    have lasts : ∀ t ∈ as, t < h'.objs.size := fun t ht => hG.there ht
    obtain ⟨H', k1, k2, k3, k4, k5, J⟩ := rows_laid (tk := tk) (p := pl) (outs := outs) (as := as) (h2 := h2) I2 hz (fun b o e => hk2 b o (hk b o e)) (fun t ht => Nat.le_of_lt (hG.above t ht))
      (by
        have lv : s1.heap.objs.size < h'.objs.size := Heap.lt_size (hk s1.heap.objs.size _ (Heap.get?_push_size _ rfl))
        show (s1.heap.push { cls := .type "dict_items", data := .fields #[.ref d] }).objs.size ≤ pl
        rw [Heap.size_push, epl]
        exact lv)
      (fun z => by have := lasts _ z; rw [epl] at this; exact Nat.lt_irrefl _ this) nd (by omega) (by rw [op1.length_eq]; omega) hL (fun j t e => by
        obtain ⟨q1, key, x, a1, a2, a3, a4⟩ := hp2 j t e
        exact ⟨q1, key, x, a1, a2, a3, hk2 _ _ a4⟩)
    -- the rows, in the list's sequence
    have lz : as.length = kvs.length := by omega
    have zf : (as.zip kvs).map (·.1) = as := List.map_fst_zip (by omega)
    have zs : (as.zip kvs).map (·.2) = kvs := List.map_snd_zip (by omega)
    obtain ⟨zz, zp, ze⟩ := perm_lift (fun z : Addr × (Key × V) => z.1) (l := outs) (bs := as.zip kvs) (by rw [zf]; exact op1)
    have each : ∀ z ∈ zz, H' z.1 = some (.tup [kV z.2.1, z.2.2]) := fun z hz => paired_zip k5 z (zp.mem_iff.mp hz)
    have kxz : ∀ z ∈ zz, kx h' (Value.ref z.1) = txK z.2.1 := fun z hz => by
      obtain ⟨j, hj⟩ := List.mem_iff_getElem?.mp (zp.mem_iff.mp hz)
      rw [List.getElem?_zip_eq_some] at hj
      obtain ⟨q1, key, x, a1, a2, a3, a4⟩ := hp2 j z.1 hj.1
      rw [hj.2] at a1
      cases a1
      have tx := htx z.2 (List.mem_of_getElem? hj.2)
      generalize z.2.1 = k at *
      cases k with
      | inl _ => cases tx
      | inr y =>
        obtain ⟨t, rfl⟩ : ∃ t, key = Value.str y t := a2
        exact TxP.kx ⟨z.1, t, x, rfl, _, a4, rfl, _, rfl⟩
    refine ⟨.ref pl, H', J, rfl, q (zz.map (·.2)) H' pl outs ndk (by have := zp.map (·.2); rw [zs] at this; exact this) ?_ hz k1 k2 (fun t ht => k3 t (op1.mem_iff.mp ht)) k4 (by
      have := paired_unzip (R := fun (t : Addr) (q : Key × V) => H' t = some (.tup [kV q.1, q.2])) each
      rw [ze] at this
      exact this)⟩
    rw [List.pairwise_map]
    have sr : (zz.map fun z => Value.ref z.1).Pairwise fun a b => ltX h' b a = false := by
      have e : zz.map (fun z => Value.ref z.1) = outs.map Value.ref := by rw [← ze, List.map_map]; rfl
      rw [e]; exact hsr
    rw [List.pairwise_map] at sr
    refine List.Pairwise.imp_of_mem (fun {a b} ha hb h => ?_) sr
    show ¬ (txK b.2.1).cps.toList < (txK a.2.1).cps.toList
    unfold ltX at h
    rw [kxz a ha, kxz b hb] at h
    exact of_decide_eq_false h
end Zs
end

/-! Feg -/
noncomputable section
namespace Zs
open PySem PySem.Spec L2
open PyProof.Rows hiding St
open Classical

/-! ### sorted(d.items()), told of values -/
def txD : D → List Nat
  | .str s => s
  | _ => []
def isTxD : D → Bool
  | .str _ => true
  | _ => false
def leI (a b : D × D) : Bool := !decide (txD b.1 < txD a.1)
def sortIt (ds : List (D × D)) : Option (List (D × D)) := if (ds.all fun e => isTxD e.1 && decide ((txD e.1).length < 100000)) = true ∧ ds.length < 100000 then some (ds.mergeSort leI) else none
theorem leI_trans (a b c : D × D) (h1 : leI a b = true) (h2 : leI b c = true) : leI a c = true := by
  unfold leI at *
  rw [Bool.not_eq_true', decide_eq_false_iff_not, List.not_lt] at *
  exact List.le_trans h1 h2
theorem leI_total (a b : D × D) : (leI a b || leI b a) = true := by
  unfold leI
  rw [Bool.or_eq_true, Bool.not_eq_true', Bool.not_eq_true', decide_eq_false_iff_not, decide_eq_false_iff_not, List.not_lt, List.not_lt]
  exact List.le_total _ _
section
variable {g : Gm} {W : WX} {K : Gm} {F : Hp} {μ : List Addr} {G H : Hp} {σ : L2.St} {h : HP}
theorem repK_zip : ∀ {ds : List (D × D)} {kvs : List (Key × V)}, RepK K F μ ds kvs → ∃ bs : List ((D × D) × (Key × V)), bs.map (·.1) = ds ∧ bs.map (·.2) = kvs ∧ ∀ b ∈ bs, KeyR b.1.1 b.2.1 ∧ Rep K F μ b.1.2 b.2.2
  | _, _, .nil => ⟨[], rfl, rfl, fun _ h => by cases h⟩
  | _, _, .cons (d := d) (k := k) (e := e) (v := v) r q t => by
    obtain ⟨bs, h1, h2, h3⟩ := repK_zip t
    refine ⟨((d, e), (k, v)) :: bs, by rw [List.map_cons, h1], by rw [List.map_cons, h2], fun b hb => ?_⟩
    rcases List.mem_cons.mp hb with e | hb
    · rw [e]; exact ⟨r, q⟩
    · exact h3 b hb
theorem repK_unzip : ∀ {bs : List ((D × D) × (Key × V))}, (∀ b ∈ bs, KeyR b.1.1 b.2.1 ∧ Rep K F μ b.1.2 b.2.2) → RepK K F μ (bs.map (·.1)) (bs.map (·.2))
  | [], _ => .nil
  | b :: bs, k => .cons (k b List.mem_cons_self).1 (k b List.mem_cons_self).2 (repK_unzip fun z hz => k z (List.mem_cons_of_mem _ hz))
theorem keyR_tx {d : D} {k : Key} (r : KeyR d k) (h : isTxD d = true) : isTx k = true ∧ (txK k).cps.toList = txD d ∧ k = .inr (strV (txD d)) := by
  cases r with
  | int i => cases h
  | str s => exact ⟨rfl, strV_list s, rfl⟩
theorem rep_sorted {ds : List (D × D)} {kvs ms : List (Key × V)} (r : RepK K F μ ds kvs) (tx : ∀ e ∈ ds, isTxD e.1 = true) (nd : (kvs.map (·.1)).Nodup) (pm : ms.Perm kvs) (pw : ms.Pairwise ltE) : RepK K F μ (ds.mergeSort leI) ms := by
  obtain ⟨bs, b1, b2, b3⟩ := repK_zip r
  obtain ⟨cs, c1, c2⟩ := perm_lift (fun b : (D × D) × (Key × V) => b.2) (l := ms) (bs := bs) (by rw [b2]; exact pm)
  have c3 : ∀ b ∈ cs, KeyR b.1.1 b.2.1 ∧ Rep K F μ b.1.2 b.2.2 := fun b hb => b3 b (c1.mem_iff.mp hb)
  have txb : ∀ b ∈ bs, isTxD b.1.1 = true := fun b hb => tx _ (by rw [← b1]; exact List.mem_map.mpr ⟨b, hb, rfl⟩)
  have pd : (cs.map (·.1)).Perm ds := by have := c1.map (·.1); rw [b1] at this; exact this
  have e : cs.map (·.1) = ds.mergeSort leI := by
    refine List.Perm.eq_of_pairwise (le := fun a b => leI a b = true) (fun a b ha hb h1 h2 => ?_) ?_ (List.pairwise_mergeSort leI_trans leI_total ds) (pd.trans (List.mergeSort_perm ds leI).symm)
    · have ha' : a ∈ bs.map (·.1) := by rw [b1]; exact pd.mem_iff.mp ha
      have hb' : b ∈ bs.map (·.1) := by rw [b1]; exact (List.mergeSort_perm ds leI).mem_iff.mp hb
      obtain ⟨x, hx, rfl⟩ := List.mem_map.mp ha'
      obtain ⟨y, hy, rfl⟩ := List.mem_map.mp hb'
      obtain ⟨i, hi⟩ := List.mem_iff_getElem?.mp hx
      obtain ⟨j, hj⟩ := List.mem_iff_getElem?.mp hy
      have et : txD x.1.1 = txD y.1.1 := by
        unfold leI at h1 h2
        rw [Bool.not_eq_true', decide_eq_false_iff_not, List.not_lt] at h1 h2
        exact List.le_antisymm h1 h2
      have k1 := (keyR_tx (b3 x hx).1 (txb x hx)).2.2
      have k2 := (keyR_tx (b3 y hy).1 (txb y hy)).2.2
      rw [et, ← k2] at k1
      have e1 : (kvs.map (·.1))[i]? = some y.2.1 := by rw [← b2, List.getElem?_map, List.getElem?_map, hi]; exact congrArg some k1
      have e2 : (kvs.map (·.1))[j]? = some y.2.1 := by rw [← b2, List.getElem?_map, List.getElem?_map, hj]; rfl
      have : i = j := (List.getElem?_inj (List.getElem?_eq_some_iff.mp e1).1 nd).mp (e1.trans e2.symm)
      subst this
      rw [hi] at hj
      cases hj
      rfl
    · rw [List.pairwise_map]
      rw [← c2, List.pairwise_map] at pw
      refine List.Pairwise.imp_of_mem (fun {a b} ha hb h => ?_) pw
      have k1 := (keyR_tx (c3 a ha).1 (txb a (c1.mem_iff.mp ha))).2.1
      have k2 := (keyR_tx (c3 b hb).1 (txb b (c1.mem_iff.mp hb))).2.1
      unfold ltE at h
      rw [k1, k2] at h
      unfold leI
      rw [Bool.not_eq_true', decide_eq_false_iff_not]
      exact h
  rw [← e, ← c2]
  exact repK_unzip c3
/-- much that is new at once -/
def grownF (F H' : Hp) (S : Addr → Prop) : Hp := fun b => if S b then H' b else F b
theorem grownF_pos {F H' : Hp} {S : Addr → Prop} {b : Addr} (h : S b) : grownF F H' S b = H' b := if_pos h
theorem SRel.grow (s : SRel K F μ h G H) {H' : Hp} (S : Addr → Prop) (kp : ∀ b o, H b = some o → H' b = some o) (nw : ∀ b, S b → H b = none) (nt : ∀ b ps, S b → H' b ≠ some (.tbl ps)) :
    SRel K (grownF F H' S) μ h G H' ∧ Ext F μ (grownF F H' S) μ := by
  unfold grownF
  have nF : ∀ b, S b → F b = none := fun b hb => by
    cases e : F b with
    | none => rfl
    | some o => have := s.sub b o e; rw [nw b hb] at this; cases this
  have x : Ext F μ (fun b => if S b then H' b else F b) μ := ⟨fun b o e => by
    by_cases z : S b
    · rw [nF b z] at e; cases e
    · show (if S b then H' b else F b) = _
      rw [if_neg z]; exact e, List.prefix_refl μ⟩
  have keep : ∀ {b : Addr} {o : HO}, H b = some o → (if S b then H' b else F b) = F b := fun {b o} e => by
    rw [if_neg]
    intro z
    rw [nw b z] at e; cases e
  refine ⟨⟨fun b o e => ?_, s.len, fun i o e => ?_, s.inj, fun b o e => ?_, fun p hp => ?_, fun b ps => ⟨?_, (s.nt b ps).2⟩, s.nc⟩, x⟩
  · by_cases z : S b
    · simpa only [if_pos z] using e
    · exact kp b o (s.sub b o (by simpa only [if_neg z] using e))
  · obtain ⟨a, u, h1, h2, h3, h4, h5⟩ := s.live i o e
    exact ⟨a, u, h1, kp a u h2, by rw [keep h2]; exact h3, h4, h5.mono x⟩
  · obtain ⟨h1, h2⟩ := s.fr b o e
    exact ⟨kp b o h1, by rw [keep h1]; exact h2⟩
  · obtain ⟨ps, h1, h2, h3⟩ := s.tb p hp
    refine ⟨ps, kp _ _ h1, h2, fun pos cv hc => ?_⟩
    obtain ⟨c, e1, e2⟩ := h3 pos cv hc
    exact ⟨c, e1, kp _ _ e2⟩
  · show (if S b then H' b else F b) ≠ _
    by_cases z : S b
    · rw [if_pos z]; exact nt b ps z
    · rw [if_neg z]; exact (s.nt b ps).1
def fSI (x : D) (h : HP) : R D := match dcOf x h with
  | some ds => (match sortIt ds with
    | some zs => .ok (.lst (zs.map fun e => .tup [e.1, e.2])) h
    | none => .bad)
  | none => .bad
theorem repK_tx : ∀ {ds : List (D × D)} {kvs : List (Key × V)}, RepK K F μ ds kvs → (∀ e ∈ ds, isTxD e.1 = true) → ∀ kv ∈ kvs, isTx kv.1 = true
  | _, _, .nil, _, _, h => by cases h
  | _, _, .cons r q t, tx, kv, h => by
    rcases List.mem_cons.mp h with e | h
    · rw [e]; exact (keyR_tx r (tx _ List.mem_cons_self)).1
    · exact repK_tx t (fun e he => tx e (List.mem_cons_of_mem _ he)) kv h
theorem key_rep {d : D} {k : Key} (r : KeyR d k) (h : isTxD d = true) (z : (txD d).length ≤ sizeLine) : Rep K F μ d (kV k) := by
  cases r with
  | int i => cases h
  | str s => exact .str s z
theorem paired_mem2 {α β : Type} {R : α → β → Prop} : ∀ {as : List α} {bs : List β}, Paired R as bs → ∀ a ∈ as, ∃ b, R a b
  | _, _, .nil, a, h => by cases h
  | _, _, .cons r t, a, h => by
    rcases List.mem_cons.mp h with e | h
    · rw [e]; exact ⟨_, r⟩
    · exact paired_mem2 t a h
theorem paired_if {α β : Type} {R R' : α → β → Prop} : ∀ {as : List α} {bs : List β}, Paired R as bs → (∀ a ∈ as, ∀ b, R a b → R' a b) → Paired R' as bs
  | _, _, .nil, _ => .nil
  | _, _, .cons r t, k => .cons (k _ List.mem_cons_self _ r) (paired_if t fun a ha => k a (List.mem_cons_of_mem _ ha))
theorem rows_rep {F' : Hp} (two : 2 ≤ sizeLine) : ∀ {zs : List (D × D)} {ms : List (Key × V)} {ts : List Addr}, RepK K F' μ zs ms → Paired (fun (t : Addr) (q : Key × V) => F' t = some (.tup [kV q.1, q.2])) ts ms → (∀ e ∈ zs, isTxD e.1 = true ∧ (txD e.1).length ≤ sizeLine) → Reps K F' μ (zs.map fun e => .tup [e.1, e.2]) (ts.map V.ref)
  | _, _, _, .nil, .nil, _ => .nil
  | _, _, _, .cons r q t, .cons p ps, tx => .cons (.tup p two (.cons (key_rep r (tx _ List.mem_cons_self).1 (tx _ List.mem_cons_self).2) (.cons q .nil))) (rows_rep two t ps fun e he => tx e (List.mem_cons_of_mem _ he))
theorem two_le : 2 ≤ sizeLine := by rw [sizeLine_eq]; omega
theorem se_sortIt {X : Cx} {e : Expr} {a : EM} {p apos cpos pos : Pos} (hc : X.calm = true) (ha : PE X e (tE g W a)) (hg : Gl X "sorted") (hm : X.mg "sorted" = none) (hbase : attributeBase e "items" X.env (eval e X.env) = eval e X.env) (hline : (apos.endLine == cpos.line) = true) :
    PE X (.Call (.Name "sorted" p) [.Call (.Attribute e "items" apos) [] [] cpos] [] pos) (tE g W (e1 fSI a)) := by
  refine (pe_sortIt hc ha hg hm PyProof.Rows.boot_sorted hbase hline (by rfl)).imp ?_
  exact fun σ H Q ⟨F, μ, h, G, ρ, s, en, q⟩ => ⟨F, μ, h, G, ρ, s, en, post_bnd (g := g) q fun F1 μ1 h1 H1 d v x s1 rv q1 => by
    unfold fSI at q1
    split at q1
    · rename_i ds e
      split at q1
      · rename_i zs e2
        unfold sortIt at e2
        split at e2
        · rename_i z
          cases e2
          have tx : ∀ e ∈ ds, isTxD e.1 = true ∧ (txD e.1).length ≤ sizeLine := fun e he => by
            obtain ⟨a, b⟩ := an (List.all_eq_true.mp z.1 e he)
            have := of_decide_eq_true b
            exact ⟨a, by rw [sizeLine_eq]; omega⟩
          obtain ⟨ad, rfl, hh⟩ := dc_at s1 rv e
          have key : ∃ kvs, (Rd H1 ad (.dK kvs) ∨ (kvs = [] ∧ Rd H1 ad (.dT []))) ∧ RepK g F1 μ1 ds kvs := by
            rcases hh with ⟨kvs, hR, rk⟩ | ⟨kvs, hR, rt⟩
            · exact ⟨kvs, .inl hR, rk⟩
            · cases rt with
              | nil => exact ⟨[], .inr ⟨rfl, hR⟩, .nil⟩
              | cons k _ _ => exact absurd (tx _ List.mem_cons_self).1 Bool.noConfusion
          obtain ⟨kvs, hR, rk⟩ := key
          refine ⟨ad, kvs, rfl, hR, repK_tx rk fun e he => (tx e he).1, fun ms H' p ts nd pm pw hz kp np nts hp pr => ?_⟩
          have rs := rep_sorted rk (fun e he => (tx e he).1) nd pm pw
          obtain ⟨s2, x2⟩ := s1.grow (H' := H') (fun b => b = p ∨ b ∈ ts) kp (fun b hb => by
            rcases hb with e | hb
            · rw [e]; exact np
            · exact nts b hb) (fun b ps hb => by
            rcases hb with e | hb
            · rw [e, hp]; intro z; cases z
            · obtain ⟨q, hq⟩ := paired_mem2 pr b hb
              rw [hq]; intro z; cases z)
          have pr2 : Paired (fun (t : Addr) (q : Key × V) => grownF F1 H' (fun b => b = p ∨ b ∈ ts) t = some (.tup [kV q.1, q.2])) ts ms := paired_if pr fun t ht q e => by rw [grownF_pos (.inr ht)]; exact e
          have rr := rows_rep (K := g) two_le (rs.mono x2) pr2 (fun e he => tx e ((List.mergeSort_perm ds leI).mem_iff.mp he))
          refine q1 _ μ1 H' _ x2 s2 (.lst (by rw [grownF_pos (S := fun b => b = p ∨ b ∈ ts) (.inl rfl)]; exact hp) ?_ rr)
          rw [← rr.length, List.length_map, List.length_mergeSort]
          have := z.2
          rw [sizeLine_eq]; omega
        · cases e2
      · exact q1.elim
    · exact q1.elim⟩
end
end Zs
end

/-! Fz -/
noncomputable section
namespace Zs
open PySem PySem.Spec L2
open PyProof.Rows hiding St
open Classical

/-! ### zip of two lists, of two tuples -/
def zipD (xs ys : List D) : List D := (xs.zip ys).map fun p => .tup [p.1, p.2]
def fZip (l : List D) (h : HP) : R Itm := match l with
  | [.tup xs, .tup ys] => .ok ⟨zipD xs ys, fun _ => True⟩ h
  | [x, y] => (match lrOf x h, lrOf y h with
    | some xs, some ys => .ok ⟨zipD xs ys, fun h' => lrOf x h' = some xs ∧ lrOf y h' = some ys⟩ h
    | _, _ => .bad)
  | _ => .bad
def iZ (a : AM) : IM := fun ρ h => (a ρ h).bnd fZip
section
variable {g : Gm} {W : WX} {F : Hp} {μ : List Addr} {G H : Hp} {σ : L2.St} {h : HP}
theorem zipD_get {xs ys : List D} {i : Nat} {d : D} (e : (zipD xs ys)[i]? = some d) : ∃ x y, xs[i]? = some x ∧ ys[i]? = some y ∧ d = .tup [x, y] := by
  unfold zipD at e
  rw [List.getElem?_map] at e
  cases q : (xs.zip ys)[i]? with
  | none => rw [q] at e; cases e
  | some p =>
    rw [q] at e
    cases e
    rw [List.getElem?_zip_eq_some] at q
    exact ⟨p.1, p.2, q.1, q.2, rfl⟩
theorem zipD_len {xs ys : List D} {i : Nat} (e : (zipD xs ys).length ≤ i) : xs.length ≤ i ∨ ys.length ≤ i := by
  unfold zipD at e
  rw [List.length_map, List.length_zip] at e
  omega
theorem pair_R {K : Gm} {x y : D} {v u : V} {F : Hp} {μ : List Addr} {T : Addr} (r : Rep K F μ x v) (q : Rep K F μ y u) (f : F T = some (.tup [v, u])) : Rep K F μ (.tup [x, y]) (.ref T) :=
  .tup f (by show 2 ≤ sizeLine; rw [sizeLine_eq]; omega) (.cons r (.cons q .nil))
theorem jok_zipL {x y : D} {v u : V} {xs ys : List D} {a b : Addr} (r : Rep g F μ x v) (q : Rep g F μ y u) (ea : v = .ref a) (eb : u = .ref b) : JOk g F μ ⟨zipD xs ys, fun h' => lrOf x h' = some xs ∧ lrOf y h' = some ys⟩ (Itz g.K a b) := fun F1 μ1 h1 G1 H1 i e s c => by
  obtain ⟨a', vs, e1, hs, hz, rs⟩ := lr_at s (r.mono e) c.1
  rw [ea] at e1; cases e1
  obtain ⟨b', us, e1, hs2, hz2, rs2⟩ := lr_at s (q.mono e) c.2
  rw [eb] at e1; cases e1
  refine ⟨fun hi => ⟨vs, us, hs, hs2, ?_⟩, fun d hd => ?_⟩
  · rw [← rs.length, ← rs2.length]
    exact zipD_len hi
  · obtain ⟨x1, y1, h2, h3, rfl⟩ := zipD_get hd
    obtain ⟨w1, hw1, rw1⟩ := rs.get h2
    obtain ⟨w2, hw2, rw2⟩ := rs2.get h3
    refine ⟨⟨vs, us, w1, w2, hs, hs2, hw1, hw2⟩, fun z H' hy => ?_⟩
    obtain ⟨T, v1, v2, rfl, hn, rfl, k1, k2⟩ := hy
    have := k1 vs hs
    rw [hw1] at this; cases this
    have := k2 us hs2
    rw [hw2] at this; cases this
    obtain ⟨s2, x2⟩ := s.know (o := .tup [w1, w2]) hn
    exact ⟨_, x2, s2, pair_R (rw1.mono x2) (rw2.mono x2) upd_same⟩
theorem jok_zipT {xs ys : List D} {vs us : List V} {a b : Addr} (f : SqT g.K F a vs) (f2 : SqT g.K F b us) (r : Reps g F μ xs vs) (q : Reps g F μ ys us) : JOk g F μ ⟨zipD xs ys, fun _ => True⟩ (RZ.ItzT g.K a b) := fun F1 μ1 h1 G1 H1 i e s c => by
  have hs := sqT_at s (sqT_mono e.f f)
  have hs2 := sqT_at s (sqT_mono e.f f2)
  have rs := r.mono e
  have rs2 := q.mono e
  refine ⟨fun hi => ⟨vs, us, hs, hs2, ?_⟩, fun d hd => ?_⟩
  · rw [← rs.length, ← rs2.length]
    exact zipD_len hi
  · obtain ⟨x1, y1, h2, h3, rfl⟩ := zipD_get hd
    obtain ⟨w1, hw1, rw1⟩ := rs.get h2
    obtain ⟨w2, hw2, rw2⟩ := rs2.get h3
    refine ⟨⟨vs, us, w1, w2, hs, hs2, hw1, hw2⟩, fun z H' hy => ?_⟩
    obtain ⟨T, v1, v2, rfl, hn, rfl, k1, k2⟩ := hy
    have := k1 vs hs
    rw [hw1] at this; cases this
    have := k2 us hs2
    rw [hw2] at this; cases this
    obtain ⟨s2, x2⟩ := s.know (o := .tup [w1, w2]) hn
    exact ⟨_, x2, s2, pair_R (rw1.mono x2) (rw2.mono x2) upd_same⟩
theorem si_zip {X : Cx} {e e2 : Expr} {a : AM} {p pos tpos : Pos} {elts : List Expr} {kk : Nat} (hK : X.K = g.K) (hg : Gl X "zip") (hm : X.mg "zip" = none) (ha : PA X [e, e2] (tA g W a)) (hn : noStar e = true ∧ noStar e2 = true) :
    PI X (.Tuple elts kk tpos) (.Call (.Name "zip" p) [e, e2] [] pos) (tI g W (iZ a)) :=
  (RZ.pi_zipA hg hm ha (starEach_no X.env hn.1 [e2]) (plain_no X.env pos (by simp [hn.2]))).imp fun σ H R ⟨F, μ, h, G, ρ, s, en, q⟩ => ⟨F, μ, h, G, ρ, s, en, post_bnd (g := g) q fun F1 μ1 h1 H1 d v x s1 rv q1 => by
    rw [hK]
    unfold fZip at q1
    split at q1
    · obtain ⟨v1, u1, rfl, r1, r2⟩ := reps2 rv
      cases r1 with | @tup _ a1 vs f z rs =>
      cases r2 with | @tup _ a2 us f2 z2 rs2 =>
      exact ⟨a1, a2, vs, us, rfl, .inr ⟨sqT_at s1 (SqT.of f), sqT_at s1 (SqT.of f2), post_ok (g := g) (rel := relJ g) q1 s1 (jok_zipT (SqT.of f) (SqT.of f2) rs rs2)⟩⟩
    · rename_i x1 y1 hne
      obtain ⟨v1, u1, rfl, r1, r2⟩ := reps2 rv
      split at q1
      · rename_i xs ys e3 e4
        obtain ⟨a1, vs, ea, hs, hz, rs⟩ := lr_at s1 r1 e3
        obtain ⟨a2, us, eb, hs2, hz2, rs2⟩ := lr_at s1 r2 e4
        subst ea eb
        exact ⟨a1, a2, vs, us, rfl, .inl ⟨hs, hs2, post_ok (g := g) (rel := relJ g) q1 s1 (jok_zipL r1 r2 rfl rfl)⟩⟩
      · exact q1.elim
    · exact q1.elim⟩
end
end Zs
end

/-! Fi -/
noncomputable section
namespace Zs
open PySem PySem.Spec L2
open PyProof.Rows hiding St
open Classical

section
variable {g : Gm} {W : WX} {K : Gm} {F : Hp} {μ : List Addr} {G H : Hp} {σ : L2.St} {h : HP}

/-! ### the frame that others hold -/
theorem ntG (s : SRel K F μ h G H) {p a : Addr} {o : HO} (no : ∀ ps, o ≠ .tbl ps) {ps : Array Value} (e : upd G p o a = some (.tbl ps)) : False := by
  by_cases z : a = p
  · rw [z, upd_same] at e
    exact no ps (Option.some.inj e)
  · rw [upd_ne z] at e
    exact (s.nt a ps).2 e
theorem ncG {p : Addr} {o : HO} (s : ∀ a u, G a = some u → plG u) (no : plG o) {a : Addr} {u : HO} (e : upd G p o a = some u) : plG u := by
  by_cases z : a = p
  · rw [z, upd_same] at e
    rw [← Option.some.inj e]; exact no
  · rw [upd_ne z] at e
    exact s a u e
theorem SRel.hold (s : SRel K F μ h G H) {p : Addr} {o : HO} (n : H p = none) (no : ∀ ps, o ≠ .tbl ps := by intro _ z; cases z) (nc : plG o := by exact ⟨fun _ _ z => (by unfold LamX.CodeO at z; cases z), fun _ z => nomatch z⟩) : SRel K F μ h (upd G p o) (upd H p o) := by
  obtain ⟨nF, nG⟩ := s.free n
  refine ⟨fun a u e => ?_, s.len, fun i u e => ?_, s.inj, fun a u e => ?_, tabs_new s.tb n, fun a ps => ⟨(s.nt a ps).1, fun e => ntG s no e⟩, fun a u e => ncG s.nc nc e⟩
  · rw [upd_ne (ne_of_none e nF)]; exact s.sub a u e
  · obtain ⟨a, w, h1, h2, h3, h4, h5⟩ := s.live i u e
    have z := ne_of_none h2 n
    exact ⟨a, w, h1, by rw [upd_ne z]; exact h2, h3, by rw [upd_ne z]; exact h4, h5⟩
  · by_cases z : a = p
    · subst z; rw [upd_same] at e ⊢; exact ⟨e, nF⟩
    · rw [upd_ne z] at e ⊢; exact s.fr a u e
theorem SRel.heldAt {p : Addr} {o : HO} (s : SRel K F μ h (upd G p o) H) : H p = some o ∧ F p = none := s.fr p o upd_same
theorem upd_upd {H : Hp} {p : Addr} {o o' : HO} : upd (upd H p o) p o' = upd H p o' := by
  funext a
  by_cases z : a = p
  · subst z; rw [upd_same, upd_same]
  · rw [upd_ne z, upd_ne z, upd_ne z]
theorem SRel.wrG {p : Addr} {o o' : HO} (s : SRel K F μ h (upd G p o) H) (no : ∀ c q, o ≠ LamX.CodeO c q := by intro _ _ z; unfold LamX.CodeO at z; cases z) (no' : ∀ ps, o' ≠ .tbl ps := by intro _ z; cases z) (nc : plG o' := by exact ⟨fun _ _ z => (by unfold LamX.CodeO at z; cases z), fun _ z => nomatch z⟩) : SRel K F μ h (upd G p o') (upd H p o') := by
  obtain ⟨hp, nF⟩ := s.heldAt
  have nt' : ∀ ps, o ≠ .tbl ps := fun ps z => (s.nt p ps).2 (by rw [upd_same, z])
  refine ⟨fun a u e => ?_, s.len, fun i u e => ?_, s.inj, fun a u e => ?_, tabs_upd s.tb (fun v e => by rw [hp] at e; cases e; exact ⟨nt', no⟩), fun a ps => ⟨(s.nt a ps).1, fun e => ?_⟩, fun a u e => ?_⟩
  · rw [upd_ne (ne_of_none e nF)]; exact s.sub a u e
  · obtain ⟨a, w, h1, h2, h3, h4, h5⟩ := s.live i u e
    have z : a ≠ p := fun z => by subst z; rw [upd_same] at h4; cases h4
    exact ⟨a, w, h1, by rw [upd_ne z]; exact h2, h3, by rw [upd_ne z] at h4 ⊢; exact h4, h5⟩
  · by_cases z : a = p
    · subst z; rw [upd_same] at e ⊢; exact ⟨e, nF⟩
    · rw [upd_ne z] at e ⊢; exact s.fr a u (by rw [upd_ne z]; exact e)
  · by_cases z : a = p
    · rw [z, upd_same] at e
      exact no' ps (Option.some.inj e)
    · rw [upd_ne z] at e
      exact (s.nt a ps).2 (by rw [upd_ne z]; exact e)
  · by_cases z : a = p
    · rw [z, upd_same] at e
      rw [← Option.some.inj e]; exact nc
    · rw [upd_ne z] at e
      exact s.nc a u (by rw [upd_ne z]; exact e)
/-- what was held is known from now on -/
theorem SRel.relF {p : Addr} {o : HO} (s : SRel K F μ h (upd G p o) H) (nG : G p = none) : SRel K (upd F p o) μ h G H ∧ Ext F μ (upd F p o) μ := by
  obtain ⟨hp, nF⟩ := s.heldAt
  have x : Ext F μ (upd F p o) μ := ⟨fun a u e => by rw [upd_ne (ne_of_none e nF)]; exact e, List.prefix_refl μ⟩
  have ntF : ∀ a ps, upd F p o a ≠ some (.tbl ps) := fun a ps e => by
    by_cases z : a = p
    · rw [z, upd_same] at e
      exact (s.nt p ps).2 (by rw [upd_same]; exact e)
    · rw [upd_ne z] at e
      exact (s.nt a ps).1 e
  have ntG' : ∀ a ps, G a ≠ some (.tbl ps) := fun a ps e => (s.nt a ps).2 (by rw [upd_ne (ne_of_none e nG)]; exact e)
  refine ⟨⟨fun a u e => ?_, s.len, fun i u e => ?_, s.inj, fun a u e => ?_, s.tb, fun a ps => ⟨ntF a ps, ntG' a ps⟩, fun a u e => s.nc a u (by rw [upd_ne (ne_of_none e nG)]; exact e)⟩, x⟩
  · by_cases z : a = p
    · subst z; rw [upd_same] at e; cases e; exact hp
    · rw [upd_ne z] at e; exact s.sub a u e
  · obtain ⟨a, w, h1, h2, h3, h4, h5⟩ := s.live i u e
    have z : a ≠ p := fun z => by subst z; rw [upd_same] at h4; cases h4
    exact ⟨a, w, h1, h2, by rw [upd_ne z]; exact h3, by rw [upd_ne z] at h4; exact h4, h5.mono x⟩
  · have z : a ≠ p := ne_of_none e nG
    obtain ⟨h1, h2⟩ := s.fr a u (by rw [upd_ne z]; exact e)
    exact ⟨h1, by rw [upd_ne z]; exact h2⟩
/-- what was held is an open object from now on -/
theorem SRel.relO {p : Addr} {o : O} {u : HO} (s : SRel K F μ h (upd G p u) H) (nG : G p = none) (r : RepO K F μ o u) : SRel K F (μ ++ [p]) (h ++ [some o]) G H ∧ Ext F μ F (μ ++ [p]) := by
  obtain ⟨hp, nF⟩ := s.heldAt
  have x : Ext F μ F (μ ++ [p]) := ⟨fun _ _ e => e, List.prefix_append μ [p]⟩
  have old : ∀ {i : Nat} {w : O}, (h ++ [some o])[i]? = some (some w) → i < h.length → h[i]? = some (some w) := fun {i w} e hi => by
    rw [List.getElem?_append_left hi] at e; exact e
  have lst : ∀ {i : Nat} {w : O}, (h ++ [some o])[i]? = some (some w) → ¬ i < h.length → i = h.length ∧ w = o := fun {i w} e hi => by
    have hl := (List.getElem?_eq_some_iff.mp e).1
    rw [List.length_append, List.length_singleton] at hl
    have e1 : i = h.length := by omega
    subst e1
    rw [List.getElem?_append_right (Nat.le_refl _)] at e
    simp at e
    exact ⟨rfl, e.symm⟩
  have atL : (μ ++ [p])[h.length]? = some p := by rw [← s.len]; simp
  have key : ∀ {k : Nat} {v : O}, h[k]? = some (some v) → (μ ++ [p])[k]? = some p → False := fun {k v} e m => by
    obtain ⟨a, w', h1, h2, h3, h4, _⟩ := s.live k v e
    have := pre_get x.m h1
    rw [m] at this; cases this
    rw [upd_same] at h4; cases h4
  refine ⟨⟨fun a w e => s.sub a w e, by simp [s.len], fun i w e => ?_, fun i j w w' a e e' m m' => ?_, fun a w e => ?_, s.tb, fun a ps => ⟨(s.nt a ps).1, fun e => (s.nt a ps).2 (by rw [upd_ne (ne_of_none e nG)]; exact e)⟩, fun a u e => s.nc a u (by rw [upd_ne (ne_of_none e nG)]; exact e)⟩, x⟩
  · by_cases hi : i < h.length
    · obtain ⟨a, w', h1, h2, h3, h4, h5⟩ := s.live i w (old e hi)
      have z : a ≠ p := fun z => by subst z; rw [upd_same] at h4; cases h4
      exact ⟨a, w', pre_get x.m h1, h2, h3, by rw [upd_ne z] at h4; exact h4, h5.mono x⟩
    · obtain ⟨rfl, rfl⟩ := lst e hi
      exact ⟨p, u, atL, hp, nF, nG, r.mono x⟩
  · by_cases hi : i < h.length
    · by_cases hj : j < h.length
      · have mi : μ[i]? = some a := by
          rw [List.getElem?_append_left (by rw [s.len]; exact hi)] at m; exact m
        have mj : μ[j]? = some a := by
          rw [List.getElem?_append_left (by rw [s.len]; exact hj)] at m'; exact m'
        exact s.inj i j w w' a (old e hi) (old e' hj) mi mj
      · obtain ⟨rfl, rfl⟩ := lst e' hj
        rw [atL] at m'; cases m'
        exact (key (old e hi) m).elim
    · obtain ⟨rfl, rfl⟩ := lst e hi
      rw [atL] at m; cases m
      by_cases hj : j < h.length
      · exact (key (old e' hj) m').elim
      · exact (lst e' hj).1.symm
  · have z : a ≠ p := ne_of_none e nG
    exact s.fr a w (by rw [upd_ne z]; exact e)

/-! ### the block's own slots -/
theorem wipe_get (σ : L2.St) (i : Nat) : ∀ vs : List Nat, (wipe σ vs)[i]? = if i ∈ vs ∧ i < σ.length then some none else σ[i]?
  | [] => by simp [wipe]
  | v :: vs => by
    show ((wipe σ vs).set v none)[i]? = _
    have ih := wipe_get σ i vs
    by_cases e : v = i
    · subst e
      by_cases hl : v < σ.length
      · rw [List.getElem?_set_self (by rw [wipe_length]; exact hl), if_pos ⟨List.mem_cons_self, hl⟩]
      · rw [List.getElem?_eq_none (by rw [List.length_set, wipe_length]; omega), if_neg (fun z => hl z.2), List.getElem?_eq_none (by omega)]
    · rw [List.getElem?_set_ne e, ih]
      by_cases hm : i ∈ vs
      · by_cases hl : i < σ.length
        · rw [if_pos ⟨hm, hl⟩, if_pos ⟨List.mem_cons_of_mem _ hm, hl⟩]
        · rw [if_neg (fun z => hl z.2), if_neg (fun z => hl z.2)]
      · rw [if_neg (fun z => hm z.1), if_neg (fun z => (List.mem_cons.mp z.1).elim (fun q => e q.symm) hm)]
theorem wipe_out {vs sl : List Nat} {σ2 : L2.St} (o : Out sl (wipe σ vs) σ2) (hs : ∀ i ∈ sl, i ∈ vs) : wipe σ2 vs = wipe σ vs := by
  have o := o.sub hs
  have hl : σ2.length = σ.length := by rw [o.1, wipe_length]
  apply List.ext_getElem?
  intro i
  rw [wipe_get, wipe_get, hl]
  by_cases hm : i ∈ vs
  · by_cases h2 : i < σ.length
    · rw [if_pos ⟨hm, h2⟩, if_pos ⟨hm, h2⟩]
    · rw [if_neg (fun z => h2 z.2), if_neg (fun z => h2 z.2), List.getElem?_eq_none (by omega), List.getElem?_eq_none (by omega)]
  · rw [if_neg (fun z => hm z.1), if_neg (fun z => hm z.1), o.2 i hm, wipe_get, if_neg (fun z => hm z.1)]

/-! ### [e for t in it if c] -/
def tYe : TM := fun _ h => .ok true h
def lcM (t : GM) (c : TM) (e : EM) (chk : HP → Prop) (ρ : Env') : List D → List D → HP → R (List D)
  | [], acc, h => if chk h then .ok acc h else .bad
  | d :: r, acc, h => if chk h then (match t d ρ h with
    | .ok ρ1 h1 => (match c ρ1 h1 with
      | .ok true h2 => (match e ρ1 h2 with
        | .ok y h3 => if acc.length < sizeLine then lcM t c e chk ρ r (acc ++ [y]) h3 else .bad
        | _ => .bad)
      | .ok false h2 => lcM t c e chk ρ r acc h2
      | _ => .bad)
    | _ => .bad) else .bad
def eLc (o : Bool) (it : IM) (t : GM) (c : TM) (e : EM) (vs : List Nat) : EM := fun ρ h => (it ρ h).bnd fun m h1 => (lcM t c e m.chk (wipeE ρ vs) m.xs [] h1).bnd (mkL o)
abbrev WF : WX := fun _ _ _ _ => False
theorem tLc_of {o : Bool} {it : IM} {t : GM} {c : TM} {e : EM} {vs sl : List Nat} (hsl : ∀ i ∈ sl, i ∈ vs) : ∀ σ H Q, tE g W (eLc o it t c e vs) σ H Q → tLc (tI g W it) (tG g sl t) (tT g WF c) (tE g WF e) vs σ H Q := fun σ H Q ⟨F, μ, h, G, ρ, s, en, q⟩ =>
  ⟨F, μ, h, G, ρ, s, en, post_bnd (g := g) q fun F1 μ1 h1 H1 m J x1 s1 jok q1 => by
    intro p np
    obtain ⟨nF, nG⟩ := s1.free np
    refine ⟨fun i n H => ∃ F2 μ2 h2 ds acc, Ext F1 μ1 F2 μ2 ∧ SRel g F2 μ2 h2 (upd G p (.lst acc)) H ∧ Reps g F2 μ2 ds acc ∧ acc.length ≤ sizeLine ∧ n = (m.xs.drop i).length ∧
      post g (relD g) W F2 μ2 G σ Q ((lcM t c e m.chk (wipeE ρ vs) (m.xs.drop i) ds h2).bnd (mkL o)), ⟨m.xs.length, F1, μ1, h1, [], [], Ext.refl _ _, s1.hold np, .nil, Nat.zero_le _, by simp, by simpa using q1⟩, ?_⟩
    rintro i n H2 ⟨F2, μ2, h2, ds, acc, y2, s2, racc, zacc, rfl, q2⟩
    cases hr : m.xs.drop i with
    | nil =>
      rw [hr] at q2
      left
      have q3 : post g (relD g) W F2 μ2 G σ Q ((if m.chk h2 then R.ok ds h2 else .bad).bnd (mkL o)) := q2
      by_cases hc : m.chk h2
      · rw [if_pos hc] at q3
        have hlen : m.xs.length ≤ i := by
          have := congrArg List.length hr
          simp at this; omega
        refine ⟨(jok F2 μ2 h2 _ H2 i y2 s2 hc).1 hlen, ?_⟩
        have q4 : post g (relD g) W F2 μ2 G σ Q (mkL o ds h2) := q3
        cases o with
        | false =>
          obtain ⟨s3, x3⟩ := s2.relF nG
          exact q4 _ _ _ _ x3 s3 (.lst upd_same zacc (racc.mono x3))
        | true =>
          obtain ⟨s3, x3⟩ := s2.relO nG (.lst zacc racc)
          exact q4 _ _ _ _ x3 s3 (.ref (by rw [← s2.len]; simp))
      · rw [if_neg hc] at q3
        exact q3.elim
    | cons d r =>
      rw [hr] at q2
      right
      have hd : m.xs[i]? = some d := by
        have := congrArg (fun l : List D => l[0]?) hr
        simpa [List.getElem?_drop] using this
      have hdr : m.xs.drop (i + 1) = r := by
        have := congrArg (fun l : List D => l.drop 1) hr
        simpa [List.drop_drop] using this
      by_cases hc : m.chk h2
      · obtain ⟨jgo, jy⟩ := (jok F2 μ2 h2 _ H2 i y2 s2 hc).2 d hd
        refine ⟨jgo, fun H' => ∃ F3 μ3 h3 es ac, Ext F1 μ1 F3 μ3 ∧ SRel g F3 μ3 h3 (upd G p (.lst ac)) H' ∧ Reps g F3 μ3 es ac ∧ ac.length ≤ sizeLine ∧ post g (relD g) W F3 μ3 G σ Q ((lcM t c e m.chk (wipeE ρ vs) r es h3).bnd (mkL o)),
          fun H' ⟨F3, μ3, h3, es, ac, y3, s3, r3, z3, q3⟩ => ⟨r.length, by simp, F3, μ3, h3, es, ac, y3, s3, r3, z3, by rw [hdr], by rw [hdr]; exact q3⟩, fun x H3 hy => ?_⟩
        obtain ⟨F3, y3, s3, rd⟩ := jy x H3 hy
        have q3 : post g (relD g) W F2 μ2 G σ Q ((match t d (wipeE ρ vs) h2 with
          | .ok ρ1 h1 => (match c ρ1 h1 with
            | .ok true h2 => (match e ρ1 h2 with
              | .ok y h3 => if ds.length < sizeLine then lcM t c e m.chk (wipeE ρ vs) r (ds ++ [y]) h3 else .bad
              | _ => .bad)
            | .ok false h2 => lcM t c e m.chk (wipeE ρ vs) r ds h2
            | _ => .bad)
          | _ => (.bad : R (List D))).bnd (mkL o)) := by
            have q2' : post g (relD g) W F2 μ2 G σ Q ((lcM t c e m.chk (wipeE ρ vs) (d :: r) ds h2).bnd (mkL o)) := q2
            unfold lcM at q2'
            rw [if_pos hc] at q2'
            exact q2'
        refine ⟨F3, μ2, h2, _, wipeE ρ vs, d, s3, ((en.mono x1).mono (y2.trans y3)).wipe vs, rd, ?_⟩
        cases et : t d (wipeE ρ vs) h2 with
        | bad => rw [et] at q3; exact q3.elim
        | exc _ _ _ => rw [et] at q3; exact q3.elim
        | ok ρ3 h3 =>
          rw [et] at q3
          intro F4 μ4 H4 σ4 y4 s4 en4 o4
          refine ⟨wipe_out o4 hsl, F4, μ4, h3, _, ρ3, s4, en4, ?_⟩
          dsimp only at q3
          cases ec : c ρ3 h3 with
          | bad => rw [ec] at q3; exact q3.elim
          | exc _ _ _ => rw [ec] at q3; exact q3.elim
          | ok b h5 =>
            rw [ec] at q3
            intro F5 μ5 H5 b' y5 s5 eb
            cases eb
            cases b with
            | false =>
              show ∃ F3 μ3 h3 es ac, _
              exact ⟨F5, μ5, h5, ds, acc, y2.trans (y3.trans (y4.trans y5)), s5, racc.mono (y3.trans (y4.trans y5)), zacc, post.mono (show post g (relD g) W F2 μ2 G σ Q ((lcM t c e m.chk (wipeE ρ vs) r ds h5).bnd (mkL o)) from q3) (y3.trans (y4.trans y5))⟩
            | true =>
              show tE g WF e σ4 H5 _
              refine ⟨F5, μ5, h5, _, ρ3, s5, en4.mono y5, ?_⟩
              dsimp only at q3
              cases ee : e ρ3 h5 with
              | bad => rw [ee] at q3; exact q3.elim
              | exc _ _ _ => rw [ee] at q3; exact q3.elim
              | ok z h6 =>
                rw [ee] at q3
                intro F6 μ6 H6 w y6 s6 rw6
                dsimp only at q3
                by_cases hz : ds.length < sizeLine
                · rw [if_pos hz] at q3
                  have hz' : acc.length < sizeLine := by rw [← racc.length]; exact hz
                  have yy := y3.trans (y4.trans (y5.trans y6))
                  exact ⟨acc, s6.heldAt.1, hz', F6, μ6, h6, ds ++ [z], acc ++ [w], y2.trans yy, s6.wrG, (racc.mono yy).append (.cons rw6 .nil), by rw [List.length_append, List.length_singleton]; omega, post.mono q3 yy⟩
                · rw [if_neg hz] at q3; exact q3.elim
      · have q3 : post g (relD g) W F2 μ2 G σ Q ((lcM t c e m.chk (wipeE ρ vs) (d :: r) ds h2).bnd (mkL o)) := q2
        unfold lcM at q3
        rw [if_neg hc] at q3
        exact q3.elim⟩
theorem tYe_of {σ : L2.St} {H : Hp} {Q : Bool → Hp → Prop} (q : tT g WF tYe σ H Q) : tYes σ H Q := by
  obtain ⟨F, μ, h, G, ρ, s, en, q⟩ := q
  exact post_ok (g := g) (rel := relB) q s rfl
theorem _root_.L2.PTs.imp {X : Cx} {e : List Expr} {t t' : TT} (p : PTs X e t) (h : ∀ σ H Q, t' σ H Q → t σ H Q) : PTs X e t' := ⟨fun pins s σ H Q I hw => p.run pins s σ H Q I (h _ _ _ hw)⟩
theorem sts_n {X : Cx} : PTs X [] (tT g WF tYe) := pts_nil.imp fun σ H Q q => tYe_of q
end
end Zs
end

/-! Fj -/
noncomputable section
namespace Zs
open PySem PySem.Spec L2
open PyProof.Rows hiding St
open Classical

section
variable {g : Gm} {W : WX} {K : Gm} {F : Hp} {μ : List Addr} {G H : Hp} {σ : L2.St} {h : HP}

/-! ### statements -/
def postS (g : Gm) (W : WX) (F : Hp) (μ : List Addr) (G : Hp) (D : Ends) : R Fl → Prop
  | .ok (.nx ρ') h' => ∀ F' μ' H' σ', Ext F μ F' μ' → SRel g F' μ' h' G H' → REnv g F' μ' ρ' σ' → D.nx σ' H'
  | .ok (.brk ρ') h' => ∀ F' μ' H' σ', Ext F μ F' μ' → SRel g F' μ' h' G H' → REnv g F' μ' ρ' σ' → D.bk σ' H'
  | .ok (.ret d) h' => ∀ F' μ' H' v, Ext F μ F' μ' → SRel g F' μ' h' G H' → Rep g F' μ' d v → D.rt v H'
  | .ok (.exc c x ρ') h' => ∀ F' μ' σ', Ext F μ F' μ' → REnv g F' μ' ρ' σ' → excP g W F' μ' G σ' c x h'
  | _ => False
def tS (g : Gm) (W : WX) (m : SM) : TS := fun D σ H => ∃ F μ h G ρ, SRel g F μ h G H ∧ REnv g F μ ρ σ ∧ postS g W F μ G D (m ρ h)
theorem postS.mono {D : Ends} {r : R Fl} {F1 : Hp} {μ1 : List Addr} (e : postS g W F μ G D r) (y : Ext F μ F1 μ1) : postS g W F1 μ1 G D r := by
  cases r with
  | ok f h' => cases f with
    | nx ρ' => exact fun F' μ' H' v z => e F' μ' H' v (y.trans z)
    | brk ρ' => exact fun F' μ' H' v z => e F' μ' H' v (y.trans z)
    | ret d => exact fun F' μ' H' v z => e F' μ' H' v (y.trans z)
    | exc c x ρ' => exact fun F' μ' v z => e F' μ' v (y.trans z)
  | _ => exact e
/-- an expression, then k -/
def lift {α : Type} (ρ : Env') (r : R α) (k : α → HP → R Fl) : R Fl := match r with
  | .ok a h => k a h
  | .exc c v h => .ok (.exc c v ρ) h
  | .bad => .bad
theorem post_lift {α β : Type} {rel : Hp → List Addr → α → β → Prop} {D : Ends} {C : β → Hp → Prop} {r : R α} {ρ : Env'} {f : α → HP → R Fl} (en : REnv g F μ ρ σ)
    (e : postS g W F μ G D (lift ρ r f))
    (k : ∀ F1 μ1 h1 H1 d v, Ext F μ F1 μ1 → SRel g F1 μ1 h1 G H1 → rel F1 μ1 d v → postS g W F1 μ1 G D (f d h1) → C v H1) : post g rel W F μ G σ C r := by
  cases r with
  | ok d h' => exact fun F' μ' H' v x s q => k F' μ' h' H' d v x s q (postS.mono e x)
  | exc c x h' =>
    have e : ∀ F' μ' σ', Ext F μ F' μ' → REnv g F' μ' ρ σ' → excP g W F' μ' G σ' c x h' := e
    exact fun F' μ' H' dd v z s r q => e F' μ' σ z (en.mono z) F' μ' H' dd v (Ext.refl _ _) s r q
  | bad => exact e
def sNx : SM := fun ρ h => .ok (.nx ρ) h
def sSq (a b : SM) : SM := fun ρ h => match a ρ h with
  | .ok (.nx ρ1) h1 => b ρ1 h1
  | r => r
def sEx (a : EM) : SM := fun ρ h => lift ρ (a ρ h) fun _ h1 => .ok (.nx ρ) h1
def sRe (a : EM) : SM := fun ρ h => lift ρ (a ρ h) fun d h1 => .ok (.ret d) h1
def sIf (t : TM) (a b : SM) : SM := fun ρ h => lift ρ (t ρ h) fun c h1 => bif c then a ρ h1 else b ρ h1
def sAs (a : EM) (t : GM) : SM := fun ρ h => lift ρ (a ρ h) fun d h1 => match t d ρ h1 with
  | .ok ρ1 h2 => .ok (.nx ρ1) h2
  | _ => .bad
def sBr : SM := fun ρ h => .ok (.brk ρ) h
def forM (t : GM) (b : SM) (chk : HP → Prop) : List D → SM
  | [], ρ, h => if chk h then .ok (.nx ρ) h else .bad
  | d :: r, ρ, h => if chk h then (match t d ρ h with
    | .ok ρ1 h1 => (match b ρ1 h1 with
      | .ok (.nx ρ2) h2 => forM t b chk r ρ2 h2
      | .ok (.brk ρ2) h2 => .ok (.nx ρ2) h2
      | x => x)
    | _ => .bad) else .bad
def sFo (it : IM) (t : GM) (b : SM) : SM := fun ρ h => lift ρ (it ρ h) fun m h1 => forM t b m.chk m.xs ρ h1
section
variable {X : Cx} {pos : Pos} {e : Expr} {a : EM} {ma mb : SM}
theorem ss_nil : PSs X [] (tS g W sNx) := pss_nil.imp fun D σ H ⟨F, μ, h, G, ρ, s, en, q⟩ => q F μ H σ (Ext.refl _ _) s en
theorem ss_cons {st : Stmt} {rest : List Stmt} (ha : PS X st (tS g W ma)) (hb : PSs X rest (tS g W mb)) : PSs X (st :: rest) (tS g W (sSq ma mb)) :=
  (pss_cons ha hb).imp fun D σ H ⟨F, μ, h, G, ρ, s, en, q⟩ => ⟨F, μ, h, G, ρ, s, en, by
    have q : postS g W F μ G D (match ma ρ h with
      | .ok (.nx ρ1) h1 => mb ρ1 h1
      | r => r) := q
    cases e1 : ma ρ h with
    | ok f h1 =>
      rw [e1] at q
      cases f with
      | nx ρ1 => exact fun F' μ' H' σ' x s1 en1 => ⟨F', μ', h1, G, ρ1, s1, en1, postS.mono (show postS g W F μ G D (mb ρ1 h1) from q) x⟩
      | brk ρ1 => exact q
      | ret d => exact q
      | exc c x ρ1 => exact q
    | exc c x h1 => rw [e1] at q; exact q
    | bad => rw [e1] at q; exact q⟩
theorem ss_ex (ha : PE X e (tE g W a)) (hs : swapsWith e none pos.line X.env = pure false) : PS X (.Expr e pos) (tS g W (sEx a)) :=
  (ps_expr ha hs).imp fun D σ H ⟨F, μ, h, G, ρ, s, en, q⟩ => ⟨F, μ, h, G, ρ, s, en, post_lift en q fun F1 μ1 h1 H1 d v x s1 rv q1 => q1 F1 μ1 H1 σ (Ext.refl _ _) s1 (en.mono x)⟩
theorem ss_re (ha : PE X e (tE g W a)) : PS X (.Return (some e) pos) (tS g W (sRe a)) :=
  (ps_ret ha).imp fun D σ H ⟨F, μ, h, G, ρ, s, en, q⟩ => ⟨F, μ, h, G, ρ, s, en, post_lift en q fun F1 μ1 h1 H1 d v x s1 rv q1 => q1 F1 μ1 H1 v (Ext.refl _ _) s1 rv⟩
theorem ss_re0 : PS X (.Return none pos) (tS g W (sRe (eC .non))) :=
  ps_retN.imp fun D σ H ⟨F, μ, h, G, ρ, s, en, q⟩ => q F μ H .non (Ext.refl _ _) s .non
theorem ss_pass : PS X (.Pass pos) (tS g W sNx) := ps_pass.imp fun D σ H ⟨F, μ, h, G, ρ, s, en, q⟩ => q F μ H σ (Ext.refl _ _) s en
theorem ss_brk : PS X (.Break pos) (tS g W sBr) := ps_break.imp fun D σ H ⟨F, μ, h, G, ρ, s, en, q⟩ => q F μ H σ (Ext.refl _ _) s en
theorem ss_if {p q : List Stmt} {t : TM} (hc : PT X e (tT g W t)) (ha : PSs X p (tS g W ma)) (hb : PSs X q (tS g W mb)) : PS X (.If e p q pos) (tS g W (sIf t ma mb)) :=
  (ps_if hc ha hb).imp fun D σ H ⟨F, μ, h, G, ρ, s, en, q⟩ => ⟨F, μ, h, G, ρ, s, en, post_lift en q fun F1 μ1 h1 H1 d v x s1 rv q1 => by
    cases rv
    cases d with
    | true => exact ⟨F1, μ1, h1, G, ρ, s1, en.mono x, q1⟩
    | false => exact ⟨F1, μ1, h1, G, ρ, s1, en.mono x, q1⟩⟩
theorem tAs_of {t : GM} {sl : List Nat} {te : TE} {tg : TG} (h1 : ∀ σ H Q, tE g W a σ H Q → te σ H Q) (h2 : ∀ x σ H Q, tG g sl t x σ H Q → tg x σ H Q) : ∀ D σ H, tS g W (sAs a t) D σ H → tAsg te tg D σ H := fun D σ H ⟨F, μ, h, G, ρ, s, en, q⟩ =>
  h1 σ H _ ⟨F, μ, h, G, ρ, s, en, post_lift en q fun F1 μ1 h1' H1 d v x s1 rv q1 => h2 _ _ _ _ ⟨F1, μ1, h1', G, ρ, d, s1, en.mono x, rv, by
    have q1 : postS g W F1 μ1 G D (match t d ρ h1' with
      | .ok ρ1 h2 => .ok (.nx ρ1) h2
      | _ => .bad) := q1
    cases et : t d ρ h1' with
    | ok ρ1 h2 => rw [et] at q1; exact fun F2 μ2 H2 σ2 x2 s2 en2 _ => q1 F2 μ2 H2 σ2 x2 s2 en2
    | exc c v' h' => rw [et] at q1; exact q1.elim
    | bad => rw [et] at q1; exact q1.elim⟩⟩
theorem gName_of {i : Nat} : ∀ x σ H Q, tG g [i] (gN i) x σ H Q → gName i x σ H Q := fun x σ H Q ⟨F, μ, h, G, ρ, d, s, en, r, q⟩ => q F μ H _ (Ext.refl F μ) s (en.set r i) ⟨by rw [List.length_set], fun j hj => by
    rw [List.getElem?_set_ne]; intro e; subst e; exact hj (by simp)⟩
theorem ss_set {i : Nat} {x : Str} {p : Pos} (hN : X.N.Nodup) (hi : X.N[i]? = some x) (hx : Loc X.env.scope x) (ha : PE X e (tE g W a)) (hs : swapsWith e (some (.Name x p)) pos.line X.env = pure false) (hf : X.fn x = true ∨ X.env.scope.names.lookup x = some .local) : PS X (.Assign [.Name x p] e pos) (tS g W (sAs a (gN i))) :=
  (ps_set hN hi hx ha hs hf).imp (tAs_of (fun _ _ _ z => z) gName_of)
theorem ss_asg {tg : Expr} {t : GM} {sl : List Nat} (ha : PE X e (tE g W a)) (hg : PG X tg (tG g sl t)) (hs : swapsWithSole [tg] e pos.line X.env = pure false) (hw : swappedStores [tg] e X.env = pure none) (h1 : (assignEach [tg] X.env).map (·.2) = [assign tg X.env]) : PS X (.Assign [tg] e pos) (tS g W (sAs a t)) :=
  (ps_asg ha hg hs hw h1).imp (tAs_of (fun _ _ _ z => z) fun _ _ _ _ z => z)
theorem ss_for {tg it : Expr} {body : List Stmt} {m : IM} {t : GM} {sl : List Nat} {b : SM} (hp : PassesOwn (model X.prog X.w) X.A X.env X.xe) (hc : X.calm = true) (hi : PI X tg it (tI g W m)) (hg : PG X tg (tG g sl t)) (hb : PSs X body (tS g W b))
    (hs : ∀ x, foldedSetIterable it X.env x = pure x) : PS X (.For tg it body [] pos) (tS g W (sFo m t b)) :=
  (ps_for hp hc hi hg hb hs).imp fun D σ H ⟨F, μ, h, G, ρ, s, en, q⟩ => ⟨F, μ, h, G, ρ, s, en, post_lift en q fun F1 μ1 h1 H1 m J x1 s1 jok q1 => by
    refine ⟨fun i n σ H => ∃ F2 μ2 h2 ρ2, Ext F1 μ1 F2 μ2 ∧ SRel g F2 μ2 h2 G H ∧ REnv g F2 μ2 ρ2 σ ∧ n = (m.xs.drop i).length ∧ postS g W F2 μ2 G D (forM t b m.chk (m.xs.drop i) ρ2 h2), ⟨m.xs.length, F1, μ1, h1, ρ, Ext.refl _ _, s1, en.mono x1, by simp, by simpa using q1⟩, ?_⟩
    rintro i n σ2 H2 ⟨F2, μ2, h2, ρ2, y2, s2, en2, rfl, q2⟩
    cases hr : m.xs.drop i with
    | nil =>
      rw [hr] at q2
      left
      have q3 : postS g W F2 μ2 G D (if m.chk h2 then R.ok (.nx ρ2) h2 else .bad) := q2
      by_cases hc : m.chk h2
      · rw [if_pos hc] at q3
        have hlen : m.xs.length ≤ i := by
          have := congrArg List.length hr
          simp at this; omega
        exact ⟨(jok F2 μ2 h2 _ H2 i y2 s2 hc).1 hlen, q3 F2 μ2 H2 σ2 (Ext.refl _ _) s2 en2⟩
      · rw [if_neg hc] at q3; exact q3.elim
    | cons d r =>
      rw [hr] at q2
      right
      have hd : m.xs[i]? = some d := by
        have := congrArg (fun l : List Zs.D => l[0]?) hr
        simpa [List.getElem?_drop] using this
      have hdr : m.xs.drop (i + 1) = r := by
        have := congrArg (fun l : List Zs.D => l.drop 1) hr
        simpa [List.drop_drop] using this
      by_cases hc : m.chk h2
      · obtain ⟨jgo, jy⟩ := (jok F2 μ2 h2 _ H2 i y2 s2 hc).2 d hd
        refine ⟨jgo, fun σ' H' => ∃ F3 μ3 h3 ρ3, Ext F1 μ1 F3 μ3 ∧ SRel g F3 μ3 h3 G H' ∧ REnv g F3 μ3 ρ3 σ' ∧ postS g W F3 μ3 G D (forM t b m.chk r ρ3 h3),
          fun σ' H' ⟨F3, μ3, h3, ρ3, y3, s3, en3, q3⟩ => ⟨r.length, by simp, F3, μ3, h3, ρ3, y3, s3, en3, by rw [hdr], by rw [hdr]; exact q3⟩, fun x H3 hy => ?_⟩
        obtain ⟨F3, y3, s3, rd⟩ := jy x H3 hy
        have q3 : postS g W F2 μ2 G D (match t d ρ2 h2 with
          | .ok ρ1 h1 => (match b ρ1 h1 with
            | .ok (.nx ρ2) h2 => forM t b m.chk r ρ2 h2
            | .ok (.brk ρ2) h2 => .ok (.nx ρ2) h2
            | x => x)
          | _ => .bad) := by
            have q2' : postS g W F2 μ2 G D (forM t b m.chk (d :: r) ρ2 h2) := q2
            unfold forM at q2'
            rw [if_pos hc] at q2'
            exact q2'
        refine ⟨F3, μ2, h2, G, ρ2, d, s3, en2.mono y3, rd, ?_⟩
        cases et : t d ρ2 h2 with
        | bad => rw [et] at q3; exact q3.elim
        | exc _ _ _ => rw [et] at q3; exact q3.elim
        | ok ρ3 h3 =>
          rw [et] at q3
          intro F4 μ4 H4 σ4 y4 s4 en4 o4
          refine ⟨F4, μ4, h3, G, ρ3, s4, en4, ?_⟩
          dsimp only at q3
          have yy := y3.trans y4
          cases eb : b ρ3 h3 with
          | bad => rw [eb] at q3; exact q3.elim
          | exc _ _ _ => rw [eb] at q3; exact q3.elim
          | ok f h5 =>
            rw [eb] at q3
            cases f with
            | nx ρ5 => exact fun F5 μ5 H5 σ5 y5 s5 en5 => ⟨F5, μ5, h5, ρ5, y2.trans (yy.trans y5), s5, en5, postS.mono (show postS g W F2 μ2 G D (forM t b m.chk r ρ5 h5) from q3) (yy.trans y5)⟩
            | brk ρ5 => exact fun F5 μ5 H5 σ5 y5 s5 en5 => q3 F5 μ5 H5 σ5 (yy.trans y5) s5 en5
            | ret d5 => exact fun F5 μ5 H5 v5 y5 s5 r5 => q3 F5 μ5 H5 v5 (yy.trans y5) s5 r5
            | exc c x ρ5 => exact fun F5 μ5 σ5 y5 => q3 F5 μ5 σ5 (yy.trans y5)
      · unfold forM at q2
        rw [if_neg hc] at q2
        exact q2.elim⟩
end
end
end Zs
end

/-! Fx -/
namespace Zs
open PySem PySem.Spec L2
open PyProof.Rows hiding St

/-! ### frames that make lambdas -/
def setC (g : Gm) (n : Nat) (ce : Ce) : Gm := ⟨g.K, g.T, fun m => if m = n then some ce else g.cl m⟩
mutual
def nofn (n : Nat) : D → Bool
  | .tup xs => nofnL n xs
  | .kt xs => nofnL n xs
  | .lst xs => nofnL n xs
  | .scr xs => nofnL n xs
  | .dct kvs => nofnP n kvs
  | .exc _ v => nofn n v
  | .fn m _ => decide (m ≠ n)
  | .non => true
  | .bl _ => true
  | .int _ => true
  | .str _ => true
  | .ref _ => true
  | .ty _ => true
  | .cls _ => true
def nofnL (n : Nat) : List D → Bool
  | [] => true
  | x :: r => nofn n x && nofnL n r
def nofnP (n : Nat) : List (D × D) → Bool
  | [] => true
  | x :: r => nofnQ n x && nofnP n r
def nofnQ (n : Nat) : D × D → Bool
  | (_, v) => nofn n v
end
def nofnO (n : Nat) : O → Bool
  | .lst xs => nofnL n xs
  | .dct kvs => nofnP n kvs
  | .ins _ _ => false
def nofnS (n : Nat) : Option O → Bool
  | some o => nofnO n o
  | none => true
section
variable {g : Gm} {n : Nat} {ce : Ce} {F : Hp} {μ : List Addr} {G H : Hp} {h : HP} {σ : L2.St} {W : WX}
theorem setC_new (nw : g.cl n = none) {m : Nat} {c : Ce} (e : g.cl m = some c) : (setC g n ce).cl m = some c := by
  have : m ≠ n := fun z => by rw [z, nw] at e; cases e
  show (if m = n then some ce else g.cl m) = some c
  rw [if_neg this]
  exact e
theorem setC_old {m : Nat} {c : Ce} (e : (setC g n ce).cl m = some c) (k : m ≠ n) : g.cl m = some c := by
  have e : (if m = n then some ce else g.cl m) = some c := e
  rw [if_neg k] at e
  exact e
mutual
theorem Rep.into (nw : g.cl n = none) : ∀ {d v}, Rep g F μ d v → Rep (setC g n ce) F μ d v
  | _, _, .non => .non
  | _, _, .bl b => .bl b
  | _, _, .int i => .int i
  | _, _, .str s z => .str s z
  | _, _, .tup h z r => .tup h z (Reps.into nw r)
  | _, _, .kt h z r => .kt h z (Reps.into nw r)
  | _, _, .lst h z r => .lst h z (Reps.into nw r)
  | _, _, .scr h z r => .scr h z (Reps.into nw r)
  | _, _, .ty t => .ty t
  | _, _, .dctK h r => .dctK h (RepK.into nw r)
  | _, _, .dctT h r => .dctT h (RepT.into nw r)
  | _, _, .ref h => .ref h
  | _, _, .cls h => .cls h
  | _, _, .exc h e r => .exc h e (Rep.into nw r)
  | _, _, .fn a b h e => .fn (setC_new nw a) b h e
theorem Reps.into (nw : g.cl n = none) : ∀ {d v}, Reps g F μ d v → Reps (setC g n ce) F μ d v
  | _, _, .nil => .nil
  | _, _, .cons a b => .cons (Rep.into nw a) (Reps.into nw b)
theorem RepK.into (nw : g.cl n = none) : ∀ {d v}, RepK g F μ d v → RepK (setC g n ce) F μ d v
  | _, _, .nil => .nil
  | _, _, .cons k a b => .cons k (Rep.into nw a) (RepK.into nw b)
theorem RepT.into (nw : g.cl n = none) : ∀ {d v}, RepT g F μ d v → RepT (setC g n ce) F μ d v
  | _, _, .nil => .nil
  | _, _, .cons k a b => .cons k (Rep.into nw a) (RepT.into nw b)
end
mutual
theorem Rep.outof : ∀ {d v}, Rep (setC g n ce) F μ d v → nofn n d = true → Rep g F μ d v
  | _, _, .non, _ => .non
  | _, _, .bl b, _ => .bl b
  | _, _, .int i, _ => .int i
  | _, _, .str s z, _ => .str s z
  | _, _, .tup h z r, k => .tup h z (Reps.outof r (by simpa only [nofn] using k))
  | _, _, .kt h z r, k => .kt h z (Reps.outof r (by simpa only [nofn] using k))
  | _, _, .lst h z r, k => .lst h z (Reps.outof r (by simpa only [nofn] using k))
  | _, _, .scr h z r, k => .scr h z (Reps.outof r (by simpa only [nofn] using k))
  | _, _, .ty t, _ => .ty t
  | _, _, .dctK h r, k => .dctK h (RepK.outof r (by simpa only [nofn] using k))
  | _, _, .dctT h r, k => .dctT h (RepT.outof r (by simpa only [nofn] using k))
  | _, _, .ref h, _ => .ref h
  | _, _, .cls h, _ => .cls h
  | _, _, .exc h e r, k => .exc h e (Rep.outof r (by simpa only [nofn] using k))
  | _, _, .fn a b h e, k => .fn (setC_old a (of_decide_eq_true (by simpa only [nofn] using k))) b h e
theorem Reps.outof : ∀ {d v}, Reps (setC g n ce) F μ d v → nofnL n d = true → Reps g F μ d v
  | _, _, .nil, _ => .nil
  | _, _, .cons a b, k => by
    simp only [nofnL] at k
    exact .cons (Rep.outof a (an k).1) (Reps.outof b (an k).2)
theorem RepK.outof : ∀ {d v}, RepK (setC g n ce) F μ d v → nofnP n d = true → RepK g F μ d v
  | _, _, .nil, _ => .nil
  | _, _, .cons q a b, k => by
    simp only [nofnP, nofnQ] at k
    exact .cons q (Rep.outof a (an k).1) (RepK.outof b (an k).2)
theorem RepT.outof : ∀ {d v}, RepT (setC g n ce) F μ d v → nofnP n d = true → RepT g F μ d v
  | _, _, .nil, _ => .nil
  | _, _, .cons q a b, k => by
    simp only [nofnP, nofnQ] at k
    exact .cons q (Rep.outof a (an k).1) (RepT.outof b (an k).2)
end
theorem RepO.into (nw : g.cl n = none) {o : O} {u : HO} (r : RepO g F μ o u) : RepO (setC g n ce) F μ o u := by
  cases r with
  | lst z r => exact .lst z (r.into nw)
  | dctK r => exact .dctK (r.into nw)
  | dctT r => exact .dctT (r.into nw)
theorem RepO.outof {o : O} {u : HO} (r : RepO (setC g n ce) F μ o u) (k : nofnO n o = true) : RepO g F μ o u := by
  cases r with
  | lst z r => exact .lst z (r.outof k)
  | dctK r => exact .dctK (r.outof k)
  | dctT r => exact .dctT (r.outof k)
theorem SRel.into (nw : g.cl n = none) (s : SRel g F μ h G H) : SRel (setC g n ce) F μ h G H :=
  ⟨s.sub, s.len, fun i o e => let ⟨a, u, h1, h2, h3, h4, h5⟩ := s.live i o e; ⟨a, u, h1, h2, h3, h4, h5.into nw⟩, s.inj, s.fr, s.tb, s.nt, s.nc⟩
theorem SRel.outof (s : SRel (setC g n ce) F μ h G H) (k : h.all (nofnS n) = true) : SRel g F μ h G H :=
  ⟨s.sub, s.len, fun i o e => let ⟨a, u, h1, h2, h3, h4, h5⟩ := s.live i o e; ⟨a, u, h1, h2, h3, h4, h5.outof (List.all_eq_true.mp k _ (List.mem_of_getElem? e))⟩, s.inj, s.fr, s.tb, s.nt, s.nc⟩
/-- a frame that makes lambdas ends: none of them is left -/
def leave (mk : Bool) (n : Nat) (r : R D) : R D := match mk with
  | false => r
  | true => match r with
    | .ok d h => if nofn n d && h.all (nofnS n) then .ok d h else .bad
    | .exc c d h => if nofn n d && h.all (nofnS n) then .exc c d h else .bad
    | .bad => .bad
theorem leave_ok {Q : VK} {r : R D} (p : post g (relD g) W F μ G σ Q (leave true n r)) : post (setC g n ce) (relD (setC g n ce)) W F μ G σ Q r := by
  unfold leave at p
  cases r with
  | bad => exact p
  | ok d h =>
    dsimp only at p
    split at p
    · rename_i k
      exact fun F' μ' H' v x s q => p F' μ' H' v x (s.outof (an k).2) (q.outof (an k).1)
    · exact p.elim
  | exc c d h =>
    dsimp only at p
    split at p
    · rename_i k
      exact fun F' μ' H' dd v x s q e => (show excP g W F μ G σ c d h from p) F' μ' H' dd v x (s.outof (an k).2) (q.outof (an k).1) e
    · exact p.elim
end
end Zs

/-! Fs -/
noncomputable section
namespace Zs
open PySem PySem.Spec L2
open PyProof.Rows hiding St

/-! ## an own error's __init__: super().__init__(value), self.value = value -/
section
open PySem.W
variable {prog : Program} {w : World} {A : Around} {E : Value → Shared → Prop} {h : Heap} {g : Array GenState} {d : Drawn} {t : Nat} {os : OsState}
variable {nm q : Str} {C N : Addr} {bs bm : List Value} {hdct : Bool} {sn : List Str} {sub : List Value} {ab : Bool} {col : Option Bool} {dd : Option Addr} {k0 k1 k2 k3 k5 : Option Value}
/-- the bound ValueError.__init__ called -/
theorem mw_call {u e t0 : Addr} {rest : List Value} {Q : Value → Shared → Prop}
    (hC : h.get? C = some (excClassObj nm q C N bs bm hdct sn sub ab col dd k0 k1 k2 k3 k5 "ValueError.__new__")) (he : h.get? e = some (PySem.HandSPX.excO C t0)) (hu : h.get? u = some (kxs_mw "ValueError.__init__" e)) (hrest : rest.length ≤ sizeLine)
    (hq : ∀ h' t1, (∀ b o, b ≠ e → h.get? b = some o → h'.get? b = some o) → h'.get? e = some (PySem.HandSPX.excO C t1) → Q .none ⟨h', g, d, t, os⟩) :
    wpAny (model prog w) A (call (.ref u) rest) Q E ⟨h, g, d, t, os⟩ := by
  refine wpAny_call (codeAny_of_tree ?_)
  show wpAny _ A.in1 (callAny (.ref u) ⟨rest, []⟩) _ _ _
  simp only [callAny]
  refine wpAny_bind (wpAny_load hu ?_)
  simp only [kxs_mw, show (Value.type "method-wrapper" == Value.type "method" || Value.type "method-wrapper" == Value.type "builtin_function_or_method" || Value.type "method-wrapper" == Value.type "method-wrapper") = true by decide, if_true]
  refine KFB.if_so (by decide) ?_
  refine wpAny_bind (check_bound_init F.excBase_ValueError.toExcCallFacts hC he rfl ?_)
  refine wpAny_bind (wpAny_pure (wpAny_pure ?_))
  refine ⟨plainId_quiet F.excBase_ValueError.init.plain _, codeAny_builtin F.excBase_ValueError.initEntry ?_⟩
  rw [Around.under_plainId F.excBase_ValueError.init.plain _]
  wp_walk
  refine hq _ h.objs.size (fun b o hb ho => ?_) ?_
  · rw [Heap.get?_update_other _ _ (Ne.symm hb)]
    exact Heap.get?_push_of_some _ ho
  · rw [Heap.get?_update_self _ (Heap.get?_push_of_some _ he) rfl]
    rfl
end
def iniCx (CX : CXT) (P : Program) (w : World) (K : PySem.W.Frag) (mg : Str → Option Value) (base : Heap) (qual : Str) (scope : Scope) (f : Addr) (cd : Value) (cc : Addr) (A : Around) (outer : List Env) (s : Shared) (H : Hp) (E : XK) : Cx where
  prog := P
  w := w
  K := K
  mg := mg
  base := base
  A := A.deeper (PySem.W.ksEnv qual scope s.heap.objs.size f cd cc)
  N := ["self", "value"]
  s_0 := s
  H_0 := H
  env := PySem.W.ksEnv qual scope s.heap.objs.size f cd cc
  outer := outer
  stack := PySem.W.ksEnv qual scope s.heap.objs.size f cd cc :: outer
  ex := []
  calm := true
  fn := fun _ => false
  pn := []
  xe := fun e s' => wpAny (model P w) (A.deeper (PySem.W.ksEnv qual scope s.heap.objs.size f cd cc)) (leaving (PySem.W.ksEnv qual scope s.heap.objs.size f cd cc) e) (fun _ s'' => CX outer H s E e s'') (fun e' s'' => CX outer H s E e' s'') s'
/-- the names of such a def -/
def iniSc (sc : Scope) : Bool := decide (sc.kind = .function) && !sc.isCoroutine && !sc.isGenerator && decide (sc.names.lookup ("self" : Str) = some .local) && decide (sc.names.lookup ("value" : Str) = some .local) && decide (sc.names.lookup ("super" : Str) = some .globalImplicit) &&
  decide (sc.names.lookup ("__class__" : Str) = some .free) && sc.names.all fun y => !decide (y.2 = .cell) && (!decide (y.2 = .free) || decide (y.1 = ("__class__" : Str)))
structure IniSc (sc : Scope) : Prop where
  kind : sc.kind = .function
  co : sc.isCoroutine = false
  gen : sc.isGenerator = false
  self : sc.names.lookup ("self" : Str) = some .local
  val : sc.names.lookup ("value" : Str) = some .local
  sup : sc.names.lookup ("super" : Str) = some .globalImplicit
  cls : sc.names.lookup ("__class__" : Str) = some .free
  noc : ∀ y ∈ sc.names, y.2 ≠ .cell
  free : ∀ y ∈ sc.names, y.2 = .free → y.1 = ("__class__" : Str)
theorem iniSc_of {sc : Scope} (h : iniSc sc = true) : IniSc sc := by
  unfold iniSc at h
  simp only [Bool.and_eq_true, Bool.or_eq_true, Bool.not_eq_true', decide_eq_true_eq, decide_eq_false_iff_not, List.all_eq_true] at h
  obtain ⟨⟨⟨⟨⟨⟨⟨h1, h2⟩, h3⟩, h4⟩, h5⟩, h6⟩, h7⟩, h8⟩ := h
  refine ⟨h1, h2, h3, h4, h5, h6, h7, fun y hy => (h8 y hy).1, fun y hy e => ?_⟩
  rcases (h8 y hy).2 with z | z
  · exact absurd e z
  · exact z
theorem ini_start {CX : CXT} {P : Program} {w : World} {K : PySem.W.Frag} {mg : Str → Option Value} {base : Heap} {qual : Str} {scope : Scope} {f cc : Addr} {cd : Value} {A : Around} {outer : List Env} {s : Shared} {h1 : Heap} {tk : Nat} {H : Hp} {E : XK} {u0 u1 : Value} {v0 v1 : V} {cv : Option Value} {oc : Obj}
    (S : IniSc scope) (hd : A.handled = none) (e0 : Env0 P w K mg base A outer s H) (r0 : RelV v0 u0) (r1 : RelV v1 u1) (hc : base.get? cc = some oc) (hcd : oc.data = .cell cv)
    (hns : h1.Ns s.heap.objs.size fun y => ([("self", u0), ("value", u1)] : List (Str × Value)).reverse.lookup y) (kp : ∀ b o, s.heap.get? b = some o → h1.get? b = some o) :
    Inv (iniCx CX P w K mg base qual scope f cd cc A outer s H E) [] [some v0, some v1] H { s with heap := h1, toks := tk } := by
  have noA : ∀ b : Addr, b ∉ (iniCx CX P w K mg base qual scope f cd cc A outer s H E).ex := fun b z => absurd (show b ∈ ([] : List Addr) from z) (by simp)
  have only : ∀ {y : Str} {c : Addr}, ([("__class__", cc)] : List (Str × Addr)).lookup y = some c → y = ("__class__" : Str) ∧ c = cc := fun {y c} e => by
    have := PySem.mem_of_lookup e
    rw [List.mem_singleton] at this
    cases this
    exact ⟨rfl, rfl⟩
  have hcell : h1.IsCell cc cv := ⟨oc, kp _ _ (e0.bs cc oc hc).1, hcd⟩
  refine ⟨⟨e0.mod, S.kind, rfl, rfl, Nat.le_refl _, fun y z c e1 e2 => ((only e1).1).trans ((only e2).1).symm, fun y hy => ?_, fun y c z _ => absurd (show false = true from z) (by simp), fun _ => hd, Around.frames_deeper e0.frames, .inr ⟨rfl, rfl⟩, fun b z => absurd z (noA b), e0.bs, e0.bsz, fun b _ _ => noA b,
      fun b z => absurd z (noA b), e0.funs, e0.frf⟩,
    rfl, e0.bare, Un.kept kp, ⟨_, hns, fun i y v e1 e2 e3 => ?_⟩, fun y c e => ?_, e0.hok.fresh (Nat.le_refl _), fun y c e => ?_, fun q hq => absurd (show q ∈ ([] : List (Addr × Obj)) ++ [] from hq) (by simp), e0.hok.kept kp, rfl⟩
  · have hy : scope.names.lookup y = some .cell ∨ scope.names.lookup y = some .free := hy
    rcases hy with hy | hy
    · exact absurd rfl (S.noc _ (PySem.mem_of_lookup hy))
    · have := S.free _ (PySem.mem_of_lookup hy) rfl
      dsimp only at this
      subst this
      exact ⟨cc, rfl⟩
  · have e1 : (["self", "value"] : List Str)[i]? = some y := e1
    match i, e1, e2 with
    | 0, e1, e2 =>
      simp at e1 e2
      subst e1 e2
      exact ⟨u0, r0, .inl ⟨S.self, rfl⟩⟩
    | 1, e1, e2 =>
      simp at e1 e2
      subst e1 e2
      exact ⟨u1, r1, .inl ⟨S.val, rfl⟩⟩
    | n + 2, e1, e2 => simp at e1
  · obtain ⟨_, rfl⟩ := only e
    exact ⟨cv, hcell⟩
  · obtain ⟨_, rfl⟩ := only e
    exact (e0.bs _ _ hc).2
theorem mcall_eq {o : Expr} {name x : Str} {apos pos xp : Pos} {env : Env} (hl : (apos.endLine == pos.line) = true) : eval (.Call (.Attribute o name apos) [.Name x xp] [] pos) env = (do
      let ov ← attributeBase o name env (eval o env)
      standAt apos.atName
      let (f, first) ← holding [ov] (getMethod ov name (do return (← importBound o env).getD true))
      callWith pos f first (backTo pos (starEach [.Name x xp] env)) []) := by
  show (do
      let ov ← attributeBase o name env (eval o env)
      standAt apos.atName
      methodCall o name apos pos env ov 1 (backTo pos (starEach [.Name x xp] env)) []) = _
  have hf : methodCallForm 1 (backTo pos (starEach [.Name x xp] env)) [] = true := by rfl
  unfold methodCall methodCallPos calleeOf
  rw [hf]
  simp only [Bool.not_true, Bool.false_or, hl, if_true, pure_bind]
/-- what __init__ of the class D does to an error of C -/
def spIni (K : PySem.W.Frag) (D : Addr) : Sp := fun vs H Q _ => ∃ (a C : Addr) (v : V), vs = [.ref a, v] ∧ OexC K C ∧ PySem.W.mroIn K C (.ref D) = some true ∧ PySem.W.ks_superIn K C D "__init__" = some (some (.builtin "ValueError.__init__")) ∧
  PySem.W.subIn K (.ref C) (.type "ValueError") = some true ∧ PySem.W.findIn K (.ref C) "value" = some none ∧ H a = some (exo a C none) ∧
  ∀ dx, H dx = none → dx ≠ a → Q .non (upd (upd H dx (exd dx [("value", v)])) a (exo a C (some dx)))
abbrev iniBody (p0 p1 p2 p3 p4 p5 p6 p7 p8 p9 : Pos) : List Stmt :=
  [.Expr (.Call (.Attribute (.Call (.Name "super" p0) [] [] p1) "__init__" p2) [.Name "value" p3] [] p4) p5, .Assign [.Attribute (.Name "self" p6) "value" p7] (.Name "value" p8) p9]
theorem ini_fn {CX : CXT} {P : Program} {w : World} {K : PySem.W.Frag} {mg : Str → Option Value} {base : Heap} {k : Nat} {f cc cda D : Addr} {name qual : Str} {params : Arguments} {scope : Scope} {dV kV doc pm ct oc : Value} {an od : Option Addr} {osl : Array (Option Value)}
    {p0 p1 p2 p3 p4 p5 p6 p7 p8 p9 : Pos} {ar : Arg} {vs0 : Array Value} {file : Str} {tf : Tok} {ccl cl : Value} {cdd cld : Option Addr} {ccs csl : Array (Option Value)} {cdD : ClassData}
    (lk : K.lookup f = some ⟨oc, od, .func (PySem.W.ksFn name qual params (iniBody p0 p1 p2 p3 p4 p5 p6 p7 p8 p9) scope dV kV doc pm an (.ref cda) ct cc), osl⟩) (hcd : PySem.W.codeIn K (.ref cda) qual = true) (S : IniSc scope)
    (hp : (params.posonlyargs ++ params.args).head? = some ar) (har : ar.arg = ("self" : Str)) (hcode : K.lookup cda = some ⟨ccl, cdd, .fields vs0, ccs⟩) (hvs : vs0[2]? = some (.str file tf)) (hfile : ((P.main.file : Str) == file) = true)
    (hcell : K.lookup cc = some ⟨cl, cld, .cell (some (.ref D)), csl⟩) (hD : PySem.W.clsIn K D = some cdD) (hms : mg "super" = none) (htop : (P.main.scope.names.lookup ("super" : Str)).isSome = false) (hno : PySem.W.nsIn K cStatics "thirdparty.any" = some none) (hln : (p2.endLine == p4.line) = true) :
    FnOk P w K mg base CX (k + 1) f (PySem.W.ksFn name qual params (iniBody p0 p1 p2 p3 p4 p5 p6 p7 p8 p9) scope dV kV doc pm an (.ref cda) ct cc) ["self", "value"] (spIni K D) := by
  refine ⟨fun vs H Q E ⟨a, C, v, e, _⟩ => by subst e; rfl, fun A outer s H args us vs Q E hr e0 hb r hsp => ?_⟩
  obtain ⟨a, C, v, rfl, T, hmro, hsup, hsub, hval, ha, q⟩ := hsp
  have KX : K.In s.heap := e0.mod.kin.keeps fun b o e => (e0.bs b o e).1
  have lim : s.heap.NoLimit := e0.mod.nolimit.keeps fun b o e => (e0.bs b o e).1
  obtain ⟨u1, rfl, rv⟩ : ∃ u1, us = [Value.ref a, u1] ∧ RelV v u1 := by
    cases r with
    | @cons _ u0 _ ur ra rr =>
      cases rr with
      | @cons _ u1 _ ur rv rn =>
        cases rn
        obtain rfl : u0 = Value.ref a := ra
        exact ⟨u1, rfl, rv⟩
  refine PySem.ks_codeAny_call_defAt hr.depth (KX _ _ lk) rfl lim (PySem.W.codeRec_of KX hcd) rfl hb S.noc (fun y hy => ?_) (fun h1 hns kp => ?_) S.co S.gen S.kind
  · have hy : y ∈ [(("self" : Str), Value.ref a), (("value" : Str), u1)] := hy
    simp only [List.mem_cons, List.mem_nil_iff, or_false] at hy
    rcases hy with rfl | rfl
    · exact S.self
    · exact S.val
  have I : Inv (iniCx CX P w K mg base qual scope f (.ref cda) cc A outer s H E) [] [some (.ref a), some v] H { s with heap := h1, toks := s.toks + 2 } := ini_start S hr.hd e0 rfl rv (e0.mod.kin _ _ hcell) rfl hns kp
  obtain ⟨oL, es, ep, hL, hrest⟩ := hns
  show PySem.wpAt (model P w) (A.deeper (PySem.W.ksEnv qual scope s.heap.objs.size f (.ref cda) cc)) (.func _ (PySem.W.ksEnv qual scope s.heap.objs.size f (.ref cda) cc)) (execs _ (PySem.W.ksEnv qual scope s.heap.objs.size f (.ref cda) cc)) _ _ { s with heap := h1, toks := s.toks + 2 }
  have K1 : K.In h1 := I.kIn
  obtain ⟨nm, qn, N, bs, bm, sn, sub, ab, col, dd, k0, k1, k2, k3, k5, hC, hbm⟩ := T.cls
  obtain ⟨t0, hx⟩ := exo_at I.hok ha
  obtain ⟨oD, hD1, hD2⟩ : ∃ oD, h1.get? D = some oD ∧ oD.data = .cls cdD := by
    unfold PySem.W.clsIn at hD
    split at hD
    · rename_i c d cd' sl ho
      cases hD
      exact ⟨_, K1 _ _ ho, rfl⟩
    · cases hD
  have inst : PySem.W.InstAt h1 a { cls := .ref C, dict := none, data := .fields #[.ref t0, .none, .none, .none, .bool false, .none] } C none := ⟨hx, rfl, rfl, trivial⟩
  obtain ⟨mb, hb1, hb2⟩ := I.mod.blt
  cases hcC : PySem.W.clsIn K C with
  | none => unfold PySem.W.ks_superIn at hsup; rw [hcC] at hsup; cases hsup
  | some cdC =>
  have hsup' := hsup
  unfold PySem.W.ks_superIn at hsup'
  rw [hcC] at hsup'
  refine PySem.ks_wpAt_execs_cons (PySem.ks_wpAt_Expr_any (PySem.ks_wpAt_MethodCall (pl := _) (PySem.ks_wpAt_super_base S.sup S.cls (by decide) rfl (K1 _ _ lk) rfl hp rfl (K1 _ _ hcode) rfl hvs hfile htop ?_) (mcall_eq hln)) (by simp [interactive, PySem.W.ksEnv, PySem.W.envX, S.kind]))
  refine PySem.W.ks_loadName_global S.kind S.sup (Calls.loadGlobal_builtin (I.mod.glob.keeps I.bk) hms (hb1.keeps I.bk) ((hb2 _ (by decide)).trans (show bootBuiltins "super" = some (.type "super") by rfl)) ⟨rfl, ?_⟩)
  refine wpAny_loadName_free S.kind S.cls rfl ⟨_, K1 _ _ hcell, rfl⟩ ?_
  have hself : ([(("self" : Str), Value.ref a), (("value" : Str), u1)] : List (Str × Value)).reverse.lookup ar.arg = some (Value.ref a) := by rw [har]; rfl
  refine wpAny_loadName_local S.kind (show scope.names.lookup ar.arg = some .local by rw [har]; exact S.self) ⟨oL, es, ep, hL, hrest⟩ hself ?_
  refine PySem.ks_wpAny_isType_cls hD1 hD2 ⟨rfl, ?_⟩
  refine PySem.ks_wpAny_call_super hD1 hD2 hx rfl (fun c e => by cases e) (PySem.W.looks_mroIn K1 hmro) (fun h2 hso k2 => ?_)
  have K2 : K.In h2 := K1.keeps k2
  have inst2 : PySem.W.InstAt h2 a { cls := .ref C, dict := none, data := .fields #[.ref t0, .none, .none, .none, .bool false, .none] } C none := ⟨k2 _ _ hx, rfl, rfl, trivial⟩
  refine PySem.W.kxs_getMethod PySem.W.kxs_ValueError hso (PySem.W.looks_opaque K2 hno) (l₀ := cdC.mro) (fun A Q E s k q => wpAny_bind ((PySem.W.looks_clsIn K2 hcC) A _ E s k (wpAny_pure q))) rfl K2 hsup' (inst2.type.andThen (PySem.W.looks_subIn K2 hsub)) (PySem.W.ks_ne K2 inst2 hcC) (by decide) ?_
  have k3 : ∀ b o, h2.get? b = some o → (h2.push (PySem.W.kxs_mw "ValueError.__init__" a)).get? b = some o := fun b o e => Heap.get?_push_of_some _ e
  have hmw : (h2.push (PySem.W.kxs_mw "ValueError.__init__" a)).get? h2.objs.size = some (PySem.W.kxs_mw "ValueError.__init__" a) := Heap.get?_push_at rfl rfl
  have I3 : Inv (iniCx CX P w K mg base qual scope f (.ref cda) cc A outer s H E) [] [some (.ref a), some v] H { s with heap := h2.push (PySem.W.kxs_mw "ValueError.__init__" a), toks := s.toks + 2 + 1 } := I.kept fun b o e => k3 b o (k2 b o e)
  refine PySem.W.kxs_callWith (i := "ValueError.__init__") (x := a) (by rfl) ?_
  refine Calls.evalArgs_plain (Calls.spliced_cons (PySem.ESX.ldL (m := fun y => ([(("self" : Str), Value.ref a), (("value" : Str), u1)] : List (Str × Value)).reverse.lookup y) ⟨oL, es, ep, k3 _ _ (k2 _ _ hL), hrest⟩ rfl ?_ S.kind S.val))
  refine Calls.spliced_nil ⟨hmw, ?_⟩
  refine mw_call (K2.keeps k3 _ _ hC) (k3 _ _ (k2 _ _ hx)) hmw (by show 1 ≤ sizeLine; rw [sizeLine_eq]; omega) fun h4 t1 k4 hx4 => ?_
  have I4 : Inv (iniCx CX P w K mg base qual scope f (.ref cda) cc A outer s H E) [] [some (.ref a), some v] H { s with heap := h4, toks := s.toks + 2 + 1 } := by
    have J := I3.write (t' := s.toks + 2 + 1) (h' := h4) (x := a) (e := a) (o := exo a C none) (by rw [ha]; exact True.intro) (.inl rfl) k4 ⟨_, hx4⟩ (exo_ok hx4)
    have eu : upd H a (exo a C none) = H := by
      funext b
      by_cases hb : b = a
      · rw [hb, upd_same, ha]
      · rw [upd_ne hb]
    rw [eu] at J
    exact J
  have hps := pss_one (ps_ost (X := iniCx CX P w K mg base qual scope f (.ref cda) cc A outer s H E) (f := "value") (p' := p7) (pos := p9) (pe_var (i := 0) (x := "self") (pos := p6) rfl (.inl S.self)) (pe_var (i := 1) (x := "value") (pos := p8) rfl (.inl S.val)))
  refine wpAt_of_wpAny (wpAny_mono (hps.run [] _ _ H { nx := fun _ H' => Q .non H', rt := Q } I4 ⟨v, rfl, .ref a, rfl, a, C, rfl, T, hval, .inl ⟨ha, q⟩⟩) (fun fl s' hs => ?_) fun e s' hs => hs)
  have fin : ∀ {σ' : L2.St} {H' : Hp} {v : V} {u : Value}, Inv (iniCx CX P w K mg base qual scope f (.ref cda) cc A outer s H E) [] σ' H' s' → RelV v u → Q v H' → L2.CE outer P w H s Q u s' :=
    fun {σ' H' v u} J rv q => ⟨v, H', J.os, J.bare, J.base, J.hok, rv, q⟩
  cases fl with
  | ret u =>
    obtain ⟨v, σ', H', J, rv, q⟩ := hs
    exact fin J rv q
  | next =>
    obtain ⟨σ', H', J, q⟩ := hs
    exact fin (v := V.non) (u := Value.none) J rfl q
  | brk =>
    obtain ⟨_, _, _, q⟩ := hs
    exact False.elim q
  | cont =>
    obtain ⟨_, _, _, q⟩ := hs
    exact False.elim q
end Zs
end

/-! Ft -/
noncomputable section
namespace Zs
open PySem PySem.Spec L2
open PyProof.Rows hiding St
open Classical

/-! ## errors: a caught one held as a value -/
section
variable {X : Cx} {pins : List (Addr × Obj)} {σ : L2.St} {H : Hp} {s : Shared}
/-- a young thing that nobody tells of yet is told -/
theorem inv_track {a : Addr} {o : HO} (I : Inv X pins σ H s) (h0 : X.s_0.heap.get? a = none) (hn : H a = none) (hL : a ≠ X.env.locals) (hc : ∀ x c, X.env.cells.lookup x = some c → c ≠ a) (hp : ∀ p ∈ X.pn ++ pins, p.1 ≠ a)
    (new : ObjOk X.prog X.w (upd H a o) s.heap a o) : Inv X pins σ (upd H a o) s := by
  refine ⟨I.ok, I.os, I.bare, ⟨I.base.keep, I.base.slot, fun b u e n q => ?_, I.base.there, fun b xs e => ?_, fun b u xs e => ?_, fun b ps e => ?_⟩, I.loc, I.cell, ?_, fun x c e => ?_, fun p q => ?_, HOk.laidN I.hok (fun _ _ q => q) hn new, I.len⟩
  · rw [upd_ne (fun z => by rw [z, h0] at e; cases e)]
    exact I.base.free b u e n q
  · have q := I.base.tups b xs e
    rw [upd_ne (ne_of_none q hn)]; exact q
  · have q := I.base.frzs b u xs e
    rw [upd_ne (ne_of_none q hn)]; exact q
  · obtain ⟨m, q⟩ := I.base.tbls b ps e
    exact ⟨m, by rw [upd_ne (ne_of_none q hn)]; exact q⟩
  · rw [upd_ne (Ne.symm hL)]; exact I.free
  · rw [upd_ne (hc x c e)]; exact I.freeC x c e
  · obtain ⟨e, n, ne, nf, d⟩ := I.pin p q
    exact ⟨e, by rw [upd_ne (hp p q)]; exact n, ne, nf, d⟩
theorem inv_suite0 (I : Inv X pins σ H s) (a : Addr) : Inv (X.suite a (X.pn ++ pins)) [] σ H s :=
  ⟨I.ok.suite _ _, I.os, I.bare, I.base, I.loc, I.cell, I.free, I.freeC, fun p hp => I.pin p (by rw [List.append_nil] at hp; exact hp), I.hok, I.len⟩
theorem inv_unsuite0 {a : Addr} {pn' : List (Addr × Obj)} (I : Inv (X.suite a (X.pn ++ pins)) pn' σ H s) (ok : X.Ok) : Inv X pins σ H s :=
  ⟨ok, I.os, I.bare, I.base, I.loc, I.cell, I.free, I.freeC, fun p hp => I.pin p (List.mem_append_left _ hp), I.hok, I.len⟩
end
/-- what 'except x as n' wishes of the body's errors: the caught one stands in slot i as a value -/
def wAsV (K : PySem.W.Frag) (c : Value) (i : Nat) (ts : TS) (Wout : WX) (D : Ends) : WX := fun cls d σ H =>
  ∃ b, PySem.W.exmOne K cls c = some b ∧ (b = true → ∃ dd, d = some dd ∧ ∀ a, H a = none → ts { nx := fun σ' H' => D.nx (σ'.set i none) H', rt := D.rt, bk := fun σ' H' => D.bk (σ'.set i none) H', ct := fun σ' H' => D.ct (σ'.set i none) H' } (σ.set i (some (.ref a))) (upd H a (ExV cls dd a))) ∧
    (b = false → Wout cls d σ H)
section
variable {X : Cx} {x n : Str} {c : Value} {i : Nat} {body suite : List Stmt} {b₀ : Stmt} {np pos pos' : Pos} {tb : WX → TS} {ts : TS} {Wout : WX}
theorem ps_tryV (hs : X.stack = X.env :: X.outer) (hf : X.env.frame = some X.env.locals) (hex : X.ex = []) (hN : X.N.Nodup) (hi : X.N[i]? = some n) (hln : X.env.kindOf n = some .local) (hc : Names X x c) (tk : Takes X Wout)
    (hb : ∀ (W : WX) (pn : List (Addr × Obj)) (xe : Value → Shared → Prop), Takes (X.tr pn xe) W → PassesOwn (model X.prog X.w) X.A X.env xe → PSs (X.tr pn xe) body (tb W))
    (hsu : ∀ (a : Addr) (pn : List (Addr × Obj)), PSs (X.suite a pn) (b₀ :: suite) ts) :
    PS X (.Try body [.ExceptHandler (some (.Name x np)) (some n) (b₀ :: suite) pos'] [] [] pos) (fun D σ H => tb (wAsV X.K c i ts Wout D) D σ H) := by
  refine ⟨fun pins s σ H D I h => ?_⟩
  have ok := I.ok
  have hfr : X.A.frames = some (X.env :: X.outer) := by rw [ok.frames, hs]
  have hloc : Loc X.env.scope n := .inl hln
  refine wpAny_Try_except ?_
  refine wpAny_mono ((hb (wAsV X.K c i ts Wout D) (X.pn ++ pins) (fun e s₁ => wpAny (model X.prog X.w) X.A (noteFrame e X.env) (fun _ s₂ => wpAny (model X.prog X.w) X.A (setFlight e none) (fun _ s₃ =>
    wpAny (model X.prog X.w) X.A (handleBy e X.env [.ExceptHandler (some (.Name x np)) (some n) (b₀ :: suite) pos']) (SP X pins D) X.xe s₃) X.xe s₂) X.xe s₁) (fun u s' xx => ?_) PassesOwn.looking).run [] s σ H D (I.toTry _) h) (fun f s1 hsp => ?_) (fun e s1 he => he)
  · -- the catch
    obtain ⟨a, B, sI, pins', σ', H', cls, d, rfl, J', nb, up, sky, na, os, ag, b, hb1, hyes, hno⟩ := xx
    have J : Inv X pins σ' H' sI := J'.ofTry ok
    have sky' : Sky B (X.env :: X.outer) a (Zc cls d) X.env.locals s'.heap := by rw [← hs]; exact sky
    show wpAny (model X.prog X.w) X.A (noteFrame (.ref a) X.env) _ _ _
    refine Sky.land Zc.steady hfr hf sky' fun h3 fl3 up3 => ?_
    have J3 : Inv X pins σ' H' { s' with heap := h3 } := J.landed nb fl3.1 (up.trans up3) os ag
    obtain ⟨oe3, vs3, he3, hz3, hd3⟩ := fl3.there
    have notFr : ∀ {h : Heap} {o : Obj} {vs : Array Value}, h.FunFrames B (X.env :: X.outer) → h.get? a = some o → o.data = .fields vs → a ∉ frs (X.env :: X.outer) := fun {h o vs} ff e dd hm => by
      obtain ⟨_, o', e', hnf⟩ := ff.mem hm
      rw [e] at e'; cases e'
      exact hnf _ dd
    have nfr := notFr fl3.2.2.1 he3 hd3
    have nL : a ≠ X.env.locals := fun z => nfr (List.mem_filterMap.mpr ⟨X.env, List.mem_cons_self, by rw [hf, z]⟩)
    have nF : a ∉ X.fs := fun hm => by
      obtain ⟨e, he, q⟩ := List.mem_filterMap.mp hm
      exact nfr (List.mem_filterMap.mpr ⟨e, List.mem_cons_of_mem _ he, q⟩)
    have nI : sI.heap.get? a = none := by
      cases e : sI.heap.get? a with
      | none => rfl
      | some o =>
        have z := nb a o e (by rw [hs]; exact nfr)
        rw [fl3.2.1] at z; cases z
    have n0 : X.s_0.heap.get? a = none := by
      cases e : X.s_0.heap.get? a with
      | none => rfl
      | some o =>
        obtain ⟨o', z⟩ := J.base.there a o e (by rw [hex]; exact fun z => nomatch z)
        rw [nI] at z; cases z
    have S3 := J3.suite he3 hd3 na nL nF
    refine wpAny_handleBy_cons (codeAny_handlers_test ?_) (by intro q; cases q)
    have LT : PySem.W.Looks (model X.prog X.w) h3 (typeOf (.ref a)) cls := fun A Q E s k q => wpAny_typeOf_ref (k _ _ he3) (by rw [hz3.1]; exact q)
    have LM := PySem.W.exm_one (M := model X.prog X.w) (J3.kIn) LT hb1
    have test : ∀ {Q : Value → Shared → Prop} {E : Value → Shared → Prop}, Q c { s' with heap := h3 } → wpAny (model X.prog X.w) (X.A.mark (some (.ref a))) (eval (.Name x np) X.env) Q E { s' with heap := h3 } := fun {Q E} q => by
      obtain ⟨hg, hdbg, hm | ⟨hm, hv, hnn⟩⟩ := hc
      · exact ld_glob (X := X.suite a ((a, oe3) :: (X.pn ++ pins))) S3 hg hm q hdbg
      · exact ld_blt (X := X.suite a ((a, oe3) :: (X.pn ++ pins))) S3 hg hm hv q hnn hdbg
    refine test (LM.here ?_)
    cases b with
    | true =>
      obtain ⟨dd, rfl, hyes2⟩ := hyes rfl
      refine codeAny_handlers_suite_as ?_
      refine HandSPX.lands_againZ fl3 fun h4 fl4 up4 => ?_
      have J4 : Inv X pins σ' H' { s' with heap := h4 } := J.landed nb fl4.1 ((up.trans up3).trans up4) os ag
      obtain ⟨oe4, vs4, he4, hz4, hd4⟩ := fl4.there
      have T4 : Inv X pins σ' (upd H' a (ExV cls dd a)) { s' with heap := h4 } := inv_track J4 n0 na nL (fun y cc e z => by
          obtain ⟨v, o, ho, hcell⟩ := J4.cell y cc e
          subst z
          have ho : h4.get? cc = some o := ho
          rw [he4] at ho; cases ho
          rw [hd4] at hcell; cases hcell) (fun p hp z => by
          obtain ⟨e, _⟩ := J.pin p hp
          rw [z, nI] at e; cases e) (exV_ok he4 hz4 hd4)
      have S4 := inv_suite0 T4 a
      refine store_ok (X := X.suite a (X.pn ++ pins)) (v := .ref a) S4 hN hi hloc rfl (fun s5 S5 => ?_) (.inr hln)
      refine wpAny_mono ((hsu a (X.pn ++ pins)).run [] s5 _ _ _ S5 (hyes2 a na)) (fun f s6 hsp => ?_) (fun _ _ z => False.elim z)
      have end_ : ∀ {σ6 : L2.St} {H6 : Hp} {Q : Shared → Prop}, Inv (X.suite a (X.pn ++ pins)) [] σ6 H6 s6 → (∀ s7, Inv X pins (σ6.set i none) H6 s7 → Q s7) →
          wpAny (model X.prog X.w) X.A (do bindName X.env n .none; unbindBehindTheSuite X.env n pos') (fun _ s7 => Q s7) X.xe s6 := fun {σ6 H6 Q} S6 hq => gone_ok (inv_unsuite0 S6 ok) hN hi hln hq
      cases f with
      | next =>
        obtain ⟨σ6, H6, S6, q6⟩ := hsp
        exact end_ S6 fun s7 J7 => ⟨_, _, J7, q6⟩
      | brk =>
        obtain ⟨σ6, H6, S6, q6⟩ := hsp
        exact end_ S6 fun s7 J7 => ⟨_, _, J7, q6⟩
      | cont =>
        obtain ⟨σ6, H6, S6, q6⟩ := hsp
        exact end_ S6 fun s7 J7 => ⟨_, _, J7, q6⟩
      | ret u =>
        obtain ⟨v6, σ6, H6, S6, r6, q6⟩ := hsp
        exact end_ S6 fun s7 J7 => ⟨_, _, _, J7, r6, q6⟩
    | false =>
      show wpAny _ X.A (handleBy (.ref a) X.env []) _ _ _
      refine wpAny_handleBy_nil ?_
      obtain ⟨k1, k2, k3, oe, vs, T, oT, ts', he, hz, hd, h1, hr⟩ := id fl3
      unfold PySem.passOn
      refine wpAny_bind (wpAny_field he hd h1 ?_)
      rw [if_neg (show ¬ ((Value.ref T == Value.none) = true) from by simp)]
      have fin : wpAny (model X.prog X.w) X.A (setFlight (.ref a) X.env.frame) (fun _ s4 => wpAny (model X.prog X.w) X.A (throw (.ref a) : Sem Flow) (SP X pins D) X.xe s4) X.xe { s' with heap := h3 } := by
        rw [hf]
        refine HandSPX.setFlight_upZ fl3 fun h4 hh4 up4 => wpAny_throw (tk _ _ ?_)
        exact ⟨a, B, sI, pins, σ', H', cls, d, rfl, J, nb, (up.trans up3).trans up4, .inr (.inr (by rw [hs]; exact hh4)), na, os, ag, hno rfl⟩
      first
        | exact wpAny_bind (wpAny_pure (wpAny_bind fin))
        | exact wpAny_bind fin
  · cases f with
    | next =>
      obtain ⟨σ', H', J', q⟩ := hsp
      exact wpAny_execs_nil ⟨σ', H', J'.ofTry ok, q⟩
    | brk =>
      obtain ⟨σ', H', J', q⟩ := hsp
      exact ⟨σ', H', J'.ofTry ok, q⟩
    | cont =>
      obtain ⟨σ', H', J', q⟩ := hsp
      exact ⟨σ', H', J'.ofTry ok, q⟩
    | ret u =>
      obtain ⟨v, σ', H', J', r, q⟩ := hsp
      exact ⟨v, σ', H', J'.ofTry ok, r, q⟩
end

/-! ### try .. except C as n: .. -/
def sTry (sub : Str → Option Bool) (i : Nat) (mb ms : SM) : SM := fun ρ h => match mb ρ h with
  | .ok (.exc c v ρ1) h1 => (match sub c with
    | some true => (match ms (ρ1.set i (some (.exc c v))) h1 with
      | .ok (.nx ρ2) h2 => .ok (.nx (ρ2.set i none)) h2
      | .ok (.brk ρ2) h2 => .ok (.brk (ρ2.set i none)) h2
      | .ok (.ret d) h2 => .ok (.ret d) h2
      | _ => .bad)
    | some false => .ok (.exc c v ρ1) h1
    | none => .bad)
  | r => r
section
variable {g : Gm} {W : WX} {X : Cx} {x n : Str} {cv : Value} {i : Nat} {body suite : List Stmt} {b₀ : Stmt} {np pos pos' : Pos} {mb ms : SM}
theorem ss_try {sub : Str → Option Bool} (hK : X.K = g.K) (hs : X.stack = X.env :: X.outer) (hf : X.env.frame = some X.env.locals) (hex : X.ex = []) (hN : X.N.Nodup) (hi : X.N[i]? = some n) (hln : X.env.kindOf n = some .local) (hc : Names X x cv) (tk : Takes X W)
    (hsub : ∀ c b, sub c = some b → PySem.W.exmOne g.K (.ref (cAd g.K c)) cv = some b)
    (hb : ∀ (W : WX) (pn : List (Addr × Obj)) (xe : Value → Shared → Prop), Takes (X.tr pn xe) W → PassesOwn (model X.prog X.w) X.A X.env xe → PSs (X.tr pn xe) body (tS g W mb))
    (hsu : ∀ (a : Addr) (pn : List (Addr × Obj)), PSs (X.suite a pn) (b₀ :: suite) (tS g WF ms)) :
    PS X (.Try body [.ExceptHandler (some (.Name x np)) (some n) (b₀ :: suite) pos'] [] [] pos) (tS g W (sTry sub i mb ms)) :=
  (ps_tryV hs hf hex hN hi hln hc tk hb hsu).imp fun D σ H ⟨F, μ, h, G, ρ, s, en, q⟩ => ⟨F, μ, h, G, ρ, s, en, by
    rw [hK]
    unfold sTry at q
    cases e1 : mb ρ h with
    | bad => rw [e1] at q; exact q
    | exc c x h1 => rw [e1] at q; exact q
    | ok f h1 =>
      rw [e1] at q
      cases f with
      | nx ρ1 => exact q
      | brk ρ1 => exact q
      | ret d => exact q
      | exc c x ρ1 =>
        intro F' μ' σ' x1 en1 F2 μ2 H2 dd v x2 s2 rv edd
        dsimp only at q
        cases e2 : sub c with
        | none => rw [e2] at q; exact q.elim
        | some b =>
          rw [e2] at q
          refine ⟨b, hsub c b e2, fun hb => ?_, fun hb => ?_⟩
          · subst hb
            refine ⟨dd, rfl, fun a na => ?_⟩
            obtain ⟨s3, x3⟩ := s2.know (o := ExV (.ref (cAd g.K c)) dd a) na
            refine ⟨_, μ2, h1, G, ρ1.set i (some (.exc c x)), s3, ((en1.mono x2).mono x3).set (.exc upd_same (x3.f _ _ edd) (rv.mono x3)) i, ?_⟩
            have xx := (x1.trans x2).trans x3
            dsimp only at q
            cases e3 : ms (ρ1.set i (some (.exc c x))) h1 with
            | bad => rw [e3] at q; exact q
            | exc c x h1 => rw [e3] at q; exact q
            | ok f h2 =>
              rw [e3] at q
              cases f with
              | nx ρ2 => exact fun F' μ' H' σ' y s' en' => q F' μ' H' _ (xx.trans y) s' (en'.unset i)
              | brk ρ2 => exact fun F' μ' H' σ' y s' en' => q F' μ' H' _ (xx.trans y) s' (en'.unset i)
              | ret d => exact fun F' μ' H' v y s' rv' => q F' μ' H' v (xx.trans y) s' rv'
              | exc c x ρ2 => exact q.elim
          · subst hb
            exact q F' μ' σ' x1 en1 F2 μ2 H2 dd v x2 s2 rv edd⟩
end
/-! ### raise C(e) -/
/-- what the machine says of an error's class -/
structure ClsC (K : PySem.W.Frag) (c : Str) (fI D : Addr) : Prop where
  oex : OexC K (cAd K c)
  ini : PySem.W.findIn K (.ref (cAd K c)) "__init__" = some (some (.ref fI))
  tyI : PySem.W.typeIn K (.ref fI) = some (.type "function")
  mro : PySem.W.mroIn K (cAd K c) (.ref D) = some true
  sup : PySem.W.ks_superIn K (cAd K c) D "__init__" = some (some (.builtin "ValueError.__init__"))
  subV : PySem.W.subIn K (.ref (cAd K c)) (.type "ValueError") = some true
  noV : PySem.W.findIn K (.ref (cAd K c)) "value" = some none
  xf : XfC K (cAd K c)
  ex : ExcC K (cAd K c)
structure ClsX (X : Cx) (c : Str) : Prop where
  mg : X.mg c = some (.ref (cAd X.K c))
  c : ∃ (fI D : Addr) (fd : FuncData), ClsC X.K c fI D ∧ FnOk X.prog X.w X.K X.mg X.base (L2.CX X.prog X.w) 1 fI fd ["self", "value"] (spIni X.K D) ∧ Binds X.K fd ["self", "value"] []
def sRaise (c : Str) (a : EM) : SM := fun ρ h => lift ρ (a ρ h) fun d h1 => .ok (.exc c d ρ) h1
section
variable {g : Gm} {W : WX} {X : Cx} {c : Str} {e : Expr} {a : EM} {p p2 pos : Pos}
theorem ss_raise (hK : X.K = g.K) (hc : X.calm = true) (tk : Takes X W) (C : ClsX X c) (hg : Gl X c) (hr : Room 2 X.A) (he : PE X e (tE g W a)) (hdb : (c == ("__debug__" : Str)) = false) (hs : starEach [e] X.env = (false, eval e X.env) :: starEach [] X.env) :
    PS X (.Raise (some (.Call (.Name c p) [e] [] p2)) none pos) (tS g W (sRaise c a)) := by
  obtain ⟨fI, D, fd, T, F1, hb⟩ := C.c
  refine (ps_raise hc tk (pmk_oex (pos := p2) (p := p) T.oex T.ini T.tyI F1 hr hb (dvs := []) .nil (passes_call LamX.takes0 fun _ _ _ _ z => z) hg C.mg (sa_c he sa_n hs) hdb hs (by rfl))).imp fun E σ H ⟨F, μ, h, G, ρ, s, en, q⟩ => ?_
  refine ⟨F, μ, h, G, ρ, s, en, ?_⟩
  show post g (relA g) W F μ G σ _ ((a ρ h).bnd fun x h1 => R.ok [x] h1)
  have q : postS g W F μ G E (lift ρ (a ρ h) fun d h1 => .ok (.exc c d ρ) h1) := q
  cases e1 : a ρ h with
  | bad => rw [e1] at q; exact q.elim
  | exc c' x h1 =>
    rw [e1] at q
    have q : ∀ F' μ' σ', Ext F μ F' μ' → REnv g F' μ' ρ σ' → excP g W F' μ' G σ' c' x h1 := q
    exact q F μ σ (Ext.refl _ _) en
  | ok d h1 =>
    rw [e1] at q
    have q : ∀ F' μ' σ', Ext F μ F' μ' → REnv g F' μ' ρ σ' → excP g W F' μ' G σ' c d h1 := q
    intro F1 μ1 H1 vs x1 s1 rvs
    cases rvs with
    | @cons _ v _ vs rv rn =>
    cases rn
    refine ⟨by show 1 ≤ 1000; omega, fun b nb => ⟨b, cAd X.K c, v, rfl, T.oex, T.mro, T.sup, T.subV, T.noV, upd_same, fun dx n1 ne => ⟨rfl, dx, [("value", v)], upd_same, by rw [upd_ne ne, upd_same], by rw [upd_ne ne] at n1; exact n1, ?_⟩⟩⟩
    rw [upd_ne ne] at n1
    have eh : upd (del (upd (upd (upd H1 b (exo b (cAd X.K c) none)) dx (exd dx [("value", v)])) b (exo b (cAd X.K c) (some dx))) b) dx (.xd [("value", v)]) = upd H1 dx (.xd [("value", v)]) := by
      funext z
      by_cases z1 : z = dx
      · rw [z1, upd_same, upd_same]
      · rw [upd_ne z1, upd_ne z1]
        by_cases z2 : z = b
        · rw [z2, del_same, nb]
        · rw [del_ne z2, upd_ne z2, upd_ne z1, upd_ne z2]
    rw [eh, hK]
    obtain ⟨s2, x2⟩ := s1.know (o := .xd [("value", v)]) n1
    exact q F1 μ1 σ x1 (en.mono x1) _ μ1 _ dx v x2 s2 (rv.mono x2) upd_same
end
end Zs
end

/-! Fu -/
noncomputable section
namespace Zs
open PySem PySem.Spec L2
open PyProof.Rows hiding St
open Classical

/-! ## a caught error: isinstance, its value -/
def rIsV (K : PySem.W.Frag) : List V → Hp → VK → Prop := fun xs H Q => ∃ (a C dd : Addr) (fs : List (Str × V)) (c : V) (u : Value) (b : Bool), xs = [.ref a, c] ∧ ClsV c u ∧ H a = some (ExV (.ref C) dd a) ∧ H dd = some (.xd fs) ∧ ExcC K C ∧ PySem.W.kitOne K (.ref C) u = some b ∧ Q (.bl b) H
theorem exv_inst {X : Cx} {pins : List (Addr × Obj)} {σ : L2.St} {H : Hp} {s : Shared} {a C dd : Addr} {fs : List (Str × V)} (I : Inv X pins σ H s) (ha : H a = some (ExV (.ref C) dd a)) (hd : H dd = some (.xd fs)) :
    ∃ (oe od : Obj) (mA : Str → Option Value), PySem.W.InstAt s.heap a oe C (some od) ∧ (∀ f, RelO (fs.lookup f) (mA f)) ∧ s.heap.Ns1 dd mA ∧ s.heap.get? dd = some od := by
  obtain ⟨⟨oe, vs, e1, z, e2⟩, _, _⟩ := (show ObjOk X.prog X.w H s.heap a (ExV (.ref C) dd a) from I.hok a _ ha)
  obtain ⟨mA, hns, hr⟩ := (show ObjOk X.prog X.w H s.heap dd (.xd fs) from I.hok dd _ hd)
  obtain ⟨od, ho, hl⟩ := lookIn_ns hns
  exact ⟨oe, od, mA, ⟨e1, z.1, by unfold PySem.W.notCls; rw [e2] <;> rfl, by rw [z.2]; exact ho⟩, hr, hns, ho⟩
theorem call_isV {X : Cx} : CallR X (.builtin "isinstance") (rIsV X.K) := by
  intro pins s σ H xs us Q I r h
  obtain ⟨a, C, dd, fs, c, u, b, rfl, k, ha, hd, E, e, q⟩ := h
  obtain ⟨u1, u2, rfl, r1, r2⟩ := vals2 r
  have e2 := k.eq r2
  subst e2
  cases (show u1 = Value.ref a from r1)
  obtain ⟨oe, od, mA, J, _⟩ := exv_inst I ha hd
  exact PySem.W.kia_one (PySem.W.kitx_exc (by obtain ⟨cd, hc, _⟩ := PySem.W.any_some E.hd; unfold PySem.W.clsIn at hc ⊢; rw [hc]; rfl) E.hg E.hk E.hs E.ha E.hn E.ht E.hm) I.kIn J e (fun z => nomatch z) fun tk => ⟨.bl b, H, I.tok tk, rfl, q⟩
theorem pe_xv {X : Cx} {e : Expr} {te : TE} {pos : Pos} {n : Str} (he : PE X e te) (hb : attributeBase e n X.env (eval e X.env) = eval e X.env) :
    PE X (.Attribute e n pos) (fun σ H Q => te σ H fun x H1 => ∃ (a C dd : Addr) (fs : List (Str × V)) (v : V), x = .ref a ∧ H1 a = some (ExV (.ref C) dd a) ∧ H1 dd = some (.xd fs) ∧ XfC X.K C ∧ PySem.W.findIn X.K (.ref C) n = some none ∧ fs.lookup n = some v ∧ Q v H1) := by
  refine ⟨fun pins s σ H Q I h => ?_⟩
  refine attr_of hb (thn (he.run pins s σ H _ I h) fun u s1 hh => ?_)
  obtain ⟨x, H1, I1, rx, a, C, dd, fs, v, ex, ha, hd, T, hno, l, q⟩ := hh
  subst ex
  obtain rfl : u = Value.ref a := rx
  obtain ⟨⟨oe, vs, e1, z, e2⟩, _, _⟩ := (show ObjOk X.prog X.w H1 s1.heap a (ExV (.ref C) dd a) from I1.hok a _ ha)
  obtain ⟨mA, hns, hr⟩ := (show ObjOk X.prog X.w H1 s1.heap dd (.xd fs) from I1.hok dd _ hd)
  obtain ⟨od, ho, hl⟩ := lookIn_ns hns
  obtain ⟨u, hu, ru⟩ := RelO.some_of (v := v) (o := mA n) (by rw [← l]; exact hr n)
  have J : PySem.W.InstAt s1.heap a oe C (some od) := ⟨e1, z.1, by unfold PySem.W.notCls; rw [e2] <;> rfl, by rw [z.2]; exact ho⟩
  exact HandSPX.exc_get I1.kIn J T.ga T.gg T.exC (PySem.W.findObj_own T.hdC hno rfl (by rw [hl, hu])) (handed_of ru) ⟨v, H1, I1.tok _, ru, q⟩

section
variable {g : Gm} {W : WX} {K : Gm} {F : Hp} {μ : List Addr} {G H : Hp} {σ : L2.St} {h : HP} {X : Cx}
def fIsx (sub : Str → Str → Option Bool) (xs : List D) (h : HP) : R D := match xs with
  | [.exc k _, .cls c] => (match sub k c with
    | some b => .ok (.bl b) h
    | none => .bad)
  | [x, .cls c] => (match sub c c, tyOfD x h with
    | some _, some _ => .ok (.bl false) h
    | _, _ => .bad)
  | xs => fIsi xs h
def rIsx (K : PySem.W.Frag) : List V → Hp → VK → Prop := fun xs H Q => rIsi K xs H Q ∨ rIsV K xs H Q
theorem c_isx : CallR X (.builtin "isinstance") (rIsx X.K) := call_isi.or call_isV
theorem u_isx {sub : Str → Str → Option Bool} (h1 : ∀ k c b, sub k c = some b → ExcC g.K (cAd g.K k) ∧ PySem.W.kitOne g.K (.ref (cAd g.K k)) (.ref (cAd g.K c)) = some b)
    (h2 : ∀ c b, sub c c = some b → ∀ t : Ty, PySem.W.kitOne g.K (.type t.name) (.ref (cAd g.K c)) = some false) : UA g W (fIsx sub) (rIsx g.K) := by
  intro F μ h G H σ x v Q s r p
  unfold fIsx at p
  split at p
  · rename_i k y c
    obtain ⟨v1, u1, rfl, r1, q1⟩ := reps2 r
    split at p
    · rename_i b e
      obtain ⟨E, e2⟩ := h1 k c b e
      cases q1 with | cls hc =>
      subst hc
      cases r1 with | exc ha hd rv =>
      exact .inr ⟨_, _, _, _, _, _, _, rfl, .own _, s.sub _ _ ha, s.sub _ _ hd, E, e2, post_ok (g := g) (rel := relD g) p s (.bl _)⟩
    · exact p.elim
  · rename_i y c hne
    obtain ⟨v1, u1, rfl, r1, q1⟩ := reps2 r
    split at p
    · rename_i b t e1 e2
      cases q1 with | cls hc =>
      subst hc
      exact .inl ⟨_, _, _, _, _, rfl, .own _, tyV_D s r1 e2, h2 c b e1 t, post_ok (g := g) (rel := relD g) p s (.bl _)⟩
    · exact p.elim
  · exact .inl (u_isi F μ h G H σ x v Q s r p)
/-- error.value -/
def fVal (known : Str → Bool) (x : D) (h : HP) : R D := match x with
  | .exc k v => bif known k then .ok v h else .bad
  | _ => .bad
theorem se_val {known : Str → Bool} {e : Expr} {a : EM} {pos : Pos} (hK : X.K = g.K) (hk : ∀ k, known k = true → XfC g.K (cAd g.K k) ∧ PySem.W.findIn g.K (.ref (cAd g.K k)) "value" = some none) (he : PE X e (tE g W a)) (hb : attributeBase e "value" X.env (eval e X.env) = eval e X.env) :
    PE X (.Attribute e "value" pos) (tE g W (e1 (fVal known) a)) :=
  (pe_xv he hb).imp fun σ H Q ⟨F, μ, h, G, ρ, s, en, q⟩ => ⟨F, μ, h, G, ρ, s, en, post_bnd (g := g) q fun F1 μ1 h1 H1 d v x s1 rv q1 => by
    unfold fVal at q1
    split at q1
    · rename_i k y
      cases hkk : known k with
      | false => rw [hkk] at q1; exact q1.elim
      | true =>
        rw [hkk] at q1
        obtain ⟨T, hno⟩ := hk k hkk
        cases rv with | @exc _ _ a dd u ha hd ry =>
        rw [hK]
        exact ⟨a, _, dd, _, u, rfl, s1.sub _ _ ha, s1.sub _ _ hd, T, hno, rfl, post_ok (g := g) (rel := relD g) q1 s1 ry⟩
    · exact q1.elim⟩
end
end Zs
end

/-! Fy -/
noncomputable section
namespace Zs
open PySem PySem.Spec L2
open PyProof.Rows hiding St
open Classical

/-! ### a, b = x, y -/
theorem sw_par2 {env : Env} {x y : Str} {a b : Expr} {px py pt pt2 : Pos} {kt k2 : Nat} (hk : env.scope.kind = .function) (hx : env.scope.names.lookup x = some .local) (hy : env.scope.names.lookup y = some .local) (hl : (py.line == px.line) = true) (hne : x ≠ y)
    (hn : noStar a = true ∧ noStar b = true) (hf : [a, b].all (foldedForSure 8) = false) (hc : [a, b].all (constantsAlone 8) = false) :
    swappedStores [.Tuple [.Name x px, .Name y py] kt pt] (.Tuple [a, b] k2 pt2) env = pure (some [x, y]) := by
  have kx : (env.kindOf x == some .local) = true := by
    have : env.kindOf x = some .local := hx
    rw [this]; rfl
  have ky : (env.kindOf y == some .local) = true := by
    have : env.kindOf y = some .local := hy
    rw [this]; rfl
  have hb : (env.blockKind != .function) = false := by unfold Env.blockKind; rw [hk]; rfl
  have hs : ([a, b].any fun e => match e with | .Starred .. => true | _ => false) = false := by
    obtain ⟨h1, h2⟩ := hn
    cases a <;> cases b <;> first | rfl | (cases h1; done) | (cases h2; done)
  have hne' : (y == x) = false := by
    rw [beq_eq_false_iff_ne]; exact fun e => hne e.symm
  have hne2 : (x == y) = false := by
    rw [beq_eq_false_iff_ne]; exact hne
  unfold swappedStores
  have kx' : env.kindOf x = some .local := hx
  have ky' : env.kindOf y = some .local := hy
  have hl' : py.line = px.line := beq_iff_eq.mp hl
  simp [hb, hf, hc, kx', ky', hl', Expr.pos, List.filterMap_cons, List.eraseDups, List.eraseDupsBy, List.eraseDupsBy.loop, hne', hne2]
  obtain ⟨n1, n2⟩ := hn
  intro h
  exfalso
  rcases h with h | h
  · cases a <;> first | (cases h; done) | (cases n1; done)
  · cases b <;> first | (cases h; done) | (cases n2; done)
/-- one of the names is not the def's own alone: stored one behind the other -/
theorem sw_par0 {env : Env} {x y : Str} {e : Expr} {px py pt : Pos} {kt : Nat} (h : env.scope.names.lookup x ≠ some .local ∨ env.scope.names.lookup y ≠ some .local) : swappedStores [.Tuple [.Name x px, .Name y py] kt pt] e env = pure none := by
  have h' : env.kindOf x ≠ some .local ∨ env.kindOf y ≠ some .local := h
  unfold swappedStores
  cases e <;> first | rfl | skip
  rename_i vs k2 pt2
  rcases h' with h | h <;> (by_cases q : env.kindOf x = some .local <;> by_cases q2 : env.kindOf y = some .local <;> simp_all [List.filterMap_cons] <;> split <;> simp_all)
/-- constants alone: stored one behind the other -/
theorem sw_fold {env : Env} {tg : Expr} {vs : List Expr} {k2 : Nat} {pt2 : Pos} (h : vs.all (foldedForSure 8) = true) : swappedStores [tg] (.Tuple vs k2 pt2) env = pure none := by
  unfold swappedStores
  cases tg <;> first
    | rfl
    | (simp only [h]
       repeat (first | rfl | split))
def sPar (i j : Nat) (a : AM) : SM := fun ρ h => lift ρ (a ρ h) fun xs h1 => match xs with
  | [u, v] => .ok (.nx ((ρ.set i (some u)).set j (some v))) h1
  | _ => .bad
theorem ss_par {g : Gm} {W : WX} {X : Cx} {i j : Nat} {x y : Str} {a b : Expr} {m : AM} {px py pt pt2 pos : Pos} {kt k2 : Nat} (hc : X.calm = true) (hN : X.N.Nodup) (hi : X.N[i]? = some x) (hj : X.N[j]? = some y) (hij : i ≠ j)
    (hx : X.env.scope.names.lookup x = some .local) (hy : X.env.scope.names.lookup y = some .local) (ha : PA X [a, b] (tA g W m)) (hw : swappedStores [.Tuple [.Name x px, .Name y py] kt pt] (.Tuple [a, b] k2 pt2) X.env = pure (some [x, y])) :
    PS X (.Assign [.Tuple [.Name x px, .Name y py] kt pt] (.Tuple [a, b] k2 pt2) pos) (tS g W (sPar i j m)) :=
  (ps_par hc hN hi hj hij hx hy ha hw).imp fun D σ H ⟨F, μ, h, G, ρ, s, en, q⟩ => ⟨F, μ, h, G, ρ, s, en, post_lift en q fun F1 μ1 h1 H1 d v x1 s1 rv q1 => by
    split at q1
    · obtain ⟨v1, u1, rfl, r1, r2⟩ := reps2 rv
      exact ⟨v1, u1, rfl, q1 F1 μ1 H1 _ (Ext.refl _ _) s1 (((en.mono x1).set r1 i).set r2 j)⟩
    · exact q1.elim⟩
end Zs
end

/-! Fk -/
noncomputable section
namespace Zs
open PySem PySem.Spec L2
open PyProof.Rows hiding St

/-! ## the reader: from a text to its meaning, with the proof -/
/-- the room at a depth -/
def lev (n : Nat) : Nat := 4 * n + 4
structure Shp where
  ks : List Str
  n : Nat
  ix : List Nat
  deriving DecidableEq
/-- the shape of a def that hears what a call tells: its parameter, the error it catches; 0: return the error, or None; 1: try .. return (error, None), else (None, told); 2: (caught, back) set ahead -/
structure Hk where
  kind : Nat
  a : Str
  e : Str
inductive GE where
  | con (d : D)
  | fn (i : Nat) (np : Nat) (sh : List Shp)
  | hd (i : Nat) (hk : Hk)
  | bi
structure Cc where
  run : Nat → FSem
  n : Nat
  N : List Str
  sc : Scope
  fnc : Str → Bool
  tb : List (Str × GE)
  opn : List Str
  ret : Bool
  top : Bool
  cls : List (Str × List Str)
  mkr : Bool
  lms : List Lm
/-- the errors' classes, as the machine has them -/
structure ClTab (X : Cx) (tab : List (Str × List Str)) : Prop where
  x : ∀ k sups, tab.lookup k = some sups → ClsX X k
  exm : ∀ k sups c sups', tab.lookup k = some sups → tab.lookup c = some sups' → PySem.W.exmOne X.K (.ref (cAd X.K k)) (.ref (cAd X.K c)) = some (decide (c ∈ sups))
  kit : ∀ k sups c sups', tab.lookup k = some sups → tab.lookup c = some sups' → PySem.W.kitOne X.K (.ref (cAd X.K k)) (.ref (cAd X.K c)) = some (decide (c ∈ sups))
  no : ∀ k sups, tab.lookup k = some sups → ∀ t : Ty, PySem.W.kitOne X.K (.type t.name) (.ref (cAd X.K k)) = some false
def nDbg (x : Str) : Bool := (x == ("__debug__" : Str)) || (x == ("__classdict__" : Str)) || decide (x = "__name__")
def isLoc1 : Option NameKind → Bool
  | some .local => true
  | _ => false
theorem isLoc1_of {k : Option NameKind} (h : isLoc1 k = true) : k = some .local := by
  cases k with
  | none => cases h
  | some k => cases k <;> first | rfl | cases h
def isGlob1 : Option NameKind → Bool
  | some .globalImplicit => true
  | _ => false
theorem isGlob1_of {k : Option NameKind} (h : isGlob1 k = true) : k = some .globalImplicit := by
  cases k with
  | none => cases h
  | some k => cases k <;> first | rfl | cases h
/-- the body of a hearing def -/
def Hk.loc (sc : Scope) (l : List Str) : Bool := l.all fun x => isLoc1 (sc.names.lookup x) && !nDbg x
def Hk.ok (k : Hk) (body : List Stmt) (N : List Str) (sc : Scope) : Bool := match k.kind, body with
  | 0, [.Try [.Expr (.Call (.Name a _) [] [] _) _] [.ExceptHandler (some (.Name e _)) (some er) [.Return (some (.Name er2 _)) _] _] [] [] _, .Return (some (.Constant .none _ _)) _] =>
    decide (a = k.a ∧ e = k.e ∧ er = er2 ∧ N = [a, er]) && (isGlob1 (sc.names.lookup e) && (!nDbg e && Hk.loc sc [a, er]))
  | 1, [.Try [.Assign [.Name t _] (.Call (.Name a _) [] [] _) _] [.ExceptHandler (some (.Name e _)) (some er) [.Return (some (.Tuple [.Name er2 _, .Constant .none _ _] _ _)) _] _] [] [] _, .Return (some (.Tuple [.Constant .none _ _, .Name t2 _] _ _)) _] =>
    decide (a = k.a ∧ e = k.e ∧ er = er2 ∧ t = t2 ∧ N = [a, t, er]) && (isGlob1 (sc.names.lookup e) && (!nDbg e && Hk.loc sc [a, t, er]))
  | 2, [.Assign [.Tuple [.Name c1 _, .Name b1 _] _ _] (.Tuple [.Constant .none _ _, .Constant .none _ _] _ _) _, .Try [.Assign [.Name b2 _] (.Call (.Name a _) [] [] _) _] [.ExceptHandler (some (.Name e _)) (some er) [.Assign [.Name c2 _] (.Name er2 _) _] _] [] [] _, .Return (some (.Tuple [.Name c3 _, .Name b3 _] _ _)) _] =>
    decide (a = k.a ∧ e = k.e ∧ er = er2 ∧ c1 = c2 ∧ c1 = c3 ∧ b1 = b2 ∧ b1 = b3 ∧ N = [a, c1, b1, er]) && (isGlob1 (sc.names.lookup e) && (!nDbg e && Hk.loc sc [a, c1, b1, er]))
  | _, _ => false
def GeOk (g : Gm) (c : Cc) (X : Cx) (x : Str) : GE → Prop
  | .con d => ∃ v u, X.mg x = some u ∧ RelV v u ∧ ∀ F μ, Rep g F μ d v
  | .fn i np sh => ∃ f fd ps, X.mg x = some (.ref f) ∧ PySem.W.keepIn X.K (.ref f) = true ∧ ps.length = np ∧ FnG X.prog X.w X.K X.mg X.base (lev c.n) f fd ps (spOf g ps.length (c.run i)) ∧ ∀ s ∈ sh, KB X.K fd ps s.ks s.n s.ix
  | .hd i hk => ∃ f fd nm pa body sc N, X.mg x = some (.ref f) ∧ FunD X.K nm nm pa body sc [] [] f fd ∧ FnScope N [hk.a] sc ∧ hk.ok body N sc = true ∧ KB X.K fd [hk.a] [] 1 [0]
  | .bi => X.mg x = none
/-- what makes lambdas: the frame's own part -/
structure MkOk (g : Gm) (c : Cc) (X : Cx) : Prop where
  ex : ∃ (ce : Ce) (cc P : Addr), g.cl c.n = some ce ∧ ce.cells = X.env.cells ∧ ce.q = X.env.qual ∧ ce.lams = c.lms ∧ LamX.TabB X.base X.mg cc P ∧ X.env.code = .ref cc ∧ (P, X.env.qual ++ "<lambda>") ∈ g.T ∧ ∀ p ∈ g.T, p.1 = P → p.2 = X.env.qual ++ "<lambda>"
structure XOk (g : Gm) (c : Cc) (X : Cx) (W : WX) : Prop where
  K : X.K = g.K
  N : X.N = c.N
  nd : X.N.Nodup
  sc : X.env.scope = c.sc
  fn : X.fn = c.fnc
  calm : X.calm = true
  tk : Takes X W
  po : PassesOwn (model X.prog X.w) X.A X.env X.xe
  room : Room (lev c.n + 1) X.A
  gd : X.A.guards = some []
  glo : ∀ x e, c.tb.lookup x = some e → GeOk g c X x e
  top : c.top = true → X.stack = X.env :: X.outer ∧ X.env.frame = some X.env.locals ∧ X.ex = []
  roomT : c.top = true → Room (lev c.n + 3) X.A
  mkr : c.mkr = true → MkOk g c X
  cl : ClTab X c.cls
structure CE (c : Cc) (e : Expr) where
  m : EM
  ok : ∀ g X W, XOk g c X W → PE X e (tE g W m)
structure CT (c : Cc) (e : Expr) where
  m : TM
  ok : ∀ g X W, XOk g c X W → PT X e (tT g W m)
structure CW (c : Cc) (op : BoolOp) (l : List Expr) where
  m : TM
  ok : ∀ g X W pos, XOk g c X W → PW X (.BoolOp op l pos) (tT g W m)
structure CB (c : Cc) (op : BoolOp) (l : List Expr) where
  m : EM
  ok : ∀ g X W pos, XOk g c X W → PE X (.BoolOp op l pos) (tE g W m)
structure CA (c : Cc) (l : List Expr) where
  m : AM
  ns : l.all noStar = true
  nil : l = [] → m = aN
  len : ∀ ρ h xs h', m ρ h = .ok xs h' → xs.length = l.length
  ok : ∀ g X W, XOk g c X W → PA X l (tA g W m)
structure CK (c : Cc) (l : List Keyword) where
  m : AM
  ok : ∀ g X W, XOk g c X W → PK X l (tA g W m)
structure CO (c : Cc) (l : Option Expr) where
  m : OM
  ok : ∀ g X W, XOk g c X W → PO X l (tO g W m)
structure CI (c : Cc) (tg : Expr) (e : Expr) where
  m : IM
  ok : ∀ g X W, XOk g c X W → PI X tg e (tI g W m)
structure CG (c : Cc) (e : Expr) where
  m : GM
  sl : List Nat
  ok : ∀ g X W, XOk g c X W → PG X e (tG g sl m)
  nst : ∀ (env : Env) es, assignEach (e :: es) env = (false, assign e env) :: assignEach es env
structure CGs (c : Cc) (l : List Expr) where
  m : GMs
  sl : List Nat
  ok : ∀ g X W, XOk g c X W → PGs X l (tGs g sl m)
  len : ∀ env : Env, (assignEach l env).length = l.length
  nst : ∀ env : Env, (assignEach l env).findIdx? (·.1) = none
structure CS (c : Cc) (s : Stmt) where
  m : SM
  ok : ∀ g X W, XOk g c X W → PS X s (tS g W m)
structure CSs (c : Cc) (s : List Stmt) where
  m : SM
  ok : ∀ g X W, XOk g c X W → PSs X s (tS g W m)
structure Sm where
  e : (o : Bool) → (c : Cc) → (x : Expr) → Option (CE c x)
  t : (c : Cc) → (x : Expr) → Option (CT c x)
  s : (c : Cc) → (x : Stmt) → Option (CS c x)

/-! ### names -/
theorem XOk.vis {g : Gm} {c : Cc} {X : Cx} {W : WX} (k : XOk g c X W) {x : Str} (h : c.sc.names.lookup x = some .local ∨ c.sc.names.lookup x = some .cell ∨ c.sc.names.lookup x = some .free) : Vis X.env.scope x := by
  unfold Vis; rw [k.sc]; exact h
theorem XOk.gl {g : Gm} {c : Cc} {X : Cx} {W : WX} (k : XOk g c X W) {x : Str} (h : c.sc.names.lookup x = some .globalImplicit) : Gl X x := by
  show X.env.scope.names.lookup x = _
  rw [k.sc]; exact h
def isVis : Option NameKind → Bool
  | some .local => true
  | some .cell => true
  | some .free => true
  | _ => false
theorem isVis_of {k : Option NameKind} (h : isVis k = true) : k = some .local ∨ k = some .cell ∨ k = some .free := by
  cases k with
  | none => cases h
  | some k => cases k <;> first | exact .inl rfl | exact .inr (.inl rfl) | exact .inr (.inr rfl) | cases h
def isLoc : Option NameKind → Bool
  | some .local => true
  | some .cell => true
  | _ => false
theorem isLoc_of {k : Option NameKind} (h : isLoc k = true) : k = some .local ∨ k = some .cell := by
  cases k with
  | none => cases h
  | some k => cases k <;> first | exact .inl rfl | exact .inr rfl | cases h
def isLocal : Option NameKind → Bool
  | some .local => true
  | _ => false
theorem isLocal_of {k : Option NameKind} (h : isLocal k = true) : k = some .local := by
  cases k with
  | none => cases h
  | some k => cases k <;> first | rfl | cases h
def isGlob : Option NameKind → Bool
  | some .globalImplicit => true
  | _ => false
theorem isGlob_of {k : Option NameKind} (h : isGlob k = true) : k = some .globalImplicit := by
  cases k with
  | none => cases h
  | some k => cases k <;> first | rfl | cases h
def slotOf (N : List Str) (x : Str) : Nat := N.findIdx (fun y => decide (y = x))
theorem nDbg_of {x : Str} (h : nDbg x = false) : (x == ("__debug__" : Str)) = false ∧ (x == ("__classdict__" : Str)) = false ∧ x ≠ "__name__" := by
  unfold nDbg at h
  rw [Bool.or_eq_false_iff, Bool.or_eq_false_iff, decide_eq_false_iff_not] at h
  exact ⟨h.1.1, h.1.2, h.2⟩
/-- a type's name -/
def tyName (x : Str) : Option Ty := if x = "int" then some .int else if x = "str" then some .str else if x = "bool" then some .bool else if x = "tuple" then some .tuple else if x = "list" then some .list else if x = "dict" then some .dict else none
theorem boot_boolT : bootBuiltins "bool" = some (.type "bool") := by decide +kernel
theorem tyName_of {x : Str} {t : Ty} (h : tyName x = some t) : bootBuiltins x = some (.type t.name) := by
  unfold tyName at h
  split at h
  · cases h; subst x; exact boot_int
  · split at h
    · cases h; subst x; exact boot_str
    · split at h
      · cases h; subst x; exact boot_boolT
      · split at h
        · cases h; subst x; exact boot_tuple
        · split at h
          · cases h; subst x; exact boot_list
          · split at h
            · cases h; subst x; exact boot_dict
            · cases h
def cName (c : Cc) (x : Str) (pos : Pos) : Option (CE c (.Name x pos)) :=
  if hd : nDbg x = false then
    if hv : isVis (c.sc.names.lookup x) = true then
      (if hi : c.N[slotOf c.N x]? = some x then some ⟨eV (slotOf c.N x), fun g X W k => se_v (pe_var (by rw [k.N]; exact hi) (k.vis (isVis_of hv)) (nDbg_of hd).1 (nDbg_of hd).2.1)⟩ else none)
    else if hg : isGlob (c.sc.names.lookup x) = true then
      (match ht : c.tb.lookup x with
      | some (.con d) => some ⟨eC d, fun g X W k => by
          obtain ⟨v, u, h1, h2, h3⟩ := k.glo x _ ht
          exact se_c (pe_glob (k.gl (isGlob_of hg)) h1 h2 (nDbg_of hd).1) h3⟩
      | some .bi => (match hy : tyName x with
        | some t => some ⟨eC (.ty t), fun g X W k => se_c (pe_bltn (v := .ty t.name) (k.gl (isGlob_of hg)) (k.glo x _ ht) (tyName_of hy) rfl (nDbg_of hd).2.2 (nDbg_of hd).1) fun F μ => .ty t⟩
        | none => none)
      | _ => none)
    else none
  else none
/-! ### written values -/
theorem strV_mk (x : Str) : strV x.cps.toList = x := by
  unfold strV
  rw [Array.toArray_toList]
theorem small_line {n : Nat} (h : n < 100000) : n ≤ sizeLine := by rw [sizeLine_eq]; omega
def cConst (c : Cc) (k : Nat) (pos : Pos) : (v : Const) → Option (CE c (.Constant v k pos))
  | .int i => some ⟨eC (.int i), fun g X W k => se_c pe_int fun F μ => .int i⟩
  | .bool b => some ⟨eC (.bl b), fun g X W k => se_c pe_bl fun F μ => .bl b⟩
  | .none => some ⟨eC .non, fun g X W k => se_c pe_non fun F μ => .non⟩
  | .str x => if hx : x.cps.toList.length < 100000 then some ⟨eC (.str x.cps.toList), fun g X W k => se_c pe_str fun F μ => by
      have := Rep.str (K := g) (F := F) (μ := μ) x.cps.toList (small_line hx)
      rw [strV_mk] at this
      exact this⟩ else none
  | _ => none

/-! ### operators -/
def bLtX (x y : D) (h : HP) : R D := match x, y with
  | .int i, .int j => .ok (.bl (decide (i < j))) h
  | x, y => bLt2 x y h
def rLtX (K : PySem.W.Frag) : R2 := fun x y H Q => (rI0 fun i j => .bl (decide (i < j))) x y H Q ∨ rLtD K x y H Q
theorem o_ltX {X : Cx} (hu : X.A.units + 64 < cLine) : OpR X (compareOp .Lt) (rLtX X.K) := op_lt.or (op_ltD hu)
theorem u_ltX {g : Gm} {W : WX} : U2 g W bLtX (rLtX g.K) := by
  intro F μ h G H σ x v y u Q s r q p
  unfold bLtX at p
  split at p
  · cases r; cases q
    exact .inl ⟨_, _, rfl, rfl, post_ok (g := g) (rel := relD g) p s (.bl _)⟩
  · exact .inr (u_lt2 F μ h G H σ x v y u Q s r q p)
theorem boot_repr : bootBuiltins "repr" = some (.builtin "repr") := by decide +kernel
/-- what operators ask of the place -/
structure Xg (X : Cx) : Prop where
  calm : X.calm = true
  un : X.A.units + 68 < cLine
  gd : X.A.guards = some []
theorem XOk.xg {g : Gm} {c : Cc} {X : Cx} {W : WX} (k : XOk g c X W) : Xg X := ⟨k.calm, by have := k.room.un; unfold lev at this; omega, k.gd⟩
structure COp (op : Operator) where
  f : D → D → HP → R D
  r : PySem.W.Frag → R2
  ho : ∀ X : Cx, Xg X → OpR X (binaryOp op) (r X.K)
  u : ∀ g W, U2 g W f (r g.K)
def cOp (o : Bool) : (op : Operator) → Option (COp op)
  | .Add => some ⟨bAdd o, rAdd', fun X _ => o_add, fun g W => u_add⟩
  | .Sub => some ⟨bSub, fun _ => _, fun X _ => o_sub, fun g W => u_int⟩
  | .Mult => some ⟨bMul2, fun _ => rMul2, fun X _ => o_mul2, fun g W => u_mul2⟩
  | .FloorDiv => some ⟨bFd, fun _ => _, fun X _ => o_fd, fun g W => u_int⟩
  | .Mod => some ⟨bMod, fun _ => _, fun X _ => o_mod, fun g W => u_int⟩
  | .Pow => some ⟨bPow, fun _ => _, fun X _ => o_pow, fun g W => u_int⟩
  | _ => none
structure CCm (op : CmpOp) where
  f : D → D → HP → R D
  r : PySem.W.Frag → R2
  ho : ∀ X : Cx, Xg X → OpR X (compareOp op) (r X.K)
  u : ∀ g W, U2 g W f (r g.K)
def cCm : (op : CmpOp) → Option (CCm op)
  | .Lt => some ⟨bLtX, rLtX, fun X k => o_ltX (by have := k.un; omega), fun g W => u_ltX⟩
  | .LtE => some ⟨bLe, fun _ => _, fun X _ => op_le, fun g W => u_cmp⟩
  | .Gt => some ⟨bGt, fun _ => _, fun X _ => op_gt, fun g W => u_cmp⟩
  | .GtE => some ⟨bGe, fun _ => _, fun X _ => op_ge, fun g W => u_cmp⟩
  | .Eq => some ⟨bEq2, rEq2, fun X k => o_eq2 (by have := k.un; omega), fun g W => u_eq2⟩
  | .NotEq => some ⟨bNe2, rNe2, fun X k => o_ne2 (by have := k.un; omega), fun g W => u_ne2⟩
  | .Is => some ⟨bIs false, fun _ => _, fun X _ => o_is, fun g W => u_is⟩
  | .IsNot => some ⟨bIs true, fun _ => _, fun X _ => o_isNot, fun g W => u_is⟩
  | .In => some ⟨bIn2 false, fun K => rIn2 K false, fun X k => o_in2 (by have := k.un; omega), fun g W => u_in2⟩
  | .NotIn => some ⟨bIn2 true, fun K => rIn2 K true, fun X k => o_notIn2 (by have := k.un; omega), fun g W => u_in2⟩
/-! ### built-in functions -/
structure CBf (x : Str) where
  f : List D → HP → R D
  v : Value
  r : PySem.W.Frag → List V → Hp → VK → Prop
  hv : bootBuiltins x = some v
  kd : (∃ id, v = .builtin id) ∨ ∃ T, v = .type T
  hc : ∀ X : Cx, Xg X → CallR X v (r X.K)
  u : ∀ g W, UA g W f (r g.K)
def fDict1 (o : Bool) : List D → HP → R D := fun xs h => match xs with | [_] => fDictP o xs h | _ => .bad
def cBf (o : Bool) (x : Str) : Option (CBf x) :=
  if h : x = "len" then some ⟨fLen, .builtin "len", rLen', by subst h; exact PySem.boot_len, .inl ⟨_, rfl⟩, fun X _ => c_len, fun g W => u_len⟩
  else if h : x = "isinstance" then some ⟨fIsi, .builtin "isinstance", rIsi, by subst h; exact PyProof.Rows.boot_isinstance, .inl ⟨_, rfl⟩, fun X _ => call_isi, fun g W => u_isi⟩
  else if h : x = "all" then some ⟨fAll, .builtin "all", rAll, by subst h; exact boot_all, .inl ⟨_, rfl⟩, fun X hc0 => have hc := hc0.calm;  cr_all hc, fun g W => u_all⟩
  else if h : x = "any" then some ⟨fAny, .builtin "any", rAny, by subst h; exact boot_any, .inl ⟨_, rfl⟩, fun X hc0 => have hc := hc0.calm;  cr_any hc, fun g W => u_any⟩
  else if h : x = "int" then some ⟨fInt2, .type "int", fun _ => rInt2, by subst h; exact boot_int, .inr ⟨_, rfl⟩, fun X _ => c_int2, fun g W => u_int2⟩
  else if h : x = "str" then some ⟨fStr, .type "str", fun _ => rStr, by subst h; exact boot_str, .inr ⟨_, rfl⟩, fun X _ => c_str, fun g W => u_str⟩
  else if h : x = "repr" then some ⟨fRepr, .builtin "repr", rRepr, by subst h; exact boot_repr, .inl ⟨_, rfl⟩, fun X k => c_repr (by have := k.un; omega) k.gd, fun g W => u_repr⟩
  else if h : x = "sorted" then some ⟨fSort o, .builtin "sorted", rSortD, by subst h; exact PyProof.Rows.boot_sorted, .inl ⟨_, rfl⟩, fun X k => c_sortD (by have := k.un; omega), fun g W => u_sort⟩
  else if h : x = "abs" then some ⟨fAbs, .builtin "abs", fun _ => _, by subst h; exact PyProof.Rows.boot_abs, .inl ⟨_, rfl⟩, fun X _ => call_abs, fun g W => u_abs⟩
  else if h : x = "sum" then some ⟨fSum, .builtin "sum", rSum, by subst h; exact boot_sum, .inl ⟨_, rfl⟩, fun X hc0 => have hc := hc0.calm;  cr_sum hc, fun g W => u_sum⟩
  else if h : x = "max" then some ⟨fMax, .builtin "max", fun _ => _, by subst h; exact boot_max, .inl ⟨_, rfl⟩, fun X hc0 => have hc := hc0.calm;  call_max2 hc, fun g W => u_max2⟩
  else if h : x = "min" then some ⟨fMin, .builtin "min", fun _ => _, by subst h; exact boot_min, .inl ⟨_, rfl⟩, fun X hc0 => have hc := hc0.calm;  call_min2 hc, fun g W => u_min2⟩
  else if h : x = "list" then some ⟨fList o, .type "list", fun K xs H Q => ∃ p ys, xs = [.ref p] ∧ (SqL K H p ys ∨ SqT K H p ys) ∧ ∀ l, H l = none → Q (.ref l) (upd H l (.lst ys)), by subst h; exact boot_list, .inr ⟨_, rfl⟩, fun X _ => call_list_of, fun g W => u_list⟩
  else if h : x = "tuple" then some ⟨fTuple, .type "tuple", fun K xs H Q => ∃ p ys, xs = [.ref p] ∧ ((SqL K H p ys ∧ ∀ l, H l = none → Q (.ref l) (upd H l (.tup ys))) ∨ (SqT K H p ys ∧ Q (.ref p) H)), by subst h; exact boot_tuple, .inr ⟨_, rfl⟩, fun X _ => call_tuple_of, fun g W => u_tuple⟩
  else if h : x = "dict" then some ⟨fDict1 o, .type "dict", fun K xs H Q => ∃ (a : Addr) (ps : List Addr) (kvs : List (Key × V)), xs = [.ref a] ∧ SqL K H a (ps.map V.ref) ∧ Paired (fun p kv => SqT K H p [kV kv.1, kv.2]) ps kvs ∧ ∀ p, H p = none → LkQ Q (.ref p) (upd H p (.dK (mergeK [] kvs))), by subst h; exact boot_dict, .inr ⟨_, rfl⟩, fun X hc0 => cr_lk (call_dictP hc0.calm), fun g W => u_dictP⟩
  else none
/-! ### methods -/
structure CMt (x : Str) where
  c : D → HP → Bool
  f : D → List D → HP → R D
  T : String
  id : String
  r : PySem.W.Frag → V → List V → Hp → VK → Prop
  hc : ∀ g, ChkT g T c
  u : ∀ g W, UM g W f (r g.K)
  pa : PlainAttrs T
  slot : Slot T x id
  ty : typeOf (.builtin id) = pure (.type "method_descriptor")
  hm : ∀ X : Cx, Xg X → MtR X id (r X.K)
def cMt (o : Bool) (x : Str) : Option (CMt x) :=
  if h : x = "append" then some ⟨isLstD, mApp, "list", "list.append", fun _ => rAppend, fun _ => chk_lst, fun g W => u_app, PySem.F.plainAttrs_list, by subst h; exact PySem.F.slot_list_append, PySem.F.type_list_append, fun X _ => mt_append⟩
  else if h : x = "extend" then some ⟨isLstD, mExt, "list", "list.extend", fun _ => rExtend, fun _ => chk_lst, fun g W => u_ext, PySem.F.plainAttrs_list, by subst h; exact PySem.F.slot_list_extend, PySem.F.type_list_extend, fun X _ => mt_extend⟩
  else if h : x = "pop" then some ⟨isLstD, mPop, "list", "list.pop", fun _ => rPop, fun _ => chk_lst, fun g W => u_pop, PySem.F.plainAttrs_list, by subst h; exact PySem.F.slot_list_pop, PySem.F.type_list_pop, fun X _ => mt_pop⟩
  else if h : x = "join" then some ⟨isStrD, mJoin, "str", "str.join", rJoin, fun _ => chk_str, fun g W => u_join, PySem.F.plainAttrs_str, by subst h; exact PySem.F.slot_str_join, PySem.F.type_str_join, fun X _ => mt_join⟩
  else if h : x = "get" then some ⟨isDctD, mGet, "dict", "dict.get", fun _ => rGetX, fun _ => chk_dct, fun g W => u_get, PySem.F.plainAttrs_dict, by subst h; exact PySem.F.slot_dict_get, PySem.F.type_dict_get, fun X k => mt_getX (by have := k.un; omega)⟩
  else if h : x = "upper" then some ⟨isStrD, mUp, "str", "str.upper", fun _ => rUp, fun _ => chk_str, fun g W => u_up, PySem.F.plainAttrs_str, by subst h; exact PySem.F.slot_str_upper, PySem.F.type_str_upper, fun X _ => mt_upper⟩
  else if h : x = "split" then some ⟨isStrD, mSplit o, "str", "str.split", fun _ => rSplit, fun _ => chk_str, fun g W => u_split, PySem.F.plainAttrs_str, by subst h; exact PySem.F.slot_str_split, PySem.F.type_str_split, fun X _ => mt_split⟩
  else none
end Zs
end

/-! Fla -/
noncomputable section
namespace Zs
open PySem PySem.Spec L2
open PyProof.Rows hiding St

/-! ## lambdas -/
section
variable {X : Cx} {pins : List (Addr × Obj)} {σ : L2.St} {H : Hp} {s : Shared}
theorem s0_young (I : Inv X pins σ H s) (hex : X.ex = []) {f : Addr} (hf : s.heap.objs.size ≤ f) : X.s_0.heap.get? f = none := by
  cases e : X.s_0.heap.get? f with
  | none => rfl
  | some o =>
    obtain ⟨o', q⟩ := I.base.there f o e (by rw [hex]; exact fun z => nomatch z)
    exact absurd (Heap.lt_size q) (Nat.not_lt.mpr hf)
abbrev lamObj (X : Cx) (lm : Lm) (c' : Addr) (pm ctv : Value) : Obj := PySem.W.kla_obj "<lambda>" (X.env.qual ++ "<lambda>") lm.params lm.body lm.scope (cloFrom X.env.cells lm.scope.names []) pm c' ctv
/-- a lambda is made; its object is young -/
theorem lam_new {T : List (Addr × Str)} {c P : Addr} {lm : Lm} {pos : Pos} {E Q : Value → Shared → Prop} (I : Inv X pins σ H s) (hex : X.ex = []) (TB : LamX.TabB X.base X.mg c P) (hcode : X.env.code = .ref c)
    (hm : (P, X.env.qual ++ "<lambda>") ∈ T) (hu : ∀ p ∈ T, p.1 = P → p.2 = X.env.qual ++ "<lambda>") (hT : LamX.Tabs T H) (hdef : defaultsOf lm.params X.env = ([], [])) (hfree : ∀ y ∈ lm.scope.names, y.2 = .free → ∃ c, X.env.cells.lookup y.1 = some c)
    (k : ∀ (f c' : Addr) (pm ctv : Value) (H1 : Hp) (s' : Shared), Inv X pins σ H1 s' → LamX.ExtN H H1 → LamX.Tabs T H1 → s'.heap.get? f = some (lamObj X lm c' pm ctv) → H1 f = none → X.s_0.heap.get? f = none → (∀ b, s.heap.get? b ≠ none → b ≠ f) → H1 c' = some (LamX.CodeO c' (X.env.qual ++ "<lambda>")) → Q (.ref f) s') :
    wpAny (model X.prog X.w) X.A (eval (.Lambda lm.params lm.body lm.scope pos) X.env) Q E s := by
  obtain ⟨ps, hP, ht, among⟩ := hT _ hm
  have bP : s.heap.BuiltinsAt X.mg P := TB.bm.keeps I.bk
  have atP : s.heap.get? P = some { cls := .none, data := .fields ps } := I.hok P _ hP
  have newer : ∀ {f : Addr}, s.heap.objs.size ≤ f → ∀ b, s.heap.get? b ≠ none → b ≠ f := fun {f} hf b e z => by
    cases q : s.heap.get? b with
    | none => exact e q
    | some o => rw [z] at q; exact absurd (Heap.lt_size q) (Nat.not_lt.mpr hf)
  refine PySem.W.kla_eval hdef ?_
  cases hit : codeAmong pos ps.toList with
  | some cv =>
    obtain ⟨c', rfl, hco⟩ := among pos cv hit
    refine PySem.W.kla_makeFunctionHit (mg := X.mg) (c := c) (P := P) (ps := ps) (closure_ok hfree) I.ok.glob (I.mod.glob.keeps I.bk) hcode (TB.code.keeps I.bk) atP ht hit bP fun ctv h' tk hx hsz => ?_
    exact k h'.objs.size c' ((X.mg "__name__").getD .none) ctv H _ (I.kept fun b o e => Heap.get?_push_of_some _ (hx b o e)) (LamX.ExtN.refl H) hT (Heap.get?_push_size _ rfl) (I.hok.fresh hsz) (s0_young I hex hsz) (newer hsz) hco
  | none =>
    refine PySem.W.kla_makeFunction (mg := X.mg) (c := c) (P := P) (ps := ps) (closure_ok hfree) I.ok.glob (I.mod.glob.keeps I.bk) hcode (TB.code.keeps I.bk) atP ht hit TB.gP bP fun c' ctv h' tk hx hge hlt hrec htb => ?_
    obtain ⟨c2, oc, vs, t, e2, hoc, hd, hv⟩ := hrec
    cases e2
    have big : s.heap.objs.size ≤ h'.objs.size := Nat.le_trans hge (Nat.le_of_lt hlt)
    have nC : H c' = none := I.hok.fresh hge
    have eL : (ps ++ #[rawInt pos.line, rawInt pos.col, .ref c']).toList = ps.toList ++ [rawInt pos.line, rawInt pos.col, .ref c'] := by simp
    have J := LamX.inv_table (t' := tk) (more := #[rawInt pos.line, rawInt pos.col, .ref c']) (h' := h'.push (lamObj X lm c' ((X.mg "__name__").getD .none) ctv)) I hP (fun b o hb e => Heap.get?_push_of_some _ (hx b o hb e)) (Heap.get?_push_of_some _ htb) hge ⟨oc, vs, t, Heap.get?_push_of_some _ hoc, hd, hv⟩
    have wide : LamX.ExtN H (upd (upd H P (.tbl (ps ++ #[rawInt pos.line, rawInt pos.col, .ref c']))) c' (LamX.CodeO c' (X.env.qual ++ "<lambda>"))) := fun b o e n => by
      rw [upd_ne (ne_of_none e nC), upd_ne (fun z => n ps (Option.some.inj (e.symm.trans (by rw [z]; exact hP))))]; exact e
    refine k h'.objs.size c' ((X.mg "__name__").getD .none) ctv _ _ J wide (fun p hp => ?_) (Heap.get?_push_size _ rfl) ?_ (s0_young I hex big) (newer big) upd_same
    · by_cases hb : p.1 = P
      · rw [hu p hp hb, hb]
        refine ⟨_, by rw [upd_ne (ne_of_none hP nC), upd_same], by rw [eL]; exact PySem.TriplesOk_snoc _ _ _ _ ht, fun p' cv hcv => ?_⟩
        rw [eL] at hcv
        rcases LamX.among_app _ ht hcv with z | z
        · obtain ⟨c0, e1, e2⟩ := among p' cv z
          exact ⟨c0, e1, wide _ _ e2 LamX.codeO_ne⟩
        · exact ⟨c', z, upd_same⟩
      · obtain ⟨ps', a1, a2, a3⟩ := hT p hp
        refine ⟨ps', by rw [upd_ne (ne_of_none a1 nC), upd_ne hb]; exact a1, a2, fun p' cv hcv => ?_⟩
        obtain ⟨c0, e1, e2⟩ := a3 p' cv hcv
        exact ⟨c0, e1, wide _ _ e2 LamX.codeO_ne⟩
    · have q1 : h'.objs.size ≠ c' := Nat.ne_of_gt hlt
      have q2 : h'.objs.size ≠ P := Nat.ne_of_gt (Nat.lt_of_lt_of_le (Heap.lt_size atP) big)
      rw [upd_ne q1, upd_ne q2]
      exact I.hok.fresh big
end
def eLam (n k : Nat) : EM := fun _ h => .ok (.fn n k) h
theorem lamO_nt {ce : Ce} {lm : Lm} {f c : Addr} (ps : Array Value) : LamO ce lm f c ≠ .tbl ps := fun z => by unfold LamO at z; cases z
theorem notT_lam {u : HO} (r : notT u) {c : Addr} {q : Str} : u ≠ LamX.CodeO c q := r.2 c q
/-- what a new lambda adds to what is known -/
theorem SRel.lam {g : Gm} {F : Hp} {μ : List Addr} {h : HP} {G H H1 : Hp} {f c : Addr} {ce : Ce} {lm : Lm} {q : Str} (s : SRel g F μ h G H) (eN : LamX.ExtN H H1) (T1 : LamX.Tabs g.T H1) (nf : H1 f = none) (hc : H1 c = some (LamX.CodeO c q)) :
    ∃ F', Ext F μ F' μ ∧ SRel g F' μ h G (upd H1 f (LamO ce lm f c)) ∧ F' f = some (LamO ce lm f c) ∧ F' c = some (LamX.CodeO c q) := by
  have up : ∀ {b o}, F b = some o → H1 b = some o := fun {b o} e => eN b o (s.sub b o e) fun ps z => (s.nt b ps).1 (by rw [e, z])
  have cf : c ≠ f := ne_of_none hc nf
  have x : Ext F μ (upd (upd F c (LamX.CodeO c q)) f (LamO ce lm f c)) μ := ⟨fun b o e => by
    have h1 := up e
    rw [upd_ne (ne_of_none h1 nf)]
    by_cases z : b = c
    · rw [z, hc] at h1
      rw [z, upd_same]; exact h1
    · rw [upd_ne z]; exact e, List.prefix_refl μ⟩
  refine ⟨_, x, ⟨fun b o e => ?_, s.len, fun i o e => ?_, s.inj, fun b o e => ?_, tabs_new T1 nf, fun b ps => ⟨fun e => ?_, (s.nt b ps).2⟩, s.nc⟩, upd_same, by rw [upd_ne cf, upd_same]⟩
  · by_cases z : b = f
    · rw [z, upd_same] at e ⊢; exact e
    · rw [upd_ne z] at e ⊢
      by_cases z2 : b = c
      · rw [z2, upd_same] at e; rw [z2, hc]; exact e
      · rw [upd_ne z2] at e; exact up e
  · obtain ⟨a, u, h1, h2, h3, h4, h5⟩ := s.live i o e
    have h2' := eN a u h2 h5.nT.1
    have zf : a ≠ f := ne_of_none h2' nf
    have zc : a ≠ c := fun z => by rw [z, hc] at h2'; exact h5.nT.2 c q (Option.some.inj h2').symm
    exact ⟨a, u, h1, by rw [upd_ne zf]; exact h2', by rw [upd_ne zf, upd_ne zc]; exact h3, h4, h5.mono x⟩
  · obtain ⟨h1, h2⟩ := s.fr b o e
    have h1' := eN b o h1 fun ps z => (s.nt b ps).2 (by rw [e, z])
    have zf : b ≠ f := ne_of_none h1' nf
    have zc : b ≠ c := fun z => by rw [z, hc] at h1'; exact (s.nc b o e).1 c q (Option.some.inj h1').symm
    exact ⟨by rw [upd_ne zf]; exact h1', by rw [upd_ne zf, upd_ne zc]; exact h2⟩
  · by_cases z : b = f
    · rw [z, upd_same] at e; exact lamO_nt ps (Option.some.inj e)
    · rw [upd_ne z] at e
      by_cases z2 : b = c
      · rw [z2, upd_same] at e; exact LamX.codeO_ne ps (Option.some.inj e)
      · rw [upd_ne z2] at e; exact (s.nt b ps).1 e
theorem se_lam {g : Gm} {c : Cc} {X : Cx} {W : WX} {k : Nat} {lm : Lm} {pos : Pos} (mk : MkOk g c X) (hex : X.ex = []) (hl : c.lms[k]? = some lm) (L : LamX.LamS X.env.scope lm.scope) (hdef : defaultsOf lm.params X.env = ([], [])) : PE X (.Lambda lm.params lm.body lm.scope pos) (tE g W (eLam c.n k)) := by
  refine ⟨fun pins s σ H Q I h => ?_⟩
  obtain ⟨F, μ, h', G, ρ, s1, en, q⟩ := h
  obtain ⟨ce, cc, P, e1, e2, e3, e4, TB, hcode, hm, hu⟩ := mk.ex
  refine lam_new I hex TB hcode hm hu s1.tb hdef (L.has I.ok) fun f c' pm ctv H1 s' I1 eN T1 hf nf h0 old hco => ?_
  obtain ⟨F', x, s2, hF, hC⟩ := s1.lam (ce := ce) (lm := lm) eN T1 nf hco
  have isL : s'.heap.get? f = some (PySem.W.kla_obj "<lambda>" (ce.q ++ "<lambda>") lm.params lm.body lm.scope (cloFrom ce.cells lm.scope.names []) pm c' ctv) := by rw [e2, e3]; exact hf
  have J : Inv X pins σ (upd H1 f (LamO ce lm f c')) s' := inv_track I1 h0 nf (fun z => ?_) (fun y cy ey z => ?_) (fun p hp z => ?_) ⟨⟨pm, ctv, isL⟩, ⟨_, isL⟩, fun h1 h2 ⟨a, b, e⟩ k => ⟨a, b, k _ e⟩⟩
  · exact ⟨.ref f, _, J, rfl, q F' μ _ (.ref f) x s2 (.fn e1 (by rw [e4]; exact hl) hF (by rw [e3]; exact hC))⟩
  · obtain ⟨m, hn, _⟩ := I.loc
    obtain ⟨o, es, ep, ho, _⟩ := hn
    exact old _ (by rw [ho]; exact fun z => nomatch z) z.symm
  · obtain ⟨v, o, ho, _⟩ := I.cell y cy ey
    exact old _ (by rw [ho]; exact fun z => nomatch z) z
  · obtain ⟨e, _⟩ := I.pin p hp
    exact old _ (by rw [e]; exact fun z => nomatch z) z
end Zs
end

/-! Flb -/
noncomputable section
namespace Zs
open PySem PySem.Spec L2
open PyProof.Rows hiding St

/-! ## a def that hears what a lambda tells -/
def lamCc (c : Cc) (sc : Scope) : Cc := { c with sc := sc, fnc := fun _ => false, top := false, mkr := false }
theorem XOk.lamx {g : Gm} {c : Cc} {X : Cx} {W : WX} (k : XOk g c X W) {A : Around} {outer : List Env} {s : Shared} {H : Hp} {E : XK} {scope : Scope} {f c' : Addr} (room : Room (lev c.n + 1) (A.deeper (LamX.lamEnv X scope s.heap.objs.size f c'))) (gd : A.guards = some []) :
    XOk g (lamCc c scope) (LamX.lamCx X A outer s H E scope f c') (WXK E) where
  K := k.K
  N := k.N
  nd := k.nd
  sc := rfl
  fn := rfl
  calm := rfl
  tk := takes_of rfl rfl rfl rfl
  po := passes_of rfl
  room := room
  gd := gd
  glo := fun x e h => by
    have := k.glo x e h
    cases e with
    | con d => exact this
    | fn i np sh => exact this
    | hd i hk => exact this
    | bi => exact this
  top := fun z => nomatch z
  roomT := fun z => nomatch z
  mkr := fun z => nomatch z
  cl := ⟨fun c s e => let z := k.cl.x c s e; ⟨z.mg, z.c⟩, k.cl.exm, k.cl.kit, k.cl.no⟩
section
variable {g : Gm} {X : Cx} {pins : List (Addr × Obj)} {σ : L2.St} {H : Hp} {s : Shared} {W : WX} {lmm : EM} {ce : Ce} {lm : Lm} {f c' : Addr}
/-- the lambda called, in the def that got it -/
theorem pe_hear {CXg : CXT} {Eg : XK} {Ng : List Str} {qg : Str} {sg : Scope} {gA : Addr} {cdg : Value} {k i : Nat} {a : Str} {pn : List (Addr × Obj)} {xe : Value → Shared → Prop} {p1 p2 : Pos}
    (I : Inv X pins σ H s) (L : LamX.LamS X.env.scope lm.scope) (eq : ce.q = X.env.qual) (ecl : ce.cells = X.env.cells)
    (hbind : ∀ (q : Str) (cl : List (Str × Addr)) (pm cv ctv : Value), bindArgs (PySem.W.kla_fn "<lambda>" q lm.params lm.body lm.scope cl pm cv ctv) ⟨[], []⟩ = pure [])
    (tk : Takes ((cxOf CXg X.prog X.w X.K X.mg X.base Ng qg sg gA cdg X.A X.stack s H Eg).tr pn xe) W) (hr : Room (k + 1) (X.A.deeper (envOfC qg sg s.heap.objs.size gA cdg)))
    (body : ∀ (A : Around) (outer : List Env) (s' : Shared) (H' : Hp) (E : XK), Room k (A.deeper (LamX.lamEnv X lm.scope s'.heap.objs.size f c')) → A.guards = X.A.guards → PE (LamX.lamCx X A outer s' H' E lm.scope f c') lm.body (tE g (WXK E) lmm))
    (hN : Ng[i]? = some a) (hv : Vis sg a) (hd : (a == ("__debug__" : Str)) = false) (hcd : (a == ("__classdict__" : Str)) = false) :
    PE ((cxOf CXg X.prog X.w X.K X.mg X.base Ng qg sg gA cdg X.A X.stack s H Eg).tr pn xe) (.Call (.Name a p1) [] [] p2)
      (fun σZ HZ Q => σZ[i]? = some (some (.ref f)) ∧ HZ f = some (LamO ce lm f c') ∧ HZ c' = some (LamX.CodeO c' (ce.q ++ "<lambda>")) ∧ tE g (WXK (WE W σZ)) lmm σ HZ Q) := by
  refine ⟨fun pz sZ σZ HZ Q IZ ⟨hs, hfo, hc, ht⟩ => ?_⟩
  refine wpAny_Call_Name_kw (thn ((pe_var (pos := p1) (i := i) hN hv hd hcd).run pz sZ σZ HZ (fun v H1 => v = .ref f ∧ H1 = HZ) IZ ⟨.ref f, hs, rfl, rfl⟩) fun u t ⟨v, H1, J, r1, ev, eH⟩ => ?_)
  subst ev
  subst eH
  obtain rfl : u = Value.ref f := r1
  obtain ⟨⟨pm, ctv, isL⟩, _, _⟩ := J.hok f _ hfo
  obtain ⟨⟨oc, vs, tt, hoc, hdc, hvc⟩, _, _⟩ := J.hok c' _ hc
  rw [eq, ecl] at isL
  rw [eq] at hvc
  refine PySem.W.callWith_F0 ⟨_, _, _, _, isL⟩ ?_
  have un : Un (frs X.stack) [] H H1 s.heap t.heap := J.base
  have run : codeAny (model X.prog X.w) (X.A.deeper (envOfC qg sg s.heap.objs.size gA cdg)) (.call (.ref f) ⟨[], []⟩) (CR (L2.CX X.prog X.w) (envOfC qg sg s.heap.objs.size gA cdg :: X.stack) X.prog X.w H1 t Q (WE W σZ)) t := by
    refine PySem.W.kla_callFunE hr.depth isL rfl L.co L.gen rfl ⟨c', oc, vs, tt, rfl, hoc, hdc, hvc⟩ ?_
    rw [hbind]
    refine wpAny_pure (wpAny_newFunctionEnv (fun y hy => (L.own y hy).2) (fun y hy => absurd hy (by simp)) (fun h₁ hns hsb => ⟨J.nolimit.fresh _ hsb, ?_⟩) L.kind)
    show codeAny _ _ (.expr lm.body (LamX.lamEnv X lm.scope t.heap.objs.size f c')) _ _
    have start := LamX.lam_start2 (f := f) (c' := c') (tk := t.toks + ([] : List (Str × Value)).length) (E := WE W σZ) I L J.env0 hr.hd un hns fun b o e => hsb.extBut b o (Nat.ne_of_lt (Heap.lt_size e)) (Heap.get?_push_of_some _ e)
    refine PySem.W.kla_codeExpr (wpAny_mono ((body _ _ t H1 _ (hr.deeper _) rfl).run [] _ _ H1 Q start ht) (fun v s' hq => ?_) fun e s' hq => hq)
    obtain ⟨w', H', J', rv, q⟩ := hq
    exact ⟨w', H', J'.os, J'.bare, J'.base, J'.hok, rv, q⟩
  refine wpAny_call (codeAny_mono run fun r s' hq => ?_)
  cases r with
  | error e => exact passAt tk σZ pz H1 t e s' J hq
  | ok fl =>
    cases fl with
    | ret u => exact J.after hq
    | next => exact False.elim hq
    | brk => exact False.elim hq
    | cont => exact False.elim hq
end
end Zs
end

/-! Flc -/
noncomputable section
namespace Zs
open PySem PySem.Spec L2
open PyProof.Rows hiding St

/-- what a hearing def makes of a call's end -/
def hdR (kind : Nat) (sub : Str → Option Bool) (r : R D) : R D := match r with
  | .ok v h => (match kind with
    | 0 => .ok .non h
    | 1 => .ok (.tup [.non, v]) h
    | 2 => .ok (.tup [.non, v]) h
    | _ => .bad)
  | .exc c v h => (match sub c with
    | some true => (match kind with
      | 0 => .ok (.exc c v) h
      | 1 => .ok (.tup [.exc c v, .non]) h
      | 2 => .ok (.tup [.exc c v, .non]) h
      | _ => .bad)
    | some false => .exc c v h
    | none => .bad)
  | .bad => .bad
theorem hk_loc {sc : Scope} {l : List Str} {x : Str} (h : Hk.loc sc l = true) (hx : x ∈ l) : sc.names.lookup x = some .local ∧ nDbg x = false := by
  obtain ⟨a, b⟩ := an (List.all_eq_true.mp h x hx)
  exact ⟨isLoc1_of a, by simpa using b⟩
theorem nDbg1 {x : Str} (h : nDbg x = false) : (x == ("__debug__" : Str)) = false ∧ (x == ("__classdict__" : Str)) = false := by
  unfold nDbg at h
  rw [Bool.or_eq_false_iff, Bool.or_eq_false_iff] at h
  exact ⟨h.1.1, h.1.2⟩
section
variable {g : Gm} {c : Cc} {X : Cx} {W : WX} {pins : List (Addr × Obj)} {σ : L2.St} {H : Hp} {s : Shared} {lmm : EM} {ce : Ce} {lm : Lm} {f c' gA : Addr}
theorem run_hd {hk : Hk} {sub : Str → Option Bool} {fd : FuncData} {nm : Str} {pa : Arguments} {body : List Stmt} {sc : Scope} {N : List Str} {F : Hp} {μ : List Addr} {h : HP} {G : Hp} {ρ : Env'} {Q : VK}
    (k : XOk g c X W) (top : c.top = true) (FD : FunD X.K nm nm pa body sc [] [] gA fd) (S : FnScope N [hk.a] sc) (ok : hk.ok body N sc = true) (kb : KB X.K fd [hk.a] [] 1 [0]) (mge : X.mg hk.e = some (.ref (cAd X.K hk.e)))
    (hsub : ∀ y b, sub y = some b → PySem.W.exmOne g.K (.ref (cAd g.K y)) (.ref (cAd g.K hk.e)) = some b)
    (I : Inv X pins σ H s) (L : LamX.LamS X.env.scope lm.scope) (eq : ce.q = X.env.qual) (ecl : ce.cells = X.env.cells)
    (hbind : ∀ (q : Str) (cl : List (Str × Addr)) (pm cv ctv : Value), bindArgs (PySem.W.kla_fn "<lambda>" q lm.params lm.body lm.scope cl pm cv ctv) ⟨[], []⟩ = pure [])
    (rd : ∀ Y WY, XOk g (lamCc c lm.scope) Y WY → PE Y lm.body (tE g WY lmm))
    (s1 : SRel g F μ h G H) (en : REnv g F μ ρ σ) (hF : F f = some (LamO ce lm f c')) (hC : F c' = some (LamX.CodeO c' (ce.q ++ "<lambda>"))) (p : post g (relD g) W F μ G σ Q (hdR hk.kind sub (lmm ρ h))) :
    wpAny (model X.prog X.w) X.A (call (.ref gA) [.ref f]) (EP X pins σ Q) X.xe s := by
  obtain ⟨oc, od, dV, kV, doc, pm, anno, cdv, ct, osl, efd, lk, hcd, _, _⟩ := FD.ex
  have gd := k.gd
  have hr := k.roomT top
  rw [efd] at lk kb
  have HF := s1.sub _ _ hF
  have HC := s1.sub _ _ hC
  have rc : codeAny (model X.prog X.w) X.A (.call (.ref gA) ⟨[.ref f], []⟩) (CR (L2.CX X.prog X.w) X.stack X.prog X.w H s Q (WE W σ)) s := by
    refine LamX.run_ofS (N := N) (ps := [hk.a]) (us := [.ref f]) (vs := [.ref f]) (k := lev c.n + 2) lk hcd S hr I.env0 (kb.to s [.ref f] [] rfl rfl) (.cons rfl .nil) rfl fun hr' => ?_
    have bodyOk : ∀ (A : Around) (outer : List Env) (s' : Shared) (H' : Hp) (E : XK), Room (lev c.n + 1) (A.deeper (LamX.lamEnv X lm.scope s'.heap.objs.size f c')) → A.guards = X.A.guards → PE (LamX.lamCx X A outer s' H' E lm.scope f c') lm.body (tE g (WXK E) lmm) :=
      fun A outer s' H' E r ga => rd _ _ (k.lamx r (by rw [ga]; exact gd))
    unfold Hk.ok at ok
    split at ok
    · rename_i a1 q1 q2 q3 e1 q4 er er2 q5 q6 q7 q8 q9 q10 q11 ek
      obtain ⟨o1, o2⟩ := an ok
      obtain ⟨o2, o3⟩ := an o2
      obtain ⟨o3, o4⟩ := an o3
      obtain ⟨ea, ee, e2, eN⟩ := of_decide_eq_true o1
      subst e2
      subst eN
      rw [← ee] at mge hsub
      have la := hk_loc o4 (x := a1) (by simp)
      have le := hk_loc o4 (x := er) (by simp)
      have hdb : (e1 == ("__debug__" : Str)) = false := (nDbg1 (by simpa using o3)).1
      refine ⟨_, pss_cons (ps_tryV (i := 1) (c := .ref (cAd X.K e1)) rfl rfl rfl S.nd rfl le.1 ⟨isGlob1_of o2, hdb, .inl mge⟩ (takes_of rfl rfl rfl rfl)
        (fun W' pn xe tk po => pss_one (ps_expr (pe_hear (i := 0) I L eq ecl hbind tk hr' bodyOk rfl (.inl la.1) (nDbg1 la.2).1 (nDbg1 la.2).2)))
        fun a pn => pss_one (ps_ret (pe_var (i := 1) rfl (.inl le.1) (nDbg1 le.2).1 (nDbg1 le.2).2))) (pss_one (ps_ret pe_non)), ?_⟩
      refine ⟨rfl, HF, HC, F, μ, h, G, ρ, s1, en, ?_⟩
      rw [ek] at p
      cases er1 : lmm ρ h with
      | bad => rw [er1] at p; exact p
      | ok v h1 =>
        rw [er1] at p
        exact fun F' μ' H' u x s' r => post_ok (g := g) (rel := relD g) (post.mono p x) s' .non
      | exc y v h1 =>
        rw [er1] at p
        intro F' μ' H' dd u x s' r edd
        have p : post g (relD g) W F μ G σ Q (match sub y with
          | some true => R.ok (D.exc y v) h1
          | some false => .exc y v h1
          | none => .bad) := p
        cases eb : sub y with
        | none => rw [eb] at p; exact p.elim
        | some b =>
          rw [eb] at p
          have hx := hsub y b eb
          rw [← k.K] at hx
          refine ⟨b, by rw [← k.K]; exact hx, fun hb => ?_, fun hb => ?_⟩
          · subst hb
            refine ⟨dd, rfl, fun a na => ?_⟩
            obtain ⟨s3, x3⟩ := s'.know (o := ExV (.ref (cAd g.K y)) dd a) na
            exact ⟨_, rfl, post_ok (g := g) (rel := relD g) (post.mono p (x.trans x3)) s3 (.exc upd_same (x3.f _ _ edd) (r.mono x3))⟩
          · subst hb
            exact (show excP g W F μ G σ y v h1 from p) F' μ' H' dd u x s' r edd
    · rename_i t1 q1 a1 q2 q3 q4 e1 q5 er er2 q7 q8 q9 q10 q11 q12 q13 q14 q15 q16 t2 q17 q18 q19 q20 ek
      obtain ⟨o1, o2⟩ := an ok
      obtain ⟨o2, o3⟩ := an o2
      obtain ⟨o3, o4⟩ := an o3
      obtain ⟨ea, ee, e2, e3, eN⟩ := of_decide_eq_true o1
      subst e2
      subst e3
      subst eN
      rw [← ee] at mge hsub
      have la := hk_loc o4 (x := a1) (by simp)
      have lt := hk_loc o4 (x := t1) (by simp)
      have le := hk_loc o4 (x := er) (by simp)
      have hdb : (e1 == ("__debug__" : Str)) = false := (nDbg1 (by simpa using o3)).1
      refine ⟨_, pss_cons (ps_tryV (i := 2) (c := .ref (cAd X.K e1)) rfl rfl rfl S.nd rfl le.1 ⟨isGlob1_of o2, hdb, .inl mge⟩ (takes_of rfl rfl rfl rfl)
        (fun W' pn xe tk po => pss_one (ps_set (i := 1) S.nd rfl (.inl lt.1) (pe_hear (i := 0) I L eq ecl hbind tk hr' bodyOk rfl (.inl la.1) (nDbg1 la.2).1 (nDbg1 la.2).2) (by rfl) (.inl rfl)))
        fun a pn => pss_one (ps_ret (pe_tup (pa_cons (pe_var (i := 2) rfl (.inl le.1) (nDbg1 le.2).1 (nDbg1 le.2).2) (pa_cons pe_non pa_nil rfl) rfl)))) (pss_one (ps_ret (pe_tup (pa_cons pe_non (pa_cons (pe_var (i := 1) rfl (.inl lt.1) (nDbg1 lt.2).1 (nDbg1 lt.2).2) pa_nil rfl) rfl)))), ?_⟩
      refine ⟨rfl, HF, HC, F, μ, h, G, ρ, s1, en, ?_⟩
      rw [ek] at p
      have two : ∀ v u : V, [v, u].length ≤ sizeLine := fun _ _ => by rw [sizeLine_eq]; show 2 ≤ _; omega
      cases er1 : lmm ρ h with
      | bad => rw [er1] at p; exact p
      | ok v h1 =>
        rw [er1] at p
        intro F' μ' H' u x s' r
        refine ⟨_, rfl, two _ _, ?_⟩
        exact post_know (g := g) (rel := relD g) (post.mono (show post g (relD g) W F μ G σ Q (.ok (.tup [.non, v]) h1) from p) x) s' fun p F2 x2 e => .tup e (two _ _) (.cons .non (.cons (r.mono x2) .nil))
      | exc y v h1 =>
        rw [er1] at p
        intro F' μ' H' dd u x s' r edd
        have p : post g (relD g) W F μ G σ Q (match sub y with
          | some true => R.ok (D.tup [D.exc y v, .non]) h1
          | some false => .exc y v h1
          | none => .bad) := p
        cases eb : sub y with
        | none => rw [eb] at p; exact p.elim
        | some b =>
          rw [eb] at p
          have hx := hsub y b eb
          rw [← k.K] at hx
          refine ⟨b, by rw [← k.K]; exact hx, fun hb => ?_, fun hb => ?_⟩
          · subst hb
            refine ⟨dd, rfl, fun a na => ?_⟩
            obtain ⟨s3, x3⟩ := s'.know (o := ExV (.ref (cAd g.K y)) dd a) na
            refine ⟨_, rfl, two _ _, ?_⟩
            exact post_know (g := g) (rel := relD g) (post.mono (show post g (relD g) W F μ G σ Q (.ok (.tup [.exc y v, .non]) h1) from p) (x.trans x3)) s3 fun p F2 x2 e => .tup e (two _ _) (.cons (.exc (x2.f _ _ upd_same) (x2.f _ _ (x3.f _ _ edd)) ((r.mono x3).mono x2)) (.cons .non .nil))
          · subst hb
            exact (show excP g W F μ G σ y v h1 from p) F' μ' H' dd u x s' r edd
    · rename_i c1 p1 b1 p2 tk1 tp1 ck1 cp1 ck2 cp2 tk2 tp2 sp1 b2 p3 a1 p4 p5 p6 e1 p7 er c2 p8 er2 p9 p10 p11 p12 c3 p13 b3 p14 tk3 tp3 p15 ek
      obtain ⟨o1, o2⟩ := an ok
      obtain ⟨o2, o3⟩ := an o2
      obtain ⟨o3, o4⟩ := an o3
      obtain ⟨ea, ee, e2, e3, e4, e5, e6, eN⟩ := of_decide_eq_true o1
      subst e2
      subst e3
      subst e4
      subst e5
      subst e6
      subst eN
      rw [← ee] at mge hsub
      have la := hk_loc o4 (x := a1) (by simp)
      have lc := hk_loc o4 (x := c1) (by simp)
      have lb := hk_loc o4 (x := b1) (by simp)
      have le := hk_loc o4 (x := er) (by simp)
      have hdb : (e1 == ("__debug__" : Str)) = false := (nDbg1 (by simpa using o3)).1
      have two : ∀ v u : V, [v, u].length ≤ sizeLine := fun _ _ => by rw [sizeLine_eq]; show 2 ≤ _; omega
      refine ⟨_, pss_cons (ps_asg (pe_tup (pa_cons pe_non (pa_cons pe_non pa_nil rfl) rfl)) (pg_tup (n := 2) rfl (pgs_cons (pg_name (i := 1) S.nd rfl (.inl lc.1) (.inl rfl)) (pgs_cons (pg_name (i := 2) S.nd rfl (.inl lb.1) (.inl rfl)) pgs_nil rfl) rfl) rfl rfl) (by rfl) (sw_fold (by rfl)) rfl)
        (pss_cons (ps_tryV (i := 3) (c := .ref (cAd X.K e1)) rfl rfl rfl S.nd rfl le.1 ⟨isGlob1_of o2, hdb, .inl mge⟩ (takes_of rfl rfl rfl rfl)
          (fun W' pn xe tk po => pss_one (ps_set (i := 2) S.nd rfl (.inl lb.1) (pe_hear (i := 0) I L eq ecl hbind tk hr' bodyOk rfl (.inl la.1) (nDbg1 la.2).1 (nDbg1 la.2).2) (by rfl) (.inl rfl)))
          fun a pn => pss_one (ps_set (i := 1) S.nd rfl (.inl lc.1) (pe_var (i := 3) rfl (.inl le.1) (nDbg1 le.2).1 (nDbg1 le.2).2) (by rfl) (.inl rfl)))
        (pss_one (ps_ret (pe_tup (pa_cons (pe_var (i := 1) rfl (.inl lc.1) (nDbg1 lc.2).1 (nDbg1 lc.2).2) (pa_cons (pe_var (i := 2) rfl (.inl lb.1) (nDbg1 lb.2).1 (nDbg1 lb.2).2) pa_nil rfl) rfl))))), ?_⟩
      refine ⟨two _ _, fun pa0 na0 => ?_⟩
      obtain ⟨s2, x2⟩ := s1.know (o := .tup [.non, .non]) na0
      refine ⟨pa0, [.non, .non], rfl, (show SqT X.K _ _ _ from SqT.of upd_same), rfl, .non, [.non], rfl, .non, [], rfl, rfl, ?_⟩
      refine ⟨rfl, s2.sub _ _ (x2.f _ _ hF), s2.sub _ _ (x2.f _ _ hC), _, μ, h, G, ρ, s2, en.mono x2, ?_⟩
      rw [ek] at p
      replace p := post.mono p x2
      cases er1 : lmm ρ h with
      | bad => rw [er1] at p; exact p
      | ok v h1 =>
        rw [er1] at p
        intro F' μ' H' u x s' r
        refine ⟨_, rfl, _, rfl, two _ _, ?_⟩
        exact post_know (g := g) (rel := relD g) (post.mono (show post g (relD g) W _ μ G σ Q (.ok (.tup [.non, v]) h1) from p) x) s' fun p F2 x2 e => .tup e (two _ _) (.cons .non (.cons (r.mono x2) .nil))
      | exc y v h1 =>
        rw [er1] at p
        intro F' μ' H' dd u x s' r edd
        have p : post g (relD g) W _ μ G σ Q (match sub y with
          | some true => R.ok (D.tup [D.exc y v, .non]) h1
          | some false => .exc y v h1
          | none => .bad) := p
        cases eb : sub y with
        | none => rw [eb] at p; exact p.elim
        | some b =>
          rw [eb] at p
          have hx := hsub y b eb
          rw [← k.K] at hx
          refine ⟨b, by rw [← k.K]; exact hx, fun hb => ?_, fun hb => ?_⟩
          · subst hb
            refine ⟨dd, rfl, fun a na => ?_⟩
            obtain ⟨s3, x3⟩ := s'.know (o := ExV (.ref (cAd g.K y)) dd a) na
            refine ⟨_, rfl, _, rfl, _, rfl, two _ _, ?_⟩
            exact post_know (g := g) (rel := relD g) (post.mono (show post g (relD g) W _ μ G σ Q (.ok (.tup [.exc y v, .non]) h1) from p) (x.trans x3)) s3 fun p F2 x2 e => .tup e (two _ _) (.cons (.exc (x2.f _ _ upd_same) (x2.f _ _ (x3.f _ _ edd)) ((r.mono x3).mono x2)) (.cons .non .nil))
          · subst hb
            exact (show excP g W _ μ G σ y v h1 from p) F' μ' H' dd u x s' r edd
    · cases ok
  refine wpAny_call (codeAny_mono rc fun r s' hq => ?_)
  cases r with
  | error e => exact passAt k.tk σ pins H s e s' I hq
  | ok fl =>
    cases fl with
    | ret u => exact I.after hq
    | next => exact False.elim hq
    | brk => exact False.elim hq
    | cont => exact False.elim hq
end
end Zs
end

/-! Fld -/
noncomputable section
namespace Zs
open PySem PySem.Spec L2
open PyProof.Rows hiding St

/-! ### two texts that are the same -/
def eqL {α : Type} (f : (a b : α) → Option (PLift (a = b))) : (l m : List α) → Option (PLift (l = m))
  | [], [] => some ⟨rfl⟩
  | a :: l, b :: m => (match f a b, eqL f l m with
    | some ⟨h1⟩, some ⟨h2⟩ => some ⟨by rw [h1, h2]⟩
    | _, _ => none)
  | _, _ => none
def eqD' {α : Type} [DecidableEq α] (a b : α) : Option (PLift (a = b)) := if h : a = b then some ⟨h⟩ else none
def eqO' {α : Type} (f : (a b : α) → Option (PLift (a = b))) : (l m : Option α) → Option (PLift (l = m))
  | none, none => some ⟨rfl⟩
  | some a, some b => (match f a b with
    | some ⟨h⟩ => some ⟨by rw [h]⟩
    | none => none)
  | _, _ => none
def eqE : Nat → (a b : Expr) → Option (PLift (a = b))
  | 0, _, _ => none
  | n + 1, .Name x p, .Name y q => (match eqD' x y, eqD' p q with
    | some ⟨h1⟩, some ⟨h2⟩ => some ⟨by rw [h1, h2]⟩
    | _, _ => none)
  | n + 1, .Constant x k p, .Constant y j q => (match eqD' x y, eqD' k j, eqD' p q with
    | some ⟨h1⟩, some ⟨h2⟩, some ⟨h3⟩ => some ⟨by rw [h1, h2, h3]⟩
    | _, _, _ => none)
  | n + 1, .Call f es ks p, .Call g' fs js q => (match eqE n f g', eqL (eqE n) es fs, eqL (fun (a b : Keyword) => match eqD' a.arg b.arg, eqE n a.value b.value, eqD' a.pos b.pos with
      | some ⟨h1⟩, some ⟨h2⟩, some ⟨h3⟩ => some (⟨by cases a; cases b; simp only at h1 h2 h3; rw [h1, h2, h3]⟩ : PLift (a = b))
      | _, _, _ => none) ks js, eqD' p q with
    | some ⟨h1⟩, some ⟨h2⟩, some ⟨h3⟩, some ⟨h4⟩ => some ⟨by rw [h1, h2, h3, h4]⟩
    | _, _, _, _ => none)
  | n + 1, .Attribute a x p, .Attribute b y q => (match eqE n a b, eqD' x y, eqD' p q with
    | some ⟨h1⟩, some ⟨h2⟩, some ⟨h3⟩ => some ⟨by rw [h1, h2, h3]⟩
    | _, _, _ => none)
  | n + 1, .Subscript a x p, .Subscript b y q => (match eqE n a b, eqE n x y, eqD' p q with
    | some ⟨h1⟩, some ⟨h2⟩, some ⟨h3⟩ => some ⟨by rw [h1, h2, h3]⟩
    | _, _, _ => none)
  | n + 1, .Slice a b c p, .Slice a' b' c' q => (match eqO' (eqE n) a a', eqO' (eqE n) b b', eqO' (eqE n) c c', eqD' p q with
    | some ⟨h1⟩, some ⟨h2⟩, some ⟨h3⟩, some ⟨h4⟩ => some ⟨by rw [h1, h2, h3, h4]⟩
    | _, _, _, _ => none)
  | n + 1, .Tuple es k p, .Tuple fs j q => (match eqL (eqE n) es fs, eqD' k j, eqD' p q with
    | some ⟨h1⟩, some ⟨h2⟩, some ⟨h3⟩ => some ⟨by rw [h1, h2, h3]⟩
    | _, _, _ => none)
  | n + 1, .List es p, .List fs q => (match eqL (eqE n) es fs, eqD' p q with
    | some ⟨h1⟩, some ⟨h3⟩ => some ⟨by rw [h1, h3]⟩
    | _, _ => none)
  | n + 1, .BinOp a o b p, .BinOp a' o' b' q => (match eqE n a a', eqD' o o', eqE n b b', eqD' p q with
    | some ⟨h1⟩, some ⟨h2⟩, some ⟨h3⟩, some ⟨h4⟩ => some ⟨by rw [h1, h2, h3, h4]⟩
    | _, _, _, _ => none)
  | n + 1, .UnaryOp o a p, .UnaryOp o' a' q => (match eqD' o o', eqE n a a', eqD' p q with
    | some ⟨h1⟩, some ⟨h2⟩, some ⟨h3⟩ => some ⟨by rw [h1, h2, h3]⟩
    | _, _, _ => none)
  | n + 1, .BoolOp o a p, .BoolOp o' a' q => (match eqD' o o', eqL (eqE n) a a', eqD' p q with
    | some ⟨h1⟩, some ⟨h2⟩, some ⟨h3⟩ => some ⟨by rw [h1, h2, h3]⟩
    | _, _, _ => none)
  | n + 1, .Compare a o b p, .Compare a' o' b' q => (match eqE n a a', eqD' o o', eqL (eqE n) b b', eqD' p q with
    | some ⟨h1⟩, some ⟨h2⟩, some ⟨h3⟩, some ⟨h4⟩ => some ⟨by rw [h1, h2, h3, h4]⟩
    | _, _, _, _ => none)
  | n + 1, .IfExp a b c p, .IfExp a' b' c' q => (match eqE n a a', eqE n b b', eqE n c c', eqD' p q with
    | some ⟨h1⟩, some ⟨h2⟩, some ⟨h3⟩, some ⟨h4⟩ => some ⟨by rw [h1, h2, h3, h4]⟩
    | _, _, _, _ => none)
  | _, _, _ => none
def noArgs : Arguments := ⟨[], [], none, [], [], none, []⟩
def isNoArgs (a : Arguments) : Option (PLift (a = noArgs)) := match a with
  | ⟨[], [], none, [], [], none, []⟩ => some ⟨rfl⟩
  | _ => none
/-! ### the lambdas of a text, in its order -/
def lamsE : Nat → Expr → List Lm
  | 0, _ => []
  | n + 1, e => match e with
    | .Lambda a b s _ => [⟨a, b, s⟩]
    | .Call f es ks _ => lamsE n f ++ es.flatMap (lamsE n) ++ ks.flatMap fun k => lamsE n k.value
    | .Attribute a _ _ => lamsE n a
    | .Subscript a b _ => lamsE n a ++ lamsE n b
    | .Tuple es _ _ => es.flatMap (lamsE n)
    | .List es _ => es.flatMap (lamsE n)
    | .BinOp a _ b _ => lamsE n a ++ lamsE n b
    | .UnaryOp _ a _ => lamsE n a
    | .BoolOp _ a _ => a.flatMap (lamsE n)
    | .Compare a _ b _ => lamsE n a ++ b.flatMap (lamsE n)
    | .IfExp a b c _ => lamsE n a ++ lamsE n b ++ lamsE n c
    | _ => []
def lamsS : Nat → Stmt → List Lm
  | 0, _ => []
  | n + 1, s => match s with
    | .Assign _ e _ => lamsE 20 e
    | .Expr e _ => lamsE 20 e
    | .Return (some e) _ => lamsE 20 e
    | .If t a b _ => lamsE 20 t ++ a.flatMap (lamsS n) ++ b.flatMap (lamsS n)
    | .For _ i b _ _ => lamsE 20 i ++ b.flatMap (lamsS n)
    | .While t b _ _ => lamsE 20 t ++ b.flatMap (lamsS n)
    | _ => []
def lamsOf (l : List Stmt) : List Lm := l.flatMap (lamsS 20)
/-- the place of a lambda among those of the def -/
def lmAt (n : Nat) (body : Expr) (scope : Scope) : (l : List Lm) → Option { k : Nat // l[k]? = some ⟨noArgs, body, scope⟩ }
  | [] => none
  | lm :: r => (match isNoArgs lm.params, eqE n lm.body body, eqD' lm.scope scope with
    | some ⟨h1⟩, some ⟨h2⟩, some ⟨h3⟩ => some ⟨0, by cases lm; simp only at h1 h2 h3; rw [h1, h2, h3]; rfl⟩
    | _, _, _ => (match lmAt n body scope r with
      | some ⟨k, h⟩ => some ⟨k + 1, by rw [List.getElem?_cons_succ]; exact h⟩
      | none => none))
/-! ### the call of a hearing def -/
def eHd (kind : Nat) (sub : Str → Option Bool) (n : Nat) (ls : List EM) (a : EM) : EM := fun ρ h => (a ρ h).bnd fun x h1 => match x with
  | .fn m k => if m = n then (match ls[k]? with
    | some lm => hdR kind sub (lm ρ h1)
    | none => .bad) else .bad
  | _ => .bad
def lmOk (sc : Scope) (lm : Lm) : Bool := LamX.lamSB sc lm.scope && (isNoArgs lm.params).isSome
theorem lmOk_of {sc : Scope} {lm : Lm} (h : lmOk sc lm = true) : LamX.LamS sc lm.scope ∧ lm.params = noArgs := by
  obtain ⟨a, b⟩ := an h
  refine ⟨LamX.lamS_by a, ?_⟩
  cases e : isNoArgs lm.params with
  | none => rw [e] at b; cases b
  | some p => exact p.down
theorem se_hd {g : Gm} {c : Cc} {X : Cx} {W : WX} {x : Str} {i : Nat} {hk : Hk} {e : Expr} {p pos : Pos} {sub : Str → Option Bool} {a : EM} {ls : List EM}
    (k : XOk g c X W) (top : c.top = true) (mkr : c.mkr = true) (ht : c.tb.lookup x = some (.hd i hk)) (hg : Gl X x) (hdb : (x == ("__debug__" : Str)) = false) (ss : List Str) (hcl : c.cls.lookup hk.e = some ss)
    (hsub : ∀ y b, sub y = some b → PySem.W.exmOne g.K (.ref (cAd g.K y)) (.ref (cAd g.K hk.e)) = some b) (hlm : c.lms.all (lmOk c.sc) = true)
    (hls : ∀ (j : Nat) (lm : Lm), c.lms[j]? = some lm → ∃ m, ls[j]? = some m ∧ ((∀ g' Y WY, XOk g' (lamCc c lm.scope) Y WY → PE Y lm.body (tE g' WY m)) ∨ ∀ ρ h, m ρ h = .bad))
    (he : PE X e (tE g W a)) (hs : starEach [e] X.env = (false, eval e X.env) :: starEach [] X.env) : PE X (.Call (.Name x p) [e] [] pos) (tE g W (eHd hk.kind sub c.n ls a)) := by
  obtain ⟨f, fd, nm, pa, body, sc, N, hm, FD, S, hok, kb⟩ := k.glo x _ ht
  refine ⟨fun pins s σ H Q I h => ?_⟩
  obtain ⟨F, μ, h', G, ρ, s1, en, q⟩ := h
  refine wpAny_Call_Name_kw (ld_glob I hg hm ?_ hdb)
  refine PySem.W.callWith_K (h₀ := X.base) I.ok.mod.kin FD.kp ?_ hs rfl
  rw [hs]
  show wpAny _ _ (spliced ((false, eval e X.env) :: backTo pos (starEach [] X.env))) _ _ s
  have q1 : post g (relD g) W F μ G σ (fun v H1 => ∃ F1 μ1 h1 d, Ext F μ F1 μ1 ∧ SRel g F1 μ1 h1 G H1 ∧ Rep g F1 μ1 d v ∧ post g (relD g) W F1 μ1 G σ Q ((fun x h1 => match x with
      | .fn m k => if m = c.n then (match ls[k]? with
        | some lm => hdR hk.kind sub (lm ρ h1)
        | none => .bad) else .bad
      | _ => .bad : D → HP → R D) d h1)) (a ρ h') := post_bnd (g := g) (rel := relD g) q fun F1 μ1 h1 H1 d v x1 s2 r q2 => ⟨F1, μ1, h1, d, x1, s2, r, q2⟩
  refine Calls.spliced_cons (thn (he.run pins s σ H _ I ⟨F, μ, h', G, ρ, s1, en, q1⟩) fun u t ⟨v, H1, J, rv, F1, μ1, h1, d, x1, s2, r, q2⟩ => ?_)
  refine Calls.spliced_nil ⟨J.kIn, ?_⟩
  cases r with
  | @fn n kk ce lm fo co e1 e2 hF hC =>
    cases rv
    dsimp only at q2
    split at q2
    · rename_i en'
      subst en'
      obtain ⟨ce', cc, P, m1, m2, m3, m4, _⟩ := (k.mkr mkr).ex
      rw [m1] at e1
      cases e1
      rw [m4] at e2
      obtain ⟨m, hm1, hm2⟩ := hls kk lm e2
      rw [hm1] at q2
      obtain ⟨L, ea⟩ := lmOk_of (List.all_eq_true.mp hlm lm (List.mem_of_getElem? e2))
      have mge := (k.cl.x hk.e ss hcl).mg
      rcases hm2 with hm2 | hm2
      · exact run_hd k top FD S hok kb mge hsub J (by rw [k.sc]; exact L) m3 m2 (fun _ _ _ _ _ => by rw [ea]; rfl) (fun Y WY ky => hm2 g Y WY ky) s2 (en.mono x1) hF hC q2
      · dsimp only at q2
        rw [hm2] at q2
        exact q2.elim
    · exact q2.elim
  | _ => exact q2.elim
end Zs
end

/-! Fl -/
noncomputable section
namespace Zs
open PySem PySem.Spec L2
open PyProof.Rows hiding St

/-! ### dict displays -/
def evP : List (EM × EM) → Env' → M (List (D × D))
  | [], _, h => .ok [] h
  | (a, b) :: r, ρ, h => (a ρ h).bnd fun x h1 => (b ρ h1).bnd fun y h2 => (evP r ρ h2).bnd fun ps h3 => .ok ((x, y) :: ps) h3
def fDisp (o : Bool) (ps : List (D × D)) (h : HP) : R D := match putAll [] ps with
  | some ds => mkD o ds h
  | none => .bad
def eDi (o : Bool) (l : List (EM × EM)) : EM := fun ρ h => (evP l ρ h).bnd (fDisp o)
def eD0 (o : Bool) : EM := fun _ h => mkD o [] h
section
variable {g : Gm} {W : WX} {K : Gm} {F : Hp} {μ : List Addr} {G H : Hp} {σ : L2.St} {h : HP}
inductive RepPs (K : Gm) (F : Hp) (μ : List Addr) : List (D × D) → List (V × V) → Prop where
  | nil : RepPs K F μ [] []
  | cons {d v e u ds vs} : Rep K F μ d v → Rep K F μ e u → RepPs K F μ ds vs → RepPs K F μ ((d, e) :: ds) ((v, u) :: vs)
abbrev relP (g : Gm) : Hp → List Addr → List (D × D) → List (V × V) → Prop := fun F μ a b => RepPs g F μ a b
theorem RepPs.mono {F' : Hp} {μ' : List Addr} (x : Ext F μ F' μ') : ∀ {a b}, RepPs K F μ a b → RepPs K F' μ' a b
  | _, _, .nil => .nil
  | _, _, .cons r q t => .cons (r.mono x) (q.mono x) (t.mono x)
theorem tPairs_of : ∀ (l : List (EM × EM)) {F : Hp} {μ : List Addr} {h : HP} {H : Hp} {ρ : Env'} {C : List (V × V) → Hp → Prop}, SRel g F μ h G H → REnv g F μ ρ σ → post g (relP g) W F μ G σ C (evP l ρ h) → tPairs (l.map fun p => (tE g W p.1, tE g W p.2)) σ H C
  | [], F, μ, h, H, ρ, C, s, en, q => post_ok (g := g) (rel := relP g) q s .nil
  | (a, b) :: r, F, μ, h, H, ρ, C, s, en, q => ⟨F, μ, h, G, ρ, s, en, post_bnd (g := g) q fun F1 μ1 h1 H1 d v x s1 rv q1 => ⟨F1, μ1, h1, G, ρ, s1, en.mono x, post_bnd (g := g) q1 fun F2 μ2 h2 H2 d2 v2 x2 s2 rv2 q2 =>
      tPairs_of r s2 (en.mono (x.trans x2)) (post_bnd (g := g) (rel := relP g) q2 fun F3 μ3 h3 H3 ps vs x3 s3 rp q3 => post_ok (g := g) (rel := relP g) q3 s3 (.cons (rv.mono (x2.trans x3)) (rv2.mono x3) rp))⟩⟩
theorem RepPs.keys : ∀ {a b}, RepPs K F μ a b → keysOk a = true → ∃ kvs : List (Key × V), b = kvs.map (fun kv => (kV kv.1, kv.2)) ∧ RepK K F μ a kvs
  | _, _, .nil, _ => ⟨[], rfl, .nil⟩
  | _, _, .cons (d := d) (e := e) (u := u) (ds := ds) r q t, h => by
    have h' : ((kyOf d).isSome && keysOk ds) = true := h
    rw [Bool.and_eq_true] at h'
    obtain ⟨kvs, e1, rk⟩ := t.keys h'.2
    obtain ⟨y, hy⟩ := Option.isSome_iff_exists.mp h'.1
    refine ⟨(keyV y, u) :: kvs, ?_, .cons (ky_R hy) q rk⟩
    rw [List.map_cons, ← e1]
    cases d <;> first | (cases hy; done) | (cases hy; cases r; rfl)
theorem RepPs.len : ∀ {a b}, RepPs K F μ a b → a.length = b.length
  | _, _, .nil => rfl
  | _, _, .cons _ _ t => by rw [List.length_cons, List.length_cons, t.len]
theorem post_mkD_held {o : Bool} {ds : List (D × D)} {vs : List (Key × V)} {p : Addr} {u : HO} {Q : VK} (s : SRel g F μ h (upd G p u) H) (nG : G p = none) (nu : ∀ c q, u ≠ LamX.CodeO c q) (q : post g (relD g) W F μ G σ Q (mkD o ds h)) (r : RepK g F μ ds vs) : LkQ Q (.ref p) (upd H p (.dK vs)) := by
  cases o with
  | false =>
    refine .inr ⟨p, _, rfl, upd_same, fun ob => ?_⟩
    have s1 := s.wrG (o' := .frz ob (.dK vs)) nu
    obtain ⟨s2, x⟩ := s1.relF nG
    have e : upd (upd H p (.dK vs)) p (lockO ob (.dK vs)) = upd H p (.frz ob (.dK vs)) := upd_upd
    rw [e]
    exact q _ _ _ _ x s2 (.dctK upd_same (r.mono x))
  | true =>
    have s1 := s.wrG (o' := .dK vs) nu
    obtain ⟨s2, x⟩ := s1.relO nG (.dctK r)
    exact .inl (q _ _ _ _ x s2 (.ref (by rw [← s.len]; simp)))
theorem SRel.less {G' : Hp} (s : SRel K F μ h G' H) (l : ∀ a o, G a = some o → G' a = some o) : SRel K F μ h G H := by
  refine ⟨s.sub, s.len, fun i o e => ?_, s.inj, fun a o e => s.fr a o (l a o e), s.tb, fun a ps => ⟨(s.nt a ps).1, fun e => (s.nt a ps).2 (l _ _ e)⟩, fun a u e => s.nc a u (l _ _ e)⟩
  obtain ⟨a, u, h1, h2, h3, h4, h5⟩ := s.live i o e
  refine ⟨a, u, h1, h2, h3, ?_, h5⟩
  cases q : G a with
  | none => rfl
  | some w => rw [l a w q] at h4; cases h4
theorem post_bndG {α β γ δ : Type} {rel : Hp → List Addr → α → β → Prop} {rel' : Hp → List Addr → γ → δ → Prop} {Q : δ → Hp → Prop} {C : β → Hp → Prop} {r : R α} {f : α → HP → R γ} {G' : Hp}
    (e : post g rel' W F μ G σ Q (r.bnd f)) (l : ∀ a o, G a = some o → G' a = some o)
    (k : ∀ F1 μ1 h1 H1 d v, r = .ok d h1 → Ext F μ F1 μ1 → SRel g F1 μ1 h1 G' H1 → rel F1 μ1 d v → post g rel' W F1 μ1 G σ Q (f d h1) → C v H1) : post g rel W F μ G' σ C r := by
  cases r with
  | ok d h' => exact fun F' μ' H' v x s q => k F' μ' h' H' d v rfl x s q (post.mono e x)
  | exc c x h' => exact fun F' μ' H' dd v z s r1 r2 => (show excP g W F μ G σ c x h' from e) F' μ' H' dd v z (s.less l) r1 r2
  | bad => exact e
theorem evP_len : ∀ (l : List (EM × EM)) {ρ : Env'} {h : HP} {ps : List (D × D)} {h' : HP}, evP l ρ h = .ok ps h' → ps.length = l.length
  | [], ρ, h, ps, h', e => by cases e; rfl
  | (a, b) :: r, ρ, h, ps, h', e => by
    have e : ((a ρ h).bnd fun x h1 => (b ρ h1).bnd fun y h2 => (evP r ρ h2).bnd fun ps h3 => .ok ((x, y) :: ps) h3) = .ok ps h' := e
    cases e1 : a ρ h with
    | ok x h1 =>
      rw [e1] at e
      have e : ((b ρ h1).bnd fun y h2 => (evP r ρ h2).bnd fun ps h3 => .ok ((x, y) :: ps) h3) = .ok ps h' := e
      cases e2 : b ρ h1 with
      | ok y h2 =>
        rw [e2] at e
        have e : ((evP r ρ h2).bnd fun ps h3 => .ok ((x, y) :: ps) h3) = .ok ps h' := e
        cases e3 : evP r ρ h2 with
        | ok qs h3 => rw [e3] at e; cases e; rw [List.length_cons, List.length_cons, evP_len r e3]
        | exc c v h3 => rw [e3] at e; cases e
        | bad => rw [e3] at e; cases e
      | exc c v h3 => rw [e2] at e; cases e
      | bad => rw [e2] at e; cases e
    | exc c v h3 => rw [e1] at e; cases e
    | bad => rw [e1] at e; cases e
theorem eDi_of {o : Bool} {l : List (EM × EM)} (h15 : l.length ≤ 15) : ∀ σ H Q, tE g W (eDi o l) σ H Q → tLk (tDisp (l.map fun p => (tE g W p.1, tE g W p.2))) σ H Q := fun σ H Q ⟨F, μ, h, G, ρ, s, en, q⟩ p np => by
  obtain ⟨nF, nG⟩ := s.free np
  refine tPairs_of l (s.hold (o := .dK []) np) en (post_bndG (rel := relP g) q (fun a o e => by rw [upd_ne (ne_of_none e nG)]; exact e) fun F1 μ1 h1 H1 ps vs er x s1 rp q1 => ⟨s1.heldAt.1, ?_⟩)
  unfold fDisp at q1
  split at q1
  · rename_i ds e
    obtain ⟨kvs, e1, rk⟩ := rp.keys (putAll_keys e)
    refine ⟨kvs, e1, ?_, post_mkD_held s1 nG (by intro _ _ z; unfold LamX.CodeO at z; cases z) q1 (putAll_R .nil rk e)⟩
    rw [← rk.length, evP_len l er]; exact h15
  · exact q1.elim
theorem se_d0 {X : Cx} {o : Bool} {pos : Pos} : PE X (.Dict [] [] pos) (tE g W (eD0 o)) := (pe_lk pe_dnewK).imp fun σ H Q ⟨F, μ, h, G, ρ, s, en, q⟩ => post_mkD s q .nil
structure CP (c : Cc) (pos : Pos) (ks : List (Option Expr)) (vs : List Expr) where
  l : List (EM × EM)
  ok : ∀ g X W, XOk g c X W → PPs X pos ks vs (l.map fun p => (tE g W p.1, tE g W p.2))
  all : ks.all (·.isSome) = true
  len : ks.length = vs.length
  ll : l.length = ks.length
def cPs (S : Sm) (c : Cc) (pos : Pos) : (ks : List (Option Expr)) → (vs : List Expr) → Option (CP c pos ks vs)
  | [], [] => some ⟨[], fun g X W k => pps_nil, rfl, rfl, rfl⟩
  | some a :: ks, b :: vs => (match S.e false c a, S.e false c b, cPs S c pos ks vs with
    | some ma, some mb, some r => some ⟨(ma.m, mb.m) :: r.l, fun g X W k => pps_cons (ma.ok g X W k) (mb.ok g X W k) (r.ok g X W k), by rw [List.all_cons, r.all]; rfl, by rw [List.length_cons, List.length_cons, r.len], by rw [List.length_cons, List.length_cons, r.ll]⟩
    | _, _, _ => none)
  | _, _ => none
end

/-! ### lists of parts -/
def cAs (S : Sm) (c : Cc) : (l : List Expr) → Option (CA c l)
  | [] => some ⟨aN, rfl, fun _ => rfl, aN_len, fun g X W k => sa_n⟩
  | e :: es => (match S.e false c e, cAs S c es with
    | some a, some r => if hs : noStar e = true then some ⟨aC a.m r.m, by rw [List.all_cons, hs, r.ns]; rfl, fun z => (List.cons_ne_nil _ _ z).elim, aC_len r.len, fun g X W k => sa_c (a.ok g X W k) (r.ok g X W k) (starEach_no X.env hs es)⟩ else none
    | _, _ => none)
/-- a display's parts -/
structure CAS (c : Cc) (l : List Expr) where
  m : AM
  ok : ∀ g X W, XOk g c X W → PA X l (tA g W m)
def cAsS (S : Sm) (c : Cc) : (l : List Expr) → Option (CAS c l)
  | [] => some ⟨aN, fun g X W k => sa_n⟩
  | .Starred e p :: es => (match S.e false c e, cAsS S c es with
    | some a, some r => some ⟨aS a.m r.m, fun g X W k => sa_s k.K (a.ok g X W k) (r.ok g X W k)⟩
    | _, _ => none)
  | e :: es => (match S.e false c e, cAsS S c es with
    | some a, some r => if hs : noStar e = true then some ⟨aC a.m r.m, fun g X W k => sa_c (a.ok g X W k) (r.ok g X W k) (starEach_no X.env hs es)⟩ else none
    | _, _ => none)
def cKs (S : Sm) (c : Cc) : (l : List Keyword) → Option (CK c l)
  | [] => some ⟨aN, fun g X W k => sk_n⟩
  | ⟨nm, e, kp⟩ :: es => (match S.e false c e, cKs S c es with
    | some a, some r => some ⟨aC a.m r.m, fun g X W k => sk_c (a.ok g X W k) (r.ok g X W k)⟩
    | _, _ => none)
def cWs (S : Sm) (c : Cc) (op : BoolOp) : (l : List Expr) → Option (CW c op l)
  | [] => none
  | [a] => (match S.t c a with
    | some t => some ⟨t.m, fun g X W pos k => (match op with
      | .And => pw_and1 (t.ok g X W k)
      | .Or => pw_or1 (t.ok g X W k))⟩
    | none => none)
  | a :: b :: r => (match S.t c a, cWs S c op (b :: r) with
    | some t, some u => (match op, u with
      | .And, u => some ⟨tAn t.m u.m, fun g X W pos k => (pw_and (t.ok g X W k) (u.ok g X W pos k)).imp tTan⟩
      | .Or, u => some ⟨tOr' t.m u.m, fun g X W pos k => (pw_or (t.ok g X W k) (u.ok g X W pos k)).imp tTor⟩)
    | _, _ => none)
def cBs (S : Sm) (o : Bool) (c : Cc) (op : BoolOp) : (l : List Expr) → Option (CB c op l)
  | [] => none
  | [a] => (match S.e o c a with
    | some t => some ⟨t.m, fun g X W pos k => pe_one (t.ok g X W k)⟩
    | none => none)
  | a :: b :: r => (match S.e o c a, cBs S o c op (b :: r) with
    | some t, some u => (match op, u with
      | .And, u => some ⟨eAn t.m u.m, fun g X W pos k => se_an (t.ok g X W k) (u.ok g X W pos k)⟩
      | .Or, u => some ⟨eOr t.m u.m, fun g X W pos k => se_or (t.ok g X W k) (u.ok g X W pos k)⟩)
    | _, _ => none)
def cOs (S : Sm) (c : Cc) : (l : Option Expr) → Option (CO c l)
  | none => some ⟨oN, fun g X W k => so_n⟩
  | some e => (match S.e false c e with
    | some a => some ⟨oS a.m, fun g X W k => so_s (a.ok g X W k)⟩
    | none => none)
/-- a plain subscript -/
def plainIx : Expr → Bool
  | .Slice _ _ _ _ => false
  | _ => true
theorem plainIx_of {b : Expr} (h : plainIx b = true) : PlainIx b := fun o i => by
  cases b <;> first | rfl | (cases h; done)

/-! ### targets -/
def cTg1 (S : Sm) (c : Cc) : (e : Expr) → Option (CG c e)
  | .Name x pos => if hi : c.N[slotOf c.N x]? = some x then (if hl : isLoc (c.sc.names.lookup x) = true then (if hf : c.fnc x = true ∨ isLocal (c.sc.names.lookup x) = true then
      some ⟨gN (slotOf c.N x), [slotOf c.N x], fun g X W k => sg_n k.nd (by rw [k.N]; exact hi) (by unfold L2.Loc; rw [k.sc]; exact isLoc_of hl) (by
        rw [k.fn, k.sc]
        exact hf.imp id isLocal_of), fun _ _ => rfl⟩ else none) else none) else none
  | .Subscript o i pos => if hp : plainIx i = true then (match S.e false c o, S.e false c i with
      | some a, some b => some ⟨gS2 a.m b.m, [], fun g X W k => sg_s2 (by have := k.xg.un; omega) (a.ok g X W k) (b.ok g X W k) fun v => (by cases i <;> first | rfl | (cases hp; done)), fun _ _ => rfl⟩
      | _, _ => none) else none
  | _ => none
def cTgs (S : Sm) (c : Cc) : (l : List Expr) → Option (CGs c l)
  | [] => some ⟨gsN, [], fun g X W k => sgs_n, fun _ => rfl, fun _ => rfl⟩
  | e :: es => (match cTg1 S c e, cTgs S c es with
    | some a, some r => some ⟨gsC a.m r.m, a.sl ++ r.sl, fun g X W k => sgs_c (a.ok g X W k) (r.ok g X W k) (by rw [a.nst]; rfl), fun env => by rw [a.nst, List.length_cons, List.length_cons, r.len], fun env => by
      rw [a.nst, List.findIdx?_cons, r.nst]; rfl⟩
    | _, _ => none)
def cTg (S : Sm) (c : Cc) : (e : Expr) → Option (CG c e)
  | .Tuple es k pos => (match cTgs S c es with
    | some r => some ⟨gT es.length r.m, r.sl, fun g X W k => sg_t k.K k.calm (r.ok g X W k) (r.len _) (r.nst _), fun _ _ => rfl⟩
    | none => none)
  | e => cTg1 S c e

/-! ### what is walked over -/
def isRng (x : Str) : Bool := decide (x = "range")
def cItA (S : Sm) (c : Cc) (tg : Expr) (e : Expr) : Option (CI c tg e) := match S.e false c e with
  | some a => some ⟨iA a.m, fun g X W k => si_a k.K (a.ok g X W k)⟩
  | none => none
def isBi : Option GE → Bool
  | some .bi => true
  | _ => false
theorem isBi_of {o : Option GE} (h : isBi o = true) : o = some .bi := by
  cases o with
  | none => cases h
  | some e => cases e <;> first | rfl | cases h
/-- a built-in's name, not hidden -/
def biN (c : Cc) (x : Str) : Bool := isGlob (c.sc.names.lookup x) && isBi (c.tb.lookup x)
theorem biN_gl {c : Cc} {x : Str} (h : biN c x = true) {X : Cx} {W : WX} (k : XOk g c X W) : Gl X x ∧ X.mg x = none := by
  unfold biN at h
  rw [Bool.and_eq_true] at h
  exact ⟨k.gl (isGlob_of h.1), k.glo x _ (isBi_of h.2)⟩
def cZip (S : Sm) (c : Cc) (x : Str) (p : Pos) (a b : Expr) (pos : Pos) : (tg : Expr) → Option (CI c tg (.Call (.Name x p) [a, b] [] pos))
  | .Tuple elts kk tpos => if hx : x = "zip" ∧ biN c "zip" = true ∧ noStar a = true ∧ noStar b = true then (match S.e false c a, S.e false c b with
      | some m, some m2 => some ⟨iZ (aC m.m (aC m2.m aN)), fun g X W k => by
          obtain ⟨rfl, hb, hn⟩ := hx
          exact si_zip k.K (biN_gl hb k).1 (biN_gl hb k).2 (sa_c (m.ok g X W k) (sa_c (m2.ok g X W k) sa_n (starEach_no X.env hn.2 [])) (starEach_no X.env hn.1 [b])) hn⟩
      | _, _ => none) else none
  | _ => none
def cIt (S : Sm) (c : Cc) (tg : Expr) : (e : Expr) → Option (CI c tg e)
  | .Call (.Name x p) [a] [] pos => if hx : x = "range" ∧ biN c "range" = true then (match S.e false c a with
      | some m => if hn : noStar a = true then some ⟨iR (aC m.m aN), fun g X W k => by
          obtain ⟨rfl, hb⟩ := hx
          exact si_r1 (biN_gl hb k).1 (biN_gl hb k).2 (sa_c (m.ok g X W k) sa_n (starEach_no X.env hn [])) hn (aC_len aN_len)⟩ else none
      | none => none) else cItA S c tg (.Call (.Name x p) [a] [] pos)
  | .Call (.Name x p) [a, b] [] pos => if hx : x = "range" ∧ biN c "range" = true then (match S.e false c a, S.e false c b with
      | some m, some m2 => if hn : noStar a = true ∧ noStar b = true then some ⟨iR (aC m.m (aC m2.m aN)), fun g X W k => by
          obtain ⟨rfl, hb⟩ := hx
          exact si_r2 (biN_gl hb k).1 (biN_gl hb k).2 (sa_c (m.ok g X W k) (sa_c (m2.ok g X W k) sa_n (starEach_no X.env hn.2 [])) (starEach_no X.env hn.1 [b])) hn.1 hn.2 (aC_len (aC_len aN_len))⟩ else none
      | _, _ => none) else (match cZip S c x p a b pos tg with
      | some z => some z
      | none => cItA S c tg (.Call (.Name x p) [a, b] [] pos))
  | .Call (.Name x p) [a, b, d] [] pos => if hx : x = "range" ∧ biN c "range" = true then (match S.e false c a, S.e false c b, S.e false c d with
      | some m, some m2, some m3 => if hn : noStar a = true ∧ noStar b = true ∧ noStar d = true then some ⟨iR3 (aC m.m (aC m2.m (aC m3.m aN))), fun g X W k => by
          obtain ⟨rfl, hb⟩ := hx
          exact si_r3 (biN_gl hb k).1 (biN_gl hb k).2 (sa_c (m.ok g X W k) (sa_c (m2.ok g X W k) (sa_c (m3.ok g X W k) sa_n (starEach_no X.env hn.2.2 [])) (starEach_no X.env hn.2.1 [d])) (starEach_no X.env hn.1 [b, d])) hn.1 hn.2.1 hn.2.2⟩ else none
      | _, _, _ => none) else cItA S c tg (.Call (.Name x p) [a, b, d] [] pos)
  | e => cItA S c tg e
def notSet : Expr → Bool
  | .Set _ _ _ => false
  | _ => true
theorem folded_no (env : Env) {e : Expr} (h : notSet e = true) (x : Value) : foldedSetIterable e env x = pure x := by
  cases e <;> first | rfl | (cases h; done)
end Zs
end

/-! Fm -/
noncomputable section
namespace Zs
open PySem PySem.Spec L2
open PyProof.Rows hiding St

/-! ### comprehensions -/
def ownFrom (sc : Scope) : List Str → Nat → List (Str × Nat)
  | [], _ => []
  | x :: r, i => if isLoc (sc.names.lookup x) = true then (x, i) :: ownFrom sc r (i + 1) else ownFrom sc r (i + 1)
def ownOf (N : List Str) (sc : Scope) : List (Str × Nat) := ownFrom sc N 0
def blkCc (c : Cc) (sc : Scope) : Cc := { c with top := false, mkr := false, sc := relS sc c.sc, fnc := fun x => sc.names.lookup x == some .cell }
theorem XOk.blk {g : Gm} {c : Cc} {X : Cx} {W : WX} (k : XOk g c X W) (scope : Scope) (s : Shared) (H : Hp) (C : Addr) (cl : List (Str × Addr)) (fp : List Addr) : XOk g (blkCc c scope) (X.blk s H scope (compEnvC scope cl C X.env) fp) WF where
  K := k.K
  N := k.N
  nd := k.nd
  sc := by
    show relabel scope X.env = relS scope c.sc
    rw [← k.sc]
    rfl
  fn := rfl
  calm := k.calm
  tk := takes0
  po := PassesOwn.never
  room := k.room
  gd := k.gd
  roomT := fun z => nomatch z
  mkr := fun z => nomatch z
  glo := fun x e h => by
    have := k.glo x e h
    cases e with
    | con d => exact this
    | fn i np sh => exact this
    | bi => exact this
    | hd i hk => exact this
  top := fun z => nomatch z
  cl := ⟨fun c s e => let z := k.cl.x c s e; ⟨z.mg, z.c⟩, k.cl.exm, k.cl.kit, k.cl.no⟩
structure CL (c : Cc) (elt tg iter : Expr) (ifs : List Expr) (scope : Scope) where
  it : CI c tg iter
  g : CG (blkCc c scope) tg
  t : TM
  tok : ∀ g X, XOk g (blkCc c scope) X WF → PTs X ifs (tT g WF t)
  e : CE (blkCc c scope) elt
  blk : blkC c.N c.sc scope (ownOf c.N scope) = true
  sl : g.sl.all (fun i => decide (i ∈ (ownOf c.N scope).map (·.2))) = true
  set : notSet iter = true
def CL.m {c : Cc} {elt tg iter : Expr} {ifs : List Expr} {scope : Scope} (o : Bool) (l : CL c elt tg iter ifs scope) : EM := eLc o l.it.m l.g.m l.t l.e.m ((ownOf c.N scope).map (·.2))
def cLc (S : Sm) (c : Cc) (elt tg iter : Expr) (ifs : List Expr) (scope : Scope) : Option (CL c elt tg iter ifs scope) :=
  match cIt S c tg iter, cTg S (blkCc c scope) tg, S.e false (blkCc c scope) elt with
  | some it, some gg, some e =>
    if hb : blkC c.N c.sc scope (ownOf c.N scope) = true then
      if hs : gg.sl.all (fun i => decide (i ∈ (ownOf c.N scope).map (·.2))) = true then
        if hn : notSet iter = true then
          (match ifs with
          | [] => some ⟨it, gg, tYe, fun g X k => sts_n, e, hb, hs, hn⟩
          | [t] => (match S.t (blkCc c scope) t with
            | some tt => some ⟨it, gg, tt.m, fun g X k => pts_one (tt.ok g X WF k), e, hb, hs, hn⟩
            | none => none)
          | _ => none)
        else none
      else none
    else none
  | _, _, _ => none
theorem CL.tl {g : Gm} {c : Cc} {elt tg iter : Expr} {ifs : List Expr} {scope : Scope} {o : Bool} {W : WX} (l : CL c elt tg iter ifs scope) : ∀ σ H Q, tE g W (l.m o) σ H Q → tLc (tI g W l.it.m) (tG g l.g.sl l.g.m) (tT g WF l.t) (tE g WF l.e.m) ((ownOf c.N scope).map (·.2)) σ H Q :=
  tLc_of fun i hi => of_decide_eq_true (List.all_eq_true.mp l.sl i hi)
theorem CL.pe {g : Gm} {c : Cc} {elt tg iter : Expr} {ifs : List Expr} {scope : Scope} {o : Bool} {X : Cx} {W : WX} {pos : Pos} (l : CL c elt tg iter ifs scope) (k : XOk g c X W) : PE X (.ListComp elt [⟨tg, iter, ifs, 0⟩] scope pos) (tE g W (l.m o)) :=
  (pe_lc k.calm k.nd (l.it.ok g X W k) (by rw [k.N, k.sc]; exact blkOk_by l.blk) (fun s H C cl fp => l.g.ok g _ _ (k.blk scope s H C cl fp)) (fun s H C cl fp => l.tok g _ (k.blk scope s H C cl fp)) (fun s H C cl fp => l.e.ok g _ _ (k.blk scope s H C cl fp)) (folded_no _ l.set)).imp l.tl
/-! ### calls -/
theorem find_mem {α : Type} {p : α → Bool} {l : List α} {x : α} (h : l.find? p = some x) : x ∈ l ∧ p x = true := ⟨List.mem_of_find?_eq_some h, List.find?_some h⟩
def cFn (S : Sm) (c : Cc) (x : Str) (p : Pos) (es : List Expr) (kws : List Keyword) (pos : Pos) : Option (CE c (.Call (.Name x p) es kws pos)) :=
  if hg : isGlob (c.sc.names.lookup x) = true then
    if hd : nDbg x = false then
      (match ht : c.tb.lookup x with
      | some (.fn i np sh) => (match hf : sh.find? (fun s => kwsOk kws s.ks && decide (s.n = es.length)) with
        | some s => (match cAs S c es, cKs S c kws with
          | some a, some b => some ⟨eCl (c.run i) np s.n s.ks.length s.ix a.m b.m, fun g X W k => by
              obtain ⟨f, fd, ps, h1, h2, h3, h4, h5⟩ := k.glo x _ ht
              obtain ⟨m1, m2⟩ := find_mem hf
              rw [Bool.and_eq_true] at m2
              subst h3
              exact se_cl k.K h4 (k.room.mono (by omega)) k.gd (k.gl (isGlob_of hg)) h1 h2 (h5 s m1) k.tk (a.ok g X W k) a.nil (b.ok g X W k) a.ns m2.1 (nDbg_of hd).1⟩
          | _, _ => none)
        | none => none)
      | _ => none)
    else none
  else none
/-- which class is below which -/
def subT (tab : List (Str × List Str)) (k c : Str) : Option Bool := match tab.lookup k, tab.lookup c with
  | some sups, some _ => some (decide (c ∈ sups))
  | _, _ => none
theorem subT_of {tab : List (Str × List Str)} {k c : Str} {b : Bool} (h : subT tab k c = some b) : ∃ s s', tab.lookup k = some s ∧ tab.lookup c = some s' ∧ b = decide (c ∈ s) := by
  unfold subT at h
  split at h
  · rename_i s s' e1 e2
    cases h
    exact ⟨s, s', e1, e2, rfl⟩
  · cases h
theorem XOk.exc {g : Gm} {c : Cc} {X : Cx} {W : WX} (k : XOk g c X W) (y : Str) (s : List Str) (h : c.cls.lookup y = some s) : ExcC g.K (cAd g.K y) ∧ XfC g.K (cAd g.K y) ∧ PySem.W.findIn g.K (.ref (cAd g.K y)) "value" = some none := by
  obtain ⟨fI, D, fd, T, _⟩ := (k.cl.x y s h).c
  have e := k.K
  rw [e] at T
  exact ⟨T.ex, T.xf, T.noV⟩
def cIsi (S : Sm) (c : Cc) (x : Str) (p : Pos) (pos : Pos) (e : Expr) (es : List Expr) (hx : x = "isinstance") (hb : biN c x = true) (hd : nDbg x = false) : Option (CE c (.Call (.Name x p) (e :: es) [] pos)) := match cAs S c (e :: es) with
  | some a => some ⟨eA (fIsx (subT c.cls)) a.m, fun g X W k => by
      have e := k.K
      refine se_bf (rr := rIsx X.K) c_isx ?_ (biN_gl hb k).1 (biN_gl hb k).2 (by subst hx; exact PyProof.Rows.boot_isinstance) (a.ok g X W k) a.ns (nDbg_of hd).2.2 (nDbg_of hd).1
      rw [e]
      refine u_isx (fun y z b h => ?_) fun z b h t => ?_
      · obtain ⟨s, s', h1, h2, rfl⟩ := subT_of h
        have := k.cl.kit y s z s' h1 h2
        rw [e] at this
        exact ⟨(k.exc y s h1).1, this⟩
      · obtain ⟨s, s', h1, h2, rfl⟩ := subT_of h
        have := k.cl.no z s h1 t
        rw [e] at this
        exact this⟩
  | none => none
def cBfn (S : Sm) (o : Bool) (c : Cc) (x : Str) (p : Pos) (pos : Pos) : (es : List Expr) → Option (CE c (.Call (.Name x p) es [] pos))
  | [] => none
  | e :: es => if hb : biN c x = true then (if hd : nDbg x = false then (if hx : x = "isinstance" then cIsi S c x p pos e es hx hb hd else match cBf o x, cAs S c (e :: es) with
    | some b, some a => some ⟨eA b.f a.m, fun g X W k => by
        obtain ⟨f, v, r, hv, kd, hc, u⟩ := b
        rcases kd with ⟨id, rfl⟩ | ⟨T, rfl⟩
        · refine se_bf (rr := r X.K) (hc X k.xg) ?_ (biN_gl hb k).1 (biN_gl hb k).2 hv (a.ok g X W k) a.ns (nDbg_of hd).2.2 (nDbg_of hd).1
          rw [k.K]; exact u g W
        · refine se_ty (rr := r X.K) (hc X k.xg) ?_ (biN_gl hb k).1 (biN_gl hb k).2 hv (a.ok g X W k) a.ns (nDbg_of hd).2.2 (nDbg_of hd).1
          rw [k.K]; exact u g W⟩
    | _, _ => none) else none) else none
def cCallN (S : Sm) (o : Bool) (c : Cc) (x : Str) (p : Pos) (es : List Expr) (kws : List Keyword) (pos : Pos) : Option (CE c (.Call (.Name x p) es kws pos)) := match kws with
  | [] => if biN c x = true then cBfn S o c x p pos es else cFn S c x p es [] pos
  | k :: ks => cFn S c x p es (k :: ks) pos
/-- the lambdas' meanings -/
def emOf {c : Cc} {e : Expr} : Option (CE c e) → EM
  | some m => m.m
  | none => fun _ _ => .bad
def hdLs (S : Sm) (c : Cc) : List EM := c.lms.map fun lm => emOf (S.e false (lamCc c lm.scope) lm.body)
theorem hdLs_ok (S : Sm) (c : Cc) : ∀ (j : Nat) (lm : Lm), c.lms[j]? = some lm → ∃ m, (hdLs S c)[j]? = some m ∧ ((∀ g' Y WY, XOk g' (lamCc c lm.scope) Y WY → PE Y lm.body (tE g' WY m)) ∨ ∀ ρ h, m ρ h = .bad) := fun j lm h => by
  unfold hdLs
  rw [List.getElem?_map, h]
  refine ⟨emOf (S.e false (lamCc c lm.scope) lm.body), rfl, ?_⟩
  cases S.e false (lamCc c lm.scope) lm.body with
  | none => exact .inr fun _ _ => rfl
  | some m => exact .inl m.ok
def cHd (S : Sm) (c : Cc) (x : Str) (p : Pos) (e : Expr) (pos : Pos) : Option (CE c (.Call (.Name x p) [e] [] pos)) :=
  if h : c.top = true ∧ c.mkr = true ∧ isGlob (c.sc.names.lookup x) = true ∧ nDbg x = false ∧ noStar e = true ∧ c.lms.all (lmOk c.sc) = true then
    (match ht : c.tb.lookup x with
    | some (.hd i hk) => (match hl : c.cls.lookup hk.e with
      | some ss => (match S.e false c e with
        | some a => some ⟨eHd hk.kind (fun y => subT c.cls y hk.e) c.n (hdLs S c) a.m, fun g X W k =>
            se_hd k h.1 h.2.1 ht (k.gl (isGlob_of h.2.2.1)) (nDbg_of h.2.2.2.1).1 ss hl (fun y z hz => by
              obtain ⟨s1, s2, h1, h2, rfl⟩ := subT_of hz
              have := k.cl.exm y s1 hk.e s2 h1 h2
              rw [k.K] at this
              exact this) h.2.2.2.2.2 (hdLs_ok S c) (a.ok g X W k) (starEach_no X.env h.2.2.2.2.1 [])⟩
        | none => none)
      | none => none)
    | _ => none)
  else none
def cLam (c : Cc) (params : Arguments) (body : Expr) (scope : Scope) (pos : Pos) : Option (CE c (.Lambda params body scope pos)) :=
  if h : c.top = true ∧ c.mkr = true ∧ lmOk c.sc ⟨params, body, scope⟩ = true then
    (match isNoArgs params, lmAt 20 body scope c.lms with
    | some ⟨ha⟩, some ⟨k, hk⟩ => some ⟨eLam c.n k, fun g X W kk => by
        subst ha
        exact se_lam (lm := ⟨noArgs, body, scope⟩) (kk.mkr h.2.1) (kk.top h.1).2.2 hk (by rw [kk.sc]; exact (lmOk_of h.2.2).1) rfl⟩
    | _, _ => none)
  else none
def cRgL (S : Sm) (o : Bool) (c : Cc) (x : Str) (p : Pos) (y : Str) (q pos2 pos : Pos) : (es : List Expr) → Option (CE c (.Call (.Name x p) [.Call (.Name y q) es [] pos2] [] pos))
  | [a] => if h : x = "list" ∧ y = "range" ∧ biN c "list" = true ∧ biN c "range" = true ∧ noStar a = true then (match S.e false c a with
    | some m => some ⟨eRgL1 o m.m, fun g X W k => by
        obtain ⟨rfl, rfl, h1, h2, h3⟩ := h
        exact se_rgL1 k.calm (biN_gl h1 k).1 (biN_gl h1 k).2 (biN_gl h2 k).1 (biN_gl h2 k).2 (m.ok g X W k) h3⟩
    | none => none) else cCallN S o c x p [.Call (.Name y q) [a] [] pos2] [] pos
  | [a, b] => if h : x = "list" ∧ y = "range" ∧ biN c "list" = true ∧ biN c "range" = true ∧ noStar a = true ∧ noStar b = true then (match S.e false c a, S.e false c b with
    | some m, some m2 => some ⟨eRgL o m.m m2.m, fun g X W k => by
        obtain ⟨rfl, rfl, h1, h2, h3, h4⟩ := h
        exact se_rgL2 k.calm (biN_gl h1 k).1 (biN_gl h1 k).2 (biN_gl h2 k).1 (biN_gl h2 k).2 (m.ok g X W k) (m2.ok g X W k) h3 h4⟩
    | _, _ => none) else cCallN S o c x p [.Call (.Name y q) [a, b] [] pos2] [] pos
  | es => cCallN S o c x p [.Call (.Name y q) es [] pos2] [] pos
def cMth (S : Sm) (o : Bool) (c : Cc) (b : Expr) (nm : Str) (apos cpos : Pos) : (es : List Expr) → Option (CE c (.Call (.Attribute b nm apos) es [] cpos))
  | [] => if h : baseOk b = true ∧ (apos.endLine == cpos.line) = true then (match cMt o nm, S.e false c b with
    | some mt, some a => some ⟨eMt mt.c mt.f a.m aN, fun g X W k => se_mt0 (rr := mt.r X.K) k.K (mt.hc g) (by rw [k.K]; exact mt.u g W) mt.pa mt.slot mt.ty (mt.hm X k.xg) (a.ok g X W k) h.1 h.2⟩
    | _, _ => none) else none
  | e :: es => if h : baseOk b = true ∧ (apos.endLine == cpos.line) = true ∧ decide ((e :: es).length < 30) = true then (match cMt o nm, S.e false c b, cAs S c (e :: es) with
    | some mt, some a, some r => some ⟨eMt mt.c mt.f a.m r.m, fun g X W k => se_mt (rr := mt.r X.K) k.K (mt.hc g) (by rw [k.K]; exact mt.u g W) mt.pa mt.slot mt.ty (mt.hm X k.xg) (a.ok g X W k) (r.ok g X W k) h.1 h.2.1 r.ns h.2.2⟩
    | _, _, _ => none) else none
/-! ### expressions -/
def stE (S : Sm) (o : Bool) (c : Cc) : (e : Expr) → Option (CE c e)
  | .Name x pos => cName c x pos
  | .Constant v k pos => cConst c k pos v
  | .BinOp a op b pos => (match cOp o op, S.e false c a, S.e false c b with
    | some f, some x, some y => some ⟨e2 f.f x.m y.m, fun g X W k => se_bin (f.ho X k.xg) (by rw [k.K]; exact f.u g W) (x.ok g X W k) (y.ok g X W k)⟩
    | _, _, _ => none)
  | .UnaryOp .Not a pos => (match S.e false c a with
    | some x => some ⟨eNo x.m, fun g X W k => se_no (x.ok g X W k)⟩
    | none => none)
  | .UnaryOp .USub a pos => (match S.e false c a with
    | some x => some ⟨e1 uNeg x.m, fun g X W k => se_un un_neg u_neg (x.ok g X W k)⟩
    | none => none)
  | .Compare a [op] [b] pos => (match cCm op, S.e false c a, S.e false c b with
    | some f, some x, some y => if hm : behindInMarks op b = false then some ⟨e2 f.f x.m y.m, fun g X W k => se_cmp (f.ho X k.xg) (by rw [k.K]; exact f.u g W) (x.ok g X W k) (y.ok g X W k) hm⟩ else none
    | _, _, _ => none)
  | .Compare a [op, op2] [b, d] pos => (match cCm op, cCm op2, S.e false c a, S.e false c b, S.e false c d with
    | some f, some f2, some x, some y, some z => if hm : lastMarks [op, op2] [b, d] = false then some ⟨e2c f.f f2.f x.m y.m z.m, fun g X W k => se_ch (f.ho X k.xg) (f2.ho X k.xg) (by rw [k.K]; exact f.u g W) (by rw [k.K]; exact f2.u g W) (x.ok g X W k) (y.ok g X W k) (z.ok g X W k) hm⟩ else none
    | _, _, _, _, _ => none)
  | .BoolOp op l pos => (match cBs S o c op l with
    | some x => some ⟨x.m, fun g X W k => x.ok g X W pos k⟩
    | none => none)
  | .IfExp t a b pos => (match S.t c t, S.e o c a, S.e o c b with
    | some t, some x, some y => some ⟨eIf t.m x.m y.m, fun g X W k => se_if (t.ok g X W k) (x.ok g X W k) (y.ok g X W k)⟩
    | _, _, _ => none)
  | .Subscript a (.Slice none none (some (.UnaryOp .USub (.Constant (.int 1) kk p1) p2)) p3) pos => (match S.e false c a with
    | some x => some ⟨e1 (fRev o) x.m, fun g X W k => se_rev k.K (x.ok g X W k)⟩
    | none => none)
  | .Subscript a (.Slice lo hi none p2) pos => (match S.e false c a, cOs S c lo, cOs S c hi with
    | some x, some l, some u => some ⟨eSl o x.m l.m u.m, fun g X W k => se_sl k.K (x.ok g X W k) (l.ok g X W k) (u.ok g X W k)⟩
    | _, _, _ => none)
  | .Subscript a b pos => (match S.e false c a, S.e false c b with
    | some x, some y => if hp : plainIx b = true then some ⟨e2 bIx2 x.m y.m, fun g X W k => (pe_ix (ix_seq.or (ix_dic (by have := k.xg.un; omega))) (x.ok g X W k) (y.ok g X W k) (plainIx_of hp)).imp (by rw [k.K]; exact t2_of u_ix2)⟩ else none
    | _, _ => none)
  | .Tuple es k pos => (match cAs S c es with
    | some a => some ⟨eA fTup a.m, fun g X W k => se_tup (a.ok g X W k)⟩
    | none => none)
  | .List es pos => (match cAs S c es with
    | some a => some ⟨eA (fLst o) a.m, fun g X W k => se_lst (a.ok g X W k)⟩
    | none => (match cAsS S c es with
      | some a => some ⟨eA (fLst o) a.m, fun g X W k => se_lst (a.ok g X W k)⟩
      | none => none))
  | .Dict [] [] pos => some ⟨eD0 o, fun g X W k => se_d0⟩
  | .Dict (x :: ks) vs pos => (match cPs S c pos (x :: ks) vs with
    | some r => if h15 : (x :: ks).length ≤ 15 then some ⟨eDi o r.l, fun g X W k => (pe_lk (pe_disp (r.ok g X W k) r.all r.len (List.cons_ne_nil _ _) h15)).imp (eDi_of (by rw [r.ll]; exact h15))⟩ else none
    | none => none)
  | .ListComp elt [⟨tg, iter, ifs, 0⟩] scope pos => (match cLc S c elt tg iter ifs scope with
    | some l => some ⟨l.m o, fun g X W k => l.pe k⟩
    | none => none)
  | .Attribute b nm pos => if h : nm = "value" ∧ baseOk b = true then (match S.e false c b with
    | some a => some ⟨e1 (fVal fun y => (c.cls.lookup y).isSome) a.m, fun g X W k => by
        obtain ⟨h1, h2⟩ := h
        subst h1
        exact se_val k.K (fun y hy => by
          obtain ⟨s, hs⟩ := Option.isSome_iff_exists.mp hy
          exact (k.exc y s hs).2) (a.ok g X W k) (base_no _ _ _ h2)⟩
    | none => none) else none
  | .Call (.Name x p) [.Call (.Name y q) es [] pos2] [] pos => cRgL S o c x p y q pos2 pos es
  | .Call (.Name x p) [.Call (.Attribute b nm apos) [] [] cpos] [] pos => if h : x = "sorted" ∧ nm = "items" ∧ biN c "sorted" = true ∧ baseOk b = true ∧ (apos.endLine == cpos.line) = true then (match S.e false c b with
    | some a => some ⟨e1 fSI a.m, fun g X W k => by
        obtain ⟨rfl, rfl, h1, h2, h3⟩ := h
        exact se_sortIt k.calm (a.ok g X W k) (biN_gl h1 k).1 (biN_gl h1 k).2 (base_no _ _ _ h2) h3⟩
    | none => none) else (match cHd S c x p (.Call (.Attribute b nm apos) [] [] cpos) pos with
    | some a => some a
    | none => cCallN S o c x p [.Call (.Attribute b nm apos) [] [] cpos] [] pos)
  | .Call (.Name x p) [e] [] pos => (match cHd S c x p e pos with
    | some a => some a
    | none => cCallN S o c x p [e] [] pos)
  | .Call (.Name x p) es kws pos => cCallN S o c x p es kws pos
  | .Lambda a b s pos => cLam c a b s pos
  | .Call (.Attribute b nm apos) es [] cpos => cMth S o c b nm apos cpos es
  | _ => none
/-! ### tests -/
def cTv (S : Sm) (c : Cc) (e : Expr) (he : ∀ env whole, isTrue e env whole = (do let v ← whole; standAt e.pos; holding [v] (truthy v))) : Option (CT c e) := match S.e false c e with
  | some a => some ⟨tV a.m, fun g X W k => st_v (a.ok g X W k) (he X.env)⟩
  | none => none
def stT (S : Sm) (c : Cc) : (e : Expr) → Option (CT c e)
  | .UnaryOp .Not a pos => (match S.t c a with
    | some t => some ⟨tN t.m, fun g X W k => st_n (t.ok g X W k)⟩
    | none => none)
  | .BoolOp op l pos => (match cWs S c op l with
    | some t => some ⟨t.m, fun g X W k => (t.ok g X W pos k).pt⟩
    | none => none)
  | .Compare a [op] [b] pos => (match cCm op, S.e false c a, S.e false c b with
    | some f, some x, some y => if hm : behindInMarks op b = false then some ⟨tV (e2 f.f x.m y.m), fun g X W k => st_cmp (f.ho X k.xg) (by rw [k.K]; exact f.u g W) (x.ok g X W k) (y.ok g X W k) hm⟩ else none
    | _, _, _ => none)
  | .Compare a [op, op2] [b, d] pos => (match cCm op, cCm op2, S.e false c a, S.e false c b, S.e false c d with
    | some f, some f2, some x, some y, some z => if hm : lastMarks [op, op2] [b, d] = false then some ⟨tV (e2c f.f f2.f x.m y.m z.m), fun g X W k => st_ch (f.ho X k.xg) (f2.ho X k.xg) (by rw [k.K]; exact f.u g W) (by rw [k.K]; exact f2.u g W) (x.ok g X W k) (y.ok g X W k) (z.ok g X W k) hm⟩ else none
    | _, _, _, _, _ => none)
  | .Name x p => cTv S c (.Name x p) fun _ _ => rfl
  | .Call f es ks p => cTv S c (.Call f es ks p) fun _ _ => rfl
  | .Constant v k p => cTv S c (.Constant v k p) fun _ _ => rfl
  | .Subscript a b p => cTv S c (.Subscript a b p) fun _ _ => rfl
  | .Attribute a b p => cTv S c (.Attribute a b p) fun _ _ => rfl
  | _ => none
/-! ### statements -/
def isCmp : Expr → Bool
  | .ListComp _ _ _ _ => true
  | .SetComp _ _ _ _ => true
  | .DictComp _ _ _ _ _ => true
  | _ => false
theorem swaps_no {e : Expr} (h : isCmp e = false) (t : Option Expr) (n : Nat) (env : Env) : swapsWith e t n env = pure false := by
  cases e <;> first | rfl | (cases h; done)
def isTup : Expr → Bool
  | .Tuple _ _ _ => true
  | _ => false
theorem swst_no {e tg : Expr} (h : (isTup e) = false) (env : Env) : swappedStores [tg] e env = pure none := by
  cases e <;> first | (cases h; done) | (cases tg <;> rfl)
/-- what the reader cannot read is never reached -/
def sBad : SM := fun _ _ => .bad
theorem ss_bad {X : Cx} {g : Gm} {W : WX} {s : Stmt} : PS X s (tS g W sBad) := ⟨fun pins s' σ H D I h => by
  obtain ⟨F, μ, h', G, ρ, _, _, q⟩ := h
  exact q.elim⟩
def cSs (S : Sm) (c : Cc) : (l : List Stmt) → Option (CSs c l)
  | [] => some ⟨sNx, fun g X W k => ss_nil⟩
  | s :: r => (match S.s c s, cSs S c r with
    | some a, some b => some ⟨sSq a.m b.m, fun g X W k => ss_cons (a.ok g X W k) (b.ok g X W k)⟩
    | none, some b => some ⟨sSq sBad b.m, fun g X W k => ss_cons ss_bad (b.ok g X W k)⟩
    | _, _ => none)
/-! ### errors -/
def cRaise (S : Sm) (c : Cc) (x : Str) (p : Pos) (e : Expr) (p2 pos : Pos) : Option (CS c (.Raise (some (.Call (.Name x p) [e] [] p2)) none pos)) :=
  if hg : isGlob (c.sc.names.lookup x) = true then
    if hd : nDbg x = false ∧ noStar e = true then
      (match hl : c.cls.lookup x with
      | some s => (match S.e false c e with
        | some a => some ⟨sRaise x a.m, fun g X W k => ss_raise k.K k.calm k.tk (k.cl.x x s hl) (k.gl (isGlob_of hg)) (k.room.mono (by unfold lev; omega)) (a.ok g X W k) (nDbg_of hd.1).1 (starEach_no X.env hd.2 [])⟩
        | none => none)
      | none => none)
    else none
  else none
/-- in an except suite: little is read -/
structure ME (c : Cc) (e : Expr) where
  m : EM
  ok : ∀ (g : Gm) (X : Cx), X.K = g.K → X.N = c.N → X.env.scope = c.sc → ClTab X c.cls → PE X e (tE g WF m)
def mVar (c : Cc) (x : Str) (pos : Pos) : Option (ME c (.Name x pos)) :=
  if hd : nDbg x = false then
    if hv : isVis (c.sc.names.lookup x) = true then
      (if hi : c.N[slotOf c.N x]? = some x then some ⟨eV (slotOf c.N x), fun g X hK hN hs ct => se_v (pe_var (by rw [hN]; exact hi) (by unfold Vis; rw [hs]; exact isVis_of hv) (nDbg_of hd).1 (nDbg_of hd).2.1)⟩ else none)
    else none
  else none
def mE (c : Cc) : Nat → (e : Expr) → Option (ME c e)
  | _, .Name x pos => mVar c x pos
  | _, .Constant .none k pos => some ⟨eC .non, fun g X hK hN hs ct => se_c pe_non fun F μ => .non⟩
  | _, .Constant (.bool b) k pos => some ⟨eC (.bl b), fun g X hK hN hs ct => se_c pe_bl fun F μ => .bl b⟩
  | _, .Constant (.str x) k pos => if hx : x.cps.toList.length < 100000 then some ⟨eC (.str x.cps.toList), fun g X hK hN hs ct => se_c pe_str fun F μ => by
      have := Rep.str (K := g) (F := F) (μ := μ) x.cps.toList (small_line hx)
      rw [strV_mk] at this
      exact this⟩ else none
  | n + 1, .Attribute b nm pos => if h : nm = "value" ∧ baseOk b = true then (match mE c n b with
    | some a => some ⟨e1 (fVal fun y => (c.cls.lookup y).isSome) a.m, fun g X hK hN hs ct => by
        obtain ⟨h1, h2⟩ := h
        subst h1
        exact se_val hK (fun y hy => by
          obtain ⟨s, hs⟩ := Option.isSome_iff_exists.mp hy
          obtain ⟨fI, D, fd, T, _⟩ := (ct.x y s hs).c
          rw [hK] at T
          exact ⟨T.xf, T.noV⟩) (a.ok g X hK hN hs ct) (base_no _ _ _ h2)⟩
    | none => none) else none
  | n + 1, .Tuple [a, b] k pos => if h : noStar a = true ∧ noStar b = true then (match mE c n a, mE c n b with
    | some x, some y => some ⟨eA fTup (aC x.m (aC y.m aN)), fun g X hK hN hs ct => se_tup (sa_c (x.ok g X hK hN hs ct) (sa_c (y.ok g X hK hN hs ct) sa_n (starEach_no X.env h.2 [])) (starEach_no X.env h.1 [b]))⟩
    | _, _ => none) else none
  | _, _ => none
structure MSs (c : Cc) (l : List Stmt) where
  m : SM
  ok : ∀ (g : Gm) (X : Cx), X.K = g.K → X.N = c.N → X.N.Nodup → X.env.scope = c.sc → ClTab X c.cls → PSs X l (tS g WF m)
def isTupE : Expr → Bool
  | .Tuple _ _ _ => true
  | _ => false
def isCmpE : Expr → Bool
  | .ListComp _ _ _ _ => true
  | .SetComp _ _ _ _ => true
  | .DictComp _ _ _ _ _ => true
  | _ => false
theorem swapsE_no {e : Expr} (h : isCmpE e = false) (t : Option Expr) (n : Nat) (env : Env) : swapsWith e t n env = pure false := by
  cases e <;> first | rfl | (cases h; done)
def mSs (c : Cc) : (l : List Stmt) → Option (MSs c l)
  | [] => some ⟨sNx, fun g X hK hN nd hs ct => ss_nil⟩
  | .Return (some e) pos :: r => (match mE c 4 e, mSs c r with
    | some a, some b => some ⟨sSq (sRe a.m) b.m, fun g X hK hN nd hs ct => ss_cons (ss_re (a.ok g X hK hN hs ct)) (b.ok g X hK hN nd hs ct)⟩
    | _, _ => none)
  | .Assign [.Name x p] e pos :: r => if h : c.N[slotOf c.N x]? = some x ∧ isLocal (c.sc.names.lookup x) = true ∧ isCmpE e = false then (match mE c 4 e, mSs c r with
    | some a, some b => some ⟨sSq (sAs a.m (gN (slotOf c.N x))) b.m, fun g X hK hN nd hs ct => ss_cons (ss_set nd (by rw [hN]; exact h.1) (by unfold L2.Loc; rw [hs]; exact .inl (isLocal_of h.2.1)) (a.ok g X hK hN hs ct) (swapsE_no h.2.2 _ _ _) (.inr (by rw [hs]; exact isLocal_of h.2.1))) (b.ok g X hK hN nd hs ct)⟩
    | _, _ => none) else none
  | .Pass pos :: r => (match mSs c r with
    | some b => some ⟨sSq sNx b.m, fun g X hK hN nd hs ct => ss_cons ss_pass (b.ok g X hK hN nd hs ct)⟩
    | _ => none)
  | _ => none
theorem XOk.tr {g : Gm} {c : Cc} {X : Cx} {W W' : WX} (k : XOk g c X W) (pn : List (Addr × Obj)) (xe : Value → Shared → Prop) (tk : Takes (X.tr pn xe) W') (po : PassesOwn (model X.prog X.w) X.A X.env xe) : XOk g c (X.tr pn xe) W' :=
  ⟨k.K, k.N, k.nd, k.sc, k.fn, k.calm, tk, po, k.room, k.gd, fun x e h => by
    have := k.glo x e h
    cases e with
    | con d => exact this
    | fn i np sh => exact this
    | hd i hk => exact this
    | bi => exact this, k.top, k.roomT, fun z => let ⟨h⟩ := k.mkr z; ⟨h⟩, ⟨fun y s e => let z := k.cl.x y s e; ⟨z.mg, z.c⟩, k.cl.exm, k.cl.kit, k.cl.no⟩⟩
def cTry (S : Sm) (c : Cc) (body : List Stmt) (x : Str) (np : Pos) (n : Str) (b₀ : Stmt) (suite : List Stmt) (pos' pos : Pos) : Option (CS c (.Try body [.ExceptHandler (some (.Name x np)) (some n) (b₀ :: suite) pos'] [] [] pos)) :=
  if h : c.top = true ∧ isGlob (c.sc.names.lookup x) = true ∧ nDbg x = false ∧ c.N[slotOf c.N n]? = some n ∧ isLocal (c.sc.names.lookup n) = true then
    (match hl : c.cls.lookup x with
    | some s => (match cSs S c body, mSs c (b₀ :: suite) with
      | some b, some u => some ⟨sTry (fun y => subT c.cls y x) (slotOf c.N n) b.m u.m, fun g X W k =>
          ss_try k.K (k.top h.1).1 (k.top h.1).2.1 (k.top h.1).2.2 k.nd (by rw [k.N]; exact h.2.2.2.1) (by show X.env.scope.names.lookup n = _; rw [k.sc]; exact isLocal_of h.2.2.2.2)
            (cv := .ref (cAd X.K x)) ⟨k.gl (isGlob_of h.2.1), (nDbg_of h.2.2.1).1, .inl (k.cl.x x s hl).mg⟩ k.tk (fun y z hz => by
              obtain ⟨s1, s2, h1, h2, rfl⟩ := subT_of hz
              have := k.cl.exm y s1 x s2 h1 h2
              rw [k.K] at this ⊢
              exact this)
            (fun W' pn xe tk po => b.ok g _ W' (k.tr pn xe tk po))
            (fun a pn => u.ok g (X.suite a pn) k.K k.N k.nd k.sc ⟨fun y s e => let z := k.cl.x y s e; ⟨z.mg, z.c⟩, k.cl.exm, k.cl.kit, k.cl.no⟩)⟩
      | _, _ => none)
    | none => none)
  else none
def inOpn (c : Cc) (x : Str) : Bool := c.opn.any fun y => decide (y = x)
def cSet (S : Sm) (c : Cc) (x : Str) (p : Pos) (e : Expr) (pos : Pos) : Option (CS c (.Assign [.Name x p] e pos)) :=
  if hi : c.N[slotOf c.N x]? = some x then
    if hl : isLoc (c.sc.names.lookup x) = true then
      if hf : c.fnc x = true ∨ isLocal (c.sc.names.lookup x) = true then
        if hc : isCmp e = false then
          (match S.e (inOpn c x) c e with
          | some a => some ⟨sAs a.m (gN (slotOf c.N x)), fun g X W k => ss_set k.nd (by rw [k.N]; exact hi) (by unfold L2.Loc; rw [k.sc]; exact isLoc_of hl) (a.ok g X W k) (swaps_no hc _ _ _) (by
              rw [k.fn, k.sc]
              exact hf.imp id isLocal_of)⟩
          | none => none)
        else none
      else none
    else none
  else none
/-- a name that a block captures: nothing is swapped -/
theorem sw_cell {e : Expr} {env : Env} {y : Str} {py : Pos} {l : Nat} (hy : env.scope.names.lookup y = some .cell) : swapsWith e (some (.Name y py)) l env = pure false := by
  have ky : (env.kindOf y == some .local) = false := by
    have : env.kindOf y = some .cell := hy
    rw [this]; rfl
  cases e <;> first
    | rfl
    | (unfold swapsWith; simp only [ky, Bool.and_false, Bool.false_and])
def isCellK : Option NameKind → Bool
  | some .cell => true
  | _ => false
theorem isCellK_of {k : Option NameKind} (h : isCellK k = true) : k = some .cell := by
  cases k with
  | none => cases h
  | some k => cases k <;> first | rfl | cases h
def cSetK (S : Sm) (c : Cc) (x : Str) (p : Pos) (e : Expr) (pos : Pos) : Option (CS c (.Assign [.Name x p] e pos)) :=
  if h : c.N[slotOf c.N x]? = some x ∧ isCellK (c.sc.names.lookup x) = true ∧ c.fnc x = true then
    (match S.e (inOpn c x) c e with
    | some a => some ⟨sAs a.m (gN (slotOf c.N x)), fun g X W k => ss_set k.nd (by rw [k.N]; exact h.1) (by unfold L2.Loc; rw [k.sc]; exact .inr (isCellK_of h.2.1)) (a.ok g X W k) (sw_cell (by rw [k.sc]; exact isCellK_of h.2.1)) (by
        rw [k.fn]
        exact .inl h.2.2)⟩
    | none => none)
  else none
def cSetC (S : Sm) (c : Cc) (y : Str) (py : Pos) (elt tg iter : Expr) (ifs : List Expr) (scope : Scope) (pos spos : Pos) : Option (CS c (.Assign [.Name y py] (.ListComp elt [⟨tg, iter, ifs, 0⟩] scope pos) spos)) :=
  if hi : c.N[slotOf c.N y]? = some y then
    if hk : decide (c.sc.kind = .function) = true then
      if hl : isLocal (c.sc.names.lookup y) = true then
        if hs : (py.line == pos.line) = true ∧ (scope.names.any fun (n, k) => n == y && (k == .local || k == .cell)) = false then
          (match cLc S c elt tg iter ifs scope with
          | some l => some ⟨sAs (l.m (inOpn c y)) (gN (slotOf c.N y)), fun g X W k =>
              (ps_setLc k.calm k.nd (by rw [k.N]; exact hi) (by rw [k.sc]; exact isLocal_of hl) (sw_true (by rw [k.sc]; exact of_decide_eq_true hk) (by rw [k.sc]; exact isLocal_of hl) hs.1 hs.2) (l.it.ok g X W k) (by rw [k.N, k.sc]; exact blkOk_by l.blk) (fun s H C cl fp => l.g.ok g _ _ (k.blk scope s H C cl fp)) (fun s H C cl fp => l.tok g _ (k.blk scope s H C cl fp)) (fun s H C cl fp => l.e.ok g _ _ (k.blk scope s H C cl fp)) (folded_no _ l.set)).imp (tAs_of l.tl gName_of)⟩
          | none => none)
        else none
      else none
    else none
  else none
def cPar (S : Sm) (c : Cc) (x y : Str) (px py : Pos) (kt : Nat) (pt : Pos) (a b : Expr) (k2 : Nat) (pt2 pos : Pos) : Option (CS c (.Assign [.Tuple [.Name x px, .Name y py] kt pt] (.Tuple [a, b] k2 pt2) pos)) :=
  if hff : [a, b].all (foldedForSure 8) = true ∧ noStar a = true ∧ noStar b = true then
    (match S.e (inOpn c x) c a, S.e (inOpn c y) c b, cTg S c (.Tuple [.Name x px, .Name y py] kt pt) with
    | some m, some m2, some gg => some ⟨sAs (eA fTup (aC m.m (aC m2.m aN))) gg.m, fun g X W k => ss_asg (se_tup (sa_c (m.ok g X W k) (sa_c (m2.ok g X W k) sa_n (starEach_no X.env hff.2.2 [])) (starEach_no X.env hff.2.1 [b]))) (gg.ok g X W k) (by rfl) (sw_fold hff.1) (by rw [gg.nst]; rfl)⟩
    | _, _, _ => none)
  else if hl : isLocal (c.sc.names.lookup x) = true ∧ isLocal (c.sc.names.lookup y) = true then
    if h : decide (c.sc.kind = .function) = true ∧ (py.line == px.line) = true ∧ x ≠ y ∧ (noStar a = true ∧ noStar b = true) ∧ [a, b].all (foldedForSure 8) = false ∧ [a, b].all (constantsAlone 8) = false ∧ c.N[slotOf c.N x]? = some x ∧ c.N[slotOf c.N y]? = some y ∧ slotOf c.N x ≠ slotOf c.N y then
      (match S.e (inOpn c x) c a, S.e (inOpn c y) c b with
      | some m, some m2 => some ⟨sPar (slotOf c.N x) (slotOf c.N y) (aC m.m (aC m2.m aN)), fun g X W k => by
          obtain ⟨h1, h2, h3, h4, h5, h6, h7, h8, h9⟩ := h
          exact ss_par k.calm k.nd (by rw [k.N]; exact h7) (by rw [k.N]; exact h8) h9 (by rw [k.sc]; exact isLocal_of hl.1) (by rw [k.sc]; exact isLocal_of hl.2)
            (sa_c (m.ok g X W k) (sa_c (m2.ok g X W k) sa_n (starEach_no X.env h4.2 [])) (starEach_no X.env h4.1 [b]))
            (sw_par2 (by rw [k.sc]; exact of_decide_eq_true h1) (by rw [k.sc]; exact isLocal_of hl.1) (by rw [k.sc]; exact isLocal_of hl.2) h2 h3 h4 h5 h6)⟩
      | _, _ => none)
    else none
  else if hn : noStar a = true ∧ noStar b = true then (match S.e (inOpn c x) c a, S.e (inOpn c y) c b, cTg S c (.Tuple [.Name x px, .Name y py] kt pt) with
    | some m, some m2, some gg => some ⟨sAs (eA fTup (aC m.m (aC m2.m aN))) gg.m, fun g X W k => ss_asg (se_tup (sa_c (m.ok g X W k) (sa_c (m2.ok g X W k) sa_n (starEach_no X.env hn.2 [])) (starEach_no X.env hn.1 [b]))) (gg.ok g X W k) (by rfl) (sw_par0 (by
        rw [k.sc]
        by_cases q : c.sc.names.lookup x = some .local
        · refine .inr fun q2 => hl ⟨by rw [q]; rfl, by rw [q2]; rfl⟩
        · exact .inl q)) (by rw [gg.nst]; rfl)⟩
    | _, _, _ => none) else none
def stS (S : Sm) (c : Cc) : (s : Stmt) → Option (CS c s)
  | .Expr e pos => if hc : isCmp e = false then (match S.e false c e with
    | some a => some ⟨sEx a.m, fun g X W k => ss_ex (a.ok g X W k) (swaps_no hc _ _ _)⟩
    | none => none) else none
  | .Return (some e) pos => (match S.e c.ret c e with
    | some a => some ⟨sRe a.m, fun g X W k => ss_re (a.ok g X W k)⟩
    | none => none)
  | .Return none pos => some ⟨sRe (eC .non), fun g X W k => ss_re0⟩
  | .If t a b pos => (match S.t c t, cSs S c a, cSs S c b with
    | some t, some x, some y => some ⟨sIf t.m x.m y.m, fun g X W k => ss_if (t.ok g X W k) (x.ok g X W k) (y.ok g X W k)⟩
    | _, _, _ => none)
  | .Raise (some (.Call (.Name x p) [e] [] p2)) none pos => cRaise S c x p e p2 pos
  | .Try body [.ExceptHandler (some (.Name x np)) (some n) (b₀ :: suite) pos'] [] [] pos => cTry S c body x np n b₀ suite pos' pos
  | .Pass pos => some ⟨sNx, fun g X W k => ss_pass⟩
  | .Break pos => some ⟨sBr, fun g X W k => ss_brk⟩
  | .Assign [.Name y py] (.ListComp elt [⟨tg, iter, ifs, 0⟩] scope pos) spos => if isCellK (c.sc.names.lookup y) = true then cSetK S c y py (.ListComp elt [⟨tg, iter, ifs, 0⟩] scope pos) spos else cSetC S c y py elt tg iter ifs scope pos spos
  | .Assign [.Name x p] e pos => cSet S c x p e pos
  | .Assign [.Tuple [.Name x px, .Name y py] kt pt] (.Tuple [a, b] k2 pt2) pos => cPar S c x y px py kt pt a b k2 pt2 pos
  | .Assign [tg] e pos => if hc : isCmp e = false ∧ isTup e = false then (match S.e false c e, cTg S c tg with
    | some a, some gg => some ⟨sAs a.m gg.m, fun g X W k => ss_asg (a.ok g X W k) (gg.ok g X W k) (swaps_no hc.1 _ _ _) (swst_no hc.2 _) (by rw [gg.nst]; rfl)⟩
    | _, _ => none) else none
  | .For tg it body [] pos => if hn : notSet it = true then (match cIt S c tg it, cTg S c tg, cSs S c body with
    | some i, some gg, some b => some ⟨sFo i.m gg.m b.m, fun g X W k => ss_for k.po k.calm (i.ok g X W k) (gg.ok g X W k) (b.ok g X W k) (folded_no _ hn)⟩
    | _, _, _ => none) else none
  | _ => none
def sems : Nat → Sm
  | 0 => ⟨fun _ _ _ => none, fun _ _ => none, fun _ _ => none⟩
  | n + 1 => ⟨stE (sems n), stT (sems n), stS (sems n)⟩
def cBody (n : Nat) (c : Cc) (l : List Stmt) : Option (CSs c l) := cSs (sems n) c l
end Zs
end

/-! Fn -/
noncomputable section
namespace Zs
open PySem PySem.Spec L2
open PyProof.Rows hiding St
open Classical

/-! ## a def as a whole: what it leaves open is shut -/
mutual
/-- no open object from n on is named -/
def nn (n : Nat) : D → Bool
  | .non => true
  | .bl _ => true
  | .int _ => true
  | .str _ => true
  | .tup xs => nnL n xs
  | .kt xs => nnL n xs
  | .lst xs => nnL n xs
  | .scr xs => nnL n xs
  | .dct xs => nnP n xs
  | .ref i => decide (i < n)
  | .ty _ => true
  | .cls _ => true
  | .exc _ v => nn n v
  | .fn _ _ => true
def nnL (n : Nat) : List D → Bool
  | [] => true
  | x :: r => nn n x && nnL n r
def nnQ (n : Nat) : D × D → Bool
  | (a, b) => nn n a && nn n b
def nnP (n : Nat) : List (D × D) → Bool
  | [] => true
  | x :: r => nnQ n x && nnP n r
end
def nnF (n : Nat) : List (Str × D) → Bool
  | [] => true
  | (_, v) :: r => nn n v && nnF n r
def nnO (n : Nat) : O → Bool
  | .lst xs => nnL n xs
  | .dct xs => nnP n xs
  | .ins _ fs => nnF n fs
section
variable {K : Gm} {F : Hp} {μ : List Addr}
mutual
theorem Rep.nn : ∀ {d v}, Rep K F μ d v → Zs.nn μ.length d = true
  | _, _, .non => rfl
  | _, _, .bl b => rfl
  | _, _, .int i => rfl
  | _, _, .str s z => rfl
  | _, _, .tup h z r => r.nn
  | _, _, .kt h z r => r.nn
  | _, _, .lst h z r => r.nn
  | _, _, .scr h z r => r.nn
  | _, _, .ty t => rfl
  | _, _, .dctK h r => r.nn
  | _, _, .dctT h r => r.nn
  | _, _, .ref h => decide_eq_true (List.getElem?_eq_some_iff.mp h).1
  | _, _, .cls _ => rfl
  | _, _, .exc _ _ r => r.nn
  | _, _, .fn _ _ _ _ => rfl
theorem Reps.nn : ∀ {d v}, Reps K F μ d v → Zs.nnL μ.length d = true
  | _, _, .nil => rfl
  | _, _, .cons a b => Bool.and_eq_true_iff.mpr ⟨a.nn, b.nn⟩
theorem RepK.nn : ∀ {d v}, RepK K F μ d v → Zs.nnP μ.length d = true
  | _, _, .nil => rfl
  | _, _, .cons k a b => Bool.and_eq_true_iff.mpr ⟨Bool.and_eq_true_iff.mpr ⟨by cases k <;> rfl, a.nn⟩, b.nn⟩
theorem RepT.nn : ∀ {d v}, RepT K F μ d v → Zs.nnP μ.length d = true
  | _, _, .nil => rfl
  | _, _, .cons k a b => Bool.and_eq_true_iff.mpr ⟨Bool.and_eq_true_iff.mpr ⟨keysR_nn k, a.nn⟩, b.nn⟩
theorem keysR_nn : ∀ {ds ks}, KeysR ds ks → Zs.nnL μ.length ds = true
  | _, _, .nil => rfl
  | _, _, .cons k b => Bool.and_eq_true_iff.mpr ⟨by cases k <;> rfl, keysR_nn b⟩
end
theorem RepO.nn {o u} (h : RepO K F μ o u) : nnO μ.length o = true := by
  cases h with
  | lst z r => exact r.nn
  | dctK r => exact r.nn
  | dctT r => exact r.nn
mutual
theorem Rep.cutN {n : Nat} : ∀ {d v}, Rep K F μ d v → Zs.nn n d = true → Rep K F (μ.take n) d v
  | _, _, .non, _ => .non
  | _, _, .bl b, _ => .bl b
  | _, _, .int i, _ => .int i
  | _, _, .str s z, _ => .str s z
  | _, _, .tup h z r, e => .tup h z (r.cutN e)
  | _, _, .kt h z r, e => .kt h z (r.cutN e)
  | _, _, .lst h z r, e => .lst h z (r.cutN e)
  | _, _, .scr h z r, e => .scr h z (r.cutN e)
  | _, _, .ty t, _ => .ty t
  | _, _, .dctK h r, e => .dctK h (r.cutN e)
  | _, _, .dctT h r, e => .dctT h (r.cutN e)
  | _, _, .ref h, e => .ref (by
    have e' : decide _ = true := e
    rw [List.getElem?_take_of_lt (of_decide_eq_true e')]; exact h)
  | _, _, .cls h, _ => .cls h
  | _, _, .exc h q r, e => .exc h q (r.cutN e)
  | _, _, .fn a b h q, _ => .fn a b h q
theorem Reps.cutN {n : Nat} : ∀ {d v}, Reps K F μ d v → Zs.nnL n d = true → Reps K F (μ.take n) d v
  | _, _, .nil, _ => .nil
  | _, _, .cons a b, e => .cons (a.cutN (Bool.and_eq_true_iff.mp e).1) (b.cutN (Bool.and_eq_true_iff.mp e).2)
theorem RepK.cutN {n : Nat} : ∀ {d v}, RepK K F μ d v → Zs.nnP n d = true → RepK K F (μ.take n) d v
  | _, _, .nil, _ => .nil
  | _, _, .cons k a b, e => .cons k (a.cutN (Bool.and_eq_true_iff.mp (Bool.and_eq_true_iff.mp e).1).2) (b.cutN (Bool.and_eq_true_iff.mp e).2)
theorem RepT.cutN {n : Nat} : ∀ {d v}, RepT K F μ d v → Zs.nnP n d = true → RepT K F (μ.take n) d v
  | _, _, .nil, _ => .nil
  | _, _, .cons k a b, e => .cons k (a.cutN (Bool.and_eq_true_iff.mp (Bool.and_eq_true_iff.mp e).1).2) (b.cutN (Bool.and_eq_true_iff.mp e).2)
end
theorem RepO.cutN {n : Nat} {o u} (h : RepO K F μ o u) (e : nnO n o = true) : RepO K F (μ.take n) o u := by
  cases h with
  | lst z r => exact .lst z (r.cutN e)
  | dctK r => exact .dctK (r.cutN e)
  | dctT r => exact .dctT (r.cutN e)
end
/-- the old open objects name no young ones -/
def okOld (h h' : HP) : Prop := h.length ≤ h'.length ∧ ∀ (i : Nat) (o : O), i < h.length → h'[i]? = some (some o) → h[i]? = some (some o) ∨ nnO h.length o = true
/-- shut -/
def mapO {α β : Type} (f : α → Option β) : List α → Option (List β)
  | [] => some []
  | x :: r => match f x with
    | some y => (match mapO f r with
      | some ys => some (y :: ys)
      | none => none)
    | none => none
def frz (n : Nat) (h : HP) : Nat → D → Option D
  | 0, d => if nn n d = true then some d else none
  | k + 1, d => if nn n d = true then some d else match d with
    | .ref i => (match h[i]? with
      | some (some (.lst xs)) => (match mapO (frz n h k) xs with
        | some ys => some (.lst ys)
        | none => none)
      | some (some (.dct xs)) => (match mapO (fun p => match frz n h k p.2 with
          | some y => some (p.1, y)
          | none => none) xs with
        | some ys => some (.dct ys)
        | none => none)
      | _ => none)
    | .tup xs => (match mapO (frz n h k) xs with
      | some ys => some (.tup ys)
      | none => none)
    | .lst xs => (match mapO (frz n h k) xs with
      | some ys => some (.lst ys)
      | none => none)
    | _ => none
/-- no open dict that is young -/
def noDc (n : Nat) (h : HP) : Bool := (h.drop n).all fun o => match o with
  | some (.dct _) => false
  | _ => true
/-- the young open dicts: they are locked -/
def Sh (μ : List Addr) (h : HP) (n : Nat) (a : Addr) : Prop := ∃ i ds, n ≤ i ∧ h[i]? = some (some (.dct ds)) ∧ μ[i]? = some a
/-- what is known behind the shutting -/
def shutF (F : Hp) (μ : List Addr) (h : HP) (n : Nat) (H : Hp) : Hp := fun a => match F a with
  | some o => some o
  | none => if ∃ i o, n ≤ i ∧ h[i]? = some (some o) ∧ μ[i]? = some a then H a else none
section
variable {K : Gm} {F : Hp} {μ : List Addr} {G H : Hp} {h : HP} {n : Nat} {ob : Addr → Obj}
theorem sh_F (s : SRel K F μ h G H) {a : Addr} {o : HO} (e : F a = some o) : ¬ Sh μ h n a := fun ⟨i, ds, _, e1, m⟩ => by
  obtain ⟨b, u, m', _, hF, _⟩ := s.live i _ e1
  rw [m] at m'; cases m'
  rw [e] at hF; cases hF
theorem shut_sub (s : SRel K F μ h G H) {a : Addr} {o : HO} (e : shutF F μ h n (lockS (Sh μ h n) ob H) a = some o) : lockS (Sh μ h n) ob H a = some o := by
  unfold shutF at e
  split at e
  · rename_i u hu
    cases e
    rw [lockS_no (sh_F s hu)]
    exact s.sub a _ hu
  · split at e
    · exact e
    · cases e
theorem shut_ext : Ext F μ (shutF F μ h n H) μ := ⟨fun a o e => by unfold shutF; rw [e], List.prefix_refl μ⟩
theorem shut_at (s : SRel K F μ h G H) {i : Nat} {o : O} {a : Addr} {H2 : Hp} (hi : n ≤ i) (e : h[i]? = some (some o)) (m : μ[i]? = some a) : shutF F μ h n H2 a = H2 a := by
  obtain ⟨a', u, m', hH, hF, _⟩ := s.live i o e
  rw [m] at m'; cases m'
  unfold shutF
  rw [hF]
  exact if_pos ⟨i, o, hi, e, m⟩
theorem shut_none (s : SRel K F μ h G H) {a : Addr} {H2 : Hp} (hF : F a = none) (hn : ∀ i o, n ≤ i → h[i]? = some (some o) → μ[i]? = some a → False) : shutF F μ h n H2 a = none := by
  unfold shutF
  rw [hF]
  exact if_neg fun ⟨i, o, a1, a2, a3⟩ => hn i o a1 a2 a3
theorem tabs_lock {T : List (Addr × Str)} {S : Addr → Prop} (t : LamX.Tabs T H) : LamX.Tabs T (lockS S ob H) := fun p hp => by
  obtain ⟨ps, h1, h2, h3⟩ := t p hp
  refine ⟨ps, lockS_same h1 fun _ => rfl, h2, fun pos cv hc => ?_⟩
  obtain ⟨c, e1, e2⟩ := h3 pos cv hc
  exact ⟨c, e1, lockS_same e2 fun _ => rfl⟩
theorem SRel.shut (s : SRel K F μ h G H) (hn : n ≤ h.length) (old : ∀ (i : Nat) (o : O), i < n → h[i]? = some (some o) → nnO n o = true) : SRel K (shutF F μ h n (lockS (Sh μ h n) ob H)) (μ.take n) (h.take n) G (lockS (Sh μ h n) ob H) := by
  have hl := s.len
  have at' : ∀ {i : Nat} {o : O}, (h.take n)[i]? = some (some o) → i < n ∧ h[i]? = some (some o) := fun {i o} e => by
    have hi := (List.getElem?_eq_some_iff.mp e).1
    rw [List.length_take] at hi
    have hi2 : i < n := by omega
    rw [List.getElem?_take_of_lt hi2] at e
    exact ⟨hi2, e⟩
  have ntF : ∀ a ps, shutF F μ h n (lockS (Sh μ h n) ob H) a ≠ some (.tbl ps) := fun a ps e => by
    have e2 := shut_sub s e
    unfold shutF at e
    split at e
    · rename_i u hu
      cases e
      exact (s.nt a ps).1 hu
    · split at e
      · rename_i q
        obtain ⟨i, o, _, e1, m1⟩ := q
        obtain ⟨b, u, m', hH, _, _, ro⟩ := s.live i o e1
        rw [m1] at m'; cases m'
        by_cases z : Sh μ h n a
        · rw [lockS_at hH z] at e
          have nt := ro.nT.1
          cases u <;> first | exact nt _ (Option.some.inj e) | cases e
        · rw [lockS_no z, hH] at e
          exact ro.nT.1 ps (Option.some.inj e)
      · cases e
  have nsh : ∀ {i : Nat} {o : O} {a : Addr}, i < n → h[i]? = some (some o) → μ[i]? = some a → ¬ Sh μ h n a := fun {i o a} hi e m ⟨j, ds, hj, e1, m1⟩ => by
    have := s.inj j i _ o a e1 e m1 m
    omega
  refine ⟨fun a o e => shut_sub s e, by rw [List.length_take, List.length_take, hl], fun i o e => ?_, fun i j o o' a e e' m m' => ?_, fun a o e => ?_, tabs_lock s.tb, fun a ps => ⟨ntF a ps, (s.nt a ps).2⟩, s.nc⟩
  · obtain ⟨hi, e0⟩ := at' e
    obtain ⟨a, u, h1, h2, h3, h4, h5⟩ := s.live i o e0
    refine ⟨a, u, by rw [List.getElem?_take_of_lt hi]; exact h1, by rw [lockS_no (nsh hi e0 h1)]; exact h2, shut_none s h3 fun j o' hj e1 m1 => ?_, h4, (h5.mono shut_ext).cutN (old i o hi e0)⟩
    have := s.inj j i o' o a e1 e0 m1 h1
    omega
  · obtain ⟨hi, e0⟩ := at' e
    obtain ⟨hj, e0'⟩ := at' e'
    rw [List.getElem?_take_of_lt hi] at m
    rw [List.getElem?_take_of_lt hj] at m'
    exact s.inj i j o o' a e0 e0' m m'
  · obtain ⟨h1, h2⟩ := s.fr a o e
    have no : ∀ j o', n ≤ j → h[j]? = some (some o') → μ[j]? = some a → False := fun j o' hj e1 m1 => by
      obtain ⟨a', u, m', _, _, hG, _⟩ := s.live j o' e1
      rw [m1] at m'; cases m'
      rw [e] at hG; cases hG
    exact ⟨by rw [lockS_no fun ⟨j, ds, hj, e1, m1⟩ => no j _ hj e1 m1]; exact h1, shut_none s h2 no⟩
theorem mapO_R {F1 F2 : Hp} {μ1 μ2 : List Addr} {f : D → Option D} (hf : ∀ d d' v, f d = some d' → Rep K F1 μ1 d v → Rep K F2 μ2 d' v) : ∀ {ds ds' : List D} {vs : List V}, mapO f ds = some ds' → Reps K F1 μ1 ds vs → Reps K F2 μ2 ds' vs
  | _, _, _, e, .nil => by cases e; exact .nil
  | d :: ds, ds', _, e, .cons r t => by
    unfold mapO at e
    cases e1 : f d with
    | none => rw [e1] at e; cases e
    | some y =>
      rw [e1] at e
      cases e2 : mapO f ds with
      | none => rw [e2] at e; cases e
      | some ys => rw [e2] at e; cases e; exact .cons (hf d y _ e1 r) (mapO_R hf e2 t)
theorem mapO_K {F1 F2 : Hp} {μ1 μ2 : List Addr} {f : D → Option D} (hf : ∀ d d' v, f d = some d' → Rep K F1 μ1 d v → Rep K F2 μ2 d' v) : ∀ {ds ds' : List (D × D)} {vs : List (Key × V)}, mapO (fun p => match f p.2 with | some y => some (p.1, y) | none => none) ds = some ds' → RepK K F1 μ1 ds vs → RepK K F2 μ2 ds' vs
  | _, _, _, e, .nil => by cases e; exact .nil
  | (k, d) :: ds, ds', _, e, .cons rk r t => by
    unfold mapO at e
    dsimp only at e
    cases e1 : f d with
    | none => rw [e1] at e; cases e
    | some y =>
      rw [e1] at e
      cases e2 : mapO (fun p : D × D => match f p.2 with | some y => some (p.1, y) | none => none) ds with
      | none => rw [e2] at e; cases e
      | some ys => rw [e2] at e; cases e; exact .cons rk (hf d y _ e1 r) (mapO_K hf e2 t)
theorem mapO_T {F1 F2 : Hp} {μ1 μ2 : List Addr} {f : D → Option D} (hf : ∀ d d' v, f d = some d' → Rep K F1 μ1 d v → Rep K F2 μ2 d' v) : ∀ {ds ds' : List (D × D)} {vs : List (List Key × V)}, mapO (fun p => match f p.2 with | some y => some (p.1, y) | none => none) ds = some ds' → RepT K F1 μ1 ds vs → RepT K F2 μ2 ds' vs
  | _, _, _, e, .nil => by cases e; exact .nil
  | (.tup k, d) :: ds, ds', _, e, .cons rk r t => by
    unfold mapO at e
    dsimp only at e
    cases e1 : f d with
    | none => rw [e1] at e; cases e
    | some y =>
      rw [e1] at e
      cases e2 : mapO (fun p : D × D => match f p.2 with | some y => some (p.1, y) | none => none) ds with
      | none => rw [e2] at e; cases e
      | some ys => rw [e2] at e; cases e; exact .cons rk (hf d y _ e1 r) (mapO_T hf e2 t)
theorem frz_R (s : SRel K F μ h G H) : ∀ (k : Nat) (d d' : D) (v : V), frz n h k d = some d' → Rep K F μ d v → Rep K (shutF F μ h n (lockS (Sh μ h n) ob H)) (μ.take n) d' v
  | 0, d, d', v, e, r => by
    unfold frz at e
    split at e
    · rename_i z
      cases e
      exact (r.mono shut_ext).cutN z
    · cases e
  | k + 1, d, d', v, e, r => by
    unfold frz at e
    split at e
    · rename_i z
      cases e
      exact (r.mono shut_ext).cutN z
    · rename_i z
      split at e
      · rename_i i
        cases r with
        | ref m =>
          have hi : n ≤ i := by
            have : ¬ (decide (i < n) = true) := z
            rw [decide_eq_true_eq] at this
            omega
          split at e
          · rename_i xs hx
            split at e
            · rename_i ys hy
              cases e
              obtain ⟨a, u, m', hH, _, _, ro⟩ := s.live i _ hx
              rw [m] at m'; cases m'
              cases ro with
              | lst zz q => exact .lst (by rw [shut_at s hi hx m]; exact lockS_same hH fun _ => rfl) zz (mapO_R (frz_R s k) hy q)
            · cases e
          · rename_i xs hx
            split at e
            · rename_i ys hy
              cases e
              obtain ⟨a, u, m', hH, _, _, ro⟩ := s.live i _ hx
              rw [m] at m'; cases m'
              cases ro with
              | dctK q => exact .dctK (by rw [shut_at s hi hx m]; exact lockS_at hH ⟨i, _, hi, hx, m⟩) (mapO_K (frz_R s k) hy q)
              | dctT q => exact .dctT (by rw [shut_at s hi hx m]; exact lockS_at hH ⟨i, _, hi, hx, m⟩) (mapO_T (frz_R s k) hy q)
            · cases e
          · cases e
      · split at e
        · rename_i xs ys hy
          cases e
          cases r with
          | tup f zz q => exact .tup ((shut_ext (μ := μ)).f _ _ f) zz (mapO_R (frz_R s k) hy q)
        · cases e
      · split at e
        · rename_i xs ys hy
          cases e
          cases r with
          | lst f zz q => exact .lst ((shut_ext (μ := μ)).f _ _ f) zz (mapO_R (frz_R s k) hy q)
        · cases e
      · cases e
end
/-- how a def ends: its value shut (k deep), or as it is (keep) -/
def fin (keep : Bool) (k : Nat) (h : HP) (d : D) (h' : HP) : R D := match keep with
  | true => .ok d h'
  | false => if okOld h h' then (match frz h.length h' k d with
    | some d' => .ok d' (h'.take h.length)
    | none => .bad) else .bad
def finX (k : Nat) (h : HP) (c : Str) (d : D) (h' : HP) : R D := if okOld h h' ∧ noDc h.length h' = true then (match frz h.length h' k d with
  | some d' => .exc c d' (h'.take h.length)
  | none => .bad) else .bad
def startE (n : Nat) (ds : List D) : Env' := ds.map some ++ List.replicate (n - ds.length) none
/-- the young are forgotten where nothing is handed out -/
def finN (keep : Bool) (h h' : HP) : R D := match keep with
  | true => .ok .non h'
  | false => if okOld h h' then .ok .non (h'.take h.length) else .bad
def runD (keep : Bool) (k : Nat) (n : Nat) (m : SM) : FSem := fun ds h => match m (startE n ds) h with
  | .ok (.ret d) h' => fin keep k h d h'
  | .ok (.nx _) h' => finN keep h h'
  | .ok (.exc c d _) h' => finX k h c d h'
  | _ => .bad
section
variable {g : Gm} {F : Hp} {μ : List Addr} {G H : Hp} {h : HP}
theorem start_env {n : Nat} {ds : List D} {vs : List V} {N : List Str} (e : N.length = n) (r : Reps g F μ ds vs) : REnv g F μ (startE n ds) (L2.start N vs) := by
  unfold startE L2.start
  rw [e, ← r.length]
  refine ⟨by simp [r.length], fun i d hi => ?_⟩
  by_cases hl : i < ds.length
  · rw [List.getElem?_append_left (by simpa using hl), List.getElem?_map] at hi
    cases q : ds[i]? with
    | none => rw [q] at hi; cases hi
    | some d' =>
      rw [q] at hi
      cases hi
      obtain ⟨v, h1, h2⟩ := r.get q
      exact ⟨v, by rw [List.getElem?_append_left (by rw [List.length_map, ← r.length]; exact hl), List.getElem?_map, h1]; rfl, h2⟩
  · rw [List.getElem?_append_right (by simpa using hl)] at hi
    have := List.getElem?_eq_some_iff.mp hi
    obtain ⟨h1, h2⟩ := this
    rw [List.getElem_replicate] at h2
    cases h2
theorem take_pre {μ μ' : List Addr} (x : μ <+: μ') : μ'.take μ.length = μ := by
  obtain ⟨t, rfl⟩ := x
  simp
/-- the state behind the shutting, from the entry's -/
theorem shut_all {F' : Hp} {μ' : List Addr} {h' : HP} {H' : Hp} (ob : Addr → Obj) (s : SRel g F μ h G H) (x : Ext F μ F' μ') (s' : SRel g F' μ' h' G H') (ok : okOld h h') :
    SRel g (shutF F' μ' h' h.length (lockS (Sh μ' h' h.length) ob H')) μ (h'.take h.length) G (lockS (Sh μ' h' h.length) ob H') ∧ Ext F μ (shutF F' μ' h' h.length (lockS (Sh μ' h' h.length) ob H')) μ := by
  have hl : μ'.take h.length = μ := by rw [← s.len]; exact take_pre x.m
  have s2 := s'.shut (ob := ob) ok.1 fun i o hi e => by
    rcases ok.2 i o hi e with e2 | e2
    · obtain ⟨a, u, _, _, _, _, ro⟩ := s.live i o e2
      have := ro.nn
      rw [s.len] at this
      exact this
    · exact e2
  rw [hl] at s2
  exact ⟨s2, ⟨fun a o e => (shut_ext (μ := μ')).f a o (x.f a o e), List.prefix_refl μ⟩⟩
theorem drop_all {F' : Hp} {μ' : List Addr} {h' : HP} {H' : Hp} (s : SRel g F μ h G H) (x : Ext F μ F' μ') (s' : SRel g F' μ' h' G H') (ok : okOld h h') : SRel g F' μ (h'.take h.length) G H' ∧ Ext F μ F' μ := by
  have hl : μ'.take h.length = μ := by rw [← s.len]; exact take_pre x.m
  have s2 := s'.take ok.1 fun i o hi e u r => by
    refine r.cutN ?_
    rcases ok.2 i o hi e with e2 | e2
    · obtain ⟨a, u, _, _, _, _, ro⟩ := s.live i o e2
      have := ro.nn
      rw [s.len] at this
      exact this
    · exact e2
  rw [hl] at s2
  exact ⟨s2, ⟨x.f, List.prefix_refl μ⟩⟩
theorem fin_no {keep : Bool} {F' : Hp} {μ' : List Addr} {h' : HP} {H' : Hp} {W : WX} {Q : VK} (s : SRel g F μ h G H) (x : Ext F μ F' μ') (s' : SRel g F' μ' h' G H') (p : post g (relD g) W F μ G [] Q (finN keep h h')) : Q .non H' := by
  cases keep with
  | true => exact p F' μ' H' .non x s' .non
  | false =>
    have p : post g (relD g) W F μ G [] Q (if okOld h h' then .ok .non (h'.take h.length) else .bad) := p
    by_cases ok : okOld h h'
    · rw [if_pos ok] at p
      obtain ⟨s2, x2⟩ := drop_all s x s' ok
      exact p _ _ H' .non x2 s2 .non
    · rw [if_neg ok] at p; exact p.elim
theorem fin_ok {keep : Bool} {k : Nat} {d : D} {v : V} {F' : Hp} {μ' : List Addr} {h' : HP} {H' : Hp} {W : WX} {Q : VK} (s : SRel g F μ h G H) (x : Ext F μ F' μ') (s' : SRel g F' μ' h' G H') (r : Rep g F' μ' d v) (p : post g (relD g) W F μ G [] Q (fin keep k h d h')) : ∃ S : Addr → Prop, ∀ ob, Q v (lockS S ob H') := by
  cases keep with
  | true => exact ⟨fun _ => False, fun ob => by rw [lockS_nobody]; exact p F' μ' H' v x s' r⟩
  | false =>
    have p : post g (relD g) W F μ G [] Q (if okOld h h' then (match frz h.length h' k d with
      | some d' => .ok d' (h'.take h.length)
      | none => .bad) else .bad) := p
    by_cases ok : okOld h h'
    · rw [if_pos ok] at p
      cases e : frz h.length h' k d with
      | none => rw [e] at p; exact p.elim
      | some d' =>
        rw [e] at p
        refine ⟨Sh μ' h' h.length, fun ob => ?_⟩
        obtain ⟨s2, x2⟩ := shut_all ob s x s' ok
        have r2 := frz_R (ob := ob) s' k d d' v e r
        have hl : μ'.take h.length = μ := by rw [← s.len]; exact take_pre x.m
        rw [hl] at r2
        exact p _ _ _ v x2 s2 r2
    · rw [if_neg ok] at p; exact p.elim
theorem noDc_of {μ : List Addr} {h : HP} {n : Nat} {ob : Addr → Obj} {H : Hp} (e : noDc n h = true) : lockS (Sh μ h n) ob H = H := funext fun a => lockS_no fun ⟨i, ds, hi, e1, m⟩ => by
  have hm : some (O.dct ds) ∈ h.drop n := by
    obtain ⟨j, rfl⟩ : ∃ j, i = n + j := ⟨i - n, by omega⟩
    exact List.mem_of_getElem? (i := j) (by rw [List.getElem?_drop]; exact e1)
  have := List.all_eq_true.mp e _ hm
  cases this
theorem finX_ok {k : Nat} {c : Str} {d : D} {F' : Hp} {μ' : List Addr} {h' : HP} {W : WX} {Q : VK} {σ : L2.St} (s : SRel g F μ h G H) (x : Ext F μ F' μ') (hW : ∀ c d σ σ' H, W c d σ H → W c d σ' H) (p : post g (relD g) W F μ G [] Q (finX k h c d h')) : excP g W F' μ' G σ c d h' := by
  unfold finX at p
  intro F2 μ2 H2 dd v y s2 r e2
  by_cases ok : okOld h h' ∧ noDc h.length h' = true
  · rw [if_pos ok] at p
    cases e : frz h.length h' k d with
    | none => rw [e] at p; exact p.elim
    | some d' =>
      rw [e] at p
      obtain ⟨s3, x3⟩ := shut_all (fun _ => default) s (x.trans y) s2 ok.1
      have r3 := frz_R (ob := fun _ => default) s2 k d d' v e r
      have hl : μ2.take h.length = μ := by rw [← s.len]; exact take_pre (x.trans y).m
      rw [hl] at r3
      rw [noDc_of ok.2] at s3 x3 r3
      have p : excP g W F μ G [] c d' (h'.take h.length) := p
      exact hW _ _ _ _ _ (p _ _ H2 dd v x3 s3 r3 ((shut_ext (μ := μ2)).f _ _ e2))
  · rw [if_neg ok] at p; exact p.elim
theorem runD_of {keep : Bool} {k : Nat} {N : List Str} {m : SM} {ds : List D} {vs : List V} {Q : VK} {E : XK} (s : SRel g F μ h G H) (r : Reps g F μ ds vs) (p : post g (relD g) (WXK E) F μ G [] Q (runD keep k N.length m ds h)) :
    tS g (WXK E) m { nx := fun _ H' => Q .non H', rt := fun v H' => ∃ S : Addr → Prop, ∀ ob, Q v (lockS S ob H') } (L2.start N vs) H := by
  refine ⟨F, μ, h, G, startE N.length ds, s, start_env rfl r, ?_⟩
  unfold runD at p
  cases e : m (startE N.length ds) h with
  | bad => rw [e] at p; exact p.elim
  | exc c x h' => rw [e] at p; exact p.elim
  | ok f h' =>
    rw [e] at p
    cases f with
    | nx ρ => exact fun F' μ' H' σ' x s' en => fin_no s x s' p
    | ret d => exact fun F' μ' H' v x s' rv => fin_ok s x s' rv p
    | brk ρ => exact p.elim
    | exc c d ρ => exact fun F' μ' σ' x en => finX_ok s x (fun _ _ _ _ _ z => z) p
end
/-! ## the program -/
structure DI where
  x : Str
  params : Arguments
  body : List Stmt
  sc : Scope
  N : List Str
  ps : List Str
  k : Nat
  keep : Bool
  opn : List Str
  ret : Bool
  sh : List Shp
  lms : List Lm
structure Pgm where
  defs : List DI
  tb : List (Str × GE)
  cls : List (Str × List Str)
def DI.mkr (d : DI) : Bool := !d.lms.isEmpty
def ctxP (P : Pgm) (run : Nat → FSem) (n : Nat) (d : DI) : Cc := ⟨run, n, d.N, d.sc, fun _ => true, P.tb, d.opn, d.ret, true, P.cls, d.mkr, d.lms⟩
def runS (P : Pgm) (n : Nat) (r : Nat → FSem) : Nat → FSem := fun i => match P.defs[i]? with
  | none => fun _ _ => .bad
  | some d => (match cBody 400 (ctxP P r n d) d.body with
    | none => fun _ _ => .bad
    | some m => fun ds h => leave d.mkr n (runD d.keep d.k d.N.length m.m ds h))
def runP (P : Pgm) : Nat → (Nat → FSem)
  | 0 => fun _ _ _ => .bad
  | n + 1 => runS P n (runP P n)
/-- what the machine must hold -/
structure POk (K : PySem.W.Frag) (T : List (Addr × Str)) (P : Pgm) (Pr : Program) (w : World) (mg : Str → Option Value) (base : Heap) (fA : Nat → Addr) (fD : Nat → FuncData) : Prop where
  fn : ∀ (i : Nat) (d : DI), P.defs[i]? = some d → FunD K d.x d.x d.params d.body d.sc [] [] (fA i) (fD i)
  sc : ∀ (i : Nat) (d : DI), P.defs[i]? = some d → FnScope d.N d.ps d.sc
  glo : ∀ x e, P.tb.lookup x = some e → (match e with
    | .con d => ∃ v u, mg x = some u ∧ RelV v u ∧ ∀ (cl : Nat → Option Ce) F μ, Rep ⟨K, T, cl⟩ F μ d v
    | .bi => mg x = none
    | .fn i np sh => mg x = some (.ref (fA i)) ∧ ∃ d, P.defs[i]? = some d ∧ d.ps.length = np ∧ ∀ s ∈ sh, KB K (fD i) d.ps s.ks s.n s.ix
    | .hd i hk => mg x = some (.ref (fA i)) ∧ ∃ d, P.defs[i]? = some d ∧ d.ps = [hk.a] ∧ hk.ok d.body d.N d.sc = true ∧ (∃ q, P.tb.lookup hk.e = some (.con (.cls q)) ∧ q = hk.e) ∧ KB K (fD i) d.ps [] 1 [0])
  cl : ∀ X : Cx, X.prog = Pr → X.w = w → X.K = K → X.mg = mg → X.base = base → ClTab X P.cls
  tab : ∀ (i : Nat) (d : DI), P.defs[i]? = some d → d.mkr = true → ∃ cc Pt, (fD i).code = .ref cc ∧ LamX.TabB base mg cc Pt ∧ (Pt, d.x ++ ".<locals>." ++ "<lambda>") ∈ T ∧ ∀ p ∈ T, p.1 = Pt → p.2 = d.x ++ ".<locals>." ++ "<lambda>"
theorem fn_all {K : PySem.W.Frag} {T : List (Addr × Str)} {P : Pgm} {Pr : Program} {w : World} {mg : Str → Option Value} {base : Heap} {fA : Nat → Addr} {fD : Nat → FuncData} (ok : POk K T P Pr w mg base fA fD) : ∀ (n i : Nat) (d : DI), P.defs[i]? = some d → ∀ cl : Nat → Option Ce, (∀ m, m < n → cl m = none) →
    FnG Pr w K mg base (lev n) (fA i) (fD i) d.ps (spOf ⟨K, T, cl⟩ d.ps.length (runP P n i))
  | 0, i, d, hd, cl, hc => ⟨fun vs H Q E h => h.1, fun A outer s H args us vs Q E _ _ _ _ _ h => by
      obtain ⟨_, F, μ, h', G, ds, _, _, q⟩ := h
      exact q.elim⟩
  | n + 1, i, d, hd, cl, hc => by
    have FD := ok.fn i d hd
    have S := ok.sc i d hd
    have tb := ok.tab i d hd
    obtain ⟨oc, od, dV, kV, doc, pm, an, cdv, ct, osl, efd, lk, hcd, _, _⟩ := FD.ex
    rw [efd] at lk tb
    rw [efd]
    refine ⟨fun vs H Q E h => h.1, fun A outer s H args us vs Q E hr gd e0 hb r h => LamX.run_ofS (k := 4 * n + 7) lk hcd S hr e0 hb r h.1 fun hr' => ?_⟩
    obtain ⟨hl, F, μ, h', G, ds, s1, rs, q⟩ := h
    have q : post ⟨K, T, cl⟩ (relD _) (WXK E) F μ G [] Q (runS P n (runP P n) i ds h') := q
    unfold runS at q
    rw [hd] at q
    dsimp only at q
    have nw : cl n = none := hc n (Nat.lt_succ_self n)
    cases e : cBody 400 (ctxP P (runP P n) n d) d.body with
    | none =>
      rw [e] at q
      exact q.elim
    | some m =>
      rw [e] at q
      dsimp only at q
      have key : ∀ cl2 : Nat → Option Ce, (∀ m, m < n → cl2 m = none) → (d.mkr = true → MkOk ⟨K, T, cl2⟩ (ctxP P (runP P n) n d) (cxOf (L2.CX Pr w) Pr w K mg base d.N d.x d.sc (fA i) cdv A outer s H E)) →
          XOk ⟨K, T, cl2⟩ (ctxP P (runP P n) n d) (cxOf (L2.CX Pr w) Pr w K mg base d.N d.x d.sc (fA i) cdv A outer s H E) (WXK E) := fun cl2 hc2 hm => by
        refine ⟨rfl, rfl, S.nd, rfl, rfl, rfl, takes_of rfl rfl rfl rfl, passes_of rfl, hr'.mono (by show 4 * n + 4 + 1 ≤ 4 * n + 7; omega), gd, fun x e he => ?_, fun _ => ⟨rfl, rfl, rfl⟩, fun _ => hr', hm, ok.cl _ rfl rfl rfl rfl rfl⟩
        have := ok.glo x e he
        cases e with
        | con d =>
          obtain ⟨v, u, h1, h2, h3⟩ := this
          exact ⟨v, u, h1, h2, h3 cl2⟩
        | bi => exact this
        | fn j np sh =>
          obtain ⟨h1, d2, h2, h3, h4⟩ := this
          have FD2 := ok.fn j d2 h2
          exact ⟨fA j, fD j, d2.ps, h1, FD2.kp, h3, fn_all ok n j d2 h2 cl2 hc2, h4⟩
        | hd j hk =>
          obtain ⟨h1, d2, h2, h3, h4, h5, h6⟩ := this
          exact ⟨fA j, fD j, d2.x, d2.params, d2.body, d2.sc, d2.N, h1, ok.fn j d2 h2, by rw [← h3]; exact ok.sc j d2 h2, h4, by rw [← h3]; exact h6⟩
      cases hmk : d.mkr with
      | false =>
        rw [hmk] at q
        refine ⟨_, pss_lk (m.ok _ _ (WXK E) (key cl (fun m hm => hc m (Nat.lt_succ_of_lt hm)) fun z => ?_)), runD_of s1 rs q⟩
        rw [hmk] at z
        cases z
      | true =>
        rw [hmk] at q
        have q2 := leave_ok (ce := ⟨cellsFrom (s.heap.objs.size + 1) d.sc.names [], d.x ++ ".<locals>.", d.lms⟩) q
        obtain ⟨cc, Pt, hcode, h1, h2, h3⟩ := tb hmk
        refine ⟨_, pss_lk (m.ok _ _ (WXK E) (key (setC ⟨K, T, cl⟩ n ⟨cellsFrom (s.heap.objs.size + 1) d.sc.names [], d.x ++ ".<locals>.", d.lms⟩).cl (fun m hm => ?_) fun _ => ⟨⟨⟨cellsFrom (s.heap.objs.size + 1) d.sc.names [], d.x ++ ".<locals>.", d.lms⟩, cc, Pt, ?_, rfl, rfl, rfl, h1, hcode, h2, h3⟩⟩)), runD_of (s1.into nw) (rs.into nw) q2⟩
        · show (if m = n then _ else cl m) = none
          rw [if_neg (by omega)]
          exact hc m (by omega)
        · show (if n = n then _ else cl n) = _
          rw [if_pos rfl]
end Zs
end

/-! Fv -/
noncomputable section
namespace Zs
open PySem PySem.Spec L2
open PyProof.Rows hiding St

/-! ## the errors' classes, looked at in the machine -/
def oexB (K : PySem.W.Frag) (C : Addr) : Bool := match K.lookup C with
  | some ⟨.type t, dd, .cls ⟨nm, bs, .ref c :: bm, ns, q, true, sn, sub, ab, col, false⟩, sl⟩ => (match sl.toList with
    | [k0, k1, k2, k3, some (.builtin n), k5] => decide (t = "type") && decide (n = "ValueError.__new__") && decide (c = C) && PySem.HandSPX.refsVE bm
    | _ => false)
  | _ => false
theorem oexB_ok {K : PySem.W.Frag} {C : Addr} (h : oexB K C = true) : ∃ nm q N bs bm sn sub ab col dd k0 k1 k2 k3 k5, K.lookup C = some (excClassObj nm q C N bs bm true sn sub ab col dd k0 k1 k2 k3 k5 "ValueError.__new__") ∧ PySem.HandSPX.refsVE bm = true := by
  unfold oexB at h
  split at h
  · rename_i t dd nm bs c bm ns q sn sub ab col sl e
    split at h
    · rename_i k0 k1 k2 k3 n k5 e2
      simp only [Bool.and_eq_true, decide_eq_true_eq] at h
      obtain ⟨⟨⟨rfl, rfl⟩, rfl⟩, h4⟩ := h
      refine ⟨nm, q, ns, bs, bm, sn, sub, ab, col, dd, k0, k1, k2, k3, k5, ?_, h4⟩
      rw [e]
      have : sl = #[k0, k1, k2, k3, some (.builtin "ValueError.__new__"), k5] := by
        rw [← Array.toArray_toList (xs := sl), e2]
      rw [this]
    · cases h
  · cases h
def isIni : List Stmt → Bool
  | [.Expr (.Call (.Attribute (.Call (.Name s p0) [] [] p1) i p2) [.Name v p3] [] p4) p5, .Assign [.Attribute (.Name sf p6) vv p7] (.Name v2 p8) p9] =>
    decide (s = "super") && decide (i = "__init__") && decide (v = "value") && decide (sf = "self") && decide (vv = "value") && decide (v2 = "value") && (p2.endLine == p4.line)
  | _ => false
theorem isIni_ok {b : List Stmt} (h : isIni b = true) : ∃ p0 p1 p2 p3 p4 p5 p6 p7 p8 p9, b = iniBody p0 p1 p2 p3 p4 p5 p6 p7 p8 p9 ∧ (p2.endLine == p4.line) = true := by
  unfold isIni at h
  split at h
  · rename_i s p0 p1 i p2 v p3 p4 p5 sf p6 vv p7 v2 p8 p9
    simp only [Bool.and_eq_true, decide_eq_true_eq] at h
    obtain ⟨⟨⟨⟨⟨⟨rfl, rfl⟩, rfl⟩, rfl⟩, rfl⟩, rfl⟩, h7⟩ := h
    exact ⟨p0, p1, p2, p3, p4, p5, p6, p7, p8, p9, rfl, h7⟩
  · cases h
def isPar : Arguments → Bool
  | ⟨[], [⟨a, none, p⟩, ⟨b, none, q⟩], none, [], [], none, []⟩ => decide (a = "self") && decide (b = "value")
  | _ => false
theorem isPar_ok {a : Arguments} (h : isPar a = true) : ∃ p q, a = ⟨[], [⟨"self", none, p⟩, ⟨"value", none, q⟩], none, [], [], none, []⟩ := by
  unfold isPar at h
  split at h
  · rename_i a p b q
    simp only [Bool.and_eq_true, decide_eq_true_eq] at h
    obtain ⟨rfl, rfl⟩ := h
    exact ⟨p, q, rfl⟩
  · cases h
/-- the file that a code object tells -/
def fileB (Pr : Program) (K : PySem.W.Frag) (cda : Addr) : Bool := match K.lookup cda with
  | some ⟨_, _, .fields vs, _⟩ => (match (show Option Value from vs[2]?) with
    | some (Value.str f _) => ((Pr.main.file : Str) == f)
    | _ => false)
  | _ => false
theorem fileB_ok {Pr : Program} {K : PySem.W.Frag} {cda : Addr} (h : fileB Pr K cda = true) : ∃ c d vs sl f t, K.lookup cda = some ⟨c, d, .fields vs, sl⟩ ∧ vs[2]? = some (.str f t) ∧ ((Pr.main.file : Str) == f) = true := by
  unfold fileB at h
  split at h
  · rename_i c d vs sl e
    split at h
    · rename_i f t e2
      exact ⟨c, d, vs, sl, f, t, e, e2, h⟩
    · cases h
  · cases h
def cellD (K : PySem.W.Frag) (cc : Addr) : Option Addr := match K.lookup cc with
  | some ⟨_, _, .cell (some (.ref D)), _⟩ => some D
  | _ => none
theorem cellD_ok {K : PySem.W.Frag} {cc D : Addr} (h : cellD K cc = some D) : ∃ c d sl, K.lookup cc = some ⟨c, d, .cell (some (.ref D)), sl⟩ := by
  unfold cellD at h
  split at h
  · rename_i e
    cases h
    exact ⟨_, _, _, e⟩
  · cases h
/-- whose __init__ stands at fI -/
def iniD (Pr : Program) (K : PySem.W.Frag) (fI : Addr) : Option Addr := match K.lookup fI with
  | some ⟨_, _, .func ⟨_, qual, params, .stmts body, scope, gl, [(x, cc)], .none, _, _, _, _, .ref cda, _, bl⟩, _⟩ =>
    if (isIni body && iniSc scope && isPar params && PySem.W.codeIn K (.ref cda) qual && fileB Pr K cda && decide (x = "__class__") && decide (gl = mainGlobals) && decide (bl = builtinsNs)) = true then cellD K cc else none
  | _ => none
theorem ini_ok {Pr : Program} {w : World} {K : PySem.W.Frag} {mg : Str → Option Value} {base : Heap} {CX : CXT} {k : Nat} {fI D : Addr} (h : iniD Pr K fI = some D) (hD : (PySem.W.clsIn K D).isSome = true) (hms : mg "super" = none) (htop : (Pr.main.scope.names.lookup ("super" : Str)).isSome = false)
    (hno : PySem.W.nsIn K cStatics "thirdparty.any" = some none) : ∃ fd, FnOk Pr w K mg base CX (k + 1) fI fd ["self", "value"] (spIni K D) ∧ Binds K fd ["self", "value"] [] := by
  unfold iniD at h
  split at h
  · rename_i oc od nm qual params body scope gl x cc kV doc pm an cda ct bl osl e
    split at h
    · rename_i z
      simp only [Bool.and_eq_true, decide_eq_true_eq] at z
      obtain ⟨⟨⟨⟨⟨⟨⟨z1, z2⟩, z3⟩, z4⟩, z5⟩, rfl⟩, rfl⟩, rfl⟩ := z
      obtain ⟨p0, p1, p2, p3, p4, p5, p6, p7, p8, p9, rfl, hl⟩ := isIni_ok z1
      obtain ⟨p, q, rfl⟩ := isPar_ok z3
      obtain ⟨c, d, vs, sl, f, t, y1, y2, y3⟩ := fileB_ok z5
      obtain ⟨c', d', sl', y4⟩ := cellD_ok h
      obtain ⟨cdD, hcd⟩ := Option.isSome_iff_exists.mp hD
      refine ⟨_, ini_fn e z4 (iniSc_of z2) rfl rfl y1 y2 y3 y4 hcd hms htop hno hl, Binds.all fun us hu => ?_⟩
      match us, hu with
      | [u0, u1], _ => rfl
    · cases h
  · cases h
/-- all of a class -/
def clsB (Pr : Program) (K : PySem.W.Frag) (c : Str) : Bool := He.eqO (PySem.W.nsIn K mainGlobals c) (some (some (.ref (cAd K c)))) && (match PySem.W.findIn K (.ref (cAd K c)) "__init__" with
  | some (some (.ref fI)) => (match iniD Pr K fI with
    | some D => (PySem.W.clsIn K D).isSome && decide (PySem.W.typeIn K (.ref fI) = some (.type "function")) && decide (PySem.W.mroIn K (cAd K c) (.ref D) = some true) && He.eqO (PySem.W.ks_superIn K (cAd K c) D "__init__") (some (some (.builtin "ValueError.__init__")))
    | none => false)
  | _ => false) && oexB K (cAd K c) && He.eqO (PySem.W.findIn K (.ref (cAd K c)) "__setattr__") (some (some (.builtin "object.__setattr__"))) && decide (PySem.W.subIn K (.ref (cAd K c)) (.type "BaseException") = some true) &&
  decide (PySem.W.typeIn K (.ref (cAd K c)) = some (.type "type")) && PySem.W.keepIn K (.ref (cAd K c)) && decide (PySem.W.subIn K (.ref (cAd K c)) (.type "ValueError") = some true) && He.eqO (PySem.W.findIn K (.ref (cAd K c)) "value") (some none) &&
  xfB K (cAd K c) && He.eqO (PySem.W.findIn K (.ref (cAd K c)) "__class__") (some (some (.builtin "object.__class__"))) && He.eqO (PySem.W.specialIn K (.builtin "object.__class__") "__get__") (some (some (.builtin "getset_descriptor.__get__"))) &&
  decide (PySem.W.takesIn K (.builtin "object.__class__") = some true) && decide (PySem.W.mroIn K (cAd K c) (.type "object") = some true) &&
  [Ty.none, .bool, .int, .str, .tuple, .list, .dict].all fun t => decide (PySem.W.kitOne K (.type t.name) (.ref (cAd K c)) = some false)
def supB (Pr : Program) (K : PySem.W.Frag) : Bool := He.eqO (PySem.W.nsIn K mainGlobals "super") (some none) && He.eqO (PySem.W.nsIn K cStatics "thirdparty.any") (some none) && !(Pr.main.scope.names.lookup ("super" : Str)).isSome
def prB (K : PySem.W.Frag) (tab : List (Str × List Str)) : Bool := tab.all fun k => tab.all fun c => decide (PySem.W.exmOne K (.ref (cAd K k.1)) (.ref (cAd K c.1)) = some (decide (c.1 ∈ k.2))) && decide (PySem.W.kitOne K (.ref (cAd K k.1)) (.ref (cAd K c.1)) = some (decide (c.1 ∈ k.2)))
def ctB (Pr : Program) (tab : List (Str × List Str)) (K : PySem.W.Frag) : Bool := tab.isEmpty || (supB Pr K && tab.all (fun k => clsB Pr K k.1) && prB K tab)
theorem lookup_memC {x : Str} {e : List Str} : ∀ {l : List (Str × List Str)}, l.lookup x = some e → (x, e) ∈ l := fun h => PySem.mem_of_lookup h
theorem cls_of {Pr : Program} {w : World} {K : PySem.W.Frag} {h base : Heap} {mg : Str → Option Value} {k : Str} (KX : K.In h) (G : h.Ns mainGlobals mg) (hms : mg "super" = none) (s3 : (Pr.main.scope.names.lookup ("super" : Str)).isSome = false) (s2 : PySem.W.nsIn K cStatics "thirdparty.any" = some none) (z : clsB Pr K k = true) :
    mg k = some (.ref (cAd K k)) ∧ (∃ (fI D : Addr) (fd : FuncData), ClsC K k fI D ∧ FnOk Pr w K mg base (L2.CX Pr w) 1 fI fd ["self", "value"] (spIni K D) ∧ Binds K fd ["self", "value"] []) ∧ ∀ t : Ty, PySem.W.kitOne K (.type t.name) (.ref (cAd K k)) = some false := by
  unfold clsB at z
  obtain ⟨z, zf⟩ := Bool.and_eq_true_iff.mp z
  obtain ⟨z, ze⟩ := Bool.and_eq_true_iff.mp z
  obtain ⟨z, zd⟩ := Bool.and_eq_true_iff.mp z
  obtain ⟨z, zc⟩ := Bool.and_eq_true_iff.mp z
  obtain ⟨z, zb⟩ := Bool.and_eq_true_iff.mp z
  obtain ⟨z, za⟩ := Bool.and_eq_true_iff.mp z
  obtain ⟨z, z9⟩ := Bool.and_eq_true_iff.mp z
  obtain ⟨z, z8⟩ := Bool.and_eq_true_iff.mp z
  obtain ⟨z, z7⟩ := Bool.and_eq_true_iff.mp z
  obtain ⟨z, z6⟩ := Bool.and_eq_true_iff.mp z
  obtain ⟨z, z5⟩ := Bool.and_eq_true_iff.mp z
  obtain ⟨z, z4⟩ := Bool.and_eq_true_iff.mp z
  obtain ⟨z, z3⟩ := Bool.and_eq_true_iff.mp z
  obtain ⟨z1, z2⟩ := Bool.and_eq_true_iff.mp z
  refine ⟨PySem.W.mg_of KX G (He.eqO_ok z1), ?_, fun t => ?_⟩
  · split at z2
    · rename_i fI ei
      split at z2
      · rename_i D eD
        obtain ⟨z2, y4⟩ := Bool.and_eq_true_iff.mp z2
        obtain ⟨z2, y3⟩ := Bool.and_eq_true_iff.mp z2
        obtain ⟨y1, y2⟩ := Bool.and_eq_true_iff.mp z2
        obtain ⟨fd, F, B⟩ := ini_ok (w := w) (mg := mg) (base := base) (CX := L2.CX Pr w) (k := 0) eD y1 hms s3 s2
        have xf := xfB_ok za
        have T : ClsC K k fI D := ⟨⟨oexB_ok z3, He.eqO_ok z4, of_decide_eq_true z5, of_decide_eq_true z6, z7⟩, ei, of_decide_eq_true y2, of_decide_eq_true y3, He.eqO_ok y4, of_decide_eq_true z8, He.eqO_ok z9, xf, ⟨xf.ga, xf.gg, xf.exC, xf.hdC, He.eqO_ok zb, He.eqO_ok zc, of_decide_eq_true zd, of_decide_eq_true ze⟩⟩
        exact ⟨fI, D, fd, T, F, B⟩
      · cases z2
    · cases z2
  · have zf := List.all_eq_true.mp zf t (by cases t <;> simp)
    exact of_decide_eq_true zf
theorem ct_of {Pr : Program} {w : World} {K : PySem.W.Frag} {h base : Heap} {mg : Str → Option Value} {tab : List (Str × List Str)} (KX : K.In h) (G : h.Ns mainGlobals mg) (c : ctB Pr tab K = true) (X : Cx) (e1 : X.prog = Pr) (e2 : X.w = w) (e3 : X.K = K) (e4 : X.mg = mg) (e5 : X.base = base) : ClTab X tab := by
  unfold ctB at c
  cases tab with
  | nil => exact ⟨fun _ _ z => (nomatch z), fun _ _ _ _ z => (nomatch z), fun _ _ _ _ z => (nomatch z), fun _ _ z => (nomatch z)⟩
  | cons t0 tr =>
    generalize t0 :: tr = tab at c ⊢
    rcases Bool.or_eq_true_iff.mp c with c | c
    · have : tab = [] := List.isEmpty_iff.mp c
      subst this
      exact ⟨fun _ _ z => (nomatch z), fun _ _ _ _ z => (nomatch z), fun _ _ _ _ z => (nomatch z), fun _ _ z => (nomatch z)⟩
    obtain ⟨c, c3⟩ := Bool.and_eq_true_iff.mp c
    obtain ⟨c1, c2⟩ := Bool.and_eq_true_iff.mp c
    unfold supB at c1
    obtain ⟨c1, s3⟩ := Bool.and_eq_true_iff.mp c1
    obtain ⟨s1, s2⟩ := Bool.and_eq_true_iff.mp c1
    have s3 : (Pr.main.scope.names.lookup ("super" : Str)).isSome = false := by
      cases q : (Pr.main.scope.names.lookup ("super" : Str)).isSome with
      | false => rfl
      | true => rw [q] at s3; cases s3
    have hms := PySem.W.mg_none_of KX G (He.eqO_ok s1)
    have all : ∀ k sups, tab.lookup k = some sups → _ := fun k sups e => cls_of (w := w) (base := base) KX G hms s3 (He.eqO_ok s2) (List.all_eq_true.mp c2 _ (lookup_memC e))
    have pr : ∀ k sups c sups', tab.lookup k = some sups → tab.lookup c = some sups' → PySem.W.exmOne K (.ref (cAd K k)) (.ref (cAd K c)) = some (decide (c ∈ sups)) ∧ PySem.W.kitOne K (.ref (cAd K k)) (.ref (cAd K c)) = some (decide (c ∈ sups)) := fun k sups c sups' e e' => by
      obtain ⟨a, b⟩ := Bool.and_eq_true_iff.mp (List.all_eq_true.mp (List.all_eq_true.mp c3 _ (lookup_memC e)) _ (lookup_memC e'))
      exact ⟨of_decide_eq_true a, of_decide_eq_true b⟩
    subst e1 e2 e3 e4 e5
    exact ⟨fun k sups e => ⟨(all k sups e).1, (all k sups e).2.1⟩, fun k s c s' e e' => (pr k s c s' e e').1, fun k s c s' e e' => (pr k s c s' e e').2, fun k sups e t => (all k sups e).2.2 t⟩
end Zs
end

/-! Fo -/
noncomputable section
namespace Zs
open PySem PySem.Spec L2
open PyProof.Rows hiding St

/-! ## the machine's own things -/
def all2 {α β : Type} (f : α → β → Bool) : List α → List β → Bool
  | [], [] => true
  | a :: r, b :: s => f a b && all2 f r s
  | _, _ => false
def repB (K : PySem.W.Frag) : Nat → D → Value → Bool
  | _, .non, .none => true
  | _, .bl b, .bool c => b == c
  | _, .int i, .int j _ => decide (i = j)
  | _, .str s, .str y _ => decide (strV s = y) && decide (s.length < 100000)
  | _, .ty t, .type m => decide (t.name = m)
  | _, .cls c, .ref a => decide (cAd K c = a)
  | n + 1, .kt ds, .ref a => (match K.lookup a with
    | some ⟨.type c, _, .seq its _, _⟩ => decide (c = "tuple") && decide (its.size ≤ sizeLine) && all2 (repB K n) ds its.toList
    | _ => false)
  | n + 1, .scr ds, .ref a => (match K.lookup a with
    | some ⟨.type c, none, .seq its _, _⟩ => decide (c = "list") && decide (its.size ≤ sizeLine) && all2 (repB K n) ds its.toList
    | _ => false)
  | _, _, _ => false
theorem all2_ok {K : PySem.W.Frag} {T : List (Addr × Str)} {f : D → Value → Bool} (hf : ∀ d u, f d u = true → ∃ v, RelV v u ∧ ∀ (cl : Nat → Option Ce) F μ, Rep ⟨K, T, cl⟩ F μ d v) : ∀ {ds : List D} {us : List Value}, all2 f ds us = true → ∃ vs, Vals vs us ∧ ∀ (cl : Nat → Option Ce) F μ, Reps ⟨K, T, cl⟩ F μ ds vs
  | [], [], _ => ⟨[], .nil, fun _ _ _ => .nil⟩
  | [], _ :: _, h => by cases h
  | _ :: _, [], h => by cases h
  | d :: ds, u :: us, h => by
    have h' : (f d u && all2 f ds us) = true := h
    rw [Bool.and_eq_true] at h'
    obtain ⟨v, h1, h2⟩ := hf d u h'.1
    obtain ⟨vs, h3, h4⟩ := all2_ok hf h'.2
    exact ⟨v :: vs, .cons h1 h3, fun cl F μ => .cons (h2 cl F μ) (h4 cl F μ)⟩
theorem repB_ok {K : PySem.W.Frag} {T : List (Addr × Str)} : ∀ (n : Nat) (d : D) (u : Value), repB K n d u = true → ∃ v, RelV v u ∧ ∀ (cl : Nat → Option Ce) F μ, Rep ⟨K, T, cl⟩ F μ d v := by
  intro n
  induction n with
  | zero =>
    intro d u h
    unfold repB at h
    split at h
    · exact ⟨.non, rfl, fun _ _ _ => .non⟩
    · cases (eq_of_beq h); exact ⟨.bl _, rfl, fun _ _ _ => .bl _⟩
    · have := of_decide_eq_true h; subst this; exact ⟨.int _, ⟨_, rfl⟩, fun _ _ _ => .int _⟩
    · rw [Bool.and_eq_true, decide_eq_true_eq, decide_eq_true_eq] at h
      obtain ⟨rfl, h2⟩ := h
      exact ⟨.str _, ⟨_, rfl⟩, fun _ _ _ => .str _ (small_line h2)⟩
    · have := of_decide_eq_true h; subst this; exact ⟨.ty _, rfl, fun _ _ _ => .ty _⟩
    · exact ⟨.ref _, rfl, fun _ _ _ => .cls (of_decide_eq_true h)⟩
    · rename_i e; exact absurd e (by omega)
    · rename_i e; exact absurd e (by omega)
    · cases h
  | succ n ih =>
    intro d u h
    unfold repB at h
    split at h
    · exact ⟨.non, rfl, fun _ _ _ => .non⟩
    · cases (eq_of_beq h); exact ⟨.bl _, rfl, fun _ _ _ => .bl _⟩
    · have := of_decide_eq_true h; subst this; exact ⟨.int _, ⟨_, rfl⟩, fun _ _ _ => .int _⟩
    · rw [Bool.and_eq_true, decide_eq_true_eq, decide_eq_true_eq] at h
      obtain ⟨rfl, h2⟩ := h
      exact ⟨.str _, ⟨_, rfl⟩, fun _ _ _ => .str _ (small_line h2)⟩
    · have := of_decide_eq_true h; subst this; exact ⟨.ty _, rfl, fun _ _ _ => .ty _⟩
    · exact ⟨.ref _, rfl, fun _ _ _ => .cls (of_decide_eq_true h)⟩
    · rename_i e
      cases e
      split at h
      · rename_i hk
        rw [Bool.and_eq_true, Bool.and_eq_true, decide_eq_true_eq, decide_eq_true_eq] at h
        obtain ⟨⟨h1, h2⟩, h3⟩ := h
        obtain ⟨vs, hv, hr⟩ := all2_ok (fun d u => ih d u) h3
        refine ⟨.ref _, rfl, fun cl F μ => .kt (.inr ⟨_, _, _, hk, by rw [h1], rfl, h2, hv⟩) ?_ (hr cl F μ)⟩
        rw [hv.length, Array.length_toList]; exact h2
      · cases h
    · rename_i e
      cases e
      split at h
      · rename_i hk
        rw [Bool.and_eq_true, Bool.and_eq_true, decide_eq_true_eq, decide_eq_true_eq] at h
        obtain ⟨⟨h1, h2⟩, h3⟩ := h
        obtain ⟨vs, hv, hr⟩ := all2_ok (fun d u => ih d u) h3
        refine ⟨.ref _, rfl, fun cl F μ => .scr (.inr ⟨_, _, _, hk, by rw [h1], rfl, rfl, h2, hv⟩) ?_ (hr cl F μ)⟩
        rw [hv.length, Array.length_toList]; exact h2
      · cases h
    · cases h
/-- the table's names as the machine has them -/
def geB (K : PySem.W.Frag) (x : Str) : GE → Bool
  | .bi => He.eqO (PySem.W.nsIn K mainGlobals x) (some none)
  | .con d => (match PySem.W.nsIn K mainGlobals x with
    | some (some u) => repB K 20 d u
    | _ => false)
  | .fn _ _ _ => He.eqO (PySem.W.nsIn K mainGlobals x) (some (some (.ref (He.ga K x))))
  | .hd _ _ => He.eqO (PySem.W.nsIn K mainGlobals x) (some (some (.ref (He.ga K x))))
def tbB (tb : List (Str × GE)) (K : PySem.W.Frag) : Bool := tb.all fun p => geB K p.1 p.2
/-- .. as the defs have them -/
def isCls (o : Option GE) (e : Str) : Bool := match o with
  | some (.con (.cls q)) => decide (q = e)
  | _ => false
theorem isCls_of {o : Option GE} {e : Str} (h : isCls o e = true) : o = some (.con (.cls e)) := by
  unfold isCls at h
  split at h
  · rw [of_decide_eq_true h]
  · cases h
def geS (P : Pgm) (ds : List DI) (x : Str) : GE → Bool
  | .hd i hk => (match ds[i]? with
    | some d => decide (d.x = x) && (decide (d.ps = [hk.a]) && (hk.ok d.body d.N d.sc && (isCls (P.tb.lookup hk.e) hk.e && decide ((⟨[], 1, [0]⟩ : Shp) ∈ d.sh))))
    | none => false)
  | .fn i np sh => (match ds[i]? with
    | some d => decide (d.x = x) && decide (d.ps.length = np) && decide (sh = d.sh)
    | none => false)
  | _ => true
def tbS (P : Pgm) : Bool := P.tb.all fun p => geS P P.defs p.1 p.2
def scB (d : DI) : Bool := decide (d.sc.kind = .function) && (!d.sc.isCoroutine) && (!d.sc.isGenerator) && decide d.N.Nodup && decide (d.N.take d.ps.length = d.ps) && d.ps.all (fun x => isLoc (d.sc.names.lookup x)) && d.sc.names.all (fun y => !decide (y.2 = .free))
theorem scB_ok {d : DI} (h : scB d = true) : FnScope d.N d.ps d.sc := by
  unfold scB at h
  simp only [Bool.and_eq_true, decide_eq_true_eq, Bool.not_eq_true', List.all_eq_true] at h
  obtain ⟨⟨⟨⟨⟨⟨h1, h2⟩, h3⟩, h4⟩, h5⟩, h6⟩, h7⟩ := h
  exact ⟨h1, h2, h3, h4, h5, fun x hx => isLoc_of (h6 x hx), fun y hy => by have := h7 y hy; simpa using this⟩
def DI.dd (d : DI) : He.DefD := ⟨(d.x, none), d.x, d.x, d.params, d.body, d.sc, [], []⟩
/-- how the calls bind -/
def KbOk (d : DI) : Prop := ∀ (K : PySem.W.Frag) (f : Addr) (fd : FuncData), FunD K d.x d.x d.params d.body d.sc [] [] f fd → ∀ s ∈ d.sh, KB K fd d.ps s.ks s.n s.ix
theorem kb_of {d : DI} (h : ∀ s ∈ d.sh, ∀ (kV doc pm : Value) (an : Option Addr) (cdv ct : Value) (us ws : List Value), us.length = s.n → ws.length = s.ks.length →
    bindArgs (PySem.W.fnOf d.x d.x d.params d.body d.sc .none kV doc pm an cdv ct) ⟨us, s.ks.zip ws⟩ = pure (d.ps.zip (pickL s.ix (us ++ ws)))) : KbOk d := fun K f fd F s hs => ⟨fun s' us ws h1 h2 => by
  obtain ⟨oc, od, dV, kV, doc, pm, an, cdv, ct, osl, rfl, lk, hcd, hD, hK⟩ := F.ex
  rcases hD with ⟨_, rfl⟩ | ⟨e, _⟩
  · exact .of_eq (h s hs kV doc pm an cdv ct us ws h1 h2)
  · exact absurd rfl e⟩
theorem lookup_memT {x : Str} {e : GE} : ∀ {l : List (Str × GE)}, l.lookup x = some e → (x, e) ∈ l
  | [], h => by cases h
  | (b, u) :: r, h => by
    have h2 : (match x == b with | true => some u | false => r.lookup x) = some e := h
    cases q : (x == b) with
    | true =>
      rw [q] at h2
      have e' : u = e := Option.some.inj h2
      rw [beq_iff_eq.mp q, e']
      exact List.mem_cons_self
    | false =>
      rw [q] at h2
      exact List.mem_cons_of_mem _ (lookup_memT h2)
def fAt (P : Pgm) (K : PySem.W.Frag) (i : Nat) : Addr := match P.defs[i]? with
  | some d => He.fAd K (d.x, none)
  | none => 0
theorem fAt_eq {P : Pgm} {K : PySem.W.Frag} {i : Nat} {d : DI} (h : P.defs[i]? = some d) : fAt P K i = He.fAd K (d.x, none) := by
  unfold fAt; rw [h]
/-- the defs that make lambdas: their code objects, their tables -/
def mkT (P : Pgm) (K : PySem.W.Frag) : List ((Addr × Addr) × Str) := (P.defs.filter DI.mkr).map fun d => (He.cT K (d.x, none), d.x ++ ".<locals>." ++ "<lambda>")
def csT (P : Pgm) (K : PySem.W.Frag) : List (Addr × Addr) := (mkT P K).map (·.1)
def tbT (P : Pgm) (K : PySem.W.Frag) : List (Addr × Str) := (mkT P K).map fun p => (p.1.2, p.2)
theorem nodup_one {α β : Type} {f : α → β} : ∀ {l : List α}, (l.map f).Nodup → ∀ {x y : α}, x ∈ l → y ∈ l → f x = f y → x = y
  | [], _, _, _, hx, _, _ => by cases hx
  | a :: l, h, x, y, hx, hy, e => by
    rw [List.map_cons, List.nodup_cons] at h
    rcases List.mem_cons.mp hx with e1 | hx1
    · rcases List.mem_cons.mp hy with e2 | hy1
      · rw [e1, e2]
      · exact absurd (List.mem_map.mpr ⟨y, hy1, by rw [← e, e1]⟩) h.1
    · rcases List.mem_cons.mp hy with e2 | hy1
      · exact absurd (List.mem_map.mpr ⟨x, hx1, by rw [e, e2]⟩) h.1
      · exact nodup_one h.2 hx1 hy1 e
theorem pok_of {P : Pgm} {Pr : Program} {w : World} {K : PySem.W.Frag} {h base : Heap} {mg : Str → Option Value} (KX : K.In h) (G : h.Ns mainGlobals mg) (c : He.SaysD [] (P.defs.map DI.dd) K) (t : tbB P.tb K = true) (s1 : tbS P = true) (s2 : P.defs.all scB = true) (s3 : ∀ d ∈ P.defs, KbOk d) (ctb : ctB Pr P.cls K = true) (nd : ((tbT P K).map (·.1)).Nodup) :
    ∃ fD : Nat → FuncData, (∀ i d, P.defs[i]? = some d → FunD K d.x d.x d.params d.body d.sc [] [] (fAt P K i) (fD i)) ∧ ((∀ p ∈ csT P K, LamX.TabB base mg p.1 p.2) → POk K (tbT P K) P Pr w mg base (fAt P K) fD) := by
  have hf : ∀ (i : Nat) (d : DI), P.defs[i]? = some d → ∃ fd, FunD K d.x d.x d.params d.body d.sc [] [] (He.fAd K (d.x, none)) fd := fun i d hd => by
    have hd' : (P.defs.map DI.dd)[i]? = some d.dd := by rw [List.getElem?_map, hd]; rfl
    exact c.def_ i hd'
  have hex : ∀ i : Nat, ∃ fd, ∀ d : DI, P.defs[i]? = some d → FunD K d.x d.x d.params d.body d.sc [] [] (He.fAd K (d.x, none)) fd := fun i => by
    cases q : P.defs[i]? with
    | none => exact ⟨default, fun d hd => by cases hd⟩
    | some d =>
      obtain ⟨fd, F⟩ := hf i d q
      exact ⟨fd, fun d' hd => by cases hd; exact F⟩
  obtain ⟨fD, hfD⟩ : ∃ fD : Nat → FuncData, ∀ (i : Nat) (d : DI), P.defs[i]? = some d → FunD K d.x d.x d.params d.body d.sc [] [] (He.fAd K (d.x, none)) (fD i) := ⟨fun i => Classical.choose (hex i), fun i => Classical.choose_spec (hex i)⟩
  refine ⟨fD, fun i d hd => by rw [fAt_eq hd]; exact hfD i d hd, fun TB => ⟨fun i d hd => ?_, fun i d hd => scB_ok (List.all_eq_true.mp s2 d (List.mem_of_getElem? hd)), fun x e he => ?_, fun X e1 e2 e3 e4 e5 => ct_of KX G ctb X e1 e2 e3 e4 e5, fun i d hd hm => ?_⟩⟩
  · rw [fAt_eq hd]
    exact hfD i d hd
  rotate_left
  · have F := hfD i d hd
    obtain ⟨oc, od, dV, kV, doc, pm, an, cdv, ct, osl, efd, lk, hcd, _, _⟩ := F.ex
    obtain ⟨c1, ec⟩ := He.codeIn_ref hcd
    have hcode : (fD i).code = .ref c1 := by rw [efd]; exact ec
    have e2 := He.codeOf_eq (p := (d.x, none)) lk hcode
    have hmem : (He.cT K (d.x, none), d.x ++ ".<locals>." ++ "<lambda>") ∈ mkT P K := List.mem_map.mpr ⟨d, List.mem_filter.mpr ⟨List.mem_of_getElem? hd, hm⟩, rfl⟩
    have h1 := TB _ (List.mem_map.mpr ⟨_, hmem, rfl⟩)
    have hT : ((He.cT K (d.x, none)).2, d.x ++ ".<locals>." ++ "<lambda>") ∈ tbT P K := List.mem_map.mpr ⟨_, hmem, rfl⟩
    refine ⟨c1, (He.cT K (d.x, none)).2, hcode, ?_, hT, fun p hp e => ?_⟩
    · rw [← e2]; exact h1
    · have := nodup_one nd hp hT e
      rw [this]
  · have hm := lookup_memT he
    have ht := List.all_eq_true.mp t _ hm
    have hs := List.all_eq_true.mp s1 _ hm
    cases e with
    | bi => exact PySem.W.mg_none_of KX G (He.eqO_ok ht)
    | con d =>
      have ht : (match PySem.W.nsIn K mainGlobals x with
        | some (some u) => repB K 20 d u
        | _ => false) = true := ht
      cases q : PySem.W.nsIn K mainGlobals x with
      | none => rw [q] at ht; cases ht
      | some o =>
        rw [q] at ht
        cases o with
        | none => cases ht
        | some u =>
          obtain ⟨v, h1, h2⟩ := repB_ok _ _ _ ht
          exact ⟨v, u, PySem.W.mg_of KX G q, h1, h2⟩
    | hd i hk =>
      have hs : (match P.defs[i]? with
        | some d => decide (d.x = x) && (decide (d.ps = [hk.a]) && (hk.ok d.body d.N d.sc && (isCls (P.tb.lookup hk.e) hk.e && decide ((⟨[], 1, [0]⟩ : Shp) ∈ d.sh))))
        | none => false) = true := hs
      cases q : P.defs[i]? with
      | none => rw [q] at hs; cases hs
      | some d =>
        rw [q] at hs
        obtain ⟨a1, hs⟩ := an hs
        obtain ⟨a2, hs⟩ := an hs
        obtain ⟨a3, hs⟩ := an hs
        obtain ⟨a4, a5⟩ := an hs
        have ex := of_decide_eq_true a1
        subst ex
        refine ⟨?_, d, q, of_decide_eq_true a2, a3, ⟨_, isCls_of a4, rfl⟩, s3 d (List.mem_of_getElem? q) K _ _ (hfD i d q) _ (of_decide_eq_true a5)⟩
        rw [fAt_eq q]
        exact PySem.W.mg_of KX G (He.eqO_ok ht)
    | fn i np sh =>
      have hs : (match P.defs[i]? with
        | some d => decide (d.x = x) && decide (d.ps.length = np) && decide (sh = d.sh)
        | none => false) = true := hs
      cases q : P.defs[i]? with
      | none => rw [q] at hs; cases hs
      | some d =>
        rw [q] at hs
        simp only [Bool.and_eq_true, decide_eq_true_eq] at hs
        obtain ⟨⟨rfl, h2⟩, rfl⟩ := hs
        refine ⟨?_, d, q, h2, s3 d (List.mem_of_getElem? q) K _ _ (hfD i d q)⟩
        rw [fAt_eq q]
        exact PySem.W.mg_of KX G (He.eqO_ok ht)
/-- the law's def, at its entry -/
theorem law_start {K : PySem.W.Frag} {T : List (Addr × Str)} {f : FSem} {H : Hp} {a : Addr} {ns : List Int} (hz : ns.length ≤ sizeLine) (hT : ∀ p ∈ T, H p.1 = some (.tbl #[])) (hS : SqL K H a (ns.map V.int)) (nT : ∀ o, H a = some o → ∀ ps, o ≠ .tbl ps) (e : ∃ h', f [.scr (ns.map D.int)] [] = .ok (.bl true) h') :
    spOf ⟨K, T, fun _ => none⟩ 1 f [.ref a] H (fun v _ => v = .bl true) fun _ _ _ => False := by
  obtain ⟨h', e⟩ := e
  refine ⟨rfl, fun b => if b = a then H b else none, [], [], (fun _ => none), [.scr (ns.map D.int)], ⟨fun b o h => ?_, rfl, fun i o h => (by simp at h), fun i j o o' a h => (by simp at h), fun _ _ h => (by cases h), fun p hp => LamX.TabS.nil (hT p hp), fun b ps => ⟨fun h => ?_, fun h => (by cases h)⟩, fun _ _ h => (by cases h)⟩, .cons (.scr (vs := ns.map V.int) ?_ (by rw [List.length_map]; exact hz) ?_) .nil, ?_⟩
  · have h : (if b = a then H b else none) = some o := h
    split at h
    · exact h
    · cases h
  · have h : (if b = a then H b else none) = some (.tbl ps) := h
    split at h
    · rename_i z
      subst z
      rw [if_pos rfl] at h
      exact nT _ h ps rfl
    · cases h
  · rcases hS with (h | ⟨o, h⟩) | h
    · exact .inl (.inl ((if_pos rfl).trans h))
    · exact .inl (.inr ⟨o, (if_pos rfl).trans h⟩)
    · exact .inr h
  · clear hS e hz
    induction ns with
    | nil => exact .nil
    | cons n ns ih => exact .cons (.int n) ih
  · rw [e]
    intro F' μ' H' v x s rv
    cases rv
    rfl
/-! ## the look at the machine: what main reaches, the statics, the empty tables of the defs that make lambdas -/
abbrev frZ (n : Nat) (g : Addr → Option Obj) : PySem.W.Frag := He.frT g (cStatics :: He.asD g n)
def obsZ (n : Nat) (fn : List He.DefD) (tf : List He.Defn) (ex : PySem.W.Frag → Bool) (g : Addr → Option Obj) : He.AlT × Bool := (He.obsT [] fn [] (frZ n g), ex (frZ n g) && He.tabsB g tf (frZ n g))
structure SaysZ (fn : List He.DefD) (tf : List He.Defn) (ex : PySem.W.Frag → Bool) (w : World) (h : Heap) (K : PySem.W.Frag) : Prop where
  t : He.obsT [] fn [] K = He.valT fn [] w
  more : ex K = true
  hd : ∀ p ∈ tf, PySem.W.codeHdIn K (He.cT K p).1 (He.cT K p).2 = true
  out : ∀ p ∈ tf, K.lookup (He.cT K p).2 = none
  bare : ∀ p ∈ tf, h.get? (He.cT K p).2 = some { cls := .none, data := .fields #[] }
theorem saysZ_of {n : Nat} {fn : List He.DefD} {tf : List He.Defn} {ex : PySem.W.Frag → Bool} {w : World} {h : Heap} (e : obsZ n fn tf ex h.get? = (He.valT fn [] w, true)) : SaysZ fn tf ex w h (frZ n h.get?) := by
  obtain ⟨b1, b2⟩ := an (congrArg (fun z : He.AlT × Bool => z.2) e)
  have look : ∀ p ∈ tf, PySem.W.codeHdIn (frZ n h.get?) (He.cT (frZ n h.get?) p).1 (He.cT (frZ n h.get?) p).2 = true ∧ ∃ o, h.get? (He.cT (frZ n h.get?) p).2 = some o ∧ He.emptyTab o = true := fun p hp => by
    obtain ⟨c1, c2⟩ := an (List.all_eq_true.mp b2 p hp)
    cases q : h.get? (He.cT (frZ n h.get?) p).2 with
    | none => rw [q] at c2; cases c2
    | some o => rw [q] at c2; exact ⟨c1, o, rfl, c2⟩
  exact ⟨congrArg (fun z : He.AlT × Bool => z.1) e, b1, fun p hp => (look p hp).1, fun p hp => let ⟨_, o, q, z⟩ := look p hp; He.frT_none q z, fun p hp => by
    obtain ⟨_, o, q, z⟩ := look p hp
    rw [q, He.emptyTab_eq z]⟩
def hookZ (n : Nat) (fn : List He.DefD) (tf : List He.Defn) (ex : PySem.W.Frag → Bool) : PySem.W.Hook where
  α := He.AlT × Bool
  obs := fun s => obsZ n fn tf ex s.heap.get?
  val := fun w => (He.valT fn [] w, true)
  says := fun w h => ∃ K : PySem.W.Frag, K.In h ∧ SaysZ fn tf ex w h K
  of := fun _ _ e => ⟨_, He.frT_in, saysZ_of e⟩
  keeps := fun _ _ _ ⟨K, hK, c⟩ k => ⟨K, PySem.W.Frag.In.keeps hK k, ⟨c.t, c.more, c.hd, c.out, fun p hp => k _ _ (c.bare p hp)⟩⟩
theorem obsZ_eq {n : Nat} {fn : List He.DefD} {tf : List He.Defn} {ex : PySem.W.Frag → Bool} {g : Addr → Option Obj} {s : Shared} (h : ∀ a, g a = s.heap.get? a) : obsZ n fn tf ex g = (hookZ n fn tf ex).obs s := by
  have e : g = s.heap.get? := funext h
  rw [e] <;> rfl
def tfT (P : Pgm) : List He.Defn := (P.defs.filter DI.mkr).map fun d => (d.x, none)
theorem csT_mem {P : Pgm} {K : PySem.W.Frag} {p : Addr × Addr} (h : p ∈ csT P K) : ∃ q ∈ tfT P, p = He.cT K q := by
  obtain ⟨z, hz, rfl⟩ := List.mem_map.mp h
  obtain ⟨d, hd, rfl⟩ := List.mem_map.mp hz
  exact ⟨_, List.mem_map.mpr ⟨d, hd, rfl⟩, rfl⟩
theorem tbT_mem {P : Pgm} {K : PySem.W.Frag} {p : Addr × Str} (h : p ∈ tbT P K) : ∃ q ∈ csT P K, q.2 = p.1 := by
  obtain ⟨z, hz, rfl⟩ := List.mem_map.mp h
  exact ⟨z.1, List.mem_map.mpr ⟨z, hz, rfl⟩, rfl⟩
end Zs
end

/-! Fw -/
noncomputable section
namespace Zs
open PySem PySem.Spec L2
open PyProof.Rows hiding St

/-! ## the law called where no repr is under way -/
section
variable {P : Program} {w : World} {K : PySem.W.Frag} {mg mb : Str → Option Value} {k : Nat} {fa a : Addr} {cs : List (Addr × Addr)} {fd : FuncData} {x : Str} {sp : Sp} {t : Shared} {vs : List Value} {ns : List Int}
/-- what is tracked at the entry: the tables, and the script where it is not known -/
def trH (K : PySem.W.Frag) (cs : List (Addr × Addr)) (a : Addr) (vs : List Value) (ns : List Int) : Hp := fun b =>
  if b ∈ cs.map (·.2) then some (.tbl #[]) else if b = a ∧ K.lookup a = none then some (.frz { cls := .type "list", data := .seq vs.toArray } (.lst (ns.map V.int))) else none
theorem trH_cases {b : Addr} {u : HO} (e : trH K cs a vs ns b = some u) : (b ∈ cs.map (·.2) ∧ u = .tbl #[]) ∨ (b = a ∧ K.lookup a = none ∧ u = .frz { cls := .type "list", data := .seq vs.toArray } (.lst (ns.map V.int))) := by
  unfold trH at e
  split at e
  · rename_i z; cases e; exact .inl ⟨z, rfl⟩
  · split at e
    · rename_i z; cases e; exact .inr ⟨z.1, z.2, rfl⟩
    · cases e
theorem trH_tab {p : Addr × Addr} (h : p ∈ cs) : trH K cs a vs ns p.2 = some (.tbl #[]) := if_pos (List.mem_map.mpr ⟨p, h, rfl⟩)
theorem law_callG (kin : K.In t.heap) (gl : t.heap.Ns mainGlobals mg) (bl : t.heap.Ns builtinsNs mb) (bb : ∀ y : Str, y ≠ "__name__" → mb y = bootBuiltins y) (nl : t.heap.NoLimit) (g0 : t.gens = #[])
    (tabs : ∀ p ∈ cs, t.heap.get? p.2 = some { cls := .none, data := .fields #[] }) (unk : ∀ p ∈ cs, K.lookup p.2 = none) (code : ∀ p ∈ cs, PySem.W.CodeHd t.heap p.1 p.2)
    (bmo : ∃ (bm : Addr) (ob : Obj), mg "__builtins__" = some (.ref bm) ∧ bm ≠ builtinsNs ∧ t.heap.get? bm = some ob ∧ ob.cls = .type "module" ∧ ob.dict = some builtinsNs ∧ ob.data = .plain)
    (scr : t.heap.get? a = some { cls := .type "list", data := .seq vs.toArray }) (allI : IntsAre vs ns) (few : ns.length ≤ sizeLine) (room : Room k callerA)
    (fn : ∀ base : Heap, K.In base → base.Ns mainGlobals mg → (∀ p ∈ cs, LamX.TabB base mg p.1 p.2) → FnG P w K mg base k fa fd [x] sp) (bind : ∀ (s : Shared) (u : Value), BindsTo s fd ⟨[u], []⟩ [(x, u)])
    (good : ∀ H : Hp, (∀ p ∈ cs, H p.2 = some (.tbl #[])) → SqL K H a (ns.map V.int) → (∀ o, H a = some o → ∀ ps, o ≠ .tbl ps) → sp [.ref a] H (fun v _ => v = .bl true) fun _ _ _ => False) :
    codeAny (model P w) callerA (.call (.ref fa) ⟨[.ref a], []⟩) (fun r s' => r = .ok (.ret (.bool true)) ∧ OldK t.heap s'.heap ∧ s'.os = t.os ∧ AllBare s'.gens) t := by
  have vv := vals_ints allI
  have isTab : ∀ b, b ∈ cs.map (·.2) → t.heap.get? b = some { cls := .none, data := .fields #[] } := fun b hb => by
    obtain ⟨p, hp, e⟩ := List.mem_map.mp hb; rw [← e]; exact tabs p hp
  have aNot : a ∉ cs.map (·.2) := fun z => by
    have q := isTab a z
    rw [scr] at q
    exact absurd (congrArg Obj.data (Option.some.inj q)) (fun z => by cases z)
  -- what is not tracked
  have free : ∀ {b : Addr} {o : Obj}, t.heap.get? b = some o → (∀ ws n, o.data ≠ .seq ws n) → o.data ≠ .fields #[] → trH K cs a vs ns b = none := fun {b o} e n1 n2 => by
    cases q : trH K cs a vs ns b with
    | none => rfl
    | some u =>
      rcases trH_cases q with ⟨z, _⟩ | ⟨z, _, _⟩
      · rw [isTab b z] at e; cases e; exact absurd rfl n2
      · rw [z, scr] at e; cases e; exact absurd rfl (n1 _ _)
  have seen : ∀ {b : Addr} {o : Obj}, t.heap.get? b = some o → trH K cs a vs ns b = none → (hidT t.heap (trH K cs a vs ns)).get? b = some o := fun e n => hidT_get e n
  have dictFree : ∀ {b : Addr} {o : Obj} {es : Array DictEntry} {ep : Nat}, t.heap.get? b = some o → o.data = .dict es ep → trH K cs a vs ns b = none := fun {b o es ep} e d =>
    free e (fun ws n z => by rw [d] at z; cases z) fun z => by rw [d] at z; cases z
  have spaces : ∀ {b : Addr} {m : Str → Option Value}, t.heap.Ns b m → (hidT t.heap (trH K cs a vs ns)).Ns b m := fun {b m} ⟨o, es, ep, e, d, r⟩ => ⟨o, es, ep, seen e (dictFree e d), d, r⟩
  have known : K.In (hidT t.heap (trH K cs a vs ns)) := fun b o e => seen (kin b o e) (by
    cases q : trH K cs a vs ns b with
    | none => rfl
    | some u =>
      rcases trH_cases q with ⟨z, _⟩ | ⟨z, n, _⟩
      · obtain ⟨p, hp, ep⟩ := List.mem_map.mp z
        rw [← ep, unk p hp] at e; cases e
      · rw [z, n] at e; cases e)
  have TB : ∀ p ∈ cs, LamX.TabB (hidT t.heap (trH K cs a vs ns)) mg p.1 p.2 := fun p hp => by
    have ep := tabs p hp
    refine ⟨?_, ?_, fun z => ?_⟩
    · obtain ⟨o, us, file, tf, flags, tg, inF, text, tt, c1, r1, r2, r3, rest⟩ := code p hp
      exact ⟨o, us, file, tf, flags, tg, inF, text, tt, seen c1 (free c1 (fun ws n z => by rw [r2] at z; cases z) fun z => by rw [r2] at z; cases z; simp at r3), r1, r2, r3, rest⟩
    · obtain ⟨bm, ob, b1, b2, b3, b4, b5, b6⟩ := bmo
      refine ⟨bm, ob, b1, b2, fun q => ?_, fun q => ?_, seen b3 (free b3 (fun ws n z => by rw [b6] at z; cases z) fun z => by rw [b6] at z; cases z), b4, b5, b6⟩
      · obtain ⟨o, es, n, e, d, _⟩ := gl
        rw [q, e] at b3; cases b3
        rw [d] at b6; cases b6
      · rw [q, ep] at b3; cases b3; cases b6
    · obtain ⟨o, es, n, e, d, _⟩ := gl
      rw [z, ep] at e; cases e; cases d
  have hok : HOk P w (trH K cs a vs ns) t.heap := fun b u e => by
    rcases trH_cases e with ⟨z, eu⟩ | ⟨z, _, eu⟩
    · rw [eu]; exact isTab b z
    · rw [eu, z]; exact ⟨scr, by rw [List.length_map]; exact few, vs, _, vv, scr⟩
  have sq : SqL K (trH K cs a vs ns) a (ns.map V.int) := by
    cases q : K.lookup a with
    | some o =>
      have e := kin a o q
      rw [scr] at e; cases e
      exact .inr ⟨_, vs.toArray, _, q, rfl, rfl, rfl, by rw [List.size_toArray, allI.length]; exact few, by simpa using vv⟩
    | none => exact .inl (.inr ⟨_, (if_neg aNot).trans (if_pos ⟨rfl, q⟩)⟩)
  have noTab : ∀ o, trH K cs a vs ns a = some o → ∀ ps, o ≠ .tbl ps := fun o e ps z => by
    rcases trH_cases e with ⟨m, _⟩ | ⟨_, _, eu⟩
    · exact aNot m
    · rw [eu] at z; cases z
  have md : L2.Mod K mg (hidT t.heap (trH K cs a vs ns)) := ⟨known, spaces gl, ⟨mb, spaces bl, bb⟩, let ⟨mc, h1, h2⟩ := nl; ⟨mc, spaces h1, h2⟩⟩
  have start : Env0 P w K mg (hidT t.heap (trH K cs a vs ns)) callerA [] t (trH K cs a vs ns) := ⟨rfl, md, fun b o e => of_hidT e, Nat.le_of_eq (hidT_size _ _), trivial, fun b hb => absurd (show b ∈ ([] : List Addr) from hb) (by simp), hok, .of_eq g0⟩
  refine codeAny_mono ((fn _ known (spaces gl) TB).go callerA [] t _ ⟨[.ref a], []⟩ [.ref a] [.ref a] _ _ room rfl start (bind t (.ref a)) (.cons rfl .nil) (good _ (fun p hp => trH_tab hp) sq noTab)) fun r s' h => ?_
  cases r with
  | error e =>
    obtain ⟨_, _, _, _, _, _, _, _, _, _, _, _, z⟩ := h
    exact z.elim
  | ok fl =>
    cases fl with
    | next => exact False.elim h
    | brk => exact False.elim h
    | cont => exact False.elim h
    | ret u =>
      obtain ⟨v, H', os, bare, un, hok', r', q⟩ := h
      have q' : v = .bl true := q
      subst q'
      obtain rfl : u = Value.bool true := r'
      have same : ∀ b o, b ∉ cs.map (·.2) → t.heap.get? b = some o → s'.heap.get? b = some o := fun b o nb e => by
        cases q : trH K cs a vs ns b with
        | none => exact un.keep b o e q (fun z => absurd (show b ∈ ([] : List Addr) from z) (by simp)) (by simp)
        | some u =>
          rcases trH_cases q with ⟨z, _⟩ | ⟨_, _, eu⟩
          · exact absurd z nb
          · rw [eu] at q
            have q2 := un.frzs b _ _ q
            have f1 := (hok b _ q).1
            rw [e] at f1; cases f1
            exact (hok' b _ q2).1
      have wider : ∀ p ∈ cs, ∃ more : Array Value, s'.heap.get? p.2 = some { cls := .none, data := .fields more } := fun p hp => by
        obtain ⟨more, z⟩ := un.tbls p.2 #[] (trH_tab hp)
        exact ⟨_, hok' p.2 _ z⟩
      refine ⟨rfl, ⟨fun b o e => ?_, fun b o e => ?_⟩, os, bare⟩
      · by_cases hb : b ∈ cs.map (·.2)
        · obtain ⟨p, hp, ep⟩ := List.mem_map.mp hb
          obtain ⟨more, hm⟩ := wider p hp
          rw [← ep] at e ⊢
          rw [tabs p hp] at e
          cases e
          exact .inr (.inl ⟨((code p hp).tab (tabs p hp)).isCodeTable, rfl, #[], more, rfl, by rw [Array.empty_append]; exact hm⟩)
        · exact .inl (same b o hb e)
      · by_cases hb : b ∈ cs.map (·.2)
        · obtain ⟨p, hp, ep⟩ := List.mem_map.mp hb
          obtain ⟨more, hm⟩ := wider p hp
          rw [← ep]; exact ⟨_, hm⟩
        · exact ⟨o, same b o hb e⟩
end
/-- what must be known of the law at the head's heap -/
def LawZ (l : PySem.W.OpenLaw) (w : World) (K : PySem.W.Frag) (k n : Nat) (x : Str) (mg : Str → Option Value) (fa : Addr) (h : Heap) : Prop :=
  ∃ (fd : FuncData) (cs : List (Addr × Addr)) (sp : Sp), (∀ p ∈ cs, h.get? p.2 = some { cls := .none, data := .fields #[] }) ∧ (∀ p ∈ cs, K.lookup p.2 = none) ∧ (∀ p ∈ cs, PySem.W.CodeHd h p.1 p.2) ∧ (∀ (s : Shared) (u : Value), BindsTo s fd ⟨[u], []⟩ [(x, u)]) ∧
    (∀ (H : Hp) (a : Addr) (ns : List Int), ns.length ≤ n → (∀ p ∈ cs, H p.2 = some (.tbl #[])) → SqL K H a (ns.map V.int) → (∀ o, H a = some o → ∀ ps, o ≠ .tbl ps) → sp [.ref a] H (fun v _ => v = .bl true) fun _ _ _ => False) ∧
    ∀ base : Heap, K.In base → base.Ns mainGlobals mg → (∀ p ∈ cs, LamX.TabB base mg p.1 p.2) → FnG l.prog w K mg base k fa fd [x] sp
theorem walk_ofG {l : PySem.W.OpenLaw} {n k : Nat} {q : Program} {loose : List Str} {XP : (Str → Option Value) → Heap → Prop} {YP : World → Heap → Prop} {d : DefRec} {x : Str} (hn : l.most = some n) (hn2 : n ≤ sizeLine) (hdf : d.params.defaults = []) (hr : Room k callerA)
    (F : ∀ (w : World) (mg : Str → Option Value) (fa : Addr) (h : Heap), YP w h → h.Ns mainGlobals mg → mg d.name = some (.ref fa) → ∃ K : PySem.W.Frag, K.In h ∧ LawZ l w K k n x mg fa h) :
    PySem.W.WalkO q loose XP YP l.row.toRowW d [] (fun f vs => PySem.call f vs) := by
  refine Att.attach_callB hn hdf fun w s₀ t mg mb fa o pm cd doc a vs ns G Y ho hd hcd hmg hobj hints hlen hbits hg => ?_
  obtain ⟨K, KX, fd, cs, sp, hT, nT, C, hb, hsp, hF⟩ := F w mg fa _ Y G.T.g hmg
  exact law_callG KX G.T.g G.T.b G.T.builtins G.T.nolimit hg hT nT C G.T.bmain hobj hints (Nat.le_trans hlen hn2) hr hF hb fun H hH hS hN => hsp H a ns hlen hH hS hN
theorem funD_eq {K : PySem.W.Frag} {x q : Str} {pa : Arguments} {body : List Stmt} {sc : Scope} {f : Addr} {fd fd2 : FuncData} (a : FunD K x q pa body sc [] [] f fd) (b : FunD K x q pa body sc [] [] f fd2) : fd = fd2 := by
  obtain ⟨_, _, _, _, _, _, _, _, _, _, _, l1, _⟩ := a.ex
  obtain ⟨_, _, _, _, _, _, _, _, _, _, _, l2, _⟩ := b.ex
  rw [l1] at l2
  cases l2
  rfl
/-- the law by its meaning -/
theorem law_z {P : Pgm} {l : PySem.W.OpenLaw} {w : World} {K : PySem.W.Frag} {h : Heap} {mg : Str → Option Value} {f : Addr} {i n : Nat} {d : DI} {ex : PySem.W.Frag → Bool} (X : K.In h) (G : h.Ns mainGlobals mg) (hfa : mg ("law" : Str) = some (.ref f)) (c : SaysZ (P.defs.map DI.dd) (tfT P) ex w h K)
    (mo1 : tbB P.tb K = true) (mo2 : ctB l.prog P.cls K = true) (mo3 : ((tbT P K).map (·.1)).Nodup) (s1 : tbS P = true) (s2 : P.defs.all scB = true) (s3 : ∀ d ∈ P.defs, KbOk d) (hd : P.defs[i]? = some d) (hps : d.ps = [("script" : Str)]) (hl : P.tb.lookup ("law" : Str) = some (GE.fn i 1 d.sh)) (hsh : (⟨[], 1, [0]⟩ : Shp) ∈ d.sh)
    (hlaw : ∀ ns : List Int, ns.length ≤ 63 → ∃ h', runP P n i [.scr (ns.map D.int)] [] = .ok (.bl true) h') : LawZ l w K (lev n) 63 "script" mg f h := by
  have base : ∀ b : Heap, ∃ fD : Nat → FuncData, (∀ i d, P.defs[i]? = some d → FunD K d.x d.x d.params d.body d.sc [] [] (fAt P K i) (fD i)) ∧ ((∀ p ∈ csT P K, LamX.TabB b mg p.1 p.2) → POk K (tbT P K) P l.prog w mg b (fAt P K) fD) :=
    fun b => pok_of (base := b) X G (congrArg (fun z : He.AlT => z.1) c.t) mo1 s1 s2 s3 mo2 mo3
  obtain ⟨fD, hF, _⟩ := base h
  have F := hF i d hd
  have ef : f = fAt P K i := by
    have ht := List.all_eq_true.mp mo1 _ (lookup_memT hl)
    have e := PySem.W.mg_of X G (He.eqO_ok ht)
    have hs := List.all_eq_true.mp s1 _ (lookup_memT hl)
    have hs : (match P.defs[i]? with
      | some d' => decide (d'.x = ("law" : Str)) && decide (d'.ps.length = 1) && decide (d.sh = d'.sh)
      | none => false) = true := hs
    rw [hd] at hs
    obtain ⟨hs, _⟩ := an hs
    obtain ⟨hs, _⟩ := an hs
    have hx := of_decide_eq_true hs
    rw [hfa] at e
    have e := Value.ref.inj (Option.some.inj e)
    rw [e, fAt_eq hd, ← hx]
    rfl
  subst ef
  refine ⟨fD i, csT P K, spOf ⟨K, tbT P K, fun _ => none⟩ 1 (runP P n i), fun p hp => ?_, fun p hp => ?_, fun p hp => ?_, fun s u => ?_, fun H a ns hz hT hS nT => ?_, fun b _ _ TB => ?_⟩
  · obtain ⟨q, hq, rfl⟩ := csT_mem hp
    exact c.bare q hq
  · obtain ⟨q, hq, rfl⟩ := csT_mem hp
    exact c.out q hq
  · obtain ⟨q, hq, rfl⟩ := csT_mem hp
    exact PySem.W.codeHd_of_K X (c.hd q hq)
  · have kb := s3 d (List.mem_of_getElem? hd) K _ _ F _ hsh
    have := kb.to s [u] [] rfl rfl
    rw [hps] at this
    exact this
  · exact law_start (Nat.le_trans hz (by rw [sizeLine_eq]; omega)) (fun p hp => by
      obtain ⟨q, hq, e⟩ := tbT_mem hp
      rw [← e]
      exact hT q hq) hS nT (hlaw ns hz)
  · obtain ⟨fD2, hF2, hP2⟩ := base b
    have e := funD_eq F (hF2 i d hd)
    rw [e]
    have k := fn_all (hP2 TB) n i d hd (fun _ => none) (fun _ _ => rfl)
    rw [hps] at k
    exact k
end Zs
end

/-! Fp -/
noncomputable section
namespace Zs
open PySem PySem.Spec L2
open PyProof.Rows hiding St
open Classical

/-! ## running by hand -/
/-- it ends with a value, of which Q -/
def Wp {α : Type} (r : R α) (Q : α → HP → Prop) : Prop := match r with
  | .ok a h => Q a h
  | _ => False
theorem wp_ok {α : Type} {a : α} {h : HP} {Q : α → HP → Prop} : Wp (.ok a h) Q ↔ Q a h := Iff.rfl
theorem wp_bad {α : Type} {Q : α → HP → Prop} : Wp (.bad : R α) Q ↔ False := Iff.rfl
theorem wp_bnd {α β : Type} {r : R α} {f : α → HP → R β} {Q : β → HP → Prop} : Wp (r.bnd f) Q ↔ Wp r fun a h => Wp (f a h) Q := by cases r <;> exact Iff.rfl
theorem Wp.imp {α : Type} {r : R α} {Q Q' : α → HP → Prop} (h : Wp r Q) (i : ∀ a h', Q a h' → Q' a h') : Wp r Q' := by
  cases r with
  | ok a h' => exact i a h' h
  | _ => exact h
theorem Wp.ex {α : Type} {r : R α} {Q : α → HP → Prop} (h : Wp r Q) : ∃ a h', r = .ok a h' ∧ Q a h' := by
  cases r with
  | ok a h' => exact ⟨a, h', rfl, h⟩
  | _ => exact h.elim
theorem Wp.of {α : Type} {r : R α} {Q : α → HP → Prop} {a : α} {h : HP} (e : r = .ok a h) (q : Q a h) : Wp r Q := by rw [e]; exact q
/-- expressions -/
theorem wp_lift {α : Type} {ρ : Env'} {r : R α} {f : α → HP → R Fl} {Q : Fl → HP → Prop} (h : Wp r fun a h => Wp (f a h) Q) : Wp (lift ρ r f) Q := by
  cases r with
  | ok a h' => exact h
  | _ => exact h.elim
theorem lift_ok {α : Type} {ρ : Env'} {a : α} {h : HP} {f : α → HP → R Fl} : lift ρ (.ok a h) f = f a h := rfl
theorem bnd_ok {α β : Type} {a : α} {h : HP} {f : α → HP → R β} : (R.ok a h).bnd f = f a h := rfl
theorem wp_seq {a b : SM} {ρ : Env'} {h : HP} {Q : Fl → HP → Prop} (w : Wp (a ρ h) fun f h1 => match f with
    | .nx ρ1 => Wp (b ρ1 h1) Q
    | f => Q f h1) : Wp (sSq a b ρ h) Q := by
  show Wp (match a ρ h with
    | .ok (.nx ρ1) h1 => b ρ1 h1
    | r => r) Q
  cases e : a ρ h with
  | ok f h1 =>
    rw [e] at w
    cases f with
    | nx ρ1 => exact w
    | brk ρ1 => exact w
    | ret d => exact w
    | exc c v ρ1 => exact w
  | exc c v h1 => rw [e] at w; exact w.elim
  | bad => rw [e] at w; exact w.elim
theorem seq_ok {a b : SM} {ρ ρ1 : Env'} {h h1 : HP} (e : a ρ h = .ok (.nx ρ1) h1) : sSq a b ρ h = b ρ1 h1 := by
  unfold sSq; rw [e]
theorem seq_ret {a b : SM} {ρ : Env'} {d : D} {h h1 : HP} (e : a ρ h = .ok (.ret d) h1) : sSq a b ρ h = .ok (.ret d) h1 := by
  unfold sSq; rw [e]
/-! ### ends -/
theorem okOld_refl {h : HP} : okOld h h := ⟨Nat.le_refl _, fun _ _ _ e => .inl e⟩
theorem frz_flat {n k : Nat} {h : HP} {d : D} (e : nn n d = true) : frz n h k d = some d := by
  cases k <;> (unfold frz; rw [if_pos e])
theorem fin_flat {h h' : HP} {d : D} {k : Nat} (o : okOld h h') (e : nn h.length d = true) : fin false k h d h' = .ok d (h'.take h.length) := by
  show (if okOld h h' then (match frz h.length h' k d with
    | some d' => R.ok d' (h'.take h.length)
    | none => .bad) else .bad) = _
  rw [if_pos o, frz_flat e]
theorem fin_same {h : HP} {d : D} {k : Nat} (e : nn h.length d = true) : fin false k h d h = .ok d h := by
  rw [fin_flat okOld_refl e, List.take_length]
theorem runD_ret {k n : Nat} {m : SM} {ds : List D} {h h' : HP} {d : D} (e : m (startE n ds) h = .ok (.ret d) h') (o : okOld h h') (f : nn h.length d = true) : runD false k n m ds h = .ok d (h'.take h.length) := by
  unfold runD; rw [e]; exact fin_flat o f
theorem runD_same {k n : Nat} {m : SM} {ds : List D} {h : HP} {d : D} (e : m (startE n ds) h = .ok (.ret d) h) (f : nn h.length d = true) : runD false k n m ds h = .ok d h := by
  unfold runD; rw [e]; exact fin_same f
theorem startE_at {n : Nat} {ds : List D} {i : Nat} {d : D} (e : ds[i]? = some d) : (startE n ds)[i]? = some (some d) := by
  unfold startE
  rw [List.getElem?_append_left (by simpa using (List.getElem?_eq_some_iff.mp e).1), List.getElem?_map, e]; rfl
theorem eV_at {ρ : Env'} {i : Nat} {d : D} {h : HP} (e : ρ[i]? = some (some d)) : eV i ρ h = .ok d h := by
  unfold eV; rw [e]
/-! ### [e for x in xs] -/
theorem lcM_map {t : GM} {c : TM} {e : EM} {chk : HP → Prop} {ρ : Env'} {h : HP} (p : D → Bool) (f : D → D) (hc : chk h) : ∀ (xs acc : List D), (∀ d ∈ xs, ∃ ρ1, t d ρ h = .ok ρ1 h ∧ c ρ1 h = .ok (p d) h ∧ (p d = true → e ρ1 h = .ok (f d) h)) → acc.length + xs.length ≤ sizeLine →
    lcM t c e chk ρ xs acc h = .ok (acc ++ (xs.filter p).map f) h
  | [], acc, _, _ => by
    unfold lcM; rw [if_pos hc]; simp
  | d :: r, acc, hx, hz => by
    obtain ⟨ρ1, h1, h2, h3⟩ := hx d List.mem_cons_self
    have hr : ∀ d' ∈ r, ∃ ρ1, t d' ρ h = .ok ρ1 h ∧ c ρ1 h = .ok (p d') h ∧ (p d' = true → e ρ1 h = .ok (f d') h) := fun d' hd => hx d' (List.mem_cons_of_mem _ hd)
    rw [List.length_cons] at hz
    unfold lcM
    rw [if_pos hc, h1]
    try dsimp only
    rw [h2]
    try dsimp only
    cases q : p d with
    | true =>
      simp only []
      rw [h3 q]
      try dsimp only
      rw [if_pos (by omega), lcM_map p f hc r (acc ++ [f d]) hr (by rw [List.length_append, List.length_singleton]; omega), List.filter_cons_of_pos q, List.map_cons, List.append_assoc]
      rfl
    | false =>
      simp only []
      rw [lcM_map p f hc r acc hr (by omega), List.filter_cons_of_neg (by rw [q]; exact Bool.noConfusion)]
/-- the same without a test, of a list that nobody writes -/
theorem eLc_map {it : IM} {t : GM} {e : EM} {vs : List Nat} {ρ : Env'} {h : HP} {m : Itm} (f : D → D) (hi : it ρ h = .ok m h) (hc : m.chk h) (hx : ∀ d ∈ m.xs, ∃ ρ1, t d (wipeE ρ vs) h = .ok ρ1 h ∧ e ρ1 h = .ok (f d) h) (hz : m.xs.length ≤ sizeLine) :
    eLc false it t tYe e vs ρ h = .ok (.lst (m.xs.map f)) h := by
  unfold eLc
  rw [hi, bnd_ok, lcM_map (fun _ => true) f hc m.xs [] (fun d hd => by
    obtain ⟨ρ1, h1, h2⟩ := hx d hd
    exact ⟨ρ1, h1, rfl, fun _ => h2⟩) (by simpa using hz), bnd_ok, List.filter_eq_self.mpr fun _ _ => rfl]
  rfl
/-- with what changes in the heap: each turn keeps I -/
theorem lcM_inv {t : GM} {e : EM} {chk : HP → Prop} {ρ : Env'} (I : Nat → HP → Prop) (P : D → Prop) (hc : ∀ k h, I k h → chk h) (M : Nat) : ∀ (xs acc : List D) (k : Nat) (h : HP), k + xs.length ≤ M → I k h → (∀ d ∈ xs, ∀ k h, k < M → I k h → Wp (t d ρ h) fun ρ1 h1 => Wp (e ρ1 h1) fun y h2 => P y ∧ I (k + 1) h2) → (∀ y ∈ acc, P y) → acc.length + xs.length ≤ sizeLine →
    Wp (lcM t tYe e chk ρ xs acc h) fun ys h' => ys.length = acc.length + xs.length ∧ (∀ y ∈ ys, P y) ∧ I (k + xs.length) h'
  | [], acc, k, h, _, i, _, ha, _ => by
    unfold lcM; rw [if_pos (hc k h i)]; exact ⟨rfl, ha, i⟩
  | d :: r, acc, k, h, hM, i, hx, ha, hz => by
    rw [List.length_cons] at hz hM
    unfold lcM
    rw [if_pos (hc k h i)]
    obtain ⟨ρ1, h1, e1, w1⟩ := (hx d List.mem_cons_self k h (by omega) i).ex
    obtain ⟨y, h2, e2, py, i2⟩ := w1.ex
    rw [e1]
    dsimp only
    show Wp (match e ρ1 h1 with
      | .ok y h3 => if acc.length < sizeLine then lcM t tYe e chk ρ r (acc ++ [y]) h3 else .bad
      | _ => .bad) _
    rw [e2]
    dsimp only
    rw [if_pos (by omega)]
    refine (lcM_inv I P hc M r (acc ++ [y]) (k + 1) h2 (by omega) i2 (fun d hd => hx d (List.mem_cons_of_mem _ hd)) (fun z hz => (List.mem_append.mp hz).elim (ha z) fun q => by rw [List.mem_singleton] at q; rw [q]; exact py) (by rw [List.length_append, List.length_singleton]; omega)).imp fun ys h' ⟨q1, q2, q3⟩ => ⟨by rw [q1, List.length_append, List.length_singleton, List.length_cons]; omega, q2, ?_⟩
    rw [List.length_cons]
    have ek : k + 1 + r.length = k + (r.length + 1) := by omega
    rw [← ek]; exact q3
/-- a for, each turn keeping I -/
theorem forM_inv {t : GM} {b : SM} {chk : HP → Prop} (I : Nat → Env' → HP → Prop) (Q : Fl → HP → Prop) (hc : ∀ k ρ h, I k ρ h → chk h) (M : Nat) : ∀ (xs : List D) (k : Nat) (ρ : Env') (h : HP), k + xs.length ≤ M → I k ρ h → (∀ d ∈ xs, ∀ k ρ h, k < M → I k ρ h → Wp (t d ρ h) fun ρ1 h1 => Wp (b ρ1 h1) fun f h2 => match f with
      | .nx ρ2 => I (k + 1) ρ2 h2
      | .brk ρ2 => Q (.nx ρ2) h2
      | f => Q f h2) → (∀ ρ h, I (k + xs.length) ρ h → Q (.nx ρ) h) → Wp (forM t b chk xs ρ h) Q
  | [], k, ρ, h, _, i, _, hq => by
    unfold forM; rw [if_pos (hc k ρ h i)]; exact hq ρ h i
  | d :: r, k, ρ, h, hM, i, hx, hq => by
    rw [List.length_cons] at hM
    unfold forM
    rw [if_pos (hc k ρ h i)]
    obtain ⟨ρ1, h1, e1, w1⟩ := (hx d List.mem_cons_self k ρ h (by omega) i).ex
    obtain ⟨f, h2, e2, w2⟩ := w1.ex
    rw [e1]
    dsimp only
    rw [e2]
    cases f with
    | nx ρ2 => exact forM_inv I Q hc M r (k + 1) ρ2 h2 (by omega) w2 (fun d hd => hx d (List.mem_cons_of_mem _ hd)) fun ρ h q => hq ρ h (by
        have ek : k + 1 + r.length = k + (d :: r).length := by rw [List.length_cons]; omega
        rw [← ek]; exact q)
    | brk ρ2 => exact w2
    | ret v => exact w2
    | exc c v ρ2 => exact w2
/-! ### pots -/
/-- the pot at j: at most c taken -/
def Pot (j c : Nat) (h : HP) : Prop := ∃ own mix cnt : Int, h[j]? = some (some (.lst [.int own, .int mix, .int cnt])) ∧ 0 ≤ own ∧ own < 10 ^ 300 ∧ 0 ≤ mix ∧ mix < 2 ^ 61 ∧ 0 ≤ cnt ∧ cnt ≤ c
/-- all but j as before -/
def But (j : Nat) (h h' : HP) : Prop := h'.length = h.length ∧ ∀ i, i ≠ j → h'[i]? = h[i]?
theorem But.refl {j : Nat} {h : HP} : But j h h := ⟨rfl, fun _ _ => rfl⟩
theorem But.trans {j : Nat} {h h1 h2 : HP} (a : But j h h1) (b : But j h1 h2) : But j h h2 := ⟨b.1.trans a.1, fun i z => (b.2 i z).trans (a.2 i z)⟩
theorem But.set {j : Nat} {h : HP} {o : Option O} : But j h (h.set j o) := ⟨by simp, fun i z => by rw [List.getElem?_set_ne (Ne.symm z)]⟩
theorem Pot.mono {j c c' : Nat} {h : HP} (p : Pot j c h) (l : c ≤ c') : Pot j c' h := by
  obtain ⟨own, mix, cnt, h1, h2, h3, h4, h5, h6, h7⟩ := p
  exact ⟨own, mix, cnt, h1, h2, h3, h4, h5, h6, by omega⟩
theorem Pot.at_ {j c : Nat} {h h' : HP} (p : Pot j c h) (e : h'[j]? = h[j]?) : Pot j c h' := by
  obtain ⟨own, mix, cnt, h1, h2⟩ := p
  exact ⟨own, mix, cnt, e.trans h1, h2⟩
theorem Pot.lt {j c : Nat} {h : HP} (p : Pot j c h) : j < h.length := by
  obtain ⟨own, mix, cnt, h1, h2⟩ := p
  exact (List.getElem?_eq_some_iff.mp h1).1
/-- the young forgotten, the pot moved -/
theorem But.old {j c : Nat} {h h' : HP} (b : But j h h') (p : Pot j c h') : okOld h h' := ⟨by rw [b.1]; exact Nat.le_refl _, fun i o hi e => by
  by_cases z : i = j
  · subst z
    obtain ⟨own, mix, cnt, h1, _⟩ := p
    rw [h1] at e; cases e
    exact .inr rfl
  · rw [b.2 i z] at e; exact .inl e⟩
theorem But.take {j : Nat} {h h' : HP} (b : But j h h') : h'.take h.length = h' := by rw [← b.1, List.take_length]
/-! ### the words, as simp reads them -/
section
variable {ρ : Env'} {h : HP}
@[simp] theorem w_ok {α β : Type} {a : α} {f : α → HP → R β} : (R.ok a h).bnd f = f a h := rfl
@[simp] theorem w_bad {α β : Type} {f : α → HP → R β} : (R.bad : R α).bnd f = .bad := rfl
@[simp] theorem w_lift {α : Type} {a : α} {f : α → HP → R Fl} : lift ρ (.ok a h) f = f a h := rfl
@[simp] theorem w_eC {d : D} : eC d ρ h = .ok d h := rfl
@[simp] theorem w_eV {i : Nat} : eV i ρ h = match ρ[i]? with
  | some (some d) => .ok d h
  | _ => .bad := rfl
@[simp] theorem w_e1 {f : D → HP → R D} {a : EM} : e1 f a ρ h = (a ρ h).bnd f := rfl
@[simp] theorem w_e2 {f : D → D → HP → R D} {a b : EM} : e2 f a b ρ h = (a ρ h).bnd fun x h1 => (b ρ h1).bnd fun y h2 => f x y h2 := rfl
@[simp] theorem w_aN : aN ρ h = .ok [] h := rfl
@[simp] theorem w_aC {a : EM} {r : AM} : aC a r ρ h = (a ρ h).bnd fun x h1 => (r ρ h1).bnd fun xs h2 => .ok (x :: xs) h2 := rfl
@[simp] theorem w_eA {f : List D → HP → R D} {a : AM} : eA f a ρ h = (a ρ h).bnd f := rfl
@[simp] theorem w_asB {b : Bool} : asB (.bl b) h = .ok b h := rfl
@[simp] theorem w_tV {a : EM} : tV a ρ h = (a ρ h).bnd asB := rfl
@[simp] theorem w_tN {a : TM} : tN a ρ h = (a ρ h).bnd fun b h1 => .ok (!b) h1 := rfl
@[simp] theorem w_tAn {a b : TM} : tAn a b ρ h = (a ρ h).bnd fun c h1 => bif c then b ρ h1 else .ok false h1 := rfl
@[simp] theorem w_tOr {a b : TM} : tOr' a b ρ h = (a ρ h).bnd fun c h1 => bif c then .ok true h1 else b ρ h1 := rfl
@[simp] theorem w_eIf {t : TM} {a b : EM} : eIf t a b ρ h = (t ρ h).bnd fun c h1 => bif c then a ρ h1 else b ρ h1 := rfl
@[simp] theorem w_eAn {a b : EM} : eAn a b ρ h = (a ρ h).bnd fun x h1 => (asB x h1).bnd fun c h2 => bif c then b ρ h2 else .ok (.bl false) h2 := rfl
@[simp] theorem w_eOr {a b : EM} : eOr a b ρ h = (a ρ h).bnd fun x h1 => (asB x h1).bnd fun c h2 => bif c then .ok (.bl true) h2 else b ρ h2 := rfl
@[simp] theorem w_eNo {a : EM} : eNo a ρ h = (a ρ h).bnd fun x h1 => (asB x h1).bnd fun c h2 => .ok (.bl (!c)) h2 := rfl
@[simp] theorem w_e2c {f f' : D → D → HP → R D} {a b c : EM} : e2c f f' a b c ρ h = (a ρ h).bnd fun x h1 => (b ρ h1).bnd fun y h2 => (f x y h2).bnd fun z h3 => (asB z h3).bnd fun k h4 =>
  bif k then (c ρ h4).bnd fun w h5 => f' y w h5 else .ok (.bl false) h4 := rfl
@[simp] theorem w_eCl {f : FSem} {np n m : Nat} {ix : List Nat} {a b : AM} : eCl f np n m ix a b ρ h = (a ρ h).bnd fun xs h1 => (b ρ h1).bnd fun zs h2 =>
  if xs.length = n ∧ zs.length = m ∧ (pickL ix (xs ++ zs)).length = np then f (pickL ix (xs ++ zs)) h2 else .bad := rfl
@[simp] theorem w_sNx : sNx ρ h = .ok (.nx ρ) h := rfl
@[simp] theorem w_sSq {a b : SM} : sSq a b ρ h = match a ρ h with
  | .ok (.nx ρ1) h1 => b ρ1 h1
  | r => r := rfl
@[simp] theorem w_sEx {a : EM} : sEx a ρ h = lift ρ (a ρ h) fun _ h1 => .ok (.nx ρ) h1 := rfl
@[simp] theorem w_sRe {a : EM} : sRe a ρ h = lift ρ (a ρ h) fun d h1 => .ok (.ret d) h1 := rfl
@[simp] theorem w_sIf {t : TM} {a b : SM} : sIf t a b ρ h = lift ρ (t ρ h) fun c h1 => bif c then a ρ h1 else b ρ h1 := rfl
@[simp] theorem w_sAs {a : EM} {t : GM} : sAs a t ρ h = lift ρ (a ρ h) fun d h1 => match t d ρ h1 with
  | .ok ρ1 h2 => .ok (.nx ρ1) h2
  | _ => .bad := rfl
@[simp] theorem w_gN {i : Nat} {d : D} : gN i d ρ h = .ok (ρ.set i (some d)) h := rfl
@[simp] theorem w_tYe : tYe ρ h = .ok true h := rfl
@[simp] theorem w_pick0 {α : Type} {l : List α} : pickL [] l = [] := rfl
@[simp] theorem w_pickC {α : Type} {i : Nat} {ix : List Nat} {l : List α} : pickL (i :: ix) l = match l[i]? with
  | some x => x :: pickL ix l
  | none => pickL ix l := by
  unfold pickL
  rw [List.filterMap_cons]
  cases l[i]? <;> rfl
@[simp] theorem w_lt {i j : Int} : bLtX (.int i) (.int j) h = .ok (.bl (decide (i < j))) h := rfl
@[simp] theorem w_le {i j : Int} : bLe (.int i) (.int j) h = .ok (.bl (decide (i ≤ j))) h := rfl
@[simp] theorem w_gt {i j : Int} : bGt (.int i) (.int j) h = .ok (.bl (decide (j < i))) h := rfl
@[simp] theorem w_ge {i j : Int} : bGe (.int i) (.int j) h = .ok (.bl (decide (j ≤ i))) h := rfl
@[simp] theorem w_addI {o : Bool} {i j : Int} : bAdd o (.int i) (.int j) h = .ok (.int (i + j)) h := rfl
@[simp] theorem w_bif {α : Type} {b : Bool} {x y : α} : (bif b then R.ok x h else R.ok y h) = .ok (bif b then x else y) h := by cases b <;> rfl
@[simp] theorem w_bifD {b x y : Bool} : (bif b then D.bl x else D.bl y) = .bl (bif b then x else y) := by cases b <;> rfl
@[simp] theorem w_bifI {b : Bool} {x y : Int} : (bif b then D.int x else D.int y) = .int (bif b then x else y) := by cases b <;> rfl
@[simp] theorem w_inS {neg : Bool} {c : Nat} {s : List Nat} : bIn2 neg (.str [c]) (.str s) h = .ok (.bl (xor neg (decide (c ∈ s)))) h := rfl
@[simp] theorem w_lenS {s : List Nat} : fLen [.str s] h = .ok (.int s.length) h := rfl
@[simp] theorem w_lenT {s : List D} : fLen [.tup s] h = .ok (.int s.length) h := rfl
@[simp] theorem w_lenL {s : List D} : fLen [.lst s] h = .ok (.int s.length) h := rfl
@[simp] theorem w_subI {i j : Int} : bSub (.int i) (.int j) h = .ok (.int (i - j)) h := by
  show (if CTrue i j then R.ok (D.int (i - j)) h else .bad) = _
  rw [if_pos (show CTrue i j from trivial)]
@[simp] theorem w_eqS {i j : List Nat} : bEq2 (.str i) (.str j) h = .ok (.bl (decide (i = j))) h := rfl
@[simp] theorem w_neS {i j : List Nat} : bNe2 (.str i) (.str j) h = .ok (.bl (!decide (i = j))) h := rfl
@[simp] theorem w_eqI {i j : Int} : bEq2 (.int i) (.int j) h = .ok (.bl (decide (i = j))) h := rfl
@[simp] theorem w_neI {i j : Int} : bNe2 (.int i) (.int j) h = .ok (.bl (!decide (i = j))) h := rfl
@[simp] theorem w_eqB {i j : Bool} : bEq2 (.bl i) (.bl j) h = .ok (.bl (decide (i = j))) h := rfl
@[simp] theorem w_neB {i j : Bool} : bNe2 (.bl i) (.bl j) h = .ok (.bl (!decide (i = j))) h := rfl
@[simp] theorem w_isN {neg : Bool} {x : D} : bIs neg x .non h = .ok (.bl (xor neg (isNon x))) h := rfl
@[simp] theorem w_isB {neg a b : Bool} : bIs neg (.bl a) (.bl b) h = .ok (.bl (xor neg (decide (a = b)))) h := rfl
@[simp] theorem w_isi {x : D} {b : Ty} : fIsi [x, .ty b] h = match tyOfD x h with
  | some a => .ok (.bl (isiT a b)) h
  | none => .bad := rfl
end
/-- a value that names no open object, whose type is told -/
def okV : D → Bool
  | .ref _ => false
  | .ty _ => false
  | .cls _ => false
  | .exc _ _ => false
  | .fn _ _ => false
  | d => nn 0 d
mutual
theorem nn_mono {n m : Nat} (l : n ≤ m) : ∀ d, nn n d = true → nn m d = true
  | .non, _ => rfl
  | .bl _, _ => rfl
  | .int _, _ => rfl
  | .str _, _ => rfl
  | .tup xs, e => nnL_mono l xs e
  | .kt xs, e => nnL_mono l xs e
  | .lst xs, e => nnL_mono l xs e
  | .scr xs, e => nnL_mono l xs e
  | .dct xs, e => nnP_mono l xs e
  | .ref i, e => decide_eq_true (Nat.lt_of_lt_of_le (of_decide_eq_true e) l)
  | .ty _, _ => rfl
  | .cls _, _ => rfl
  | .exc _ v, e => nn_mono l v e
  | .fn _ _, _ => rfl
theorem nnL_mono {n m : Nat} (l : n ≤ m) : ∀ d, nnL n d = true → nnL m d = true
  | [], _ => rfl
  | x :: r, e => Bool.and_eq_true_iff.mpr ⟨nn_mono l x (Bool.and_eq_true_iff.mp e).1, nnL_mono l r (Bool.and_eq_true_iff.mp e).2⟩
theorem nnQ_mono {n m : Nat} (l : n ≤ m) : ∀ d, nnQ n d = true → nnQ m d = true
  | (a, b), e => Bool.and_eq_true_iff.mpr ⟨nn_mono l a (Bool.and_eq_true_iff.mp e).1, nn_mono l b (Bool.and_eq_true_iff.mp e).2⟩
theorem nnP_mono {n m : Nat} (l : n ≤ m) : ∀ d, nnP n d = true → nnP m d = true
  | [], _ => rfl
  | x :: r, e => Bool.and_eq_true_iff.mpr ⟨nnQ_mono l x (Bool.and_eq_true_iff.mp e).1, nnP_mono l r (Bool.and_eq_true_iff.mp e).2⟩
end
theorem okV_nn {d : D} (e : okV d = true) (n : Nat) : nn n d = true := by
  refine nn_mono (Nat.zero_le n) d ?_
  cases d <;> first | exact e | cases e
theorem nnL_all {n : Nat} : ∀ {xs : List D}, nnL n xs = true ↔ ∀ x ∈ xs, nn n x = true
  | [] => ⟨fun _ x hx => absurd hx (by simp), fun _ => rfl⟩
  | x :: r => by
    show (nn n x && nnL n r) = true ↔ _
    rw [Bool.and_eq_true, nnL_all (xs := r), List.forall_mem_cons]
/-- all([f(x) for x in xs]) -/
theorem all_map {α : Type} {it : IM} {t : GM} {e : EM} {vs : List Nat} {ρ : Env'} {h : HP} {s : List α} {m : Itm} (em : α → D) (f : α → Bool) (hi : it ρ h = .ok m h) (hm : m.xs = s.map em) (hc : m.chk h) (hz : s.length ≤ sizeLine) (hx : ∀ c ∈ s, ∃ ρ1, t (em c) (wipeE ρ vs) h = .ok ρ1 h ∧ e ρ1 h = .ok (.bl (f c)) h) :
    ∃ ys, eLc false it t tYe e vs ρ h = .ok (.lst ys) h ∧ (∀ h', fAll [.lst ys] h' = .ok (.bl (s.all f)) h') ∧ ∀ h', fAny [.lst ys] h' = .ok (.bl (s.any f)) h' := by
  have key : ∀ (xs : List α) (acc : List D), (∀ c ∈ xs, c ∈ s) → acc.length + xs.length ≤ sizeLine → lcM t tYe e m.chk (wipeE ρ vs) (xs.map em) acc h = .ok (acc ++ xs.map fun c => D.bl (f c)) h := by
    intro xs
    induction xs with
    | nil =>
      intro acc _ _
      show (if m.chk h then _ else _) = _
      rw [if_pos hc]; simp
    | cons c xs ih =>
      intro acc hs hz
      obtain ⟨ρ1, h1, h2⟩ := hx c (hs c List.mem_cons_self)
      rw [List.length_cons] at hz
      rw [List.map_cons]
      unfold lcM
      rw [if_pos hc, h1]
      simp only [w_tYe]
      rw [h2]
      simp only []
      rw [if_pos (by omega), ih _ (fun d hd => hs d (List.mem_cons_of_mem _ hd)) (by rw [List.length_append, List.length_singleton]; omega)]
      simp
  have eb : ∀ xs : List α, blsOf (xs.map fun c => D.bl (f c)) = some (xs.map f) := by
    intro xs
    induction xs with
    | nil => rfl
    | cons c xs ih =>
      show (blsOf _).map (f c :: ·) = _
      rw [ih]; rfl
  refine ⟨s.map fun c => D.bl (f c), ?_, fun h' => ?_, fun h' => ?_⟩
  · unfold eLc
    rw [hi, bnd_ok, hm, key s [] (fun _ z => z) (by simpa using hz)]
    rfl
  · simp only [fAll, lrOf, lsOf, eb, List.all_map]; rfl
  · simp only [fAny, lrOf, lsOf, eb, List.any_map]; rfl
end Zs
end

/-! Fq -/
set_option exponentiation.threshold 9000
noncomputable section
namespace Zs
open PySem PySem.Spec L2
open PyProof.Rows hiding St
open Classical

/-! ## the draws, alike in every law -/
def takeS (c1 c2 c3 c4 c5 : Int) : SM := (sSq (sIf (tV (e2 bGt (e2 bIx2 (eV 0) (eC (.int (0)))) (eC (.int (0))))) (sSq (sAs (e2 bMod (eA fInt2 (aC (e2 bIx2 (eV 0) (eC (.int (0)))) aN)) (eV 1)) (gN 2))
  (sSq (sAs (e2 bFd (e2 bIx2 (eV 0) (eC (.int (0)))) (eV 1)) (gS2 (eV 0) (eC (.int (0)))))
  (sSq (sRe (eV 2))
  sNx))) sNx)
  (sSq (sAs (e2 (bAdd false) (e2 bIx2 (eV 0) (eC (.int (2)))) (eC (.int (1)))) (gS2 (eV 0) (eC (.int (2)))))
  (sSq (sAs (e2 bIx2 (eA (fLst false) (aC (eC (.int (2147483647))) (aC (eC (.int (2147483629))) (aC (eC (.int (2147483587))) (aC (eC (.int (2147483579))) (aC (eC (.int (2147483563))) aN)))))) (e2 bMod (eA fInt2 (aC (e2 bIx2 (eV 0) (eC (.int (2)))) aN)) (eC (.int (5))))) (gN 3))
  (sSq (sAs (e2 bMod (eA fInt2 (aC (e2 bPow (eA fInt2 (aC (e2 (bAdd false) (e2 (bAdd false) (e2 bIx2 (eV 0) (eC (.int (1)))) (e2 bMul2 (e2 bMul2 (eC (.int (c1))) (e2 bIx2 (eV 0) (eC (.int (2))))) (e2 bIx2 (eV 0) (eC (.int (2)))))) (eC (.int (c2)))) aN)) (eC (.int (3)))) aN)) (eV 3)) (gN 4))
  (sSq (sAs (e2 bMod (eA fInt2 (aC (e2 bMul2 (eV 4) (e2 (bAdd false) (e2 bMod (eA fInt2 (aC (eV 4) aN)) (eC (.int (c3)))) (e2 bMul2 (eC (.int (c4))) (e2 bIx2 (eV 0) (eC (.int (2))))))) aN)) (eC (.int (2305843009213693907)))) (gN 4))
  (sSq (sRe (e2 bMod (eA fInt2 (aC (e2 bFd (eV 4) (eC (.int (c5)))) aN)) (eV 1)))
  sNx))))))
section
variable {h : HP} {ρ : Env'}
theorem dcOf_sq {x : D} {xs : List D} (e : sqOf x h = some xs) : dcOf x h = none := by
  cases x <;> first | rfl | (cases e; done) | skip
  rename_i i
  show (match h[i]? with
    | some (some (.dct xs)) => some xs
    | _ => none) = none
  have e : (match h[i]? with
    | some (some (.lst xs)) => some xs
    | _ => none) = some xs := e
  split at e
  · rename_i ys q; rw [q]
  · cases e
theorem bIx2_of {x y : D} (e : dcOf x h = none) : bIx2 x y h = bIx x y h := by unfold bIx2; rw [e]
theorem bIn2_of {neg : Bool} {x y : D} (e : dcOf y h = none) : bIn2 neg x y h = bIn neg x y h := by unfold bIn2; rw [e]
theorem setAt2_of {o i d : D} {k : Nat} {xs : List D} (e : opL o h = some (k, xs)) : setAt2 o i d h = setAt o i d h := by
  have : opD o h = none := by
    cases o <;> first | rfl | (cases e; done) | skip
    rename_i j
    show (match h[j]? with
      | some (some (.dct xs)) => some (j, xs)
      | _ => none) = none
    have e : (match h[j]? with
      | some (some (.lst xs)) => some (j, xs)
      | _ => none) = some (k, xs) := e
    split at e
    · rename_i ys q; rw [q]
    · cases e
  unfold setAt2; rw [this]
theorem pot_ix {j : Nat} {a b c : D} {h : HP} (e : h[j]? = some (some (.lst [a, b, c]))) : bIx2 (.ref j) (.int 0) h = .ok a h ∧ bIx2 (.ref j) (.int 1) h = .ok b h ∧ bIx2 (.ref j) (.int 2) h = .ok c h := by
  have es : sqOf (.ref j) h = some [a, b, c] := by
    show (match h[j]? with
      | some (some (.lst xs)) => some xs
      | _ => none) = _
    rw [e]
  refine ⟨?_, ?_, ?_⟩ <;> (rw [bIx2_of (dcOf_sq es)]; unfold bIx; simp only [es]; rfl)
theorem pot_set {j : Nat} {a b c d : D} {h : HP} (e : h[j]? = some (some (.lst [a, b, c]))) : setAt2 (.ref j) (.int 0) d h = some (h.set j (some (.lst [d, b, c]))) ∧ setAt2 (.ref j) (.int 2) d h = some (h.set j (some (.lst [a, b, d]))) := by
  have eo : opL (.ref j) h = some (j, [a, b, c]) := by
    show (match h[j]? with
      | some (some (.lst xs)) => some (j, xs)
      | _ => none) = _
    rw [e]
  constructor <;> (rw [setAt2_of eo]; unfold setAt; simp only [eo]; rfl)
theorem m_mod {i j : Int} (z : j ≠ 0) : bMod (.int i) (.int j) h = .ok (.int (i.fmod j)) h := by
  show (if CNz i j then R.ok (D.int (i.fmod j)) h else .bad) = _
  rw [if_pos (show CNz i j from z)]
theorem m_fd {i j : Int} (z : j ≠ 0) (l : j.natAbs < 2 ^ 8000) : bFd (.int i) (.int j) h = .ok (.int (i.fdiv j)) h := by
  show (if CFd i j then R.ok (D.int (i.fdiv j)) h else .bad) = _
  rw [if_pos (show CFd i j from ⟨z, Nat.lt_of_lt_of_le (PySem.Flt.log2_lt_of (by decide) l) (by decide)⟩)]
theorem m_mul {i j : Int} (z : IntMulOk i j) : bMul2 (.int i) (.int j) h = .ok (.int (i * j)) h := by
  show (if IntMulOk i j then R.ok (D.int (i * j)) h else .bad) = _
  rw [if_pos z]
theorem mul_l {i j : Int} (h1 : -(2 ^ 64) < i) (h2 : i < 2 ^ 64) : IntMulOk i j := IntMulOk.of_left (intBits_le_64 h1 h2)
theorem mul_r {i j : Int} (h1 : -(2 ^ 64) < j) (h2 : j < 2 ^ 64) : IntMulOk i j := IntMulOk.of_right (intBits_le_64 h1 h2)
theorem m_pow {i : Int} {n k : Nat} (l : i.natAbs < 2 ^ k) (z : k * n ≤ 2 ^ 27) : bPow (.int i) (.int (n : Int)) h = .ok (.int (i ^ n)) h := by
  have hb := intBits_le l
  have hc : CPw i (n : Int) := ⟨Int.natCast_nonneg n, by
    have : Builtin.Int.intBits i * n ≤ 2 ^ 27 := Nat.le_trans (Nat.mul_le_mul_right n hb) z
    have h2 : ((Builtin.Int.intBits i * n : Nat) : Int) ≤ ((2 ^ 27 : Nat) : Int) := Int.ofNat_le.mpr this
    simpa using h2⟩
  show (if CPw i n then R.ok (D.int (i ^ (n : Int).toNat)) h else .bad) = _
  rw [if_pos hc]
  rfl
theorem int1 {i : Int} : fInt2 [.int i] h = .ok (.int i) h := rfl
theorem fmod_lt {a b : Int} (h : 0 < b) : 0 ≤ a.fmod b ∧ a.fmod b < b := ⟨Int.fmod_nonneg_of_pos a h, Int.fmod_lt_of_pos a h⟩
theorem natAbs_lt {a : Int} {n : Nat} (h0 : 0 ≤ a) (h1 : a < ((n : Nat) : Int)) : a.natAbs < n := by omega
theorem line5 : 5 ≤ sizeLine := by rw [sizeLine_eq]; omega
theorem take_run {c1 c2 c3 c4 c5 : Int} (k1 : 0 ≤ c1 ∧ c1 < 2 ^ 20) (k2 : 0 ≤ c2 ∧ c2 < 2 ^ 20) (k3 : 0 < c3 ∧ c3 < 2 ^ 20) (k4 : 0 ≤ c4 ∧ c4 < 2 ^ 20) (k5 : 0 < c5 ∧ c5 < 2 ^ 20) {j c : Nat} {u : Int} (hc : c < 2 ^ 40) (hu : 0 < u) (hu2 : u < 2 ^ 60) (p : Pot j c h) :
    ∃ (i : Int) (h' : HP) (ρ' : Env'), takeS c1 c2 c3 c4 c5 [some (.ref j), some (.int u), none, none, none] h = .ok (.ret (.int i)) h' ∧ 0 ≤ i ∧ i < u ∧ Pot j (c + 1) h' ∧ But j h h' := by
  obtain ⟨own, mix, cnt, e, o1, o2, m1, m2, n1, n2⟩ := p
  obtain ⟨x0, x1, x2⟩ := pot_ix e
  have hj : j < h.length := (List.getElem?_eq_some_iff.mp e).1
  have hcnt : cnt < 2 ^ 40 := by
    have : ((c : Nat) : Int) < ((2 ^ 40 : Nat) : Int) := Int.ofNat_lt.mpr hc
    simp at this; omega
  unfold takeS
  by_cases hp : 0 < own
  · have hu8 : u.natAbs < 2 ^ 8000 := Nat.lt_of_lt_of_le (natAbs_lt (n := 2 ^ 60) (by omega) (by simpa using hu2)) (Nat.pow_le_pow_right (by decide) (by decide))
    obtain ⟨s0, _⟩ := pot_set (d := .int (own.fdiv u)) e
    refine ⟨own.fmod u, h.set j (some (.lst [.int (own.fdiv u), .int mix, .int cnt])), [], ?_, (fmod_lt hu).1, (fmod_lt hu).2, ⟨own.fdiv u, mix, cnt, by rw [List.getElem?_set_self hj], ?_, ?_, m1, m2, n1, by omega⟩, But.set⟩
    · simp [x0, hp, m_mod (show u ≠ 0 by omega), m_fd (show u ≠ 0 by omega) hu8, gS2, s0, int1]
    · exact Int.fdiv_nonneg o1 (by omega)
    · exact Int.lt_of_le_of_lt (by
        rw [Int.fdiv_eq_ediv_of_nonneg _ (by omega)]
        exact Int.ediv_le_self _ o1) o2
  · have hc0 : 0 ≤ cnt + 1 := by omega
    have hc1 : cnt + 1 < 2 ^ 41 := by omega
    obtain ⟨_, s2⟩ := pot_set (d := .int (cnt + 1)) e
    have e' : (h.set j (some (.lst [.int own, .int mix, .int (cnt + 1)])))[j]? = some (some (.lst [.int own, .int mix, .int (cnt + 1)])) := List.getElem?_set_self hj
    obtain ⟨y0, y1, y2⟩ := pot_ix e'
    generalize hh : h.set j (some (.lst [.int own, .int mix, .int (cnt + 1)])) = h' at *
    have hb : But j h h' := by rw [← hh]; exact But.set
    obtain ⟨r0, r1⟩ := fmod_lt (a := cnt + 1) (b := 5) (by decide)
    obtain ⟨q, q0, q1, q2⟩ : ∃ q : Int, bIx2 (.lst [.int 2147483647, .int 2147483629, .int 2147483587, .int 2147483579, .int 2147483563]) (.int ((cnt + 1).fmod 5)) h' = .ok (.int q) h' ∧ 0 < q ∧ q < 2 ^ 31 := by
      have : (cnt + 1).fmod 5 = 0 ∨ (cnt + 1).fmod 5 = 1 ∨ (cnt + 1).fmod 5 = 2 ∨ (cnt + 1).fmod 5 = 3 ∨ (cnt + 1).fmod 5 = 4 := by omega
      rcases this with z | z | z | z | z <;> rw [z] <;> exact ⟨_, rfl, by decide, by decide⟩
    have w1 : 0 ≤ c1 * (cnt + 1) := Int.mul_nonneg k1.1 hc0
    have w2 : c1 * (cnt + 1) ≤ 2 ^ 20 * 2 ^ 41 := Int.mul_le_mul (by omega) (by omega) hc0 (by decide)
    have w3 : 0 ≤ c1 * (cnt + 1) * (cnt + 1) := Int.mul_nonneg w1 hc0
    have w4 : c1 * (cnt + 1) * (cnt + 1) ≤ 2 ^ 20 * 2 ^ 41 * 2 ^ 41 := Int.mul_le_mul w2 (by omega) hc0 (by decide)
    have w5 : (mix + c1 * (cnt + 1) * (cnt + 1) + c2).natAbs < 2 ^ 110 := natAbs_lt (by omega) (by omega)
    obtain ⟨b0, b1⟩ := fmod_lt (a := (mix + c1 * (cnt + 1) * (cnt + 1) + c2) ^ 3) q1
    generalize hB : ((mix + c1 * (cnt + 1) * (cnt + 1) + c2) ^ 3).fmod q = B at b0 b1
    have p1 : bPow (.int (mix + c1 * (cnt + 1) * (cnt + 1) + c2)) (.int 3) h' = .ok (.int ((mix + c1 * (cnt + 1) * (cnt + 1) + c2) ^ 3)) h' := m_pow (n := 3) w5 (by decide)
    have hB2 : B.fmod c3 + c4 * (cnt + 1) = B.fmod c3 + c4 * (cnt + 1) := rfl
    generalize hC : (B * (B.fmod c3 + c4 * (cnt + 1))).fmod 2305843009213693907 = C
    have hc5 : c5.natAbs < 2 ^ 8000 := Nat.lt_of_lt_of_le (natAbs_lt (n := 2 ^ 20) (by omega) (by simpa using k5.2)) (Nat.pow_le_pow_right (by decide) (by decide))
    refine ⟨(C.fdiv c5).fmod u, h', [], ?_, (fmod_lt hu).1, (fmod_lt hu).2, ⟨own, mix, cnt + 1, e', o1, o2, m1, m2, by omega, by omega⟩, hb⟩
    simp [x0, x2, hp, gS2, s2, y1, y2, int1, m_mod (show (5 : Int) ≠ 0 by decide), fLst, mkL, line5, q0, m_mul (mul_l (j := cnt + 1) (show -(2 ^ 64) < c1 by omega) (show c1 < 2 ^ 64 by omega)), m_mul (mul_r (i := c1 * (cnt + 1)) (show -(2 ^ 64) < cnt + 1 by omega) (show cnt + 1 < 2 ^ 64 by omega)), p1, m_mod (show q ≠ 0 by omega), hB, m_mod (show c3 ≠ 0 by omega),
      m_mul (mul_l (j := cnt + 1) (show -(2 ^ 64) < c4 by omega) (show c4 < 2 ^ 64 by omega)), m_mul (mul_l (j := B.fmod c3 + c4 * (cnt + 1)) (show -(2 ^ 64) < B by omega) (show B < 2 ^ 64 by omega)), m_mod (show (2305843009213693907 : Int) ≠ 0 by decide), hC, m_fd (show c5 ≠ 0 by omega) hc5, m_mod (show u ≠ 0 by omega)]
/-- the promises of the draws -/
def TakeOk (f : FSem) : Prop := ∀ (j c : Nat) (h : HP) (u : Int), Pot j c h → c < 2 ^ 40 → 0 < u → u < 2 ^ 60 → Wp (f [.ref j, .int u] h) fun d h' => ∃ i : Int, d = .int i ∧ 0 ≤ i ∧ i < u ∧ Pot j (c + 1) h' ∧ But j h h'
theorem take_ok {c1 c2 c3 c4 c5 : Int} (k1 : 0 ≤ c1 ∧ c1 < 2 ^ 20) (k2 : 0 ≤ c2 ∧ c2 < 2 ^ 20) (k3 : 0 < c3 ∧ c3 < 2 ^ 20) (k4 : 0 ≤ c4 ∧ c4 < 2 ^ 20) (k5 : 0 < c5 ∧ c5 < 2 ^ 20) {k : Nat} : TakeOk (runD false k 5 (takeS c1 c2 c3 c4 c5)) := fun j c h u p hc hu hu2 => by
  obtain ⟨i, h', ρ', e, i0, i1, p', b⟩ := take_run k1 k2 k3 k4 k5 hc hu hu2 p
  refine Wp.of (a := .int i) (h := h') ?_ ⟨i, rfl, i0, i1, p', b⟩
  rw [runD_ret e (b.old p') rfl, b.take]
def ofS (f : FSem) : SM := (sSq (sRe (e2 bIx2 (eV 1) (eCl f 2 2 0 [0, 1] (aC (eV 0) (aC (eA fLen (aC (eV 1) aN)) aN)) aN)))
  sNx)
def OfOk (f : FSem) : Prop := ∀ (j c : Nat) (h : HP) (s : D) (xs : List D), Pot j c h → c < 2 ^ 40 → sqOf s h = some xs → s ≠ .ref j → xs ≠ [] → xs.length < 2 ^ 60 → (∀ x ∈ xs, nn h.length x = true) → Wp (f [.ref j, s] h) fun d h' => d ∈ xs ∧ Pot j (c + 1) h' ∧ But j h h'
theorem sqOf_but {j : Nat} {h h' : HP} {s : D} (b : But j h h') (n : s ≠ .ref j) : sqOf s h' = sqOf s h := by
  cases s with
  | ref i =>
    have hi : i ≠ j := fun z => n (by rw [z])
    show (match h'[i]? with
      | some (some (.lst xs)) => some xs
      | _ => none) = _
    rw [b.2 i hi]; rfl
  | _ => rfl
theorem atI_nat {α : Type} {xs : List α} {i : Int} (h0 : 0 ≤ i) (h1 : i < xs.length) : ∃ x, L2.atI xs i = some x ∧ x ∈ xs := by
  have hl : i.toNat < xs.length := by omega
  refine ⟨xs[i.toNat], ?_, List.getElem_mem hl⟩
  unfold L2.atI ixN
  rw [if_pos h0, if_pos h1]
  simp [hl]
theorem bIx_sq {s : D} {xs : List D} {i : Int} {d : D} (e : sqOf s h = some xs) (a : L2.atI xs i = some d) : bIx2 s (.int i) h = .ok d h := by
  rw [bIx2_of (dcOf_sq e)]
  unfold bIx
  cases s <;> first | (cases e; done) | (simp only [e, a])
theorem fLen_sq {s : D} {xs : List D} (e : sqOf s h = some xs) : fLen [s] h = .ok (.int xs.length) h := by
  unfold fLen
  cases s <;> first | (cases e; done) | (simp only [e])
theorem of_ok {f : FSem} (t : TakeOk f) {k : Nat} : OfOk (runD false k 2 (ofS f)) := fun j c h s xs p hc es n ne hl hx => by
  have hpos : 0 < xs.length := List.length_pos_iff.mpr ne
  obtain ⟨d, h', e, i, rfl, i0, i1, p', b⟩ := (t j c h xs.length p hc (by omega) (by
    have : ((xs.length : Nat) : Int) < ((2 ^ 60 : Nat) : Int) := Int.ofNat_lt.mpr hl
    simpa using this)).ex
  obtain ⟨x, a, hm⟩ := atI_nat i0 i1
  have es' : sqOf s h' = some xs := by rw [sqOf_but b n, es]
  refine Wp.of (a := x) (h := h') ?_ ⟨hm, p', b⟩
  have e2 : ofS f [some (.ref j), some s] h = .ok (.ret x) h' := by
    unfold ofS
    simp [fLen_sq es, e, bIx_sq es' a]
  have e3 : runD false k 2 (ofS f) [.ref j, s] h = .ok x (h'.take h.length) := runD_ret (n := 2) e2 (b.old p') (hx x hm)
  rw [e3, b.take]
/-- a new pot -/
def potS (fb : EM) (c1 c2 c3 : Int) : SM := (sSq (sAs (eIf (tV (e2 bLtX (eV 1) (eA fLen (aC (eV 0) aN)))) (e2 bIx2 (eV 0) (eV 1)) fb) (gN 2))
  (sSq (sAs (e2 bMul2 (e2 bMod (eA fInt2 (aC (eA fAbs (aC (eV 2) aN)) aN)) (e2 bPow (e2 bPow (eC (.int (10))) (eC (.int (60)))) (eC (.int (5))))) (eA fInt2 (aC (e2 bGe (eA fAbs (aC (eV 2) aN)) (e2 bPow (eC (.int (10))) (eC (.int (18))))) aN))) (gN 3))
  (sSq (sAs (e2 bMod (eA fInt2 (aC (eV 2) aN)) (eC (.int (2305843009213693951)))) (gN 4))
  (sSq (sRe (eA (fLst true) (aC (eV 3) (aC (e2 bMod (eA fInt2 (aC (e2 (bAdd false) (e2 (bAdd false) (e2 bMul2 (eV 4) (eC (.int (c1)))) (e2 bMul2 (e2 bMul2 (eC (.int (c2))) (eV 1)) (eV 1))) (eC (.int (c3)))) aN)) (eC (.int (2305843009213693921)))) (aC (eC (.int (0))) aN)))))
  sNx))))
def fbA (a b c : Int) : EM := (e2 (bAdd false) (e2 (bAdd false) (e2 bMod (eA fSum (aC (eSl false (eV 0) oN (oS (eC (.int (1))))) aN)) (eC (.int (a)))) (e2 bMul2 (eC (.int (b))) (eV 1))) (eC (.int (c))))
def fbB (b c : Int) : EM := (e2 (bAdd false) (e2 bMul2 (eC (.int (b))) (eV 1)) (eC (.int (c))))
theorem intsOf_map : ∀ ns : List Int, intsOf (ns.map D.int) = some ns
  | [] => rfl
  | n :: ns => by
    show (intsOf (ns.map D.int)).map (n :: ·) = _
    rw [intsOf_map ns]; rfl
theorem fbA_ok {a b c p : Int} {ns : List Int} (ha : a ≠ 0) (hb : -(2 ^ 64) < b ∧ b < 2 ^ 64) : ∃ x : Int, fbA a b c [some (.scr (ns.map D.int)), some (.int p), none, none, none] h = .ok (.int x) h := by
  have e1 : fSl false (.scr (ns.map D.int)) none (some 1) h = .ok (.lst ((cutL ns none (some 1)).map D.int)) h := by
    show mkL false (cutL (ns.map D.int) none (some 1)) h = _
    unfold cutL mkL
    simp [List.map_take, List.map_drop]
  have e2 : fSum [.lst ((cutL ns none (some 1)).map D.int)] h = .ok (.int (cutL ns none (some 1)).sum) h := by
    simp only [fSum, lrOf, lsOf, intsOf_map]
  refine ⟨(cutL ns none (some 1)).sum.fmod a + b * p + c, ?_⟩
  unfold fbA
  simp [eSl, oN, oS, e1, e2, m_mod ha, m_mul (mul_l (j := p) hb.1 hb.2)]
theorem fbB_ok {b c p : Int} {ns : List Int} (hb : -(2 ^ 64) < b ∧ b < 2 ^ 64) : ∃ x : Int, fbB b c [some (.scr (ns.map D.int)), some (.int p), none, none, none] h = .ok (.int x) h := by
  refine ⟨b * p + c, ?_⟩
  unfold fbB
  simp [m_mul (mul_l (j := p) hb.1 hb.2)]
theorem three : 3 ≤ sizeLine := by rw [sizeLine_eq]; omega
theorem pot_run {fb : EM} {c1 c2 c3 p : Int} {ns : List Int} (hfb : ∃ x : Int, fb [some (.scr (ns.map D.int)), some (.int p), none, none, none] h = .ok (.int x) h) (k1 : 0 ≤ c1 ∧ c1 < 2 ^ 20) (k2 : 0 ≤ c2 ∧ c2 < 2 ^ 20) (hp : 0 ≤ p) (hp2 : p < 2 ^ 40) :
    ∃ o : Option O, potS fb c1 c2 c3 [some (.scr (ns.map D.int)), some (.int p), none, none, none] h = .ok (.ret (.ref h.length)) (h ++ [o]) ∧ Pot h.length 0 (h ++ [o]) := by
  obtain ⟨x, hx⟩ : ∃ x : Int, (eIf (tV (e2 bLtX (eV 1) (eA fLen (aC (eV 0) aN)))) (e2 bIx2 (eV 0) (eV 1)) fb) [some (.scr (ns.map D.int)), some (.int p), none, none, none] h = .ok (.int x) h := by
    by_cases z : p < (ns.length : Int)
    · obtain ⟨d, h1, h2⟩ := atI_nat (xs := ns.map D.int) hp (by simpa using z)
      obtain ⟨i, _, rfl⟩ := List.mem_map.mp h2
      have e1 : bIx2 (.scr (ns.map D.int)) (.int p) h = .ok (.int i) h := bIx_sq rfl h1
      exact ⟨i, by simp [fLen, sqOf, z, e1]⟩
    · obtain ⟨y, hy⟩ := hfb
      exact ⟨y, by simp [fLen, sqOf, z, hy]⟩
  have q1 : bPow (.int 10) (.int 60) h = .ok (.int (10 ^ 60)) h := m_pow (n := 60) (k := 4) (by decide) (by decide)
  have q2 : bPow (.int (10 ^ 60)) (.int 5) h = .ok (.int ((10 ^ 60) ^ 5)) h := m_pow (n := 5) (k := 200) (by decide) (by decide)
  have q3 : bPow (.int 10) (.int 18) h = .ok (.int (10 ^ 18)) h := m_pow (n := 18) (k := 4) (by decide) (by decide)
  generalize hA : (if x < 0 then -x else x) = A
  have hA' : fAbs [.int x] h = .ok (.int A) h := by rw [← hA]; rfl
  have hN : ((10 : Int) ^ 60) ^ 5 = 10 ^ 300 := by decide
  obtain ⟨a0, a1⟩ := fmod_lt (a := A) (b := 10 ^ 300) (by decide)
  obtain ⟨s0, s1⟩ := fmod_lt (a := x) (b := 2305843009213693951) (by decide)
  have hz : (10 : Int) ^ 300 ≠ 0 := by decide
  generalize hS : x.fmod 2305843009213693951 = S at s0 s1
  generalize hM : (S * c1 + c2 * p * p + c3).fmod 2305843009213693921 = M
  have m0 : 0 ≤ M ∧ M < 2305843009213693921 := by rw [← hM]; exact fmod_lt (by decide)
  obtain ⟨own, o0, o1, ho⟩ : ∃ own : Int, 0 ≤ own ∧ own < 10 ^ 300 ∧ bMul2 (.int (A.fmod (10 ^ 300))) (.int (if decide ((10 : Int) ^ 18 ≤ A) = true then 1 else 0)) h = .ok (.int own) h := by
    by_cases z : (10 : Int) ^ 18 ≤ A
    · rw [if_pos (decide_eq_true z)]
      exact ⟨_, by omega, by omega, m_mul (mul_r (by decide) (by decide))⟩
    · rw [if_neg (by simpa using z)]
      exact ⟨_, by omega, by omega, m_mul (mul_r (by decide) (by decide))⟩
  refine ⟨some (.lst [.int own, .int M, .int 0]), ?_, ⟨own, M, 0, by simp, o0, o1, m0.1, by omega, by omega, by omega⟩⟩
  have fb1 : fInt2 [.bl (decide ((10 : Int) ^ 18 ≤ A))] h = .ok (.int (if decide ((10 : Int) ^ 18 ≤ A) = true then 1 else 0)) h := rfl
  have r1 : bMod (.int A) (.int ((10 ^ 60) ^ 5)) h = .ok (.int (A.fmod (10 ^ 300))) h := by rw [hN]; exact m_mod hz
  have g1 : bGe (.int A) (.int (10 ^ 18)) h = .ok (.bl (decide ((10 : Int) ^ 18 ≤ A))) h := rfl
  have i1 : fInt2 [.int A] h = .ok (.int A) h := rfl
  have i2 : fInt2 [.int x] h = .ok (.int x) h := rfl
  have l1 := m_mul (h := h) (mul_l (i := S) (j := c1) (by omega) (by omega))
  have l2 := m_mul (h := h) (mul_l (i := c2) (j := p) (by omega) (by omega))
  have l3 := m_mul (h := h) (mul_r (i := c2 * p) (j := p) (by omega) (by omega))
  have md := m_mod (h := h) (i := S * c1 + c2 * p * p + c3) (show (2305843009213693921 : Int) ≠ 0 by decide)
  have mx := m_mod (h := h) (i := x) (show (2305843009213693951 : Int) ≠ 0 by decide)
  rw [hM] at md
  rw [hS] at mx
  have st1 : sAs (eIf (tV (e2 bLtX (eV 1) (eA fLen (aC (eV 0) aN)))) (e2 bIx2 (eV 0) (eV 1)) fb) (gN 2) [some (.scr (ns.map D.int)), some (.int p), none, none, none] h = .ok (.nx [some (.scr (ns.map D.int)), some (.int p), some (.int x), none, none]) h := by
    rw [w_sAs, hx]; rfl
  unfold potS
  rw [seq_ok st1]
  have st2 : sAs (e2 bMul2 (e2 bMod (eA fInt2 (aC (eA fAbs (aC (eV 2) aN)) aN)) (e2 bPow (e2 bPow (eC (.int (10))) (eC (.int (60)))) (eC (.int (5))))) (eA fInt2 (aC (e2 bGe (eA fAbs (aC (eV 2) aN)) (e2 bPow (eC (.int (10))) (eC (.int (18))))) aN))) (gN 3) [some (.scr (ns.map D.int)), some (.int p), some (.int x), none, none] h = .ok (.nx [some (.scr (ns.map D.int)), some (.int p), some (.int x), some (.int own), none]) h := by
    simp only [w_sAs, w_e2, w_eA, w_aC, w_aN, w_eC, w_eV, List.getElem?_cons_succ, List.getElem?_cons_zero, w_ok, hA', i1, q1, q2, q3, r1, g1, fb1, ho, w_lift, w_gN]
    rfl
  rw [seq_ok st2]
  have st3 : sAs (e2 bMod (eA fInt2 (aC (eV 2) aN)) (eC (.int (2305843009213693951)))) (gN 4) [some (.scr (ns.map D.int)), some (.int p), some (.int x), some (.int own), none] h = .ok (.nx [some (.scr (ns.map D.int)), some (.int p), some (.int x), some (.int own), some (.int S)]) h := by
    simp only [w_sAs, w_e2, w_eA, w_aC, w_aN, w_eC, w_eV, List.getElem?_cons_succ, List.getElem?_cons_zero, w_ok, i2, mx, w_lift, w_gN]
    rfl
  rw [seq_ok st3]
  refine seq_ret ?_
  have i3 : fInt2 [.int (S * c1 + c2 * p * p + c3)] h = .ok (.int (S * c1 + c2 * p * p + c3)) h := rfl
  simp only [w_sRe, w_e2, w_eA, w_aC, w_aN, w_eC, w_eV, List.getElem?_cons_succ, List.getElem?_cons_zero, w_ok, l1, l2, l3, w_addI, i3, md, w_lift, fLst, List.length_cons, List.length_nil]
  rw [if_pos three]
  rfl
/-- the places -/
def cellsS : SM := (sSq (sRe (eRgL1 false (eA fMax (aC (eC (.int (1))) (aC (eA fMin (aC (eV 1) (aC (eA fLen (aC (eV 0) aN)) aN))) aN)))))
  sNx)
theorem nnL_rg {n : Nat} {a b : Int} : nnL n (rgD a b) = true := nnL_all.mpr fun x hx => by
  obtain ⟨i, _, rfl⟩ := List.mem_map.mp hx
  rfl
theorem cells_ok {ns : List Int} {m : Int} (hn : ns.length ≤ 63) (hm : 1 ≤ m) (hm2 : m ≤ 63) {k : Nat} : ∃ t : Int, 1 ≤ t ∧ t ≤ 63 ∧ runD false k 2 cellsS [.scr (ns.map D.int), .int m] h = .ok (.lst (rgD 0 t)) h := by
  obtain ⟨t, t1, t2, ht⟩ : ∃ t : Int, 1 ≤ t ∧ t ≤ 63 ∧ ((if (if ((ns.length : Nat) : Int) < m then ((ns.length : Nat) : Int) else m) > 1 then (if ((ns.length : Nat) : Int) < m then ((ns.length : Nat) : Int) else m) else 1) : Int) = t := ⟨_, by split <;> omega, by split <;> split <;> omega, rfl⟩
  refine ⟨t, t1, t2, runD_same (n := 2) ?_ (by show nnL _ _ = true; exact nnL_rg)⟩
  have e1 : fMin [.int m, .int ((ns.length : Nat) : Int)] h = .ok (.int (if ((ns.length : Nat) : Int) < m then ((ns.length : Nat) : Int) else m)) h := rfl
  have e2 : fMax [.int 1, .int (if ((ns.length : Nat) : Int) < m then ((ns.length : Nat) : Int) else m)] h = .ok (.int t) h := by rw [← ht]; rfl
  have e3 : fRgL false (.int 0) (.int t) h = .ok (.lst (rgD 0 t)) h := by
    show (if RgOk 0 t then mkL false (rgD 0 t) h else .bad) = _
    rw [if_pos (RgOk.of_le (by decide) (by omega) (by decide) (by omega))]
    rfl
  have e4 : fLen [.scr (ns.map D.int)] h = .ok (.int ((ns.length : Nat) : Int)) h := by
    have := fLen_sq (h := h) (s := .scr (ns.map D.int)) rfl
    simpa using this
  show cellsS [some (.scr (ns.map D.int)), some (.int m)] h = _
  unfold cellsS eRgL1
  simp only [w_sSq, w_sRe, w_e1, w_eA, w_aC, w_aN, w_eC, w_eV, List.getElem?_cons_succ, List.getElem?_cons_zero, w_ok, e4, e1, e2, e3, w_lift]
/-! ### more words -/
def strsD (l : List (List Nat)) : List D := l.map D.str
theorem flat_strs : ∀ l : List (List Nat), (strsD l).all flatD = true
  | [] => rfl
  | x :: l => by
    show (flatD (.str x) && (strsD l).all flatD) = true
    rw [flat_strs l]; rfl
theorem any_strs (s : List Nat) : ∀ l : List (List Nat), ((strsD l).any fun z => eqF z (.str s)) = decide (s ∈ l)
  | [] => rfl
  | x :: l => by
    show (eqF (.str x) (.str s) || (strsD l).any fun z => eqF z (.str s)) = _
    rw [any_strs s l]
    show (decide (x = s) || decide (s ∈ l)) = decide (s ∈ x :: l)
    rw [Bool.eq_iff_iff, Bool.or_eq_true, decide_eq_true_eq, decide_eq_true_eq, decide_eq_true_eq, List.mem_cons]
    exact ⟨fun z => z.imp Eq.symm id, fun z => z.imp Eq.symm id⟩
theorem w_inStrs {neg : Bool} {s : List Nat} {y : D} {l : List (List Nat)} (e : sqOf y h = some (strsD l)) : bIn2 neg (.str s) y h = .ok (.bl (xor neg (decide (s ∈ l)))) h := by
  rw [bIn2_of (dcOf_sq e)]
  unfold bIn
  cases y <;> first | (cases e; done) | (simp only [e, flat_strs, any_strs]; rfl)
@[simp] theorem w_ix0 {c : Nat} {s : List Nat} : bIx2 (.str (c :: s)) (.int 0) h = .ok (.str [c]) h := by
  rw [bIx2_of rfl]
  unfold bIx
  have : L2.atI (c :: s) 0 = some c := by
    obtain ⟨x, e, _⟩ := atI_nat (xs := c :: s) (i := 0) (by decide) (by simp)
    rw [e]
    unfold L2.atI ixN at e
    simp at e
    rw [e]
  simp only [this]
theorem add_str {o : Bool} {s t : List Nat} (l : s.length + t.length ≤ sizeLine) : bAdd o (.str s) (.str t) h = .ok (.str (s ++ t)) h := by
  unfold bAdd
  simp only
  rw [if_pos l]
theorem split_str {o : Bool} {a b : List Nat} (l : b ≠ [] ∧ b.all (· < 256) = true ∧ a.length + 2 ≤ sizeLine) : mSplit o (.str a) [.str b] h = mkL o ((TL.spl b 0 [] a).map D.str) h := by
  unfold mSplit
  simp only
  rw [if_pos l]
theorem succ_of {n c : Nat} (h : c + 1 ≤ n) : ∃ m, n = m + 1 ∧ c ≤ m := ⟨n - 1, by omega, by omega⟩
end
end Zs
end

/-! Fr -/
noncomputable section
namespace Zs
open PySem PySem.Spec L2
open PyProof.Rows hiding St
open Classical

/-! ## running with draws -/
section
variable {ρ : Env'} {h : HP}
@[simp] theorem w_mkF {xs : List D} : mkL false xs h = .ok (.lst xs) h := rfl
@[simp] theorem w_mkT {xs : List D} : mkL true xs h = .ok (.ref h.length) (h ++ [some (.lst xs)]) := rfl
theorem line1000 {n : Nat} (l : n ≤ 1000) : n ≤ sizeLine := by rw [sizeLine_eq]; omega
@[simp] theorem w_fLst {o : Bool} {xs : List D} (l : xs.length ≤ 1000) : fLst o xs h = mkL o xs h := by
  unfold fLst; rw [if_pos (line1000 l)]
@[simp] theorem w_fTup {xs : List D} (l : xs.length ≤ 1000) : fTup xs h = .ok (.tup xs) h := by
  unfold fTup; rw [if_pos (line1000 l)]
@[simp] theorem w_eMt {c : D → HP → Bool} {f : D → List D → HP → R D} {a : EM} {r : AM} : eMt c f a r ρ h = (a ρ h).bnd fun x h1 => bif c x h1 then (r ρ h1).bnd fun xs h2 => f x xs h2 else .bad := rfl
@[simp] theorem w_iA {a : EM} : iA a ρ h = (a ρ h).bnd iAk := rfl
@[simp] theorem w_iR {a : AM} : iR a ρ h = (a ρ h).bnd iRk := rfl
@[simp] theorem w_sFo {it : IM} {t : GM} {b : SM} : sFo it t b ρ h = lift ρ (it ρ h) fun m h1 => forM t b m.chk m.xs ρ h1 := rfl
theorem iRk1 {j : Int} (h0 : 0 ≤ j) (h1 : j < 2 ^ 60) : iRk [.int j] h = .ok ⟨(List.range j.toNat).map fun i => D.int (0 + (i : Nat)), fun _ => True⟩ h := by
  show (if R62 j then _ else _) = _
  rw [if_pos (show R62 j from ⟨by omega, by omega⟩)]
end
/-- all before stays, but for j; more may have come -/
def ButL (j : Nat) (h h' : HP) : Prop := h.length ≤ h'.length ∧ ∀ i, i < h.length → i ≠ j → h'[i]? = h[i]?
theorem ButL.refl {j : Nat} {h : HP} : ButL j h h := ⟨Nat.le_refl _, fun _ _ _ => rfl⟩
theorem ButL.trans {j : Nat} {h h1 h2 : HP} (a : ButL j h h1) (b : ButL j h1 h2) : ButL j h h2 := ⟨Nat.le_trans a.1 b.1, fun i l z => (b.2 i (Nat.lt_of_lt_of_le l a.1) z).trans (a.2 i l z)⟩
theorem But.l {j : Nat} {h h' : HP} (b : But j h h') : ButL j h h' := ⟨by rw [b.1]; exact Nat.le_refl _, fun i _ z => b.2 i z⟩
theorem ButL.app {j : Nat} {h t : HP} : ButL j h (h ++ t) := ⟨by simp, fun i l _ => List.getElem?_append_left l⟩
theorem ButL.set {j i : Nat} {h0 h : HP} {o : Option O} (b : ButL j h0 h) (hi : h0.length ≤ i) : ButL j h0 (h.set i o) := ⟨by rw [List.length_set]; exact b.1, fun k l z => by
  rw [List.getElem?_set_ne (by omega)]; exact b.2 k l z⟩
theorem ButL.old {j c : Nat} {h h' : HP} (b : ButL j h h') (p : Pot j c h') : okOld h h' := ⟨b.1, fun i o hi e => by
  by_cases z : i = j
  · subst z
    obtain ⟨own, mix, cnt, h1, _⟩ := p
    rw [h1] at e; cases e
    exact .inr rfl
  · rw [b.2 i hi z] at e; exact .inl e⟩
theorem ButL.take {j : Nat} {h h' : HP} (b : ButL j h h') : But j h (h'.take h.length) := ⟨by rw [List.length_take]; have := b.1; omega, fun i z => by
  by_cases l : i < h.length
  · rw [List.getElem?_take_of_lt l]; exact b.2 i l z
  · rw [List.getElem?_eq_none (by rw [List.length_take]; omega), List.getElem?_eq_none (by omega)]⟩
theorem Pot.take {j c n : Nat} {h : HP} (p : Pot j c h) (l : j < n) : Pot j c (h.take n) := p.at_ (List.getElem?_take_of_lt l)
/-- a def that draws, and ends with a return -/
theorem runD_wp {k n : Nat} {m : SM} {ds : List D} {h : HP} {j c : Nat} {Q : D → Prop} (hj : j < h.length) (w : Wp (m (startE n ds) h) fun f h' => ∃ d, f = .ret d ∧ nn h.length d = true ∧ Pot j c h' ∧ ButL j h h' ∧ Q d) : Wp (runD false k n m ds h) fun d h' => Q d ∧ Pot j c h' ∧ But j h h' := by
  obtain ⟨f, h', e, d, rfl, n1, p, b, q⟩ := w.ex
  refine Wp.of (a := d) (h := h'.take h.length) (runD_ret e (b.old p) n1) ⟨q, p.take hj, b.take⟩
/-- as a chain of statements: the first, then the rest -/
theorem wp_cons {a b : SM} {ρ : Env'} {h : HP} {Q : Fl → HP → Prop} {ρ1 : Env'} {h1 : HP} (e : a ρ h = .ok (.nx ρ1) h1) (w : Wp (b ρ1 h1) Q) : Wp (sSq a b ρ h) Q := by
  rw [seq_ok e]; exact w
theorem wp_consW {a b : SM} {ρ : Env'} {h : HP} {Q : Fl → HP → Prop} (w : Wp (a ρ h) fun f h1 => ∃ ρ1, f = .nx ρ1 ∧ Wp (b ρ1 h1) Q) : Wp (sSq a b ρ h) Q := by
  obtain ⟨f, h1, e, ρ1, rfl, w1⟩ := w.ex
  rw [seq_ok e]; exact w1
theorem wp_as {a : EM} {t : GM} {ρ : Env'} {h : HP} {Q : Fl → HP → Prop} (w : Wp (a ρ h) fun d h1 => Wp (t d ρ h1) fun ρ1 h2 => Q (.nx ρ1) h2) : Wp (sAs a t ρ h) Q := by
  obtain ⟨d, h1, e, w1⟩ := w.ex
  obtain ⟨ρ1, h2, e2, q⟩ := w1.ex
  rw [w_sAs, e]
  show Wp (match t d ρ h1 with
    | .ok ρ1 h2 => .ok (.nx ρ1) h2
    | _ => .bad) Q
  rw [e2]; exact q
theorem wp_ex {a : EM} {ρ : Env'} {h : HP} {Q : Fl → HP → Prop} (w : Wp (a ρ h) fun _ h1 => Q (.nx ρ) h1) : Wp (sEx a ρ h) Q := by
  obtain ⟨d, h1, e, q⟩ := w.ex
  rw [w_sEx, e]; exact q
theorem wp_re {a : EM} {ρ : Env'} {h : HP} {Q : Fl → HP → Prop} (w : Wp (a ρ h) fun d h1 => Q (.ret d) h1) : Wp (sRe a ρ h) Q := by
  obtain ⟨d, h1, e, q⟩ := w.ex
  rw [w_sRe, e]; exact q
theorem wp_ret {a : EM} {ρ : Env'} {h : HP} {Q : Fl → HP → Prop} {b : SM} (w : Wp (a ρ h) fun d h1 => Q (.ret d) h1) : Wp (sSq (sRe a) b ρ h) Q := by
  obtain ⟨d, h1, e, q⟩ := w.ex
  have : sRe a ρ h = .ok (.ret d) h1 := by rw [w_sRe, e]; rfl
  rw [seq_ret this]; exact q
/-- comprehensions that draw -/
theorem eLc_inv {o : Bool} {it : IM} {t : GM} {e : EM} {vs : List Nat} {ρ : Env'} {h h1 : HP} {m : Itm} (I : Nat → HP → Prop) (P : D → Prop) (hi : it ρ h = .ok m h1) (hc : ∀ k h, I k h → m.chk h) (i0 : I 0 h1) (hx : ∀ d ∈ m.xs, ∀ k h, k < m.xs.length → I k h → Wp (t d (wipeE ρ vs) h) fun ρ1 h1 => Wp (e ρ1 h1) fun y h2 => P y ∧ I (k + 1) h2) (hz : m.xs.length ≤ 1000) :
    Wp (eLc o it t tYe e vs ρ h) fun d h' => ∃ ys h2, mkL o ys h2 = .ok d h' ∧ ys.length = m.xs.length ∧ (∀ y ∈ ys, P y) ∧ I m.xs.length h2 := by
  have w := lcM_inv (t := t) (e := e) (ρ := wipeE ρ vs) I P hc m.xs.length m.xs [] 0 h1 (by omega) i0 hx (fun _ z => by simp at z) (by simpa using line1000 hz)
  obtain ⟨ys, h2, e2, q1, q2, q3⟩ := w.ex
  unfold eLc
  rw [hi, bnd_ok, e2, bnd_ok]
  rw [List.length_nil, Nat.zero_add] at q1
  rw [Nat.zero_add] at q3
  cases o with
  | false => exact ⟨ys, h2, rfl, q1, q2, q3⟩
  | true => exact ⟨ys, h2, rfl, q1, q2, q3⟩
/-- texts of at most B signs -/
def txt (B : Nat) (d : D) : Prop := ∃ s, d = .str s ∧ s.length ≤ B
theorem strs_all {B : Nat} : ∀ {ys : List D}, (∀ y ∈ ys, txt B y) → ∃ ts, strsOf ys = some ts ∧ ts.length = ys.length ∧ (ts.map (·.length)).sum ≤ ys.length * B
  | [], _ => ⟨[], rfl, rfl, by simp⟩
  | y :: ys, h => by
    obtain ⟨s, rfl, hs⟩ := h y List.mem_cons_self
    obtain ⟨ts, e, l, b⟩ := strs_all (ys := ys) fun z hz => h z (List.mem_cons_of_mem _ hz)
    refine ⟨s :: ts, ?_, by simp [l], ?_⟩
    · show (strsOf ys).map (s :: ·) = _
      rw [e]; rfl
    · rw [List.map_cons, List.sum_cons, List.length_cons, Nat.add_mul, Nat.one_mul]; omega
theorem join0 {B n : Nat} {ys : List D} {h : HP} (hy : ∀ y ∈ ys, txt B y) (hn : ys.length ≤ n) (hb : n * B ≤ 1000) : ∃ s, mJoin (.str []) [.lst ys] h = .ok (.str s) h ∧ s.length ≤ n * B := by
  obtain ⟨ts, e, l, b⟩ := strs_all hy
  have hb2 : ys.length * B ≤ n * B := Nat.mul_le_mul_right B hn
  have hz : (ts.map (·.length)).sum + ts.length * ([] : List Nat).length ≤ sizeLine := by
    rw [List.length_nil, Nat.mul_zero]; exact line1000 (by omega)
  refine ⟨TL.joinL [] ts, ?_, ?_⟩
  · have es : sqOf (.lst ys) h = some ys := rfl
    unfold mJoin
    simp only [es, e]
    rw [if_pos hz]
  · have := joinL_len [] ts
    rw [List.length_nil, Nat.mul_zero] at this
    omega
theorem app_at {h : HP} {i : Nat} {ys : List D} {y : D} (e : h[i]? = some (some (.lst ys))) (l : ys.length < 1000) : mApp (.ref i) [y] h = .ok .non (h.set i (some (.lst (ys ++ [y])))) ∧ isLstD (.ref i) h = true := by
  have eo : opL (.ref i) h = some (i, ys) := by
    show (match h[i]? with
      | some (some (.lst xs)) => some (i, xs)
      | _ => none) = _
    rw [e]
  have el : lrOf (.ref i) h = some ys := by
    show (match h[i]? with
      | some (some (.lst xs)) => some xs
      | _ => none) = _
    rw [e]
  refine ⟨?_, by unfold isLstD; rw [el]; rfl⟩
  unfold mApp
  simp only [eo]
  rw [if_pos (Nat.lt_of_lt_of_le l (line1000 (Nat.le_refl _)))]
theorem ext_at {h : HP} {i : Nat} {ys zs : List D} {y : D} (e : h[i]? = some (some (.lst ys))) (ey : lsOf y h = some zs) (l : ys.length + zs.length ≤ 1000) : mExt (.ref i) [y] h = .ok .non (h.set i (some (.lst (ys ++ zs)))) ∧ isLstD (.ref i) h = true := by
  have eo : opL (.ref i) h = some (i, ys) := by
    show (match h[i]? with
      | some (some (.lst xs)) => some (i, xs)
      | _ => none) = _
    rw [e]
  have el : lrOf (.ref i) h = some ys := by
    show (match h[i]? with
      | some (some (.lst xs)) => some xs
      | _ => none) = _
    rw [e]
  refine ⟨?_, by unfold isLstD; rw [el]; rfl⟩
  unfold mExt
  simp only [eo, ey]
  rw [if_pos (line1000 l)]
theorem add_at {o : Bool} {h : HP} {i : Nat} {ys zs : List D} {y : D} (e : h[i]? = some (some (.lst ys))) (ey : lsOf y h = some zs) (l : ys.length + zs.length ≤ 1000) : bAdd o (.ref i) y h = mkL o (ys ++ zs) h := by
  have el : lsOf (.ref i) h = some ys := by
    show (match h[i]? with
      | some (some (.lst xs)) => some xs
      | _ => none) = _
    rw [e]
  unfold bAdd
  cases y <;> first | (cases ey; done) | (simp only [el, ey]; rw [if_pos (line1000 l)])
end Zs
end

/-! the tables -/
noncomputable section
namespace Zk
open PySem PySem.Spec L2 Zs
open PyProof.Rows hiding St
abbrev pw : Program := PySem.Challenge.pw_asatthatmoment_k15_whole_texts_of_letter
def clsT : List (Str × List Str) := [("RiverError", ["RiverError"]), ("BadLetter", ["BadLetter", "RiverError"]), ("BadText", ["BadText", "RiverError"]), ("NoText", ["NoText", "RiverError"])]
def t0 : List Nat := [97,98,99,100,101,102,103,104,105,106,107,108,109,110,111,112,113,114,115,116,117,118,119,120,121,122]
def t1 : List Nat := [97,32,49,32,48,32,116,97,107,101,32,49,32]
def t2 : List Nat := [97,32,49,32,48,32,99,108,111,99,107,32,45,49]
def t3 : List Nat := [97,32,49,32,48,32,103,114,111,119,32,103,111,111,100,115,32,110,101,119]
def t4 : List Nat := [97,32,49,32,48,32,112,117,116,32,103,111,111,100,115,32,112,114,105,99,101,32,39,51,32,112,114,105,99,101,32,51]
def t5 : List Nat := [97,32,50,32,53,32,112,117,116,32,103,111,111,100,115,32,112,114,105,99,101,32,45,51,32,119,97,114,101,32,39,55]
def c_RiverError : D := .cls "RiverError"
def c_BadLetter : D := .cls "BadLetter"
def c_BadText : D := .cls "BadText"
def c_NoText : D := .cls "NoText"
def c_FIGURES : D := (.str [48,49,50,51,52,53,54,55,56,57])
def c_SMALL : D := (.str t0)
def c_MOST_NAME : D := (.int (8))
def c_MOST_WORD : D := (.int (12))
def c_MOST_FIGURES : D := (.int (300))
def c_MOST_TIME : D := (.int (1000000000))
def c_RESERVED : D := (.kt [(.str [115,111,117,114,99,101]), (.str [104,111,117,115,101]), (.str [112,101,114,115,111,110]), (.str [118,105,101,119]), (.str [103,114,97,110,116]), (.str [115,117,109,115]), (.str [112,117,116]), (.str [116,97,107,101]), (.str [103,114,111,119]), (.str [99,108,111,99,107]), (.str [110,101,119]), (.str [97,100,100]), (.str [100,114,111,112]), (.str [110,97,109,101]), (.str [102,105,114,115,116]), (.str [99,111,108]), (.str [118,97,108]), (.str [112,108,117,115]), (.str [108,101,115,115]), (.str [116,105,109,101,115]), (.str [110,111,119]), (.str [116,114,117,101]), (.str [115,97,109,101]), (.str [98,101,108,111,119]), (.str [110,111,116]), (.str [98,111,116,104]), (.str [101,105,116,104,101,114]), (.str [111,102]), (.str [107,101,101,112]), (.str [111,110,108,121]), (.str [106,111,105,110]), (.str [111,110,99,101]), (.str [103,114,111,117,112]), (.str [115,112,114,101,97,100]), (.str [99,111,117,110,116]), (.str [115,117,109]), (.str [108,101,97,115,116]), (.str [109,111,115,116]), (.str [108,101,116,116,101,114]), (.str [112,97,115,115]), (.str [102,97,108,108]), (.str [114,105,115,101]), (.str [97,115,107]), (.str [105,110,116]), (.str [119,111,114,100]), (.str [97,116])])
def c_INT : D := (.str [105,110,116])
def c_WORD : D := (.str [119,111,114,100])
def c_KINDS : D := (.kt [(.str [105,110,116]), (.str [119,111,114,100])])
def c_MOST_VALUE : D := (.int (1000000000000))
def c_MOST_COLUMNS : D := (.int (8))
def c_NEW : D := (.str [110,101,119])
def c_ADD : D := (.str [97,100,100])
def c_DROP : D := (.str [100,114,111,112])
def c_NAME : D := (.str [110,97,109,101])
def c_FIRST : D := (.str [102,105,114,115,116])
def c_PUT : D := (.str [112,117,116])
def c_TAKE : D := (.str [116,97,107,101])
def c_GROW : D := (.str [103,114,111,119])
def c_CLOCK : D := (.str [99,108,111,99,107])
def c_MOST_NUMBER : D := (.int (1000000))
def c_MOST_PAIRS : D := (.int (8))
def c_MOST_TEXT : D := (.int (2000))
def c_MARK : D := (.str [39])
def c_BLANK : D := (.str [32])
abbrev sub : Str → Str → Option Bool := subT clsT
abbrev kn : Str → Bool := fun y => (clsT.lookup y).isSome
abbrev top (i : Nat) : Stmt := pw.main.body.getD i (.Pass ⟨0, 0, 0, 0⟩)
def d_is_integer : DI := ⟨"is_integer", defArgs (top 13), defBody (top 13), defScope (top 13), ["value"], ["value"], 0, false, [], false, [⟨[], 1, [0]⟩], []⟩
def d_is_between : DI := ⟨"is_between", defArgs (top 14), defBody (top 14), defScope (top 14), ["value", "least", "most"], ["value", "least", "most"], 0, false, [], false, [⟨[], 3, [0, 1, 2]⟩], []⟩
def d_is_time : DI := ⟨"is_time", defArgs (top 15), defBody (top 15), defScope (top 15), ["value"], ["value"], 0, false, [], false, [⟨[], 1, [0]⟩], []⟩
def d_read_integer : DI := ⟨"read_integer", defArgs (top 16), defBody (top 16), defScope (top 16), ["word", "figures", "sign"], ["word"], 0, false, [], false, [⟨[], 1, [0]⟩], []⟩
def d_is_of_signs : DI := ⟨"is_of_signs", defArgs (top 17), defBody (top 17), defScope (top 17), ["value", "most", "sign"], ["value", "most"], 0, false, [], false, [⟨[], 2, [0, 1]⟩], []⟩
def d_is_name : DI := ⟨"is_name", defArgs (top 18), defBody (top 18), defScope (top 18), ["value"], ["value"], 0, false, [], false, [⟨[], 1, [0]⟩], []⟩
def d_is_word : DI := ⟨"is_word", defArgs (top 19), defBody (top 19), defScope (top 19), ["value"], ["value"], 0, false, [], false, [⟨[], 1, [0]⟩], []⟩
def d_is_ascending : DI := ⟨"is_ascending", defArgs (top 20), defBody (top 20), defScope (top 20), ["some", "one", "other"], ["some"], 0, false, [], false, [⟨[], 1, [0]⟩], []⟩
def d_are_unlike : DI := ⟨"are_unlike", defArgs (top 21), defBody (top 21), defScope (top 21), ["some", "one"], ["some"], 0, false, [], false, [⟨[], 1, [0]⟩], []⟩
def d_are_pairs : DI := ⟨"are_pairs", defArgs (top 22), defBody (top 22), defScope (top 22), ["value", "row"], ["value"], 0, false, [], false, [⟨[], 1, [0]⟩], []⟩
def d_is_tagged : DI := ⟨"is_tagged", defArgs (top 23), defBody (top 23), defScope (top 23), ["value", "word", "many"], ["value", "word", "many"], 0, false, [], false, [⟨[], 3, [0, 1, 2]⟩], []⟩
def d_is_kind : DI := ⟨"is_kind", defArgs (top 29), defBody (top 29), defScope (top 29), ["value"], ["value"], 0, false, [], false, [⟨[], 1, [0]⟩], []⟩
def d_kind_of : DI := ⟨"kind_of", defArgs (top 30), defBody (top 30), defScope (top 30), ["value"], ["value"], 0, false, [], false, [⟨[], 1, [0]⟩], []⟩
def d_is_value : DI := ⟨"is_value", defArgs (top 31), defBody (top 31), defScope (top 31), ["value"], ["value"], 0, false, [], false, [⟨[], 1, [0]⟩], []⟩
def d_is_column : DI := ⟨"is_column", defArgs (top 34), defBody (top 34), defScope (top 34), ["value"], ["value"], 0, false, [], false, [⟨[], 1, [0]⟩], []⟩
def d_is_shape : DI := ⟨"is_shape", defArgs (top 35), defBody (top 35), defScope (top 35), ["value", "column"], ["value"], 0, false, [], false, [⟨[], 1, [0]⟩], []⟩
def d_names_in : DI := ⟨"names_in", defArgs (top 36), defBody (top 36), defScope (top 36), ["shape", "column"], ["shape"], 0, false, [], false, [⟨[], 1, [0]⟩], []⟩
def d_is_step : DI := ⟨"is_step", defArgs (top 43), defBody (top 43), defScope (top 43), ["value"], ["value"], 0, false, [], false, [⟨[], 1, [0]⟩], []⟩
def d_is_number : DI := ⟨"is_number", defArgs (top 54), defBody (top 54), defScope (top 54), ["value"], ["value"], 0, false, [], false, [⟨[], 1, [0]⟩], []⟩
def d_are_told : DI := ⟨"are_told", defArgs (top 55), defBody (top 55), defScope (top 55), ["value", "name", "told"], ["value"], 0, false, [], false, [⟨[], 1, [0]⟩], []⟩
def d_is_deed : DI := ⟨"is_deed", defArgs (top 56), defBody (top 56), defScope (top 56), ["value"], ["value"], 0, false, [], false, [⟨[], 1, [0]⟩], []⟩
def d_is_letter : DI := ⟨"is_letter", defArgs (top 57), defBody (top 57), defScope (top 57), ["value"], ["value"], 0, false, [], false, [⟨[], 1, [0]⟩], []⟩
def d_check_letter : DI := ⟨"check_letter", defArgs (top 58), defBody (top 58), defScope (top 58), ["letter"], ["letter"], 0, false, [], false, [⟨[], 1, [0]⟩], []⟩
def d_value_text : DI := ⟨"value_text", defArgs (top 59), defBody (top 59), defScope (top 59), ["value"], ["value"], 0, false, [], false, [⟨[], 1, [0]⟩], []⟩
def d_value_in : DI := ⟨"value_in", defArgs (top 60), defBody (top 60), defScope (top 60), ["word", "value"], ["word"], 0, false, [], false, [⟨[], 1, [0]⟩], []⟩
def d_column_words : DI := ⟨"column_words", defArgs (top 61), defBody (top 61), defScope (top 61), ["column"], ["column"], 0, false, [], false, [⟨[], 1, [0]⟩], []⟩
def d_step_words : DI := ⟨"step_words", defArgs (top 62), defBody (top 62), defScope (top 62), ["step", "found", "column"], ["step"], 1, false, ["found"], false, [⟨[], 1, [0]⟩], []⟩
def d_deed_words : DI := ⟨"deed_words", defArgs (top 63), defBody (top 63), defScope (top 63), ["deed", "found", "name", "value"], ["deed"], 1, false, ["found"], false, [⟨[], 1, [0]⟩], []⟩
def d_letter_words : DI := ⟨"letter_words", defArgs (top 64), defBody (top 64), defScope (top 64), ["letter"], ["letter"], 0, false, [], false, [⟨[], 1, [0]⟩], []⟩
def d_columns_in : DI := ⟨"columns_in", defArgs (top 65), defBody (top 65), defScope (top 65), ["words", "at"], ["words"], 0, false, [], false, [⟨[], 1, [0]⟩], []⟩
def d_step_in : DI := ⟨"step_in", defArgs (top 66), defBody (top 66), defScope (top 66), ["words"], ["words"], 0, false, [], false, [⟨[], 1, [0]⟩], []⟩
def d_deed_in : DI := ⟨"deed_in", defArgs (top 67), defBody (top 67), defScope (top 67), ["words", "at"], ["words"], 0, false, [], false, [⟨[], 1, [0]⟩], []⟩
def d_letter_in : DI := ⟨"letter_in", defArgs (top 68), defBody (top 68), defScope (top 68), ["words", "found"], ["words"], 0, false, [], false, [⟨[], 1, [0]⟩], []⟩
def d_letter_text : DI := ⟨"letter_text", defArgs (top 69), defBody (top 69), defScope (top 69), ["letter"], ["letter"], 0, false, [], false, [⟨[], 1, [0]⟩], []⟩
def d_read_letter : DI := ⟨"read_letter", defArgs (top 70), defBody (top 70), defScope (top 70), ["text", "found"], ["text"], 0, false, [], false, [⟨[], 1, [0]⟩], []⟩
def d__law_pot : DI := ⟨"_law_pot", defArgs (top 72), defBody (top 72), defScope (top 72), ["script", "place", "cell", "own", "small"], ["script", "place"], 0, true, [], true, [⟨[], 2, [0, 1]⟩], []⟩
def d__law_take : DI := ⟨"_law_take", defArgs (top 73), defBody (top 73), defScope (top 73), ["pot", "upto", "digit", "prime", "blend"], ["pot", "upto"], 0, false, [], false, [⟨[], 2, [0, 1]⟩], []⟩
def d__law_of : DI := ⟨"_law_of", defArgs (top 74), defBody (top 74), defScope (top 74), ["pot", "some"], ["pot", "some"], 0, false, [], false, [⟨[], 2, [0, 1]⟩], []⟩
def d__law_places : DI := ⟨"_law_places", defArgs (top 75), defBody (top 75), defScope (top 75), ["script", "most"], ["script", "most"], 0, false, [], false, [⟨[], 2, [0, 1]⟩], []⟩
def d__law_heard : DI := ⟨"_law_heard", defArgs (top 76), defBody (top 76), defScope (top 76), ["call", "caught", "back", "error"], ["call"], 0, false, [], false, [⟨[], 1, [0]⟩], []⟩
def d__law_odd : DI := ⟨"_law_odd", defArgs (top 77), defBody (top 77), defScope (top 77), ["pot", "some"], ["pot"], 0, false, [], false, [⟨[], 1, [0]⟩], []⟩
def d__law_bent : DI := ⟨"_law_bent", defArgs (top 78), defBody (top 78), defScope (top 78), ["pot", "value", "at", "some"], ["pot", "value"], 0, false, [], false, [⟨[], 2, [0, 1]⟩], []⟩
def d__law_value : DI := ⟨"_law_value", defArgs (top 79), defBody (top 79), defScope (top 79), ["pot", "kind"], ["pot", "kind"], 0, false, [], false, [⟨[], 2, [0, 1]⟩], []⟩
def d__law_column : DI := ⟨"_law_column", defArgs (top 80), defBody (top 80), defScope (top 80), ["pot", "name", "kind"], ["pot"], 0, false, [], false, [⟨[], 1, [0]⟩], []⟩
def d__law_shape : DI := ⟨"_law_shape", defArgs (top 81), defBody (top 81), defScope (top 81), ["pot", "found", "lap", "column", "one"], ["pot"], 0, false, ["found"], false, [⟨[], 1, [0]⟩], []⟩
def d__law_step : DI := ⟨"_law_step", defArgs (top 82), defBody (top 82), defScope (top 82), ["pot", "way", "name", "column"], ["pot"], 0, false, [], false, [⟨[], 1, [0]⟩], []⟩
def d__law_deed : DI := ⟨"_law_deed", defArgs (top 83), defBody (top 83), defScope (top 83), ["pot", "number", "time", "way", "table", "pairs", "lap", "column"], ["pot", "number", "time"], 2, false, ["pairs"], false, [⟨[], 3, [0, 1, 2]⟩], []⟩
def d__law_letters : DI := ⟨"_law_letters", defArgs (top 84), defBody (top 84), defScope (top 84), ["pot", "many", "found", "numbers", "time", "lap", "source", "its"], ["pot", "many"], 0, false, ["found", "numbers"], false, [⟨[], 2, [0, 1]⟩], []⟩
def d__law_word : DI := ⟨"_law_word", defArgs (top 85), defBody (top 85), defScope (top 85), ["value"], ["value"], 0, false, [], false, [⟨[], 1, [0]⟩], []⟩
def d__law_text : DI := ⟨"_law_text", defArgs (top 86), defBody (top 86), defScope (top 86), ["letter", "source", "number", "time", "deed", "words", "name", "value", "step", "kind", "first"], ["letter"], 0, false, ["words"], false, [⟨[], 1, [0]⟩], []⟩
def d__law_spoilt : DI := ⟨"_law_spoilt", defArgs (top 87), defBody (top 87), defScope (top 87), ["pot", "text", "words", "way", "at", "spot", "some", "word", "sign"], ["pot", "text"], 0, false, ["words"], false, [⟨[], 2, [0, 1]⟩], []⟩
def d__law_right : DI := ⟨"_law_right", defArgs (top 88), defBody (top 88), defScope (top 88), ["pot", "letter", "text", "lap", "other", "caught", "told", "bad", "odd", "its"], ["pot"], 0, false, [], false, [⟨[], 1, [0]⟩], lamsOf (defBody (top 88))⟩
def d_law : DI := ⟨"law", defArgs (top 89), defBody (top 89), defScope (top 89), ["script", "text", "place", "pot", "lap"], ["script"], 0, false, [], false, [⟨[], 1, [0]⟩], lamsOf (defBody (top 89))⟩
def tb0 : List (Str × GE) := [⟨"FIGURES", .con c_FIGURES⟩,
  ⟨"SMALL", .con c_SMALL⟩,
  ⟨"MOST_NAME", .con c_MOST_NAME⟩,
  ⟨"MOST_WORD", .con c_MOST_WORD⟩,
  ⟨"MOST_FIGURES", .con c_MOST_FIGURES⟩,
  ⟨"MOST_TIME", .con c_MOST_TIME⟩,
  ⟨"RESERVED", .con c_RESERVED⟩,
  ⟨"INT", .con c_INT⟩,
  ⟨"WORD", .con c_WORD⟩,
  ⟨"KINDS", .con c_KINDS⟩,
  ⟨"MOST_VALUE", .con c_MOST_VALUE⟩,
  ⟨"MOST_COLUMNS", .con c_MOST_COLUMNS⟩,
  ⟨"NEW", .con c_NEW⟩,
  ⟨"ADD", .con c_ADD⟩,
  ⟨"DROP", .con c_DROP⟩,
  ⟨"NAME", .con c_NAME⟩,
  ⟨"FIRST", .con c_FIRST⟩,
  ⟨"PUT", .con c_PUT⟩,
  ⟨"TAKE", .con c_TAKE⟩,
  ⟨"GROW", .con c_GROW⟩,
  ⟨"CLOCK", .con c_CLOCK⟩,
  ⟨"MOST_NUMBER", .con c_MOST_NUMBER⟩,
  ⟨"MOST_PAIRS", .con c_MOST_PAIRS⟩,
  ⟨"MOST_TEXT", .con c_MOST_TEXT⟩,
  ⟨"MARK", .con c_MARK⟩,
  ⟨"BLANK", .con c_BLANK⟩,
  ⟨"RiverError", .con c_RiverError⟩,
  ⟨"BadLetter", .con c_BadLetter⟩,
  ⟨"BadText", .con c_BadText⟩,
  ⟨"NoText", .con c_NoText⟩]
def tb1 : List (Str × GE) := [⟨"is_integer", .fn 0 1 d_is_integer.sh⟩,
  ⟨"is_between", .fn 1 3 d_is_between.sh⟩,
  ⟨"is_time", .fn 2 1 d_is_time.sh⟩,
  ⟨"read_integer", .fn 3 1 d_read_integer.sh⟩,
  ⟨"is_of_signs", .fn 4 2 d_is_of_signs.sh⟩,
  ⟨"is_name", .fn 5 1 d_is_name.sh⟩,
  ⟨"is_word", .fn 6 1 d_is_word.sh⟩,
  ⟨"is_ascending", .fn 7 1 d_is_ascending.sh⟩,
  ⟨"are_unlike", .fn 8 1 d_are_unlike.sh⟩,
  ⟨"are_pairs", .fn 9 1 d_are_pairs.sh⟩,
  ⟨"is_tagged", .fn 10 3 d_is_tagged.sh⟩,
  ⟨"is_kind", .fn 11 1 d_is_kind.sh⟩,
  ⟨"kind_of", .fn 12 1 d_kind_of.sh⟩,
  ⟨"is_value", .fn 13 1 d_is_value.sh⟩,
  ⟨"is_column", .fn 14 1 d_is_column.sh⟩,
  ⟨"is_shape", .fn 15 1 d_is_shape.sh⟩,
  ⟨"names_in", .fn 16 1 d_names_in.sh⟩,
  ⟨"is_step", .fn 17 1 d_is_step.sh⟩,
  ⟨"is_number", .fn 18 1 d_is_number.sh⟩,
  ⟨"are_told", .fn 19 1 d_are_told.sh⟩,
  ⟨"is_deed", .fn 20 1 d_is_deed.sh⟩,
  ⟨"is_letter", .fn 21 1 d_is_letter.sh⟩,
  ⟨"check_letter", .fn 22 1 d_check_letter.sh⟩,
  ⟨"value_text", .fn 23 1 d_value_text.sh⟩,
  ⟨"value_in", .fn 24 1 d_value_in.sh⟩,
  ⟨"column_words", .fn 25 1 d_column_words.sh⟩,
  ⟨"step_words", .fn 26 1 d_step_words.sh⟩,
  ⟨"deed_words", .fn 27 1 d_deed_words.sh⟩,
  ⟨"letter_words", .fn 28 1 d_letter_words.sh⟩,
  ⟨"columns_in", .fn 29 1 d_columns_in.sh⟩]
def tb2 : List (Str × GE) := [⟨"step_in", .fn 30 1 d_step_in.sh⟩,
  ⟨"deed_in", .fn 31 1 d_deed_in.sh⟩,
  ⟨"letter_in", .fn 32 1 d_letter_in.sh⟩,
  ⟨"letter_text", .fn 33 1 d_letter_text.sh⟩,
  ⟨"read_letter", .fn 34 1 d_read_letter.sh⟩,
  ⟨"_law_pot", .fn 35 2 d__law_pot.sh⟩,
  ⟨"_law_take", .fn 36 2 d__law_take.sh⟩,
  ⟨"_law_of", .fn 37 2 d__law_of.sh⟩,
  ⟨"_law_places", .fn 38 2 d__law_places.sh⟩,
  ⟨"_law_heard", .hd 39 ⟨2, "call", "RiverError"⟩⟩,
  ⟨"_law_odd", .fn 40 1 d__law_odd.sh⟩,
  ⟨"_law_bent", .fn 41 2 d__law_bent.sh⟩,
  ⟨"_law_value", .fn 42 2 d__law_value.sh⟩,
  ⟨"_law_column", .fn 43 1 d__law_column.sh⟩,
  ⟨"_law_shape", .fn 44 1 d__law_shape.sh⟩,
  ⟨"_law_step", .fn 45 1 d__law_step.sh⟩,
  ⟨"_law_deed", .fn 46 3 d__law_deed.sh⟩,
  ⟨"_law_letters", .fn 47 2 d__law_letters.sh⟩,
  ⟨"_law_word", .fn 48 1 d__law_word.sh⟩,
  ⟨"_law_text", .fn 49 1 d__law_text.sh⟩,
  ⟨"_law_spoilt", .fn 50 2 d__law_spoilt.sh⟩,
  ⟨"_law_right", .fn 51 1 d__law_right.sh⟩,
  ⟨"law", .fn 52 1 d_law.sh⟩,
  ⟨"abs", .bi⟩,
  ⟨"all", .bi⟩,
  ⟨"bool", .bi⟩,
  ⟨"dict", .bi⟩,
  ⟨"int", .bi⟩,
  ⟨"isinstance", .bi⟩,
  ⟨"len", .bi⟩]
def tb3 : List (Str × GE) := [⟨"list", .bi⟩,
  ⟨"max", .bi⟩,
  ⟨"min", .bi⟩,
  ⟨"range", .bi⟩,
  ⟨"repr", .bi⟩,
  ⟨"sorted", .bi⟩,
  ⟨"str", .bi⟩,
  ⟨"sum", .bi⟩,
  ⟨"tuple", .bi⟩,
  ⟨"zip", .bi⟩]
def tb : List (Str × GE) := tb0 ++ tb1 ++ tb2 ++ tb3
def ds0 : List DI := [d_is_integer,
  d_is_between,
  d_is_time,
  d_read_integer,
  d_is_of_signs,
  d_is_name,
  d_is_word,
  d_is_ascending,
  d_are_unlike,
  d_are_pairs,
  d_is_tagged,
  d_is_kind,
  d_kind_of,
  d_is_value,
  d_is_column,
  d_is_shape,
  d_names_in,
  d_is_step,
  d_is_number,
  d_are_told,
  d_is_deed,
  d_is_letter,
  d_check_letter,
  d_value_text,
  d_value_in,
  d_column_words,
  d_step_words,
  d_deed_words,
  d_letter_words,
  d_columns_in]
def ds1 : List DI := [d_step_in,
  d_deed_in,
  d_letter_in,
  d_letter_text,
  d_read_letter,
  d__law_pot,
  d__law_take,
  d__law_of,
  d__law_places,
  d__law_heard,
  d__law_odd,
  d__law_bent,
  d__law_value,
  d__law_column,
  d__law_shape,
  d__law_step,
  d__law_deed,
  d__law_letters,
  d__law_word,
  d__law_text,
  d__law_spoilt,
  d__law_right,
  d_law]
def ds : List DI := ds0 ++ ds1
def P : Pgm := ⟨ds, tb, clsT⟩
/-- is_integer(0 value) -/
def m_is_integer (r : Nat → FSem) : SM := (sSq (sRe (eAn (eA (fIsx sub) (aC (eV 0) (aC (eC (.ty .int)) aN))) (eNo (eA (fIsx sub) (aC (eV 0) (aC (eC (.ty .bool)) aN))))))
  sNx)
/-- is_between(0 value, 1 least, 2 most) -/
def m_is_between (r : Nat → FSem) : SM := (sSq (sRe (eAn (eCl (r 0) 1 1 0 [0] (aC (eV 0) aN) aN) (e2c bLe bLe (eV 1) (eV 0) (eV 2))))
  sNx)
/-- is_time(0 value) -/
def m_is_time (r : Nat → FSem) : SM := (sSq (sRe (eCl (r 1) 3 3 0 [0, 1, 2] (aC (eV 0) (aC (eC (.int (0))) (aC (eC c_MOST_TIME) aN))) aN))
  sNx)
/-- read_integer(0 word, 1 figures, 2 sign) -/
def m_read_integer (r : Nat → FSem) : SM := (sSq (sAs (eIf (tV (e2 bEq2 (eSl false (eV 0) oN (oS (eC (.int (1))))) (eC (.str [45])))) (eSl false (eV 0) (oS (eC (.int (1)))) oN) (eV 0)) (gN 1))
  (sSq (sIf (tOr' (tN (tV (e2c bLe bLe (eC (.int (1))) (eA fLen (aC (eV 1) aN)) (eC c_MOST_FIGURES)))) (tN (tV (eA fAll (aC (eLc false (iA (eV 1)) (gN 2) tYe (e2 (bIn2 false) (eV 2) (eC c_FIGURES)) [2]) aN))))) (sSq (sRe (eC .non))
  sNx) sNx)
  (sSq (sIf (tAn (tV (e2 bEq2 (e2 bIx2 (eV 1) (eC (.int (0)))) (eC (.str [48])))) (tOr' (tV (e2 bGt (eA fLen (aC (eV 1) aN)) (eC (.int (1))))) (tV (e2 bNe2 (eV 0) (eV 1))))) (sSq (sRe (eC .non))
  sNx) sNx)
  (sSq (sRe (eA fInt2 (aC (eV 0) aN)))
  sNx))))
/-- is_of_signs(0 value, 1 most, 2 sign) -/
def m_is_of_signs (r : Nat → FSem) : SM := (sSq (sIf (tOr' (tN (tV (eA (fIsx sub) (aC (eV 0) (aC (eC (.ty .str)) aN))))) (tN (tV (e2c bLe bLe (eC (.int (1))) (eA fLen (aC (eV 0) aN)) (eV 1))))) (sSq (sRe (eC (.bl false)))
  sNx) sNx)
  (sSq (sRe (eA fAll (aC (eLc false (iA (eV 0)) (gN 2) tYe (eOr (e2 (bIn2 false) (eV 2) (eC c_SMALL)) (e2 (bIn2 false) (eV 2) (eC c_FIGURES))) [2]) aN)))
  sNx))
/-- is_name(0 value) -/
def m_is_name (r : Nat → FSem) : SM := (sSq (sRe (eAn (eCl (r 4) 2 2 0 [0, 1] (aC (eV 0) (aC (eC c_MOST_NAME) aN)) aN) (eAn (e2 (bIn2 false) (e2 bIx2 (eV 0) (eC (.int (0)))) (eC c_SMALL)) (e2 (bIn2 true) (eV 0) (eC c_RESERVED)))))
  sNx)
/-- is_word(0 value) -/
def m_is_word (r : Nat → FSem) : SM := (sSq (sRe (eCl (r 4) 2 2 0 [0, 1] (aC (eV 0) (aC (eC c_MOST_WORD) aN)) aN))
  sNx)
/-- is_ascending(0 some, 1 one, 2 other) -/
def m_is_ascending (r : Nat → FSem) : SM := (sSq (sRe (eA fAll (aC (eLc false (iZ (aC (eV 0) (aC (eSl false (eV 0) (oS (eC (.int (1)))) oN) aN))) (gT 2 (gsC (gN 1) (gsC (gN 2) gsN))) tYe (e2 bLtX (eV 1) (eV 2)) [1, 2]) aN)))
  sNx)
/-- are_unlike(0 some, 1 one) -/
def m_are_unlike (r : Nat → FSem) : SM := (sSq (sRe (e2 bEq2 (eA fLen (aC (eA (fDict1 false) (aC (eLc false (iA (eV 0)) (gN 1) tYe (eA fTup (aC (eV 1) (aC (eC (.bl true)) aN))) [1]) aN)) aN)) (eA fLen (aC (eV 0) aN))))
  sNx)
/-- are_pairs(0 value, 1 row) -/
def m_are_pairs (r : Nat → FSem) : SM := (sSq (sRe (eAn (eA (fIsx sub) (aC (eV 0) (aC (eC (.ty .tuple)) aN))) (eA fAll (aC (eLc false (iA (eV 0)) (gN 1) tYe (eAn (eA (fIsx sub) (aC (eV 1) (aC (eC (.ty .tuple)) aN))) (e2 bEq2 (eA fLen (aC (eV 1) aN)) (eC (.int (2))))) [1]) aN))))
  sNx)
/-- is_tagged(0 value, 1 word, 2 many) -/
def m_is_tagged (r : Nat → FSem) : SM := (sSq (sRe (eAn (eA (fIsx sub) (aC (eV 0) (aC (eC (.ty .tuple)) aN))) (eAn (e2 bEq2 (eA fLen (aC (eV 0) aN)) (e2 (bAdd false) (eV 2) (eC (.int (1))))) (eAn (eA (fIsx sub) (aC (e2 bIx2 (eV 0) (eC (.int (0)))) (aC (eC (.ty .str)) aN))) (e2 bEq2 (e2 bIx2 (eV 0) (eC (.int (0)))) (eV 1))))))
  sNx)
/-- is_kind(0 value) -/
def m_is_kind (r : Nat → FSem) : SM := (sSq (sRe (eAn (eA (fIsx sub) (aC (eV 0) (aC (eC (.ty .str)) aN))) (e2 (bIn2 false) (eV 0) (eC c_KINDS))))
  sNx)
/-- kind_of(0 value) -/
def m_kind_of (r : Nat → FSem) : SM := (sSq (sIf (tV (eCl (r 1) 3 3 0 [0, 1, 2] (aC (eV 0) (aC (e2 bSub (eC (.int (0))) (eC c_MOST_VALUE)) (aC (eC c_MOST_VALUE) aN))) aN)) (sSq (sRe (eC c_INT))
  sNx) sNx)
  (sSq (sRe (eIf (tV (eCl (r 6) 1 1 0 [0] (aC (eV 0) aN) aN)) (eC c_WORD) (eC .non)))
  sNx))
/-- is_value(0 value) -/
def m_is_value (r : Nat → FSem) : SM := (sSq (sRe (e2 (bIs true) (eCl (r 12) 1 1 0 [0] (aC (eV 0) aN) aN) (eC .non)))
  sNx)
/-- is_column(0 value) -/
def m_is_column (r : Nat → FSem) : SM := (sSq (sIf (tOr' (tN (tV (eA (fIsx sub) (aC (eV 0) (aC (eC (.ty .tuple)) aN))))) (tOr' (tV (e2 bNe2 (eA fLen (aC (eV 0) aN)) (eC (.int (3))))) (tN (tV (eCl (r 5) 1 1 0 [0] (aC (e2 bIx2 (eV 0) (eC (.int (0)))) aN) aN))))) (sSq (sRe (eC (.bl false)))
  sNx) sNx)
  (sSq (sRe (eAn (eCl (r 11) 1 1 0 [0] (aC (e2 bIx2 (eV 0) (eC (.int (1)))) aN) aN) (e2 bEq2 (eCl (r 12) 1 1 0 [0] (aC (e2 bIx2 (eV 0) (eC (.int (2)))) aN) aN) (e2 bIx2 (eV 0) (eC (.int (1)))))))
  sNx))
/-- is_shape(0 value, 1 column) -/
def m_is_shape (r : Nat → FSem) : SM := (sSq (sIf (tOr' (tN (tV (eA (fIsx sub) (aC (eV 0) (aC (eC (.ty .tuple)) aN))))) (tN (tV (e2c bLe bLe (eC (.int (1))) (eA fLen (aC (eV 0) aN)) (eC c_MOST_COLUMNS))))) (sSq (sRe (eC (.bl false)))
  sNx) sNx)
  (sSq (sRe (eAn (eA fAll (aC (eLc false (iA (eV 0)) (gN 1) tYe (eCl (r 14) 1 1 0 [0] (aC (eV 1) aN) aN) [1]) aN)) (eCl (r 8) 1 1 0 [0] (aC (eCl (r 16) 1 1 0 [0] (aC (eV 0) aN) aN) aN) aN)))
  sNx))
/-- names_in(0 shape, 1 column) -/
def m_names_in (r : Nat → FSem) : SM := (sSq (sRe (eLc false (iA (eV 0)) (gN 1) tYe (e2 bIx2 (eV 1) (eC (.int (0)))) [1]))
  sNx)
/-- is_step(0 value) -/
def m_is_step (r : Nat → FSem) : SM := (sSq (sIf (tV (eCl (r 10) 3 3 0 [0, 1, 2] (aC (eV 0) (aC (eC c_NEW) (aC (eC (.int (1))) aN))) aN)) (sSq (sRe (eCl (r 15) 1 1 0 [0] (aC (e2 bIx2 (eV 0) (eC (.int (1)))) aN) aN))
  sNx) sNx)
  (sSq (sIf (tV (eCl (r 10) 3 3 0 [0, 1, 2] (aC (eV 0) (aC (eC c_ADD) (aC (eC (.int (1))) aN))) aN)) (sSq (sRe (eCl (r 14) 1 1 0 [0] (aC (e2 bIx2 (eV 0) (eC (.int (1)))) aN) aN))
  sNx) sNx)
  (sSq (sIf (tV (eCl (r 10) 3 3 0 [0, 1, 2] (aC (eV 0) (aC (eC c_DROP) (aC (eC (.int (1))) aN))) aN)) (sSq (sRe (eCl (r 5) 1 1 0 [0] (aC (e2 bIx2 (eV 0) (eC (.int (1)))) aN) aN))
  sNx) sNx)
  (sSq (sIf (tV (eCl (r 10) 3 3 0 [0, 1, 2] (aC (eV 0) (aC (eC c_NAME) (aC (eC (.int (2))) aN))) aN)) (sSq (sRe (eAn (eCl (r 5) 1 1 0 [0] (aC (e2 bIx2 (eV 0) (eC (.int (1)))) aN) aN) (eCl (r 5) 1 1 0 [0] (aC (e2 bIx2 (eV 0) (eC (.int (2)))) aN) aN)))
  sNx) sNx)
  (sSq (sRe (eAn (eCl (r 10) 3 3 0 [0, 1, 2] (aC (eV 0) (aC (eC c_FIRST) (aC (eC (.int (2))) aN))) aN) (eAn (eCl (r 5) 1 1 0 [0] (aC (e2 bIx2 (eV 0) (eC (.int (1)))) aN) aN) (eCl (r 13) 1 1 0 [0] (aC (e2 bIx2 (eV 0) (eC (.int (2)))) aN) aN))))
  sNx)))))
/-- is_number(0 value) -/
def m_is_number (r : Nat → FSem) : SM := (sSq (sRe (eCl (r 1) 3 3 0 [0, 1, 2] (aC (eV 0) (aC (eC (.int (1))) (aC (eC c_MOST_NUMBER) aN))) aN))
  sNx)
/-- are_told(0 value, 1 name, 2 told) -/
def m_are_told (r : Nat → FSem) : SM := (sSq (sIf (tOr' (tN (tV (eCl (r 9) 1 1 0 [0] (aC (eV 0) aN) aN))) (tV (e2 bGt (eA fLen (aC (eV 0) aN)) (eC c_MOST_PAIRS)))) (sSq (sRe (eC (.bl false)))
  sNx) sNx)
  (sSq (sIf (tN (tV (eA fAll (aC (eLc false (iA (eV 0)) (gT 2 (gsC (gN 1) (gsC (gN 2) gsN))) tYe (eAn (eCl (r 5) 1 1 0 [0] (aC (eV 1) aN) aN) (eCl (r 13) 1 1 0 [0] (aC (eV 2) aN) aN)) [1, 2]) aN)))) (sSq (sRe (eC (.bl false)))
  sNx) sNx)
  (sSq (sRe (eCl (r 7) 1 1 0 [0] (aC (eLc false (iA (eV 0)) (gT 2 (gsC (gN 1) (gsC (gN 2) gsN))) tYe (eV 1) [1, 2]) aN) aN))
  sNx)))
/-- is_deed(0 value) -/
def m_is_deed (r : Nat → FSem) : SM := (sSq (sIf (tV (eCl (r 10) 3 3 0 [0, 1, 2] (aC (eV 0) (aC (eC c_PUT) (aC (eC (.int (2))) aN))) aN)) (sSq (sRe (eAn (eCl (r 5) 1 1 0 [0] (aC (e2 bIx2 (eV 0) (eC (.int (1)))) aN) aN) (eCl (r 19) 1 1 0 [0] (aC (e2 bIx2 (eV 0) (eC (.int (2)))) aN) aN)))
  sNx) sNx)
  (sSq (sIf (tV (eCl (r 10) 3 3 0 [0, 1, 2] (aC (eV 0) (aC (eC c_TAKE) (aC (eC (.int (1))) aN))) aN)) (sSq (sRe (eCl (r 18) 1 1 0 [0] (aC (e2 bIx2 (eV 0) (eC (.int (1)))) aN) aN))
  sNx) sNx)
  (sSq (sIf (tV (eCl (r 10) 3 3 0 [0, 1, 2] (aC (eV 0) (aC (eC c_GROW) (aC (eC (.int (2))) aN))) aN)) (sSq (sRe (eAn (eCl (r 5) 1 1 0 [0] (aC (e2 bIx2 (eV 0) (eC (.int (1)))) aN) aN) (eCl (r 17) 1 1 0 [0] (aC (e2 bIx2 (eV 0) (eC (.int (2)))) aN) aN)))
  sNx) sNx)
  (sSq (sRe (eAn (eCl (r 10) 3 3 0 [0, 1, 2] (aC (eV 0) (aC (eC c_CLOCK) (aC (eC (.int (1))) aN))) aN) (eCl (r 2) 1 1 0 [0] (aC (e2 bIx2 (eV 0) (eC (.int (1)))) aN) aN)))
  sNx))))
/-- is_letter(0 value) -/
def m_is_letter (r : Nat → FSem) : SM := (sSq (sIf (tOr' (tN (tV (eA (fIsx sub) (aC (eV 0) (aC (eC (.ty .tuple)) aN))))) (tOr' (tV (e2 bNe2 (eA fLen (aC (eV 0) aN)) (eC (.int (4))))) (tOr' (tN (tV (eCl (r 5) 1 1 0 [0] (aC (e2 bIx2 (eV 0) (eC (.int (0)))) aN) aN))) (tN (tV (eCl (r 18) 1 1 0 [0] (aC (e2 bIx2 (eV 0) (eC (.int (1)))) aN) aN)))))) (sSq (sRe (eC (.bl false)))
  sNx) sNx)
  (sSq (sRe (eAn (eCl (r 2) 1 1 0 [0] (aC (e2 bIx2 (eV 0) (eC (.int (2)))) aN) aN) (eCl (r 20) 1 1 0 [0] (aC (e2 bIx2 (eV 0) (eC (.int (3)))) aN) aN)))
  sNx))
/-- check_letter(0 letter) -/
def m_check_letter (r : Nat → FSem) : SM := (sSq (sIf (tN (tV (eCl (r 21) 1 1 0 [0] (aC (eV 0) aN) aN))) (sSq (sRaise "BadLetter" (eV 0))
  sNx) sNx)
  sNx)
/-- value_text(0 value) -/
def m_value_text (r : Nat → FSem) : SM := (sSq (sRe (eIf (tV (eA (fIsx sub) (aC (eV 0) (aC (eC (.ty .str)) aN)))) (e2 (bAdd false) (eC c_MARK) (eV 0)) (eA fStr (aC (eV 0) aN))))
  sNx)
/-- value_in(0 word, 1 value) -/
def m_value_in (r : Nat → FSem) : SM := (sSq (sAs (eIf (tV (e2 bEq2 (eSl false (eV 0) oN (oS (eC (.int (1))))) (eC c_MARK))) (eSl false (eV 0) (oS (eC (.int (1)))) oN) (eCl (r 3) 1 1 0 [0] (aC (eV 0) aN) aN)) (gN 1))
  (sSq (sRe (eIf (tAn (tV (eCl (r 13) 1 1 0 [0] (aC (eV 1) aN) aN)) (tV (e2 bEq2 (eCl (r 23) 1 1 0 [0] (aC (eV 1) aN) aN) (eV 0)))) (eV 1) (eC .non)))
  sNx))
/-- column_words(0 column) -/
def m_column_words (r : Nat → FSem) : SM := (sSq (sRe (eA (fLst false) (aC (e2 bIx2 (eV 0) (eC (.int (0)))) (aC (e2 bIx2 (eV 0) (eC (.int (1)))) (aC (eCl (r 23) 1 1 0 [0] (aC (e2 bIx2 (eV 0) (eC (.int (2)))) aN) aN) aN)))))
  sNx)
/-- step_words(0 step, 1 found, 2 column) -/
def m_step_words (r : Nat → FSem) : SM := (sSq (sIf (tV (e2 bEq2 (e2 bIx2 (eV 0) (eC (.int (0)))) (eC c_NEW))) (sSq (sAs (eA (fLst true) (aC (eC c_NEW) aN)) (gN 1))
  (sSq (sFo (iA (e2 bIx2 (eV 0) (eC (.int (1))))) (gN 2) (sSq (sEx (eMt isLstD mExt (eV 1) (aC (eCl (r 25) 1 1 0 [0] (aC (eV 2) aN) aN) aN)))
  sNx))
  (sSq (sRe (eV 1))
  sNx))) sNx)
  (sSq (sIf (tV (e2 bEq2 (e2 bIx2 (eV 0) (eC (.int (0)))) (eC c_ADD))) (sSq (sRe (eA (fLst false) (aC (eC c_ADD) (aS (eCl (r 25) 1 1 0 [0] (aC (e2 bIx2 (eV 0) (eC (.int (1)))) aN) aN) aN))))
  sNx) sNx)
  (sSq (sIf (tV (e2 bEq2 (e2 bIx2 (eV 0) (eC (.int (0)))) (eC c_FIRST))) (sSq (sRe (eA (fLst false) (aC (eC c_FIRST) (aC (e2 bIx2 (eV 0) (eC (.int (1)))) (aC (eCl (r 23) 1 1 0 [0] (aC (e2 bIx2 (eV 0) (eC (.int (2)))) aN) aN) aN)))))
  sNx) sNx)
  (sSq (sRe (eA (fList false) (aC (eV 0) aN)))
  sNx))))
/-- deed_words(0 deed, 1 found, 2 name, 3 value) -/
def m_deed_words (r : Nat → FSem) : SM := (sSq (sIf (tV (e2 bEq2 (e2 bIx2 (eV 0) (eC (.int (0)))) (eC c_PUT))) (sSq (sAs (eA (fLst true) (aC (eC c_PUT) (aC (e2 bIx2 (eV 0) (eC (.int (1)))) aN))) (gN 1))
  (sSq (sFo (iA (e2 bIx2 (eV 0) (eC (.int (2))))) (gT 2 (gsC (gN 2) (gsC (gN 3) gsN))) (sSq (sEx (eMt isLstD mExt (eV 1) (aC (eA (fLst false) (aC (eV 2) (aC (eCl (r 23) 1 1 0 [0] (aC (eV 3) aN) aN) aN))) aN)))
  sNx))
  (sSq (sRe (eV 1))
  sNx))) sNx)
  (sSq (sIf (tV (e2 bEq2 (e2 bIx2 (eV 0) (eC (.int (0)))) (eC c_GROW))) (sSq (sRe (eA (fLst false) (aC (eC c_GROW) (aC (e2 bIx2 (eV 0) (eC (.int (1)))) (aS (eCl (r 26) 1 1 0 [0] (aC (e2 bIx2 (eV 0) (eC (.int (2)))) aN) aN) aN)))))
  sNx) sNx)
  (sSq (sRe (eA (fLst false) (aC (e2 bIx2 (eV 0) (eC (.int (0)))) (aC (eA fStr (aC (e2 bIx2 (eV 0) (eC (.int (1)))) aN)) aN))))
  sNx)))
/-- letter_words(0 letter) -/
def m_letter_words (r : Nat → FSem) : SM := (sSq (sRe (eA (fLst false) (aC (e2 bIx2 (eV 0) (eC (.int (0)))) (aC (eA fStr (aC (e2 bIx2 (eV 0) (eC (.int (1)))) aN)) (aC (eA fStr (aC (e2 bIx2 (eV 0) (eC (.int (2)))) aN)) (aS (eCl (r 27) 1 1 0 [0] (aC (e2 bIx2 (eV 0) (eC (.int (3)))) aN) aN) aN))))))
  sNx)
/-- columns_in(0 words, 1 at) -/
def m_columns_in (r : Nat → FSem) : SM := (sSq (sRe (eA fTuple (aC (eLc false (iR3 (aC (eC (.int (0))) (aC (e2 bSub (eA fLen (aC (eV 0) aN)) (eC (.int (2)))) (aC (eC (.int (3))) aN)))) (gN 1) tYe (eA fTup (aC (e2 bIx2 (eV 0) (eV 1)) (aC (e2 bIx2 (eV 0) (e2 (bAdd false) (eV 1) (eC (.int (1))))) (aC (eCl (r 24) 1 1 0 [0] (aC (e2 bIx2 (eV 0) (e2 (bAdd false) (eV 1) (eC (.int (2))))) aN) aN) aN)))) [1]) aN)))
  sNx)
/-- step_in(0 words) -/
def m_step_in (r : Nat → FSem) : SM := (sSq (sIf (tV (e2 bEq2 (eSl false (eV 0) oN (oS (eC (.int (1))))) (eA (fLst false) (aC (eC c_NEW) aN)))) (sSq (sRe (eIf (tV (e2 bEq2 (e2 bMod (eA fLen (aC (eV 0) aN)) (eC (.int (3)))) (eC (.int (1))))) (eA fTup (aC (eC c_NEW) (aC (eCl (r 29) 1 1 0 [0] (aC (eSl false (eV 0) (oS (eC (.int (1)))) oN) aN) aN) aN))) (eC .non)))
  sNx) sNx)
  (sSq (sIf (tV (e2 bEq2 (eSl false (eV 0) oN (oS (eC (.int (1))))) (eA (fLst false) (aC (eC c_ADD) aN)))) (sSq (sRe (eIf (tV (e2 bEq2 (eA fLen (aC (eV 0) aN)) (eC (.int (4))))) (eA fTup (aC (eC c_ADD) (aC (e2 bIx2 (eCl (r 29) 1 1 0 [0] (aC (eSl false (eV 0) (oS (eC (.int (1)))) oN) aN) aN) (eC (.int (0)))) aN))) (eC .non)))
  sNx) sNx)
  (sSq (sIf (tV (e2 bEq2 (eSl false (eV 0) oN (oS (eC (.int (1))))) (eA (fLst false) (aC (eC c_DROP) aN)))) (sSq (sRe (eIf (tV (e2 bEq2 (eA fLen (aC (eV 0) aN)) (eC (.int (2))))) (eA fTup (aC (eC c_DROP) (aC (e2 bIx2 (eV 0) (eC (.int (1)))) aN))) (eC .non)))
  sNx) sNx)
  (sSq (sIf (tV (e2 bEq2 (eSl false (eV 0) oN (oS (eC (.int (1))))) (eA (fLst false) (aC (eC c_NAME) aN)))) (sSq (sRe (eIf (tV (e2 bEq2 (eA fLen (aC (eV 0) aN)) (eC (.int (3))))) (eA fTuple (aC (eV 0) aN)) (eC .non)))
  sNx) sNx)
  (sSq (sIf (tV (e2 bEq2 (eSl false (eV 0) oN (oS (eC (.int (1))))) (eA (fLst false) (aC (eC c_FIRST) aN)))) (sSq (sRe (eIf (tV (e2 bEq2 (eA fLen (aC (eV 0) aN)) (eC (.int (3))))) (eA fTup (aC (eC c_FIRST) (aC (e2 bIx2 (eV 0) (eC (.int (1)))) (aC (eCl (r 24) 1 1 0 [0] (aC (e2 bIx2 (eV 0) (eC (.int (2)))) aN) aN) aN)))) (eC .non)))
  sNx) sNx)
  (sSq (sRe (eC .non))
  sNx))))))
/-- deed_in(0 words, 1 at) -/
def m_deed_in (r : Nat → FSem) : SM := (sSq (sIf (tAn (tV (e2 bEq2 (eSl false (eV 0) oN (oS (eC (.int (1))))) (eA (fLst false) (aC (eC c_PUT) aN)))) (tAn (tV (e2 bEq2 (e2 bMod (eA fLen (aC (eV 0) aN)) (eC (.int (2)))) (eC (.int (0))))) (tV (e2 bGt (eA fLen (aC (eV 0) aN)) (eC (.int (1))))))) (sSq (sRe (eA fTup (aC (eC c_PUT) (aC (e2 bIx2 (eV 0) (eC (.int (1)))) (aC (eA fTuple (aC (eLc false (iR3 (aC (eC (.int (2))) (aC (eA fLen (aC (eV 0) aN)) (aC (eC (.int (2))) aN)))) (gN 1) tYe (eA fTup (aC (e2 bIx2 (eV 0) (eV 1)) (aC (eCl (r 24) 1 1 0 [0] (aC (e2 bIx2 (eV 0) (e2 (bAdd false) (eV 1) (eC (.int (1))))) aN) aN) aN))) [1]) aN)) aN)))))
  sNx) sNx)
  (sSq (sIf (tAn (tV (e2 bEq2 (eSl false (eV 0) oN (oS (eC (.int (1))))) (eA (fLst false) (aC (eC c_GROW) aN)))) (tV (e2 bGt (eA fLen (aC (eV 0) aN)) (eC (.int (2)))))) (sSq (sRe (eA fTup (aC (eC c_GROW) (aC (e2 bIx2 (eV 0) (eC (.int (1)))) (aC (eCl (r 30) 1 1 0 [0] (aC (eSl false (eV 0) (oS (eC (.int (2)))) oN) aN) aN) aN)))))
  sNx) sNx)
  (sSq (sIf (tAn (tV (e2 bEq2 (eA fLen (aC (eV 0) aN)) (eC (.int (2))))) (tV (e2 (bIn2 false) (e2 bIx2 (eV 0) (eC (.int (0)))) (eA fTup (aC (eC c_TAKE) (aC (eC c_CLOCK) aN)))))) (sSq (sRe (eA fTup (aC (e2 bIx2 (eV 0) (eC (.int (0)))) (aC (eCl (r 3) 1 1 0 [0] (aC (e2 bIx2 (eV 0) (eC (.int (1)))) aN) aN) aN))))
  sNx) sNx)
  (sSq (sRe (eC .non))
  sNx))))
/-- letter_in(0 words, 1 found) -/
def m_letter_in (r : Nat → FSem) : SM := (sSq (sIf (tV (e2 bLtX (eA fLen (aC (eV 0) aN)) (eC (.int (5))))) (sSq (sRe (eC .non))
  sNx) sNx)
  (sSq (sAs (eA fTup (aC (e2 bIx2 (eV 0) (eC (.int (0)))) (aC (eCl (r 3) 1 1 0 [0] (aC (e2 bIx2 (eV 0) (eC (.int (1)))) aN) aN) (aC (eCl (r 3) 1 1 0 [0] (aC (e2 bIx2 (eV 0) (eC (.int (2)))) aN) aN) (aC (eCl (r 31) 1 1 0 [0] (aC (eSl false (eV 0) (oS (eC (.int (3)))) oN) aN) aN) aN))))) (gN 1))
  (sSq (sRe (eIf (tAn (tV (eCl (r 21) 1 1 0 [0] (aC (eV 1) aN) aN)) (tV (e2 bEq2 (eCl (r 28) 1 1 0 [0] (aC (eV 1) aN) aN) (eA (fList false) (aC (eV 0) aN))))) (eV 1) (eC .non)))
  sNx)))
/-- letter_text(0 letter) -/
def m_letter_text (r : Nat → FSem) : SM := (sSq (sEx (eCl (r 22) 1 1 0 [0] (aC (eV 0) aN) aN))
  (sSq (sRe (eMt isStrD mJoin (eC c_BLANK) (aC (eCl (r 28) 1 1 0 [0] (aC (eV 0) aN) aN) aN)))
  sNx))
/-- read_letter(0 text, 1 found) -/
def m_read_letter (r : Nat → FSem) : SM := (sSq (sIf (tOr' (tN (tV (eA (fIsx sub) (aC (eV 0) (aC (eC (.ty .str)) aN))))) (tV (e2 bGt (eA fLen (aC (eV 0) aN)) (eC c_MOST_TEXT)))) (sSq (sRaise "NoText" (eV 0))
  sNx) sNx)
  (sSq (sAs (eCl (r 32) 1 1 0 [0] (aC (eMt isStrD (mSplit false) (eV 0) (aC (eC c_BLANK) aN)) aN) aN) (gN 1))
  (sSq (sIf (tV (e2 (bIs false) (eV 1) (eC .non))) (sSq (sRaise "BadText" (eV 0))
  sNx) sNx)
  (sSq (sRe (eV 1))
  sNx))))
/-- _law_pot(0 script, 1 place, 2 cell, 3 own, 4 small) -/
def m__law_pot (r : Nat → FSem) : SM := (sSq (sAs (eIf (tV (e2 bLtX (eV 1) (eA fLen (aC (eV 0) aN)))) (e2 bIx2 (eV 0) (eV 1)) (e2 (bAdd false) (e2 (bAdd false) (e2 bMod (eA fSum (aC (eSl false (eV 0) oN (oS (eC (.int (1))))) aN)) (eC (.int (1000003)))) (e2 bMul2 (eC (.int (7556))) (eV 1))) (eC (.int (27039))))) (gN 2))
  (sSq (sAs (e2 bMul2 (e2 bMod (eA fInt2 (aC (eA fAbs (aC (eV 2) aN)) aN)) (e2 bPow (e2 bPow (eC (.int (10))) (eC (.int (60)))) (eC (.int (5))))) (eA fInt2 (aC (e2 bGe (eA fAbs (aC (eV 2) aN)) (e2 bPow (eC (.int (10))) (eC (.int (18))))) aN))) (gN 3))
  (sSq (sAs (e2 bMod (eA fInt2 (aC (eV 2) aN)) (eC (.int (2305843009213693951)))) (gN 4))
  (sSq (sRe (eA (fLst true) (aC (eV 3) (aC (e2 bMod (eA fInt2 (aC (e2 (bAdd false) (e2 (bAdd false) (e2 bMul2 (eV 4) (eC (.int (151520)))) (e2 bMul2 (e2 bMul2 (eC (.int (8806))) (eV 1)) (eV 1))) (eC (.int (206)))) aN)) (eC (.int (2305843009213693921)))) (aC (eC (.int (0))) aN)))))
  sNx))))
/-- _law_take(0 pot, 1 upto, 2 digit, 3 prime, 4 blend) -/
def m__law_take (r : Nat → FSem) : SM := (sSq (sIf (tV (e2 bGt (e2 bIx2 (eV 0) (eC (.int (0)))) (eC (.int (0))))) (sSq (sAs (e2 bMod (eA fInt2 (aC (e2 bIx2 (eV 0) (eC (.int (0)))) aN)) (eV 1)) (gN 2))
  (sSq (sAs (e2 bFd (e2 bIx2 (eV 0) (eC (.int (0)))) (eV 1)) (gS2 (eV 0) (eC (.int (0)))))
  (sSq (sRe (eV 2))
  sNx))) sNx)
  (sSq (sAs (e2 (bAdd false) (e2 bIx2 (eV 0) (eC (.int (2)))) (eC (.int (1)))) (gS2 (eV 0) (eC (.int (2)))))
  (sSq (sAs (e2 bIx2 (eA (fLst false) (aC (eC (.int (2147483647))) (aC (eC (.int (2147483629))) (aC (eC (.int (2147483587))) (aC (eC (.int (2147483579))) (aC (eC (.int (2147483563))) aN)))))) (e2 bMod (eA fInt2 (aC (e2 bIx2 (eV 0) (eC (.int (2)))) aN)) (eC (.int (5))))) (gN 3))
  (sSq (sAs (e2 bMod (eA fInt2 (aC (e2 bPow (eA fInt2 (aC (e2 (bAdd false) (e2 (bAdd false) (e2 bIx2 (eV 0) (eC (.int (1)))) (e2 bMul2 (e2 bMul2 (eC (.int (98678))) (e2 bIx2 (eV 0) (eC (.int (2))))) (e2 bIx2 (eV 0) (eC (.int (2)))))) (eC (.int (92)))) aN)) (eC (.int (3)))) aN)) (eV 3)) (gN 4))
  (sSq (sAs (e2 bMod (eA fInt2 (aC (e2 bMul2 (eV 4) (e2 (bAdd false) (e2 bMod (eA fInt2 (aC (eV 4) aN)) (eC (.int (10037)))) (e2 bMul2 (eC (.int (118))) (e2 bIx2 (eV 0) (eC (.int (2))))))) aN)) (eC (.int (2305843009213693907)))) (gN 4))
  (sSq (sRe (e2 bMod (eA fInt2 (aC (e2 bFd (eV 4) (eC (.int (157)))) aN)) (eV 1)))
  sNx))))))
/-- _law_of(0 pot, 1 some) -/
def m__law_of (r : Nat → FSem) : SM := (sSq (sRe (e2 bIx2 (eV 1) (eCl (r 36) 2 2 0 [0, 1] (aC (eV 0) (aC (eA fLen (aC (eV 1) aN)) aN)) aN)))
  sNx)
/-- _law_places(0 script, 1 most) -/
def m__law_places (r : Nat → FSem) : SM := (sSq (sRe (eRgL1 false (eA fMax (aC (eC (.int (1))) (aC (eA fMin (aC (eV 1) (aC (eA fLen (aC (eV 0) aN)) aN))) aN)))))
  sNx)
/-- _law_heard(0 call, 1 caught, 2 back, 3 error) -/
def m__law_heard (r : Nat → FSem) : SM := (sSq (sAs (eA fTup (aC (eC .non) (aC (eC .non) aN))) (gT 2 (gsC (gN 1) (gsC (gN 2) gsN))))
  (sSq (sTry (fun y => sub y "RiverError") 3 (sSq sBad
  sNx) (sSq (sAs (eV 3) (gN 1)) sNx))
  (sSq (sRe (eA fTup (aC (eV 1) (aC (eV 2) aN))))
  sNx)))
/-- _law_odd(0 pot, 1 some) -/
def m__law_odd (r : Nat → FSem) : SM := (sSq (sAs (eA (fLst false) (aC (eC .non) (aC (eC (.bl true)) (aC (eC (.bl false)) (aC (eC (.int (0))) (aC (eC (.int (1))) (aC (e1 uNeg (eC (.int (1)))) (aC (eC (.int (2))) (aC (eC (.int (1001))) (aC (eC (.str [])) (aC (eC (.str [97])) (aC (eC (.str [112,117,116])) (aC (eC (.str [100,111,110,101])) (aC (eA fTup aN) (aC (eA (fLst false) aN) (aC (eA fTup (aC (eC (.int (0))) aN)) (aC (eA fTup (aC (eA fTup aN) aN)) (aC (eA (fLst false) (aC (eC (.int (1))) aN)) (aC (eA fTup (aC (eC (.bl true)) aN)) (aC (eA fTup (aC (eC .non) aN)) aN)))))))))))))))))))) (gN 1))
  (sSq (sAs (e2 (bAdd false) (eV 1) (eA (fLst false) (aC (eA fTup (aC (eC (.str [97])) aN)) (aC (eA fTup (aC (eA fTup (aC (eC (.int (0))) aN)) (aC (eA fTup aN) aN))) (aC (eA fTup (aC (eC (.int (7))) aN)) (aC (eA fTup (aC (eC (.int (0))) (aC (eA (fLst false) (aC (eC (.int (0))) aN)) aN))) (aC (eA fTup (aC (eA fTup (aC (eC (.int (0))) aN)) (aC (eA fTup (aC (eA fTup (aC (eC (.int (0))) (aC (eC (.int (1))) aN))) aN)) aN))) (aC (eA (fLst false) (aC (eA fTup (aC (eC (.int (0))) aN)) (aC (eA fTup (aC (eA fTup (aC (eC (.int (0))) (aC (eC (.int (0))) aN))) aN)) aN))) (aC (eC (.str [97,32,49,32,48,32,116,97,107,101,32,49])) (aC (e2 bPow (eC (.int (10))) (eC (.int (20)))) aN)))))))))) (gN 1))
  (sSq (sRe (eCl (r 37) 2 2 0 [0, 1] (aC (eV 0) (aC (eV 1) aN)) aN))
  sNx)))
/-- _law_bent(0 pot, 1 value, 2 at, 3 some) -/
def m__law_bent (r : Nat → FSem) : SM := (sSq (sIf (tAn (tV (eA (fIsx sub) (aC (eV 1) (aC (eC (.ty .tuple)) aN)))) (tAn (tV (e2 bNe2 (eV 1) (eA fTup aN))) (tV (e2 bGt (eCl (r 36) 2 2 0 [0, 1] (aC (eV 0) (aC (eC (.int (5))) aN)) aN) (eC (.int (0))))))) (sSq (sAs (eCl (r 36) 2 2 0 [0, 1] (aC (eV 0) (aC (eA fLen (aC (eV 1) aN)) aN)) aN) (gN 2))
  (sSq (sRe (e2 (bAdd false) (e2 (bAdd false) (eSl false (eV 1) oN (oS (eV 2))) (eA fTup (aC (eCl (r 41) 2 2 0 [0, 1] (aC (eV 0) (aC (e2 bIx2 (eV 1) (eV 2)) aN)) aN) aN))) (eSl false (eV 1) (oS (e2 (bAdd false) (eV 2) (eC (.int (1))))) oN)))
  sNx)) sNx)
  (sSq (sIf (tV (eA (fIsx sub) (aC (eV 1) (aC (eC (.ty .tuple)) aN)))) (sSq (sRe (eCl (r 37) 2 2 0 [0, 1] (aC (eV 0) (aC (eA (fLst false) (aC (eA (fList false) (aC (eV 1) aN)) (aC (eSl false (eV 1) (oS (eC (.int (1)))) oN) (aC (eSl false (eV 1) oN (oS (e1 uNeg (eC (.int (1)))))) (aC (e2 (bAdd false) (eV 1) (eSl false (eV 1) (oS (e1 uNeg (eC (.int (1))))) oN)) (aC (e1 (fRev false) (eV 1)) (aC (eA fTup aN) (aC (eC .non) aN)))))))) aN)) aN))
  sNx) sNx)
  (sSq (sIf (tV (eA (fIsx sub) (aC (eV 1) (aC (eC (.ty .bool)) aN)))) (sSq (sRe (eCl (r 37) 2 2 0 [0, 1] (aC (eV 0) (aC (eA (fLst false) (aC (eNo (eV 1)) (aC (eA fInt2 (aC (eV 1) aN)) (aC (eC .non) aN)))) aN)) aN))
  sNx) sNx)
  (sSq (sIf (tV (eA (fIsx sub) (aC (eV 1) (aC (eC (.ty .int)) aN)))) (sSq (sRe (eCl (r 37) 2 2 0 [0, 1] (aC (eV 0) (aC (eA (fLst false) (aC (e2 (bAdd false) (eV 1) (eC (.int (1)))) (aC (e2 bSub (eV 1) (eC (.int (1)))) (aC (e1 uNeg (eV 1)) (aC (eA fStr (aC (eV 1) aN)) (aC (eC .non) (aC (e2 bEq2 (eV 1) (eC (.int (1)))) (aC (eA fTup (aC (eV 1) aN)) aN)))))))) aN)) aN))
  sNx) sNx)
  (sSq (sIf (tV (eA (fIsx sub) (aC (eV 1) (aC (eC (.ty .str)) aN)))) (sSq (sAs (eA (fLst false) (aC (e2 (bAdd false) (eV 1) (eC (.str [97]))) (aC (eSl false (eV 1) oN (oS (e1 uNeg (eC (.int (1)))))) (aC (eMt isStrD mUp (eV 1) aN) (aC (eA (fLst false) (aC (eV 1) aN)) (aC (eC (.str [97])) (aC (eC .non) (aC (eC (.int (0))) (aC (eC (.str [])) (aC (e2 (bAdd false) (eC (.str [98])) (eV 1)) (aC (e2 (bAdd false) (eV 1) (eC (.str [47]))) aN))))))))))) (gN 3))
  (sSq (sRe (eCl (r 37) 2 2 0 [0, 1] (aC (eV 0) (aC (eV 3) aN)) aN))
  sNx)) sNx)
  (sSq (sRe (eCl (r 40) 1 1 0 [0] (aC (eV 0) aN) aN))
  sNx))))))
/-- _law_value(0 pot, 1 kind) -/
def m__law_value (r : Nat → FSem) : SM := (sSq (sIf (tV (e2 bEq2 (eV 1) (eC (.str [105,110,116])))) (sSq (sRe (eA fInt2 (aC (eCl (r 37) 2 2 0 [0, 1] (aC (eV 0) (aC (eA (fLst false) (aC (eC (.int (0))) (aC (eC (.int (1))) (aC (e1 uNeg (eC (.int (1)))) (aC (eC (.int (7))) (aC (eC (.int (40))) (aC (e2 bPow (eC (.int (10))) (eC (.int (12)))) (aC (e1 uNeg (e2 bPow (eC (.int (10))) (eC (.int (12))))) aN)))))))) aN)) aN) aN)))
  sNx) sNx)
  (sSq (sRe (eCl (r 37) 2 2 0 [0, 1] (aC (eV 0) (aC (eA (fLst false) (aC (eC (.str [116,101,97])) (aC (eC (.str [114,121,101])) (aC (eC (.str [110,111,110,101])) (aC (eC (.str [120,49])) (aC (eC (.str [122,122])) aN)))))) aN)) aN))
  sNx))
/-- _law_column(0 pot, 1 name, 2 kind) -/
def m__law_column (r : Nat → FSem) : SM := (sSq (sAs (eCl (r 37) 2 2 0 [0, 1] (aC (eV 0) (aC (eA (fLst false) (aC (eC (.str [119,97,114,101])) (aC (eC (.str [112,114,105,99,101])) (aC (eC (.str [115,105,122,101])) (aC (eC (.str [110,111,116,101])) aN))))) aN)) aN) (gN 1))
  (sSq (sAs (eIf (tV (e2 (bIn2 false) (eV 1) (eA fTup (aC (eC (.str [112,114,105,99,101])) (aC (eC (.str [115,105,122,101])) aN))))) (eC (.str [105,110,116])) (eC (.str [119,111,114,100]))) (gN 2))
  (sSq (sIf (tV (e2 bEq2 (eCl (r 36) 2 2 0 [0, 1] (aC (eV 0) (aC (eC (.int (9))) aN)) aN) (eC (.int (0))))) (sSq (sAs (eIf (tV (e2 bEq2 (eV 2) (eC (.str [105,110,116])))) (eC (.str [119,111,114,100])) (eC (.str [105,110,116]))) (gN 2))
  sNx) sNx)
  (sSq (sRe (eA fTup (aC (eV 1) (aC (eV 2) (aC (eCl (r 42) 2 2 0 [0, 1] (aC (eV 0) (aC (eV 2) aN)) aN) aN)))))
  sNx))))
/-- _law_shape(0 pot, 1 found, 2 lap, 3 column, 4 one) -/
def m__law_shape (r : Nat → FSem) : SM := (sSq (sAs (eA (fLst true) aN) (gN 1))
  (sSq (sFo (iR (aC (e2 (bAdd false) (eC (.int (1))) (eCl (r 36) 2 2 0 [0, 1] (aC (eV 0) (aC (eC (.int (3))) aN)) aN)) aN)) (gN 2) (sSq (sAs (eCl (r 43) 1 1 0 [0] (aC (eV 0) aN) aN) (gN 3))
  (sSq (sIf (tV (e2 (bIn2 true) (e2 bIx2 (eV 3) (eC (.int (0)))) (eLc false (iA (eV 1)) (gN 4) tYe (e2 bIx2 (eV 4) (eC (.int (0)))) [4]))) (sSq (sEx (eMt isLstD mApp (eV 1) (aC (eV 3) aN)))
  sNx) sNx)
  sNx)))
  (sSq (sRe (eA fTuple (aC (eV 1) aN)))
  sNx)))
/-- _law_step(0 pot, 1 way, 2 name, 3 column) -/
def m__law_step (r : Nat → FSem) : SM := (sSq (sPar 1 2 (aC (eCl (r 36) 2 2 0 [0, 1] (aC (eV 0) (aC (eC (.int (7))) aN)) aN) (aC (eCl (r 37) 2 2 0 [0, 1] (aC (eV 0) (aC (eA (fLst false) (aC (eC (.str [119,97,114,101])) (aC (eC (.str [112,114,105,99,101])) (aC (eC (.str [115,105,122,101])) (aC (eC (.str [110,111,116,101])) aN))))) aN)) aN) aN)))
  (sSq (sIf (tV (e2 bEq2 (eV 1) (eC (.int (0))))) (sSq (sRe (eA fTup (aC (eC (.str [110,101,119])) (aC (eCl (r 44) 1 1 0 [0] (aC (eV 0) aN) aN) aN))))
  sNx) sNx)
  (sSq (sIf (tV (e2 bLtX (eV 1) (eC (.int (3))))) (sSq (sRe (eA fTup (aC (eC (.str [97,100,100])) (aC (eCl (r 43) 1 1 0 [0] (aC (eV 0) aN) aN) aN))))
  sNx) sNx)
  (sSq (sIf (tV (e2 bEq2 (eV 1) (eC (.int (3))))) (sSq (sRe (eA fTup (aC (eC (.str [100,114,111,112])) (aC (eV 2) aN))))
  sNx) sNx)
  (sSq (sIf (tV (e2 bLtX (eV 1) (eC (.int (6))))) (sSq (sRe (eA fTup (aC (eC (.str [110,97,109,101])) (aC (eV 2) (aC (eCl (r 37) 2 2 0 [0, 1] (aC (eV 0) (aC (eA (fLst false) (aC (eC (.str [119,97,114,101])) (aC (eC (.str [112,114,105,99,101])) (aC (eC (.str [115,105,122,101])) (aC (eC (.str [110,111,116,101])) aN))))) aN)) aN) aN)))))
  sNx) sNx)
  (sSq (sAs (eCl (r 43) 1 1 0 [0] (aC (eV 0) aN) aN) (gN 3))
  (sSq (sRe (eA fTup (aC (eC (.str [102,105,114,115,116])) (aC (e2 bIx2 (eV 3) (eC (.int (0)))) (aC (e2 bIx2 (eV 3) (eC (.int (2)))) aN)))))
  sNx)))))))
/-- _law_deed(0 pot, 1 number, 2 time, 3 way, 4 table, 5 pairs, 6 lap, 7 column) -/
def m__law_deed (r : Nat → FSem) : SM := (sSq (sPar 3 4 (aC (eCl (r 36) 2 2 0 [0, 1] (aC (eV 0) (aC (eC (.int (10))) aN)) aN) (aC (eCl (r 37) 2 2 0 [0, 1] (aC (eV 0) (aC (eA (fLst false) (aC (eC (.str [103,111,111,100,115])) (aC (eC (.str [103,111,111,100,115])) (aC (eC (.str [115,104,111,112,115])) (aC (eC (.str [108,111,116,115])) aN))))) aN)) aN) aN)))
  (sSq (sIf (tV (e2 bLtX (eV 3) (eC (.int (5))))) (sSq (sAs (eD0 true) (gN 5))
  (sSq (sFo (iR (aC (eCl (r 36) 2 2 0 [0, 1] (aC (eV 0) (aC (eC (.int (3))) aN)) aN) aN)) (gN 6) (sSq (sAs (eCl (r 43) 1 1 0 [0] (aC (eV 0) aN) aN) (gN 7))
  (sSq (sAs (e2 bIx2 (eV 7) (eC (.int (2)))) (gS2 (eV 5) (e2 bIx2 (eV 7) (eC (.int (0))))))
  sNx)))
  (sSq (sRe (eA fTup (aC (eC (.str [112,117,116])) (aC (eV 4) (aC (eA fTuple (aC (e1 fSI (eV 5)) aN)) aN)))))
  sNx))) sNx)
  (sSq (sIf (tV (e2 bEq2 (eV 3) (eC (.int (5))))) (sSq (sRe (eA fTup (aC (eC (.str [116,97,107,101])) (aC (e2 (bAdd false) (eC (.int (1))) (eA fInt2 (aC (eCl (r 36) 2 2 0 [0, 1] (aC (eV 0) (aC (e2 (bAdd false) (eV 1) (eC (.int (1)))) aN)) aN) aN))) aN))))
  sNx) sNx)
  (sSq (sIf (tV (e2 bLtX (eV 3) (eC (.int (8))))) (sSq (sRe (eA fTup (aC (eC (.str [103,114,111,119])) (aC (eV 4) (aC (eCl (r 45) 1 1 0 [0] (aC (eV 0) aN) aN) aN)))))
  sNx) sNx)
  (sSq (sRe (eA fTup (aC (eC (.str [99,108,111,99,107])) (aC (eA fMax (aC (eC (.int (0))) (aC (e2 (bAdd false) (e2 bSub (eV 2) (eC (.int (3)))) (eA fInt2 (aC (eCl (r 36) 2 2 0 [0, 1] (aC (eV 0) (aC (eC (.int (5))) aN)) aN) aN))) aN))) aN))))
  sNx)))))
/-- _law_letters(0 pot, 1 many, 2 found, 3 numbers, 4 time, 5 lap, 6 source, 7 its) -/
def m__law_letters (r : Nat → FSem) : SM := (sSq (sAs (eA (fLst true) (aC (eA fTup (aC (eC (.str [97])) (aC (eC (.int (1))) (aC (eC (.int (0))) (aC (eA fTup (aC (eC (.str [103,114,111,119])) (aC (eC (.str [103,111,111,100,115])) (aC (eA fTup (aC (eC (.str [110,101,119])) (aC (eA fTup (aC (eA fTup (aC (eC (.str [119,97,114,101])) (aC (eC (.str [119,111,114,100])) (aC (eC (.str [110,111,110,101])) aN)))) (aC (eA fTup (aC (eC (.str [112,114,105,99,101])) (aC (eC (.str [105,110,116])) (aC (eC (.int (0))) aN)))) aN))) aN))) aN)))) aN))))) aN)) (gN 2))
  (sSq (sEx (eMt isLstD mApp (eV 2) (aC (eA fTup (aC (eC (.str [98])) (aC (eC (.int (1))) (aC (eA fInt2 (aC (eCl (r 36) 2 2 0 [0, 1] (aC (eV 0) (aC (eC (.int (2))) aN)) aN) aN)) (aC (eA fTup (aC (eC (.str [103,114,111,119])) (aC (eC (.str [115,104,111,112,115])) (aC (eA fTup (aC (eC (.str [110,101,119])) (aC (eCl (r 44) 1 1 0 [0] (aC (eV 0) aN) aN) aN))) aN)))) aN))))) aN)))
  (sSq (sPar 3 4 (aC (eDi true [((eC (.str [97])), (eC (.int (1)))), ((eC (.str [98])), (eC (.int (1))))]) (aC (eC (.int (1))) aN)))
  (sSq (sFo (iR (aC (eV 1) aN)) (gN 5) (sSq (sAs (eCl (r 37) 2 2 0 [0, 1] (aC (eV 0) (aC (eA (fLst false) (aC (eC (.str [97])) (aC (eC (.str [98])) aN))) aN)) aN) (gN 6))
  (sSq (sAs (e2 (bAdd false) (e2 bIx2 (eV 3) (eV 6)) (eIf (tV (e2 bEq2 (eCl (r 36) 2 2 0 [0, 1] (aC (eV 0) (aC (eC (.int (12))) aN)) aN) (eC (.int (0))))) (eC (.int (2))) (eC (.int (1))))) (gS2 (eV 3) (eV 6)))
  (sSq (sAs (e2 (bAdd false) (eV 4) (eA fInt2 (aC (eCl (r 36) 2 2 0 [0, 1] (aC (eV 0) (aC (eC (.int (3))) aN)) aN) aN))) (gN 4))
  (sSq (sAs (eA fMax (aC (eC (.int (0))) (aC (e2 bSub (eV 4) (eA fInt2 (aC (eCl (r 37) 2 2 0 [0, 1] (aC (eV 0) (aC (eA (fLst false) (aC (eC (.int (0))) (aC (eC (.int (0))) (aC (eC (.int (0))) (aC (eC (.int (0))) (aC (eC (.int (1))) (aC (eC (.int (2))) (aC (eC (.int (5))) aN)))))))) aN)) aN) aN))) aN))) (gN 7))
  (sSq (sEx (eMt isLstD mApp (eV 2) (aC (eA fTup (aC (eV 6) (aC (e2 bIx2 (eV 3) (eV 6)) (aC (eV 7) (aC (eCl (r 46) 3 3 0 [0, 1, 2] (aC (eV 0) (aC (e2 bIx2 (eV 3) (eV 6)) (aC (eV 7) aN))) aN) aN))))) aN)))
  sNx))))))
  (sSq (sRe (eA fTuple (aC (eV 2) aN)))
  sNx)))))
/-- _law_word(0 value) -/
def m__law_word (r : Nat → FSem) : SM := (sSq (sRe (eIf (tV (eA (fIsx sub) (aC (eV 0) (aC (eC (.ty .str)) aN)))) (e2 (bAdd false) (eC (.str [39])) (eV 0)) (eA fStr (aC (eV 0) aN))))
  sNx)
/-- _law_text(0 letter, 1 source, 2 number, 3 time, 4 deed, 5 words, 6 name, 7 value, 8 step, 9 kind, 10 first) -/
def m__law_text (r : Nat → FSem) : SM := (sSq (sAs (eV 0) (gT 4 (gsC (gN 1) (gsC (gN 2) (gsC (gN 3) (gsC (gN 4) gsN))))))
  (sSq (sAs (eA (fLst true) (aC (eV 1) (aC (eA fStr (aC (eV 2) aN)) (aC (eA fStr (aC (eV 3) aN)) (aC (e2 bIx2 (eV 4) (eC (.int (0)))) aN))))) (gN 5))
  (sSq (sIf (tV (e2 (bIn2 false) (e2 bIx2 (eV 4) (eC (.int (0)))) (eA fTup (aC (eC (.str [116,97,107,101])) (aC (eC (.str [99,108,111,99,107])) aN))))) (sSq (sEx (eMt isLstD mApp (eV 5) (aC (eA fStr (aC (e2 bIx2 (eV 4) (eC (.int (1)))) aN)) aN)))
  sNx) (sSq (sIf (tV (e2 bEq2 (e2 bIx2 (eV 4) (eC (.int (0)))) (eC (.str [112,117,116])))) (sSq (sEx (eMt isLstD mApp (eV 5) (aC (e2 bIx2 (eV 4) (eC (.int (1)))) aN)))
  (sSq (sFo (iA (e2 bIx2 (eV 4) (eC (.int (2))))) (gT 2 (gsC (gN 6) (gsC (gN 7) gsN))) (sSq (sEx (eMt isLstD mExt (eV 5) (aC (eA (fLst false) (aC (eV 6) (aC (eCl (r 48) 1 1 0 [0] (aC (eV 7) aN) aN) aN))) aN)))
  sNx))
  sNx)) (sSq (sAs (e2 bIx2 (eV 4) (eC (.int (2)))) (gN 8))
  (sSq (sEx (eMt isLstD mExt (eV 5) (aC (eA (fLst false) (aC (e2 bIx2 (eV 4) (eC (.int (1)))) (aC (e2 bIx2 (eV 8) (eC (.int (0)))) aN))) aN)))
  (sSq (sIf (tV (e2 (bIn2 false) (e2 bIx2 (eV 8) (eC (.int (0)))) (eA fTup (aC (eC (.str [110,101,119])) (aC (eC (.str [97,100,100])) aN))))) (sSq (sFo (iA (eIf (tV (e2 bEq2 (e2 bIx2 (eV 8) (eC (.int (0)))) (eC (.str [110,101,119])))) (e2 bIx2 (eV 8) (eC (.int (1)))) (eA fTup (aC (e2 bIx2 (eV 8) (eC (.int (1)))) aN)))) (gT 3 (gsC (gN 6) (gsC (gN 9) (gsC (gN 10) gsN)))) (sSq (sEx (eMt isLstD mExt (eV 5) (aC (eA (fLst false) (aC (eV 6) (aC (eV 9) (aC (eCl (r 48) 1 1 0 [0] (aC (eV 10) aN) aN) aN)))) aN)))
  sNx))
  sNx) (sSq (sIf (tV (e2 bEq2 (e2 bIx2 (eV 8) (eC (.int (0)))) (eC (.str [102,105,114,115,116])))) (sSq (sEx (eMt isLstD mExt (eV 5) (aC (eA (fLst false) (aC (e2 bIx2 (eV 8) (eC (.int (1)))) (aC (eCl (r 48) 1 1 0 [0] (aC (e2 bIx2 (eV 8) (eC (.int (2)))) aN) aN) aN))) aN)))
  sNx) (sSq (sEx (eMt isLstD mExt (eV 5) (aC (eA (fList false) (aC (eSl false (eV 8) (oS (eC (.int (1)))) oN) aN)) aN)))
  sNx))
  sNx))
  sNx))))
  sNx))
  (sSq (sRe (eMt isStrD mJoin (eC (.str [32])) (aC (eV 5) aN)))
  sNx))))
/-- _law_spoilt(0 pot, 1 text, 2 words, 3 way, 4 at, 5 spot, 6 some, 7 word, 8 sign) -/
def m__law_spoilt (r : Nat → FSem) : SM := (sSq (sPar 2 3 (aC (eMt isStrD (mSplit true) (eV 1) (aC (eC (.str [32])) aN)) (aC (eCl (r 36) 2 2 0 [0, 1] (aC (eV 0) (aC (eC (.int (6))) aN)) aN) aN)))
  (sSq (sPar 4 5 (aC (eA fInt2 (aC (eCl (r 36) 2 2 0 [0, 1] (aC (eV 0) (aC (eA fLen (aC (eV 2) aN)) aN)) aN) aN)) (aC (eA fInt2 (aC (eCl (r 36) 2 2 0 [0, 1] (aC (eV 0) (aC (e2 (bAdd false) (eA fLen (aC (eV 1) aN)) (eC (.int (1)))) aN)) aN) aN)) aN)))
  (sSq (sAs (eA (fLst false) (aC (eC (.str [112,117,116])) (aC (eC (.str [116,97,107,101])) (aC (eC (.str [103,114,111,119])) (aC (eC (.str [110,101,119])) (aC (eC (.str [97,100,100])) (aC (eC (.str [100,114,111,112])) (aC (eC (.str [110,97,109,101])) (aC (eC (.str [102,105,114,115,116])) (aC (eC (.str [39,116,101,97])) (aC (eC (.str [55])) (aC (eC (.str [45,48])) (aC (eC (.str [48,55])) (aC (eC (.str [])) (aC (eC (.str [105,110,116])) (aC (eC (.str [119,111,114,100])) (aC (eC (.str [119,97,114,101])) aN))))))))))))))))) (gN 6))
  (sSq (sAs (eCl (r 37) 2 2 0 [0, 1] (aC (eV 0) (aC (eV 6) aN)) aN) (gN 7))
  (sSq (sIf (tV (e2 bEq2 (eV 3) (eC (.int (0))))) (sSq (sAs (eV 7) (gS2 (eV 2) (eV 4)))
  (sSq (sRe (eMt isStrD mJoin (eC (.str [32])) (aC (eV 2) aN)))
  sNx)) sNx)
  (sSq (sIf (tV (e2 bEq2 (eV 3) (eC (.int (1))))) (sSq (sRe (eMt isStrD mJoin (eC (.str [32])) (aC (e2 (bAdd false) (eSl false (eV 2) oN (oS (eV 4))) (eSl false (eV 2) (oS (e2 (bAdd false) (eV 4) (eC (.int (1))))) oN)) aN)))
  sNx) sNx)
  (sSq (sIf (tV (e2 bEq2 (eV 3) (eC (.int (2))))) (sSq (sRe (eMt isStrD mJoin (eC (.str [32])) (aC (e2 (bAdd false) (e2 (bAdd false) (eSl false (eV 2) oN (oS (eV 4))) (eA (fLst false) (aC (eV 7) aN))) (eSl false (eV 2) (oS (eV 4)) oN)) aN)))
  sNx) sNx)
  (sSq (sAs (eCl (r 37) 2 2 0 [0, 1] (aC (eV 0) (aC (eA (fLst false) (aC (eC (.str [32])) (aC (eC (.str [39])) (aC (eC (.str [45])) (aC (eC (.str [48])) (aC (eC (.str [49])) (aC (eC (.str [97])) (aC (eC (.str [65])) (aC (eC (.str [10])) aN))))))))) aN)) aN) (gN 8))
  (sSq (sIf (tV (e2 bEq2 (eV 3) (eC (.int (3))))) (sSq (sRe (e2 (bAdd false) (e2 (bAdd false) (eSl false (eV 1) oN (oS (eV 5))) (eV 8)) (eSl false (eV 1) (oS (e2 (bAdd false) (eV 5) (eC (.int (1))))) oN)))
  sNx) sNx)
  (sSq (sRe (eIf (tV (e2 bEq2 (eV 3) (eC (.int (4))))) (e2 (bAdd false) (e2 (bAdd false) (eSl false (eV 1) oN (oS (eV 5))) (eV 8)) (eSl false (eV 1) (oS (eV 5)) oN)) (e2 (bAdd false) (eSl false (eV 1) oN (oS (eV 5))) (eSl false (eV 1) (oS (e2 (bAdd false) (eV 5) (eC (.int (1))))) oN))))
  sNx))))))))))
/-- _law_right(0 pot, 1 letter, 2 text, 3 lap, 4 other, 5 caught, 6 told, 7 bad, 8 odd, 9 its) -/
def m__law_right (n : Nat) (r : Nat → FSem) : SM := (sSq (sFo (iA (eCl (r 47) 2 2 0 [0, 1] (aC (eV 0) (aC (eCl (r 36) 2 2 0 [0, 1] (aC (eV 0) (aC (eC (.int (9))) aN)) aN) aN)) aN)) (gN 1) (sSq (sAs (eCl (r 49) 1 1 0 [0] (aC (eV 1) aN) aN) (gN 2))
  (sSq (sIf (tOr' (tV (e2 bNe2 (eA fRepr (aC (eCl (r 33) 1 1 0 [0] (aC (eV 1) aN) aN) aN)) (eA fRepr (aC (eV 2) aN)))) (tV (e2 bNe2 (eA fRepr (aC (eCl (r 34) 1 1 0 [0] (aC (eV 2) aN) aN) aN)) (eA fRepr (aC (eV 1) aN))))) (sSq (sRe (eC (.bl false)))
  sNx) sNx)
  (sSq (sFo (iR (aC (eC (.int (6))) aN)) (gN 3) (sSq (sAs (eCl (r 50) 2 2 0 [0, 1] (aC (eV 0) (aC (eV 2) aN)) aN) (gN 4))
  (sSq (sAs (eHd 2 (fun y => sub y "RiverError") n [(eCl (r 34) 1 1 0 [0] (aC (eV 4) aN) aN), (eCl (r 34) 1 1 0 [0] (aC (eV 8) aN) aN), (eCl (r 33) 1 1 0 [0] (aC (eV 7) aN) aN)] (eLam n 0)) (gT 2 (gsC (gN 5) (gsC (gN 6) gsN))))
  (sSq (sIf (tAn (tV (e2 (bIs false) (eV 5) (eC .non))) (tOr' (tV (e2 (bIs true) (eCl (r 21) 1 1 0 [0] (aC (eV 6) aN) aN) (eC (.bl true)))) (tV (e2 bNe2 (eCl (r 49) 1 1 0 [0] (aC (eV 6) aN) aN) (eV 4))))) (sSq (sRe (eC (.bl false)))
  sNx) sNx)
  (sSq (sIf (tAn (tV (e2 (bIs true) (eV 5) (eC .non))) (tOr' (tN (tV (eA (fIsx sub) (aC (eV 5) (aC (eC c_BadText) aN))))) (tV (e2 bNe2 (eA fRepr (aC (e1 (fVal kn) (eV 5)) aN)) (eA fRepr (aC (eV 4) aN)))))) (sSq (sRe (eC (.bl false)))
  sNx) sNx)
  (sSq (sIf (tAn (tV (e2 (bIs true) (eV 5) (eC .non))) (tV (e2 bEq2 (eV 4) (eV 2)))) (sSq (sRe (eC (.bl false)))
  sNx) sNx)
  sNx))))))
  sNx))))
  (sSq (sAs (eA fTup (aC (eCl (r 41) 2 2 0 [0, 1] (aC (eV 0) (aC (eV 1) aN)) aN) (aC (eCl (r 37) 2 2 0 [0, 1] (aC (eV 0) (aC (eA (fLst false) (aC (eC .non) (aC (eC (.int (7))) (aC (eA (fLst false) (aC (eC (.str [97,32,49,32,48,32,116,97,107,101,32,49])) aN)) (aC (e2 bMul2 (eC (.str [97])) (eC (.int (2001)))) aN))))) aN)) aN) aN))) (gT 2 (gsC (gN 7) (gsC (gN 8) gsN))))
  (sSq (sAs (e2 bIx2 (eHd 2 (fun y => sub y "RiverError") n [(eCl (r 34) 1 1 0 [0] (aC (eV 4) aN) aN), (eCl (r 34) 1 1 0 [0] (aC (eV 8) aN) aN), (eCl (r 33) 1 1 0 [0] (aC (eV 7) aN) aN)] (eLam n 1)) (eC (.int (0)))) (gN 5))
  (sSq (sAs (e2 bIx2 (eHd 2 (fun y => sub y "RiverError") n [(eCl (r 34) 1 1 0 [0] (aC (eV 4) aN) aN), (eCl (r 34) 1 1 0 [0] (aC (eV 8) aN) aN), (eCl (r 33) 1 1 0 [0] (aC (eV 7) aN) aN)] (eLam n 2)) (eC (.int (0)))) (gN 9))
  (sSq (sIf (tOr' (tN (tV (eA (fIsx sub) (aC (eV 5) (aC (eC c_NoText) aN))))) (tV (e2 bNe2 (eA fRepr (aC (e1 (fVal kn) (eV 5)) aN)) (eA fRepr (aC (eV 8) aN))))) (sSq (sRe (eC (.bl false)))
  sNx) sNx)
  (sSq (sRe (eOr (eCl (r 21) 1 1 0 [0] (aC (eV 7) aN) aN) (eAn (eA (fIsx sub) (aC (eV 9) (aC (eC c_BadLetter) aN))) (e2 bEq2 (eA fRepr (aC (e1 (fVal kn) (eV 9)) aN)) (eA fRepr (aC (eV 7) aN))))))
  sNx))))))
/-- law(0 script, 1 text, 2 place, 3 pot, 4 lap) -/
def m_law (n : Nat) (r : Nat → FSem) : SM := (sSq (sIf (tV (e2 bNe2 (eCl (r 33) 1 1 0 [0] (aC (eA fTup (aC (eC (.str [97])) (aC (eC (.int (2))) (aC (eC (.int (5))) (aC (eA fTup (aC (eC (.str [112,117,116])) (aC (eC (.str [103,111,111,100,115])) (aC (eA fTup (aC (eA fTup (aC (eC (.str [112,114,105,99,101])) (aC (e1 uNeg (eC (.int (3)))) aN))) (aC (eA fTup (aC (eC (.str [119,97,114,101])) (aC (eC (.str [55])) aN))) aN))) aN)))) aN))))) aN) aN) (eC (.str t5)))) (sSq (sRe (eC (.bl false)))
  sNx) sNx)
  (sSq (sFo (iA (eA fTup (aC (eC (.str t4)) (aC (eC (.str t3)) (aC (eC (.str t2)) (aC (eC (.str [97,32,49,32,48,32,116,97,107,101,32,48])) (aC (eC (.str t1)) aN))))))) (gN 1) (sSq (sIf (tN (tV (eA (fIsx sub) (aC (e2 bIx2 (eHd 2 (fun y => sub y "RiverError") n [(eCl (r 34) 1 1 0 [0] (aC (eV 1) aN) aN)] (eLam n 0)) (eC (.int (0)))) (aC (eC c_BadText) aN))))) (sSq (sRe (eC (.bl false)))
  sNx) sNx)
  sNx))
  (sSq (sFo (iA (eCl (r 38) 2 2 0 [0, 1] (aC (eV 0) (aC (eC (.int (4))) aN)) aN)) (gN 2) (sSq (sAs (eCl (r 35) 2 2 0 [0, 1] (aC (eV 0) (aC (eV 2) aN)) aN) (gN 3))
  (sSq (sIf (tN (tV (eA fAll (aC (eLc false (iR (aC (eC (.int (2))) aN)) (gN 4) tYe (eCl (r 51) 1 1 0 [0] (aC (eV 3) aN) aN) [4]) aN)))) (sSq (sRe (eC (.bl false)))
  sNx) sNx)
  sNx)))
  (sSq (sRe (eC (.bl true)))
  sNx))))
theorem e_is_integer (n : Nat) : runP P (n + 1) 0 = runD false 0 1 (m_is_integer (runP P n)) := by kernel_rfl
theorem e_is_between (n : Nat) : runP P (n + 1) 1 = runD false 0 3 (m_is_between (runP P n)) := by kernel_rfl
theorem e_is_time (n : Nat) : runP P (n + 1) 2 = runD false 0 1 (m_is_time (runP P n)) := by kernel_rfl
theorem e_read_integer (n : Nat) : runP P (n + 1) 3 = runD false 0 3 (m_read_integer (runP P n)) := by kernel_rfl
theorem e_is_of_signs (n : Nat) : runP P (n + 1) 4 = runD false 0 3 (m_is_of_signs (runP P n)) := by kernel_rfl
theorem e_is_name (n : Nat) : runP P (n + 1) 5 = runD false 0 1 (m_is_name (runP P n)) := by kernel_rfl
theorem e_is_word (n : Nat) : runP P (n + 1) 6 = runD false 0 1 (m_is_word (runP P n)) := by kernel_rfl
theorem e_is_ascending (n : Nat) : runP P (n + 1) 7 = runD false 0 3 (m_is_ascending (runP P n)) := by kernel_rfl
theorem e_are_unlike (n : Nat) : runP P (n + 1) 8 = runD false 0 2 (m_are_unlike (runP P n)) := by kernel_rfl
theorem e_are_pairs (n : Nat) : runP P (n + 1) 9 = runD false 0 2 (m_are_pairs (runP P n)) := by kernel_rfl
theorem e_is_tagged (n : Nat) : runP P (n + 1) 10 = runD false 0 3 (m_is_tagged (runP P n)) := by kernel_rfl
theorem e_is_kind (n : Nat) : runP P (n + 1) 11 = runD false 0 1 (m_is_kind (runP P n)) := by kernel_rfl
theorem e_kind_of (n : Nat) : runP P (n + 1) 12 = runD false 0 1 (m_kind_of (runP P n)) := by kernel_rfl
theorem e_is_value (n : Nat) : runP P (n + 1) 13 = runD false 0 1 (m_is_value (runP P n)) := by kernel_rfl
theorem e_is_column (n : Nat) : runP P (n + 1) 14 = runD false 0 1 (m_is_column (runP P n)) := by kernel_rfl
theorem e_is_shape (n : Nat) : runP P (n + 1) 15 = runD false 0 2 (m_is_shape (runP P n)) := by kernel_rfl
theorem e_names_in (n : Nat) : runP P (n + 1) 16 = runD false 0 2 (m_names_in (runP P n)) := by kernel_rfl
theorem e_is_step (n : Nat) : runP P (n + 1) 17 = runD false 0 1 (m_is_step (runP P n)) := by kernel_rfl
theorem e_is_number (n : Nat) : runP P (n + 1) 18 = runD false 0 1 (m_is_number (runP P n)) := by kernel_rfl
theorem e_are_told (n : Nat) : runP P (n + 1) 19 = runD false 0 3 (m_are_told (runP P n)) := by kernel_rfl
theorem e_is_deed (n : Nat) : runP P (n + 1) 20 = runD false 0 1 (m_is_deed (runP P n)) := by kernel_rfl
theorem e_is_letter (n : Nat) : runP P (n + 1) 21 = runD false 0 1 (m_is_letter (runP P n)) := by kernel_rfl
theorem e_check_letter (n : Nat) : runP P (n + 1) 22 = runD false 0 1 (m_check_letter (runP P n)) := by kernel_rfl
theorem e_value_text (n : Nat) : runP P (n + 1) 23 = runD false 0 1 (m_value_text (runP P n)) := by kernel_rfl
theorem e_value_in (n : Nat) : runP P (n + 1) 24 = runD false 0 2 (m_value_in (runP P n)) := by kernel_rfl
theorem e_column_words (n : Nat) : runP P (n + 1) 25 = runD false 0 1 (m_column_words (runP P n)) := by kernel_rfl
theorem e_step_words (n : Nat) : runP P (n + 1) 26 = runD false 1 3 (m_step_words (runP P n)) := by kernel_rfl
theorem e_deed_words (n : Nat) : runP P (n + 1) 27 = runD false 1 4 (m_deed_words (runP P n)) := by kernel_rfl
theorem e_letter_words (n : Nat) : runP P (n + 1) 28 = runD false 0 1 (m_letter_words (runP P n)) := by kernel_rfl
theorem e_columns_in (n : Nat) : runP P (n + 1) 29 = runD false 0 2 (m_columns_in (runP P n)) := by kernel_rfl
theorem e_step_in (n : Nat) : runP P (n + 1) 30 = runD false 0 1 (m_step_in (runP P n)) := by kernel_rfl
theorem e_deed_in (n : Nat) : runP P (n + 1) 31 = runD false 0 2 (m_deed_in (runP P n)) := by kernel_rfl
theorem e_letter_in (n : Nat) : runP P (n + 1) 32 = runD false 0 2 (m_letter_in (runP P n)) := by kernel_rfl
theorem e_letter_text (n : Nat) : runP P (n + 1) 33 = runD false 0 1 (m_letter_text (runP P n)) := by kernel_rfl
theorem e_read_letter (n : Nat) : runP P (n + 1) 34 = runD false 0 2 (m_read_letter (runP P n)) := by kernel_rfl
theorem e__law_pot (n : Nat) : runP P (n + 1) 35 = runD true 0 5 (m__law_pot (runP P n)) := by kernel_rfl
theorem e__law_take (n : Nat) : runP P (n + 1) 36 = runD false 0 5 (m__law_take (runP P n)) := by kernel_rfl
theorem e__law_of (n : Nat) : runP P (n + 1) 37 = runD false 0 2 (m__law_of (runP P n)) := by kernel_rfl
theorem e__law_places (n : Nat) : runP P (n + 1) 38 = runD false 0 2 (m__law_places (runP P n)) := by kernel_rfl
theorem e__law_odd (n : Nat) : runP P (n + 1) 40 = runD false 0 2 (m__law_odd (runP P n)) := by kernel_rfl
theorem e__law_bent (n : Nat) : runP P (n + 1) 41 = runD false 0 4 (m__law_bent (runP P n)) := by kernel_rfl
theorem e__law_value (n : Nat) : runP P (n + 1) 42 = runD false 0 2 (m__law_value (runP P n)) := by kernel_rfl
theorem e__law_column (n : Nat) : runP P (n + 1) 43 = runD false 0 3 (m__law_column (runP P n)) := by kernel_rfl
theorem e__law_shape (n : Nat) : runP P (n + 1) 44 = runD false 0 5 (m__law_shape (runP P n)) := by kernel_rfl
theorem e__law_step (n : Nat) : runP P (n + 1) 45 = runD false 0 4 (m__law_step (runP P n)) := by kernel_rfl
theorem e__law_deed (n : Nat) : runP P (n + 1) 46 = runD false 2 8 (m__law_deed (runP P n)) := by kernel_rfl
theorem e__law_letters (n : Nat) : runP P (n + 1) 47 = runD false 0 8 (m__law_letters (runP P n)) := by kernel_rfl
theorem e__law_word (n : Nat) : runP P (n + 1) 48 = runD false 0 1 (m__law_word (runP P n)) := by kernel_rfl
theorem e__law_text (n : Nat) : runP P (n + 1) 49 = runD false 0 11 (m__law_text (runP P n)) := by kernel_rfl
theorem e__law_spoilt (n : Nat) : runP P (n + 1) 50 = runD false 0 9 (m__law_spoilt (runP P n)) := by kernel_rfl
theorem e__law_right (n : Nat) : runP P (n + 1) 51 = fun ds h => leave true n (runD false 0 10 (m__law_right n (runP P n)) ds h) := by kernel_rfl
theorem e_law (n : Nat) : runP P (n + 1) 52 = fun ds h => leave true n (runD false 0 5 (m_law n (runP P n)) ds h) := by kernel_rfl

end Zk
end

/-! N1 -/
noncomputable section
namespace Zk
open PySem PySem.Spec L2 Zs
open PyProof.Rows hiding St
open Classical
/-! ### plain data -/
mutual
def pl : D → Bool
  | .non => true
  | .bl _ => true
  | .int _ => true
  | .str s => decide (s.length ≤ 100000) && s.all (fun c => decide (c < 1114112))
  | .tup xs => decide (xs.length ≤ 1000) && plL xs
  | .lst xs => decide (xs.length ≤ 1000) && plL xs
  | _ => false
def plL : List D → Bool
  | [] => true
  | x :: r => pl x && plL r
end
theorem plL_all : ∀ {xs : List D}, plL xs = true ↔ ∀ x ∈ xs, pl x = true
  | [] => ⟨fun _ x hx => absurd hx (by simp), fun _ => rfl⟩
  | x :: r => by
    show (pl x && plL r) = true ↔ _
    rw [Bool.and_eq_true, plL_all (xs := r), List.forall_mem_cons]
theorem pl_tup {xs : List D} (h : pl (.tup xs) = true) : xs.length ≤ 1000 ∧ ∀ x ∈ xs, pl x = true := by
  have h : (decide (xs.length ≤ 1000) && plL xs) = true := h
  rw [Bool.and_eq_true, decide_eq_true_eq] at h
  exact ⟨h.1, plL_all.mp h.2⟩
theorem pl_str {s : List Nat} (h : pl (.str s) = true) : s.length ≤ 100000 := of_decide_eq_true (Bool.and_eq_true_iff.mp h).1
theorem pl_chr {s : List Nat} (h : pl (.str s) = true) : ∀ c ∈ s, c < 1114112 := fun c hc => of_decide_eq_true (List.all_eq_true.mp (Bool.and_eq_true_iff.mp h).2 c hc)
theorem pl_mk {s : List Nat} (h : s.length ≤ 100000) (k : ∀ c ∈ s, c < 1114112) : pl (.str s) = true := Bool.and_eq_true_iff.mpr ⟨decide_eq_true h, List.all_eq_true.mpr fun c hc => decide_eq_true (k c hc)⟩
theorem two : 2 ≤ sizeLine := by rw [sizeLine_eq]; omega
theorem kline {n : Nat} (h : n ≤ 100000) : n ≤ sizeLine := by rw [sizeLine_eq]; omega
mutual
theorem pl_nn (n : Nat) : ∀ d, pl d = true → nn n d = true
  | .non, _ => rfl
  | .bl _, _ => rfl
  | .int _, _ => rfl
  | .str _, _ => rfl
  | .tup xs, h => plL_nn n xs (Bool.and_eq_true_iff.mp h).2
  | .lst xs, h => plL_nn n xs (Bool.and_eq_true_iff.mp h).2
  | .kt _, h => by cases h
  | .scr _, h => by cases h
  | .dct _, h => by cases h
  | .ref _, h => by cases h
  | .ty _, h => by cases h
  | .cls _, h => by cases h
  | .exc _ _, h => by cases h
  | .fn _ _, h => by cases h
theorem plL_nn (n : Nat) : ∀ d, plL d = true → nnL n d = true
  | [], _ => rfl
  | x :: r, h => Bool.and_eq_true_iff.mpr ⟨pl_nn n x (Bool.and_eq_true_iff.mp h).1, plL_nn n r (Bool.and_eq_true_iff.mp h).2⟩
end
@[simp] theorem w_isx {x : D} {b : Ty} {h : HP} : fIsx sub [x, .ty b] h = match tyOfD x h with
  | some a => .ok (.bl (isiT a b)) h
  | none => .bad := by cases x <;> rfl
def isIntD : D → Bool
  | .int _ => true
  | _ => false
theorem s_is_integer {n : Nat} (hn : 1 ≤ n) {d : D} {h : HP} (v : pl d = true) : runP P n 0 [d] h = .ok (.bl (isIntD d)) h := by
  obtain ⟨m, rfl, _⟩ := succ_of hn
  rw [e_is_integer]
  refine runD_same ?_ rfl
  show m_is_integer _ [some d] h = _
  unfold m_is_integer
  cases d <;> first | (cases v; done) | simp [tyOfD, isiT, isIntD]
def betw (a b : Int) : D → Bool
  | .int i => decide (a ≤ i) && decide (i ≤ b)
  | _ => false
theorem s_is_between {n : Nat} (hn : 2 ≤ n) {d : D} {h : HP} {a b : Int} (v : pl d = true) : runP P n 1 [d, .int a, .int b] h = .ok (.bl (betw a b d)) h := by
  obtain ⟨m, rfl, hm⟩ := succ_of hn
  rw [e_is_between]
  refine runD_same ?_ rfl
  show m_is_between _ [some d, some (.int a), some (.int b)] h = _
  unfold m_is_between
  have e := s_is_integer hm (h := h) v
  cases d <;> first | (cases v; done) | simp [e, isIntD, betw]
theorem s_is_time {n : Nat} (hn : 3 ≤ n) {d : D} {h : HP} (v : pl d = true) : runP P n 2 [d] h = .ok (.bl (betw 0 1000000000 d)) h := by
  obtain ⟨m, rfl, hm⟩ := succ_of hn
  rw [e_is_time]
  refine runD_same ?_ rfl
  show m_is_time _ [some d] h = _
  unfold m_is_time
  have e : runP P m 1 [d, .int 0, c_MOST_TIME] h = _ := s_is_between hm (h := h) v
  simp [e]
theorem s_is_number {n : Nat} (hn : 3 ≤ n) {d : D} {h : HP} (v : pl d = true) : runP P n 18 [d] h = .ok (.bl (betw 1 1000000 d)) h := by
  obtain ⟨m, rfl, hm⟩ := succ_of hn
  rw [e_is_number]
  refine runD_same ?_ rfl
  show m_is_number _ [some d] h = _
  unfold m_is_number
  have e : runP P m 1 [d, .int 1, c_MOST_NUMBER] h = _ := s_is_between hm (h := h) v
  simp [e]
def smallL : List Nat := [97,98,99,100,101,102,103,104,105,106,107,108,109,110,111,112,113,114,115,116,117,118,119,120,121,122]
def figL : List Nat := [48,49,50,51,52,53,54,55,56,57]
theorem c_small : c_SMALL = .str smallL := rfl
theorem c_fig : c_FIGURES = .str figL := rfl
@[simp] theorem w_in2S {neg : Bool} {c : Nat} {s : List Nat} {h : HP} : bIn2 neg (.str [c]) (.str s) h = .ok (.bl (xor neg (decide (c ∈ s)))) h := rfl
def sign (c : Nat) : Bool := decide (c ∈ smallL) || decide (c ∈ figL)
def signs (m : Int) : D → Bool
  | .str s => decide (1 ≤ (s.length : Int)) && decide ((s.length : Int) ≤ m) && s.all sign
  | _ => false
theorem s_is_of_signs {n : Nat} (hn : 1 ≤ n) {d : D} {h : HP} {k : Int} (v : pl d = true) : runP P n 4 [d, .int k] h = .ok (.bl (signs k d)) h := by
  obtain ⟨m, rfl, _⟩ := succ_of hn
  rw [e_is_of_signs]
  refine runD_same ?_ rfl
  show m_is_of_signs _ [some d, some (.int k), none] h = _
  unfold m_is_of_signs
  cases d with
  | str s =>
    obtain ⟨ys, e1, e2, _⟩ := all_map (ρ := [some (.str s), some (.int k), none]) (h := h) (it := iA (eV 0)) (t := gN 2) (e := eOr (e2 (bIn2 false) (eV 2) (eC c_SMALL)) (e2 (bIn2 false) (eV 2) (eC c_FIGURES))) (vs := [2]) (fun c => .str [c]) sign rfl rfl trivial (kline (pl_str v))
      fun c _ => ⟨[some (.str s), some (.int k), some (.str [c])], rfl, by simp [c_small, c_fig, sign]⟩
    simp [tyOfD, isiT, signs]
    by_cases h1 : 1 ≤ (s.length : Int) <;> by_cases h2 : (s.length : Int) ≤ k <;> simp [h1, h2, e1, e2]
  | _ => first | (cases v; done) | simp [tyOfD, isiT, signs]
def resL : List (List Nat) := match c_RESERVED with
  | .kt xs => xs.map txD
  | _ => []
theorem c_res : sqOf c_RESERVED [] = some (strsD resL) := rfl
def nameB : D → Bool
  | .str s => signs 8 (.str s) && ((match s with | c :: _ => decide (c ∈ smallL) | [] => false) && !decide (s ∈ resL))
  | _ => false
theorem s_is_name {n : Nat} (hn : 2 ≤ n) {d : D} {h : HP} (v : pl d = true) : runP P n 5 [d] h = .ok (.bl (nameB d)) h := by
  obtain ⟨m, rfl, hm⟩ := succ_of hn
  rw [e_is_name]
  refine runD_same ?_ rfl
  show m_is_name _ [some d] h = _
  unfold m_is_name
  have e : runP P m 4 [d, c_MOST_NAME] h = _ := s_is_of_signs hm (h := h) (k := 8) v
  cases hs : signs 8 d with
  | false =>
    rw [hs] at e
    have : nameB d = false := by
      cases d <;> first | rfl | simp [nameB, hs]
    simp [e, this]
  | true =>
    cases d with
    | str s =>
      cases s with
      | nil => cases hs
      | cons c s =>
        rw [hs] at e
        have e2 : bIn2 true (.str (c :: s)) c_RESERVED h = _ := w_inStrs (h := h) (neg := true) (s := c :: s) (y := c_RESERVED) (l := resL) rfl
        simp [e, c_small, e2, nameB, hs]
    | _ => cases hs
theorem s_is_word {n : Nat} (hn : 2 ≤ n) {d : D} {h : HP} (v : pl d = true) : runP P n 6 [d] h = .ok (.bl (signs 12 d)) h := by
  obtain ⟨m, rfl, hm⟩ := succ_of hn
  rw [e_is_word]
  refine runD_same ?_ rfl
  show m_is_word _ [some d] h = _
  unfold m_is_word
  have e : runP P m 4 [d, c_MOST_WORD] h = _ := s_is_of_signs hm (h := h) (k := 12) v
  simp [e]
def tInt : List Nat := [105,110,116]
def tWord : List Nat := [119,111,114,100]
/-- a value's kind: int, word, none -/
def kd (d : D) : Option Bool := if betw (-1000000000000) 1000000000000 d = true then some true else if signs 12 d = true then some false else none
def kV : Option Bool → D
  | some true => .str tInt
  | some false => .str tWord
  | none => .non
theorem s_kind_of {n : Nat} (hn : 3 ≤ n) {d : D} {h : HP} (v : pl d = true) : runP P n 12 [d] h = .ok (kV (kd d)) h := by
  obtain ⟨m, rfl, hm⟩ := succ_of hn
  rw [e_kind_of]
  refine runD_same ?_ (by cases kd d with | none => rfl | some b => cases b <;> rfl)
  show m_kind_of _ [some d] h = _
  unfold m_kind_of
  have e1 : runP P m 1 [d, .int (0 - 1000000000000), .int 1000000000000] h = _ := s_is_between hm (h := h) (a := 0 - 1000000000000) (b := 1000000000000) v
  have e2 := s_is_word hm (h := h) v
  have c1 : c_MOST_VALUE = .int 1000000000000 := rfl
  have c2 : c_INT = .str tInt := rfl
  have c3 : c_WORD = .str tWord := rfl
  have z : (0 - 1000000000000 : Int) = -1000000000000 := by decide
  rw [z] at e1
  simp only [w_sSq, w_sIf, w_tV, w_eCl, w_aC, w_aN, w_eV, w_eC, w_e2, List.getElem?_cons_zero, w_ok, c1, w_subI, z, w_sRe, w_eIf, c2, c3]
  simp [e1, e2, kd]
  cases h1 : betw (-1000000000000) 1000000000000 d <;> cases h2 : signs 12 d <;> simp [kV, e2, h2]
theorem s_is_value {n : Nat} (hn : 4 ≤ n) {d : D} {h : HP} (v : pl d = true) : runP P n 13 [d] h = .ok (.bl (kd d).isSome) h := by
  obtain ⟨m, rfl, hm⟩ := succ_of hn
  rw [e_is_value]
  refine runD_same ?_ rfl
  show m_is_value _ [some d] h = _
  unfold m_is_value
  have e := s_kind_of hm (h := h) v
  simp [e]
  cases kd d with
  | none => rfl
  | some b => cases b <;> rfl
def kindB : D → Bool
  | .str s => decide (s ∈ [tInt, tWord])
  | _ => false
theorem s_is_kind {n : Nat} (hn : 1 ≤ n) {d : D} {h : HP} (v : pl d = true) : runP P n 11 [d] h = .ok (.bl (kindB d)) h := by
  obtain ⟨m, rfl, hm⟩ := succ_of hn
  rw [e_is_kind]
  refine runD_same ?_ rfl
  show m_is_kind _ [some d] h = _
  unfold m_is_kind
  cases d with
  | str s =>
    have e1 : bIn2 false (.str s) c_KINDS h = _ := w_inStrs (h := h) (neg := false) (s := s) (y := c_KINDS) (l := [tInt, tWord]) rfl
    simp [kindB, e1, tyOfD, isiT]
  | _ => first | (cases v; done) | simp [tyOfD, isiT, kindB]
/-- the k-th of a tuple -/
@[simp] theorem w_ixT {xs : List D} {i : Int} {h : HP} : bIx2 (.tup xs) (.int i) h = match L2.atI xs i with
  | some d => .ok d h
  | none => .bad := rfl
@[simp] theorem w_ixL {xs : List D} {i : Int} {h : HP} : bIx2 (.lst xs) (.int i) h = match L2.atI xs i with
  | some d => .ok d h
  | none => .bad := rfl
@[simp] theorem at0 {α : Type} {a : α} {r : List α} : L2.atI (a :: r) 0 = some a := by
  obtain ⟨x, e, _⟩ := atI_nat (xs := a :: r) (i := 0) (by decide) (by simp)
  unfold L2.atI ixN at e ⊢
  simp at e ⊢
@[simp] theorem at1 {α : Type} {a b : α} {r : List α} : L2.atI (a :: b :: r) 1 = some b := by
  unfold L2.atI ixN
  simp
  split <;> first | rfl | (rename_i z; exfalso; simp at z; omega) | skip
@[simp] theorem at2 {α : Type} {a b c : α} {r : List α} : L2.atI (a :: b :: c :: r) 2 = some c := by
  unfold L2.atI ixN
  simp
  split <;> first | rfl | (rename_i z; exfalso; simp at z; omega) | skip
@[simp] theorem at3 {α : Type} {a b c d : α} {r : List α} : L2.atI (a :: b :: c :: d :: r) 3 = some d := by
  unfold L2.atI ixN
  simp
  split <;> first | rfl | (rename_i z; exfalso; simp at z; omega) | skip
end Zk
end

/-! N2 -/
noncomputable section
namespace Zk
open PySem PySem.Spec L2 Zs
open PyProof.Rows hiding St
open Classical
@[simp] theorem w_lenD {ds : List (D × D)} {h : HP} : fLen [.dct ds] h = .ok (.int ds.length) h := rfl
@[simp] theorem w_slL {xs : List D} {lo hi : Option Int} {h : HP} : fSl false (.lst xs) lo hi h = .ok (.lst (cutL xs lo hi)) h := rfl
@[simp] theorem w_slT {xs : List D} {lo hi : Option Int} {h : HP} : fSl false (.tup xs) lo hi h = .ok (.tup (cutL xs lo hi)) h := rfl
@[simp] theorem w_slS {xs : List Nat} {lo hi : Option Int} {h : HP} : fSl false (.str xs) lo hi h = .ok (.str (cutL xs lo hi)) h := rfl
@[simp] theorem w_eSl {o : Bool} {a : EM} {lo hi : OM} {ρ : Env'} {h : HP} : eSl o a lo hi ρ h = (a ρ h).bnd fun x h1 => (lo ρ h1).bnd fun l h2 => (hi ρ h2).bnd fun u h3 => fSl o x l u h3 := rfl
@[simp] theorem w_oN {ρ : Env'} {h : HP} : oN ρ h = .ok none h := rfl
@[simp] theorem w_oS {a : EM} {ρ : Env'} {h : HP} : oS a ρ h = (a ρ h).bnd fun x h1 => match x with
  | .int i => .ok (some i) h1
  | _ => .bad := rfl
theorem cut_from {α : Type} (xs : List α) (k : Nat) : cutL xs (some (k : Int)) none = xs.drop k := by
  unfold cutL
  have e1 : HT.sIx xs.length 0 (some (k : Int)) = min k xs.length := by
    show (if (k : Int) < 0 then ((k : Int) + (xs.length : Int)).toNat else min (k : Int).toNat xs.length) = _
    rw [if_neg (by omega)]; rfl
  have e2 : HT.sIx xs.length xs.length none = xs.length := rfl
  rw [e1, e2]
  by_cases h : k ≤ xs.length
  · rw [Nat.min_eq_left h, List.take_of_length_le (by rw [List.length_drop]; omega)]
  · rw [Nat.min_eq_right (by omega), List.drop_of_length_le (by omega), List.drop_of_length_le (by omega)]; simp
theorem cut_to {α : Type} (xs : List α) (k : Nat) : cutL xs none (some (k : Int)) = xs.take k := by
  unfold cutL
  have e1 : HT.sIx xs.length xs.length (some (k : Int)) = min k xs.length := by
    show (if (k : Int) < 0 then ((k : Int) + (xs.length : Int)).toNat else min (k : Int).toNat xs.length) = _
    rw [if_neg (by omega)]; rfl
  have e2 : HT.sIx xs.length 0 none = 0 := rfl
  rw [e1, e2, List.drop_zero, Nat.sub_zero]
  by_cases h : k ≤ xs.length
  · rw [Nat.min_eq_left h]
  · rw [Nat.min_eq_right (by omega), List.take_length, List.take_of_length_le (by omega)]
@[simp] theorem cut1 {α : Type} (xs : List α) : cutL xs (some 1) none = xs.drop 1 := cut_from xs 1
@[simp] theorem cut2 {α : Type} (xs : List α) : cutL xs (some 2) none = xs.drop 2 := cut_from xs 2
@[simp] theorem cut3 {α : Type} (xs : List α) : cutL xs (some 3) none = xs.drop 3 := cut_from xs 3
@[simp] theorem cutT1 {α : Type} (xs : List α) : cutL xs none (some 1) = xs.take 1 := cut_to xs 1
@[simp] theorem w_gT2 {i j : Nat} {a b : D} {ρ : Env'} {h : HP} : gT 2 (gsC (gN i) (gsC (gN j) gsN)) (.tup [a, b]) ρ h = .ok ((ρ.set i (some a)).set j (some b)) h := rfl
/-! ### are_unlike -/
def unP (l : List (List Nat)) : List (D × D) := l.map fun s => (.str s, .bl true)
theorem putAll_un : ∀ (l : List (List Nat)) (acc : List (D × D)), ∃ ds, Zs.putAll acc (unP l) = some ds
  | [], acc => ⟨acc, rfl⟩
  | s :: l, acc => putAll_un l _
def unl (l : List (List Nat)) : Bool := match Zs.putAll [] (unP l) with
  | some ds => decide ((ds.length : Int) = (l.length : Int))
  | none => false
theorem pairsOf_un : ∀ l : List (List Nat), Zs.pairsOf (l.map fun s => D.tup [.str s, .bl true]) = some (unP l)
  | [] => rfl
  | s :: l => by
    show (Zs.pairsOf (l.map fun s => D.tup [.str s, .bl true])).map (((.str s, .bl true) : D × D) :: ·) = _
    rw [pairsOf_un l]; rfl
theorem lstr_len (l : List (List Nat)) : (strsD l).length = l.length := List.length_map _
theorem s_unlike {n : Nat} (hn : 1 ≤ n) {l : List (List Nat)} {h : HP} (hz : l.length ≤ 1000) : runP P n 8 [.lst (strsD l)] h = .ok (.bl (unl l)) h := by
  obtain ⟨m, rfl, hm⟩ := succ_of hn
  rw [e_are_unlike]
  refine runD_same ?_ rfl
  show m_are_unlike _ [some (.lst (strsD l)), none] h = _
  have e := eLc_map (ρ := [some (.lst (strsD l)), none]) (h := h) (it := iA (eV 0)) (t := gN 1) (e := eA fTup (aC (eV 1) (aC (eC (.bl true)) aN))) (vs := [1]) (m := ⟨strsD l, fun h' => lrOf (.lst (strsD l)) h' = some (strsD l)⟩) (fun d => .tup [d, .bl true]) rfl rfl (fun d hd => ⟨[some (.lst (strsD l)), some d], rfl, by
      simp [fTup, two]⟩) (by show (strsD l).length ≤ sizeLine; rw [lstr_len]; exact kline (by omega))
  obtain ⟨ds, ed⟩ := putAll_un l []
  have e2 : fDict1 false [.lst ((strsD l).map fun d => .tup [d, .bl true])] h = .ok (.dct ds) h := by
    show (match Zs.pairsOf ((strsD l).map fun d => D.tup [d, .bl true]) with
      | some ps => (match Zs.putAll [] ps with
        | some ds => mkD false ds h
        | none => .bad)
      | none => .bad) = _
    have : (strsD l).map (fun d => D.tup [d, .bl true]) = l.map fun s => D.tup [.str s, .bl true] := by unfold strsD; rw [List.map_map]; rfl
    rw [this, pairsOf_un]
    show (match Zs.putAll [] (unP l) with
        | some ds => mkD false ds h
        | none => .bad) = _
    rw [ed]; rfl
  unfold m_are_unlike
  simp only [w_sSq, w_sRe, w_e2, w_eA, w_aC, w_aN, e, w_ok, w_eV, List.getElem?_cons_zero, w_lift, e2, w_lenD, w_lenL]
  simp [unl, ed, lstr_len]
theorem putAll_new : ∀ (l : List (List Nat)) (acc : List (D × D)), l.Nodup → (∀ s ∈ l, (acc.any fun e => kyIs e.1 (.str s)) = false) → Zs.putAll acc (unP l) = some (acc ++ unP l)
  | [], acc, _, _ => by simp [unP, Zs.putAll]
  | s :: l, acc, nd, h => by
    rw [List.nodup_cons] at nd
    have h1 := h s List.mem_cons_self
    show Zs.putAll (putD acc (D.str s) (D.bl true) (Ky.str s)) (unP l) = _
    have e1 : putD acc (D.str s) (D.bl true) (Ky.str s) = acc ++ [((.str s, .bl true) : D × D)] := by
      unfold putD; rw [h1]; rfl
    rw [e1, putAll_new l _ nd.2 fun t ht => by
      rw [List.any_append, h t (List.mem_cons_of_mem _ ht)]
      have : kyIs (.str s) (.str t) = false := decide_eq_false fun z => nd.1 (by
        have z : some (Ky.str s) = some (Ky.str t) := z
        injection z with z; injection z with z; rw [z]; exact ht)
      simp [this]]
    rw [List.append_assoc]; rfl
theorem unl_nodup {l : List (List Nat)} (nd : l.Nodup) : unl l = true := by
  unfold unl
  rw [putAll_new l [] nd fun _ _ => rfl]
  simp [unP]
/-! ### is_ascending -/
theorem lt_strs {a b : List Nat} {h : HP} : bLtX (.str a) (.str b) h = .ok (.bl (decide (a < b))) h := by
  show (match ltP (D.str a) (D.str b) with
    | some b => R.ok (D.bl b) h
    | none => R.bad) = _
  have : ltP (.str a) (.str b) = some (PySem.W.dataLt (.str (strV a)) (.str (strV b))) := by
    show (if PySem.W.alike (.str (strV a)) (.str (strV b)) = true ∧ (isNon (.str a) = false ∧ (PyData.str (strV a)).depth ≤ 60) then some (PySem.W.dataLt (.str (strV a)) (.str (strV b))) else none) = _
    rw [if_pos ⟨rfl, rfl, by show 0 ≤ 60; omega⟩]
  rw [this]
  have e : PySem.W.dataLt (.str (strV a)) (.str (strV b)) = decide (a < b) := by
    rw [PySem.W.dataLt_str]
    rfl
  simp only [e]
def asc (l : List (List Nat)) : Bool := (l.zip (l.drop 1)).all fun p => decide (p.1 < p.2)
theorem s_is_ascending {n : Nat} (hn : 1 ≤ n) {l : List (List Nat)} {h : HP} (hz : l.length ≤ 1000) : runP P n 7 [.lst (strsD l)] h = .ok (.bl (asc l)) h := by
  obtain ⟨m, rfl, hm⟩ := succ_of hn
  rw [e_is_ascending]
  refine runD_same ?_ rfl
  show m_is_ascending _ [some (.lst (strsD l)), none, none] h = _
  obtain ⟨ys, e1, e2, _⟩ := all_map (ρ := [some (.lst (strsD l)), none, none]) (h := h) (it := iZ (aC (eV 0) (aC (eSl false (eV 0) (oS (eC (.int (1)))) oN) aN))) (t := gT 2 (gsC (gN 1) (gsC (gN 2) gsN))) (e := e2 bLtX (eV 1) (eV 2)) (vs := [1, 2]) (s := l.zip (l.drop 1)) (m := ⟨zipD (strsD l) ((strsD l).drop 1), fun h' => lrOf (.lst (strsD l)) h' = some (strsD l) ∧ lrOf (.lst ((strsD l).drop 1)) h' = some ((strsD l).drop 1)⟩)
    (fun p => .tup [.str p.1, .str p.2]) (fun p => decide (p.1 < p.2)) (by simp [iZ, fZip, lrOf, lsOf]) (by
      show ((strsD l).zip ((strsD l).drop 1)).map _ = _
      unfold strsD
      rw [← List.map_drop, List.zip_map, List.map_map]
      rfl) ⟨rfl, rfl⟩ (by rw [List.length_zip]; exact kline (by omega)) fun p hp => ⟨[some (.lst (strsD l)), some (.str p.1), some (.str p.2)], rfl, by simp [lt_strs]⟩
  unfold m_is_ascending
  simp only [w_sSq, w_sRe, w_eA, w_aC, w_aN, e1, w_ok, e2, w_lift]
  rfl
/-! ### are_pairs, is_tagged -/
def pairB : D → Bool
  | .tup ys => decide ((ys.length : Int) = 2)
  | _ => false
theorem pairB_of {x : D} (h : pairB x = true) : ∃ a b, x = .tup [a, b] := by
  cases x <;> first | (cases h; done) | skip
  rename_i ys
  have h := of_decide_eq_true h
  match ys, h with
  | [a, b], _ => exact ⟨a, b, rfl⟩
  | [], h => exact absurd h (by decide)
  | [_], h => exact absurd h (by simp)
  | _ :: _ :: _ :: _, h => exact absurd h (by simp only [List.length_cons]; omega)
def pairsB : D → Bool
  | .tup xs => xs.all pairB
  | _ => false
theorem s_are_pairs {n : Nat} (hn : 1 ≤ n) {d : D} {h : HP} (v : pl d = true) : runP P n 9 [d] h = .ok (.bl (pairsB d)) h := by
  obtain ⟨m, rfl, hm⟩ := succ_of hn
  rw [e_are_pairs]
  refine runD_same ?_ rfl
  show m_are_pairs _ [some d, none] h = _
  unfold m_are_pairs
  cases d with
  | tup xs =>
    obtain ⟨z, px⟩ := pl_tup v
    obtain ⟨ys, e1, e2, _⟩ := all_map (ρ := [some (.tup xs), none]) (h := h) (it := iA (eV 0)) (t := gN 1) (e := eAn (eA (fIsx sub) (aC (eV 1) (aC (eC (.ty .tuple)) aN))) (e2 bEq2 (eA fLen (aC (eV 1) aN)) (eC (.int (2))))) (vs := [1]) (s := xs) (m := ⟨xs, fun _ => True⟩) id pairB rfl (List.map_id _).symm trivial (kline (by omega))
      fun x hx => ⟨[some (.tup xs), some x], rfl, by
        have := px x hx
        cases x <;> first | (cases this; done) | simp [tyOfD, isiT, pairB]⟩
    simp [tyOfD, isiT, pairsB, e1, e2]
  | _ => first | (cases v; done) | simp [tyOfD, isiT, pairsB]
def tagB (v : D) (w : List Nat) (k : Nat) : Bool := match v with
  | .tup (.str s :: xs) => decide (xs.length = k) && decide (s = w)
  | _ => false
theorem s_is_tagged {n : Nat} (hn : 1 ≤ n) {d : D} {w : List Nat} {k : Nat} {h : HP} (v : pl d = true) : runP P n 10 [d, .str w, .int (k : Int)] h = .ok (.bl (tagB d w k)) h := by
  obtain ⟨m, rfl, hm⟩ := succ_of hn
  rw [e_is_tagged]
  refine runD_same ?_ rfl
  show m_is_tagged _ [some d, some (.str w), some (.int k)] h = _
  unfold m_is_tagged
  cases d with
  | tup xs =>
    obtain ⟨z, px⟩ := pl_tup v
    cases xs with
    | nil =>
      have : ¬ ((0 : Int) = (k : Int) + 1) := by omega
      simp [tyOfD, isiT, tagB, this]
    | cons x xs =>
      have vx := px x List.mem_cons_self
      by_cases hk : xs.length = k
      · cases x <;> first | (cases vx; done) | simp [tyOfD, isiT, tagB, hk]
      · have : tagB (.tup (x :: xs)) w k = false := by cases x <;> first | rfl | simp [tagB, hk]
        have e : ¬ ((xs.length : Int) = (k : Int)) := by omega
        simp [tyOfD, isiT, this, hk, e]
  | _ => first | (cases v; done) | simp [tyOfD, isiT, tagB]
/-- what a tagged tuple is -/
theorem tag1 {v : D} {w : List Nat} (h : tagB v w 1 = true) : ∃ a, v = .tup [.str w, a] := by
  unfold tagB at h
  split at h
  · rename_i s xs
    rw [Bool.and_eq_true, decide_eq_true_eq, decide_eq_true_eq] at h
    obtain ⟨h1, rfl⟩ := h
    match xs, h1 with
    | [a], _ => exact ⟨a, rfl⟩
  · cases h
theorem tag2 {v : D} {w : List Nat} (h : tagB v w 2 = true) : ∃ a b, v = .tup [.str w, a, b] := by
  unfold tagB at h
  split at h
  · rename_i s xs
    rw [Bool.and_eq_true, decide_eq_true_eq, decide_eq_true_eq] at h
    obtain ⟨h1, rfl⟩ := h
    match xs, h1 with
    | [a, b], _ => exact ⟨a, b, rfl⟩
  · cases h
end Zk
end

/-! N3 -/
noncomputable section
namespace Zk
open PySem PySem.Spec L2 Zs
open PyProof.Rows hiding St
open Classical
/-! ### columns, shapes -/
def kdIs (c b : D) : Bool := match b with
  | .str s => decide (kV (kd c) = .str s)
  | _ => false
theorem eq_kV {k : Option Bool} {s : List Nat} {h : HP} : bEq2 (kV k) (.str s) h = .ok (.bl (decide (kV k = .str s))) h := by
  cases k with
  | none =>
    rw [decide_eq_false (show ¬ kV none = .str s from fun z => by cases z)]
    rfl
  | some b => cases b <;> simp [kV]
def colB : D → Bool
  | .tup [a, b, c] => nameB a && (kindB b && kdIs c b)
  | _ => false
theorem s_is_column {n : Nat} (hn : 4 ≤ n) {d : D} {h : HP} (v : pl d = true) : runP P n 14 [d] h = .ok (.bl (colB d)) h := by
  obtain ⟨m, rfl, hm⟩ := succ_of hn
  rw [e_is_column]
  refine runD_same ?_ rfl
  show m_is_column _ [some d] h = _
  unfold m_is_column
  cases d with
  | tup xs =>
    obtain ⟨z, px⟩ := pl_tup v
    match xs, px with
    | [], _ => simp [tyOfD, isiT, colB]
    | [_], _ => simp [tyOfD, isiT, colB]
    | [_, _], _ => simp [tyOfD, isiT, colB]
    | [a, b, c], px =>
      have e1 := s_is_name (n := m) (by omega) (h := h) (px a (by simp))
      have e2 := s_is_kind (n := m) (by omega) (h := h) (px b (by simp))
      have e3 := s_kind_of (n := m) (by omega) (h := h) (px c (by simp))
      cases hb : nameB a <;> rw [hb] at e1
      · simp [tyOfD, isiT, colB, e1, hb]
      · cases hk : kindB b <;> rw [hk] at e2
        · simp [tyOfD, isiT, colB, e1, hb, e2, hk]
        · cases b <;> first | (cases hk; done) | simp [tyOfD, isiT, colB, e1, hb, e2, hk, e3, eq_kV, kdIs]
    | _ :: _ :: _ :: _ :: xs, _ =>
      have : ¬ ((xs.length : Int) + 1 + 1 + 1 + 1 = 3) := by omega
      simp [tyOfD, isiT, colB, this]
  | _ => first | (cases v; done) | simp [tyOfD, isiT, colB]
def nm : D → List Nat
  | .tup (.str s :: _) => s
  | _ => []
theorem colB_of {d : D} (h : colB d = true) : ∃ (s t : List Nat) (c : D), d = .tup [.str s, .str t, c] ∧ nameB (.str s) = true ∧ (t = tInt ∨ t = tWord) ∧ kV (kd c) = .str t := by
  unfold colB at h
  split at h
  · rename_i a b c
    rw [Bool.and_eq_true, Bool.and_eq_true] at h
    obtain ⟨h1, h2, h3⟩ := h
    cases a <;> first | (cases h1; done) | skip
    cases b <;> first | (cases h2; done) | skip
    rename_i s t
    have h2 := of_decide_eq_true h2
    exact ⟨s, t, c, rfl, h1, by simpa using h2, of_decide_eq_true h3⟩
  · cases h
theorem s_names_in {n : Nat} (hn : 1 ≤ n) {xs : List D} {h : HP} (hz : xs.length ≤ 1000) (v : xs.all colB = true) : runP P n 16 [.tup xs] h = .ok (.lst (strsD (xs.map nm))) h := by
  obtain ⟨m, rfl, hm⟩ := succ_of hn
  rw [e_names_in]
  refine runD_same ?_ (by
    show nnL _ _ = true
    exact nnL_all.mpr fun x hx => by
      obtain ⟨c, hc, rfl⟩ := List.mem_map.mp hx
      rfl)
  show m_names_in _ [some (.tup xs), none] h = _
  have e := eLc_map (ρ := [some (.tup xs), none]) (h := h) (it := iA (eV 0)) (t := gN 1) (e := e2 bIx2 (eV 1) (eC (.int 0))) (vs := [1]) (m := ⟨xs, fun _ => True⟩) (fun d => .str (nm d)) rfl trivial (fun d hd => by
      obtain ⟨s, t, c, rfl, _⟩ := colB_of (List.all_eq_true.mp v d hd)
      exact ⟨[some (.tup xs), some (.tup [.str s, .str t, c])], rfl, by simp [nm]⟩) (kline (by show xs.length ≤ _; omega))
  unfold m_names_in
  simp only [w_sSq, w_sRe, e, w_lift]
  unfold strsD
  rw [List.map_map]
  rfl
def shpB : D → Bool
  | .tup xs => decide (1 ≤ (xs.length : Int)) && decide ((xs.length : Int) ≤ 8) && (xs.all colB && unl (xs.map nm))
  | _ => false
theorem s_is_shape {n : Nat} (hn : 5 ≤ n) {d : D} {h : HP} (v : pl d = true) : runP P n 15 [d] h = .ok (.bl (shpB d)) h := by
  obtain ⟨m, rfl, hm⟩ := succ_of hn
  rw [e_is_shape]
  refine runD_same ?_ rfl
  show m_is_shape _ [some d, none] h = _
  unfold m_is_shape
  have cm : c_MOST_COLUMNS = .int 8 := rfl
  cases d with
  | tup xs =>
    obtain ⟨z, px⟩ := pl_tup v
    obtain ⟨ys, e1, e2, _⟩ := all_map (ρ := [some (.tup xs), none]) (h := h) (it := iA (eV 0)) (t := gN 1) (e := eCl (runP P m 14) 1 1 0 [0] (aC (eV 1) aN) aN) (vs := [1]) (s := xs) (m := ⟨xs, fun _ => True⟩) id colB rfl (List.map_id _).symm trivial (kline (by omega))
      fun x hx => ⟨[some (.tup xs), some x], rfl, by
        have := s_is_column (n := m) (by omega) (h := h) (px x hx)
        simp [this]⟩
    cases hb : xs.all colB with
    | false =>
      rw [hb] at e2
      by_cases h1 : 1 ≤ (xs.length : Int) <;> by_cases h2 : (xs.length : Int) ≤ 8 <;> simp [tyOfD, isiT, shpB, cm, h1, h2, e1, e2, hb]
    | true =>
      rw [hb] at e2
      have en := s_names_in (n := m) (by omega) (h := h) z hb
      have eu := s_unlike (n := m) (by omega) (l := xs.map nm) (h := h) (by rw [List.length_map]; exact z)
      by_cases h1 : 1 ≤ (xs.length : Int) <;> by_cases h2 : (xs.length : Int) ≤ 8 <;> simp [tyOfD, isiT, shpB, cm, h1, h2, e1, e2, hb, en, eu]
  | _ => first | (cases v; done) | simp [tyOfD, isiT, shpB]
/-! ### steps -/
def wNew : List Nat := [110,101,119]
def wAdd : List Nat := [97,100,100]
def wDrop : List Nat := [100,114,111,112]
def wName : List Nat := [110,97,109,101]
def wFirst : List Nat := [102,105,114,115,116]
def wPut : List Nat := [112,117,116]
def wTake : List Nat := [116,97,107,101]
def wGrow : List Nat := [103,114,111,119]
def wClock : List Nat := [99,108,111,99,107]
theorem k_new : c_NEW = .str wNew := rfl
theorem k_add : c_ADD = .str wAdd := rfl
theorem k_drop : c_DROP = .str wDrop := rfl
theorem k_name : c_NAME = .str wName := rfl
theorem k_first : c_FIRST = .str wFirst := rfl
theorem k_put : c_PUT = .str wPut := rfl
theorem k_take : c_TAKE = .str wTake := rfl
theorem k_grow : c_GROW = .str wGrow := rfl
theorem k_clock : c_CLOCK = .str wClock := rfl
def nth (v : D) (k : Nat) : D := match v with
  | .tup xs => xs.getD k .non
  | _ => .non
def stepB (v : D) : Bool := if tagB v wNew 1 = true then shpB (nth v 1) else if tagB v wAdd 1 = true then colB (nth v 1) else if tagB v wDrop 1 = true then nameB (nth v 1)
  else if tagB v wName 2 = true then nameB (nth v 1) && nameB (nth v 2) else tagB v wFirst 2 && (nameB (nth v 1) && (kd (nth v 2)).isSome)
theorem s_is_step {n : Nat} (hn : 6 ≤ n) {d : D} {h : HP} (v : pl d = true) : runP P n 17 [d] h = .ok (.bl (stepB d)) h := by
  obtain ⟨m, rfl, hm⟩ := succ_of hn
  rw [e_is_step]
  refine runD_same ?_ rfl
  show m_is_step _ [some d] h = _
  unfold m_is_step
  have t1 := s_is_tagged (n := m) (by omega) (h := h) (w := wNew) (k := 1) v
  have t2 := s_is_tagged (n := m) (by omega) (h := h) (w := wAdd) (k := 1) v
  have t3 := s_is_tagged (n := m) (by omega) (h := h) (w := wDrop) (k := 1) v
  have t4 := s_is_tagged (n := m) (by omega) (h := h) (w := wName) (k := 2) v
  have t5 := s_is_tagged (n := m) (by omega) (h := h) (w := wFirst) (k := 2) v
  rw [← k_new] at t1; rw [← k_add] at t2; rw [← k_drop] at t3; rw [← k_name] at t4; rw [← k_first] at t5
  unfold stepB
  cases b1 : tagB d wNew 1 with
  | true =>
    rw [b1] at t1
    obtain ⟨a, rfl⟩ := tag1 b1
    have e := s_is_shape (n := m) (by omega) (h := h) ((pl_tup v).2 a (by simp))
    simp at t1
    simp [t1, e, nth]
  | false =>
    rw [b1] at t1
    cases b2 : tagB d wAdd 1 with
    | true =>
      rw [b2] at t2
      obtain ⟨a, rfl⟩ := tag1 b2
      have e := s_is_column (n := m) (by omega) (h := h) ((pl_tup v).2 a (by simp))
      simp at t1 t2
      simp [t1, t2, e, nth]
    | false =>
      rw [b2] at t2
      cases b3 : tagB d wDrop 1 with
      | true =>
        rw [b3] at t3
        obtain ⟨a, rfl⟩ := tag1 b3
        have e := s_is_name (n := m) (by omega) (h := h) ((pl_tup v).2 a (by simp))
        simp at t1 t2 t3
        simp [t1, t2, t3, e, nth]
      | false =>
        rw [b3] at t3
        cases b4 : tagB d wName 2 with
        | true =>
          rw [b4] at t4
          obtain ⟨a, b, rfl⟩ := tag2 b4
          have e := s_is_name (n := m) (by omega) (h := h) ((pl_tup v).2 a (by simp))
          have e' := s_is_name (n := m) (by omega) (h := h) ((pl_tup v).2 b (by simp))
          simp at t1 t2 t3 t4
          simp [t1, t2, t3, t4, e, e', nth]
        | false =>
          rw [b4] at t4
          cases b5 : tagB d wFirst 2 with
          | true =>
            rw [b5] at t5
            obtain ⟨a, b, rfl⟩ := tag2 b5
            have e := s_is_name (n := m) (by omega) (h := h) ((pl_tup v).2 a (by simp))
            have e' := s_is_value (n := m) (by omega) (h := h) ((pl_tup v).2 b (by simp))
            simp at t1 t2 t3 t4 t5
            simp [t1, t2, t3, t4, t5, e, e', nth]
          | false =>
            rw [b5] at t5
            simp at t1 t2 t3 t4 t5
            simp [t1, t2, t3, t4, t5]
end Zk
end

/-! N4 -/
noncomputable section
namespace Zk
open PySem PySem.Spec L2 Zs
open PyProof.Rows hiding St
open Classical
def nvB : D → Bool
  | .tup [a, b] => nameB a && (kd b).isSome
  | _ => false
def toldB : D → Bool
  | .tup xs => xs.all pairB && decide ((xs.length : Int) ≤ 8) && (xs.all nvB && asc (xs.map nm))
  | _ => false
theorem nameB_str {d : D} (h : nameB d = true) : ∃ s, d = .str s := by
  cases d <;> first | (cases h; done) | exact ⟨_, rfl⟩
theorem nvB_of {x : D} (h : nvB x = true) : ∃ s b, x = .tup [.str s, b] ∧ nameB (.str s) = true ∧ (kd b).isSome = true := by
  unfold nvB at h
  split at h
  · rename_i a b
    rw [Bool.and_eq_true] at h
    obtain ⟨s, rfl⟩ := nameB_str h.1
    exact ⟨s, b, rfl, h.1, h.2⟩
  · cases h
theorem s_are_told {n : Nat} (hn : 5 ≤ n) {d : D} {h : HP} (v : pl d = true) : runP P n 19 [d] h = .ok (.bl (toldB d)) h := by
  obtain ⟨m, rfl, hm⟩ := succ_of hn
  rw [e_are_told]
  refine runD_same ?_ rfl
  show m_are_told _ [some d, none, none] h = _
  unfold m_are_told
  have cm : c_MOST_PAIRS = .int 8 := rfl
  have ep := s_are_pairs (n := m) (by omega) (h := h) v
  cases d with
  | tup xs =>
    obtain ⟨z, px⟩ := pl_tup v
    cases hp : xs.all pairB with
    | false =>
      have : pairsB (.tup xs) = false := hp
      rw [this] at ep
      simp [ep, toldB, hp]
    | true =>
      have : pairsB (.tup xs) = true := hp
      rw [this] at ep
      by_cases h8 : (xs.length : Int) ≤ 8
      · have h8' : ¬ (8 : Int) < xs.length := by omega
        obtain ⟨ys, e1, e2, _⟩ := all_map (ρ := [some (.tup xs), none, none]) (h := h) (it := iA (eV 0)) (t := gT 2 (gsC (gN 1) (gsC (gN 2) gsN))) (e := eAn (eCl (runP P m 5) 1 1 0 [0] (aC (eV 1) aN) aN) (eCl (runP P m 13) 1 1 0 [0] (aC (eV 2) aN) aN)) (vs := [1, 2]) (s := xs) (m := ⟨xs, fun _ => True⟩) id nvB rfl (List.map_id _).symm trivial (kline (by omega))
          fun x hx => by
            obtain ⟨a, b, rfl⟩ := pairB_of (List.all_eq_true.mp hp x hx)
            have vx := (pl_tup (px _ hx)).2
            have i1 := s_is_name (n := m) (by omega) (h := h) (vx a (by simp))
            have i2 := s_is_value (n := m) (by omega) (h := h) (vx b (by simp))
            refine ⟨[some (.tup xs), some a, some b], rfl, ?_⟩
            cases hb : nameB a <;> rw [hb] at i1 <;> simp [i1, i2, nvB, hb]
        cases hv : xs.all nvB with
        | false =>
          rw [hv] at e2
          simp [ep, toldB, hp, cm, h8', h8, e1, e2, hv]
        | true =>
          rw [hv] at e2
          have e3 := eLc_map (ρ := [some (.tup xs), none, none]) (h := h) (it := iA (eV 0)) (t := gT 2 (gsC (gN 1) (gsC (gN 2) gsN))) (e := eV 1) (vs := [1, 2]) (m := ⟨xs, fun _ => True⟩) (fun d => .str (nm d)) rfl trivial (fun d hd => by
            obtain ⟨s, b, rfl, _⟩ := nvB_of (List.all_eq_true.mp hv d hd)
            exact ⟨[some (.tup xs), some (.str s), some b], rfl, by simp [nm]⟩) (kline (by show xs.length ≤ _; omega))
          have e4 : xs.map (fun d => D.str (nm d)) = strsD (xs.map nm) := by unfold strsD; rw [List.map_map]; rfl
          rw [e4] at e3
          have ea := s_is_ascending (n := m) (by omega) (l := xs.map nm) (h := h) (by rw [List.length_map]; exact z)
          simp [ep, toldB, hp, cm, h8', h8, e1, e2, hv, e3, ea]
      · have h8' : (8 : Int) < xs.length := by omega
        simp [ep, toldB, hp, cm, h8', h8]
  | _ => simp [ep, toldB, pairsB]
def deedB (v : D) : Bool := if tagB v wPut 2 = true then nameB (nth v 1) && toldB (nth v 2) else if tagB v wTake 1 = true then betw 1 1000000 (nth v 1) else if tagB v wGrow 2 = true then nameB (nth v 1) && stepB (nth v 2)
  else tagB v wClock 1 && betw 0 1000000000 (nth v 1)
theorem s_is_deed {n : Nat} (hn : 7 ≤ n) {d : D} {h : HP} (v : pl d = true) : runP P n 20 [d] h = .ok (.bl (deedB d)) h := by
  obtain ⟨m, rfl, hm⟩ := succ_of hn
  rw [e_is_deed]
  refine runD_same ?_ rfl
  show m_is_deed _ [some d] h = _
  unfold m_is_deed
  have t1 := s_is_tagged (n := m) (by omega) (h := h) (w := wPut) (k := 2) v
  have t2 := s_is_tagged (n := m) (by omega) (h := h) (w := wTake) (k := 1) v
  have t3 := s_is_tagged (n := m) (by omega) (h := h) (w := wGrow) (k := 2) v
  have t4 := s_is_tagged (n := m) (by omega) (h := h) (w := wClock) (k := 1) v
  rw [← k_put] at t1; rw [← k_take] at t2; rw [← k_grow] at t3; rw [← k_clock] at t4
  unfold deedB
  cases b1 : tagB d wPut 2 with
  | true =>
    rw [b1] at t1
    obtain ⟨a, b, rfl⟩ := tag2 b1
    have e := s_is_name (n := m) (by omega) (h := h) ((pl_tup v).2 a (by simp))
    have e' := s_are_told (n := m) (by omega) (h := h) ((pl_tup v).2 b (by simp))
    simp at t1
    cases hb : nameB a <;> rw [hb] at e <;> simp [t1, e, e', nth, hb]
  | false =>
    rw [b1] at t1
    cases b2 : tagB d wTake 1 with
    | true =>
      rw [b2] at t2
      obtain ⟨a, rfl⟩ := tag1 b2
      have e := s_is_number (n := m) (by omega) (h := h) ((pl_tup v).2 a (by simp))
      simp at t1 t2
      simp [t1, t2, e, nth]
    | false =>
      rw [b2] at t2
      cases b3 : tagB d wGrow 2 with
      | true =>
        rw [b3] at t3
        obtain ⟨a, b, rfl⟩ := tag2 b3
        have e := s_is_name (n := m) (by omega) (h := h) ((pl_tup v).2 a (by simp))
        have e' := s_is_step (n := m) (by omega) (h := h) ((pl_tup v).2 b (by simp))
        simp at t1 t2 t3
        cases hb : nameB a <;> rw [hb] at e <;> simp [t1, t2, t3, e, e', nth, hb]
      | false =>
        rw [b3] at t3
        cases b4 : tagB d wClock 1 with
        | true =>
          rw [b4] at t4
          obtain ⟨a, rfl⟩ := tag1 b4
          have e := s_is_time (n := m) (by omega) (h := h) ((pl_tup v).2 a (by simp))
          simp at t1 t2 t3 t4
          simp [t1, t2, t3, t4, e, nth]
        | false =>
          rw [b4] at t4
          simp at t1 t2 t3 t4
          simp [t1, t2, t3, t4]
def letB : D → Bool
  | .tup [a, b, c, d] => nameB a && betw 1 1000000 b && (betw 0 1000000000 c && deedB d)
  | _ => false
theorem s_is_letter {n : Nat} (hn : 8 ≤ n) {d : D} {h : HP} (v : pl d = true) : runP P n 21 [d] h = .ok (.bl (letB d)) h := by
  obtain ⟨m, rfl, hm⟩ := succ_of hn
  rw [e_is_letter]
  refine runD_same ?_ rfl
  show m_is_letter _ [some d] h = _
  unfold m_is_letter
  cases d with
  | tup xs =>
    obtain ⟨z, px⟩ := pl_tup v
    match xs, px with
    | [], _ => simp [tyOfD, isiT, letB]
    | [_], _ => simp [tyOfD, isiT, letB]
    | [_, _], _ => simp [tyOfD, isiT, letB]
    | [_, _, _], _ => simp [tyOfD, isiT, letB]
    | [a, b, c, d], px =>
      have e1 := s_is_name (n := m) (by omega) (h := h) (px a (by simp))
      have e2 := s_is_number (n := m) (by omega) (h := h) (px b (by simp))
      have e3 := s_is_time (n := m) (by omega) (h := h) (px c (by simp))
      have e4 := s_is_deed (n := m) (by omega) (h := h) (px d (by simp))
      cases h1 : nameB a <;> rw [h1] at e1 <;> cases h2 : betw 1 1000000 b <;> rw [h2] at e2 <;> cases h3 : betw 0 1000000000 c <;> rw [h3] at e3 <;> simp [tyOfD, isiT, letB, e1, e2, e3, e4, h1, h2, h3]
    | _ :: _ :: _ :: _ :: _ :: xs, _ =>
      have : ¬ ((xs.length : Int) + 1 + 1 + 1 + 1 + 1 = 4) := by omega
      simp [tyOfD, isiT, letB, this]
  | _ => first | (cases v; done) | simp [tyOfD, isiT, letB]
end Zk
end

/-! N5 -/
noncomputable section
namespace Zk
open PySem PySem.Spec L2 Zs
open PyProof.Rows hiding St
open Classical
open PySem.NumText (digitsVal AllDigits)
/-! ### the texts of ints -/
def dg (n : Nat) : List Nat := if n < 10 then [48 + n] else dg (n / 10) ++ [48 + n % 10]
termination_by n
decreasing_by omega
theorem dg_small {n : Nat} (h : n < 10) : dg n = [48 + n] := by rw [dg, if_pos h]
theorem dg_big {n : Nat} (h : ¬ n < 10) : dg n = dg (n / 10) ++ [48 + n % 10] := by rw [dg, if_neg h]
theorem dg_all (n : Nat) : AllDigits (dg n) := by
  induction n using Nat.strongRecOn with
  | ind n ih =>
    by_cases h : n < 10
    · rw [dg_small h]
      intro c hc
      rw [List.mem_singleton] at hc
      omega
    · rw [dg_big h]
      intro c hc
      rcases List.mem_append.mp hc with hc | hc
      · exact ih (n / 10) (by omega) c hc
      · rw [List.mem_singleton] at hc
        omega
theorem dg_val (n : Nat) : digitsVal (dg n) = n := by
  induction n using Nat.strongRecOn with
  | ind n ih =>
    by_cases h : n < 10
    · rw [dg_small h]
      show 0 * 10 + (48 + n - 48) = n
      omega
    · rw [dg_big h, PySem.NumText.digitsVal_snoc, ih (n / 10) (by omega)]
      omega
theorem dg_head (n : Nat) : (n = 0 ∧ dg n = [48]) ∨ ∃ c r, dg n = c :: r ∧ 49 ≤ c := by
  induction n using Nat.strongRecOn with
  | ind n ih =>
    by_cases h : n < 10
    · rw [dg_small h]
      by_cases z : n = 0
      · subst z; exact .inl ⟨rfl, rfl⟩
      · exact .inr ⟨_, _, rfl, by omega⟩
    · rw [dg_big h]
      rcases ih (n / 10) (by omega) with ⟨z, _⟩ | ⟨c, r, e, hc⟩
      · omega
      · rw [e]; exact .inr ⟨c, _, rfl, hc⟩
theorem dg_len (n : Nat) : ∀ k : Nat, n < 10 ^ (k + 1) → (dg n).length ≤ k + 1 := by
  induction n using Nat.strongRecOn with
  | ind n ih =>
    intro k hk
    by_cases h : n < 10
    · rw [dg_small h]; simp
    · cases k with
      | zero => omega
      | succ k =>
        rw [dg_big h, List.length_append, List.length_singleton]
        have := ih (n / 10) (by omega) k (by
          rw [Nat.pow_succ] at hk
          omega)
        omega
theorem dg_pos (n : Nat) : 1 ≤ (dg n).length := by
  rcases dg_head n with ⟨_, e⟩ | ⟨c, r, e, _⟩ <;> rw [e] <;> simp
theorem toDig (n : Nat) : (Nat.toDigits 10 n).map Char.toNat = dg n := by
  have hl := dg_pos n
  have e := PySem.NumText.toDigits_digitsVal ((dg n).length - 1) (dg n) (by omega) (dg_all n) (by
    rcases dg_head n with ⟨_, e⟩ | h
    · left; rw [e]; rfl
    · exact .inr h)
  rw [dg_val] at e
  rw [e, List.map_map]
  have : ∀ l : List Nat, AllDigits l → l.map (Char.toNat ∘ Char.ofNat) = l := fun l hl => by
    induction l with
    | nil => rfl
    | cons c l ih =>
      have hc := hl.head
      rw [List.map_cons, ih hl.tail]
      congr 1
      have key : ∀ d, d < 10 → (Char.ofNat (48 + d)).toNat = 48 + d := by decide
      have := key (c - 48) (by omega)
      rw [show 48 + (c - 48) = c by omega] at this
      exact this
  exact this _ (dg_all n)
theorem intT_nat (n : Nat) : intT (n : Int) = dg n := by
  show (PySem.Str.ofString (toString ((n : Nat) : Int))).cps.toList = _
  rw [PySem.W.KIN.signs_num, toDig]
theorem ofString_list (t : String) : (PySem.Str.ofString t).cps.toList = t.toList.map Char.toNat := signs_ofString t
theorem intT_neg (n : Nat) : intT (-((n + 1 : Nat) : Int)) = 45 :: dg (n + 1) := by
  show (PySem.Str.ofString (toString (Int.negSucc n))).cps.toList = _
  rw [ofString_list]
  have e : toString (Int.negSucc n) = "-" ++ toString (n + 1) := rfl
  rw [e, String.toList_append, List.map_append]
  have e2 : (toString (n + 1)).toList.map Char.toNat = dg (n + 1) := by
    have := intT_nat (n + 1)
    rw [← this]
    show _ = (PySem.Str.ofString (toString (((n + 1 : Nat)) : Int))).cps.toList
    rw [ofString_list]
    rfl
  rw [e2]
  rfl
theorem int_cases (i : Int) : (∃ n : Nat, i = n) ∨ ∃ n : Nat, i = -((n + 1 : Nat) : Int) := by
  by_cases h : 0 ≤ i
  · exact .inl ⟨i.toNat, by omega⟩
  · exact .inr ⟨(-i - 1).toNat, by omega⟩
/-! ### read_integer -/
def figs (w : List Nat) : List Nat := if w.take 1 = [45] then w.drop 1 else w
def figB (c : Nat) : Bool := decide (c ∈ figL)
def okFig (f : List Nat) : Bool := (decide (1 ≤ (f.length : Int)) && decide ((f.length : Int) ≤ 300)) && f.all figB
def RI (w : List Nat) : D := if okFig (figs w) = false then .non else match figs w with
  | c :: r => if c = 48 ∧ (1 < ((c :: r).length : Int) ∨ w ≠ c :: r) then .non else .int ((PySem.intText? (strV w)).getD 0)
  | [] => .non
theorem fig_digit {c : Nat} (h : figB c = true) : 48 ≤ c ∧ c ≤ 57 := by
  have h := of_decide_eq_true h
  simp [figL] at h
  omega
theorem digit_fig {c : Nat} (h : 48 ≤ c ∧ c ≤ 57) : figB c = true := by
  refine decide_eq_true ?_
  simp [figL]
  omega
theorem figs_all {f : List Nat} (h : f.all figB = true) : AllDigits f := fun c hc => fig_digit (List.all_eq_true.mp h c hc)
/-- what has figures alone is read -/
theorem text_some {w : List Nat} (ha : AllDigits (figs w)) (hn : figs w ≠ []) (hl : w.length ≤ 640) : ∃ n, PySem.intText? (strV w) = some n := by
  have hz : (strV w).length ≤ 4300 := by rw [strV_len]; omega
  unfold figs at ha hn
  split at ha
  · rename_i z
    rw [if_pos z] at hn
    match w, z with
    | c :: cs, z =>
      have : c = 45 := by simpa using z
      subst this
      exact ⟨_, PySem.intText_neg (x := strV (45 :: cs)) (cs := cs) (strV_list _) ha hn hz⟩
    | [], z => exact absurd z (by simp)
  · rename_i z
    rw [if_neg z] at hn
    exact ⟨_, PySem.intText_digits (x := strV w) (by rw [strV_list]; exact ha) (by rw [strV_list]; exact hn) hz⟩
theorem figs_len (w : List Nat) : w.length ≤ (figs w).length + 1 := by
  unfold figs
  split
  · rw [List.length_drop]; omega
  · omega
theorem s_read_integer {n : Nat} (hn : 1 ≤ n) {w : List Nat} {h : HP} (hz : w.length ≤ 100000) : runP P n 3 [.str w] h = .ok (RI w) h := by
  obtain ⟨m, rfl, hm⟩ := succ_of hn
  rw [e_read_integer]
  have rnn : nn h.length (RI w) = true := by
    unfold RI
    split
    · rfl
    · split
      · split <;> rfl
      · rfl
  refine runD_same ?_ rnn
  show m_read_integer _ [some (.str w), none, none] h = _
  unfold m_read_integer
  have cm : c_MOST_FIGURES = .int 300 := rfl
  have e0 : sAs (eIf (tV (e2 bEq2 (eSl false (eV 0) oN (oS (eC (.int (1))))) (eC (.str [45])))) (eSl false (eV 0) (oS (eC (.int (1)))) oN) (eV 0)) (gN 1) [some (.str w), none, none] h = .ok (.nx [some (.str w), some (.str (figs w)), none]) h := by
    by_cases z : w.take 1 = [45]
    · simp [figs, z]
    · simp [figs, z]
  rw [seq_ok e0]
  have lf : (figs w).length ≤ w.length := by
    unfold figs
    split
    · rw [List.length_drop]; omega
    · omega
  obtain ⟨ys, e1, e2, _⟩ := all_map (ρ := [some (.str w), some (.str (figs w)), none]) (h := h) (it := iA (eV 1)) (t := gN 2) (e := e2 (bIn2 false) (eV 2) (eC c_FIGURES)) (vs := [2]) (fun c => .str [c]) figB rfl rfl trivial (kline (show (figs w).length ≤ 100000 by omega))
    fun c _ => ⟨[some (.str w), some (.str (figs w)), some (.str [c])], rfl, by simp [c_fig, figB]⟩
  unfold RI
  cases hok : okFig (figs w) with
  | false =>
    rw [if_pos rfl]
    unfold okFig at hok
    by_cases h1 : 1 ≤ ((figs w).length : Int) <;> by_cases h2 : ((figs w).length : Int) ≤ 300
    · cases h3 : (figs w).all figB with
      | true => simp [h1, h2, h3] at hok
      | false => rw [h3] at e2; simp [cm, h1, h2, e1, e2]
    · simp [cm, h1, h2]
    · simp [cm, h1, h2]
    · simp [cm, h1, h2]
  | true =>
    rw [if_neg (by simp)]
    unfold okFig at hok
    rw [Bool.and_eq_true, Bool.and_eq_true, decide_eq_true_eq, decide_eq_true_eq] at hok
    obtain ⟨⟨h1, h2⟩, h3⟩ := hok
    have fl := figs_len w
    obtain ⟨k, hk⟩ := text_some (figs_all h3) (by intro z; rw [z] at h1; simp at h1) (by omega)
    have e4 : fInt2 [.str w] h = .ok (.int k) h := by
      show (match PySem.intText? (strV w) with
        | some n => if w.length ≤ 640 then R.ok (D.int n) h else .bad
        | none => .bad) = _
      rw [hk]
      dsimp only
      rw [if_pos (by omega)]
    rw [h3] at e2
    rw [hk]
    generalize figs w = f at *
    cases f with
    | nil => simp at h1
    | cons c r =>
      have i0 : bIx2 (.str (c :: r)) (.int 0) h = .ok (.str [c]) h := w_ix0
      have g1 : ((c :: r).length : Int) = (r.length : Int) + 1 := by simp
      rw [g1] at h1 h2
      dsimp only
      by_cases z : c = 48
      · subst z
        by_cases z3 : (1 : Int) < (r.length : Int) + 1
        · simp [cm, h1, h2, e1, e2, i0, z3]
        · by_cases z4 : w = 48 :: r
          · subst z4
            simp [cm, h1, h2, e1, e2, i0, z3, e4]
          · simp [cm, h1, h2, e1, e2, i0, z3, z4]
      · simp [cm, h1, h2, e1, e2, i0, z, e4]
end Zk
end

/-! N6 -/
set_option exponentiation.threshold 9000
noncomputable section
namespace Zk
open PySem PySem.Spec L2 Zs
open PyProof.Rows hiding St
open Classical
/-! ### loops that gather -/
theorem forM_fold {t : GM} {b : SM} {chk : HP → Prop} (J : List D → Env' → HP → Prop) (Q : Fl → HP → Prop) (hc : ∀ p ρ h, J p ρ h → chk h) : ∀ (xs p : List D) (ρ : Env') (h : HP), J p ρ h →
    (∀ (p : List D) (d : D) ρ h, d ∈ xs → J p ρ h → ∃ ρ1 h1, t d ρ h = .ok ρ1 h1 ∧ Wp (b ρ1 h1) fun f h2 => match f with
      | .nx ρ2 => J (p ++ [d]) ρ2 h2
      | _ => False) → (∀ ρ h, J (p ++ xs) ρ h → Q (.nx ρ) h) → Wp (forM t b chk xs ρ h) Q
  | [], p, ρ, h, j, _, hq => by
    unfold Zs.forM
    rw [if_pos (hc p ρ h j)]
    exact hq ρ h (by simpa using j)
  | d :: r, p, ρ, h, j, hx, hq => by
    unfold Zs.forM
    rw [if_pos (hc p ρ h j)]
    obtain ⟨ρ1, h1, e1, w1⟩ := hx p d ρ h List.mem_cons_self j
    obtain ⟨f, h2, e2, w2⟩ := w1.ex
    rw [e1]
    dsimp only
    rw [e2]
    cases f with
    | nx ρ2 => exact forM_fold J Q hc r (p ++ [d]) ρ2 h2 w2 (fun p' d' ρ h hd => hx p' d' ρ h (List.mem_cons_of_mem _ hd)) fun ρ h q => hq ρ h (by simpa using q)
    | _ => exact w2.elim
/-- an open list handed out -/
theorem fin_open {h : HP} {ys : List D} (hy : ∀ y ∈ ys, nn h.length y = true) : fin false 1 h (.ref h.length) (h ++ [some (.lst ys)]) = .ok (.lst ys) h := by
  have o : okOld h (h ++ [some (.lst ys)]) := ⟨by simp, fun i o hi e => .inl (by rw [List.getElem?_append_left hi] at e; exact e)⟩
  have e0 : (h ++ [some (.lst ys)])[h.length]? = some (some (.lst ys)) := by simp
  have em : mapO (frz h.length (h ++ [some (.lst ys)]) 0) ys = some ys := by
    clear e0 o
    induction ys with
    | nil => rfl
    | cons y ys ih =>
      have h1 := hy y List.mem_cons_self
      have h2 := ih fun z hz => hy z (List.mem_cons_of_mem _ hz)
      have key : ∀ (hh : HP) (l : List D), (∀ z ∈ l, nn h.length z = true) → mapO (frz h.length hh 0) l = some l := fun hh l hl => by
        induction l with
        | nil => rfl
        | cons z l ih =>
          unfold mapO
          rw [frz_flat (hl z List.mem_cons_self)]
          dsimp only
          rw [ih fun w hw => hl w (List.mem_cons_of_mem _ hw)]
      exact key _ _ hy
  show (if okOld h _ then (match frz h.length _ 1 (.ref h.length) with
    | some d' => R.ok d' (List.take h.length _)
    | none => .bad) else .bad) = _
  rw [if_pos o]
  have ef : frz h.length (h ++ [some (.lst ys)]) 1 (.ref h.length) = some (.lst ys) := by
    unfold frz
    rw [if_neg (by show ¬ decide (h.length < h.length) = true; simp)]
    dsimp only
    rw [e0]
    dsimp only
    rw [em]
  rw [ef]
  simp
theorem runD_open {n : Nat} {m : SM} {ds : List D} {h : HP} {ys : List D} (e : m (startE n ds) h = .ok (.ret (.ref h.length)) (h ++ [some (.lst ys)])) (hy : ∀ y ∈ ys, nn h.length y = true) : runD false 1 n m ds h = .ok (.lst ys) h := by
  unfold runD; rw [e]; exact fin_open hy
/-! ### the texts of values -/
def valT : D → List Nat
  | .str s => 39 :: s
  | .int i => intT i
  | _ => []
theorem kd_of {d : D} (h : (kd d).isSome = true) : (∃ i : Int, d = .int i ∧ -1000000000000 ≤ i ∧ i ≤ 1000000000000) ∨ ∃ s, d = .str s ∧ signs 12 (.str s) = true := by
  unfold kd at h
  split at h
  · rename_i z
    cases d <;> first | (cases z; done) | skip
    rename_i i
    have z : (decide (-1000000000000 ≤ i) && decide (i ≤ 1000000000000)) = true := z
    rw [Bool.and_eq_true, decide_eq_true_eq, decide_eq_true_eq] at z
    exact .inl ⟨i, rfl, z⟩
  · split at h
    · rename_i z
      cases d <;> first | (cases z; done) | skip
      exact .inr ⟨_, rfl, z⟩
    · cases h
theorem signs_len {k : Int} {s : List Nat} (h : signs k (.str s) = true) : 1 ≤ s.length ∧ (s.length : Int) ≤ k ∧ s.all sign = true := by
  have h : (decide (1 ≤ (s.length : Int)) && decide ((s.length : Int) ≤ k) && s.all sign) = true := h
  rw [Bool.and_eq_true, Bool.and_eq_true, decide_eq_true_eq, decide_eq_true_eq] at h
  exact ⟨by omega, h.1.2, h.2⟩
theorem nameB_len {s : List Nat} (h : nameB (.str s) = true) : 1 ≤ s.length ∧ s.length ≤ 8 ∧ s.all sign = true := by
  have h : (signs 8 (.str s) && _) = true := h
  have := signs_len (Bool.and_eq_true_iff.mp h).1
  exact ⟨this.1, by omega, this.2.2⟩
theorem intT_len {i : Int} {k : Nat} (h : i.natAbs < 10 ^ (k + 1)) : (intT i).length ≤ k + 2 := by
  rcases int_cases i with ⟨n, rfl⟩ | ⟨n, rfl⟩
  · rw [intT_nat]
    have := dg_len n k (by simpa using h)
    omega
  · rw [intT_neg, List.length_cons]
    have := dg_len (n + 1) k (by have e : (-((n + 1 : Nat) : Int)).natAbs = n + 1 := by omega
                                 rw [e] at h; exact h)
    omega
theorem str_int {i : Int} {h : HP} (z : i.natAbs < 10 ^ 18) : fStr [.int i] h = .ok (.str (intT i)) h := by
  show (if i.natAbs.log2 < 1920 ∧ (intT i).length < 100000 then R.ok (D.str (intT i)) h else .bad) = _
  have := intT_len (i := i) (k := 17) z
  rw [if_pos ⟨PySem.Flt.log2_lt_of (by decide) (Nat.lt_trans z (by decide)), by omega⟩]
@[simp] theorem str_str {s : List Nat} {h : HP} : fStr [.str s] h = .ok (.str s) h := rfl
theorem s_value_text {n : Nat} (hn : 1 ≤ n) {d : D} {h : HP} (v : (kd d).isSome = true) : runP P n 23 [d] h = .ok (.str (valT d)) h := by
  obtain ⟨m, rfl, hm⟩ := succ_of hn
  rw [e_value_text]
  refine runD_same ?_ rfl
  show m_value_text _ [some d] h = _
  unfold m_value_text
  have cm : c_MARK = .str [39] := rfl
  rcases kd_of v with ⟨i, rfl, h1, h2⟩ | ⟨s, rfl, hs⟩
  · have e := str_int (i := i) (h := h) (by omega)
    simp [tyOfD, isiT, e, valT]
  · have := signs_len hs
    have e := add_str (o := false) (s := [39]) (t := s) (h := h) (by rw [sizeLine_eq]; simp; omega)
    simp [tyOfD, isiT, e, valT, cm]
theorem s_law_word {n : Nat} (hn : 1 ≤ n) {d : D} {h : HP} (v : (kd d).isSome = true) : runP P n 48 [d] h = .ok (.str (valT d)) h := by
  obtain ⟨m, rfl, hm⟩ := succ_of hn
  rw [e__law_word]
  refine runD_same ?_ rfl
  show m__law_word _ [some d] h = _
  unfold m__law_word
  rcases kd_of v with ⟨i, rfl, h1, h2⟩ | ⟨s, rfl, hs⟩
  · have e := str_int (i := i) (h := h) (by omega)
    simp [tyOfD, isiT, e, valT]
  · have := signs_len hs
    have e := add_str (o := false) (s := [39]) (t := s) (h := h) (by rw [sizeLine_eq]; simp; omega)
    simp [tyOfD, isiT, e, valT]
end Zk
end

/-! N7 -/
noncomputable section
namespace Zk
open PySem PySem.Spec L2 Zs
open PyProof.Rows hiding St
open Classical
@[simp] theorem w_aS {a : EM} {r : AM} {ρ : Env'} {h : HP} : aS a r ρ h = (a ρ h).bnd fun x h1 => match sqOf x h1 with
  | some xs => (r ρ h1).bnd fun ys h2 => .ok (xs ++ ys) h2
  | none => .bad := rfl
@[simp] theorem w_sqL {xs : List D} {h : HP} : sqOf (.lst xs) h = some xs := rfl
@[simp] theorem w_sqT {xs : List D} {h : HP} : sqOf (.tup xs) h = some xs := rfl
@[simp] theorem w_eMt {c : D → HP → Bool} {f : D → List D → HP → R D} {a : EM} {r : AM} {ρ : Env'} {h : HP} : eMt c f a r ρ h = (a ρ h).bnd fun x h1 => bif c x h1 then (r ρ h1).bnd fun xs h2 => f x xs h2 else .bad := rfl
theorem fLst_c {xs : List D} {h : HP} (z : xs.length ≤ 100000) : fLst false xs h = .ok (.lst xs) h := by
  unfold fLst
  rw [if_pos (kline z)]; rfl
theorem fLst_o {xs : List D} {h : HP} (z : xs.length ≤ 100000) : fLst true xs h = .ok (.ref h.length) (h ++ [some (.lst xs)]) := by
  unfold fLst
  rw [if_pos (kline z)]; rfl
/-! ### the words of columns, steps, deeds, letters -/
def tx : D → List Nat
  | .str s => s
  | _ => []
def items : D → List D
  | .tup xs => xs
  | _ => []
def colW (d : D) : List (List Nat) := [tx (nth d 0), tx (nth d 1), valT (nth d 2)]
theorem kd_some {c : D} {t : List Nat} (h : kV (kd c) = .str t) : (kd c).isSome = true := by
  cases q : kd c with
  | none => rw [q] at h; cases h
  | some b => rfl
theorem s_column_words {n : Nat} (hn : 2 ≤ n) {d : D} {h : HP} (v : colB d = true) : runP P n 25 [d] h = .ok (.lst (strsD (colW d))) h := by
  obtain ⟨m, rfl, hm⟩ := succ_of hn
  rw [e_column_words]
  obtain ⟨s, t, c, rfl, h1, h2, h3⟩ := colB_of v
  refine runD_same ?_ rfl
  show m_column_words _ [some (.tup [.str s, .str t, c])] h = _
  unfold m_column_words
  have e := s_value_text (n := m) (by omega) (h := h) (kd_some h3)
  simp [e, fLst_c, colW, nth, tx, strsD]
def pairW (d : D) : List (List Nat) := [tx (nth d 0), valT (nth d 1)]
def stepW (d : D) : List (List Nat) := if tx (nth d 0) = wNew then wNew :: (items (nth d 1)).flatMap colW else if tx (nth d 0) = wAdd then wAdd :: colW (nth d 1) else if tx (nth d 0) = wFirst then [wFirst, tx (nth d 1), valT (nth d 2)] else (items d).map tx
def deedW (d : D) : List (List Nat) := if tx (nth d 0) = wPut then [wPut, tx (nth d 1)] ++ (items (nth d 2)).flatMap pairW else if tx (nth d 0) = wGrow then [wGrow, tx (nth d 1)] ++ stepW (nth d 2) else [tx (nth d 0), valT (nth d 1)]
def letW (d : D) : List (List Nat) := [tx (nth d 0), valT (nth d 1), valT (nth d 2)] ++ deedW (nth d 3)
/-- what a step is -/
theorem stepB_of {d : D} (h : stepB d = true) : (∃ xs, d = .tup [.str wNew, .tup xs] ∧ shpB (.tup xs) = true) ∨ (∃ a, d = .tup [.str wAdd, a] ∧ colB a = true) ∨ (∃ s, d = .tup [.str wDrop, .str s] ∧ nameB (.str s) = true) ∨
    (∃ s t, d = .tup [.str wName, .str s, .str t] ∧ nameB (.str s) = true ∧ nameB (.str t) = true) ∨ ∃ s b, d = .tup [.str wFirst, .str s, b] ∧ nameB (.str s) = true ∧ (kd b).isSome = true := by
  unfold stepB at h
  split at h
  · rename_i z
    obtain ⟨a, rfl⟩ := tag1 z
    have h : shpB a = true := h
    cases a <;> first | (cases h; done) | exact .inl ⟨_, rfl, h⟩
  · split at h
    · rename_i z
      obtain ⟨a, rfl⟩ := tag1 z
      exact .inr (.inl ⟨a, rfl, h⟩)
    · split at h
      · rename_i z
        obtain ⟨a, rfl⟩ := tag1 z
        have h : nameB a = true := h
        obtain ⟨s, rfl⟩ := nameB_str h
        exact .inr (.inr (.inl ⟨s, rfl, h⟩))
      · split at h
        · rename_i z
          obtain ⟨a, b, rfl⟩ := tag2 z
          have h : (nameB a && nameB b) = true := h
          rw [Bool.and_eq_true] at h
          obtain ⟨s, rfl⟩ := nameB_str h.1
          obtain ⟨t, rfl⟩ := nameB_str h.2
          exact .inr (.inr (.inr (.inl ⟨s, t, rfl, h.1, h.2⟩)))
        · rw [Bool.and_eq_true] at h
          obtain ⟨a, b, rfl⟩ := tag2 h.1
          have h2 : (nameB a && (kd b).isSome) = true := h.2
          rw [Bool.and_eq_true] at h2
          obtain ⟨s, rfl⟩ := nameB_str h2.1
          exact .inr (.inr (.inr (.inr ⟨s, b, rfl, h2.1, h2.2⟩)))
theorem shpB_of {xs : List D} (h : shpB (.tup xs) = true) : 1 ≤ xs.length ∧ xs.length ≤ 8 ∧ xs.all colB = true ∧ unl (xs.map nm) = true := by
  have h : (decide (1 ≤ (xs.length : Int)) && decide ((xs.length : Int) ≤ 8) && (xs.all colB && unl (xs.map nm))) = true := h
  rw [Bool.and_eq_true, Bool.and_eq_true, Bool.and_eq_true, decide_eq_true_eq, decide_eq_true_eq] at h
  exact ⟨by omega, by omega, h.2.1, h.2.2⟩
theorem flat_len {α : Type} {f : α → List (List Nat)} {c : Nat} (hf : ∀ x, (f x).length = c) : ∀ xs : List α, (xs.flatMap f).length = xs.length * c
  | [] => by simp
  | x :: xs => by rw [List.flatMap_cons, List.length_append, hf, flat_len hf xs, List.length_cons, Nat.add_mul, Nat.one_mul, Nat.add_comm]
theorem strs_nn (n : Nat) (l : List (List Nat)) : ∀ y ∈ strsD l, nn n y = true := fun y hy => by
  obtain ⟨s, _, rfl⟩ := List.mem_map.mp hy
  rfl
theorem strs_app (a b : List (List Nat)) : strsD (a ++ b) = strsD a ++ strsD b := List.map_append
theorem strs_nnl (n : Nat) (l : List (List Nat)) : nn n (.lst (strsD l)) = true := nnL_all.mpr (strs_nn n l)
theorem set_same {h : HP} {j : Nat} {x : Option O} (e : h[j]? = some x) : h.set j x = h := by
  apply List.ext_getElem?
  intro i
  by_cases z : j = i
  · subst z
    rw [List.getElem?_set_self (List.getElem?_eq_some_iff.mp e).1, e]
  · rw [List.getElem?_set_ne z]
theorem at_set {h : HP} {j : Nat} {x y : Option O} (e : h[j]? = some x) : (h.set j y)[j]? = some y := List.getElem?_set_self (List.getElem?_eq_some_iff.mp e).1
/-- one more piece -/
theorem ext_ok {h : HP} {i j : Nat} {ρ : Env'} {e : EM} {init w : List (List Nat)} (hi : ρ[i]? = some (some (.ref j))) (hj : h[j]? = some (some (.lst (strsD init)))) (he : e ρ h = .ok (.lst (strsD w)) h) (z : (init ++ w).length ≤ 1000) :
    sEx (eMt isLstD mExt (eV i) (aC e aN)) ρ h = .ok (.nx ρ) (h.set j (some (.lst (strsD (init ++ w))))) := by
  obtain ⟨x1, x2⟩ := ext_at (i := j) (ys := strsD init) (zs := strsD w) (y := .lst (strsD w)) hj rfl (by rw [lstr_len, lstr_len]; rw [List.length_append] at z; exact z)
  rw [strs_app]
  simp [hi, he, x1, x2]
theorem app_ok {h : HP} {i j : Nat} {ρ : Env'} {e : EM} {init : List (List Nat)} {w : List Nat} (hi : ρ[i]? = some (some (.ref j))) (hj : h[j]? = some (some (.lst (strsD init)))) (he : e ρ h = .ok (.str w) h) (z : init.length < 1000) :
    sEx (eMt isLstD mApp (eV i) (aC e aN)) ρ h = .ok (.nx ρ) (h.set j (some (.lst (strsD (init ++ [w]))))) := by
  obtain ⟨x1, x2⟩ := app_at (i := j) (ys := strsD init) (y := .str w) hj (by rw [lstr_len]; exact z)
  have : strsD init ++ [.str w] = strsD (init ++ [w]) := by rw [strs_app]; rfl
  rw [this] at x1
  simp [hi, he, x1, x2]
theorem loop_ext {t : GM} {e : EM} {chk : HP → Prop} {i j : Nat} {E : Env' → Prop} {f : D → List (List Nat)} (hi : ∀ ρ, E ρ → ρ[i]? = some (some (.ref j))) (hc : ∀ h, chk h) : ∀ (L : List D) (ρ : Env') (h : HP) (init : List (List Nat)), E ρ → h[j]? = some (some (.lst (strsD init))) → (init ++ L.flatMap f).length ≤ 1000 →
    (∀ d ∈ L, ∀ ρ h, E ρ → ∃ ρ1, t d ρ h = .ok ρ1 h ∧ E ρ1 ∧ e ρ1 h = .ok (.lst (strsD (f d))) h) →
    ∃ ρ2, E ρ2 ∧ Zs.forM t (sSq (sEx (eMt isLstD mExt (eV i) (aC e aN))) sNx) chk L ρ h = .ok (.nx ρ2) (h.set j (some (.lst (strsD (init ++ L.flatMap f)))))
  | [], ρ, h, init, hE, hj, _, _ => by
    refine ⟨ρ, hE, ?_⟩
    unfold Zs.forM
    rw [if_pos (hc h)]
    have : init ++ ([] : List D).flatMap f = init := by simp
    rw [this, set_same hj]
  | d :: L, ρ, h, init, hE, hj, hz, ht => by
    obtain ⟨ρ1, e1, E1, e2⟩ := ht d List.mem_cons_self ρ h hE
    have ea : init ++ (d :: L).flatMap f = (init ++ f d) ++ L.flatMap f := by rw [List.flatMap_cons, List.append_assoc]
    rw [ea] at hz ⊢
    have e3 := ext_ok (hi ρ1 E1) hj e2 (by rw [List.length_append] at hz; omega)
    unfold Zs.forM
    rw [if_pos (hc h), e1]
    dsimp only
    rw [seq_ok e3]
    simp only [w_sNx]
    obtain ⟨ρ2, E2, e4⟩ := loop_ext hi hc L ρ1 _ (init ++ f d) E1 (at_set hj) hz fun d' hd => ht d' (List.mem_cons_of_mem _ hd)
    refine ⟨ρ2, E2, ?_⟩
    rw [e4, List.set_set]
theorem snoc_at {h : HP} {x : Option O} : (h ++ [x])[h.length]? = some x := by simp
theorem snoc_set {h : HP} {x y : Option O} : (h ++ [x]).set h.length y = h ++ [y] := by simp
theorem s_step_words {n : Nat} (hn : 3 ≤ n) {d : D} {h : HP} (v : stepB d = true) : runP P n 26 [d] h = .ok (.lst (strsD (stepW d))) h := by
  obtain ⟨m, rfl, hm⟩ := succ_of hn
  rw [e_step_words]
  rcases stepB_of v with ⟨xs, rfl, hs⟩ | ⟨a, rfl, ha⟩ | ⟨s, rfl, hs⟩ | ⟨s, t, rfl, hs, ht⟩ | ⟨s, b, rfl, hs, hb⟩
  · obtain ⟨z1, z2, z3, _⟩ := shpB_of hs
    have ew : stepW (.tup [.str wNew, .tup xs]) = [wNew] ++ xs.flatMap colW := rfl
    rw [ew]
    refine runD_open ?_ (strs_nn _ _)
    show m_step_words _ [some (.tup [.str wNew, .tup xs]), none, none] h = _
    have hl : ([wNew] ++ xs.flatMap colW).length ≤ 1000 := by rw [List.length_append, flat_len (c := 3) fun _ => rfl]; simp; omega
    obtain ⟨ρ2, E2, e4⟩ := loop_ext (t := gN 2) (e := eCl (runP P m 25) 1 1 0 [0] (aC (eV 2) aN) aN) (chk := fun _ => True) (i := 1) (j := h.length) (E := fun ρ => ∃ x, ρ = [some (.tup [.str wNew, .tup xs]), some (.ref h.length), x]) (f := colW)
      (fun ρ ⟨x, e⟩ => by rw [e]; rfl) (fun _ => trivial) xs [some (.tup [.str wNew, .tup xs]), some (.ref h.length), none] (h ++ [some (.lst (strsD [wNew]))]) [wNew] ⟨_, rfl⟩ snoc_at hl fun d hd ρ h' ⟨x, e⟩ => by
        have ec := s_column_words (n := m) (by omega) (h := h') (List.all_eq_true.mp z3 d hd)
        exact ⟨[some (.tup [.str wNew, .tup xs]), some (.ref h.length), some d], by rw [e]; rfl, ⟨_, rfl⟩, by simp [ec]⟩
    obtain ⟨x, rfl⟩ := E2
    unfold m_step_words
    have b0 : bEq2 (.str wNew) c_NEW h = .ok (.bl true) h := by rw [k_new]; simp
    have f0 : fLst true [c_NEW] h = .ok (.ref h.length) (h ++ [some (.lst (strsD [wNew]))]) := fLst_o (by simp)
    simp only [w_sSq, w_sIf, w_tV, w_e2, w_eV, w_eC, List.getElem?_cons_zero, w_ok, w_ixT, at0, b0, w_asB, w_lift, w_sAs, w_eA, w_aC, w_aN, f0, w_gN, cond_true]
    simp [sFo, iA, iAk, e4]
  · refine runD_same ?_ (strs_nnl _ _)
    show m_step_words _ [some (.tup [.str wAdd, a]), none, none] h = _
    unfold m_step_words
    have ec := s_column_words (n := m) (by omega) (h := h) ha
    have b0 : bEq2 (.str wAdd) c_NEW h = .ok (.bl false) h := by rw [k_new]; simp; decide
    have b1 : bEq2 (.str wAdd) c_ADD h = .ok (.bl true) h := by rw [k_add]; simp
    have ew : stepW (.tup [.str wAdd, a]) = wAdd :: colW a := rfl
    have f0 : fLst false (c_ADD :: strsD (colW a)) h = .ok (.lst (strsD (wAdd :: colW a))) h := fLst_c (by simp [strsD, colW])
    simp [b0, b1, ec, f0, ew]
  · refine runD_same ?_ (strs_nnl _ _)
    show m_step_words _ [some (.tup [.str wDrop, .str s]), none, none] h = _
    unfold m_step_words
    have b0 : bEq2 (.str wDrop) c_NEW h = .ok (.bl false) h := by rw [k_new]; simp; decide
    have b1 : bEq2 (.str wDrop) c_ADD h = .ok (.bl false) h := by rw [k_add]; simp; decide
    have b2 : bEq2 (.str wDrop) c_FIRST h = .ok (.bl false) h := by rw [k_first]; simp; decide
    have ew : stepW (.tup [.str wDrop, .str s]) = [wDrop, s] := rfl
    simp [b0, b1, b2, ew, fList, mkL, strsD]
  · refine runD_same ?_ (strs_nnl _ _)
    show m_step_words _ [some (.tup [.str wName, .str s, .str t]), none, none] h = _
    unfold m_step_words
    have b0 : bEq2 (.str wName) c_NEW h = .ok (.bl false) h := by rw [k_new]; simp; decide
    have b1 : bEq2 (.str wName) c_ADD h = .ok (.bl false) h := by rw [k_add]; simp; decide
    have b2 : bEq2 (.str wName) c_FIRST h = .ok (.bl false) h := by rw [k_first]; simp; decide
    have ew : stepW (.tup [.str wName, .str s, .str t]) = [wName, s, t] := rfl
    simp [b0, b1, b2, ew, fList, mkL, strsD]
  · refine runD_same ?_ (strs_nnl _ _)
    show m_step_words _ [some (.tup [.str wFirst, .str s, b]), none, none] h = _
    unfold m_step_words
    have ec := s_value_text (n := m) (by omega) (h := h) hb
    have b0 : bEq2 (.str wFirst) c_NEW h = .ok (.bl false) h := by rw [k_new]; simp; decide
    have b1 : bEq2 (.str wFirst) c_ADD h = .ok (.bl false) h := by rw [k_add]; simp; decide
    have b2 : bEq2 (.str wFirst) c_FIRST h = .ok (.bl true) h := by rw [k_first]; simp
    have ew : stepW (.tup [.str wFirst, .str s, b]) = [wFirst, s, valT b] := rfl
    have f0 : fLst false [c_FIRST, .str s, .str (valT b)] h = .ok (.lst (strsD [wFirst, s, valT b])) h := fLst_c (by simp)
    simp [b0, b1, b2, ec, f0, ew]
    rfl
theorem stepW_len {d : D} (v : stepB d = true) : (stepW d).length ≤ 30 := by
  rcases stepB_of v with ⟨xs, rfl, hs⟩ | ⟨a, rfl, ha⟩ | ⟨s, rfl, hs⟩ | ⟨s, t, rfl, hs, ht⟩ | ⟨s, b, rfl, hs, hb⟩
  · obtain ⟨z1, z2, z3, _⟩ := shpB_of hs
    have ew : stepW (.tup [.str wNew, .tup xs]) = [wNew] ++ xs.flatMap colW := rfl
    rw [ew, List.length_append, flat_len (c := 3) fun _ => rfl]; simp; omega
  · show 4 ≤ 30; omega
  · show 2 ≤ 30; omega
  · show 3 ≤ 30; omega
  · show 3 ≤ 30; omega
theorem betw_of {a b : Int} {d : D} (h : betw a b d = true) : ∃ i, d = .int i ∧ a ≤ i ∧ i ≤ b := by
  cases d <;> first | (cases h; done) | skip
  rename_i i
  have h : (decide (a ≤ i) && decide (i ≤ b)) = true := h
  rw [Bool.and_eq_true, decide_eq_true_eq, decide_eq_true_eq] at h
  exact ⟨i, rfl, h⟩
theorem toldB_of {d : D} (h : toldB d = true) : ∃ xs, d = .tup xs ∧ xs.length ≤ 8 ∧ xs.all nvB = true ∧ asc (xs.map nm) = true := by
  cases d <;> first | (cases h; done) | skip
  rename_i xs
  have h : (xs.all pairB && decide ((xs.length : Int) ≤ 8) && (xs.all nvB && asc (xs.map nm))) = true := h
  rw [Bool.and_eq_true, Bool.and_eq_true, Bool.and_eq_true, decide_eq_true_eq] at h
  exact ⟨xs, rfl, by omega, h.2.1, h.2.2⟩
theorem deedB_of {d : D} (h : deedB d = true) : (∃ s xs, d = .tup [.str wPut, .str s, .tup xs] ∧ nameB (.str s) = true ∧ xs.length ≤ 8 ∧ xs.all nvB = true ∧ asc (xs.map nm) = true) ∨ (∃ i : Int, d = .tup [.str wTake, .int i] ∧ 1 ≤ i ∧ i ≤ 1000000) ∨
    (∃ s st, d = .tup [.str wGrow, .str s, st] ∧ nameB (.str s) = true ∧ stepB st = true) ∨ ∃ i : Int, d = .tup [.str wClock, .int i] ∧ 0 ≤ i ∧ i ≤ 1000000000 := by
  unfold deedB at h
  split at h
  · rename_i z
    obtain ⟨a, b, rfl⟩ := tag2 z
    have h : (nameB a && toldB b) = true := h
    rw [Bool.and_eq_true] at h
    obtain ⟨s, rfl⟩ := nameB_str h.1
    obtain ⟨xs, rfl, h1, h2, h3⟩ := toldB_of h.2
    exact .inl ⟨s, xs, rfl, h.1, h1, h2, h3⟩
  · split at h
    · rename_i z
      obtain ⟨a, rfl⟩ := tag1 z
      obtain ⟨i, rfl, h1, h2⟩ := betw_of (show betw 1 1000000 a = true from h)
      exact .inr (.inl ⟨i, rfl, h1, h2⟩)
    · split at h
      · rename_i z
        obtain ⟨a, b, rfl⟩ := tag2 z
        have h : (nameB a && stepB b) = true := h
        rw [Bool.and_eq_true] at h
        obtain ⟨s, rfl⟩ := nameB_str h.1
        exact .inr (.inr (.inl ⟨s, b, rfl, h.1, h.2⟩))
      · rw [Bool.and_eq_true] at h
        obtain ⟨a, rfl⟩ := tag1 h.1
        obtain ⟨i, rfl, h1, h2⟩ := betw_of (show betw 0 1000000000 a = true from h.2)
        exact .inr (.inr (.inr ⟨i, rfl, h1, h2⟩))
theorem letB_of {d : D} (h : letB d = true) : ∃ (s : List Nat) (n t : Int) (e : D), d = .tup [.str s, .int n, .int t, e] ∧ nameB (.str s) = true ∧ 1 ≤ n ∧ n ≤ 1000000 ∧ 0 ≤ t ∧ t ≤ 1000000000 ∧ deedB e = true := by
  unfold letB at h
  split at h
  · rename_i a b c e
    rw [Bool.and_eq_true, Bool.and_eq_true, Bool.and_eq_true] at h
    obtain ⟨⟨h1, h2⟩, h3, h4⟩ := h
    obtain ⟨s, rfl⟩ := nameB_str h1
    obtain ⟨n, rfl, n1, n2⟩ := betw_of h2
    obtain ⟨t, rfl, t1, t2⟩ := betw_of h3
    exact ⟨s, n, t, e, rfl, h1, n1, n2, t1, t2, h4⟩
  · cases h
theorem deedW_len {d : D} (v : deedB d = true) : (deedW d).length ≤ 32 := by
  rcases deedB_of v with ⟨s, xs, rfl, hs, z1, z3, _⟩ | ⟨i, rfl, i1, i2⟩ | ⟨s, st, rfl, hs, ht⟩ | ⟨i, rfl, i1, i2⟩
  · have ew : deedW (.tup [.str wPut, .str s, .tup xs]) = [wPut, s] ++ xs.flatMap pairW := rfl
    rw [ew, List.length_append, flat_len (c := 2) fun _ => rfl]; simp; omega
  · show 2 ≤ 32; omega
  · have ew : deedW (.tup [.str wGrow, .str s, st]) = [wGrow, s] ++ stepW st := rfl
    have := stepW_len ht
    rw [ew, List.length_append]; simp; omega
  · show 2 ≤ 32; omega
theorem s_deed_words {n : Nat} (hn : 4 ≤ n) {d : D} {h : HP} (v : deedB d = true) : runP P n 27 [d] h = .ok (.lst (strsD (deedW d))) h := by
  obtain ⟨m, rfl, hm⟩ := succ_of hn
  rw [e_deed_words]
  rcases deedB_of v with ⟨s, xs, rfl, hs, z1, z3, _⟩ | ⟨i, rfl, i1, i2⟩ | ⟨s, st, rfl, hs, ht⟩ | ⟨i, rfl, i1, i2⟩
  · have ew : deedW (.tup [.str wPut, .str s, .tup xs]) = [wPut, s] ++ xs.flatMap pairW := rfl
    rw [ew]
    refine runD_open ?_ (strs_nn _ _)
    show m_deed_words _ [some (.tup [.str wPut, .str s, .tup xs]), none, none, none] h = _
    have hl : ([wPut, s] ++ xs.flatMap pairW).length ≤ 1000 := by rw [List.length_append, flat_len (c := 2) fun _ => rfl]; simp; omega
    obtain ⟨ρ2, E2, e4⟩ := loop_ext (t := gT 2 (gsC (gN 2) (gsC (gN 3) gsN))) (e := eA (fLst false) (aC (eV 2) (aC (eCl (runP P m 23) 1 1 0 [0] (aC (eV 3) aN) aN) aN))) (chk := fun _ => True) (i := 1) (j := h.length) (E := fun ρ => ∃ x y, ρ = [some (.tup [.str wPut, .str s, .tup xs]), some (.ref h.length), x, y]) (f := pairW)
      (fun ρ ⟨x, y, e⟩ => by rw [e]; rfl) (fun _ => trivial) xs [some (.tup [.str wPut, .str s, .tup xs]), some (.ref h.length), none, none] (h ++ [some (.lst (strsD [wPut, s]))]) [wPut, s] ⟨_, _, rfl⟩ snoc_at hl fun d hd ρ h' ⟨x, y, e⟩ => by
        obtain ⟨a, b, rfl, _, hb⟩ := nvB_of (List.all_eq_true.mp z3 d hd)
        have ec := s_value_text (n := m) (by omega) (h := h') hb
        have f0 : fLst false [.str a, .str (valT b)] h' = .ok (.lst (strsD [a, valT b])) h' := fLst_c (by simp)
        refine ⟨[some (.tup [.str wPut, .str s, .tup xs]), some (.ref h.length), some (.str a), some b], by rw [e]; rfl, ⟨_, _, rfl⟩, ?_⟩
        simp only [w_eA, w_aC, w_aN, w_eV, w_eCl, List.getElem?_cons_succ, List.getElem?_cons_zero, w_ok, List.length_cons, List.length_nil, w_pickC, w_pick0, List.append_nil]
        simp [ec, f0]
        rfl
    obtain ⟨x, y, rfl⟩ := E2
    unfold m_deed_words
    have b0 : bEq2 (.str wPut) c_PUT h = .ok (.bl true) h := by rw [k_put]; simp
    have f0 : fLst true [c_PUT, .str s] h = .ok (.ref h.length) (h ++ [some (.lst (strsD [wPut, s]))]) := fLst_o (by simp)
    simp only [w_sSq, w_sIf, w_tV, w_e2, w_eV, w_eC, List.getElem?_cons_zero, w_ok, w_ixT, at0, at1, b0, w_asB, w_lift, w_sAs, w_eA, w_aC, w_aN, f0, w_gN, cond_true]
    simp [sFo, iA, iAk, e4]
  · refine runD_same ?_ (strs_nnl _ _)
    show m_deed_words _ [some (.tup [.str wTake, .int i]), none, none, none] h = _
    unfold m_deed_words
    have b0 : bEq2 (.str wTake) c_PUT h = .ok (.bl false) h := by rw [k_put]; simp; decide
    have b1 : bEq2 (.str wTake) c_GROW h = .ok (.bl false) h := by rw [k_grow]; simp; decide
    have ec := str_int (i := i) (h := h) (by omega)
    have ew : deedW (.tup [.str wTake, .int i]) = [wTake, intT i] := rfl
    have f0 : fLst false [.str wTake, .str (intT i)] h = .ok (.lst (strsD [wTake, intT i])) h := fLst_c (by simp)
    simp [b0, b1, ec, f0, ew]
    rfl
  · refine runD_same ?_ (strs_nnl _ _)
    show m_deed_words _ [some (.tup [.str wGrow, .str s, st]), none, none, none] h = _
    unfold m_deed_words
    have b0 : bEq2 (.str wGrow) c_PUT h = .ok (.bl false) h := by rw [k_put]; simp; decide
    have b1 : bEq2 (.str wGrow) c_GROW h = .ok (.bl true) h := by rw [k_grow]; simp
    have ec := s_step_words (n := m) (by omega) (h := h) ht
    have ew : deedW (.tup [.str wGrow, .str s, st]) = [wGrow, s] ++ stepW st := rfl
    have lw : (stepW st).length ≤ 30 := stepW_len ht
    have f0 : fLst false (c_GROW :: .str s :: strsD (stepW st)) h = .ok (.lst (strsD ([wGrow, s] ++ stepW st))) h := fLst_c (by rw [List.length_cons, List.length_cons, lstr_len]; omega)
    simp [b0, b1, ec, f0, ew]
  · refine runD_same ?_ (strs_nnl _ _)
    show m_deed_words _ [some (.tup [.str wClock, .int i]), none, none, none] h = _
    unfold m_deed_words
    have b0 : bEq2 (.str wClock) c_PUT h = .ok (.bl false) h := by rw [k_put]; simp; decide
    have b1 : bEq2 (.str wClock) c_GROW h = .ok (.bl false) h := by rw [k_grow]; simp; decide
    have ec := str_int (i := i) (h := h) (by omega)
    have ew : deedW (.tup [.str wClock, .int i]) = [wClock, intT i] := rfl
    have f0 : fLst false [.str wClock, .str (intT i)] h = .ok (.lst (strsD [wClock, intT i])) h := fLst_c (by simp)
    simp [b0, b1, ec, f0, ew]
    rfl
theorem s_letter_words {n : Nat} (hn : 5 ≤ n) {d : D} {h : HP} (v : letB d = true) : runP P n 28 [d] h = .ok (.lst (strsD (letW d))) h := by
  obtain ⟨m, rfl, hm⟩ := succ_of hn
  rw [e_letter_words]
  refine runD_same ?_ (strs_nnl _ _)
  obtain ⟨s, k, t, e, rfl, hs, n1, n2, t1, t2, hd⟩ := letB_of v
  show m_letter_words _ [some (.tup [.str s, .int k, .int t, e])] h = _
  unfold m_letter_words
  have e1 := str_int (i := k) (h := h) (by omega)
  have e2 := str_int (i := t) (h := h) (by omega)
  have ec := s_deed_words (n := m) (by omega) (h := h) hd
  have ew : letW (.tup [.str s, .int k, .int t, e]) = [s, intT k, intT t] ++ deedW e := rfl
  have f0 : fLst false (.str s :: .str (intT k) :: .str (intT t) :: strsD (deedW e)) h = .ok (.lst (strsD ([s, intT k, intT t] ++ deedW e))) h := fLst_c (by have := deedW_len hd; simp only [List.length_cons, lstr_len]; omega)
  simp [e1, e2, ec, f0, ew]
end Zk
end

/-! N8 -/
set_option exponentiation.threshold 9000
noncomputable section
namespace Zk
open PySem PySem.Spec L2 Zs
open PyProof.Rows hiding St
open Classical
/-! ### == of lists of texts -/
theorem toPs_strs : ∀ l : List (List Nat), toPs (strsD l) = some (l.map fun s => PyData.str (strV s))
  | [] => by simp [strsD, toPs]
  | s :: l => by
    have := toPs_strs l
    show toPs (.str s :: strsD l) = _
    simp only [toPs, toP, this]
    rfl
theorem eqv_strs : ∀ a b : List (List Nat), PyData.eqvAll (a.map fun s => PyData.str (strV s)) (b.map fun s => PyData.str (strV s)) = decide (a = b)
  | [], [] => by simp [PyData.eqvAll]
  | [], b :: bs => by simp [PyData.eqvAll]
  | a :: as, [] => by simp [PyData.eqvAll]
  | a :: as, b :: bs => by
    simp only [List.map_cons, PyData.eqvAll, PyData.eqv, eqv_strs as bs]
    have e : (strV a == strV b) = decide (a = b) := by
      rw [Bool.eq_iff_iff, beq_iff_eq, decide_eq_true_eq]
      exact ⟨strV_inj, fun z => by rw [z]⟩
    rw [e, Bool.eq_iff_iff, Bool.and_eq_true, decide_eq_true_eq, decide_eq_true_eq, decide_eq_true_eq]
    simp
def chOk (l : List (List Nat)) : Prop := ∀ s ∈ l, ∀ c ∈ s, c < 1114112
theorem lay_strs : ∀ {l : List (List Nat)}, chOk l → PyData.canLayAll0 (l.map fun s => PyData.str (strV s)) = true
  | [], _ => rfl
  | s :: l, h => by
    simp only [List.map_cons, PyData.canLayAll0, PyData.canLay0, Bool.and_eq_true]
    refine ⟨?_, lay_strs fun t ht => h t (List.mem_cons_of_mem _ ht)⟩
    show (strV s).cps.all (fun c => decide (c < 0x110000)) = true
    rw [← Array.all_toList, strV_list]
    exact List.all_eq_true.mpr fun c hc => decide_eq_true (h s List.mem_cons_self c hc)
theorem dep_strs : ∀ l : List (List Nat), PyData.depthAll (l.map fun s => PyData.str (strV s)) = 0
  | [] => rfl
  | s :: l => by simp only [List.map_cons, PyData.depthAll, dep_strs l, PyData.depth]; rfl
theorem shaped_strs {l : List (List Nat)} (h : chOk l) : SeqAt.shaped (.list (l.map fun s => PyData.str (strV s))) = true := by
  unfold SeqAt.shaped
  rw [Bool.and_eq_true]
  refine ⟨lay_strs h, decide_eq_true ?_⟩
  show PyData.depthAll _ + 1 ≤ 64
  rw [dep_strs]; omega
theorem eq_strs {a b : List (List Nat)} {h : HP} (ha : chOk a) (hb : chOk b) : bEq2 (.lst (strsD a)) (.lst (strsD b)) h = .ok (.bl (decide (a = b))) h := by
  show (match eqP (.lst (strsD a)) (.lst (strsD b)) with
    | some b => R.ok (D.bl b) h
    | none => .bad) = _
  have : eqP (.lst (strsD a)) (.lst (strsD b)) = some (decide (a = b)) := by
    unfold eqP
    simp only [toP, toPs_strs]
    rw [if_pos ⟨shaped_strs ha, shaped_strs hb⟩]
    simp only [PyData.eqv, eqv_strs]
  rw [this]
theorem chOk_take {l : List (List Nat)} (h : chOk l) (k : Nat) : chOk (l.take k) := fun s hs => h s (List.mem_of_mem_take hs)
theorem chOk_drop {l : List (List Nat)} (h : chOk l) (k : Nat) : chOk (l.drop k) := fun s hs => h s (List.mem_of_mem_drop hs)
theorem strs_take (l : List (List Nat)) (k : Nat) : (strsD l).take k = strsD (l.take k) := by unfold strsD; rw [List.map_take]
theorem strs_drop (l : List (List Nat)) (k : Nat) : (strsD l).drop k = strsD (l.drop k) := by unfold strsD; rw [List.map_drop]
/-! ### value_in -/
def VV (w : List Nat) : D := if w.take 1 = [39] then .str (w.drop 1) else RI w
def VI (w : List Nat) : D := if (kd (VV w)).isSome = true ∧ valT (VV w) = w then VV w else .non
theorem RI_cases (w : List Nat) : RI w = .non ∨ ∃ i, RI w = .int i := by
  unfold RI
  split
  · exact .inl rfl
  · split
    · split
      · exact .inl rfl
      · exact .inr ⟨_, rfl⟩
    · exact .inl rfl
theorem VI_cases (w : List Nat) : VI w = .non ∨ ((kd (VI w)).isSome = true ∧ valT (VI w) = w) := by
  unfold VI
  by_cases z : (kd (VV w)).isSome = true ∧ valT (VV w) = w
  · rw [if_pos z]; exact .inr z
  · rw [if_neg z]; exact .inl rfl
theorem VV_pl {w : List Nat} (hz : w.length ≤ 100000) (hc : ∀ c ∈ w, c < 1114112) : pl (VV w) = true := by
  unfold VV
  split
  · exact pl_mk (by rw [List.length_drop]; omega) fun c h => hc c (List.mem_of_mem_drop h)
  · rcases RI_cases w with e | ⟨i, e⟩ <;> rw [e] <;> rfl
theorem VI_pl {w : List Nat} (hz : w.length ≤ 100000) (hc : ∀ c ∈ w, c < 1114112) : pl (VI w) = true := by
  unfold VI
  split
  · exact VV_pl hz hc
  · rfl
theorem s_value_in {n : Nat} (hn : 5 ≤ n) {w : List Nat} {h : HP} (hz : w.length ≤ 100000) (hc : ∀ c ∈ w, c < 1114112) : runP P n 24 [.str w] h = .ok (VI w) h := by
  obtain ⟨m, rfl, hm⟩ := succ_of hn
  rw [e_value_in]
  refine runD_same ?_ (pl_nn _ _ (VI_pl hz hc))
  show m_value_in _ [some (.str w), none] h = _
  unfold m_value_in
  have cm : c_MARK = .str [39] := rfl
  have er := s_read_integer (n := m) (by omega) (h := h) hz
  generalize hv : VV w = v
  have pv : pl v = true := by rw [← hv]; exact VV_pl hz hc
  have e0 : sAs (eIf (tV (e2 bEq2 (eSl false (eV 0) oN (oS (eC (.int (1))))) (eC c_MARK))) (eSl false (eV 0) (oS (eC (.int (1)))) oN) (eCl (runP P m 3) 1 1 0 [0] (aC (eV 0) aN) aN)) (gN 1) [some (.str w), none] h = .ok (.nx [some (.str w), some v]) h := by
    rw [← hv]
    unfold VV
    by_cases z : w.take 1 = [39]
    · simp [z, cm]
    · simp [z, cm, er]
  rw [seq_ok e0]
  have ev : VI w = if (kd v).isSome = true ∧ valT v = w then v else .non := by unfold VI; rw [hv]
  rw [ev]
  have e1 := s_is_value (n := m) (by omega) (h := h) pv
  cases hk : (kd v).isSome with
  | false =>
    rw [hk] at e1
    simp [e1]
  | true =>
    rw [hk] at e1
    have e2 := s_value_text (n := m) (by omega) (h := h) hk
    by_cases z : valT v = w
    · simp [e1, e2, z]
    · simp [e1, e2, z]
/-! ### columns_in, the pairs of a put -/
def colsIn : List (List Nat) → List D
  | a :: b :: c :: r => .tup [.str a, .str b, VI c] :: colsIn r
  | _ => []
def pairsIn : List (List Nat) → List D
  | a :: b :: r => .tup [.str a, VI b] :: pairsIn r
  | _ => []
theorem cols_range : ∀ l : List (List Nat), ((List.range (l.length / 3)).map fun k => D.tup [.str (l.getD (3 * k) []), .str (l.getD (3 * k + 1) []), VI (l.getD (3 * k + 2) [])]) = colsIn l
  | [] => rfl
  | [_] => by simp [colsIn]
  | [_, _] => by simp [colsIn]
  | a :: b :: c :: r => by
    have e : (a :: b :: c :: r).length / 3 = r.length / 3 + 1 := by simp only [List.length_cons]; omega
    rw [e, List.range_succ_eq_map, List.map_cons, List.map_map, colsIn, ← cols_range r]
    congr 1
theorem pairs_range : ∀ l : List (List Nat), ((List.range (l.length / 2)).map fun k => D.tup [.str (l.getD (2 * k) []), VI (l.getD (2 * k + 1) [])]) = pairsIn l
  | [] => rfl
  | [_] => by simp [pairsIn]
  | a :: b :: r => by
    have e : (a :: b :: r).length / 2 = r.length / 2 + 1 := by simp only [List.length_cons]; omega
    rw [e, List.range_succ_eq_map, List.map_cons, List.map_map, pairsIn, ← pairs_range r]
    congr 1
theorem fits {i : Int} (h : -1000000 ≤ i) (h2 : i ≤ 1000000) : Builtin.Range.rangeFitsLong i = true := by
  unfold Builtin.Range.rangeFitsLong
  simp only [Bool.and_eq_true, decide_eq_true_eq]
  omega
theorem strs_at {l : List (List Nat)} {k : Nat} (hk : k < l.length) {h : HP} : bIx2 (.lst (strsD l)) (.int (k : Int)) h = .ok (.str (l.getD k [])) h := by
  have : L2.atI (strsD l) (k : Int) = some (.str (l.getD k [])) := by
    obtain ⟨x, e, _⟩ := atI_nat (xs := strsD l) (i := (k : Int)) (by omega) (by rw [lstr_len]; omega)
    unfold L2.atI ixN at e ⊢
    rw [if_pos (by omega), if_pos (by rw [lstr_len]; omega)]
    show (strsD l)[(k : Int).toNat]? = _
    unfold strsD
    rw [List.getElem?_map, Int.toNat_natCast, List.getElem?_eq_getElem hk]
    simp [List.getD_eq_getElem?_getD, List.getElem?_eq_getElem hk]
  rw [w_ixL, this]
theorem getD_ch {l : List (List Nat)} (h : chOk l) (k : Nat) : ∀ c ∈ l.getD k [], c < 1114112 := fun c hc => by
  rw [List.getD_eq_getElem?_getD] at hc
  cases q : l[k]? with
  | none => rw [q] at hc; cases hc
  | some s => rw [q] at hc; exact h s (List.mem_of_getElem? q) c hc
theorem getD_ln {l : List (List Nat)} {B : Nat} (h : ∀ s ∈ l, s.length ≤ B) (k : Nat) : (l.getD k []).length ≤ B := by
  rw [List.getD_eq_getElem?_getD]
  cases q : l[k]? with
  | none => exact Nat.zero_le _
  | some s => exact h s (List.mem_of_getElem? q)
end Zk
end

/-! N9 -/
set_option exponentiation.threshold 9000
noncomputable section
namespace Zk
open PySem PySem.Spec L2 Zs
open PyProof.Rows hiding St
open Classical
/-- words to be read -/
structure WOk (l : List (List Nat)) : Prop where
  len : l.length ≤ 2001
  each : ∀ s ∈ l, s.length ≤ 3000
  ch : chOk l
theorem WOk.drop {l : List (List Nat)} (w : WOk l) (k : Nat) : WOk (l.drop k) := ⟨by rw [List.length_drop]; have := w.len; omega, fun s hs => w.each s (List.mem_of_mem_drop hs), chOk_drop w.ch k⟩
theorem WOk.at_ {l : List (List Nat)} (w : WOk l) (k : Nat) : (l.getD k []).length ≤ 100000 ∧ ∀ c ∈ l.getD k [], c < 1114112 := ⟨by have := getD_ln w.each k; omega, getD_ch w.ch k⟩
theorem chOk_one {s : List Nat} (h : ∀ c ∈ s, c < 1114112) : chOk [s] := fun t ht => by rw [List.mem_singleton] at ht; rw [ht]; exact h
theorem ivL {xs : List D} {h : HP} : fTuple [.lst xs] h = .ok (.tup xs) h := rfl
theorem rsize3 (n : Nat) : (Builtin.Range.rangeSize 0 ((n : Int) - 2) 3).toNat = n / 3 := by
  unfold Builtin.Range.rangeSize
  rw [if_pos (by omega)]
  split <;> omega
theorem rsize2 (n : Nat) (h : 2 ≤ n) : (Builtin.Range.rangeSize 2 (n : Int) 2).toNat = (n - 1) / 2 := by
  unfold Builtin.Range.rangeSize
  rw [if_pos (by omega)]
  split <;> omega
theorem small3 {n : Nat} (h : n ≤ 2001) : Builtin.Range.small 0 ((n : Int) - 2) 3 = true := by
  have e : -1000000 ≤ Builtin.Range.rangeSize 0 ((n : Int) - 2) 3 ∧ Builtin.Range.rangeSize 0 ((n : Int) - 2) 3 ≤ 1000000 := by
    unfold Builtin.Range.rangeSize
    rw [if_pos (by omega)]
    split <;> omega
  unfold Builtin.Range.small
  rw [fits (by omega) (by omega), fits (by omega) (by omega), fits (by omega) (by omega), fits e.1 e.2, if_pos (by omega), fits (by omega) (by omega)]
  simp
theorem small2 {n : Nat} (h : n ≤ 2001) : Builtin.Range.small 2 (n : Int) 2 = true := by
  have e : -1000000 ≤ Builtin.Range.rangeSize 2 (n : Int) 2 ∧ Builtin.Range.rangeSize 2 (n : Int) 2 ≤ 1000000 := by
    unfold Builtin.Range.rangeSize
    rw [if_pos (by omega)]
    split <;> omega
  unfold Builtin.Range.small
  rw [fits (by omega) (by omega), fits (by omega) (by omega), fits e.1 e.2, if_pos (by omega), fits (by omega) (by omega)]
  simp
theorem colsIn_pl : ∀ {l : List (List Nat)}, WOk l → ∀ x ∈ colsIn l, pl x = true
  | [], _, x, h => by simp [colsIn] at h
  | [_], _, x, h => by simp [colsIn] at h
  | [_, _], _, x, h => by simp [colsIn] at h
  | a :: b :: c :: r, w, x, h => by
    rw [colsIn] at h
    rcases List.mem_cons.mp h with e | h
    · rw [e]
      have m1 := fun s hs => And.intro (w.each s hs) (w.ch s hs)
      obtain ⟨a1, a2⟩ := m1 a (by simp)
      obtain ⟨b1, b2⟩ := m1 b (by simp)
      obtain ⟨c1, c2⟩ := m1 c (by simp)
      have p1 := pl_mk (s := a) (by omega) a2
      have p2 := pl_mk (s := b) (by omega) b2
      have p3 := VI_pl (w := c) (by omega) c2
      show (decide (3 ≤ 1000) && (pl (.str a) && (pl (.str b) && (pl (VI c) && true)))) = true
      rw [p1, p2, p3]; rfl
    · exact colsIn_pl (w.drop 3) x h
theorem pairsIn_pl : ∀ {l : List (List Nat)}, WOk l → ∀ x ∈ pairsIn l, pl x = true
  | [], _, x, h => by simp [pairsIn] at h
  | [_], _, x, h => by simp [pairsIn] at h
  | a :: b :: r, w, x, h => by
    rw [pairsIn] at h
    rcases List.mem_cons.mp h with e | h
    · rw [e]
      have m1 := fun s hs => And.intro (w.each s hs) (w.ch s hs)
      obtain ⟨a1, a2⟩ := m1 a (by simp)
      obtain ⟨b1, b2⟩ := m1 b (by simp)
      have p1 := pl_mk (s := a) (by omega) a2
      have p3 := VI_pl (w := b) (by omega) b2
      show (decide (2 ≤ 1000) && (pl (.str a) && (pl (VI b) && true))) = true
      rw [p1, p3]; rfl
    · exact pairsIn_pl (w.drop 2) x h
theorem colsIn_len : ∀ l : List (List Nat), (colsIn l).length = l.length / 3
  | [] => rfl
  | [_] => by simp [colsIn]
  | [_, _] => by simp [colsIn]
  | a :: b :: c :: r => by rw [colsIn, List.length_cons, colsIn_len r]; simp only [List.length_cons]; omega
theorem pairsIn_len : ∀ l : List (List Nat), (pairsIn l).length = l.length / 2
  | [] => rfl
  | [_] => by simp [pairsIn]
  | a :: b :: r => by rw [pairsIn, List.length_cons, pairsIn_len r]; simp only [List.length_cons]; omega
theorem plL_mk {xs : List D} (z : xs.length ≤ 1000) (h : ∀ x ∈ xs, pl x = true) : pl (.tup xs) = true := Bool.and_eq_true_iff.mpr ⟨decide_eq_true z, plL_all.mpr h⟩
theorem s_columns_in {n : Nat} (hn : 6 ≤ n) {l : List (List Nat)} {h : HP} (w : WOk l) : runP P n 29 [.lst (strsD l)] h = .ok (.tup (colsIn l)) h := by
  obtain ⟨m, rfl, hm⟩ := succ_of hn
  rw [e_columns_in]
  have wl := w.len
  have cl := colsIn_len l
  refine runD_same ?_ (pl_nn _ _ (plL_mk (by omega) (colsIn_pl w)))
  show m_columns_in _ [some (.lst (strsD l)), none] h = _
  have e := eLc_map (ρ := [some (.lst (strsD l)), none]) (h := h) (it := iR3 (aC (eC (.int (0))) (aC (e2 bSub (eA fLen (aC (eV 0) aN)) (eC (.int (2)))) (aC (eC (.int (3))) aN)))) (t := gN 1)
    (e := eA fTup (aC (e2 bIx2 (eV 0) (eV 1)) (aC (e2 bIx2 (eV 0) (e2 (bAdd false) (eV 1) (eC (.int (1))))) (aC (eCl (runP P m 24) 1 1 0 [0] (aC (e2 bIx2 (eV 0) (e2 (bAdd false) (eV 1) (eC (.int (2))))) aN) aN) aN)))) (vs := [1])
    (m := ⟨(List.range (l.length / 3)).map fun k => D.int (0 + (k : Nat) * 3), fun _ => True⟩) (fun d => match d with
      | .int i => .tup [.str (l.getD i.toNat []), .str (l.getD (i.toNat + 1) []), VI (l.getD (i.toNat + 2) [])]
      | _ => .non) (by
      have hs := small3 wl
      have hr := rsize3 l.length
      simp only [iR3, w_aC, w_eC, w_ok, w_e2, w_eA, w_eV, List.getElem?_cons_zero, w_aN, w_lenL, lstr_len, w_subI]
      show (if (3 : Int) ≠ 0 ∧ (3 : Int).natAbs < 1073741824 ∧ Builtin.Range.small 0 ((l.length : Int) - 2) 3 = true then _ else _) = _
      rw [if_pos ⟨by decide, by decide, hs⟩, hr]) trivial (fun d hd => by
      obtain ⟨k, hk, rfl⟩ := List.mem_map.mp hd
      rw [List.mem_range] at hk
      refine ⟨[some (.lst (strsD l)), some (.int (0 + (k : Nat) * 3))], rfl, ?_⟩
      have i0 : (0 + (k : Int) * 3) = ((3 * k : Nat) : Int) := by omega
      have i1 : ((3 * k : Nat) : Int) + 1 = ((3 * k + 1 : Nat) : Int) := by omega
      have i2 : ((3 * k : Nat) : Int) + 2 = ((3 * k + 2 : Nat) : Int) := by omega
      have a0 := strs_at (l := l) (k := 3 * k) (by omega) (h := h)
      have a1 := strs_at (l := l) (k := 3 * k + 1) (by omega) (h := h)
      have a2 := strs_at (l := l) (k := 3 * k + 2) (by omega) (h := h)
      have av := s_value_in (n := m) (by omega) (h := h) (w.at_ (3 * k + 2)).1 (w.at_ (3 * k + 2)).2
      rw [i0]
      simp only [w_eA, w_aC, w_aN, w_e2, w_eV, w_eC, w_eCl, List.getElem?_cons_succ, List.getElem?_cons_zero, w_ok, w_addI, a0, i1, a1, i2, a2, List.length_cons, List.length_nil, List.append_nil, w_pickC, w_pick0, and_self, if_true, av, Int.toNat_natCast, fTup]
      rw [if_pos (by rw [sizeLine_eq]; omega)]) (by rw [List.length_map, List.length_range]; exact kline (by omega))
  unfold m_columns_in
  simp only [w_sSq, w_sRe, w_eA, w_aC, w_aN, e, w_ok, ivL, w_lift, List.map_map]
  have ec := cols_range l
  rw [← ec]
  congr 2
  congr 1
  refine List.map_congr_left fun k _ => ?_
  show D.tup [.str (l.getD (0 + (k : Int) * 3).toNat []), .str (l.getD ((0 + (k : Int) * 3).toNat + 1) []), VI (l.getD ((0 + (k : Int) * 3).toNat + 2) [])] = _
  have : (0 + (k : Int) * 3).toNat = 3 * k := by omega
  rw [this]
end Zk
end

/-! N10 -/
set_option exponentiation.threshold 9000
noncomputable section
namespace Zk
open PySem PySem.Spec L2 Zs
open PyProof.Rows hiding St
open Classical
theorem mod_nat {n k : Nat} {h : HP} (hk : 0 < k) : bMod (.int (n : Int)) (.int (k : Int)) h = .ok (.int ((n % k : Nat) : Int)) h := by
  rw [m_mod (by omega)]
  have : (n : Int).fmod (k : Int) = ((n % k : Nat) : Int) := by
    rw [Int.fmod_eq_emod_of_nonneg _ (by omega)]
    omega
  rw [this]
theorem ch_wNew : ∀ c ∈ wNew, c < 1114112 := by decide
theorem ch_wAdd : ∀ c ∈ wAdd, c < 1114112 := by decide
theorem ch_wDrop : ∀ c ∈ wDrop, c < 1114112 := by decide
theorem ch_wName : ∀ c ∈ wName, c < 1114112 := by decide
theorem ch_wFirst : ∀ c ∈ wFirst, c < 1114112 := by decide
theorem ch_wPut : ∀ c ∈ wPut, c < 1114112 := by decide
theorem ch_wGrow : ∀ c ∈ wGrow, c < 1114112 := by decide
theorem ch_wTake : ∀ c ∈ wTake, c < 1114112 := by decide
theorem ch_wClock : ∀ c ∈ wClock, c < 1114112 := by decide
/-- words[:1] == [w] -/
theorem take_eq {l : List (List Nat)} (wl : WOk l) {w : List Nat} (hw : ∀ c ∈ w, c < 1114112) {c : D} (hc : c = .str w) {ρ : Env'} {h : HP} (h0 : ρ[0]? = some (some (.lst (strsD l)))) :
    e2 bEq2 (eSl false (eV 0) oN (oS (eC (.int (1))))) (eA (fLst false) (aC (eC c) aN)) ρ h = .ok (.bl (decide (l.take 1 = [w]))) h := by
  have f0 : fLst false [D.str w] h = .ok (.lst (strsD [w])) h := fLst_c (by simp)
  have e : bEq2 (.lst (strsD (l.take 1))) (.lst [.str w]) h = _ := eq_strs (h := h) (chOk_take wl.ch 1) (chOk_one hw)
  subst hc
  simp [h0, f0, strs_take, e]
theorem seq_ift {t : TM} {a rest : SM} {ρ : Env'} {h : HP} {b : Bool} (ht : t ρ h = .ok b h) : sSq (sIf t a sNx) rest ρ h = if b = true then sSq a rest ρ h else rest ρ h := by
  have e : sIf t a sNx ρ h = if b = true then a ρ h else .ok (.nx ρ) h := by
    rw [w_sIf, ht]
    cases b <;> rfl
  show (match sIf t a sNx ρ h with
    | .ok (.nx ρ1) h1 => rest ρ1 h1
    | r => r) = _
  rw [e]
  cases b <;> rfl
theorem seq_if {e : EM} {a rest : SM} {ρ : Env'} {h : HP} {b : Bool} (he : e ρ h = .ok (.bl b) h) : sSq (sIf (tV e) a sNx) rest ρ h = if b = true then sSq a rest ρ h else rest ρ h := seq_ift (by rw [w_tV, he]; rfl)
def stepIn (l : List (List Nat)) : D := if l.take 1 = [wNew] then (if l.length % 3 = 1 then .tup [.str wNew, .tup (colsIn (l.drop 1))] else .non) else if l.take 1 = [wAdd] then (if l.length = 4 then .tup [.str wAdd, (colsIn (l.drop 1)).headD .non] else .non)
  else if l.take 1 = [wDrop] then (if l.length = 2 then .tup [.str wDrop, .str (l.getD 1 [])] else .non) else if l.take 1 = [wName] then (if l.length = 3 then .tup (strsD l) else .non)
  else if l.take 1 = [wFirst] then (if l.length = 3 then .tup [.str wFirst, .str (l.getD 1 []), VI (l.getD 2 [])] else .non) else .non
theorem strs_pl {l : List (List Nat)} (w : WOk l) : ∀ x ∈ strsD l, pl x = true := fun x hx => by
  obtain ⟨s, hs, rfl⟩ := List.mem_map.mp hx
  exact pl_mk (by have := w.each s hs; omega) (w.ch s hs)
theorem pl_w {w : List Nat} (hw : ∀ c ∈ w, c < 1114112) (hl : w.length ≤ 100000) : pl (.str w) = true := pl_mk hl hw
theorem pl2 {a b : D} (ha : pl a = true) (hb : pl b = true) : pl (.tup [a, b]) = true := plL_mk (by simp) fun x hx => by
  simp at hx
  rcases hx with rfl | rfl
  · exact ha
  · exact hb
theorem pl3 {a b c : D} (ha : pl a = true) (hb : pl b = true) (hc : pl c = true) : pl (.tup [a, b, c]) = true := plL_mk (by simp) fun x hx => by
  simp at hx
  rcases hx with rfl | rfl | rfl
  · exact ha
  · exact hb
  · exact hc
theorem pl4 {a b c d : D} (ha : pl a = true) (hb : pl b = true) (hc : pl c = true) (hd : pl d = true) : pl (.tup [a, b, c, d]) = true := plL_mk (by simp) fun x hx => by
  simp at hx
  rcases hx with rfl | rfl | rfl | rfl
  · exact ha
  · exact hb
  · exact hc
  · exact hd
theorem at_pl {l : List (List Nat)} (w : WOk l) (k : Nat) : pl (.str (l.getD k [])) = true := pl_mk (w.at_ k).1 (w.at_ k).2
theorem cols_pl {l : List (List Nat)} (w : WOk l) : pl (.tup (colsIn l)) = true := plL_mk (by rw [colsIn_len]; have := w.len; omega) (colsIn_pl w)
theorem head_pl {l : List (List Nat)} (w : WOk l) : pl ((colsIn l).headD .non) = true := by
  have := colsIn_pl w
  cases q : colsIn l with
  | nil => rfl
  | cons x r => rw [q] at this; exact this x (by simp)
theorem stepIn_pl {l : List (List Nat)} (w : WOk l) : pl (stepIn l) = true := by
  unfold stepIn
  split
  · split
    · exact pl2 (pl_w ch_wNew (by decide)) (cols_pl (w.drop 1))
    · rfl
  · split
    · split
      · exact pl2 (pl_w ch_wAdd (by decide)) (head_pl (w.drop 1))
      · rfl
    · split
      · split
        · exact pl2 (pl_w ch_wDrop (by decide)) (at_pl w 1)
        · rfl
      · split
        · split
          · rename_i z
            exact plL_mk (by rw [lstr_len]; omega) (strs_pl w)
          · rfl
        · split
          · split
            · exact pl3 (pl_w ch_wFirst (by decide)) (at_pl w 1) (VI_pl (w.at_ 2).1 (w.at_ 2).2)
            · rfl
          · rfl
theorem w_len_l {l : List (List Nat)} {h : HP} : fLen [.lst (strsD l)] h = .ok (.int (l.length : Int)) h := by rw [w_lenL, lstr_len]
theorem eq_nat {a b : Nat} {h : HP} : bEq2 (.int (a : Int)) (.int (b : Int)) h = .ok (.bl (decide (a = b))) h := by
  rw [w_eqI]
  have : ((a : Int) = (b : Int)) = (a = b) := propext ⟨fun z => by omega, fun z => by rw [z]⟩
  simp only [this]
theorem tup_ok {xs : List D} {h : HP} (z : xs.length ≤ 100000) : fTup xs h = .ok (.tup xs) h := by
  unfold fTup; rw [if_pos (kline z)]
theorem s_step_in {n : Nat} (hn : 7 ≤ n) {l : List (List Nat)} {h : HP} (w : WOk l) : runP P n 30 [.lst (strsD l)] h = .ok (stepIn l) h := by
  obtain ⟨m, rfl, hm⟩ := succ_of hn
  rw [e_step_in]
  refine runD_same ?_ (pl_nn _ _ (stepIn_pl w))
  show m_step_in _ [some (.lst (strsD l))] h = _
  unfold m_step_in
  have t1 := take_eq w ch_wNew k_new (ρ := [some (.lst (strsD l))]) (h := h) rfl
  have t2 := take_eq w ch_wAdd k_add (ρ := [some (.lst (strsD l))]) (h := h) rfl
  have t3 := take_eq w ch_wDrop k_drop (ρ := [some (.lst (strsD l))]) (h := h) rfl
  have t4 := take_eq w ch_wName k_name (ρ := [some (.lst (strsD l))]) (h := h) rfl
  have t5 := take_eq w ch_wFirst k_first (ρ := [some (.lst (strsD l))]) (h := h) rfl
  have ec := s_columns_in (n := m) (by omega) (h := h) (w.drop 1)
  rw [← strs_drop, List.drop_one] at ec
  have em : ((bMod (.int (l.length : Int)) (.int 3) h).bnd fun x h1 => bEq2 x (.int 1) h1) = .ok (.bl (decide (l.length % 3 = 1))) h := by
    have e1 : bMod (.int (l.length : Int)) (.int 3) h = .ok (.int ((l.length % 3 : Nat) : Int)) h := mod_nat (k := 3) (by omega)
    rw [e1, w_ok]
    exact eq_nat (b := 1)
  have q4 : bEq2 (.int (l.length : Int)) (.int 4) h = .ok (.bl (decide (l.length = 4))) h := eq_nat (b := 4)
  have q2 : bEq2 (.int (l.length : Int)) (.int 2) h = .ok (.bl (decide (l.length = 2))) h := eq_nat (b := 2)
  have q33 : bEq2 (.int (l.length : Int)) (.int 3) h = .ok (.bl (decide (l.length = 3))) h := eq_nat (b := 3)
  unfold stepIn
  rw [seq_if t1, seq_if t2, seq_if t3, seq_if t4, seq_if t5]
  simp only [decide_eq_true_eq]
  by_cases b1 : l.take 1 = [wNew]
  · rw [if_pos b1, if_pos b1]
    by_cases z : l.length % 3 = 1
    · simp [-w_eqI, lstr_len, em, z, ec, tup_ok, k_new]
    · simp [-w_eqI, lstr_len, em, z]
  · rw [if_neg b1, if_neg b1]
    by_cases b2 : l.take 1 = [wAdd]
    · rw [if_pos b2, if_pos b2]
      by_cases z : l.length = 4
      · have hc : ∃ x, colsIn (l.drop 1) = [x] := by
          have := colsIn_len (l.drop 1)
          rw [List.length_drop, z] at this
          exact List.length_eq_one_iff.mp this
        obtain ⟨x, hx⟩ := hc
        rw [hx] at ec
        have hx' : colsIn l.tail = [x] := by rw [← List.drop_one]; exact hx
        simp [lstr_len, z, ec, tup_ok, k_add, hx']
      · simp [-w_eqI, lstr_len, q4, z]
    · rw [if_neg b2, if_neg b2]
      by_cases b3 : l.take 1 = [wDrop]
      · rw [if_pos b3, if_pos b3]
        by_cases z : l.length = 2
        · have a1 := strs_at (l := l) (k := 1) (by omega) (h := h)
          have a1 : bIx2 (.lst (strsD l)) (.int 1) h = .ok (.str (l.getD 1 [])) h := a1
          simp [-w_ixL, lstr_len, z, a1, tup_ok, k_drop]
        · simp [-w_eqI, lstr_len, q2, z]
      · rw [if_neg b3, if_neg b3]
        by_cases b4 : l.take 1 = [wName]
        · rw [if_pos b4, if_pos b4]
          by_cases z : l.length = 3
          · simp [lstr_len, z, ivL]
          · simp [-w_eqI, lstr_len, q33, z]
        · rw [if_neg b4, if_neg b4]
          by_cases b5 : l.take 1 = [wFirst]
          · rw [if_pos b5, if_pos b5]
            by_cases z : l.length = 3
            · have a1 : bIx2 (.lst (strsD l)) (.int 1) h = .ok (.str (l.getD 1 [])) h := strs_at (l := l) (k := 1) (by omega) (h := h)
              have a2 : bIx2 (.lst (strsD l)) (.int 2) h = .ok (.str (l.getD 2 [])) h := strs_at (l := l) (k := 2) (by omega) (h := h)
              have ev := s_value_in (n := m) (by omega) (h := h) (w.at_ 2).1 (w.at_ 2).2
              generalize l.getD 1 [] = g1 at *
              generalize l.getD 2 [] = g2 at *
              simp [-w_ixL, lstr_len, z, a1, a2, tup_ok, k_first, ev]
            · simp [-w_eqI, lstr_len, q33, z]
          · rw [if_neg b5, if_neg b5]
            simp
end Zk
end

/-! N11 -/
set_option exponentiation.threshold 9000
noncomputable section
namespace Zk
open PySem PySem.Spec L2 Zs
open PyProof.Rows hiding St
open Classical
def deedIn (l : List (List Nat)) : D := if l.take 1 = [wPut] ∧ l.length % 2 = 0 ∧ 1 < l.length then .tup [.str wPut, .str (l.getD 1 []), .tup (pairsIn (l.drop 2))] else if l.take 1 = [wGrow] ∧ 2 < l.length then .tup [.str wGrow, .str (l.getD 1 []), stepIn (l.drop 2)]
  else if l.length = 2 ∧ l.getD 0 [] ∈ [wTake, wClock] then .tup [.str (l.getD 0 []), RI (l.getD 1 [])] else .non
theorem RI_pl (w : List Nat) : pl (RI w) = true := by
  rcases RI_cases w with e | ⟨i, e⟩ <;> rw [e] <;> rfl
theorem deedIn_pl {l : List (List Nat)} (w : WOk l) : pl (deedIn l) = true := by
  unfold deedIn
  split
  · exact pl3 (pl_w ch_wPut (by decide)) (at_pl w 1) (plL_mk (by rw [pairsIn_len, List.length_drop]; have := w.len; omega) (pairsIn_pl (w.drop 2)))
  · split
    · exact pl3 (pl_w ch_wGrow (by decide)) (at_pl w 1) (stepIn_pl (w.drop 2))
    · split
      · exact pl2 (at_pl w 0) (RI_pl _)
      · rfl
theorem iRk3_ok {i j c : Int} {n : Nat} {h : HP} (c0 : c ≠ 0) (c1 : c.natAbs < 1073741824) (hs : Builtin.Range.small i j c = true) (hr : (Builtin.Range.rangeSize i j c).toNat = n) : iRk3 [.int i, .int j, .int c] h = .ok ⟨(List.range n).map fun k => D.int (i + (k : Nat) * c), fun _ => True⟩ h := by
  unfold iRk3
  dsimp only
  rw [if_pos ⟨c0, c1, hs⟩, hr]
theorem tAn_ok {a b : TM} {ρ : Env'} {h : HP} {x y : Bool} (ha : a ρ h = .ok x h) (hb : b ρ h = .ok y h) : tAn a b ρ h = .ok (x && y) h := by
  rw [w_tAn, ha, w_ok]
  cases x
  · rfl
  · exact hb
theorem tV_ok {e : EM} {ρ : Env'} {h : HP} {b : Bool} (he : e ρ h = .ok (.bl b) h) : tV e ρ h = .ok b h := by rw [w_tV, he]; rfl
theorem aC_ok {a : EM} {r : AM} {ρ : Env'} {h : HP} {x : D} {xs : List D} (ha : a ρ h = .ok x h) (hr : r ρ h = .ok xs h) : aC a r ρ h = .ok (x :: xs) h := by rw [w_aC, ha, w_ok, hr, w_ok]
theorem aN_ok {ρ : Env'} {h : HP} : aN ρ h = .ok [] h := rfl
theorem eA_ok {f : List D → HP → R D} {a : AM} {ρ : Env'} {h : HP} {xs : List D} {r : R D} (ha : a ρ h = .ok xs h) (hf : f xs h = r) : eA f a ρ h = r := by rw [w_eA, ha, w_ok, hf]
theorem e2_ok {f : D → D → HP → R D} {a b : EM} {ρ : Env'} {h : HP} {x y : D} {r : R D} (ha : a ρ h = .ok x h) (hb : b ρ h = .ok y h) (hf : f x y h = r) : e2 f a b ρ h = r := by rw [w_e2, ha, w_ok, hb, w_ok, hf]
theorem ret_ok {e : EM} {rest : SM} {ρ : Env'} {h : HP} {d : D} (he : e ρ h = .ok d h) : sSq (sRe e) rest ρ h = .ok (.ret d) h := by
  refine seq_ret ?_
  rw [w_sRe, he]; rfl
theorem ret2_ok {e : EM} {r2 rest : SM} {ρ : Env'} {h : HP} {d : D} (he : e ρ h = .ok d h) : sSq (sSq (sRe e) r2) rest ρ h = .ok (.ret d) h := seq_ret (ret_ok he)
theorem eC_ok {d : D} {ρ : Env'} {h : HP} : eC d ρ h = .ok d h := rfl
theorem getD_drop {l : List (List Nat)} {j k : Nat} : (l.drop j).getD k [] = l.getD (j + k) [] := by
  rw [List.getD_eq_getElem?_getD, List.getD_eq_getElem?_getD, List.getElem?_drop]
theorem rng_of {a : AM} {ρ : Env'} {h : HP} {xs : List D} {m : Itm} (ea : a ρ h = .ok xs h) (e : iRk3 xs h = .ok m h) : iR3 a ρ h = .ok m h := by
  show (a ρ h).bnd iRk3 = _
  rw [ea]; exact e
theorem half_even {n : Nat} (h2 : 2 ≤ n) (he : n % 2 = 0) : (n - 1) / 2 = (n - 2) / 2 := by
  obtain ⟨k, rfl⟩ : ∃ k, n = 2 * k + 2 := ⟨n / 2 - 1, by omega⟩
  have e1 : (2 * k + 2 - 1) / 2 = k := by omega
  have e2 : (2 * k + 2 - 2) / 2 = k := by omega
  rw [e1, e2]
/-- the pairs of a put, read -/
theorem pairs_read {m : Nat} (hm : 5 ≤ m) {l : List (List Nat)} {h : HP} (w : WOk l) (h2 : 2 ≤ l.length) (he : l.length % 2 = 0) :
    eLc false (iR3 (aC (eC (.int (2))) (aC (eA fLen (aC (eV 0) aN)) (aC (eC (.int (2))) aN)))) (gN 1) tYe (eA fTup (aC (e2 bIx2 (eV 0) (eV 1)) (aC (eCl (runP P m 24) 1 1 0 [0] (aC (e2 bIx2 (eV 0) (e2 (bAdd false) (eV 1) (eC (.int (1))))) aN) aN) aN))) [1] [some (.lst (strsD l)), none] h
      = .ok (.lst (pairsIn (l.drop 2))) h := by
  have wl := w.len
  have e := eLc_map (ρ := [some (.lst (strsD l)), none]) (h := h) (it := iR3 (aC (eC (.int (2))) (aC (eA fLen (aC (eV 0) aN)) (aC (eC (.int (2))) aN)))) (t := gN 1)
    (e := eA fTup (aC (e2 bIx2 (eV 0) (eV 1)) (aC (eCl (runP P m 24) 1 1 0 [0] (aC (e2 bIx2 (eV 0) (e2 (bAdd false) (eV 1) (eC (.int (1))))) aN) aN) aN))) (vs := [1])
    (m := ⟨(List.range ((l.length - 2) / 2)).map fun k => D.int (2 + (k : Nat) * 2), fun _ => True⟩) (fun d => match d with
      | .int i => .tup [.str (l.getD i.toNat []), VI (l.getD (i.toNat + 1) [])]
      | _ => .non) (by
      have ea : (aC (eC (.int (2))) (aC (eA fLen (aC (eV 0) aN)) (aC (eC (.int (2))) aN))) [some (.lst (strsD l)), none] h = .ok [.int 2, .int (l.length : Int), .int 2] h := by simp [lstr_len]
      exact rng_of ea (iRk3_ok (by decide) (by decide) (small2 wl) ((rsize2 l.length h2).trans (half_even h2 he)))) trivial (fun d hd => by
      obtain ⟨k, hk, rfl⟩ := List.mem_map.mp hd
      rw [List.mem_range] at hk
      refine ⟨[some (.lst (strsD l)), some (.int (2 + (k : Nat) * 2))], rfl, ?_⟩
      have i0 : (2 + (k : Int) * 2) = ((2 + 2 * k : Nat) : Int) := by omega
      have i1 : ((2 + 2 * k : Nat) : Int) + 1 = ((2 + 2 * k + 1 : Nat) : Int) := by omega
      have a0 := strs_at (l := l) (k := 2 + 2 * k) (by omega) (h := h)
      have a1 := strs_at (l := l) (k := 2 + 2 * k + 1) (by omega) (h := h)
      have av := s_value_in (n := m) (by omega) (h := h) (w.at_ (2 + 2 * k + 1)).1 (w.at_ (2 + 2 * k + 1)).2
      rw [i0]
      simp only [w_eA, w_aC, w_aN, w_e2, w_eV, w_eC, w_eCl, List.getElem?_cons_succ, List.getElem?_cons_zero, w_ok, w_addI, a0, i1, a1, List.length_cons, List.length_nil, List.append_nil, w_pickC, w_pick0, and_self, if_true, av, Int.toNat_natCast, fTup]
      rw [if_pos (by rw [sizeLine_eq]; omega)]) (by rw [List.length_map, List.length_range]; exact kline (by omega))
  rw [e]
  refine congrArg (fun x => R.ok (D.lst x) h) ?_
  rw [List.map_map, ← pairs_range (l.drop 2), List.length_drop]
  refine List.map_congr_left fun k _ => ?_
  rw [getD_drop, getD_drop]
  have e1 : (2 + (k : Int) * 2).toNat = 2 + 2 * k := by omega
  have e2 : 2 + (2 * k + 1) = 2 + 2 * k + 1 := by omega
  rw [e2]
  simp only [Function.comp, e1]
theorem strs_ix {l : List (List Nat)} {s : List Nat} {y : D} {ts : List (List Nat)} {neg : Bool} {h : HP} (e : sqOf y h = some (strsD ts)) : bIn2 neg (.str s) y h = .ok (.bl (xor neg (decide (s ∈ ts)))) h := w_inStrs e
theorem s_deed_in {n : Nat} (hn : 8 ≤ n) {l : List (List Nat)} {h : HP} (w : WOk l) : runP P n 31 [.lst (strsD l)] h = .ok (deedIn l) h := by
  obtain ⟨m, rfl, hm⟩ := succ_of hn
  rw [e_deed_in]
  refine runD_same ?_ (pl_nn _ _ (deedIn_pl w))
  show m_deed_in _ [some (.lst (strsD l)), none] h = _
  unfold m_deed_in
  have t1 := take_eq w ch_wPut k_put (ρ := [some (.lst (strsD l)), none]) (h := h) rfl
  have t2 := take_eq w ch_wGrow k_grow (ρ := [some (.lst (strsD l)), none]) (h := h) rfl
  have em : e2 bEq2 (e2 bMod (eA fLen (aC (eV 0) aN)) (eC (.int (2)))) (eC (.int (0))) [some (.lst (strsD l)), none] h = .ok (.bl (decide (l.length % 2 = 0))) h := by
    have e1 : bMod (.int (l.length : Int)) (.int 2) h = .ok (.int ((l.length % 2 : Nat) : Int)) h := mod_nat (k := 2) (by omega)
    simp only [w_e2, w_eA, w_aC, w_aN, w_eV, w_eC, List.getElem?_cons_zero, w_ok, w_lenL, lstr_len, e1]
    exact eq_nat (b := 0)
  have eg : ∀ k : Nat, e2 bGt (eA fLen (aC (eV 0) aN)) (eC (.int (k : Int))) [some (.lst (strsD l)), none] h = .ok (.bl (decide (k < l.length))) h := fun k => by
    simp only [w_e2, w_eA, w_aC, w_aN, w_eV, w_eC, List.getElem?_cons_zero, w_ok, w_lenL, lstr_len, w_gt]
    have : ((k : Int) < (l.length : Int)) = (k < l.length) := propext ⟨fun z => by omega, fun z => by omega⟩
    simp only [this]
  have eg1 : e2 bGt (eA fLen (aC (eV 0) aN)) (eC (.int 1)) [some (.lst (strsD l)), none] h = _ := eg 1
  have eg2 : e2 bGt (eA fLen (aC (eV 0) aN)) (eC (.int 2)) [some (.lst (strsD l)), none] h = _ := eg 2
  have el : e2 bEq2 (eA fLen (aC (eV 0) aN)) (eC (.int (2))) [some (.lst (strsD l)), none] h = .ok (.bl (decide (l.length = 2))) h := by
    simp only [w_e2, w_eA, w_aC, w_aN, w_eV, w_eC, List.getElem?_cons_zero, w_ok, w_lenL, lstr_len]
    exact eq_nat (b := 2)
  unfold deedIn
  have c1 : (tAn (tV (e2 bEq2 (eSl false (eV 0) oN (oS (eC (.int (1))))) (eA (fLst false) (aC (eC c_PUT) aN)))) (tAn (tV (e2 bEq2 (e2 bMod (eA fLen (aC (eV 0) aN)) (eC (.int (2)))) (eC (.int (0))))) (tV (e2 bGt (eA fLen (aC (eV 0) aN)) (eC (.int (1))))))) [some (.lst (strsD l)), none] h
      = .ok (decide (l.take 1 = [wPut]) && (decide (l.length % 2 = 0) && decide (1 < l.length))) h := tAn_ok (tV_ok t1) (tAn_ok (tV_ok em) (tV_ok eg1))
  have c2 : (tAn (tV (e2 bEq2 (eSl false (eV 0) oN (oS (eC (.int (1))))) (eA (fLst false) (aC (eC c_GROW) aN)))) (tV (e2 bGt (eA fLen (aC (eV 0) aN)) (eC (.int (2)))))) [some (.lst (strsD l)), none] h
      = .ok (decide (l.take 1 = [wGrow]) && decide (2 < l.length)) h := tAn_ok (tV_ok t2) (tV_ok eg2)
  rw [seq_ift c1, seq_ift c2]
  simp only [Bool.and_eq_true, decide_eq_true_eq]
  by_cases b1 : l.take 1 = [wPut] ∧ l.length % 2 = 0 ∧ 1 < l.length
  · rw [if_pos b1, if_pos b1]
    have er := pairs_read (m := m) (by omega) (h := h) w (by omega) b1.2.1
    have a1 : bIx2 (.lst (strsD l)) (.int 1) h = .ok (.str (l.getD 1 [])) h := strs_at (l := l) (k := 1) (by omega) (h := h)
    exact ret2_ok (eA_ok (aC_ok (x := .str wPut) eC_ok (aC_ok (e2_ok (eV_at rfl) eC_ok a1) (aC_ok (eA_ok (aC_ok er aN_ok) ivL) aN_ok))) (tup_ok (by simp)))
  · rw [if_neg b1, if_neg b1]
    by_cases b2 : l.take 1 = [wGrow] ∧ 2 < l.length
    · rw [if_pos b2, if_pos b2]
      have ec := s_step_in (n := m) (by omega) (h := h) (w.drop 2)
      rw [← strs_drop] at ec
      have a1 : bIx2 (.lst (strsD l)) (.int 1) h = .ok (.str (l.getD 1 [])) h := strs_at (l := l) (k := 1) (by omega) (h := h)
      generalize l.getD 1 [] = g1 at *
      generalize stepIn (l.drop 2) = g2 at *
      simp [-w_ixL, a1, ec, tup_ok, k_grow]
    · rw [if_neg b2, if_neg b2]
      by_cases z : l.length = 2
      · have a0 : bIx2 (.lst (strsD l)) (.int 0) h = .ok (.str (l.getD 0 [])) h := strs_at (l := l) (k := 0) (by omega) (h := h)
        have a1 : bIx2 (.lst (strsD l)) (.int 1) h = .ok (.str (l.getD 1 [])) h := strs_at (l := l) (k := 1) (by omega) (h := h)
        have er := s_read_integer (n := m) (by omega) (h := h) (w.at_ 1).1
        have ei : bIn2 false (.str (l.getD 0 [])) (.tup [.str wTake, .str wClock]) h = _ := w_inStrs (s := l.getD 0 []) (l := [wTake, wClock]) (neg := false) rfl
        have ct : (tAn (tV (e2 bEq2 (eA fLen (aC (eV 0) aN)) (eC (.int (2))))) (tV (e2 (bIn2 false) (e2 bIx2 (eV 0) (eC (.int (0)))) (eA fTup (aC (eC c_TAKE) (aC (eC c_CLOCK) aN)))))) [some (.lst (strsD l)), none] h = .ok (decide (l.length = 2) && decide (l.getD 0 [] ∈ [wTake, wClock])) h := by
          refine tAn_ok (tV_ok el) (tV_ok ?_)
          generalize l.getD 0 [] = g0 at *
          simp [-w_ixL, a0, k_take, k_clock, tup_ok]
          rw [ei]; simp
        rw [seq_ift ct]
        generalize l.getD 0 [] = g0 at *
        generalize l.getD 1 [] = g1 at *
        by_cases b3 : g0 ∈ [wTake, wClock]
        · rw [if_pos (by simp [z, b3]), if_pos ⟨z, b3⟩]
          simp [-w_ixL, a0, a1, er, tup_ok]
        · rw [if_neg (by simp [z, b3]), if_neg fun q => b3 q.2]
          simp
      · have ct : (tAn (tV (e2 bEq2 (eA fLen (aC (eV 0) aN)) (eC (.int (2))))) (tV (e2 (bIn2 false) (e2 bIx2 (eV 0) (eC (.int (0)))) (eA fTup (aC (eC c_TAKE) (aC (eC c_CLOCK) aN)))))) [some (.lst (strsD l)), none] h = .ok false h := by
          rw [w_tAn, tV_ok el, w_ok, decide_eq_false z]; rfl
        rw [seq_ift ct, if_neg (by simp), if_neg fun q => z q.1]
        simp
end Zk
end

/-! N12 -/
set_option exponentiation.threshold 9000
noncomputable section
namespace Zk
open PySem PySem.Spec L2 Zs
open PyProof.Rows hiding St
open Classical
/-! ### what letters' words are made of -/
def gw (w : List Nat) : Prop := w.length ≤ 16 ∧ ∀ c ∈ w, c ≠ 32 ∧ c < 128
def gws (l : List (List Nat)) : Prop := ∀ w ∈ l, gw w
theorem gws_nil : gws [] := fun _ h => by cases h
theorem gws_cons {w : List Nat} {l : List (List Nat)} (a : gw w) (b : gws l) : gws (w :: l) := fun x hx => by
  rcases List.mem_cons.mp hx with e | hx
  · rw [e]; exact a
  · exact b x hx
theorem gws_app {a b : List (List Nat)} (x : gws a) (y : gws b) : gws (a ++ b) := fun w hw => (List.mem_append.mp hw).elim (x w) (y w)
theorem gws_flat {f : D → List (List Nat)} {xs : List D} (h : ∀ x ∈ xs, gws (f x)) : gws (xs.flatMap f) := fun w hw => by
  obtain ⟨x, hx, hw⟩ := List.mem_flatMap.mp hw
  exact h x hx w hw
theorem sign_ch {c : Nat} (h : sign c = true) : c ≠ 32 ∧ c < 128 := by
  unfold sign at h
  rw [Bool.or_eq_true, decide_eq_true_eq, decide_eq_true_eq] at h
  have k1 : ∀ c ∈ smallL, c ≠ 32 ∧ c < 128 := by decide
  have k2 : ∀ c ∈ figL, c ≠ 32 ∧ c < 128 := by decide
  exact h.elim (k1 c) (k2 c)
theorem signs_gw {k : Int} {s : List Nat} (h : signs k (.str s) = true) (hk : k ≤ 16) : gw s := by
  obtain ⟨h1, h2, h3⟩ := signs_len h
  exact ⟨by omega, fun c hc => sign_ch (List.all_eq_true.mp h3 c hc)⟩
theorem name_gw {s : List Nat} (h : nameB (.str s) = true) : gw s := by
  obtain ⟨h1, h2, h3⟩ := nameB_len h
  exact ⟨by omega, fun c hc => sign_ch (List.all_eq_true.mp h3 c hc)⟩
theorem dg_ch {n : Nat} : ∀ c ∈ dg n, c ≠ 32 ∧ c < 128 := fun c hc => by have := dg_all n c hc; omega
theorem int_gw {i : Int} (h : i.natAbs < 10 ^ 14) : gw (intT i) := by
  refine ⟨by have := intT_len (i := i) (k := 13) h; omega, fun c hc => ?_⟩
  rcases int_cases i with ⟨n, rfl⟩ | ⟨n, rfl⟩
  · rw [intT_nat] at hc; exact dg_ch c hc
  · rw [intT_neg] at hc
    rcases List.mem_cons.mp hc with e | hc
    · subst e; decide
    · exact dg_ch c hc
theorem val_gw {d : D} (h : (kd d).isSome = true) : gw (valT d) := by
  rcases kd_of h with ⟨i, rfl, h1, h2⟩ | ⟨s, rfl, hs⟩
  · exact int_gw (by omega)
  · have l := signs_len hs
    have g := signs_gw hs (by decide)
    refine ⟨by show (39 :: s).length ≤ 16; rw [List.length_cons]; omega, fun c hc => ?_⟩
    rcases List.mem_cons.mp hc with e | hc
    · subst e; decide
    · exact g.2 c hc
theorem gw_of {w : List Nat} (h : decide (w.length ≤ 16) = true ∧ w.all (fun c => decide (c ≠ 32) && decide (c < 128)) = true) : gw w := ⟨of_decide_eq_true h.1, fun c hc => by
  have := List.all_eq_true.mp h.2 c hc
  rw [Bool.and_eq_true, decide_eq_true_eq, decide_eq_true_eq] at this
  exact this⟩
theorem g_new : gw wNew := gw_of (by decide)
theorem g_add : gw wAdd := gw_of (by decide)
theorem g_drop : gw wDrop := gw_of (by decide)
theorem g_name : gw wName := gw_of (by decide)
theorem g_first : gw wFirst := gw_of (by decide)
theorem g_put : gw wPut := gw_of (by decide)
theorem g_take : gw wTake := gw_of (by decide)
theorem g_grow : gw wGrow := gw_of (by decide)
theorem g_clock : gw wClock := gw_of (by decide)
theorem col_gw {d : D} (h : colB d = true) : gws (colW d) := by
  obtain ⟨s, t, c, rfl, h1, h2, h3⟩ := colB_of h
  refine gws_cons (name_gw h1) (gws_cons ?_ (gws_cons (val_gw (kd_some h3)) gws_nil))
  have g1 : gw tInt := gw_of (by decide)
  have g2 : gw tWord := gw_of (by decide)
  rcases h2 with rfl | rfl
  · exact g1
  · exact g2
theorem step_gw {d : D} (h : stepB d = true) : gws (stepW d) := by
  rcases stepB_of h with ⟨xs, rfl, hs⟩ | ⟨a, rfl, ha⟩ | ⟨s, rfl, hs⟩ | ⟨s, t, rfl, hs, ht⟩ | ⟨s, b, rfl, hs, hb⟩
  · obtain ⟨z1, z2, z3, _⟩ := shpB_of hs
    exact gws_cons g_new (gws_flat fun x hx => col_gw (List.all_eq_true.mp z3 x hx))
  · exact gws_cons g_add (col_gw ha)
  · exact gws_cons g_drop (gws_cons (name_gw hs) gws_nil)
  · exact gws_cons g_name (gws_cons (name_gw hs) (gws_cons (name_gw ht) gws_nil))
  · exact gws_cons g_first (gws_cons (name_gw hs) (gws_cons (val_gw hb) gws_nil))
theorem deed_gw {d : D} (h : deedB d = true) : gws (deedW d) := by
  rcases deedB_of h with ⟨s, xs, rfl, hs, z1, z3, _⟩ | ⟨i, rfl, i1, i2⟩ | ⟨s, st, rfl, hs, ht⟩ | ⟨i, rfl, i1, i2⟩
  · refine gws_cons g_put (gws_cons (name_gw hs) (gws_flat fun x hx => ?_))
    obtain ⟨a, b, rfl, ha, hb⟩ := nvB_of (List.all_eq_true.mp z3 x hx)
    exact gws_cons (name_gw ha) (gws_cons (val_gw hb) gws_nil)
  · exact gws_cons g_take (gws_cons (int_gw (by omega)) gws_nil)
  · exact gws_cons g_grow (gws_cons (name_gw hs) (step_gw ht))
  · exact gws_cons g_clock (gws_cons (int_gw (by omega)) gws_nil)
theorem let_gw {d : D} (h : letB d = true) : gws (letW d) := by
  obtain ⟨s, k, t, e, rfl, hs, n1, n2, t1, t2, hd⟩ := letB_of h
  exact gws_cons (name_gw hs) (gws_cons (int_gw (by omega)) (gws_cons (int_gw (by omega)) (deed_gw hd)))
theorem letW_len {d : D} (h : letB d = true) : 5 ≤ (letW d).length ∧ (letW d).length ≤ 35 := by
  obtain ⟨s, k, t, e, rfl, hs, n1, n2, t1, t2, hd⟩ := letB_of h
  have ew : letW (.tup [.str s, .int k, .int t, e]) = [s, intT k, intT t] ++ deedW e := rfl
  have := deedW_len hd
  have two : 2 ≤ (deedW e).length := by
    rcases deedB_of hd with ⟨s, xs, rfl, hs, z1, z3, _⟩ | ⟨i, rfl, i1, i2⟩ | ⟨s, st, rfl, hs, ht⟩ | ⟨i, rfl, i1, i2⟩
    · have ew : deedW (.tup [.str wPut, .str s, .tup xs]) = [wPut, s] ++ xs.flatMap pairW := rfl
      rw [ew, List.length_append]; simp
    · show 2 ≤ 2; omega
    · have ew : deedW (.tup [.str wGrow, .str s, st]) = [wGrow, s] ++ stepW st := rfl
      rw [ew, List.length_append]; simp
    · show 2 ≤ 2; omega
  rw [ew, List.length_append]
  simp
  omega
theorem gws_ch {l : List (List Nat)} (h : gws l) : chOk l := fun s hs c hc => by have := (h s hs).2 c hc; omega
/-! ### letter_in -/
def foundD (l : List (List Nat)) : D := .tup [.str (l.getD 0 []), RI (l.getD 1 []), RI (l.getD 2 []), deedIn (l.drop 3)]
def letIn (l : List (List Nat)) : D := if l.length < 5 then .non else if letB (foundD l) = true ∧ letW (foundD l) = l then foundD l else .non
theorem found_pl {l : List (List Nat)} (w : WOk l) : pl (foundD l) = true := pl4 (at_pl w 0) (RI_pl _) (RI_pl _) (deedIn_pl (w.drop 3))
theorem letIn_pl {l : List (List Nat)} (w : WOk l) : pl (letIn l) = true := by
  unfold letIn
  split
  · rfl
  · split
    · exact found_pl w
    · rfl
theorem eSl_ok {a : EM} {lo hi : OM} {ρ : Env'} {h : HP} {x d : D} {l u : Option Int} (ha : a ρ h = .ok x h) (hl : lo ρ h = .ok l h) (hu : hi ρ h = .ok u h) (hf : fSl false x l u h = .ok d h) : eSl false a lo hi ρ h = .ok d h := by rw [w_eSl, ha, w_ok, hl, w_ok, hu, w_ok, hf]
theorem call1_ok {f : FSem} {a : EM} {ρ : Env'} {h h' : HP} {x d : D} (ha : a ρ h = .ok x h) (hf : f [x] h = .ok d h') : eCl f 1 1 0 [0] (aC a aN) aN ρ h = .ok d h' := by
  rw [w_eCl, w_aC, ha, w_ok, w_aN, w_ok, w_ok]
  simp [hf]
theorem eIf_ok {t : TM} {a b : EM} {ρ : Env'} {h : HP} {c : Bool} {d : D} (ht : t ρ h = .ok c h) (hd : (if c = true then a ρ h else b ρ h) = .ok d h) : eIf t a b ρ h = .ok d h := by
  rw [w_eIf, ht, w_ok]
  cases c <;> exact hd
theorem s_letter_in {n : Nat} (hn : 9 ≤ n) {l : List (List Nat)} {h : HP} (w : WOk l) : runP P n 32 [.lst (strsD l)] h = .ok (letIn l) h := by
  obtain ⟨m, rfl, hm⟩ := succ_of hn
  rw [e_letter_in]
  refine runD_same ?_ (pl_nn _ _ (letIn_pl w))
  show m_letter_in _ [some (.lst (strsD l)), none] h = _
  unfold m_letter_in
  have e5 : e2 bLtX (eA fLen (aC (eV 0) aN)) (eC (.int 5)) [some (.lst (strsD l)), none] h = .ok (.bl (decide (l.length < 5))) h := by
    refine e2_ok (eA_ok (aC_ok (eV_at rfl) aN_ok) w_len_l) eC_ok ?_
    rw [w_lt]
    have : ((l.length : Int) < 5) = (l.length < 5) := propext ⟨fun z => by omega, fun z => by omega⟩
    simp only [this]
  rw [seq_if e5]
  unfold letIn
  by_cases h5 : l.length < 5
  · rw [if_pos (decide_eq_true h5), if_pos h5]
    exact ret2_ok eC_ok
  · rw [if_neg (by simp [h5]), if_neg h5]
    have a0 : bIx2 (.lst (strsD l)) (.int 0) h = .ok (.str (l.getD 0 [])) h := strs_at (l := l) (k := 0) (by omega) (h := h)
    have a1 : bIx2 (.lst (strsD l)) (.int 1) h = .ok (.str (l.getD 1 [])) h := strs_at (l := l) (k := 1) (by omega) (h := h)
    have a2 : bIx2 (.lst (strsD l)) (.int 2) h = .ok (.str (l.getD 2 [])) h := strs_at (l := l) (k := 2) (by omega) (h := h)
    have r1 := s_read_integer (n := m) (by omega) (h := h) (w.at_ 1).1
    have r2 := s_read_integer (n := m) (by omega) (h := h) (w.at_ 2).1
    have r3 := s_deed_in (n := m) (by omega) (h := h) (w.drop 3)
    have sl : fSl false (.lst (strsD l)) (some 3) none h = .ok (.lst (strsD (l.drop 3))) h := by rw [w_slL, cut3, strs_drop]
    have es : sAs (eA fTup (aC (e2 bIx2 (eV 0) (eC (.int 0))) (aC (eCl (runP P m 3) 1 1 0 [0] (aC (e2 bIx2 (eV 0) (eC (.int 1))) aN) aN) (aC (eCl (runP P m 3) 1 1 0 [0] (aC (e2 bIx2 (eV 0) (eC (.int 2))) aN) aN) (aC (eCl (runP P m 31) 1 1 0 [0] (aC (eSl false (eV 0) (oS (eC (.int 3))) oN) aN) aN) aN))))) (gN 1) [some (.lst (strsD l)), none] h = .ok (.nx [some (.lst (strsD l)), some (foundD l)]) h := by
      rw [w_sAs, eA_ok (aC_ok (e2_ok (eV_at rfl) eC_ok a0) (aC_ok (call1_ok (e2_ok (eV_at rfl) eC_ok a1) r1) (aC_ok (call1_ok (e2_ok (eV_at rfl) eC_ok a2) r2) (aC_ok (call1_ok (eSl_ok (eV_at rfl) rfl rfl sl) r3) aN_ok)))) (tup_ok (by simp))]
      rfl
    rw [seq_ok es]
    refine ret_ok ?_
    have i1 := s_is_letter (n := m) (by omega) (h := h) (found_pl w)
    cases hb : letB (foundD l) with
    | false =>
      rw [hb] at i1
      refine eIf_ok (c := false) ?_ (by rw [if_neg (by simp), if_neg (by simp)]; rfl)
      rw [w_tAn, tV_ok (call1_ok (eV_at rfl) i1)]; rfl
    | true =>
      rw [hb] at i1
      have i2 := s_letter_words (n := m) (by omega) (h := h) hb
      have eq := eq_strs (h := h) (gws_ch (let_gw hb)) w.ch
      refine eIf_ok (c := true && decide (letW (foundD l) = l)) (tAn_ok (tV_ok (call1_ok (eV_at rfl) i1)) (tV_ok (e2_ok (call1_ok (eV_at rfl) i2) (eA_ok (aC_ok (eV_at rfl) aN_ok) rfl) eq))) ?_
      by_cases z : letW (foundD l) = l
      · rw [if_pos (by simp [z]), if_pos ⟨rfl, z⟩]
        exact eV_at rfl
      · rw [if_neg (by simp [z]), if_neg fun q => z q.2]
        rfl
end Zk
end

/-! N13 -/
set_option exponentiation.threshold 9000
noncomputable section
namespace Zk
open PySem PySem.Spec L2 Zs
open PyProof.Rows hiding St
open Classical
/-! ### split and join -/
def spl (a : List Nat) : List (List Nat) := TL.spl [32] 0 [] a
def joi (l : List (List Nat)) : List Nat := TL.joinL [32] l
theorem spl_step (c : Nat) (r acc : List Nat) : TL.spl [32] 0 acc (c :: r) = if c = 32 then acc :: TL.spl [32] 0 [] r else TL.spl [32] 0 (acc ++ [c]) r := by
  by_cases h : c = 32
  · subst h
    rw [if_pos rfl]
    rfl
  · rw [if_neg h]
    have : TL.pre [32] (c :: r) = false := by
      unfold TL.pre
      simp
      intro z; exact absurd z h
    show (if TL.pre [32] (c :: r) = true then _ else TL.spl [32] 0 (acc ++ [c]) r) = _
    rw [this]; rfl
theorem spl_ne : ∀ (a acc : List Nat), TL.spl [32] 0 acc a ≠ []
  | [], acc => by rw [TL.spl_nil]; simp
  | c :: r, acc => by
    rw [spl_step]
    split
    · simp
    · exact spl_ne r _
theorem join_cons {p : List Nat} {l : List (List Nat)} (h : l ≠ []) : TL.joinL [32] (p :: l) = p ++ 32 :: TL.joinL [32] l := by
  cases l with
  | nil => exact absurd rfl h
  | cons q r => rfl
theorem join_spl : ∀ (a acc : List Nat), TL.joinL [32] (TL.spl [32] 0 acc a) = acc ++ a
  | [], acc => by rw [TL.spl_nil]; simp [TL.joinL]
  | c :: r, acc => by
    rw [spl_step]
    split
    · rename_i h
      subst h
      rw [join_cons (spl_ne r []), join_spl r []]; rfl
    · rw [join_spl r]; simp
theorem joi_spl (a : List Nat) : joi (spl a) = a := by unfold joi spl; rw [join_spl]; rfl
theorem spl_joi {l : List (List Nat)} (h : l ≠ []) (g : gws l) : spl (joi l) = l := SX.spl_join h fun p hp hc => ((g p hp).2 32 hc).1 rfl
theorem spl_mem : ∀ (a acc : List Nat) (p : List Nat), p ∈ TL.spl [32] 0 acc a → (∀ c ∈ p, c ∈ acc ++ a) ∧ p.length ≤ acc.length + a.length
  | [], acc, p, h => by
    rw [TL.spl_nil, List.mem_singleton] at h
    subst h
    exact ⟨fun c hc => by simpa using hc, by simp⟩
  | c :: r, acc, p, h => by
    rw [spl_step] at h
    split at h
    · rcases List.mem_cons.mp h with e | h
      · subst e
        exact ⟨fun c hc => List.mem_append_left _ hc, by omega⟩
      · obtain ⟨h1, h2⟩ := spl_mem r [] p h
        refine ⟨fun d hd => ?_, by simp at h2 ⊢; omega⟩
        have := h1 d hd
        simp at this ⊢
        exact .inr (.inr this)
    · obtain ⟨h1, h2⟩ := spl_mem r (acc ++ [c]) p h
      refine ⟨fun d hd => ?_, by simp at h2 ⊢; omega⟩
      have := h1 d hd
      simp at this ⊢
      exact this
theorem spl_len : ∀ (a acc : List Nat), (TL.spl [32] 0 acc a).length ≤ a.length + 1
  | [], acc => by rw [TL.spl_nil]; simp
  | c :: r, acc => by
    rw [spl_step]
    split
    · have := spl_len r []
      simp; omega
    · have := spl_len r (acc ++ [c])
      simp; omega
theorem spl_ok {t : List Nat} (hz : t.length ≤ 2000) (hc : ∀ c ∈ t, c < 1114112) : WOk (spl t) := ⟨by have := spl_len t []; unfold spl; omega, fun s hs => by have := (spl_mem t [] s hs).2; simp at this; omega, fun s hs c h => hc c (by have := (spl_mem t [] s hs).1 c h; simpa using this)⟩
theorem joi_len : ∀ {l : List (List Nat)}, gws l → (joi l).length ≤ l.length * 17
  | [], _ => by show 0 ≤ _; omega
  | [p], h => by
    have := (h p (by simp)).1
    show p.length ≤ 1 * 17
    omega
  | p :: q :: r, h => by
    have h1 := (h p (by simp)).1
    have h2 := joi_len (l := q :: r) fun w hw => h w (List.mem_cons_of_mem _ hw)
    show (p ++ ([32] ++ TL.joinL [32] (q :: r))).length ≤ _
    have h3 : (TL.joinL [32] (q :: r)).length ≤ (q :: r).length * 17 := h2
    simp only [List.length_append, List.length_cons, List.length_nil] at *
    omega
theorem joi_ch : ∀ {l : List (List Nat)}, gws l → ∀ c ∈ joi l, c < 128
  | [], _, c, hc => by cases hc
  | [p], h, c, hc => ((h p (by simp)).2 c hc).2
  | p :: q :: r, h, c, hc => by
    have hc : c ∈ p ++ ([32] ++ TL.joinL [32] (q :: r)) := hc
    rcases List.mem_append.mp hc with hc | hc
    · exact ((h p (by simp)).2 c hc).2
    · rcases List.mem_append.mp hc with hc | hc
      · rw [List.mem_singleton] at hc; omega
      · exact joi_ch (l := q :: r) (fun w hw => h w (List.mem_cons_of_mem _ hw)) c hc
theorem strsOf_strs : ∀ l : List (List Nat), strsOf (strsD l) = some l
  | [] => rfl
  | s :: l => by
    show (strsOf (strsD l)).map (s :: ·) = _
    rw [strsOf_strs l]; rfl
theorem sum_le {l : List (List Nat)} {B : Nat} (h : ∀ s ∈ l, s.length ≤ B) : (l.map (·.length)).sum ≤ l.length * B := by
  induction l with
  | nil => simp
  | cons s l ih =>
    have h1 := h s (by simp)
    have h2 := ih fun t ht => h t (List.mem_cons_of_mem _ ht)
    rw [List.map_cons, List.sum_cons, List.length_cons, Nat.add_mul, Nat.one_mul]
    omega
theorem join_ok {l : List (List Nat)} {y : D} {h : HP} (e : sqOf y h = some (strsD l)) (hl : l.length ≤ 2500) (hs : ∀ s ∈ l, s.length ≤ 3000) : mJoin (.str [32]) [y] h = .ok (.str (joi l)) h := by
  have h1 := sum_le hs
  have h2 : l.length * 3000 ≤ 2500 * 3000 := Nat.mul_le_mul_right _ hl
  have hz : (l.map (·.length)).sum + l.length * ([32] : List Nat).length ≤ sizeLine := by
    rw [sizeLine_eq]
    show _ + l.length * 1 ≤ _
    omega
  unfold mJoin
  simp only [e, strsOf_strs]
  rw [if_pos hz]
  rfl
/-! ### letter_text, read_letter -/
theorem noDc_self (h : HP) : noDc h.length h = true := by
  unfold noDc
  rw [List.drop_length]; rfl
theorem fin_none {h : HP} : finN false h h = .ok .non h := by
  show (if okOld h h then R.ok D.non (h.take h.length) else .bad) = _
  rw [if_pos okOld_refl, List.take_length]
theorem finX_same {k : Nat} {h : HP} {c : Str} {d : D} (p : pl d = true) : finX k h c d h = .exc c d h := by
  unfold finX
  rw [if_pos ⟨okOld_refl, noDc_self h⟩, frz_flat (pl_nn _ _ p)]
  dsimp only
  rw [List.take_length]
theorem runD_exc {k n : Nat} {m : SM} {ds : List D} {h : HP} {c : Str} {d : D} {ρ : Env'} (e : m (startE n ds) h = .ok (.exc c d ρ) h) (p : pl d = true) : runD false k n m ds h = .exc c d h := by
  unfold runD; rw [e]; exact finX_same p
theorem runD_nx {k n : Nat} {m : SM} {ds : List D} {h : HP} {ρ : Env'} (e : m (startE n ds) h = .ok (.nx ρ) h) : runD false k n m ds h = .ok .non h := by
  unfold runD; rw [e]; exact fin_none
theorem s_check_letter {n : Nat} (hn : 9 ≤ n) {d : D} {h : HP} (v : pl d = true) : runP P n 22 [d] h = if letB d = true then .ok .non h else .exc "BadLetter" d h := by
  obtain ⟨m, rfl, hm⟩ := succ_of hn
  rw [e_check_letter]
  have e := s_is_letter (n := m) (by omega) (h := h) v
  cases hb : letB d with
  | true =>
    rw [hb] at e
    rw [if_pos rfl]
    refine runD_nx (ρ := [some d]) ?_
    show m_check_letter _ [some d] h = _
    unfold m_check_letter
    simp [e]
  | false =>
    rw [hb] at e
    rw [if_neg (by simp)]
    refine runD_exc (ρ := [some d]) ?_ v
    show m_check_letter _ [some d] h = _
    unfold m_check_letter
    simp [e, sRaise]
theorem s_letter_text {n : Nat} (hn : 10 ≤ n) {d : D} {h : HP} (v : pl d = true) : runP P n 33 [d] h = if letB d = true then .ok (.str (joi (letW d))) h else .exc "BadLetter" d h := by
  obtain ⟨m, rfl, hm⟩ := succ_of hn
  rw [e_letter_text]
  have e := s_check_letter (n := m) (by omega) (h := h) v
  cases hb : letB d with
  | true =>
    rw [hb, if_pos rfl] at e
    rw [if_pos rfl]
    refine runD_same ?_ rfl
    show m_letter_text _ [some d] h = _
    unfold m_letter_text
    have e2 := s_letter_words (n := m) (by omega) (h := h) hb
    have lw := letW_len hb
    have j := join_ok (l := letW d) (y := .lst (strsD (letW d))) (h := h) rfl (by omega) fun s hs => by have := (let_gw hb s hs).1; omega
    have cb : c_BLANK = .str [32] := rfl
    rw [seq_ok (ρ1 := [some d]) (h1 := h) (by rw [w_sEx, call1_ok (eV_at rfl) e]; rfl)]
    refine ret_ok ?_
    rw [w_eMt, w_eC, w_ok, cb]
    show ((aC _ aN) [some d] h).bnd _ = _
    rw [aC_ok (call1_ok (eV_at rfl) e2) aN_ok, w_ok, j]
  | false =>
    rw [hb, if_neg (by simp)] at e
    rw [if_neg (by simp)]
    refine runD_exc (ρ := [some d]) ?_ v
    show m_letter_text _ [some d] h = _
    unfold m_letter_text
    have : sEx (eCl (runP P m 22) 1 1 0 [0] (aC (eV 0) aN) aN) [some d] h = .ok (.exc "BadLetter" d [some d]) h := by
      simp [e, lift]
    unfold sSq
    rw [this]
def readR (t : List Nat) (h : HP) : R D := if t.length ≤ 2000 then (if isNon (letIn (spl t)) = true then .exc "BadText" (.str t) h else .ok (letIn (spl t)) h) else .exc "NoText" (.str t) h
theorem s_read_letter {n : Nat} (hn : 10 ≤ n) {t : List Nat} {h : HP} (v : pl (.str t) = true) : runP P n 34 [.str t] h = readR t h := by
  obtain ⟨m, rfl, hm⟩ := succ_of hn
  rw [e_read_letter]
  unfold readR
  have cm : c_MOST_TEXT = .int 2000 := rfl
  by_cases hz : t.length ≤ 2000
  · rw [if_pos hz]
    have wk := spl_ok hz (pl_chr v)
    have e1 := s_letter_in (n := m) (by omega) (h := h) wk
    have sp : mSplit false (.str t) [.str [32]] h = .ok (.lst (strsD (spl t))) h := by
      rw [split_str ⟨by decide, by decide, by rw [sizeLine_eq]; omega⟩]
      rfl
    have cb : c_BLANK = .str [32] := rfl
    have s0 : ∀ rest, m_read_letter (runP P m) [some (.str t), none] h = rest → True := fun _ _ => trivial
    have z2 : ¬ (2000 : Int) < t.length := by omega
    cases hn : isNon (letIn (spl t)) with
    | true =>
      rw [if_pos rfl]
      refine runD_exc (ρ := [some (.str t), some (letIn (spl t))]) ?_ v
      show m_read_letter _ [some (.str t), none] h = _
      unfold m_read_letter
      simp [tyOfD, isiT, cm, z2, cb, isStrD, sp, e1, hn, sRaise]
    | false =>
      rw [if_neg (by simp)]
      refine runD_same ?_ (pl_nn _ _ (letIn_pl wk))
      show m_read_letter _ [some (.str t), none] h = _
      unfold m_read_letter
      simp [tyOfD, isiT, cm, z2, cb, isStrD, sp, e1, hn]
  · rw [if_neg hz]
    refine runD_exc (ρ := [some (.str t), none]) ?_ v
    show m_read_letter _ [some (.str t), none] h = _
    unfold m_read_letter
    have z2 : (2000 : Int) < t.length := by omega
    simp [tyOfD, isiT, cm, z2, sRaise]
theorem s_read_odd {n : Nat} (hn : 1 ≤ n) {d : D} {h : HP} (v : pl d = true) (o : ∀ t, d ≠ .str t) : runP P n 34 [d] h = .exc "NoText" d h := by
  obtain ⟨m, rfl, hm⟩ := succ_of hn
  rw [e_read_letter]
  refine runD_exc (ρ := [some d, none]) ?_ v
  show m_read_letter _ [some d, none] h = _
  unfold m_read_letter
  cases d <;> first | (cases v; done) | (exact absurd rfl (o _)) | simp [tyOfD, isiT, sRaise]
end Zk
end

/-! N14 -/
set_option exponentiation.threshold 9000
noncomputable section
namespace Zk
open PySem PySem.Spec L2 Zs
open PyProof.Rows hiding St
open Classical
open PySem.NumText (digitsVal AllDigits)
/-! ### what is written is read -/
theorem dg_fig {n : Nat} (h : n < 10 ^ 14) : okFig (dg n) = true := by
  unfold okFig
  have h1 := dg_pos n
  have h2 := dg_len n 13 h
  rw [Bool.and_eq_true, Bool.and_eq_true, decide_eq_true_eq, decide_eq_true_eq]
  exact ⟨⟨by omega, by omega⟩, List.all_eq_true.mpr fun c hc => digit_fig (dg_all n c hc)⟩
theorem RI_int {i : Int} (h : i.natAbs < 10 ^ 14) : RI (intT i) = .int i := by
  rcases int_cases i with ⟨n, rfl⟩ | ⟨n, rfl⟩
  · rw [intT_nat]
    have hn : n < 10 ^ 14 := by simpa using h
    have hd := dg_all n
    have hl := dg_len n 13 hn
    have hv := PySem.intText_digits (x := strV (dg n)) (by rw [strV_list]; exact hd) (by rw [strV_list]; intro z; have := dg_pos n; rw [z] at this; simp at this) (by rw [strV_len]; omega)
    rw [strV_list, dg_val] at hv
    have ef : figs (dg n) = dg n := by
      unfold figs
      rw [if_neg]
      intro z
      rcases dg_head n with ⟨_, e⟩ | ⟨c, r, e, hc⟩
      · rw [e] at z; simp at z
      · rw [e] at z; simp at z; omega
    unfold RI
    rw [ef, dg_fig hn, if_neg (by simp), hv]
    rcases dg_head n with ⟨_, e⟩ | ⟨c, r, e, hc⟩
    · rw [e]; simp
    · rw [e]
      dsimp only
      rw [if_neg fun z => by omega]
      rfl
  · rw [intT_neg]
    have hn : n + 1 < 10 ^ 14 := by
      have e : (-((n + 1 : Nat) : Int)).natAbs = n + 1 := by omega
      rw [e] at h; exact h
    have hd := dg_all (n + 1)
    have hl := dg_len (n + 1) 13 hn
    have hv := PySem.intText_neg (x := strV (45 :: dg (n + 1))) (cs := dg (n + 1)) (strV_list _) hd (by intro z; have := dg_pos (n + 1); rw [z] at this; simp at this) (by rw [strV_len, List.length_cons]; omega)
    rw [dg_val] at hv
    have ef : figs (45 :: dg (n + 1)) = dg (n + 1) := by
      unfold figs
      rw [if_pos (by simp)]
      rfl
    unfold RI
    rw [ef, dg_fig hn, if_neg (by simp), hv]
    rcases dg_head (n + 1) with ⟨z, _⟩ | ⟨c, r, e, hc⟩
    · omega
    · rw [e]
      dsimp only
      rw [if_neg fun z => by omega]
      rfl
theorem VI_val {d : D} (h : (kd d).isSome = true) : VI (valT d) = d := by
  rcases kd_of h with ⟨i, rfl, h1, h2⟩ | ⟨s, rfl, hs⟩
  · have e : VV (valT (.int i)) = .int i := by
      show VV (intT i) = _
      unfold VV
      rw [if_neg, RI_int (by omega)]
      intro z
      rcases int_cases i with ⟨n, rfl⟩ | ⟨n, rfl⟩
      · rw [intT_nat] at z
        rcases dg_head n with ⟨_, e⟩ | ⟨c, r, e, hc⟩
        · rw [e] at z; simp at z
        · rw [e] at z; simp at z; omega
      · rw [intT_neg] at z; simp at z
    unfold VI
    rw [e, if_pos ⟨h, rfl⟩]
  · have e : VV (valT (.str s)) = .str s := by
      show VV (39 :: s) = _
      unfold VV
      rw [if_pos (by simp)]; rfl
    unfold VI
    rw [e, if_pos ⟨h, rfl⟩]
theorem cols_back : ∀ {xs : List D}, xs.all colB = true → colsIn (xs.flatMap colW) = xs
  | [], _ => rfl
  | x :: xs, h => by
    rw [List.all_cons, Bool.and_eq_true] at h
    obtain ⟨s, t, c, rfl, h1, h2, h3⟩ := colB_of h.1
    show colsIn (s :: t :: valT c :: xs.flatMap colW) = _
    rw [colsIn, cols_back h.2, VI_val (kd_some h3)]
theorem pairs_back : ∀ {xs : List D}, xs.all nvB = true → pairsIn (xs.flatMap pairW) = xs
  | [], _ => rfl
  | x :: xs, h => by
    rw [List.all_cons, Bool.and_eq_true] at h
    obtain ⟨s, b, rfl, h1, h2⟩ := nvB_of h.1
    show pairsIn (s :: valT b :: xs.flatMap pairW) = _
    rw [pairsIn, pairs_back h.2, VI_val h2]
theorem take1 (w : List Nat) (l : List (List Nat)) : (w :: l).take 1 = [w] := rfl
theorem step_back {d : D} (h : stepB d = true) : stepIn (stepW d) = d := by
  rcases stepB_of h with ⟨xs, rfl, hs⟩ | ⟨a, rfl, ha⟩ | ⟨s, rfl, hs⟩ | ⟨s, t, rfl, hs, ht⟩ | ⟨s, b, rfl, hs, hb⟩
  · obtain ⟨z1, z2, z3, _⟩ := shpB_of hs
    show stepIn (wNew :: xs.flatMap colW) = _
    unfold stepIn
    have hl : (wNew :: xs.flatMap colW).length % 3 = 1 := by rw [List.length_cons, flat_len (c := 3) fun _ => rfl]; omega
    rw [if_pos (take1 _ _), if_pos hl]
    show D.tup [.str wNew, .tup (colsIn (xs.flatMap colW))] = _
    rw [cols_back z3]
  · show stepIn (wAdd :: colW a) = _
    obtain ⟨s, t, c, rfl, h1, h2, h3⟩ := colB_of ha
    have e : colsIn ([s, t, valT c] ++ []) = [.tup [.str s, .str t, c]] := by
      show colsIn (s :: t :: valT c :: []) = _
      rw [colsIn, VI_val (kd_some h3)]; rfl
    show stepIn (wAdd :: [s, t, valT c]) = _
    unfold stepIn
    rw [take1, if_neg (by decide), if_pos rfl, if_pos (show [wAdd, s, t, valT c].length = 4 from rfl)]
    show D.tup [.str wAdd, (colsIn [s, t, valT c]).headD .non] = _
    have e : colsIn [s, t, valT c] = [.tup [.str s, .str t, c]] := e
    rw [e]; rfl
  · show stepIn [wDrop, s] = _
    unfold stepIn
    rw [take1, if_neg (by decide), if_neg (by decide), if_pos rfl, if_pos (show [wDrop, s].length = 2 from rfl)]
    rfl
  · show stepIn [wName, s, t] = _
    unfold stepIn
    rw [take1, if_neg (by decide), if_neg (by decide), if_neg (by decide), if_pos rfl, if_pos (show [wName, s, t].length = 3 from rfl)]
    rfl
  · show stepIn [wFirst, s, valT b] = _
    unfold stepIn
    rw [take1, if_neg (by decide), if_neg (by decide), if_neg (by decide), if_neg (by decide), if_pos rfl, if_pos (show [wFirst, s, valT b].length = 3 from rfl)]
    show D.tup [.str wFirst, .str s, VI (valT b)] = _
    rw [VI_val hb]
theorem deed_back {d : D} (h : deedB d = true) : deedIn (deedW d) = d := by
  rcases deedB_of h with ⟨s, xs, rfl, hs, z1, z3, _⟩ | ⟨i, rfl, i1, i2⟩ | ⟨s, st, rfl, hs, ht⟩ | ⟨i, rfl, i1, i2⟩
  · show deedIn (wPut :: s :: xs.flatMap pairW) = _
    unfold deedIn
    have hl : (wPut :: s :: xs.flatMap pairW).length = xs.length * 2 + 2 := by rw [List.length_cons, List.length_cons, flat_len (c := 2) fun _ => rfl]
    rw [take1, hl, if_pos ⟨rfl, by omega, by omega⟩]
    show D.tup [.str wPut, .str s, .tup (pairsIn (xs.flatMap pairW))] = _
    rw [pairs_back z3]
  · show deedIn [wTake, intT i] = _
    unfold deedIn
    rw [take1, if_neg (fun z => absurd z.1 (by decide)), if_neg (fun z => absurd z.1 (by decide)), if_pos ⟨rfl, by simp⟩]
    show D.tup [.str wTake, RI (intT i)] = _
    rw [RI_int (by omega)]
  · show deedIn (wGrow :: s :: stepW st) = _
    unfold deedIn
    have hl : 2 < (wGrow :: s :: stepW st).length := by
      have : 1 ≤ (stepW st).length := by
        rcases stepB_of ht with ⟨xs, rfl, hs⟩ | ⟨a, rfl, ha⟩ | ⟨s, rfl, hs⟩ | ⟨s, t, rfl, hs, ht⟩ | ⟨s, b, rfl, hs, hb⟩
        · show 1 ≤ (wNew :: xs.flatMap colW).length; simp
        · show 1 ≤ (wAdd :: colW a).length; simp
        · show 1 ≤ 2; omega
        · show 1 ≤ 3; omega
        · show 1 ≤ 3; omega
      rw [List.length_cons, List.length_cons]; omega
    rw [take1, if_neg (fun z => absurd z.1 (by decide)), if_pos ⟨rfl, hl⟩]
    show D.tup [.str wGrow, .str s, stepIn (stepW st)] = _
    rw [step_back ht]
  · show deedIn [wClock, intT i] = _
    unfold deedIn
    rw [take1, if_neg (fun z => absurd z.1 (by decide)), if_neg (fun z => absurd z.1 (by decide)), if_pos ⟨rfl, by simp⟩]
    show D.tup [.str wClock, RI (intT i)] = _
    rw [RI_int (by omega)]
theorem found_back {d : D} (h : letB d = true) : foundD (letW d) = d := by
  obtain ⟨s, k, t, e, rfl, hs, n1, n2, t1, t2, hd⟩ := letB_of h
  show foundD (s :: intT k :: intT t :: deedW e) = _
  show D.tup [.str s, RI (intT k), RI (intT t), deedIn (deedW e)] = _
  rw [RI_int (by omega), RI_int (by omega), deed_back hd]
theorem let_back {d : D} (h : letB d = true) : letIn (letW d) = d := by
  unfold letIn
  rw [if_neg (by have := letW_len h; omega), found_back h, if_pos ⟨h, rfl⟩]
theorem letIn_of {l : List (List Nat)} (h : isNon (letIn l) = false) : letB (letIn l) = true ∧ letW (letIn l) = l := by
  unfold letIn at h ⊢
  by_cases h5 : l.length < 5
  · rw [if_pos h5] at h; cases h
  · rw [if_neg h5] at h ⊢
    by_cases z : letB (foundD l) = true ∧ letW (foundD l) = l
    · rw [if_pos z]; exact z
    · rw [if_neg z] at h; cases h
end Zk
end

/-! N15 -/
set_option exponentiation.threshold 9000
noncomputable section
namespace Zk
open PySem PySem.Spec L2 Zs
open PyProof.Rows hiding St
open Classical
/-! ### what repr shows -/
mutual
def sd : D → Bool
  | .non => true
  | .bl _ => true
  | .int i => decide (i.natAbs < 10 ^ 30)
  | .str s => s.all fun c => decide (c < 1114112)
  | .tup xs => sdL xs
  | .lst xs => sdL xs
  | _ => false
def sdL : List D → Bool
  | [] => true
  | x :: r => sd x && sdL r
end
mutual
def wd : D → Nat
  | .int _ => 40
  | .str s => 10 * s.length + 2
  | .tup xs => 3 + wdL xs
  | .lst xs => 3 + wdL xs
  | _ => 5
def wdL : List D → Nat
  | [] => 0
  | x :: r => wd x + 2 + wdL r
end
mutual
def dep : D → Nat
  | .tup xs => depL xs + 1
  | .lst xs => depL xs + 1
  | _ => 0
def depL : List D → Nat
  | [] => 0
  | x :: r => max (dep x) (depL r)
end
theorem textFrom_up : ∀ (ts : List Str) (k : Nat) (acc : Str), (textFrom k acc ts).length ≤ acc.length + piled ts
  | [], k, acc => by show acc.length ≤ acc.length + 0; omega
  | t :: r, k, acc => by
    have h := textFrom_up r (k + 1) (acc ++ (if k > 0 then ", " else "" : String) ++ t)
    have e : (acc ++ (if k > 0 then ", " else "" : String) ++ t).length = acc.length + (if k > 0 then 2 else 0) + t.length := by
      rw [strLen_append, strLen_append]
      split <;> rfl
    rw [e] at h
    rw [piled_cons]
    have e2 : (if k > 0 then 2 else 0 : Nat) ≤ 2 := by split <;> omega
    show (textFrom (k + 1) (acc ++ (if k > 0 then ", " else "" : String) ++ t) r).length ≤ _
    omega
theorem listText_up (ts : List Str) : (listText ts).length ≤ 3 + piled ts := by
  unfold listText
  rw [strLen_append]
  have := textFrom_up ts 0 "["
  have e1 : (("[" : String) : Str).length = 1 := rfl
  have e2 : (("]" : String) : Str).length = 1 := rfl
  omega
theorem tupleText_up (ts : List Str) : (tupleText ts).length ≤ 3 + piled ts := by
  unfold tupleText
  rw [strLen_append, strLen_append]
  have e1 : ((("(" : String) : Str)).length = 1 := rfl
  have e3 : (((if ts.length == 1 then ",)" else ")" : String) : Str)).length ≤ 2 := by split <;> decide
  by_cases h : ts = []
  · subst h
    have : (Str.join ", " ([] : List Str)).length = 0 := rfl
    rw [this]; omega
  · have := join_length_add ts h
    omega
/-- what a shown datum is -/
def Shw (d : D) (p : PyData) : Prop := toP d = some p ∧ PyData.showable p = true ∧ p.hasDict = false ∧ p.canLay0 = true ∧ p.depth = dep d ∧ p.shown.length ≤ wd d
def ShwL (d : List D) (p : List PyData) : Prop := toPs d = some p ∧ PyData.showableAll p = true ∧ PyData.hasDictAll p = false ∧ PyData.canLayAll0 p = true ∧ PyData.depthAll p = depL d ∧ piled (PyData.shownAll p) ≤ wdL d
theorem sh_int (i : Int) (h : i.natAbs < 10 ^ 30) : (toString i : Str).length ≤ 40 := by
  have := intT_len (i := i) (k := 29) h
  have e : (toString i : Str).length = (intT i).length := by
    show (intS i).cps.size = (intS i).cps.toList.length
    rw [Array.length_toList]
  rw [e]; omega
mutual
theorem shw : ∀ d, sd d = true → ∃ p, Shw d p
  | .non, _ => ⟨.none, rfl, rfl, rfl, rfl, rfl, by decide⟩
  | .bl b, _ => ⟨.bool b, rfl, rfl, rfl, rfl, rfl, by cases b <;> decide⟩
  | .int i, h => ⟨.int i, rfl, by
      have h := of_decide_eq_true h
      show decide (i.natAbs.log2 < 1920) = true
      exact decide_eq_true (PySem.Flt.log2_lt_of (by decide) (Nat.lt_trans h (by decide))), rfl, rfl, rfl, sh_int i (of_decide_eq_true h)⟩
  | .str s, h => ⟨.str (strV s), rfl, rfl, rfl, by
      show (strV s).cps.all (fun c => decide (c < 0x110000)) = true
      rw [← Array.all_toList, strV_list]; exact h, rfl, by
      have := PySem.StrLaws.reprText_len (strV s) fun c hc => by
        rw [strV_list] at hc
        have := of_decide_eq_true (List.all_eq_true.mp h c hc)
        omega
      rw [strV_len] at this
      exact this⟩
  | .tup xs, h => by
    obtain ⟨ps, h1, h2, h3, h4, h5, h6⟩ := shwL xs h
    refine ⟨.tuple ps, by simp only [toP, h1], h2, h3, h4, ?_, ?_⟩
    · show PyData.depthAll ps + 1 = depL xs + 1
      rw [h5]
    · show (tupleText (PyData.shownAll ps)).length ≤ 3 + wdL xs
      have := tupleText_up (PyData.shownAll ps)
      omega
  | .lst xs, h => by
    obtain ⟨ps, h1, h2, h3, h4, h5, h6⟩ := shwL xs h
    refine ⟨.list ps, by simp only [toP, h1], h2, h3, h4, ?_, ?_⟩
    · show PyData.depthAll ps + 1 = depL xs + 1
      rw [h5]
    · show (listText (PyData.shownAll ps)).length ≤ 3 + wdL xs
      have := listText_up (PyData.shownAll ps)
      omega
  | .kt _, h => by cases h
  | .scr _, h => by cases h
  | .dct _, h => by cases h
  | .ref _, h => by cases h
  | .ty _, h => by cases h
  | .cls _, h => by cases h
  | .exc _ _, h => by cases h
  | .fn _ _, h => by cases h
theorem shwL : ∀ d, sdL d = true → ∃ p, ShwL d p
  | [], _ => ⟨[], by simp only [toPs], rfl, rfl, rfl, rfl, by decide⟩
  | x :: r, h => by
    have h : (sd x && sdL r) = true := h
    rw [Bool.and_eq_true] at h
    obtain ⟨p, a1, a2, a3, a4, a5, a6⟩ := shw x h.1
    obtain ⟨ps, b1, b2, b3, b4, b5, b6⟩ := shwL r h.2
    refine ⟨p :: ps, by simp only [toPs, a1, b1], ?_, ?_, ?_, ?_, ?_⟩
    · show (PyData.showable p && PyData.showableAll ps) = true
      rw [a2, b2]; rfl
    · show (PyData.hasDict p || PyData.hasDictAll ps) = false
      rw [a3, b3]; rfl
    · show (PyData.canLay0 p && PyData.canLayAll0 ps) = true
      rw [a4, b4]; rfl
    · show max p.depth (PyData.depthAll ps) = max (dep x) (depL r)
      rw [a5, b5]
    · show piled (p.shown :: PyData.shownAll ps) ≤ wd x + 2 + wdL r
      rw [piled_cons]; omega
end
theorem repr_ok {d : D} (h : sd d = true) (w : wd d ≤ 1000000) (dp : dep d ≤ 60) : ∃ t, reprP d = some t ∧ t.length < 1000001 := by
  obtain ⟨p, a1, a2, a3, a4, a5, a6⟩ := shw d h
  refine ⟨p.shown.cps.toList, ?_, ?_⟩
  · unfold reprP
    rw [a1]
    dsimp only
    rw [if_pos ⟨a2, by rw [sizeLine_eq]; omega, by omega, a3⟩]
  · rw [Array.length_toList]
    have : p.shown.cps.size = p.shown.length := rfl
    omega
theorem fRepr_ok {d : D} {t : List Nat} {h : HP} (e : reprP d = some t) : fRepr [d] h = .ok (.str t) h := by
  unfold fRepr
  simp only [e]
end Zk
end

/-! N16 -/
set_option exponentiation.threshold 9000
noncomputable section
namespace Zk
open PySem PySem.Spec L2 Zs
open PyProof.Rows hiding St
open Classical
theorem sIf_ok {t : TM} {a b : SM} {ρ : Env'} {h : HP} {c : Bool} (ht : t ρ h = .ok c h) : sIf t a b ρ h = if c = true then a ρ h else b ρ h := by
  rw [w_sIf, ht]
  cases c <;> rfl
theorem blk1 {a : SM} {ρ ρ' : Env'} {h h' : HP} (e : a ρ h = .ok (.nx ρ') h') : sSq a sNx ρ h = .ok (.nx ρ') h' := by rw [seq_ok e]; rfl
theorem seqs {a b : SM} {ρ ρ1 : Env'} {h h1 : HP} {r : R Fl} (e : a ρ h = .ok (.nx ρ1) h1) (f : b ρ1 h1 = r) : sSq a b ρ h = r := by rw [seq_ok e]; exact f
theorem sAs_ok {e : EM} {t : GM} {ρ ρ1 : Env'} {h h1 h2 : HP} {d : D} (he : e ρ h = .ok d h1) (ht : t d ρ h1 = .ok ρ1 h2) : sAs e t ρ h = .ok (.nx ρ1) h2 := by
  rw [w_sAs, he, w_lift, ht]
theorem sFo_ok {it : IM} {t : GM} {b : SM} {ρ : Env'} {h h1 : HP} {m : Itm} {r : R Fl} (hi : it ρ h = .ok m h1) (hf : Zs.forM t b m.chk m.xs ρ h1 = r) : sFo it t b ρ h = r := by
  unfold sFo
  rw [hi]
  exact hf
theorem iA_tup {a : EM} {ρ : Env'} {h : HP} {xs : List D} (e : a ρ h = .ok (.tup xs) h) : iA a ρ h = .ok ⟨xs, fun _ => True⟩ h := by
  unfold iA
  rw [e]; rfl
theorem gT3_ok {i j k : Nat} {a b c : D} {ρ : Env'} {h : HP} : gT 3 (gsC (gN i) (gsC (gN j) (gsC (gN k) gsN))) (.tup [a, b, c]) ρ h = .ok (((ρ.set i (some a)).set j (some b)).set k (some c)) h := rfl
theorem gT4_ok {i j k l : Nat} {a b c d : D} {ρ : Env'} {h : HP} : gT 4 (gsC (gN i) (gsC (gN j) (gsC (gN k) (gsC (gN l) gsN)))) (.tup [a, b, c, d]) ρ h = .ok ((((ρ.set i (some a)).set j (some b)).set k (some c)).set l (some d)) h := rfl
/-- the end: the words joined -/
theorem text_end {ρ : Env'} {h : HP} {W : List (List Nat)} (h5 : ρ[5]? = some (some (.ref h.length))) (hl : W.length ≤ 2500) (hs : ∀ s ∈ W, s.length ≤ 3000) :
    sSq (sRe (eMt isStrD mJoin (eC (.str [32])) (aC (eV 5) aN))) sNx ρ (h ++ [some (.lst (strsD W))]) = .ok (.ret (.str (joi W))) (h ++ [some (.lst (strsD W))]) := by
  refine ret_ok ?_
  rw [w_eMt, w_eC, w_ok]
  show ((aC _ aN) ρ _).bnd _ = _
  have es : sqOf (.ref h.length) (h ++ [some (.lst (strsD W))]) = some (strsD W) := by
    show (match (h ++ [some (.lst (strsD W))])[h.length]? with
      | some (some (.lst xs)) => some xs
      | _ => none) = _
    rw [snoc_at]
  rw [aC_ok (eV_at h5) aN_ok, w_ok, join_ok es hl hs]
theorem fin_snoc {k : Nat} {h : HP} {d : D} {o : Option O} (p : pl d = true) : fin false k h d (h ++ [o]) = .ok d h := by
  have ok : okOld h (h ++ [o]) := ⟨by simp, fun i o' hi e => .inl (by rw [List.getElem?_append_left hi] at e; exact e)⟩
  rw [fin_flat ok (pl_nn _ _ p)]
  simp
theorem runD_snoc {k n : Nat} {m : SM} {ds : List D} {h : HP} {d : D} {o : Option O} (e : m (startE n ds) h = .ok (.ret d) (h ++ [o])) (p : pl d = true) : runD false k n m ds h = .ok d h := by
  unfold runD; rw [e]; exact fin_snoc p
theorem in2 {s a b : List Nat} {h : HP} : bIn2 false (.str s) (.tup [.str a, .str b]) h = .ok (.bl (decide (s = a ∨ s = b))) h := by
  have : bIn2 false (.str s) (.tup [.str a, .str b]) h = _ := w_inStrs (h := h) (neg := false) (s := s) (y := .tup [.str a, .str b]) (l := [a, b]) rfl
  rw [this]
  simp
theorem eq_str2 {s t : List Nat} {h : HP} : bEq2 (.str s) (.str t) h = .ok (.bl (decide (s = t))) h := rfl
theorem app_snoc {h : HP} {i : Nat} {ρ : Env'} {e : EM} {init : List (List Nat)} {w : List Nat} (hi : ρ[i]? = some (some (.ref h.length))) (he : e ρ (h ++ [some (.lst (strsD init))]) = .ok (.str w) (h ++ [some (.lst (strsD init))])) (z : init.length < 1000) :
    sEx (eMt isLstD mApp (eV i) (aC e aN)) ρ (h ++ [some (.lst (strsD init))]) = .ok (.nx ρ) (h ++ [some (.lst (strsD (init ++ [w])))]) := (app_ok hi snoc_at he z).trans (by rw [snoc_set])
theorem ext_snoc {h : HP} {i : Nat} {ρ : Env'} {e : EM} {init w : List (List Nat)} (hi : ρ[i]? = some (some (.ref h.length))) (he : e ρ (h ++ [some (.lst (strsD init))]) = .ok (.lst (strsD w)) (h ++ [some (.lst (strsD init))])) (z : (init ++ w).length ≤ 1000) :
    sEx (eMt isLstD mExt (eV i) (aC e aN)) ρ (h ++ [some (.lst (strsD init))]) = .ok (.nx ρ) (h ++ [some (.lst (strsD (init ++ w)))]) := (ext_ok hi snoc_at he z).trans (by rw [snoc_set])
theorem in2f {s a b : List Nat} {h : HP} (n1 : ¬ s = a) (n2 : ¬ s = b) : bIn2 false (.str s) (.tup [.str a, .str b]) h = .ok (.bl false) h := by rw [in2, decide_eq_false (fun z => z.elim n1 n2)]
theorem in2t {s a b : List Nat} {h : HP} (n1 : s = a ∨ s = b) : bIn2 false (.str s) (.tup [.str a, .str b]) h = .ok (.bl true) h := by rw [in2, decide_eq_true n1]
theorem eqf {s t : List Nat} {h : HP} (n : ¬ s = t) : bEq2 (.str s) (.str t) h = .ok (.bl false) h := by rw [eq_str2, decide_eq_false n]
theorem eqt {s : List Nat} {h : HP} : bEq2 (.str s) (.str s) h = .ok (.bl true) h := by rw [eq_str2, decide_eq_true rfl]
theorem cols_loop {m : Nat} (hm : 1 ≤ m) {h : HP} {DD dd st : D} {s : List Nat} {k t : Int} {xs : List D} {init : List (List Nat)} (lx : xs.length ≤ 8) (li : init.length ≤ 6) (z3 : xs.all colB = true) :
    ∃ ρ2, (∃ x y z, ρ2 = [some DD, some (.str s), some (.int k), some (.int t), some dd, some (.ref h.length), x, none, some st, y, z]) ∧
      Zs.forM (gT 3 (gsC (gN 6) (gsC (gN 9) (gsC (gN 10) gsN)))) (sSq (sEx (eMt isLstD mExt (eV 5) (aC (eA (fLst false) (aC (eV 6) (aC (eV 9) (aC (eCl (runP P m 48) 1 1 0 [0] (aC (eV 10) aN) aN) aN)))) aN))) sNx) (fun _ => True) xs
        [some DD, some (.str s), some (.int k), some (.int t), some dd, some (.ref h.length), none, none, some st, none, none] (h ++ [some (.lst (strsD init))]) = .ok (.nx ρ2) (h ++ [some (.lst (strsD (init ++ xs.flatMap colW)))]) := by
  have hl : (init ++ xs.flatMap colW).length ≤ 1000 := by rw [List.length_append, flat_len (c := 3) fun _ => rfl]; omega
  obtain ⟨ρ2, E2, e4⟩ := loop_ext (t := gT 3 (gsC (gN 6) (gsC (gN 9) (gsC (gN 10) gsN)))) (e := eA (fLst false) (aC (eV 6) (aC (eV 9) (aC (eCl (runP P m 48) 1 1 0 [0] (aC (eV 10) aN) aN) aN)))) (chk := fun _ => True) (i := 5) (j := h.length) (E := fun ρ => ∃ x y z, ρ = [some DD, some (.str s), some (.int k), some (.int t), some dd, some (.ref h.length), x, none, some st, y, z]) (f := colW)
    (fun ρ ⟨x, y, z, e⟩ => by rw [e]; rfl) (fun _ => trivial) xs [some DD, some (.str s), some (.int k), some (.int t), some dd, some (.ref h.length), none, none, some st, none, none] (h ++ [some (.lst (strsD init))]) init ⟨_, _, _, rfl⟩ snoc_at hl fun x hx ρ h' ⟨p, q, r, e⟩ => by
      obtain ⟨a, b, c, rfl, h1, h2, h3⟩ := colB_of (List.all_eq_true.mp z3 x hx)
      have ec := s_law_word (n := m) (by omega) (h := h') (kd_some h3)
      refine ⟨[some DD, some (.str s), some (.int k), some (.int t), some dd, some (.ref h.length), some (.str a), none, some st, some (.str b), some c], by rw [e]; rfl, ⟨_, _, _, rfl⟩, ?_⟩
      exact eA_ok (aC_ok (eV_at rfl) (aC_ok (eV_at rfl) (aC_ok (call1_ok (eV_at rfl) ec) aN_ok))) (fLst_c (xs := [.str a, .str b, .str (valT c)]) (by simp))
  rw [snoc_set] at e4
  exact ⟨ρ2, E2, e4⟩
/-- the law's own words -/
theorem s_law_text {n : Nat} (hn : 2 ≤ n) {d : D} {h : HP} (v : letB d = true) : runP P n 49 [d] h = .ok (.str (joi (letW d))) h := by
  obtain ⟨m, rfl, hm⟩ := succ_of hn
  rw [e__law_text]
  have lw := letW_len v
  have gl := let_gw v
  have pj : pl (.str (joi (letW d))) = true := pl_mk (by have := joi_len gl; omega) fun c hc => by have := joi_ch gl c hc; omega
  refine runD_snoc (o := some (.lst (strsD (letW d)))) ?_ pj
  obtain ⟨s, k, t, deed, rfl, hs, n1, n2, t1, t2, hd⟩ := letB_of v
  have ek := str_int (i := k) (h := h) (by omega)
  have et := str_int (i := t) (h := h) (by omega)
  have ew : letW (.tup [.str s, .int k, .int t, deed]) = [s, intT k, intT t] ++ deedW deed := rfl
  rw [ew] at lw gl ⊢
  show m__law_text _ [some (.tup [.str s, .int k, .int t, deed]), none, none, none, none, none, none, none, none, none, none] h = _
  unfold m__law_text
  refine seqs (sAs_ok (eV_at rfl) gT4_ok) ?_
  -- the block in the middle
  have mid : ∀ (w : List Nat) (r : List D), deed = .tup (.str w :: r) → ∀ {B : SM} {ρ2 : Env'}, B [some (.tup [.str s, .int k, .int t, deed]), some (.str s), some (.int k), some (.int t), some deed, some (.ref h.length), none, none, none, none, none] (h ++ [some (.lst (strsD [s, intT k, intT t, w]))]) = .ok (.nx ρ2) (h ++ [some (.lst (strsD ([s, intT k, intT t] ++ deedW deed)))]) → ρ2[5]? = some (some (.ref h.length)) →
      sSq (sAs (eA (fLst true) (aC (eV 1) (aC (eA fStr (aC (eV 2) aN)) (aC (eA fStr (aC (eV 3) aN)) (aC (e2 bIx2 (eV 4) (eC (.int (0)))) aN))))) (gN 5)) (sSq B (sSq (sRe (eMt isStrD mJoin (eC (.str [32])) (aC (eV 5) aN))) sNx)) [some (.tup [.str s, .int k, .int t, deed]), some (.str s), some (.int k), some (.int t), some deed, none, none, none, none, none, none] h
        = .ok (.ret (.str (joi ([s, intT k, intT t] ++ deedW deed)))) (h ++ [some (.lst (strsD ([s, intT k, intT t] ++ deedW deed)))]) := fun w r er B ρ2 eB e5 => by
    have i0 : bIx2 deed (.int 0) h = .ok (.str w) h := by rw [er, w_ixT, at0]
    refine seqs (sAs_ok (h1 := h ++ [some (.lst (strsD [s, intT k, intT t, w]))]) (eA_ok (aC_ok (eV_at rfl) (aC_ok (eA_ok (aC_ok (eV_at rfl) aN_ok) ek) (aC_ok (eA_ok (aC_ok (eV_at rfl) aN_ok) et) (aC_ok (e2_ok (eV_at rfl) eC_ok i0) aN_ok)))) (fLst_o (by simp))) rfl) ?_
    exact seqs eB (text_end e5 (by omega) fun x hx => by have := (gl x hx).1; omega)
  rcases deedB_of hd with ⟨tb, xs, rfl, hs, z1, z3, _⟩ | ⟨i, rfl, i1, i2⟩ | ⟨tb, st, rfl, hs, ht⟩ | ⟨i, rfl, i1, i2⟩
  · generalize hd0 : D.tup [.str wPut, .str tb, .tup xs] = dd at *
    generalize hD : D.tup [.str s, .int k, .int t, dd] = DD at *
    have hl : ([s, intT k, intT t, wPut, tb] ++ xs.flatMap pairW).length ≤ 1000 := by rw [List.length_append, flat_len (c := 2) fun _ => rfl]; simp; omega
    obtain ⟨ρ2, E2, e4⟩ := loop_ext (t := gT 2 (gsC (gN 6) (gsC (gN 7) gsN))) (e := eA (fLst false) (aC (eV 6) (aC (eCl (runP P m 48) 1 1 0 [0] (aC (eV 7) aN) aN) aN))) (chk := fun _ => True) (i := 5) (j := h.length) (E := fun ρ => ∃ x y, ρ = [some DD, some (.str s), some (.int k), some (.int t), some dd, some (.ref h.length), x, y, none, none, none]) (f := pairW)
      (fun ρ ⟨x, y, e⟩ => by rw [e]; rfl) (fun _ => trivial) xs [some DD, some (.str s), some (.int k), some (.int t), some dd, some (.ref h.length), none, none, none, none, none] (h ++ [some (.lst (strsD [s, intT k, intT t, wPut, tb]))]) [s, intT k, intT t, wPut, tb] ⟨_, _, rfl⟩ snoc_at hl fun x hx ρ h' ⟨y, z, e⟩ => by
        obtain ⟨a, b, rfl, _, hb⟩ := nvB_of (List.all_eq_true.mp z3 x hx)
        have ec := s_law_word (n := m) (by omega) (h := h') hb
        refine ⟨[some DD, some (.str s), some (.int k), some (.int t), some dd, some (.ref h.length), some (.str a), some b, none, none, none], by rw [e]; rfl, ⟨_, _, rfl⟩, ?_⟩
        exact eA_ok (aC_ok (eV_at rfl) (aC_ok (call1_ok (eV_at rfl) ec) aN_ok)) (fLst_c (xs := [.str a, .str (valT b)]) (by simp))
    rw [snoc_set] at e4
    have ed : deedW dd = [wPut, tb] ++ xs.flatMap pairW := by rw [← hd0]; rfl
    have x0 : ∀ h', bIx2 dd (.int 0) h' = .ok (.str wPut) h' := fun h' => by rw [← hd0]; rfl
    have x1 : ∀ h', bIx2 dd (.int 1) h' = .ok (.str tb) h' := fun h' => by rw [← hd0]; rfl
    have x2 : ∀ h', bIx2 dd (.int 2) h' = .ok (.tup xs) h' := fun h' => by rw [← hd0]; rfl
    refine mid wPut _ hd0.symm (ρ2 := ρ2) ?_ (by obtain ⟨x, y, rfl⟩ := E2; rfl)
    refine (sIf_ok (c := false) (tV_ok (e2_ok (e2_ok (eV_at rfl) eC_ok (x0 _)) (eA_ok (aC_ok eC_ok (aC_ok eC_ok aN_ok)) (tup_ok (by simp))) (in2f (by decide) (by decide))))).trans ?_
    rw [if_neg (by simp)]
    refine blk1 ((sIf_ok (c := true) (tV_ok (e2_ok (e2_ok (eV_at rfl) eC_ok (x0 _)) eC_ok eqt))).trans ?_)
    rw [if_pos rfl]
    refine seqs (app_snoc (init := [s, intT k, intT t, wPut]) (w := tb) rfl (e2_ok (eV_at rfl) eC_ok (x1 _)) (by simp)) (blk1 (sFo_ok (iA_tup (e2_ok (eV_at rfl) eC_ok (x2 _))) (e4.trans ?_)))
    rw [ed]
    simp
  · have ei := str_int (i := i) (h := h ++ [some (.lst (strsD [s, intT k, intT t, wTake]))]) (by omega)
    refine mid wTake _ rfl (ρ2 := [some (.tup [.str s, .int k, .int t, .tup [.str wTake, .int i]]), some (.str s), some (.int k), some (.int t), some (.tup [.str wTake, .int i]), some (.ref h.length), none, none, none, none, none]) ?_ rfl
    refine (sIf_ok (c := true) (tV_ok (e2_ok (e2_ok (eV_at rfl) eC_ok rfl) (eA_ok (aC_ok eC_ok (aC_ok eC_ok aN_ok)) (tup_ok (by simp))) in2))).trans ?_
    rw [if_pos rfl]
    refine blk1 ((app_ok (j := h.length) (init := [s, intT k, intT t, wTake]) (w := intT i) rfl snoc_at (eA_ok (aC_ok (e2_ok (eV_at rfl) eC_ok rfl) aN_ok) ei) (by simp)).trans ?_)
    rw [snoc_set]
    rfl
  · generalize hd0 : D.tup [.str wGrow, .str tb, st] = dd at *
    generalize hD : D.tup [.str s, .int k, .int t, dd] = DD at *
    have ed : deedW dd = [wGrow, tb] ++ stepW st := by rw [← hd0]; rfl
    have x0 : ∀ h', bIx2 dd (.int 0) h' = .ok (.str wGrow) h' := fun h' => by rw [← hd0]; rfl
    have x1 : ∀ h', bIx2 dd (.int 1) h' = .ok (.str tb) h' := fun h' => by rw [← hd0]; rfl
    have x2 : ∀ h', bIx2 dd (.int 2) h' = .ok st h' := fun h' => by rw [← hd0]; rfl
    have ls := stepW_len ht
    -- the step's own part
    have inn : ∀ (w : List Nat) (r : List D), st = .tup (.str w :: r) → ∀ {B : SM} {ρ2 : Env'}, B [some DD, some (.str s), some (.int k), some (.int t), some dd, some (.ref h.length), none, none, some st, none, none] (h ++ [some (.lst (strsD ([s, intT k, intT t, wGrow] ++ [tb, w])))]) = .ok (.nx ρ2) (h ++ [some (.lst (strsD ([s, intT k, intT t, wGrow] ++ ([tb] ++ stepW st))))]) → ρ2[5]? = some (some (.ref h.length)) →
        (sSq (sIf (tV (e2 bEq2 (e2 bIx2 (eV 4) (eC (.int (0)))) (eC (.str [112,117,116])))) (sSq (sEx (eMt isLstD mApp (eV 5) (aC (e2 bIx2 (eV 4) (eC (.int (1)))) aN)))
          (sSq (sFo (iA (e2 bIx2 (eV 4) (eC (.int (2))))) (gT 2 (gsC (gN 6) (gsC (gN 7) gsN))) (sSq (sEx (eMt isLstD mExt (eV 5) (aC (eA (fLst false) (aC (eV 6) (aC (eCl (runP P m 48) 1 1 0 [0] (aC (eV 7) aN) aN) aN))) aN)))
          sNx))
          sNx)) (sSq (sAs (e2 bIx2 (eV 4) (eC (.int (2)))) (gN 8))
          (sSq (sEx (eMt isLstD mExt (eV 5) (aC (eA (fLst false) (aC (e2 bIx2 (eV 4) (eC (.int (1)))) (aC (e2 bIx2 (eV 8) (eC (.int (0)))) aN))) aN)))
          (sSq B sNx)))) sNx) [some DD, some (.str s), some (.int k), some (.int t), some dd, some (.ref h.length), none, none, none, none, none] (h ++ [some (.lst (strsD [s, intT k, intT t, wGrow]))])
          = .ok (.nx ρ2) (h ++ [some (.lst (strsD ([s, intT k, intT t] ++ deedW dd)))]) := fun w r er B ρ2 eB e5 => by
      refine blk1 ((sIf_ok (c := false) (tV_ok (e2_ok (e2_ok (eV_at rfl) eC_ok (x0 _)) eC_ok (eqf (by decide))))).trans ?_)
      rw [if_neg (by simp)]
      refine seqs (sAs_ok (e2_ok (eV_at rfl) eC_ok (x2 _)) rfl) ?_
      have y0 : ∀ h', bIx2 st (.int 0) h' = .ok (.str w) h' := fun h' => by rw [er, w_ixT, at0]
      refine seqs (ext_snoc (init := [s, intT k, intT t, wGrow]) (w := [tb, w]) rfl (eA_ok (aC_ok (e2_ok (eV_at rfl) eC_ok (x1 _)) (aC_ok (e2_ok (eV_at rfl) eC_ok (y0 _)) aN_ok)) (fLst_c (xs := [.str tb, .str w]) (by simp))) (by simp)) ?_
      refine blk1 (eB.trans ?_)
      rw [ed]
      simp
    have outer : ∀ {B : SM} {ρ2 : Env'}, B [some DD, some (.str s), some (.int k), some (.int t), some dd, some (.ref h.length), none, none, none, none, none] (h ++ [some (.lst (strsD [s, intT k, intT t, wGrow]))]) = .ok (.nx ρ2) (h ++ [some (.lst (strsD ([s, intT k, intT t] ++ deedW dd)))]) → ∀ A : SM,
        sIf (tV (e2 (bIn2 false) (e2 bIx2 (eV 4) (eC (.int (0)))) (eA fTup (aC (eC (.str [116,97,107,101])) (aC (eC (.str [99,108,111,99,107])) aN))))) A B [some DD, some (.str s), some (.int k), some (.int t), some dd, some (.ref h.length), none, none, none, none, none] (h ++ [some (.lst (strsD [s, intT k, intT t, wGrow]))]) = .ok (.nx ρ2) (h ++ [some (.lst (strsD ([s, intT k, intT t] ++ deedW dd)))]) := fun e A => by
      refine (sIf_ok (c := false) (tV_ok (e2_ok (e2_ok (eV_at rfl) eC_ok (x0 _)) (eA_ok (aC_ok eC_ok (aC_ok eC_ok aN_ok)) (tup_ok (by simp))) (in2f (by decide) (by decide))))).trans ?_
      rw [if_neg (by simp)]
      exact e
    rcases stepB_of ht with ⟨xs, rfl, hs2⟩ | ⟨a, rfl, ha⟩ | ⟨u, rfl, hu⟩ | ⟨u, w, rfl, hu, hw⟩ | ⟨u, b, rfl, hu, hb⟩
    · obtain ⟨z1, z2, z3, _⟩ := shpB_of hs2
      generalize hst : D.tup [.str wNew, .tup xs] = st at *
      have y0 : ∀ h', bIx2 st (.int 0) h' = .ok (.str wNew) h' := fun h' => by rw [← hst]; rfl
      have y1 : ∀ h', bIx2 st (.int 1) h' = .ok (.tup xs) h' := fun h' => by rw [← hst]; rfl
      have es : stepW st = wNew :: xs.flatMap colW := by rw [← hst]; rfl
      have lx : xs.length ≤ 8 := z2
      obtain ⟨ρ2, E2, e4⟩ := cols_loop (m := m) (by omega) (h := h) (DD := DD) (s := s) (k := k) (t := t) (dd := dd) (st := st) (xs := xs) (init := [s, intT k, intT t, wGrow, tb, wNew]) lx (by simp) z3
      refine mid wGrow _ hd0.symm (ρ2 := ρ2) (outer (inn wNew _ hst.symm (ρ2 := ρ2) ?_ (by obtain ⟨x, y, z, rfl⟩ := E2; rfl)) _) (by obtain ⟨x, y, z, rfl⟩ := E2; rfl)
      refine (sIf_ok (c := true) (tV_ok (e2_ok (e2_ok (eV_at rfl) eC_ok (y0 _)) (eA_ok (aC_ok eC_ok (aC_ok eC_ok aN_ok)) (tup_ok (by simp))) (in2t (.inl rfl))))).trans ?_
      rw [if_pos rfl]
      refine blk1 (sFo_ok (iA_tup (eIf_ok (c := true) (tV_ok (e2_ok (e2_ok (eV_at rfl) eC_ok (y0 _)) eC_ok eqt)) (by rw [if_pos rfl]; exact e2_ok (eV_at rfl) eC_ok (y1 _)))) (e4.trans ?_))
      rw [es]; simp
    · generalize hst : D.tup [.str wAdd, a] = st at *
      have y0 : ∀ h', bIx2 st (.int 0) h' = .ok (.str wAdd) h' := fun h' => by rw [← hst]; rfl
      have y1 : ∀ h', bIx2 st (.int 1) h' = .ok a h' := fun h' => by rw [← hst]; rfl
      have es : stepW st = wAdd :: colW a := by rw [← hst]; rfl
      obtain ⟨ρ2, E2, e4⟩ := cols_loop (m := m) (by omega) (h := h) (DD := DD) (s := s) (k := k) (t := t) (dd := dd) (st := st) (xs := [a]) (init := [s, intT k, intT t, wGrow, tb, wAdd]) (by simp) (by simp) (by simp [ha])
      refine mid wGrow _ hd0.symm (ρ2 := ρ2) (outer (inn wAdd _ hst.symm (ρ2 := ρ2) ?_ (by obtain ⟨x, y, z, rfl⟩ := E2; rfl)) _) (by obtain ⟨x, y, z, rfl⟩ := E2; rfl)
      refine (sIf_ok (c := true) (tV_ok (e2_ok (e2_ok (eV_at rfl) eC_ok (y0 _)) (eA_ok (aC_ok eC_ok (aC_ok eC_ok aN_ok)) (tup_ok (by simp))) (in2t (.inr rfl))))).trans ?_
      rw [if_pos rfl]
      refine blk1 (sFo_ok (iA_tup (eIf_ok (c := false) (tV_ok (e2_ok (e2_ok (eV_at rfl) eC_ok (y0 _)) eC_ok (eqf (by decide)))) (by rw [if_neg (by simp)]; exact eA_ok (aC_ok (e2_ok (eV_at rfl) eC_ok (y1 _)) aN_ok) (tup_ok (by simp))))) (e4.trans ?_))
      rw [es]; simp
    · generalize hst : D.tup [.str wDrop, .str u] = st at *
      have y0 : ∀ h', bIx2 st (.int 0) h' = .ok (.str wDrop) h' := fun h' => by rw [← hst]; rfl
      have ys : ∀ h', fSl false st (some 1) none h' = .ok (.tup [.str u]) h' := fun h' => by rw [← hst]; rfl
      have es : stepW st = [wDrop, u] := by rw [← hst]; rfl
      refine mid wGrow _ hd0.symm (ρ2 := [some DD, some (.str s), some (.int k), some (.int t), some dd, some (.ref h.length), none, none, some st, none, none]) (outer (inn wDrop _ hst.symm (ρ2 := [some DD, some (.str s), some (.int k), some (.int t), some dd, some (.ref h.length), none, none, some st, none, none]) ?_ rfl) _) rfl
      refine (sIf_ok (c := false) (tV_ok (e2_ok (e2_ok (eV_at rfl) eC_ok (y0 _)) (eA_ok (aC_ok eC_ok (aC_ok eC_ok aN_ok)) (tup_ok (by simp))) (in2f (by decide) (by decide))))).trans ?_
      rw [if_neg (by simp)]
      refine blk1 ((sIf_ok (c := false) (tV_ok (e2_ok (e2_ok (eV_at rfl) eC_ok (y0 _)) eC_ok (eqf (by decide))))).trans ?_)
      rw [if_neg (by simp)]
      refine blk1 ((ext_snoc (w := [u]) rfl (eA_ok (aC_ok (eSl_ok (eV_at rfl) rfl rfl (ys _)) aN_ok) rfl) (by simp)).trans ?_)
      rw [es]; simp
    · generalize hst : D.tup [.str wName, .str u, .str w] = st at *
      have y0 : ∀ h', bIx2 st (.int 0) h' = .ok (.str wName) h' := fun h' => by rw [← hst]; rfl
      have ys : ∀ h', fSl false st (some 1) none h' = .ok (.tup [.str u, .str w]) h' := fun h' => by rw [← hst]; rfl
      have es : stepW st = [wName, u, w] := by rw [← hst]; rfl
      refine mid wGrow _ hd0.symm (ρ2 := [some DD, some (.str s), some (.int k), some (.int t), some dd, some (.ref h.length), none, none, some st, none, none]) (outer (inn wName _ hst.symm (ρ2 := [some DD, some (.str s), some (.int k), some (.int t), some dd, some (.ref h.length), none, none, some st, none, none]) ?_ rfl) _) rfl
      refine (sIf_ok (c := false) (tV_ok (e2_ok (e2_ok (eV_at rfl) eC_ok (y0 _)) (eA_ok (aC_ok eC_ok (aC_ok eC_ok aN_ok)) (tup_ok (by simp))) (in2f (by decide) (by decide))))).trans ?_
      rw [if_neg (by simp)]
      refine blk1 ((sIf_ok (c := false) (tV_ok (e2_ok (e2_ok (eV_at rfl) eC_ok (y0 _)) eC_ok (eqf (by decide))))).trans ?_)
      rw [if_neg (by simp)]
      refine blk1 ((ext_snoc (w := [u, w]) rfl (eA_ok (aC_ok (eSl_ok (eV_at rfl) rfl rfl (ys _)) aN_ok) rfl) (by simp)).trans ?_)
      rw [es]; simp
    · generalize hst : D.tup [.str wFirst, .str u, b] = st at *
      have y0 : ∀ h', bIx2 st (.int 0) h' = .ok (.str wFirst) h' := fun h' => by rw [← hst]; rfl
      have y1 : ∀ h', bIx2 st (.int 1) h' = .ok (.str u) h' := fun h' => by rw [← hst]; rfl
      have y2 : ∀ h', bIx2 st (.int 2) h' = .ok b h' := fun h' => by rw [← hst]; rfl
      have es : stepW st = [wFirst, u, valT b] := by rw [← hst]; rfl
      refine mid wGrow _ hd0.symm (ρ2 := [some DD, some (.str s), some (.int k), some (.int t), some dd, some (.ref h.length), none, none, some st, none, none]) (outer (inn wFirst _ hst.symm (ρ2 := [some DD, some (.str s), some (.int k), some (.int t), some dd, some (.ref h.length), none, none, some st, none, none]) ?_ rfl) _) rfl
      refine (sIf_ok (c := false) (tV_ok (e2_ok (e2_ok (eV_at rfl) eC_ok (y0 _)) (eA_ok (aC_ok eC_ok (aC_ok eC_ok aN_ok)) (tup_ok (by simp))) (in2f (by decide) (by decide))))).trans ?_
      rw [if_neg (by simp)]
      refine blk1 ((sIf_ok (c := true) (tV_ok (e2_ok (e2_ok (eV_at rfl) eC_ok (y0 _)) eC_ok eqt))).trans ?_)
      rw [if_pos rfl]
      have ev := fun h' => s_law_word (n := m) (by omega) (h := h') hb
      refine blk1 ((ext_snoc (w := [u, valT b]) rfl (eA_ok (aC_ok (e2_ok (eV_at rfl) eC_ok (y1 _)) (aC_ok (call1_ok (e2_ok (eV_at rfl) eC_ok (y2 _)) (ev _)) aN_ok)) (fLst_c (xs := [.str u, .str (valT b)]) (by simp))) (by simp)).trans ?_)
      rw [es]; simp
  · have ei := str_int (i := i) (h := h ++ [some (.lst (strsD [s, intT k, intT t, wClock]))]) (by omega)
    refine mid wClock _ rfl (ρ2 := [some (.tup [.str s, .int k, .int t, .tup [.str wClock, .int i]]), some (.str s), some (.int k), some (.int t), some (.tup [.str wClock, .int i]), some (.ref h.length), none, none, none, none, none]) ?_ rfl
    refine (sIf_ok (c := true) (tV_ok (e2_ok (e2_ok (eV_at rfl) eC_ok rfl) (eA_ok (aC_ok eC_ok (aC_ok eC_ok aN_ok)) (tup_ok (by simp))) in2))).trans ?_
    rw [if_pos rfl]
    refine blk1 ((app_ok (j := h.length) (init := [s, intT k, intT t, wClock]) (w := intT i) rfl snoc_at (eA_ok (aC_ok (e2_ok (eV_at rfl) eC_ok rfl) aN_ok) ei) (by simp)).trans ?_)
    rw [snoc_set]
    rfl
end Zk
end

/-! N17 -/
set_option exponentiation.threshold 9000
noncomputable section
namespace Zk
open PySem PySem.Spec L2 Zs
open PyProof.Rows hiding St
open Classical
/-! ### draws -/
theorem t_take {n : Nat} (hn : 1 ≤ n) : TakeOk (runP P n 36) := by
  obtain ⟨m, rfl, hm⟩ := succ_of hn
  rw [e__law_take]
  exact take_ok (c1 := 98678) (c2 := 92) (c3 := 10037) (c4 := 118) (c5 := 157) (by decide) (by decide) (by decide) (by decide) (by decide)
theorem t_of {n : Nat} (hn : 2 ≤ n) : OfOk (runP P n 37) := by
  obtain ⟨m, rfl, hm⟩ := succ_of hn
  rw [e__law_of]
  exact of_ok (t_take hm)
theorem call1_wp {f : FSem} {a : EM} {ρ : Env'} {h h1 : HP} {x : D} {Q : D → HP → Prop} (ha : a ρ h = .ok x h1) (w : Wp (f [x] h1) Q) : Wp (eCl f 1 1 0 [0] (aC a aN) aN ρ h) Q := by
  rw [w_eCl, w_aC, ha, w_ok, w_aN, w_ok, w_ok]
  simpa using w
theorem call2_wp {f : FSem} {a b : EM} {ρ : Env'} {h h1 h2 : HP} {x y : D} {Q : D → HP → Prop} (ha : a ρ h = .ok x h1) (hb : b ρ h1 = .ok y h2) (w : Wp (f [x, y] h2) Q) : Wp (eCl f 2 2 0 [0, 1] (aC a (aC b aN)) aN ρ h) Q := by
  rw [w_eCl, w_aC, ha, w_ok, w_aC, hb, w_ok, w_aN, w_ok, w_ok, w_ok]
  simpa using w
theorem call3_wp {f : FSem} {a b c : EM} {ρ : Env'} {h h1 h2 h3 : HP} {x y z : D} {Q : D → HP → Prop} (ha : a ρ h = .ok x h1) (hb : b ρ h1 = .ok y h2) (hc : c ρ h2 = .ok z h3) (w : Wp (f [x, y, z] h3) Q) : Wp (eCl f 3 3 0 [0, 1, 2] (aC a (aC b (aC c aN))) aN ρ h) Q := by
  rw [w_eCl, w_aC, ha, w_ok, w_aC, hb, w_ok, w_aC, hc, w_ok, w_aN, w_ok, w_ok, w_ok, w_ok]
  simpa using w
/-- a draw of a number -/
theorem tk_wp {n : Nat} (hn : 1 ≤ n) {b : EM} {ρ : Env'} {h : HP} {j c : Nat} {u : Int} (h0 : ρ[0]? = some (some (.ref j))) (hb : b ρ h = .ok (.int u) h) (p : Pot j c h) (hc : c < 2 ^ 40) (u0 : 0 < u) (u1 : u < 2 ^ 60) :
    Wp (eCl (runP P n 36) 2 2 0 [0, 1] (aC (eV 0) (aC b aN)) aN ρ h) fun d h' => ∃ i : Int, d = .int i ∧ 0 ≤ i ∧ i < u ∧ Pot j (c + 1) h' ∧ But j h h' := call2_wp (eV_at h0) hb (t_take hn j c h u p hc u0 u1)
/-- one of a written list -/
theorem of_wp {n : Nat} (hn : 2 ≤ n) {b : EM} {ρ : Env'} {h : HP} {j c : Nat} {xs : List D} (h0 : ρ[0]? = some (some (.ref j))) (hb : b ρ h = .ok (.lst xs) h) (p : Pot j c h) (hc : c < 2 ^ 40) (ne : xs ≠ []) (l : xs.length < 2 ^ 60) (hx : ∀ x ∈ xs, pl x = true) :
    Wp (eCl (runP P n 37) 2 2 0 [0, 1] (aC (eV 0) (aC b aN)) aN ρ h) fun d h' => d ∈ xs ∧ Pot j (c + 1) h' ∧ But j h h' :=
  call2_wp (eV_at h0) hb (t_of hn j c h (.lst xs) xs p hc rfl (by intro z; cases z) ne l fun x hx' => pl_nn _ _ (hx x hx'))
theorem bnd_wp {α β : Type} {r : R α} {f : α → HP → R β} {Q : β → HP → Prop} {C : α → HP → Prop} (w : Wp r C) (k : ∀ a h, C a h → Wp (f a h) Q) : Wp (r.bnd f) Q := wp_bnd.mpr (w.imp k)
theorem as_wp {a : EM} {t : GM} {rest : SM} {ρ : Env'} {h : HP} {Q : Fl → HP → Prop} {C : D → HP → Prop} (w : Wp (a ρ h) C) (k : ∀ d h1, C d h1 → ∃ ρ1 h2, t d ρ h1 = .ok ρ1 h2 ∧ Wp (rest ρ1 h2) Q) : Wp (sSq (sAs a t) rest ρ h) Q := by
  obtain ⟨d, h1, e1, c1⟩ := w.ex
  obtain ⟨ρ1, h2, e2, w2⟩ := k d h1 c1
  exact wp_cons (sAs_ok e1 e2) w2
theorem ret_wp {a : EM} {rest : SM} {ρ : Env'} {h : HP} {Q : Fl → HP → Prop} (w : Wp (a ρ h) fun d h' => Q (.ret d) h') : Wp (sSq (sRe a) rest ρ h) Q := wp_ret w
theorem ret2_wp {a : EM} {r2 rest : SM} {ρ : Env'} {h : HP} {Q : Fl → HP → Prop} (w : Wp (a ρ h) fun d h' => Q (.ret d) h') : Wp (sSq (sSq (sRe a) r2) rest ρ h) Q := by
  obtain ⟨d, h1, e, q⟩ := w.ex
  exact Wp.of (seq_ret (seq_ret (by rw [w_sRe, e]; rfl))) q
theorem if_wp {t : TM} {a b rest : SM} {ρ : Env'} {h : HP} {c : Bool} {Q : Fl → HP → Prop} (ht : t ρ h = .ok c h) (w : Wp (if c = true then sSq a rest ρ h else sSq b rest ρ h) Q) : Wp (sSq (sIf t a b) rest ρ h) Q := by
  have e : sSq (sIf t a b) rest ρ h = if c = true then sSq a rest ρ h else sSq b rest ρ h := by
    show (match sIf t a b ρ h with
      | .ok (.nx ρ1) h1 => rest ρ1 h1
      | r => r) = _
    rw [sIf_ok ht]
    cases c <;> rfl
  rw [e]; exact w
theorem lst_ok {a : AM} {ρ : Env'} {h : HP} {xs : List D} (ea : a ρ h = .ok xs h) (z : xs.length ≤ 100000) : eA (fLst false) a ρ h = .ok (.lst xs) h := eA_ok ea (fLst_c z)
theorem pl_all {xs : List D} (h : xs.all pl = true) : ∀ x ∈ xs, pl x = true := fun x hx => List.all_eq_true.mp h x hx
def valI : List D := [.int 0, .int 1, .int (-1), .int 7, .int 40, .int 1000000000000, .int (-1000000000000)]
def valS : List D := [.str [116,101,97], .str [114,121,101], .str [110,111,110,101], .str [120,49], .str [122,122]]
theorem valI_kd : ∀ d ∈ valI, kd d = some true ∧ ∃ i, d = .int i := by
  intro d hd
  have h1 : ∀ d ∈ valI, kd d = some true := by decide
  refine ⟨h1 d hd, ?_⟩
  simp only [valI, List.mem_cons, List.not_mem_nil, or_false] at hd
  rcases hd with rfl | rfl | rfl | rfl | rfl | rfl | rfl <;> exact ⟨_, rfl⟩
theorem valS_kd : ∀ d ∈ valS, kd d = some false := by decide
theorem kd_pl {d : D} (h : (kd d).isSome = true) : pl d = true := by
  rcases kd_of h with ⟨i, rfl, _⟩ | ⟨s, rfl, hs⟩
  · rfl
  · have := signs_gw hs (by decide)
    exact pl_mk (by have := this.1; omega) fun c hc => by have := (this.2 c hc).2; omega
theorem s_value {n : Nat} (hn : 3 ≤ n) {j c : Nat} {h : HP} {t : List Nat} (ht : t = tInt ∨ t = tWord) (p : Pot j c h) (hc : c + 1 < 2 ^ 40) : Wp (runP P n 42 [.ref j, .str t] h) fun d h' => kV (kd d) = .str t ∧ Pot j (c + 1) h' ∧ But j h h' := by
  obtain ⟨m, rfl, hm⟩ := succ_of hn
  rw [e__law_value]
  refine runD_wp p.lt ?_
  show Wp (m__law_value _ [some (.ref j), some (.str t)] h) _
  unfold m__law_value
  have k1 : D.str [105, 110, 116] = .str tInt := rfl
  have nk : ∀ d, (kd d).isSome = true → nn h.length d = true := fun d q => pl_nn _ _ (kd_pl q)
  rcases ht with rfl | rfl
  · refine if_wp (c := true) (tV_ok (e2_ok (eV_at rfl) eC_ok eqt)) ?_
    rw [if_pos rfl]
    have q : bPow (.int 10) (.int 12) h = .ok (.int 1000000000000) h := m_pow (n := 12) (k := 4) (by decide) (by decide)
    have un : ∀ i : Int, uNeg (.int i) h = .ok (.int (-i)) h := fun _ => rfl
    refine ret2_wp ?_
    rw [w_eA, w_aC]
    refine bnd_wp (C := fun xs h' => ∃ d, xs = [d] ∧ d ∈ valI ∧ Pot j (c + 1) h' ∧ But j h h') (bnd_wp (of_wp (xs := valI) (by omega) rfl (lst_ok (xs := valI) (by simp [q, un, valI]) (by decide)) p (by omega) (by decide) (by decide) (pl_all (by decide))) ?_) ?_
    · rintro d h' ⟨hd, p', b⟩
      exact ⟨d, rfl, hd, p', b⟩
    · rintro xs h' ⟨d, rfl, hd, p', b⟩
      obtain ⟨e1, i, rfl⟩ := valI_kd d hd
      exact ⟨_, rfl, rfl, p', b.l, by rw [e1]; rfl⟩
  · refine if_wp (c := false) (tV_ok (e2_ok (eV_at rfl) eC_ok (eqf (by decide)))) ?_
    rw [if_neg (by simp)]
    show Wp (sSq (sRe _) _ _ h) _
    refine ret_wp ((of_wp (xs := valS) (by omega) rfl (lst_ok (xs := valS) (by simp [valS]) (by decide)) p (by omega) (by decide) (by decide) (pl_all (by decide))).imp ?_)
    rintro d h' ⟨hd, p', b⟩
    have e1 := valS_kd d hd
    exact ⟨_, rfl, nk d (by rw [e1]; rfl), p', b.l, by rw [e1]; rfl⟩
end Zk
end

/-! N18 -/
set_option exponentiation.threshold 9000
noncomputable section
namespace Zk
open PySem PySem.Spec L2 Zs
open PyProof.Rows hiding St
open Classical
theorem ifw_wp {t : TM} {a b rest : SM} {ρ : Env'} {h : HP} {Q : Fl → HP → Prop} {C : Bool → HP → Prop} (w : Wp (t ρ h) C) (k : ∀ c h1, C c h1 → Wp (if c = true then sSq a rest ρ h1 else sSq b rest ρ h1) Q) : Wp (sSq (sIf t a b) rest ρ h) Q := by
  obtain ⟨c, h1, e, q⟩ := w.ex
  have e2 : sSq (sIf t a b) rest ρ h = if c = true then sSq a rest ρ h1 else sSq b rest ρ h1 := by
    show (match sIf t a b ρ h with
      | .ok (.nx ρ1) h1 => rest ρ1 h1
      | r => r) = _
    rw [w_sIf, e]
    cases c <;> rfl
  rw [e2]; exact k c h1 q
/-- a draw compared with a number -/
theorem cmp_wp {n : Nat} (hn : 1 ≤ n) {b : EM} {ρ : Env'} {h : HP} {j c : Nat} {u k : Int} (h0 : ρ[0]? = some (some (.ref j))) (hb : b ρ h = .ok (.int u) h) (p : Pot j c h) (hc : c < 2 ^ 40) (u0 : 0 < u) (u1 : u < 2 ^ 60) :
    Wp (tV (e2 bEq2 (eCl (runP P n 36) 2 2 0 [0, 1] (aC (eV 0) (aC b aN)) aN) (eC (.int k))) ρ h) fun _ h' => Pot j (c + 1) h' ∧ But j h h' := by
  rw [w_tV, w_e2]
  refine bnd_wp (C := fun d h' => (∃ x, d = .bl x) ∧ Pot j (c + 1) h' ∧ But j h h') (bnd_wp (tk_wp hn h0 hb p hc u0 u1) ?_) ?_
  · rintro d h' ⟨i, rfl, _, _, p', b'⟩
    exact ⟨⟨_, rfl⟩, p', b'⟩
  · rintro d h' ⟨⟨x, rfl⟩, p', b'⟩
    exact ⟨p', b'⟩
def namL : List D := [.str [119,97,114,101], .str [112,114,105,99,101], .str [115,105,122,101], .str [110,111,116,101]]
theorem namL_ok : ∀ d ∈ namL, nameB d = true ∧ ∃ s, d = .str s := by
  intro d hd
  have h1 : ∀ d ∈ namL, nameB d = true := by decide
  exact ⟨h1 d hd, nameB_str (h1 d hd)⟩
theorem lst4 {a b c d : D} {ρ : Env'} {h : HP} : eA (fLst false) (aC (eC a) (aC (eC b) (aC (eC c) (aC (eC d) aN)))) ρ h = .ok (.lst [a, b, c, d]) h := lst_ok rfl (by simp)
theorem str_pl {s : List Nat} (h : nameB (.str s) = true) : pl (.str s) = true := by
  have := name_gw h
  exact pl_mk (by have := this.1; omega) fun c hc => by have := (this.2 c hc).2; omega
theorem col_pl {d : D} (h : colB d = true) : pl d = true := by
  obtain ⟨s, t, c, rfl, h1, h2, h3⟩ := colB_of h
  refine pl3 (str_pl h1) ?_ (kd_pl (kd_some h3))
  have g1 : pl (.str tInt) = true := by decide
  have g2 : pl (.str tWord) = true := by decide
  rcases h2 with rfl | rfl
  · exact g1
  · exact g2
theorem eq_in2 {s : List Nat} {a b : List Nat} {h : HP} : ∃ x, bIn2 false (.str s) (.tup [.str a, .str b]) h = .ok (.bl x) h := ⟨_, in2⟩
theorem s_column {n : Nat} (hn : 4 ≤ n) {j c : Nat} {h : HP} (p : Pot j c h) (hc : c + 3 < 2 ^ 40) : Wp (runP P n 43 [.ref j] h) fun d h' => colB d = true ∧ Pot j (c + 3) h' ∧ But j h h' := by
  obtain ⟨m, rfl, hm⟩ := succ_of hn
  rw [e__law_column]
  refine runD_wp p.lt ?_
  show Wp (m__law_column _ [some (.ref j), none, none] h) _
  unfold m__law_column
  refine as_wp (of_wp (n := m) (xs := namL) (by omega) rfl lst4 p (by omega) (by decide) (by decide) (pl_all (by decide))) ?_
  rintro d h1 ⟨hd, p1, b1⟩
  obtain ⟨nd, s, rfl⟩ := namL_ok d hd
  refine ⟨[some (.ref j), some (.str s), none], h1, rfl, ?_⟩
  -- the kind
  obtain ⟨x, ex⟩ := eq_in2 (s := s) (a := [112,114,105,99,101]) (b := [115,105,122,101]) (h := h1)
  have fin : ∀ (t : List Nat), (t = tInt ∨ t = tWord) → ∀ h2, Pot j (c + 2) h2 → But j h1 h2 → Wp (sSq (sRe (eA fTup (aC (eV 1) (aC (eV 2) (aC (eCl (runP P m 42) 2 2 0 [0, 1] (aC (eV 0) (aC (eV 2) aN)) aN) aN))))) sNx [some (.ref j), some (.str s), some (.str t)] h2) fun f h' => ∃ d, f = .ret d ∧ nn h.length d = true ∧ Pot j (c + 3) h' ∧ ButL j h h' ∧ colB d = true := fun t ht h2 p2 b2 => by
    refine ret_wp ?_
    obtain ⟨d, h3, e3, k3, p3, b3⟩ := (call2_wp (ρ := [some (.ref j), some (.str s), some (.str t)]) (a := eV 0) (b := eV 2) (f := runP P m 42) rfl rfl (s_value (n := m) (by omega) ht p2 (by omega))).ex
    have hcol : colB (.tup [.str s, .str t, d]) = true := by
      show (nameB (.str s) && (kindB (.str t) && kdIs d (.str t))) = true
      rw [nd]
      have : kindB (.str t) = true := by rcases ht with rfl | rfl <;> decide
      rw [this]
      show decide (kV (kd d) = .str t) = true
      exact decide_eq_true k3
    refine Wp.of (a := .tup [.str s, .str t, d]) (h := h3) ?_ ⟨_, rfl, pl_nn _ _ (col_pl hcol), p3, (b1.trans (b2.trans b3)).l, hcol⟩
    rw [w_eA, w_aC, w_eV]
    show ((aC (eV 2) _ _ h2).bnd _).bnd _ = _
    rw [w_aC]
    show ((((aC _ aN) _ h2).bnd _).bnd _).bnd _ = _
    rw [w_aC, e3]
    exact tup_ok (by simp)
  refine wp_cons (ρ1 := [some (.ref j), some (.str s), some (.str (if x = true then tInt else tWord))]) (h1 := h1) ?_ ?_
  · refine sAs_ok (d := .str (if x = true then tInt else tWord)) (eIf_ok (c := x) (tV_ok (e2_ok (eV_at rfl) (eA_ok (aC_ok eC_ok (aC_ok eC_ok aN_ok)) (tup_ok (by simp))) ex)) ?_) rfl
    cases x <;> rfl
  · generalize hk : (if x = true then tInt else tWord) = t
    have ht : t = tInt ∨ t = tWord := by rw [← hk]; cases x <;> simp
    refine ifw_wp (cmp_wp (n := m) (u := 9) (by omega) rfl rfl p1 (by omega) (by decide) (by decide)) ?_
    rintro b h2 ⟨p2, b2⟩
    cases b with
    | true =>
      rw [if_pos rfl]
      refine wp_cons (ρ1 := [some (.ref j), some (.str s), some (.str (if t = tInt then tWord else tInt))]) (h1 := h2) ?_ (fin _ (by split <;> simp) h2 p2 b2)
      refine blk1 (sAs_ok (d := .str (if t = tInt then tWord else tInt)) (eIf_ok (c := decide (t = tInt)) (tV_ok (e2_ok (eV_at rfl) eC_ok eq_str2)) ?_) rfl)
      by_cases z : t = tInt
      · rw [if_pos (decide_eq_true z), if_pos z]; rfl
      · rw [if_neg (by simp [z]), if_neg z]; rfl
    | false =>
      rw [if_neg (by simp)]
      exact wp_cons (ρ1 := [some (.ref j), some (.str s), some (.str t)]) (h1 := h2) rfl (fin t ht h2 p2 b2)
end Zk
end

/-! N19 -/
set_option exponentiation.threshold 9000
noncomputable section
namespace Zk
open PySem PySem.Spec L2 Zs
open PyProof.Rows hiding St
open Classical
theorem sFo_wp {it : IM} {t : GM} {b rest : SM} {ρ : Env'} {h : HP} {Q : Fl → HP → Prop} {C : Itm → HP → Prop} (w : Wp (it ρ h) C) (k : ∀ m h1, C m h1 → Wp (Zs.forM t b m.chk m.xs ρ h1) fun f h2 => ∃ ρ1, f = .nx ρ1 ∧ Wp (rest ρ1 h2) Q) : Wp (sSq (sFo it t b) rest ρ h) Q := by
  obtain ⟨m, h1, e, q⟩ := w.ex
  have e2 : sFo it t b ρ h = Zs.forM t b m.chk m.xs ρ h1 := sFo_ok e rfl
  exact wp_consW (by rw [e2]; exact k m h1 q)
theorem rng_wp {ra : EM} {ρ : Env'} {h : HP} {C : Int → HP → Prop} (w : Wp (ra ρ h) fun d h1 => ∃ i : Int, d = .int i ∧ 0 ≤ i ∧ i < 1000 ∧ C i h1) : Wp (iR (aC ra aN) ρ h) fun m h1 => ∃ i : Int, 0 ≤ i ∧ i < 1000 ∧ m = ⟨(List.range i.toNat).map fun k => D.int (0 + (k : Nat)), fun _ => True⟩ ∧ C i h1 := by
  obtain ⟨d, h1, e, i, rfl, i0, i1, q⟩ := w.ex
  refine Wp.of (a := ⟨(List.range i.toNat).map fun k => D.int (0 + (k : Nat)), fun _ => True⟩) (h := h1) ?_ ⟨i, i0, i1, rfl, q⟩
  unfold iR
  rw [w_aC, e, w_ok, w_aN, w_ok, w_ok]
  exact iRk1 i0 (by omega)
theorem add_wp {b : EM} {ρ : Env'} {h : HP} {k : Int} {C : Int → HP → Prop} (w : Wp (b ρ h) fun d h1 => ∃ i : Int, d = .int i ∧ C i h1) : Wp (e2 (bAdd false) (eC (.int k)) b ρ h) fun d h1 => ∃ i : Int, d = .int (k + i) ∧ C i h1 := by
  rw [w_e2, w_eC, w_ok]
  refine bnd_wp w ?_
  rintro d h1 ⟨i, rfl, q⟩
  exact ⟨i, rfl, q⟩
theorem but_at {j i : Nat} {h h' : HP} (b : But j h h') (n : i ≠ j) : h'[i]? = h[i]? := b.2 i n
theorem lr_at2 {h : HP} {i : Nat} {ys : List D} (e : h[i]? = some (some (.lst ys))) : lrOf (.ref i) h = some ys := by
  show (match h[i]? with
    | some (some (.lst xs)) => some xs
    | _ => none) = _
  rw [e]
theorem wipe5 {a b c d e : Option D} : wipeE [a, b, c, d, e] [4] = [a, b, c, d, none] := rfl
theorem shpB_mk {xs : List D} (h1 : 1 ≤ xs.length) (h2 : xs.length ≤ 8) (h3 : xs.all colB = true) (h4 : (xs.map nm).Nodup) : shpB (.tup xs) = true := by
  show (decide (1 ≤ (xs.length : Int)) && decide ((xs.length : Int) ≤ 8) && (xs.all colB && unl (xs.map nm))) = true
  rw [Bool.and_eq_true, Bool.and_eq_true, Bool.and_eq_true, decide_eq_true_eq, decide_eq_true_eq]
  exact ⟨⟨by omega, by omega⟩, h3, unl_nodup h4⟩
theorem shp_pl {d : D} (h : shpB d = true) : pl d = true := by
  cases d <;> first | (cases h; done) | skip
  obtain ⟨h1, h2, h3, _⟩ := shpB_of h
  exact plL_mk (by omega) fun x hx => col_pl (List.all_eq_true.mp h3 x hx)
theorem s_shape {n : Nat} (hn : 5 ≤ n) {j c : Nat} {h : HP} (p : Pot j c h) (hc : c + 10 < 2 ^ 40) : Wp (runP P n 44 [.ref j] h) fun d h' => shpB d = true ∧ Pot j (c + 10) h' ∧ But j h h' := by
  obtain ⟨m, rfl, hm⟩ := succ_of hn
  rw [e__law_shape]
  have hj := p.lt
  refine runD_wp hj ?_
  show Wp (m__law_shape _ [some (.ref j), none, none, none, none] h) _
  unfold m__law_shape
  have nj : h.length ≠ j := by omega
  have p0 : Pot j c (h ++ [some (.lst [])]) := p.at_ (List.getElem?_append_left hj)
  refine wp_cons (ρ1 := [some (.ref j), some (.ref h.length), none, none, none]) (h1 := h ++ [some (.lst [])]) (sAs_ok (eA_ok aN_ok (fLst_o (by simp))) rfl) ?_
  refine sFo_wp (rng_wp (C := fun i h1 => 1 ≤ i ∧ i ≤ 3 ∧ Pot j (c + 1) h1 ∧ But j (h ++ [some (.lst [])]) h1) ((add_wp (tk_wp (n := m) (u := 3) (by omega) rfl rfl p0 (by omega) (by decide) (by decide))).imp ?_)) ?_
  · rintro d h1 ⟨i, rfl, i0, i1, p1, b1⟩
    exact ⟨1 + i, rfl, by omega, by omega, by omega, by omega, p1, b1⟩
  · rintro mm h1 ⟨i, i0, i1, rfl, i2, i3, p1, b1⟩
    have hl : ((List.range i.toNat).map fun k => D.int (0 + (k : Nat))).length = i.toNat := by simp
    refine forM_inv (fun k ρ h' => ∃ x y xs, ρ = [some (.ref j), some (.ref h.length), x, y, none] ∧ xs.length ≤ k ∧ (0 < k → 0 < xs.length) ∧ xs.all colB = true ∧ (xs.map nm).Nodup ∧ h'[h.length]? = some (some (.lst xs)) ∧ h'.length = h.length + 1 ∧ Pot j (c + 1 + 3 * k) h' ∧ ButL j h h') _ (fun _ _ _ _ => trivial) i.toNat _ 0 _ _ (by rw [hl]; omega) ?_ ?_ ?_
    · have e1 : h1[h.length]? = some (some (.lst [])) := by rw [but_at b1 nj]; exact snoc_at
      exact ⟨none, none, [], rfl, Nat.le_refl _, fun z => absurd z (by omega), rfl, List.nodup_nil, e1, by rw [b1.1]; simp, p1.mono (by omega), ButL.app.trans b1.l⟩
    · rintro d _ k ρ h2 hk ⟨x, y, xs, rfl, x1, x2, x3, x4, x5, x6, x7, x8⟩
      rw [w_gN, wp_ok]
      refine as_wp (call1_wp (eV_at rfl) (s_column (n := m) (by omega) x7 (by omega))) ?_
      rintro col h3 ⟨hcol, p3, b3⟩
      refine ⟨[some (.ref j), some (.ref h.length), some d, some col, none], h3, rfl, ?_⟩
      have y5 : h3[h.length]? = some (some (.lst xs)) := by rw [but_at b3 nj]; exact x5
      have y6 : h3.length = h.length + 1 := by rw [b3.1]; exact x6
      have y8 : ButL j h h3 := x8.trans b3.l
      obtain ⟨s, t, cv, ec, g1, g2, g3⟩ := colB_of hcol
      have enm : nm col = s := by rw [ec]; rfl
      have el := eLc_map (ρ := [some (.ref j), some (.ref h.length), some d, some col, none]) (h := h3) (it := iA (eV 1)) (t := gN 4) (e := e2 bIx2 (eV 4) (eC (.int 0))) (vs := [4]) (m := ⟨xs, fun h' => lrOf (.ref h.length) h' = some xs⟩) (fun z => .str (nm z)) (by
        unfold iA
        rw [eV_at (d := .ref h.length) rfl, w_ok]
        unfold iAk
        dsimp only
        rw [lr_at2 y5]) (lr_at2 y5) (fun z hz => by
        obtain ⟨s', t', c', ez, _⟩ := colB_of (List.all_eq_true.mp x3 z hz)
        refine ⟨[some (.ref j), some (.ref h.length), some d, some col, some z], rfl, ?_⟩
        rw [ez]
        rfl) (kline (by show xs.length ≤ _; omega))
      have es : xs.map (fun z => D.str (nm z)) = strsD (xs.map nm) := by unfold strsD; rw [List.map_map]; rfl
      rw [es] at el
      have ei : bIn2 true (.str s) (.lst (strsD (xs.map nm))) h3 = _ := w_inStrs (h := h3) (neg := true) (s := s) (y := .lst (strsD (xs.map nm))) (l := xs.map nm) rfl
      have x0 : bIx2 col (.int 0) h3 = .ok (.str s) h3 := by rw [ec]; rfl
      refine if_wp (c := true ^^ decide (s ∈ xs.map nm)) (tV_ok (e2_ok (e2_ok (eV_at rfl) eC_ok x0) el ei)) ?_
      by_cases z : s ∈ xs.map nm
      · rw [if_neg (by simp [z])]
        have x2' : 0 < xs.length := by
          cases xs with
          | nil => simp at z
          | cons _ _ => simp
        refine Wp.of (a := .nx [some (.ref j), some (.ref h.length), some d, some col, none]) (h := h3) rfl ?_
        exact ⟨some d, some col, xs, rfl, by omega, fun _ => x2', x3, x4, y5, y6, p3.mono (by omega), y8⟩
      · rw [if_pos (by simp [z])]
        obtain ⟨a1, a2⟩ := app_at (h := h3) (i := h.length) (ys := xs) (y := col) y5 (by omega)
        have ea : sEx (eMt isLstD mApp (eV 1) (aC (eV 3) aN)) [some (.ref j), some (.ref h.length), some d, some col, none] h3 = .ok (.nx [some (.ref j), some (.ref h.length), some d, some col, none]) (h3.set h.length (some (.lst (xs ++ [col])))) := by
          simp [a1, a2]
        refine Wp.of (a := .nx [some (.ref j), some (.ref h.length), some d, some col, none]) (h := h3.set h.length (some (.lst (xs ++ [col])))) (blk1 (blk1 ea)) ?_
        refine ⟨some d, some col, xs ++ [col], rfl, by simp; omega, fun _ => by simp, by rw [List.all_append, x3]; simp [hcol], ?_, at_set y5, by rw [List.length_set]; exact y6, (p3.mono (by omega)).at_ (by rw [List.getElem?_set_ne nj]), y8.set (Nat.le_refl _)⟩
        rw [List.map_append, List.nodup_append]
        refine ⟨x4, by simp, fun a ha b hb => ?_⟩
        simp at hb
        rw [hb, enm]
        intro q
        rw [q] at ha
        exact z ha
    · rintro ρ h2 ⟨x, y, xs, rfl, x1, x2, x3, x4, x5, x6, x7, x8⟩
      rw [Nat.zero_add, hl] at x1 x2 x7
      refine ⟨_, rfl, ?_⟩
      have hs := shpB_mk (x2 (by omega)) (by omega) x3 x4
      refine ret_wp (Wp.of (a := .tup xs) (h := h2) ?_ ⟨_, rfl, pl_nn _ _ (shp_pl hs), x7.mono (by omega), x8, hs⟩)
      refine eA_ok (aC_ok (eV_at rfl) aN_ok) ?_
      show (match lrOf (.ref h.length) h2 with
        | some ys => R.ok (D.tup ys) h2
        | none => .bad) = _
      rw [lr_at2 x5]
end Zk
end

/-! N20 -/
set_option exponentiation.threshold 9000
noncomputable section
namespace Zk
open PySem PySem.Spec L2 Zs
open PyProof.Rows hiding St
open Classical
theorem par_wp {i j : Nat} {a : AM} {rest : SM} {ρ : Env'} {h : HP} {Q : Fl → HP → Prop} {C : D → D → HP → Prop} (w : Wp (a ρ h) fun xs h1 => ∃ u v, xs = [u, v] ∧ C u v h1) (k : ∀ u v h1, C u v h1 → Wp (rest ((ρ.set i (some u)).set j (some v)) h1) Q) : Wp (sSq (sPar i j a) rest ρ h) Q := by
  obtain ⟨xs, h1, e, u, v, rfl, q⟩ := w.ex
  refine wp_cons (ρ1 := (ρ.set i (some u)).set j (some v)) (h1 := h1) ?_ (k u v h1 q)
  unfold sPar
  rw [e]; rfl
theorem aC2_wp {a b : EM} {ρ : Env'} {h : HP} {A : D → HP → Prop} {B : D → D → HP → Prop} (wa : Wp (a ρ h) A) (wb : ∀ u h1, A u h1 → Wp (b ρ h1) (B u)) : Wp (aC a (aC b aN) ρ h) fun xs h2 => ∃ u v, xs = [u, v] ∧ B u v h2 := by
  obtain ⟨u, h1, e1, q1⟩ := wa.ex
  obtain ⟨v, h2, e2, q2⟩ := (wb u h1 q1).ex
  refine Wp.of (a := [u, v]) (h := h2) ?_ ⟨u, v, rfl, q2⟩
  rw [w_aC, e1, w_ok, w_aC, e2, w_ok, w_aN, w_ok, w_ok]
/-- the last of a tuple is drawn -/
theorem tup2_wp {k : D} {a : EM} {ρ : Env'} {h : HP} {Q : D → HP → Prop} (w : Wp (a ρ h) fun d h1 => Q (.tup [k, d]) h1) : Wp (eA fTup (aC (eC k) (aC a aN)) ρ h) Q := by
  obtain ⟨d, h1, e, q⟩ := w.ex
  refine Wp.of (a := .tup [k, d]) (h := h1) ?_ q
  rw [w_eA, w_aC, w_eC, w_ok, w_aC, e, w_ok, w_aN, w_ok, w_ok, w_ok]
  exact tup_ok (by simp)
theorem tup3_wp {k x : D} {a b : EM} {ρ : Env'} {h : HP} {Q : D → HP → Prop} (hb : b ρ h = .ok x h) (w : Wp (a ρ h) fun d h1 => Q (.tup [k, x, d]) h1) : Wp (eA fTup (aC (eC k) (aC b (aC a aN))) ρ h) Q := by
  obtain ⟨d, h1, e, q⟩ := w.ex
  refine Wp.of (a := .tup [k, x, d]) (h := h1) ?_ q
  rw [w_eA, w_aC, w_eC, w_ok, w_aC, hb, w_ok, w_aC, e, w_ok, w_aN, w_ok, w_ok, w_ok, w_ok]
  exact tup_ok (by simp)
theorem tagF1 {w w' : List Nat} {a : D} {k : Nat} (h : ¬ w = w') : tagB (.tup [.str w, a]) w' k = false := by simp [tagB, h]
theorem tagF2 {w w' : List Nat} {a b : D} {k : Nat} (h : ¬ w = w') : tagB (.tup [.str w, a, b]) w' k = false := by simp [tagB, h]
theorem tagT1 {w : List Nat} {a : D} : tagB (.tup [.str w, a]) w 1 = true := by simp [tagB]
theorem tagT2 {w : List Nat} {a b : D} : tagB (.tup [.str w, a, b]) w 2 = true := by simp [tagB]
theorem mk_new {s : D} (h : shpB s = true) : stepB (.tup [.str wNew, s]) = true := by
  unfold stepB; rw [if_pos tagT1]; exact h
theorem mk_add {s : D} (h : colB s = true) : stepB (.tup [.str wAdd, s]) = true := by
  unfold stepB; rw [tagF1 (by decide), if_neg (by simp), if_pos tagT1]; exact h
theorem mk_drop {s : D} (h : nameB s = true) : stepB (.tup [.str wDrop, s]) = true := by
  unfold stepB; rw [tagF1 (by decide), if_neg (by simp), tagF1 (by decide), if_neg (by simp), if_pos tagT1]; exact h
theorem mk_name {s t : D} (h : nameB s = true) (h2 : nameB t = true) : stepB (.tup [.str wName, s, t]) = true := by
  unfold stepB; rw [tagF2 (by decide), if_neg (by simp), tagF2 (by decide), if_neg (by simp), tagF2 (by decide), if_neg (by simp), if_pos tagT2]
  show (nameB s && nameB t) = true
  rw [h, h2]; rfl
theorem mk_first {s t : D} (h : nameB s = true) (h2 : (kd t).isSome = true) : stepB (.tup [.str wFirst, s, t]) = true := by
  unfold stepB; rw [tagF2 (by decide), if_neg (by simp), tagF2 (by decide), if_neg (by simp), tagF2 (by decide), if_neg (by simp), tagF2 (by decide), if_neg (by simp), tagT2]
  show (true && (nameB s && (kd t).isSome)) = true
  rw [h, h2]; rfl
theorem mk_put {s t : D} (h : nameB s = true) (h2 : toldB t = true) : deedB (.tup [.str wPut, s, t]) = true := by
  unfold deedB; rw [if_pos tagT2]
  show (nameB s && toldB t) = true
  rw [h, h2]; rfl
theorem mk_take {s : D} (h : betw 1 1000000 s = true) : deedB (.tup [.str wTake, s]) = true := by
  unfold deedB; rw [tagF1 (by decide), if_neg (by simp), if_pos tagT1]; exact h
theorem mk_grow {s t : D} (h : nameB s = true) (h2 : stepB t = true) : deedB (.tup [.str wGrow, s, t]) = true := by
  unfold deedB; rw [tagF2 (by decide), if_neg (by simp), tagF2 (by decide), if_neg (by simp), if_pos tagT2]
  show (nameB s && stepB t) = true
  rw [h, h2]; rfl
theorem mk_clock {s : D} (h : betw 0 1000000000 s = true) : deedB (.tup [.str wClock, s]) = true := by
  unfold deedB; rw [tagF1 (by decide), if_neg (by simp), tagF1 (by decide), if_neg (by simp), tagF1 (by decide), if_neg (by simp), tagT1]
  show (true && betw 0 1000000000 s) = true
  rw [h]; rfl
theorem mk_let {s n t e : D} (h : nameB s = true) (h2 : betw 1 1000000 n = true) (h3 : betw 0 1000000000 t = true) (h4 : deedB e = true) : letB (.tup [s, n, t, e]) = true := by
  show (nameB s && betw 1 1000000 n && (betw 0 1000000000 t && deedB e)) = true
  rw [h, h2, h3, h4]; rfl
theorem step_pl {d : D} (h : stepB d = true) : pl d = true := by
  rcases stepB_of h with ⟨xs, rfl, hs⟩ | ⟨a, rfl, ha⟩ | ⟨s, rfl, hs⟩ | ⟨s, t, rfl, hs, ht⟩ | ⟨s, b, rfl, hs, hb⟩
  · exact pl2 (pl_w ch_wNew (by decide)) (shp_pl hs)
  · exact pl2 (pl_w ch_wAdd (by decide)) (col_pl ha)
  · exact pl2 (pl_w ch_wDrop (by decide)) (str_pl hs)
  · exact pl3 (pl_w ch_wName (by decide)) (str_pl hs) (str_pl ht)
  · exact pl3 (pl_w ch_wFirst (by decide)) (str_pl hs) (kd_pl hb)
theorem nv_pl {x : D} (h : nvB x = true) : pl x = true := by
  obtain ⟨a, b, rfl, ha, hb⟩ := nvB_of h
  exact pl2 (str_pl ha) (kd_pl hb)
theorem deed_pl {d : D} (h : deedB d = true) : pl d = true := by
  rcases deedB_of h with ⟨s, xs, rfl, hs, z1, z3, _⟩ | ⟨i, rfl, i1, i2⟩ | ⟨s, st, rfl, hs, ht⟩ | ⟨i, rfl, i1, i2⟩
  · exact pl3 (pl_w ch_wPut (by decide)) (str_pl hs) (plL_mk (by omega) fun x hx => nv_pl (List.all_eq_true.mp z3 x hx))
  · exact pl2 (pl_w ch_wTake (by decide)) rfl
  · exact pl3 (pl_w ch_wGrow (by decide)) (str_pl hs) (step_pl ht)
  · exact pl2 (pl_w ch_wClock (by decide)) rfl
theorem let_pl {d : D} (h : letB d = true) : pl d = true := by
  obtain ⟨s, k, t, e, rfl, hs, n1, n2, t1, t2, hd⟩ := letB_of h
  exact pl4 (str_pl hs) rfl rfl (deed_pl hd)
theorem eq_k {i k : Int} {h : HP} : bEq2 (.int i) (.int k) h = .ok (.bl (decide (i = k))) h := w_eqI
theorem s_step {n : Nat} (hn : 6 ≤ n) {j c : Nat} {h : HP} (p : Pot j c h) (hc : c + 12 < 2 ^ 40) : Wp (runP P n 45 [.ref j] h) fun d h' => stepB d = true ∧ Pot j (c + 12) h' ∧ But j h h' := by
  obtain ⟨m, rfl, hm⟩ := succ_of hn
  rw [e__law_step]
  have hj := p.lt
  refine runD_wp hj ?_
  show Wp (m__law_step _ [some (.ref j), none, none, none] h) _
  unfold m__law_step
  refine par_wp (C := fun u v h1 => ∃ i s, u = .int i ∧ 0 ≤ i ∧ v = .str s ∧ nameB (.str s) = true ∧ Pot j (c + 2) h1 ∧ But j h h1) ((aC2_wp (B := fun u v h1 => ∃ i s, u = .int i ∧ 0 ≤ i ∧ v = .str s ∧ nameB (.str s) = true ∧ Pot j (c + 2) h1 ∧ But j h h1) (tk_wp (n := m) (u := 7) (by omega) rfl rfl p (by omega) (by decide) (by decide)) ?_)) ?_
  · rintro u h1 ⟨i, rfl, i0, _, p1, b1⟩
    refine (of_wp (n := m) (xs := namL) (by omega) rfl lst4 p1 (by omega) (by decide) (by decide) (pl_all (by decide))).imp ?_
    rintro d h2 ⟨hd, p2, b2⟩
    obtain ⟨nd, s, rfl⟩ := namL_ok d hd
    exact ⟨i, s, rfl, i0, rfl, nd, p2, b1.trans b2⟩
  rintro u v h1 ⟨i, s, rfl, i0, rfl, nd, p1, b1⟩
  have done : ∀ (d : D) (h' : HP), stepB d = true → Pot j (c + 12) h' → But j h1 h' → ∃ d', Fl.ret d = .ret d' ∧ nn h.length d' = true ∧ Pot j (c + 12) h' ∧ ButL j h h' ∧ stepB d' = true := fun d h' hs hp hb => ⟨d, rfl, pl_nn _ _ (step_pl hs), hp, (b1.trans hb).l, hs⟩
  show Wp (sSq (sIf _ _ _) _ [some (.ref j), some (.int i), some (.str s), none] h1) _
  refine if_wp (c := decide (i = 0)) (tV_ok (e2_ok (eV_at rfl) eC_ok eq_k)) ?_
  by_cases z0 : i = 0
  · rw [if_pos (decide_eq_true z0)]
    refine ret2_wp (tup2_wp ((call1_wp (eV_at rfl) (s_shape (n := m) (by omega) p1 (by omega))).imp ?_))
    rintro d h2 ⟨hd, p2, b2⟩
    exact done _ _ (mk_new hd) p2 b2
  · rw [if_neg (by simp [z0])]
    show Wp (sSq (sIf _ _ _) _ [some (.ref j), some (.int i), some (.str s), none] h1) _
    refine if_wp (c := decide (i < 3)) (tV_ok (e2_ok (eV_at rfl) eC_ok rfl)) ?_
    by_cases z1 : i < 3
    · rw [if_pos (decide_eq_true z1)]
      refine ret2_wp (tup2_wp ((call1_wp (eV_at rfl) (s_column (n := m) (by omega) p1 (by omega))).imp ?_))
      rintro d h2 ⟨hd, p2, b2⟩
      exact done _ _ (mk_add hd) (p2.mono (by omega)) b2
    · rw [if_neg (by simp [z1])]
      show Wp (sSq (sIf _ _ _) _ [some (.ref j), some (.int i), some (.str s), none] h1) _
      refine if_wp (c := decide (i = 3)) (tV_ok (e2_ok (eV_at rfl) eC_ok eq_k)) ?_
      by_cases z2 : i = 3
      · rw [if_pos (decide_eq_true z2)]
        refine ret2_wp (Wp.of (a := .tup [.str wDrop, .str s]) (h := h1) (eA_ok (aC_ok (x := .str wDrop) eC_ok (aC_ok (eV_at rfl) aN_ok)) (tup_ok (by simp))) ?_)
        exact done _ _ (mk_drop nd) (p1.mono (by omega)) (But.refl)
      · rw [if_neg (by simp [z2])]
        show Wp (sSq (sIf _ _ _) _ [some (.ref j), some (.int i), some (.str s), none] h1) _
        refine if_wp (c := decide (i < 6)) (tV_ok (e2_ok (eV_at rfl) eC_ok rfl)) ?_
        by_cases z3 : i < 6
        · rw [if_pos (decide_eq_true z3)]
          refine ret2_wp (tup3_wp (k := .str wName) (eV_at rfl) ((of_wp (n := m) (xs := namL) (by omega) rfl lst4 p1 (by omega) (by decide) (by decide) (pl_all (by decide))).imp ?_))
          rintro d h2 ⟨hd, p2, b2⟩
          obtain ⟨nd2, s2, rfl⟩ := namL_ok d hd
          exact done _ _ (mk_name nd nd2) (p2.mono (by omega)) b2
        · rw [if_neg (by simp [z3])]
          show Wp (sSq (sAs _ _) _ [some (.ref j), some (.int i), some (.str s), none] h1) _
          refine as_wp (call1_wp (eV_at rfl) (s_column (n := m) (by omega) p1 (by omega))) ?_
          rintro col h2 ⟨hcol, p2, b2⟩
          refine ⟨[some (.ref j), some (.int i), some (.str s), some col], h2, rfl, ?_⟩
          obtain ⟨s', t', c', ec, g1, g2, g3⟩ := colB_of hcol
          refine ret_wp (Wp.of (a := .tup [.str wFirst, .str s', c']) (h := h2) (eA_ok (aC_ok (x := .str wFirst) eC_ok (aC_ok (e2_ok (y := .int 0) (x := col) (eV_at rfl) eC_ok (by rw [ec]; rfl)) (aC_ok (e2_ok (y := .int 2) (x := col) (eV_at rfl) eC_ok (by rw [ec]; rfl)) aN_ok))) (tup_ok (by simp))) ?_)
          exact done _ _ (mk_first g1 (kd_some g3)) (p2.mono (by omega)) b2
end Zk
end

/-! N21 -/
set_option exponentiation.threshold 9000
noncomputable section
namespace Zk
open PySem PySem.Spec L2 Zs
open PyProof.Rows hiding St
open Classical
theorem asc_pw : ∀ {l : List (List Nat)}, l.Pairwise (· < ·) → asc l = true
  | [], _ => rfl
  | [a], _ => rfl
  | a :: b :: l, h => by
    have h2 := asc_pw (l := b :: l) (List.pairwise_cons.mp h).2
    have h1 : a < b := (List.pairwise_cons.mp h).1 b List.mem_cons_self
    show (decide (a < b) && asc (b :: l)) = true
    rw [decide_eq_true h1, h2]; rfl
/-- a dict under way: names with their values, none twice -/
def nvD (k : Nat) (ds : List (D × D)) : Prop := ds.length ≤ k ∧ (∀ e ∈ ds, nvB (.tup [e.1, e.2]) = true) ∧ (ds.map fun e => txD e.1).Nodup
theorem nvD_key {k : Nat} {ds : List (D × D)} (h : nvD k ds) {e : D × D} (he : e ∈ ds) : ∃ s, e.1 = .str s ∧ nameB (.str s) = true ∧ (kd e.2).isSome = true := by
  obtain ⟨s, b, eq, q1, q2⟩ := nvB_of (h.2.1 e he)
  have e1 : [e.1, e.2] = [D.str s, b] := D.tup.inj eq
  have e2 := List.cons.inj e1
  have e3 := List.cons.inj e2.2
  exact ⟨s, e2.1, q1, by rw [e3.1]; exact q2⟩
theorem nvB_mk {s : List Nat} {b : D} (h1 : nameB (.str s) = true) (h2 : (kd b).isSome = true) : nvB (.tup [.str s, b]) = true := by
  show (nameB (.str s) && (kd b).isSome) = true
  rw [h1, h2]; rfl
theorem nvD_kind {k : Nat} {ds : List (D × D)} (h : nvD k ds) {s : List Nat} : kindOk ds (.one (.str s)) = true := by
  unfold kindOk
  rw [List.all_eq_true]
  intro e he
  obtain ⟨t, et, _⟩ := nvD_key h he
  rw [et]; rfl
theorem nvD_put {k : Nat} {ds : List (D × D)} (h : nvD k ds) {s : List Nat} {b : D} (h1 : nameB (.str s) = true) (h2 : (kd b).isSome = true) : nvD (k + 1) (putX ds (.str s) b (.one (.str s))) := by
  have kk : ∀ e ∈ ds, kkIs e.1 (.one (.str s)) = true ↔ txD e.1 = s := fun e he => by
    obtain ⟨t, et, _⟩ := nvD_key h he
    rw [et]
    show decide (some (KK.one (.str t)) = some (.one (.str s))) = true ↔ t = s
    rw [decide_eq_true_eq]
    constructor
    · intro z; cases z; rfl
    · rintro rfl; rfl
  unfold putX
  by_cases z : (ds.any fun e => kkIs e.1 (.one (.str s))) = true
  · rw [if_pos z]
    refine ⟨by rw [List.length_map]; have := h.1; omega, ?_, ?_⟩
    · intro e he
      obtain ⟨e', he', rfl⟩ := List.mem_map.mp he
      obtain ⟨t, et, q1, q2⟩ := nvD_key h he'
      by_cases y : kkIs e'.1 (.one (.str s)) = true
      · rw [if_pos y]
        show nvB (.tup [e'.1, b]) = true
        rw [et]; exact nvB_mk q1 h2
      · rw [if_neg y]; exact h.2.1 _ he'
    · rw [List.map_map]
      have : ((fun e : D × D => txD e.1) ∘ fun e : D × D => if kkIs e.1 (.one (.str s)) = true then (e.1, b) else e) = fun e => txD e.1 := by
        funext e
        show txD (if kkIs e.1 (.one (.str s)) = true then (e.1, b) else e).1 = _
        split <;> rfl
      rw [this]; exact h.2.2
  · rw [if_neg z]
    refine ⟨by rw [List.length_append]; have := h.1; simp; omega, ?_, ?_⟩
    · intro e he
      rcases List.mem_append.mp he with he | he
      · exact h.2.1 e he
      · rw [List.mem_singleton] at he
        subst he
        exact nvB_mk h1 h2
    · rw [List.map_append, List.nodup_append]
      refine ⟨h.2.2, by simp, ?_⟩
      intro a ha c hc
      obtain ⟨e, he, rfl⟩ := List.mem_map.mp ha
      simp at hc
      subst hc
      intro q
      exact z (List.any_eq_true.mpr ⟨e, he, (kk e he).mpr q⟩)
theorem nvD_sort {k : Nat} {ds : List (D × D)} (h : nvD k ds) (hk : k ≤ 8) : ∃ xs : List D, (sortIt ds).map (fun zs => D.lst (zs.map fun e => .tup [e.1, e.2])) = some (.lst xs) ∧ toldB (.tup xs) = true ∧ xs.length ≤ k := by
  have hs : sortIt ds = some (ds.mergeSort leI) := by
    unfold sortIt
    refine if_pos ⟨?_, by have := h.1; omega⟩
    rw [List.all_eq_true]
    intro e he
    obtain ⟨t, et, q, _⟩ := nvD_key h he
    have := name_gw q
    rw [et]
    show (true && decide (t.length < 100000)) = true
    rw [decide_eq_true (by have := this.1; omega)]; rfl
  have pm := List.mergeSort_perm ds leI
  have ln : (ds.mergeSort leI).length = ds.length := pm.length_eq
  have mem : ∀ e ∈ ds.mergeSort leI, nvB (.tup [e.1, e.2]) = true := fun e he => h.2.1 e (pm.mem_iff.mp he)
  refine ⟨(ds.mergeSort leI).map fun e => .tup [e.1, e.2], by rw [hs]; rfl, ?_, by rw [List.length_map, ln]; exact h.1⟩
  have all1 : ((ds.mergeSort leI).map fun e => D.tup [e.1, e.2]).all nvB = true := by
    rw [List.all_eq_true]
    intro x hx
    obtain ⟨e, he, rfl⟩ := List.mem_map.mp hx
    exact mem e he
  have all2 : ((ds.mergeSort leI).map fun e => D.tup [e.1, e.2]).all pairB = true := by
    rw [List.all_eq_true]
    intro x hx
    obtain ⟨e, he, rfl⟩ := List.mem_map.mp hx
    rfl
  have as : asc (((ds.mergeSort leI).map fun e => D.tup [e.1, e.2]).map nm) = true := by
    refine asc_pw ?_
    rw [List.map_map]
    have em : (ds.mergeSort leI).map (nm ∘ fun e => D.tup [e.1, e.2]) = (ds.mergeSort leI).map fun e => txD e.1 := by
      refine List.map_congr_left fun e he => ?_
      obtain ⟨t, et, _⟩ := nvD_key h (pm.mem_iff.mp he)
      show nm (.tup [e.1, e.2]) = txD e.1
      rw [et]; rfl
    rw [em]
    have s1 : (ds.mergeSort leI).Pairwise fun a b => leI a b = true := List.pairwise_mergeSort leI_trans leI_total ds
    have s2 : ((ds.mergeSort leI).map fun e => txD e.1).Nodup := (pm.map _).nodup_iff.mpr h.2.2
    have s3 : ((ds.mergeSort leI).map fun e => txD e.1).Pairwise (· ≠ ·) := s2
    rw [List.pairwise_map] at s3 ⊢
    refine (s1.and s3).imp ?_
    rintro a b ⟨q1, q2⟩
    unfold leI at q1
    rw [Bool.not_eq_true', decide_eq_false_iff_not, List.not_lt] at q1
    rcases List.le_iff_lt_or_eq.mp q1 with q | q
    · exact q
    · exact absurd q q2
  show ((_ : List D).all pairB && decide (_ ≤ _) && (_ && _)) = true
  rw [all1, all2, as]
  simp only [Bool.true_and, Bool.and_true, decide_eq_true_eq, List.length_map, ln]
  have := h.1; omega
end Zk
end

/-! N22 -/
set_option exponentiation.threshold 9000
noncomputable section
namespace Zk
open PySem PySem.Spec L2 Zs
open PyProof.Rows hiding St
open Classical
theorem int_wp {a : EM} {ρ : Env'} {h : HP} {Q : D → HP → Prop} (w : Wp (a ρ h) fun d h' => (∃ i : Int, d = .int i) ∧ Q d h') : Wp (eA fInt2 (aC a aN) ρ h) Q := by
  obtain ⟨d, h1, e, ⟨i, rfl⟩, q⟩ := w.ex
  refine Wp.of (a := .int i) (h := h1) ?_ q
  rw [w_eA, w_aC, e, w_ok, w_aN, w_ok, w_ok]
  rfl
theorem e2r_wp {f : D → D → HP → R D} {a b : EM} {ρ : Env'} {h : HP} {x : D} {Q : D → HP → Prop} (ha : a ρ h = .ok x h) (w : Wp (b ρ h) fun y h1 => Wp (f x y h1) Q) : Wp (e2 f a b ρ h) Q := by
  rw [w_e2, ha, w_ok]
  exact wp_bnd.mpr w
theorem e2l_wp {f : D → D → HP → R D} {a b : EM} {ρ : Env'} {h : HP} {Q : D → HP → Prop} (w : Wp (a ρ h) fun x h1 => ∃ y, b ρ h1 = .ok y h1 ∧ Wp (f x y h1) Q) : Wp (e2 f a b ρ h) Q := by
  obtain ⟨x, h1, e, y, e2', q⟩ := w.ex
  rw [w_e2, e, w_ok, e2', w_ok]
  exact q
/-- max(0, ...) -/
theorem max_wp {b : EM} {ρ : Env'} {h : HP} {k : Int} {Q : D → HP → Prop} (w : Wp (b ρ h) fun d h1 => ∃ i : Int, d = .int i ∧ Q (.int (if i > k then i else k)) h1) : Wp (eA fMax (aC (eC (.int k)) (aC b aN)) ρ h) Q := by
  obtain ⟨d, h1, e, i, rfl, q⟩ := w.ex
  refine Wp.of (a := .int (if i > k then i else k)) (h := h1) ?_ q
  rw [w_eA, w_aC, w_eC, w_ok, w_aC, e, w_ok, w_aN, w_ok, w_ok, w_ok]
  rfl
def tabL : List D := [.str [103,111,111,100,115], .str [103,111,111,100,115], .str [115,104,111,112,115], .str [108,111,116,115]]
theorem tabL_ok : ∀ d ∈ tabL, nameB d = true ∧ ∃ s, d = .str s := by
  intro d hd
  have h1 : ∀ d ∈ tabL, nameB d = true := by decide
  exact ⟨h1 d hd, nameB_str (h1 d hd)⟩
theorem dc_at2 {h : HP} {i : Nat} {ds : List (D × D)} (e : h[i]? = some (some (.dct ds))) : dcOf (.ref i) h = some ds := by
  show (match h[i]? with
    | some (some (.dct xs)) => some xs
    | _ => none) = _
  rw [e]
theorem op_at2 {h : HP} {i : Nat} {ds : List (D × D)} (e : h[i]? = some (some (.dct ds))) : opD (.ref i) h = some (i, ds) := by
  show (match h[i]? with
    | some (some (.dct xs)) => some (i, xs)
    | _ => none) = _
  rw [e]
theorem gS2_ok {a b : EM} {d : D} {ρ : Env'} {h : HP} {i : Nat} {ds : List (D × D)} {s : List Nat} (ha : a ρ h = .ok (.ref i) h) (hb : b ρ h = .ok (.str s) h) (e : h[i]? = some (some (.dct ds))) (hk : kindOk ds (.one (.str s)) = true) (l : ds.length < 100000) :
    gS2 a b d ρ h = .ok ρ (h.set i (some (.dct (putX ds (.str s) d (.one (.str s)))))) := by
  unfold gS2
  rw [ha]
  dsimp only
  rw [hb]
  dsimp only
  have : setAt2 (.ref i) (.str s) d h = some (h.set i (some (.dct (putX ds (.str s) d (.one (.str s)))))) := by
    unfold setAt2
    rw [op_at2 e]
    show (if kindOk ds (.one (.str s)) = true ∧ ds.length < 100000 then some _ else none) = _
    rw [if_pos ⟨hk, l⟩]
  rw [this]
theorem fSI_nv {k : Nat} {ds : List (D × D)} {h : HP} {i : Nat} (e : h[i]? = some (some (.dct ds))) (q : nvD k ds) (hk : k ≤ 8) : ∃ xs, fSI (.ref i) h = .ok (.lst xs) h ∧ toldB (.tup xs) = true ∧ xs.length ≤ k := by
  obtain ⟨xs, e1, e2, e3⟩ := nvD_sort q hk
  refine ⟨xs, ?_, e2, e3⟩
  unfold fSI
  rw [dc_at2 e]
  dsimp only
  cases hs : sortIt ds with
  | none => rw [hs] at e1; cases e1
  | some zs =>
    rw [hs] at e1
    dsimp only
    exact congrArg (fun d => R.ok d h) (Option.some.inj e1)
theorem rng_any {ra : EM} {ρ : Env'} {h : HP} {C : Int → HP → Prop} (w : Wp (ra ρ h) fun d h1 => ∃ i : Int, d = .int i ∧ 0 ≤ i ∧ i < 1000 ∧ C i h1) : Wp (iR (aC ra aN) ρ h) fun m h1 => ∃ i : Int, 0 ≤ i ∧ i < 1000 ∧ m = ⟨(List.range i.toNat).map fun k => D.int (0 + (k : Nat)), fun _ => True⟩ ∧ C i h1 := rng_wp w
theorem s_deed {n : Nat} (hn : 7 ≤ n) {j c : Nat} {h : HP} {nb tm : Int} (n1 : 1 ≤ nb) (n2 : nb ≤ 1000) (t1 : 0 ≤ tm) (t2 : tm ≤ 1000) (p : Pot j c h) (hc : c + 14 < 2 ^ 40) : Wp (runP P n 46 [.ref j, .int nb, .int tm] h) fun d h' => deedB d = true ∧ Pot j (c + 14) h' ∧ But j h h' := by
  obtain ⟨m, rfl, hm⟩ := succ_of hn
  rw [e__law_deed]
  have hj := p.lt
  refine runD_wp hj ?_
  show Wp (m__law_deed _ [some (.ref j), some (.int nb), some (.int tm), none, none, none, none, none] h) _
  unfold m__law_deed
  refine par_wp (C := fun u v h1 => ∃ i s, u = .int i ∧ 0 ≤ i ∧ v = .str s ∧ nameB (.str s) = true ∧ Pot j (c + 2) h1 ∧ But j h h1) ((aC2_wp (B := fun u v h1 => ∃ i s, u = .int i ∧ 0 ≤ i ∧ v = .str s ∧ nameB (.str s) = true ∧ Pot j (c + 2) h1 ∧ But j h h1) (tk_wp (n := m) (u := 10) (by omega) rfl rfl p (by omega) (by decide) (by decide)) ?_)) ?_
  · rintro u h1 ⟨i, rfl, i0, _, p1, b1⟩
    refine (of_wp (n := m) (xs := tabL) (by omega) rfl lst4 p1 (by omega) (by decide) (by decide) (pl_all (by decide))).imp ?_
    rintro d h2 ⟨hd, p2, b2⟩
    obtain ⟨nd, s, rfl⟩ := tabL_ok d hd
    exact ⟨i, s, rfl, i0, rfl, nd, p2, b1.trans b2⟩
  rintro u v h1 ⟨i, s, rfl, i0, rfl, nd, p1, b1⟩
  have done : ∀ (d : D) (h' : HP), deedB d = true → Pot j (c + 14) h' → ButL j h1 h' → ∃ d', Fl.ret d = .ret d' ∧ nn h.length d' = true ∧ Pot j (c + 14) h' ∧ ButL j h h' ∧ deedB d' = true := fun d h' hs hp hb => ⟨d, rfl, pl_nn _ _ (deed_pl hs), hp, b1.l.trans hb, hs⟩
  show Wp (sSq (sIf _ _ _) _ [some (.ref j), some (.int nb), some (.int tm), some (.int i), some (.str s), none, none, none] h1) _
  refine if_wp (c := decide (i < 5)) (tV_ok (e2_ok (eV_at rfl) eC_ok rfl)) ?_
  have lh : h1.length = h.length := b1.1
  have nj : h.length ≠ j := by omega
  by_cases z0 : i < 5
  · rw [if_pos (decide_eq_true z0)]
    have w : Wp (sSq (sAs (eD0 true) (gN 5)) (sSq (sFo (iR (aC (eCl (runP P m 36) 2 2 0 [0, 1] (aC (eV 0) (aC (eC (.int (3))) aN)) aN) aN)) (gN 6) (sSq (sAs (eCl (runP P m 43) 1 1 0 [0] (aC (eV 0) aN) aN) (gN 7))
  (sSq (sAs (e2 bIx2 (eV 7) (eC (.int (2)))) (gS2 (eV 5) (e2 bIx2 (eV 7) (eC (.int (0))))))
  sNx))) (sSq (sRe (eA fTup (aC (eC (.str [112,117,116])) (aC (eV 4) (aC (eA fTuple (aC (e1 fSI (eV 5)) aN)) aN))))) sNx))
  [some (.ref j), some (.int nb), some (.int tm), some (.int i), some (.str s), none, none, none] h1) fun f h' => ∃ d', f = .ret d' ∧ nn h.length d' = true ∧ Pot j (c + 14) h' ∧ ButL j h h' ∧ deedB d' = true := by
      have p0 : Pot j (c + 2) (h1 ++ [some (.dct [])]) := p1.at_ (List.getElem?_append_left p1.lt)
      refine wp_cons (ρ1 := [some (.ref j), some (.int nb), some (.int tm), some (.int i), some (.str s), some (.ref h.length), none, none]) (h1 := h1 ++ [some (.dct [])]) (sAs_ok (d := .ref h.length) (by rw [← lh]; rfl) rfl) ?_
      refine sFo_wp (rng_any (C := fun i h2 => i ≤ 2 ∧ Pot j (c + 3) h2 ∧ But j (h1 ++ [some (.dct [])]) h2) ((tk_wp (n := m) (u := 3) (by omega) rfl rfl p0 (by omega) (by decide) (by decide)).imp ?_)) ?_
      · rintro d h2 ⟨i', rfl, i0', i1, p1', b1'⟩
        exact ⟨i', rfl, by omega, by omega, by omega, p1', b1'⟩
      · rintro mm h2 ⟨i', i0', i1', rfl, i2, p2, b2⟩
        have hl : ((List.range i'.toNat).map fun k => D.int (0 + (k : Nat))).length = i'.toNat := by simp
        refine forM_inv (fun k ρ h' => ∃ x y ds, ρ = [some (.ref j), some (.int nb), some (.int tm), some (.int i), some (.str s), some (.ref h.length), x, y] ∧ nvD k ds ∧ h'[h.length]? = some (some (.dct ds)) ∧ h'.length = h.length + 1 ∧ Pot j (c + 3 + 3 * k) h' ∧ ButL j h1 h') _ (fun _ _ _ _ => trivial) i'.toNat _ 0 _ _ (by rw [hl]; omega) ?_ ?_ ?_
        · have e1 : h2[h.length]? = some (some (.dct [])) := by rw [but_at b2 nj, ← lh]; exact snoc_at
          exact ⟨none, none, [], rfl, ⟨Nat.le_refl _, fun _ z => absurd z (by simp), List.nodup_nil⟩, e1, by rw [b2.1]; simp [lh], p2.mono (by omega), ButL.app.trans b2.l⟩
        · rintro d _ k ρ h3 hk ⟨x, y, ds, rfl, x1, x2, x3, x4, x5⟩
          rw [w_gN, wp_ok]
          refine as_wp (call1_wp (eV_at rfl) (s_column (n := m) (by omega) x4 (by omega))) ?_
          rintro col h4 ⟨hcol, p4, b4⟩
          refine ⟨[some (.ref j), some (.int nb), some (.int tm), some (.int i), some (.str s), some (.ref h.length), some d, some col], h4, rfl, ?_⟩
          obtain ⟨s', t', c', ec, g1, g2, g3⟩ := colB_of hcol
          have y2 : h4[h.length]? = some (some (.dct ds)) := by rw [but_at b4 nj]; exact x2
          have ld : ds.length < 100000 := by have := x1.1; omega
          refine Wp.of (a := .nx [some (.ref j), some (.int nb), some (.int tm), some (.int i), some (.str s), some (.ref h.length), some d, some col]) (h := h4.set h.length (some (.dct (putX ds (.str s') c' (.one (.str s')))))) (blk1 (sAs_ok (d := c') (e2_ok (eV_at rfl) eC_ok (by rw [ec]; rfl)) (gS2_ok (eV_at rfl) (e2_ok (y := .int 0) (x := col) (eV_at rfl) eC_ok (by rw [ec]; rfl)) y2 (nvD_kind x1) ld))) ?_
          exact ⟨some d, some col, _, rfl, nvD_put x1 g1 (kd_some g3), at_set y2, by rw [List.length_set, b4.1]; exact x3, (p4.mono (by omega)).at_ (by rw [List.getElem?_set_ne nj]), (x5.trans b4.l).set (by omega)⟩
        · rintro ρ h3 ⟨x, y, ds, rfl, x1, x2, x3, x4, x5⟩
          rw [Nat.zero_add, hl] at x1 x4
          refine ⟨_, rfl, ?_⟩
          obtain ⟨xs, f1, f2, f3⟩ := fSI_nv x2 x1 (by omega)
          refine ret_wp (Wp.of (a := .tup [.str wPut, .str s, .tup xs]) (h := h3) (eA_ok (aC_ok (x := .str wPut) eC_ok (aC_ok (eV_at rfl) (aC_ok (x := .tup xs) (eA_ok (xs := [.lst xs]) (aC_ok (by rw [w_e1, eV_at (d := .ref h.length) rfl, w_ok, f1]) aN_ok) rfl) aN_ok))) (tup_ok (by simp))) ?_)
          exact done _ _ (mk_put nd f2) (x4.mono (by omega)) x5
    obtain ⟨f, h', e, d', rfl, q⟩ := w.ex
    exact Wp.of (seq_ret e) ⟨d', rfl, q⟩
  · rw [if_neg (by simp [z0])]
    show Wp (sSq (sIf _ _ _) _ [some (.ref j), some (.int nb), some (.int tm), some (.int i), some (.str s), none, none, none] h1) _
    refine if_wp (c := decide (i = 5)) (tV_ok (e2_ok (eV_at rfl) eC_ok eq_k)) ?_
    by_cases z1 : i = 5
    · rw [if_pos (decide_eq_true z1)]
      refine ret2_wp (tup2_wp (k := .str wTake) (e2r_wp (x := .int 1) eC_ok (int_wp ((tk_wp (n := m) (u := nb + 1) (by omega) rfl (e2_ok (x := .int nb) (y := .int 1) (eV_at rfl) eC_ok rfl) p1 (by omega) (by omega) (by omega)).imp ?_))))
      rintro d h2 ⟨i', rfl, q0, q1, p2, b2⟩
      refine ⟨⟨i', rfl⟩, ?_⟩
      refine done _ _ (mk_take (s := .int (1 + i')) ?_) (p2.mono (by omega)) b2.l
      show (decide _ && decide _) = true
      rw [decide_eq_true (by omega), decide_eq_true (by omega)]; rfl
    · rw [if_neg (by simp [z1])]
      show Wp (sSq (sIf _ _ _) _ [some (.ref j), some (.int nb), some (.int tm), some (.int i), some (.str s), none, none, none] h1) _
      refine if_wp (c := decide (i < 8)) (tV_ok (e2_ok (eV_at rfl) eC_ok rfl)) ?_
      by_cases z2 : i < 8
      · rw [if_pos (decide_eq_true z2)]
        refine ret2_wp (tup3_wp (k := .str wGrow) (eV_at rfl) ((call1_wp (eV_at rfl) (s_step (n := m) (by omega) p1 (by omega))).imp ?_))
        rintro d h2 ⟨hd, p2, b2⟩
        exact done _ _ (mk_grow nd hd) (p2.mono (by omega)) b2.l
      · rw [if_neg (by simp [z2])]
        show Wp (sSq (sRe _) _ [some (.ref j), some (.int nb), some (.int tm), some (.int i), some (.str s), none, none, none] h1) _
        refine ret_wp (tup2_wp (k := .str wClock) (max_wp (e2r_wp (x := .int (tm - 3)) (e2_ok (x := .int tm) (y := .int 3) (eV_at rfl) eC_ok w_subI) (int_wp ((tk_wp (n := m) (u := 5) (by omega) rfl rfl p1 (by omega) (by decide) (by decide)).imp ?_)))))
        rintro d h2 ⟨i', rfl, q0, q1, p2, b2⟩
        refine ⟨⟨i', rfl⟩, tm - 3 + i', rfl, ?_⟩
        refine done _ _ (mk_clock ?_) (p2.mono (by omega)) b2.l
        show (decide _ && decide _) = true
        rw [decide_eq_true (by split <;> omega), decide_eq_true (by split <;> omega)]; rfl
end Zk
end

/-! N23 -/
set_option exponentiation.threshold 9000
noncomputable section
namespace Zk
open PySem PySem.Spec L2 Zs
open PyProof.Rows hiding St
open Classical
section
variable {ρ : Env'} {h : HP}
theorem aCw {a : EM} {r : AM} {Q : List D → HP → Prop} (w : Wp (a ρ h) fun d h1 => Wp (r ρ h1) fun xs h2 => Q (d :: xs) h2) : Wp (aC a r ρ h) Q := by
  obtain ⟨d, h1, e, w1⟩ := w.ex
  obtain ⟨xs, h2, e2, q⟩ := w1.ex
  refine Wp.of (a := d :: xs) (h := h2) ?_ q
  rw [w_aC, e, w_ok, e2, w_ok]
theorem aNw {Q : List D → HP → Prop} (q : Q [] h) : Wp (aN ρ h) Q := q
theorem eAw {f : List D → HP → R D} {a : AM} {Q : D → HP → Prop} (w : Wp (a ρ h) fun xs h1 => Wp (f xs h1) Q) : Wp (eA f a ρ h) Q := by
  rw [w_eA]; exact wp_bnd.mpr w
theorem okw {a : EM} {d : D} {Q : D → HP → Prop} (e : a ρ h = .ok d h) (q : Q d h) : Wp (a ρ h) Q := Wp.of e q
theorem tupw {xs : List D} {Q : D → HP → Prop} (z : xs.length ≤ 100000) (q : Q (.tup xs) h) : Wp (fTup xs h) Q := Wp.of (tup_ok z) q
theorem eIfw {t : TM} {a b : EM} {C : Bool → HP → Prop} {Q : D → HP → Prop} (w : Wp (t ρ h) C) (k : ∀ c h1, C c h1 → Wp ((if c = true then a else b) ρ h1) Q) : Wp (eIf t a b ρ h) Q := by
  obtain ⟨c, h1, e, q⟩ := w.ex
  have := k c h1 q
  rw [w_eIf, e, w_ok]
  cases c
  · exact this
  · exact this
theorem appw {i L : Nat} {a : EM} {xs : List D} {Q : Fl → HP → Prop} (hv : eV i ρ h = .ok (.ref L) h) (hL : h[L]? = some (some (.lst xs))) (l : xs.length < 1000) (w : Wp (a ρ h) fun d h1 => h1[L]? = some (some (.lst xs)) ∧ Q (.nx ρ) (h1.set L (some (.lst (xs ++ [d]))))) :
    Wp (sEx (eMt isLstD mApp (eV i) (aC a aN)) ρ h) Q := by
  obtain ⟨d, h1, e, e1, q⟩ := w.ex
  obtain ⟨a1, _⟩ := app_at (h := h1) (i := L) (ys := xs) (y := d) e1 l
  obtain ⟨_, a2⟩ := app_at (h := h) (i := L) (ys := xs) (y := d) hL l
  refine Wp.of (a := .nx ρ) (h := h1.set L (some (.lst (xs ++ [d])))) ?_ q
  rw [w_sEx, w_eMt, hv, w_ok, a2, cond_true, w_aC, e, w_ok, w_aN, w_ok, w_ok, a1]
  rfl
end
def nds (a b : Int) : List (D × D) := [(.str [97], .int a), (.str [98], .int b)]
theorem nds_ix {h : HP} {i : Nat} {a b : Int} {s : List Nat} (e : h[i]? = some (some (.dct (nds a b)))) (hs : s = [97] ∨ s = [98]) : bIx2 (.ref i) (.str s) h = .ok (.int (if s = [97] then a else b)) h := by
  unfold bIx2
  rw [dc_at2 e]
  rcases hs with rfl | rfl <;> rfl
theorem nds_put {a b c : Int} {s : List Nat} (hs : s = [97] ∨ s = [98]) : putX (nds a b) (.str s) (.int c) (.one (.str s)) = nds (if s = [97] then c else a) (if s = [97] then b else c) := by
  rcases hs with rfl | rfl <;> rfl
theorem nds_kind {a b : Int} {s : List Nat} : kindOk (nds a b) (.one (.str s)) = true := rfl
end Zk
end

/-! N24 -/
set_option exponentiation.threshold 9000
noncomputable section
namespace Zk
open PySem PySem.Spec L2 Zs
open PyProof.Rows hiding St
open Classical
def l0 : D := .tup [.str [97], .int 1, .int 0, .tup [.str [103,114,111,119], .str [103,111,111,100,115], .tup [.str [110,101,119], .tup [.tup [.str [119,97,114,101], .str [119,111,114,100], .str [110,111,110,101]], .tup [.str [112,114,105,99,101], .str [105,110,116], .int 0]]]]]
theorem nab {s : List Nat} (h : s = [97] ∨ s = [98]) : nameB (.str s) = true := by rcases h with rfl | rfl <;> decide
theorem abL {d : D} (h : d ∈ [D.str [97], D.str [98]]) : ∃ s, d = .str s ∧ (s = [97] ∨ s = [98]) := by
  simp only [List.mem_cons, List.not_mem_nil, or_false] at h
  rcases h with rfl | rfl <;> exact ⟨_, rfl, by simp⟩
theorem numL {d : D} (h : d ∈ [D.int 0, D.int 0, D.int 0, D.int 0, D.int 1, D.int 2, D.int 5]) : ∃ i : Int, d = .int i ∧ 0 ≤ i ∧ i ≤ 5 := by
  simp only [List.mem_cons, List.not_mem_nil, or_false] at h
  rcases h with rfl | rfl | rfl | rfl | rfl | rfl | rfl <;> exact ⟨_, rfl, by decide, by decide⟩
theorem bet_ok {a b i : Int} (h1 : a ≤ i) (h2 : i ≤ b) : betw a b (.int i) = true := by
  show (decide _ && decide _) = true
  rw [decide_eq_true h1, decide_eq_true h2]; rfl
theorem col_mk {s t : List Nat} {d : D} (h1 : nameB (.str s) = true) (h2 : kindB (.str t) = true) (h3 : kV (kd d) = .str t) : colB (.tup [.str s, .str t, d]) = true := by
  show (nameB (.str s) && (kindB (.str t) && kdIs d (.str t))) = true
  rw [h1, h2]
  exact decide_eq_true h3
theorem l0_ok : letB l0 = true := mk_let (nab (by simp)) (bet_ok (by decide) (by decide)) (bet_ok (by decide) (by decide)) (mk_grow (by decide) (mk_new (shpB_mk (by decide) (by decide) (by rw [List.all_cons, List.all_cons, col_mk (by decide) (by decide) (show kV (kd (D.str [110,111,110,101])) = _ by rw [show kd (D.str [110,111,110,101]) = some false by decide]; rfl), col_mk (by decide) (by decide) (show kV (kd (D.int 0)) = _ by rw [show kd (D.int 0) = some true by decide]; rfl)]; rfl) (by decide))))
theorem fInt_i {i : Int} {h : HP} : fInt2 [.int i] h = .ok (.int i) h := rfl
theorem s_letters {n : Nat} (hn : 8 ≤ n) {j c : Nat} {h : HP} {mn : Int} (m0 : 0 ≤ mn) (m1 : mn ≤ 8) (p : Pot j c h) (hc : c + 155 < 2 ^ 40) : Wp (runP P n 47 [.ref j, .int mn] h) fun d h' => (∃ xs, d = .tup xs ∧ xs ≠ [] ∧ xs.length ≤ 10 ∧ ∀ x ∈ xs, letB x = true) ∧ Pot j (c + 155) h' ∧ But j h h' := by
  obtain ⟨m, rfl, hm⟩ := succ_of hn
  rw [e__law_letters]
  have hj := p.lt
  refine runD_wp hj ?_
  show Wp (m__law_letters _ [some (.ref j), some (.int mn), none, none, none, none, none, none] h) _
  unfold m__law_letters
  have nj : h.length ≠ j := by omega
  have nj2 : h.length + 1 ≠ j := by omega
  have p0 : Pot j c (h ++ [some (.lst [l0])]) := p.at_ (List.getElem?_append_left hj)
  refine wp_cons (ρ1 := [some (.ref j), some (.int mn), some (.ref h.length), none, none, none, none, none]) (h1 := h ++ [some (.lst [l0])]) (sAs_ok (eA_ok (aC_ok (x := l0) (eA_ok (aC_ok eC_ok (aC_ok eC_ok (aC_ok eC_ok (aC_ok (eA_ok (aC_ok eC_ok (aC_ok eC_ok (aC_ok (eA_ok (aC_ok eC_ok (aC_ok (eA_ok (aC_ok (eA_ok (aC_ok eC_ok (aC_ok eC_ok (aC_ok eC_ok aN_ok))) (tup_ok (by simp))) (aC_ok (eA_ok (aC_ok eC_ok (aC_ok eC_ok (aC_ok eC_ok aN_ok))) (tup_ok (by simp))) aN_ok)) (tup_ok (by simp))) aN_ok)) (tup_ok (by simp))) aN_ok))) (tup_ok (by simp))) aN_ok)))) (tup_ok (by simp))) aN_ok) (fLst_o (by simp))) rfl) ?_
  have e0 : (h ++ [some (O.lst [l0])])[h.length]? = some (some (.lst [l0])) := snoc_at
  refine wp_consW (appw (L := h.length) (xs := [l0]) (eV_at rfl) e0 (by simp) ?_)
  refine eAw (aCw (okw (d := .str [98]) eC_ok (aCw (okw (d := .int 1) eC_ok (aCw (int_wp ((tk_wp (n := m) (u := 2) (by omega) rfl rfl p0 (by omega) (by decide) (by decide)).imp ?_)))))))
  rintro d1 h1 ⟨i, rfl, i0, i1, p1, b1⟩
  refine ⟨⟨i, rfl⟩, ?_⟩
  refine aCw (eAw (aCw (okw (d := .str wGrow) eC_ok (aCw (okw (d := .str [115,104,111,112,115]) eC_ok (aCw (eAw (aCw (okw (d := .str wNew) eC_ok (aCw ((call1_wp (eV_at rfl) (s_shape (n := m) (by omega) p1 (by omega))).imp ?_)))))))))))
  rintro d2 h2 ⟨hd2, p2, b2⟩
  refine aNw (tupw (by simp) (aNw (tupw (by simp) (aNw (tupw (by simp) ?_)))))
  have g2 : h2[h.length]? = some (some (.lst [l0])) := by rw [but_at b2 nj, but_at b1 nj]; exact e0
  refine ⟨g2, _, rfl, ?_⟩
  have lb : letB (.tup [.str [98], .int 1, .int i, .tup [.str wGrow, .str [115,104,111,112,115], .tup [.str wNew, d2]]]) = true := mk_let (nab (by simp)) (bet_ok (by decide) (by decide)) (bet_ok i0 (by omega)) (mk_grow (by decide) (mk_new hd2))
  generalize hl2 : D.tup [.str [98], .int 1, .int i, .tup [.str wGrow, .str [115,104,111,112,115], .tup [.str wNew, d2]]] = l1 at lb
  have el1 : h2.set h.length (some (.lst ([l0] ++ [l1]))) = h2.set h.length (some (.lst [l0, l1])) := rfl
  rw [show (h2.set h.length (some (O.lst ([l0] ++ [l1])))) = _ from el1]
  generalize hh3 : h2.set h.length (some (O.lst [l0, l1])) = h3
  have l3 : h3.length = h.length + 1 := by rw [← hh3, List.length_set, b2.1, b1.1]; simp
  have g3 : h3[h.length]? = some (some (.lst [l0, l1])) := by rw [← hh3]; exact at_set g2
  have p3 : Pot j (c + 11) h3 := by rw [← hh3]; exact (p2.mono (by omega)).at_ (by rw [List.getElem?_set_ne nj])
  have b3 : ButL j h h3 := by rw [← hh3]; exact ((ButL.app.trans b1.l).trans b2.l).set (Nat.le_refl _)
  have p4 : Pot j (c + 11) (h3 ++ [some (.dct (nds 1 1))]) := p3.at_ (List.getElem?_append_left p3.lt)
  refine par_wp (C := fun u v h4 => u = .ref (h.length + 1) ∧ v = .int 1 ∧ h4 = h3 ++ [some (.dct (nds 1 1))]) (Wp.of (a := [.ref (h.length + 1), .int 1]) (h := h3 ++ [some (.dct (nds 1 1))]) (by rw [← l3]; rfl) ⟨_, _, rfl, rfl, rfl, rfl⟩) ?_
  rintro u v h4 ⟨rfl, rfl, rfl⟩
  show Wp (sSq (sFo _ _ _) _ [some (.ref j), some (.int mn), some (.ref h.length), some (.ref (h.length + 1)), some (.int 1), none, none, none] _) _
  refine sFo_wp (rng_any (C := fun i h5 => i = mn ∧ h5 = h3 ++ [some (.dct (nds 1 1))]) (okw (eV_at (d := .int mn) rfl) ⟨mn, rfl, m0, by omega, rfl, rfl⟩)) ?_
  rintro mm h5 ⟨i', _, _, rfl, rfl, rfl⟩
  have hl : ((List.range i'.toNat).map fun k => D.int (0 + (k : Nat))).length = i'.toNat := by simp
  refine forM_inv (fun k ρ h' => ∃ (t a b : Int) (x y z : Option D) (xs : List D), ρ = [some (.ref j), some (.int i'), some (.ref h.length), some (.ref (h.length + 1)), some (.int t), x, y, z] ∧ 1 ≤ t ∧ t ≤ 1 + 2 * (k : Int) ∧ 1 ≤ a ∧ a ≤ 1 + 2 * (k : Int) ∧ 1 ≤ b ∧ b ≤ 1 + 2 * (k : Int) ∧ xs.length = k + 2 ∧ (∀ x ∈ xs, letB x = true) ∧ h'[h.length]? = some (some (.lst xs)) ∧ h'[h.length + 1]? = some (some (.dct (nds a b))) ∧ h.length + 2 ≤ h'.length ∧ Pot j (c + 11 + 18 * k) h' ∧ ButL j h h') _ (fun _ _ _ _ => trivial) i'.toNat _ 0 _ _ (by rw [hl]; omega) ?_ ?_ ?_
  · refine ⟨1, 1, 1, none, none, none, [l0, l1], rfl, by decide, by decide, by decide, by decide, by decide, by decide, rfl, ?_, by rw [List.getElem?_append_left (by omega)]; exact g3, by rw [← l3]; exact snoc_at, by simp [l3], p4.mono (by omega), b3.trans ButL.app⟩
    intro x hx
    simp only [List.mem_cons, List.not_mem_nil, or_false] at hx
    rcases hx with rfl | rfl
    · exact l0_ok
    · exact lb
  · rintro d _ k ρ h6 hk ⟨t, a, b, x, y, z, xs, rfl, q1, q2, q3, q4, q5, q6, q7, q8, q9, q10, q11, q12, q13⟩
    rw [w_gN, wp_ok]
    show Wp (sSq (sAs _ _) _ [some (.ref j), some (.int i'), some (.ref h.length), some (.ref (h.length + 1)), some (.int t), some d, y, z] h6) _
    have hk8 : (k : Int) < 8 := by omega
    refine as_wp (of_wp (n := m) (xs := [.str [97], .str [98]]) (by omega) rfl (lst_ok (aC_ok eC_ok (aC_ok eC_ok aN_ok)) (by simp)) q12 (by omega) (by decide) (by decide) (pl_all (by decide))) ?_
    rintro ds h7 ⟨hds, p7, b7⟩
    obtain ⟨s, rfl, hs⟩ := abL hds
    refine ⟨[some (.ref j), some (.int i'), some (.ref h.length), some (.ref (h.length + 1)), some (.int t), some d, some (.str s), z], h7, rfl, ?_⟩
    have f1 : h7[h.length]? = some (some (.lst xs)) := by rw [but_at b7 nj]; exact q9
    have f2 : h7[h.length + 1]? = some (some (.dct (nds a b))) := by rw [but_at b7 nj2]; exact q10
    -- the number
    have w1 : Wp (e2 (bAdd false) (e2 bIx2 (eV 3) (eV 6)) (eIf (tV (e2 bEq2 (eCl (runP P m 36) 2 2 0 [0, 1] (aC (eV 0) (aC (eC (.int (12))) aN)) aN) (eC (.int (0))))) (eC (.int (2))) (eC (.int (1)))) [some (.ref j), some (.int i'), some (.ref h.length), some (.ref (h.length + 1)), some (.int t), some d, some (.str s), z] h7) fun d h8 => ∃ e : Int, d = .int ((if s = [97] then a else b) + e) ∧ 1 ≤ e ∧ e ≤ 2 ∧ Pot j (c + 11 + 18 * k + 2) h8 ∧ But j h7 h8 := by
      refine e2r_wp (e2_ok (eV_at rfl) (eV_at rfl) (nds_ix f2 hs)) (eIfw (cmp_wp (n := m) (u := 12) (by omega) rfl rfl p7 (by omega) (by decide) (by decide)) ?_)
      rintro cc h8 ⟨p8, b8⟩
      cases cc
      · exact okw (d := .int 1) rfl ⟨1, rfl, by decide, by decide, p8, b8⟩
      · exact okw (d := .int 2) rfl ⟨2, rfl, by decide, by decide, p8, b8⟩
    refine as_wp w1 ?_
    rintro _ h8 ⟨e, rfl, e1, e2', p8, b8⟩
    generalize hnew : (if s = [97] then a else b) + e = nw
    have hnw : 1 ≤ nw ∧ nw ≤ 3 + 2 * (k : Int) := by rw [← hnew]; split <;> omega
    have f3 : h8[h.length + 1]? = some (some (.dct (nds a b))) := by rw [but_at b8 nj2]; exact f2
    refine ⟨[some (.ref j), some (.int i'), some (.ref h.length), some (.ref (h.length + 1)), some (.int t), some d, some (.str s), z], _, gS2_ok (eV_at rfl) (eV_at rfl) f3 nds_kind (by simp [nds]), ?_⟩
    rw [nds_put hs]
    generalize ha' : (if s = [97] then nw else a) = a'
    generalize hb' : (if s = [97] then b else nw) = b'
    have hnn : (if s = [97] then a' else b') = nw := by
      rw [← ha', ← hb']; rcases hs with rfl | rfl <;> simp
    have ka : 1 ≤ a' ∧ a' ≤ 3 + 2 * (k : Int) := by rw [← ha']; split <;> omega
    have kb : 1 ≤ b' ∧ b' ≤ 3 + 2 * (k : Int) := by rw [← hb']; split <;> omega
    generalize hh9 : h8.set (h.length + 1) (some (O.dct (nds a' b'))) = h9
    have f4 : h9[h.length]? = some (some (.lst xs)) := by rw [← hh9, List.getElem?_set_ne (by omega), but_at b8 nj]; exact f1
    have f5 : h9[h.length + 1]? = some (some (.dct (nds a' b'))) := by rw [← hh9]; exact at_set f3
    have f6 : h.length + 2 ≤ h9.length := by rw [← hh9, List.length_set, b8.1, b7.1]; exact q11
    have p9 : Pot j (c + 11 + 18 * k + 2) h9 := by rw [← hh9]; exact p8.at_ (by rw [List.getElem?_set_ne nj2])
    have b9 : ButL j h h9 := by rw [← hh9]; exact (q13.trans (b7.l.trans b8.l)).set (by omega)
    -- the time
    refine as_wp (C := fun dd h10 => ∃ e : Int, dd = .int (t + e) ∧ 0 ≤ e ∧ e ≤ 2 ∧ Pot j (c + 11 + 18 * k + 3) h10 ∧ But j h9 h10) (e2r_wp (x := .int t) (eV_at rfl) (int_wp ((tk_wp (n := m) (u := 3) (by omega) rfl rfl p9 (by omega) (by decide) (by decide)).imp ?_))) ?_
    · rintro dd h10 ⟨i3, rfl, i4, i5, p10, b10⟩
      exact ⟨⟨_, rfl⟩, i3, rfl, i4, by omega, p10, b10⟩
    rintro _ h10 ⟨e3, rfl, e4, e5, p10, b10⟩
    refine ⟨[some (.ref j), some (.int i'), some (.ref h.length), some (.ref (h.length + 1)), some (.int (t + e3)), some d, some (.str s), z], h10, rfl, ?_⟩
    have f7 : h10[h.length]? = some (some (.lst xs)) := by rw [but_at b10 nj]; exact f4
    have f8 : h10[h.length + 1]? = some (some (.dct (nds a' b'))) := by rw [but_at b10 nj2]; exact f5
    -- its own
    refine as_wp (C := fun dd h11 => ∃ ti : Int, dd = .int ti ∧ 0 ≤ ti ∧ ti ≤ 3 + 2 * (k : Int) ∧ Pot j (c + 11 + 18 * k + 4) h11 ∧ But j h10 h11) (max_wp (e2r_wp (x := .int (t + e3)) (eV_at rfl) (int_wp ((of_wp (n := m) (xs := [.int 0, .int 0, .int 0, .int 0, .int 1, .int 2, .int 5]) (by omega) rfl (lst_ok (aC_ok eC_ok (aC_ok eC_ok (aC_ok eC_ok (aC_ok eC_ok (aC_ok eC_ok (aC_ok eC_ok (aC_ok eC_ok aN_ok))))))) (by simp)) p10 (by omega) (by decide) (by decide) (pl_all (by decide))).imp ?_)))) ?_
    · rintro dd h11 ⟨hdd, p11, b11⟩
      obtain ⟨i6, rfl, i7, i8⟩ := numL hdd
      refine ⟨⟨_, rfl⟩, ?_⟩
      rw [w_subI]
      refine ⟨_, rfl, _, rfl, by split <;> omega, by split <;> omega, p11, b11⟩
    rintro _ h11 ⟨ti, rfl, ti0, ti1, p11, b11⟩
    refine ⟨[some (.ref j), some (.int i'), some (.ref h.length), some (.ref (h.length + 1)), some (.int (t + e3)), some d, some (.str s), some (.int ti)], h11, rfl, ?_⟩
    have f9 : h11[h.length]? = some (some (.lst xs)) := by rw [but_at b11 nj]; exact f7
    have f10 : h11[h.length + 1]? = some (some (.dct (nds a' b'))) := by rw [but_at b11 nj2]; exact f8
    have ixn : bIx2 (.ref (h.length + 1)) (.str s) h11 = .ok (.int nw) h11 := by rw [nds_ix f10 hs, hnn]
    refine (show Wp (sSq (sEx _) sNx _ h11) _ from wp_consW (appw (L := h.length) (xs := xs) (eV_at rfl) f9 (by omega) ?_))
    refine eAw (aCw (okw (eV_at (d := .str s) rfl) (aCw (okw (e2_ok (eV_at (d := .ref (h.length + 1)) rfl) (eV_at (d := .str s) rfl) ixn) (aCw (okw (eV_at (d := .int ti) rfl) (aCw ((call3_wp (eV_at rfl) (e2_ok (eV_at (d := .ref (h.length + 1)) rfl) (eV_at (d := .str s) rfl) ixn) (eV_at (d := .int ti) rfl) (s_deed (n := m) (nb := nw) (tm := ti) (by omega) (by omega) (by omega) ti0 (by omega) p11 (by omega))).imp ?_)))))))) 
    rintro dd h12 ⟨hdd, p12, b12⟩
    refine aNw (tupw (by simp) ?_)
    have f11 : h12[h.length]? = some (some (.lst xs)) := by rw [but_at b12 nj]; exact f9
    have f12 : h12[h.length + 1]? = some (some (.dct (nds a' b'))) := by rw [but_at b12 nj2]; exact f10
    refine ⟨f11, _, rfl, ?_⟩
    show Wp (R.ok (Fl.nx _) _) _
    rw [wp_ok]
    refine ⟨t + e3, a', b', some d, some (.str s), some (.int ti), _, rfl, by omega, by push_cast; omega, ka.1, by push_cast; omega, kb.1, by push_cast; omega, by simp [q7], ?_, at_set f11, by rw [List.getElem?_set_ne (by omega)]; exact f12, ?_, ?_, ?_⟩
    · intro x hx
      rcases List.mem_append.mp hx with hx | hx
      · exact q8 x hx
      · rw [List.mem_singleton] at hx
        subst hx
        exact mk_let (nab hs) (bet_ok (by omega) (by omega)) (bet_ok ti0 (by omega)) hdd
    · rw [List.length_set, b12.1, b11.1, b10.1]; exact f6
    · exact (p12.mono (by omega)).at_ (by rw [List.getElem?_set_ne nj])
    · exact ((b9.trans (b10.l.trans b11.l)).trans b12.l).set (Nat.le_refl _)
  · rintro ρ h6 ⟨t, a, b, x, y, z, xs, rfl, q1, q2, q3, q4, q5, q6, q7, q8, q9, q10, q11, q12, q13⟩
    rw [Nat.zero_add, hl] at q7 q12
    refine ⟨_, rfl, ?_⟩
    have hx : pl (.tup xs) = true := plL_mk (by omega) fun x hx => let_pl (q8 x hx)
    refine ret_wp (Wp.of (a := .tup xs) (h := h6) (eA_ok (xs := [.ref h.length]) (aC_ok (eV_at rfl) aN_ok) ?_) ⟨_, rfl, pl_nn _ _ hx, q12.mono (by omega), q13, xs, rfl, ?_, by omega, q8⟩)
    · show (match lrOf (.ref h.length) h6 with
        | some ys => R.ok (D.tup ys) h6
        | none => .bad) = _
      rw [lr_at2 q9]
    · rintro rfl
      simp at q7
end Zk
end

/-! N25 -/
set_option exponentiation.threshold 9000
noncomputable section
namespace Zk
open PySem PySem.Spec L2 Zs
open PyProof.Rows hiding St
open Classical
/-! ### the values that letters are made of -/
mutual
def tl : D → Bool
  | .int i => decide (i.natAbs < 10 ^ 13)
  | .str s => decide (s.length ≤ 16) && s.all (fun c => decide (c < 128))
  | .tup xs => decide (xs.length ≤ 8) && tlL xs
  | _ => false
def tlL : List D → Bool
  | [] => true
  | x :: r => tl x && tlL r
end
theorem tlL_all : ∀ {xs : List D}, tlL xs = true ↔ ∀ x ∈ xs, tl x = true
  | [] => ⟨fun _ x hx => absurd hx (by simp), fun _ => rfl⟩
  | x :: r => by
    show (tl x && tlL r) = true ↔ _
    rw [Bool.and_eq_true, tlL_all (xs := r), List.forall_mem_cons]
theorem sdL_all : ∀ {xs : List D}, sdL xs = true ↔ ∀ x ∈ xs, sd x = true
  | [] => ⟨fun _ x hx => absurd hx (by simp), fun _ => rfl⟩
  | x :: r => by
    show (sd x && sdL r) = true ↔ _
    rw [Bool.and_eq_true, sdL_all (xs := r), List.forall_mem_cons]
theorem tl_tup {xs : List D} (h : tl (.tup xs) = true) : xs.length ≤ 8 ∧ ∀ x ∈ xs, tl x = true := by
  have h : (decide (xs.length ≤ 8) && tlL xs) = true := h
  rw [Bool.and_eq_true, decide_eq_true_eq] at h
  exact ⟨h.1, tlL_all.mp h.2⟩
theorem tl_str {s : List Nat} (h : tl (.str s) = true) : s.length ≤ 16 ∧ ∀ c ∈ s, c < 128 := by
  have h : (decide (s.length ≤ 16) && s.all (fun c => decide (c < 128))) = true := h
  rw [Bool.and_eq_true, decide_eq_true_eq] at h
  exact ⟨h.1, fun c hc => of_decide_eq_true (List.all_eq_true.mp h.2 c hc)⟩
theorem dL_le {xs : List D} {k : Nat} : depL xs ≤ k ↔ ∀ x ∈ xs, dep x ≤ k := by
  induction xs with
  | nil => simp [depL]
  | cons x r ih =>
    show max (dep x) (depL r) ≤ k ↔ _
    rw [Nat.max_le, ih, List.forall_mem_cons]
theorem wL_le {xs : List D} {B : Nat} (h : ∀ x ∈ xs, wd x ≤ B) : wdL xs ≤ xs.length * (B + 2) := by
  induction xs with
  | nil => simp [wdL]
  | cons x r ih =>
    show wd x + 2 + wdL r ≤ (r.length + 1) * (B + 2)
    have h1 := h x List.mem_cons_self
    have h2 := ih fun y hy => h y (List.mem_cons_of_mem _ hy)
    rw [Nat.add_mul, Nat.one_mul]; omega
/-- a value of letters, of depth k, of which repr shows at most B signs -/
def T (k B : Nat) (d : D) : Prop := tl d = true ∧ dep d ≤ k ∧ wd d ≤ B
theorem T.mono {k B k' B' : Nat} {d : D} (h : T k B d) (h1 : k ≤ k') (h2 : B ≤ B') : T k' B' d := ⟨h.1, by have := h.2.1; omega, by have := h.2.2; omega⟩
theorem T_str {s : List Nat} (h : gw s) : T 0 200 (.str s) := ⟨by
  show (decide (s.length ≤ 16) && s.all (fun c => decide (c < 128))) = true
  rw [decide_eq_true h.1, Bool.true_and, List.all_eq_true]
  exact fun c hc => decide_eq_true (h.2 c hc).2, Nat.le_refl _, by
  show 10 * s.length + 2 ≤ 200
  have := h.1; omega⟩
theorem T_int {i : Int} (h : i.natAbs ≤ 1000000000000) : T 0 200 (.int i) := ⟨decide_eq_true (Nat.lt_of_le_of_lt h (by decide)), Nat.le_refl _, by show 40 ≤ 200; omega⟩
theorem T_tup {xs : List D} {k B : Nat} (l : xs.length ≤ 8) (h : ∀ x ∈ xs, T k B x) : T (k + 1) (3 + 8 * (B + 2)) (.tup xs) := ⟨by
  show (decide (xs.length ≤ 8) && tlL xs) = true
  rw [decide_eq_true l, tlL_all.mpr fun x hx => (h x hx).1]; rfl, by
  show depL xs + 1 ≤ k + 1
  have := dL_le.mpr fun x hx => (h x hx).2.1
  omega, by
  show 3 + wdL xs ≤ 3 + 8 * (B + 2)
  have h1 := wL_le fun x hx => (h x hx).2.2
  have h2 := Nat.mul_le_mul_right (B + 2) l
  omega⟩
theorem T_dep {xs : List D} {k : Nat} (h : ∀ x ∈ xs, dep x ≤ k) : dep (.tup xs) ≤ k + 1 := by
  show depL xs + 1 ≤ k + 1
  have := dL_le.mpr h
  omega
theorem T_tl {xs : List D} (l : xs.length ≤ 8) (h : ∀ x ∈ xs, tl x = true) : tl (.tup xs) = true := by
  show (decide (xs.length ≤ 8) && tlL xs) = true
  rw [decide_eq_true l, tlL_all.mpr h]; rfl
theorem mem2 {P : D → Prop} {a b : D} (ha : P a) (hb : P b) : ∀ x ∈ [a, b], P x := fun x hx => by
  simp at hx
  rcases hx with rfl | rfl
  · exact ha
  · exact hb
theorem mem3 {P : D → Prop} {a b c : D} (ha : P a) (hb : P b) (hc : P c) : ∀ x ∈ [a, b, c], P x := fun x hx => by
  rcases List.mem_cons.mp hx with rfl | hx
  · exact ha
  · exact mem2 hb hc x hx
theorem mem4 {P : D → Prop} {a b c d : D} (ha : P a) (hb : P b) (hc : P c) (hd : P d) : ∀ x ∈ [a, b, c, d], P x := fun x hx => by
  rcases List.mem_cons.mp hx with rfl | hx
  · exact ha
  · exact mem3 hb hc hd x hx
theorem T_t2 {a b : D} {k A B : Nat} (ha : T k A a) (hb : T k B b) : T (k + 1) (A + B + 7) (.tup [a, b]) := ⟨T_tl (by simp) (mem2 ha.1 hb.1), T_dep (mem2 ha.2.1 hb.2.1), by
  show 3 + (wd a + 2 + (wd b + 2 + 0)) ≤ _
  have h1 := ha.2.2; have h2 := hb.2.2; omega⟩
theorem T_t3 {a b c : D} {k A B C : Nat} (ha : T k A a) (hb : T k B b) (hc : T k C c) : T (k + 1) (A + B + C + 9) (.tup [a, b, c]) := ⟨T_tl (by simp) (mem3 ha.1 hb.1 hc.1), T_dep (mem3 ha.2.1 hb.2.1 hc.2.1), by
  show 3 + (wd a + 2 + (wd b + 2 + (wd c + 2 + 0))) ≤ _
  have h1 := ha.2.2; have h2 := hb.2.2; have h3 := hc.2.2; omega⟩
theorem T_t4 {a b c d : D} {k A B C E : Nat} (ha : T k A a) (hb : T k B b) (hc : T k C c) (hd : T k E d) : T (k + 1) (A + B + C + E + 11) (.tup [a, b, c, d]) := ⟨T_tl (by simp) (mem4 ha.1 hb.1 hc.1 hd.1), T_dep (mem4 ha.2.1 hb.2.1 hc.2.1 hd.2.1), by
  show 3 + (wd a + 2 + (wd b + 2 + (wd c + 2 + (wd d + 2 + 0)))) ≤ _
  have h1 := ha.2.2; have h2 := hb.2.2; have h3 := hc.2.2; have h4 := hd.2.2; omega⟩
theorem T_name {s : List Nat} (h : nameB (.str s) = true) : T 0 200 (.str s) := T_str (name_gw h)
theorem T_kd {d : D} (h : (kd d).isSome = true) : T 0 200 d := by
  rcases kd_of h with ⟨i, rfl, h1, h2⟩ | ⟨s, rfl, hs⟩
  · exact T_int (by omega)
  · exact T_str (signs_gw hs (by decide))
theorem T_w {s : List Nat} (h : s.length ≤ 16) (c : ∀ c ∈ s, c < 128) : T 0 200 (.str s) := ⟨by
  show (decide (s.length ≤ 16) && s.all (fun c => decide (c < 128))) = true
  rw [decide_eq_true h, Bool.true_and, List.all_eq_true]
  exact fun x hx => decide_eq_true (c x hx), Nat.le_refl _, by
  show 10 * s.length + 2 ≤ 200
  omega⟩
theorem T_col {d : D} (h : colB d = true) : T 1 609 d := by
  obtain ⟨s, t, c, rfl, h1, h2, h3⟩ := colB_of h
  refine T_t3 (A := 200) (B := 200) (C := 200) (T_name h1) ?_ (T_kd (kd_some h3))
  rcases h2 with rfl | rfl
  · exact T_w (by decide) (by decide)
  · exact T_w (by decide) (by decide)
theorem T_nv {d : D} (h : nvB d = true) : T 1 407 d := by
  obtain ⟨a, b, rfl, ha, hb⟩ := nvB_of h
  exact T_t2 (T_name ha) (T_kd hb)
theorem T_shp {d : D} (h : shpB d = true) : T 2 4891 d := by
  cases d <;> first | (cases h; done) | skip
  obtain ⟨h1, h2, h3, _⟩ := shpB_of h
  exact T_tup h2 fun x hx => T_col (List.all_eq_true.mp h3 x hx)
theorem T_step {d : D} (h : stepB d = true) : T 3 5098 d := by
  rcases stepB_of h with ⟨xs, rfl, hs⟩ | ⟨a, rfl, ha⟩ | ⟨s, rfl, hs⟩ | ⟨s, t, rfl, hs, ht⟩ | ⟨s, b, rfl, hs, hb⟩
  · exact T_t2 ((T_w (s := wNew) (by decide) (by decide)).mono (by omega) (Nat.le_refl _)) (T_shp hs)
  · exact (T_t2 ((T_w (s := wAdd) (by decide) (by decide)).mono (k' := 1) (by omega) (Nat.le_refl _)) (T_col ha)).mono (by omega) (by omega)
  · exact (T_t2 (T_w (s := wDrop) (by decide) (by decide)) (T_name hs)).mono (by omega) (by omega)
  · exact (T_t3 (T_w (s := wName) (by decide) (by decide)) (T_name hs) (T_name ht)).mono (by omega) (by omega)
  · exact (T_t3 (T_w (s := wFirst) (by decide) (by decide)) (T_name hs) (T_kd hb)).mono (by omega) (by omega)
theorem T_deed {d : D} (h : deedB d = true) : T 4 5507 d := by
  rcases deedB_of h with ⟨s, xs, rfl, hs, z1, z3, _⟩ | ⟨i, rfl, i1, i2⟩ | ⟨s, st, rfl, hs, ht⟩ | ⟨i, rfl, i1, i2⟩
  · exact (T_t3 (k := 2) ((T_w (s := wPut) (by decide) (by decide)).mono (by omega) (Nat.le_refl _)) ((T_name hs).mono (by omega) (Nat.le_refl _)) (T_tup z1 fun x hx => T_nv (List.all_eq_true.mp z3 x hx))).mono (by omega) (by omega)
  · exact (T_t2 (T_w (s := wTake) (by decide) (by decide)) (T_int (by omega))).mono (by omega) (by omega)
  · exact T_t3 ((T_w (s := wGrow) (by decide) (by decide)).mono (by omega) (Nat.le_refl _)) ((T_name hs).mono (by omega) (Nat.le_refl _)) (T_step ht)
  · exact (T_t2 (T_w (s := wClock) (by decide) (by decide)) (T_int (by omega))).mono (by omega) (by omega)
theorem T_let {d : D} (h : letB d = true) : T 5 6118 d := by
  obtain ⟨s, k, t, e, rfl, hs, n1, n2, t1, t2, hd⟩ := letB_of h
  exact T_t4 ((T_name hs).mono (by omega) (Nat.le_refl _)) ((T_int (by omega)).mono (by omega) (Nat.le_refl _)) ((T_int (by omega)).mono (by omega) (Nat.le_refl _)) (T_deed hd)
mutual
theorem tl_sd : ∀ d, tl d = true → sd d = true
  | .int i, h => decide_eq_true (Nat.lt_trans (of_decide_eq_true h) (by decide))
  | .str s, h => List.all_eq_true.mpr fun c hc => decide_eq_true (by have := (tl_str h).2 c hc; omega)
  | .tup xs, h => tl_sdL xs (an h).2
  | .non, h => by cases h
  | .bl _, h => by cases h
  | .lst _, h => by cases h
  | .kt _, h => by cases h
  | .scr _, h => by cases h
  | .dct _, h => by cases h
  | .ref _, h => by cases h
  | .ty _, h => by cases h
  | .cls _, h => by cases h
  | .exc _ _, h => by cases h
  | .fn _ _, h => by cases h
theorem tl_sdL : ∀ xs, tlL xs = true → sdL xs = true
  | [], _ => rfl
  | x :: r, h => by
    show (sd x && sdL r) = true
    rw [tl_sd x (an h).1, tl_sdL r (an h).2]; rfl
end
mutual
theorem tl_pl : ∀ d, tl d = true → pl d = true
  | .int i, h => rfl
  | .str s, h => pl_mk (by have := (tl_str h).1; omega) fun c hc => by have := (tl_str h).2 c hc; omega
  | .tup xs, h => by
    show (decide (xs.length ≤ 1000) && plL xs) = true
    rw [decide_eq_true (by have := (tl_tup h).1; omega), tl_plL xs (an h).2]; rfl
  | .non, h => by cases h
  | .bl _, h => by cases h
  | .lst _, h => by cases h
  | .kt _, h => by cases h
  | .scr _, h => by cases h
  | .dct _, h => by cases h
  | .ref _, h => by cases h
  | .ty _, h => by cases h
  | .cls _, h => by cases h
  | .exc _ _, h => by cases h
  | .fn _ _, h => by cases h
theorem tl_plL : ∀ xs, tlL xs = true → plL xs = true
  | [], _ => rfl
  | x :: r, h => by
    show (pl x && plL r) = true
    rw [tl_pl x (an h).1, tl_plL r (an h).2]; rfl
end
end Zk
end

/-! N26 -/
set_option exponentiation.threshold 9000
noncomputable section
namespace Zk
open PySem PySem.Spec L2 Zs
open PyProof.Rows hiding St
def upC (c : Nat) : Nat := if 97 ≤ c ∧ c ≤ 122 then c - 32 else c
theorem up_small : ∀ c, c < 128 → Unicode.upperOf c = [upC c] := by decide +kernel
theorem up_all {s : List Nat} (h : ∀ c ∈ s, c < 128) : (Txt.upper (strV s)).cps.toList = s.map upC := by
  show ((s.toArray.mapIdx fun _ c => (Unicode.upperOf c).toArray).flatten).toList = _
  rw [Array.toList_flatten, Array.toList_mapIdx]
  induction s with
  | nil => rfl
  | cons c r ih =>
    rw [List.mapIdx_cons, List.map_cons, List.flatten_cons, List.map_cons, up_small c (h c List.mem_cons_self), ih fun x hx => h x (List.mem_cons_of_mem _ hx)]
    rfl
open Classical
/-- a value that may be shown: at most B signs, at most e deep -/
def Gd (B e : Nat) (d : D) : Prop := pl d = true ∧ sd d = true ∧ wd d ≤ B ∧ dep d ≤ e
theorem Gd.mono {B e B' e' : Nat} {d : D} (h : Gd B e d) (h1 : B ≤ B') (h2 : e ≤ e') : Gd B' e' d := ⟨h.1, h.2.1, Nat.le_trans h.2.2.1 h1, Nat.le_trans h.2.2.2 h2⟩
theorem T.gd {k B : Nat} {d : D} (h : T k B d) : Gd B k d := ⟨tl_pl d h.1, tl_sd d h.1, h.2.2, h.2.1⟩
theorem Gd_str {s : List Nat} {B : Nat} (h : s.length ≤ 100) (c : ∀ c ∈ s, c < 128) (hb : 10 * s.length + 2 ≤ B) : Gd B 0 (.str s) := ⟨pl_mk (by omega) fun x hx => by have := c x hx; omega, List.all_eq_true.mpr fun x hx => decide_eq_true (by have := c x hx; omega), hb, Nat.le_refl _⟩
theorem Gd_tup {xs : List D} {B e : Nat} (l : xs.length ≤ 1000) (h : ∀ x ∈ xs, Gd B e x) : Gd (3 + wdL xs) (e + 1) (.tup xs) := ⟨plL_mk l fun x hx => (h x hx).1, sdL_all.mpr fun x hx => (h x hx).2.1, Nat.le_refl _, T_dep fun x hx => (h x hx).2.2.2⟩
theorem wdL_app : ∀ {a b : List D}, wdL (a ++ b) = wdL a + wdL b
  | [], b => by show wdL b = 0 + wdL b; omega
  | x :: a, b => by
    show wd x + 2 + wdL (a ++ b) = wd x + 2 + wdL a + wdL b
    rw [wdL_app]; omega
theorem wdL_mem : ∀ {xs : List D} {x : D}, x ∈ xs → wd x + 2 ≤ wdL xs
  | y :: r, x, h => by
    show wd x + 2 ≤ wd y + 2 + wdL r
    rcases List.mem_cons.mp h with rfl | h
    · omega
    · have := wdL_mem h; omega
theorem wdL_cut {xs : List D} {lo hi : Option Int} : wdL (cutL xs lo hi) ≤ wdL xs := by
  unfold cutL
  generalize HT.sIx xs.length 0 lo = a
  generalize HT.sIx xs.length xs.length hi - a = b
  have h1 : wdL xs = wdL (xs.take a) + wdL (xs.drop a) := by rw [← wdL_app, List.take_append_drop]
  have h2 : wdL (xs.drop a) = wdL ((xs.drop a).take b) + wdL ((xs.drop a).drop b) := by rw [← wdL_app, List.take_append_drop]
  omega
theorem mem_cut {α : Type} {xs : List α} {lo hi : Option Int} {x : α} (h : x ∈ cutL xs lo hi) : x ∈ xs := List.mem_of_mem_drop (List.mem_of_mem_take h)
theorem wdL_rev : ∀ {xs : List D}, wdL xs.reverse = wdL xs
  | [] => rfl
  | x :: r => by
    rw [List.reverse_cons, wdL_app, wdL_rev]
    show wdL r + (wd x + 2 + 0) = wd x + 2 + wdL r
    omega
theorem lst7 {a b c d e f g : D} {P : D → Prop} (h1 : P a) (h2 : P b) (h3 : P c) (h4 : P d) (h5 : P e) (h6 : P f) (h7 : P g) : ∀ x ∈ [a, b, c, d, e, f, g], P x := fun x hx => by
  simp only [List.mem_cons, List.not_mem_nil, or_false] at hx
  rcases hx with rfl | rfl | rfl | rfl | rfl | rfl | rfl <;> assumption
theorem Gd_non {B e : Nat} (h : 5 ≤ B) : Gd B e .non := ⟨rfl, rfl, h, Nat.zero_le _⟩
theorem Gd_bl {B e : Nat} {b : Bool} (h : 5 ≤ B) : Gd B e (.bl b) := ⟨rfl, rfl, h, Nat.zero_le _⟩
theorem Gd_int {B e : Nat} {i : Int} (h : 40 ≤ B) (hi : i.natAbs < 10 ^ 30) : Gd B e (.int i) := ⟨rfl, decide_eq_true hi, h, Nat.zero_le _⟩
/-- what is told of a leaf or a whole tuple -/
def tupO (xs : List D) : List D := [.lst xs, .tup (cutL xs (some 1) none), .tup (cutL xs none (some (-1))), .tup (xs ++ cutL xs (some (-1)) none), .tup xs.reverse, .tup [], .non]
theorem tupO_gd {k B : Nat} {xs : List D} (t : T k B (.tup xs)) : ∀ d ∈ tupO xs, Gd (2 * B + 410) (k + 1) d := by
  obtain ⟨t1, t2, t3⟩ := t
  obtain ⟨lx, mx⟩ := tl_tup t1
  have t3 : 3 + wdL xs ≤ B := t3
  have t2 : depL xs + 1 ≤ k := t2
  have gx : ∀ x ∈ xs, Gd B (k - 1) x := fun x hx => ⟨tl_pl x (mx x hx), tl_sd x (mx x hx), by have := wdL_mem hx; omega, by have := dL_le.mp (Nat.le_refl _) x hx; omega⟩
  have mk : ∀ ys : List D, (∀ y ∈ ys, y ∈ xs) → ys.length ≤ 100 → wdL ys ≤ 2 * wdL xs → Gd (2 * B + 410) (k + 1) (.tup ys) := fun ys h1 h2 h3 => (Gd_tup (by omega) fun y hy => gx y (h1 y hy)).mono (by omega) (by omega)
  have lc : ∀ lo hi, (cutL xs lo hi).length ≤ 8 := fun lo hi => Nat.le_trans (cutL_len xs lo hi) lx
  have wc : ∀ lo hi, wdL (cutL xs lo hi) ≤ wdL xs := fun lo hi => wdL_cut
  unfold tupO
  refine lst7 ?_ (mk _ (fun y hy => mem_cut hy) (by have := lc (some 1) none; omega) (by have := wc (some 1) none; omega)) (mk _ (fun y hy => mem_cut hy) (by have := lc none (some (-1)); omega) (by have := wc none (some (-1)); omega)) (mk _ (fun y hy => (List.mem_append.mp hy).elim id fun z => mem_cut z) (by rw [List.length_append]; have := lc (some (-1)) none; omega) (by rw [wdL_app]; have := wc (some (-1)) none; omega)) (mk _ (fun y hy => List.mem_reverse.mp hy) (by rw [List.length_reverse]; omega) (by rw [wdL_rev]; omega)) (mk _ (fun y hy => by cases hy) (by simp) (by show 0 ≤ _; omega)) (Gd_non (by omega))
  have g := Gd_tup (B := B) (e := k - 1) (by omega : xs.length ≤ 1000) gx
  exact ⟨Bool.and_eq_true_iff.mpr ⟨decide_eq_true (by omega), plL_all.mpr fun x hx => (gx x hx).1⟩, sdL_all.mpr fun x hx => (gx x hx).2.1, by show 3 + wdL xs ≤ _; omega, by show depL xs + 1 ≤ _; omega⟩
def intO (i : Int) : List D := [.int (i + 1), .int (i - 1), .int (-i), .str (intT i), .non, .bl (decide (i = 1)), .tup [.int i]]
theorem intO_gd {k B : Nat} {i : Int} (t : T k B (.int i)) : ∀ d ∈ intO i, Gd (2 * B + 410) (k + 1) d := by
  have hi : i.natAbs < 10 ^ 13 := of_decide_eq_true t.1
  have b : ∀ z : Int, z.natAbs ≤ 10 ^ 13 → z.natAbs < 10 ^ 30 := fun z q => Nat.lt_of_le_of_lt q (by decide)
  have g := int_gw (i := i) (Nat.lt_trans hi (by decide))
  unfold intO
  refine lst7 (Gd_int (by omega) (b _ (by omega))) (Gd_int (by omega) (b _ (by omega))) (Gd_int (by omega) (b _ (by omega))) ((Gd_str (B := 400) (by have := g.1; omega) (fun c hc => (g.2 c hc).2) (by have := g.1; omega)).mono (by omega) (by omega)) (Gd_non (by omega)) (Gd_bl (by omega)) ((Gd_tup (B := 40) (e := 0) (xs := [.int i]) (by simp) fun x hx => ?_).mono ?_ (by omega))
  · rw [List.mem_singleton.mp hx]
    exact Gd_int (by omega) (b _ (by omega))
  · show 3 + (40 + 2 + 0) ≤ _
    omega
def strO (s : List Nat) : List D := [.str (s ++ [97]), .str (cutL s none (some (-1))), .str (s.map upC), .lst [.str s], .str [97], .non, .int 0, .str [], .str (98 :: s), .str (s ++ [47])]
theorem strO_gd {k B : Nat} {s : List Nat} (t : T k B (.str s)) : ∀ d ∈ strO s, Gd (2 * B + 410) (k + 1) d := by
  obtain ⟨h1, h2⟩ := tl_str t.1
  have m : ∀ w : List Nat, w.length ≤ 17 → (∀ c ∈ w, c < 128) → Gd (2 * B + 410) (k + 1) (.str w) := fun w q1 q2 => (Gd_str (B := 400) (by omega) q2 (by omega)).mono (by omega) (by omega)
  have ap : ∀ c ∈ s ++ [97], c < 128 := fun c hc => (List.mem_append.mp hc).elim (h2 c) fun z => by rw [List.mem_singleton.mp z]; decide
  have ap2 : ∀ c ∈ s ++ [47], c < 128 := fun c hc => (List.mem_append.mp hc).elim (h2 c) fun z => by rw [List.mem_singleton.mp z]; decide
  have ap3 : ∀ c ∈ 98 :: s, c < 128 := fun c hc => (List.mem_cons.mp hc).elim (fun z => by rw [z]; decide) (h2 c)
  have up : ∀ c ∈ s.map upC, c < 128 := fun c hc => by
    obtain ⟨x, hx, rfl⟩ := List.mem_map.mp hc
    have := h2 x hx
    unfold upC
    split <;> omega
  have m0 := m s (by omega) h2
  intro d hd
  unfold strO at hd
  simp only [List.mem_cons, List.not_mem_nil, or_false] at hd
  rcases hd with rfl | rfl | rfl | rfl | rfl | rfl | rfl | rfl | rfl | rfl
  · exact m _ (by simp; omega) ap
  · exact m _ (Nat.le_trans (cutL_len _ _ _) (by omega)) fun c hc => h2 c (mem_cut hc)
  · exact m _ (by simp; omega) up
  · refine ⟨?_, ?_, ?_, ?_⟩
    · show (decide (([D.str s] : List D).length ≤ 1000) && (pl (.str s) && true)) = true
      rw [m0.1]; rfl
    · show (sd (.str s) && true) = true
      rw [m0.2.1]; rfl
    · show 3 + (10 * s.length + 2 + 2 + 0) ≤ _
      omega
    · show max 0 0 + 1 ≤ k + 1
      simp
  · exact m _ (by simp) (by decide)
  · exact Gd_non (by omega)
  · exact Gd_int (by omega) (by decide)
  · exact m _ (by simp) (by decide)
  · exact m _ (by simp; omega) ap3
  · exact m _ (by simp; omega) ap2
end Zk
end

/-! N27 -/
set_option exponentiation.threshold 9000
noncomputable section
namespace Zk
open PySem PySem.Spec L2 Zs
open PyProof.Rows hiding St
open Classical
section
variable {ρ : Env'} {h : HP}
theorem tAnw {a b : TM} {Q : Bool → HP → Prop} (w : Wp (a ρ h) fun c h1 => if c = true then Wp (b ρ h1) Q else Q false h1) : Wp (tAn a b ρ h) Q := by
  obtain ⟨c, h1, e, q⟩ := w.ex
  rw [w_tAn, e, w_ok]
  cases c
  · exact q
  · exact q
theorem tV_bl {a : EM} {Q : Bool → HP → Prop} (w : Wp (a ρ h) fun d h1 => ∃ b, d = .bl b ∧ Q b h1) : Wp (tV a ρ h) Q := by
  obtain ⟨d, h1, e, b, rfl, q⟩ := w.ex
  rw [w_tV, e, w_ok]
  exact q
theorem skp {rest : SM} {Q : Fl → HP → Prop} (w : Wp (rest ρ h) Q) : Wp (sSq sNx rest ρ h) Q := w
theorem nil_ne {xs : List D} {k B : Nat} (t : T k B (.tup xs)) (hk : k ≤ 60) : bNe2 (.tup xs) (.tup []) h = .ok (.bl (!xs.isEmpty)) h := by
  obtain ⟨ps, a1, a2, a3, a4, a5, a6⟩ := shwL xs (tl_sdL xs (an t.1).2)
  have td : depL xs + 1 ≤ k := t.2.1
  have e1 : toP (.tup xs) = some (.tuple ps) := by simp only [toP, a1]
  have e2 : toP (.tup []) = some (.tuple []) := by simp only [toP, toPs]
  have s1 : SeqAt.shaped (.tuple ps) = true := by
    show (PyData.canLayAll0 ps && decide (PyData.depthAll ps + 1 ≤ 64)) = true
    rw [a4, a5, decide_eq_true (by omega)]; rfl
  have s2 : SeqAt.shaped (.tuple []) = true := by decide
  have ev : PyData.eqv (.tuple ps) (.tuple []) = xs.isEmpty := by
    cases xs with
    | nil =>
      have : ps = [] := by simpa [toPs] using a1.symm
      rw [this]; rfl
    | cons x r =>
      cases ps with
      | nil =>
        simp only [toPs] at a1
        split at a1 <;> cases a1
      | cons p ps => rfl
  have e3 : eqP (.tup xs) (.tup []) = some xs.isEmpty := by
    unfold eqP
    rw [e1, e2]
    dsimp only
    rw [if_pos ⟨s1, s2⟩, ev]
  have e4 : eqS (.tup xs) (.tup []) = none := rfl
  unfold bNe2
  rw [e4, e3]
theorem atI_get {α : Type} {xs : List α} {i : Int} (h0 : 0 ≤ i) (h1 : i < xs.length) : ∃ x, L2.atI xs i = some x ∧ x ∈ xs ∧ xs = xs.take i.toNat ++ x :: xs.drop (i.toNat + 1) := by
  have hl : i.toNat < xs.length := by omega
  refine ⟨xs[i.toNat], ?_, List.getElem_mem hl, ?_⟩
  · unfold L2.atI ixN
    rw [if_pos h0, if_pos h1]
    simp [hl]
  · rw [List.getElem_cons_drop hl, List.take_append_drop]
theorem cut_toI {α : Type} {xs : List α} {i : Int} (h0 : 0 ≤ i) : cutL xs none (some i) = xs.take i.toNat := by
  have : i = ((i.toNat : Nat) : Int) := by omega
  rw [this, cut_to, Int.toNat_natCast]
theorem cut_fromI {α : Type} {xs : List α} {i : Int} (h0 : 0 ≤ i) : cutL xs (some (i + 1)) none = xs.drop (i.toNat + 1) := by
  have : i + 1 = ((i.toNat + 1 : Nat) : Int) := by omega
  rw [this, cut_from]
theorem add_tup {xs ys : List D} {o : Bool} (l : xs.length + ys.length ≤ 100000) : bAdd o (.tup xs) (.tup ys) h = .ok (.tup (xs ++ ys)) h := by
  unfold bAdd
  simp only
  rw [if_pos (kline l)]
end
theorem tl_pls {xs : List D} (h : ∀ x ∈ xs, ∃ B e, Gd B e x) : ∀ x ∈ xs, pl x = true := fun x hx => let ⟨_, _, g⟩ := h x hx; g.1
theorem s_bent : ∀ (k n : Nat), k + 5 ≤ n → k ≤ 60 → ∀ (B : Nat) (d : D), T k B d → ∀ (j c : Nat) (h : HP), Pot j c h → c + 2 * k + 2 < 2 ^ 40 → Wp (runP P n 41 [.ref j, d] h) fun d' h' => Gd (2 * B + 410) (k + 1) d' ∧ Pot j (c + 2 * k + 2) h' ∧ But j h h' := by
  intro k
  induction k with
  | zero =>
    intro n hn hk B d t j c h p hc
    obtain ⟨m, rfl, hm⟩ := succ_of hn
    rw [e__law_bent]
    have hj := p.lt
    refine runD_wp hj ?_
    show Wp (m__law_bent _ [some (.ref j), some d, none, none] h) _
    unfold m__law_bent
    have done : ∀ {b : EM} (rest : SM) (xs : List D) (ρ : Env'), ρ[0]? = some (some (.ref j)) → b ρ h = .ok (.lst xs) h → xs ≠ [] → xs.length ≤ 100 → (∀ x ∈ xs, Gd (2 * B + 410) (0 + 1) x) → Wp (eCl (runP P m 37) 2 2 0 [0, 1] (aC (eV 0) (aC b aN)) aN ρ h) fun d h' => ∃ d', Fl.ret d = .ret d' ∧ nn h.length d' = true ∧ Pot j (c + 2 * 0 + 2) h' ∧ ButL j h h' ∧ Gd (2 * B + 410) (0 + 1) d' := fun rest xs ρ h0 hb ne l g => (of_wp (n := m) (by omega) h0 hb p (by omega) ne (by omega) fun x hx => (g x hx).1).imp fun d h' ⟨hd, p', b'⟩ => ⟨d, rfl, pl_nn _ _ (g d hd).1, p'.mono (by omega), b'.l, g d hd⟩
    cases d with
    | int i =>
      have hi : i.natAbs < 10 ^ 13 := of_decide_eq_true t.1
      refine if_wp (c := false) rfl ?_
      rw [if_neg (by simp)]
      refine skp ?_
      refine if_wp (c := false) rfl ?_
      rw [if_neg (by simp)]
      refine skp ?_
      refine if_wp (c := false) rfl ?_
      rw [if_neg (by simp)]
      refine skp ?_
      refine if_wp (c := true) rfl ?_
      rw [if_pos rfl]
      refine ret2_wp (done sNx (intO i) _ rfl (lst_ok (aC_ok (e2_ok (eV_at rfl) eC_ok rfl) (aC_ok (e2_ok (eV_at rfl) eC_ok w_subI) (aC_ok (by rw [w_e1, eV_at (d := .int i) rfl, w_ok]; rfl) (aC_ok (eA_ok (aC_ok (eV_at rfl) aN_ok) (str_int (Nat.lt_trans hi (by decide)))) (aC_ok eC_ok (aC_ok (e2_ok (eV_at rfl) eC_ok eq_k) (aC_ok (eA_ok (aC_ok (eV_at rfl) aN_ok) (tup_ok (by simp))) aN_ok))))))) (by simp [intO])) (by simp [intO]) (by simp [intO]) (intO_gd t))
    | str s =>
      obtain ⟨hs1, hs2⟩ := tl_str t.1
      refine if_wp (c := false) rfl ?_
      rw [if_neg (by simp)]
      refine skp ?_
      refine if_wp (c := false) rfl ?_
      rw [if_neg (by simp)]
      refine skp ?_
      refine if_wp (c := false) rfl ?_
      rw [if_neg (by simp)]
      refine skp ?_
      refine if_wp (c := false) rfl ?_
      rw [if_neg (by simp)]
      refine skp ?_
      refine if_wp (c := true) rfl ?_
      rw [if_pos rfl]
      have up : mUp (.str s) [] h = .ok (.str (s.map upC)) h := by
        unfold mUp
        simp only [up_all hs2]
        rw [if_pos ⟨by omega, by simp; omega⟩]
      have w : Wp (sSq (sRe (eCl (runP P m 37) 2 2 0 [0, 1] (aC (eV 0) (aC (eV 3) aN)) aN)) sNx [some (.ref j), some (.str s), none, some (.lst (strO s))] h) fun f h' => ∃ d', f = .ret d' ∧ nn h.length d' = true ∧ Pot j (c + 2 * 0 + 2) h' ∧ ButL j h h' ∧ Gd (2 * B + 410) (0 + 1) d' := ret_wp (done sNx (strO s) _ rfl (eV_at rfl) (by simp [strO]) (by simp [strO]) (strO_gd t))
      obtain ⟨f, h', e, d', rfl, q⟩ := w.ex
      refine Wp.of (seq_ret (seqs (sAs_ok (lst_ok (xs := strO s) (aC_ok (e2_ok (eV_at rfl) eC_ok (add_str (by rw [sizeLine_eq]; simp; omega))) (aC_ok (eSl_ok (eV_at rfl) rfl rfl w_slS) (aC_ok (by rw [w_eMt, eV_at (d := .str s) rfl, w_ok]; exact up) (aC_ok (lst_ok (aC_ok (eV_at rfl) aN_ok) (by simp)) (aC_ok eC_ok (aC_ok eC_ok (aC_ok eC_ok (aC_ok eC_ok (aC_ok (e2_ok (x := .str [98]) eC_ok (eV_at rfl) (add_str (by rw [sizeLine_eq]; simp; omega))) (aC_ok (e2_ok (eV_at rfl) eC_ok (add_str (by rw [sizeLine_eq]; simp; omega))) aN_ok)))))))))) (by simp [strO])) rfl) e)) ⟨d', rfl, q⟩
    | tup xs => exact absurd t.2.1 (by show ¬ depL xs + 1 ≤ 0; omega)
    | _ => cases t.1
  | succ k ih =>
    intro n hn hk B d t j c h p hc
    by_cases hd : dep d ≤ k
    · exact (ih n (by omega) (by omega) B d ⟨t.1, hd, t.2.2⟩ j c h p (by omega)).imp fun d' h' ⟨g, p', b'⟩ => ⟨g.mono (Nat.le_refl _) (by omega), p'.mono (by omega), b'⟩
    cases d with
    | int i => exact absurd (Nat.zero_le _) hd
    | str s => exact absurd (Nat.zero_le _) hd
    | tup xs =>
      obtain ⟨m, rfl, hm⟩ := succ_of hn
      rw [e__law_bent]
      have hj := p.lt
      obtain ⟨lx, mx⟩ := tl_tup t.1
      have td : depL xs + 1 ≤ k + 1 := t.2.1
      have tw : 3 + wdL xs ≤ B := t.2.2
      refine runD_wp hj ?_
      show Wp (m__law_bent _ [some (.ref j), some (.tup xs), none, none] h) _
      unfold m__law_bent
      refine ifw_wp (C := fun cc h1 => (cc = true → xs ≠ []) ∧ Pot j (c + 1) h1 ∧ But j h h1) (tAnw (Wp.of (a := true) (h := h) rfl ?_)) ?_
      · rw [if_pos rfl]
        refine tAnw (Wp.of (tV_ok (e2_ok (eV_at rfl) (eA_ok aN_ok (tup_ok (by simp))) (nil_ne t hk))) ?_)
        cases xs with
        | nil => exact ⟨fun z => absurd z (by simp), p.mono (by omega), But.refl⟩
        | cons x r =>
          show Wp _ _
          refine tV_bl (e2l_wp ((tk_wp (n := m) (u := 5) (by omega) rfl rfl p (by omega) (by decide) (by decide)).imp ?_))
          rintro d h1 ⟨i, rfl, i0, i1, p1, b1⟩
          exact ⟨.int 0, rfl, _, rfl, fun _ => by simp, p1, b1⟩
      · rintro cc h1 ⟨ne, p1, b1⟩
        cases cc with
        | false =>
          rw [if_neg (by simp)]
          refine skp ?_
          refine if_wp (c := true) rfl ?_
          rw [if_pos rfl]
          have la : ∀ lo hi, (cutL xs lo hi).length ≤ 8 := fun lo hi => Nat.le_trans (cutL_len _ _ _) lx
          refine ret2_wp ((of_wp (n := m) (xs := tupO xs) (by omega) rfl (lst_ok (aC_ok (eA_ok (aC_ok (eV_at (d := .tup xs) rfl) aN_ok) rfl) (aC_ok (eSl_ok (eV_at rfl) rfl rfl w_slT) (aC_ok (eSl_ok (eV_at rfl) rfl rfl w_slT) (aC_ok (e2_ok (eV_at rfl) (eSl_ok (eV_at rfl) rfl rfl w_slT) (add_tup (by have := la (some (-1)) none; omega))) (aC_ok (by rw [w_e1, eV_at (d := .tup xs) rfl, w_ok]; rfl) (aC_ok (eA_ok aN_ok (tup_ok (by simp))) (aC_ok eC_ok aN_ok))))))) (by simp [tupO])) p1 (by omega) (by simp [tupO]) (by simp [tupO]) fun x hx => (tupO_gd t x hx).1).imp ?_)
          rintro d h2 ⟨hd2, p2, b2⟩
          have g := tupO_gd t d hd2
          exact ⟨d, rfl, pl_nn _ _ g.1, p2.mono (by omega), (b1.trans b2).l, g⟩
        | true =>
          rw [if_pos rfl]
          have ln : 0 < xs.length := List.length_pos_iff.mpr (ne rfl)
          have w : Wp (sSq (sAs (eCl (runP P m 36) 2 2 0 [0, 1] (aC (eV 0) (aC (eA fLen (aC (eV 1) aN)) aN)) aN) (gN 2)) (sSq (sRe (e2 (bAdd false) (e2 (bAdd false) (eSl false (eV 1) oN (oS (eV 2))) (eA fTup (aC (eCl (runP P m 41) 2 2 0 [0, 1] (aC (eV 0) (aC (e2 bIx2 (eV 1) (eV 2)) aN)) aN) aN))) (eSl false (eV 1) (oS (e2 (bAdd false) (eV 2) (eC (.int (1))))) oN))) sNx) [some (.ref j), some (.tup xs), none, none] h1) fun f h' => ∃ d', f = .ret d' ∧ nn h.length d' = true ∧ Pot j (c + 2 * (k + 1) + 2) h' ∧ ButL j h h' ∧ Gd (2 * B + 410) (k + 1 + 1) d' := by
            refine as_wp (tk_wp (n := m) (u := xs.length) (by omega) rfl (eA_ok (aC_ok (eV_at (d := .tup xs) rfl) aN_ok) rfl) p1 (by omega) (by omega) (by omega)) ?_
            rintro d h2 ⟨i, rfl, i0, i1, p2, b2⟩
            refine ⟨[some (.ref j), some (.tup xs), some (.int i), none], h2, rfl, ?_⟩
            obtain ⟨x, ex, hx, sp⟩ := atI_get i0 i1
            have wx := wdL_mem hx
            have tx : T k (wd x) x := ⟨mx x hx, by have := dL_le.mp (Nat.le_refl _) x hx; omega, Nat.le_refl _⟩
            refine ret_wp (e2l_wp (e2r_wp (eSl_ok (x := .tup xs) (l := none) (u := some i) (eV_at rfl) rfl rfl w_slT) (eAw (aCw ((call2_wp (eV_at (d := .ref j) rfl) (e2_ok (eV_at (d := .tup xs) rfl) (eV_at (d := .int i) rfl) (bIx_sq (xs := xs) rfl ex)) (ih m (by omega) (by omega) (wd x) x tx j (c + 2) h2 p2 (by omega))).imp ?_)))))
            rintro v h3 ⟨gv, p3, b3⟩
            refine aNw (tupw (by simp) ?_)
            rw [cut_toI i0, add_tup (by rw [List.length_take]; simp; omega)]
            refine ⟨.tup (xs.drop (i.toNat + 1)), eSl_ok (x := .tup xs) (l := some (i + 1)) (u := none) (eV_at rfl) rfl rfl (by rw [w_slT, cut_fromI i0]), ?_⟩
            rw [add_tup (by rw [List.length_append, List.length_take, List.length_drop]; simp; omega)]
            have e1 : wdL xs = wdL (xs.take i.toNat) + (wd x + 2 + wdL (xs.drop (i.toNat + 1))) := by
              have := congrArg wdL sp
              rw [wdL_app] at this
              exact this
            have gx : ∀ y ∈ xs, Gd B k y := fun y hy => ⟨tl_pl y (mx y hy), tl_sd y (mx y hy), by have := wdL_mem hy; omega, by have := dL_le.mp (Nat.le_refl _) y hy; omega⟩
            have hz : (xs.take i.toNat ++ [v] ++ xs.drop (i.toNat + 1)).length ≤ 1000 := by
              rw [List.length_append, List.length_append, List.length_take, List.length_drop]; simp; omega
            have wz : wdL (xs.take i.toNat ++ [v] ++ xs.drop (i.toNat + 1)) = wdL (xs.take i.toNat) + (wd v + 2 + 0) + wdL (xs.drop (i.toNat + 1)) := by
              rw [wdL_app, wdL_app]; rfl
            have vw := gv.2.2.1
            have g : Gd (2 * B + 410) (k + 1 + 1) (.tup (xs.take i.toNat ++ [v] ++ xs.drop (i.toNat + 1))) := (Gd_tup (B := 2 * B + 410) (e := k + 1) hz fun y hy => by
              rcases List.mem_append.mp hy with hy | hy
              · rcases List.mem_append.mp hy with hy | hy
                · exact (gx y (List.mem_of_mem_take hy)).mono (by omega) (by omega)
                · rw [List.mem_singleton.mp hy]
                  exact gv.mono (by omega) (Nat.le_refl _)
              · exact (gx y (List.mem_of_mem_drop hy)).mono (by omega) (by omega)).mono (by omega) (Nat.le_refl _)
            exact ⟨_, rfl, pl_nn _ _ g.1, p3.mono (by omega), (b1.trans (b2.trans b3)).l, g⟩
          obtain ⟨f, h', e, d', rfl, q⟩ := w.ex
          exact Wp.of (seq_ret e) ⟨d', rfl, q⟩
    | _ => cases t.1
end Zk
end

/-! N28 -/
set_option exponentiation.threshold 9000
noncomputable section
namespace Zk
open PySem PySem.Spec L2 Zs
open PyProof.Rows hiding St
open Classical
/-! ### sizes of texts, by their words -/
def tot : List (List Nat) → Nat
  | [] => 0
  | w :: l => w.length + 1 + tot l
theorem tot_app : ∀ {a b : List (List Nat)}, tot (a ++ b) = tot a + tot b
  | [], b => by show tot b = 0 + tot b; omega
  | x :: a, b => by
    show x.length + 1 + tot (a ++ b) = x.length + 1 + tot a + tot b
    rw [tot_app]; omega
theorem joi_tot : ∀ {l : List (List Nat)}, l ≠ [] → (joi l).length + 1 = tot l
  | [], h => absurd rfl h
  | [p], _ => by show p.length + 1 = p.length + 1 + 0; rfl
  | p :: q :: r, _ => by
    have ih := joi_tot (l := q :: r) (by simp)
    have e : joi (p :: q :: r) = p ++ 32 :: joi (q :: r) := join_cons (by simp)
    rw [e, List.length_append, List.length_cons]
    show p.length + ((joi (q :: r)).length + 1) + 1 = p.length + 1 + tot (q :: r)
    omega
theorem joi_le (l : List (List Nat)) : (joi l).length ≤ tot l := by
  cases l with
  | nil => exact Nat.le_refl _
  | cons p r => have := joi_tot (l := p :: r) (by simp); omega
theorem tot_spl (t : List Nat) : tot (spl t) = t.length + 1 := by
  have := joi_tot (l := spl t) (spl_ne t [])
  rw [joi_spl] at this
  omega
theorem len_tot : ∀ (l : List (List Nat)), l.length ≤ tot l
  | [] => Nat.le_refl _
  | p :: l => by
    have := len_tot l
    show l.length + 1 ≤ p.length + 1 + tot l
    omega
theorem mem_tot : ∀ {l : List (List Nat)} {w : List Nat}, w ∈ l → w.length + 1 ≤ tot l
  | p :: l, w, h => by
    show w.length + 1 ≤ p.length + 1 + tot l
    rcases List.mem_cons.mp h with rfl | h
    · omega
    · have := mem_tot h; omega
theorem tot_td (l : List (List Nat)) (k : Nat) : tot (l.take k) + tot (l.drop k) = tot l := by rw [← tot_app, List.take_append_drop]
theorem tot_drop1 (l : List (List Nat)) (k : Nat) : tot (l.drop (k + 1)) ≤ tot (l.drop k) := by
  have e : l.drop (k + 1) = (l.drop k).drop 1 := by rw [List.drop_drop]
  rw [e]
  have := tot_td (l.drop k) 1
  omega
def CH (l : List (List Nat)) : Prop := ∀ w ∈ l, ∀ c ∈ w, c < 128
theorem CH_app {a b : List (List Nat)} (ha : CH a) (hb : CH b) : CH (a ++ b) := fun w hw => (List.mem_append.mp hw).elim (ha w) (hb w)
theorem CH_sub {a b : List (List Nat)} (hb : CH b) (h : ∀ w ∈ a, w ∈ b) : CH a := fun w hw => hb w (h w hw)
theorem CH_take {a : List (List Nat)} {k : Nat} (h : CH a) : CH (a.take k) := CH_sub h fun _ hw => List.mem_of_mem_take hw
theorem CH_drop {a : List (List Nat)} {k : Nat} (h : CH a) : CH (a.drop k) := CH_sub h fun _ hw => List.mem_of_mem_drop hw
theorem CH_one {w : List Nat} (h : ∀ c ∈ w, c < 128) : CH [w] := fun x hx => by rw [List.mem_singleton.mp hx]; exact h
theorem CH_spl {t : List Nat} (h : ∀ c ∈ t, c < 128) : CH (spl t) := fun w hw c hc => h c (by have := (spl_mem t [] w hw).1 c hc; simpa using this)
theorem joi_CH : ∀ {l : List (List Nat)}, CH l → ∀ c ∈ joi l, c < 128
  | [], _, c, hc => by cases hc
  | [p], h, c, hc => h p (by simp) c hc
  | p :: q :: r, h, c, hc => by
    have e : joi (p :: q :: r) = p ++ 32 :: joi (q :: r) := join_cons (by simp)
    rw [e] at hc
    rcases List.mem_append.mp hc with hc | hc
    · exact h p (by simp) c hc
    · rcases List.mem_cons.mp hc with hc | hc
      · omega
      · exact joi_CH (l := q :: r) (fun w hw => h w (List.mem_cons_of_mem _ hw)) c hc
theorem set_eq {l : List (List Nat)} {k : Nat} (w : List Nat) (hk : k < l.length) : l.set k w = l.take k ++ [w] ++ l.drop (k + 1) := by
  rw [List.set_eq_take_append_cons_drop, if_pos hk]; simp
theorem put_tot (l : List (List Nat)) (k : Nat) (w : List Nat) : tot (l.take k ++ [w] ++ l.drop k) = tot l + w.length + 1 := by
  rw [tot_app, tot_app]
  have := tot_td l k
  show tot (l.take k) + (w.length + 1 + 0) + tot (l.drop k) = _
  omega
theorem set_tot (l : List (List Nat)) (k : Nat) (w : List Nat) : tot (l.take k ++ [w] ++ l.drop (k + 1)) ≤ tot l + w.length + 1 := by
  rw [tot_app, tot_app]
  have := tot_td l k
  have := tot_drop1 l k
  show tot (l.take k) + (w.length + 1 + 0) + tot (l.drop (k + 1)) ≤ _
  omega
theorem out_tot (l : List (List Nat)) (k : Nat) : tot (l.take k ++ l.drop (k + 1)) ≤ tot l := by
  rw [tot_app]
  have := tot_td l k
  have := tot_drop1 l k
  omega
theorem CH_put {l : List (List Nat)} {i k : Nat} {w : List Nat} (h : CH l) (hw : ∀ c ∈ w, c < 128) : CH (l.take i ++ [w] ++ l.drop k) := CH_app (CH_app (CH_take h) (CH_one hw)) (CH_drop h)
/-- a text of at most B plain signs -/
def Tx (B : Nat) (d : D) : Prop := ∃ t, d = .str t ∧ t.length ≤ B ∧ ∀ c ∈ t, c < 128
theorem Tx_pl {B : Nat} {d : D} (h : Tx B d) (hB : B ≤ 2000) : pl d = true := by
  obtain ⟨t, rfl, h1, h2⟩ := h
  exact pl_mk (by omega) fun c hc => by have := h2 c hc; omega
theorem joinw {ρ : Env'} {h : HP} {a : EM} {y : D} {l : List (List Nat)} (ha : a ρ h = .ok y h) (e : sqOf y h = some (strsD l)) (z : tot l ≤ 1000) : eMt isStrD mJoin (eC (.str [32])) (aC a aN) ρ h = .ok (.str (joi l)) h := by
  rw [w_eMt, eC_ok, w_ok]
  show (aC a aN ρ h).bnd _ = _
  rw [aC_ok ha aN_ok, w_ok, join_ok e (by have := len_tot l; omega) fun s hs => by have := mem_tot hs; omega]
theorem joi_Tx {l : List (List Nat)} (z : tot l ≤ 1000) (c : CH l) : Tx 1000 (.str (joi l)) := ⟨_, rfl, by have := joi_le l; omega, joi_CH c⟩
/-! ### the lists of words -/
theorem strsD_cut (l : List (List Nat)) (lo hi : Option Int) : cutL (strsD l) lo hi = strsD (cutL l lo hi) := by
  unfold cutL strsD
  rw [List.length_map, List.map_take, List.map_drop]
theorem strsD_app (a b : List (List Nat)) : strsD a ++ strsD b = strsD (a ++ b) := by unfold strsD; rw [List.map_append]
theorem strsD_set (l : List (List Nat)) (k : Nat) (w : List Nat) : (strsD l).set k (.str w) = strsD (l.set k w) := by unfold strsD; rw [List.map_set]
theorem strsD_len (l : List (List Nat)) : (strsD l).length = l.length := by unfold strsD; rw [List.length_map]
theorem ls_ref {h : HP} {i : Nat} {xs : List D} (e : h[i]? = some (some (.lst xs))) : lsOf (.ref i) h = some xs := by
  show (match h[i]? with
    | some (some (.lst xs)) => some xs
    | _ => none) = _
  rw [e]
theorem sq_ref {h : HP} {i : Nat} {xs : List D} (e : h[i]? = some (some (.lst xs))) : sqOf (.ref i) h = some xs := by
  show (match h[i]? with
    | some (some (.lst xs)) => some xs
    | _ => none) = _
  rw [e]
theorem op_ref {h : HP} {i : Nat} {xs : List D} (e : h[i]? = some (some (.lst xs))) : opL (.ref i) h = some (i, xs) := by
  show (match h[i]? with
    | some (some (.lst xs)) => some (i, xs)
    | _ => none) = _
  rw [e]
theorem add_lst {a b : List D} {h : HP} (l : a.length + b.length ≤ 100000) : bAdd false (.lst a) (.lst b) h = .ok (.lst (a ++ b)) h := by
  show (if a.length + b.length ≤ sizeLine then mkL false (a ++ b) h else .bad) = _
  rw [if_pos (kline l)]
  rfl
theorem gS2_lst {a b : EM} {d : D} {ρ : Env'} {h : HP} {i : Nat} {xs : List D} {j : Int} (ha : a ρ h = .ok (.ref i) h) (hb : b ρ h = .ok (.int j) h) (e : h[i]? = some (some (.lst xs))) (j0 : 0 ≤ j) (j1 : j < xs.length) :
    gS2 a b d ρ h = .ok ρ (h.set i (some (.lst (xs.set j.toNat d)))) := by
  unfold gS2
  rw [ha]
  dsimp only
  rw [hb]
  dsimp only
  have n1 : opD (.ref i) h = none := by
    show (match h[i]? with
      | some (some (.dct xs)) => some (i, xs)
      | _ => none) = _
    rw [e]
  have n2 : setAt2 (.ref i) (.int j) d h = some (h.set i (some (.lst (xs.set j.toNat d)))) := by
    unfold setAt2
    rw [n1]
    dsimp only
    unfold setAt
    rw [op_ref e]
    dsimp only
    unfold ixN
    rw [if_pos j0, if_pos j1]
  rw [n2]
end Zk
end

/-! N29 -/
set_option exponentiation.threshold 9000
noncomputable section
namespace Zk
open PySem PySem.Spec L2 Zs
open PyProof.Rows hiding St
def spw : List D := [.str [112,117,116], .str [116,97,107,101], .str [103,114,111,119], .str [110,101,119], .str [97,100,100], .str [100,114,111,112], .str [110,97,109,101], .str [102,105,114,115,116], .str [39,116,101,97], .str [55], .str [45,48], .str [48,55], .str [], .str [105,110,116], .str [119,111,114,100], .str [119,97,114,101]]
def spg : List D := [.str [32], .str [39], .str [45], .str [48], .str [49], .str [97], .str [65], .str [10]]
def txB (B : Nat) : D → Bool
  | .str t => decide (t.length ≤ B) && t.all (fun c => decide (c < 128))
  | _ => false
theorem spw_b : spw.all (txB 5) = true := by decide
theorem spg_b : spg.all (txB 1) = true := by decide
open Classical
theorem txB_of {B : Nat} {d : D} (h : txB B d = true) : Tx B d := by
  cases d <;> first | (cases h; done) | skip
  rename_i t
  have h : (decide (t.length ≤ B) && t.all (fun c => decide (c < 128))) = true := h
  rw [Bool.and_eq_true, decide_eq_true_eq] at h
  exact ⟨t, rfl, h.1, fun c hc => of_decide_eq_true (List.all_eq_true.mp h.2 c hc)⟩
theorem spw_ok : ∀ d ∈ spw, Tx 5 d := fun d hd => txB_of (List.all_eq_true.mp spw_b d hd)
theorem spg_ok : ∀ d ∈ spg, Tx 1 d := fun d hd => txB_of (List.all_eq_true.mp spg_b d hd)
theorem slR {h : HP} {i : Nat} {xs : List D} {lo hi : Option Int} (e : h[i]? = some (some (.lst xs))) : fSl false (.ref i) lo hi h = .ok (.lst (cutL xs lo hi)) h := by
  show (match lsOf (.ref i) h with
    | some xs => mkL false (cutL xs lo hi) h
    | none => .bad) = _
  rw [ls_ref e]; rfl
theorem cut_fromJ {α : Type} {xs : List α} {i : Int} (h0 : 0 ≤ i) : cutL xs (some i) none = xs.drop i.toNat := by
  have : i = ((i.toNat : Nat) : Int) := by omega
  rw [this, cut_from, Int.toNat_natCast]
theorem add_st {s t : List Nat} {h : HP} (l : s.length + t.length ≤ 100000) : bAdd false (.str s) (.str t) h = .ok (.str (s ++ t)) h := add_str (kline l)
theorem cut_Tx {t s : List Nat} {a b : Nat} {B : Nat} (h : ∀ c ∈ t, c < 128) (hs : ∀ c ∈ s, c < 128) (l : t.length + t.length + s.length ≤ B) : Tx B (.str (t.take a ++ s ++ t.drop b)) := ⟨_, rfl, by
  rw [List.length_append, List.length_append, List.length_take, List.length_drop]; omega, fun c hc => by
  rcases List.mem_append.mp hc with hc | hc
  · rcases List.mem_append.mp hc with hc | hc
    · exact h c (List.mem_of_mem_take hc)
    · exact hs c hc
  · exact h c (List.mem_of_mem_drop hc)⟩
theorem s_spoilt {n : Nat} (hn : 3 ≤ n) {j c : Nat} {h : HP} {t : List Nat} (ht : t.length ≤ 600) (hc : ∀ x ∈ t, x < 128) (p : Pot j c h) (hcc : c + 6 < 2 ^ 40) : Wp (runP P n 50 [.ref j, .str t] h) fun d h' => Tx 2000 d ∧ Pot j (c + 6) h' ∧ But j h h' := by
  obtain ⟨m, rfl, hm⟩ := succ_of hn
  rw [e__law_spoilt]
  have hj := p.lt
  refine runD_wp hj ?_
  show Wp (m__law_spoilt _ [some (.ref j), some (.str t), none, none, none, none, none, none, none] h) _
  unfold m__law_spoilt
  have nj : h.length ≠ j := by omega
  have W0 : spl t ≠ [] := spl_ne t []
  have Wt : tot (spl t) ≤ 601 := by rw [tot_spl]; omega
  have Wc : CH (spl t) := CH_spl hc
  have sp : mSplit true (.str t) [.str [32]] h = .ok (.ref h.length) (h ++ [some (.lst (strsD (spl t)))]) := by
    rw [split_str ⟨by simp, by decide, by rw [sizeLine_eq]; omega⟩]; rfl
  generalize hW : spl t = W at W0 Wt Wc sp
  have Wl : 0 < W.length := List.length_pos_iff.mpr W0
  have Wn : W.length ≤ 601 := by have := len_tot W; omega
  have p0 : Pot j c (h ++ [some (.lst (strsD W))]) := p.at_ (List.getElem?_append_left hj)
  have e0 : (h ++ [some (O.lst (strsD W))])[h.length]? = some (some (.lst (strsD W))) := snoc_at
  have done : ∀ (d : D) (h' : HP), Tx 2000 d → Pot j (c + 6) h' → ButL j h h' → ∃ d', Fl.ret d = .ret d' ∧ nn h.length d' = true ∧ Pot j (c + 6) h' ∧ ButL j h h' ∧ Tx 2000 d' := fun d h' hs hp hb => ⟨d, rfl, pl_nn _ _ (Tx_pl hs (by omega)), hp, hb, hs⟩
  have up : ∀ d : D, Tx 1000 d → Tx 2000 d := fun d ⟨t, e, l, q⟩ => ⟨t, e, by omega, q⟩
  refine par_wp (C := fun u v h1 => u = .ref h.length ∧ (∃ w : Int, v = .int w ∧ 0 ≤ w ∧ w < 6) ∧ Pot j (c + 1) h1 ∧ h1[h.length]? = some (some (.lst (strsD W))) ∧ ButL j h h1) (aC2_wp (A := fun u h1 => u = .ref h.length ∧ h1 = h ++ [some (.lst (strsD W))]) (Wp.of (a := .ref h.length) (h := h ++ [some (.lst (strsD W))]) (by
      rw [w_eMt, eV_at (d := .str t) rfl, w_ok]
      exact sp) ⟨rfl, rfl⟩) ?_) ?_
  · rintro _ _ ⟨rfl, rfl⟩
    refine (tk_wp (n := m) (u := 6) (by omega) rfl rfl p0 (by omega) (by decide) (by decide)).imp ?_
    rintro d h2 ⟨i, rfl, i0, i1, p1, b1⟩
    exact ⟨rfl, ⟨i, rfl, i0, i1⟩, p1, by rw [but_at b1 nj]; exact e0, ButL.app.trans b1.l⟩
  rintro _ _ h1 ⟨rfl, ⟨w, rfl, w0, w1⟩, p1, f1, b1⟩
  show Wp (sSq (sPar 4 5 _) _ [some (.ref j), some (.str t), some (.ref h.length), some (.int w), none, none, none, none, none] h1) _
  refine par_wp (C := fun u v h2 => ∃ a s : Int, u = .int a ∧ 0 ≤ a ∧ a < W.length ∧ v = .int s ∧ 0 ≤ s ∧ s ≤ t.length ∧ Pot j (c + 3) h2 ∧ But j h1 h2) (aC2_wp (A := fun u h2 => ∃ a : Int, u = .int a ∧ 0 ≤ a ∧ a < W.length ∧ Pot j (c + 2) h2 ∧ But j h1 h2) (B := fun u v h2 => ∃ a s : Int, u = .int a ∧ 0 ≤ a ∧ a < W.length ∧ v = .int s ∧ 0 ≤ s ∧ s ≤ t.length ∧ Pot j (c + 3) h2 ∧ But j h1 h2) (int_wp ((tk_wp (n := m) (u := W.length) (by omega) rfl (eA_ok (aC_ok (eV_at (d := .ref h.length) rfl) aN_ok) (by rw [fLen_sq (sq_ref f1), strsD_len])) p1 (by omega) (by omega) (by omega)).imp ?_)) ?_) ?_
  · rintro d h2 ⟨i, rfl, i0, i1, p2, b2⟩
    exact ⟨⟨i, rfl⟩, i, rfl, i0, i1, p2, b2⟩
  · rintro _ h2 ⟨a, rfl, a0, a1, p2, b2⟩
    refine int_wp ((tk_wp (n := m) (u := (t.length : Int) + 1) (by omega) rfl (e2_ok (eA_ok (aC_ok (eV_at (d := .str t) rfl) aN_ok) rfl) eC_ok rfl) p2 (by omega) (by omega) (by omega)).imp ?_)
    rintro d h3 ⟨i, rfl, i0, i1, p3, b3⟩
    exact ⟨⟨i, rfl⟩, a, i, rfl, a0, a1, rfl, i0, by omega, p3, b2.trans b3⟩
  rintro _ _ h2 ⟨a, s, rfl, a0, a1, rfl, s0, s1, p2, b2⟩
  show Wp (sSq (sAs _ _) _ [some (.ref j), some (.str t), some (.ref h.length), some (.int w), some (.int a), some (.int s), none, none, none] h2) _
  refine wp_cons (ρ1 := [some (.ref j), some (.str t), some (.ref h.length), some (.int w), some (.int a), some (.int s), some (.lst spw), none, none]) (h1 := h2) (sAs_ok (lst_ok (xs := spw) rfl (by simp [spw])) rfl) ?_
  refine as_wp (of_wp (n := m) (xs := spw) (by omega) rfl (eV_at rfl) p2 (by omega) (by simp [spw]) (by simp [spw]) fun x hx => Tx_pl (spw_ok x hx) (by omega)) ?_
  rintro d h3 ⟨hd, p3, b3⟩
  obtain ⟨wd, rfl, wl, wc⟩ := spw_ok d hd
  refine ⟨[some (.ref j), some (.str t), some (.ref h.length), some (.int w), some (.int a), some (.int s), some (.lst spw), some (.str wd), none], h3, rfl, ?_⟩
  have f3 : h3[h.length]? = some (some (.lst (strsD W))) := by rw [but_at b3 nj, but_at b2 nj]; exact f1
  have b4 : ButL j h h3 := (b1.trans b2.l).trans b3.l
  have an : a.toNat < W.length := by omega
  refine if_wp (c := decide (w = 0)) (tV_ok (e2_ok (eV_at rfl) eC_ok eq_k)) ?_
  by_cases z0 : w = 0
  · rw [if_pos (decide_eq_true z0)]
    have g3 : (h3.set h.length (some (O.lst (strsD (W.set a.toNat wd)))))[h.length]? = some (some (.lst (strsD (W.set a.toNat wd)))) := at_set f3
    have tt : tot (W.set a.toNat wd) ≤ 1000 := by
      rw [set_eq wd an]
      have := set_tot W a.toNat wd
      omega
    have cc : CH (W.set a.toNat wd) := by rw [set_eq wd an]; exact CH_put Wc wc
    refine Wp.of (a := .ret (.str (joi (W.set a.toNat wd)))) (h := h3.set h.length (some (O.lst (strsD (W.set a.toNat wd))))) (seq_ret (seqs (sAs_ok (eV_at rfl) (gS2_lst (j := a) (eV_at rfl) (eV_at rfl) f3 a0 (by rw [strsD_len]; exact a1))) (seq_ret ?_))) (done _ _ (up _ (joi_Tx tt cc)) ?_ ?_)
    · rw [strsD_set, w_sRe, joinw (eV_at rfl) (sq_ref g3) tt]; rfl
    · exact (p3.mono (by omega)).at_ (by rw [List.getElem?_set_ne nj])
    · exact b4.set (Nat.le_refl _)
  rw [if_neg (by simp [z0])]
  refine skp ?_
  refine if_wp (c := decide (w = 1)) (tV_ok (e2_ok (eV_at rfl) eC_ok eq_k)) ?_
  have lt : ∀ k, (W.take k).length ≤ 601 := fun k => by rw [List.length_take]; omega
  have ld : ∀ k, (W.drop k).length ≤ 601 := fun k => by rw [List.length_drop]; omega
  by_cases z1 : w = 1
  · rw [if_pos (decide_eq_true z1)]
    have tt : tot (W.take a.toNat ++ W.drop (a.toNat + 1)) ≤ 1000 := by have := out_tot W a.toNat; omega
    refine ret2_wp (Wp.of (joinw (l := W.take a.toNat ++ W.drop (a.toNat + 1)) (e2_ok (eSl_ok (x := .ref h.length) (l := none) (u := some a) (eV_at rfl) rfl rfl (slR f3)) (eSl_ok (x := .ref h.length) (l := some (a + 1)) (u := none) (eV_at rfl) rfl rfl (slR f3)) (add_lst (by rw [strsD_cut, strsD_cut, strsD_len, strsD_len, cut_toI a0, cut_fromI a0]; have := lt a.toNat; have := ld (a.toNat + 1); omega))) (by rw [strsD_cut, strsD_cut, cut_toI a0, cut_fromI a0, strsD_app]; rfl) tt) (done _ _ (up _ (joi_Tx tt (CH_app (CH_take Wc) (CH_drop Wc)))) (p3.mono (by omega)) b4))
  rw [if_neg (by simp [z1])]
  refine skp ?_
  refine if_wp (c := decide (w = 2)) (tV_ok (e2_ok (eV_at rfl) eC_ok eq_k)) ?_
  by_cases z2 : w = 2
  · rw [if_pos (decide_eq_true z2)]
    have tt : tot (W.take a.toNat ++ [wd] ++ W.drop a.toNat) ≤ 1000 := by rw [put_tot]; omega
    have e1 : D.str wd = D.str wd := rfl
    refine ret2_wp (Wp.of (joinw (l := W.take a.toNat ++ [wd] ++ W.drop a.toNat) (e2_ok (e2_ok (eSl_ok (x := .ref h.length) (l := none) (u := some a) (eV_at rfl) rfl rfl (slR f3)) (lst_ok (xs := [.str wd]) (aC_ok (eV_at rfl) aN_ok) (by simp)) (add_lst (by rw [strsD_cut, strsD_len, cut_toI a0]; have := lt a.toNat; simp; omega))) (eSl_ok (x := .ref h.length) (l := some a) (u := none) (eV_at rfl) rfl rfl (slR f3)) (add_lst (by rw [List.length_append, strsD_cut, strsD_cut, strsD_len, strsD_len, cut_toI a0, cut_fromJ a0]; have := lt a.toNat; have := ld a.toNat; simp; omega))) (by rw [strsD_cut, strsD_cut, cut_toI a0, cut_fromJ a0, show [D.str wd] = strsD [wd] from rfl, strsD_app, strsD_app]; rfl) tt) (done _ _ (up _ (joi_Tx tt (CH_put Wc wc))) (p3.mono (by omega)) b4))
  rw [if_neg (by simp [z2])]
  refine skp ?_
  refine as_wp (of_wp (n := m) (xs := spg) (by omega) rfl (lst_ok (xs := spg) rfl (by simp [spg])) p3 (by omega) (by simp [spg]) (by simp [spg]) fun x hx => Tx_pl (spg_ok x hx) (by omega)) ?_
  rintro d h4 ⟨hd, p4, b5⟩
  obtain ⟨sg, rfl, gl, gc⟩ := spg_ok d hd
  refine ⟨[some (.ref j), some (.str t), some (.ref h.length), some (.int w), some (.int a), some (.int s), some (.lst spw), some (.str wd), some (.str sg)], h4, rfl, ?_⟩
  have b6 : ButL j h h4 := b4.trans b5.l
  have p5 : Pot j (c + 6) h4 := p4.mono (by omega)
  have lt : ∀ k, (t.take k).length ≤ 600 := fun k => by rw [List.length_take]; omega
  have ld : ∀ k, (t.drop k).length ≤ 600 := fun k => by rw [List.length_drop]; omega
  have w1' : ∀ (b : Nat) (e : EM), e [some (.ref j), some (.str t), some (.ref h.length), some (.int w), some (.int a), some (.int s), some (.lst spw), some (.str wd), some (.str sg)] h4 = .ok (.str (t.drop b)) h4 → e2 (bAdd false) (e2 (bAdd false) (eSl false (eV 1) oN (oS (eV 5))) (eV 8)) e [some (.ref j), some (.str t), some (.ref h.length), some (.int w), some (.int a), some (.int s), some (.lst spw), some (.str wd), some (.str sg)] h4 = .ok (.str (t.take s.toNat ++ sg ++ t.drop b)) h4 := fun b e he =>
    e2_ok (e2_ok (eSl_ok (x := .str t) (l := none) (u := some s) (eV_at rfl) rfl rfl (by rw [w_slS, cut_toI s0])) (eV_at (d := .str sg) rfl) (add_st (by have := lt s.toNat; omega))) he (add_st (by rw [List.length_append]; have := lt s.toNat; have := ld b; omega))
  have sl1 : eSl false (eV 1) (oS (e2 (bAdd false) (eV 5) (eC (.int (1))))) oN [some (.ref j), some (.str t), some (.ref h.length), some (.int w), some (.int a), some (.int s), some (.lst spw), some (.str wd), some (.str sg)] h4 = .ok (.str (t.drop (s.toNat + 1))) h4 := eSl_ok (x := .str t) (l := some (s + 1)) (u := none) (eV_at rfl) rfl rfl (by rw [w_slS, cut_fromI s0])
  refine if_wp (c := decide (w = 3)) (tV_ok (e2_ok (eV_at rfl) eC_ok eq_k)) ?_
  by_cases z3 : w = 3
  · rw [if_pos (decide_eq_true z3)]
    exact ret2_wp (Wp.of (w1' _ _ sl1) (done _ _ (cut_Tx hc gc (by omega)) p5 b6))
  rw [if_neg (by simp [z3])]
  refine skp ?_
  refine ret_wp ?_
  by_cases z4 : w = 4
  · exact Wp.of (eIf_ok (c := true) (tV_ok (e2_ok (eV_at rfl) eC_ok (by rw [eq_k, decide_eq_true z4]))) (by rw [if_pos rfl]; exact w1' _ _ (eSl_ok (x := .str t) (l := some s) (u := none) (eV_at rfl) rfl rfl (by rw [w_slS, cut_fromJ s0])))) (done _ _ (cut_Tx hc gc (by omega)) p5 b6)
  · refine Wp.of (a := .str (t.take s.toNat ++ [] ++ t.drop (s.toNat + 1))) (eIf_ok (c := false) (tV_ok (e2_ok (eV_at rfl) eC_ok (by rw [eq_k, decide_eq_false z4]))) (by rw [if_neg (by simp), List.append_nil]; exact e2_ok (eSl_ok (x := .str t) (l := none) (u := some s) (eV_at rfl) rfl rfl (by rw [w_slS, cut_toI s0])) sl1 (add_st (by have := lt s.toNat; have := ld (s.toNat + 1); omega)))) (done _ _ (cut_Tx hc (by simp) (by simp; omega)) p5 b6)
end Zk
end

/-! N30 -/
set_option exponentiation.threshold 9000
noncomputable section
namespace Zk
open PySem PySem.Spec L2 Zs
open PyProof.Rows hiding St
theorem sub_bt : sub "BadText" "BadText" = some true := by decide +kernel
theorem sub_nt : sub "NoText" "NoText" = some true := by decide +kernel
theorem sub_bl : sub "BadLetter" "BadLetter" = some true := by decide +kernel
theorem sub_btr : sub "BadText" "RiverError" = some true := by decide +kernel
theorem sub_ntr : sub "NoText" "RiverError" = some true := by decide +kernel
theorem sub_blr : sub "BadLetter" "RiverError" = some true := by decide +kernel
theorem kn_bt : kn "BadText" = true := by decide +kernel
theorem kn_nt : kn "NoText" = true := by decide +kernel
theorem kn_bl : kn "BadLetter" = true := by decide +kernel
open Classical
section
variable {ρ : Env'} {h : HP}
theorem gT2_ok {i j : Nat} {a b : D} : gT 2 (gsC (gN i) (gsC (gN j) gsN)) (.tup [a, b]) ρ h = .ok ((ρ.set i (some a)).set j (some b)) h := rfl
theorem hd_eq {kind n k : Nat} {sb : Str → Option Bool} {ls : List EM} {lm : EM} (e : ls[k]? = some lm) : eHd kind sb n ls (eLam n k) ρ h = hdR kind sb (lm ρ h) := by
  show (if n = n then (match ls[k]? with
    | some lm => hdR kind sb (lm ρ h)
    | none => .bad) else .bad) = _
  rw [if_pos rfl, e]
theorem hd_fine {sb : Str → Option Bool} {v : D} : hdR 2 sb (.ok v h) = .ok (.tup [.non, v]) h := rfl
theorem hd_exc {sb : Str → Option Bool} {c : Str} {v : D} (e : sb c = some true) : hdR 2 sb (.exc c v h) = .ok (.tup [.exc c v, .non]) h := by
  unfold hdR
  simp only [e]
theorem call1_eq {f : FSem} {a : EM} {x : D} (ha : a ρ h = .ok x h) : eCl f 1 1 0 [0] (aC a aN) aN ρ h = f [x] h := by
  rw [w_eCl, w_aC, ha, w_ok, w_aN, w_ok, w_ok]
  simp
theorem tOr_f {a b : TM} {c : Bool} (ha : a ρ h = .ok false h) (hb : b ρ h = .ok c h) : tOr' a b ρ h = .ok c h := by
  rw [w_tOr, ha, w_ok]; exact hb
theorem tAn_t {a b : TM} {c : Bool} (ha : a ρ h = .ok true h) (hb : b ρ h = .ok c h) : tAn a b ρ h = .ok c h := by
  rw [w_tAn, ha, w_ok]; exact hb
theorem tAn_f {a b : TM} (ha : a ρ h = .ok false h) : tAn a b ρ h = .ok false h := by
  rw [w_tAn, ha, w_ok]; rfl
theorem tN_ok {a : TM} {c : Bool} (ha : a ρ h = .ok c h) : tN a ρ h = .ok (!c) h := by
  rw [w_tN, ha, w_ok]
theorem ne_s {s : List Nat} : bNe2 (.str s) (.str s) h = .ok (.bl false) h := by
  show R.ok (D.bl (!decide (s = s))) h = _
  rw [decide_eq_true rfl]; rfl
theorem eq_s {s : List Nat} : bEq2 (.str s) (.str s) h = .ok (.bl true) h := eqt
theorem isx_ok {c k : Str} {v : D} {b : Bool} (e : sub c k = some b) : fIsx sub [.exc c v, .cls k] h = .ok (.bl b) h := by
  unfold fIsx
  simp only [e]
theorem val_ok {c : Str} {v : D} {a : EM} (ha : a ρ h = .ok (.exc c v) h) (e : kn c = true) : e1 (fVal kn) a ρ h = .ok v h := by
  rw [w_e1, ha, w_ok]
  unfold fVal
  simp only [e]
  rfl
theorem repr_at {B k : Nat} {d : D} (g : Gd B k d) (hB : B ≤ 1000000) (hk : k ≤ 60) : ∃ r, ∀ h : HP, fRepr [d] h = .ok (.str r) h := by
  obtain ⟨t, e, _⟩ := repr_ok g.2.1 (by have := g.2.2.1; omega) (by have := g.2.2.2; omega)
  exact ⟨t, fun h => fRepr_ok e⟩
end
theorem Tx_gd {B : Nat} {d : D} (h : Tx B d) (hB : B ≤ 2000) : Gd 20010 0 d := by
  obtain ⟨t, rfl, h1, h2⟩ := h
  exact ⟨pl_mk (by omega) fun x hx => by have := h2 x hx; omega, List.all_eq_true.mpr fun x hx => decide_eq_true (by have := h2 x hx; omega), by show 10 * t.length + 2 ≤ _; omega, Nat.le_refl _⟩
theorem let_Tx {d : D} (h : letB d = true) : Tx 600 (.str (joi (letW d))) := ⟨_, rfl, by have := joi_len (let_gw h); have := letW_len h; omega, joi_ch (let_gw h)⟩
def odL : List D := [.non, .int 7, .lst [.str [97,32,49,32,48,32,116,97,107,101,32,49]], .str (repT [97] 2001)]
theorem rep_len : (repT [97] 2001).length = 2001 := by unfold repT; simp
theorem rep_ch : ∀ c ∈ repT [97] 2001, c < 128 := fun c hc => by
  unfold repT at hc
  rw [List.mem_flatten] at hc
  obtain ⟨l, hl, hc⟩ := hc
  rw [List.eq_of_mem_replicate hl, List.mem_singleton] at hc
  omega
theorem odL_ok : ∀ d ∈ odL, Gd 30000 1 d ∧ ∀ (n : Nat) (h : HP), 10 ≤ n → runP P n 34 [d] h = .exc "NoText" d h := by
  intro d hd
  unfold odL at hd
  simp only [List.mem_cons, List.not_mem_nil, or_false] at hd
  rcases hd with rfl | rfl | rfl | rfl
  · exact ⟨Gd_non (by omega), fun n h hn => s_read_odd (by omega) rfl (by intro t z; cases z)⟩
  · exact ⟨Gd_int (by omega) (by decide), fun n h hn => s_read_odd (by omega) rfl (by intro t z; cases z)⟩
  · exact ⟨⟨by decide, by decide, by decide, by decide⟩, fun n h hn => s_read_odd (by omega) (by decide) (by intro t z; cases z)⟩
  · have hp : pl (.str (repT [97] 2001)) = true := pl_mk (by rw [rep_len]; omega) fun c hc => by have := rep_ch c hc; omega
    refine ⟨⟨hp, List.all_eq_true.mpr fun x hx => decide_eq_true (by have := rep_ch x hx; omega), by show 10 * (repT [97] 2001).length + 2 ≤ _; rw [rep_len]; omega, Nat.zero_le _⟩, fun n h hn => ?_⟩
    rw [s_read_letter hn hp]
    unfold readR
    rw [if_neg (by rw [rep_len]; omega)]
theorem mul_a {h : HP} : bMul2 (.str [97]) (.int 2001) h = .ok (.str (repT [97] 2001)) h := by
  show (if (2 : Int) ≤ 2001 ∧ (2001 : Int) ≤ 10000 ∧ ([97] : List Nat) ≠ [] ∧ ([97] : List Nat).length ≤ 100 then R.ok (D.str (repT [97] (2001 : Int).toNat)) h else .bad) = _
  rw [if_pos (by decide)]
  rfl
theorem read_back {d : D} {h : HP} (v : letB d = true) : readR (joi (letW d)) h = .ok d h := by
  obtain ⟨t, e, l, _⟩ := let_Tx v
  cases e
  unfold readR
  rw [if_pos (by omega), spl_joi (by have := letW_len v; intro z; rw [z] at this; simp at this) (let_gw v), let_back v]
  have : isNon d = false := by
    cases d <;> first | rfl | cases v
  rw [this, if_neg (by simp)]
theorem but_nofn {j c m : Nat} {h h' : HP} (b : But j h h') (p : Pot j c h') (k : h.all (nofnS m) = true) : h'.all (nofnS m) = true := List.all_eq_true.mpr fun o ho => by
  obtain ⟨i, hi⟩ := List.mem_iff_getElem?.mp ho
  by_cases z : i = j
  · subst z
    obtain ⟨own, mix, cnt, e, _⟩ := p
    rw [e] at hi
    cases hi
    rfl
  · rw [b.2 i z] at hi
    exact List.all_eq_true.mp k _ (List.mem_of_getElem? hi)
theorem iA_wp {a : EM} {ρ : Env'} {h : HP} {C : List D → HP → Prop} (w : Wp (a ρ h) fun d h1 => ∃ xs, d = .tup xs ∧ C xs h1) : Wp (iA a ρ h) fun m h1 => ∃ xs, m = ⟨xs, fun _ => True⟩ ∧ C xs h1 := by
  obtain ⟨d, h1, e, xs, rfl, q⟩ := w.ex
  refine Wp.of (a := ⟨xs, fun _ => True⟩) (h := h1) ?_ ⟨xs, rfl, q⟩
  rw [w_iA, e, w_ok]; rfl
/-- one turn: a text that is otherwise -/
theorem s_right {n : Nat} (hn : 12 ≤ n) {j c : Nat} {h : HP} (p : Pot j c h) (hcc : c + 600 < 2 ^ 40) (hk : h.all (nofnS (n - 1)) = true) : Wp (runP P n 51 [.ref j] h) fun d h' => d = .bl true ∧ Pot j (c + 600) h' ∧ But j h h' := by
  obtain ⟨m, rfl, hm⟩ := succ_of hn
  rw [e__law_right]
  have hj := p.lt
  have w : Wp (runD false 0 10 (m__law_right m (runP P m)) [.ref j] h) fun d h' => d = .bl true ∧ Pot j (c + 600) h' ∧ But j h h' := by
    refine runD_wp hj ?_
    show Wp (m__law_right m _ [some (.ref j), none, none, none, none, none, none, none, none, none] h) _
    unfold m__law_right
    refine sFo_wp (iA_wp (C := fun xs h1 => xs ≠ [] ∧ xs.length ≤ 10 ∧ (∀ x ∈ xs, letB x = true) ∧ Pot j (c + 156) h1 ∧ But j h h1) ?_) ?_
    · obtain ⟨d, h1, e, i, rfl, i0, i1, p1, b1⟩ := (tk_wp (n := m) (b := eC (.int 9)) (u := 9) (ρ := [some (.ref j), none, none, none, none, none, none, none, none, none]) (by omega) rfl rfl p (by omega) (by decide) (by decide)).ex
      refine call2_wp (eV_at (d := .ref j) rfl) e ((s_letters (n := m) (mn := i) (by omega) i0 (by omega) p1 (by omega)).imp ?_)
      rintro d h2 ⟨⟨xs, rfl, x0, x1, x2⟩, p2, b2⟩
      exact ⟨xs, rfl, x0, x1, x2, p2.mono (by omega), b1.trans b2⟩
    rintro _ h1 ⟨xs, rfl, x0, x1, x2, p1, b1⟩
    refine forM_inv (fun k ρ h' => ∃ (l t1 lap o ca to : Option D), ρ = [some (.ref j), l, t1, lap, o, ca, to, none, none, none] ∧ (0 < k → ∃ d, l = some d ∧ letB d = true) ∧ Pot j (c + 156 + 36 * k) h' ∧ But j h h') _ (fun _ _ _ _ => trivial) xs.length xs 0 _ _ (by omega) ⟨none, none, none, none, none, none, rfl, by omega, p1.mono (by omega), b1⟩ ?_ ?_
    · rintro d hd k _ h2 hk ⟨l, t1, lap, o, ca, to, rfl, _, p2, b2⟩
      have v := x2 d hd
      rw [w_gN, wp_ok]
      obtain ⟨T0, eT, lT, cT⟩ := let_Tx v
      have vp := let_pl v
      have gd := (T_let v).gd
      have gT := Tx_gd (let_Tx v) (by omega)
      have rb := fun h => read_back (h := h) v
      have tl := fun h : HP => s_law_text (n := m) (h := h) (by omega) v
      have tx := fun h : HP => s_letter_text (n := m) (h := h) (by omega) vp
      rw [eT] at gT tl
      cases eT
      simp only [v, if_true] at tx
      generalize joi (letW d) = T at *
      obtain ⟨rT, hrT⟩ := repr_at gT (by omega) (by omega)
      obtain ⟨rd, hrd⟩ := repr_at gd (by omega) (by omega)
      have rt := fun h : HP => (s_read_letter (n := m) (h := h) (by omega) gT.1).trans (rb h)
      refine wp_cons (ρ1 := [some (.ref j), some d, some (.str T), lap, o, ca, to, none, none, none]) (h1 := h2) (sAs_ok ((call1_eq (eV_at rfl)).trans (tl h2)) rfl) ?_
      refine if_wp (c := false) (tOr_f (tV_ok (e2_ok (eA_ok (aC_ok ((call1_eq (eV_at rfl)).trans (tx h2)) aN_ok) (hrT h2)) (eA_ok (aC_ok (eV_at rfl) aN_ok) (hrT h2)) ne_s)) (tV_ok (e2_ok (eA_ok (aC_ok ((call1_eq (eV_at rfl)).trans (rt h2)) aN_ok) (hrd h2)) (eA_ok (aC_ok (eV_at rfl) aN_ok) (hrd h2)) ne_s))) ?_
      rw [if_neg (by simp)]
      refine skp ?_
      refine sFo_wp (C := fun mm h3 => mm = ⟨(List.range 6).map fun k => D.int (0 + (k : Nat)), fun _ => True⟩ ∧ h3 = h2) (Wp.of (by rw [w_iR, aC_ok eC_ok aN_ok, w_ok, iRk1 (by decide) (by decide)]; rfl) ⟨rfl, rfl⟩) ?_
      rintro _ _ ⟨rfl, rfl⟩
      have hl : ((List.range 6).map fun k => D.int (0 + (k : Nat))).length = 6 := by simp
      refine forM_inv (fun k2 ρ h' => ∃ (lap o ca to : Option D), ρ = [some (.ref j), some d, some (.str T), lap, o, ca, to, none, none, none] ∧ Pot j (c + 156 + 36 * k + 6 * k2) h' ∧ But j h h') _ (fun _ _ _ _ => trivial) 6 _ 0 _ _ (by rw [hl]; omega) ⟨_, _, _, _, rfl, p2, b2⟩ ?_ ?_
      · rintro dl _ k2 _ h3 hk2 ⟨lap, o, ca, to, rfl, p3, b3⟩
        rw [w_gN, wp_ok]
        refine as_wp (call2_wp (eV_at (d := .ref j) rfl) (eV_at (d := .str T) rfl) (s_spoilt (n := m) (by omega) lT cT p3 (by omega))) ?_
        rintro _ h4 ⟨⟨ot, rfl, ol, oc⟩, p4, b4⟩
        refine ⟨[some (.ref j), some d, some (.str T), some dl, some (.str ot), ca, to, none, none, none], h4, rfl, ?_⟩
        have go : Gd 20010 0 (.str ot) := Tx_gd ⟨ot, rfl, ol, oc⟩ (by omega)
        obtain ⟨ro, hro⟩ := repr_at go (by omega) (by omega)
        have ro' := s_read_letter (n := m) (h := h4) (by omega) go.1
        have fine : ∀ ca to : D, ∃ f : Env', f = [some (.ref j), some d, some (.str T), some dl, some (.str ot), some ca, some to, none, none, none] ∧ ∃ (lap o ca to : Option D), f = [some (.ref j), some d, some (.str T), lap, o, ca, to, none, none, none] ∧ Pot j (c + 156 + 36 * k + 6 * (k2 + 1)) h4 ∧ But j h h4 := fun ca to => ⟨_, rfl, _, _, _, _, rfl, p4.mono (by omega), b3.trans b4⟩
        unfold readR at ro'
        rw [if_pos (by omega)] at ro'
        cases hz : isNon (letIn (spl ot)) with
        | false =>
          rw [hz, if_neg (by simp)] at ro'
          obtain ⟨y1, y2⟩ := letIn_of hz
          generalize letIn (spl ot) = dd at *
          have jo : joi (letW dd) = ot := by rw [y2, joi_spl]
          have tl2 := s_law_text (n := m) (h := h4) (by omega) y1
          have il := s_is_letter (n := m) (h := h4) (by omega) (let_pl y1)
          rw [jo] at tl2
          rw [y1] at il
          refine wp_cons (ρ1 := [some (.ref j), some d, some (.str T), some dl, some (.str ot), some .non, some dd, none, none, none]) (h1 := h4) (sAs_ok (d := .tup [.non, dd]) ((hd_eq (by rfl)).trans (by rw [call1_eq (eV_at (d := .str ot) rfl), ro']; rfl)) gT2_ok) ?_
          refine if_wp (c := false) (tAn_t (tV_ok (e2_ok (eV_at rfl) eC_ok rfl)) (tOr_f (tV_ok (e2_ok ((call1_eq (eV_at (d := dd) rfl)).trans il) eC_ok (by rw [w_isB, decide_eq_true rfl]; rfl))) (tV_ok (e2_ok ((call1_eq (eV_at (d := dd) rfl)).trans tl2) (eV_at rfl) ne_s)))) ?_
          rw [if_neg (by simp)]
          refine skp ?_
          refine if_wp (c := false) (tAn_f (tV_ok (e2_ok (eV_at (d := .non) rfl) eC_ok rfl))) ?_
          rw [if_neg (by simp)]
          refine skp ?_
          refine if_wp (c := false) (tAn_f (tV_ok (e2_ok (eV_at (d := .non) rfl) eC_ok rfl))) ?_
          rw [if_neg (by simp)]
          refine skp ?_
          obtain ⟨f, rfl, q⟩ := fine .non dd
          exact q
        | true =>
          rw [hz, if_pos rfl] at ro'
          have ne : ¬ ot = T := by
            rintro rfl
            have := rb h4
            unfold readR at this
            rw [if_pos (by omega), hz, if_pos rfl] at this
            cases this
          refine wp_cons (ρ1 := [some (.ref j), some d, some (.str T), some dl, some (.str ot), some (.exc "BadText" (.str ot)), some .non, none, none, none]) (h1 := h4) (sAs_ok (d := .tup [.exc "BadText" (.str ot), .non]) ((hd_eq (by rfl)).trans (by rw [call1_eq (eV_at (d := .str ot) rfl), ro', hd_exc (sb := fun y => sub y "RiverError") sub_btr])) gT2_ok) ?_
          refine if_wp (c := false) (tAn_f (tV_ok (e2_ok (eV_at (d := .exc "BadText" (.str ot)) rfl) eC_ok rfl))) ?_
          rw [if_neg (by simp)]
          refine skp ?_
          refine if_wp (c := false) (tAn_t (tV_ok (e2_ok (eV_at (d := .exc "BadText" (.str ot)) rfl) eC_ok rfl)) (tOr_f (tN_ok (c := true) (tV_ok (eA_ok (aC_ok (eV_at rfl) (aC_ok eC_ok aN_ok)) (isx_ok sub_bt)))) (tV_ok (e2_ok (eA_ok (aC_ok (val_ok (eV_at rfl) kn_bt) aN_ok) (hro h4)) (eA_ok (aC_ok (eV_at rfl) aN_ok) (hro h4)) ne_s)))) ?_
          rw [if_neg (by simp)]
          refine skp ?_
          refine if_wp (c := false) (tAn_t (tV_ok (e2_ok (eV_at (d := .exc "BadText" (.str ot)) rfl) eC_ok rfl)) (tV_ok (e2_ok (eV_at rfl) (eV_at rfl) (eqf ne)))) ?_
          rw [if_neg (by simp)]
          refine skp ?_
          obtain ⟨f, rfl, q⟩ := fine (.exc "BadText" (.str ot)) .non
          exact q
      · rintro _ h3 ⟨lap, o, ca, to, rfl, p3, b3⟩
        rw [Nat.zero_add, hl] at p3
        exact ⟨_, rfl, _, _, _, _, _, _, rfl, fun _ => ⟨d, rfl, v⟩, p3.mono (by omega), b3⟩
    rintro _ h2 ⟨l, t1, lap, o, ca, to, rfl, q, p2, b2⟩
    have xl : 0 < xs.length := List.length_pos_iff.mpr x0
    obtain ⟨d, rfl, v⟩ := q (by omega)
    refine ⟨_, rfl, ?_⟩
    have p2 : Pot j (c + 516) h2 := p2.mono (by omega)
    refine as_wp (C := fun dd h3 => ∃ bad odd, dd = .tup [bad, odd] ∧ Gd 12646 6 bad ∧ odd ∈ odL ∧ Pot j (c + 600) h3 ∧ But j h h3) (eAw (aCw ((call2_wp (eV_at (d := .ref j) rfl) (eV_at (d := d) rfl) (s_bent 5 m (by omega) (by omega) 6118 d (T_let v) j (c + 516) h2 p2 (by omega))).imp ?_))) ?_
    · rintro bad h3 ⟨gb, p3, b3⟩
      refine aCw ((of_wp (n := m) (xs := odL) (by omega) rfl (lst_ok (xs := odL) (aC_ok eC_ok (aC_ok eC_ok (aC_ok (lst_ok rfl (by simp)) (aC_ok (e2_ok eC_ok eC_ok mul_a) aN_ok)))) (by simp [odL])) p3 (by omega) (by simp [odL]) (by simp [odL]) fun x hx => (odL_ok x hx).1.1).imp ?_)
      rintro odd h4 ⟨ho, p4, b4⟩
      exact aNw (tupw (by simp) ⟨bad, odd, rfl, gb, ho, p4.mono (by omega), b2.trans (b3.trans b4)⟩)
    rintro _ h3 ⟨bad, odd, rfl, gb, ho, p3, b3⟩
    refine ⟨_, h3, gT2_ok, ?_⟩
    show Wp (sSq _ _ [some (.ref j), some d, t1, lap, o, ca, to, some bad, some odd, none] h3) _
    obtain ⟨godd, rodd⟩ := odL_ok odd ho
    refine wp_cons (ρ1 := [some (.ref j), some d, t1, lap, o, some (.exc "NoText" odd), to, some bad, some odd, none]) (h1 := h3) (sAs_ok (e2_ok (x := .tup [.exc "NoText" odd, .non]) ((hd_eq (by rfl)).trans (by rw [call1_eq (eV_at (d := odd) rfl), rodd m h3 (by omega), hd_exc (sb := fun y => sub y "RiverError") sub_ntr])) eC_ok rfl) rfl) ?_
    obtain ⟨rb, hrb⟩ := repr_at gb (by omega) (by omega)
    obtain ⟨ro, hro⟩ := repr_at godd (by omega) (by omega)
    have tx := s_letter_text (n := m) (h := h3) (by omega) gb.1
    have il := s_is_letter (n := m) (h := h3) (by omega) gb.1
    have fin : ∀ its : D, (letB bad = false → its = .exc "BadLetter" bad) → Wp ((sSq (sIf (tOr' (tN (tV (eA (fIsx sub) (aC (eV 5) (aC (eC c_NoText) aN))))) (tV (e2 bNe2 (eA fRepr (aC (e1 (fVal kn) (eV 5)) aN)) (eA fRepr (aC (eV 8) aN))))) (sSq (sRe (eC (.bl false)))
  sNx) sNx)
  (sSq (sRe (eOr (eCl (runP P m 21) 1 1 0 [0] (aC (eV 7) aN) aN) (eAn (eA (fIsx sub) (aC (eV 9) (aC (eC c_BadLetter) aN))) (e2 bEq2 (eA fRepr (aC (e1 (fVal kn) (eV 9)) aN)) (eA fRepr (aC (eV 7) aN))))))
  sNx)) [some (.ref j), some d, t1, lap, o, some (.exc "NoText" odd), to, some bad, some odd, some its] h3) fun f h' => ∃ d', f = .ret d' ∧ nn h.length d' = true ∧ Pot j (c + 600) h' ∧ ButL j h h' ∧ d' = .bl true := by
      intro its hits
      refine if_wp (c := false) (tOr_f (tN_ok (c := true) (tV_ok (eA_ok (aC_ok (eV_at rfl) (aC_ok eC_ok aN_ok)) (isx_ok sub_nt)))) (tV_ok (e2_ok (eA_ok (aC_ok (val_ok (eV_at rfl) kn_nt) aN_ok) (hro h3)) (eA_ok (aC_ok (eV_at rfl) aN_ok) (hro h3)) ne_s))) ?_
      rw [if_neg (by simp)]
      refine skp ?_
      refine ret_wp (Wp.of (a := .bl true) (h := h3) ?_ ⟨_, rfl, rfl, p3, b3.l, rfl⟩)
      rw [w_eOr, (call1_eq (eV_at (d := bad) rfl)).trans il, w_ok, w_asB, w_ok]
      cases hb : letB bad with
      | true => rfl
      | false =>
        rw [hits hb]
        show eAn _ _ _ _ = _
        have e9 : eA (fIsx sub) (aC (eV 9) (aC (eC c_BadLetter) aN)) [some (.ref j), some d, t1, lap, o, some (.exc "NoText" odd), to, some bad, some odd, some (.exc "BadLetter" bad)] h3 = .ok (.bl true) h3 := eA_ok (aC_ok (eV_at (d := .exc "BadLetter" bad) rfl) (aC_ok eC_ok aN_ok)) (isx_ok sub_bl)
        rw [w_eAn, e9, w_ok, w_asB, w_ok]
        exact e2_ok (eA_ok (aC_ok (val_ok (eV_at rfl) kn_bl) aN_ok) (hrb h3)) (eA_ok (aC_ok (eV_at rfl) aN_ok) (hrb h3)) eq_s
    cases hb : letB bad with
    | true =>
      rw [if_pos hb] at tx
      refine wp_cons (ρ1 := [some (.ref j), some d, t1, lap, o, some (.exc "NoText" odd), to, some bad, some odd, some .non]) (h1 := h3) (sAs_ok (e2_ok (x := .tup [.non, .str (joi (letW bad))]) ((hd_eq (by rfl)).trans (by rw [call1_eq (eV_at (d := bad) rfl), tx]; rfl)) eC_ok rfl) rfl) (fin _ fun z => by rw [hb] at z; cases z)
    | false =>
      rw [if_neg (by rw [hb]; simp)] at tx
      refine wp_cons (ρ1 := [some (.ref j), some d, t1, lap, o, some (.exc "NoText" odd), to, some bad, some odd, some (.exc "BadLetter" bad)]) (h1 := h3) (sAs_ok (e2_ok (x := .tup [.exc "BadLetter" bad, .non]) ((hd_eq (by rfl)).trans (by rw [call1_eq (eV_at (d := bad) rfl), tx, hd_exc (sb := fun y => sub y "RiverError") sub_blr])) eC_ok rfl) rfl) (fin _ fun _ => rfl)
  obtain ⟨d, h', e, rfl, p', b'⟩ := w.ex
  refine Wp.of (a := .bl true) (h := h') ?_ ⟨rfl, p', b'⟩
  show leave true m (runD false 0 10 (m__law_right m (runP P m)) [.ref j] h) = _
  rw [e]
  show (if nofn m (.bl true) && h'.all (nofnS m) then R.ok (D.bl true) h' else .bad) = _
  rw [but_nofn b' p' (show h.all (nofnS m) = true from hk)]
  rfl
end Zk
end

/-! N31 -/
set_option exponentiation.threshold 9000
noncomputable section
namespace Zk
open PySem PySem.Spec L2 Zs
open PyProof.Rows hiding St
/-- the first letter by hand -/
def l5 : D := .tup [.str [97], .int 2, .int 5, .tup [.str [112,117,116], .str [103,111,111,100,115], .tup [.tup [.str [112,114,105,99,101], .int (-3)], .tup [.str [119,97,114,101], .str [55]]]]]
theorem l5_ok : letB l5 = true := by decide +kernel
theorem l5_w : joi (letW l5) = t5 := by decide +kernel
def tsL : List D := [.str t4, .str t3, .str t2, .str [97,32,49,32,48,32,116,97,107,101,32,48], .str t1]
open Classical
theorem let_tail {d : D} {l : List (List Nat)} (h : letB d = true) (e : letW d = l) : ∃ x, deedB x = true ∧ deedW x = l.drop 3 := by
  obtain ⟨s, n, t, x, rfl, _, _, _, _, _, hd⟩ := letB_of h
  exact ⟨x, hd, by rw [← e]; rfl⟩
theorem deed_forms {x : D} {r : List (List Nat)} (h : deedB x = true) (e : deedW x = r) : (∃ (s : List Nat) (xs : List D), (xs.all nvB = true ∧ asc (xs.map nm) = true) ∧ [wPut, s] ++ xs.flatMap pairW = r) ∨ (∃ i : Int, 1 ≤ i ∧ i ≤ 1000000 ∧ [wTake, intT i] = r) ∨ (∃ (s : List Nat) (st : D), stepB st = true ∧ [wGrow, s] ++ stepW st = r) ∨ ∃ i : Int, 0 ≤ i ∧ i ≤ 1000000000 ∧ [wClock, intT i] = r := by
  rcases deedB_of h with ⟨s, xs, rfl, hs, z1, z3, z4⟩ | ⟨i, rfl, i1, i2⟩ | ⟨s, st, rfl, hs, ht⟩ | ⟨i, rfl, i1, i2⟩
  · exact .inl ⟨s, xs, ⟨z3, z4⟩, e⟩
  · exact .inr (.inl ⟨i, i1, i2, e⟩)
  · exact .inr (.inr (.inl ⟨s, st, ht, e⟩))
  · exact .inr (.inr (.inr ⟨i, i1, i2, e⟩))
theorem int_back {i : Int} {w : List Nat} {k : Int} (h : i.natAbs < 10 ^ 14) (e : intT i = w) (hk : k.natAbs < 10 ^ 14) (r : intT k = w) : i = k := by
  have h1 := RI_int h
  have h2 := RI_int hk
  rw [e] at h1
  rw [r, h1] at h2
  injection h2
theorem no_step {st : D} (h : stepB st = true) (e : stepW st = [wNew]) : False := by
  rcases stepB_of h with ⟨xs, rfl, hs⟩ | ⟨a, rfl, ha⟩ | ⟨s, rfl, hs⟩ | ⟨s, t, rfl, hs, ht⟩ | ⟨s, b, rfl, hs, hb⟩
  · have e : wNew :: xs.flatMap colW = [wNew] := e
    obtain ⟨h1, _⟩ := shpB_of hs
    cases xs with
    | nil => simp at h1
    | cons x r =>
      have := congrArg List.length e
      simp [colW] at this
  · have e : [wAdd] = [wNew] := congrArg (·.take 1) e
    exact absurd e (by decide)
  · have e : [wDrop] = [wNew] := congrArg (·.take 1) e
    exact absurd e (by decide)
  · have e : [wName] = [wNew] := congrArg (·.take 1) e
    exact absurd e (by decide)
  · have e : [wFirst] = [wNew] := congrArg (·.take 1) e
    exact absurd e (by decide)
theorem bad_text {t : List Nat} {r : List (List Nat)} (hr : (spl t).drop 3 = r) (h1 : ∀ (s : List Nat) (xs : List D), xs.all nvB = true ∧ asc (xs.map nm) = true → ([wPut, s] ++ xs.flatMap pairW : List (List Nat)) = r → False) (h2 : ∀ i : Int, 1 ≤ i → i ≤ 1000000 → [wTake, intT i] = r → False) (h3 : ∀ (s : List Nat) (st : D), stepB st = true → ([wGrow, s] ++ stepW st : List (List Nat)) = r → False) (h4 : ∀ i : Int, 0 ≤ i → i ≤ 1000000000 → [wClock, intT i] = r → False) (hl : t.length ≤ 2000) (h : HP) : readR t h = .exc "BadText" (.str t) h := by
  unfold readR
  rw [if_pos hl]
  cases z : isNon (letIn (spl t)) with
  | true => rw [if_pos rfl]
  | false =>
    obtain ⟨y1, y2⟩ := letIn_of z
    obtain ⟨x, hx, ex⟩ := let_tail y1 y2
    rw [hr] at ex
    rcases deed_forms hx ex with ⟨s, xs, q, e⟩ | ⟨i, i1, i2, e⟩ | ⟨s, st, q, e⟩ | ⟨i, i1, i2, e⟩
    · exact (h1 s xs q e).elim
    · exact (h2 i i1 i2 e).elim
    · exact (h3 s st q e).elim
    · exact (h4 i i1 i2 e).elim
theorem hd1 {a b : List Nat} {l m : List (List Nat)} (e : a :: l = b :: m) (n : ¬ a = b) : False := by injection e with z _; exact n z
theorem tsL_ok : ∀ d ∈ tsL, ∃ t, d = .str t ∧ pl (.str t) = true ∧ ∀ h, readR t h = .exc "BadText" (.str t) h := by
  intro d hd
  unfold tsL at hd
  simp only [List.mem_cons, List.not_mem_nil, or_false] at hd
  rcases hd with rfl | rfl | rfl | rfl | rfl
  · refine ⟨_, rfl, by decide, bad_text (r := [wPut, [103,111,111,100,115], [112,114,105,99,101], [39,51], [112,114,105,99,101], [51]]) (by decide) ?_ (fun i _ _ e => hd1 e (by decide)) (fun s st _ e => hd1 e (by decide)) (fun i _ _ e => hd1 e (by decide)) (by decide)⟩
    intro s xs q e
    have e : xs.flatMap pairW = [[112,114,105,99,101], [39,51], [112,114,105,99,101], [51]] := congrArg (·.drop 2) e
    match xs, q, e with
    | [], _, e => simp at e
    | [x], _, e => simp [pairW] at e
    | [x, y], q, e =>
      have e1 : [tx (nth x 0), valT (nth x 1), tx (nth y 0), valT (nth y 1)] = [[112,114,105,99,101], [39,51], [112,114,105,99,101], [51]] := e
      obtain ⟨q1, q2⟩ := q
      obtain ⟨s1, b1, rfl, _⟩ := nvB_of (List.all_eq_true.mp q1 x (by simp))
      obtain ⟨s2, b2, rfl, _⟩ := nvB_of (List.all_eq_true.mp q1 y (by simp))
      have e1 : [s1, valT b1, s2, valT b2] = [[112,114,105,99,101], [39,51], [112,114,105,99,101], [51]] := e1
      injection e1 with a1 e1
      injection e1 with a2 e1
      injection e1 with a3 e1
      subst a1 a3
      have q2 : asc [[112,114,105,99,101], [112,114,105,99,101]] = true := q2
      exact absurd q2 (by decide)
    | x :: y :: z :: r, _, e => simp [pairW] at e
  · refine ⟨_, rfl, by decide, bad_text (r := [wGrow, [103,111,111,100,115], wNew]) (by decide) (fun s xs _ e => hd1 e (by decide)) (fun i _ _ e => hd1 e (by decide)) ?_ (fun i _ _ e => hd1 e (by decide)) (by decide)⟩
    intro s st q e
    exact no_step q (congrArg (·.drop 2) e)
  · refine ⟨_, rfl, by decide, bad_text (r := [wClock, [45,49]]) (by decide) (fun s xs _ e => hd1 e (by decide)) (fun i _ _ e => hd1 e (by decide)) (fun s st _ e => hd1 e (by decide)) ?_ (by decide)⟩
    intro i i0 i1 e
    injection e with _ e
    injection e with e _
    have := int_back (by omega) e (k := -1) (by decide) (by decide +kernel)
    omega
  · refine ⟨_, rfl, by decide, bad_text (r := [wTake, [48]]) (by decide) (fun s xs _ e => hd1 e (by decide)) ?_ (fun s st _ e => hd1 e (by decide)) (fun i _ _ e => hd1 e (by decide)) (by decide)⟩
    intro i i0 i1 e
    injection e with _ e
    injection e with e _
    have := int_back (by omega) e (k := 0) (by decide) (by decide +kernel)
    omega
  · refine ⟨_, rfl, by decide, bad_text (r := [wTake, [49], []]) (by decide) (fun s xs _ e => hd1 e (by decide)) (fun i _ _ e => by have := congrArg List.length e; simp at this) (fun s st _ e => hd1 e (by decide)) (fun i _ _ e => hd1 e (by decide)) (by decide)⟩
theorem t_pot {n : Nat} (hn : 1 ≤ n) {ns : List Int} {p : Int} {h : HP} (hp : 0 ≤ p) (hp2 : p < 2 ^ 40) : ∃ o : Option O, runP P n 35 [.scr (ns.map D.int), .int p] h = .ok (.ref h.length) (h ++ [o]) ∧ Pot h.length 0 (h ++ [o]) := by
  obtain ⟨m, rfl, hm⟩ := succ_of hn
  rw [e__law_pot]
  obtain ⟨o, e, q⟩ := pot_run (h := h) (fb := fbA 1000003 7556 27039) (c1 := 151520) (c2 := 8806) (c3 := 206) (p := p) (ns := ns) (fbA_ok (by decide) (by decide)) (by decide) (by decide) hp hp2
  refine ⟨o, ?_, q⟩
  have e' : m__law_pot (runP P m) (startE 5 [.scr (ns.map D.int), .int p]) h = .ok (.ret (.ref h.length)) (h ++ [o]) := e
  show (match m__law_pot (runP P m) (startE 5 [.scr (ns.map D.int), .int p]) h with
    | .ok (.ret d) h' => fin true 0 h d h'
    | .ok (.nx _) h' => fin true 0 h .non h'
    | .ok (.exc c d _) h' => finX 0 h c d h'
    | _ => .bad) = _
  rw [e']
  rfl
theorem all_true {ys : List D} {h : HP} (hy : ∀ y ∈ ys, y = .bl true) : fAll [.lst ys] h = .ok (.bl true) h := by
  have : ∀ zs : List D, (∀ y ∈ zs, y = .bl true) → ∃ bs, blsOf zs = some bs ∧ bs.all id = true := by
    intro zs
    induction zs with
    | nil => exact fun _ => ⟨[], rfl, rfl⟩
    | cons z zs ih =>
      intro hz
      obtain ⟨bs, b1, b2⟩ := ih fun y hy => hz y (List.mem_cons_of_mem _ hy)
      have := hz z List.mem_cons_self
      subst this
      refine ⟨true :: bs, ?_, by simpa using b2⟩
      show (blsOf zs).map (true :: ·) = _
      rw [b1]; rfl
  obtain ⟨bs, b1, b2⟩ := this ys hy
  simp only [fAll, lrOf, lsOf, b1, b2]
theorem law_true (ns : List Int) (hl : ns.length ≤ 63) : ∃ h', runP P 13 52 [.scr (ns.map D.int)] [] = .ok (.bl true) h' := by
  rw [e_law]
  suffices w : Wp (m_law 12 (runP P 12) [some (.scr (ns.map D.int)), none, none, none, none] []) fun f h' => f = .ret (.bl true) by
    obtain ⟨f, h', e, rfl⟩ := w.ex
    refine ⟨[], ?_⟩
    have e2 : m_law 12 (runP P 12) (startE 5 [.scr (ns.map D.int)]) [] = .ok (.ret (.bl true)) h' := e
    have e3 : runD false 0 5 (m_law 12 (runP P 12)) [.scr (ns.map D.int)] [] = .ok (.bl true) (h'.take 0) := runD_ret e2 ⟨Nat.zero_le _, fun i o hi _ => by simp at hi⟩ rfl
    show leave true 12 (runD false 0 5 (m_law 12 (runP P 12)) [.scr (ns.map D.int)] []) = _
    rw [e3]
    rfl
  unfold m_law
  have tx := s_letter_text (n := 12) (h := []) (by decide) (let_pl l5_ok)
  rw [if_pos l5_ok, l5_w] at tx
  refine if_wp (c := false) (tV_ok (e2_ok ((call1_eq (x := l5) (by rfl)).trans tx) eC_ok ne_s)) ?_
  rw [if_neg (by simp)]
  refine skp ?_
  refine sFo_wp (iA_wp (C := fun xs h1 => xs = tsL ∧ h1 = []) (Wp.of (a := .tup tsL) (h := []) (by rfl) ⟨_, rfl, rfl, rfl⟩)) ?_
  rintro _ _ ⟨_, rfl, rfl, rfl⟩
  refine forM_inv (fun k ρ h' => ∃ x1, ρ = [some (.scr (ns.map D.int)), x1, none, none, none] ∧ h' = []) _ (fun _ _ _ _ => trivial) tsL.length tsL 0 _ _ (by omega) ⟨none, rfl, rfl⟩ ?_ ?_
  · rintro d hd k _ _ hk ⟨x1, rfl, rfl⟩
    obtain ⟨t, rfl, pt, rt⟩ := tsL_ok d hd
    rw [w_gN, wp_ok]
    have rd := (s_read_letter (n := 12) (h := []) (by decide) pt).trans (rt [])
    refine if_wp (c := false) (tN_ok (c := true) (tV_ok (eA_ok (aC_ok (e2_ok (x := .tup [.exc "BadText" (.str t), .non]) ((hd_eq (by rfl)).trans (by rw [call1_eq (eV_at (d := .str t) rfl), rd, hd_exc (sb := fun y => sub y "RiverError") sub_btr])) eC_ok rfl) (aC_ok eC_ok aN_ok)) (isx_ok sub_bt)))) ?_
    rw [if_neg (by simp)]
    exact skp ⟨_, rfl, rfl⟩
  rintro _ _ ⟨x1, rfl, rfl⟩
  refine ⟨_, rfl, ?_⟩
  obtain ⟨t, t1, t2, ec⟩ := cells_ok (h := []) (ns := ns) (m := 4) hl (by decide) (by decide) (k := 0)
  have ec : runP P 12 38 [.scr (ns.map D.int), .int 4] [] = .ok (.lst (rgD 0 t)) [] := by
    rw [e__law_places]; exact ec
  refine wp_consW ?_
  have ei : iA (eCl (runP P 12 38) 2 2 0 [0, 1] (aC (eV 0) (aC (eC (.int (4))) aN)) aN) [some (.scr (ns.map D.int)), x1, none, none, none] [] = .ok ⟨rgD 0 t, fun h' => lrOf (.lst (rgD 0 t)) h' = some (rgD 0 t)⟩ [] := by
    simp [ec]; rfl
  rw [w_sFo, ei, w_lift]
  refine forM_inv (fun k ρ hh => ∃ x1 x2 x3 x4, ρ = [some (.scr (ns.map D.int)), x1, x2, x3, x4] ∧ hh.all (nofnS 11) = true) _ (fun _ _ _ _ => rfl) (rgD 0 t).length (rgD 0 t) 0 _ [] (by omega) ⟨_, _, _, _, rfl, rfl⟩ (fun d hd k ρ h hk i => ?_) fun ρ h i => ?_
  · obtain ⟨x1, x2, x3, x4, rfl, hn⟩ := i
    obtain ⟨i, hi, rfl⟩ := List.mem_map.mp hd
    have hi2 : i < (t - 0).toNat := List.mem_range.mp hi
    rw [w_gN, wp_ok]
    show Wp (sSq _ _ [some (.scr (ns.map D.int)), x1, some (.int (0 + (i : Nat))), x3, x4] h) _
    obtain ⟨o, ep, pp⟩ := t_pot (n := 12) (by decide) (ns := ns) (p := 0 + (i : Nat)) (h := h) (by omega) (by omega)
    have hn2 : (h ++ [o]).all (nofnS 11) = true := by
      obtain ⟨own, mix, cnt, e, _⟩ := pp
      rw [snoc_at] at e
      cases e
      rw [List.all_append, hn]; rfl
    have ep' : eCl (runP P 12 35) 2 2 0 [0, 1] (aC (eV 0) (aC (eV 2) aN)) aN [some (.scr (ns.map D.int)), x1, some (.int (0 + (i : Nat))), x3, x4] h = .ok (.ref h.length) (h ++ [o]) := by
      rw [w_eCl, aC_ok (eV_at (d := .scr (ns.map D.int)) rfl) (aC_ok (eV_at (d := .int (0 + (i : Nat))) rfl) aN_ok), w_ok, w_aN, w_ok]
      exact ep
    refine wp_cons (ρ1 := [some (.scr (ns.map D.int)), x1, some (.int (0 + (i : Nat))), some (.ref h.length), x4]) (h1 := h ++ [o]) (sAs_ok ep' rfl) ?_
    have w := eLc_inv (o := false) (it := iR (aC (eC (.int 2)) aN)) (t := gN 4) (e := eCl (runP P 12 51) 1 1 0 [0] (aC (eV 3) aN) aN) (vs := [4]) (ρ := [some (.scr (ns.map D.int)), x1, some (.int (0 + (i : Nat))), some (.ref h.length), x4]) (h := h ++ [o]) (h1 := h ++ [o]) (fun k h' => Pot h.length (600 * k) h' ∧ h'.all (nofnS 11) = true) (fun d => d = .bl true)
      (iRk1 (j := 2) (by decide) (by decide)) (fun _ _ _ => trivial) ⟨pp, hn2⟩ (fun d hd k h' hk ⟨p', n'⟩ => by
        rw [w_gN, wp_ok]
        have hk3 : k < 2 := by simpa using hk
        refine (call1_wp (eV_at (d := .ref h.length) rfl) (s_right (n := 12) (by decide) p' (by omega) n')).imp fun y h2 ⟨q1, q2, q3⟩ => ⟨q1, by rw [Nat.mul_add, Nat.mul_one]; exact q2, but_nofn q3 q2 n'⟩) (by simp)
    obtain ⟨ds, h2, e2, ys, h3, e3, ly, hy, p3, n3⟩ := w.ex
    have e3 : R.ok (D.lst ys) h3 = .ok ds h2 := e3
    injection e3 with ea eb
    subst ea eb
    have ea : eA fAll (aC (eLc false (iR (aC (eC (.int (2))) aN)) (gN 4) tYe (eCl (runP P 12 51) 1 1 0 [0] (aC (eV 3) aN) aN) [4]) aN) [some (.scr (ns.map D.int)), x1, some (.int (0 + (i : Nat))), some (.ref h.length), x4] (h ++ [o]) = .ok (.bl true) h3 := by
      rw [w_eA, w_aC, e2, w_ok, w_aN, w_ok, w_ok]
      exact all_true hy
    refine wp_cons (ρ1 := [some (.scr (ns.map D.int)), x1, some (.int (0 + (i : Nat))), some (.ref h.length), x4]) (h1 := h3) (by rw [w_sIf, w_tN, w_tV, ea]; rfl) ⟨_, _, _, _, rfl, n3⟩
  · obtain ⟨x1, x2, x3, x4, rfl, hn⟩ := i
    exact ⟨_, rfl, wp_ret rfl⟩
end Zk
end

/-! the head -/
noncomputable section
namespace Zk
open PySem PySem.Spec L2 Zs
open PyProof.Rows hiding St
theorem kb_is_integer : KbOk d_is_integer := kb_of (List.forall_mem_cons.mpr ⟨(fun kV doc pm an cdv ct us ws (h1 : us.length = 1) (h2 : ws.length = 0) => match us, ws, h1, h2 with | [_], [], _, _ => rfl), (fun _ h => nomatch h)⟩)
theorem kb_is_between : KbOk d_is_between := kb_of (List.forall_mem_cons.mpr ⟨(fun kV doc pm an cdv ct us ws (h1 : us.length = 3) (h2 : ws.length = 0) => match us, ws, h1, h2 with | [_, _, _], [], _, _ => rfl), (fun _ h => nomatch h)⟩)
theorem kb_is_time : KbOk d_is_time := kb_of (List.forall_mem_cons.mpr ⟨(fun kV doc pm an cdv ct us ws (h1 : us.length = 1) (h2 : ws.length = 0) => match us, ws, h1, h2 with | [_], [], _, _ => rfl), (fun _ h => nomatch h)⟩)
theorem kb_read_integer : KbOk d_read_integer := kb_of (List.forall_mem_cons.mpr ⟨(fun kV doc pm an cdv ct us ws (h1 : us.length = 1) (h2 : ws.length = 0) => match us, ws, h1, h2 with | [_], [], _, _ => rfl), (fun _ h => nomatch h)⟩)
theorem kb_is_of_signs : KbOk d_is_of_signs := kb_of (List.forall_mem_cons.mpr ⟨(fun kV doc pm an cdv ct us ws (h1 : us.length = 2) (h2 : ws.length = 0) => match us, ws, h1, h2 with | [_, _], [], _, _ => rfl), (fun _ h => nomatch h)⟩)
theorem kb_is_name : KbOk d_is_name := kb_of (List.forall_mem_cons.mpr ⟨(fun kV doc pm an cdv ct us ws (h1 : us.length = 1) (h2 : ws.length = 0) => match us, ws, h1, h2 with | [_], [], _, _ => rfl), (fun _ h => nomatch h)⟩)
theorem kb_is_word : KbOk d_is_word := kb_of (List.forall_mem_cons.mpr ⟨(fun kV doc pm an cdv ct us ws (h1 : us.length = 1) (h2 : ws.length = 0) => match us, ws, h1, h2 with | [_], [], _, _ => rfl), (fun _ h => nomatch h)⟩)
theorem kb_is_ascending : KbOk d_is_ascending := kb_of (List.forall_mem_cons.mpr ⟨(fun kV doc pm an cdv ct us ws (h1 : us.length = 1) (h2 : ws.length = 0) => match us, ws, h1, h2 with | [_], [], _, _ => rfl), (fun _ h => nomatch h)⟩)
theorem kb_are_unlike : KbOk d_are_unlike := kb_of (List.forall_mem_cons.mpr ⟨(fun kV doc pm an cdv ct us ws (h1 : us.length = 1) (h2 : ws.length = 0) => match us, ws, h1, h2 with | [_], [], _, _ => rfl), (fun _ h => nomatch h)⟩)
theorem kb_are_pairs : KbOk d_are_pairs := kb_of (List.forall_mem_cons.mpr ⟨(fun kV doc pm an cdv ct us ws (h1 : us.length = 1) (h2 : ws.length = 0) => match us, ws, h1, h2 with | [_], [], _, _ => rfl), (fun _ h => nomatch h)⟩)
theorem kb_is_tagged : KbOk d_is_tagged := kb_of (List.forall_mem_cons.mpr ⟨(fun kV doc pm an cdv ct us ws (h1 : us.length = 3) (h2 : ws.length = 0) => match us, ws, h1, h2 with | [_, _, _], [], _, _ => rfl), (fun _ h => nomatch h)⟩)
theorem kb_is_kind : KbOk d_is_kind := kb_of (List.forall_mem_cons.mpr ⟨(fun kV doc pm an cdv ct us ws (h1 : us.length = 1) (h2 : ws.length = 0) => match us, ws, h1, h2 with | [_], [], _, _ => rfl), (fun _ h => nomatch h)⟩)
theorem kb_kind_of : KbOk d_kind_of := kb_of (List.forall_mem_cons.mpr ⟨(fun kV doc pm an cdv ct us ws (h1 : us.length = 1) (h2 : ws.length = 0) => match us, ws, h1, h2 with | [_], [], _, _ => rfl), (fun _ h => nomatch h)⟩)
theorem kb_is_value : KbOk d_is_value := kb_of (List.forall_mem_cons.mpr ⟨(fun kV doc pm an cdv ct us ws (h1 : us.length = 1) (h2 : ws.length = 0) => match us, ws, h1, h2 with | [_], [], _, _ => rfl), (fun _ h => nomatch h)⟩)
theorem kb_is_column : KbOk d_is_column := kb_of (List.forall_mem_cons.mpr ⟨(fun kV doc pm an cdv ct us ws (h1 : us.length = 1) (h2 : ws.length = 0) => match us, ws, h1, h2 with | [_], [], _, _ => rfl), (fun _ h => nomatch h)⟩)
theorem kb_is_shape : KbOk d_is_shape := kb_of (List.forall_mem_cons.mpr ⟨(fun kV doc pm an cdv ct us ws (h1 : us.length = 1) (h2 : ws.length = 0) => match us, ws, h1, h2 with | [_], [], _, _ => rfl), (fun _ h => nomatch h)⟩)
theorem kb_names_in : KbOk d_names_in := kb_of (List.forall_mem_cons.mpr ⟨(fun kV doc pm an cdv ct us ws (h1 : us.length = 1) (h2 : ws.length = 0) => match us, ws, h1, h2 with | [_], [], _, _ => rfl), (fun _ h => nomatch h)⟩)
theorem kb_is_step : KbOk d_is_step := kb_of (List.forall_mem_cons.mpr ⟨(fun kV doc pm an cdv ct us ws (h1 : us.length = 1) (h2 : ws.length = 0) => match us, ws, h1, h2 with | [_], [], _, _ => rfl), (fun _ h => nomatch h)⟩)
theorem kb_is_number : KbOk d_is_number := kb_of (List.forall_mem_cons.mpr ⟨(fun kV doc pm an cdv ct us ws (h1 : us.length = 1) (h2 : ws.length = 0) => match us, ws, h1, h2 with | [_], [], _, _ => rfl), (fun _ h => nomatch h)⟩)
theorem kb_are_told : KbOk d_are_told := kb_of (List.forall_mem_cons.mpr ⟨(fun kV doc pm an cdv ct us ws (h1 : us.length = 1) (h2 : ws.length = 0) => match us, ws, h1, h2 with | [_], [], _, _ => rfl), (fun _ h => nomatch h)⟩)
theorem kb_is_deed : KbOk d_is_deed := kb_of (List.forall_mem_cons.mpr ⟨(fun kV doc pm an cdv ct us ws (h1 : us.length = 1) (h2 : ws.length = 0) => match us, ws, h1, h2 with | [_], [], _, _ => rfl), (fun _ h => nomatch h)⟩)
theorem kb_is_letter : KbOk d_is_letter := kb_of (List.forall_mem_cons.mpr ⟨(fun kV doc pm an cdv ct us ws (h1 : us.length = 1) (h2 : ws.length = 0) => match us, ws, h1, h2 with | [_], [], _, _ => rfl), (fun _ h => nomatch h)⟩)
theorem kb_check_letter : KbOk d_check_letter := kb_of (List.forall_mem_cons.mpr ⟨(fun kV doc pm an cdv ct us ws (h1 : us.length = 1) (h2 : ws.length = 0) => match us, ws, h1, h2 with | [_], [], _, _ => rfl), (fun _ h => nomatch h)⟩)
theorem kb_value_text : KbOk d_value_text := kb_of (List.forall_mem_cons.mpr ⟨(fun kV doc pm an cdv ct us ws (h1 : us.length = 1) (h2 : ws.length = 0) => match us, ws, h1, h2 with | [_], [], _, _ => rfl), (fun _ h => nomatch h)⟩)
theorem kb_value_in : KbOk d_value_in := kb_of (List.forall_mem_cons.mpr ⟨(fun kV doc pm an cdv ct us ws (h1 : us.length = 1) (h2 : ws.length = 0) => match us, ws, h1, h2 with | [_], [], _, _ => rfl), (fun _ h => nomatch h)⟩)
theorem kb_column_words : KbOk d_column_words := kb_of (List.forall_mem_cons.mpr ⟨(fun kV doc pm an cdv ct us ws (h1 : us.length = 1) (h2 : ws.length = 0) => match us, ws, h1, h2 with | [_], [], _, _ => rfl), (fun _ h => nomatch h)⟩)
theorem kb_step_words : KbOk d_step_words := kb_of (List.forall_mem_cons.mpr ⟨(fun kV doc pm an cdv ct us ws (h1 : us.length = 1) (h2 : ws.length = 0) => match us, ws, h1, h2 with | [_], [], _, _ => rfl), (fun _ h => nomatch h)⟩)
theorem kb_deed_words : KbOk d_deed_words := kb_of (List.forall_mem_cons.mpr ⟨(fun kV doc pm an cdv ct us ws (h1 : us.length = 1) (h2 : ws.length = 0) => match us, ws, h1, h2 with | [_], [], _, _ => rfl), (fun _ h => nomatch h)⟩)
theorem kb_letter_words : KbOk d_letter_words := kb_of (List.forall_mem_cons.mpr ⟨(fun kV doc pm an cdv ct us ws (h1 : us.length = 1) (h2 : ws.length = 0) => match us, ws, h1, h2 with | [_], [], _, _ => rfl), (fun _ h => nomatch h)⟩)
theorem kb_columns_in : KbOk d_columns_in := kb_of (List.forall_mem_cons.mpr ⟨(fun kV doc pm an cdv ct us ws (h1 : us.length = 1) (h2 : ws.length = 0) => match us, ws, h1, h2 with | [_], [], _, _ => rfl), (fun _ h => nomatch h)⟩)
theorem kb_step_in : KbOk d_step_in := kb_of (List.forall_mem_cons.mpr ⟨(fun kV doc pm an cdv ct us ws (h1 : us.length = 1) (h2 : ws.length = 0) => match us, ws, h1, h2 with | [_], [], _, _ => rfl), (fun _ h => nomatch h)⟩)
theorem kb_deed_in : KbOk d_deed_in := kb_of (List.forall_mem_cons.mpr ⟨(fun kV doc pm an cdv ct us ws (h1 : us.length = 1) (h2 : ws.length = 0) => match us, ws, h1, h2 with | [_], [], _, _ => rfl), (fun _ h => nomatch h)⟩)
theorem kb_letter_in : KbOk d_letter_in := kb_of (List.forall_mem_cons.mpr ⟨(fun kV doc pm an cdv ct us ws (h1 : us.length = 1) (h2 : ws.length = 0) => match us, ws, h1, h2 with | [_], [], _, _ => rfl), (fun _ h => nomatch h)⟩)
theorem kb_letter_text : KbOk d_letter_text := kb_of (List.forall_mem_cons.mpr ⟨(fun kV doc pm an cdv ct us ws (h1 : us.length = 1) (h2 : ws.length = 0) => match us, ws, h1, h2 with | [_], [], _, _ => rfl), (fun _ h => nomatch h)⟩)
theorem kb_read_letter : KbOk d_read_letter := kb_of (List.forall_mem_cons.mpr ⟨(fun kV doc pm an cdv ct us ws (h1 : us.length = 1) (h2 : ws.length = 0) => match us, ws, h1, h2 with | [_], [], _, _ => rfl), (fun _ h => nomatch h)⟩)
theorem kb__law_pot : KbOk d__law_pot := kb_of (List.forall_mem_cons.mpr ⟨(fun kV doc pm an cdv ct us ws (h1 : us.length = 2) (h2 : ws.length = 0) => match us, ws, h1, h2 with | [_, _], [], _, _ => rfl), (fun _ h => nomatch h)⟩)
theorem kb__law_take : KbOk d__law_take := kb_of (List.forall_mem_cons.mpr ⟨(fun kV doc pm an cdv ct us ws (h1 : us.length = 2) (h2 : ws.length = 0) => match us, ws, h1, h2 with | [_, _], [], _, _ => rfl), (fun _ h => nomatch h)⟩)
theorem kb__law_of : KbOk d__law_of := kb_of (List.forall_mem_cons.mpr ⟨(fun kV doc pm an cdv ct us ws (h1 : us.length = 2) (h2 : ws.length = 0) => match us, ws, h1, h2 with | [_, _], [], _, _ => rfl), (fun _ h => nomatch h)⟩)
theorem kb__law_places : KbOk d__law_places := kb_of (List.forall_mem_cons.mpr ⟨(fun kV doc pm an cdv ct us ws (h1 : us.length = 2) (h2 : ws.length = 0) => match us, ws, h1, h2 with | [_, _], [], _, _ => rfl), (fun _ h => nomatch h)⟩)
theorem kb__law_heard : KbOk d__law_heard := kb_of (List.forall_mem_cons.mpr ⟨(fun kV doc pm an cdv ct us ws (h1 : us.length = 1) (h2 : ws.length = 0) => match us, ws, h1, h2 with | [_], [], _, _ => rfl), (fun _ h => nomatch h)⟩)
theorem kb__law_odd : KbOk d__law_odd := kb_of (List.forall_mem_cons.mpr ⟨(fun kV doc pm an cdv ct us ws (h1 : us.length = 1) (h2 : ws.length = 0) => match us, ws, h1, h2 with | [_], [], _, _ => rfl), (fun _ h => nomatch h)⟩)
theorem kb__law_bent : KbOk d__law_bent := kb_of (List.forall_mem_cons.mpr ⟨(fun kV doc pm an cdv ct us ws (h1 : us.length = 2) (h2 : ws.length = 0) => match us, ws, h1, h2 with | [_, _], [], _, _ => rfl), (fun _ h => nomatch h)⟩)
theorem kb__law_value : KbOk d__law_value := kb_of (List.forall_mem_cons.mpr ⟨(fun kV doc pm an cdv ct us ws (h1 : us.length = 2) (h2 : ws.length = 0) => match us, ws, h1, h2 with | [_, _], [], _, _ => rfl), (fun _ h => nomatch h)⟩)
theorem kb__law_column : KbOk d__law_column := kb_of (List.forall_mem_cons.mpr ⟨(fun kV doc pm an cdv ct us ws (h1 : us.length = 1) (h2 : ws.length = 0) => match us, ws, h1, h2 with | [_], [], _, _ => rfl), (fun _ h => nomatch h)⟩)
theorem kb__law_shape : KbOk d__law_shape := kb_of (List.forall_mem_cons.mpr ⟨(fun kV doc pm an cdv ct us ws (h1 : us.length = 1) (h2 : ws.length = 0) => match us, ws, h1, h2 with | [_], [], _, _ => rfl), (fun _ h => nomatch h)⟩)
theorem kb__law_step : KbOk d__law_step := kb_of (List.forall_mem_cons.mpr ⟨(fun kV doc pm an cdv ct us ws (h1 : us.length = 1) (h2 : ws.length = 0) => match us, ws, h1, h2 with | [_], [], _, _ => rfl), (fun _ h => nomatch h)⟩)
theorem kb__law_deed : KbOk d__law_deed := kb_of (List.forall_mem_cons.mpr ⟨(fun kV doc pm an cdv ct us ws (h1 : us.length = 3) (h2 : ws.length = 0) => match us, ws, h1, h2 with | [_, _, _], [], _, _ => rfl), (fun _ h => nomatch h)⟩)
theorem kb__law_letters : KbOk d__law_letters := kb_of (List.forall_mem_cons.mpr ⟨(fun kV doc pm an cdv ct us ws (h1 : us.length = 2) (h2 : ws.length = 0) => match us, ws, h1, h2 with | [_, _], [], _, _ => rfl), (fun _ h => nomatch h)⟩)
theorem kb__law_word : KbOk d__law_word := kb_of (List.forall_mem_cons.mpr ⟨(fun kV doc pm an cdv ct us ws (h1 : us.length = 1) (h2 : ws.length = 0) => match us, ws, h1, h2 with | [_], [], _, _ => rfl), (fun _ h => nomatch h)⟩)
theorem kb__law_text : KbOk d__law_text := kb_of (List.forall_mem_cons.mpr ⟨(fun kV doc pm an cdv ct us ws (h1 : us.length = 1) (h2 : ws.length = 0) => match us, ws, h1, h2 with | [_], [], _, _ => rfl), (fun _ h => nomatch h)⟩)
theorem kb__law_spoilt : KbOk d__law_spoilt := kb_of (List.forall_mem_cons.mpr ⟨(fun kV doc pm an cdv ct us ws (h1 : us.length = 2) (h2 : ws.length = 0) => match us, ws, h1, h2 with | [_, _], [], _, _ => rfl), (fun _ h => nomatch h)⟩)
theorem kb__law_right : KbOk d__law_right := kb_of (List.forall_mem_cons.mpr ⟨(fun kV doc pm an cdv ct us ws (h1 : us.length = 1) (h2 : ws.length = 0) => match us, ws, h1, h2 with | [_], [], _, _ => rfl), (fun _ h => nomatch h)⟩)
theorem kb_law : KbOk d_law := kb_of (List.forall_mem_cons.mpr ⟨(fun kV doc pm an cdv ct us ws (h1 : us.length = 1) (h2 : ws.length = 0) => match us, ws, h1, h2 with | [_], [], _, _ => rfl), (fun _ h => nomatch h)⟩)
theorem kb_all : ∀ d ∈ P.defs, KbOk d := (List.forall_mem_cons.mpr ⟨kb_is_integer, (List.forall_mem_cons.mpr ⟨kb_is_between, (List.forall_mem_cons.mpr ⟨kb_is_time, (List.forall_mem_cons.mpr ⟨kb_read_integer, (List.forall_mem_cons.mpr ⟨kb_is_of_signs, (List.forall_mem_cons.mpr ⟨kb_is_name, (List.forall_mem_cons.mpr ⟨kb_is_word, (List.forall_mem_cons.mpr ⟨kb_is_ascending, (List.forall_mem_cons.mpr ⟨kb_are_unlike, (List.forall_mem_cons.mpr ⟨kb_are_pairs, (List.forall_mem_cons.mpr ⟨kb_is_tagged, (List.forall_mem_cons.mpr ⟨kb_is_kind, (List.forall_mem_cons.mpr ⟨kb_kind_of, (List.forall_mem_cons.mpr ⟨kb_is_value, (List.forall_mem_cons.mpr ⟨kb_is_column, (List.forall_mem_cons.mpr ⟨kb_is_shape, (List.forall_mem_cons.mpr ⟨kb_names_in, (List.forall_mem_cons.mpr ⟨kb_is_step, (List.forall_mem_cons.mpr ⟨kb_is_number, (List.forall_mem_cons.mpr ⟨kb_are_told, (List.forall_mem_cons.mpr ⟨kb_is_deed, (List.forall_mem_cons.mpr ⟨kb_is_letter, (List.forall_mem_cons.mpr ⟨kb_check_letter, (List.forall_mem_cons.mpr ⟨kb_value_text, (List.forall_mem_cons.mpr ⟨kb_value_in, (List.forall_mem_cons.mpr ⟨kb_column_words, (List.forall_mem_cons.mpr ⟨kb_step_words, (List.forall_mem_cons.mpr ⟨kb_deed_words, (List.forall_mem_cons.mpr ⟨kb_letter_words, (List.forall_mem_cons.mpr ⟨kb_columns_in, (List.forall_mem_cons.mpr ⟨kb_step_in, (List.forall_mem_cons.mpr ⟨kb_deed_in, (List.forall_mem_cons.mpr ⟨kb_letter_in, (List.forall_mem_cons.mpr ⟨kb_letter_text, (List.forall_mem_cons.mpr ⟨kb_read_letter, (List.forall_mem_cons.mpr ⟨kb__law_pot, (List.forall_mem_cons.mpr ⟨kb__law_take, (List.forall_mem_cons.mpr ⟨kb__law_of, (List.forall_mem_cons.mpr ⟨kb__law_places, (List.forall_mem_cons.mpr ⟨kb__law_heard, (List.forall_mem_cons.mpr ⟨kb__law_odd, (List.forall_mem_cons.mpr ⟨kb__law_bent, (List.forall_mem_cons.mpr ⟨kb__law_value, (List.forall_mem_cons.mpr ⟨kb__law_column, (List.forall_mem_cons.mpr ⟨kb__law_shape, (List.forall_mem_cons.mpr ⟨kb__law_step, (List.forall_mem_cons.mpr ⟨kb__law_deed, (List.forall_mem_cons.mpr ⟨kb__law_letters, (List.forall_mem_cons.mpr ⟨kb__law_word, (List.forall_mem_cons.mpr ⟨kb__law_text, (List.forall_mem_cons.mpr ⟨kb__law_spoilt, (List.forall_mem_cons.mpr ⟨kb__law_right, (List.forall_mem_cons.mpr ⟨kb_law, (fun _ h => nomatch h)⟩)⟩)⟩)⟩)⟩)⟩)⟩)⟩)⟩)⟩)⟩)⟩)⟩)⟩)⟩)⟩)⟩)⟩)⟩)⟩)⟩)⟩)⟩)⟩)⟩)⟩)⟩)⟩)⟩)⟩)⟩)⟩)⟩)⟩)⟩)⟩)⟩)⟩)⟩)⟩)⟩)⟩)⟩)⟩)⟩)⟩)⟩)⟩)⟩)⟩)⟩)⟩)⟩)
theorem s1 : tbS P = true := by kernel_rfl
theorem s2 : P.defs.all scB = true := by kernel_rfl
def loose0 : List Str := ["RiverError",
  "BadLetter",
  "BadText",
  "NoText",
  "FIGURES",
  "SMALL",
  "MOST_NAME",
  "MOST_WORD",
  "MOST_FIGURES",
  "MOST_TIME",
  "RESERVED",
  "is_integer",
  "is_between",
  "is_time",
  "read_integer",
  "is_of_signs",
  "is_name",
  "is_word",
  "is_ascending",
  "are_unlike",
  "are_pairs",
  "is_tagged",
  "INT",
  "WORD",
  "KINDS",
  "MOST_VALUE",
  "is_kind",
  "kind_of",
  "is_value",
  "MOST_COLUMNS"]
def loose1 : List Str := ["is_column",
  "is_shape",
  "names_in",
  "NEW",
  "ADD",
  "DROP",
  "NAME",
  "FIRST",
  "is_step",
  "PUT",
  "TAKE",
  "GROW",
  "CLOCK",
  "MOST_NUMBER",
  "MOST_PAIRS",
  "MOST_TEXT",
  "MARK",
  "BLANK",
  "is_number",
  "are_told",
  "is_deed",
  "is_letter",
  "check_letter",
  "value_text",
  "value_in",
  "column_words",
  "step_words",
  "deed_words",
  "letter_words",
  "columns_in"]
def loose2 : List Str := ["step_in",
  "deed_in",
  "letter_in",
  "letter_text",
  "read_letter",
  "_law_pot",
  "_law_take",
  "_law_of",
  "_law_places",
  "_law_heard",
  "_law_odd",
  "_law_bent",
  "_law_value",
  "_law_column",
  "_law_shape",
  "_law_step",
  "_law_deed",
  "_law_letters",
  "_law_word",
  "_law_text",
  "_law_spoilt",
  "_law_right"]
def loose : List Str := loose0 ++ loose1 ++ loose2
def fnD : List He.DefD := P.defs.map DI.dd
def tf : List He.Defn := tfT P
abbrev Pq : Program := (PySem.Challenge.rw_asatthatmoment_k15_whole_texts_of_letter).prog
def mo (K : PySem.W.Frag) : Bool := tbB P.tb K && (ctB Pq P.cls K && decide ((tbT P K).map (·.1)).Nodup)
abbrev R : PySem.W.OpenRow := PySem.W.OpenLaw.row PySem.Challenge.rw_asatthatmoment_k15_whole_texts_of_letter
abbrev hk : PySem.W.Hook := hookZ 6 fnD tf mo
def ob (s : PySem.W.SharedT) : He.AlT × Bool := obsZ 6 fnD tf mo (HandSHeadRun.getT s)
theorem ob_eq (s : PySem.W.SharedT) : ob s = hk.obs s.abs := obsZ_eq (HandSHeadRun.getT_eq s)
theorem run (w : World) : HandSHeadRun.RunEq R (PySem.W.view R.prog [89]) hk ob 4000 loose w := by
  intro os
  kernel_rfl
theorem facts (hlaw : ∀ (ns : List Int), ns.length ≤ 63 → ∃ h', runP P 13 52 [.scr (ns.map D.int)] [] = .ok (.bl true) h') {w : World} {K : PySem.W.Frag} {h : Heap} {mg : Str → Option Value} {f : Addr} (X : K.In h) (G : h.Ns mainGlobals mg) (hfa : mg ("law" : Str) = some (.ref f)) (c : SaysZ fnD tf mo w h K) :
    LawZ PySem.Challenge.rw_asatthatmoment_k15_whole_texts_of_letter w K (lev 13) 63 "script" mg f h := by
  obtain ⟨mo1, mo2⟩ := Bool.and_eq_true_iff.mp c.more
  obtain ⟨mo2, mo3⟩ := Bool.and_eq_true_iff.mp mo2
  exact law_z (l := PySem.Challenge.rw_asatthatmoment_k15_whole_texts_of_letter) (ex := mo) (d := d_law) X G hfa c mo1 mo2 (of_decide_eq_true mo3) s1 s2 kb_all rfl rfl (by kernel_rfl) (by decide) hlaw

end Zk
end

open PySem PySem.W PySem.Calls PyProof.Rows
theorem PySem.Challenge.cw_asatthatmoment_k15_whole_texts_of_letter_holds : PySem.Challenge.rw_asatthatmoment_k15_whole_texts_of_letter.Holds := by
  w_on; o_law
  refine HandSHeadRun.head_any (r := OpenLaw.row PySem.Challenge.rw_asatthatmoment_k15_whole_texts_of_letter) (q := view (OpenLaw.row PySem.Challenge.rw_asatthatmoment_k15_whole_texts_of_letter).prog [89]) (H := Zk.hk) (ob := Zk.ob) (M := 4000) (loose := Zk.loose) (d := HandSHeadRun.topDef (OpenLaw.row PySem.Challenge.rw_asatthatmoment_k15_whole_texts_of_letter).prog 89) (kwd := []) Zk.ob_eq
    (by kernel_rfl) (fun s => by kernel_rfl) Zk.run (by kernel_rfl) (by kernel_rfl) (by kernel_rfl) (by rfl) (by first | assumption | decide +kernel) (by decide +kernel) ⟨rfl, rfl, rfl, rfl, rfl, by decide +kernel⟩ ?hw ?hc
  case hw => w_witness2
  case hc =>
    refine Zs.walk_ofG (l := PySem.Challenge.rw_asatthatmoment_k15_whole_texts_of_letter) (n := 63) (k := Zs.lev 13) (x := "script") rfl (by decide) (by kernel_rfl) ⟨rfl, by decide, by decide⟩ ?F
    case F =>
      intro w mg fa h Y G hmg0
      obtain ⟨K, KX, c⟩ := Y
      have hmg : mg ("law" : PySem.Str) = some (.ref fa) := by
        have e : (HandSHeadRun.topDef (OpenLaw.row PySem.Challenge.rw_asatthatmoment_k15_whole_texts_of_letter).prog 89).name = ("law" : PySem.Str) := by kernel_rfl
        rw [← e]
        exact hmg0
      exact ⟨K, KX, Zk.facts Zk.law_true (w := w) KX G hmg c⟩

